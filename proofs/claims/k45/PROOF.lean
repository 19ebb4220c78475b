import PyProof.Rows.All
import Wide.All
import OpenK.AllK
import Wide.FinOn
import HandS.ForMost
import HandS.Exc
import HandS.TryOnly
import HandS.ExcOwn
import HandS.WordsExc
import HandS.HotCalls
import HandS.Defaults
import HandS.ExcInit
import HandS.ExcField
import HandS.ClsMeth
import HandS.Nested
import PySem.Str
import HandS.Flow
import HandS.Steps
import HandS.TupAny
import HandS.Conv
import HandS.Iter
import PySem.Challenge.RW_taglook_k45_doubted_and_read_again
import HandS.Rev
import HandS.IsInst
import HandS.DictTup
import HandS.Comp
import HandS.Text
import HandS.Head0
import HandS.Head1
import HandS.Head2
import HandS.HeadEnd
import HandS.HeadHook1
import HandS.HeadHook2
import HandS.HeadHook3
import HandS.HeadHook4
import HandS.HeadWalk
import KE.KStateDown
import Lean
set_option Elab.async false
set_option linter.all false
set_option maxRecDepth 100000
set_option maxHeartbeats 0
namespace TM
open PySem PySem.Spec PyProof.Rows L2
def top (i : Nat) : Stmt := PySem.Challenge.pw_taglook_k45_doubted_and_read_again.main.body.getD i (.Pass ⟨0, 0, 0, 0⟩)
abbrev lets : Str := Str.ofString "abcdefghijklmnopqrstuvwxyz"
abbrev sIsFree : Stmt := top 22
abbrev sNextFree : Stmt := top 23
abbrev sWithout : Stmt := top 24
abbrev sClaim : Stmt := top 25
abbrev sRingA : Stmt := top 26
abbrev sRingI : Stmt := inClass (top 8) 0
abbrev sTangI : Stmt := inClass (top 9) 0
abbrev sMerged : Stmt := top 27
abbrev sRingB : Stmt := top 19
abbrev sLoopOf : Stmt := top 20
abbrev sRowsAb : Stmt := top 29
abbrev sTake : Stmt := top 30
abbrev sLinesOf : Stmt := top 31
abbrev sInTurn : Stmt := top 39
abbrev sIsName : Stmt := top 35
abbrev sIsNum : Stmt := top 15
abbrev sHInit : Stmt := inClass (top 40) 0
abbrev sHNK : Stmt := inClass (top 40) 1
abbrev sHNE : Stmt := inClass (top 40) 2
abbrev sHAdd : Stmt := inClass (top 40) 3
abbrev sHMay : Stmt := inClass (top 40) 5
abbrev sHTurn : Stmt := inClass (top 40) 6
abbrev sHKinds : Stmt := inClass (top 40) 7
abbrev sHLine : Stmt := inClass (top 40) 9
abbrev sTeller : Stmt := top 51
abbrev sAsked : Stmt := (defBody sTeller).getD 0 (.Pass ⟨0, 0, 0, 0⟩)
abbrev sFInit : Stmt := inClass (top 17) 0
abbrev sFStr : Stmt := inClass (top 17) 1
abbrev sFKnown : Stmt := inClass (top 17) 2
abbrev sFTell : Stmt := inClass (top 17) 3
abbrev sFForget : Stmt := inClass (top 17) 4
abbrev sFReads : Stmt := inClass (top 17) 6
abbrev sTInit : Stmt := inClass (top 45) 0
abbrev sTKinds : Stmt := inClass (top 45) 1
abbrev sTLine : Stmt := inClass (top 45) 3
abbrev sTAdd : Stmt := inClass (top 45) 7
abbrev sTNeed : Stmt := inClass (top 45) 9
abbrev sTMay : Stmt := inClass (top 45) 10
abbrev sTTell : Stmt := inClass (top 45) 11
abbrev sTShift : Stmt := inClass (top 45) 12
abbrev sTKnown : Stmt := inClass (top 45) 13
abbrev sTLook : Stmt := inClass (top 45) 14
abbrev sTReads : Stmt := inClass (top 45) 15
abbrev sIsTold : Stmt := top 43
abbrev sIsShk : Stmt := top 44
abbrev sLookS : Stmt := (defBody sTLook).getD 3 (.Pass ⟨0, 0, 0, 0⟩)
abbrev sPaper : Stmt := top 13
abbrev sCell : Stmt := top 47
abbrev sMix : Stmt := top 48
abbrev sNames : Stmt := top 49
abbrev sWords : Stmt := top 60
abbrev sStore : Stmt := top 50
abbrev sLPaper : Stmt := top 52
abbrev sLRests : Stmt := top 53
abbrev sLWhole : Stmt := top 54
abbrev sLIsP : Stmt := top 55
abbrev sBegun : Stmt := top 56
abbrev sTurned : Stmt := top 58
abbrev sLooked : Stmt := top 57
abbrev sRound : Stmt := top 59
abbrev sSixty : Stmt := top 62
abbrev sLaw : Stmt := top 63
def oexB (K : PySem.W.Frag) (C : Addr) : Bool := (match K.lookup C with
  | some ⟨.type "type", _, .cls cd, sl⟩ => (match cd.mro, sl.toList with
    | .ref C' :: bm, [_, _, _, _, some (.builtin n), _] => decide (C' = C) && (decide (n = "ValueError.__new__") && (!cd.hasDel && (cd.hasDict && PySem.HandSPX.refsVE bm)))
    | _, _ => false)
  | _ => false) && (decide (PySem.W.findIn K (.ref C) "__setattr__" = some (some (.builtin "object.__setattr__"))) && (decide (PySem.W.subIn K (.ref C) (.type "BaseException") = some true) && (decide (PySem.W.typeIn K (.ref C) = some (.type "type")) && PySem.W.keepIn K (.ref C))))
def midB (K : PySem.W.Frag) (B : Addr) : Bool := PySem.W.readsIn K B (.type "type") && (decide (PySem.W.specialIn K (.ref B) "__getattribute__" = some (some (.builtin "type.__getattribute__"))) && (match PySem.W.findCls K (.ref B) (.type "type") "__init__" with
  | some (.val (.builtin n)) => decide (n = "ValueError.__init__")
  | _ => false))
def fa : List He.Fa := [.glo "is_free", .glo "next_free", .glo "rows_without", .glo "claim_on", .glo "ring_among", .glo "merged", .glo "ring_below", .glo "loop_of", .glo "rows_above", .glo "take_line", .glo "lines_of", .glo "in_turn", .glo "is_name", .glo "is_number", .glo "is_told", .glo "is_shaken", .glo "paper_of", .glo "_law_cell", .glo "_law_mix", .glo "_law_names", .glo "_law_words", .glo "_law_store", .glo "_law_teller", .glo "_law_paper", .glo "_law_rests", .glo "_law_whole", .glo "_law_is_paper", .glo "_law_begun", .glo "_law_looked", .glo "_law_turned", .glo "_law_round", .glo "_law_sixty", .glo "law", .meth "House" "__init__", .meth "House" "need_kind", .meth "House" "need_elders", .meth "House" "may_turn", .meth "House" "turn_all", .meth "House" "kinds", .meth "House" "line", .meth "Facts" "__init__", .meth "Facts" "strength", .meth "Facts" "known", .meth "Facts" "tell", .meth "Facts" "forget", .meth "Facts" "reads", .meth "Town" "__init__", .meth "Town" "kinds", .meth "Town" "line", .meth "Town" "need_facts", .meth "Town" "may_shift", .meth "Town" "tell_facts", .meth "Town" "shift", .meth "Town" "known", .meth "Town" "reads", .meth "House" "add", .meth "Town" "add", .meth "Town" "look", .meth "Ring" "__init__", .glo "Ring", .exm "Ring" "Ring" true, .meth "Tangled" "__init__", .glo "Tangled", .exm "Tangled" "Tangled" true, .glo "LookError", .glo "_law_none", .free "len", .free "range", .free "list", .free "isinstance", .free "str", .free "int", .free "bool", .free "enumerate", .free "reversed", .free "any", .free "all", .free "dict", .free "tuple", .int "LONGEST" 8, .int "MOST_ELDERS" 5, .int "MOST_KINDS" 12, .int "FIRM" 2, .str "LETTERS" lets, .glo "House", .cls "House", .mkr "House", .noat "House" "listed", .noat "House" "above", .noat "House" "laid", .glo "Facts", .cls "Facts", .mkr "Facts", .noat "Facts" "teller", .noat "Facts" "held", .noat "Facts" "asked", .glo "Town", .cls "Town", .mkr "Town", .noat "Town" "house", .noat "Town" "facts", .noat "Town" "marks", .noat "Town" "number", .noat "Ring" "steps", .noat "Ring" "name", .noat "Tangled" "steps", .noat "Tangled" "name"]
def fn : List He.DefD := [⟨("is_free", none), "is_free", "is_free", defArgs sIsFree, defBody sIsFree, defScope sIsFree, [], []⟩,
  ⟨("next_free", none), "next_free", "next_free", defArgs sNextFree, defBody sNextFree, defScope sNextFree, [], []⟩,
  ⟨("rows_without", none), "rows_without", "rows_without", defArgs sWithout, defBody sWithout, defScope sWithout, [], []⟩,
  ⟨("claim_on", none), "claim_on", "claim_on", defArgs sClaim, defBody sClaim, defScope sClaim, [], []⟩,
  ⟨("ring_among", none), "ring_among", "ring_among", defArgs sRingA, defBody sRingA, defScope sRingA, [], []⟩,
  ⟨("merged", none), "merged", "merged", defArgs sMerged, defBody sMerged, defScope sMerged, [], []⟩,
  ⟨("ring_below", none), "ring_below", "ring_below", defArgs sRingB, defBody sRingB, defScope sRingB, [], []⟩,
  ⟨("loop_of", none), "loop_of", "loop_of", defArgs sLoopOf, defBody sLoopOf, defScope sLoopOf, [], []⟩,
  ⟨("rows_above", none), "rows_above", "rows_above", defArgs sRowsAb, defBody sRowsAb, defScope sRowsAb, [], []⟩,
  ⟨("take_line", none), "take_line", "take_line", defArgs sTake, defBody sTake, defScope sTake, [], []⟩,
  ⟨("lines_of", none), "lines_of", "lines_of", defArgs sLinesOf, defBody sLinesOf, defScope sLinesOf, [], []⟩,
  ⟨("in_turn", none), "in_turn", "in_turn", defArgs sInTurn, defBody sInTurn, defScope sInTurn, [], []⟩,
  ⟨("is_name", none), "is_name", "is_name", defArgs sIsName, defBody sIsName, defScope sIsName, [], []⟩,
  ⟨("is_number", none), "is_number", "is_number", defArgs sIsNum, defBody sIsNum, defScope sIsNum, [], []⟩,
  ⟨("is_told", none), "is_told", "is_told", defArgs sIsTold, defBody sIsTold, defScope sIsTold, [], []⟩,
  ⟨("is_shaken", none), "is_shaken", "is_shaken", defArgs sIsShk, defBody sIsShk, defScope sIsShk, [], []⟩,
  ⟨("paper_of", none), "paper_of", "paper_of", defArgs sPaper, defBody sPaper, defScope sPaper, [], []⟩,
  ⟨("_law_cell", none), "_law_cell", "_law_cell", defArgs sCell, defBody sCell, defScope sCell, [], []⟩,
  ⟨("_law_mix", none), "_law_mix", "_law_mix", defArgs sMix, defBody sMix, defScope sMix, [], []⟩,
  ⟨("_law_names", none), "_law_names", "_law_names", defArgs sNames, defBody sNames, defScope sNames, [], []⟩,
  ⟨("_law_words", none), "_law_words", "_law_words", defArgs sWords, defBody sWords, defScope sWords, [], []⟩,
  ⟨("_law_store", none), "_law_store", "_law_store", defArgs sStore, defBody sStore, defScope sStore, [], []⟩,
  ⟨("_law_teller", none), "_law_teller", "_law_teller", defArgs sTeller, defBody sTeller, defScope sTeller, [], []⟩,
  ⟨("_law_paper", none), "_law_paper", "_law_paper", defArgs sLPaper, defBody sLPaper, defScope sLPaper, [], []⟩,
  ⟨("_law_rests", none), "_law_rests", "_law_rests", defArgs sLRests, defBody sLRests, defScope sLRests, [], []⟩,
  ⟨("_law_whole", none), "_law_whole", "_law_whole", defArgs sLWhole, defBody sLWhole, defScope sLWhole, [], []⟩,
  ⟨("_law_is_paper", none), "_law_is_paper", "_law_is_paper", defArgs sLIsP, defBody sLIsP, defScope sLIsP, [], []⟩,
  ⟨("_law_begun", none), "_law_begun", "_law_begun", defArgs sBegun, defBody sBegun, defScope sBegun, [], []⟩,
  ⟨("_law_looked", none), "_law_looked", "_law_looked", defArgs sLooked, defBody sLooked, defScope sLooked, [], []⟩,
  ⟨("_law_turned", none), "_law_turned", "_law_turned", defArgs sTurned, defBody sTurned, defScope sTurned, [], []⟩,
  ⟨("_law_round", none), "_law_round", "_law_round", defArgs sRound, defBody sRound, defScope sRound, [], []⟩,
  ⟨("_law_sixty", none), "_law_sixty", "_law_sixty", defArgs sSixty, defBody sSixty, defScope sSixty, [], []⟩,
  ⟨("law", none), "law", "law", defArgs sLaw, defBody sLaw, defScope sLaw, [], []⟩,
  ⟨("House", some "__init__"), "__init__", "House.__init__", defArgs sHInit, defBody sHInit, defScope sHInit, [], []⟩,
  ⟨("House", some "need_kind"), "need_kind", "House.need_kind", defArgs sHNK, defBody sHNK, defScope sHNK, [], []⟩,
  ⟨("House", some "need_elders"), "need_elders", "House.need_elders", defArgs sHNE, defBody sHNE, defScope sHNE, [], []⟩,
  ⟨("House", some "may_turn"), "may_turn", "House.may_turn", defArgs sHMay, defBody sHMay, defScope sHMay, [], []⟩,
  ⟨("House", some "turn_all"), "turn_all", "House.turn_all", defArgs sHTurn, defBody sHTurn, defScope sHTurn, [], []⟩,
  ⟨("House", some "kinds"), "kinds", "House.kinds", defArgs sHKinds, defBody sHKinds, defScope sHKinds, [], []⟩,
  ⟨("House", some "line"), "line", "House.line", defArgs sHLine, defBody sHLine, defScope sHLine, [], []⟩,
  ⟨("Facts", some "__init__"), "__init__", "Facts.__init__", defArgs sFInit, defBody sFInit, defScope sFInit, [], []⟩,
  ⟨("Facts", some "strength"), "strength", "Facts.strength", defArgs sFStr, defBody sFStr, defScope sFStr, [], []⟩,
  ⟨("Facts", some "known"), "known", "Facts.known", defArgs sFKnown, defBody sFKnown, defScope sFKnown, [], []⟩,
  ⟨("Facts", some "tell"), "tell", "Facts.tell", defArgs sFTell, defBody sFTell, defScope sFTell, [], []⟩,
  ⟨("Facts", some "forget"), "forget", "Facts.forget", defArgs sFForget, defBody sFForget, defScope sFForget, [], []⟩,
  ⟨("Facts", some "reads"), "reads", "Facts.reads", defArgs sFReads, defBody sFReads, defScope sFReads, [], []⟩,
  ⟨("Town", some "__init__"), "__init__", "Town.__init__", defArgs sTInit, defBody sTInit, defScope sTInit, [], []⟩,
  ⟨("Town", some "kinds"), "kinds", "Town.kinds", defArgs sTKinds, defBody sTKinds, defScope sTKinds, [], []⟩,
  ⟨("Town", some "line"), "line", "Town.line", defArgs sTLine, defBody sTLine, defScope sTLine, [], []⟩,
  ⟨("Town", some "need_facts"), "need_facts", "Town.need_facts", defArgs sTNeed, defBody sTNeed, defScope sTNeed, [], []⟩,
  ⟨("Town", some "may_shift"), "may_shift", "Town.may_shift", defArgs sTMay, defBody sTMay, defScope sTMay, [], []⟩,
  ⟨("Town", some "tell_facts"), "tell_facts", "Town.tell_facts", defArgs sTTell, defBody sTTell, defScope sTTell, [], []⟩,
  ⟨("Town", some "shift"), "shift", "Town.shift", defArgs sTShift, defBody sTShift, defScope sTShift, [], []⟩,
  ⟨("Town", some "known"), "known", "Town.known", defArgs sTKnown, defBody sTKnown, defScope sTKnown, [], []⟩,
  ⟨("Town", some "reads"), "reads", "Town.reads", defArgs sTReads, defBody sTReads, defScope sTReads, [], []⟩,
  ⟨("House", some "add"), "add", "House.add", defArgs sHAdd, defBody sHAdd, defScope sHAdd, [.non], []⟩,
  ⟨("Town", some "add"), "add", "Town.add", defArgs sTAdd, defBody sTAdd, defScope sTAdd, [.non], []⟩,
  ⟨("Town", some "look"), "look", "Town.look", defArgs sTLook, defBody sTLook, defScope sTLook, [.non], []⟩,
  ⟨("Ring", some "__init__"), "__init__", "Ring.__init__", defArgs sRingI, defBody sRingI, defScope sRingI, [], []⟩,
  ⟨("Tangled", some "__init__"), "__init__", "Tangled.__init__", defArgs sTangI, defBody sTangI, defScope sTangI, [], []⟩]
def tf : List He.Defn := [("Town", some "look"), ("_law_teller", none)]
def ex (K : PySem.W.Frag) : Bool := oexB K (He.ga K "Ring") && (oexB K (He.ga K "Tangled") && (xfB K (He.ga K "Ring") && (xfB K (He.ga K "Tangled") && (decide (PySem.W.typeIn K (.ref (He.ma K (He.ga K "Ring") "__init__")) = some (.type "function")) && (decide (PySem.W.typeIn K (.ref (He.ma K (He.ga K "Tangled") "__init__")) = some (.type "function")) && (midB K (He.ga K "LookError") && decide ((He.cT K ("Town", some "look")).2 ≠ (He.cT K ("_law_teller", none)).2)))))))
abbrev R0 : PySem.W.OpenRow := PySem.W.OpenLaw.row PySem.Challenge.rw_taglook_k45_doubted_and_read_again
def loose1 : List PySem.Str := ["_wall", "LookError", "NoName", "Twice", "NoKind", "TooMany", "Loop", "Ring", "Tangled", "NoStrength", "NotThere", "paper_of", "rest_behind", "is_number", "Facts", "ring_below", "loop_of", "is_free", "next_free", "rows_without", "claim_on", "ring_among", "merged", "rows_above", "take_line", "lines_of"]
def loose2 : List PySem.Str := ["LETTERS", "LONGEST", "is_name", "MOST_KINDS", "MOST_ELDERS", "in_turn", "House", "FIRM", "is_told", "is_shaken", "Town", "_law_cell", "_law_mix", "_law_names", "_law_store", "_law_teller", "_law_paper", "_law_rests", "_law_whole", "_law_is_paper", "_law_begun", "_law_looked", "_law_turned", "_law_round", "_law_words", "_law_none", "_law_sixty"]
def loose : List PySem.Str := loose1 ++ loose2
def asY (g : Addr → Option Obj) : List Addr := PySem.cStatics :: He.asD g 4
def obY (g : Addr → Option Obj) : He.AlX := (He.obsT fa fn [] (He.frT g (asY g)), ex (He.frT g (asY g)) && He.tabsB g tf (He.frT g (asY g)))
theorem says_of {w : World} {h : Heap} (e : obY h.get? = He.valX fn [] w) : He.SaysX fa fn [] tf ex w h (He.frT h.get? (asY h.get?)) := by
  have ea : He.obsT fa fn [] (He.frT h.get? (asY h.get?)) = He.valT fn [] w := congrArg Prod.fst e
  have eb : (ex (He.frT h.get? (asY h.get?)) && He.tabsB h.get? tf (He.frT h.get? (asY h.get?))) = true := congrArg Prod.snd e
  obtain ⟨hm, ht⟩ := He.ba eb
  have key : ∀ p ∈ tf, PySem.W.codeHdIn (He.frT h.get? (asY h.get?)) (He.cT (He.frT h.get? (asY h.get?)) p).1 (He.cT (He.frT h.get? (asY h.get?)) p).2 = true ∧ ∃ o, h.get? (He.cT (He.frT h.get? (asY h.get?)) p).2 = some o ∧ He.emptyTab o = true := by
    intro p hp
    obtain ⟨ha, hb⟩ := He.ba (List.all_eq_true.mp ht p hp)
    refine ⟨ha, ?_⟩
    revert hb
    cases h.get? (He.cT (He.frT h.get? (asY h.get?)) p).2 with
    | none => intro hb; cases hb
    | some o => intro hb; exact ⟨o, rfl, hb⟩
  refine ⟨ea, hm, fun p hp => (key p hp).1, fun p hp => ?_, fun p hp => ?_⟩
  · obtain ⟨_, o, q, z⟩ := key p hp
    exact He.frT_none q z
  · obtain ⟨_, o, q, z⟩ := key p hp
    rw [q, He.emptyTab_eq z]
def hk : PySem.W.Hook where
  α := He.AlX
  obs := fun s => obY s.heap.get?
  val := fun w => He.valX fn [] w
  says := fun w h => ∃ K : PySem.W.Frag, K.In h ∧ He.SaysX fa fn [] tf ex w h K
  of := fun _ _ e => ⟨_, He.frT_in, says_of e⟩
  keeps := (He.hookX 4 fa fn [] tf ex).keeps
def ob (s : PySem.W.SharedT) : He.AlX := obY (HandSHeadRun.getT s)
theorem ob_eq (s : PySem.W.SharedT) : ob s = hk.obs s.abs := by
  have e : HandSHeadRun.getT s = s.abs.heap.get? := funext (HandSHeadRun.getT_eq s)
  show obY _ = obY _
  rw [e]
theorem run (w : World) : HandSHeadRun.RunEq R0 (PySem.W.view R0.prog [63]) hk ob 20000 loose w := by
  intro os
  kernel_rfl
end TM
set_option maxRecDepth 100000
set_option maxHeartbeats 4000000
/-! Both moods: nothing is handled, or one exception is (pinned, its context None). -/
namespace TM
open PySem PySem.Spec PyProof.Rows L2
def Md (X : Cx) : Prop := X.calm = true ∨ L2H.HotC X
def MdA (A : Around) (h : Heap) : Prop := A.handled = none ∨ ∃ x, HotX.HotAt A x h
theorem Md.at {X : Cx} {pins : List (Addr × Obj)} {σ : L2.St} {H : Hp} {s : Shared} (m : Md X) (I : Inv X pins σ H s) : MdA X.A s.heap :=
  m.elim (fun c => .inl (I.ok.hd c)) fun c => .inr (c.at I)
theorem MdA.keep {A : Around} {h h' : Heap} (m : MdA A h) (k : ∀ b o, h.get? b = some o → (∃ vs, o.data = .fields vs ∧ vs[2]? = some .none) → h'.get? b = some o) : MdA A h' :=
  m.elim .inl fun ⟨x, hh, o, vs, e, d, c⟩ => .inr ⟨x, hh, o, vs, k x o e ⟨vs, d, c⟩, d, c⟩
section
variable {prog : Program} {w : World} {A : Around} {s : Shared}
/-- a StopIteration is made and raised -/
theorem stop_md {α : Type} {Q : α → Shared → Prop} {E : Value → Shared → Prop} (m : MdA A s.heap)
    (h : ∀ a h', (∀ b o, s.heap.get? b = some o → h'.get? b = some o) → ({ s with heap := h' } : Shared).TypeIs (.ref a) "StopIteration" → E (.ref a) { s with heap := h' }) :
    wpAny (model prog w) A (newExc (.type "StopIteration") [] >>= fun e => (raiseNew e : Sem α)) Q E s := by
  refine wpAny_bind ?_
  simp only [newExc, newTuple]
  refine wpAny_bind (wpAny_newObj_type ?_ (by size_fits))
  refine wpAny_bind (m := firstArgMember _ _) (wpAny_of_eq (a := Value.none) (by first | rfl | (simp only [firstArgMember]; rfl)) ?_)
  refine wpAny_newObj_type ?_ (by size_fits)
  rcases m with hh | ⟨x1, hh, o1, vs1, h1, d1, c1⟩
  · simp only [raiseNew]
    refine wpAny_bind (wpAny_handled ?_)
    rw [hh]
    refine wpAny_bind (wpAny_pure (wpAny_throw ?_))
    exact h _ _ (fun b o e => Heap.get?_push_of_some _ (Heap.get?_push_of_some _ e)) ⟨_, Heap.get?_push_size _ rfl, rfl⟩
  · refine HotX.raiseNew_hot (x1 := x1) ⟨hh, o1, vs1, Heap.get?_push_of_some _ (Heap.get?_push_of_some _ h1), d1, c1⟩ (Nat.ne_of_lt (Heap.lt_size (Heap.get?_push_of_some _ h1))) (Heap.get?_push_size _ rfl) rfl (by first | (simp; done) | (simp; omega)) ?_
    refine h _ _ (fun b o e => ?_) ⟨_, Heap.get?_update_self _ (Heap.get?_push_size _ rfl) rfl, rfl⟩
    rw [Heap.get?_update_other _ _ (Nat.ne_of_gt (Heap.lt_size (Heap.get?_push_of_some _ e)))]
    exact Heap.get?_push_of_some _ (Heap.get?_push_of_some _ e)

section
variable {Q : Option Value → Shared → Prop} {E : Value → Shared → Prop} {it l : Addr} {i : Nat}
/-- the walk of a list ends -/
theorem end_list_md {items : Array Value} (m : MdA A s.heap) (hit : s.heap.IsListIter it l i) (hl : s.heap.IsList l items) (hx : items[i]? = none)
    (hQ : ∀ h', Heap.ExtBut it s.heap h' → Q none { s with heap := h' }) : wpAny (model prog w) A (pyNext (.ref it)) Q E s := by
  obtain ⟨o, ho, hc, hd⟩ := id hit
  obtain ⟨ol, hol, _, nl, hdl⟩ := hl
  unfold pyNext
  refine wpAny_bind (wpAny_attempt (wpAny_callSpecial?_slot (name := Str.ofString "__next__") hit.typeIs slot_listiter_next (wpAny_call_entry slot_listiter_next hit.typeIs entry_listiter_next ?_ (args_listiter_next _))))
  show wpAny _ _ (field (.ref it) 0 >>= _) _ _ s
  refine wpAny_bind (wpAny_field ho hd (x := .ref l) rfl ?_)
  show wpAny _ _ (if (Value.ref l == Value.none) = true then _ else _) _ _ s
  rw [if_neg (show ¬ ((Value.ref l == Value.none) = true) from Bool.false_ne_true)]
  show wpAny _ _ (field (.ref it) 1 >>= _) _ _ s
  refine wpAny_bind (wpAny_field ho hd (x := .int i 0) rfl ?_)
  show wpAny _ _ (seqItems? (.ref l) >>= _) _ _ s
  refine wpAny_bind (wpAny_seqItems hol hdl ?_)
  simp only [Int.toNat_natCast, hx]
  refine wpAny_bind (wpAny_rule (wpAny_bind (wpAny_setField ho hd (by simp) ?_)))
  have m2 : MdA A.in1 (s.heap.update it (Obj.mapFields (·.setIfInBounds 0 .none))) := MdA.keep (show MdA A.in1 s.heap from m) fun b ob e ⟨vs, z1, z2⟩ => by
    have hb : it ≠ b := fun q => by
      rw [← q, ho] at e
      cases e
      rw [hd] at z1
      cases z1
      simp at z2
    rw [Heap.get?_update_other _ _ hb]
    exact e
  refine stop_md (s := { s with heap := s.heap.update it (Obj.mapFields (·.setIfInBounds 0 .none)) }) m2 fun a h' k tt => ?_
  refine wpAny_bind (wpAny_isInstance (T := "StopIteration") (b := true) tt isSubtype_stop ?_)
  exact wpAny_pure (hQ _ fun b ob hb e => k b ob (by rw [Heap.get?_update_other _ _ (Ne.symm hb)]; exact e))
/-- .. of a text of plain signs -/
theorem end_str_md {x : Str} {t : Tok} (m : MdA A s.heap) (hit : s.heap.IsStrIter it "str_ascii_iterator" x t i) (hx : x.cps[i]? = none)
    (hQ : ∀ h', Heap.ExtBut it s.heap h' → Q none { s with heap := h' }) : wpAny (model prog w) A (pyNext (.ref it)) Q E s := by
  obtain ⟨o, ho, hc, hd⟩ := id hit
  unfold pyNext
  refine wpAny_bind (wpAny_attempt (wpAny_callSpecial?_slot (name := Str.ofString "__next__") hit.typeIs F.slot_str_ascii_iterator_next (wpAny_call_entry F.slot_str_ascii_iterator_next hit.typeIs F.entry_str_ascii_iterator_next ?_ (F.args_str_ascii_iterator_next_1 _))))
  show wpAny _ _ (field (.ref it) 0 >>= _) _ _ s
  refine wpAny_bind (wpAny_field ho hd (x := .str x t) rfl ?_)
  show wpAny _ _ (field (.ref it) 1 >>= _) _ _ s
  refine wpAny_bind (wpAny_field ho hd (x := .int i 0) rfl ?_)
  simp only [Int.toNat_natCast, hx]
  refine wpAny_bind (wpAny_rule (wpAny_bind (wpAny_setField ho hd (by simp) (wpAny_bind (wpAny_letGo ?_)))))
  refine stop_md (MdA.keep (show MdA A.in1 s.heap from m) fun b ob e ⟨vs, z1, z2⟩ => ?_) fun a h' k tt => ?_
  · have hb : it ≠ b := fun q => by
      rw [← q, ho] at e
      cases e
      rw [hd] at z1
      cases z1
      simp at z2
    rw [Heap.get?_update_other _ _ hb]
    exact e
  · refine wpAny_bind (wpAny_isInstance (T := "StopIteration") (b := true) tt isSubtype_stop ?_)
    exact wpAny_pure (hQ _ fun b ob hb e => k b ob (by rw [Heap.get?_update_other _ _ (Ne.symm hb)]; exact e))
/-- .. of a dict by its keys -/
theorem end_key_md {d : Addr} {n ep : Nat} {od : Obj} {es : Array DictEntry} (m : MdA A s.heap) (hit : s.heap.IsKeyIter it d i n ep) (hod : s.heap.get? d = some od) (hdd : od.data = .dict es ep)
    (hsz : es.size = n) (hge : n ≤ i) (hQ : ∀ h', Heap.ExtBut it s.heap h' → Q none { s with heap := h' }) : wpAny (model prog w) A (pyNext (.ref it)) Q E s := by
  obtain ⟨o, ho, hc, hd⟩ := id hit
  unfold pyNext
  refine wpAny_bind (wpAny_attempt (wpAny_callSpecial?_slot (name := Str.ofString "__next__") hit.typeIs F.slot_dict_keyiterator_next (wpAny_call_entry F.slot_dict_keyiterator_next hit.typeIs F.entry_dict_keyiterator_next ?_ (F.args_dict_keyiterator_next_1 _))))
  refine wpAny_bind (wpAny_pure ?_)
  refine wpAny_bind ?_
  refine wpAny_bind ?_
  first | refine wpAny_bind (wpAny_typeNameOfWhole_keyiter hit.typeIs (wpAny_pure ?_)) | refine wpAny_bind (wpAny_typeNameOf_keyiter hit.typeIs (wpAny_pure ?_))
  refine wpAny_bind (wpAny_fieldsOf ho hd ?_)
  have hown : Builtin.Dict_items.ownsTuple "dict_keyiterator" = false := by decide
  simp only [hown, Bool.false_eq_true, if_false]
  show wpAny _ _ (if (Value.ref d == Value.none) = true then _ else _) _ _ s
  rw [if_neg (show ¬ ((Value.ref d == Value.none) = true) from Bool.false_ne_true)]
  refine wpAny_bind (wpAny_pure ?_)
  refine wpAny_bind (wpAny_dictEntries hod hdd ?_)
  rw [if_neg (by rw [hsz]; simp)]
  refine wpAny_bind (wpAny_pure ?_)
  refine wpAny_bind (wpAny_dictEpoch hod hdd ?_)
  rw [if_neg (by simp)]
  refine wpAny_pure ?_
  have hge' : es.size ≤ i := by rw [hsz]; exact hge
  simp only [show ¬ ((i : Int) < 0) from by omega, if_false, Int.toNat_natCast, Array.getElem?_eq_none hge']
  refine wpAny_bind ?_
  first | refine wpAny_bind (wpAny_typeNameOfWhole_keyiter hit.typeIs (wpAny_pure ?_)) | refine wpAny_bind (wpAny_typeNameOf_keyiter hit.typeIs (wpAny_pure ?_))
  show wpAny _ _ (setField (.ref it) 0 .none >>= _) _ _ s
  refine wpAny_bind (wpAny_setField ho hd (by simp) ?_)
  refine stop_md (MdA.keep (show MdA A.in1 s.heap from m) fun b ob e ⟨vs, z1, z2⟩ => ?_) fun a h' k tt => ?_
  · have hb : it ≠ b := fun q => by
      rw [← q, ho] at e
      cases e
      rw [hd] at z1
      cases z1
      simp at z2
    rw [Heap.get?_update_other _ _ hb]
    exact e
  · refine wpAny_bind (wpAny_isInstance (T := "StopIteration") (b := true) tt isSubtype_stop ?_)
    exact wpAny_pure (hQ _ fun b ob hb e => k b ob (by rw [Heap.get?_update_other _ _ (Ne.symm hb)]; exact e))
end
end
end TM
set_option maxRecDepth 100000
set_option maxHeartbeats 4000000
/-! Loops in both moods. -/
namespace TM
open PySem PySem.Spec PyProof.Rows L2
/-- an iterator whose turns run in both moods -/
structure TrnM (P : Program) (w : World) (K : PySem.W.Frag) (tg : Expr) (J : It) (fp : List Addr) (it : Addr) (tn : Nat → Heap → Prop) : Prop where
  mem : it ∈ fp
  obj : ∀ i h, tn i h → ∀ b ∈ fp, ∃ o, h.get? b = some o ∧ ∀ v, o.data ≠ .cell v
  keep : ∀ i h h', tn i h → (∀ b ∈ fp, ∀ o, h.get? b = some o → h'.get? b = some o) → tn i h'
  item : ∀ (X : Cx), X.prog = P → X.w = w → X.K = K → Md X → ∀ (i : Nat) (pins : List (Addr × Obj)) (s : Shared) (σ : L2.St) (H : Hp) (E : Value → Shared → Prop), Inv X pins σ H s → (∀ b ∈ fp, FpOk X pins H b) → tn i s.heap → J.go i H →
    wpAny (model P w) X.A (pyNext (.ref it)) (fun r s1 => ∃ u, r = some u ∧ wpAny (model P w) X.A (letOwnedTupleGo tg (.ref it) u) (fun _ s2 => ∃ x H', Inv X pins σ H' s2 ∧ RelV x u ∧ J.yld i H x H' ∧ tn (i + 1) s2.heap ∧ ∀ b ∈ fp, H' b = none) E s1) E s
  done : ∀ (X : Cx), X.prog = P → X.w = w → X.K = K → Md X → ∀ (i : Nat) (pins : List (Addr × Obj)) (s : Shared) (σ : L2.St) (H : Hp) (E : Value → Shared → Prop), Inv X pins σ H s → (∀ b ∈ fp, FpOk X pins H b) → tn i s.heap → J.stop i H →
    wpAny (model P w) X.A (pyNext (.ref it)) (fun r s1 => r = none ∧ Inv X pins σ H s1) E s
  self : ∀ (A : Around) (i : Nat) (s : Shared) (Q : Value → Shared → Prop) (E : Value → Shared → Prop), tn i s.heap → Q (.ref it) s → wpAny (model P w) A (pyIter (.ref it)) Q E s
def PIEM (X : Cx) (pins : List (Addr × Obj)) (σ : L2.St) (tg : Expr) (R : It → Hp → Prop) (itv : Value) (s2 : Shared) : Prop :=
  ∃ (it : Addr) (fp : List Addr) (tn : Nat → Heap → Prop) (J : It) (H' : Hp), itv = .ref it ∧ Inv X pins σ H' s2 ∧ TrnM X.prog X.w X.K tg J fp it tn ∧ tn 0 s2.heap ∧ (∀ b ∈ fp, FpOk X pins H' b) ∧ R J H'
structure PIM (X : Cx) (tg iter : Expr) (wi : TI) : Prop where
  run : ∀ (pins : List (Addr × Obj)) (s : Shared) (σ : L2.St) (H : Hp) (R : It → Hp → Prop), Inv X pins σ H s → wi σ H R →
    wpAny (model X.prog X.w) X.A (eval iter X.env) (fun v s1 => wpAny (model X.prog X.w) X.A (pyIter v) (PIEM X pins σ tg R) X.xe s1) X.xe s
theorem one_md {X : Cx} {tg : Expr} {pins : List (Addr × Obj)} {σ : L2.St} {H : Hp} {s : Shared} {R : It → Hp → Prop} {J : It} {tn : Nat → Heap → Prop} {tk : Nat} (I : Inv X pins σ H s) (o : Obj)
    (T : TrnM X.prog X.w X.K tg J [s.heap.objs.size] s.heap.objs.size tn) (h0 : tn 0 (s.heap.push o)) (q : R J H) : PIEM X pins σ tg R (.ref s.heap.objs.size) { s with heap := s.heap.push o, toks := tk } := by
  refine ⟨s.heap.objs.size, [s.heap.objs.size], tn, J, H, rfl, I.kept (t' := tk) fun b u e => Heap.get?_push_of_some _ e, T, h0, fun b hb => ?_, q⟩
  have e : b = s.heap.objs.size := by simpa using hb
  rw [e]
  exact I.fpOk (Nat.le_refl _) (I.hok.fresh (Nat.le_refl _))
/-! ### lists -/
theorem trn_list {P : Program} {w : World} {K : PySem.W.Frag} {tg : Expr} (a it : Addr) : TrnM P w K tg (Itl K a) [it] it (fun i h => h.IsListIter it a i) where
  mem := by simp
  obj := fun i h st b hb => by
    have e : b = it := by simpa using hb
    obtain ⟨o, e1, c, d⟩ := st
    exact ⟨o, by rw [e]; exact e1, fun v z => by rw [d] at z; cases z⟩
  keep := fun i h h' st k => st.at fun o e => k it (by simp) o e
  item := by
    intro X hP hw hK hm i pins s σ H E I hf st ⟨xs, x, hq, hx⟩
    subst hP hw hK
    obtain ⟨its, rv, p, hz⟩ := I.list hq
    obtain ⟨u, hu, ru⟩ := rv.get hx
    obtain ⟨f0, f1, f2, f3, f4, f5⟩ := hf it (by simp)
    refine wpAny_pyNext_list_item st p.isList (x := u) (by simpa using hu) fun h' st' sb => ?_
    have I1 : Inv X pins σ H { s with heap := h' } := I.turned (t' := s.toks) (fun b o hb e => (sb.2 b hb).trans e) f0 f1 f3 f4 f5
    obtain ⟨o, e, c, d⟩ := id st'
    exact ⟨u, rfl, go_of (s := { s with heap := h' }) e c d (by decide) ⟨x, H, I1, ru, ⟨rfl, fun ys hy => by rw [I.list_inj hy hq]; exact hx⟩, st', fun b hb => (hf b hb).1⟩⟩
  done := by
    intro X hP hw hK hm i pins s σ H E I hf st ⟨xs, hq, hx⟩
    subst hP hw hK
    obtain ⟨its, rv, p, hz⟩ := I.list hq
    obtain ⟨f0, f1, f2, f3, f4, f5⟩ := hf it (by simp)
    have hl := rv.length
    exact end_list_md (hm.at I) st p.isList (by simp; omega) fun h' eb => ⟨rfl, I.turned (t' := s.toks) (fun b o hb e => eb b o hb e) f0 f1 f3 f4 f5⟩
  self := fun _ _ _ _ _ st h => wpAny_pyIter_listiter st h
/-! ### a text of plain signs -/
theorem trn_str {P : Program} {w : World} {K : PySem.W.Frag} {tg : Expr} (it : Addr) (x : Str) (t : Tok) : TrnM P w K tg (Its x) [it] it (fun i h => h.IsStrIter it "str_ascii_iterator" x t i) where
  mem := by simp
  obj := fun i h st b hb => by
    have e : b = it := by simpa using hb
    obtain ⟨o, e1, c, d⟩ := st
    exact ⟨o, by rw [e]; exact e1, fun v z => by rw [d] at z; cases z⟩
  keep := fun i h h' ⟨o, ho, r⟩ k => ⟨o, k it (by simp) o ho, r⟩
  item := by
    intro X hP hw hK hm i pins s σ H E I hf st hg
    subst hP hw hK
    obtain ⟨f0, f1, f2, f3, f4, f5⟩ := hf it (by simp)
    have hi : i < x.cps.size := hg
    refine wpAny_pyNext_ascii_item st (Array.getElem?_eq_getElem hi) fun h' st' sb => ?_
    have I1 : Inv X pins σ H { s with heap := h', toks := s.toks + 1 } := I.turned (fun b o hb e => (sb.2 b hb).trans e) f0 f1 f3 f4 f5
    obtain ⟨oi, e, c, d⟩ := id st'
    exact ⟨_, rfl, go_of (s := { s with heap := h', toks := s.toks + 1 }) e c d (by decide) ⟨.str ⟨#[x.cps[i]]⟩, H, I1, ⟨s.toks, rfl⟩, ⟨rfl, _, Array.getElem?_eq_getElem hi, rfl⟩, st', fun b hb => (hf b hb).1⟩⟩
  done := by
    intro X hP hw hK hm i pins s σ H E I hf st hg
    subst hP hw hK
    obtain ⟨f0, f1, f2, f3, f4, f5⟩ := hf it (by simp)
    exact end_str_md (hm.at I) st (Array.getElem?_eq_none hg) fun h' eb => ⟨rfl, I.turned (t' := s.toks) (fun b o hb e => eb b o hb e) f0 f1 f3 f4 f5⟩
  self := fun A i s Q E st h => wpAny_pyIter_striter_ascii st h
/-! ### the keys of a locked dict -/
theorem trn_keys {P : Program} {w : World} {K : PySem.W.Frag} {tg : Expr} {d : Addr} {o : Obj} {es : Array DictEntry} {ep : Nat} {kvs : List (Key × V)} (it : Addr) (hod : o.data = .dict es ep) :
    TrnM P w K tg (Itk d o kvs) [it] it (fun i h => h.IsKeyIter it d i kvs.length ep) where
  mem := by simp
  obj := fun i h st b hb => by
    have e : b = it := by simpa using hb
    obtain ⟨oi, e1, c, dd⟩ := st
    exact ⟨oi, by rw [e]; exact e1, fun v z => by rw [dd] at z; cases z⟩
  keep := fun i h h' st k => st.at fun oi e => k it (by simp) oi e
  item := by
    intro X hP hw hK hm i pins s σ H E I hf st ⟨hd, hi⟩
    subst hP hw hK
    obtain ⟨f0, f1, f2, f3, f4, f5⟩ := hf it (by simp)
    obtain ⟨hs, hgd, hx, es', ep', vs, hdt, hsz, kv, hme⟩ := I.frzK hd
    obtain ⟨e1, e2⟩ := dict_ep hod hdt
    subst e1 e2
    obtain ⟨u, hu, ru⟩ := kv_get kv (k := kvs[i].1) (v := kvs[i].2) (i := i) (by rw [List.getElem?_eq_getElem hi])
    have hl : kvs.length = vs.length := Paired.length kv
    rw [hl] at st
    refine wpAny_pyNext_dict_item st hme hu fun key h' hkey st' sb => ?_
    have I1 : Inv X pins σ H { s with heap := h' } := I.turned (t' := s.toks) (fun b ob hb e => (sb.2 b hb).trans e) f0 f1 f3 f4 f5
    obtain ⟨oi, e, c, dd⟩ := id st'
    refine ⟨key, rfl, go_of (s := { s with heap := h' }) e c dd (by decide) ⟨kV kvs[i].1, H, I1, relV_key (show keyIs kvs[i].1 key = true from hkey), ⟨rfl, _, _, by rw [List.getElem?_eq_getElem hi], rfl⟩, ?_, fun b hb => (hf b hb).1⟩⟩
    show h'.IsKeyIter it d (i + 1) kvs.length _
    rw [hl]
    exact st'
  done := by
    intro X hP hw hK hm i pins s σ H E I hf st ⟨hd, hi⟩
    subst hP hw hK
    obtain ⟨f0, f1, f2, f3, f4, f5⟩ := hf it (by simp)
    obtain ⟨hs, hgd, hx, es', ep', vs, hdt, hsz, kv, hme⟩ := I.frzK hd
    obtain ⟨e1, e2⟩ := dict_ep hod hdt
    subst e1 e2
    exact end_key_md (hm.at I) st hgd hdt hsz hi fun h' eb => ⟨rfl, I.turned (t' := s.toks) (fun b ob hb e => eb b ob hb e) f0 f1 f3 f4 f5⟩
  self := fun A i s Q E st h => wpAny_pyIter_keyiter st h
section
variable {X : Cx} {tg : Expr}
theorem pm_list {l : Expr} {tl : TE} (hl : PE X l tl) : PIM X tg l (iList X.K tl) := by
  refine ⟨fun pins s σ H R I h => thn (hl.run pins s σ H _ I h) fun v s1 ⟨x, H1, I1, r1, a, e, ⟨xs, hq⟩, q⟩ => ?_⟩
  subst e
  obtain rfl : v = Value.ref a := r1
  obtain ⟨its, rv, p, hz⟩ := I1.list hq
  exact wpAny_pyIter_list p.isList (one_md (tk := s1.toks) I1 _ (trn_list a _) ⟨_, Heap.get?_push_size _ rfl, rfl, rfl⟩ q)
def iStrA (te : TE) : TI := fun σ H R => te σ H fun v H1 => ∃ x : Str, v = .str x ∧ x.cps.all (· < 128) = true ∧ R (Its x) H1
theorem pm_str {e : Expr} {te : TE} (he : PE X e te) : PIM X tg e (iStrA te) := by
  refine ⟨fun pins s σ H R I h => thn (he.run pins s σ H _ I h) fun v s1 ⟨y, H1, I1, r1, x, ex, ha, q⟩ => ?_⟩
  subst ex
  obtain ⟨t, et⟩ := (show ∃ t, v = Value.str x t from r1)
  subst et
  exact wpAny_pyIter_ascii ha (one_md (tk := s1.toks) I1 _ (trn_str _ x t) ⟨_, Heap.get?_push_size _ rfl, rfl, rfl⟩ q)
theorem pm_keysM {e : Expr} {td : TE} {apos cpos : Pos} (he : PE X e td) (hbase : attributeBase e "keys" X.env (eval e X.env) = eval e X.env := by rfl) (hline : (apos.endLine == cpos.line) = true := by rfl) : PIM X tg (.Call (.Attribute e "keys" apos) [] [] cpos) (iKeysM td) := by
  refine ⟨fun pins s σ H R I h => ?_⟩
  refine wpAny_Call_method (T := "dict") (id := "dict.keys") hbase rfl hline F.plainAttrs_dict F.slot_dict_keys F.type_dict_keys (thn (he.run pins s σ H _ I h) fun u s1 ⟨x, H1, I1, rx, d, o, kvs, ex, hd, q⟩ => ?_)
  subst ex
  obtain rfl : u = Value.ref d := rx
  obtain ⟨hs, hgd, hx, es, ep, vs, hdt, hsz, kv, hme⟩ := I1.frzK hd
  have hl : kvs.length = vs.length := Paired.length kv
  refine ⟨hme.dictOf.typeIs, hme.dictOf.mapOf.noDict, ?_⟩
  have I2 : Inv X pins σ H1 { s1 with heap := s1.heap.push { cls := .type "dict_keys", data := .fields #[.ref d] } } := I1.kept (t' := s1.toks) fun b ob q => Heap.get?_push_of_some _ q
  have fin : wpAny (model X.prog X.w) X.A (pyIter (.ref s1.heap.objs.size)) (PIEM X pins σ tg R) X.xe { s1 with heap := s1.heap.push { cls := .type "dict_keys", data := .fields #[.ref d] } } := by
    refine PySem.W.kdl_pyIter_keys (d := d) (knd := mixKind X.prog X.w) ⟨_, Heap.get?_push_size _ rfl, rfl, rfl⟩ (hme.push _) (one_md (tk := s1.toks) I2 _ (trn_keys _ hdt) ⟨_, Heap.get?_push_size _ rfl, rfl, ?_⟩ q)
    rw [hl] <;> rfl
  show wpAny _ _ (callWith cpos (.builtin "dict.keys") [.ref d] [] []) _ X.xe s1
  exact method_meetsIn F.slot_dict_keys F.entry_dict_keys rfl (PySem.evalArgs_none ⟨rfl, hme.dictOf.typeIs, F.args_dict_keys_1 _, _, PySem.W.kdl_meets_keys (mixKind X.prog X.w) d hs, ⟨vs, hme.dictOf⟩, fin⟩)
/-! ### for -/
theorem ps_forM {iter : Expr} {body : List Stmt} {wi : TI} {g : TG} {tb : TS} {pos : Pos} (hp : PassesOwn (model X.prog X.w) X.A X.env X.xe) (hm : Md X) (hi : PIM X tg iter wi) (hg : PG X tg g) (hb : PSs X body tb)
    (hs : ∀ x, foldedSetIterable iter X.env x = pure x := by intro _; rfl) : PS X (.For tg iter body [] pos) (tFor wi g tb) := by
  refine ⟨fun pins s σ H D I h => wpAny_For (thn (hi.run pins s σ H _ I h) fun v s1 h1 => thn h1 fun itv s2 h2 => ?_) hs⟩
  obtain ⟨it, fp, tn, J, H2, e, I2, T, st2, f2, W, ⟨m0, w0⟩, turn⟩ := h2
  subst e
  have stat : ∀ {H' : Hp}, (∀ b ∈ fp, H' b = none) → ∀ b ∈ fp, FpOk X pins H' b := fun hn b hb => ⟨hn b hb, (f2 b hb).2⟩
  refine codeAny_forLoop_any (fun n s' => ∃ i σ' H', Inv X pins σ' H' s' ∧ tn i s'.heap ∧ (∀ b ∈ fp, H' b = none) ∧ W i n σ' H') ?_ m0 ⟨0, σ, H2, I2, st2, fun b hb => (f2 b hb).1, w0⟩
  intro n s3 ⟨i, σ3, H3, I3, st3, fr3, w3⟩
  rcases turn i n σ3 H3 w3 with ⟨stop, qn⟩ | ⟨go, N, hN, step⟩
  · refine wpAny_passesOwn hp (thn (T.done X rfl rfl rfl hm i pins s3 σ3 H3 X.xe I3 (stat fr3) st3 stop) fun r s4 ⟨hr, I4⟩ => ?_)
    subst hr
    exact wpAny_execs_nil ⟨σ3, H3, I4, qn⟩
  · refine wpAny_passesOwn hp (thn (T.item X rfl rfl rfl hm i pins s3 σ3 H3 X.xe I3 (stat fr3) st3 go) fun r s4 ⟨u, hr, h4⟩ => ?_)
    subst hr
    refine wpAny_passesOwn hp (thn h4 fun _ s5 ⟨x, H5, I5, r5, y5, st5, fr5⟩ => ?_)
    have I5' := I5.pinned (stat fr5) (T.obj _ _ st5)
    refine wpAny_passesOwn hp (thn (hg.run _ s5 σ3 H5 x u _ I5' r5 (step x H5 y5)) fun _ s6 ⟨σ6, H6, I6, q6⟩ => ?_)
    refine wpAny_passesOwn hp (thn (hb.run _ s6 σ6 H6 _ I6 q6) fun f s7 q7 => ?_)
    have again : ∀ {σ7 : L2.St} {H7 : Hp}, Inv X (pins ++ pinsAt fp s5.heap) σ7 H7 s7 → N σ7 H7 → ∃ m, m < n ∧ ∃ i σ' H', Inv X pins σ' H' s7 ∧ tn i s7.heap ∧ (∀ b ∈ fp, H' b = none) ∧ W i m σ' H' := fun {σ7 H7} I7 n7 => by
      have pin7 : ∀ b ∈ fp, ∀ o, s5.heap.get? b = some o → s7.heap.get? b = some o ∧ H7 b = none := fun b hb o e =>
        ⟨(I7.pin (b, o) (List.mem_append_right _ (List.mem_append_right _ (mem_pinsAt hb e)))).1, (I7.pin (b, o) (List.mem_append_right _ (List.mem_append_right _ (mem_pinsAt hb e)))).2.1⟩
      obtain ⟨m', hlt, w7⟩ := hN σ7 H7 n7
      exact ⟨m', hlt, i + 1, σ7, H7, I7.unpinned, T.keep _ _ _ st5 fun b hb o e => (pin7 b hb o e).1, fun b hb => let ⟨o, e, _⟩ := T.obj _ _ st5 b hb; (pin7 b hb o e).2, w7⟩
    cases f with
    | next =>
      obtain ⟨σ7, H7, I7, n7⟩ := q7
      exact again I7 n7
    | cont =>
      obtain ⟨σ7, H7, I7, n7⟩ := q7
      exact again I7 n7
    | brk =>
      obtain ⟨σ7, H7, I7, q7⟩ := q7
      exact ⟨σ7, H7, I7.unpinned, q7⟩
    | ret v =>
      obtain ⟨x7, σ7, H7, I7, r7, q7⟩ := q7
      exact ⟨x7, σ7, H7, I7.unpinned, r7, q7⟩
/-! ### any, all -/
theorem walks_md {prog : Program} {w : World} {A : Around} {h : Heap} (m : MdA A h) (I ax : Addr) (hne : ax ≠ I) (hI : h.objs.size ≤ I) (items : Array Value) :
    ∃ (fp : List Addr) (St : Nat → Heap → Prop), Walks prog w A I fp [I] items.size (fun i v => items[i]? = some v) St ∧ ∀ h', (∀ b o, h.get? b = some o → h'.get? b = some o) → h'.IsListIter I ax 0 → h'.IsList ax items → St 0 h' := by
  rcases m with hh | ⟨x, hh, ox, vs, ex, dx, cx⟩
  · exact ⟨_, _, Walks.list hh I ax hne items, fun h' _ a b => ⟨a, b⟩⟩
  · have hx : x ≠ I := Nat.ne_of_lt (Nat.lt_of_lt_of_le (Heap.lt_size ex) hI)
    refine ⟨[I, ax, x], fun i h' => h'.IsListIter I ax i ∧ h'.IsList ax items ∧ h'.get? x = some ox, ⟨fun b hb => ?_, fun i h1 h2 st k => ?_, fun i s Q E hi st hQ => ?_, fun s Q E st hQ => ?_, fun i s Q E st hQ => wpAny_pyIter_listiter st.1 hQ⟩, fun h' k a b => ⟨a, b, k _ _ ex⟩⟩
    · have e : b = I := by simpa using hb
      simp [e]
    · exact ⟨st.1.at fun o e => k I (by simp) o e, st.2.1.at fun o e => k ax (by simp) o e, k x (by simp) _ st.2.2⟩
    · refine wpAny_pyNext_list_item st.1 st.2.1 (x := items[i]) (by simp [hi]) fun h2 st2 sb => ?_
      exact hQ _ h2 s.toks (by simp [hi]) ⟨st2, st.2.1.extBut sb.extBut hne, (sb.2 x hx).trans st.2.2⟩ fun b o hb e => sb.extBut b o (fun z => hb (by simp [z])) e
    · exact end_list_md (.inr ⟨x, hh, ox, vs, st.2.2, dx, cx⟩) st.1 st.2.1 (by simp) fun h2 eb => hQ h2 s.toks fun b o hb e => eb b o (fun z => hb (by simp [z])) e
theorem cm_any (hm : Md X) : CallR X (.builtin "any") (rAny X.K) := by
  intro pins s σ H vs us Q I r ⟨a, bs, ev, hs, q⟩
  subst ev
  obtain ⟨its, rv, hl, _⟩ := I.list hs
  rw [Vals.ref1 r]
  have hb := rv.bls
  refine call_any_walk (iter_any hl.isList fun s2 e2 st hne => ?_)
  subst e2
  obtain ⟨fp, St0, W, w0⟩ := walks_md (prog := X.prog) (w := X.w) (A := X.A.in1) (h := s.heap) (show MdA X.A.in1 s.heap from hm.at I) s.heap.objs.size a hne (Nat.le_refl _) its.toArray
  refine ⟨_, _, _, _, _, _, _, rfl, W, w0 _ (fun b o e => Heap.get?_push_of_some _ e) st.1 st.2, truth_bools hb, fun h' tk hk => ?_⟩
  refine ⟨.bl _, H, I.kept fun b o eo => hk b o (fun hmem => ?_) (Heap.get?_push_of_some _ eo), ?_, q⟩
  · have e1 : b = s.heap.objs.size := by simpa using hmem
    exact absurd (e1 ▸ Heap.lt_size eo) (Nat.lt_irrefl _)
  · show Value.bool _ = Value.bool _
    rw [← L2.any_range, hb, List.size_toArray, List.length_map]
theorem cm_all (hm : Md X) : CallR X (.builtin "all") (rAll X.K) := by
  intro pins s σ H vs us Q I r ⟨a, bs, ev, hs, q⟩
  subst ev
  obtain ⟨its, rv, hl, _⟩ := I.list hs
  rw [Vals.ref1 r]
  have hb := rv.bls
  refine call_all_walk (iter_any hl.isList fun s2 e2 st hne => ?_)
  subst e2
  obtain ⟨fp, St0, W, w0⟩ := walks_md (prog := X.prog) (w := X.w) (A := X.A.in1) (h := s.heap) (show MdA X.A.in1 s.heap from hm.at I) s.heap.objs.size a hne (Nat.le_refl _) its.toArray
  refine ⟨_, _, _, _, _, _, _, rfl, W, w0 _ (fun b o e => Heap.get?_push_of_some _ e) st.1 st.2, truth_bools hb, fun h' tk hk => ?_⟩
  refine ⟨.bl _, H, I.kept fun b o eo => hk b o (fun hmem => ?_) (Heap.get?_push_of_some _ eo), ?_, q⟩
  · have e1 : b = s.heap.objs.size := by simpa using hmem
    exact absurd (e1 ▸ Heap.lt_size eo) (Nat.lt_irrefl _)
  · show Value.bool _ = Value.bool _
    rw [← L2.all_range, hb, List.size_toArray, List.length_map]
end
end TM
set_option maxRecDepth 100000
set_option maxHeartbeats 4000000
/-! List comprehensions in both moods. -/
namespace TM
open PySem PySem.Spec PyProof.Rows L2
/-- a comprehension's block, the pins of its def kept -/
abbrev blkM (X : Cx) (s : Shared) (H : Hp) (scope : Scope) (ce : Env) (fp : List Addr) : Cx := (X.blk s H scope ce fp).tr X.pn (fun _ _ => False)
theorem Md.blk {X : Cx} {s : Shared} {H : Hp} {scope : Scope} {ce : Env} {fp : List Addr} (m : Md X) : Md (blkM X s H scope ce fp) := m.elim (fun c => .inl c) fun ⟨p, h1, h2⟩ => .inr ⟨p, h1, h2⟩
section
variable {X : Cx} {elt tg iter : Expr} {ifs : List Expr} {scope : Scope} {own : List (Str × Nat)} {pos pos' : Pos} {wi : TI} {g : TG} {tt : TT} {te : TE}
theorem lc_md {pins : List (Addr × Obj)} {s : Shared} {σ : L2.St} {H : Hp} {Q : VK} {use : Option (Value → Sem Unit)} {Qf : Value → Shared → Prop}
    (hm : Md X) (hN : X.N.Nodup) (I : Inv X pins σ H s) (hi : PIM X tg iter wi) (ok : BlkOk X.N X.env.scope scope own)
    (hg : ∀ (s : Shared) (H : Hp) (C : Addr) (cl : List (Str × Addr)) (fp : List Addr), PG (blkM X s H scope (compEnvC scope cl C X.env) fp) tg g)
    (ht : ∀ (s : Shared) (H : Hp) (C : Addr) (cl : List (Str × Addr)) (fp : List Addr), PTs (blkM X s H scope (compEnvC scope cl C X.env) fp) ifs tt)
    (he : ∀ (s : Shared) (H : Hp) (C : Addr) (cl : List (Str × Addr)) (fp : List Addr), PE (blkM X s H scope (compEnvC scope cl C X.env) fp) elt te) (hs : ∀ x, foldedSetIterable iter X.env x = pure x)
    (h : tLc wi g tt te (own.map (·.2)) σ H Q)
    (fin : ∀ D C s' m H', Inv X pins σ H' s' → Q (.ref D) H' → s'.heap.Ns C m → FpOk X pins H' C → compPost (model X.prog X.w) X.A X.xe use Qf (.ref D) C (.ok .next) s') :
    wpAny (model X.prog X.w) X.A (comprehension (.ListComp elt [⟨tg, iter, ifs, 0⟩] scope pos) scope X.env pos' (newList []) false (eval iter X.env) use) Qf X.xe s := by
  have hfree : ∀ y ∈ scope.names, y.2 = .free → ∃ c, X.env.cells.lookup y.1 = some c := fun y hy e => (ok.free y hy e).elim (fun k => I.ok.has _ (.inl k)) fun k => I.ok.has _ (.inr k)
  refine wpAny_comprehension_free (use := use) rfl hs (closure_ok hfree) ok.kind (fun y hy e => by rw [ok.uniq y hy, e]) (thn (hi.run pins s σ H _ I h) fun xv s1 hx => thn hx fun itv s2 h2 => ?_)
  obtain ⟨it, fp, tn, J, H2, e, I2, T, st2, f2, q⟩ := h2
  subst e
  refine wpAny_newObj_type (newEnv_comp ?_) (by show 0 ≤ sizeLine; decide)
  -- the new list at D
  generalize hD : s2.heap.objs.size = D
  have hDn : H2 D = none := I2.hok.fresh (Nat.le_of_eq hD)
  obtain ⟨W, ⟨m0, w0⟩, turn⟩ := q D hDn
  generalize hs3 : ({ s2 with heap := s2.heap.push { cls := .type "list", data := .seq ([] : List Value).toArray } } : Shared) = s3
  have h3 : s3.heap = s2.heap.push { cls := .type "list", data := .seq ([] : List Value).toArray } := by rw [← hs3]
  have I3 : Inv X pins σ (upd H2 D (.lst [])) s3 := by
    rw [← hs3]
    exact I2.laid (t' := s2.toks) (fun b o e => Heap.get?_push_of_some _ e) (Nat.le_of_eq hD) ⟨Nat.zero_le _, [], 0, .nil, by rw [← hD]; exact Heap.get?_push_size _ rfl⟩
  have f3 : ∀ b ∈ fp, FpOk X pins (upd H2 D (.lst [])) b ∧ b < s3.heap.objs.size := fun b hb => by
    obtain ⟨o, e, _⟩ := T.obj _ _ st2 b hb
    have hlt := Heap.lt_size e
    exact ⟨⟨by rw [upd_ne (by rw [← hD]; exact Nat.ne_of_lt hlt)]; exact (f2 b hb).1, (f2 b hb).2⟩, by rw [h3, Heap.size_push]; exact Nat.lt_succ_of_lt hlt⟩
  have st3 : tn 0 s3.heap := T.keep _ _ _ st2 fun b _ o e => by rw [h3]; exact Heap.get?_push_of_some _ e
  have I4 := block_start I3 ok hN f3
  have pg := hg s3 (upd H2 D (.lst [])) s3.heap.objs.size (cellsFrom (s3.heap.objs.size + 1) scope.names (cloFrom X.env.cells scope.names [])) fp
  have pt := ht s3 (upd H2 D (.lst [])) s3.heap.objs.size (cellsFrom (s3.heap.objs.size + 1) scope.names (cloFrom X.env.cells scope.names [])) fp
  have pe := he s3 (upd H2 D (.lst [])) s3.heap.objs.size (cellsFrom (s3.heap.objs.size + 1) scope.names (cloFrom X.env.cells scope.names [])) fp
  show codeAny _ _ (.compStart (.ListComp elt [⟨tg, iter, ifs, 0⟩] scope pos) 0 (.ref it) (.ref D) (compEnvC scope (cellsFrom (s3.heap.objs.size + 1) scope.names (cloFrom X.env.cells scope.names [])) s3.heap.objs.size X.env))
    (compPost (model X.prog X.w) X.A X.xe use Qf (.ref D) s3.heap.objs.size) { s3 with heap := pushCells (s3.heap.push { cls := .type "dict", data := .dict #[] }) scope.names }
  have nfp : ∀ b ∈ fp, (upd H2 D (.lst [])) b = none := fun b hb => (f3 b hb).1.1
  generalize hce : compEnvC scope (cellsFrom (s3.heap.objs.size + 1) scope.names (cloFrom X.env.cells scope.names [])) s3.heap.objs.size X.env = ce at I4 pg pt pe ⊢
  have cL : ce.locals = s3.heap.objs.size := by rw [← hce] <;> rfl
  generalize hH3 : upd H2 D (.lst []) = H3 at I3 I4 pg pt pe w0 nfp f3
  -- the pins are kept in the block
  have I4 : Inv (blkM X s3 H3 scope ce fp) [] (wipe σ (own.map (·.2))) H3 { s3 with heap := pushCells (s3.heap.push { cls := .type "dict", data := .dict #[] }) scope.names } :=
    ⟨I4.ok.toTry _ _, I4.os, I4.bare, I4.base, I4.loc, I4.cell, I4.free, I4.freeC, fun p hp => by
      have hp' : p ∈ X.pn := by simpa using hp
      obtain ⟨z1, z2, z3, z4, z5⟩ := I3.pin p (List.mem_append_left _ hp')
      refine ⟨pushCells_keeps _ _ _ _ (Heap.get?_push_of_some _ z1), z2, ?_, fun hm2 => (List.mem_cons.mp (I3.stkSub p.1 hm2)).elim z3 z4, z5⟩
      show p.1 ≠ ce.locals
      rw [cL]
      exact Nat.ne_of_lt (Heap.lt_size z1), I4.hok, I4.len⟩
  generalize hs4 : ({ s3 with heap := pushCells (s3.heap.push { cls := .type "dict", data := .dict #[] }) scope.names } : Shared) = s4 at I4 ⊢
  have st4 : tn 0 s4.heap := T.keep _ _ _ st3 fun b _ o e => by rw [← hs4]; exact pushCells_keeps _ _ _ _ (Heap.get?_push_of_some _ e)
  have stat : ∀ {σ' : L2.St} {H' : Hp} {s' : Shared}, Inv (blkM X s3 H3 scope ce fp) [] σ' H' s' → (∀ b ∈ fp, H' b = none) → ∀ b ∈ fp, FpOk (blkM X s3 H3 scope ce fp) [] H' b := fun {σ' H' s'} I' hn b hb =>
    ⟨hn b hb, (I'.ok.exf b hb).1, I'.ok.exfs b hb, .inl hb, fun x c e => (I'.ok.exf b hb).2 x c e, fun p hp => (f3 b hb).1.2.2.2.2.2 p (List.mem_append_left _ (by simpa using hp))⟩
  have md : Md (blkM X s3 H3 scope ce fp) := hm.blk
  have loop : codeAny (model X.prog X.w) X.A (.compLoop (.ListComp elt [⟨tg, iter, ifs, 0⟩] scope pos) 0 (.ref it) (.ref D) ce) (compPost (model X.prog X.w) X.A X.xe use Qf (.ref D) s3.heap.objs.size) s4 := by
    refine compLoop_any (fun n s' => ∃ i H', Inv (blkM X s3 H3 scope ce fp) [] (wipe σ (own.map (·.2))) H' s' ∧ tn i s'.heap ∧ (∀ b ∈ fp, H' b = none) ∧ W i n H') ?_ m0 ⟨0, H3, I4, st4, nfp, w0⟩
    intro n s5 ⟨i, H5, I5, st5, n5, w5⟩
    rcases turn i n H5 w5 with ⟨stop, qq⟩ | ⟨go, Nx, hNx, step⟩
    · refine thnF (T.done (blkM X s3 H3 scope ce fp) rfl rfl rfl md i [] s5 _ H5 (fun _ _ => False) I5 (stat I5 n5) st5 stop) fun r s6 ⟨hr, I6⟩ => ?_
      subst hr
      have I7 : Inv X pins σ H5 s6 := I3.call' (ch := fp) I6.os I6.base I6.hok I6.bare fun b hb => ⟨(f3 b hb).1.2.2.2.1, (f3 b hb).1.2.1, (f3 b hb).1.2.2.2.2.1, (f3 b hb).1.2.2.2.2.2⟩
      have nC : H5 s3.heap.objs.size = none := by
        have z : H5 ce.locals = none := I6.free
        rw [cL] at z
        exact z
      obtain ⟨m, hn, _⟩ := I6.loc
      have hn : s6.heap.Ns ce.locals m := hn
      rw [cL] at hn
      exact fin D s3.heap.objs.size s6 m H5 I7 qq hn (I3.fpOk (Nat.le_refl _) nC)
    · refine thnF (T.item (blkM X s3 H3 scope ce fp) rfl rfl rfl md i [] s5 _ H5 (fun _ _ => False) I5 (stat I5 n5) st5 go) fun r s6 ⟨u, hr, h6⟩ => ?_
      subst hr
      refine thnF h6 fun _ s7 ⟨x, H7, I7, r7, y7, st7, n7⟩ => ?_
      have I7' := I7.pinned (stat I7 n7) (T.obj _ _ st7)
      refine thnF (pg.run _ s7 _ H7 x u _ I7' r7 (step x H7 y7)) fun _ s8 ⟨σ8, H8, I8, hw8, q8⟩ => ?_
      refine thnF (pt.run _ s8 σ8 H8 _ I8 q8) fun b s9 ⟨H9, I9, q9⟩ => ?_
      have turnEnd : ∀ {s' : Shared} {H' : Hp}, Inv (blkM X s3 H3 scope ce fp) ([] ++ pinsAt fp s7.heap) σ8 H' s' → Nx H' → ∃ m, m < n ∧ ∃ i H', Inv (blkM X s3 H3 scope ce fp) [] (wipe σ (own.map (·.2))) H' s' ∧ tn i s'.heap ∧ (∀ b ∈ fp, H' b = none) ∧ W i m H' := fun {s' H'} I' nx => by
        obtain ⟨m', hlt, w'⟩ := hNx H' nx
        have pinE : ∀ b ∈ fp, ∀ o, s7.heap.get? b = some o → s'.heap.get? b = some o ∧ H' b = none := fun b hb o e =>
          let z := I'.pin (b, o) (List.mem_append_right _ (List.mem_append_right _ (mem_pinsAt hb e)))
          ⟨z.1, z.2.1⟩
        have hl : (wipe σ (own.map (·.2))).length = σ8.length := by rw [← hw8, wipe_length]
        refine ⟨m', hlt, i + 1, H', (I'.unpinned (pins := [])).weak hl (fun j v e => ?_), T.keep _ _ _ st7 fun b hb o e => (pinE b hb o e).1, fun b hb => ?_, w'⟩
        · rw [← hw8] at e
          exact (wipe_some e).1
        · obtain ⟨o, e, _⟩ := T.obj _ _ st7 b hb
          exact (pinE b hb o e).2
      cases b with
      | false =>
        simp only [Bool.false_eq_true, if_false] at q9 ⊢
        exact turnEnd I9 q9
      | true =>
        simp only [if_true] at q9 ⊢
        refine thnF (pe.run _ s9 σ8 H9 _ I9 q9) fun z s10 ⟨yv, H10, I10, r10, acc, hD10, hz10, nx⟩ => ?_
        exact app_ok (X := blkM X s3 H3 scope ce fp) I10 hD10 hz10 r10 fun s11 I11 => turnEnd I11 nx
  exact codeAny_compStart_list loop (T.self X.A 0 _ _ _ st4 loop)
theorem pe_lcM (hm : Md X) (hN : X.N.Nodup) (hi : PIM X tg iter wi) (ok : BlkOk X.N X.env.scope scope own)
    (hg : ∀ (s : Shared) (H : Hp) (C : Addr) (cl : List (Str × Addr)) (fp : List Addr), PG (blkM X s H scope (compEnvC scope cl C X.env) fp) tg g)
    (ht : ∀ (s : Shared) (H : Hp) (C : Addr) (cl : List (Str × Addr)) (fp : List Addr), PTs (blkM X s H scope (compEnvC scope cl C X.env) fp) ifs tt)
    (he : ∀ (s : Shared) (H : Hp) (C : Addr) (cl : List (Str × Addr)) (fp : List Addr), PE (blkM X s H scope (compEnvC scope cl C X.env) fp) elt te) (hs : ∀ x, foldedSetIterable iter X.env x = pure x := by intro _; rfl) :
    PE X (.ListComp elt [⟨tg, iter, ifs, 0⟩] scope pos) (tLc wi g tt te (own.map (·.2))) := by
  refine ⟨fun pins s σ H Q I h => ?_⟩
  rw [eval_ListComp]
  refine lc_md hm hN I hi ok hg ht he hs h fun D C s' m H' I' q hn ⟨f0, f1, f2, f3, f4, f5⟩ => ⟨m, hn, fun h'' sb => ?_⟩
  exact ⟨.ref D, H', I'.turned (t' := s'.toks) (fun b o hb e => (sb.2 b hb).trans e) f0 f1 f3 f4 f5, rfl, q⟩
theorem ps_setLcM {i : Nat} {y : Str} {py spos : Pos} (hm : Md X) (hN : X.N.Nodup) (hy : X.N[i]? = some y) (hyl : X.env.scope.names.lookup y = some .local)
    (hsw : swapsWith (.ListComp elt [⟨tg, iter, ifs, 0⟩] scope pos) (some (.Name y py)) spos.line X.env = pure true) (hi : PIM X tg iter wi) (ok : BlkOk X.N X.env.scope scope own)
    (hg : ∀ (s : Shared) (H : Hp) (C : Addr) (cl : List (Str × Addr)) (fp : List Addr), PG (blkM X s H scope (compEnvC scope cl C X.env) fp) tg g)
    (ht : ∀ (s : Shared) (H : Hp) (C : Addr) (cl : List (Str × Addr)) (fp : List Addr), PTs (blkM X s H scope (compEnvC scope cl C X.env) fp) ifs tt)
    (he : ∀ (s : Shared) (H : Hp) (C : Addr) (cl : List (Str × Addr)) (fp : List Addr), PE (blkM X s H scope (compEnvC scope cl C X.env) fp) elt te) (hs : ∀ x, foldedSetIterable iter X.env x = pure x := by intro _; rfl) :
    PS X (.Assign [.Name y py] (.ListComp elt [⟨tg, iter, ifs, 0⟩] scope pos) spos) (tAsg (tLc wi g tt te (own.map (·.2))) (gName i)) := by
  refine ⟨fun pins s σ H D I h => ?_⟩
  rw [exec_Assign_Name_used _ _ _ _ hsw]
  refine wpAny_bind (wpAny_standAt (wpAny_bind ?_))
  show wpAny _ X.A (do let _ ← comprehension (.ListComp elt [⟨tg, iter, ifs, 0⟩] scope pos) scope X.env (firstIterPos [⟨tg, iter, ifs, 0⟩] pos) (newList []) false (eval iter X.env) (some (assign (.Name y py) X.env))) _ _ s
  have h : tLc wi g tt te (own.map (·.2)) σ H (fun x H1 => gName i x σ H1 D.nx) := h
  refine wpAny_bind (thn (lc_md (Qf := fun _ s' => SP X pins D .next s') hm hN I hi ok hg ht he hs h fun L C s' m H' I' q hn ⟨f0, f1, f2, f3, f4, f5⟩ => ?_) fun _ s' hq => wpAny_pure (wpAny_pure hq))
  show wpAny _ _ (assign (.Name y py) X.env (.ref L)) _ _ _
  refine wpAny_assign_Name (store_ok2 (v := V.ref L) I' hN hy (.inl hyl) rfl (fun s2 I2 ⟨a, sb, ha⟩ => ?_) (.inr hyl))
  have haC : C ≠ a := ha.elim (fun z => by rw [z]; exact f1) fun z e => f4 y a z e.symm
  exact ⟨m, hn.sameBut sb haC, fun h3 sb3 => ⟨_, H', I2.turned (t' := s2.toks) (fun b o hb e => (sb3.2 b hb).trans e) f0 f1 f3 f4 f5, q⟩⟩
end
end TM
set_option maxRecDepth 100000
set_option maxHeartbeats 4000000
/-! Defs in both moods: their promises, bodies, calls. -/
namespace TM
open PySem PySem.Spec PyProof.Rows L2
/-- how a call stands: calm, or one exception is handled and pinned -/
def MdP (b : Bool) (A : Around) (outer : List Env) (H : Hp) (s : Shared) (pl : List (Addr × Obj)) : Prop :=
  (b = true ∧ A.handled = none ∧ pl = []) ∨ (b = false ∧ ∃ p, pl = [p] ∧ L2H.Hot1 A p ∧ L2H.PinOk outer H s p)
/-- a promise in both moods; sp true: the calm one -/
structure FnM (P : Program) (w : World) (K : PySem.W.Frag) (mg : Str → Option Value) (base : Heap) (CX : CXT) (k : Nat) (f : Addr) (fd : FuncData) (ps : List Str) (sp : Bool → Sp) : Prop where
  len : ∀ b vs H Q E, sp b vs H Q E → vs.length = ps.length
  run : ∀ (b : Bool) (pl : List (Addr × Obj)) (A : Around) (outer : List Env) (s : Shared) (H : Hp) (args : Args) (us : List Value) (vs : List V) (Q : VK) (E : XK), L2H.RoomH k A → MdP b A outer H s pl → Env0 P w K mg base A outer s H →
    BindsTo s fd args (ps.zip us) → Vals vs us → sp b vs H Q E → codeAny (model P w) A (.call (.ref f) args) (CR CX outer P w H s Q E) s
theorem FnM.mono {P : Program} {w : World} {K : PySem.W.Frag} {mg : Str → Option Value} {base : Heap} {CX : CXT} {j k : Nat} {f : Addr} {fd : FuncData} {ps : List Str} {sp : Bool → Sp} (F : FnM P w K mg base CX j f fd ps sp) (h : j ≤ k) : FnM P w K mg base CX k f fd ps sp :=
  ⟨F.len, fun b pl A outer s H args us vs Q E hr => F.run b pl A outer s H args us vs Q E (hr.mono h)⟩
theorem FnM.imp {P : Program} {w : World} {K : PySem.W.Frag} {mg : Str → Option Value} {base : Heap} {CX : CXT} {k : Nat} {f : Addr} {fd : FuncData} {ps : List Str} {sp sp' : Bool → Sp} (F : FnM P w K mg base CX k f fd ps sp)
    (h : ∀ b vs H Q E, sp' b vs H Q E → sp b vs H Q E) : FnM P w K mg base CX k f fd ps sp' :=
  ⟨fun b vs H Q E q => F.len b vs H Q E (h _ _ _ _ _ q), fun b pl A outer s H args us vs Q E hr m e0 hb hv q => F.run b pl A outer s H args us vs Q E hr m e0 hb hv (h _ _ _ _ _ q)⟩
/-- the calm promise alone -/
theorem FnM.cold {P : Program} {w : World} {K : PySem.W.Frag} {mg : Str → Option Value} {base : Heap} {CX : CXT} {k : Nat} {f : Addr} {fd : FuncData} {ps : List Str} {sp : Bool → Sp} (F : FnM P w K mg base CX k f fd ps sp) : FnOk P w K mg base CX k f fd ps (sp true) :=
  ⟨fun vs H Q E q => F.len true vs H Q E q, fun A outer s H args us vs Q E hr e0 hb hv q => F.run true [] A outer s H args us vs Q E (L2H.roomH_of hr) (.inl ⟨rfl, hr.hd, rfl⟩) e0 hb hv q⟩
/-- the context of such a def's body -/
abbrev cxM (CX : CXT) (P : Program) (w : World) (K : PySem.W.Frag) (mg : Str → Option Value) (base : Heap) (N : List Str) (qual : Str) (scope : Scope) (f : Addr) (cd : Value) (A : Around) (outer : List Env) (s : Shared) (H : Hp) (E : XK) (b : Bool) (pl : List (Addr × Obj)) : Cx :=
  { cxOf CX P w K mg base N qual scope f cd A outer s H E with calm := b, pn := pl }
section
variable {P : Program} {w : World} {K : PySem.W.Frag} {mg : Str → Option Value} {base : Heap} {x qual : Str} {params : Arguments} {body : List Stmt} {scope : Scope} {dvs : List V} {kws : List (Str × V)} {f : Addr} {fd : FuncData}
/-- THE RULE: a def by its body, in both moods -/
theorem fun_okM {CX : CXT} {N ps : List Str} {k : Nat} {sp : Bool → Sp} (F : FunD K x qual params body scope dvs kws f fd) (S : FnScope N ps scope) (len : ∀ b vs H Q E, sp b vs H Q E → vs.length = ps.length)
    (hbody : ∀ (b : Bool) (pl : List (Addr × Obj)) (cdv : Value) (A : Around) (outer : List Env) (s : Shared) (H : Hp) (vs : List V) (Q : VK) (E : XK), Md (cxM CX P w K mg base N qual scope f cdv A outer s H E b pl) → L2H.RoomH k (A.deeper (envOfC qual scope s.heap.objs.size f cdv)) → sp b vs H Q E →
      ∃ t, PSs (cxM CX P w K mg base N qual scope f cdv A outer s H E b pl) body t ∧ t { nx := fun _ H' => Q .non H', rt := Q } (start N vs) H) : FnM P w K mg base CX (k + 1) f fd ps sp := by
  obtain ⟨oc, od, dV, kV, doc, pm, an, cdv, ct, osl, rfl, lk, hcd, _, _⟩ := F.ex
  refine ⟨len, fun b pl A outer s H args us vs Q E hr m e0 hb hv hsp => ?_⟩
  rcases m with ⟨rfl, hh, rfl⟩ | ⟨rfl, p, rfl, hot, pin⟩
  · refine (fn_of (CX := CX) (P := P) (w := w) (mg := mg) (base := base) (k := k) (sp := fun vs H Q E => sp true vs H Q E) lk hcd S (len true) fun A outer s H vs Q E hr' h' => ?_).run A outer s H args us vs Q E ⟨hh, hr.dp, hr.un⟩ e0 hb hv hsp
    exact hbody true [] cdv A outer s H vs Q E (.inl rfl) (L2H.roomH_of hr') h'
  · refine (L2H.fn_ofH (CX := CX) (P := P) (w := w) (mg := mg) (base := base) (k := k) (sp := fun vs H Q E => sp false vs H Q E) lk hcd S (len false) fun A outer s H vs Q E p hot hr' h' => ?_).run A outer s H args us vs Q E p hr hot pin e0 hb hv hsp
    exact hbody false [p] cdv A outer s H vs Q E (.inr ⟨p, hot, by simp⟩) hr' h'
end
/-! ### calls -/
theorem passAt0 {X : Cx} {σ : L2.St} : PassesAt CX0 X σ (fun _ _ _ => False) := fun _ _ _ _ _ _ h => h.elim
abbrev EN : L2.St → XK := fun _ _ _ _ => False
/-- f(..) in the mood b -/
def tCallM (b : Bool) (sp : Bool → Sp) (dvs : List V) (E : L2.St → XK) (t : TA) : TE := fun σ H Q => t σ H fun vs H1 => sp b (vs ++ dvs) H1 Q (E σ)
def tMethM (b : Bool) (C : Addr) (m : Str) (sp : Bool → Sp) (dvs : List V) (E : L2.St → XK) (ta : TE) (t : TA) : TE := fun σ H Q => ta σ H fun x H1 => ∃ a dx fs, x = .ref a ∧ H1 a = some (.ins C dx fs) ∧ fs.lookup m = none ∧ t σ H1 fun vs H2 => sp b (x :: (vs ++ dvs)) H2 Q (E σ)
section
variable {X : Cx} {CX : CXT} {k : Nat} {f C : Addr} {fd : FuncData} {ps : List Str} {sp : Bool → Sp} {dvs : List V} {ds : List Value} {E : L2.St → XK} {x m : Str} {q pos apos : Pos} {e o : Expr} {es : List Expr} {ta : TE} {t : TA}
theorem run_fnM {pins : List (Addr × Obj)} {σ : L2.St} {H : Hp} {s : Shared} {Q : VK} {us : List Value} {vs : List V} (F : FnM X.prog X.w X.K X.mg X.base CX k f fd ps sp) (hr : L2H.RoomH k X.A) (hm : Md X) (hb : Binds X.K fd ps ds) (hd : Vals dvs ds) (hx : PassesAt CX X σ (E σ))
    (I : Inv X pins σ H s) (r : Vals vs us) (h : sp X.calm (vs ++ dvs) H Q (E σ)) : wpAny (model X.prog X.w) X.A (call (.ref f) us) (EP X pins σ Q) X.xe s := by
  have r2 : Vals (vs ++ dvs) (us ++ ds) := r.append hd
  have hl : (us ++ ds).length = ps.length := by rw [← r2.length]; exact F.len _ _ _ _ _ h
  have md : ∃ pl, MdP X.calm X.A X.stack H s pl := by
    cases hc : X.calm with
    | true => exact ⟨[], .inl ⟨rfl, I.ok.hd hc, rfl⟩⟩
    | false =>
      rcases hm with z | ⟨p, hot, hp⟩
      · rw [hc] at z; cases z
      · have P1 := I.pin p (List.mem_append_left _ hp)
        exact ⟨[p], .inr ⟨rfl, p, rfl, hot, ⟨P1.1, P1.2.1, fun hm => (List.mem_cons.mp (I.stkSub p.1 hm)).elim P1.2.2.1 P1.2.2.2.1, P1.2.2.2.2⟩⟩⟩
  obtain ⟨pl, md⟩ := md
  refine wpAny_call (codeAny_mono (F.run X.calm pl X.A X.stack s H ⟨us, []⟩ (us ++ ds) (vs ++ dvs) Q (E σ) hr md I.env0 (hb s us I.kIn hl) r2 h) fun r s' hq => ?_)
  cases r with
  | error e => exact hx pins H s e s' I hq
  | ok fl =>
    cases fl with
    | ret u => exact I.after hq
    | next => exact False.elim hq
    | brk => exact False.elim hq
    | cont => exact False.elim hq
theorem pe_callM (F : FnM X.prog X.w X.K X.mg X.base CX k f fd ps sp) (hr : L2H.RoomH k X.A) (hm : Md X) (hg : Gl X x) (hmg : X.mg x = some (.ref f)) (hk : PySem.W.keepIn X.K (.ref f) = true) (hb : Binds X.K fd ps ds) (hd : Vals dvs ds) (hx : ∀ σ, PassesAt CX X σ (E σ)) (ha : PA X (e :: es) t)
    (hdb : (x == ("__debug__" : Str)) = false := by decide) (he : starEach (e :: es) X.env = (false, eval e X.env) :: starEach es X.env := by rfl) (hpl : (backTo pos (starEach es X.env)).any (·.1) = false := by rfl) :
    PE X (.Call (.Name x q) (e :: es) [] pos) (tCallM X.calm sp dvs E t) := by
  refine ⟨fun pins s σ H Q I h => wpAny_Call_Name_kw (ld_glob I hg hmg ?_ hdb)⟩
  refine PySem.W.callWith_K (h₀ := X.base) I.ok.mod.kin hk (thn (ha.run pos pins s σ H _ I h) fun us s1 ⟨vs, H1, I1, r, q⟩ => ⟨I1.kIn, ?_⟩) he hpl
  exact run_fnM F hr hm hb hd (hx σ) I1 r q
theorem pe_methM {pl : Sem Bool} (ho : PE X o ta) (c : Cls X.K C) (hme : Meth X.K C m f) (F : FnM X.prog X.w X.K X.mg X.base CX k f fd ps sp) (hr : L2H.RoomH k X.A) (hm : Md X) (hb : Binds X.K fd ps ds) (hd : Vals dvs ds) (hx : ∀ σ, PassesAt CX X σ (E σ)) (ha : PA X (e :: es) t)
    (hst : starEach (e :: es) X.env = (false, eval e X.env) :: starEach es X.env := by rfl) (hpl : (backTo pos (starEach es X.env)).any (·.1) = false := by rfl)
    (ht : eval (.Call (.Attribute o m apos) (e :: es) [] pos) X.env = (do
      let ov ← eval o X.env
      standAt apos.atName
      let (f, first) ← holding [ov] (getMethod ov m pl)
      callWith pos f first (backTo pos (starEach (e :: es) X.env)) (backToKw pos (keywordEach [] X.env))) := by rfl) :
    PE X (.Call (.Attribute o m apos) (e :: es) [] pos) (tMethM X.calm C m sp dvs E ta t) := by
  refine ⟨fun pins s σ H Q I h => PySem.W.methodCall_KW (pl := pl) (thn (ho.run pins s σ H _ I h) fun u s1 ⟨y, H1, I1, ry, a, dx, fs, ey, ea, l, q⟩ => ?_) ht⟩
  subst ey
  obtain rfl : u = Value.ref a := ry
  refine getmeth_ok I1 ea c hme l ?_
  refine PySem.W.callWith_K (first := [.ref a]) (h₀ := X.base) I.ok.mod.kin hme.kp (thn (ha.run pos pins s1 σ H1 _ I1 q) fun us s2 ⟨vs, H2, I2, r, q2⟩ => ⟨I2.kIn, ?_⟩) hst hpl
  exact run_fnM (us := .ref a :: us) (vs := .ref a :: vs) F hr hm hb hd (hx σ) I2 (.cons rfl r) q2
end
/-! ### what only the calm mood needs -/
section
variable {X : Cx} {e : Expr} {st : Stmt} {te : TE} {t1 t2 : TS}
def tCalm (b : Bool) (t : TE) : TE := fun σ H Q => b = true ∧ t σ H Q
def sCalm (b : Bool) (t : TS) : TS := fun D σ H => b = true ∧ t D σ H
theorem pe_calm (h : X.calm = true → PE X e te) : PE X e (tCalm X.calm te) := ⟨fun pins s σ H Q I ⟨hc, q⟩ => (h hc).run pins s σ H Q I q⟩
theorem ps_calm (h : X.calm = true → PS X st t1) : PS X st (sCalm X.calm t1) := ⟨fun pins s σ H D I ⟨hc, q⟩ => (h hc).run pins s σ H D I q⟩
def sTwo (b : Bool) (t1 t2 : TS) : TS := fun D σ H => if b = true then t1 D σ H else t2 D σ H
theorem ps_two (h1 : X.calm = true → PS X st t1) (h2 : X.calm = false → PS X st t2) : PS X st (sTwo X.calm t1 t2) := by
  refine ⟨fun pins s σ H D I q => ?_⟩
  cases hc : X.calm with
  | true => exact (h1 hc).run pins s σ H D I (by unfold sTwo at q; rw [if_pos hc] at q; exact q)
  | false => exact (h2 hc).run pins s σ H D I (by unfold sTwo at q; rw [if_neg (by rw [hc]; exact Bool.false_ne_true)] at q; exact q)
end
end TM
set_option maxRecDepth 100000
set_option maxHeartbeats 4000000
/-! Own errors two classes below ValueError: Base.__init__(self, 'text') in their __init__. -/
namespace TM
open PySem PySem.Spec PyProof.Rows L2
/-- what the class between must have: its __init__ is ValueError's -/
structure MidC (K : PySem.W.Frag) (B : Addr) (mc : Value) : Prop where
  rd : PySem.W.readsIn K B mc = true
  ga : PySem.W.specialIn K (.ref B) "__getattribute__" = some (some (.builtin "type.__getattribute__"))
  vi : PySem.W.findCls K (.ref B) mc "__init__" = some (.val (.builtin "ValueError.__init__"))
section
variable {X : Cx} {e : Expr} {es : List Expr} {ta : TA} {x : Str} {p1 p2 pos : Pos} {B : Addr} {mc : Value}
theorem pe_leinit {pl : Sem Bool} (hg : Gl X x) (hm : X.mg x = some (.ref B)) (T : MidC X.K B mc) (ha : PA X (e :: es) ta) (hdb : (x == ("__debug__" : Str)) = false := by decide)
    (hc : eval (.Call (.Attribute (.Name x p1) "__init__" p2) (e :: es) [] pos) X.env = (do
      let ov ← eval (.Name x p1) X.env
      standAt p2.atName
      let (f, first) ← holding [ov] (getMethod ov "__init__" pl)
      callWith pos f first (backTo pos (starEach (e :: es) X.env)) (backToKw pos (keywordEach [] X.env))) := by rfl)
    (he : starEach (e :: es) X.env = (false, eval e X.env) :: starEach es X.env := by rfl) (hpl : (backTo pos (starEach es X.env)).any (·.1) = false := by rfl) :
    PE X (.Call (.Attribute (.Name x p1) "__init__" p2) (e :: es) [] pos) (tVeI X.K ta) := by
  refine ⟨fun pins s σ H Q I h => PySem.W.methodCall_KW (ld_glob I hg hm ?_ hdb) hc⟩
  refine PySem.W.method_cls I.kIn T.ga (PySem.W.cls_value I.kIn T.rd T.vi rfl ?_)
  show wpAny _ _ (callWith pos (Value.builtin "ValueError.__init__") [] (backTo pos (starEach (e :: es) X.env)) []) _ _ _
  refine PyProof.Rows.callWith_method1 (thn (ha.run pos pins _ σ H _ (I.tok _) h) fun us s1 ⟨vs, H1, I1, r1, a, C, ws, ev, hl, TC, ea, q⟩ => ?_) he hpl
  subst ev
  cases r1 with
  | @cons _ u0 _ ur ra rw' =>
    obtain rfl : u0 = Value.ref a := ra
    exact oinit_ok TC I1 ea (by rw [← Paired.length rw', sizeLine_eq]; omega) fun s' J => ⟨.non, H1, J, rfl, q⟩
end
end TM
set_option maxRecDepth 100000
set_option maxHeartbeats 4000000
/-! Closures that outlive, or leave for a while, the frame that made them: their cells are told in the abstract heap. -/
namespace TM
open PySem PySem.Spec PyProof.Rows L2 LamX NdefX
/-- at c stands o -/
def CellX (c : Addr) (o : Obj) : HO := .ext fun h => h.get? c = some o
theorem cellX_ok {P : Program} {w : World} {H : Hp} {h : Heap} {c : Addr} {o : Obj} (e : h.get? c = some o) : ObjOk P w H h c (CellX c o) := ⟨e, ⟨o, e⟩, fun h1 h2 z k => k _ z⟩
theorem cellX_at {P : Program} {w : World} {H : Hp} {h : Heap} {c : Addr} {o : Obj} (hok : HOk P w H h) (e : H c = some (CellX c o)) : h.get? c = some o := by
  have z : ObjOk P w H h c (.ext fun h => h.get? c = some o) := hok c _ e
  exact z.1
theorem cellX_own {c : Addr} {o : Obj} {x : Addr} : CellX c o ≠ .own x := fun z => by
  have z' : HO.ext _ = HO.own x := z
  cases z'
theorem cellX_tup {c : Addr} {o : Obj} {xs : List V} : CellX c o ≠ .tup xs := fun z => by
  have z' : HO.ext _ = HO.tup xs := z
  cases z'
theorem cellX_frz {c : Addr} {o o' : Obj} {u : HO} : CellX c o ≠ .frz o' u := fun z => by
  have z' : HO.ext _ = HO.frz o' u := z
  cases z'
theorem cellX_tbl {c : Addr} {o : Obj} {ps : Array Value} : CellX c o ≠ .tbl ps := fun z => by
  have z' : HO.ext _ = HO.tbl ps := z
  cases z'
abbrev cas (cl : List (Str × Addr)) : List Addr := cl.map (·.2)
def hid (H : Hp) (cl : List (Str × Addr)) : Hp := fun b => if b ∈ cas cl then none else H b
def retr (H H' : Hp) (cl : List (Str × Addr)) : Hp := fun b => if b ∈ cas cl then H b else H' b
def expo (H : Hp) (cl : List (Str × Addr)) (ox : Addr → Obj) : Hp := fun b => if b ∈ cas cl then some (CellX b (ox b)) else H b
theorem hid_in {H : Hp} {cl : List (Str × Addr)} {b : Addr} (h : b ∈ cas cl) : hid H cl b = none := if_pos h
theorem hid_out {H : Hp} {cl : List (Str × Addr)} {b : Addr} (h : b ∉ cas cl) : hid H cl b = H b := if_neg h
theorem retr_in {H H' : Hp} {cl : List (Str × Addr)} {b : Addr} (h : b ∈ cas cl) : retr H H' cl b = H b := if_pos h
theorem retr_out {H H' : Hp} {cl : List (Str × Addr)} {b : Addr} (h : b ∉ cas cl) : retr H H' cl b = H' b := if_neg h
theorem expo_in {H : Hp} {cl : List (Str × Addr)} {ox : Addr → Obj} {b : Addr} (h : b ∈ cas cl) : expo H cl ox b = some (CellX b (ox b)) := if_pos h
theorem expo_out {H : Hp} {cl : List (Str × Addr)} {ox : Addr → Obj} {b : Addr} (h : b ∉ cas cl) : expo H cl ox b = H b := if_neg h
theorem cas_of {cl : List (Str × Addr)} {y : Str} {c : Addr} (h : cl.lookup y = some c) : c ∈ cas cl := List.mem_map.mpr ⟨(y, c), PySem.mem_of_lookup h, rfl⟩
/-- the cells cl are told: those of the names fr hold ws -/
structure ClX (H : Hp) (cl : List (Str × Addr)) (fr : List Str) (ws : List V) : Prop where
  len : ws.length = fr.length
  inj : ∀ x y c, cl.lookup x = some c → cl.lookup y = some c → x = y
  all : ∀ c ∈ cas cl, ∃ o v, o.data = .cell v ∧ H c = some (CellX c o)
  has : ∀ (i : Nat) (y : Str), fr[i]? = some y → ∃ c o v u, cl.lookup y = some c ∧ ws[i]? = some v ∧ RelV v u ∧ o.data = .cell (some u) ∧ H c = some (CellX c o)
theorem ClX.keep {H H' : Hp} {cl : List (Str × Addr)} {fr : List Str} {ws : List V} (C : ClX H cl fr ws) (k : ∀ c ∈ cas cl, H' c = H c) : ClX H' cl fr ws :=
  ⟨C.len, C.inj, fun c hc => by rw [k c hc]; exact C.all c hc, fun i y h => by
    obtain ⟨c, o, v, u, h1, h2, h3, h4, h5⟩ := C.has i y h
    exact ⟨c, o, v, u, h1, h2, h3, h4, by rw [k c (cas_of h1)]; exact h5⟩⟩
section
variable {X : Cx} {pins : List (Addr × Obj)} {σ : L2.St} {H : Hp} {s : Shared} {F : NF} {f : Addr} {fr : List Str} {ws : List V}
theorem ClX.apart (C : ClX H F.cl fr ws) (I : Inv X pins σ H s) {a : Addr} {o : Obj} (e : s.heap.get? a = some o) (n : ∀ v, o.data ≠ .cell v) : a ∉ cas F.cl := fun hm => by
  obtain ⟨ob, v, d, h⟩ := C.all a hm
  have z := cellX_at I.hok h
  rw [e] at z
  cases z
  exact n v d
theorem ClX.fn_out (C : ClX H F.cl fr ws) (I : Inv X pins σ H s) (hf : H f = some (FnO f F)) : f ∉ cas F.cl := by
  obtain ⟨od, sl, doc, pm, ctv, ho⟩ := fnO_at I.hok hf
  exact C.apart I ho (fun v z => by cases z)
theorem ClX.code_out (C : ClX H F.cl fr ws) (I : Inv X pins σ H s) {c : Addr} {q : Str} (hc : H c = some (CodeO c q)) : c ∉ cas F.cl := by
  obtain ⟨c2, oc, vs, t, e, h1, h2, h3⟩ := codeO_at I.hok hc
  cases e
  exact C.apart I h1 (fun v z => by rw [h2] at z; cases z)
theorem hok_hid {P : Program} {w : World} {H : Hp} {h : Heap} {cl : List (Str × Addr)} (hok : HOk P w H h) (ca : ∀ c ∈ cas cl, ∃ o, H c = some (CellX c o)) : HOk P w (hid H cl) h := fun b u e => by
  by_cases hb : b ∈ cas cl
  · rw [hid_in hb] at e; cases e
  · rw [hid_out hb] at e
    refine (hok b u e).stay (fun _ _ _ q => q) (fun c q => ?_) (fun c xs q => ?_)
    · rw [hid_out]
      · exact q
      · intro hm
        obtain ⟨o, z⟩ := ca c hm
        rw [q] at z
        exact cellX_own (Option.some.inj z).symm
    · rw [hid_out]
      · exact q
      · intro hm
        obtain ⟨o, z⟩ := ca c hm
        rw [q] at z
        exact cellX_tup (Option.some.inj z).symm
/-- a closure is called whose cells are told -/
theorem run_clo {k : Nat} {ps : List Str} {sp : List (Option V) → Sp} {Q : VK} {us : List Value} {vs : List V} (Fn : NOk X.prog X.w X.K X.mg X.base CX0 k f F ps fr sp) (hr : Room k X.A) (I : Inv X pins σ H s) (hf : H f = some (FnO f F)) (hc : H F.c = some (CodeO F.c F.qual))
    (C : ClX H F.cl fr ws) (r : Vals vs us) (q : sp (ws.map some) vs (hid H F.cl) (fun v H' => (∀ b ∈ cas F.cl, H' b = none) → Q v (retr H H' F.cl)) E0) : wpAny (model X.prog X.w) X.A (call (.ref f) us) (EP X pins σ Q) X.xe s := by
  have of := C.fn_out I hf
  have oc := C.code_out I hc
  have ca : ∀ c ∈ cas F.cl, ∃ o, H c = some (CellX c o) := fun c hc => let ⟨o, _, _, z⟩ := C.all c hc; ⟨o, z⟩
  have tr : ∀ {b : Addr}, b ∈ cas F.cl → H b ≠ none := fun hb z => by
    obtain ⟨o, e⟩ := ca _ hb
    rw [z] at e
    cases e
  have e0 := I.env0
  have e1 : Env0 X.prog X.w X.K X.mg X.base X.A X.stack s (hid H F.cl) := ⟨e0.frames, e0.mod, fun b o e => ⟨(e0.bs b o e).1, by
      by_cases hb : b ∈ cas F.cl
      · exact hid_in hb
      · rw [hid_out hb]; exact (e0.bs b o e).2⟩, e0.bsz, e0.funs, fun b hb => by
      by_cases hb2 : b ∈ cas F.cl
      · exact hid_in hb2
      · rw [hid_out hb2]; exact e0.frf b hb, hok_hid e0.hok ca, e0.bare⟩
  have CA : CellsAt F.cl fr (ws.map some) s.heap (hid H F.cl) := by
    refine ⟨by rw [List.length_map]; exact C.len, fun y c e => ⟨hid_in (cas_of e), ?_⟩, C.inj, fun i y e => ?_⟩
    · obtain ⟨o, v, d, z⟩ := C.all c (cas_of e)
      exact ⟨v, o, cellX_at I.hok z, d⟩
    · obtain ⟨c, o, v, u, h1, h2, h3, h4, h5⟩ := C.has i y e
      refine ⟨c, h1, fun v' ev => ⟨u, ?_, o, cellX_at I.hok h5, h4⟩⟩
      rw [List.getElem?_map, h2] at ev
      have ev2 : some v = some v' := Option.some.inj ev
      rw [← Option.some.inj ev2]
      exact h3
  refine wpAny_call (codeAny_mono (Fn.run X.A X.stack s (hid H F.cl) us vs (ws.map some) _ E0 hr e1 (by rw [hid_out of]; exact hf) (by rw [hid_out oc]; exact hc) CA r q) fun r s' hq => ?_)
  cases r with
  | error e => exact False.elim hq
  | ok fl =>
    cases fl with
    | next => exact False.elim hq
    | brk => exact False.elim hq
    | cont => exact False.elim hq
    | ret u =>
      obtain ⟨v, H', os, bare, un, hok, rv, q2⟩ := hq
      have none_cl : ∀ b ∈ cas F.cl, H' b = none := fun b hb => by
        obtain ⟨o, z⟩ := ca b hb
        exact un.free b o (cellX_at I.hok z) (hid_in hb) (by simp)
      have at_cl : ∀ b ∈ cas F.cl, ∀ o, H b = some (CellX b o) → s'.heap.get? b = some o := fun b hb o z => un.keep b o (cellX_at I.hok z) (hid_in hb) (fun hm => tr hb (I.stkFree b hm)) (by simp)
      refine I.after (Q := Q) ⟨v, retr H H' F.cl, os, bare, ?_, fun b u e => ?_, rv, q2 none_cl⟩
      · have out : ∀ {b : Addr}, H b = none → b ∉ cas F.cl := fun n hb => tr hb n
        refine ⟨fun b o e n hb hx => un.keep b o e (by rw [hid_out (out n)]; exact n) hb hx, fun b o e n hb hx => un.slot b o e (by rw [hid_out (out n)]; exact n) hb hx, fun b o e n hx => ?_, un.there, fun b xs e => ?_, fun b o u e => ?_, fun b ps e => ?_⟩
        · rw [retr_out (out n)]
          exact un.free b o e (by rw [hid_out (out n)]; exact n) hx
        · have hb : b ∉ cas F.cl := fun hm => by
            obtain ⟨o, z⟩ := ca b hm
            rw [e] at z
            exact cellX_tup (Option.some.inj z).symm
          rw [retr_out hb]
          exact un.tups b xs (by rw [hid_out hb]; exact e)
        · have hb : b ∉ cas F.cl := fun hm => by
            obtain ⟨o, z⟩ := ca b hm
            rw [e] at z
            exact cellX_frz (Option.some.inj z).symm
          rw [retr_out hb]
          exact un.frzs b o u (by rw [hid_out hb]; exact e)
        · have hb : b ∉ cas F.cl := fun hm => by
            obtain ⟨o, z⟩ := ca b hm
            rw [e] at z
            exact cellX_tbl (Option.some.inj z).symm
          rw [retr_out hb]
          exact un.tbls b ps (by rw [hid_out hb]; exact e)
      · by_cases hb : b ∈ cas F.cl
        · obtain ⟨o, z⟩ := ca b hb
          rw [retr_in hb, z] at e
          cases e
          exact cellX_ok (at_cl b hb o z)
        · rw [retr_out hb] at e
          have out : ∀ {c : Addr} {o : HO}, H' c = some o → c ∉ cas F.cl := fun e hm => by
            rw [none_cl _ hm] at e
            cases e
          exact (hok b u e).stay (fun _ _ _ z => z) (fun c z => by rw [retr_out (out z)]; exact z) (fun c xs z => by rw [retr_out (out z)]; exact z)
end
/-! ### calls -/
/-- what a call of the closure f asks behind the arguments -/
def kClo (mk : List (Str × Addr) → Addr → NF) (fr : List Str) (sp : List (Option V) → Sp) (f : Addr) (vs : List V) (H : Hp) (Q : VK) : Prop :=
  ∃ (cl : List (Str × Addr)) (c : Addr) (ws : List V), H f = some (FnO f (mk cl c)) ∧ H c = some (CodeO c (mk cl c).qual) ∧ ClX H cl fr ws ∧ sp (ws.map some) vs (hid H cl) (fun v H' => (∀ b ∈ cas cl, H' b = none) → Q v (retr H H' cl)) E0
/-- f(..), slot i holds the closure -/
def tCloV (mk : List (Str × Addr) → Addr → NF) (fr : List Str) (sp : List (Option V) → Sp) (i : Nat) (t : TA) : TE := fun σ H Q => ∃ f F, σ[i]? = some (some (.ref f)) ∧ H f = some (FnO f F) ∧ t σ H fun vs H1 => kClo mk fr sp f vs H1 Q
/-- o.m(..), the attribute m holds the closure -/
def tCloA (K : PySem.W.Frag) (mk : List (Str × Addr) → Addr → NF) (fr : List Str) (sp : List (Option V) → Sp) (m : Str) (to : TE) (t : TA) : TE := fun σ H Q => to σ H fun x H1 => ∃ a C dx fs f F, x = .ref a ∧ H1 a = some (.ins C dx fs) ∧ Cls K C ∧ NoAttr K C m ∧ fs.lookup m = some (.ref f) ∧ H1 f = some (FnO f F) ∧
  t σ H1 fun vs H2 => kClo mk fr sp f vs H2 Q
section
variable {X : Cx} {mk : List (Str × Addr) → Addr → NF} {fr ps : List Str} {sp : List (Option V) → Sp} {i j k : Nat} {x m : Str} {e o : Expr} {es : List Expr} {p pos apos : Pos} {t : TA} {to : TE}
theorem pe_cloV (Fn : ∀ f cl c, NOk X.prog X.w X.K X.mg X.base CX0 k f (mk cl c) ps fr sp) (hmk : ∀ cl c, (mk cl c).cl = cl ∧ (mk cl c).c = c) (hr : Room k X.A) (hN : X.N[i]? = some x) (hv : Vis X.env.scope x) (ha : PA X (e :: es) t)
    (hd : (x == ("__debug__" : Str)) = false := by decide) (hcd : (x == ("__classdict__" : Str)) = false := by decide) (he : starEach (e :: es) X.env = (false, eval e X.env) :: starEach es X.env := by rfl) (hpl : (backTo pos (starEach es X.env)).any (·.1) = false := by rfl) :
    PE X (.Call (.Name x p) (e :: es) [] pos) (tCloV mk fr sp i t) := by
  refine ⟨fun pins s σ H Q I ⟨f, F0, hs, hf, ht⟩ => ?_⟩
  refine wpAny_Call_Name_kw (thn ((pe_var (pos := p) hN hv hd hcd).run pins s σ H (fun v H1 => v = .ref f ∧ H1 = H) I ⟨.ref f, hs, rfl, rfl⟩) fun u s1 ⟨v, H1, I1, r1, ev, eH⟩ => ?_)
  subst ev
  rw [eH] at I1
  obtain rfl : u = Value.ref f := r1
  refine PySem.W.callWith_F (first := []) (fnAt_of I1 hf) (thn (ha.run pos pins s1 σ H _ I1 ht) fun us s2 ⟨vs, H2, I2, r, cl, c, ws, h1, h2, C, q⟩ => ⟨fnAt_of I2 h1, ?_⟩) he hpl
  obtain ⟨e1, e2⟩ := hmk cl c
  show wpAny _ _ (call (.ref f) us) _ _ _
  exact run_clo (Fn f cl c) hr I2 h1 (by rw [e2]; exact h2) (by rw [e1]; exact C) r (by rw [e1]; exact q)
theorem pe_cloA {pl : Sem Bool} (Fn : ∀ f cl c, NOk X.prog X.w X.K X.mg X.base CX0 k f (mk cl c) ps fr sp) (hmk : ∀ cl c, (mk cl c).cl = cl ∧ (mk cl c).c = c) (hr : Room k X.A) (ho : PE X o to) (ha : PA X (e :: es) t)
    (he : starEach (e :: es) X.env = (false, eval e X.env) :: starEach es X.env := by rfl) (hpl : (backTo pos (starEach es X.env)).any (·.1) = false := by rfl)
    (ht : eval (.Call (.Attribute o m apos) (e :: es) [] pos) X.env = (do
      let ov ← eval o X.env
      standAt apos.atName
      let (f, first) ← holding [ov] (getMethod ov m pl)
      callWith pos f first (backTo pos (starEach (e :: es) X.env)) (backToKw pos (keywordEach [] X.env))) := by rfl) :
    PE X (.Call (.Attribute o m apos) (e :: es) [] pos) (tCloA X.K mk fr sp m to t) := by
  refine ⟨fun pins s σ H Q I h => PySem.W.methodCall_KW (pl := pl) (thn (ho.run pins s σ H _ I h) fun u s1 ⟨y, H1, I1, ry, a, C, dx, fs, f, F0, ey, ea, c, n, l, hf, q⟩ => ?_) ht⟩
  subst ey
  obtain rfl : u = Value.ref a := ry
  obtain ⟨mA, O, _⟩ := ins_get I1.hok ea
  obtain ⟨od, J, _⟩ := O.look
  refine PySem.W.method_usual (r := none) I1.kIn J (PySem.W.plainGet_of (c.get m)).1 (PySem.W.plainGet_of (c.get m)).2 n rfl ?_
  refine getattr_ok I1 ea c n l fun u2 s2 I2 ru => ?_
  obtain rfl : u2 = Value.ref f := ru
  refine PySem.W.callWith_F (first := []) (fnAt_of I2 hf) (thn (ha.run pos pins s2 σ H1 _ I2 q) fun us s3 ⟨vs, H3, I3, r, cl, c, ws, h1, h2, C, q⟩ => ⟨fnAt_of I3 h1, ?_⟩) he hpl
  obtain ⟨e1, e2⟩ := hmk cl c
  show wpAny _ _ (call (.ref f) us) _ _ _
  exact run_clo (Fn f cl c) hr I3 h1 (by rw [e2]; exact h2) (by rw [e1]; exact C) r (by rw [e1]; exact q)
end
end TM
set_option maxRecDepth 100000
set_option maxHeartbeats 4000000
/-! A frame's own cells told for the time of a call; a closure returned. -/
namespace TM
open PySem PySem.Spec PyProof.Rows L2 LamX NdefX
section
variable {X : Cx} {pins : List (Addr × Obj)} {σ : L2.St} {H : Hp} {s : Shared} {cl : List (Str × Addr)} {fr : List Str} {js : List Nat} {ws : List V}
/-- the objects at the cells as they stand -/
def cellsNow (h : Heap) : Addr → Obj := fun c => (h.get? c).getD default
theorem now_at {h : Heap} {c : Addr} {o : Obj} (e : h.get? c = some o) : cellsNow h c = o := by
  unfold cellsNow
  rw [e] <;> rfl
theorem own_cells (I : Inv X pins σ H s) (sub : ∀ c ∈ cas cl, ∃ y, X.env.cells.lookup y = some c) : ∀ c ∈ cas cl, H c = none ∧ ∃ v, s.heap.get? c = some (cellsNow s.heap c) ∧ (cellsNow s.heap c).data = .cell v := fun c hc => by
  obtain ⟨y, hy⟩ := sub c hc
  obtain ⟨v, o, e, d⟩ := I.cell y c hy
  exact ⟨I.freeC y c hy, v, by rw [now_at e]; exact e, by rw [now_at e]; exact d⟩
theorem clx_now (I : Inv X pins σ H s) (cp : Caps X cl fr js) (sub : ∀ c ∈ cas cl, ∃ y, X.env.cells.lookup y = some c) (hws : js.map (fun j => σ[j]?) = ws.map (fun v => some (some v))) : ClX (expo H cl (cellsNow s.heap)) cl fr ws := by
  have CA := cells_of I cp
  have hlen : ws.length = js.length := by
    have q := congrArg List.length hws
    rw [List.length_map, List.length_map] at q
    exact q.symm
  refine ⟨hlen.trans (by have q := CA.len; rw [List.length_map] at q; exact q), CA.inj, fun c hc => ?_, fun i y hi => ?_⟩
  · obtain ⟨_, v, _, d⟩ := own_cells I sub c hc
    exact ⟨_, v, d, expo_in hc⟩
  · obtain ⟨c, hc, hv⟩ := CA.has i y hi
    have hil : i < ws.length := by
      have z := (List.getElem?_eq_some_iff.mp hi).1
      have q := CA.len
      rw [List.length_map] at q
      omega
    have hwi : ws[i]? = some ws[i] := List.getElem?_eq_getElem hil
    have hji : i < js.length := by omega
    have e1 : (js.map (fun j => σ[j]?))[i]? = some (some (some ws[i])) := by rw [hws, List.getElem?_map, hwi] <;> rfl
    rw [List.getElem?_map, List.getElem?_eq_getElem hji] at e1
    have e2 : σ[js[i]]? = some (some ws[i]) := Option.some.inj e1
    obtain ⟨u, ru, o, eo, d⟩ := hv ws[i] (by rw [List.getElem?_map, List.getElem?_eq_getElem hji]; exact congrArg some (slotAt_of e2))
    exact ⟨c, cellsNow s.heap c, ws[i], u, hc, hwi, ru, by rw [now_at eo]; exact d, expo_in (cas_of hc)⟩
theorem hok_expo {P : Program} {w : World} {H : Hp} {h : Heap} {ox : Addr → Obj} (hok : HOk P w H h) (no : ∀ c ∈ cas cl, H c = none) (at_ : ∀ c ∈ cas cl, h.get? c = some (ox c)) : HOk P w (expo H cl ox) h := fun b u e => by
  by_cases hb : b ∈ cas cl
  · rw [expo_in hb] at e
    cases e
    exact cellX_ok (at_ b hb)
  · rw [expo_out hb] at e
    have out : ∀ {c : Addr} {o : HO}, H c = some o → c ∉ cas cl := fun e hm => by
      rw [no _ hm] at e
      cases e
    exact (hok b u e).stay (fun _ _ _ z => z) (fun c z => by rw [expo_out (out z)]; exact z) fun c xs z => by rw [expo_out (out z)]; exact z
end
/-! ### f(..), the frame's cells told meanwhile -/
def tExp (cl : List (Str × Addr)) (fr : List Str) (js : List Nat) (sp : Sp) (t : TA) : TE := fun σ H Q => ∃ ws : List V, js.map (fun j => σ[j]?) = ws.map (fun v => some (some v)) ∧
  t σ H fun vs H1 => ∀ ox : Addr → Obj, (∀ c ∈ cas cl, H1 c = none) → ClX (expo H1 cl ox) cl fr ws → sp vs (expo H1 cl ox) (fun v H' => (∀ c ∈ cas cl, H' c = some (CellX c (ox c))) ∧ Q v (hid H' cl)) E0
section
variable {X : Cx} {cl : List (Str × Addr)} {fr ps : List Str} {js : List Nat} {k : Nat} {f : Addr} {fd : FuncData} {sp : Sp} {x : Str} {p pos : Pos} {e : Expr} {es : List Expr} {t : TA}
theorem pe_callExp (F : FnOk X.prog X.w X.K X.mg X.base CX0 k f fd ps sp) (hr : Room k X.A) (hg : Gl X x) (hm : X.mg x = some (.ref f)) (hk : PySem.W.keepIn X.K (.ref f) = true) (hb : Binds X.K fd ps []) (hfn : ∀ y, X.fn y = true) (cp : X.Ok → Caps X cl fr js)
    (sub : X.Ok → ∀ c ∈ cas cl, ∃ y, X.env.cells.lookup y = some c) (ha : PA X (e :: es) t)
    (hdb : (x == ("__debug__" : Str)) = false := by decide) (he : starEach (e :: es) X.env = (false, eval e X.env) :: starEach es X.env := by rfl) (hpl : (backTo pos (starEach es X.env)).any (·.1) = false := by rfl) :
    PE X (.Call (.Name x p) (e :: es) [] pos) (tExp cl fr js sp t) := by
  refine ⟨fun pins s σ H Q I ⟨ws, hws, h⟩ => wpAny_Call_Name_kw (ld_glob I hg hm ?_ hdb)⟩
  refine PySem.W.callWith_K (h₀ := X.base) I.ok.mod.kin hk (thn (ha.run pos pins s σ H _ I h) fun us s1 ⟨vs, H1, I1, r, q⟩ => ⟨I1.kIn, ?_⟩) he hpl
  have sub := sub I1.ok
  have oc := own_cells I1 sub
  have no : ∀ c ∈ cas cl, H1 c = none := fun c hc => (oc c hc).1
  have at1 : ∀ c ∈ cas cl, s1.heap.get? c = some (cellsNow s1.heap c) := fun c hc => let ⟨_, _, z, _⟩ := oc c hc; z
  have q1 := q (cellsNow s1.heap) no (clx_now I1 (cp I1.ok) sub hws)
  have out : ∀ {c : Addr} {o : HO}, H1 c = some o → c ∉ cas cl := fun e hm => by
    rw [no _ hm] at e
    cases e
  have nfr : ∀ b ∈ frs X.stack, b ∉ cas cl := fun b hb hm => by
    obtain ⟨y, hy⟩ := sub b hm
    rcases List.mem_cons.mp (I1.stkSub b hb) with z | z
    · exact I1.cne y b hy z
    · obtain ⟨_, o, e2, _⟩ := I1.ok.funs.mem z
      exact absurd (Nat.lt_of_lt_of_le (Heap.lt_size e2) (I1.ok.cab y b (hfn y) hy)) (Nat.lt_irrefl _)
  have e0 := I1.env0
  have nb : ∀ b o, X.base.get? b = some o → b ∉ cas cl := fun b o e hm => by
    obtain ⟨y, hy⟩ := sub b hm
    exact absurd (Nat.lt_of_lt_of_le (Heap.lt_size (I1.ok.bs b o e).1) (I1.ok.cab y b (hfn y) hy)) (Nat.lt_irrefl _)
  have e1 : Env0 X.prog X.w X.K X.mg X.base X.A X.stack s1 (expo H1 cl (cellsNow s1.heap)) :=
    ⟨e0.frames, e0.mod, fun b o e => ⟨(e0.bs b o e).1, by rw [expo_out (nb b o e)]; exact (e0.bs b o e).2⟩, e0.bsz, e0.funs, fun b hb => by rw [expo_out (nfr b hb)]; exact e0.frf b hb, hok_expo e0.hok no at1, e0.bare⟩
  have hl : us.length = ps.length := by rw [← r.length]; exact F.len _ _ _ _ q1
  have b := hb s1 us I1.kIn (by rw [List.append_nil]; exact hl)
  rw [List.append_nil] at b
  show wpAny _ _ (call (.ref f) us) _ _ _
  refine wpAny_call (codeAny_mono (F.run X.A X.stack s1 _ ⟨us, []⟩ us vs _ E0 hr e1 b r q1) fun r s' hq => ?_)
  cases r with
  | error e => exact False.elim hq
  | ok fl =>
    cases fl with
    | next => exact False.elim hq
    | brk => exact False.elim hq
    | cont => exact False.elim hq
    | ret u =>
      obtain ⟨v, H', os, bare, un, hok, rv, q2, q3⟩ := hq
      have at2 : ∀ c ∈ cas cl, s'.heap.get? c = some (cellsNow s1.heap c) := fun c hc => cellX_at hok (q2 c hc)
      refine I1.after (Q := Q) ⟨v, hid H' cl, os, bare, ?_, hok_hid hok fun c hc => ⟨_, q2 c hc⟩, rv, q3⟩
      refine ⟨fun b o e n hb hx => ?_, fun b o e n hb hx => ?_, fun b o e n hx => ?_, un.there, fun b xs e => ?_, fun b o u e => ?_, fun b ps e => ?_⟩
      · by_cases hm : b ∈ cas cl
        · rw [at1 b hm] at e
          rw [at2 b hm]
          exact e
        · exact un.keep b o e (by rw [expo_out hm]; exact n) hb hx
      · by_cases hm : b ∈ cas cl
        · rw [at1 b hm] at e
          exact ⟨o.slots, by rw [at2 b hm]; exact e⟩
        · exact un.slot b o e (by rw [expo_out hm]; exact n) hb hx
      · by_cases hm : b ∈ cas cl
        · exact hid_in hm
        · rw [hid_out hm]
          exact un.free b o e (by rw [expo_out hm]; exact n) hx
      · rw [hid_out (out e)]
        exact un.tups b xs (by rw [expo_out (out e)]; exact e)
      · rw [hid_out (out e)]
        exact un.frzs b o u (by rw [expo_out (out e)]; exact e)
      · rw [hid_out (out e)]
        exact un.tbls b ps (by rw [expo_out (out e)]; exact e)
end
theorem cas_clo {cells : List (Str × Addr)} {names : List (Str × NameKind)} (hfree : ∀ y ∈ names, y.2 = .free → ∃ c, cells.lookup y.1 = some c) : ∀ c ∈ cas (cloFrom cells names []), ∃ y, cells.lookup y = some c := fun c hc => by
  obtain ⟨p, hp, e⟩ := List.mem_map.mp hc
  rcases cloFrom_mem (n := p.1) (c := p.2) hp with hm | ⟨h1, h2⟩
  · cases hm
  · obtain ⟨c1, hc1⟩ := hfree _ h1 rfl
    have hc1 : cells.lookup p.1 = some c1 := hc1
    refine ⟨p.1, ?_⟩
    rw [hc1] at h2 ⊢
    have h3 : p.2 = c1 := h2
    rw [← h3, e]
/-! ### def ..: def inner ..; return inner -/
section
variable {P : Program} {w : World} {K : PySem.W.Frag} {mg : Str → Option Value} {base : Heap} {x qual : Str} {params : Arguments} {body : List Stmt} {scope : Scope} {dvs : List V} {kws : List (Str × V)} {f : Addr} {fd : FuncData}
/-- what is wanted of the value that is returned, the cells told -/
def RetX (cl : List (Str × Addr)) (fr : List Str) (js : List Nat) (Q : VK) (σ : L2.St) (v : V) (H : Hp) : Prop := ∃ ws : List V, js.map (fun j => σ[j]?) = ws.map (fun v => some (some v)) ∧ ∀ ox : Addr → Obj, (∀ c ∈ cas cl, H c = none) → ClX (expo H cl ox) cl fr ws → Q v (expo H cl ox)
theorem fun_escape {N ps fr : List Str} {js : List Nat} {k : Nat} {sp : Sp} {st : Stmt} {e : Expr} {rpos : Pos} {nsc : Scope} (F : FunD K x qual params body scope dvs kws f fd) (hB : body = [st, .Return (some e) rpos]) (S : FnScope N ps scope) (len : ∀ vs H Q E, sp vs H Q E → vs.length = ps.length)
    (hfree : ∀ y ∈ nsc.names, y.2 = .free → scope.names.lookup y.1 = some .cell ∨ scope.names.lookup y.1 = some .free)
    (hbody : ∀ (cdv : Value) (A : Around) (outer : List Env) (s : Shared) (H : Hp) (vs : List V) (Q : VK) (E : XK), fd.code = cdv → Room k (A.deeper (envOfC qual scope s.heap.objs.size f cdv)) → sp vs H Q E →
      ∃ t1 te, PS (cxOf CX0 P w K mg base N qual scope f cdv A outer s H E) st t1 ∧ PE (cxOf CX0 P w K mg base N qual scope f cdv A outer s H E) e te ∧ ((cxOf CX0 P w K mg base N qual scope f cdv A outer s H E).Ok → Caps (cxOf CX0 P w K mg base N qual scope f cdv A outer s H E) (cloFrom (envOfC qual scope s.heap.objs.size f cdv).cells nsc.names []) fr js) ∧
        t1 { nx := fun σ1 H1 => te σ1 H1 (RetX (cloFrom (envOfC qual scope s.heap.objs.size f cdv).cells nsc.names []) fr js Q σ1), rt := fun _ _ => False } (start N vs) H) : FnOk P w K mg base CX0 (k + 1) f fd ps sp := by
  obtain ⟨oc, od, dV, kV, doc, pm, an, cdv, ct, osl, rfl, lk, hcd, _, _⟩ := F.ex
  subst hB
  refine ⟨len, fun A outer s H args us vs Q E hr e0 hb r hsp => ?_⟩
  have hl := len _ _ _ _ hsp
  have KX : K.In s.heap := e0.mod.kin.keeps fun b o e => (e0.bs b o e).1
  have lim : s.heap.NoLimit := e0.mod.nolimit.keeps fun b o e => (e0.bs b o e).1
  have hkind : ∀ y ∈ ps.zip us, scope.names.lookup y.1 = some .local ∨ (scope.names.lookup y.1 = some .cell ∧ ((cellsFrom (s.heap.objs.size + 1) scope.names []).lookup y.1).isSome = true) := fun ⟨n, v⟩ hy =>
    (S.par n (List.of_mem_zip hy).1).elim .inl fun q => .inr ⟨q, PySem.W.cellsFrom_some _ _ _ (.inl q)⟩
  refine codeAny_call_function hr.depth (KX _ _ lk) rfl S.co S.gen rfl (PySem.W.codeRec_of KX hcd) (hb _ _ _ _ ?_)
  refine wpAny_newFunctionEnv_cells S.kind hkind fun env he s1 xx => ?_
  subst he
  refine ⟨lim.keeps xx.toInCall.keep, codeAny_func ?_⟩
  obtain ⟨t1, te, h1, h2, cp, hq⟩ := hbody cdv A outer s H vs Q E rfl (hr.deeper _) hsp
  have I : Inv (cxOf CX0 P w K mg base N qual scope f cdv A outer s H E) [] (start N vs) H s1 := inv_start S hr.hd e0 hl r xx
  refine wpAny_execs_cons (wpAny_mono (h1.run [] s1 (start N vs) H _ I hq) (fun fl s2 hs => ?_) fun e s' hs => hs)
  cases fl with
  | ret u =>
    obtain ⟨_, _, _, _, _, z⟩ := hs
    exact False.elim z
  | brk =>
    obtain ⟨_, _, _, z⟩ := hs
    exact False.elim z
  | cont =>
    obtain ⟨_, _, _, z⟩ := hs
    exact False.elim z
  | next =>
    obtain ⟨σ1, H1, I1, q1⟩ := hs
    refine wpAny_execs_cons (wpAny_Return_some (wpAny_mono (h2.run [] s2 σ1 H1 _ I1 q1) (fun u s3 ⟨v, H2, I2, rv, ws, hws, q2⟩ => ?_) fun e s' hs => hs))
    have hfr : ∀ y ∈ nsc.names, y.2 = .free → ∃ c, (envOfC qual scope s.heap.objs.size f cdv).cells.lookup y.1 = some c := fun y hy e => (hfree y hy e).elim (fun z => I2.ok.has _ (.inl z)) fun z => I2.ok.has _ (.inr z)
    have sub := cas_clo hfr
    have oc2 := own_cells (X := cxOf CX0 P w K mg base N qual scope f cdv A outer s H E) I2 sub
    have no : ∀ c ∈ cas (cloFrom (envOfC qual scope s.heap.objs.size f cdv).cells nsc.names []), H2 c = none := fun c hc => (oc2 c hc).1
    have at2 : ∀ c ∈ cas (cloFrom (envOfC qual scope s.heap.objs.size f cdv).cells nsc.names []), s3.heap.get? c = some (cellsNow s3.heap c) := fun c hc => let ⟨_, _, z, _⟩ := oc2 c hc; z
    have q3 := q2 (cellsNow s3.heap) no (clx_now I2 (cp I2.ok) sub hws)
    have new : ∀ c ∈ cas (cloFrom (envOfC qual scope s.heap.objs.size f cdv).cells nsc.names []), s.heap.objs.size ≤ c := fun c hc => let ⟨y, hy⟩ := sub c hc; I2.ok.cab y c rfl hy
    have old : ∀ {b : Addr}, b < s.heap.objs.size → b ∉ cas (cloFrom (envOfC qual scope s.heap.objs.size f cdv).cells nsc.names []) := fun hb hm => absurd (Nat.lt_of_lt_of_le hb (new _ hm)) (Nat.lt_irrefl _)
    have un := I2.base
    refine ⟨v, expo H2 _ (cellsNow s3.heap), I2.os, I2.bare, ⟨un.keep, un.slot, fun b o e n hx => ?_, un.there, fun b xs e => ?_, fun b o u e => ?_, fun b ps e => ?_⟩, hok_expo I2.hok no at2, rv, q3⟩
    · rw [expo_out (old (Heap.lt_size e))]
      exact un.free b o e n hx
    · rw [expo_out (old (e0.hok.lt e))]
      exact un.tups b xs e
    · rw [expo_out (old (e0.hok.lt e))]
      exact un.frzs b o u e
    · rw [expo_out (old (e0.hok.lt e))]
      exact un.tbls b ps e
end
end TM
set_option maxHeartbeats 1000000
/-! The mathematics: rows merged, lines, papers. -/
namespace TM
section
variable {α : Type} [DecidableEq α]
def isFree (x : α) (rows : List (List α)) : Bool := rows.all fun r => !decide (x ∈ r.drop 1)
def nextFrom (all : List (List α)) : List (List α) → Option α
  | [] => none
  | [] :: rs => nextFrom all rs
  | (x :: _) :: rs => if isFree x all = true then some x else nextFrom all rs
def nextFree (rows : List (List α)) : Option α := nextFrom rows rows
def dropX (x : α) (r : List α) : List α := r.filter fun y => decide (y ≠ x)
def without (rows : List (List α)) (x : α) : List (List α) := rows.map (dropX x)
def tot (rows : List (List α)) : Nat := (rows.map List.length).sum
def mergeN : Nat → List (List α) → Option (List α)
  | 0, _ => some []
  | n + 1, rows => if rows.all List.isEmpty = true then some [] else match nextFree rows with
    | none => none
    | some x => (mergeN n (without rows x)).map (x :: ·)
def merged (rows : List (List α)) : Option (List α) := mergeN (tot rows) rows
theorem nextFrom_mem {all : List (List α)} {x : α} : ∀ {rs : List (List α)}, nextFrom all rs = some x → ∃ t, (x :: t) ∈ rs
  | [], h => by cases h
  | [] :: rs, h => by
    obtain ⟨t, ht⟩ := nextFrom_mem (rs := rs) h
    exact ⟨t, List.mem_cons_of_mem _ ht⟩
  | (y :: t) :: rs, h => by
    unfold nextFrom at h
    split at h
    · cases h
      exact ⟨t, List.mem_cons_self⟩
    · obtain ⟨t, ht⟩ := nextFrom_mem (rs := rs) h
      exact ⟨t, List.mem_cons_of_mem _ ht⟩
theorem dropX_le (x : α) (r : List α) : (dropX x r).length ≤ r.length := List.length_filter_le _ _
theorem dropX_lt {x : α} : ∀ {r : List α}, x ∈ r → (dropX x r).length < r.length
  | y :: r, h => by
    by_cases e : y = x
    · have : dropX x (y :: r) = dropX x r := by simp [dropX, e]
      rw [this]
      exact Nat.lt_succ_of_le (dropX_le x r)
    · have hr : x ∈ r := (List.mem_cons.mp h).resolve_left fun z => e z.symm
      have : dropX x (y :: r) = y :: dropX x r := by simp [dropX, e]
      rw [this]
      exact Nat.succ_lt_succ (dropX_lt hr)
theorem tot_cons (r : List α) (rs : List (List α)) : tot (r :: rs) = r.length + tot rs := by simp [tot]
theorem tot_without_le (x : α) : ∀ rs : List (List α), tot (without rs x) ≤ tot rs
  | [] => Nat.le_refl _
  | r :: rs => by
    have h1 := tot_without_le x rs
    have h2 := dropX_le x r
    show tot (dropX x r :: without rs x) ≤ _
    rw [tot_cons, tot_cons]
    omega
theorem tot_without_lt {x : α} : ∀ {rs : List (List α)} {r : List α}, r ∈ rs → x ∈ r → tot (without rs x) < tot rs
  | r0 :: rs, r, h, hx => by
    show tot (dropX x r0 :: without rs x) < _
    rw [tot_cons, tot_cons]
    rcases List.mem_cons.mp h with e | h
    · subst e
      have := dropX_lt hx
      have := tot_without_le x rs
      omega
    · have := tot_without_lt h hx
      have := dropX_le x r0
      omega
theorem tot_zero {rows : List (List α)} (h : tot rows = 0) : rows.all List.isEmpty = true := by
  induction rows with
  | nil => rfl
  | cons r rs ih =>
    rw [tot_cons] at h
    have h1 : r.length = 0 := by omega
    have h2 : r = [] := List.length_eq_zero_iff.mp h1
    rw [List.all_cons, h2, ih (by omega)]
    rfl
theorem mergeN_fuel : ∀ {n m : Nat} {rows : List (List α)}, tot rows ≤ n → tot rows ≤ m → mergeN n rows = mergeN m rows
  | 0, 0, rows, _, _ => rfl
  | 0, m + 1, rows, h, _ => by
    show some [] = (if rows.all List.isEmpty = true then some [] else _)
    rw [if_pos (tot_zero (by omega))]
  | n + 1, 0, rows, _, h => by
    show (if rows.all List.isEmpty = true then some [] else _) = some []
    rw [if_pos (tot_zero (by omega))]
  | n + 1, m + 1, rows, h1, h2 => by
    unfold mergeN
    split
    · rfl
    · cases e : nextFree rows with
      | none => rfl
      | some x =>
        obtain ⟨t, ht⟩ := nextFrom_mem e
        have hl := tot_without_lt ht (List.mem_cons_self (a := x) (l := t))
        show Option.map _ (mergeN n (without rows x)) = Option.map _ (mergeN m (without rows x))
        rw [mergeN_fuel (n := n) (m := m) (by omega) (by omega)]
theorem merged_done {rows : List (List α)} (h : rows.all List.isEmpty = true) : merged rows = some [] := by
  unfold merged
  cases tot rows with
  | zero => rfl
  | succ n =>
    show (if rows.all List.isEmpty = true then some [] else _) = some []
    rw [if_pos h]
theorem merged_stuck {rows : List (List α)} (h : rows.all List.isEmpty = false) (hn : nextFree rows = none) : merged rows = none := by
  unfold merged
  cases e : tot rows with
  | zero =>
    rw [tot_zero e] at h
    cases h
  | succ n =>
    show (if rows.all List.isEmpty = true then some [] else _) = none
    rw [if_neg (by rw [h]; exact Bool.false_ne_true), hn]
theorem merged_step {rows : List (List α)} {x : α} (h : rows.all List.isEmpty = false) (hn : nextFree rows = some x) : merged rows = (merged (without rows x)).map (x :: ·) := by
  obtain ⟨t, ht⟩ := nextFrom_mem hn
  have hl := tot_without_lt ht (List.mem_cons_self (a := x) (l := t))
  unfold merged
  cases e : tot rows with
  | zero => omega
  | succ n =>
    show (if rows.all List.isEmpty = true then some [] else _) = _
    rw [if_neg (by rw [h]; exact Bool.false_ne_true), hn]
    show Option.map _ (mergeN n (without rows x)) = _
    rw [mergeN_fuel (n := n) (m := tot (without rows x)) (by omega) (Nat.le_refl _)]
theorem mem_without {x y : α} {rows : List (List α)} {r : List α} (h : r ∈ without rows x) (hy : y ∈ r) : y ≠ x ∧ ∃ r' ∈ rows, y ∈ r' := by
  obtain ⟨r', hr, e⟩ := List.mem_map.mp h
  subst e
  obtain ⟨h1, h2⟩ := List.mem_filter.mp hy
  exact ⟨of_decide_eq_true h2, r', hr, h1⟩
theorem merged_good : ∀ (n : Nat) {rows : List (List α)} {l : List α}, tot rows ≤ n → merged rows = some l → l.Nodup ∧ ∀ y ∈ l, ∃ r ∈ rows, y ∈ r
  | n, rows, l, hn, h => by
    cases ha : rows.all List.isEmpty with
    | true =>
      rw [merged_done ha] at h
      cases h
      exact ⟨List.nodup_nil, fun y hy => by cases hy⟩
    | false =>
      cases e : nextFree rows with
      | none =>
        rw [merged_stuck ha e] at h
        cases h
      | some x =>
        rw [merged_step ha e] at h
        obtain ⟨m, hm, rfl⟩ := Option.map_eq_some_iff.mp h
        obtain ⟨t, ht⟩ := nextFrom_mem e
        have hl := tot_without_lt ht (List.mem_cons_self (a := x) (l := t))
        match n, hn with
        | 0, hn => omega
        | n + 1, hn =>
          obtain ⟨g1, g2⟩ := merged_good n (rows := without rows x) (by omega) hm
          refine ⟨List.nodup_cons.mpr ⟨fun hx => ?_, g1⟩, fun y hy => ?_⟩
          · obtain ⟨r, hr, hxr⟩ := g2 x hx
            exact (mem_without hr hxr).1 rfl
          · rcases List.mem_cons.mp hy with e2 | hy
            · subst e2
              exact ⟨_, ht, List.mem_cons_self⟩
            · obtain ⟨r, hr, hyr⟩ := g2 y hy
              exact (mem_without hr hyr).2
/-! ### lines -/
def lookL (L : List (α × List α)) (n : α) : List α := (L.lookup n).getD []
def rowsOf (L : List (α × List α)) (es : List α) : List (List α) := es.map (lookL L) ++ [es]
def linesFrom (L : List (α × List α)) : List (α × List α) → Option (List (α × List α))
  | [] => some L
  | (n, es) :: r => match merged (rowsOf L es) with
    | some m => linesFrom (L ++ [(n, n :: m)]) r
    | none => none
def linesF (E : List (α × List α)) : Option (List (α × List α)) := linesFrom [] E
def keysE (E : List (α × List α)) : List α := E.map (·.1)
def wfFrom (ks : List α) : List (α × List α) → Prop
  | [] => True
  | (n, es) :: r => n ∉ ks ∧ (∀ e ∈ es, e ∈ ks) ∧ wfFrom (ks ++ [n]) r
def wf (E : List (α × List α)) : Prop := wfFrom [] E
def GoodL (L : List (α × List α)) : Prop := (keysE L).Nodup ∧ ∀ p ∈ L, p.2.Nodup ∧ (∃ m, p.2 = p.1 :: m) ∧ ∀ y ∈ p.2, y ∈ keysE L
theorem keysE_append (A B : List (α × List α)) : keysE (A ++ B) = keysE A ++ keysE B := List.map_append ..
theorem linesFrom_cons (L : List (α × List α)) (n : α) (es : List α) (r : List (α × List α)) : linesFrom L ((n, es) :: r) = (match merged (rowsOf L es) with
    | some m => linesFrom (L ++ [(n, n :: m)]) r
    | none => none) := rfl
theorem linesFrom_append : ∀ (E1 E2 L : List (α × List α)), linesFrom L (E1 ++ E2) = (linesFrom L E1).bind fun L' => linesFrom L' E2
  | [], E2, L => rfl
  | (n, es) :: r, E2, L => by
    show linesFrom L ((n, es) :: (r ++ E2)) = _
    rw [linesFrom_cons, linesFrom_cons]
    cases e : merged (rowsOf L es) with
    | none => rfl
    | some m => exact linesFrom_append r E2 _
theorem lines_keys : ∀ {E L L' : List (α × List α)}, linesFrom L E = some L' → keysE L' = keysE L ++ keysE E
  | [], L, L', h => by
    cases h
    simp [keysE]
  | (n, es) :: r, L, L', h => by
    unfold linesFrom at h
    cases e : merged (rowsOf L es) with
    | none => rw [e] at h; cases h
    | some m =>
      rw [e] at h
      rw [lines_keys (E := r) h, keysE_append, List.append_assoc]
      rfl
theorem lookup_mem {n : α} {l : List α} : ∀ {L : List (α × List α)}, L.lookup n = some l → (n, l) ∈ L
  | (k, v) :: r, h => by
    rw [List.lookup_cons] at h
    cases hb : n == k with
    | true =>
      rw [hb] at h
      have e : v = l := Option.some.inj h
      rw [e, beq_iff_eq.mp hb]
      exact List.mem_cons_self
    | false =>
      rw [hb] at h
      exact List.mem_cons_of_mem _ (lookup_mem (L := r) h)
theorem lookL_sub {L : List (α × List α)} (g : GoodL L) (n : α) : ∀ y ∈ lookL L n, y ∈ keysE L := fun y hy => by
  unfold lookL at hy
  cases e : L.lookup n with
  | none =>
    rw [e] at hy
    cases hy
  | some l =>
    rw [e] at hy
    exact (g.2 (n, l) (lookup_mem e)).2.2 y hy
theorem good_step {L : List (α × List α)} {n : α} {es m : List α} (g : GoodL L) (hn : n ∉ keysE L) (he : ∀ e ∈ es, e ∈ keysE L) (hm : merged (rowsOf L es) = some m) : GoodL (L ++ [(n, n :: m)]) := by
  obtain ⟨m1, m2⟩ := merged_good _ (Nat.le_refl _) hm
  have sub : ∀ y ∈ m, y ∈ keysE L := fun y hy => by
    obtain ⟨r, hr, hyr⟩ := m2 y hy
    rcases List.mem_append.mp hr with h | h
    · obtain ⟨e, _, rfl⟩ := List.mem_map.mp h
      exact lookL_sub g e y hyr
    · have e : r = es := by simpa using h
      subst e
      exact he y hyr
  refine ⟨?_, fun p hp => ?_⟩
  · rw [keysE_append]
    refine List.nodup_append.mpr ⟨g.1, by simp [keysE], fun a ha b hb => ?_⟩
    have e : b = n := by simpa [keysE] using hb
    subst e
    exact fun z => hn (z ▸ ha)
  · have key : ∀ y ∈ keysE L, y ∈ keysE (L ++ [(n, n :: m)]) := fun y hy => by rw [keysE_append]; exact List.mem_append_left _ hy
    rcases List.mem_append.mp hp with h | h
    · obtain ⟨a, b, c⟩ := g.2 p h
      exact ⟨a, b, fun y hy => key y (c y hy)⟩
    · have e : p = (n, n :: m) := by simpa using h
      subst e
      refine ⟨List.nodup_cons.mpr ⟨fun z => hn (sub n z), m1⟩, ⟨m, rfl⟩, fun y hy => ?_⟩
      rcases List.mem_cons.mp hy with e | h
      · subst e
        rw [keysE_append]
        exact List.mem_append_right _ (by simp [keysE])
      · exact key y (sub y h)
theorem lines_good : ∀ {E L L' : List (α × List α)}, GoodL L → wfFrom (keysE L) E → linesFrom L E = some L' → GoodL L'
  | [], L, L', g, _, h => by
    cases h
    exact g
  | (n, es) :: r, L, L', g, w, h => by
    unfold linesFrom at h
    obtain ⟨w1, w2, w3⟩ := w
    cases e : merged (rowsOf L es) with
    | none => rw [e] at h; cases h
    | some m =>
      rw [e] at h
      refine lines_good (E := r) (good_step g w1 w2 e) ?_ h
      rw [keysE_append]
      exact w3
theorem good_nil : GoodL ([] : List (α × List α)) := ⟨List.nodup_nil, fun p hp => by cases hp⟩
theorem linesF_good {E L : List (α × List α)} (w : wf E) (h : linesF E = some L) : GoodL L := lines_good good_nil w h
theorem linesF_keys {E L : List (α × List α)} (h : linesF E = some L) : keysE L = keysE E := by
  have := lines_keys h
  simpa [keysE] using this
theorem linesF_snoc {E L : List (α × List α)} (h : linesF E = some L) (n : α) (es : List α) : linesF (E ++ [(n, es)]) = (merged (rowsOf L es)).map fun m => L ++ [(n, n :: m)] := by
  unfold linesF at h ⊢
  rw [linesFrom_append, h]
  show (match merged (rowsOf L es) with
    | some m => linesFrom (L ++ [(n, n :: m)]) []
    | none => none) = _
  cases merged (rowsOf L es) <;> rfl
theorem merged_nil : merged ([[]] : List (List α)) = some [] := rfl
theorem linesF_alone {E L : List (α × List α)} (h : linesF E = some L) (n : α) : linesF (E ++ [(n, [])]) = some (L ++ [(n, [n])]) := by
  rw [linesF_snoc h]
  have e : rowsOf L ([] : List α) = [[]] := rfl
  rw [e, merged_nil]
  rfl
theorem wfFrom_append : ∀ {E1 E2 : List (α × List α)} {ks : List α}, wfFrom ks E1 → wfFrom (ks ++ keysE E1) E2 → wfFrom ks (E1 ++ E2)
  | [], E2, ks, _, h => by simpa [keysE] using h
  | (n, es) :: r, E2, ks, ⟨h1, h2, h3⟩, h => ⟨h1, h2, wfFrom_append (E1 := r) h3 (by rw [List.append_assoc]; exact h)⟩
theorem wf_snoc {E : List (α × List α)} {n : α} {es : List α} (w : wf E) (hn : n ∉ keysE E) (he : ∀ e ∈ es, e ∈ keysE E) : wf (E ++ [(n, es)]) :=
  wfFrom_append w ⟨by simpa using hn, by simpa using he, trivial⟩
/-! ### papers -/
def paper (s : α → Int) : List α → List α × Option α × Int
  | [] => ([], none, 0)
  | k :: r => if 0 < s k then ([], some k, s k) else (k :: (paper s r).1, (paper s r).2)
def rests (p : List α × Option α × Int) : List α := p.1 ++ p.2.1.toList
theorem paper_found {s : α → Int} : ∀ {line : List α} {i : Nat} {k : α}, (∀ j x, j < i → line[j]? = some x → ¬ 0 < s x) → line[i]? = some k → 0 < s k → paper s line = (line.take i, some k, s k)
  | x :: r, 0, k, _, h, hk => by
    have e : x = k := Option.some.inj h
    subst e
    show (if 0 < s x then _ else _) = _
    rw [if_pos hk]
    rfl
  | x :: r, i + 1, k, hj, h, hk => by
    have h0 := hj 0 x (Nat.succ_pos _) rfl
    show (if 0 < s x then _ else (x :: (paper s r).1, (paper s r).2)) = _
    rw [if_neg h0, paper_found (line := r) (i := i) (fun j y hj' hy => hj (j + 1) y (Nat.succ_lt_succ hj') hy) h hk]
    rfl
theorem paper_none {s : α → Int} : ∀ {line : List α}, (∀ x ∈ line, ¬ 0 < s x) → paper s line = (line, none, 0)
  | [], _ => rfl
  | x :: r, h => by
    show (if 0 < s x then _ else (x :: (paper s r).1, (paper s r).2)) = _
    rw [if_neg (h x List.mem_cons_self), paper_none fun y hy => h y (List.mem_cons_of_mem _ hy)]
theorem rests_prefix {s : α → Int} : ∀ line : List α, ∃ t, line = rests (paper s line) ++ t
  | [] => ⟨[], rfl⟩
  | x :: r => by
    unfold paper
    split
    · exact ⟨r, rfl⟩
    · obtain ⟨t, ht⟩ := rests_prefix (s := s) r
      refine ⟨t, ?_⟩
      show x :: r = x :: (rests (paper s r) ++ t)
      rw [← ht]
theorem paper_cong {s s' : α → Int} : ∀ {line : List α}, (∀ k ∈ line, s k = s' k) → paper s line = paper s' line
  | [], _ => rfl
  | x :: r, h => by
    unfold paper
    rw [h x List.mem_cons_self, paper_cong fun k hk => h k (List.mem_cons_of_mem _ hk)]
end
end TM
set_option maxRecDepth 100000
set_option maxHeartbeats 4000000
/-! The text by places; what is said of heaps. -/
namespace TM
open PySem PySem.Spec PyProof.Rows L2
structure DefAt (K : PySem.W.Frag) (mg : Str → Option Value) (x : Str) (st : Stmt) (ps : List Str) (f : Addr) (fd : FuncData) : Prop where
  F : FunD K x x (defArgs st) (defBody st) (defScope st) [] [] f fd
  g : mg x = some (.ref f)
  b : Binds K fd ps []
/-- a method, qual its qualified name; dv its defaults -/
structure MethAt (K : PySem.W.Frag) (C : Addr) (m qual : Str) (st : Stmt) (ps : List Str) (dvs : List V) (f : Addr) (fd : FuncData) : Prop where
  F : FunD K m qual (defArgs st) (defBody st) (defScope st) dvs [] f fd
  m : Meth K C m f
  b : Binds K fd ps []
abbrev vstr (l : List Str) : List V := l.map V.str
abbrev Lst (H : Hp) (a : Addr) (l : List Str) : Prop := H a = some (.lst (vstr l))
def Asc (x : Str) : Prop := x.cps.all (· < 128) = true
/-- at a a list of lists of names -/
structure Rws (H : Hp) (a : Addr) (rs : List (Addr × List Str)) : Prop where
  top : H a = some (.lst (rs.map fun p => V.ref p.1))
  row : ∀ p ∈ rs, Lst H p.1 p.2
  asc : ∀ p ∈ rs, ∀ x ∈ p.2, Asc x
abbrev rws (rs : List (Addr × List Str)) : List (List Str) := rs.map (·.2)
theorem Rws.keep {H H' : Hp} {a : Addr} {rs : List (Addr × List Str)} (r : Rws H a rs) (s : Same H H') : Rws H' a rs := ⟨s _ _ r.top, fun p hp => s _ _ (r.row p hp), r.asc⟩
theorem map_get {α β : Type} {l : List α} {f : α → β} {i : Nat} {x : β} (h : (l.map f)[i]? = some x) : ∃ y, l[i]? = some y ∧ x = f y := by
  rw [List.getElem?_map] at h
  obtain ⟨y, h1, h2⟩ := Option.map_eq_some_iff.mp h
  exact ⟨y, h1, h2.symm⟩
theorem flat_strs (l : List Str) : (vstr l).all flatV = true := by
  rw [List.all_eq_true]
  intro v hv
  obtain ⟨x, _, rfl⟩ := List.mem_map.mp hv
  rfl
theorem in_strs (x : Str) (l : List Str) : inV (.str x) (vstr l) = decide (x ∈ l) := by
  unfold inV
  induction l with
  | nil => rfl
  | cons y l ih =>
    show ((V.str y :: vstr l).any fun z => eqV z (.str x)) = _
    rw [List.any_cons, ih]
    have e : eqV (.str y) (.str x) = decide (x = y) := by
      show decide (y = x) = _
      by_cases h : y = x
      · rw [decide_eq_true h, decide_eq_true h.symm]
      · rw [decide_eq_false h, decide_eq_false fun z => h z.symm]
    rw [e]
    by_cases h : x = y
    · simp [h]
    · simp [h]
theorem cut_from1 (xs : List V) : cutV xs (some 1) none = xs.drop 1 := by
  have h : HT.sIx xs.length 0 (some 1) = min 1 xs.length := HT.sIx_nat xs.length 0 1
  unfold cutV
  rw [h, HT.sIx_none]
  cases xs with
  | nil => rfl
  | cons x r =>
    have e : min 1 (x :: r).length = 1 := by rw [List.length_cons]; omega
    rw [e]
    have e2 : ((x :: r).drop 1).length = (x :: r).length - 1 := by simp
    rw [← e2, List.take_length]
theorem _root_.L2.Same.nw {H : Hp} {p : Addr} {o : HO} (h : H p = none) : Same H (upd H p o) := fun b u e => by
  rw [upd_ne (ne_of_none e h)]
  exact e
theorem _root_.L2.Same.nw2 {H H' : Hp} {p : Addr} {o : HO} (s : Same H H') (h : H' p = none) : Same H (L2.upd H' p o) := fun b u e => by
  rw [upd_ne (ne_of_none (s _ _ e) h)]
  exact s _ _ e
theorem _root_.L2.Same.old2 {H H' : Hp} {p : Addr} {o : HO} (s : Same H H') (h : H p = none) : Same H (L2.upd H' p o) := fun b u e => by
  rw [upd_ne (ne_of_none e h)]
  exact s _ _ e
theorem size_small {n : Nat} (h : n ≤ 100000) : n ≤ sizeLine := by rw [sizeLine_eq]; omega
theorem size_lt {n : Nat} (h : n ≤ 100000) : n < sizeLine := by rw [sizeLine_eq]; omega
theorem roomM_hu {A : Around} {k : Nat} (hr : L2H.RoomH k A) : A.units + 1 < cLine := by have := hr.un; omega
theorem roomM_64 {A : Around} {k : Nat} (hr : L2H.RoomH k A) : A.units + 64 < cLine := by have := hr.un; omega
/-! ### data compared -/
theorem asc_ok {x : Str} (h : Asc x) : PyData.strOk x = true := by
  unfold PyData.strOk
  rw [Array.all_eq_true] at *
  intro i hi
  have := (Array.all_eq_true.mp (show x.cps.all (· < 128) = true from h)) i hi
  simp only [decide_eq_true_eq] at this ⊢
  omega
theorem can_strs : ∀ {l : List Str}, (∀ x ∈ l, Asc x) → PyData.canLayAll0 (l.map PyData.str) = true
  | [], _ => rfl
  | x :: l, h => by
    show (PyData.canLay0 (.str x) && PyData.canLayAll0 (l.map PyData.str)) = true
    rw [can_strs fun y hy => h y (List.mem_cons_of_mem _ hy), Bool.and_true]
    show PyData.strOk x = true
    exact asc_ok (h x List.mem_cons_self)
theorem deep_strs : ∀ l : List Str, PyData.depthAll (l.map PyData.str) = 0
  | [] => rfl
  | x :: l => by
    show max 0 (PyData.depthAll (l.map PyData.str)) = 0
    rw [deep_strs l]
    rfl
abbrev dStrs (l : List Str) : PyData := .list (l.map PyData.str)
theorem shaped_strs {l : List Str} (h : ∀ x ∈ l, Asc x) : SeqAt.shaped (dStrs l) = true := by
  show (PyData.canLayAll0 (l.map PyData.str) && decide (PyData.depthAll (l.map PyData.str) + 1 ≤ 64)) = true
  rw [can_strs h, deep_strs]
  rfl
theorem dpAll_strs {K : PySem.W.Frag} {H : Hp} : ∀ l : List Str, DpAll K H (vstr l) (l.map PyData.str)
  | [] => .nil
  | x :: l => .cons (.str x) (dpAll_strs l)
theorem dp_strs {K : PySem.W.Frag} {H : Hp} {a : Addr} {l : List Str} (h : SqL K H a (vstr l)) : Dp K H (.ref a) (dStrs l) := .lst h (dpAll_strs l)
theorem eqv_nilR (l : List Str) : PyData.eqv (dStrs l) (dStrs []) = l.isEmpty := by
  cases l <;> rfl
theorem eqv_same {d : PyData} (h : SeqAt.shaped d = true) : PyData.eqv d d = true := SeqAt.eqv_refl d (SeqAt.canLay_of_shaped h)
end TM
set_option maxRecDepth 100000
set_option maxHeartbeats 4000000
/-! merging: is_free, next_free, rows_without. -/
namespace TM
open PySem PySem.Spec PyProof.Rows L2
def spIsFree : Bool → Sp := fun _ vs H Q _ => ∃ (x : Str) (a : Addr) (rs : List (Addr × List Str)), vs = [.str x, .ref a] ∧ Rws H a rs ∧ ∀ H', Same H H' → Q (.bl (isFree x (rws rs))) H'
section
variable {P : Program} {w : World} {K : PySem.W.Frag} {mg : Str → Option Value} {base : Heap} {f : Addr} {fd : FuncData}
theorem scIsFree : FnScope ["name", "rows", "row"] ["name", "rows"] (defScope sIsFree) := ⟨rfl, rfl, rfl, by decide +kernel, rfl, by decide +kernel, by decide +kernel⟩
theorem ok_is_free (D : DefAt K mg "is_free" sIsFree ["name", "rows"] f fd) : FnM P w K mg base CX0 1 f fd ["name", "rows"] spIsFree := by
  refine fun_okM D.F scIsFree (fun b vs H Q E h => ?_) (fun b pl cdv A outer s H vs Q E hm hr h => ?_)
  · obtain ⟨x, a, rs, rfl, _⟩ := h
    rfl
  · obtain ⟨x, a, rs, rfl, hR, k⟩ := h
    refine ⟨_, PSs.nox (pss_cons (ps_forM PassesOwn.never hm (pm_list (pv 1)) (pg_name (i := 2) scIsFree.nd rfl (Or.inl rfl))
      (pss_one (ps_if (pt_cmpR op_in_seq (pv 0) (pe_slice sl_list (pv 2) (po_some pe_int) po_none) rfl) (pss_one (ps_ret pe_bl)) pss_nil)))
      (pss_one (ps_ret pe_bl))), ?_⟩
    refine ⟨_, rfl, a, rfl, ⟨_, SqL.of hR.top⟩, for_list (K := K) (a := a) (xs := rs.map fun p => V.ref p.1) (fun i σ H' => ∃ v, σ = [some (.str x), some (.ref a), v] ∧ Same H H' ∧ ∀ j p, j < i → rs[j]? = some p → x ∉ p.2.drop 1)
      ⟨none, rfl, Same.refl H, fun j p hj => absurd hj (Nat.not_lt_zero _)⟩ (fun i σ H' _ ⟨_, _, s1, _⟩ => s1.seq (SqL.of hR.top)) ?_ ?_⟩
    · intro i y σ H' hi ⟨v, eσ, s1, hall⟩
      subst eσ
      obtain ⟨p, hp, rfl⟩ := map_get hi
      have hrow := s1 _ _ (hR.row p (List.mem_of_getElem? hp))
      refine ⟨_, rfl, _, rfl, 1, rfl, p.1, vstr p.2, rfl, SqL.of hrow, fun q nq => ?_⟩
      have e1 : cutV (vstr p.2) (some 1) none = vstr (p.2.drop 1) := by rw [cut_from1]; exact List.map_drop.symm
      refine ⟨q, vstr (p.2.drop 1), rfl, .inl (SqL.of (by rw [upd_same, e1])), rfl, flat_strs _, _, rfl, ?_⟩
      rw [in_strs]
      by_cases hx : x ∈ p.2.drop 1
      · rw [decide_eq_true hx]
        refine iteT ?_
        have e : isFree x (rws rs) = false := by
          unfold isFree
          rw [List.all_eq_false]
          exact ⟨p.2, List.mem_map.mpr ⟨p, List.mem_of_getElem? hp, rfl⟩, by rw [decide_eq_true hx]; exact Bool.false_ne_true⟩
        have k' := k _ (s1.nw2 (o := .lst (cutV (vstr p.2) (some 1) none)) nq)
        rw [e] at k'
        exact k'
      · rw [decide_eq_false hx]
        refine iteF ⟨_, rfl, s1.nw2 nq, fun j p' hj hp' => ?_⟩
        rcases Nat.lt_succ_iff_lt_or_eq.mp hj with hj | hj
        · exact hall j p' hj hp'
        · subst hj
          rw [hp] at hp'
          cases hp'
          exact hx
    · intro σ H' ⟨v, eσ, s1, hall⟩
      have e : isFree x (rws rs) = true := by
        unfold isFree
        rw [List.all_eq_true]
        intro r hr
        obtain ⟨p, hp, rfl⟩ := List.mem_map.mp hr
        obtain ⟨j, hj⟩ := List.mem_iff_getElem?.mp hp
        rw [decide_eq_false (hall j p (by rw [List.length_map]; exact (List.getElem?_eq_some_iff.mp hj).1) hj)]
        rfl
      have k' := k H' s1
      rw [e] at k'
      exact k'
def spNextFree : Bool → Sp := fun _ vs H Q _ => ∃ (a : Addr) (rs : List (Addr × List Str)), vs = [.ref a] ∧ Rws H a rs ∧ ∀ H', Same H H' → Q (match nextFree (rws rs) with | some x => .str x | none => .non) H'
theorem scNextFree : FnScope ["rows", "row"] ["rows"] (defScope sNextFree) := ⟨rfl, rfl, rfl, by decide +kernel, rfl, by decide +kernel, by decide +kernel⟩
theorem nextFrom_skip {all : List (List Str)} : ∀ {rs : List (List Str)} (i : Nat), (∀ j r, j < i → rs[j]? = some r → r = [] ∨ ∃ x t, r = x :: t ∧ isFree x all = false) → nextFrom all rs = nextFrom all (rs.drop i)
  | rs, 0, _ => rfl
  | [], i + 1, _ => by rw [List.drop_nil]
  | r :: rs, i + 1, h => by
    have ih := nextFrom_skip (all := all) (rs := rs) i fun j r' hj hr => h (j + 1) r' (Nat.succ_lt_succ hj) hr
    rw [List.drop_succ_cons, ← ih]
    rcases h 0 r (Nat.succ_pos _) rfl with e | ⟨x, t, e, hf⟩
    · rw [e]
      rfl
    · rw [e]
      show (if isFree x all = true then some x else nextFrom all rs) = _
      rw [if_neg (by rw [hf]; exact Bool.false_ne_true)]
theorem drop_get {α : Type} {l : List α} {i : Nat} {x : α} (h : l[i]? = some x) : l.drop i = x :: l.drop (i + 1) := by
  obtain ⟨hi, e⟩ := List.getElem?_eq_some_iff.mp h
  rw [← e]
  exact List.drop_eq_getElem_cons hi
theorem ok_next_free {f0 : Addr} {fd0 : FuncData} (D : DefAt K mg "next_free" sNextFree ["rows"] f fd) (D0 : DefAt K mg "is_free" sIsFree ["name", "rows"] f0 fd0) : FnM P w K mg base CX0 2 f fd ["rows"] spNextFree := by
  have G : FnM P w K mg base CX0 1 f0 fd0 ["name", "rows"] spIsFree := ok_is_free D0
  refine fun_okM D.F scNextFree (fun b vs H Q E h => ?_) (fun b pl cdv A outer s H vs Q E hm hr h => ?_)
  · obtain ⟨a, rs, rfl, _⟩ := h
    rfl
  · obtain ⟨a, rs, rfl, hR, k⟩ := h
    refine ⟨_, PSs.nox (pss_cons (ps_forM PassesOwn.never hm (pm_list (pv 0)) (pg_name (i := 1) scNextFree.nd rfl (Or.inl rfl))
      (pss_one (ps_if (PW.pt (pw_and (pt_cmpR (op_neD (roomM_64 hr)) (pv 1) (pe_lst pa_nil) (nomark _)) (pw_and1 (pt_val (pe_callM G hr hm rfl D0.g D0.F.kp D0.b .nil (fun _ => passAt0) (pa_cons (pe_ix ix_list (pv 1) pe_int (fun _ _ => rfl)) (pa_cons (pv 0) pa_nil)))))))
        (pss_one (ps_ret (pe_ix ix_list (pv 1) pe_int (fun _ _ => rfl)))) pss_nil)))
      (pss_one (ps_ret pe_non))), ?_⟩
    refine ⟨_, rfl, a, rfl, ⟨_, SqL.of hR.top⟩, for_list (K := K) (a := a) (xs := rs.map fun p => V.ref p.1) (fun i σ H' => ∃ v, σ = [some (.ref a), v] ∧ Same H H' ∧ ∀ j r, j < i → (rws rs)[j]? = some r → r = [] ∨ ∃ x t, r = x :: t ∧ isFree x (rws rs) = false)
      ⟨none, rfl, Same.refl H, fun j p hj => absurd hj (Nat.not_lt_zero _)⟩ (fun i σ H' _ ⟨_, _, s1, _⟩ => s1.seq (SqL.of hR.top)) ?_ ?_⟩
    · intro i y σ H' hi ⟨v, eσ, s1, hall⟩
      subst eσ
      obtain ⟨p, hp, rfl⟩ := map_get hi
      have hpm := List.mem_of_getElem? hp
      have hrow := s1 _ _ (hR.row p hpm)
      have hget : (rws rs)[i]? = some p.2 := by rw [List.getElem?_map, hp] <;> rfl
      have hnext : ∀ r', p.2 = r' → (r' = [] ∨ ∃ x t, r' = x :: t ∧ isFree x (rws rs) = false) → ∀ j r, j < i + 1 → (rws rs)[j]? = some r → r = [] ∨ ∃ x t, r = x :: t ∧ isFree x (rws rs) = false := fun r' e h j r hj hr => by
        rcases Nat.lt_succ_iff_lt_or_eq.mp hj with hj | hj
        · exact hall j r hj hr
        · rw [hj, hget] at hr
          rw [← Option.some.inj hr, e]
          exact h
      refine ⟨_, rfl, by show 0 ≤ sizeLine; exact Nat.zero_le _, fun q nq => ?_⟩
      have s2 : Same H (upd H' q (.lst [])) := s1.nw2 nq
      have hrow2 := (Same.nw (o := .lst []) nq) _ _ hrow
      refine ⟨_, dStrs [], dp_strs (SqL.of hrow2), dp_strs (l := []) (SqL.of upd_same), shaped_strs (hR.asc p hpm), shaped_strs (fun x hx => by cases hx), _, rfl, ?_⟩
      rw [eqv_nilR]
      cases e : p.2 with
      | nil => exact iteF (iteF ⟨_, rfl, s2, hnext [] e (.inl rfl)⟩)
      | cons x t =>
        rw [e] at hrow2
        refine iteT ⟨_, rfl, p.1, _, 0, .str x, rfl, rfl, SqL.of hrow2, atI_nat rfl, _, rfl, x, a, rs, rfl, hR.keep s2, fun H3 s3 => ⟨_, rfl, ?_⟩⟩
        have s4 : Same H H3 := s2.trans s3
        cases hf : isFree x (rws rs) with
        | false => exact iteF ⟨_, rfl, s4, hnext (x :: t) e (.inr ⟨x, t, rfl, hf⟩)⟩
        | true =>
          refine iteT ⟨_, rfl, p.1, _, 0, .str x, rfl, rfl, SqL.of (s3 _ _ hrow2), atI_nat rfl, ?_⟩
          have e2 : nextFree (rws rs) = some x := by
            unfold nextFree
            rw [nextFrom_skip i hall, drop_get hget, e]
            show (if isFree x (rws rs) = true then some x else _) = _
            rw [if_pos hf]
          have k' := k H3 s4
          rw [e2] at k'
          exact k'
    · intro σ H' ⟨v, eσ, s1, hall⟩
      have e2 : nextFree (rws rs) = none := by
        unfold nextFree
        rw [nextFrom_skip _ hall, List.length_map, ← List.length_map (f := fun p : Addr × List Str => p.2), List.drop_length]
        rfl
      have k' := k H' s1
      rw [e2] at k'
      exact k'
end
end TM
set_option maxRecDepth 100000
set_option maxHeartbeats 4000000
/-! merging: rows_without. -/
namespace TM
open PySem PySem.Spec PyProof.Rows L2
def spWithout : Bool → Sp := fun _ vs H Q _ => ∃ (x : Str) (a : Addr) (rs : List (Addr × List Str)), vs = [.ref a, .str x] ∧ Rws H a rs ∧ rs.length ≤ 1000 ∧ (∀ p ∈ rs, p.2.length ≤ 1000) ∧
  ∀ H' b rs', Same H H' → H b = none → (∀ p ∈ rs', H p.1 = none) → Rws H' b rs' → rws rs' = without (rws rs) x → Q (.ref b) H'
theorem take_snoc {α : Type} {l : List α} {i : Nat} {x : α} (h : l[i]? = some x) : l.take (i + 1) = l.take i ++ [x] := by
  obtain ⟨hi, e⟩ := List.getElem?_eq_some_iff.mp h
  rw [List.take_succ_eq_append_getElem hi, e]
section
variable {P : Program} {w : World} {K : PySem.W.Frag} {mg : Str → Option Value} {base : Heap} {f : Addr} {fd : FuncData}
theorem scWithout : FnScope ["rows", "name", "row", "one"] ["rows", "name"] (defScope sWithout) := ⟨rfl, rfl, rfl, by decide +kernel, rfl, by decide +kernel, by decide +kernel⟩
def scRow : Scope := { kind := .function, names := [(".0", .local), ("row", .local), ("name", .free)], isGenerator := false, isCoroutine := false }
theorem ok_without (D : DefAt K mg "rows_without" sWithout ["rows", "name"] f fd) : FnM P w K mg base CX0 1 f fd ["rows", "name"] spWithout := by
  refine fun_okM D.F scWithout (fun b vs H Q E h => ?_) (fun b pl cdv A outer s H vs Q E hm hr h => ?_)
  · obtain ⟨x, a, rs, rfl, _⟩ := h
    rfl
  · obtain ⟨x, a, rs, rfl, hR, hl1, hl2, k⟩ := h
    refine ⟨_, PSs.nox (pss_one (ps_ret (pe_lcM (own := [("row", 2)]) (g := gName 2) (tt := tYes) (te := tLc (iList K (tVar 2)) (gName 3) (tTest (tOp rNe (tVar 3) (tVar 1))) (tVar 3) [3]) hm scWithout.nd (pm_list (pv 0)) (blkOk_by (N := ["rows", "name", "row", "one"]) (sc := defScope sWithout) (by decide +kernel)) (fun _ _ _ _ _ => pg_name (i := 2) scWithout.nd rfl (Or.inl rfl)) (fun _ _ _ _ _ => pts_nil)
      (fun _ _ _ _ _ => by exact (pe_lcM (own := [("one", 3)]) (g := gName 3) hm.blk scWithout.nd (by exact (pm_list (pv 2))) (blkOk_by (N := ["rows", "name", "row", "one"]) (sc := relS scRow (defScope sWithout)) (by decide +kernel)) (fun _ _ _ _ _ => pg_name (i := 3) scWithout.nd rfl (Or.inl rfl)) (fun _ _ _ _ _ => by exact (pts_one (pt_cmpR op_ne (pv 3) (pv 1) (nomark _)))) (fun _ _ _ _ _ => by exact (pv 3))))))), ?_⟩
    refine ⟨_, rfl, a, rfl, ⟨_, SqL.of hR.top⟩, fun D1 hD1 => lc_list (K := K) (a := a) (xs := rs.map fun p => V.ref p.1)
      (fun i H' => ∃ rs' : List (Addr × List Str), H' D1 = some (.lst (rs'.map fun p => V.ref p.1)) ∧ rws rs' = without (rws (rs.take i)) x ∧ (∀ p ∈ rs', Lst H' p.1 p.2 ∧ p.1 ≠ D1 ∧ H p.1 = none) ∧ Same H H')
      ⟨[], upd_same, rfl, (fun p hp => by cases hp), Same.nw hD1⟩ (fun i H' _ ⟨_, _, _, _, s1⟩ => s1.seq (SqL.of hR.top)) ?_ ?_⟩
    · intro i y H' hi ⟨rs', h1, h2, h3, s1⟩
      obtain ⟨p, hp, rfl⟩ := map_get hi
      have hrow := s1 _ _ (hR.row p (List.mem_of_getElem? hp))
      have hpl := hl2 p (List.mem_of_getElem? hp)
      have hil : i < rs.length := (List.getElem?_eq_some_iff.mp hp).1
      refine ⟨rfl, _, rfl, p.1, rfl, ⟨_, SqL.of hrow⟩, fun D2 hD2 => lc_list (K := K) (a := p.1) (xs := vstr p.2)
        (fun j H2 => H2 D2 = some (.lst (vstr (dropX x (p.2.take j)))) ∧ Same H' H2)
        ⟨upd_same, Same.nw hD2⟩ (fun j H2 _ ⟨_, s2⟩ => s2.seq (SqL.of hrow)) ?_ ?_⟩
      · intro j z H2 hj ⟨g1, s2⟩
        obtain ⟨z, hz, rfl⟩ := map_get hj
        have hsn := take_snoc hz
        refine ⟨rfl, _, rfl, _, rfl, rfl, _, rfl, ?_⟩
        by_cases e : z = x
        · rw [e, decide_eq_true rfl]
          refine iteF ⟨?_, s2⟩
          rw [g1, hsn, e]
          simp [dropX]
        · rw [decide_eq_false (fun q => e (V.str.inj q))]
          refine iteT ⟨_, rfl, _, g1, ?_, ?_, ?_⟩
          · have := dropX_le x (p.2.take j)
            rw [List.length_map]
            rw [List.length_take] at this
            exact size_lt (by omega)
          · rw [upd_same, hsn]
            simp [dropX, e]
          · exact s2.old2 hD2
      · intro H2 ⟨g1, s2⟩
        rw [List.length_map, List.take_length] at g1
        have hD12 : D1 ≠ D2 := ne_of_none h1 hD2
        have hlen : rs'.length = (rs.take i).length := by
          have := congrArg List.length h2
          simpa [without] using this
        refine ⟨_, s2 _ _ h1, ?_, rs' ++ [(D2, dropX x p.2)], ?_, ?_, fun q hq => ?_, ?_⟩
        · rw [List.length_map, hlen, List.length_take]
          exact size_lt (by omega)
        · rw [upd_same]
          simp
        · rw [take_snoc hp]
          show (rs' ++ [(D2, dropX x p.2)]).map (·.2) = without ((rs.take i ++ [p]).map (·.2)) x
          rw [List.map_append, List.map_append]
          unfold without
          rw [List.map_append]
          exact congrArg (· ++ [dropX x p.2]) h2
        · rcases List.mem_append.mp hq with hq | hq
          · obtain ⟨q1, q2, q3⟩ := h3 q hq
            refine ⟨?_, q2, q3⟩
            show upd H2 D1 _ q.1 = _
            rw [upd_ne q2]
            exact s2 _ _ q1
          · have e : q = (D2, dropX x p.2) := by simpa using hq
            subst e
            refine ⟨?_, hD12.symm, s1.free hD2⟩
            show upd H2 D1 _ D2 = _
            rw [upd_ne hD12.symm]
            exact g1
        · exact (s1.trans s2).old2 hD1
    · intro H' ⟨rs', h1, h2, h3, s1⟩
      rw [List.length_map, List.take_length] at h2
      refine k H' D1 rs' s1 hD1 (fun p hp => (h3 p hp).2.2) ⟨h1, fun p hp => (h3 p hp).1, fun p hp z hz => ?_⟩ h2
      have hm2 : p.2 ∈ without (rws rs) x := by rw [← h2]; exact List.mem_map.mpr ⟨p, hp, rfl⟩
      obtain ⟨_, r', hr', hz'⟩ := mem_without hm2 hz
      obtain ⟨p', hp', rfl⟩ := List.mem_map.mp hr'
      exact hR.asc p' hp' z hz'
end
end TM
set_option maxRecDepth 100000
set_option maxHeartbeats 4000000
/-! list(reversed(a list)). -/
namespace TM
open PySem PySem.Spec PyProof.Rows L2
section
variable {prog : Program} {w : World} {A : Around} {E : Value → Shared → Prop} {s : Shared}
theorem list_init_rev {R : Result → Shared → Prop} {it l S : Addr} {items : Array Value} (hh : A.handled = none) (hit : s.heap.IsRevIter it l ((items.size : Int) - 1)) (hl : s.heap.IsList l items) (hne : l ≠ it) (hn : items.size ≤ sizeLine) (hSi : S ≠ it) (hSl : S ≠ l)
    (hS : s.heap.get? S = some { cls := .type "list", data := .seq #[] })
    (hR : ∀ h' tk acc' c', (∀ b o, b ≠ it → b ≠ S → s.heap.get? b = some o → h'.get? b = some o) →
      h'.get? S = some { cls := .type "list", dict := none, data := .seq acc' c', slots := #[] } → ItemsOf (fun i v => items[items.size - 1 - i]? = some v) acc' items.size → R (.ok (.ret .none)) { s with heap := h', toks := tk }) :
    wpAny (model prog w) A.in1 (Builtin.«list.__init__» ⟨[.ref S, .ref it], []⟩)
      (fun fin s' => match fin with | .done f => R (.ok f) s' | .again c' => c'.quiet = true ∧ codeAny (model prog w) A c' R s') (fun e s' => R (.error e) s') s := by
  have W := (Walks.listRev (prog := prog) (w := w) (A := A.in1) hh it l hne items).toS
  have hSf : S ∉ [it, l] := by simp only [List.mem_cons, List.not_mem_nil, or_false, not_or]; exact ⟨hSi, hSl⟩
  show wpAny _ A.in1 (do let old ← Builtin.List.listItems (.ref S); Builtin.List.listUpdate (.ref S) (fun _ => #[]); letGo old.toList.reverse; Builtin.List.listExtendWith (.ref S) (.ref it) .none) _ _ s
  refine wpAny_bind ?_
  unfold Builtin.List.listItems
  refine wpAny_bind (wpAny_seqItems hS rfl (wpAny_pure ?_))
  show wpAny _ A.in1 (updateSeq S (fun _ => #[]) >>= fun _ => letGo (#[] : Array Value).toList.reverse >>= fun _ => Builtin.List.listExtendWith (.ref S) (.ref it) .none) _ _ s
  refine wpAny_bind (wpAny_updateSeq hS rfl ?_)
  have hS₂ := Heap.get?_update_self (Obj.mapSeq (fun _ => (#[] : Array Value))) hS rfl
  have oth : ∀ b o, b ≠ S → s.heap.get? b = some o → (s.heap.update S (Obj.mapSeq (fun _ => (#[] : Array Value)))).get? b = some o :=
    fun b o hb e => (Heap.get?_update_other _ _ (Ne.symm hb)).trans e
  refine wpAny_bind (wpAny_letGo ?_)
  obtain ⟨oi, hoi, ci, di⟩ := id hit
  obtain ⟨ol, hol, cl, nl, dl⟩ := id hl
  have hit1 : (s.heap.update S (Obj.mapSeq (fun _ => (#[] : Array Value)))).IsRevIter it l ((items.size : Int) - 1) := ⟨oi, oth _ _ (Ne.symm hSi) hoi, ci, di⟩
  have hl1 : (s.heap.update S (Obj.mapSeq (fun _ => (#[] : Array Value)))).IsList l items := ⟨ol, oth _ _ (Ne.symm hSl) hol, cl, nl, dl⟩
  have hT : ({ s with heap := s.heap.update S (Obj.mapSeq (fun _ => (#[] : Array Value))) } : Shared).TypeIs (.ref it) "list_reverseiterator" := Heap.IsRevIter.typeIs (s := { s with heap := s.heap.update S (Obj.mapSeq (fun _ => (#[] : Array Value))) }) hit1
  have h1 : Builtin.List.listSameRef (.ref S) (.ref it) = false := by simp [Builtin.List.listSameRef, hSi]
  unfold Builtin.List.listExtendWith
  refine wpAny_bind (wpAny_typeOf hT ?_)
  rw [if_neg (by rw [h1]; decide)]
  refine wpAny_bind (wpAny_pyIter_revIter (s := { s with heap := s.heap.update S (Obj.mapSeq (fun _ => (#[] : Array Value))) }) hit1 ?_)
  refine wpAny_bind (wpAny_holding ?_)
  unfold Builtin.List.listLengthHint
  refine wpAny_bind (wpAny_specialOf hT RT.nolen_lri ?_)
  show wpAny _ A.in1 (specialOf (Value.ref it) (Str.ofString "__length_hint__") >>= _) _ _ _
  refine wpAny_bind (wpAny_specialOf hT RT.hint_lri ?_)
  generalize hid : ("list_reverseiterator.__length_hint__" : String) = id0
  wp_delta
  rw [show splitId id0 = some ("list_reverseiterator", "__length_hint__") from by subst hid; decide +kernel]
  subst hid
  refine wpAny_bind (wpAny_isInstance (b := true) hT (by rw [isSubtype_type]; kernel_rfl) ?_)
  refine wpAny_pure ?_
  rw [if_neg (by decide)]
  have e0 : ((items.size : Nat) : Int) - 1 - ((0 : Nat) : Int) = (items.size : Int) - 1 := by omega
  refine wpAny_pure ⟨plainId_quiet F.plain_extend_loop _, codeAny_extend_loopS W hn _ hSf _ items.size 0 _ _ _ rfl (Nat.zero_le _) ⟨Nat.zero_le _, by rw [e0]; exact hit1, hl1⟩ hS₂ (ItemsOf.nil _) fun s' acc' c' hm hS' hacc => ?_⟩
  rw [Moved.eq_with hm]
  refine hR s'.heap s'.toks acc' c' (fun b o hb hb2 e => hm.heap b o (fun hmem => ?_) (oth _ _ hb2 e)) hS' hacc
  rcases List.mem_cons.mp hmem with e' | hmem
  · exact hb2 e'
  · exact hb (List.mem_singleton.mp hmem)
theorem call_list_rev {it l : Addr} {items : Array Value} {Q : Value → Shared → Prop} (hh : A.handled = none) (hit : s.heap.IsRevIter it l ((items.size : Int) - 1)) (hl : s.heap.IsList l items) (hne : l ≠ it) (hn : items.size ≤ sizeLine)
    (hQ : ∀ h' tk acc' c', (∀ b o, b ≠ it → s.heap.get? b = some o → h'.get? b = some o) →
      h'.get? s.heap.objs.size = some { cls := .type "list", dict := none, data := .seq acc' c', slots := #[] } → ItemsOf (fun i v => items[items.size - 1 - i]? = some v) acc' items.size → Q (.ref s.heap.objs.size) { s with heap := h', toks := tk }) :
    wpAny (model prog w) A (call (.type "list") [.ref it]) Q E s := by
  refine callType_codes (Q₁ := fun obj s₁ => obj = .ref s.heap.objs.size ∧ s₁ = { s with heap := s.heap.push { cls := .type "list", data := .seq #[] } }) F.called_list (F.typeCall_list_1 _) F.entry_list_init
    (code_list_new _ ⟨rfl, rfl⟩) fun obj s₁ h₁ => ?_
  obtain ⟨rfl, rfl⟩ := h₁
  obtain ⟨oi, hoi, ci, di⟩ := id hit
  obtain ⟨ol, hol, _⟩ := id hl
  have hS : (s.heap.push { cls := .type "list", data := .seq #[] }).get? s.heap.objs.size = some { cls := .type "list", data := .seq #[] } := Heap.get?_push_size _ rfl
  refine ⟨⟨_, hS, rfl⟩, F.args_list_init_2 _ _, list_init_rev (A := A.in1) (s := { s with heap := s.heap.push { cls := .type "list", data := .seq #[] } }) hh (hit.at fun o e => Heap.get?_push_of_some _ e) (hl.push _) hne hn (Nat.ne_of_gt (Heap.lt_size hoi)) (Nat.ne_of_gt (Heap.lt_size hol)) hS fun h' tk acc' c' hk hS' hacc => ?_⟩
  exact ⟨rfl, hQ h' tk acc' c' (fun b o hb e => hk b o hb (Nat.ne_of_lt (Heap.lt_size e)) (Heap.get?_push_of_some _ e)) hS' hacc⟩
end
/-- list(reversed(x)), x a list: a new list -/
def tLstRev (K : PySem.W.Frag) (te : TE) : TE := fun σ H Q => te σ H fun v H1 => ∃ (a : Addr) (xs : List V), v = .ref a ∧ SqL K H1 a xs ∧ ∀ q, H1 q = none → Q (.ref q) (upd H1 q (.lst xs.reverse))
section
variable {X : Cx}
theorem pe_lstRev {e : Expr} {te : TE} {p p2 pos pos2 : Pos} (hc : X.calm = true) (hg : Gl X "list") (hm : X.mg "list" = none) (hg2 : Gl X "reversed") (hm2 : X.mg "reversed" = none) (he : PE X e te)
    (hs : starEach [e] X.env = (false, eval e X.env) :: starEach [] X.env := by rfl)
    (hs2 : starEach [.Call (.Name "reversed" p2) [e] [] pos2] X.env = (false, eval (.Call (.Name "reversed" p2) [e] [] pos2) X.env) :: starEach [] X.env := by rfl) :
    PE X (.Call (.Name "list" p) [.Call (.Name "reversed" p2) [e] [] pos2] [] pos) (tLstRev X.K te) := by
  refine ⟨fun pins s σ H Q I h => ?_⟩
  refine Call_ (ld_blt I hg hm PyProof.Rows.boot_list (PyProof.Rows.callWith_type1 (args_cons (Call_ (ld_blt I hg2 hm2 PyProof.Rows.boot_reversed (PyProof.Rows.callWith_type1 (args_cons (thn (he.run pins s σ H _ I h) fun u s1 ⟨v, H1, I1, r1, q1⟩ => args_nil ?_) hs) hs rfl))) hs2) hs2 rfl))
  obtain ⟨a, xs, ev, hq, q⟩ := q1
  subst ev
  obtain rfl : u = Value.ref a := r1
  obtain ⟨its, rv, p', hz⟩ := I1.list hq
  refine call_reversed_list p'.isList (args_nil ?_)
  have k0 : ∀ b o, s1.heap.get? b = some o → (s1.heap.push (revObj a ((its.toArray.size : Int) - 1))).get? b = some o := fun b o e => Heap.get?_push_of_some _ e
  have I2 : Inv X pins σ H1 { s1 with heap := s1.heap.push (revObj a ((its.toArray.size : Int) - 1)) } := I1.kept (t' := s1.toks) k0
  obtain ⟨f0, f1, f2, f3, f4, f5⟩ := I1.fpOk (H' := H1) (b := s1.heap.objs.size) (Nat.le_refl _) (I1.hok.fresh (Nat.le_refl _))
  have hl := p'.isList
  obtain ⟨ol, hol, _⟩ := id hl
  have hne : a ≠ s1.heap.objs.size := Nat.ne_of_lt (Heap.lt_size hol)
  have hn : its.toArray.size ≤ sizeLine := by rw [List.size_toArray, ← rv.length]; exact hz
  refine call_list_rev (s := { s1 with heap := s1.heap.push (revObj a ((its.toArray.size : Int) - 1)) }) (I1.ok.hd hc) ⟨_, Heap.get?_push_size _ rfl, rfl, rfl⟩ (hl.push _) hne hn fun h' tk acc c hk hg hi => ?_
  have sz : s1.heap.objs.size ≤ (s1.heap.push (revObj a ((its.toArray.size : Int) - 1))).objs.size := by rw [Heap.size_push]; exact Nat.le_succ _
  refine ⟨.ref (s1.heap.push (revObj a ((its.toArray.size : Int) - 1))).objs.size, upd H1 (s1.heap.push (revObj a ((its.toArray.size : Int) - 1))).objs.size (.lst xs.reverse), ?_, rfl, q _ (I1.hok.fresh sz)⟩
  have I3 : Inv X pins σ (upd H1 (s1.heap.push (revObj a ((its.toArray.size : Int) - 1))).objs.size (.lst xs.reverse)) { s1 with heap := h', toks := tk } := I1.laid (t' := tk) (fun b o e => hk b o (Nat.ne_of_lt (Heap.lt_size e)) (k0 b o e)) sz (show ObjOk X.prog X.w _ _ _ (.lst xs.reverse) from ⟨by rw [List.length_reverse]; exact hz, acc.toList, c, RT.vals_rev rv hi, by rw [Array.toArray_toList]; exact hg⟩)
  exact I3
end
end TM
set_option maxRecDepth 100000
set_option maxHeartbeats 4000000
/-! merging: claim_on, ring_among. -/
namespace TM
open PySem PySem.Spec PyProof.Rows L2
theorem for_enum {K : PySem.W.Frag} {a : Addr} {xs : List V} {g : TG} {tb : TS} {D : Ends} {σ : L2.St} {H : Hp} (Pv : Nat → L2.St → Hp → Prop) (h0 : Pv 0 σ H) (hl : ∀ i σ H, i ≤ xs.length → Pv i σ H → SqL K H a xs)
    (hs : ∀ i x σ H T, xs[i]? = some x → Pv i σ H → H T = none → g (.ref T) σ (upd H T (.tup [.int (i : Nat), x])) fun σ2 H2 => tb { D with nx := Pv (i + 1), ct := Pv (i + 1), bk := D.nx } σ2 H2) (hd : ∀ σ H, Pv xs.length σ H → D.nx σ H) :
    ∃ W : Nat → Nat → L2.St → Hp → Prop, (∃ m, W 0 m σ H) ∧ ∀ i m σ H, W i m σ H →
      ((Ite K a).stop i H ∧ D.nx σ H) ∨ ((Ite K a).go i H ∧ ∃ N : L2.St → Hp → Prop, (∀ σ' H', N σ' H' → ∃ m', m' < m ∧ W (i + 1) m' σ' H') ∧ ∀ x H', (Ite K a).yld i H x H' → g x σ H' fun σ2 H2 => tb { D with nx := N, ct := N, bk := D.nx } σ2 H2) := by
  refine ⟨fun i m σ H => m = xs.length - i ∧ i ≤ xs.length ∧ Pv i σ H, ⟨xs.length, by simp, Nat.zero_le _, h0⟩, ?_⟩
  rintro i m σ H ⟨rfl, hi, p⟩
  have q := hl i σ H hi p
  by_cases hlt : i < xs.length
  · refine .inr ⟨⟨xs, xs[i], q, by simp [hlt]⟩, Pv (i + 1), fun σ' H' p' => ⟨xs.length - (i + 1), by omega, rfl, hlt, p'⟩, fun v H' y => ?_⟩
    obtain ⟨T, x, e, hT, e2, y⟩ := y
    subst e e2
    exact hs i x σ H T (y xs q) p hT
  · have e : i = xs.length := by omega
    subst e
    exact .inl ⟨⟨xs, q, Nat.le_refl _⟩, hd σ H p⟩
def heads (rs : List (List Str)) : List Str := rs.filterMap List.head?
theorem heads_mem {rs : List (List Str)} {x : Str} {t : List Str} (h : (x :: t) ∈ rs) : x ∈ heads rs := List.mem_filterMap.mpr ⟨_, h, rfl⟩
theorem mem_heads {rs : List (List Str)} {x : Str} (h : x ∈ heads rs) : ∃ t, (x :: t) ∈ rs := by
  obtain ⟨r, hr, e⟩ := List.mem_filterMap.mp h
  cases r with
  | nil => cases e
  | cons y t => cases e; exact ⟨t, hr⟩
theorem stuck_heads {all : List (List Str)} : ∀ {rs : List (List Str)}, nextFrom all rs = none → ∀ x t, (x :: t) ∈ rs → isFree x all = false
  | [], _, x, t, h => by cases h
  | [] :: rs, hn, x, t, h => by
    rcases List.mem_cons.mp h with e | h
    · cases e
    · exact stuck_heads (rs := rs) hn x t h
  | (y :: u) :: rs, hn, x, t, h => by
    unfold nextFrom at hn
    split at hn
    · cases hn
    · next hf =>
      rcases List.mem_cons.mp h with e | h
      · cases e
        exact Bool.eq_false_iff.mpr hf
      · exact stuck_heads (rs := rs) hn x t h
def spClaim : Bool → Sp := fun b vs H Q _ => b = true ∧ ∃ (x : Str) (a : Addr) (rs : List (Addr × List Str)), vs = [.str x, .ref a] ∧ Rws H a rs ∧ isFree x (rws rs) = false ∧
  ∀ H' p y vs', Same H H' → H' p = some (.tup (V.str y :: vs')) → y ∈ heads (rws rs) → Q (.ref p) H'
section
variable {P : Program} {w : World} {K : PySem.W.Frag} {mg : Str → Option Value} {base : Heap} {f : Addr} {fd : FuncData}
theorem scClaim : FnScope ["name", "rows", "place", "row"] ["name", "rows"] (defScope sClaim) := ⟨rfl, rfl, rfl, by decide +kernel, rfl, by decide +kernel, by decide +kernel⟩
theorem ok_claim (D : DefAt K mg "claim_on" sClaim ["name", "rows"] f fd) (hEn : mg "enumerate" = none) : FnM P w K mg base CX0 1 f fd ["name", "rows"] spClaim := by
  refine fun_okM D.F scClaim (fun b vs H Q E h => ?_) (fun b pl cdv A outer s H vs Q E hm hr h => ?_)
  · obtain ⟨_, x, a, rs, rfl, _⟩ := h
    rfl
  · obtain ⟨rfl, x, a, rs, rfl, hR, hf, k⟩ := h
    refine ⟨_, PSs.nox (pss_cons (ps_for PassesOwn.never rfl (pi_enum rfl hEn (pa_cons (pv 1) pa_nil)) (pg_tup rfl (pgs_cons (pg_name (i := 2) scClaim.nd rfl (Or.inl rfl)) (pgs_cons (pg_name (i := 3) scClaim.nd rfl (Or.inl rfl)) pgs_nil)))
      (pss_one (ps_if (pt_cmpR op_in_seq (pv 0) (pe_slice sl_list (pv 3) (po_some pe_int) po_none) rfl) (pss_one (ps_ret (pe_tup (pa_cons (pe_ix ix_list (pv 3) pe_int (fun _ _ => rfl)) (pa_cons (pv 0) (pa_cons (pv 2) pa_nil)))))) pss_nil)))
      (pss_one (ps_ret pe_non))), ?_⟩
    refine ⟨_, rfl, a, _, rfl, SqL.of hR.top, for_enum (K := K) (a := a) (xs := rs.map fun p => V.ref p.1) (fun i σ H' => ∃ v1 v2, σ = [some (.str x), some (.ref a), v1, v2] ∧ Same H H' ∧ ∀ j p, j < i → rs[j]? = some p → x ∉ p.2.drop 1)
      ⟨none, none, rfl, Same.refl H, fun j p hj => absurd hj (Nat.not_lt_zero _)⟩ (fun i σ H' _ ⟨_, _, _, s1, _⟩ => s1.seq (SqL.of hR.top)) ?_ ?_⟩
    · intro i y σ H' T hi ⟨v1, v2, eσ, s1, hall⟩ hT
      subst eσ
      obtain ⟨p, hp, rfl⟩ := map_get hi
      have s2 := s1.nw2 (o := .tup [.int (i : Nat), .ref p.1]) hT
      have hrow := s2 _ _ (hR.row p (List.mem_of_getElem? hp))
      refine ⟨T, _, rfl, SqT.of upd_same, rfl, _, _, rfl, _, _, rfl, rfl, ?_⟩
      refine ⟨_, rfl, _, rfl, 1, rfl, p.1, vstr p.2, rfl, SqL.of hrow, fun q nq => ?_⟩
      have e1 : cutV (vstr p.2) (some 1) none = vstr (p.2.drop 1) := by rw [cut_from1]; exact List.map_drop.symm
      have s3 := s2.nw2 (o := .lst (cutV (vstr p.2) (some 1) none)) nq
      refine ⟨q, vstr (p.2.drop 1), rfl, .inl (SqL.of (by rw [upd_same, e1])), rfl, flat_strs _, _, rfl, ?_⟩
      rw [in_strs]
      by_cases hx : x ∈ p.2.drop 1
      · rw [decide_eq_true hx]
        have hrow3 := s3 _ _ (hR.row p (List.mem_of_getElem? hp))
        obtain ⟨z, t, e⟩ : ∃ z t, p.2 = z :: t := by
          cases e : p.2 with
          | nil => rw [e] at hx; cases hx
          | cons z t => exact ⟨z, t, rfl⟩
        refine iteT ⟨_, rfl, p.1, _, 0, .str z, rfl, rfl, SqL.of hrow3, atI_nat (by rw [e]; rfl), _, rfl, _, rfl, by show 3 ≤ sizeLine; exact size_small (by decide), fun r nr => ?_⟩
        exact k _ r z _ (s3.nw2 nr) upd_same (heads_mem (t := t) (by rw [← e]; exact List.mem_map.mpr ⟨p, List.mem_of_getElem? hp, rfl⟩))
      · rw [decide_eq_false hx]
        refine iteF ⟨_, _, rfl, s3, fun j p' hj hp' => ?_⟩
        rcases Nat.lt_succ_iff_lt_or_eq.mp hj with hj | hj
        · exact hall j p' hj hp'
        · subst hj
          rw [hp] at hp'
          cases hp'
          exact hx
    · intro σ H' ⟨v1, v2, eσ, s1, hall⟩
      exfalso
      have e : isFree x (rws rs) = true := by
        unfold isFree
        rw [List.all_eq_true]
        intro r hr
        obtain ⟨p, hp, rfl⟩ := List.mem_map.mp hr
        obtain ⟨j, hj⟩ := List.mem_iff_getElem?.mp hp
        rw [decide_eq_false (hall j p (by rw [List.length_map]; exact (List.getElem?_eq_some_iff.mp hj).1) hj)]
        rfl
      rw [hf] at e
      cases e
end
end TM
set_option maxRecDepth 100000
set_option maxHeartbeats 4000000
/-! merging: ring_among. -/
namespace TM
open PySem PySem.Spec PyProof.Rows L2
theorem nodup_le {α : Type} [DecidableEq α] : ∀ {l m : List α}, l.Nodup → (∀ x ∈ l, x ∈ m) → l.length ≤ m.length
  | [], m, _, _ => Nat.zero_le _
  | x :: l, m, h, hs => by
    have hx := hs x List.mem_cons_self
    obtain ⟨h1, h2⟩ := List.nodup_cons.mp h
    have := nodup_le (l := l) (m := m.erase x) h2 fun y hy => (List.mem_erase_of_ne (fun e : y = x => h1 (e ▸ hy))).mpr (hs y (List.mem_cons_of_mem _ hy))
    rw [List.length_erase_of_mem hx] at this
    have hp : 0 < m.length := List.length_pos_of_mem hx
    rw [List.length_cons]
    omega
theorem heads_length (rs : List (List Str)) : (heads rs).length ≤ rs.length := List.length_filterMap_le _ _
theorem claim_free {rs : List (List Str)} (h : nextFree rs = none) {x : Str} (hx : x ∈ heads rs) : isFree x rs = false := by
  obtain ⟨t, ht⟩ := mem_heads hx
  exact stuck_heads h x t ht
theorem eq_strs (x y : Str) : eqV (.str x) (.str y) = decide (x = y) := by
  have h : (eqV (.str x) (.str y) || false) = decide (y ∈ [x]) := in_strs y [x]
  rw [Bool.or_false] at h
  rw [h]
  by_cases e : x = y
  · rw [decide_eq_true e, decide_eq_true (by rw [e]; exact List.mem_singleton_self _)]
  · rw [decide_eq_false e, decide_eq_false fun z => e (List.mem_singleton.mp z).symm]
/-- the place of x in l -/
theorem idx_of {x : Str} : ∀ {l : List Str}, x ∈ l → ∃ j : Nat, l[j]? = some x ∧ ∀ (m : Nat) (y : Str), m < j → l[m]? = some y → y ≠ x
  | y :: l, h => by
    by_cases e : y = x
    · exact ⟨0, by rw [e]; rfl, fun m y hm => absurd hm (Nat.not_lt_zero _)⟩
    · obtain ⟨j, h1, h2⟩ := idx_of ((List.mem_cons.mp h).resolve_left fun z => e z.symm)
      refine ⟨j + 1, h1, fun m z hm hz => ?_⟩
      cases m with
      | zero => cases hz; exact e
      | succ m => exact h2 m z (Nat.lt_of_succ_lt_succ hm) hz
def spRingA : Bool → Sp := fun b vs H Q _ => b = true ∧ ∃ (a : Addr) (rs : List (Addr × List Str)), vs = [.ref a] ∧ Rws H a rs ∧ rs.length ≤ 1000 ∧ nextFree (rws rs) = none ∧ (rws rs).all List.isEmpty = false ∧
  ∀ H' p l, Same H H' → H p = none → H' p = some (.lst l) → Q (.ref p) H'
section
variable {P : Program} {w : World} {K : PySem.W.Frag} {mg : Str → Option Value} {base : Heap} {f f1 : Addr} {fd fd1 : FuncData}
theorem scRingA : FnScope ["rows", "name", "seen", "claims", "claim", "row"] ["rows"] (defScope sRingA) := ⟨rfl, rfl, rfl, by decide +kernel, rfl, by decide +kernel, by decide +kernel⟩
theorem ok_ring (D : DefAt K mg "ring_among" sRingA ["rows"] f fd) (D1 : DefAt K mg "claim_on" sClaim ["name", "rows"] f1 fd1) (hEn : mg "enumerate" = none) (hRe : mg "reversed" = none) (hLi : mg "list" = none) : FnM P w K mg base CX0 2 f fd ["rows"] spRingA := by
  have G : FnM P w K mg base CX0 1 f1 fd1 ["name", "rows"] spClaim := ok_claim D1 hEn
  refine fun_okM D.F scRingA (fun b vs H Q E h => ?_) (fun b pl cdv A outer s H vs Q E hm hr h => ?_)
  · obtain ⟨_, a, rs, rfl, _⟩ := h
    rfl
  · obtain ⟨rfl, a, rs, rfl, hR, hl, hst, hne, k⟩ := h
    refine ⟨_, PSs.nox (pss_cons (ps_set (i := 1) scRingA.nd rfl (Or.inl rfl) (pe_ix ix_list (pe_lcM (own := [("row", 5)]) (g := gName 5) (tt := tTest (tOp (rNeD K) (tVar 5) (tLst tNil))) (te := tOp (rIxL K) (tVar 5) (tC (.int 0))) hm scRingA.nd (pm_list (pv 0)) (blkOk_by (N := ["rows", "name", "seen", "claims", "claim", "row"]) (sc := defScope sRingA) (by decide +kernel)) (fun _ _ _ _ _ => pg_name (i := 5) scRingA.nd rfl (Or.inl rfl)) (fun _ _ _ _ _ => by exact (pts_one (pt_cmpR (op_neD (roomM_64 hr)) (pv 5) (pe_lst pa_nil) (nomark _)))) (fun _ _ _ _ _ => by exact (pe_ix ix_list (pv 5) pe_int (fun _ _ => rfl)))) pe_int (fun _ _ => rfl)))
      (pss_cons (ps_set (i := 2) scRingA.nd rfl (Or.inl rfl) (pe_lst pa_nil))
      (pss_cons (ps_set (i := 3) scRingA.nd rfl (Or.inl rfl) (pe_lst pa_nil))
      (pss_cons (ps_while PassesOwn.never (pt_cmpR op_notIn_seq (pv 1) (pv 2) rfl)
        (pss_cons (ps_expr (pe_bm PySem.F.plainAttrs_list PySem.F.slot_list_append PySem.F.type_list_append mt_append (pv 2) (pa_cons (pv 1) pa_nil)))
        (pss_cons (ps_set (i := 4) scRingA.nd rfl (Or.inl rfl) (pe_callM G hr hm rfl D1.g D1.F.kp D1.b .nil (fun _ => passAt0) (pa_cons (pv 1) (pa_cons (pv 0) pa_nil))))
        (pss_cons (ps_expr (pe_bm PySem.F.plainAttrs_list PySem.F.slot_list_append PySem.F.type_list_append mt_append (pv 3) (pa_cons (pv 4) pa_nil)))
        (pss_one (ps_set (i := 1) scRingA.nd rfl (Or.inl rfl) (pe_ix ix_tup (pv 4) pe_int (fun _ _ => rfl))))))))
      (pss_one (ps_ret (pe_lstRev rfl rfl hLi rfl hRe (pe_slice sl_list (pv 3) (po_some (pe_bm PySem.F.plainAttrs_list PySem.F.slot_list_index PySem.F.type_list_index mt_index (pv 2) (pa_cons (pv 1) pa_nil))) po_none)))))))), ?_⟩
    refine ⟨_, rfl, a, rfl, ⟨_, SqL.of hR.top⟩, fun D1 hD1 => lc_list (K := K) (a := a) (xs := rs.map fun p => V.ref p.1)
      (fun i H' => H' D1 = some (.lst (vstr (heads (rws (rs.take i))))) ∧ Same H H')
      ⟨upd_same, Same.nw hD1⟩ (fun i H' _ ⟨_, s1⟩ => s1.seq (SqL.of hR.top)) ?_ ?_⟩
    · intro i y H' hi ⟨h1, s1⟩
      obtain ⟨p, hp, rfl⟩ := map_get hi
      have hpm := List.mem_of_getElem? hp
      refine ⟨rfl, _, rfl, by show 0 ≤ sizeLine; exact Nat.zero_le _, fun q nq => ?_⟩
      have hrow2 := (s1.nw2 (o := .lst []) nq) _ _ (hR.row p hpm)
      have hD2 : (upd H' q (.lst [])) D1 = some (.lst (vstr (heads (rws (rs.take i))))) := by rw [upd_ne (ne_of_none h1 nq)]; exact h1
      have hsn := take_snoc hp
      have hhd : heads (rws (rs.take (i + 1))) = heads (rws (rs.take i)) ++ heads [p.2] := by
        rw [hsn]
        show heads ((rs.take i ++ [p]).map (·.2)) = _
        rw [List.map_append]
        unfold heads
        rw [List.filterMap_append]
        rfl
      refine ⟨_, dStrs [], dp_strs (SqL.of hrow2), dp_strs (l := []) (SqL.of upd_same), shaped_strs (hR.asc p hpm), shaped_strs (fun x hx => by cases hx), _, rfl, ?_⟩
      rw [eqv_nilR]
      cases e : p.2 with
      | nil =>
        refine iteF ⟨?_, s1.nw2 nq⟩
        rw [hD2, hhd, e]
        simp [heads]
      | cons x t =>
        refine iteT ⟨_, rfl, p.1, _, 0, .str x, rfl, rfl, SqL.of hrow2, atI_nat (by rw [e]; rfl), _, hD2, ?_, ?_, (s1.nw2 nq).old2 hD1⟩
        · have h3 := heads_length (rws (rs.take i))
          rw [List.length_map, List.length_take] at h3
          rw [List.length_map]
          exact size_lt (by omega)
        · rw [upd_same, hhd, e]
          simp [heads]
    · intro H1 ⟨h1, s1⟩
      rw [List.length_map, List.take_length] at h1
      obtain ⟨x0, hx0, r0, hr0⟩ : ∃ x0, x0 ∈ heads (rws rs) ∧ ∃ r0, heads (rws rs) = x0 :: r0 := by
        have h3 := hne
        rw [List.all_eq_false] at h3
        obtain ⟨r, hr2, he⟩ := h3
        cases r with
        | nil => exact absurd rfl he
        | cons x t =>
          have := heads_mem hr2
          cases e : heads (rws rs) with
          | nil => rw [e] at this; cases this
          | cons x0 r0 => exact ⟨x0, List.mem_cons_self, r0, rfl⟩
      refine ⟨D1, _, 0, .str x0, rfl, rfl, SqL.of h1, atI_nat (by rw [hr0]; rfl), ?_⟩
      refine ⟨by show 0 ≤ sizeLine; exact Nat.zero_le _, fun S hS => ⟨by show 0 ≤ sizeLine; exact Nat.zero_le _, fun C hC => ?_⟩⟩
      have hS0 : H S = none := by
        cases e : H S with
        | none => rfl
        | some u => rw [s1 _ _ e] at hS; cases hS
      have hC0 : H C = none := by
        cases e : H C with
        | none => rfl
        | some u => rw [(s1.nw2 hS) _ _ e] at hC; cases hC
      have hSC : S ≠ C := ne_of_none upd_same hC
      have s2 : Same H (upd (upd H1 S (.lst [])) C (.lst [])) := (s1.nw2 hS).nw2 hC
      refine ⟨fun m σ H' => ∃ x sn cs v, σ = [some (.ref a), some (.str x), some (.ref S), some (.ref C), v, none] ∧ Same H H' ∧ Lst H' S sn ∧ H' C = some (.lst cs) ∧ cs.length = sn.length ∧ sn.Nodup ∧ (∀ y ∈ sn, y ∈ heads (rws rs)) ∧ x ∈ heads (rws rs) ∧ m + sn.length = (heads (rws rs)).length,
        ⟨(heads (rws rs)).length, x0, [], [], none, rfl, s2, ?_, upd_same, rfl, List.nodup_nil, (fun y hy => by cases hy), hx0, rfl⟩, ?_⟩
      · show (upd (upd H1 S (.lst [])) C (.lst [])) S = _
        rw [upd_ne hSC, upd_same]
        rfl
      · intro m σ H' ⟨x, sn, cs, v, eσ, s3, hs, hc, hlen, nd, sub, hx, hm2⟩
        subst eσ
        have hhl := heads_length (rws rs)
        rw [List.length_map] at hhl
        have hsl : sn.length ≤ 1000 := Nat.le_trans (nodup_le nd sub) (Nat.le_trans hhl hl)
        refine ⟨_, rfl, _, rfl, S, _, rfl, .inl (SqL.of hs), rfl, flat_strs _, _, rfl, ?_⟩
        rw [in_strs]
        by_cases hin : x ∈ sn
        · rw [decide_eq_true hin]
          refine iteF ?_
          obtain ⟨j, hj, hj2⟩ := idx_of hin
          refine ⟨_, rfl, _, rfl, .inl ⟨rfl, _, SqL.of hs⟩, _, rfl, S, _, .str x, j, .str x, rfl, rfl, SqL.of hs, rfl, flat_strs _, by rw [List.getElem?_map, hj]; rfl, by rw [eq_strs, decide_eq_true rfl], fun m2 z hm3 hz => ?_, _, rfl, C, _, rfl, SqL.of hc, fun q nq => ⟨q, _, rfl, SqL.of upd_same, fun q2 nq2 => ?_⟩⟩
          · obtain ⟨z2, hz2, rfl⟩ := map_get hz
            rw [eq_strs, decide_eq_false (hj2 m2 z2 hm3 hz2)]
          · have s5 := (s3.nw2 (o := .lst (cutV cs (some (j : Int)) none)) nq)
            refine k _ q2 _ (s5.nw2 nq2) ?_ upd_same
            cases e : H q2 with
            | none => rfl
            | some u => rw [s5 _ _ e] at nq2; cases nq2
        · rw [decide_eq_false hin]
          refine iteT ⟨fun σ' H'' => ∃ m', m' < m ∧ ∃ x sn cs v, σ' = [some (.ref a), some (.str x), some (.ref S), some (.ref C), v, none] ∧ Same H H'' ∧ Lst H'' S sn ∧ H'' C = some (.lst cs) ∧ cs.length = sn.length ∧ sn.Nodup ∧ (∀ y ∈ sn, y ∈ heads (rws rs)) ∧ x ∈ heads (rws rs) ∧ m' + sn.length = (heads (rws rs)).length, fun σ' H'' q => q, ?_⟩
          have nd2 : (sn ++ [x]).Nodup := List.nodup_append.mpr ⟨nd, by simp, fun y hy z hz => by
            have e : z = x := by simpa using hz
            subst e
            exact fun e => hin (e ▸ hy)⟩
          have sub2 : ∀ y ∈ sn ++ [x], y ∈ heads (rws rs) := fun y hy => by
            rcases List.mem_append.mp hy with h | h
            · exact sub y h
            · have e : y = x := by simpa using h
              subst e
              exact hx
          have hl2 := nodup_le nd2 sub2
          rw [List.length_append, List.length_singleton] at hl2
          refine ⟨_, rfl, .inl ⟨rfl, _, SqL.of hs⟩, _, rfl, S, _, _, rfl, rfl, hs, size_lt (by rw [List.length_map]; omega), ?_⟩
          have s4 : Same H (upd H' S (.lst (vstr sn ++ [.str x]))) := s3.old2 hS0
          refine ⟨_, rfl, _, rfl, rfl, x, a, rs, rfl, hR.keep s4, claim_free hst hx, fun H5 p y vs' s5 hp hy => ?_⟩
          have s6 : Same H H5 := s4.trans s5
          have hc5 : H5 C = some (.lst cs) := s5 _ _ (by rw [upd_ne hSC.symm]; exact hc)
          have hs5 : H5 S = some (.lst (vstr sn ++ [.str x])) := s5 _ _ upd_same
          refine ⟨_, rfl, .inl ⟨rfl, _, SqL.of hc5⟩, _, rfl, C, _, _, rfl, rfl, hc5, size_lt (by omega), ?_⟩
          have hpC : p ≠ C := ne_of hp hc5 (by intro z; cases z)
          refine ⟨_, rfl, p, _, 0, .str y, rfl, rfl, SqT.of (by rw [upd_ne hpC]; exact hp), atI_nat rfl, m - 1, by omega, y, sn ++ [x], cs ++ [.ref p], _, rfl, s6.old2 hC0, ?_, upd_same, by rw [List.length_append, List.length_append, hlen]; rfl, nd2, sub2, hy, by rw [List.length_append, List.length_singleton]; omega⟩
          show (upd H5 C _) S = _
          rw [upd_ne hSC, hs5, ← List.map_singleton, ← List.map_append]
end
end TM
set_option maxRecDepth 100000
set_option maxHeartbeats 4000000
/-! errors; merged. -/
namespace TM
open PySem PySem.Spec PyProof.Rows L2
/-- an error class x at C whose __init__ stands at f; base class B -/
structure ErrAt (K : PySem.W.Frag) (mg : Str → Option Value) (x qual : Str) (st : Stmt) (ps : List Str) (C f B : Addr) (fd : FuncData) : Prop where
  T : OexC K C
  iC : PySem.W.findIn K (.ref C) "__init__" = some (some (.ref f))
  tI : PySem.W.typeIn K (.ref f) = some (.type "function")
  g : mg x = some (.ref C)
  xf : XfC K C
  self : PySem.W.exmOne K (.ref C) (.ref C) = some true
  F : FunD K "__init__" qual (defArgs st) (defBody st) (defScope st) [] [] f fd
  b : Binds K fd ps []
  gB : mg "LookError" = some (.ref B)
  M : ∃ mc, MidC K B mc
  nS : PySem.W.findIn K (.ref C) "steps" = some none
  nN : PySem.W.findIn K (.ref C) "name" = some none
section
variable {X : Cx} {e : Expr} {es : List Expr} {ta : TA} {p1 p2 p pos : Pos}
theorem pmk_oexC {CX : CXT} {x : Str} {C fI : Addr} {k : Nat} {fd : FuncData} {ps : List Str} {sp : Sp} {ds : List Value} {dvs : List V} (hc : X.calm = true) (T : OexC X.K C) (iC : PySem.W.findIn X.K (.ref C) "__init__" = some (some (.ref fI))) (tI : PySem.W.typeIn X.K (.ref fI) = some (.type "function"))
    (F1 : FnOk X.prog X.w X.K X.mg X.base CX k fI fd ps sp) (hr : L2H.RoomH (k + 1) X.A) (hb : Binds X.K fd ps ds) (hd : Vals dvs ds) (hx : Passes CX X (fun _ _ _ => False)) (hg : Gl X x) (hm : X.mg x = some (.ref C)) (ha : PA X (e :: es) ta)
    (hdb : (x == ("__debug__" : Str)) = false := by decide) (he : starEach (e :: es) X.env = (false, eval e X.env) :: starEach es X.env := by rfl) (hpl : (backTo pos (starEach es X.env)).any (·.1) = false := by rfl) :
    PMk X (.Call (.Name x p) (e :: es) [] pos) (tMkO C sp dvs ta) :=
  fun pins s σ H Q I h => pmk_oex T iC tI F1 ⟨I.ok.hd hc, hr.dp, hr.un⟩ hb hd hx hg hm ha hdb he hpl pins s σ H Q I h
theorem pmk_oexN {CX : CXT} {x : Str} {C fI : Addr} {k : Nat} {fd : FuncData} {ps : List Str} {sp : Sp} {ds : List Value} {dvs : List V} (hc : X.calm = true) (T : OexC X.K C) (iC : PySem.W.findIn X.K (.ref C) "__init__" = some (some (.ref fI))) (tI : PySem.W.typeIn X.K (.ref fI) = some (.type "function"))
    (F1 : FnOk X.prog X.w X.K X.mg X.base CX k fI fd ps sp) (hr1 : L2H.RoomH (k + 1) X.A) (hb : Binds X.K fd ps ds) (hd : Vals dvs ds) (hx : Passes CX X (fun _ _ _ => False)) (hg : Gl X x) (hm : X.mg x = some (.ref C)) (ha : PA X (e :: es) ta)
    (hdb : (x == ("__debug__" : Str)) = false := by decide) (he : starEach (e :: es) X.env = (false, eval e X.env) :: starEach es X.env := by rfl) (hpl : (backTo pos (starEach es X.env)).any (·.1) = false := by rfl) :
    L2N.PMk X (.Call (.Name x p) (e :: es) [] pos) (tMkO C sp dvs ta) := by
  intro pins s σ H Q I h
  have hr : Room (k + 1) X.A := ⟨I.ok.hd hc, hr1.dp, hr1.un⟩
  obtain ⟨nm, q, N, bs, bm, sn, sub, ab, col, dd, k0, k1, k2, k3, k5, hC, hbm⟩ := T.cls
  refine wpAny_Call_Name_kw (ld_glob I hg hm ?_ hdb)
  refine PySem.W.callWith_K (h₀ := X.base) I.ok.mod.kin T.kC (thn (ha.run pos pins s σ H _ I h) fun us s1 ⟨vs, H1, I1, r1, hz, q1⟩ => ⟨I1.kIn, ?_⟩) he hpl
  show wpAny _ _ (call (.ref C) us) _ _ _
  obtain ⟨hp, g, dr, tk, os⟩ := s1
  have hsz : hp.objs.size ≤ hp.objs.size + 1 := Nat.le_succ _
  have hn : H1 (hp.objs.size + 1) = none := I1.hok.fresh hsz
  have hq := q1 (hp.objs.size + 1) hn
  have kk : ∀ b o, hp.get? b = some o → ((hp.push (PySem.W.kdv_tup us)).push (PySem.HandSPX.excO C hp.objs.size)).get? b = some o := fun b o e => Heap.get?_push_of_some _ (Heap.get?_push_of_some _ e)
  have hget : ((hp.push (PySem.W.kdv_tup us)).push (PySem.HandSPX.excO C hp.objs.size)).get? (hp.objs.size + 1) = some (PySem.HandSPX.excO C hp.objs.size) := by heap_get
  have I2 : Inv X pins σ (upd H1 (hp.objs.size + 1) (exo (hp.objs.size + 1) C none)) ⟨(hp.push (PySem.W.kdv_tup us)).push (PySem.HandSPX.excO C hp.objs.size), g, dr, tk, os⟩ :=
    I1.laid (t' := tk) (a := hp.objs.size + 1) (o := exo (hp.objs.size + 1) C none) (h' := (hp.push (PySem.W.kdv_tup us)).push (PySem.HandSPX.excO C hp.objs.size)) kk hsz (exo_ok hget)
  have r2 : Vals (V.ref (hp.objs.size + 1) :: (vs ++ dvs)) (Value.ref (hp.objs.size + 1) :: (us ++ ds)) := .cons rfl (r1.append hd)
  have hl : (Value.ref (hp.objs.size + 1) :: us ++ ds).length = ps.length := by
    have e := r2.length
    rw [F1.len _ _ _ _ hq] at e
    exact e.symm
  have hus : us.length ≤ sizeLine := by
    rw [← Paired.length r1, sizeLine_eq]
    omega
  refine wpAny_call (PySem.HandSPX.call_own F.excBase_ValueError (fun Y => PySem.HandSPX.refsVE_contains Y bm hbm) (I1.kIn _ _ hC) (PySem.W.looks_findIn I1.kIn iC) (fun self => PySem.W.bind_fn I1.kIn self tI) hus
    (codeAny_mono (F1.run _ X.stack _ _ ⟨Value.ref (hp.objs.size + 1) :: us, []⟩ (Value.ref (hp.objs.size + 1) :: (us ++ ds)) _ _ (fun _ _ _ => False) (hr.make C us []) (I2.env0.make C us []) (hb _ (Value.ref (hp.objs.size + 1) :: us) I2.kIn hl) r2 hq) fun r s' hq' => ?_))
  cases r with
  | error er => exact hx pins σ _ _ er s' I2 hq'
  | ok fl =>
    cases fl with
    | ret u =>
      obtain ⟨v, H2, os2, bare2, un2, hok2, rv, ev, d, fs, ea, ed, hd1, q2⟩ := hq'
      subst ev
      obtain ⟨h2, g2, d2, t2, os'⟩ := s'
      obtain ⟨t0, G, J, kG, ge, hoe, na⟩ := mk_end0 (d2 := d2) (t2 := t2) I1 hsz kk un2 hok2 os2 bare2 ea ed hd1
      exact ⟨rv, _, _, _, ⟨G, g2, d2, t2, os'⟩, _, .ref C, some d, rfl, J, kG, ge, hoe, ⟨rfl, rfl, fun vs e => by cases e; rfl⟩, rfl, rfl, na, rfl, bare2, raises_own T.exC T.tyC, q2⟩
    | next => exact False.elim hq'
    | brk => exact False.elim hq'
    | cont => exact False.elim hq'
theorem takes0N {X : Cx} : L2N.Takes X (fun _ _ _ _ => False) := fun _ _ x => by
  obtain ⟨_, _, _, _, _, _, _, _, _, _, _, _, _, _, _, _, z⟩ := x
  exact z.elim
end
def spRingI (C : Addr) : Bool → Sp := fun b vs H Q _ => b = true ∧ ∃ (a sl : Addr) (l : List V), vs = [.ref a, .ref sl] ∧ H a = some (exo a C none) ∧ H sl = some (.lst l) ∧
  ∀ q dx, H q = none → H dx = none → dx ≠ a → dx ≠ q → Q .non (upd (upd (upd H q (.lst l)) dx (exd dx [("steps", .ref q)])) a (exo a C (some dx)))
section
variable {P : Program} {w : World} {K : PySem.W.Frag} {mg : Str → Option Value} {base : Heap} {f f1 f2 f3 f4 : Addr} {fd fd1 fd2 fd3 fd4 : FuncData} {C B : Addr}
theorem scRingI : FnScope ["self", "steps"] ["self", "steps"] (defScope sRingI) := ⟨rfl, rfl, rfl, by decide +kernel, rfl, by decide +kernel, by decide +kernel⟩
theorem ok_ringI (D : ErrAt K mg "Ring" "Ring.__init__" sRingI ["self", "steps"] C f B fd) (hLi : mg "list" = none) : FnM P w K mg base CX0 1 f fd ["self", "steps"] (spRingI C) := by
  obtain ⟨mc, M⟩ := D.M
  refine fun_okM D.F scRingI (fun b vs H Q E h => ?_) (fun b pl cdv A outer s H vs Q E hm hr h => ?_)
  · obtain ⟨_, a, sl, l, rfl, _⟩ := h
    rfl
  · obtain ⟨rfl, a, sl, l, rfl, ha, hs, k⟩ := h
    refine ⟨_, PSs.nox (pss_cons (ps_expr (pe_leinit rfl D.gB M (pa_cons (pv 0) (pa_cons pe_str pa_nil))))
      (pss_one (ps_ost (pv 0) (pe_callTy call_list_of rfl hLi PyProof.Rows.boot_list (pa_cons (pv 1) pa_nil))))), ?_⟩
    refine ⟨_, rfl, a, C, _, rfl, by decide, D.T, ha, ?_⟩
    refine ⟨_, rfl, sl, l, rfl, .inl (SqL.of hs), fun q nq => ?_⟩
    have hqa : a ≠ q := ne_of_none ha nq
    refine ⟨_, rfl, a, C, rfl, D.T, D.nS, .inl ⟨by rw [upd_ne hqa]; exact ha, fun dx ndx hdx => ?_⟩⟩
    have hdq : dx ≠ q := (ne_of_none upd_same ndx).symm
    exact k q dx nq (by rw [upd_ne hdq] at ndx; exact ndx) hdx hdq
def spTangI (C : Addr) : Bool → Sp := fun b vs H Q _ => b = true ∧ ∃ (a sl : Addr) (n : V) (l : List V), vs = [.ref a, n, .ref sl] ∧ H a = some (exo a C none) ∧ H sl = some (.lst l) ∧
  ∀ H' dx fs, Same (del H a) H' → H dx = none → dx ≠ a → H' a = some (exo a C (some dx)) → H' dx = some (exd dx fs) → Q .non H'
theorem scTangI : FnScope ["self", "name", "steps"] ["self", "name", "steps"] (defScope sTangI) := ⟨rfl, rfl, rfl, by decide +kernel, rfl, by decide +kernel, by decide +kernel⟩
theorem ok_tangI (D : ErrAt K mg "Tangled" "Tangled.__init__" sTangI ["self", "name", "steps"] C f B fd) (hLi : mg "list" = none) : FnM P w K mg base CX0 1 f fd ["self", "name", "steps"] (spTangI C) := by
  obtain ⟨mc, M⟩ := D.M
  refine fun_okM D.F scTangI (fun b vs H Q E h => ?_) (fun b pl cdv A outer s H vs Q E hm hr h => ?_)
  · obtain ⟨_, a, sl, n, l, rfl, _⟩ := h
    rfl
  · obtain ⟨rfl, a, sl, n, l, rfl, ha, hs, k⟩ := h
    refine ⟨_, PSs.nox (pss_cons (ps_expr (pe_leinit rfl D.gB M (pa_cons (pv 0) (pa_cons pe_str pa_nil))))
      (pss_cons (ps_ost (pv 0) (pv 1)) (pss_one (ps_ost (pv 0) (pe_callTy call_list_of rfl hLi PyProof.Rows.boot_list (pa_cons (pv 2) pa_nil)))))), ?_⟩
    refine ⟨_, rfl, a, C, _, rfl, by decide, D.T, ha, ?_⟩
    refine ⟨_, rfl, _, rfl, a, C, rfl, D.T, D.nN, .inl ⟨ha, fun dx ndx hdx => ?_⟩⟩
    have hsa : sl ≠ a := fun e => by
      rw [e, ha] at hs
      cases hs
    have hsd : sl ≠ dx := ne_of_none hs ndx
    refine ⟨_, rfl, sl, l, rfl, .inl (SqL.of (by rw [upd_ne hsa, upd_ne hsd]; exact hs)), fun q nq => ?_⟩
    have hqa : q ≠ a := fun e => by rw [e, upd_same] at nq; cases nq
    have hqd : q ≠ dx := fun e => by rw [e, upd_ne hdx, upd_same] at nq; cases nq
    have hq0 : H q = none := by rw [upd_ne hqa, upd_ne hqd] at nq; exact nq
    refine ⟨_, rfl, a, C, rfl, D.T, D.nS, .inr ⟨dx, _, by rw [upd_ne hqa.symm, upd_same], by rw [upd_ne hqd.symm, upd_ne hdx, upd_same], by show 1 ≤ 900; omega, ?_⟩⟩
    refine k _ dx _ (fun b u e => ?_) ndx hdx ?_ upd_same
    · have hba : b ≠ a := fun z => by rw [z, del_same] at e; cases e
      rw [del_ne hba] at e
      rw [upd_ne (ne_of_none e ndx), upd_ne (ne_of_none e hq0), upd_ne hba, upd_ne (ne_of_none e ndx)]
      exact e
    · rw [upd_ne hdx.symm, upd_ne hqa.symm, upd_same]
def rLstOf (K : PySem.W.Frag) : List V → Hp → VK → Prop := fun xs H Q => ∃ p ys, xs = [.ref p] ∧ (SqL K H p ys ∨ SqT K H p ys) ∧ ∀ l, H l = none → Q (.ref l) (upd H l (.lst ys))
def spMerged (C : Addr) : Bool → Sp := fun b vs H Q E => ∃ (a : Addr) (rs : List (Addr × List Str)), vs = [.ref a] ∧ Rws H a rs ∧ rs.length ≤ 1000 ∧ (∀ p ∈ rs, p.2.length ≤ 1000) ∧ tot (rws rs) ≤ 10000 ∧
  (∀ l, merged (rws rs) = some l → ∀ H' q, Same H H' → H q = none → H' q = some (.lst (vstr l)) → Q (.ref q) H') ∧
  (merged (rws rs) = none → b = true ∧ ∀ H' d sl l, Same H H' → H d = none → H' d = some (.xd [("steps", .ref sl)]) → H' sl = some (.lst l) → E (.ref C) (some d) H')
theorem merged_len : ∀ {m : Nat} {rows : List (List Str)} {l : List Str}, tot rows ≤ m → merged rows = some l → l.length ≤ tot rows
  | m, rows, l, hm, h => by
    cases ha : rows.all List.isEmpty with
    | true =>
      rw [merged_done ha] at h
      cases h
      exact Nat.zero_le _
    | false =>
      cases e : nextFree rows with
      | none =>
        rw [merged_stuck ha e] at h
        cases h
      | some x =>
        rw [merged_step ha e] at h
        obtain ⟨l', hl', rfl⟩ := Option.map_eq_some_iff.mp h
        obtain ⟨t, ht⟩ := nextFrom_mem e
        have hlt := tot_without_lt ht (List.mem_cons_self (a := x) (l := t))
        match m, hm with
        | 0, hm => omega
        | m + 1, hm =>
          have := merged_len (m := m) (rows := without rows x) (by omega) hl'
          rw [List.length_cons]
          omega
theorem scMerged : FnScope ["rows", "left", "told", "name", "row"] ["rows"] (defScope sMerged) := ⟨rfl, rfl, rfl, by decide +kernel, rfl, by decide +kernel, by decide +kernel⟩
theorem any_empty (rs : List (List Str)) : ((rs.map fun r => !r.isEmpty).any id) = !rs.all List.isEmpty := by
  induction rs with
  | nil => rfl
  | cons r rs ih => rw [List.map_cons, List.any_cons, List.all_cons, ih]; cases r <;> simp
theorem map_snoc2 (o : Option (List Str)) (t : List Str) (x : Str) : (o.map (x :: ·)).map (t ++ ·) = o.map ((t ++ [x]) ++ ·) := by
  cases o with
  | none => rfl
  | some l => show some _ = some _; simp
theorem ok_merged (D : DefAt K mg "merged" sMerged ["rows"] f fd) (hEn : mg "enumerate" = none) (hRe : mg "reversed" = none) (hLi : mg "list" = none) (hAn : mg "any" = none)
    (D1 : DefAt K mg "next_free" sNextFree ["rows"] f1 fd1) {f0 : Addr} {fd0 : FuncData} (D0 : DefAt K mg "is_free" sIsFree ["name", "rows"] f0 fd0) (D2 : DefAt K mg "rows_without" sWithout ["rows", "name"] f2 fd2)
    (D3 : DefAt K mg "ring_among" sRingA ["rows"] f3 fd3) {f5 : Addr} {fd5 : FuncData} (D5 : DefAt K mg "claim_on" sClaim ["name", "rows"] f5 fd5) (DR : ErrAt K mg "Ring" "Ring.__init__" sRingI ["self", "steps"] C f4 B fd4) :
    FnM P w K mg base (L2.CX P w) 3 f fd ["rows"] (spMerged C) := by
  have G1 : FnM P w K mg base CX0 2 f1 fd1 ["rows"] spNextFree := ok_next_free D1 D0
  have G2 : FnM P w K mg base CX0 2 f2 fd2 ["rows", "name"] spWithout := (ok_without D2).mono (by decide)
  have G3 : FnM P w K mg base CX0 2 f3 fd3 ["rows"] spRingA := ok_ring D3 D5 hEn hRe hLi
  have G4 : FnOk P w K mg base CX0 1 f4 fd4 ["self", "steps"] (spRingI C true) := (ok_ringI DR hLi).cold
  refine fun_okM D.F scMerged (fun b vs H Q E h => ?_) (fun b pl cdv A outer s H vs Q E hm hr h => ?_)
  · obtain ⟨a, rs, rfl, _⟩ := h
    rfl
  · obtain ⟨a, rs, rfl, hR, hl1, hl2, htot, k1, k2⟩ := h
    refine ⟨_, pss_cons (ps_setLcM (i := 1) (own := [("row", 4)]) (g := gName 4) (te := tCB (rLstOf K) (tCons (tVar 4) tNil)) hm scMerged.nd rfl rfl (sw_true rfl rfl rfl (by decide +kernel)) (pm_list (pv 0)) (blkOk_by (N := ["rows", "left", "told", "name", "row"]) (sc := defScope sMerged) (by decide +kernel)) (fun _ _ _ _ _ => pg_name (i := 4) scMerged.nd rfl (Or.inl rfl)) (fun _ _ _ _ _ => pts_nil) (fun _ _ _ _ _ => by exact (pe_callTy call_list_of rfl hLi PyProof.Rows.boot_list (pa_cons (pv 4) pa_nil))))
      (pss_cons (ps_set (i := 2) scMerged.nd rfl (Or.inl rfl) (pe_lst pa_nil))
      (pss_cons (ps_while (passes_of rfl) (pt_val (pe_callB (cm_any hm) rfl hAn (by decide +kernel) (pa_cons (pe_lcM (own := [("row", 4)]) (g := gName 4) (te := tOp (rNeD K) (tVar 4) (tLst tNil)) hm scMerged.nd (pm_list (pv 1)) (blkOk_by (N := ["rows", "left", "told", "name", "row"]) (sc := defScope sMerged) (by decide +kernel)) (fun _ _ _ _ _ => pg_name (i := 4) scMerged.nd rfl (Or.inl rfl)) (fun _ _ _ _ _ => pts_nil) (fun _ _ _ _ _ => by exact (pe_cmpR (op_neD (roomM_64 hr)) (pv 4) (pe_lst pa_nil) (nomark _)))) pa_nil)))
        (pss_cons (ps_set (i := 3) scMerged.nd rfl (Or.inl rfl) (pe_callM G1 hr hm rfl D1.g D1.F.kp D1.b .nil (fun _ => passAt0) (pa_cons (pv 1) pa_nil)))
        (pss_cons (ps_if (pt_cmpR op_isN (pv 3) pe_non (nomark _)) (pss_one (ps_calm (fun hc => ps_raise hc (takes_of rfl rfl rfl rfl) (pmk_oexC hc DR.T DR.iC DR.tI G4 hr DR.b .nil pass0 rfl DR.g (pa_cons (pe_callM G3 hr hm rfl D3.g D3.F.kp D3.b .nil (fun _ => passAt0) (pa_cons (pv 1) pa_nil)) pa_nil))))) pss_nil)
        (pss_cons (ps_expr (pe_bm PySem.F.plainAttrs_list PySem.F.slot_list_append PySem.F.type_list_append mt_append (pv 2) (pa_cons (pv 3) pa_nil)))
        (pss_one (ps_set (i := 1) scMerged.nd rfl (Or.inl rfl) (pe_callM G2 hr hm rfl D2.g D2.F.kp D2.b .nil (fun _ => passAt0) (pa_cons (pv 1) (pa_cons (pv 3) pa_nil)))))))))
      (pss_one (ps_ret (pv 2))))), ?_⟩
    refine ⟨_, rfl, a, rfl, ⟨_, SqL.of hR.top⟩, fun D1 hD1 => lc_list (K := K) (a := a) (xs := rs.map fun p => V.ref p.1)
      (fun i H' => ∃ rs' : List (Addr × List Str), H' D1 = some (.lst (rs'.map fun p => V.ref p.1)) ∧ rws rs' = rws (rs.take i) ∧ (∀ p ∈ rs', Lst H' p.1 p.2 ∧ p.1 ≠ D1) ∧ Same H H')
      ⟨[], upd_same, rfl, (fun p hp => by cases hp), Same.nw hD1⟩ (fun i H' _ ⟨_, _, _, _, s1⟩ => s1.seq (SqL.of hR.top)) ?_ ?_⟩
    · intro i y H' hi ⟨rs', h1, h2, h3, s1⟩
      obtain ⟨p, hp, rfl⟩ := map_get hi
      have hrow := s1 _ _ (hR.row p (List.mem_of_getElem? hp))
      refine ⟨rfl, _, rfl, p.1, _, rfl, .inl (SqL.of hrow), fun l hl => ?_⟩
      have hne : D1 ≠ l := ne_of_none h1 hl
      have hlen : rs'.length = (rs.take i).length := by
        have := congrArg List.length h2
        simpa using this
      refine ⟨_, (by rw [upd_ne hne]; exact h1), ?_, rs' ++ [(l, p.2)], ?_, ?_, fun q hq => ?_, (s1.nw2 hl).old2 hD1⟩
      · rw [List.length_map, hlen, List.length_take]
        exact size_lt (by omega)
      · rw [upd_same]
        simp
      · rw [take_snoc hp]
        show (rs' ++ [(l, p.2)]).map (·.2) = (rs.take i ++ [p]).map (·.2)
        rw [List.map_append, List.map_append]
        exact congrArg (· ++ [p.2]) h2
      · rcases List.mem_append.mp hq with hq | hq
        · obtain ⟨q1, q2⟩ := h3 q hq
          refine ⟨?_, q2⟩
          show upd (upd H' l _) D1 _ q.1 = _
          rw [upd_ne q2, upd_ne (ne_of_none q1 hl)]
          exact q1
        · have e : q = (l, p.2) := by simpa using hq
          subst e
          refine ⟨?_, hne.symm⟩
          show upd (upd H' l _) D1 _ l = _
          rw [upd_ne hne.symm, upd_same]
    · intro H1 ⟨rs1, h1, h2, h3, s1⟩
      rw [List.length_map, List.take_length] at h2
      refine ⟨by show 0 ≤ sizeLine; exact Nat.zero_le _, fun T hT => ?_⟩
      have hT0 : H T = none := s1.free hT
      have hlen1 : rs1.length = rs.length := by
        have := congrArg List.length h2
        simpa using this
      have asc1 : ∀ p ∈ rs1, ∀ x ∈ p.2, Asc x := fun p hp x hx => by
        have hm2 : p.2 ∈ rws rs := by rw [← h2]; exact List.mem_map.mpr ⟨p, hp, rfl⟩
        obtain ⟨q, hq, e⟩ := List.mem_map.mp hm2
        exact hR.asc q hq x (by rw [e]; exact hx)
      refine ⟨fun m σ H' => ∃ (al : Addr) (rs' : List (Addr × List Str)) (told : List Str) (v : Option V), σ = [some (.ref a), some (.ref al), some (.ref T), v, none] ∧ Same H H' ∧ Rws H' al rs' ∧ al ≠ T ∧ (∀ p ∈ rs', p.1 ≠ T) ∧ Lst H' T told ∧ rs'.length = rs.length ∧ (∀ p ∈ rs', p.2.length ≤ 1000) ∧
          told.length + tot (rws rs') ≤ 10000 ∧ merged (rws rs) = (merged (rws rs')).map (told ++ ·) ∧ m = tot (rws rs'),
        ⟨tot (rws rs1), D1, rs1, [], none, rfl, s1.nw2 hT, ⟨(Same.nw hT) _ _ h1, fun p hp => (Same.nw hT) _ _ (h3 p hp).1, asc1⟩, ne_of_none h1 hT, fun p hp => ne_of_none (h3 p hp).1 hT, upd_same, hlen1, fun p hp => ?_, by rw [h2, List.length_nil, Nat.zero_add]; exact htot, by rw [h2]; cases merged (rws rs) <;> rfl, rfl⟩, ?_⟩
      · have hm2 : p.2 ∈ rws rs := by rw [← h2]; exact List.mem_map.mpr ⟨p, hp, rfl⟩
        obtain ⟨q, hq, e⟩ := List.mem_map.mp hm2
        rw [← e]
        exact hl2 q hq
      · intro m σ H' ⟨al, rs', told, v, eσ, s2, hR2, hal, hrT, hTl, hlen, hl3, hsum, hmg, hm2⟩
        subst eσ
        refine ⟨_, rfl, al, rfl, ⟨_, SqL.of hR2.top⟩, fun D2 hD2 => lc_list (K := K) (a := al) (xs := rs'.map fun p => V.ref p.1)
          (fun i H2 => H2 D2 = some (.lst ((rs'.take i).map fun p => V.bl (!p.2.isEmpty))) ∧ Same H' H2)
          ⟨upd_same, Same.nw hD2⟩ (fun i H2 _ ⟨_, s3⟩ => s3.seq (SqL.of hR2.top)) ?_ ?_⟩
        · intro i y H2 hi ⟨g1, s3⟩
          obtain ⟨p, hp, rfl⟩ := map_get hi
          have hpm := List.mem_of_getElem? hp
          refine ⟨rfl, _, rfl, by show 0 ≤ sizeLine; exact Nat.zero_le _, fun q nq => ?_⟩
          have hrow2 := (s3.nw2 (o := .lst []) nq) _ _ (hR2.row p hpm)
          have hne : D2 ≠ q := ne_of_none g1 nq
          refine ⟨_, dStrs [], dp_strs (SqL.of hrow2), dp_strs (l := []) (SqL.of upd_same), shaped_strs (hR2.asc p hpm), shaped_strs (fun x hx => by cases hx), _, (by rw [upd_ne hne]; exact g1), ?_, ?_, (s3.nw2 nq).old2 hD2⟩
          · rw [List.length_map, List.length_take]
            exact size_lt (by omega)
          · rw [upd_same, eqv_nilR, take_snoc hp, List.map_append]
            rfl
        · intro H2 ⟨g1, s3⟩
          rw [List.length_map, List.take_length] at g1
          refine ⟨D2, (rws rs').map (fun r => !r.isEmpty), rfl, SqL.of (by rw [g1, List.map_map, List.map_map]; rfl), _, rfl, ?_⟩
          rw [any_empty]
          cases hall : (rws rs').all List.isEmpty with
          | true =>
            refine iteF ⟨_, rfl, ?_⟩
            refine k1 told ?_ H2 T (s2.trans s3) hT0 (s3 _ _ hTl)
            rw [hmg, merged_done hall]
            show some (told ++ []) = _
            rw [List.append_nil]
          | false =>
            refine iteT ⟨fun σ' H'' => ∃ m', m' < m ∧ ∃ (al : Addr) (rs' : List (Addr × List Str)) (told : List Str) (v : Option V), σ' = [some (.ref a), some (.ref al), some (.ref T), v, none] ∧ Same H H'' ∧ Rws H'' al rs' ∧ al ≠ T ∧ (∀ p ∈ rs', p.1 ≠ T) ∧ Lst H'' T told ∧ rs'.length = rs.length ∧ (∀ p ∈ rs', p.2.length ≤ 1000) ∧
              told.length + tot (rws rs') ≤ 10000 ∧ merged (rws rs) = (merged (rws rs')).map (told ++ ·) ∧ m' = tot (rws rs'), fun σ' H'' q => q, ?_⟩
            have hR3 := hR2.keep s3
            refine ⟨_, rfl, al, rs', rfl, hR3, fun H3 s4 => ?_⟩
            have s5 : Same H H3 := (s2.trans s3).trans s4
            have hR4 := hR3.keep s4
            have hT3 : Lst H3 T told := s4 _ _ (s3 _ _ hTl)
            cases hn : nextFree (rws rs') with
            | none =>
              refine ⟨_, rfl, rfl, _, rfl, iteT ?_⟩
              obtain ⟨hb, k3⟩ := k2 (by rw [hmg, merged_stuck hall hn]; rfl)
              refine ⟨hb, _, rfl, hb, al, rs', rfl, hR4, by omega, hn, hall, fun H4 p l s6 hp hp2 => ⟨by show 1 ≤ 1000; omega, fun e he => ?_⟩⟩
              refine ⟨rfl, e, p, l, rfl, upd_same, by rw [upd_ne (ne_of_none hp2 he)]; exact hp2, fun q dx hq hdx hde hdq => ⟨rfl, dx, _, upd_same, by rw [upd_ne hde, upd_same], ?_, ?_⟩⟩
              · rw [upd_ne hde] at hdx
                exact hdx
              · have hqe : q ≠ e := fun z => by rw [z, upd_same] at hq; cases hq
                rw [upd_ne hqe] at hq
                rw [upd_ne hde] at hdx
                have s7 : Same H H4 := s5.trans s6
                refine k3 _ dx q l (fun b u eb => ?_) (s7.free hdx) upd_same ?_
                · have hb4 := s7 _ _ eb
                  have hbe : b ≠ e := ne_of_none hb4 he
                  rw [upd_ne (ne_of_none hb4 hdx), del_ne hbe, upd_ne hbe, upd_ne (ne_of_none hb4 hdx), upd_ne (ne_of_none hb4 hq), upd_ne hbe]
                  exact hb4
                · rw [upd_ne hdq.symm, del_ne hqe, upd_ne hqe, upd_ne hdq.symm, upd_same]
            | some x =>
              refine ⟨_, rfl, rfl, _, rfl, iteF ⟨_, rfl, .inl ⟨rfl, _, SqL.of hT3⟩, _, rfl, T, _, _, rfl, rfl, hT3, ?_, ?_⟩⟩
              · rw [List.length_map]
                exact size_lt (by omega)
              · obtain ⟨t, ht⟩ := nextFrom_mem hn
                have hlt := tot_without_lt ht (List.mem_cons_self (a := x) (l := t))
                have s6 : Same H (upd H3 T (.lst (vstr told ++ [V.str x]))) := s5.old2 hT0
                have hR5 : Rws (upd H3 T (.lst (vstr told ++ [V.str x]))) al rs' := ⟨by rw [upd_ne hal]; exact hR4.top, fun p hp => by show upd H3 T _ p.1 = _; rw [upd_ne (hrT p hp)]; exact hR4.row p hp, hR4.asc⟩
                refine ⟨_, rfl, _, rfl, x, al, rs', rfl, hR5, by omega, hl3, fun H5 bl rs2 s7 hb0 hrow0 hRb hrw => ?_⟩
                have hT5 : H5 T = some (.lst (vstr told ++ [V.str x])) := s7 _ _ upd_same
                have hlen2 : rs2.length = rs'.length := by
                  have := congrArg List.length hrw
                  simpa [without] using this
                refine ⟨tot (rws rs2), by rw [hrw]; omega, bl, rs2, told ++ [x], _, rfl, s6.trans s7, hRb, (ne_of_none upd_same hb0).symm, fun p hp => (ne_of_none upd_same (hrow0 p hp)).symm, ?_, by omega, fun p hp => ?_, by rw [hrw, List.length_append, List.length_singleton]; omega, ?_, rfl⟩
                · show H5 T = _
                  rw [hT5, ← List.map_singleton, ← List.map_append]
                · have hm3 : p.2 ∈ without (rws rs') x := by rw [← hrw]; exact List.mem_map.mpr ⟨p, hp, rfl⟩
                  obtain ⟨r', hr', e⟩ := List.mem_map.mp hm3
                  obtain ⟨q, hq, e2⟩ := List.mem_map.mp hr'
                  rw [← e]
                  have := dropX_le x r'
                  have := hl3 q hq
                  rw [e2] at this
                  omega
                · rw [hmg, merged_step hall hn, hrw, map_snoc2]
end
end TM
set_option maxRecDepth 100000
set_option maxHeartbeats 4000000
/-! dicts of lists; loops. -/
namespace TM
open PySem PySem.Spec PyProof.Rows L2
/-- all but what stands in S is the same -/
def SameX (S : List Addr) (H H' : Hp) : Prop := ∀ b u, b ∉ S → H b = some u → H' b = some u
theorem SameX.refl (S : List Addr) (H : Hp) : SameX S H H := fun _ _ _ h => h
theorem SameX.trans {S : List Addr} {H H1 H2 : Hp} (a : SameX S H H1) (b : SameX S H1 H2) : SameX S H H2 := fun c o n h => b c o n (a c o n h)
theorem SameX.of {S : List Addr} {H H1 : Hp} (a : Same H H1) : SameX S H H1 := fun c o _ h => a c o h
theorem SameX.mono {S T : List Addr} {H H1 : Hp} (a : SameX S H H1) (h : ∀ b ∈ S, b ∈ T) : SameX T H H1 := fun c o n e => a c o (fun m => n (h c m)) e
theorem SameX.up {S : List Addr} {H H1 : Hp} {p : Addr} {o : HO} (a : SameX S H H1) (h : p ∈ S) : SameX S H (upd H1 p o) := fun c u n e => by
  rw [upd_ne (fun z : c = p => n (z ▸ h))]
  exact a c u n e
theorem SameX.nw {S : List Addr} {H H1 : Hp} {p : Addr} {o : HO} (a : SameX S H H1) (h : H1 p = none) : SameX S H (upd H1 p o) := fun c u n e => by
  have e1 := a c u n e
  rw [upd_ne (ne_of_none e1 h)]
  exact e1
theorem SameX.old {S : List Addr} {H H1 : Hp} {p : Addr} {o : HO} (a : SameX S H H1) (h : H p = none) : SameX S H (upd H1 p o) := fun c u n e => by
  rw [upd_ne (ne_of_none e h)]
  exact a c u n e
theorem SameX.same {H H1 : Hp} (a : SameX [] H H1) : Same H H1 := fun c o h => a c o (by simp) h
theorem SameX.step {S : List Addr} {H H1 H2 : Hp} (a : SameX S H H1) (b : Same H1 H2) : SameX S H H2 := a.trans (.of b)
theorem SameX.drop {S T : List Addr} {H H1 : Hp} (a : SameX S H H1) (h : ∀ b ∈ S, b ∈ T ∨ H b = none) : SameX T H H1 := fun c o n e => a c o (fun m => (h c m).elim n fun z => by rw [e] at z; cases z) e
theorem Same.unlock {H H' : Hp} {d : Addr} {x u : HO} (s : Same (upd H d x) H') (hd : H d = some u) : Same H (upd H' d u) := fun b v e => by
  by_cases hb : b = d
  · rw [hb] at e ⊢
    rw [hd] at e
    rw [upd_same]
    exact e
  · rw [upd_ne hb]
    exact s b v (by rw [upd_ne hb]; exact e)
theorem SameX.unlock {S : List Addr} {H H' : Hp} {d : Addr} {x u : HO} (s : SameX S (upd H d x) H') (hd : H d = some u) : SameX S H (upd H' d u) := fun b v n e => by
  by_cases hb : b = d
  · rw [hb] at e ⊢
    rw [hd] at e
    rw [upd_same]
    exact e
  · rw [upd_ne hb]
    exact s b v n (by rw [upd_ne hb]; exact e)
abbrev Ent := List (Str × Addr × List Str)
abbrev kvL (L : Ent) : List (Key × V) := L.map fun e => (Sum.inr e.1, V.ref e.2.1)
abbrev ent (L : Ent) : List (Str × List Str) := L.map fun e => (e.1, e.2.2)
theorem valV_L (x : Str) : ∀ L : Ent, valV (kvL L) (Sum.inr x) = (L.lookup x).map fun p => V.ref p.1
  | [] => rfl
  | (y, a, l) :: r => by
    by_cases e : y = x
    · subst e
      show valV ((Sum.inr y, V.ref a) :: kvL r) (Sum.inr y) = _
      rw [valV_pos rfl, List.lookup_cons, beq_self_eq_true]
      rfl
    · have e2 : ¬ (Sum.inr y : Key) = Sum.inr x := fun z => e (Sum.inr.inj z)
      have e3 : (x == y) = false := beq_eq_false_iff_ne.mpr fun z => e z.symm
      show valV ((Sum.inr y, V.ref a) :: kvL r) (Sum.inr x) = _
      rw [valV_neg e2, List.lookup_cons, e3]
      exact valV_L x r
theorem ent_lookup (x : Str) : ∀ L : Ent, (ent L).lookup x = (L.lookup x).map (·.2)
  | [] => rfl
  | (y, a, l) :: r => by
    show ((y, l) :: ent r).lookup x = _
    rw [List.lookup_cons, List.lookup_cons]
    cases x == y with
    | true => rfl
    | false => exact ent_lookup x r
theorem lookup_none {L : Ent} {x : Str} (h : x ∉ keysE (ent L)) : L.lookup x = none := by
  induction L with
  | nil => rfl
  | cons e r ih =>
    have h1 : x ≠ e.1 := fun z => h (by simp [keysE, z])
    rw [List.lookup_cons, beq_eq_false_iff_ne.mpr h1]
    exact ih fun z => h (by simp only [keysE, List.map_map, List.map_cons] at z ⊢; exact List.mem_cons_of_mem _ z)
theorem lookup_some {L : Ent} {x : Str} (h : x ∈ keysE (ent L)) : ∃ p, L.lookup x = some p ∧ (x, p) ∈ L := by
  induction L with
  | nil => cases h
  | cons e r ih =>
    by_cases h1 : x = e.1
    · refine ⟨e.2, ?_, ?_⟩
      · rw [List.lookup_cons, h1, beq_self_eq_true]
      · rw [h1]
        exact List.mem_cons_self
    · have h2 : x ∈ keysE (ent r) := by
        simp only [keysE, List.map_map, List.map_cons] at h ⊢
        exact (List.mem_cons.mp h).resolve_left h1
      obtain ⟨p, g1, g2⟩ := ih h2
      refine ⟨p, ?_, List.mem_cons_of_mem _ g2⟩
      rw [List.lookup_cons, beq_eq_false_iff_ne.mpr h1]
      exact g1
/-- the lists behind a dict of lists -/
structure Rows (H : Hp) (L : Ent) : Prop where
  row : ∀ e ∈ L, Lst H e.2.1 e.2.2
  asc : ∀ e ∈ L, ∀ x ∈ e.2.2, Asc x
theorem Rows.keep {H H' : Hp} {L : Ent} {S : List Addr} (r : Rows H L) (s : SameX S H H') (h : ∀ e ∈ L, e.2.1 ∉ S) : Rows H' L := ⟨fun e he => s _ _ (h e he) (r.row e he), r.asc⟩
theorem Rows.same {H H' : Hp} {L : Ent} (r : Rows H L) (s : Same H H') : Rows H' L := ⟨fun e he => s _ _ (r.row e he), r.asc⟩
/-- at d a dict of lists, locked or not -/
structure Eld (H : Hp) (d : Addr) (L : Ent) : Prop where
  top : Rd H d (.dK (kvL L))
  rows : Rows H L
theorem Rd.keep {H H' : Hp} {d : Addr} {o : HO} (r : Rd H d o) (s : ∀ u, H d = some u → H' d = some u) : Rd H' d o := r.elim (fun e => .inl (s _ e)) fun ⟨od, e⟩ => .inr ⟨od, s _ e⟩
theorem Eld.keep {H H' : Hp} {d : Addr} {L : Ent} {S : List Addr} (r : Eld H d L) (s : SameX S H H') (hd : d ∉ S) (h : ∀ e ∈ L, e.2.1 ∉ S) : Eld H' d L := ⟨Rd.keep r.top fun u => s d u hd, r.rows.keep s h⟩
theorem Eld.same {H H' : Hp} {d : Addr} {L : Ent} (r : Eld H d L) (s : Same H H') : Eld H' d L := ⟨Rd.keep r.top fun u => s d u, r.rows.same s⟩
theorem Eld.get {H : Hp} {d : Addr} {L : Ent} (r : Eld H d L) (x : Str) : DGet H d (.str x) ((L.lookup x).map fun p => V.ref p.1) := by
  rw [← valV_L]
  exact .inl ⟨_, Sum.inr x, r.top, rfl, rfl⟩
abbrev kvT (ks : List Str) : List (Key × V) := ks.map fun k => (Sum.inr k, V.bl true)
theorem vstr_snoc (l : List Str) (x : Str) : vstr (l ++ [x]) = vstr l ++ [V.str x] := by simp [vstr]
theorem kvT_snoc (l : List Str) (x : Str) : kvT (l ++ [x]) = kvT l ++ [(Sum.inr x, V.bl true)] := by simp [kvT]
theorem kvL_snoc (l : Ent) (x : Str × Addr × List Str) : kvL (l ++ [x]) = kvL l ++ [(Sum.inr x.1, V.ref x.2.1)] := by simp [kvL]
theorem ent_snoc (l : Ent) (x : Str × Addr × List Str) : ent (l ++ [x]) = ent l ++ [(x.1, x.2.2)] := by simp [ent]
theorem valV_T (x : Str) : ∀ ks : List Str, (valV (kvT ks) (Sum.inr x)).isSome = decide (x ∈ ks)
  | [] => rfl
  | y :: r => by
    by_cases e : y = x
    · subst e
      show (valV ((Sum.inr y, V.bl true) :: kvT r) (Sum.inr y)).isSome = _
      rw [valV_pos rfl, decide_eq_true List.mem_cons_self]
      rfl
    · have e2 : ¬ (Sum.inr y : Key) = Sum.inr x := fun z => e (Sum.inr.inj z)
      show (valV ((Sum.inr y, V.bl true) :: kvT r) (Sum.inr x)).isSome = _
      rw [valV_neg e2, valV_T x r]
      by_cases h : x ∈ r
      · rw [decide_eq_true h, decide_eq_true (List.mem_cons_of_mem _ h)]
      · rw [decide_eq_false h, decide_eq_false fun z => (List.mem_cons.mp z).elim (fun q => e q.symm) h]
theorem valV_Tn {x : Str} {ks : List Str} (h : x ∉ ks) : valV (kvT ks) (Sum.inr x) = none := by
  have := valV_T x ks
  rw [decide_eq_false h] at this
  cases e : valV (kvT ks) (Sum.inr x) with
  | none => rfl
  | some v => rw [e] at this; cases this
/-- at once: the name is known -/
def spRB1 : Bool → Sp := fun _ vs H Q _ => ∃ (x : Str) (ad ab kn : Addr) (as ks : List Str), vs = [.str x, .ref ad, .ref ab, .ref kn] ∧ Lst H ab as ∧ H kn = some (.dK (kvT ks)) ∧ x ∉ as ∧ x ∈ ks ∧ Q .non H
def spRB2 : Bool → Sp := fun _ vs H Q _ => ∃ (x : Str) (ad ab kn : Addr) (as ks : List Str) (L : Ent) (ea : Addr) (es : List Str), vs = [.str x, .ref ad, .ref ab, .ref kn] ∧ Lst H ab as ∧ H kn = some (.dK (kvT ks)) ∧ Eld H ad L ∧ L.lookup x = some (ea, es) ∧ Lst H ea es ∧ ea ≠ kn ∧ ad ≠ kn ∧
  x ∉ as ∧ x ∉ ks ∧ (∀ e ∈ es, e ∈ ks ∧ e ∉ as ∧ e ≠ x) ∧ as.length ≤ 1000 ∧ ks.length ≤ 1000 ∧ ∀ H', SameX [kn] H H' → H' kn = some (.dK (kvT (ks ++ [x]))) → Q .non H'
section
variable {P : Program} {w : World} {K : PySem.W.Frag} {mg : Str → Option Value} {base : Heap} {f : Addr} {fd : FuncData}
theorem scRB : FnScope ["name", "elders", "above", "known", "elder", "found"] ["name", "elders", "above", "known"] (defScope sRingB) := ⟨rfl, rfl, rfl, by decide +kernel, rfl, by decide +kernel, by decide +kernel⟩
theorem ok_rb1 (D : DefAt K mg "ring_below" sRingB ["name", "elders", "above", "known"] f fd) : FnM P w K mg base CX0 1 f fd ["name", "elders", "above", "known"] spRB1 := by
  refine fun_okM D.F scRB (fun b vs H Q E h => ?_) (fun b pl cdv A outer s H vs Q E hm hr h => ?_)
  · obtain ⟨x, ad, ab, kn, as, ks, rfl, _⟩ := h
    rfl
  · obtain ⟨x, ad, ab, kn, as, ks, rfl, hab, hkn, hx1, hx2, k⟩ := h
    refine ⟨_, PSs.nox (pss_cons (ps_if (pt_cmpR op_in_seq (pv 0) (pv 2) rfl) pss_never pss_nil)
      (pss_cons (ps_if (pt_cmp (pc_din (roomM_hu hr) (pv 0) (pv 3))) (pss_one (ps_ret pe_non)) pss_nil) pss_never)), ?_⟩
    refine ⟨_, rfl, _, rfl, ab, _, rfl, .inl (SqL.of hab), rfl, flat_strs _, _, rfl, ?_⟩
    rw [in_strs, decide_eq_false hx1]
    refine iteF ⟨_, rfl, _, rfl, kn, _, rfl, DGet.k (k := Sum.inr x) hkn, _, rfl, ?_⟩
    rw [valV_T, decide_eq_true hx2]
    exact iteT k
theorem ok_rb2 (D : DefAt K mg "ring_below" sRingB ["name", "elders", "above", "known"] f fd) : FnM P w K mg base CX0 2 f fd ["name", "elders", "above", "known"] spRB2 := by
  have G : FnM P w K mg base CX0 1 f fd ["name", "elders", "above", "known"] spRB1 := ok_rb1 D
  refine fun_okM D.F scRB (fun b vs H Q E h => ?_) (fun b pl cdv A outer s H vs Q E hm hr h => ?_)
  · obtain ⟨x, ad, ab, kn, as, ks, L, ea, es, rfl, _⟩ := h
    rfl
  · obtain ⟨x, ad, ab, kn, as, ks, L, ea, es, rfl, hab, hkn, hE, hlk, hes, hne, hadk, hx1, hx2, hel, hl1, hl2, k⟩ := h
    have hu := roomM_hu hr
    refine ⟨_, PSs.nox (pss_cons (ps_if (pt_cmpR op_in_seq (pv 0) (pv 2) rfl) pss_never pss_nil)
      (pss_cons (ps_if (pt_cmp (pc_din hu (pv 0) (pv 3))) (pss_one (ps_ret pe_non)) pss_nil)
      (pss_cons (ps_forM PassesOwn.never hm (pm_list (pe_dget hu (pv 1) (pv 0) (fun _ _ => rfl))) (pg_name (i := 4) scRB.nd rfl (Or.inl rfl))
        (pss_cons (ps_set (i := 5) scRB.nd rfl (Or.inl rfl) (pe_callM G hr hm rfl D.g D.F.kp D.b .nil (fun _ => passAt0) (pa_cons (pv 4) (pa_cons (pv 1) (pa_cons (pe_op op_cat (pv 2) (pe_lst (pa_cons (pv 0) pa_nil))) (pa_cons (pv 3) pa_nil))))))
        (pss_one (ps_if (pt_cmpR op_notN (pv 5) pe_non (nomark _)) pss_never pss_nil))))
      (pss_cons (ps_dput hu (pv 3) (pv 0) pe_bl rfl) (pss_one (ps_ret pe_non)))))), ?_⟩
    refine ⟨_, rfl, _, rfl, ab, _, rfl, .inl (SqL.of hab), rfl, flat_strs _, _, rfl, ?_⟩
    rw [in_strs, decide_eq_false hx1]
    refine iteF ⟨_, rfl, _, rfl, kn, _, rfl, DGet.k (k := Sum.inr x) hkn, _, rfl, ?_⟩
    rw [valV_T, decide_eq_false hx2]
    have hg := hE.get x
    rw [hlk] at hg
    refine iteF ⟨_, rfl, _, rfl, ad, _, rfl, hg, ea, rfl, ⟨_, SqL.of hes⟩, for_list (K := K) (a := ea) (xs := vstr es) (fun i σ H' => ∃ v1 v2, σ = [some (.str x), some (.ref ad), some (.ref ab), some (.ref kn), v1, v2] ∧ Same H H')
      ⟨_, _, rfl, Same.refl H⟩ (fun i σ H' _ ⟨_, _, _, s1⟩ => s1.seq (SqL.of hes)) ?_ ?_⟩
    · intro i y σ H' hi ⟨v1, v2, eσ, s1⟩
      subst eσ
      obtain ⟨e, he, rfl⟩ := map_get hi
      obtain ⟨h1, h2, h3⟩ := hel e (List.mem_of_getElem? he)
      refine ⟨_, rfl, _, rfl, _, rfl, _, rfl, by show 1 ≤ sizeLine; exact size_small (by decide), fun q nq => ?_⟩
      have hab1 : Lst H' ab as := s1 _ _ hab
      refine ⟨ab, q, _, [V.str x], rfl, rfl, (Same.nw nq) _ _ hab1, upd_same, ?_, fun r nr => ?_⟩
      · rw [List.length_map]
        exact size_small (by show as.length + 1 ≤ _; omega)
      · have s2 : Same H (upd (upd H' q (.lst [V.str x])) r (.lst (vstr as ++ [V.str x]))) := (s1.nw2 nq).nw2 nr
        refine ⟨_, rfl, e, ad, r, kn, as ++ [x], ks, rfl, ?_, s2 _ _ hkn, ?_, h1, ⟨_, rfl, rfl, _, rfl, iteF ⟨_, _, rfl, s2⟩⟩⟩
        · show upd _ r _ r = _
          rw [upd_same, vstr_snoc]
        · intro z
          rcases List.mem_append.mp z with z | z
          · exact h2 z
          · exact h3 (by simpa using z)
    · intro σ H' ⟨v1, v2, eσ, s1⟩
      subst eσ
      have hkn1 := s1 _ _ hkn
      refine ⟨_, rfl, _, rfl, kn, _, rfl, DPut.k (k := Sum.inr x) hkn1 ?_, ?_⟩
      · exact size_lt (by rw [List.length_map]; omega)
      · refine k _ ((SameX.of s1).up (by simp)) ?_
        rw [upd_same, putK_new _ (valV_Tn hx2), kvT_snoc]
end
end TM
set_option maxRecDepth 100000
set_option maxHeartbeats 4000000
/-! loop_of; rows_above; take_line. -/
namespace TM
open PySem PySem.Spec PyProof.Rows L2
theorem for_keys {d : Addr} {o : Obj} {kvs : List (Key × V)} {g : TG} {tb : TS} {D : Ends} {σ : L2.St} {H : Hp} (Pv : Nat → L2.St → Hp → Prop) (h0 : Pv 0 σ H) (hl : ∀ i σ H, Pv i σ H → H d = some (.frz o (.dK kvs)))
    (hs : ∀ i k v σ H, kvs[i]? = some (k, v) → Pv i σ H → g (kV k) σ H fun σ2 H2 => tb { D with nx := Pv (i + 1), ct := Pv (i + 1), bk := D.nx } σ2 H2) (hd : ∀ σ H, Pv kvs.length σ H → D.nx σ H) :
    ∃ W : Nat → Nat → L2.St → Hp → Prop, (∃ m, W 0 m σ H) ∧ ∀ i m σ H, W i m σ H →
      ((Itk d o kvs).stop i H ∧ D.nx σ H) ∨ ((Itk d o kvs).go i H ∧ ∃ N : L2.St → Hp → Prop, (∀ σ' H', N σ' H' → ∃ m', m' < m ∧ W (i + 1) m' σ' H') ∧ ∀ x H', (Itk d o kvs).yld i H x H' → g x σ H' fun σ2 H2 => tb { D with nx := N, ct := N, bk := D.nx } σ2 H2) := by
  refine ⟨fun i m σ H => m = kvs.length - i ∧ i ≤ kvs.length ∧ Pv i σ H, ⟨kvs.length, by simp, Nat.zero_le _, h0⟩, ?_⟩
  rintro i m σ H ⟨rfl, hi, p⟩
  have q := hl i σ H p
  by_cases hlt : i < kvs.length
  · refine .inr ⟨⟨q, hlt⟩, Pv (i + 1), fun σ' H' p' => ⟨kvs.length - (i + 1), by omega, rfl, hlt, p'⟩, fun x H' y => ?_⟩
    obtain ⟨e, k, v, hk, e2⟩ := y
    subst e e2
    exact hs i k v σ _ hk p
  · have e : i = kvs.length := by omega
    subst e
    exact .inl ⟨⟨q, Nat.le_refl _⟩, hd σ H p⟩
theorem wf_at {α : Type} [DecidableEq α] : ∀ {E : List (α × List α)} {ks : List α} {i : Nat} {n : α} {es : List α}, wfFrom ks E → E[i]? = some (n, es) → n ∉ ks ++ keysE (E.take i) ∧ ∀ e ∈ es, e ∈ ks ++ keysE (E.take i)
  | (m, fs) :: r, ks, 0, n, es, ⟨h1, h2, _⟩, h => by
    cases h
    exact ⟨by simpa [keysE] using h1, by simpa [keysE] using h2⟩
  | (m, fs) :: r, ks, i + 1, n, es, ⟨_, _, h3⟩, h => by
    have := wf_at (i := i) h3 h
    simp only [List.append_assoc, keysE, List.take_succ_cons, List.map_cons] at this ⊢
    exact this
theorem lookup_at : ∀ {L : Ent} {i : Nat} {n : Str} {p : Addr × List Str}, L[i]? = some (n, p) → n ∉ keysE (ent (L.take i)) → L.lookup n = some p
  | e :: r, 0, n, p, h, _ => by
    cases h
    rw [List.lookup_cons, beq_self_eq_true]
  | e :: r, i + 1, n, p, h, hn => by
    have h1 : n ≠ e.1 := fun z => hn (by simp [keysE, z])
    rw [List.lookup_cons, beq_eq_false_iff_ne.mpr h1]
    exact lookup_at (i := i) h fun z => hn (by simp only [keysE, List.map_map, List.take_succ_cons, List.map_cons] at z ⊢; exact List.mem_cons_of_mem _ z)
theorem ent_take (L : Ent) (i : Nat) : (ent L).take i = ent (L.take i) := List.map_take.symm
theorem ent_get {L : Ent} {i : Nat} {e : Str × Addr × List Str} (h : L[i]? = some e) : (ent L)[i]? = some (e.1, e.2.2) := by rw [List.getElem?_map, h] <;> rfl
theorem keys_len (L : Ent) : (keysE (ent L)).length = L.length := by simp [keysE]
theorem keys_snoc {L : Ent} {i : Nat} {e : Str × Addr × List Str} (h : L[i]? = some e) : keysE (ent (L.take (i + 1))) = keysE (ent (L.take i)) ++ [e.1] := by
  rw [take_snoc h, ent_snoc, keysE_append]
  rfl
theorem kvL_get {L : Ent} {i : Nat} {k : Key} {v : V} (h : (kvL L)[i]? = some (k, v)) : ∃ e, L[i]? = some e ∧ k = Sum.inr e.1 ∧ v = .ref e.2.1 := by
  rw [List.getElem?_map] at h
  obtain ⟨e, h1, h2⟩ := Option.map_eq_some_iff.mp h
  cases h2
  exact ⟨e, h1, rfl, rfl⟩
def spLoop : Bool → Sp := fun _ vs H Q _ => ∃ (ad : Addr) (L : Ent), vs = [.ref ad] ∧ H ad = some (.dK (kvL L)) ∧ Rows H L ∧ wf (ent L) ∧ L.length ≤ 1000 ∧ ∀ H', Same H H' → Q .non H'
section
variable {P : Program} {w : World} {K : PySem.W.Frag} {mg : Str → Option Value} {base : Heap} {f f1 : Addr} {fd fd1 : FuncData}
theorem scLoop : FnScope ["elders", "known", "name", "found"] ["elders"] (defScope sLoopOf) := ⟨rfl, rfl, rfl, by decide +kernel, rfl, by decide +kernel, by decide +kernel⟩
theorem ok_loop (D : DefAt K mg "loop_of" sLoopOf ["elders"] f fd) (D1 : DefAt K mg "ring_below" sRingB ["name", "elders", "above", "known"] f1 fd1) : FnM P w K mg base CX0 3 f fd ["elders"] spLoop := by
  have G : FnM P w K mg base CX0 2 f1 fd1 ["name", "elders", "above", "known"] spRB2 := ok_rb2 D1
  refine fun_okM D.F scLoop (fun b vs H Q E h => ?_) (fun b pl cdv A outer s H vs Q E hm hr h => ?_)
  · obtain ⟨ad, L, rfl, _⟩ := h
    rfl
  · obtain ⟨ad, L, rfl, htop, hrows, hwf, hlen, k⟩ := h
    refine ⟨_, PSs.nox (pss_cons (ps_set (i := 1) scLoop.nd rfl (Or.inl rfl) pe_dnewK)
      (pss_cons (ps_lock (ps_forM PassesOwn.never hm (pm_keysM (pv 0)) (pg_name (i := 2) scLoop.nd rfl (Or.inl rfl))
        (pss_cons (ps_set (i := 3) scLoop.nd rfl (Or.inl rfl) (pe_callM G hr hm rfl D1.g D1.F.kp D1.b .nil (fun _ => passAt0) (pa_cons (pv 2) (pa_cons (pv 0) (pa_cons (pe_lst pa_nil) (pa_cons (pv 1) pa_nil))))))
        (pss_one (ps_if (pt_cmpR op_notN (pv 3) pe_non (nomark _)) pss_never pss_nil)))))
      (pss_one (ps_ret pe_non)))), ?_⟩
    refine fun kn hkn => ?_
    have hak : ad ≠ kn := ne_of_none htop hkn
    refine ⟨ad, .dK (kvL L), by rw [upd_ne hak]; exact htop, True.intro, fun od => ⟨_, rfl, ad, od, kvL L, rfl, upd_same, for_keys (fun i σ H' => ∃ v1 v2, σ = [some (.ref ad), some (.ref kn), v1, v2] ∧ SameX [kn] (upd (upd H kn (.dK [])) ad (.frz od (.dK (kvL L)))) H' ∧ H' kn = some (.dK (kvT (keysE (ent (L.take i))))))
      ⟨_, _, rfl, SameX.refl _ _, by rw [upd_ne hak.symm, upd_same]; rfl⟩ (fun i σ H' ⟨_, _, _, s1, _⟩ => s1 _ _ (by simpa using hak) upd_same) ?_ ?_⟩⟩
    · intro i ky vv σ H' hi ⟨v1, v2, eσ, s1, hk⟩
      subst eσ
      obtain ⟨e, he, rfl, rfl⟩ := kvL_get hi
      obtain ⟨w1, w2⟩ := wf_at hwf (ent_get he)
      rw [ent_take, List.nil_append] at w1 w2
      have hlk := lookup_at (p := e.2) he w1
      have hem := List.mem_of_getElem? he
      have hrow : Lst H' e.2.1 e.2.2 := by
        have h1 := hrows.row e hem
        have hn1 : e.2.1 ≠ kn := ne_of_none h1 hkn
        have hn2 : e.2.1 ≠ ad := ne_of h1 htop (by intro z; cases z)
        exact s1 _ _ (by simpa using hn1) (by rw [upd_ne hn2, upd_ne hn1]; exact h1)
      refine ⟨_, rfl, _, rfl, by show 0 ≤ sizeLine; exact Nat.zero_le _, fun ab hab => ⟨_, rfl, ?_⟩⟩
      have hk2 : (upd H' ab (.lst [])) kn = some (.dK (kvT (keysE (ent (L.take i))))) := by rw [upd_ne (ne_of_none hk hab)]; exact hk
      have s2 : SameX [kn] (upd (upd H kn (.dK [])) ad (.frz od (.dK (kvL L)))) (upd H' ab (.lst [])) := s1.nw hab
      have hE : Eld (upd H' ab (.lst [])) ad L := ⟨.inr ⟨od, s2 _ _ (by simpa using hak) upd_same⟩, ⟨fun e' he' => ?_, hrows.asc⟩⟩
      · refine ⟨e.1, ad, ab, kn, [], _, L, e.2.1, e.2.2, rfl, upd_same, hk2, hE, hlk, hE.rows.row e hem, ?_, hak, by simp, w1, fun x hx => ⟨w2 x hx, by simp, fun z => w1 (z ▸ w2 x hx)⟩, by simp, ?_, fun H2 s3 hk3 => ?_⟩
        · exact ne_of hrow hk (by intro z; cases z)
        · rw [keys_len, List.length_take]
          omega
        · refine ⟨_, rfl, rfl, _, rfl, iteF ⟨_, _, rfl, s2.trans s3, ?_⟩⟩
          rw [hk3, keys_snoc he]
      · have h1 := hrows.row e' he'
        have hn1 : e'.2.1 ≠ kn := ne_of_none h1 hkn
        have hn2 : e'.2.1 ≠ ad := ne_of h1 htop (by intro z; cases z)
        exact s2 _ _ (by simpa using hn1) (by rw [upd_ne hn2, upd_ne hn1]; exact h1)
    · intro σ H' ⟨v1, v2, eσ, s1, hk⟩
      refine ⟨s1 _ _ (by simpa using hak) upd_same, ?_⟩
      have s2 := s1.unlock (by rw [upd_ne hak]; exact htop)
      exact k _ (((SameX.of (Same.nw hkn)).trans s2).drop (T := []) (fun b hb => .inr (by have e : b = kn := by simpa using hb
                                                                                          rw [e]; exact hkn))).same
end
end TM
set_option maxRecDepth 100000
set_option maxHeartbeats 4000000
/-! rows_above; take_line. -/
namespace TM
open PySem PySem.Spec PyProof.Rows L2
theorem len_sum (l : List (List Str)) (n : Nat) (h : ∀ r ∈ l, r.length ≤ n) : tot l ≤ l.length * n := by
  induction l with
  | nil => exact Nat.zero_le _
  | cons r l ih =>
    rw [tot_cons, List.length_cons, Nat.add_mul, Nat.one_mul]
    have h1 := h r List.mem_cons_self
    have h2 := ih fun r hr => h r (List.mem_cons_of_mem _ hr)
    omega
def spRowsAb : Bool → Sp := fun _ vs H Q _ => ∃ (ad ld : Addr) (x : Str) (L Ls : Ent) (ea : Addr) (es : List Str), vs = [.ref ad, .ref ld, .str x] ∧ Eld H ad L ∧ Eld H ld Ls ∧ L.lookup x = some (ea, es) ∧ (x, ea, es) ∈ L ∧ (∀ e ∈ es, e ∈ keysE (ent Ls)) ∧ es.length ≤ 1000 ∧
  ∀ H' a rs, Same H H' → H a = none → (∀ p ∈ rs, H p.1 = none) → Rws H' a rs → rws rs = rowsOf (ent Ls) es → Q (.ref a) H'
section
variable {P : Program} {w : World} {K : PySem.W.Frag} {mg : Str → Option Value} {base : Heap} {f f1 f2 : Addr} {fd fd1 fd2 : FuncData}
theorem scRowsAb : FnScope ["elders", "lines", "name", "rows", "elder"] ["elders", "lines", "name"] (defScope sRowsAb) := ⟨rfl, rfl, rfl, by decide +kernel, rfl, by decide +kernel, by decide +kernel⟩
theorem ok_rowsAb (D : DefAt K mg "rows_above" sRowsAb ["elders", "lines", "name"] f fd) (hLi : mg "list" = none) : FnM P w K mg base CX0 1 f fd ["elders", "lines", "name"] spRowsAb := by
  refine fun_okM D.F scRowsAb (fun b vs H Q E h => ?_) (fun b pl cdv A outer s H vs Q E hm hr h => ?_)
  · obtain ⟨ad, ld, x, L, Ls, ea, es, rfl, _⟩ := h
    rfl
  · obtain ⟨ad, ld, x, L, Ls, ea, es, rfl, hE, hLs, hlk, hmem, hsub, hlen, k⟩ := h
    have hu := roomM_hu hr
    have hes : Lst H ea es := hE.rows.row _ hmem
    refine ⟨_, PSs.nox (pss_cons (ps_setLcM (i := 3) (own := [("elder", 4)]) (g := gName 4) (te := tCB (rLstOf K) (tCons (tDGet (tVar 1) (tVar 4)) tNil)) hm scRowsAb.nd rfl rfl (sw_true rfl rfl rfl (by decide +kernel)) (pm_list (pe_dget hu (pv 0) (pv 2) (fun _ _ => rfl))) (blkOk_by (N := ["elders", "lines", "name", "rows", "elder"]) (sc := defScope sRowsAb) (by decide +kernel)) (fun _ _ _ _ _ => pg_name (i := 4) scRowsAb.nd rfl (Or.inl rfl)) (fun _ _ _ _ _ => pts_nil) (fun _ _ _ _ _ => by exact (pe_callTy call_list_of rfl hLi PyProof.Rows.boot_list (pa_cons (pe_dget hu (pv 1) (pv 4) (fun _ _ => rfl)) pa_nil))))
      (pss_cons (ps_expr (pe_bm PySem.F.plainAttrs_list PySem.F.slot_list_append PySem.F.type_list_append mt_append (pv 3) (pa_cons (pe_callTy call_list_of rfl hLi PyProof.Rows.boot_list (pa_cons (pe_dget hu (pv 0) (pv 2) (fun _ _ => rfl)) pa_nil)) pa_nil)))
      (pss_one (ps_ret (pv 3))))), ?_⟩
    have hg := hE.get x
    rw [hlk] at hg
    refine ⟨_, rfl, _, rfl, ad, _, rfl, hg, ea, rfl, ⟨_, SqL.of hes⟩, fun D1 hD1 => lc_list (K := K) (a := ea) (xs := vstr es)
      (fun i H' => ∃ rs' : List (Addr × List Str), H' D1 = some (.lst (rs'.map fun p => V.ref p.1)) ∧ rws rs' = (es.take i).map (lookL (ent Ls)) ∧ (∀ p ∈ rs', Lst H' p.1 p.2 ∧ p.1 ≠ D1 ∧ H p.1 = none) ∧ Same H H')
      ⟨[], upd_same, rfl, (fun p hp => by cases hp), Same.nw hD1⟩ (fun i H' _ ⟨_, _, _, _, s1⟩ => s1.seq (SqL.of hes)) ?_ ?_⟩
    · intro i y H' hi ⟨rs', h1, h2, h3, s1⟩
      obtain ⟨e, he, rfl⟩ := map_get hi
      obtain ⟨p, hp, hpm⟩ := lookup_some (hsub e (List.mem_of_getElem? he))
      have hg2 := (hLs.same s1).get e
      rw [hp] at hg2
      have hrow : Lst H' p.1 p.2 := (hLs.same s1).rows.row _ hpm
      refine ⟨rfl, _, rfl, _, rfl, ld, _, rfl, hg2, p.1, _, rfl, .inl (SqL.of hrow), fun l hl => ?_⟩
      have hne : D1 ≠ l := ne_of_none h1 hl
      have hlen2 : rs'.length = (es.take i).length := by
        have := congrArg List.length h2
        simpa using this
      refine ⟨_, (by rw [upd_ne hne]; exact h1), ?_, rs' ++ [(l, p.2)], ?_, ?_, fun q hq => ?_, (s1.nw2 hl).old2 hD1⟩
      · rw [List.length_map, hlen2, List.length_take]
        exact size_lt (by omega)
      · rw [upd_same]
        simp
      · rw [take_snoc he, List.map_append]
        show (rs' ++ [(l, p.2)]).map (·.2) = _
        rw [List.map_append]
        have e4 : lookL (ent Ls) e = p.2 := by
          unfold lookL
          rw [ent_lookup, hp]
          rfl
        show (rs'.map (·.2)) ++ [p.2] = _ ++ [lookL (ent Ls) e]
        rw [e4]
        exact congrArg (· ++ [p.2]) h2
      · rcases List.mem_append.mp hq with hq | hq
        · obtain ⟨q1, q2, q3⟩ := h3 q hq
          refine ⟨?_, q2, q3⟩
          show upd (upd H' l _) D1 _ q.1 = _
          rw [upd_ne q2, upd_ne (ne_of_none q1 hl)]
          exact q1
        · have e : q = (l, p.2) := by simpa using hq
          subst e
          refine ⟨?_, hne.symm, s1.free hl⟩
          show upd (upd H' l _) D1 _ l = _
          rw [upd_ne hne.symm, upd_same]
    · intro H1 ⟨rs1, h1, h2, h3, s1⟩
      rw [List.length_map, List.take_length] at h2
      have hlen1 : rs1.length = es.length := by
        have := congrArg List.length h2
        simpa using this
      have hg2 := (hE.same s1).get x
      rw [hlk] at hg2
      refine ⟨_, rfl, .inl ⟨rfl, _, SqL.of h1⟩, _, rfl, _, rfl, ad, _, rfl, hg2, ea, _, rfl, .inl (SqL.of (s1 _ _ hes)), fun l hl => ?_⟩
      have hne : D1 ≠ l := ne_of_none h1 hl
      refine ⟨D1, _, _, rfl, rfl, by rw [upd_ne hne]; exact h1, size_lt (by rw [List.length_map]; omega), _, rfl, ?_⟩
      refine k _ D1 (rs1 ++ [(l, es)]) ((s1.nw2 hl).old2 hD1) hD1 (fun p hp => ?_) ⟨by rw [upd_same]; simp, fun p hp => ?_, fun p hp x hx => ?_⟩ ?_
      · rcases List.mem_append.mp hp with hp | hp
        · exact (h3 p hp).2.2
        · have e : p = (l, es) := by simpa using hp
          subst e
          exact s1.free hl
      · rcases List.mem_append.mp hp with hp | hp
        · obtain ⟨q1, q2, q3⟩ := h3 p hp
          show upd (upd H1 l _) D1 _ p.1 = _
          rw [upd_ne q2, upd_ne (ne_of_none q1 hl)]
          exact q1
        · have e : p = (l, es) := by simpa using hp
          subst e
          show upd (upd H1 l _) D1 _ l = _
          rw [upd_ne hne.symm, upd_same]
      · rcases List.mem_append.mp hp with hp | hp
        · have hm2 : p.2 ∈ es.map (lookL (ent Ls)) := by rw [← h2]; exact List.mem_map.mpr ⟨p, hp, rfl⟩
          obtain ⟨e, he, e2⟩ := List.mem_map.mp hm2
          obtain ⟨p2, hp2, hpm⟩ := lookup_some (hsub e he)
          have e4 : lookL (ent Ls) e = p2.2 := by
            unfold lookL
            rw [ent_lookup, hp2]
            rfl
          exact hLs.rows.asc _ hpm x (by rw [← e4, e2]; exact hx)
        · have e : p = (l, es) := by simpa using hp
          subst e
          exact hE.rows.asc _ hmem x hx
      · show (rs1 ++ [(l, es)]).map (·.2) = _
        rw [List.map_append]
        exact congrArg (· ++ [es]) h2
end
end TM
set_option maxRecDepth 100000
set_option maxHeartbeats 4000000
/-! take_line. -/
namespace TM
open PySem PySem.Spec PyProof.Rows L2
section
variable {X : Cx} {CX : CXT} {k : Nat} {f C : Addr} {fd : FuncData} {ps : List Str} {sp : Bool → Sp} {dvs : List V} {ds : List Value} {E : L2.St → XK} {x m : Str} {q pos apos : Pos} {e o : Expr} {es : List Expr} {ta : TE} {t : TA}
theorem pe_callT (hc : X.calm = true) (F : FnM X.prog X.w X.K X.mg X.base CX k f fd ps sp) (hr : L2H.RoomH k X.A) (hg : Gl X x) (hmg : X.mg x = some (.ref f)) (hk : PySem.W.keepIn X.K (.ref f) = true) (hb : Binds X.K fd ps ds) (hd : Vals dvs ds) (hx : ∀ σ, PassesAt CX X σ (E σ)) (ha : PA X (e :: es) t)
    (hdb : (x == ("__debug__" : Str)) = false := by decide) (he : starEach (e :: es) X.env = (false, eval e X.env) :: starEach es X.env := by rfl) (hpl : (backTo pos (starEach es X.env)).any (·.1) = false := by rfl) :
    PE X (.Call (.Name x q) (e :: es) [] pos) (tCallM true sp dvs E t) := by
  have h := pe_callM (q := q) F hr (.inl hc) hg hmg hk hb hd hx ha hdb he hpl
  rw [hc] at h
  exact h
end
abbrev kvR (R : List (Str × V)) : List (Key × V) := R.map fun e => (Sum.inr e.1, e.2)
theorem kvR_snoc (l : List (Str × V)) (x : Str × V) : kvR (l ++ [x]) = kvR l ++ [(Sum.inr x.1, x.2)] := by simp [kvR]
theorem valV_R (x : Str) : ∀ R : List (Str × V), valV (kvR R) (Sum.inr x) = R.lookup x
  | [] => rfl
  | (y, v) :: r => by
    by_cases e : y = x
    · subst e
      show valV ((Sum.inr y, v) :: kvR r) (Sum.inr y) = _
      rw [valV_pos rfl, List.lookup_cons, beq_self_eq_true]
    · have e2 : ¬ (Sum.inr y : Key) = Sum.inr x := fun z => e (Sum.inr.inj z)
      have e3 : (x == y) = false := beq_eq_false_iff_ne.mpr fun z => e z.symm
      show valV ((Sum.inr y, v) :: kvR r) (Sum.inr x) = _
      rw [valV_neg e2, List.lookup_cons, e3]
      exact valV_R x r
theorem lookR_none {R : List (Str × V)} {x : Str} (h : x ∉ R.map (·.1)) : R.lookup x = none := by
  induction R with
  | nil => rfl
  | cons e r ih =>
    have h1 : x ≠ e.1 := fun z => h (by simp [z])
    rw [List.lookup_cons, beq_eq_false_iff_ne.mpr h1]
    exact ih fun z => h (by rw [List.map_cons]; exact List.mem_cons_of_mem _ z)
theorem lookR_some {R : List (Str × V)} {x : Str} (h : x ∈ R.map (·.1)) : ∃ v, R.lookup x = some v := by
  induction R with
  | nil => cases h
  | cons e r ih =>
    rw [List.lookup_cons]
    cases hb : x == e.1 with
    | true => exact ⟨_, rfl⟩
    | false =>
      rw [List.map_cons] at h
      exact ih ((List.mem_cons.mp h).resolve_left fun z => by rw [z, beq_self_eq_true] at hb; cases hb)
theorem valV_Li (x : Str) (L : Ent) : (valV (kvL L) (Sum.inr x)).isSome = decide (x ∈ keysE (ent L)) := by
  rw [valV_L]
  by_cases h : x ∈ keysE (ent L)
  · obtain ⟨p, hp, _⟩ := lookup_some h
    rw [hp, decide_eq_true h]
    rfl
  · rw [lookup_none h, decide_eq_false h]
    rfl
def spTL1 : Bool → Sp := fun _ vs H Q _ => ∃ (ad ld rd : Addr) (x : Str) (Ls : Ent) (R : List (Str × V)), vs = [.ref ad, .ref ld, .ref rd, .str x] ∧ H ld = some (.dK (kvL Ls)) ∧ H rd = some (.dK (kvR R)) ∧ (x ∈ keysE (ent Ls) ∨ x ∈ R.map (·.1)) ∧ Q .non H
def spTL2 : Bool → Sp := fun b vs H Q _ => ∃ (ad ld rd : Addr) (x : Str) (L Ls : Ent) (R : List (Str × V)) (ea : Addr) (es : List Str), vs = [.ref ad, .ref ld, .ref rd, .str x] ∧ Eld H ad L ∧ H ld = some (.dK (kvL Ls)) ∧ Rows H Ls ∧ H rd = some (.dK (kvR R)) ∧ ld ≠ rd ∧ ad ≠ ld ∧ ad ≠ rd ∧
  L.lookup x = some (ea, es) ∧ (x, ea, es) ∈ L ∧ x ∉ keysE (ent Ls) ∧ x ∉ R.map (·.1) ∧ (∀ e ∈ es, e ∈ keysE (ent Ls) ∨ e ∈ R.map (·.1)) ∧ Ls.length ≤ 100 ∧ R.length ≤ 100 ∧ es.length ≤ 50 ∧ (∀ e ∈ Ls, e.2.2.length ≤ 50) ∧
  (∀ m, (∀ e ∈ es, e ∈ keysE (ent Ls)) → merged (rowsOf (ent Ls) es) = some m → ∀ H' la, SameX [ld] H H' → H la = none → H' ld = some (.dK (kvL (Ls ++ [(x, la, x :: m)]))) → Lst H' la (x :: m) → Q .non H') ∧
  ((∀ e ∈ es, e ∈ keysE (ent Ls)) → merged (rowsOf (ent Ls) es) = none → b = true ∧ ∀ H' sl l, SameX [rd] H H' → H' rd = some (.dK (kvR (R ++ [(x, .ref sl)]))) → H' sl = some (.lst l) → Q .non H') ∧
  ((¬ ∀ e ∈ es, e ∈ keysE (ent Ls)) → ∀ H', SameX [rd] H H' → H' rd = some (.dK (kvR (R ++ [(x, .non)]))) → Q .non H')
section
variable {P : Program} {w : World} {K : PySem.W.Frag} {mg : Str → Option Value} {base : Heap} {f f1 f2 f4 : Addr} {fd fd1 fd2 fd4 : FuncData} {C B : Addr}
theorem scTake : FnScope ["elders", "lines", "rings", "name", "elder", "e"] ["elders", "lines", "rings", "name"] (defScope sTake) := ⟨rfl, rfl, rfl, by decide +kernel, rfl, by decide +kernel, by decide +kernel⟩
theorem ok_take1 (D : DefAt K mg "take_line" sTake ["elders", "lines", "rings", "name"] f fd) : FnM P w K mg base CX0 1 f fd ["elders", "lines", "rings", "name"] spTL1 := by
  refine fun_okM D.F scTake (fun b vs H Q E h => ?_) (fun b pl cdv A outer s H vs Q E hm hr h => ?_)
  · obtain ⟨ad, ld, rd, x, Ls, R, rfl, _⟩ := h
    rfl
  · obtain ⟨ad, ld, rd, x, Ls, R, rfl, hl, hrr, hx, k⟩ := h
    refine ⟨_, PSs.nox (pss_cons (ps_if (PW.pt (pw_or (pt_cmp (pc_din (roomM_hu hr) (pv 3) (pv 1))) (pw_or1 (pt_cmp (pc_din (roomM_hu hr) (pv 3) (pv 2)))))) (pss_one ps_retN) pss_nil) pss_never), ?_⟩
    refine ⟨_, rfl, _, rfl, ld, _, rfl, DGet.k (k := Sum.inr x) hl, _, rfl, ?_⟩
    rw [valV_Li]
    by_cases hx1 : x ∈ keysE (ent Ls)
    · rw [decide_eq_true hx1]
      exact iteT (iteT k)
    · rw [decide_eq_false hx1]
      obtain ⟨v, hv⟩ := lookR_some (hx.resolve_left hx1)
      refine iteF ⟨_, rfl, _, rfl, rd, _, rfl, DGet.k (k := Sum.inr x) hrr, _, rfl, ?_⟩
      rw [valV_R, hv]
      exact iteT k
theorem ok_take2 (D : DefAt K mg "take_line" sTake ["elders", "lines", "rings", "name"] f fd) (D1 : DefAt K mg "rows_above" sRowsAb ["elders", "lines", "name"] f1 fd1) (hLi : mg "list" = none) (hAl : mg "all" = none) {f2 : Addr} {fd2 : FuncData} (D2 : DefAt K mg "merged" sMerged ["rows"] f2 fd2)
    (G2 : FnM P w K mg base (L2.CX P w) 3 f2 fd2 ["rows"] (spMerged C)) (DR : ErrAt K mg "Ring" "Ring.__init__" sRingI ["self", "steps"] C f4 B fd4) : FnM P w K mg base CX0 4 f fd ["elders", "lines", "rings", "name"] spTL2 := by
  have G0 : FnM P w K mg base CX0 3 f fd ["elders", "lines", "rings", "name"] spTL1 := (ok_take1 D).mono (by decide)
  have G1 : FnM P w K mg base CX0 3 f1 fd1 ["elders", "lines", "name"] spRowsAb := (ok_rowsAb D1 hLi).mono (by decide)
  refine fun_okM D.F scTake (fun b vs H Q E h => ?_) (fun b pl cdv A outer s H vs Q E hm hr h => ?_)
  · obtain ⟨ad, ld, rd, x, L, Ls, R, ea, es, rfl, _⟩ := h
    rfl
  · obtain ⟨ad, ld, rd, x, L, Ls, R, ea, es, rfl, hE, hl, hLs, hrr, hlr, hal, har, hlk, hmem, hx1, hx2, hsub, hn1, hn2, hn3, hn4, k1, k2, k3⟩ := h
    have hu := roomM_hu hr
    have hes : Lst H ea es := hE.rows.row _ hmem
    refine ⟨_, PSs.nox (pss_cons (ps_if (PW.pt (pw_or (pt_cmp (pc_din hu (pv 3) (pv 1))) (pw_or1 (pt_cmp (pc_din hu (pv 3) (pv 2)))))) (pss_one ps_retN) pss_nil)
      (pss_cons (ps_forM PassesOwn.never hm (pm_list (pe_dget hu (pv 0) (pv 3) (fun _ _ => rfl))) (pg_name (i := 4) scTake.nd rfl (Or.inl rfl))
        (pss_one (ps_expr (pe_callM G0 hr hm rfl D.g D.F.kp D.b .nil (fun _ => passAt0) (pa_cons (pv 0) (pa_cons (pv 1) (pa_cons (pv 2) (pa_cons (pv 4) pa_nil))))))))
      (pss_cons (ps_if (pt_not (pt_val (pe_callB (cm_all hm) rfl hAl (by decide +kernel) (pa_cons (pe_lcM (own := [("elder", 4)]) (g := gName 4) (te := tDIn (tVar 4) (tVar 1)) hm scTake.nd (pm_list (pe_dget hu (pv 0) (pv 3) (fun _ _ => rfl))) (blkOk_by (N := ["elders", "lines", "rings", "name", "elder", "e"]) (sc := defScope sTake) (by decide +kernel)) (fun _ _ _ _ _ => pg_name (i := 4) scTake.nd rfl (Or.inl rfl)) (fun _ _ _ _ _ => pts_nil) (fun _ _ _ _ _ => by exact (pe_cmp (pc_din hu (pv 4) (pv 1)) rfl))) pa_nil))))
        (pss_cons (ps_dput hu (pv 2) (pv 3) pe_non rfl) (pss_one ps_retN)) pss_nil)
      (pss_one (ps_two
        (fun hc => ps_try_as (i := 5) rfl rfl scTake.nd rfl rfl ⟨rfl, by decide, .inl DR.g⟩ takes0
          (fun W pn xe tk _ => pss_one (ps_dput hu (pv 1) (pv 3) (pe_op op_cat (pe_lst (pa_cons (pv 3) pa_nil)) (pe_callT hc G2 hr rfl D2.g D2.F.kp D2.b .nil (fun σ => passAt tk σ) (pa_cons (pe_callT hc G1 hr rfl D1.g D1.F.kp D1.b .nil (fun _ => passAt0) (pa_cons (pv 0) (pa_cons (pv 1) (pa_cons (pv 3) pa_nil)))) pa_nil))) rfl))
          (fun a oe cls d pn hz hf => pss_one (ps_dput hu (pv 2) (pv 3) (pe_xf DR.xf DR.nS hz hf (pv 5)) rfl)))
        (fun _ => ps_try_thru0 (pss_one (ps_dput hu (pv 1) (pv 3) (pe_op op_cat (pe_lst (pa_cons (pv 3) pa_nil)) (pe_callM G2 hr hm rfl D2.g D2.F.kp D2.b .nil (fun σ => passAt takes0 σ) (pa_cons (pe_callM G1 hr hm rfl D1.g D1.F.kp D1.b .nil (fun _ => passAt0) (pa_cons (pv 0) (pa_cons (pv 1) (pa_cons (pv 3) pa_nil)))) pa_nil))) rfl)))))))), ?_⟩
    have hg := hE.get x
    rw [hlk] at hg
    refine ⟨_, rfl, _, rfl, ld, _, rfl, DGet.k (k := Sum.inr x) hl, _, rfl, ?_⟩
    rw [valV_Li, decide_eq_false hx1]
    refine iteF ⟨_, rfl, _, rfl, rd, _, rfl, DGet.k (k := Sum.inr x) hrr, _, rfl, ?_⟩
    rw [valV_R, lookR_none hx2]
    refine iteF ⟨_, rfl, _, rfl, ad, _, rfl, hg, ea, rfl, ⟨_, SqL.of hes⟩, for_list (K := K) (a := ea) (xs := vstr es) (fun i σ H' => ∃ v, σ = [some (.ref ad), some (.ref ld), some (.ref rd), some (.str x), v, none] ∧ H' = H)
      ⟨_, rfl, rfl⟩ (fun i σ H' _ ⟨_, _, e⟩ => by rw [e]; exact SqL.of hes) ?_ ?_⟩
    · intro i y σ H' hi ⟨v, eσ, eH⟩
      subst eσ
      subst eH
      obtain ⟨e, he, rfl⟩ := map_get hi
      exact ⟨_, rfl, _, rfl, _, rfl, _, rfl, ad, ld, rd, e, Ls, R, rfl, hl, hrr, hsub e (List.mem_of_getElem? he), _, rfl, rfl⟩
    · intro σ H' ⟨v, eσ, eH⟩
      subst eσ
      subst eH
      refine ⟨_, rfl, _, rfl, ad, _, rfl, hg, ea, rfl, ⟨_, SqL.of hes⟩, fun D1 hD1 => lc_list (K := K) (a := ea) (xs := vstr es)
        (fun i H2 => H2 D1 = some (.lst ((es.take i).map fun e => V.bl (decide (e ∈ keysE (ent Ls))))) ∧ Same H' H2)
        ⟨upd_same, Same.nw hD1⟩ (fun i H2 _ ⟨_, s3⟩ => s3.seq (SqL.of hes)) ?_ ?_⟩
      · intro i y H2 hi ⟨g1, s3⟩
        obtain ⟨e, he, rfl⟩ := map_get hi
        refine ⟨rfl, _, rfl, _, rfl, ld, _, rfl, DGet.k (k := Sum.inr e) (s3 _ _ hl), _, g1, ?_, ?_, s3.old2 hD1⟩
        · rw [List.length_map, List.length_take]
          exact size_lt (by omega)
        · rw [upd_same, valV_Li, take_snoc he, List.map_append]
          rfl
      · intro H2 ⟨g1, s3⟩
        rw [List.length_map, List.take_length] at g1
        refine ⟨D1, es.map (fun e => decide (e ∈ keysE (ent Ls))), rfl, SqL.of (by rw [g1, List.map_map]; rfl), _, rfl, ?_⟩
        by_cases hall : ∀ e ∈ es, e ∈ keysE (ent Ls)
        · have e1 : (es.map (fun e => decide (e ∈ keysE (ent Ls)))).all id = true := by
            rw [List.all_map, List.all_eq_true]
            intro e he
            exact decide_eq_true (hall e he)
          rw [e1]
          refine iteF ?_
          have hE2 := hE.same s3
          have hLs2 : Eld H2 ld Ls := ⟨.inl (s3 _ _ hl), hLs.same s3⟩
          have hA : ∀ H3, Same H2 H3 → spRowsAb true [.ref ad, .ref ld, .str x] H3 (fun v H4 => ∃ a rs, v = .ref a ∧ Same H3 H4 ∧ H3 a = none ∧ Rws H4 a rs ∧ rws rs = rowsOf (ent Ls) es) (fun _ _ _ => False) := fun H3 s4 =>
            ⟨ad, ld, x, L, Ls, ea, es, rfl, hE2.same s4, hLs2.same s4, hlk, hmem, hall, by omega, fun H3 a rs s4 h1 h2 h3 h4 => ⟨a, rs, rfl, s4, h1, h3, h4⟩⟩
          have hrow50 : ∀ r ∈ rowsOf (ent Ls) es, r.length ≤ 50 := fun r hr => by
            rcases List.mem_append.mp hr with h | h
            · obtain ⟨e, he, rfl⟩ := List.mem_map.mp h
              obtain ⟨p2, hp2, hpm⟩ := lookup_some (hall e he)
              have e4 : lookL (ent Ls) e = p2.2 := by
                unfold lookL
                rw [ent_lookup, hp2]
                rfl
              rw [e4]
              exact hn4 _ hpm
            · have e : r = es := by simpa using h
              rw [e]
              exact hn3
          have hrl : (rowsOf (ent Ls) es).length = es.length + 1 := by simp [rowsOf]
          have htot : tot (rowsOf (ent Ls) es) ≤ 10000 := by
            have := len_sum _ 50 hrow50
            rw [hrl] at this
            omega
          have hM : ∀ (a : Addr) (rs : List (Addr × List Str)), rws rs = rowsOf (ent Ls) es → rs.length ≤ 1000 ∧ (∀ p ∈ rs, p.2.length ≤ 1000) ∧ tot (rws rs) ≤ 10000 := fun a rs e => by
            refine ⟨?_, fun p hp => ?_, by rw [e]; exact htot⟩
            · have h1 := congrArg List.length e
              rw [hrl, List.length_map] at h1
              omega
            · have := hrow50 p.2 (by rw [← e]; exact List.mem_map.mpr ⟨p, hp, rfl⟩)
              omega
          have fin : ∀ (l : List Str) (H5 : Hp) (q ml : Addr), merged (rowsOf (ent Ls) es) = some l → Same H2 H5 → H5 q = some (.lst [V.str x]) → H5 ml = some (.lst (vstr l)) → ∀ la, H5 la = none → Q .non (upd (upd H5 la (.lst ([V.str x] ++ vstr l))) ld (.dK (putK (kvL Ls) (Sum.inr x) (.ref la)))) := fun l H5 q ml hm5 s5 hq hml la hla => by
            have hld : H5 ld = some (.dK (kvL Ls)) := s5 _ _ (s3 _ _ hl)
            have hne : la ≠ ld := (ne_of_none hld hla).symm
            refine k1 l hall hm5 _ la (((SameX.of (s3.trans s5)).nw hla).up (by simp)) ((s3.trans s5).free hla) ?_ ?_
            · rw [upd_same, putK_new _ (by rw [valV_L, lookup_none hx1]; rfl), kvL_snoc]
            · show (upd (upd H5 la _) ld _) la = _
              rw [upd_ne hne, upd_same]
              rfl
          have szl : ∀ l, merged (rowsOf (ent Ls) es) = some l → l.length + 1 ≤ sizeLine := fun l hl5 => by
            have := merged_len (Nat.le_refl _) hl5
            exact size_small (by omega)
          have szd : (kvL Ls).length < sizeLine := size_lt (by rw [List.length_map]; omega)
          cases b with
          | true =>
            refine ⟨_, rfl, by show 1 ≤ sizeLine; exact size_small (by decide), fun q nq => ⟨_, rfl, _, rfl, _, rfl, ?_⟩⟩
            obtain ⟨ad', ld', x', L', Ls', ea', es', ev, a1, a2, a3, a4, a5, a6, a7⟩ := hA _ (Same.nw (o := .lst [V.str x]) nq)
            refine ⟨ad', ld', x', L', Ls', ea', es', ev, a1, a2, a3, a4, a5, a6, fun H4 a rs s4 h1 h2 h3 h4 => ?_⟩
            obtain ⟨a', rs', ev', b1, b2, b3, b4⟩ := a7 H4 a rs s4 h1 h2 h3 h4
            cases ev'
            obtain ⟨m1, m2, m3⟩ := hM a rs' b4
            have s6 : Same H2 H4 := (Same.nw nq).trans b1
            have hq4 : H4 q = some (.lst [V.str x]) := b1 _ _ upd_same
            refine ⟨a, rs', rfl, b3, m1, m2, m3, fun l hl5 H5 ml s5 hml hm5 => ?_, fun hn5 => ?_⟩
            · rw [b4] at hl5
              exact ⟨q, ml, _, _, rfl, rfl, s5 _ _ hq4, hm5, by rw [List.length_map, List.length_singleton]; have := szl l hl5; omega, fun la nla => ⟨_, rfl, _, rfl, ld, _, rfl, DPut.k (k := Sum.inr x) (by rw [upd_ne (ne_of_none ((s6.trans s5) _ _ (s3 _ _ hl)) nla)]; exact (s6.trans s5) _ _ (s3 _ _ hl)) szd, fin l H5 q ml hl5 (s6.trans s5) (s5 _ _ hq4) hm5 la nla⟩⟩
            · rw [b4] at hn5
              obtain ⟨_, k4⟩ := k2 hall hn5
              refine ⟨rfl, fun H5 d sl l s5 hd0 hd hsl => ⟨true, DR.self, fun _ e he => ?_, fun z => Bool.noConfusion z⟩⟩
              have s7 : Same H' H5 := s3.trans (s6.trans s5)
              refine ⟨_, rfl, rfl, rfl, d, _, .ref sl, rfl, hd, rfl, _, rfl, _, rfl, rd, _, rfl, DPut.k (k := Sum.inr x) (s7 _ _ hrr) (size_lt (by rw [List.length_map]; omega)), ?_⟩
              refine k4 _ sl l ((SameX.of s7).up (by simp)) ?_ ?_
              · rw [upd_same, putK_new _ (by rw [valV_R]; exact lookR_none hx2), kvR_snoc]
              · rw [upd_ne (ne_of hsl (s7 _ _ hrr) (by intro z; cases z))]
                exact hsl
          | false =>
            refine ⟨_, rfl, by show 1 ≤ sizeLine; exact size_small (by decide), fun q nq => ⟨_, rfl, _, rfl, _, rfl, ?_⟩⟩
            obtain ⟨ad', ld', x', L', Ls', ea', es', ev, a1, a2, a3, a4, a5, a6, a7⟩ := hA _ (Same.nw (o := .lst [V.str x]) nq)
            refine ⟨ad', ld', x', L', Ls', ea', es', ev, a1, a2, a3, a4, a5, a6, fun H4 a rs s4 h1 h2 h3 h4 => ?_⟩
            obtain ⟨a', rs', ev', b1, b2, b3, b4⟩ := a7 H4 a rs s4 h1 h2 h3 h4
            cases ev'
            obtain ⟨m1, m2, m3⟩ := hM a rs' b4
            have s6 : Same H2 H4 := (Same.nw nq).trans b1
            have hq4 : H4 q = some (.lst [V.str x]) := b1 _ _ upd_same
            refine ⟨a, rs', rfl, b3, m1, m2, m3, fun l hl5 H5 ml s5 hml hm5 => ?_, fun hn5 => ?_⟩
            · rw [b4] at hl5
              exact ⟨q, ml, _, _, rfl, rfl, s5 _ _ hq4, hm5, by rw [List.length_map, List.length_singleton]; have := szl l hl5; omega, fun la nla => ⟨_, rfl, _, rfl, ld, _, rfl, DPut.k (k := Sum.inr x) (by rw [upd_ne (ne_of_none ((s6.trans s5) _ _ (s3 _ _ hl)) nla)]; exact (s6.trans s5) _ _ (s3 _ _ hl)) szd, fin l H5 q ml hl5 (s6.trans s5) (s5 _ _ hq4) hm5 la nla⟩⟩
            · rw [b4] at hn5
              obtain ⟨z, _⟩ := k2 hall hn5
              cases z
        · have e1 : (es.map (fun e => decide (e ∈ keysE (ent Ls)))).all id = false := by
            rw [List.all_map, List.all_eq_false]
            refine Classical.byContradiction fun hc => hall fun e he => Classical.byContradiction fun hn => hc ⟨e, he, ?_⟩
            show ¬ decide (e ∈ keysE (ent Ls)) = true
            rw [decide_eq_false hn]
            exact Bool.false_ne_true
          rw [e1]
          refine iteT ⟨_, rfl, _, rfl, rd, _, rfl, DPut.k (k := Sum.inr x) (s3 _ _ hrr) (size_lt (by rw [List.length_map]; omega)), ?_⟩
          refine k3 hall _ ((SameX.of s3).up (by simp)) ?_
          rw [upd_same, putK_new _ (by rw [valV_R]; exact lookR_none hx2), kvR_snoc]
end
end TM
set_option maxRecDepth 100000
set_option maxHeartbeats 4000000
/-! lines_of. -/
namespace TM
open PySem PySem.Spec PyProof.Rows L2
theorem linesF_none {E1 E2 : List (Str × List Str)} (h : linesF E1 = none) : linesF (E1 ++ E2) = none := by
  unfold linesF at h ⊢
  rw [linesFrom_append, h]
  rfl
theorem linesF_none2 {E Lr : List (Str × List Str)} {n : Str} {es : List Str} (h : linesF E = some Lr) (hm : merged (rowsOf Lr es) = none) : linesF (E ++ [(n, es)]) = none := by
  rw [linesF_snoc h, hm]
  rfl
theorem linesF_pre {i : Nat} {E : List (Str × List Str)} (h : linesF (E.take i) = none) : linesF E = none := by
  rw [← List.take_append_drop i E]
  exact linesF_none h
/-- how the first loop stands: the names ahead of place i are laid -/
structure Laid (b : Bool) (H : Hp) (L : Ent) (i : Nat) (Ls : Ent) (R : List (Str × V)) (H' : Hp) : Prop where
  rows : Rows H' Ls
  fresh : ∀ e ∈ Ls, H e.2.1 = none
  cov : ∀ n ∈ keysE (ent (L.take i)), n ∈ keysE (ent Ls) ∨ n ∈ R.map (·.1)
  sub1 : ∀ n ∈ keysE (ent Ls), n ∈ keysE (ent (L.take i))
  sub2 : ∀ n ∈ R.map (·.1), n ∈ keysE (ent (L.take i))
  len : Ls.length + R.length ≤ i
  good : ∀ e ∈ Ls, e.2.2.Nodup ∧ ∀ y ∈ e.2.2, y ∈ keysE (ent (L.take i))
  vals : ∀ n v, R.lookup n = some v → v = .non ∨ ∃ sl l, v = .ref sl ∧ H' sl = some (.lst l)
  st : (R = [] ∧ linesF (ent (L.take i)) = some (ent Ls)) ∨ (b = true ∧ linesF (ent L) = none ∧ ∃ j e sl, j < i ∧ L[j]? = some e ∧ R.lookup e.1 = some (.ref sl))
def spLines (CT : Addr) : Bool → Sp := fun b vs H Q E => ∃ (ad : Addr) (L : Ent), vs = [.ref ad] ∧ H ad = some (.dK (kvL L)) ∧ Rows H L ∧ wf (ent L) ∧ L.length ≤ 40 ∧ (∀ e ∈ L, e.2.2.length ≤ 50) ∧ (∀ e ∈ L, Asc e.1) ∧
  (∀ Lr, linesF (ent L) = some Lr → ∀ H' td T, Same H H' → H td = none → H' td = some (.dK (kvL T)) → Rows H' T → (∀ e ∈ T, H e.2.1 = none) → ent T = Lr → Q (.ref td) H') ∧
  (linesF (ent L) = none → b = true ∧ ∀ H' d, SameX [ad] H H' → E (.ref CT) (some d) H')
theorem lookR_snoc {R : List (Str × V)} {n x : Str} {v : V} (h : x ∉ R.map (·.1)) : (R ++ [(x, v)]).lookup n = if n = x then some v else R.lookup n := by
  induction R with
  | nil =>
    show (List.lookup n [(x, v)]) = _
    rw [List.lookup_cons]
    by_cases e : n = x
    · rw [if_pos e, e, beq_self_eq_true]
    · rw [if_neg e, beq_eq_false_iff_ne.mpr e]
  | cons r R ih =>
    have h1 : x ≠ r.1 := fun z => h (by simp [z])
    have ih := ih fun z => h (by rw [List.map_cons]; exact List.mem_cons_of_mem _ z)
    show List.lookup n (r :: (R ++ [(x, v)])) = _
    rw [List.lookup_cons, List.lookup_cons]
    by_cases e : n = r.1
    · rw [e, beq_self_eq_true, if_neg (Ne.symm h1)]
    · rw [beq_eq_false_iff_ne.mpr e]
      exact ih
section
variable {b : Bool} {H H' H2 : Hp} {L Ls : Ent} {i : Nat} {R : List (Str × V)} {e : Str × Addr × List Str} {ld rd : Addr}
theorem Laid.start (H H' : Hp) (L : Ent) : Laid b H L 0 [] [] H' :=
  ⟨⟨(fun e he => by cases he), (fun e he => by cases he)⟩, (fun e he => by cases he), (fun n hn => by simp [keysE] at hn), (fun n hn => by simp [keysE] at hn), (fun n hn => by cases hn), Nat.le_refl _, (fun e he => by cases he), (fun n v h => by cases h), .inl ⟨rfl, rfl⟩⟩
theorem Laid.keep (s : Laid b H L i Ls R H') (k : ∀ a l, H' a = some (.lst l) → H2 a = some (.lst l)) : Laid b H L i Ls R H2 :=
  ⟨⟨fun e he => k _ _ (s.rows.row e he), s.rows.asc⟩, s.fresh, s.cov, s.sub1, s.sub2, s.len, s.good, fun n v h => (s.vals n v h).imp id fun ⟨sl, l, e, q⟩ => ⟨sl, l, e, k _ _ q⟩, s.st⟩
variable (hw : wf (ent L)) (he : L[i]? = some e) (hasc : ∀ e ∈ L, Asc e.1)
include hw he
theorem Laid.notin (s : Laid b H L i Ls R H') : e.1 ∉ keysE (ent Ls) ∧ e.1 ∉ R.map (·.1) ∧ ∀ x ∈ e.2.2, x ∈ keysE (ent Ls) ∨ x ∈ R.map (·.1) := by
  obtain ⟨w1, w2⟩ := wf_at hw (ent_get he)
  rw [ent_take, List.nil_append] at w1 w2
  exact ⟨fun z => w1 (s.sub1 _ z), fun z => w1 (s.sub2 _ z), fun x hx => s.cov x (w2 x hx)⟩
include hasc
theorem Laid.line (s : Laid b H L i Ls R H') {m : List Str} {la : Addr} (hm : merged (rowsOf (ent Ls) e.2.2) = some m) (hla : H la = none) (k : ∀ a l, H' a = some (.lst l) → H2 a = some (.lst l)) (h2 : Lst H2 la (e.1 :: m)) :
    Laid b H L (i + 1) (Ls ++ [(e.1, la, e.1 :: m)]) R H2 := by
  obtain ⟨w1, w2⟩ := wf_at hw (ent_get he)
  rw [ent_take, List.nil_append] at w1 w2
  obtain ⟨g1, g2⟩ := merged_good _ (Nat.le_refl _) hm
  have hk := keys_snoc he
  have sub : ∀ y ∈ m, y ∈ keysE (ent (L.take i)) := fun y hy => by
    obtain ⟨r, hr, hyr⟩ := g2 y hy
    rcases List.mem_append.mp hr with h | h
    · obtain ⟨x, hx, rfl⟩ := List.mem_map.mp h
      unfold lookL at hyr
      rw [ent_lookup] at hyr
      cases hl : Ls.lookup x with
      | none => rw [hl] at hyr; cases hyr
      | some p =>
        rw [hl] at hyr
        have hin : x ∈ keysE (ent Ls) := Classical.byContradiction fun hn => by rw [lookup_none hn] at hl; cases hl
        obtain ⟨p2, hp2, hpm⟩ := lookup_some hin
        rw [hl] at hp2
        cases hp2
        exact (s.good _ hpm).2 y hyr
    · have e2 : r = e.2.2 := by simpa using h
      rw [e2] at hyr
      exact w2 y hyr
  have ascK : ∀ y ∈ keysE (ent (L.take i)), Asc y := fun y hy => by
    obtain ⟨q, hq, rfl⟩ := List.mem_map.mp hy
    obtain ⟨q2, hq2, rfl⟩ := List.mem_map.mp hq
    exact hasc q2 (List.mem_of_mem_take hq2)
  refine ⟨⟨fun q hq => ?_, fun q hq x hx => ?_⟩, fun q hq => ?_, fun n hn => ?_, fun n hn => ?_, fun n hn => ?_, ?_, fun q hq => ?_, fun n v h => (s.vals n v h).imp id fun ⟨sl, l, e, q⟩ => ⟨sl, l, e, k _ _ q⟩, ?_⟩
  · rcases List.mem_append.mp hq with hq | hq
    · exact k _ _ (s.rows.row q hq)
    · have e2 : q = (e.1, la, e.1 :: m) := by simpa using hq
      rw [e2]
      exact h2
  · rcases List.mem_append.mp hq with hq | hq
    · exact s.rows.asc q hq x hx
    · have e2 : q = (e.1, la, e.1 :: m) := by simpa using hq
      rw [e2] at hx
      rcases List.mem_cons.mp hx with z | z
      · rw [z]
        exact hasc e (List.mem_of_getElem? he)
      · exact ascK x (sub x z)
  · rcases List.mem_append.mp hq with hq | hq
    · exact s.fresh q hq
    · have e2 : q = (e.1, la, e.1 :: m) := by simpa using hq
      rw [e2]
      exact hla
  · rw [hk] at hn
    rw [ent_snoc, keysE_append]
    rcases List.mem_append.mp hn with h | h
    · exact (s.cov n h).imp (fun z => List.mem_append_left _ z) id
    · exact .inl (List.mem_append_right _ h)
  · rw [hk]
    rw [ent_snoc, keysE_append] at hn
    rcases List.mem_append.mp hn with h | h
    · exact List.mem_append_left _ (s.sub1 n h)
    · exact List.mem_append_right _ h
  · rw [hk]
    exact List.mem_append_left _ (s.sub2 n hn)
  · rw [List.length_append, List.length_singleton]
    have := s.len
    omega
  · rw [hk]
    rcases List.mem_append.mp hq with hq | hq
    · exact ⟨(s.good q hq).1, fun y hy => List.mem_append_left _ ((s.good q hq).2 y hy)⟩
    · have e2 : q = (e.1, la, e.1 :: m) := by simpa using hq
      rw [e2]
      refine ⟨List.nodup_cons.mpr ⟨fun z => w1 (sub _ z), g1⟩, fun y hy => ?_⟩
      rcases List.mem_cons.mp hy with z | z
      · rw [z]
        exact List.mem_append_right _ (List.mem_singleton_self _)
      · exact List.mem_append_left _ (sub y z)
  · rcases s.st with ⟨r1, r2⟩ | ⟨r1, r2, j, e3, sl, r3, r4, r5⟩
    · refine .inl ⟨r1, ?_⟩
      rw [take_snoc he, ent_snoc, ent_snoc, linesF_snoc r2, hm]
      rfl
    · exact .inr ⟨r1, r2, j, e3, sl, Nat.lt_succ_of_lt r3, r4, r5⟩
omit hasc
theorem Laid.ring (s : Laid b H L i Ls R H') {v : V} (k : ∀ a l, H' a = some (.lst l) → H2 a = some (.lst l)) (hv : v = .non ∨ ∃ sl l, v = .ref sl ∧ H2 sl = some (.lst l))
    (hst : R = [] → b = true ∧ linesF (ent L) = none ∧ ∃ sl, v = .ref sl) : Laid b H L (i + 1) Ls (R ++ [(e.1, v)]) H2 := by
  obtain ⟨n1, n2, n3⟩ := s.notin hw he
  have hk := keys_snoc he
  refine ⟨⟨fun q hq => k _ _ (s.rows.row q hq), s.rows.asc⟩, s.fresh, fun n hn => ?_, fun n hn => ?_, fun n hn => ?_, ?_, fun q hq => ?_, fun n v2 h => ?_, ?_⟩
  · rw [hk] at hn
    rw [List.map_append]
    rcases List.mem_append.mp hn with h | h
    · exact (s.cov n h).imp id fun z => List.mem_append_left _ z
    · exact .inr (List.mem_append_right _ h)
  · rw [hk]
    exact List.mem_append_left _ (s.sub1 n hn)
  · rw [hk]
    rw [List.map_append] at hn
    rcases List.mem_append.mp hn with h | h
    · exact List.mem_append_left _ (s.sub2 n h)
    · exact List.mem_append_right _ h
  · rw [List.length_append, List.length_singleton]
    have := s.len
    omega
  · rw [hk]
    exact ⟨(s.good q hq).1, fun y hy => List.mem_append_left _ ((s.good q hq).2 y hy)⟩
  · rw [lookR_snoc n2] at h
    split at h
    · cases h
      exact hv
    · exact (s.vals n v2 h).imp id fun ⟨sl, l, e, q⟩ => ⟨sl, l, e, k _ _ q⟩
  · refine .inr ?_
    rcases s.st with ⟨r1, r2⟩ | ⟨r1, r2, j, e3, sl, r3, r4, r5⟩
    · obtain ⟨h1, h2, sl, h3⟩ := hst r1
      refine ⟨h1, h2, i, e, sl, Nat.lt_succ_self _, he, ?_⟩
      rw [lookR_snoc n2, if_pos rfl, h3]
    · refine ⟨r1, r2, j, e3, sl, Nat.lt_succ_of_lt r3, r4, ?_⟩
      rw [lookR_snoc n2]
      split
      · next z =>
        exfalso
        rw [z] at r5
        rw [lookR_none n2] at r5
        cases r5
      · exact r5
end
end TM
set_option maxRecDepth 100000
set_option maxHeartbeats 4000000
/-! lines_of: the walk. -/
namespace TM
open PySem PySem.Spec PyProof.Rows L2
theorem putK_len {kvs : List (Key × V)} {k : Key} {v : V} : (putK kvs k v).length ≤ kvs.length + 1 := by
  unfold putK
  split
  · rw [List.length_map]; omega
  · rw [List.length_append, List.length_singleton]; exact Nat.le_refl _
/-- how the second loop stands -/
def Told (Hb : Hp) (ad ld rd td : Addr) (L Ls : Ent) (R : List (Str × V)) (i : Nat) (σ : L2.St) (H2 : Hp) : Prop :=
  ∃ (v : Option V) (kvt : List (Key × V)), σ = [some (.ref ad), some .non, some (.ref ld), some (.ref rd), v, some (.ref td)] ∧ SameX [td] Hb H2 ∧ H2 td = some (.dK kvt) ∧ kvt.length ≤ i ∧ (R = [] → kvt = kvL (Ls.take i)) ∧ ∀ j e sl, j < i → L[j]? = some e → R.lookup e.1 ≠ some (.ref sl)
section
variable {P : Program} {w : World} {K : PySem.W.Frag} {mg : Str → Option Value} {base : Heap} {f f1 f2 f4 : Addr} {fd fd1 fd2 fd4 : FuncData} {CT B : Addr}
theorem scLines : FnScope ["elders", "ring", "lines", "rings", "name", "told"] ["elders"] (defScope sLinesOf) := ⟨rfl, rfl, rfl, by decide +kernel, rfl, by decide +kernel, by decide +kernel⟩
theorem ok_lines (D : DefAt K mg "lines_of" sLinesOf ["elders"] f fd) (D1 : DefAt K mg "loop_of" sLoopOf ["elders"] f1 fd1) (G1 : FnM P w K mg base CX0 3 f1 fd1 ["elders"] spLoop)
    (D2 : DefAt K mg "take_line" sTake ["elders", "lines", "rings", "name"] f2 fd2) (G2 : FnM P w K mg base CX0 4 f2 fd2 ["elders", "lines", "rings", "name"] spTL2)
    (DT : ErrAt K mg "Tangled" "Tangled.__init__" sTangI ["self", "name", "steps"] CT f4 B fd4) (hLi : mg "list" = none) : FnM P w K mg base (L2N.CX P w) 5 f fd ["elders"] (spLines CT) := by
  have G1' : FnM P w K mg base CX0 4 f1 fd1 ["elders"] spLoop := G1.mono (by decide)
  have G4 : FnOk P w K mg base CX0 1 f4 fd4 ["self", "name", "steps"] (spTangI CT true) := (ok_tangI DT hLi).cold
  refine fun_okM D.F scLines (fun b vs H Q E h => ?_) (fun b pl cdv A outer s H vs Q E hm hr h => ?_)
  · obtain ⟨ad, L, rfl, _⟩ := h
    rfl
  · obtain ⟨ad, L, rfl, htop, hrows, hwf, hlen, hes, hasc, k1, k2⟩ := h
    have hu := roomM_hu hr
    have hr2 : L2H.RoomH 2 (A.deeper (envOfC "lines_of" (defScope sLinesOf) s.heap.objs.size f cdv)) := hr.mono (by decide)
    refine ⟨_, pss_cons (ps_set (i := 1) scLines.nd rfl (Or.inl rfl) (pe_callM G1' hr hm rfl D1.g D1.F.kp D1.b .nil (fun _ => passAt0) (pa_cons (pv 0) pa_nil)))
      (pss_cons (ps_if (pt_cmpR op_notN (pv 1) pe_non (nomark _)) pss_never pss_nil)
      (pss_cons (ps_set (i := 2) scLines.nd rfl (Or.inl rfl) pe_dnewK)
      (pss_cons (ps_set (i := 3) scLines.nd rfl (Or.inl rfl) pe_dnewK)
      (pss_cons (ps_lock (ps_forM (passes_of rfl) hm (pm_keysM (pv 0)) (pg_name (i := 4) scLines.nd rfl (Or.inl rfl))
        (pss_one (ps_expr (pe_callM G2 hr hm rfl D2.g D2.F.kp D2.b .nil (fun _ => passAt0) (pa_cons (pv 0) (pa_cons (pv 2) (pa_cons (pv 3) (pa_cons (pv 4) pa_nil)))))))))
      (pss_cons (ps_set (i := 5) scLines.nd rfl (Or.inl rfl) pe_dnewK)
      (pss_cons (ps_lock (ps_forM (passes_of rfl) hm (pm_keysM (pv 0)) (pg_name (i := 4) scLines.nd rfl (Or.inl rfl))
        (pss_cons (ps_if (PW.pt (pw_and (pt_cmp (pc_din hu (pv 4) (pv 3))) (pw_and1 (pt_cmpR op_notN (pe_dget hu (pv 3) (pv 4) (fun _ _ => rfl)) pe_non (nomark _)))))
          (pss_one (ps_calm (fun hc => L2N.ps_raise hc (L2N.takes_of rfl rfl rfl rfl) (pmk_oexN hc DT.T DT.iC DT.tI G4 hr2 DT.b .nil pass0 rfl DT.g (pa_cons (pv 4) (pa_cons (pe_dget hu (pv 3) (pv 4) (fun _ _ => rfl)) pa_nil)))))) pss_nil)
        (pss_one (ps_if (pt_cmp (pc_din hu (pv 4) (pv 2))) (pss_one (ps_dput hu (pv 5) (pv 4) (pe_dget hu (pv 2) (pv 4) (fun _ _ => rfl)) rfl)) pss_nil)))))
      (pss_one (ps_ret (pv 5))))))))), ?_⟩
    refine ⟨_, rfl, ad, L, rfl, htop, hrows, hwf, by omega, fun H1 s1 => ⟨_, rfl, rfl, _, rfl, iteF fun ld hld rd hrd => ?_⟩⟩
    have hrd1 : H1 rd = none := by
      have hne : rd ≠ ld := fun z => by rw [z, upd_same] at hrd; cases hrd
      rw [upd_ne hne] at hrd
      exact hrd
    have hlr : ld ≠ rd := ne_of_none upd_same hrd
    have top1 : H1 ad = some (.dK (kvL L)) := s1 _ _ htop
    have hal : ad ≠ ld := ne_of_none top1 hld
    have har : ad ≠ rd := ne_of_none top1 hrd1
    have top3 : (upd (upd H1 ld (.dK [])) rd (.dK [])) ad = some (.dK (kvL L)) := by rw [upd_ne har, upd_ne hal]; exact top1
    have same3 : Same H (upd (upd H1 ld (.dK [])) rd (.dK [])) := (s1.nw2 hld).nw2 hrd
    have hld0 : H ld = none := s1.free hld
    have hrd0 : H rd = none := s1.free hrd1
    refine ⟨ad, .dK (kvL L), top3, True.intro, fun od => ⟨_, rfl, ad, od, kvL L, rfl, upd_same, for_keys (fun i σ H' => ∃ (v : Option V) (Ls : Ent) (R : List (Str × V)), σ = [some (.ref ad), some .non, some (.ref ld), some (.ref rd), v, none] ∧ SameX [ld, rd] (upd (upd (upd H1 ld (.dK [])) rd (.dK [])) ad (.frz od (.dK (kvL L)))) H' ∧
        H' ld = some (.dK (kvL Ls)) ∧ H' rd = some (.dK (kvR R)) ∧ Laid b H L i Ls R H')
      ⟨_, [], [], rfl, SameX.refl _ _, by rw [upd_ne hal.symm, upd_ne hlr, upd_same]; rfl, by rw [upd_ne har.symm, upd_same]; rfl, Laid.start _ _ _⟩ (fun i σ H' ⟨_, _, _, _, s2, _⟩ => s2 _ _ (by simp [hal, har]) upd_same) ?_ ?_⟩⟩
    · intro i ky vv σ H' hi ⟨v, Ls, R, eσ, s2, gl, gr, la⟩
      subst eσ
      obtain ⟨e, he, rfl, rfl⟩ := kvL_get hi
      obtain ⟨w1, w2⟩ := wf_at hwf (ent_get he)
      rw [ent_take, List.nil_append] at w1 w2
      obtain ⟨n1, n2, n3⟩ := la.notin hwf he
      have hem := List.mem_of_getElem? he
      have hil : i < L.length := (List.getElem?_eq_some_iff.mp he).1
      have hll := la.len
      have rowsL : Rows H' L := ⟨fun e' he' => by
        have h1 := same3 _ _ (hrows.row e' he')
        have hn2 : e'.2.1 ≠ ad := ne_of h1 top3 (by intro z; cases z)
        have hn3 : e'.2.1 ≠ ld := ne_of_none (hrows.row e' he') hld0
        have hn4 : e'.2.1 ≠ rd := ne_of_none (hrows.row e' he') hrd0
        exact s2 _ _ (by simp [hn3, hn4]) (by rw [upd_ne hn2]; exact h1), hrows.asc⟩
      have hE : Eld H' ad L := ⟨.inr ⟨od, s2 _ _ (by simp [hal, har]) upd_same⟩, rowsL⟩
      have kl : ∀ {S : List Addr} {H2 : Hp}, SameX S H' H2 → (∀ a ∈ S, a = ld ∨ a = rd) → ∀ a l, H' a = some (.lst l) → H2 a = some (.lst l) := fun s3 hS a l ha => s3 _ _ (fun m => (hS a m).elim (fun z => by rw [z, gl] at ha; cases ha) fun z => by rw [z, gr] at ha; cases ha) ha
      have ld50 : ∀ q ∈ Ls, q.2.2.length ≤ 50 := fun q hq => by
        have := nodup_le (la.good q hq).1 (la.good q hq).2
        rw [keys_len, List.length_take] at this
        omega
      refine ⟨_, rfl, _, rfl, _, rfl, _, rfl, ad, ld, rd, e.1, L, Ls, R, e.2.1, e.2.2, rfl, hE, gl, la.rows, gr, hlr, hal, har, lookup_at (p := e.2) he w1, hem, n1, n2, n3, by omega, by omega, hes e hem, ld50, fun m hall hm2 H2 lad s3 hlad g2 g3 => ?_, fun hall hm2 => ?_, fun hall H2 s3 g2 => ?_⟩
      · refine ⟨_, _, R, rfl, s2.trans (s3.mono (by simp)), g2, s3 _ _ (by simp [hlr.symm]) gr, la.line hwf he hasc hm2 ?_ (kl s3 (by simp)) g3⟩
        cases h0 : H lad with
        | none => rfl
        | some u =>
          by_cases z : lad = ad
          · rw [z, s2 _ _ (by simp [hal, har]) upd_same] at hlad
            cases hlad
          · have z1 : lad ≠ ld := ne_of_none h0 hld0
            have z2 : lad ≠ rd := ne_of_none h0 hrd0
            rw [s2 lad u (by simp [z1, z2]) (by rw [upd_ne z]; exact same3 _ _ h0)] at hlad
            cases hlad
      · have hno : (R = [] → linesF (ent L) = none) := fun hR => by
          rcases la.st with ⟨r1, r2⟩ | ⟨_, r2, _⟩
          · have := linesF_none2 (n := e.1) r2 hm2
            rw [← ent_snoc (L.take i) e, ← take_snoc he, ← ent_take] at this
            exact linesF_pre this
          · exact r2
        have hb : b = true := by
          rcases la.st with ⟨r1, r2⟩ | ⟨r1, _⟩
          · exact (k2 (hno r1)).1
          · exact r1
        refine ⟨hb, fun H2 sl l s3 g2 g3 => ?_⟩
        refine ⟨_, Ls, _, rfl, s2.trans (s3.mono (by simp)), s3 _ _ (by simp [hlr]) gl, g2, la.ring hwf he (kl s3 (by simp)) (.inr ⟨sl, l, rfl, g3⟩) fun hR => ⟨hb, hno hR, sl, rfl⟩⟩
      · refine ⟨_, Ls, _, rfl, s2.trans (s3.mono (by simp)), s3 _ _ (by simp [hlr]) gl, g2, la.ring hwf he (kl s3 (by simp)) (.inl rfl) fun hR => ?_⟩
        exfalso
        refine hall fun x hx => (n3 x hx).resolve_right ?_
        rw [hR]
        exact List.not_mem_nil
    · intro σ H' ⟨v, Ls, R, eσ, s2, gl, gr, la⟩
      subst eσ
      rw [List.length_map] at la
      refine ⟨s2 _ _ (by simp [hal, har]) upd_same, fun td htd => ?_⟩
      have s4 : SameX [ld, rd] (upd (upd H1 ld (.dK [])) rd (.dK [])) (upd H' ad (.dK (kvL L))) := s2.unlock top3
      have hat : ad ≠ td := ne_of_none upd_same htd
      have hlt : ld ≠ td := ne_of_none (by rw [upd_ne hal.symm]; exact gl) htd
      have hrt : rd ≠ td := ne_of_none (by rw [upd_ne har.symm]; exact gr) htd
      have same4 : Same H (upd H' ad (.dK (kvL L))) := fun a u ha => s4 a u (by simp [ne_of_none ha hld0, ne_of_none ha hrd0]) (same3 _ _ ha)
      have la4 : Laid b H L L.length Ls R (upd H' ad (.dK (kvL L))) := la.keep fun a l ha => by
        have z : a ≠ ad := fun z => by rw [z, s2 _ _ (by simp [hal, har]) upd_same] at ha; cases ha
        rw [upd_ne z]
        exact ha
      have top5 : (upd (upd H' ad (.dK (kvL L))) td (.dK [])) ad = some (.dK (kvL L)) := by rw [upd_ne hat, upd_same]
      have keysS : R = [] → linesF (ent L) = some (ent Ls) := fun hR => by
        rcases la.st with ⟨_, r2⟩ | ⟨_, _, j, e3, sl, _, _, r5⟩
        · rw [List.take_length] at r2
          exact r2
        · rw [hR] at r5
          cases r5
      refine ⟨ad, .dK (kvL L), top5, True.intro, fun od2 => ⟨_, rfl, ad, od2, kvL L, rfl, upd_same, for_keys (fun i σ H2 => Told (upd (upd (upd H' ad (.dK (kvL L))) td (.dK [])) ad (.frz od2 (.dK (kvL L)))) ad ld rd td L Ls R i σ H2)
        ⟨_, [], rfl, SameX.refl _ _, by rw [upd_ne hat.symm, upd_same], Nat.le_refl _, fun _ => rfl, fun j e sl hj => absurd hj (Nat.not_lt_zero _)⟩ (fun i σ H2 ⟨_, _, _, s5, _⟩ => s5 _ _ (by simp [hat]) upd_same) ?_ ?_⟩⟩
      · intro i ky vv σ H2 hi ⟨v, kvt, eσ, s5, gt, hkl, hkS, hno⟩
        subst eσ
        obtain ⟨e, he, rfl, rfl⟩ := kvL_get hi
        have hil : i < L.length := (List.getElem?_eq_some_iff.mp he).1
        have nfr : ∀ {a : Addr} {u : HO}, (upd H' ad (.dK (kvL L))) a = some u → a ≠ ad → H2 a = some u := fun {a u} ha z => s5 a u (by simp [ne_of_none ha htd]) (by rw [upd_ne z, upd_ne (ne_of_none ha htd)]; exact ha)
        have gl2 : H2 ld = some (.dK (kvL Ls)) := nfr (by rw [upd_ne hal.symm]; exact gl) hal.symm
        have gr2 : H2 rd = some (.dK (kvR R)) := nfr (by rw [upd_ne har.symm]; exact gr) har.symm
        have hnext : ∀ (kvt' : List (Key × V)) (H3 : Hp), SameX [td] (upd (upd (upd H' ad (.dK (kvL L))) td (.dK [])) ad (.frz od2 (.dK (kvL L)))) H3 → H3 td = some (.dK kvt') → kvt'.length ≤ i + 1 → (R = [] → kvt' = kvL (Ls.take (i + 1))) → (∀ sl, R.lookup e.1 ≠ some (.ref sl)) →
            Told (upd (upd (upd H' ad (.dK (kvL L))) td (.dK [])) ad (.frz od2 (.dK (kvL L)))) ad ld rd td L Ls R (i + 1) [some (V.ref ad), some .non, some (.ref ld), some (.ref rd), some (.str e.1), some (.ref td)] H3 := fun kvt' H3 a1 a2 a3 a4 a5 =>
          ⟨_, kvt', rfl, a1, a2, a3, a4, fun j e' sl hj he' => by
            rcases Nat.lt_succ_iff_lt_or_eq.mp hj with hj | hj
            · exact hno j e' sl hj he'
            · rw [hj, he] at he'
              cases he'
              exact a5 sl⟩
        have hrest : ∀ D : Ends, D.nx = Told (upd (upd (upd H' ad (.dK (kvL L))) td (.dK [])) ad (.frz od2 (.dK (kvL L)))) ad ld rd td L Ls R (i + 1) → (∀ sl, R.lookup e.1 ≠ some (.ref sl)) → (tIfS (tB (tDIn (tVar 4) (tVar 2))) (sDPut (tVar 5) (tVar 4) (tDGet (tVar 2) (tVar 4))) tNext) D [some (V.ref ad), some .non, some (.ref ld), some (.ref rd), some (.str e.1), some (.ref td)] H2 := fun D hD a5 => by
          refine ⟨_, rfl, _, rfl, ld, _, rfl, DGet.k (k := Sum.inr e.1) gl2, _, rfl, ?_⟩
          rw [valV_Li]
          by_cases hin : e.1 ∈ keysE (ent Ls)
          · obtain ⟨p, hp, hpm⟩ := lookup_some hin
            rw [decide_eq_true hin]
            have hg : DGet H2 ld (.str e.1) (some (V.ref p.1)) := by
              have := DGet.k (k := Sum.inr e.1) gl2
              rw [valV_L, hp] at this
              exact this
            refine iteT ⟨_, rfl, _, rfl, ld, _, rfl, hg, _, rfl, _, rfl, td, _, rfl, DPut.k (k := Sum.inr e.1) gt (size_lt (by omega)), ?_⟩
            show D.nx _ _
            rw [hD]
            refine hnext _ _ (s5.up (by simp)) upd_same (Nat.le_trans putK_len (Nat.succ_le_succ hkl)) (fun hR => ?_) a5
            have hk2 := linesF_keys (keysS hR)
            have hlen2 : Ls.length = L.length := by rw [← keys_len, hk2, keys_len]
            obtain ⟨q, hq⟩ : ∃ q, Ls[i]? = some q := ⟨Ls[i]'(by omega), List.getElem?_eq_getElem (by omega)⟩
            have hq1 : q.1 = e.1 := by
              have h1 : (keysE (ent Ls))[i]? = some q.1 := by simp [keysE, hq]
              have h2 : (keysE (ent L))[i]? = some e.1 := by simp [keysE, he]
              rw [hk2, h2] at h1
              exact (Option.some.inj h1).symm
            have hkt : keysE (ent (Ls.take i)) = keysE (ent (L.take i)) := by
              rw [← ent_take, ← ent_take]
              unfold keysE at hk2 ⊢
              rw [List.map_take, List.map_take, hk2]
            obtain ⟨w1, _⟩ := wf_at hwf (ent_get he)
            rw [ent_take, List.nil_append, ← hkt] at w1
            have hlq := lookup_at (n := e.1) (p := q.2) (by rw [hq, ← hq1]) w1
            rw [hp] at hlq
            rw [hkS hR, putK_new _ (by rw [valV_L, lookup_none w1]; rfl), take_snoc hq, kvL_snoc, hq1]
            cases hlq
            rfl
          · rw [decide_eq_false hin]
            refine iteF ?_
            show D.nx _ _
            rw [hD]
            refine hnext kvt H2 s5 gt (by omega) (fun hR => ?_) a5
            exfalso
            refine hin ?_
            rw [linesF_keys (keysS hR)]
            exact List.mem_map.mpr ⟨_, List.mem_of_getElem? (ent_get he), rfl⟩
        refine ⟨_, rfl, _, rfl, rd, _, rfl, DGet.k (k := Sum.inr e.1) gr2, _, rfl, ?_⟩
        rw [valV_R]
        cases hv : R.lookup e.1 with
        | none =>
          refine iteF (iteF ?_)
          exact hrest _ rfl fun sl z => by rw [hv] at z; cases z
        | some u =>
          have hg : DGet H2 rd (.str e.1) (some u) := by
            have := DGet.k (k := Sum.inr e.1) gr2
            rw [valV_R, hv] at this
            exact this
          refine iteT ⟨_, rfl, _, rfl, rd, _, rfl, hg, rfl, _, rfl, ?_⟩
          rcases la4.vals e.1 u hv with z | ⟨sl, l, z, hsl⟩
          · subst z
            refine iteF ?_
            exact hrest _ rfl fun sl z => by rw [hv] at z; cases z
          · subst z
            have hb : b = true := by
              rcases la.st with ⟨r1, _⟩ | ⟨r1, _⟩
              · rw [r1] at hv
                cases hv
              · exact r1
            have hn : linesF (ent L) = none := by
              rcases la.st with ⟨r1, _⟩ | ⟨_, r2, _⟩
              · rw [r1] at hv
                cases hv
              · exact r2
            have hsa : sl ≠ ad := fun z => by rw [z, upd_same] at hsl; cases hsl
            refine iteT ⟨hb, _, rfl, _, rfl, _, rfl, rd, _, rfl, hg, by show 2 ≤ 1000; omega, fun a ha => ⟨rfl, a, sl, .str e.1, l, rfl, upd_same, by rw [upd_ne (ne_of_none (nfr hsl hsa) ha)]; exact nfr hsl hsa, fun H3 dx fs s6 hdx hda h1 h2 => ⟨rfl, dx, fs, h1, h2, by rw [upd_ne hda] at hdx; exact hdx, (k2 hn).2 _ dx fun x u hx hxu => ?_⟩⟩⟩
            have hx' : x ≠ ad := by simpa using hx
            have hx2 : H2 x = some u := nfr (same4 _ _ hxu) hx'
            have hxa : x ≠ a := ne_of_none hx2 ha
            have hxd : x ≠ dx := ne_of_none hx2 (by rw [upd_ne hda] at hdx; exact hdx)
            rw [upd_ne hxd, del_ne hxa]
            exact s6 _ _ (by rw [del_ne hxa, upd_ne hxa]; exact hx2)
      · intro σ H2 ⟨v, kvt, eσ, s5, gt, hkl, hkS, hno⟩
        subst eσ
        rw [List.length_map] at hkl hkS hno
        refine ⟨s5 _ _ (by simp [hat]) upd_same, _, rfl, ?_⟩
        have s6 := s5.unlock top5
        have same6 : ∀ {a : Addr} {u : HO}, (upd H' ad (.dK (kvL L))) a = some u → (upd H2 ad (.dK (kvL L))) a = some u := fun {a u} ha => s6 a u (by simp [ne_of_none ha htd]) (by rw [upd_ne (ne_of_none ha htd)]; exact ha)
        rcases la.st with ⟨r1, r2⟩ | ⟨_, _, j, e3, sl, r3, r4, r5⟩
        · have hk2 := keysS r1
          have hlen2 : Ls.length = L.length := by rw [← keys_len, linesF_keys hk2, keys_len]
          refine k1 (ent Ls) hk2 _ td Ls (fun a u ha => same6 (same4 _ _ ha)) (same4.free htd) ?_ ⟨fun q hq => same6 (la4.rows.row q hq), la4.rows.asc⟩ la.fresh rfl
          rw [upd_ne hat.symm, gt, hkS r1, ← hlen2, List.take_length]
        · exact absurd r5 (hno j e3 sl r3 r4)
end
end TM
set_option maxRecDepth 100000
set_option maxHeartbeats 4000000
/-! in_turn; is_name; is_number. -/
namespace TM
open PySem PySem.Spec PyProof.Rows L2
def NameOk (x : Str) : Prop := 1 ≤ x.cps.size ∧ x.cps.size ≤ 8 ∧ ∀ (i : Nat) (c : Nat), x.cps[i]? = some c → 97 ≤ c ∧ c ≤ 122
theorem NameOk.asc {x : Str} (h : NameOk x) : Asc x := by
  unfold Asc
  rw [Array.all_eq_true]
  intro i hi
  have := h.2.2 i _ (Array.getElem?_eq_getElem hi)
  exact decide_eq_true (by omega)
theorem lets_mem : ∀ {c : Nat}, 97 ≤ c → c ≤ 122 → c ∈ lets.cps.toList := fun {c} h1 h2 => by
  have h : ∀ k : Fin 26, (k.val + 97) ∈ lets.cps.toList := by decide +kernel
  have := h ⟨c - 97, by omega⟩
  have e : c - 97 + 97 = c := by omega
  rw [e] at this
  exact this
theorem for_strA {x : Str} {g : TG} {tb : TS} {D : Ends} {σ : L2.St} {H : Hp} (Pv : Nat → L2.St → Hp → Prop) (h0 : Pv 0 σ H)
    (hs : ∀ i c σ H, x.cps[i]? = some c → Pv i σ H → g (.str ⟨#[c]⟩) σ H fun σ2 H2 => tb { D with nx := Pv (i + 1), ct := Pv (i + 1), bk := D.nx } σ2 H2) (hd : ∀ σ H, Pv x.cps.size σ H → D.nx σ H) :
    ∃ W : Nat → Nat → L2.St → Hp → Prop, (∃ m, W 0 m σ H) ∧ ∀ i m σ H, W i m σ H →
      ((Its x).stop i H ∧ D.nx σ H) ∨ ((Its x).go i H ∧ ∃ N : L2.St → Hp → Prop, (∀ σ' H', N σ' H' → ∃ m', m' < m ∧ W (i + 1) m' σ' H') ∧ ∀ v H', (Its x).yld i H v H' → g v σ H' fun σ2 H2 => tb { D with nx := N, ct := N, bk := D.nx } σ2 H2) := by
  refine ⟨fun i m σ H => m = x.cps.size - i ∧ i ≤ x.cps.size ∧ Pv i σ H, ⟨x.cps.size, by simp, Nat.zero_le _, h0⟩, ?_⟩
  rintro i m σ H ⟨rfl, hi, p⟩
  by_cases hlt : i < x.cps.size
  · refine .inr ⟨hlt, Pv (i + 1), fun σ' H' p' => ⟨x.cps.size - (i + 1), by omega, rfl, hlt, p'⟩, fun v H' y => ?_⟩
    obtain ⟨e, c, hc, e2⟩ := y
    subst e e2
    exact hs i c σ _ hc p
  · have e : i = x.cps.size := by omega
    subst e
    exact .inl ⟨Nat.le_refl _, hd σ H p⟩
def spInTurn : Bool → Sp := fun _ vs H Q _ => ∃ (nl ab : Addr) (A : Ent), vs = [.ref nl, .ref ab] ∧ Lst H nl (keysE (ent A)) ∧ H ab = some (.dK (kvL A)) ∧ (keysE (ent A)).Nodup ∧ A.length ≤ 1000 ∧ ∀ H' td, Same H H' → H td = none → H' td = some (.dK (kvL A)) → Q (.ref td) H'
def spIsName : Bool → Sp := fun _ vs H Q _ => ∃ x, vs = [.str x] ∧ NameOk x ∧ Q (.bl true) H
/-- is_number's argument: an int, or not a number -/
def spIsNum : Bool → Sp := fun _ vs H Q _ => ∃ n : Int, vs = [.int n] ∧ Q (.bl true) H
section
variable {P : Program} {w : World} {K : PySem.W.Frag} {mg : Str → Option Value} {base : Heap} {f : Addr} {fd : FuncData}
theorem scInTurn : FnScope ["names", "above", "told", "name"] ["names", "above"] (defScope sInTurn) := ⟨rfl, rfl, rfl, by decide +kernel, rfl, by decide +kernel, by decide +kernel⟩
theorem ok_inTurn (D : DefAt K mg "in_turn" sInTurn ["names", "above"] f fd) : FnM P w K mg base CX0 1 f fd ["names", "above"] spInTurn := by
  refine fun_okM D.F scInTurn (fun b vs H Q E h => ?_) (fun b pl cdv A outer s H vs Q E hm hr h => ?_)
  · obtain ⟨nl, ab, L, rfl, _⟩ := h
    rfl
  · obtain ⟨nl, ab, L, rfl, hn, hab, nd, hlen, k⟩ := h
    have hu := roomM_hu hr
    refine ⟨_, PSs.nox (pss_cons (ps_set (i := 2) scInTurn.nd rfl (Or.inl rfl) pe_dnewK)
      (pss_cons (ps_forM PassesOwn.never hm (pm_list (pv 0)) (pg_name (i := 3) scInTurn.nd rfl (Or.inl rfl))
        (pss_one (ps_dput hu (pv 2) (pv 3) (pe_dget hu (pv 1) (pv 3) (fun _ _ => rfl)) rfl)))
      (pss_one (ps_ret (pv 2))))), ?_⟩
    refine fun td htd => ⟨_, rfl, nl, rfl, ⟨_, SqL.of ((Same.nw htd) _ _ hn)⟩, for_list (K := K) (a := nl) (xs := vstr (keysE (ent L))) (fun i σ H' => ∃ v, σ = [some (.ref nl), some (.ref ab), some (.ref td), v] ∧ Same H H' ∧ H' td = some (.dK (kvL (L.take i))))
      ⟨_, rfl, Same.nw htd, upd_same⟩ (fun i σ H' _ ⟨_, _, s1, _⟩ => s1.seq (SqL.of hn)) ?_ ?_⟩
    · intro i y σ H' hi ⟨v, eσ, s1, ht⟩
      subst eσ
      obtain ⟨n, hn1, rfl⟩ := map_get hi
      obtain ⟨e1, he1, rfl⟩ := map_get hn1
      obtain ⟨e, he, rfl⟩ := map_get he1
      have w1 : e.1 ∉ keysE (ent (L.take i)) := by
        intro z
        have h1 : keysE (ent (L.take (i + 1))) = keysE (ent (L.take i)) ++ [e.1] := keys_snoc he
        have h2 : (keysE (ent (L.take (i + 1)))).Nodup := by
          have h3 : keysE (ent (L.take (i + 1))) = (keysE (ent L)).take (i + 1) := by
            rw [← ent_take]
            unfold keysE
            rw [List.map_take]
          rw [h3]
          exact nd.sublist (List.take_sublist _ _)
        rw [h1] at h2
        exact (List.nodup_append.mp h2).2.2 _ z _ (List.mem_singleton_self _) rfl
      have hg : DGet H' ab (.str e.1) (some (V.ref e.2.1)) := by
        have := DGet.k (k := Sum.inr e.1) (s1 _ _ hab)
        rw [valV_L, lookup_at (n := e.1) (p := e.2) he w1] at this
        exact this
      have hil := (List.getElem?_eq_some_iff.mp he).1
      refine ⟨_, rfl, _, rfl, ab, _, rfl, hg, _, rfl, _, rfl, td, _, rfl, DPut.k (k := Sum.inr e.1) ht (size_lt (by rw [List.length_map, List.length_take]; omega)), _, rfl, s1.old2 htd, ?_⟩
      rw [upd_same, putK_new _ (by rw [valV_L, lookup_none w1]; rfl), take_snoc he, kvL_snoc]
    · intro σ H' ⟨v, eσ, s1, ht⟩
      subst eσ
      have e : (vstr (keysE (ent L))).length = L.length := by rw [List.length_map, keys_len]
      rw [e, List.take_length] at ht
      exact ⟨_, rfl, k H' td s1 htd ht⟩
theorem scIsName : FnScope ["thing", "sign"] ["thing"] (defScope sIsName) := ⟨rfl, rfl, rfl, by decide +kernel, rfl, by decide +kernel, by decide +kernel⟩
theorem ok_isName (D : DefAt K mg "is_name" sIsName ["thing"] f fd) (hIs : mg "isinstance" = none) (hSt : mg "str" = none) (hLe : mg "len" = none) {t1 t2 : Tok} (hLo : mg "LONGEST" = some (.int 8 t1)) (hLt : mg "LETTERS" = some (.str lets t2)) : FnM P w K mg base CX0 1 f fd ["thing"] spIsName := by
  refine fun_okM D.F scIsName (fun b vs H Q E h => ?_) (fun b pl cdv A outer s H vs Q E hm hr h => ?_)
  · obtain ⟨x, rfl, _⟩ := h
    rfl
  · obtain ⟨x, rfl, hx, k⟩ := h
    refine ⟨_, PSs.nox (pss_cons (ps_if (PW.pt (pw_or (pt_not (pt_val (pe_callB call_isi rfl hIs PyProof.Rows.boot_isinstance (pa_cons (pv 0) (pa_cons (pe_bltn (v := .ty "str") rfl hSt PyProof.Rows.boot_str rfl) pa_nil)))))
        (pw_or1 (pt_not (pt_chain op_le op_le pe_int (pe_callB call_len_str rfl hLe PySem.boot_len (pa_cons (pv 0) pa_nil)) (pe_glob (v := .int 8) rfl hLo ⟨_, rfl⟩)))))) (pss_one (ps_ret pe_bl)) pss_nil)
      (pss_cons (ps_forM PassesOwn.never hm (pm_str (pv 0)) (pg_name (i := 1) scIsName.nd rfl (Or.inl rfl))
        (pss_one (ps_if (pt_cmpR op_notIn_sign (pv 1) (pe_glob (v := .str lets) rfl hLt ⟨_, rfl⟩) rfl) (pss_one (ps_ret pe_bl)) pss_nil)))
      (pss_one (ps_ret pe_bl)))), ?_⟩
    have hsz : x.length ≤ sizeLine := size_small (by have := hx.2.1; show x.cps.size ≤ _; omega)
    refine ⟨_, rfl, .str x, .ty "str", .type "str", .type "str", true, rfl, .ty _, .base (.str x), kit_ty (by decide +kernel), _, rfl, iteF ⟨_, rfl, x, rfl, hsz, _, _, rfl, rfl, _, rfl, ?_⟩⟩
    have h1 : decide ((1 : Int) ≤ (x.length : Nat)) = true := decide_eq_true (by have := hx.1; show (1 : Int) ≤ ((x.cps.size : Nat) : Int); omega)
    have h2 : decide (((x.length : Nat) : Int) ≤ 8) = true := decide_eq_true (by have := hx.2.1; show ((x.cps.size : Nat) : Int) ≤ 8; omega)
    rw [h1]
    refine iteT ⟨_, _, rfl, rfl, _, rfl, ?_⟩
    rw [h2]
    refine iteF ⟨_, rfl, x, rfl, hx.asc, for_strA (fun i σ H' => ∃ v, σ = [some (.str x), v] ∧ H' = H) ⟨_, rfl, rfl⟩ ?_ ?_⟩
    · intro i c σ H' hi ⟨v, eσ, eH⟩
      subst eσ eH
      obtain ⟨c1, c2⟩ := hx.2.2 i c hi
      refine ⟨_, rfl, c, lets, rfl, rfl, _, rfl, ?_⟩
      rw [decide_eq_true (lets_mem c1 c2)]
      exact iteF ⟨_, rfl, rfl⟩
    · intro σ H' ⟨v, eσ, eH⟩
      subst eσ eH
      exact k
theorem scIsNum : FnScope ["thing"] ["thing"] (defScope sIsNum) := ⟨rfl, rfl, rfl, by decide +kernel, rfl, by decide +kernel, by decide +kernel⟩
theorem ok_isNum (D : DefAt K mg "is_number" sIsNum ["thing"] f fd) (hIs : mg "isinstance" = none) (hIn : mg "int" = none) (hBo : mg "bool" = none) : FnM P w K mg base CX0 1 f fd ["thing"] spIsNum := by
  refine fun_okM D.F scIsNum (fun b vs H Q E h => ?_) (fun b pl cdv A outer s H vs Q E hm hr h => ?_)
  · obtain ⟨x, rfl, _⟩ := h
    rfl
  · obtain ⟨x, rfl, k⟩ := h
    refine ⟨_, PSs.nox (pss_one (ps_ret (pe_and (pe_callB call_isi rfl hIs PyProof.Rows.boot_isinstance (pa_cons (pv 0) (pa_cons (pe_bltn (v := .ty "int") rfl hIn (by decide +kernel) rfl) pa_nil)))
      (pe_one (pe_not (pe_callB call_isi rfl hIs PyProof.Rows.boot_isinstance (pa_cons (pv 0) (pa_cons (pe_bltn (v := .ty "bool") rfl hBo (by decide +kernel) rfl) pa_nil)))))))), ?_⟩
    exact ⟨_, rfl, .int x, .ty "int", .type "int", .type "int", true, rfl, .ty _, .base (.int x), kit_ty (by decide +kernel), _, rfl, iteT ⟨_, rfl, .int x, .ty "bool", .type "int", .type "bool", false, rfl, .ty _, .base (.int x), kit_ty (by decide +kernel), _, rfl, k⟩⟩
end
end TM
set_option maxRecDepth 100000
set_option maxHeartbeats 4000000
/-! House. -/
namespace TM
open PySem PySem.Spec PyProof.Rows L2
/-- a method m of C that stands at f -/
structure MethD (K : PySem.W.Frag) (C : Addr) (m qual : Str) (st : Stmt) (ps : List Str) (f : Addr) (fd : FuncData) : Prop where
  F : FunD K m qual (defArgs st) (defBody st) (defScope st) [] [] f fd
  m : Meth K C m f
  b : Binds K fd ps []
/-- .. with one default, None -/
structure MethN (K : PySem.W.Frag) (C : Addr) (m qual : Str) (st : Stmt) (ps : List Str) (f : Addr) (fd : FuncData) : Prop where
  F : FunD K m qual (defArgs st) (defBody st) (defScope st) [.non] [] f fd
  m : Meth K C m f
  b : Binds K fd ps [Value.none]
  b0 : Binds K fd ps []
structure HouseAt (MU : List Addr) (H : Hp) (CH hp : Addr) (A Ld : Ent) : Prop where
  ins : ∃ dx lst ab ld, H hp = some (.ins CH dx [("listed", .ref lst), ("above", .ref ab), ("laid", .ref ld)]) ∧ Lst H lst (keysE (ent A)) ∧ H ab = some (.dK (kvL A)) ∧ H ld = some (.dK (kvL Ld)) ∧ lst ∉ MU ∧ ab ∉ MU ∧ ld ∉ MU
  rA : Rows H A
  rL : Rows H Ld
  mA : ∀ e ∈ A, e.2.1 ∉ MU
  mL : ∀ e ∈ Ld, e.2.1 ∉ MU
  lines : linesF (ent A) = some (ent Ld)
  wf : wf (ent A)
  len : A.length ≤ 12
  nm : ∀ e ∈ A, NameOk e.1
  el : ∀ e ∈ A, e.2.2.length ≤ 5
theorem HouseAt.keep {MU S : List Addr} {H H' : Hp} {CH hp : Addr} {A Ld : Ent} (h : HouseAt MU H CH hp A Ld) (s : SameX S H H') (hS : ∀ a ∈ S, a ∈ MU) (hh : hp ∉ S) : HouseAt MU H' CH hp A Ld := by
  obtain ⟨dx, lst, ab, ld, h1, h2, h3, h4, h5, h6, h7⟩ := h.ins
  exact ⟨⟨dx, lst, ab, ld, s _ _ hh h1, s _ _ (fun z => h5 (hS _ z)) h2, s _ _ (fun z => h6 (hS _ z)) h3, s _ _ (fun z => h7 (hS _ z)) h4, h5, h6, h7⟩,
    h.rA.keep s fun e he z => h.mA e he (hS _ z), h.rL.keep s fun e he z => h.mL e he (hS _ z), h.mA, h.mL, h.lines, h.wf, h.len, h.nm, h.el⟩
theorem HouseAt.grow {MU N : List Addr} {H : Hp} {CH hp : Addr} {A Ld : Ent} (h : HouseAt MU H CH hp A Ld) (hN : ∀ n ∈ N, H n = none) : HouseAt (MU ++ N) H CH hp A Ld := by
  obtain ⟨dx, lst, ab, ld, h1, h2, h3, h4, h5, h6, h7⟩ := h.ins
  have k : ∀ {a : Addr} {u : HO}, H a = some u → a ∉ MU → a ∉ MU ++ N := fun {a u} e n z => (List.mem_append.mp z).elim n fun z => by rw [hN a z] at e; cases e
  exact ⟨⟨dx, lst, ab, ld, h1, h2, h3, h4, k h2 h5, k h3 h6, k h4 h7⟩, h.rA, h.rL, fun e he => k (h.rA.row e he) (h.mA e he), fun e he => k (h.rL.row e he) (h.mL e he), h.lines, h.wf, h.len, h.nm, h.el⟩
theorem HouseAt.keys {MU : List Addr} {H : Hp} {CH hp : Addr} {A Ld : Ent} (h : HouseAt MU H CH hp A Ld) : keysE (ent Ld) = keysE (ent A) := linesF_keys h.lines
theorem HouseAt.nodup {MU : List Addr} {H : Hp} {CH hp : Addr} {A Ld : Ent} (h : HouseAt MU H CH hp A Ld) : (keysE (ent A)).Nodup := by
  rw [← h.keys]
  exact (linesF_good h.wf h.lines).1
/-- what K says of the class House -/
structure HCls (K : PySem.W.Frag) (CH : Addr) : Prop where
  cl : Cls K CH
  n1 : NoAttr K CH "listed"
  n2 : NoAttr K CH "above"
  n3 : NoAttr K CH "laid"
def spHInit (CH : Addr) : Bool → Sp := fun _ vs H Q _ => ∃ (hp dx : Addr), vs = [.ref hp] ∧ H hp = some (.ins CH dx []) ∧ ∀ H' lst ab ld, SameX [hp] H H' → H lst = none → H ab = none → H ld = none → H' hp = some (.ins CH dx [("listed", .ref lst), ("above", .ref ab), ("laid", .ref ld)]) → Lst H' lst [] → H' ab = some (.dK []) → H' ld = some (.dK []) → Q .non H'
def spHNK (CH : Addr) : Bool → Sp := fun _ vs H Q _ => ∃ (MU : List Addr) (hp : Addr) (A Ld : Ent) (x : Str), vs = [.ref hp, .str x] ∧ HouseAt MU H CH hp A Ld ∧ x ∈ keysE (ent A) ∧ Q .non H
def spHNE (CH : Addr) : Bool → Sp := fun _ vs H Q _ => ∃ (MU : List Addr) (hp el : Addr) (A Ld : Ent) (es : List Str), vs = [.ref hp, .ref el] ∧ HouseAt MU H CH hp A Ld ∧ Lst H el es ∧ es.length ≤ 5 ∧ es.Nodup ∧ (∀ e ∈ es, e ∈ keysE (ent A)) ∧ ∀ H', Same H H' → Q .non H'
section
variable {P : Program} {w : World} {K : PySem.W.Frag} {mg : Str → Option Value} {base : Heap} {f f1 f2 f3 f4 : Addr} {fd fd1 fd2 fd3 fd4 : FuncData} {CH CT : Addr}
theorem scHInit : FnScope ["self"] ["self"] (defScope sHInit) := ⟨rfl, rfl, rfl, by decide +kernel, rfl, by decide +kernel, by decide +kernel⟩
theorem ok_hinit (T : HCls K CH) (D : MethD K CH "__init__" "House.__init__" sHInit ["self"] f fd) : FnM P w K mg base CX0 1 f fd ["self"] (spHInit CH) := by
  refine fun_okM D.F scHInit (fun b vs H Q E h => ?_) (fun b pl cdv A outer s H vs Q E hm hr h => ?_)
  · obtain ⟨hp, dx, rfl, _⟩ := h
    rfl
  · obtain ⟨hp, dx, rfl, hh, k⟩ := h
    refine ⟨_, PSs.nox (pss_cons (ps_fld (pv 0) (pe_lst pa_nil) rfl) (pss_cons (ps_fld (pv 0) pe_dnewK rfl) (pss_one (ps_fld (pv 0) pe_dnewK rfl)))), ?_⟩
    refine ⟨by show 0 ≤ sizeLine; exact Nat.zero_le _, fun lst hl => ⟨_, rfl, hp, CH, dx, [], rfl, (Same.nw hl) _ _ hh, T.cl, T.n1, by show 0 < 1000; omega, fun ab hab => ?_⟩⟩
    have n1 : hp ≠ lst := ne_of_none hh hl
    have n2 : hp ≠ ab := fun z => by rw [← z, upd_same] at hab; cases hab
    have n3 : lst ≠ ab := fun z => by rw [← z, upd_ne n1.symm, upd_same] at hab; cases hab
    have hab0 : H ab = none := by rw [upd_ne n2.symm, upd_ne n3.symm] at hab; exact hab
    refine ⟨_, rfl, hp, CH, dx, _, rfl, by rw [upd_ne n2, upd_same], T.cl, T.n2, by show 1 < 1000; omega, fun ld hld => ?_⟩
    have n4 : hp ≠ ld := fun z => by rw [← z, upd_same] at hld; cases hld
    have n5 : ab ≠ ld := fun z => by rw [← z, upd_ne n2.symm, upd_same] at hld; cases hld
    have n6 : lst ≠ ld := fun z => by rw [← z, upd_ne n1.symm, upd_ne n3, upd_ne n1.symm, upd_same] at hld; cases hld
    have hld0 : H ld = none := by rw [upd_ne n4.symm, upd_ne n5.symm, upd_ne n4.symm, upd_ne n6.symm] at hld; exact hld
    refine ⟨_, rfl, hp, CH, dx, _, rfl, by rw [upd_ne n4, upd_same], T.cl, T.n3, by show 2 < 1000; omega, ?_⟩
    refine k _ lst ab ld (fun a u ha e => ?_) hl hab0 hld0 (by rw [upd_same]; rfl) ?_ ?_ ?_
    · have ha' : a ≠ hp := by simpa using ha
      rw [upd_ne ha', upd_ne (ne_of_none e hld0), upd_ne ha', upd_ne (ne_of_none e hab0), upd_ne ha', upd_ne (ne_of_none e hl)]
      exact e
    · show (upd (upd (upd (upd (upd (upd H lst _) hp _) ab _) hp _) ld _) hp _) lst = _
      rw [upd_ne n1.symm, upd_ne n6, upd_ne n1.symm, upd_ne n3, upd_ne n1.symm, upd_same]
      rfl
    · rw [upd_ne n2.symm, upd_ne n5, upd_ne n2.symm, upd_same]
    · rw [upd_ne n4.symm, upd_same]
theorem scHNK : FnScope ["self", "name"] ["self", "name"] (defScope sHNK) := ⟨rfl, rfl, rfl, by decide +kernel, rfl, by decide +kernel, by decide +kernel⟩
theorem ok_hnk (T : HCls K CH) (D : MethD K CH "need_kind" "House.need_kind" sHNK ["self", "name"] f fd) : FnM P w K mg base CX0 1 f fd ["self", "name"] (spHNK CH) := by
  refine fun_okM D.F scHNK (fun b vs H Q E h => ?_) (fun b pl cdv A outer s H vs Q E hm hr h => ?_)
  · obtain ⟨MU, hp, A, Ld, x, rfl, _⟩ := h
    rfl
  · obtain ⟨MU, hp, A', Ld, x, rfl, hH, hx, k⟩ := h
    obtain ⟨dx, lst, ab, ld, h1, h2, h3, h4, h5, h6, h7⟩ := hH.ins
    refine ⟨_, PSs.nox (pss_one (ps_if (pt_cmp (pc_dnotin (roomM_hu hr) (pv 1) (pe_fld (pv 0) rfl))) pss_never pss_nil)), ?_⟩
    refine ⟨_, rfl, _, rfl, hp, CH, dx, _, _, rfl, h1, T.cl, T.n2, rfl, ab, _, rfl, DGet.k (k := Sum.inr x) h3, _, rfl, ?_⟩
    rw [valV_Li, decide_eq_true hx]
    exact iteF k
theorem scHNE : FnScope ["self", "elders", "seen", "elder"] ["self", "elders"] (defScope sHNE) := ⟨rfl, rfl, rfl, by decide +kernel, rfl, by decide +kernel, by decide +kernel⟩
theorem ok_hne (T : HCls K CH) (D : MethD K CH "need_elders" "House.need_elders" sHNE ["self", "elders"] f fd) (D1 : MethD K CH "need_kind" "House.need_kind" sHNK ["self", "name"] f1 fd1) (hLe : mg "len" = none) {t1 : Tok} (hMo : mg "MOST_ELDERS" = some (.int 5 t1)) :
    FnM P w K mg base CX0 2 f fd ["self", "elders"] (spHNE CH) := by
  have G : FnM P w K mg base CX0 1 f1 fd1 ["self", "name"] (spHNK CH) := ok_hnk T D1
  refine fun_okM D.F scHNE (fun b vs H Q E h => ?_) (fun b pl cdv A outer s H vs Q E hm hr h => ?_)
  · obtain ⟨MU, hp, el, A, Ld, es, rfl, _⟩ := h
    rfl
  · obtain ⟨MU, hp, el, A', Ld, es, rfl, hH, hel, hlen, nd, hsub, k⟩ := h
    obtain ⟨dx, lst, ab, ld, h1, h2, h3, h4, h5, h6, h7⟩ := hH.ins
    refine ⟨_, PSs.nox (pss_cons (ps_if (pt_cmpR op_gt (pe_callB call_len_seq rfl hLe PySem.boot_len (pa_cons (pv 1) pa_nil)) (pe_glob (v := .int 5) rfl hMo ⟨_, rfl⟩) (nomark _)) pss_never pss_nil)
      (pss_cons (ps_set (i := 2) scHNE.nd rfl (Or.inl rfl) (pe_lst pa_nil))
      (pss_one (ps_forM PassesOwn.never hm (pm_list (pv 1)) (pg_name (i := 3) scHNE.nd rfl (Or.inl rfl))
        (pss_cons (ps_expr (pe_methM (pv 0) T.cl D1.m G hr hm D1.b .nil (fun _ => passAt0) (pa_cons (pv 3) pa_nil)))
        (pss_cons (ps_if (pt_cmpR op_in_seq (pv 3) (pv 2) rfl) pss_never pss_nil)
        (pss_one (ps_expr (pe_bm PySem.F.plainAttrs_list PySem.F.slot_list_append PySem.F.type_list_append mt_append (pv 2) (pa_cons (pv 3) pa_nil)))))))))), ?_⟩
    refine ⟨_, rfl, el, _, rfl, .inl (SqL.of hel), _, _, rfl, rfl, _, rfl, ?_⟩
    have hl5 : decide ((5 : Int) < ((vstr es).length : Nat)) = false := decide_eq_false (by rw [List.length_map]; omega)
    rw [hl5]
    refine iteF ⟨by show 0 ≤ sizeLine; exact Nat.zero_le _, fun S hS => ⟨_, rfl, el, rfl, ⟨_, SqL.of ((Same.nw hS) _ _ hel)⟩, for_list (K := K) (a := el) (xs := vstr es) (fun i σ H' => ∃ v, σ = [some (.ref hp), some (.ref el), some (.ref S), v] ∧ Same H H' ∧ Lst H' S (es.take i))
      ⟨_, rfl, Same.nw hS, upd_same⟩ (fun i σ H' _ ⟨_, _, s1, _⟩ => s1.seq (SqL.of hel)) ?_ ?_⟩⟩
    · intro i y σ H' hi ⟨v, eσ, s1, hs⟩
      subst eσ
      obtain ⟨e, he, rfl⟩ := map_get hi
      have hem := List.mem_of_getElem? he
      have hH1 : HouseAt MU H' CH hp A' Ld := hH.keep (S := []) (SameX.of s1) (by simp) (by simp)
      refine ⟨_, rfl, hp, dx, _, rfl, s1 _ _ h1, rfl, _, rfl, MU, hp, A', Ld, e, rfl, hH1, hsub e hem, ?_⟩
      refine ⟨_, rfl, _, rfl, S, _, rfl, .inl (SqL.of hs), rfl, flat_strs _, _, rfl, ?_⟩
      have hno : e ∉ es.take i := by
        intro z
        have h2 : (es.take (i + 1)).Nodup := nd.sublist (List.take_sublist _ _)
        rw [take_snoc he] at h2
        exact (List.nodup_append.mp h2).2.2 _ z _ (List.mem_singleton_self _) rfl
      rw [in_strs, decide_eq_false hno]
      refine iteF ⟨_, rfl, .inl ⟨rfl, _, SqL.of hs⟩, _, rfl, S, _, _, rfl, rfl, hs, size_lt (by rw [List.length_map, List.length_take]; omega), _, rfl, s1.old2 hS, ?_⟩
      show (upd H' S _) S = _
      rw [upd_same, take_snoc he, vstr_snoc]
    · intro σ H' ⟨v, eσ, s1, hs⟩
      exact k H' s1
end
end TM
set_option maxRecDepth 100000
set_option maxHeartbeats 4000000
/-! House.add. -/
namespace TM
open PySem PySem.Spec PyProof.Rows L2
def spHAdd (CH CT : Addr) : Bool → Sp := fun b vs H Q E => ∃ (MU : List Addr) (hp el : Addr) (x : Str) (A Ld : Ent) (es : List Str), vs = [.ref hp, .str x, .ref el, .non] ∧ HouseAt MU H CH hp A Ld ∧ (∀ m ∈ MU, H m ≠ none) ∧ hp ∈ MU ∧ Lst H el es ∧ es.length ≤ 5 ∧ es.Nodup ∧ (∀ e ∈ es, e ∈ keysE (ent A)) ∧ NameOk x ∧ x ∉ keysE (ent A) ∧ A.length < 12 ∧
  (∀ Lr, linesF (ent A ++ [(x, es)]) = some Lr → ∀ H' ea Ld', SameX [hp] H H' → HouseAt MU H' CH hp (A ++ [(x, ea, es)]) Ld' → Q .non H') ∧
  (linesF (ent A ++ [(x, es)]) = none → b = true ∧ ∀ H' d, Same H H' → E (.ref CT) (some d) H')
theorem cut_all_r (xs : List V) : cutV xs none (some ((xs.length : Nat) : Int)) = xs := by
  unfold cutV
  rw [HT.sIx_nat, HT.sIx_none, Nat.min_self]
  simp
theorem cut_all_l (xs : List V) : cutV xs (some ((xs.length : Nat) : Int)) none = [] := by
  unfold cutV
  rw [HT.sIx_nat, HT.sIx_none, Nat.min_self]
  simp
section
variable {P : Program} {w : World} {K : PySem.W.Frag} {mg : Str → Option Value} {base : Heap} {f f1 f2 f3 f4 : Addr} {fd fd1 fd2 fd3 fd4 : FuncData} {CH CT : Addr}
theorem scHAdd : FnScope ["self", "name", "elders", "at", "listed", "above"] ["self", "name", "elders", "at"] (defScope sHAdd) := ⟨rfl, rfl, rfl, by decide +kernel, rfl, by decide +kernel, by decide +kernel⟩
theorem ok_hadd (T : HCls K CH) (D : MethN K CH "add" "House.add" sHAdd ["self", "name", "elders", "at"] f fd)
    (D1 : DefAt K mg "is_name" sIsName ["thing"] f1 fd1) (G1 : FnM P w K mg base CX0 1 f1 fd1 ["thing"] spIsName)
    (D2 : MethD K CH "need_elders" "House.need_elders" sHNE ["self", "elders"] f2 fd2) (G2 : FnM P w K mg base CX0 2 f2 fd2 ["self", "elders"] (spHNE CH))
    (D3 : DefAt K mg "in_turn" sInTurn ["names", "above"] f3 fd3) (G3 : FnM P w K mg base CX0 1 f3 fd3 ["names", "above"] spInTurn)
    (D4 : DefAt K mg "lines_of" sLinesOf ["elders"] f4 fd4) (G4 : FnM P w K mg base (L2N.CX P w) 5 f4 fd4 ["elders"] (spLines CT))
    (hLe : mg "len" = none) (hLi : mg "list" = none) (hDi : mg "dict" = none) {t1 : Tok} (hMo : mg "MOST_KINDS" = some (.int 12 t1)) :
    FnM P w K mg base (L2N.CX P w) 6 f fd ["self", "name", "elders", "at"] (spHAdd CH CT) := by
  have G1' := G1.mono (show 1 ≤ 5 by decide)
  have G2' := G2.mono (show 2 ≤ 5 by decide)
  have G3' := G3.mono (show 1 ≤ 5 by decide)
  refine fun_okM D.F scHAdd (fun b vs H Q E h => ?_) (fun b pl cdv A outer s H vs Q E hm hr h => ?_)
  · obtain ⟨MU, hp, el, x, A, Ld, es, rfl, _⟩ := h
    rfl
  · obtain ⟨MU, hp, el, x, A', Ld, es, rfl, hH, hMU, hhm, hel, hlen, nd, hsub, hx, hxn, hA12, k1, k2⟩ := h
    have hu := roomM_hu hr
    obtain ⟨dx, lst, ab, ld, h1, h2, h3, h4, h5, h6, h7⟩ := hH.ins
    refine ⟨_, pss_cons (ps_if (pt_not (pt_val (pe_callM G1' hr hm rfl D1.g D1.F.kp D1.b .nil (fun _ => passAt0) (pa_cons (pv 1) pa_nil)))) pss_never pss_nil)
      (pss_cons (ps_if (pt_cmp (pc_din hu (pv 1) (pe_fld (pv 0) rfl))) pss_never pss_nil)
      (pss_cons (ps_if (pt_cmpR op_eq (pe_callB call_len_seq rfl hLe PySem.boot_len (pa_cons (pe_fld (pv 0) rfl) pa_nil)) (pe_glob (v := .int 12) rfl hMo ⟨_, rfl⟩) (nomark _)) pss_never pss_nil)
      (pss_cons (ps_expr (pe_methM (pv 0) T.cl D2.m G2' hr hm D2.b .nil (fun _ => passAt0) (pa_cons (pv 2) pa_nil)))
      (pss_cons (ps_if (pt_cmpR op_isN (pv 3) pe_non (nomark _)) (pss_one (ps_set (i := 3) scHAdd.nd rfl (Or.inl rfl) (pe_callB call_len_seq rfl hLe PySem.boot_len (pa_cons (pe_fld (pv 0) rfl) pa_nil)))) pss_nil)
      (pss_cons (ps_set (i := 4) scHAdd.nd rfl (Or.inl rfl) (pe_op op_cat (pe_op op_cat (pe_slice sl_list (pe_fld (pv 0) rfl) po_none (po_some (pv 3))) (pe_lst (pa_cons (pv 1) pa_nil))) (pe_slice sl_list (pe_fld (pv 0) rfl) (po_some (pv 3)) po_none)))
      (pss_cons (ps_set (i := 5) scHAdd.nd rfl (Or.inl rfl) (pe_callTy call_dictD rfl hDi (by decide +kernel) (pa_cons (pe_fld (pv 0) rfl) pa_nil)))
      (pss_cons (ps_dput hu (pv 5) (pv 1) (pe_callTy call_list_of rfl hLi PyProof.Rows.boot_list (pa_cons (pv 2) pa_nil)) rfl)
      (pss_cons (ps_fld (pv 0) (pe_callM G4 hr hm rfl D4.g D4.F.kp D4.b .nil (fun σ => L2N.passAt (L2N.takes_of rfl rfl rfl rfl) σ) (pa_cons (pe_callM G3' hr hm rfl D3.g D3.F.kp D3.b .nil (fun _ => passAt0) (pa_cons (pv 4) (pa_cons (pv 5) pa_nil))) pa_nil)) rfl)
      (pss_cons (ps_fld (pv 0) (pv 5) rfl) (pss_one (ps_fld (pv 0) (pv 4) rfl))))))))))), ?_⟩
    refine ⟨_, rfl, x, rfl, hx, _, rfl, iteF ⟨_, rfl, _, rfl, hp, CH, dx, _, _, rfl, h1, T.cl, T.n2, rfl, ab, _, rfl, DGet.k (k := Sum.inr x) h3, _, rfl, ?_⟩⟩
    rw [valV_Li, decide_eq_false hxn]
    refine iteF ⟨_, rfl, hp, CH, dx, _, _, rfl, h1, T.cl, T.n1, rfl, lst, _, rfl, .inl (SqL.of h2), rfl, _, rfl, ?_⟩
    have hln : (vstr (keysE (ent A'))).length = A'.length := by rw [List.length_map, keys_len]
    have hd12 : decide (V.int (((vstr (keysE (ent A'))).length : Nat) : Int) = V.int 12) = false := decide_eq_false fun z => by
      have := V.int.inj z
      omega
    rw [hd12]
    refine iteF ⟨_, rfl, hp, dx, _, rfl, h1, rfl, _, rfl, MU, hp, el, A', Ld, es, rfl, hH, hel, hlen, nd, hsub, fun H1 s1 => ?_⟩
    have h1a := s1 _ _ h1
    have h2a : Lst H1 lst _ := s1 _ _ h2
    refine ⟨_, rfl, rfl, _, rfl, iteT ⟨_, rfl, hp, CH, dx, _, _, rfl, h1a, T.cl, T.n1, rfl, lst, _, rfl, .inl (SqL.of h2a), ?_⟩⟩
    refine ⟨_, rfl, hp, CH, dx, _, _, rfl, h1a, T.cl, T.n1, rfl, _, rfl, _, rfl, lst, _, rfl, SqL.of h2a, fun q1 nq1 => ?_⟩
    rw [cut_all_r]
    refine ⟨_, rfl, by show 1 ≤ sizeLine; exact size_small (by decide), fun q2 nq2 => ?_⟩
    have nq12 : q1 ≠ q2 := ne_of_none upd_same nq2
    have nq20 : H1 q2 = none := by rw [upd_ne nq12.symm] at nq2; exact nq2
    refine ⟨q1, q2, vstr (keysE (ent A')), [.str x], rfl, rfl, by rw [upd_ne nq12, upd_same], upd_same, by rw [hln]; exact size_small (by show A'.length + 1 ≤ _; omega), fun q3 nq3 => ?_⟩
    have s2 : Same H1 (upd (upd (upd H1 q1 (.lst (vstr (keysE (ent A'))))) q2 (.lst [.str x])) q3 (.lst (vstr (keysE (ent A')) ++ [.str x]))) := ((Same.nw nq1).nw2 nq2).nw2 nq3
    refine ⟨_, rfl, hp, CH, dx, _, _, rfl, s2 _ _ h1a, T.cl, T.n1, rfl, _, rfl, _, rfl, lst, _, rfl, SqL.of (s2 _ _ h2a), fun q4 nq4 => ?_⟩
    rw [cut_all_l]
    have n34 : q3 ≠ q4 := ne_of_none upd_same nq4
    refine ⟨q3, q4, _, [], rfl, rfl, by rw [upd_ne n34, upd_same], upd_same, by rw [List.length_append, hln]; exact size_small (by show A'.length + 1 + 0 ≤ _; omega), fun q5 nq5 => ?_⟩
    rw [List.append_nil]
    have s3 := (s2.nw2 (o := .lst []) nq4).nw2 (o := .lst (vstr (keysE (ent A')) ++ [V.str x])) nq5
    revert s3
    generalize hG : upd (upd (upd (upd (upd H1 q1 (.lst (vstr (keysE (ent A'))))) q2 (.lst [.str x])) q3 (.lst (vstr (keysE (ent A')) ++ [.str x]))) q4 (.lst [])) q5 (.lst (vstr (keysE (ent A')) ++ [V.str x])) = H2
    intro s3
    have hq5 : H2 q5 = some (.lst (vstr (keysE (ent A') ++ [x]))) := by rw [← hG, upd_same, vstr_snoc]
    have s4 : Same H H2 := s1.trans s3
    have q50 : H q5 = none := by
      have := (s1.trans (s2.nw2 (o := .lst []) nq4)).free nq5
      exact this
    clear hG
    refine ⟨_, rfl, hp, CH, dx, _, _, rfl, s4 _ _ h1, T.cl, T.n2, rfl, ab, _, rfl, .inl (s4 _ _ h3), fun ab2 nab => ?_⟩
    have s5 : Same H2 (upd H2 ab2 (.dK (kvL A'))) := Same.nw nab
    have hel5 : Lst (upd H2 ab2 (.dK (kvL A'))) el es := s5 _ _ (s4 _ _ hel)
    refine ⟨_, rfl, el, _, rfl, .inl (SqL.of hel5), fun ea nea => ?_⟩
    have nae : ab2 ≠ ea := ne_of_none upd_same nea
    have nea0 : H2 ea = none := by rw [upd_ne nae.symm] at nea; exact nea
    refine ⟨_, rfl, _, rfl, ab2, _, rfl, DPut.k (k := Sum.inr x) (by rw [upd_ne nae, upd_same]) (size_lt (by rw [List.length_map]; omega)), ?_⟩
    rw [putK_new _ (by rw [valV_L, lookup_none hxn]; rfl)]
    have ekv : kvL A' ++ [(Sum.inr x, V.ref ea)] = kvL (A' ++ [(x, ea, es)]) := (kvL_snoc A' (x, ea, es)).symm
    rw [ekv]
    have s6 : Same H2 (upd (upd (upd H2 ab2 (.dK (kvL A'))) ea (.lst (vstr es))) ab2 (.dK (kvL (A' ++ [(x, ea, es)])))) := (s5.nw2 nea).old2 nab
    revert s6
    generalize hG : upd (upd (upd H2 ab2 (.dK (kvL A'))) ea (.lst (vstr es))) ab2 (.dK (kvL (A' ++ [(x, ea, es)]))) = H3
    intro s6
    have hab2 : H3 ab2 = some (.dK (kvL (A' ++ [(x, ea, es)]))) := by rw [← hG, upd_same]
    have hea : Lst H3 ea es := by
      show H3 ea = _
      rw [← hG, upd_ne nae.symm, upd_same]
    clear hG
    have s7 : Same H H3 := s4.trans s6
    have ab20 : H ab2 = none := s4.free nab
    have ea0 : H ea = none := s4.free nea0
    have eent : ent (A' ++ [(x, ea, es)]) = ent A' ++ [(x, es)] := ent_snoc A' (x, ea, es)
    have ekeys : keysE (ent (A' ++ [(x, ea, es)])) = keysE (ent A') ++ [x] := by rw [eent, keysE_append]; rfl
    have hwf : wf (ent (A' ++ [(x, ea, es)])) := by rw [eent]; exact wf_snoc hH.wf hxn hsub
    have hnm : ∀ e ∈ A' ++ [(x, ea, es)], NameOk e.1 := fun e he => by
      rcases List.mem_append.mp he with z | z
      · exact hH.nm e z
      · have z : e = (x, ea, es) := by simpa using z
        rw [z]
        exact hx
    have hesA : ∀ e ∈ es, Asc e := fun e he => by
      obtain ⟨q, hq, e2⟩ := List.mem_map.mp (hsub e he)
      obtain ⟨q2, hq2, e3⟩ := List.mem_map.mp hq
      rw [← e2, ← e3]
      exact (hH.nm q2 hq2).asc
    have rA : ∀ {H4 : Hp}, Same H3 H4 → Rows H4 (A' ++ [(x, ea, es)]) := fun {H4} s8 => ⟨fun e he => by
      rcases List.mem_append.mp he with z | z
      · exact s8 _ _ (s7 _ _ (hH.rA.row e z))
      · have z : e = (x, ea, es) := by simpa using z
        rw [z]
        exact s8 _ _ hea, fun e he y hy => by
      rcases List.mem_append.mp he with z | z
      · exact hH.rA.asc e z y hy
      · have z : e = (x, ea, es) := by simpa using z
        rw [z] at hy
        exact hesA y hy⟩
    have hel5' : ∀ e ∈ A' ++ [(x, ea, es)], e.2.2.length ≤ 5 := fun e he => by
      rcases List.mem_append.mp he with z | z
      · exact hH.el e z
      · have z : e = (x, ea, es) := by simpa using z
        rw [z]
        exact hlen
    have hln12 : (A' ++ [(x, ea, es)]).length ≤ 12 := by rw [List.length_append, List.length_singleton]; omega
    have hnd : (keysE (ent (A' ++ [(x, ea, es)]))).Nodup := by
      rw [ekeys]
      exact List.nodup_append.mpr ⟨hH.nodup, by simp, fun a ha c hc => by
        have z : c = x := by simpa using hc
        rw [z]
        exact fun y => hxn (y ▸ ha)⟩
    refine ⟨_, rfl, _, rfl, q5, ab2, A' ++ [(x, ea, es)], rfl, by rw [ekeys]; exact s6 _ _ hq5, hab2, hnd, by omega, fun H4 td s8 ntd htd => ?_⟩
    have ntd0 : H td = none := s7.free ntd
    refine ⟨td, A' ++ [(x, ea, es)], rfl, htd, rA s8, hwf, by omega, fun e he => by have := hel5' e he; omega, fun e he => (hnm e he).asc, fun Lr hLr H5 ld2 T2 s9 nld hld2 hrT hfr hent => ?_, fun hn => ?_⟩
    · rw [eent] at hLr
      have s10 : Same H H5 := (s7.trans s8).trans s9
      have nld0 : H ld2 = none := (s7.trans s8).free nld
      have hne1 : hp ≠ ld2 := ne_of_none h1 nld0
      have hne2 : hp ≠ ab2 := ne_of_none h1 ab20
      have hne3 : hp ≠ q5 := ne_of_none h1 q50
      refine ⟨_, rfl, hp, CH, dx, _, rfl, s10 _ _ h1, T.cl, T.n3, by show 3 < 1000; omega, ?_⟩
      refine ⟨_, rfl, _, rfl, hp, CH, dx, _, rfl, upd_same, T.cl, T.n2, by show 3 < 1000; omega, ?_⟩
      refine ⟨_, rfl, _, rfl, hp, CH, dx, _, rfl, upd_same, T.cl, T.n1, by show 3 < 1000; omega, ?_⟩
      have kp : ∀ {a : Addr} {u : HO}, H5 a = some u → a ≠ hp → ∀ o1 o2 o3, (upd (upd (upd H5 hp o1) hp o2) hp o3) a = some u := fun {a u} e z o1 o2 o3 => by
        rw [upd_ne z, upd_ne z, upd_ne z]
        exact e
      have fr : ∀ {a : Addr}, H a = none → a ≠ hp := fun {a} e z => by rw [z, h1] at e; cases e
      have nm2 : ∀ {a : Addr}, H a = none → a ∉ MU := fun {a} e z => hMU a z e
      have nl : ∀ {a : Addr} {l : List Str}, Lst H a l → a ≠ hp := fun {a l} e z => by rw [z] at e; rw [show H hp = some (.lst (vstr l)) from e] at h1; cases h1
      refine k1 Lr hLr _ ea T2 (fun a u ha e => ?_) ⟨⟨dx, q5, ab2, ld2, by rw [upd_same]; rfl, ?_, ?_, ?_, nm2 q50, nm2 ab20, nm2 nld0⟩, ⟨fun e he => ?_, (rA (Same.refl _)).asc⟩, ⟨fun e he => ?_, hrT.asc⟩, fun e he => ?_, fun e he => ?_, by rw [eent, hLr, hent], hwf, hln12, hnm, hel5'⟩
      · have ha' : a ≠ hp := by simpa using ha
        exact kp (s10 _ _ e) ha' _ _ _
      · rw [ekeys]
        exact kp (s9 _ _ (s8 _ _ (s6 _ _ hq5))) (fr q50) _ _ _
      · exact kp (s9 _ _ (s8 _ _ hab2)) (fr ab20) _ _ _
      · exact kp hld2 (fr nld0) _ _ _
      · refine kp (s9 _ _ ((rA s8).row e he)) ?_ _ _ _
        rcases List.mem_append.mp he with z | z
        · exact nl (hH.rA.row e z)
        · have z : e = (x, ea, es) := by simpa using z
          rw [z]
          exact fr ea0
      · exact kp (hrT.row e he) (fr ((s7.trans s8).free (hfr e he))) _ _ _
      · rcases List.mem_append.mp he with z | z
        · exact hH.mA e z
        · have z : e = (x, ea, es) := by simpa using z
          rw [z]
          exact nm2 ea0
      · exact nm2 ((s7.trans s8).free (hfr e he))
    · rw [eent] at hn
      obtain ⟨hb, k3⟩ := k2 hn
      refine ⟨hb, fun H5 d s9 => k3 H5 d fun a u e => s9 _ _ ?_ ((s7.trans s8) _ _ e)⟩
      have := ne_of_none e ntd0
      simpa using this
end
end TM
set_option maxRecDepth 100000
set_option maxHeartbeats 4000000
/-! House: may_turn, turn_all, kinds, line. -/
namespace TM
open PySem PySem.Spec PyProof.Rows L2
def spHMay : Bool → Sp := fun b vs H Q _ => b = true ∧ ∃ (hp tl : Addr), vs = [.ref hp, .ref tl] ∧ Lst H tl [] ∧ ∀ H', Same H H' → Q .non H'
def spHTurn (CH : Addr) : Bool → Sp := fun b vs H Q _ => b = true ∧ ∃ (MU : List Addr) (hp tl : Addr) (A Ld : Ent), vs = [.ref hp, .ref tl] ∧ HouseAt MU H CH hp A Ld ∧ (∀ m ∈ MU, H m ≠ none) ∧ hp ∈ MU ∧ Lst H tl [] ∧ ∀ H' Ld', SameX [hp] H H' → HouseAt MU H' CH hp A Ld' → Q .non H'
def spHKinds (CH : Addr) : Bool → Sp := fun _ vs H Q _ => ∃ (MU : List Addr) (hp : Addr) (A Ld : Ent), vs = [.ref hp] ∧ HouseAt MU H CH hp A Ld ∧ ∀ H' l, Same H H' → H l = none → Lst H' l (keysE (ent A)) → Q (.ref l) H'
def spHLine (CH : Addr) : Bool → Sp := fun _ vs H Q _ => ∃ (MU : List Addr) (hp : Addr) (A Ld : Ent) (x : Str), vs = [.ref hp, .str x] ∧ HouseAt MU H CH hp A Ld ∧ x ∈ keysE (ent A) ∧ ∀ H' l, Same H H' → H l = none → Lst H' l (lookL (ent Ld) x) → Q (.ref l) H'
section
variable {P : Program} {w : World} {K : PySem.W.Frag} {mg : Str → Option Value} {base : Heap} {f f1 f2 f3 f4 : Addr} {fd fd1 fd2 fd3 fd4 : FuncData} {CH CT : Addr}
theorem scHMay : FnScope ["self", "turns", "seen", "name", "elders"] ["self", "turns"] (defScope sHMay) := ⟨rfl, rfl, rfl, by decide +kernel, rfl, by decide +kernel, by decide +kernel⟩
theorem ok_hmay (D : MethD K CH "may_turn" "House.may_turn" sHMay ["self", "turns"] f fd) : FnM P w K mg base CX0 1 f fd ["self", "turns"] spHMay := by
  refine fun_okM D.F scHMay (fun b vs H Q E h => ?_) (fun b pl cdv A outer s H vs Q E hm hr h => ?_)
  · obtain ⟨_, hp, tl, rfl, _⟩ := h
    rfl
  · obtain ⟨rfl, hp, tl, rfl, ht, k⟩ := h
    refine ⟨_, PSs.nox (pss_cons (ps_set (i := 2) scHMay.nd rfl (Or.inl rfl) (pe_lst pa_nil))
      (pss_one (ps_forM PassesOwn.never hm (pm_list (pv 1)) (pg_tup rfl (pgs_cons (pg_name (i := 3) scHMay.nd rfl (Or.inl rfl)) (pgs_cons (pg_name (i := 4) scHMay.nd rfl (Or.inl rfl)) pgs_nil))) pss_never))), ?_⟩
    refine ⟨by show 0 ≤ sizeLine; exact Nat.zero_le _, fun S hS => ⟨_, rfl, tl, rfl, ⟨_, SqL.of ((Same.nw hS) _ _ ht)⟩, for_list (K := K) (a := tl) (xs := []) (fun i σ H' => Same H H')
      (Same.nw hS) (fun i σ H' _ s1 => s1.seq (SqL.of ht)) (fun i y σ H' hi => by cases hi) (fun σ H' s1 => k H' s1)⟩⟩
theorem scHTurn : FnScope ["self", "turns", "above", "name", "elders"] ["self", "turns"] (defScope sHTurn) := ⟨rfl, rfl, rfl, by decide +kernel, rfl, by decide +kernel, by decide +kernel⟩
theorem ok_hturn (T : HCls K CH) (D : MethD K CH "turn_all" "House.turn_all" sHTurn ["self", "turns"] f fd) (D1 : MethD K CH "may_turn" "House.may_turn" sHMay ["self", "turns"] f1 fd1)
    (D3 : DefAt K mg "in_turn" sInTurn ["names", "above"] f3 fd3) (G3 : FnM P w K mg base CX0 1 f3 fd3 ["names", "above"] spInTurn)
    (D4 : DefAt K mg "lines_of" sLinesOf ["elders"] f4 fd4) (G4 : FnM P w K mg base (L2N.CX P w) 5 f4 fd4 ["elders"] (spLines CT)) (hDi : mg "dict" = none) :
    FnM P w K mg base CX0 6 f fd ["self", "turns"] (spHTurn CH) := by
  have G1 : FnM P w K mg base CX0 5 f1 fd1 ["self", "turns"] spHMay := (ok_hmay D1).mono (by decide)
  have G3' := G3.mono (show 1 ≤ 5 by decide)
  refine fun_okM D.F scHTurn (fun b vs H Q E h => ?_) (fun b pl cdv A outer s H vs Q E hm hr h => ?_)
  · obtain ⟨_, MU, hp, tl, A, Ld, rfl, _⟩ := h
    rfl
  · obtain ⟨rfl, MU, hp, tl, A', Ld, rfl, hH, hMU, hhm, ht, k⟩ := h
    obtain ⟨dx, lst, ab, ld, h1, h2, h3, h4, h5, h6, h7⟩ := hH.ins
    refine ⟨_, PSs.nox (pss_cons (ps_expr (pe_methM (pv 0) T.cl D1.m G1 hr hm D1.b .nil (fun _ => passAt0) (pa_cons (pv 1) pa_nil)))
      (pss_cons (ps_set (i := 2) scHTurn.nd rfl (Or.inl rfl) (pe_callTy call_dictD rfl hDi (by decide +kernel) (pa_cons (pe_fld (pv 0) rfl) pa_nil)))
      (pss_cons (ps_forM PassesOwn.never hm (pm_list (pv 1)) (pg_tup rfl (pgs_cons (pg_name (i := 3) scHTurn.nd rfl (Or.inl rfl)) (pgs_cons (pg_name (i := 4) scHTurn.nd rfl (Or.inl rfl)) pgs_nil))) pss_never)
      (pss_cons (ps_fld (pv 0) (pe_callM G4 hr hm rfl D4.g D4.F.kp D4.b .nil (fun σ => L2N.passAt takes0N σ) (pa_cons (pe_callM G3' hr hm rfl D3.g D3.F.kp D3.b .nil (fun _ => passAt0) (pa_cons (pe_fld (pv 0) rfl) (pa_cons (pv 2) pa_nil))) pa_nil)) rfl)
      (pss_one (ps_fld (pv 0) (pv 2) rfl)))))), ?_⟩
    refine ⟨_, rfl, hp, dx, _, rfl, h1, rfl, _, rfl, rfl, hp, tl, rfl, ht, fun H1 s1 => ?_⟩
    refine ⟨_, rfl, hp, CH, dx, _, _, rfl, s1 _ _ h1, T.cl, T.n2, rfl, ab, _, rfl, .inl (s1 _ _ h3), fun ab2 nab => ?_⟩
    have s2 : Same H (upd H1 ab2 (.dK (kvL A'))) := s1.nw2 nab
    refine ⟨_, rfl, tl, rfl, ⟨_, SqL.of (s2 _ _ ht)⟩, for_list (K := K) (a := tl) (xs := []) (fun i σ H' => σ = [some (.ref hp), some (.ref tl), some (.ref ab2), none, none] ∧ Same (upd H1 ab2 (.dK (kvL A'))) H')
      ⟨rfl, Same.refl _⟩ (fun i σ H' _ s1 => (s2.trans s1.2).seq (SqL.of ht)) (fun i y σ H' hi => by cases hi) ?_⟩
    intro σ H3 ⟨eσ, s3⟩
    subst eσ
    have s4 : Same H H3 := s2.trans s3
    have hab2 : H3 ab2 = some (.dK (kvL A')) := s3 _ _ upd_same
    have ab20 : H ab2 = none := s1.free nab
    refine ⟨_, rfl, hp, CH, dx, _, _, rfl, s4 _ _ h1, T.cl, T.n1, rfl, _, rfl, lst, ab2, A', rfl, s4 _ _ h2, hab2, hH.nodup, by have := hH.len; omega, fun H4 td s8 ntd htd => ?_⟩
    have rA : ∀ {H5 : Hp}, Same H H5 → Rows H5 A' := fun {H5} s8 => hH.rA.same s8
    refine ⟨td, A', rfl, htd, rA (s4.trans s8), hH.wf, by have := hH.len; omega, fun e he => by have := hH.el e he; omega, fun e he => (hH.nm e he).asc, fun Lr hLr H5 ld2 T2 s9 nld hld2 hrT hfr hent => ?_, fun hn => ?_⟩
    · have s10 : Same H H5 := (s4.trans s8).trans s9
      have nld0 : H ld2 = none := (s4.trans s8).free nld
      refine ⟨_, rfl, hp, CH, dx, _, rfl, s10 _ _ h1, T.cl, T.n3, by show 3 < 1000; omega, ?_⟩
      refine ⟨_, rfl, _, rfl, hp, CH, dx, _, rfl, upd_same, T.cl, T.n2, by show 3 < 1000; omega, ?_⟩
      have kp : ∀ {a : Addr} {u : HO}, H5 a = some u → a ≠ hp → ∀ o1 o2, (upd (upd H5 hp o1) hp o2) a = some u := fun {a u} e z o1 o2 => by
        rw [upd_ne z, upd_ne z]
        exact e
      have fr : ∀ {a : Addr}, H a = none → a ≠ hp := fun {a} e z => by rw [z, h1] at e; cases e
      have nm2 : ∀ {a : Addr}, H a = none → a ∉ MU := fun {a} e z => hMU a z e
      have nl : ∀ {a : Addr} {l : List Str}, Lst H a l → a ≠ hp := fun {a l} e z => by rw [z] at e; rw [show H hp = some (.lst (vstr l)) from e] at h1; cases h1
      refine k _ T2 (fun a u ha e => ?_) ⟨⟨dx, lst, ab2, ld2, by rw [upd_same]; rfl, ?_, ?_, ?_, h5, nm2 ab20, nm2 nld0⟩, ⟨fun e he => ?_, hH.rA.asc⟩, ⟨fun e he => ?_, hrT.asc⟩, hH.mA, fun e he => ?_, by rw [hLr, hent], hH.wf, hH.len, hH.nm, hH.el⟩
      · have ha' : a ≠ hp := by simpa using ha
        exact kp (s10 _ _ e) ha' _ _
      · exact kp (s10 _ _ h2) (nl h2) _ _
      · exact kp (s9 _ _ (s8 _ _ hab2)) (fr ab20) _ _
      · exact kp hld2 (fr nld0) _ _
      · exact kp (s10 _ _ (hH.rA.row e he)) (nl (hH.rA.row e he)) _ _
      · exact kp (hrT.row e he) (fr ((s4.trans s8).free (hfr e he))) _ _
      · exact nm2 ((s4.trans s8).free (hfr e he))
    · rw [hH.lines] at hn
      cases hn
theorem scHKinds : FnScope ["self"] ["self"] (defScope sHKinds) := ⟨rfl, rfl, rfl, by decide +kernel, rfl, by decide +kernel, by decide +kernel⟩
theorem ok_hkinds (T : HCls K CH) (D : MethD K CH "kinds" "House.kinds" sHKinds ["self"] f fd) (hLi : mg "list" = none) : FnM P w K mg base CX0 1 f fd ["self"] (spHKinds CH) := by
  refine fun_okM D.F scHKinds (fun b vs H Q E h => ?_) (fun b pl cdv A outer s H vs Q E hm hr h => ?_)
  · obtain ⟨MU, hp, A, Ld, rfl, _⟩ := h
    rfl
  · obtain ⟨MU, hp, A', Ld, rfl, hH, k⟩ := h
    obtain ⟨dx, lst, ab, ld, h1, h2, h3, h4, h5, h6, h7⟩ := hH.ins
    refine ⟨_, PSs.nox (pss_one (ps_ret (pe_callTy call_list_of rfl hLi PyProof.Rows.boot_list (pa_cons (pe_fld (pv 0) rfl) pa_nil)))), ?_⟩
    exact ⟨_, rfl, hp, CH, dx, _, _, rfl, h1, T.cl, T.n1, rfl, lst, _, rfl, .inl (SqL.of h2), fun l hl => k _ l (Same.nw hl) hl upd_same⟩
theorem scHLine : FnScope ["self", "name"] ["self", "name"] (defScope sHLine) := ⟨rfl, rfl, rfl, by decide +kernel, rfl, by decide +kernel, by decide +kernel⟩
theorem ok_hline (T : HCls K CH) (D : MethD K CH "line" "House.line" sHLine ["self", "name"] f fd) (D1 : MethD K CH "need_kind" "House.need_kind" sHNK ["self", "name"] f1 fd1) (hLi : mg "list" = none) : FnM P w K mg base CX0 2 f fd ["self", "name"] (spHLine CH) := by
  have G : FnM P w K mg base CX0 1 f1 fd1 ["self", "name"] (spHNK CH) := ok_hnk T D1
  refine fun_okM D.F scHLine (fun b vs H Q E h => ?_) (fun b pl cdv A outer s H vs Q E hm hr h => ?_)
  · obtain ⟨MU, hp, A, Ld, x, rfl, _⟩ := h
    rfl
  · obtain ⟨MU, hp, A', Ld, x, rfl, hH, hx, k⟩ := h
    obtain ⟨dx, lst, ab, ld, h1, h2, h3, h4, h5, h6, h7⟩ := hH.ins
    refine ⟨_, PSs.nox (pss_cons (ps_expr (pe_methM (pv 0) T.cl D1.m G hr hm D1.b .nil (fun _ => passAt0) (pa_cons (pv 1) pa_nil)))
      (pss_one (ps_ret (pe_callTy call_list_of rfl hLi PyProof.Rows.boot_list (pa_cons (pe_dget (roomM_hu hr) (pe_fld (pv 0) rfl) (pv 1) (fun _ _ => rfl)) pa_nil))))), ?_⟩
    obtain ⟨p, hp2, hpm⟩ := lookup_some (L := Ld) (x := x) (by rw [hH.keys]; exact hx)
    have hg : DGet H ld (.str x) (some (V.ref p.1)) := by
      have := DGet.k (k := Sum.inr x) h4
      rw [valV_L, hp2] at this
      exact this
    have e4 : lookL (ent Ld) x = p.2 := by
      unfold lookL
      rw [ent_lookup, hp2]
      rfl
    refine ⟨_, rfl, hp, dx, _, rfl, h1, rfl, _, rfl, MU, hp, A', Ld, x, rfl, hH, hx, ?_⟩
    exact ⟨_, rfl, hp, CH, dx, _, _, rfl, h1, T.cl, T.n3, rfl, _, rfl, ld, _, rfl, hg, p.1, _, rfl, .inl (SqL.of (hH.rL.row _ hpm)), fun l hl => k _ l (Same.nw hl) hl (by rw [e4]; exact upd_same)⟩
end
end TM
set_option maxRecDepth 100000
set_option maxHeartbeats 4000000
/-! d.pop(k), k a tuple that is there. -/
namespace TM
open PySem PySem.W PySem.Calls PyProof.Rows PyProof.V PySem.Spec
section
variable {K : Type} [DecidableEq K] {prog : Program} {w : World} {knd : HeapKind prog w K}
theorem meetsPop1 {d b : Addr} {k : K} (hd : (d == sysModules) = false) :
    MeetsIn prog w (Builtin.«dict.pop» ⟨[.ref d, .ref b], []⟩) (fun A R s => ∃ xs p, knd.room A.in1 ∧ knd.is s.heap k b ∧ s.heap.DictOfH knd d xs ∧ xs.length ≤ sizeLine ∧ atKey xs k = some p ∧
      ∀ h' tk, h'.DictOfH knd d (DT.dropH xs k) → Heap.SameBut d s.heap h' → R (.ok (.ret p.2)) { s with heap := h', toks := tk }) :=
  .of_wp fun A R s ⟨xs, p, hu, hkey, hm, hsz, hp0, hsome⟩ => by
    obtain ⟨o, es, ep, ho, hc, hdat, he, his, hn⟩ := id hm
    have hes : es.size = xs.length := size_of_entries he
    have hpart : (keyPart (Value.ref b)).isSome = false := rfl
    unfold Builtin.«dict.pop»
    refine wpAny_bind ?_
    unfold Builtin.Dict.keyAndDefault
    refine wpAny_bind (wpAny_notOrdered_dict hm.typeIs ?_)
    show wpAny _ _ (pure (d, Value.ref b, none)) _ _ s
    refine wpAny_pure ?_
    simp only [hpart, Bool.false_eq_true, if_false]
    refine wpAny_bind (wpAny_dictEntries ho hdat (wpAny_bind (wpAny_pure ?_)))
    cases hem : es.isEmpty with
    | true =>
      exfalso
      have h0 : xs = [] := by
        have z : es.size = 0 := by simpa using hem
        exact List.length_eq_zero_iff.mp (by omega)
      rw [h0] at hp0
      cases hp0
    | false =>
      simp only [Bool.false_eq_true, if_false]
      refine wpAny_bind (DT.takeH hu hkey hm hsz (fun hno => ?_) fun p2 e hp hev h' hm' hs' => ?_)
      · rw [hno] at hp0
        cases hp0
      · simp only [Option.isNone_some, Bool.false_eq_true, if_false]
        rw [hp0] at hp
        cases hp
        exact wpAny_bind (wpAny_letGo (wpAny_pure ⟨e.val, rfl, by rw [hev]; exact hsome h' _ hm' hs'⟩))
end
end TM
namespace TM
open PySem PySem.Spec PyProof.Rows L2
section
variable {X : Cx}
def rPopT1 : V → List V → Hp → VK → Prop := fun x xs H Q => ∃ (a : Addr) (kvs : List (List L2.Key × V)) (k : List L2.Key) (b : Addr) (v : V), x = .ref a ∧ xs = [.ref b] ∧ H a = some (.dT kvs) ∧ H b = some (.tup (k.map kV)) ∧
  valV kvs k = some v ∧ Q v (upd H a (.dT (dropK kvs k)))
theorem mt_popT1 (hu : X.A.units + 1 < cLine) : MtR X "dict.pop" rPopT1 := by
  intro pins s σ H x xs v us Q I rx rxs h
  obtain ⟨a, kvs, k, b, d, rfl, rfl, ha, hb, ev, q⟩ := h
  cases rx
  obtain ⟨u1, rfl, r1⟩ := vals1 rxs
  cases r1
  obtain ⟨z, hd, xs', rel, dd⟩ := dt_of I.hok ha
  have hz : xs'.length ≤ sizeLine := by rw [← Paired.length rel]; exact z
  have r := rel.val k
  rw [ev] at r
  obtain ⟨p, hp, rv⟩ : ∃ p, atKey xs' k = some p ∧ RelV d p.2 := by
    cases e2 : atKey xs' k with
    | none =>
      rw [e2] at r
      exact (show False from r).elim
    | some p =>
      rw [e2] at r
      exact ⟨p, rfl, r⟩
  refine call_meetsIn PySem.F.slot_dict_pop dd.typeIs PySem.F.entry_dict_pop (PySem.F.args_dict_pop_2 _ _) (meetsPop1 (knd := tupleKind (mixKind X.prog X.w)) (k := k) hd)
    ⟨xs', p, tupleKind_room_in1 hu, key_of I.hok hb, dd, hz, hp, fun h' tk dd' hs => ?_⟩
  obtain ⟨o, es, ep, hq, h2, h3, h4, _, h5⟩ := dd'
  have I2 : Inv X pins σ (upd H a (.dT (dropK kvs k))) { s with heap := h', toks := tk } :=
    d_write I (by rw [ha]; exact True.intro) hs ⟨o, hq⟩ ⟨Nat.le_trans (dropK_le kvs k) z, hd, _, (L2.DX.KT_drop k rel).keeps (fun c ys ec => (by rw [upd_ne (ne_of ec ha (fun z => nomatch z))]; exact ec)), o, es, ep, hq, h2, h3, h4, h5⟩
  show EP X pins σ Q p.2 _
  exact ⟨d, _, I2, rv, q⟩
end
end TM
set_option maxRecDepth 100000
set_option maxHeartbeats 4000000
/-! Facts: what is known; the closure that is asked. -/
namespace TM
open PySem PySem.Spec PyProof.Rows L2 LamX NdefX
abbrev Kn := Str → Str → Option Int
def upK (g : Kn) (k w : Str) (o : Option Int) : Kn := fun k' w' => if k' = k ∧ w' = w then o else g k' w'
abbrev k2 (k w : Str) : List L2.Key := [Sum.inr k, Sum.inr w]
theorem k2_inj {k w k' w' : Str} : k2 k w = k2 k' w' ↔ k = k' ∧ w = w' := by
  constructor
  · intro h
    have h1 := List.cons.inj h
    have h2 := List.cons.inj h1.2
    exact ⟨Sum.inr.inj h1.1, Sum.inr.inj h2.1⟩
  · rintro ⟨rfl, rfl⟩
    rfl
def KnAt (hs : List (List L2.Key × V)) (g : Kn) : Prop := ∀ k w, valV hs (k2 k w) = (g k w).map V.int
theorem KnAt.put {hs : List (List L2.Key × V)} {g : Kn} (h : KnAt hs g) (k w : Str) (v : Int) : KnAt (putK hs (k2 k w) (.int v)) (upK g k w (some v)) := fun k' w' => by
  rw [valV_put]
  unfold upK
  by_cases e : k' = k ∧ w' = w
  · rw [if_pos (k2_inj.mpr e), if_pos e]
    rfl
  · rw [if_neg (fun z => e (k2_inj.mp z)), if_neg e]
    exact h k' w'
theorem valV_dropK {κ : Type} [DecidableEq κ] (k j : κ) : ∀ kvs : List (κ × V), valV (dropK kvs k) j = if j = k then none else valV kvs j
  | [] => by
    show valV [] j = _
    rw [valV_nil]
    split <;> rfl
  | p :: r => by
    have ih := valV_dropK k j r
    unfold dropK at ih ⊢
    by_cases e : p.1 = k
    · rw [List.filter_cons_of_neg (by simp [e]), ih]
      by_cases e2 : j = k
      · rw [if_pos e2, if_pos e2]
      · rw [if_neg e2, if_neg e2, valV_neg (fun z => e2 (z.symm.trans e))]
    · rw [List.filter_cons_of_pos (by simp [e])]
      by_cases e2 : p.1 = j
      · rw [valV_pos e2, valV_pos e2, if_neg (fun z => e (e2.trans z))]
      · rw [valV_neg e2, valV_neg e2, ih]
theorem KnAt.drop {hs : List (List L2.Key × V)} {g : Kn} (h : KnAt hs g) (k w : Str) : KnAt (dropK hs (k2 k w)) (upK g k w none) := fun k' w' => by
  rw [valV_dropK]
  unfold upK
  by_cases e : k' = k ∧ w' = w
  · rw [if_pos (k2_inj.mpr e), if_pos e]
    rfl
  · rw [if_neg (fun z => e (k2_inj.mp z)), if_neg e]
    exact h k' w'
theorem putT_len {kvs : List (List L2.Key × V)} {k : List L2.Key} {v : V} : (putK kvs k v).length ≤ kvs.length + 1 := by
  unfold putK
  split
  · rw [List.length_map]; omega
  · rw [List.length_append, List.length_singleton]; exact Nat.le_refl _
/-- a list of pairs of texts -/
structure PrsAt (MU : List Addr) (H : Hp) (l : Addr) (ps : List (Str × Str)) : Prop where
  ex : ∃ rs : List (Addr × Str × Str), H l = some (.lst (rs.map fun r => V.ref r.1)) ∧ (∀ r ∈ rs, H r.1 = some (.tup [.str r.2.1, .str r.2.2]) ∧ r.1 ∉ MU) ∧ rs.map (·.2) = ps
theorem PrsAt.keep {MU S : List Addr} {H H' : Hp} {l : Addr} {ps : List (Str × Str)} (h : PrsAt MU H l ps) (s : SameX S H H') (hS : ∀ a ∈ S, a ∈ MU) (hl : l ∉ S) : PrsAt MU H' l ps := by
  obtain ⟨rs, h1, h2, h3⟩ := h.ex
  exact ⟨rs, s _ _ hl h1, fun r hr => ⟨s _ _ (fun z => (h2 r hr).2 (hS _ z)) (h2 r hr).1, (h2 r hr).2⟩, h3⟩
theorem PrsAt.grow {MU N : List Addr} {H : Hp} {l : Addr} {ps : List (Str × Str)} (h : PrsAt MU H l ps) (hN : ∀ n ∈ N, H n = none) : PrsAt (MU ++ N) H l ps := by
  obtain ⟨rs, h1, h2, h3⟩ := h.ex
  exact ⟨rs, h1, fun r hr => ⟨(h2 r hr).1, fun z => (List.mem_append.mp z).elim (h2 r hr).2 fun z => by have e := (h2 r hr).1; rw [hN _ z] at e; cases e⟩, h3⟩
theorem PrsAt.len {MU : List Addr} {H : Hp} {l : Addr} {ps : List (Str × Str)} (h : PrsAt MU H l ps) : ∃ xs, H l = some (.lst xs) ∧ xs.length = ps.length := by
  obtain ⟨rs, h1, h2, h3⟩ := h.ex
  exact ⟨_, h1, by rw [← h3]; simp⟩
/-- one more pair -/
theorem PrsAt.snoc {MU : List Addr} {H H' : Hp} {l t : Addr} {xs : List V} {ps : List (Str × Str)} {k w : Str} (h : PrsAt MU H l ps) (hx : H l = some (.lst xs)) (s : ∀ b u, b ∉ MU → b ≠ l → H b = some u → H' b = some u) (hl : H' l = some (.lst (xs ++ [.ref t]))) (ht : H' t = some (.tup [.str k, .str w])) (hm : t ∉ MU) : PrsAt MU H' l (ps ++ [(k, w)]) := by
  obtain ⟨rs, h1, h2, h3⟩ := h.ex
  rw [hx] at h1
  cases h1
  refine ⟨rs ++ [(t, k, w)], by rw [hl]; simp, fun r hr => ?_, by rw [List.map_append, h3]; rfl⟩
  rcases List.mem_append.mp hr with z | z
  · obtain ⟨a, b⟩ := h2 r z
    exact ⟨s _ _ b (fun e => by rw [e, hx] at a; cases a) a, b⟩
  · have z : r = (t, k, w) := by simpa using z
    rw [z]
    exact ⟨ht, hm⟩
/-- the store -/
structure StAt (H : Hp) (sd : Addr) (D : Str → Str → Prop) (st : Str → Str → Int) : Prop where
  ex : ∃ ss, H sd = some (.dT ss) ∧ ∀ k w, D k w → valV ss (k2 k w) = some (.int (st k w))
theorem StAt.keep {S : List Addr} {H H' : Hp} {sd : Addr} {D : Str → Str → Prop} {st : Str → Str → Int} (h : StAt H sd D st) (s : SameX S H H') (hs : sd ∉ S) : StAt H' sd D st := by
  obtain ⟨ss, h1, h2⟩ := h.ex
  exact ⟨ss, s _ _ hs h1, h2⟩
abbrev mkA (q : Str) (cl : List (Str × Addr)) (c : Addr) : NF := NF.of sAsked "_law_asked" q cl c
abbrev frA : List Str := ["_law_log", "_law_store_here"]
def spAsked : List (Option V) → Sp := fun ws vs H Q _ => ∃ (MU : List Addr) (lg sd : Addr) (k w : Str) (ps : List (Str × Str)) (D : Str → Str → Prop) (st : Str → Str → Int), ws = [some (.ref lg), some (.ref sd)] ∧ vs = [.str k, .str w] ∧ PrsAt MU H lg ps ∧ (∀ m ∈ MU, H m ≠ none) ∧ ps.length ≤ 90000 ∧ StAt H sd D st ∧ D k w ∧
  ∀ H', SameX [lg] H H' → PrsAt MU H' lg (ps ++ [(k, w)]) → Q (.int (st k w)) H'
section
variable {P : Program} {w : World} {K : PySem.W.Frag} {mg : Str → Option Value} {base : Heap}
theorem scAsked : NScope ["_law_kind", "_law_word", "_law_log", "_law_store_here"] ["_law_kind", "_law_word"] frA (C8.fnScope sAsked) := nscope_by (by decide +kernel)
theorem ok_asked (f : Addr) (q : Str) (cl : List (Str × Addr)) (c : Addr) : NOk P w K mg base CX0 1 f (mkA q cl c) ["_law_kind", "_law_word"] frA spAsked := by
  refine nok_of scAsked (fun doc pm ctv us h => ?_) (fun ws vs H Q E h => ?_) (fun A outer s H vs ws Q E hr hf hc hl h => ?_)
  · match us, h with
    | [a, b], _ => rfl
  · obtain ⟨MU, lg, sd, k, w', ps, D, st, rfl, rfl, _⟩ := h
    rfl
  · obtain ⟨MU, lg, sd, k, w', ps, D, st, rfl, rfl, hp, hMU, hlen, hst, hD, kk⟩ := h
    obtain ⟨xs, hx, hxl⟩ := hp.len
    obtain ⟨ss, hs1, hs2⟩ := hst.ex
    have hu : (A.deeper (envF (mkA q cl c) f s.heap.objs.size)).units + 1 < cLine := hu_of hr
    refine ⟨_, pss_cons (ps_expr (pe_bm PySem.F.plainAttrs_list PySem.F.slot_list_append PySem.F.type_list_append mt_append (pv 2) (pa_cons (pe_tup (pa_cons (pv 0) (pa_cons (pv 1) pa_nil))) pa_nil)))
      (pss_one (ps_ret (pe_dget2 hu (pv 3) (pe_tup (pa_cons (pv 0) (pa_cons (pv 1) pa_nil))) pe_int ⟨rfl, rfl, rfl, rfl⟩))), ?_⟩
    have h2 : (2 : Nat) ≤ sizeLine := size_small (by decide)
    refine ⟨_, rfl, .inl ⟨rfl, _, SqL.of hx⟩, _, rfl, _, rfl, h2, fun t nt => ?_⟩
    have hne : lg ≠ t := ne_of_none hx nt
    refine ⟨lg, xs, _, rfl, rfl, by rw [upd_ne hne]; exact hx, size_lt (by omega), ?_⟩
    have s1 : SameX [lg] H (upd (upd H t (.tup [.str k, .str w'])) lg (.lst (xs ++ [.ref t]))) := ((SameX.refl _ _).nw nt).up (by simp)
    have hsl : sd ≠ lg := fun z => by rw [z, hx] at hs1; cases hs1
    have hs3 : (upd (upd H t (.tup [.str k, .str w'])) lg (.lst (xs ++ [.ref t]))) sd = some (.dT ss) := s1 _ _ (by simpa using hsl) hs1
    refine ⟨_, rfl, sd, rfl, .inr ⟨ss, .inl hs3⟩, _, rfl, _, rfl, h2, fun t2 nt2 => ⟨_, DGet.t (k := k2 k w') (by rw [upd_ne (ne_of_none hs3 nt2)]; exact hs3) upd_same, ?_⟩⟩
    rw [hs2 k w' hD]
    have s2 := s1.nw (o := .tup [.str k, .str w']) nt2
    refine kk _ s2 (hp.snoc hx (fun b u _ e h => s2 _ _ (by simpa using e) h) ?_ ?_ (fun z => hMU _ z nt))
    · rw [upd_ne (ne_of_none upd_same nt2), upd_same]
    · have e1 : (upd (upd H t (.tup [.str k, .str w'])) lg (.lst (xs ++ [.ref t]))) t = some (.tup [.str k, .str w']) := by rw [upd_ne hne.symm, upd_same]
      rw [upd_ne (ne_of_none e1 nt2)]
      exact e1
end
end TM
set_option maxRecDepth 100000
set_option maxHeartbeats 4000000
/-! Facts. -/
namespace TM
open PySem PySem.Spec PyProof.Rows L2 LamX NdefX
def Plain : HO → Prop
  | .lst _ => True
  | .dK _ => True
  | .dT _ => True
  | .ins _ _ _ => True
  | _ => False
def MuOk (MU : List Addr) (H : Hp) : Prop := ∀ m ∈ MU, ∃ u, H m = some u ∧ Plain u
theorem MuOk.there {MU : List Addr} {H : Hp} (h : MuOk MU H) : ∀ m ∈ MU, H m ≠ none := fun m hm z => by
  obtain ⟨u, e, _⟩ := h m hm
  rw [z] at e
  cases e
theorem MuOk.keep {MU S : List Addr} {H H' : Hp} (h : MuOk MU H) (s : SameX S H H') (hS : ∀ a ∈ S, ∃ u, H' a = some u ∧ Plain u) : MuOk MU H' := fun m hm => by
  by_cases z : m ∈ S
  · exact hS m z
  · obtain ⟨u, e, p⟩ := h m hm
    exact ⟨u, s _ _ z e, p⟩
theorem MuOk.same {MU : List Addr} {H H' : Hp} (h : MuOk MU H) (s : Same H H') : MuOk MU H' := fun m hm => let ⟨u, e, p⟩ := h m hm; ⟨u, s _ _ e, p⟩
theorem ext_np {p : Heap → Prop} : ¬ Plain (.ext p) := fun h => h
/-- the closure at ft, over the log and the store -/
structure TelAt (q : Str) (H : Hp) (ft lg sd : Addr) : Prop where
  ex : ∃ cl c, H ft = some (FnO ft (mkA q cl c)) ∧ H c = some (CodeO c (mkA q cl c).qual) ∧ ClX H cl frA [.ref lg, .ref sd]
theorem TelAt.keep {q : Str} {S : List Addr} {H H' : Hp} {ft lg sd : Addr} (h : TelAt q H ft lg sd) (s : SameX S H H') (hS : ∀ a ∈ S, ∃ u, H a = some u ∧ Plain u) : TelAt q H' ft lg sd := by
  obtain ⟨cl, c, h1, h2, h3⟩ := h.ex
  have np : ∀ {a : Addr} {p : Heap → Prop}, H a = some (.ext p) → a ∉ S := fun {a p} e z => by
    obtain ⟨u, e2, pl⟩ := hS a z
    rw [e] at e2
    cases e2
    exact pl
  refine ⟨cl, c, s _ _ (np h1) h1, s _ _ (np h2) h2, h3.keep fun b hb => ?_⟩
  obtain ⟨o, v, d, e⟩ := h3.all b hb
  rw [e]
  exact s _ _ (np e) e
section
variable {H H' : Hp} {cl : List (Str × Addr)} {fr : List Str} {ws : List V}
theorem ClX.out (C : ClX H cl fr ws) {a : Addr} {u : HO} (e : H a = some u) (n : ∀ p, u ≠ .ext p) : a ∉ cas cl := fun hm => by
  obtain ⟨o, v, d, z⟩ := C.all a hm
  rw [e] at z
  cases z
  exact n _ rfl
theorem ClX.hid (C : ClX H cl fr ws) {a : Addr} {u : HO} (e : H a = some u) (n : ∀ p, u ≠ .ext p) : hid H cl a = some u := by
  rw [hid_out (C.out e n)]
  exact e
theorem hid_some {a : Addr} {u : HO} (e : hid H cl a = some u) : a ∉ cas cl ∧ H a = some u := by
  by_cases h : a ∈ cas cl
  · rw [hid_in h] at e; cases e
  · rw [hid_out h] at e; exact ⟨h, e⟩
theorem PrsAt.hid {MU : List Addr} {l : Addr} {ps : List (Str × Str)} (C : ClX H cl fr ws) (h : PrsAt MU H l ps) : PrsAt MU (hid H cl) l ps := by
  obtain ⟨rs, h1, h2, h3⟩ := h.ex
  exact ⟨rs, C.hid h1 (fun p z => by cases z), fun r hr => ⟨C.hid (h2 r hr).1 (fun p z => by cases z), (h2 r hr).2⟩, h3⟩
theorem StAt.hid {sd : Addr} {D : Str → Str → Prop} {st : Str → Str → Int} (C : ClX H cl fr ws) (h : StAt H sd D st) : StAt (hid H cl) sd D st := by
  obtain ⟨ss, h1, h2⟩ := h.ex
  exact ⟨ss, C.hid h1 (fun p z => by cases z), h2⟩
theorem MuOk.hid {MU : List Addr} (C : ClX H cl fr ws) (h : MuOk MU H) : MuOk MU (hid H cl) := fun m hm => by
  obtain ⟨u, e, p⟩ := h m hm
  exact ⟨u, C.hid e (fun q z => by subst z; exact p), p⟩
theorem retr_same {S : List Addr} (C : ClX H cl fr ws) (s : SameX S (TM.hid H cl) H') : SameX S H (retr H H' cl) := fun a u ha e => by
  by_cases h : a ∈ cas cl
  · rw [retr_in h]; exact e
  · rw [retr_out h]
    exact s a u ha (by rw [hid_out h]; exact e)
theorem retr_some {a : Addr} {u : HO} (hn : ∀ b ∈ cas cl, H' b = none) (e : H' a = some u) : retr H H' cl a = some u := by
  rw [retr_out (fun z => by rw [hn a z] at e; cases e)]
  exact e
theorem PrsAt.retr {MU : List Addr} {l : Addr} {ps : List (Str × Str)} (hn : ∀ b ∈ cas cl, H' b = none) (h : PrsAt MU H' l ps) : PrsAt MU (retr H H' cl) l ps := by
  obtain ⟨rs, h1, h2, h3⟩ := h.ex
  exact ⟨rs, retr_some hn h1, fun r hr => ⟨retr_some hn (h2 r hr).1, (h2 r hr).2⟩, h3⟩
end
structure FactsAt (MU : List Addr) (H : Hp) (CF fp he as_ : Addr) (tv : V) (g : Kn) (ps : List (Str × Str)) (n : Nat) : Prop where
  ins : ∃ dx, H fp = some (.ins CF dx [("teller", tv), ("held", .ref he), ("asked", .ref as_)])
  nf : fp ∉ MU
  mh : he ∈ MU
  ma : as_ ∈ MU
  held : ∃ hs, H he = some (.dT hs) ∧ KnAt hs g ∧ hs.length ≤ n
  asked : PrsAt MU H as_ ps
  len : ps.length ≤ n
theorem FactsAt.keep {MU S : List Addr} {H H' : Hp} {CF fp he as_ : Addr} {tv : V} {g : Kn} {ps : List (Str × Str)} {n : Nat} (h : FactsAt MU H CF fp he as_ tv g ps n) (s : SameX S H H') (hS : ∀ a ∈ S, a ∈ MU) (h1 : he ∉ S) (h2 : as_ ∉ S) : FactsAt MU H' CF fp he as_ tv g ps n := by
  obtain ⟨dx, e1⟩ := h.ins
  obtain ⟨hs, e2, e3, e4⟩ := h.held
  exact ⟨⟨dx, s _ _ (fun z => h.nf (hS _ z)) e1⟩, h.nf, h.mh, h.ma, ⟨hs, s _ _ h1 e2, e3, e4⟩, h.asked.keep s hS h2, h.len⟩
theorem FactsAt.mono {MU : List Addr} {H : Hp} {CF fp he as_ : Addr} {tv : V} {g : Kn} {ps : List (Str × Str)} {n m : Nat} (h : FactsAt MU H CF fp he as_ tv g ps n) (hm : n ≤ m) : FactsAt MU H CF fp he as_ tv g ps m := by
  obtain ⟨hs, e2, e3, e4⟩ := h.held
  exact ⟨h.ins, h.nf, h.mh, h.ma, ⟨hs, e2, e3, by omega⟩, h.asked, by have := h.len; omega⟩
theorem FactsAt.grow {MU N : List Addr} {H : Hp} {CF fp he as_ : Addr} {tv : V} {g : Kn} {ps : List (Str × Str)} {n : Nat} (h : FactsAt MU H CF fp he as_ tv g ps n) (hN : ∀ n ∈ N, H n = none) : FactsAt (MU ++ N) H CF fp he as_ tv g ps n := by
  obtain ⟨dx, e1⟩ := h.ins
  exact ⟨h.ins, (fun z => (List.mem_append.mp z).elim h.nf fun z => by rw [hN _ z] at e1; cases e1), List.mem_append_left _ h.mh, List.mem_append_left _ h.ma, h.held, h.asked.grow hN, h.len⟩
structure FCls (K : PySem.W.Frag) (CF : Addr) : Prop where
  cl : Cls K CF
  n1 : NoAttr K CF "teller"
  n2 : NoAttr K CF "held"
  n3 : NoAttr K CF "asked"
def spFInit (CF : Addr) : Sp := fun vs H Q _ => ∃ (fp dx : Addr) (tv : V), vs = [.ref fp, tv] ∧ H fp = some (.ins CF dx []) ∧ ∀ H' he as_, SameX [fp] H H' → H he = none → H as_ = none → he ≠ as_ → H' fp = some (.ins CF dx [("teller", tv), ("held", .ref he), ("asked", .ref as_)]) → H' he = some (.dT []) → H' as_ = some (.lst []) → Q .non H'
def spFStr (q : Str) (CF : Addr) : Sp := fun vs H Q _ => ∃ (MU : List Addr) (fp he as_ : Addr) (tv : V) (g : Kn) (ps : List (Str × Str)) (n : Nat) (k w : Str), vs = [.ref fp, .str k, .str w] ∧ FactsAt MU H CF fp he as_ tv g ps n ∧ n ≤ 80000 ∧
  ((∃ v, g k w = some v ∧ ∀ H', Same H H' → Q (.int v) H') ∨
   (g k w = none ∧ MuOk MU H ∧ ∃ (ft lg sd : Addr) (lps : List (Str × Str)) (D : Str → Str → Prop) (st : Str → Str → Int), tv = .ref ft ∧ TelAt q H ft lg sd ∧ PrsAt MU H lg lps ∧ lps.length ≤ 80000 ∧ StAt H sd D st ∧ D k w ∧ lg ∈ MU ∧ lg ≠ as_ ∧
     ∀ H', SameX [he, as_, lg] H H' → FactsAt MU H' CF fp he as_ tv (upK g k w (some (st k w))) (ps ++ [(k, w)]) (n + 1) → PrsAt MU H' lg (lps ++ [(k, w)]) → Q (.int (st k w)) H'))
def spFKnown (CF : Addr) : Sp := fun vs H Q _ => ∃ (MU : List Addr) (fp he as_ : Addr) (tv : V) (g : Kn) (ps : List (Str × Str)) (n : Nat) (k w : Str), vs = [.ref fp, .str k, .str w] ∧ FactsAt MU H CF fp he as_ tv g ps n ∧ ∀ H', Same H H' → Q (((g k w).map V.int).getD .non) H'
def spFTell (CF : Addr) : Sp := fun vs H Q _ => ∃ (MU : List Addr) (fp he as_ : Addr) (tv : V) (g : Kn) (ps : List (Str × Str)) (n : Nat) (k w : Str) (v : Int), vs = [.ref fp, .str k, .str w, .int v] ∧ FactsAt MU H CF fp he as_ tv g ps n ∧ n ≤ 80000 ∧ 0 ≤ v ∧ v ≤ 2 ∧ ∀ H', SameX [he] H H' → FactsAt MU H' CF fp he as_ tv (upK g k w (some v)) ps (n + 1) → Q .non H'
def spFForget (CF : Addr) : Sp := fun vs H Q _ => ∃ (MU : List Addr) (fp he as_ : Addr) (tv : V) (g : Kn) (ps : List (Str × Str)) (n : Nat) (k w : Str), vs = [.ref fp, .str k, .str w] ∧ FactsAt MU H CF fp he as_ tv g ps n ∧ ∀ H', SameX [he] H H' → FactsAt MU H' CF fp he as_ tv (upK g k w none) ps n → Q .non H'
def spFReads (CF : Addr) : Sp := fun vs H Q _ => ∃ (MU : List Addr) (fp he as_ : Addr) (tv : V) (g : Kn) (ps : List (Str × Str)) (n : Nat), vs = [.ref fp] ∧ FactsAt MU H CF fp he as_ tv g ps n ∧ ∀ H' l, Same H H' → H l = none → PrsAt MU H' l ps → Q (.ref l) H'
theorem sz2 : (2 : Nat) ≤ sizeLine := size_small (by decide)
section
variable {P : Program} {w : World} {K : PySem.W.Frag} {mg : Str → Option Value} {base : Heap} {f f1 : Addr} {fd fd1 : FuncData} {CF : Addr}
theorem scFInit : FnScope ["self", "teller"] ["self", "teller"] (defScope sFInit) := ⟨rfl, rfl, rfl, by decide +kernel, rfl, by decide +kernel, by decide +kernel⟩
theorem ok_finit (T : FCls K CF) (D : MethD K CF "__init__" "Facts.__init__" sFInit ["self", "teller"] f fd) : FnOk P w K mg base CX0 1 f fd ["self", "teller"] (spFInit CF) := by
  refine D.F.ok scFInit (fun vs H Q E h => ?_) (fun cdv A outer s H vs Q E hr h => ?_)
  · obtain ⟨fp, dx, tv, rfl, _⟩ := h
    rfl
  · obtain ⟨hp, dx, tv, rfl, hh, k⟩ := h
    refine ⟨_, PSs.nox (pss_cons (ps_fld (pv 0) (pv 1) rfl) (pss_cons (ps_fld (pv 0) pe_dnewT rfl) (pss_one (ps_fld (pv 0) (pe_lst pa_nil) rfl)))), ?_⟩
    refine ⟨_, rfl, _, rfl, hp, CF, dx, [], rfl, hh, T.cl, T.n1, by show 0 < 1000; omega, fun he hhe => ?_⟩
    have n1 : hp ≠ he := fun z => by rw [← z, upd_same] at hhe; cases hhe
    have hhe0 : H he = none := by rw [upd_ne n1.symm] at hhe; exact hhe
    refine ⟨_, rfl, hp, CF, dx, _, rfl, by rw [upd_ne n1, upd_same], T.cl, T.n2, by show 1 < 1000; omega, by show 0 ≤ sizeLine; exact Nat.zero_le _, fun as_ has => ?_⟩
    have n4 : hp ≠ as_ := fun z => by rw [← z, upd_same] at has; cases has
    have n5 : he ≠ as_ := fun z => by rw [← z, upd_ne n1.symm, upd_same] at has; cases has
    have has0 : H as_ = none := by rw [upd_ne n4.symm, upd_ne n5.symm, upd_ne n4.symm] at has; exact has
    refine ⟨_, rfl, hp, CF, dx, _, rfl, by rw [upd_ne n4, upd_same], T.cl, T.n3, by show 2 < 1000; omega, ?_⟩
    refine k _ he as_ (fun a u ha e => ?_) hhe0 has0 n5 (by rw [upd_same]; rfl) ?_ ?_
    · have ha' : a ≠ hp := by simpa using ha
      rw [upd_ne ha', upd_ne (ne_of_none e has0), upd_ne ha', upd_ne (ne_of_none e hhe0), upd_ne ha']
      exact e
    · rw [upd_ne n1.symm, upd_ne n5, upd_ne n1.symm, upd_same]
    · rw [upd_ne n4.symm, upd_same]
theorem scFStr : FnScope ["self", "kind", "word"] ["self", "kind", "word"] (defScope sFStr) := ⟨rfl, rfl, rfl, by decide +kernel, rfl, by decide +kernel, by decide +kernel⟩
theorem ok_fstr (q : Str) (T : FCls K CF) (D : MethD K CF "strength" "Facts.strength" sFStr ["self", "kind", "word"] f fd) : FnOk P w K mg base CX0 2 f fd ["self", "kind", "word"] (spFStr q CF) := by
  refine D.F.ok scFStr (fun vs H Q E h => ?_) (fun cdv A outer s H vs Q E hr h => ?_)
  · obtain ⟨MU, fp, he, as_, tv, g, ps, n, k, w', rfl, _⟩ := h
    rfl
  · obtain ⟨MU, fp, he, as_, tv, g, ps, n, k, w', rfl, hF, hn, hcase⟩ := h
    obtain ⟨dx, h1⟩ := hF.ins
    obtain ⟨hs, h2, h3, h4⟩ := hF.held
    obtain ⟨xs, h5, h6⟩ := hF.asked.len
    have hu : (A.deeper (envOfC "Facts.strength" (defScope sFStr) s.heap.objs.size f cdv)).units + 1 < cLine := hu_of hr
    refine ⟨_, PSs.nox (pss_cons (ps_if (pt_cmp (pc_dnotin hu (pe_tup (pa_cons (pv 1) (pa_cons (pv 2) pa_nil))) (pe_fld (pv 0) rfl)))
        (pss_cons (ps_dput hu (pe_fld (pv 0) rfl) (pe_tup (pa_cons (pv 1) (pa_cons (pv 2) pa_nil))) (pe_cloA (fun f cl c => ok_asked f q cl c) (fun _ _ => ⟨rfl, rfl⟩) hr (pv 0) (pa_cons (pv 1) (pa_cons (pv 2) pa_nil))) rfl)
        (pss_one (ps_expr (pe_bm PySem.F.plainAttrs_list PySem.F.slot_list_append PySem.F.type_list_append mt_append (pe_fld (pv 0) rfl) (pa_cons (pe_tup (pa_cons (pv 1) (pa_cons (pv 2) pa_nil))) pa_nil))))) pss_nil)
      (pss_one (ps_ret (pe_dget hu (pe_fld (pv 0) rfl) (pe_tup (pa_cons (pv 1) (pa_cons (pv 2) pa_nil))) (fun _ _ => rfl))))), ?_⟩
    have fin : ∀ (v : Int) (H1 : Hp) (hs1 : List (List L2.Key × V)) (Q1 : VK), H1 fp = some (.ins CF dx [("teller", tv), ("held", .ref he), ("asked", .ref as_)]) → H1 he = some (.dT hs1) → valV hs1 (k2 k w') = some (.int v) → (∀ t, H1 t = none → Q1 (.int v) (upd H1 t (.tup [.str k, .str w']))) →
        tDGet (tFld K (tVar 0) "held") (tTup (tCons (tVar 1) (tCons (tVar 2) tNil))) [some (.ref fp), some (.str k), some (.str w')] H1 Q1 := fun v H1 hs1 Q1 e1 e2 e3 kk => by
      refine ⟨_, rfl, fp, CF, dx, _, _, rfl, e1, T.cl, T.n2, rfl, _, rfl, _, rfl, sz2, fun t nt => ?_⟩
      have hg := DGet.t (b := t) (k := k2 k w') (show (upd H1 t (.tup [.str k, .str w'])) he = some (.dT hs1) by rw [upd_ne (ne_of_none e2 nt)]; exact e2) upd_same
      rw [e3] at hg
      exact ⟨he, _, rfl, hg, kk t nt⟩
    refine ⟨_, rfl, _, rfl, sz2, fun t nt => ?_⟩
    have s1 : Same H (upd H t (.tup [.str k, .str w'])) := Same.nw nt
    refine ⟨_, rfl, fp, CF, dx, _, _, rfl, s1 _ _ h1, T.cl, T.n2, rfl, he, _, rfl, DGet.t (k := k2 k w') (s1 _ _ h2) upd_same, _, rfl, ?_⟩
    rw [h3 k w']
    rcases hcase with ⟨v, hv, kk⟩ | ⟨hnone, hMU, ft, lg, sd, lps, Dm, st, rfl, hT, hL, hll, hS, hD, mlg, nla, kk⟩
    · rw [hv]
      refine iteF ?_
      exact fin v _ hs Q (s1 _ _ h1) (s1 _ _ h2) (by rw [h3 k w', hv]; rfl) fun t2 nt2 => kk _ (s1.nw2 nt2)
    · rw [hnone]
      refine iteT ?_
      obtain ⟨cl, c, c1, c2, c3⟩ := (hT.keep (SameX.of (S := []) s1) (by simp)).ex
      have hMU1 := hMU.same s1
      have hF1 := hF.keep (SameX.of (S := []) s1) (by simp) (by simp) (by simp)
      have hL1 := hL.keep (SameX.of (S := []) s1) (by simp) (by simp)
      have hS1 := hS.keep (SameX.of (S := []) s1) (by simp)
      refine ⟨_, rfl, fp, CF, dx, _, ft, _, rfl, s1 _ _ h1, T.cl, T.n1, rfl, c1, _, rfl, _, rfl, cl, c, _, c1, c2, c3, MU, lg, sd, k, w', lps, Dm, st, rfl, rfl, hL1.hid c3, (hMU1.hid c3).there, by omega, hS1.hid c3, hD, fun H3 s3 hL3 hcn => ?_⟩
      have s4 := retr_same c3 s3
      have hL4 := hL3.retr (H := upd H t (.tup [.str k, .str w'])) hcn
      revert s4 hL4
      generalize retr (upd H t (.tup [.str k, .str w'])) H3 cl = H4
      intro s4 hL4
      have nhl : he ≠ lg := fun z => by
        obtain ⟨ys, e, _⟩ := hL.len
        rw [← z, h2] at e
        cases e
      have nfl : fp ≠ lg := fun z => hF.nf (z ▸ mlg)
      have e1 := s4 _ _ (by simpa using nfl) (s1 _ _ h1)
      have e2 := s4 _ _ (by simpa using nhl) (s1 _ _ h2)
      have e5 := s4 _ _ (by simpa using nla.symm) (s1 _ _ h5)
      refine ⟨_, rfl, fp, CF, dx, _, _, rfl, e1, T.cl, T.n2, rfl, _, rfl, _, rfl, sz2, fun t2 nt2 => ?_⟩
      have nht2 : he ≠ t2 := ne_of_none e2 nt2
      refine ⟨he, _, rfl, DPut.t (b := t2) (k := k2 k w') (by rw [upd_ne nht2]; exact e2) upd_same (size_lt (by omega)), ?_⟩
      have nfh : fp ≠ he := fun z => hF.nf (z ▸ hF.mh)
      have nfa : fp ≠ as_ := fun z => hF.nf (z ▸ hF.ma)
      have nha : he ≠ as_ := fun z => by rw [z, h5] at h2; cases h2
      have s5 : SameX [he] H4 (upd (upd H4 t2 (.tup [.str k, .str w'])) he (.dT (putK hs (k2 k w') (.int (st k w'))))) := ((SameX.refl _ _).nw nt2).up (by simp)
      refine ⟨_, rfl, fp, CF, dx, _, _, rfl, s5 _ _ (by simpa using nfh) e1, T.cl, T.n3, rfl, .inl ⟨rfl, _, SqL.of (s5 _ _ (by simpa using nha.symm) e5)⟩, _, rfl, _, rfl, sz2, fun t3 nt3 => ?_⟩
      have e5' := s5 _ _ (by simpa using nha.symm) e5
      have nat3 : as_ ≠ t3 := ne_of_none e5' nt3
      refine ⟨as_, xs, _, rfl, rfl, by rw [upd_ne nat3]; exact e5', size_lt (by have := hF.len; omega), ?_⟩
      have s6 := (s5.nw (o := .tup [.str k, .str w']) nt3)
      have s7 : SameX [he, as_] H4 (upd (upd (upd (upd H4 t2 (.tup [.str k, .str w'])) he (.dT (putK hs (k2 k w') (.int (st k w'))))) t3 (.tup [.str k, .str w'])) as_ (.lst (xs ++ [.ref t3]))) := (s6.mono (by simp)).up (by simp)
      have et3 : (upd (upd (upd (upd H4 t2 (.tup [.str k, .str w'])) he (.dT (putK hs (k2 k w') (.int (st k w'))))) t3 (.tup [.str k, .str w'])) as_ (.lst (xs ++ [.ref t3]))) t3 = some (.tup [.str k, .str w']) := by rw [upd_ne nat3.symm, upd_same]
      have eas : (upd (upd (upd (upd H4 t2 (.tup [.str k, .str w'])) he (.dT (putK hs (k2 k w') (.int (st k w'))))) t3 (.tup [.str k, .str w'])) as_ (.lst (xs ++ [.ref t3]))) as_ = some (.lst (xs ++ [.ref t3])) := upd_same
      have ehe : (upd (upd (upd (upd H4 t2 (.tup [.str k, .str w'])) he (.dT (putK hs (k2 k w') (.int (st k w'))))) t3 (.tup [.str k, .str w'])) as_ (.lst (xs ++ [.ref t3]))) he = some (.dT (putK hs (k2 k w') (.int (st k w')))) := by rw [upd_ne nha, upd_ne (ne_of_none (show (upd (upd H4 t2 (.tup [.str k, .str w'])) he (.dT (putK hs (k2 k w') (.int (st k w'))))) he = some _ from upd_same) nt3), upd_same]
      revert s7 et3 eas ehe
      generalize upd (upd (upd (upd H4 t2 (.tup [.str k, .str w'])) he (.dT (putK hs (k2 k w') (.int (st k w'))))) t3 (.tup [.str k, .str w'])) as_ (.lst (xs ++ [.ref t3])) = H7
      intro s7 et3 eas ehe
      have hMU4 : MuOk MU H4 := hMU1.keep s4 fun a ha => by
        have z : a = lg := by simpa using ha
        obtain ⟨ys, e, _⟩ := hL4.len
        rw [z]
        exact ⟨_, e, True.intro⟩
      have nt3m : t3 ∉ MU := fun z => by
        obtain ⟨u, e, _⟩ := hMU4 t3 z
        by_cases z2 : t3 = he
        · rw [z2] at nt3
          rw [upd_same] at nt3
          cases nt3
        · have := s5 _ _ (by simpa using z2) e
          rw [this] at nt3
          cases nt3
      have h7 := s7 _ _ (by simp [nfh, nfa]) e1
      refine fin (st k w') H7 _ Q h7 ehe (by rw [valV_put, if_pos rfl]) fun t4 nt4 => ?_
      have s8 := s7.nw (o := .tup [.str k, .str w']) nt4
      have s9 : SameX [] H7 (upd H7 t4 (.tup [.str k, .str w'])) := (SameX.refl _ _).nw nt4
      have hA4 : PrsAt MU H4 as_ ps := hF1.asked.keep s4 (by simpa using mlg) (by simpa using nla.symm)
      have hA7 : PrsAt MU H7 as_ (ps ++ [(k, w')]) := hA4.snoc e5 (fun b u hm hb e => s7 _ _ (by simp [hb, show b ≠ he from fun z => hm (z ▸ hF.mh)]) e) eas et3 nt3m
      have sAll : SameX [he, as_, lg] H (upd H7 t4 (.tup [.str k, .str w'])) := ((SameX.of s1).trans ((s4.mono (by simp)).trans (s8.mono (by simp))))
      refine kk _ sAll ⟨⟨dx, s9 _ _ (by simp) h7⟩, hF.nf, hF.mh, hF.ma, ⟨_, s9 _ _ (by simp) ehe, h3.put k w' _, Nat.le_trans putT_len (by omega)⟩, hA7.keep s9 (by simp) (by simp), by rw [List.length_append, List.length_singleton]; have := hF.len; omega⟩ ?_
      exact ((hL4.keep s7 (by simp [hF.mh, hF.ma]) (by simp [nhl.symm, nla])).keep s9 (by simp) (by simp))
end
end TM
set_option maxRecDepth 100000
set_option maxHeartbeats 4000000
/-! Facts: known, tell, forget, reads. -/
namespace TM
open PySem PySem.Spec PyProof.Rows L2 LamX NdefX
section
variable {P : Program} {w : World} {K : PySem.W.Frag} {mg : Str → Option Value} {base : Heap} {f f1 : Addr} {fd fd1 : FuncData} {CF : Addr}
theorem scFKnown : FnScope ["self", "kind", "word"] ["self", "kind", "word"] (defScope sFKnown) := ⟨rfl, rfl, rfl, by decide +kernel, rfl, by decide +kernel, by decide +kernel⟩
theorem ok_fknown (T : FCls K CF) (D : MethD K CF "known" "Facts.known" sFKnown ["self", "kind", "word"] f fd) : FnOk P w K mg base CX0 1 f fd ["self", "kind", "word"] (spFKnown CF) := by
  refine D.F.ok scFKnown (fun vs H Q E h => ?_) (fun cdv A outer s H vs Q E hr h => ?_)
  · obtain ⟨MU, fp, he, as_, tv, g, ps, n, k, w', rfl, _⟩ := h
    rfl
  · obtain ⟨MU, fp, he, as_, tv, g, ps, n, k, w', rfl, hF, kk⟩ := h
    obtain ⟨dx, h1⟩ := hF.ins
    obtain ⟨hs, h2, h3, h4⟩ := hF.held
    have hu : (A.deeper (envOfC "Facts.known" (defScope sFKnown) s.heap.objs.size f cdv)).units + 1 < cLine := hu_of hr
    refine ⟨_, PSs.nox (pss_one (ps_ret (pe_dget1 hu (pe_fld (pv 0) rfl) (pe_tup (pa_cons (pv 1) (pa_cons (pv 2) pa_nil))) ⟨rfl, rfl, rfl, rfl⟩))), ?_⟩
    refine ⟨_, rfl, fp, CF, dx, _, _, rfl, h1, T.cl, T.n2, rfl, he, rfl, .inr ⟨hs, .inl h2⟩, _, rfl, _, rfl, sz2, fun t nt => ⟨_, DGet.t (k := k2 k w') (by rw [upd_ne (ne_of_none h2 nt)]; exact h2) upd_same, ?_⟩⟩
    rw [h3 k w']
    exact kk _ (Same.nw nt)
theorem scFTell : FnScope ["self", "kind", "word", "one"] ["self", "kind", "word", "one"] (defScope sFTell) := ⟨rfl, rfl, rfl, by decide +kernel, rfl, by decide +kernel, by decide +kernel⟩
theorem ok_ftell (T : FCls K CF) (D : MethD K CF "tell" "Facts.tell" sFTell ["self", "kind", "word", "one"] f fd) (D1 : DefAt K mg "is_number" sIsNum ["thing"] f1 fd1) (G1 : FnM P w K mg base CX0 1 f1 fd1 ["thing"] spIsNum) : FnOk P w K mg base CX0 2 f fd ["self", "kind", "word", "one"] (spFTell CF) := by
  refine D.F.ok scFTell (fun vs H Q E h => ?_) (fun cdv A outer s H vs Q E hr h => ?_)
  · obtain ⟨MU, fp, he, as_, tv, g, ps, n, k, w', v, rfl, _⟩ := h
    rfl
  · obtain ⟨MU, fp, he, as_, tv, g, ps, n, k, w', v, rfl, hF, hn, hv0, hv2, kk⟩ := h
    obtain ⟨dx, h1⟩ := hF.ins
    obtain ⟨hs, h2, h3, h4⟩ := hF.held
    have hu : (A.deeper (envOfC "Facts.tell" (defScope sFTell) s.heap.objs.size f cdv)).units + 1 < cLine := hu_of hr
    refine ⟨_, PSs.nox (pss_cons (ps_if (PW.pt (pw_or (pt_not (pt_val (pe_call G1.cold hr rfl D1.g D1.F.kp D1.b .nil pass0 (pa_cons (pv 3) pa_nil)))) (pw_or (pt_cmpR op_lt (pv 3) pe_int (nomark _)) (pw_or1 (pt_cmpR op_gt (pv 3) pe_int (nomark _)))))) pss_never pss_nil)
      (pss_one (ps_dput hu (pe_fld (pv 0) rfl) (pe_tup (pa_cons (pv 1) (pa_cons (pv 2) pa_nil))) (pv 3) rfl))), ?_⟩
    have e1 : decide (v < 0) = false := decide_eq_false (by omega)
    have e2 : decide (2 < v) = false := decide_eq_false (by omega)
    refine ⟨_, rfl, v, rfl, _, rfl, iteF ⟨_, rfl, _, _, rfl, rfl, _, rfl, ?_⟩⟩
    rw [e1]
    refine iteF ⟨_, rfl, _, _, rfl, rfl, _, rfl, ?_⟩
    rw [e2]
    refine iteF ⟨_, rfl, _, rfl, fp, CF, dx, _, _, rfl, h1, T.cl, T.n2, rfl, _, rfl, _, rfl, sz2, fun t nt => ?_⟩
    have nhe : he ≠ t := ne_of_none h2 nt
    refine ⟨he, _, rfl, DPut.t (b := t) (k := k2 k w') (by rw [upd_ne nhe]; exact h2) upd_same (size_lt (by omega)), ?_⟩
    have s1 : SameX [he] H (upd (upd H t (.tup [.str k, .str w'])) he (.dT (putK hs (k2 k w') (.int v)))) := ((SameX.refl _ _).nw nt).up (by simp)
    have nha : as_ ≠ he := fun z => by
      obtain ⟨xs, e, _⟩ := hF.asked.len
      rw [z, h2] at e
      cases e
    refine kk _ s1 ⟨⟨dx, s1 _ _ (by simp [show fp ≠ he from fun z => hF.nf (z ▸ hF.mh)]) h1⟩, hF.nf, hF.mh, hF.ma, ⟨_, upd_same, h3.put k w' v, Nat.le_trans putT_len (by omega)⟩, hF.asked.keep s1 (by simp [hF.mh]) (by simp [nha]), by have := hF.len; omega⟩
theorem scFForget : FnScope ["self", "kind", "word"] ["self", "kind", "word"] (defScope sFForget) := ⟨rfl, rfl, rfl, by decide +kernel, rfl, by decide +kernel, by decide +kernel⟩
theorem ok_fforget (T : FCls K CF) (D : MethD K CF "forget" "Facts.forget" sFForget ["self", "kind", "word"] f fd) : FnOk P w K mg base CX0 1 f fd ["self", "kind", "word"] (spFForget CF) := by
  refine D.F.ok scFForget (fun vs H Q E h => ?_) (fun cdv A outer s H vs Q E hr h => ?_)
  · obtain ⟨MU, fp, he, as_, tv, g, ps, n, k, w', rfl, _⟩ := h
    rfl
  · obtain ⟨MU, fp, he, as_, tv, g, ps, n, k, w', rfl, hF, kk⟩ := h
    obtain ⟨dx, h1⟩ := hF.ins
    obtain ⟨hs, h2, h3, h4⟩ := hF.held
    have hu : (A.deeper (envOfC "Facts.forget" (defScope sFForget) s.heap.objs.size f cdv)).units + 1 < cLine := hu_of hr
    refine ⟨_, PSs.nox (pss_one (ps_if (pt_cmp (pc_din hu (pe_tup (pa_cons (pv 1) (pa_cons (pv 2) pa_nil))) (pe_fld (pv 0) rfl)))
      (pss_one (ps_expr (pe_bm PySem.F.plainAttrs_dict PySem.F.slot_dict_pop PySem.F.type_dict_pop (mt_popT1 hu) (pe_fld (pv 0) rfl) (pa_cons (pe_tup (pa_cons (pv 1) (pa_cons (pv 2) pa_nil))) pa_nil)))) pss_nil)), ?_⟩
    have nha : as_ ≠ he := fun z => by
      obtain ⟨xs, e, _⟩ := hF.asked.len
      rw [z, h2] at e
      cases e
    refine ⟨_, rfl, _, rfl, sz2, fun t nt => ?_⟩
    have s1 : Same H (upd H t (.tup [.str k, .str w'])) := Same.nw nt
    have h2a := s1 _ _ h2
    refine ⟨_, rfl, fp, CF, dx, _, _, rfl, s1 _ _ h1, T.cl, T.n2, rfl, he, _, rfl, DGet.t (k := k2 k w') h2a upd_same, _, rfl, ?_⟩
    rw [h3 k w']
    cases hg : g k w' with
    | none =>
      refine iteF ?_
      have e : upK g k w' none = g := by
        funext a b
        unfold upK
        split
        · next z => rw [z.1, z.2, hg]
        · rfl
      refine kk _ (SameX.of s1) ?_
      rw [e]
      exact hF.keep (SameX.of (S := []) s1) (by simp) (by simp) (by simp)
    | some v =>
      refine iteT ⟨_, rfl, fp, CF, dx, _, _, rfl, s1 _ _ h1, T.cl, T.n2, rfl, ?_, _, rfl, _, rfl, sz2, fun t2 nt2 => ?_⟩
      · exact .inr (.inr (.inl ⟨rfl, .inr ⟨hs, h2a⟩⟩))
      · have s2 : Same H _ := s1.nw2 (o := .tup [.str k, .str w']) nt2
        refine ⟨he, hs, k2 k w', t2, .int v, rfl, rfl, s2 _ _ h2, upd_same, by rw [h3 k w', hg]; rfl, ?_⟩
        have s3 : SameX [he] H (upd (upd (upd H t (.tup [.str k, .str w'])) t2 (.tup [.str k, .str w'])) he (.dT (dropK hs (k2 k w')))) := (SameX.of s2).up (by simp)
        exact kk _ s3 ⟨⟨dx, s3 _ _ (by simp [show fp ≠ he from fun z => hF.nf (z ▸ hF.mh)]) h1⟩, hF.nf, hF.mh, hF.ma, ⟨_, upd_same, h3.drop k w', Nat.le_trans (dropK_le _ _) h4⟩, hF.asked.keep s3 (by simp [hF.mh]) (by simp [nha]), hF.len⟩
theorem scFReads : FnScope ["self"] ["self"] (defScope sFReads) := ⟨rfl, rfl, rfl, by decide +kernel, rfl, by decide +kernel, by decide +kernel⟩
theorem ok_freads (T : FCls K CF) (D : MethD K CF "reads" "Facts.reads" sFReads ["self"] f fd) (hLi : mg "list" = none) : FnOk P w K mg base CX0 1 f fd ["self"] (spFReads CF) := by
  refine D.F.ok scFReads (fun vs H Q E h => ?_) (fun cdv A outer s H vs Q E hr h => ?_)
  · obtain ⟨MU, fp, he, as_, tv, g, ps, n, rfl, _⟩ := h
    rfl
  · obtain ⟨MU, fp, he, as_, tv, g, ps, n, rfl, hF, kk⟩ := h
    obtain ⟨dx, h1⟩ := hF.ins
    obtain ⟨rs, e1, e2, e3⟩ := hF.asked.ex
    refine ⟨_, PSs.nox (pss_one (ps_ret (pe_callTy call_list_of rfl hLi PyProof.Rows.boot_list (pa_cons (pe_fld (pv 0) rfl) pa_nil)))), ?_⟩
    refine ⟨_, rfl, fp, CF, dx, _, _, rfl, h1, T.cl, T.n3, rfl, as_, _, rfl, .inl (SqL.of e1), fun l hl => kk _ l (Same.nw hl) hl ⟨rs, upd_same, fun r hr => ⟨(Same.nw hl) _ _ (e2 r hr).1, (e2 r hr).2⟩, e3⟩⟩
end
end TM
set_option maxRecDepth 100000
set_option maxHeartbeats 4000000
/-! Town. -/
namespace TM
open PySem PySem.Spec PyProof.Rows L2 LamX NdefX
structure TAd where
  tp : Addr
  hp : Addr
  fp : Addr
  mks : Addr
  he : Addr
  as_ : Addr
abbrev TAd.mu (T : TAd) : List Addr := [T.tp, T.hp, T.mks, T.he, T.as_]
structure Cs where
  CT : Addr
  CH : Addr
  CF : Addr
structure TownAt (MU : List Addr) (H : Hp) (c : Cs) (T : TAd) (tv : V) (A Ld : Ent) (g : Kn) (ps : List (Str × Str)) (n : Nat) : Prop where
  ins : ∃ dx num, H T.tp = some (.ins c.CT dx [("house", .ref T.hp), ("facts", .ref T.fp), ("marks", .ref T.mks), ("number", .int num)])
  house : HouseAt MU H c.CH T.hp A Ld
  facts : FactsAt MU H c.CF T.fp T.he T.as_ tv g ps n
  marks : ∃ ms : List (Str × V), H T.mks = some (.dK (kvR ms)) ∧ ms.map (·.1) = keysE (ent A)
  mt : T.tp ∈ MU
  mh : T.hp ∈ MU
  mm : T.mks ∈ MU
  ne : T.tp ≠ T.hp
section
variable {MU S N : List Addr} {H H' : Hp} {c : Cs} {T : TAd} {tv : V} {A Ld : Ent} {g : Kn} {ps : List (Str × Str)} {n : Nat}
theorem TownAt.keep (h : TownAt MU H c T tv A Ld g ps n) (s : SameX S H H') (hS : ∀ a ∈ S, a ∈ MU) (hT : ∀ a ∈ T.mu, a ∉ S) : TownAt MU H' c T tv A Ld g ps n := by
  obtain ⟨dx, num, e⟩ := h.ins
  obtain ⟨ms, e2, e3⟩ := h.marks
  exact ⟨⟨dx, num, s _ _ (hT _ (by simp)) e⟩, h.house.keep s hS (hT _ (by simp)), h.facts.keep s hS (hT _ (by simp)) (hT _ (by simp)), ⟨ms, s _ _ (hT _ (by simp)) e2, e3⟩, h.mt, h.mh, h.mm, h.ne⟩
theorem TownAt.same (h : TownAt MU H c T tv A Ld g ps n) (s : Same H H') : TownAt MU H' c T tv A Ld g ps n := h.keep (S := []) (SameX.of s) (by simp) (by simp)
theorem TownAt.grow (h : TownAt MU H c T tv A Ld g ps n) (hN : ∀ n ∈ N, H n = none) : TownAt (MU ++ N) H c T tv A Ld g ps n :=
  ⟨h.ins, h.house.grow hN, h.facts.grow hN, h.marks, List.mem_append_left _ h.mt, List.mem_append_left _ h.mh, List.mem_append_left _ h.mm, h.ne⟩
theorem TownAt.mono {m : Nat} (h : TownAt MU H c T tv A Ld g ps n) (hm : n ≤ m) : TownAt MU H c T tv A Ld g ps m := ⟨h.ins, h.house, h.facts.mono hm, h.marks, h.mt, h.mh, h.mm, h.ne⟩
theorem TownAt.plain (h : TownAt MU H c T tv A Ld g ps n) : ∀ a ∈ T.mu, ∃ u, H a = some u ∧ Plain u := fun a ha => by
  obtain ⟨dx, num, e⟩ := h.ins
  obtain ⟨ms, e2, e3⟩ := h.marks
  obtain ⟨dx2, lst, ab, ld, h1, _⟩ := h.house.ins
  obtain ⟨hs, e4, _⟩ := h.facts.held
  obtain ⟨xs, e5, _⟩ := h.facts.asked.len
  simp only [List.mem_cons, List.not_mem_nil, or_false] at ha
  rcases ha with z | z | z | z | z
  · rw [z]; exact ⟨_, e, True.intro⟩
  · rw [z]; exact ⟨_, h1, True.intro⟩
  · rw [z]; exact ⟨_, e2, True.intro⟩
  · rw [z]; exact ⟨_, e4, True.intro⟩
  · rw [z]; exact ⟨_, e5, True.intro⟩
theorem TownAt.sub (h : TownAt MU H c T tv A Ld g ps n) : ∀ a ∈ T.mu, a ∈ MU := fun a ha => by
  simp only [List.mem_cons, List.not_mem_nil, or_false] at ha
  rcases ha with z | z | z | z | z
  · rw [z]; exact h.mt
  · rw [z]; exact h.mh
  · rw [z]; exact h.mm
  · rw [z]; exact h.facts.mh
  · rw [z]; exact h.facts.ma
/-- the mutable places of a town differ -/
theorem TownAt.ap (h : TownAt MU H c T tv A Ld g ps n) : T.tp ≠ T.hp ∧ T.tp ≠ T.mks ∧ T.tp ≠ T.he ∧ T.tp ≠ T.as_ ∧ T.hp ≠ T.mks ∧ T.hp ≠ T.he ∧ T.hp ≠ T.as_ ∧ T.mks ≠ T.he ∧ T.mks ≠ T.as_ ∧ T.he ≠ T.as_ := by
  obtain ⟨dx, num, e⟩ := h.ins
  obtain ⟨ms, e2, e3⟩ := h.marks
  obtain ⟨dx2, lst, ab, ld, h1, _⟩ := h.house.ins
  obtain ⟨hs, e4, _⟩ := h.facts.held
  obtain ⟨xs, e5, _⟩ := h.facts.asked.len
  exact ⟨h.ne, ne_of e e2 (by intro z; cases z), ne_of e e4 (by intro z; cases z), ne_of e e5 (by intro z; cases z), ne_of h1 e2 (by intro z; cases z), ne_of h1 e4 (by intro z; cases z), ne_of h1 e5 (by intro z; cases z), ne_of e2 e4 (by intro z; cases z), ne_of e2 e5 (by intro z; cases z), ne_of e4 e5 (by intro z; cases z)⟩
end
/-- what K says of the class Town -/
structure TCls (K : PySem.W.Frag) (CT : Addr) : Prop where
  cl : Cls K CT
  n1 : NoAttr K CT "house"
  n2 : NoAttr K CT "facts"
  n3 : NoAttr K CT "marks"
  n4 : NoAttr K CT "number"
def spTInit (c : Cs) : Sp := fun vs H Q _ => ∃ (MU : List Addr) (tp dx : Addr) (tv : V), vs = [.ref tp, tv] ∧ H tp = some (.ins c.CT dx []) ∧ tp ∉ MU ∧ MuOk MU H ∧
  ∀ H' (T : TAd), T.tp = tp → SameX [tp] H H' → (∀ a ∈ [T.hp, T.mks, T.he, T.as_], H a = none) → TownAt (MU ++ T.mu) H' c T tv [] [] (fun _ _ => none) [] 0 → Q .non H'
def spTAdd (c : Cs) (CTg : Addr) : Bool → Sp := fun b vs H Q E => ∃ (MU : List Addr) (T : TAd) (tv : V) (el : Addr) (x : Str) (A Ld : Ent) (es : List Str) (g : Kn) (ps : List (Str × Str)) (n : Nat), vs = [.ref T.tp, .str x, .ref el, .non] ∧ TownAt MU H c T tv A Ld g ps n ∧ MuOk MU H ∧ Lst H el es ∧ es.length ≤ 5 ∧ es.Nodup ∧ (∀ e ∈ es, e ∈ keysE (ent A)) ∧ NameOk x ∧ x ∉ keysE (ent A) ∧ A.length < 12 ∧
  (∀ Lr, linesF (ent A ++ [(x, es)]) = some Lr → ∀ H' ea Ld' l, SameX [T.tp, T.hp, T.mks] H H' → TownAt MU H' c T tv (A ++ [(x, ea, es)]) Ld' g ps n → Q (.ref l) H') ∧
  (linesF (ent A ++ [(x, es)]) = none → b = true ∧ ∀ H' d, Same H H' → E (.ref CTg) (some d) H')
section
variable {P : Program} {w : World} {K : PySem.W.Frag} {mg : Str → Option Value} {base : Heap} {f f1 f2 : Addr} {fd fd1 fd2 : FuncData} {c : Cs} {CTg : Addr}
theorem scTInit : FnScope ["self", "teller"] ["self", "teller"] (defScope sTInit) := ⟨rfl, rfl, rfl, by decide +kernel, rfl, by decide +kernel, by decide +kernel⟩
theorem ok_tinit (T : TCls K c.CT) (TH : HCls K c.CH) (TF : FCls K c.CF) (D : MethD K c.CT "__init__" "Town.__init__" sTInit ["self", "teller"] f fd)
    (D1 : MethD K c.CH "__init__" "House.__init__" sHInit ["self"] f1 fd1) (M1 : Mk K c.CH f1) (g1 : mg "House" = some (.ref c.CH)) (D2 : MethD K c.CF "__init__" "Facts.__init__" sFInit ["self", "teller"] f2 fd2) (M2 : Mk K c.CF f2) (g2 : mg "Facts" = some (.ref c.CF)) :
    FnOk P w K mg base CX0 3 f fd ["self", "teller"] (spTInit c) := by
  have G1 : FnOk P w K mg base CX0 1 f1 fd1 ["self"] (spHInit c.CH true) := (ok_hinit TH D1).cold
  have G2 : FnOk P w K mg base CX0 1 f2 fd2 ["self", "teller"] (spFInit c.CF) := ok_finit TF D2
  refine D.F.ok scTInit (fun vs H Q E h => ?_) (fun cdv A outer s H vs Q E hr h => ?_)
  · obtain ⟨MU, tp, dx, tv, rfl, _⟩ := h
    rfl
  · obtain ⟨MU, tp, dx, tv, rfl, hh, htm, hMU, k⟩ := h
    refine ⟨_, PSs.nox (pss_cons (ps_fld (pv 0) (pe_make0 M1 G1 hr rfl g1 D1.b .nil pass0) rfl) (pss_cons (ps_fld (pv 0) (pe_make M2 G2 hr rfl g2 D2.b .nil pass0 (pa_cons (pv 1) pa_nil)) rfl)
      (pss_cons (ps_fld (pv 0) pe_dnewK rfl) (pss_one (ps_fld (pv 0) pe_int rfl))))), ?_⟩
    refine fun hp dxh nhp ndx ndh => ?_
    have n1 : tp ≠ hp := ne_of_none hh nhp
    have n1d : tp ≠ dxh := ne_of_none hh ndx
    refine ⟨hp, dxh, rfl, upd_same, fun H1 lst ab ld s1 nl nab nld e1 e2 e3 e4 => ⟨rfl, ?_⟩⟩
    have s1' : Same H H1 := fun a u e => s1 a u (by simpa using (ne_of_none e nhp)) (by rw [upd_ne (ne_of_none e nhp), upd_ne (ne_of_none e ndx)]; exact e)
    refine ⟨_, rfl, tp, c.CT, dx, [], rfl, s1' _ _ hh, T.cl, T.n1, by show 0 < 1000; omega, ?_⟩
    refine ⟨_, rfl, fun fp dxf nfp ndf nff => ?_⟩
    have nl0 : H lst = none := by
      have z : lst ≠ hp := fun z => by rw [z, upd_same] at nl; cases nl
      have z2 : lst ≠ dxh := fun z2 => by rw [z2, upd_ne ndh, upd_same] at nl; cases nl
      rw [upd_ne z, upd_ne z2] at nl
      exact nl
    have nab0 : H ab = none := by
      have z : ab ≠ hp := fun z => by rw [z, upd_same] at nab; cases nab
      have z2 : ab ≠ dxh := fun z2 => by rw [z2, upd_ne ndh, upd_same] at nab; cases nab
      rw [upd_ne z, upd_ne z2] at nab
      exact nab
    have nld0 : H ld = none := by
      have z : ld ≠ hp := fun z => by rw [z, upd_same] at nld; cases nld
      have z2 : ld ≠ dxh := fun z2 => by rw [z2, upd_ne ndh, upd_same] at nld; cases nld
      rw [upd_ne z, upd_ne z2] at nld
      exact nld
    have tl : tp ≠ lst := ne_of_none hh nl0
    have tab : tp ≠ ab := ne_of_none hh nab0
    have tld : tp ≠ ld := ne_of_none hh nld0
    have tfp : tp ≠ fp := fun z => by rw [← z, upd_same] at nfp; cases nfp
    have tdf : tp ≠ dxf := fun z => by rw [← z, upd_same] at ndf; cases ndf
    rw [upd_ne tfp.symm] at nfp
    rw [upd_ne tdf.symm] at ndf
    refine ⟨fp, dxf, tv, rfl, upd_same, fun H2 he as_ s2 nhe nas nha e5 e6 e7 => ⟨rfl, ?_⟩⟩
    -- what stood at H1 (but tp) stands at H2
    have s2' : ∀ {a : Addr} {u : HO}, H1 a = some u → a ≠ tp → H2 a = some u := fun {a u} e z => s2 a u (by simpa using (ne_of_none e nfp)) (by rw [upd_ne (ne_of_none e nfp), upd_ne (ne_of_none e ndf), upd_ne z]; exact e)
    have e0 : H2 tp = some (.ins c.CT dx [("house", .ref hp)]) := s2 _ _ (by simpa using tfp) (by rw [upd_ne tfp, upd_ne tdf, upd_same]; rfl)
    have fr2 : ∀ {a : Addr}, (upd (upd (upd H1 tp (.ins c.CT dx [("house", V.ref hp)])) dxf (.own fp)) fp (.ins c.CF dxf [])) a = none → a ≠ tp ∧ a ≠ fp ∧ H1 a = none := fun {a} e => by
      have z : a ≠ fp := fun z => by rw [z, upd_same] at e; cases e
      have z2 : a ≠ dxf := fun z2 => by rw [z2, upd_ne nff, upd_same] at e; cases e
      rw [upd_ne z, upd_ne z2] at e
      have z3 : a ≠ tp := fun z3 => by rw [z3, upd_same] at e; cases e
      rw [upd_ne z3] at e
      exact ⟨z3, z, e⟩
    obtain ⟨he1, he2, he3⟩ := fr2 nhe
    obtain ⟨as1, as2, as3⟩ := fr2 nas
    refine ⟨_, rfl, tp, c.CT, dx, _, rfl, e0, T.cl, T.n2, by show 1 < 1000; omega, fun mk nmk => ?_⟩
    have tmk : tp ≠ mk := fun z => by rw [← z, upd_same] at nmk; cases nmk
    have nmk2 : H2 mk = none := by rw [upd_ne tmk.symm] at nmk; exact nmk
    refine ⟨_, rfl, tp, c.CT, dx, _, rfl, by rw [upd_ne tmk, upd_same], T.cl, T.n3, by show 2 < 1000; omega, ?_⟩
    refine ⟨_, rfl, tp, c.CT, dx, _, rfl, upd_same, T.cl, T.n4, by show 3 < 1000; omega, ?_⟩
    have kp : ∀ {a : Addr} {u : HO}, H2 a = some u → a ≠ tp → (upd (upd (upd (upd H2 tp (.ins c.CT dx (putF "facts" (.ref fp) [("house", V.ref hp)]))) mk (.dK [])) tp (.ins c.CT dx (putF "marks" (.ref mk) (putF "facts" (.ref fp) [("house", V.ref hp)])))) tp (.ins c.CT dx (putF "number" (.int 0) (putF "marks" (.ref mk) (putF "facts" (.ref fp) [("house", V.ref hp)]))))) a = some u := fun {a u} e z => by
      rw [upd_ne z, upd_ne z, upd_ne (ne_of_none e nmk2), upd_ne z]
      exact e
    have kmk : (upd (upd (upd (upd H2 tp (.ins c.CT dx (putF "facts" (.ref fp) [("house", V.ref hp)]))) mk (.dK [])) tp (.ins c.CT dx (putF "marks" (.ref mk) (putF "facts" (.ref fp) [("house", V.ref hp)])))) tp (.ins c.CT dx (putF "number" (.int 0) (putF "marks" (.ref mk) (putF "facts" (.ref fp) [("house", V.ref hp)]))))) mk = some (.dK []) := by rw [upd_ne tmk.symm, upd_ne tmk.symm, upd_same]
    have ktp : (upd (upd (upd (upd H2 tp (.ins c.CT dx (putF "facts" (.ref fp) [("house", V.ref hp)]))) mk (.dK [])) tp (.ins c.CT dx (putF "marks" (.ref mk) (putF "facts" (.ref fp) [("house", V.ref hp)])))) tp (.ins c.CT dx (putF "number" (.int 0) (putF "marks" (.ref mk) (putF "facts" (.ref fp) [("house", V.ref hp)]))))) tp = some (.ins c.CT dx [("house", .ref hp), ("facts", .ref fp), ("marks", .ref mk), ("number", .int 0)]) := by rw [upd_same]; rfl
    revert kp kmk ktp
    generalize upd (upd (upd (upd H2 tp (.ins c.CT dx (putF "facts" (.ref fp) [("house", V.ref hp)]))) mk (.dK [])) tp (.ins c.CT dx (putF "marks" (.ref mk) (putF "facts" (.ref fp) [("house", V.ref hp)])))) tp (.ins c.CT dx (putF "number" (.int 0) (putF "marks" (.ref mk) (putF "facts" (.ref fp) [("house", V.ref hp)])))) = H5
    intro kp kmk ktp
    have inMU : ∀ {a : Addr}, H a = none → a ∉ MU := fun {a} e z => hMU.there a z e
    have he0 : H he = none := s1'.free he3
    have as0 : H as_ = none := s1'.free as3
    have fp0 : H fp = none := s1'.free nfp
    have mk1 : H1 mk = none := by
      cases e : H1 mk with
      | none => rfl
      | some u => rw [s2' e tmk.symm] at nmk2; cases nmk2
    have mk0 : H mk = none := s1'.free mk1
    have hpfp : hp ≠ fp := fun z => by rw [← z, e1] at nfp; cases nfp
    -- the lists of the house are no mutable places
    have no : ∀ {a : Addr} {u : HO}, H1 a = some u → H a = none → a ≠ hp → a ∉ MU ++ [tp, hp, mk, he, as_] := fun {a u} e e0 z hm => by
      rcases List.mem_append.mp hm with y | y
      · exact inMU e0 y
      · simp only [List.mem_cons, List.not_mem_nil, or_false] at y
        rcases y with y | y | y | y | y
        · rw [y, hh] at e0; cases e0
        · exact z y
        · rw [y, mk1] at e; cases e
        · rw [y, he3] at e; cases e
        · rw [y, as3] at e; cases e
    have lh : lst ≠ hp := fun z => by
      have e2' : H1 lst = some (.lst []) := e2
      rw [z, e1] at e2'
      cases e2'
    have abh : ab ≠ hp := fun z => by rw [z, e1] at e3; cases e3
    have ldh : ld ≠ hp := fun z => by rw [z, e1] at e4; cases e4
    refine k H5 ⟨tp, hp, fp, mk, he, as_⟩ rfl (fun a u ha e => ?_) (fun a ha => ?_) ⟨⟨dx, 0, ktp⟩, ⟨⟨dxh, lst, ab, ld, ?_, ?_, ?_, ?_, no e2 nl0 lh, no e3 nab0 abh, no e4 nld0 ldh⟩, ⟨(fun e he => by cases he), (fun e he => by cases he)⟩, ⟨(fun e he => by cases he), (fun e he => by cases he)⟩, (fun e he => by cases he), (fun e he => by cases he), rfl, True.intro, Nat.zero_le _, (fun e he => by cases he), (fun e he => by cases he)⟩,
      ⟨⟨dxf, ?_⟩, ?_, by simp, by simp, ⟨[], ?_, fun _ _ => rfl, Nat.le_refl _⟩, ⟨[], ?_, (fun r hr => by cases hr), rfl⟩, Nat.le_refl _⟩, ⟨[], kmk, rfl⟩, by simp, by simp, by simp, n1⟩
    · have ha' : a ≠ tp := by simpa using ha
      exact kp (s2' (s1' _ _ e) ha') ha'
    · simp only [List.mem_cons, List.not_mem_nil, or_false] at ha
      rcases ha with z | z | z | z
      · rw [z]; exact nhp
      · rw [z]; exact mk0
      · rw [z]; exact he0
      · rw [z]; exact as0
    · exact kp (s2' e1 n1.symm) n1.symm
    · exact kp (s2' e2 tl.symm) tl.symm
    · exact kp (s2' e3 tab.symm) tab.symm
    · exact kp (s2' e4 tld.symm) tld.symm
    · exact kp e5 tfp.symm
    · intro hm
      rcases List.mem_append.mp hm with y | y
      · exact inMU fp0 y
      · simp only [List.mem_cons, List.not_mem_nil, or_false] at y
        rcases y with y | y | y | y | y
        · exact tfp y.symm
        · exact hpfp y.symm
        · rw [y, nmk2] at e5; cases e5
        · exact he2 y.symm
        · exact as2 y.symm
    · exact kp e6 he1
    · exact kp e7 as1
end
end TM
set_option maxRecDepth 100000
set_option maxHeartbeats 4000000
/-! Town: add, kinds, line, known, reads. -/
namespace TM
open PySem PySem.Spec PyProof.Rows L2 LamX NdefX
def spTKinds (c : Cs) : Sp := fun vs H Q _ => ∃ (MU : List Addr) (T : TAd) (tv : V) (A Ld : Ent) (g : Kn) (ps : List (Str × Str)) (n : Nat), vs = [.ref T.tp] ∧ TownAt MU H c T tv A Ld g ps n ∧ ∀ H' l, Same H H' → H l = none → Lst H' l (keysE (ent A)) → Q (.ref l) H'
def spTLine (c : Cs) : Sp := fun vs H Q _ => ∃ (MU : List Addr) (T : TAd) (tv : V) (A Ld : Ent) (g : Kn) (ps : List (Str × Str)) (n : Nat) (x : Str), vs = [.ref T.tp, .str x] ∧ TownAt MU H c T tv A Ld g ps n ∧ x ∈ keysE (ent A) ∧ ∀ H' l, Same H H' → H l = none → Lst H' l (lookL (ent Ld) x) → Q (.ref l) H'
def spTKnown (c : Cs) : Sp := fun vs H Q _ => ∃ (MU : List Addr) (T : TAd) (tv : V) (A Ld : Ent) (g : Kn) (ps : List (Str × Str)) (n : Nat) (k w : Str), vs = [.ref T.tp, .str k, .str w] ∧ TownAt MU H c T tv A Ld g ps n ∧ k ∈ keysE (ent A) ∧ NameOk w ∧ ∀ H', Same H H' → Q (((g k w).map V.int).getD .non) H'
def spTReads (c : Cs) : Sp := fun vs H Q _ => ∃ (MU : List Addr) (T : TAd) (tv : V) (A Ld : Ent) (g : Kn) (ps : List (Str × Str)) (n : Nat), vs = [.ref T.tp] ∧ TownAt MU H c T tv A Ld g ps n ∧ ∀ H' l, Same H H' → H l = none → PrsAt MU H' l ps → Q (.ref l) H'
section
variable {P : Program} {w : World} {K : PySem.W.Frag} {mg : Str → Option Value} {base : Heap} {f f1 f2 : Addr} {fd fd1 fd2 : FuncData} {c : Cs} {CTg : Addr}
theorem scTAdd : FnScope ["self", "name", "elders", "at"] ["self", "name", "elders", "at"] (defScope sTAdd) := ⟨rfl, rfl, rfl, by decide +kernel, rfl, by decide +kernel, by decide +kernel⟩
theorem ok_tadd (T : TCls K c.CT) (TH : HCls K c.CH) (D : MethN K c.CT "add" "Town.add" sTAdd ["self", "name", "elders", "at"] f fd) (D1 : MethN K c.CH "add" "House.add" sHAdd ["self", "name", "elders", "at"] f1 fd1)
    (G1 : FnM P w K mg base (L2N.CX P w) 6 f1 fd1 ["self", "name", "elders", "at"] (spHAdd c.CH CTg)) : FnM P w K mg base (L2N.CX P w) 7 f fd ["self", "name", "elders", "at"] (spTAdd c CTg) := by
  refine fun_okM D.F scTAdd (fun b vs H Q E h => ?_) (fun b pl cdv A outer s H vs Q E hm hr h => ?_)
  · obtain ⟨MU, T, tv, el, x, A, Ld, es, g, ps, n, rfl, _⟩ := h
    rfl
  · obtain ⟨MU, T', tv, el, x, A', Ld, es, g, ps, n, rfl, hT, hMU, hel, hlen, nd, hsub, hx, hxn, hA12, k1, k2⟩ := h
    have hu := roomM_hu hr
    obtain ⟨dx, num, h1⟩ := hT.ins
    obtain ⟨ms, h2, h3⟩ := hT.marks
    obtain ⟨dxh, lst, ab, ld, h4, _⟩ := hT.house.ins
    obtain ⟨a1, a2, a3, a4, a5, a6, a7, a8, a9, a10⟩ := hT.ap
    refine ⟨_, pss_cons (ps_expr (pe_methM (pe_fld (pv 0) rfl) TH.cl D1.m G1 hr hm D1.b0 .nil (fun σ => L2N.passAt (L2N.takes_of rfl rfl rfl rfl) σ) (pa_cons (pv 1) (pa_cons (pv 2) (pa_cons (pv 3) pa_nil)))))
      (pss_cons (ps_fldaug (pv 0) pe_int in_add)
      (pss_cons (ps_dput hu (pe_fld (pv 0) rfl) (pv 1) (pe_fld (pv 0) rfl) rfl)
      (pss_one (ps_ret (pe_lst (pa_cons (pv 1) pa_nil)))))), ?_⟩
    refine ⟨_, rfl, T'.tp, c.CT, dx, _, _, rfl, h1, T.cl, T.n1, rfl, T'.hp, dxh, _, rfl, h4, rfl, _, rfl, _, rfl, _, rfl, MU, T'.hp, el, x, A', Ld, es, rfl, hT.house, hMU.there, hT.mh, hel, hlen, nd, hsub, hx, hxn, hA12, fun Lr hLr H1 ea Ld' s1 hH1 => ?_, fun hn => ?_⟩
    · have e1 := s1 _ _ (by simpa using a1) h1
      have e2 := s1 _ _ (by simpa using a5.symm) h2
      refine ⟨_, rfl, T'.tp, c.CT, dx, _, .int num, rfl, e1, T.cl, T.n4, rfl, _, _, rfl, rfl, dx, _, e1, by show 4 < 1000; omega, ?_⟩
      have s2 : SameX [T'.tp, T'.hp] H (upd H1 T'.tp (.ins c.CT dx (putF "number" (.int (num + 1)) [("house", .ref T'.hp), ("facts", .ref T'.fp), ("marks", .ref T'.mks), ("number", .int num)]))) := (s1.mono (by simp)).up (by simp)
      refine ⟨_, rfl, T'.tp, c.CT, dx, _, _, rfl, upd_same, T.cl, T.n4, rfl, _, rfl, T'.tp, c.CT, dx, _, _, rfl, upd_same, T.cl, T.n3, rfl, _, rfl, T'.mks, _, rfl, DPut.k (k := Sum.inr x) (by rw [upd_ne a2.symm]; exact e2) ?_, ?_⟩
      · have : ms.length = A'.length := by
          have := congrArg List.length h3
          rw [List.length_map, keys_len] at this
          exact this
        exact size_lt (by rw [List.length_map]; omega)
      · have hxm : x ∉ ms.map (·.1) := by rw [h3]; exact hxn
        refine ⟨_, rfl, by show 1 ≤ sizeLine; exact size_small (by decide), fun l nl => ?_⟩
        have s3 : SameX [T'.tp, T'.mks] H1 (upd (upd (upd H1 T'.tp (.ins c.CT dx (putF "number" (.int (num + 1)) [("house", .ref T'.hp), ("facts", .ref T'.fp), ("marks", .ref T'.mks), ("number", .int num)]))) T'.mks (.dK (putK (kvR ms) (Sum.inr x) (.int (num + 1))))) l (.lst [.str x])) := (((SameX.refl _ _).up (by simp)).up (by simp)).nw nl
        have i1 : ∀ {a : Addr} {u : HO}, (upd (upd H1 T'.tp (.ins c.CT dx (putF "number" (.int (num + 1)) [("house", .ref T'.hp), ("facts", .ref T'.fp), ("marks", .ref T'.mks), ("number", .int num)]))) T'.mks (.dK (putK (kvR ms) (Sum.inr x) (.int (num + 1))))) a = some u → (upd (upd (upd H1 T'.tp (.ins c.CT dx (putF "number" (.int (num + 1)) [("house", .ref T'.hp), ("facts", .ref T'.fp), ("marks", .ref T'.mks), ("number", .int num)]))) T'.mks (.dK (putK (kvR ms) (Sum.inr x) (.int (num + 1))))) l (.lst [.str x])) a = some u := fun {a u} e => by
          rw [upd_ne (ne_of_none e nl)]
          exact e
        refine k1 Lr hLr _ ea Ld' l ((s1.mono (by simp)).trans (s3.mono (by simp))) ⟨⟨dx, num + 1, i1 (by rw [upd_ne a2, upd_same]; rfl)⟩, hH1.keep s3 (by simp [hT.mt, hT.mm]) (by simp [a1.symm, a5]), (hT.facts.keep s1 (by simp [hT.mh]) (by simp [a6.symm]) (by simp [a7.symm])).keep s3 (by simp [hT.mt, hT.mm]) (by simp [a3.symm, a8.symm]) (by simp [a4.symm, a9.symm]), ⟨ms ++ [(x, .int (num + 1))], i1 ?_, ?_⟩, hT.mt, hT.mh, hT.mm, hT.ne⟩
        · rw [upd_same, putK_new _ (by rw [valV_R]; exact lookR_none hxm), kvR_snoc]
        · rw [List.map_append, h3, ent_snoc, keysE_append]
          rfl
    · obtain ⟨hb, k3⟩ := k2 hn
      exact ⟨hb, fun H1 d s1 => k3 H1 d s1⟩
theorem scTKinds : FnScope ["self"] ["self"] (defScope sTKinds) := ⟨rfl, rfl, rfl, by decide +kernel, rfl, by decide +kernel, by decide +kernel⟩
theorem ok_tkinds (T : TCls K c.CT) (TH : HCls K c.CH) (D : MethD K c.CT "kinds" "Town.kinds" sTKinds ["self"] f fd) (D1 : MethD K c.CH "kinds" "House.kinds" sHKinds ["self"] f1 fd1) (hLi : mg "list" = none) : FnOk P w K mg base CX0 2 f fd ["self"] (spTKinds c) := by
  have G1 : FnOk P w K mg base CX0 1 f1 fd1 ["self"] (spHKinds c.CH true) := (ok_hkinds TH D1 hLi).cold
  refine D.F.ok scTKinds (fun vs H Q E h => ?_) (fun cdv A outer s H vs Q E hr h => ?_)
  · obtain ⟨MU, T, tv, A, Ld, g, ps, n, rfl, _⟩ := h
    rfl
  · obtain ⟨MU, T', tv, A', Ld, g, ps, n, rfl, hT, k⟩ := h
    obtain ⟨dx, num, h1⟩ := hT.ins
    obtain ⟨dxh, lst, ab, ld, h4, _⟩ := hT.house.ins
    refine ⟨_, PSs.nox (pss_one (ps_ret (pe_meth0 (pe_fld (pv 0) rfl) TH.cl D1.m G1 hr D1.b .nil pass0))), ?_⟩
    exact ⟨_, rfl, T'.tp, c.CT, dx, _, _, rfl, h1, T.cl, T.n1, rfl, T'.hp, dxh, _, rfl, h4, rfl, MU, T'.hp, A', Ld, rfl, hT.house, k⟩
theorem scTLine : FnScope ["self", "name"] ["self", "name"] (defScope sTLine) := ⟨rfl, rfl, rfl, by decide +kernel, rfl, by decide +kernel, by decide +kernel⟩
theorem ok_tline (T : TCls K c.CT) (TH : HCls K c.CH) (D : MethD K c.CT "line" "Town.line" sTLine ["self", "name"] f fd) (D1 : MethD K c.CH "line" "House.line" sHLine ["self", "name"] f1 fd1) (D2 : MethD K c.CH "need_kind" "House.need_kind" sHNK ["self", "name"] f2 fd2) (hLi : mg "list" = none) : FnOk P w K mg base CX0 3 f fd ["self", "name"] (spTLine c) := by
  have G1 : FnOk P w K mg base CX0 2 f1 fd1 ["self", "name"] (spHLine c.CH true) := (ok_hline TH D1 D2 hLi).cold
  refine D.F.ok scTLine (fun vs H Q E h => ?_) (fun cdv A outer s H vs Q E hr h => ?_)
  · obtain ⟨MU, T, tv, A, Ld, g, ps, n, x, rfl, _⟩ := h
    rfl
  · obtain ⟨MU, T', tv, A', Ld, g, ps, n, x, rfl, hT, hx, k⟩ := h
    obtain ⟨dx, num, h1⟩ := hT.ins
    obtain ⟨dxh, lst, ab, ld, h4, _⟩ := hT.house.ins
    refine ⟨_, PSs.nox (pss_one (ps_ret (pe_meth (pe_fld (pv 0) rfl) TH.cl D1.m G1 hr D1.b .nil pass0 (pa_cons (pv 1) pa_nil)))), ?_⟩
    exact ⟨_, rfl, T'.tp, c.CT, dx, _, _, rfl, h1, T.cl, T.n1, rfl, T'.hp, dxh, _, rfl, h4, rfl, _, rfl, MU, T'.hp, A', Ld, x, rfl, hT.house, hx, k⟩
theorem scTKnown : FnScope ["self", "kind", "word"] ["self", "kind", "word"] (defScope sTKnown) := ⟨rfl, rfl, rfl, by decide +kernel, rfl, by decide +kernel, by decide +kernel⟩
theorem marks_in {ms : List (Str × V)} {x : Str} (h : x ∈ ms.map (·.1)) : (valV (kvR ms) (Sum.inr x)).isSome = true := by
  obtain ⟨v, hv⟩ := lookR_some h
  rw [valV_R, hv]
  rfl
theorem ok_tknown (T : TCls K c.CT) (TF : FCls K c.CF) (D : MethD K c.CT "known" "Town.known" sTKnown ["self", "kind", "word"] f fd) (D1 : MethD K c.CF "known" "Facts.known" sFKnown ["self", "kind", "word"] f1 fd1)
    (D2 : DefAt K mg "is_name" sIsName ["thing"] f2 fd2) (G2 : FnM P w K mg base CX0 1 f2 fd2 ["thing"] spIsName) : FnOk P w K mg base CX0 2 f fd ["self", "kind", "word"] (spTKnown c) := by
  have G1 : FnOk P w K mg base CX0 1 f1 fd1 ["self", "kind", "word"] (spFKnown c.CF) := ok_fknown TF D1
  refine D.F.ok scTKnown (fun vs H Q E h => ?_) (fun cdv A outer s H vs Q E hr h => ?_)
  · obtain ⟨MU, T, tv, A, Ld, g, ps, n, k, w', rfl, _⟩ := h
    rfl
  · obtain ⟨MU, T', tv, A', Ld, g, ps, n, k, w', rfl, hT, hk, hw, kk⟩ := h
    obtain ⟨dx, num, h1⟩ := hT.ins
    obtain ⟨ms, h2, h3⟩ := hT.marks
    obtain ⟨dxf, h4⟩ := hT.facts.ins
    have hu : (A.deeper (envOfC "Town.known" (defScope sTKnown) s.heap.objs.size f cdv)).units + 1 < cLine := hu_of hr
    refine ⟨_, PSs.nox (pss_cons (ps_if (pt_cmp (pc_dnotin hu (pv 1) (pe_fld (pv 0) rfl))) pss_never pss_nil)
      (pss_cons (ps_if (pt_not (pt_val (pe_call G2.cold hr rfl D2.g D2.F.kp D2.b .nil pass0 (pa_cons (pv 2) pa_nil)))) pss_never pss_nil)
      (pss_one (ps_ret (pe_meth (pe_fld (pv 0) rfl) TF.cl D1.m G1 hr D1.b .nil pass0 (pa_cons (pv 1) (pa_cons (pv 2) pa_nil))))))), ?_⟩
    refine ⟨_, rfl, _, rfl, T'.tp, c.CT, dx, _, _, rfl, h1, T.cl, T.n3, rfl, T'.mks, _, rfl, DGet.k (k := Sum.inr k) h2, _, rfl, ?_⟩
    rw [marks_in (by rw [h3]; exact hk)]
    refine iteF ⟨_, rfl, w', rfl, hw, _, rfl, iteF ?_⟩
    exact ⟨_, rfl, T'.tp, c.CT, dx, _, _, rfl, h1, T.cl, T.n2, rfl, T'.fp, dxf, _, rfl, h4, rfl, _, rfl, _, rfl, MU, T'.fp, T'.he, T'.as_, tv, g, ps, n, k, w', rfl, hT.facts, kk⟩
theorem scTReads : FnScope ["self"] ["self"] (defScope sTReads) := ⟨rfl, rfl, rfl, by decide +kernel, rfl, by decide +kernel, by decide +kernel⟩
theorem ok_treads (T : TCls K c.CT) (TF : FCls K c.CF) (D : MethD K c.CT "reads" "Town.reads" sTReads ["self"] f fd) (D1 : MethD K c.CF "reads" "Facts.reads" sFReads ["self"] f1 fd1) (hLi : mg "list" = none) : FnOk P w K mg base CX0 2 f fd ["self"] (spTReads c) := by
  have G1 : FnOk P w K mg base CX0 1 f1 fd1 ["self"] (spFReads c.CF) := ok_freads TF D1 hLi
  refine D.F.ok scTReads (fun vs H Q E h => ?_) (fun cdv A outer s H vs Q E hr h => ?_)
  · obtain ⟨MU, T, tv, A, Ld, g, ps, n, rfl, _⟩ := h
    rfl
  · obtain ⟨MU, T', tv, A', Ld, g, ps, n, rfl, hT, k⟩ := h
    obtain ⟨dx, num, h1⟩ := hT.ins
    obtain ⟨dxf, h4⟩ := hT.facts.ins
    refine ⟨_, PSs.nox (pss_one (ps_ret (pe_meth0 (pe_fld (pv 0) rfl) TF.cl D1.m G1 hr D1.b .nil pass0))), ?_⟩
    exact ⟨_, rfl, T'.tp, c.CT, dx, _, _, rfl, h1, T.cl, T.n2, rfl, T'.fp, dxf, _, rfl, h4, rfl, MU, T'.fp, T'.he, T'.as_, tv, g, ps, n, rfl, hT.facts, k⟩
end
end TM
set_option maxRecDepth 100000
set_option maxHeartbeats 4000000
/-! Town: facts told. -/
namespace TM
open PySem PySem.Spec PyProof.Rows L2 LamX NdefX
abbrev oV (o : Option Int) : V := (o.map V.int).getD .non
theorem oV_inj {a b : Option Int} : oV a = oV b ↔ a = b := by
  constructor
  · intro h
    cases a <;> cases b
    · rfl
    · cases h
    · cases h
    · cases h
      rfl
  · rintro rfl
    rfl
theorem scal_oV (a b : Option Int) : scal (oV a) (oV b) = true := by cases a <;> cases b <;> rfl
def shk (was one : Option Int) : Bool := was.isSome && !decide (was = one)
def spIsTold : Sp := fun vs H Q _ => ∃ o : Option Int, vs = [oV o] ∧ (∀ v, o = some v → 0 ≤ v ∧ v ≤ 2) ∧ Q (.bl true) H
def spIsShk : Sp := fun vs H Q _ => ∃ a b : Option Int, vs = [oV a, oV b] ∧ Q (.bl (shk a b)) H
def addN (ks : List Str) (k : Str) : List Str := if k ∈ ks then ks else ks ++ [k]
theorem addN_put (ks : List Str) (k : Str) : putK (kvT ks) (Sum.inr k) (.bl true) = kvT (addN ks k) := by
  unfold addN
  by_cases h : k ∈ ks
  · rw [if_pos h]
    unfold putK
    have hv := valV_T k ks
    rw [decide_eq_true h, ← valV_any] at hv
    rw [if_pos hv]
    have : ∀ l : List Str, (kvT l).map (fun kv => if kv.1 = Sum.inr k then (kv.1, V.bl true) else kv) = kvT l := fun l => by
      unfold kvT
      rw [List.map_map]
      refine List.map_congr_left fun x _ => ?_
      show (if (Sum.inr x : Key) = Sum.inr k then ((Sum.inr x : Key), V.bl true) else (Sum.inr x, V.bl true)) = _
      split <;> rfl
    exact this ks
  · rw [if_neg h, putK_new _ (valV_Tn h), kvT_snoc]
theorem addN_len (ks : List Str) (k : Str) : (addN ks k).length ≤ ks.length + 1 := by
  unfold addN
  split
  · omega
  · rw [List.length_append, List.length_singleton]; exact Nat.le_refl _
abbrev FT := Addr × Str × Str × Option Int
def tellS (s : Kn × List Str) (r : FT) : Kn × List Str := (upK s.1 r.2.1 r.2.2.1 r.2.2.2, if shk (s.1 r.2.1 r.2.2.1) r.2.2.2 = true then addN s.2 r.2.1 else s.2)
def tells (s : Kn × List Str) (l : List FT) : Kn × List Str := l.foldl tellS s
theorem tells_snoc (s : Kn × List Str) (l : List FT) (r : FT) : tells s (l ++ [r]) = tellS (tells s l) r := by
  unfold tells
  rw [List.foldl_append]
  rfl
theorem tells_len (s : Kn × List Str) : ∀ l : List FT, (tells s l).2.length ≤ s.2.length + l.length
  | [] => Nat.le_refl _
  | r :: l => by
    have h := tells_len (tellS s r) l
    have h2 : (tellS s r).2.length ≤ s.2.length + 1 := by
      unfold tellS
      split
      · exact addN_len _ _
      · exact Nat.le_succ _
    show (tells (tellS s r) l).2.length ≤ _
    rw [List.length_cons]
    omega
/-- at fl a list of facts -/
structure FtAt (MU : List Addr) (H : Hp) (fl : Addr) (fs : List FT) : Prop where
  top : H fl = some (.lst (fs.map fun r => V.ref r.1))
  nl : fl ∉ MU
  row : ∀ r ∈ fs, H r.1 = some (.tup [.str r.2.1, .str r.2.2.1, oV r.2.2.2]) ∧ r.1 ∉ MU
theorem FtAt.keep {MU S : List Addr} {H H' : Hp} {fl : Addr} {fs : List FT} (h : FtAt MU H fl fs) (s : SameX S H H') (hS : ∀ a ∈ S, a ∈ MU) : FtAt MU H' fl fs :=
  ⟨s _ _ (fun z => h.nl (hS _ z)) h.top, h.nl, fun r hr => ⟨s _ _ (fun z => (h.row r hr).2 (hS _ z)) (h.row r hr).1, (h.row r hr).2⟩⟩
/-- facts that may be told -/
structure FtOk (A : Ent) (fs : List FT) : Prop where
  k : ∀ r ∈ fs, r.2.1 ∈ keysE (ent A)
  w : ∀ r ∈ fs, NameOk r.2.2.1
  v : ∀ r ∈ fs, ∀ x, r.2.2.2 = some x → 0 ≤ x ∧ x ≤ 2
  nd : (fs.map fun r => (r.2.1, r.2.2.1)).Nodup
  len : fs.length ≤ 100
theorem PrsAt.put {MU : List Addr} {H : Hp} {l sh : Addr} {ps : List (Str × Str)} {kvs : List (L2.Key × V)} {o : HO} (h : PrsAt MU H l ps) (hs : H sh = some (.dK kvs)) : PrsAt MU (upd H sh o) l ps := by
  obtain ⟨rs, h1, h2, h3⟩ := h.ex
  exact ⟨rs, by rw [upd_ne (ne_of h1 hs (by intro z; cases z))]; exact h1, fun r hr => ⟨by rw [upd_ne (ne_of (h2 r hr).1 hs (by intro z; cases z))]; exact (h2 r hr).1, (h2 r hr).2⟩, h3⟩
theorem FactsAt.put {MU : List Addr} {H : Hp} {CF fp he as_ sh : Addr} {tv : V} {g : Kn} {ps : List (Str × Str)} {n : Nat} {kvs : List (L2.Key × V)} {o : HO} (h : FactsAt MU H CF fp he as_ tv g ps n) (hs : H sh = some (.dK kvs)) : FactsAt MU (upd H sh o) CF fp he as_ tv g ps n := by
  obtain ⟨dx, e1⟩ := h.ins
  obtain ⟨hs2, e2, e3, e4⟩ := h.held
  exact ⟨⟨dx, by rw [upd_ne (ne_of e1 hs (by intro z; cases z))]; exact e1⟩, h.nf, h.mh, h.ma, ⟨hs2, by rw [upd_ne (ne_of e2 hs (by intro z; cases z))]; exact e2, e3, e4⟩, h.asked.put hs, h.len⟩
def spTNeed (c : Cs) : Sp := fun vs H Q _ => ∃ (MU : List Addr) (T : TAd) (tv : V) (A Ld : Ent) (g : Kn) (ps : List (Str × Str)) (n : Nat) (fl : Addr) (fs : List FT), vs = [.ref T.tp, .ref fl] ∧ TownAt MU H c T tv A Ld g ps n ∧ FtAt MU H fl fs ∧ FtOk A fs ∧ ∀ H', Same H H' → Q .non H'
def spTMay (c : Cs) : Sp := fun vs H Q _ => ∃ (MU : List Addr) (T : TAd) (tv : V) (A Ld : Ent) (g : Kn) (ps : List (Str × Str)) (n : Nat) (tl fl : Addr) (fs : List FT), vs = [.ref T.tp, .ref tl, .ref fl] ∧ TownAt MU H c T tv A Ld g ps n ∧ Lst H tl [] ∧ FtAt MU H fl fs ∧ FtOk A fs ∧ ∀ H', Same H H' → Q .non H'
def spTTell (c : Cs) : Sp := fun vs H Q _ => ∃ (MU : List Addr) (T : TAd) (tv : V) (A Ld : Ent) (g : Kn) (ps : List (Str × Str)) (n : Nat) (fl : Addr) (fs : List FT), vs = [.ref T.tp, .ref fl] ∧ TownAt MU H c T tv A Ld g ps n ∧ FtAt MU H fl fs ∧ FtOk A fs ∧ n + 100 ≤ 80000 ∧
  ∀ H' sh, SameX [T.he] H H' → H sh = none → H' sh = some (.dK (kvT (tells (g, []) fs).2)) → TownAt MU H' c T tv A Ld (tells (g, []) fs).1 ps (n + fs.length) → Q (.ref sh) H'
section
variable {P : Program} {w : World} {K : PySem.W.Frag} {mg : Str → Option Value} {base : Heap} {f f1 f2 f3 f4 : Addr} {fd fd1 fd2 fd3 fd4 : FuncData} {c : Cs} {CTg : Addr}
theorem scIsTold : FnScope ["one"] ["one"] (defScope sIsTold) := ⟨rfl, rfl, rfl, by decide +kernel, rfl, by decide +kernel, by decide +kernel⟩
theorem ok_isTold (D : DefAt K mg "is_told" sIsTold ["one"] f fd) (D1 : DefAt K mg "is_number" sIsNum ["thing"] f1 fd1) (G1 : FnM P w K mg base CX0 1 f1 fd1 ["thing"] spIsNum) {t1 : Tok} (hF : mg "FIRM" = some (.int 2 t1)) : FnOk P w K mg base CX0 2 f fd ["one"] spIsTold := by
  refine D.F.ok scIsTold (fun vs H Q E h => ?_) (fun cdv A outer s H vs Q E hr h => ?_)
  · obtain ⟨o, rfl, _⟩ := h
    rfl
  · obtain ⟨o, rfl, ho, k⟩ := h
    refine ⟨_, PSs.nox (pss_one (ps_ret (pe_or (pe_cmpR op_isN (pv 0) pe_non (nomark _)) (pe_one (pe_and (pe_call G1.cold hr rfl D1.g D1.F.kp D1.b .nil pass0 (pa_cons (pv 0) pa_nil)) (pe_one (pe_chain op_le op_le pe_int (pv 0) (pe_glob (v := .int 2) rfl hF ⟨_, rfl⟩)))))))), ?_⟩
    cases o with
    | none => exact ⟨_, rfl, rfl, _, rfl, iteT k⟩
    | some v =>
      obtain ⟨h0, h2⟩ := ho v rfl
      refine ⟨_, rfl, rfl, _, rfl, iteF ⟨_, rfl, v, rfl, _, rfl, iteT ⟨_, rfl, _, _, rfl, rfl, _, rfl, ?_⟩⟩⟩
      rw [decide_eq_true h0]
      refine iteT ⟨_, _, rfl, rfl, ?_⟩
      show Q (.bl (decide (v ≤ 2))) H
      rw [decide_eq_true h2]
      exact k
theorem scIsShk : FnScope ["was", "one"] ["was", "one"] (defScope sIsShk) := ⟨rfl, rfl, rfl, by decide +kernel, rfl, by decide +kernel, by decide +kernel⟩
theorem ok_isShk (D : DefAt K mg "is_shaken" sIsShk ["was", "one"] f fd) : FnOk P w K mg base CX0 1 f fd ["was", "one"] spIsShk := by
  refine D.F.ok scIsShk (fun vs H Q E h => ?_) (fun cdv A outer s H vs Q E hr h => ?_)
  · obtain ⟨a, b, rfl, _⟩ := h
    rfl
  · obtain ⟨a, b, rfl, k⟩ := h
    refine ⟨_, PSs.nox (pss_one (ps_ret (pe_and (pe_cmpR op_notN (pv 0) pe_non (nomark _)) (pe_one (pe_cmpR op_ne (pv 0) (pv 1) (nomark _)))))), ?_⟩
    cases a with
    | none => exact ⟨_, rfl, rfl, _, rfl, iteF k⟩
    | some v =>
      refine ⟨_, rfl, rfl, _, rfl, iteT ⟨_, rfl, _, rfl, scal_oV (some v) b, ?_⟩⟩
      have e : decide (oV (some v) = oV b) = decide (some v = b) := by
        by_cases z : some v = b
        · rw [decide_eq_true z, decide_eq_true (oV_inj.mpr z)]
        · rw [decide_eq_false z, decide_eq_false fun y => z (oV_inj.mp y)]
      rw [e]
      exact k
theorem scTNeed : FnScope ["self", "facts", "ahead", "kind", "word", "one"] ["self", "facts"] (defScope sTNeed) := ⟨rfl, rfl, rfl, by decide +kernel, rfl, by decide +kernel, by decide +kernel⟩
theorem ok_tneed (T : TCls K c.CT) (D : MethD K c.CT "need_facts" "Town.need_facts" sTNeed ["self", "facts"] f fd) (D1 : DefAt K mg "is_name" sIsName ["thing"] f1 fd1) (G1 : FnM P w K mg base CX0 1 f1 fd1 ["thing"] spIsName)
    (D2 : DefAt K mg "is_told" sIsTold ["one"] f2 fd2) (G2 : FnOk P w K mg base CX0 2 f2 fd2 ["one"] spIsTold) : FnOk P w K mg base CX0 3 f fd ["self", "facts"] (spTNeed c) := by
  have G1' := (G1.mono (show 1 ≤ 2 by decide)).cold
  refine D.F.ok scTNeed (fun vs H Q E h => ?_) (fun cdv A outer s H vs Q E hr h => ?_)
  · obtain ⟨MU, T, tv, A, Ld, g, ps, n, fl, fs, rfl, _⟩ := h
    rfl
  · obtain ⟨MU, T', tv, A', Ld, g, ps, n, fl, fs, rfl, hT, hF, hO, k⟩ := h
    obtain ⟨dx, num, h1⟩ := hT.ins
    obtain ⟨ms, h2, h3⟩ := hT.marks
    have hu : (A.deeper (envOfC "Town.need_facts" (defScope sTNeed) s.heap.objs.size f cdv)).units + 1 < cLine := hu_of hr
    refine ⟨_, PSs.nox (pss_cons (ps_set (i := 2) scTNeed.nd rfl (Or.inl rfl) pe_dnewT)
      (pss_one (ps_for PassesOwn.never rfl (pi_list (pv 1)) (pg_tup rfl (pgs_cons (pg_name (i := 3) scTNeed.nd rfl (Or.inl rfl)) (pgs_cons (pg_name (i := 4) scTNeed.nd rfl (Or.inl rfl)) (pgs_cons (pg_name (i := 5) scTNeed.nd rfl (Or.inl rfl)) pgs_nil))))
        (pss_cons (ps_if (pt_cmp (pc_dnotin hu (pv 3) (pe_fld (pv 0) rfl))) pss_never pss_nil)
        (pss_cons (ps_if (pt_not (pt_val (pe_call G1' hr rfl D1.g D1.F.kp D1.b .nil pass0 (pa_cons (pv 4) pa_nil)))) pss_never pss_nil)
        (pss_cons (ps_if (pt_not (pt_val (pe_call G2 hr rfl D2.g D2.F.kp D2.b .nil pass0 (pa_cons (pv 5) pa_nil)))) pss_never pss_nil)
        (pss_cons (ps_if (pt_cmp (pc_din hu (pe_tup (pa_cons (pv 3) (pa_cons (pv 4) pa_nil))) (pv 2))) pss_never pss_nil)
        (pss_one (ps_dput hu (pv 2) (pe_tup (pa_cons (pv 3) (pa_cons (pv 4) pa_nil))) pe_bl rfl))))))))), ?_⟩
    refine fun ah hah => ⟨_, rfl, fl, rfl, ⟨_, SqL.of ((Same.nw hah) _ _ hF.top)⟩, for_list (K := K) (a := fl) (xs := fs.map fun r => V.ref r.1) (fun i σ H' => ∃ v1 v2 v3 hs, σ = [some (.ref T'.tp), some (.ref fl), some (.ref ah), v1, v2, v3] ∧ Same H H' ∧ H' ah = some (.dT hs) ∧ hs.length ≤ i ∧ ∀ k w, (valV hs (k2 k w)).isSome = true → (k, w) ∈ (fs.take i).map fun r => (r.2.1, r.2.2.1))
      ⟨_, _, _, [], rfl, Same.nw hah, upd_same, Nat.le_refl _, fun k w h => by cases h⟩ (fun i σ H' _ ⟨_, _, _, _, _, s1, _⟩ => s1.seq (SqL.of hF.top)) ?_ ?_⟩
    · intro i y σ H' hi ⟨v1, v2, v3, hs, eσ, s1, ha, hl, hk⟩
      subst eσ
      obtain ⟨r, hrr, rfl⟩ := map_get hi
      have hrm := List.mem_of_getElem? hrr
      have hil := (List.getElem?_eq_some_iff.mp hrr).1
      have hlen := hO.len
      refine ⟨r.1, _, rfl, SqT.of (s1 _ _ (hF.row r hrm).1), rfl, _, _, rfl, _, _, rfl, _, _, rfl, rfl, ?_⟩
      refine ⟨_, rfl, _, rfl, T'.tp, c.CT, dx, _, _, rfl, s1 _ _ h1, T.cl, T.n3, rfl, T'.mks, _, rfl, DGet.k (k := Sum.inr r.2.1) (s1 _ _ h2), _, rfl, ?_⟩
      rw [marks_in (by rw [h3]; exact hO.k r hrm)]
      refine iteF ⟨_, rfl, r.2.2.1, rfl, hO.w r hrm, _, rfl, iteF ⟨_, rfl, r.2.2.2, rfl, hO.v r hrm, _, rfl, iteF ⟨_, rfl, _, rfl, sz2, fun t nt => ?_⟩⟩⟩
      have hat : ah ≠ t := ne_of_none ha nt
      have ha2 : (upd H' t (.tup [.str r.2.1, .str r.2.2.1])) ah = some (.dT hs) := by rw [upd_ne hat]; exact ha
      refine ⟨_, rfl, ah, _, rfl, DGet.t (k := k2 r.2.1 r.2.2.1) ha2 upd_same, _, rfl, ?_⟩
      have hno : (valV hs (k2 r.2.1 r.2.2.1)).isSome = false := by
        cases e : (valV hs (k2 r.2.1 r.2.2.1)).isSome with
        | false => rfl
        | true =>
          exfalso
          have hin := hk _ _ e
          have h5 : ((fs.take (i + 1)).map fun r => (r.2.1, r.2.2.1)).Nodup := by
            rw [List.map_take]
            exact hO.nd.sublist (List.take_sublist _ _)
          rw [take_snoc hrr, List.map_append] at h5
          exact (List.nodup_append.mp h5).2.2 _ hin _ (List.mem_singleton_self _) rfl
      rw [hno]
      refine iteF ⟨_, rfl, _, rfl, _, rfl, sz2, fun t2 nt2 => ?_⟩
      have hat2 : ah ≠ t2 := ne_of_none ha2 nt2
      refine ⟨ah, _, rfl, DPut.t (b := t2) (k := k2 r.2.1 r.2.2.1) (by rw [upd_ne hat2]; exact ha2) upd_same (size_lt (by omega)), _, _, _, _, rfl, ((s1.nw2 nt).nw2 nt2).old2 hah, upd_same, Nat.le_trans putT_len (Nat.succ_le_succ hl), fun k w h => ?_⟩
      rw [valV_put] at h
      rw [take_snoc hrr, List.map_append]
      by_cases e : k2 k w = k2 r.2.1 r.2.2.1
      · obtain ⟨rfl, rfl⟩ := k2_inj.mp e
        exact List.mem_append_right _ (List.mem_singleton_self _)
      · rw [if_neg e] at h
        exact List.mem_append_left _ (hk k w h)
    · intro σ H' ⟨v1, v2, v3, hs, eσ, s1, _⟩
      exact k H' s1
theorem scTMay : FnScope ["self", "turns", "facts"] ["self", "turns", "facts"] (defScope sTMay) := ⟨rfl, rfl, rfl, by decide +kernel, rfl, by decide +kernel, by decide +kernel⟩
theorem ok_tmay (T : TCls K c.CT) (TH : HCls K c.CH) (D : MethD K c.CT "may_shift" "Town.may_shift" sTMay ["self", "turns", "facts"] f fd) (D1 : MethD K c.CH "may_turn" "House.may_turn" sHMay ["self", "turns"] f1 fd1) (D2 : MethD K c.CT "need_facts" "Town.need_facts" sTNeed ["self", "facts"] f2 fd2)
    (G2 : FnOk P w K mg base CX0 3 f2 fd2 ["self", "facts"] (spTNeed c)) : FnOk P w K mg base CX0 4 f fd ["self", "turns", "facts"] (spTMay c) := by
  have G1 : FnOk P w K mg base CX0 3 f1 fd1 ["self", "turns"] (spHMay true) := ((ok_hmay D1).mono (show 1 ≤ 3 by decide)).cold
  refine D.F.ok scTMay (fun vs H Q E h => ?_) (fun cdv A outer s H vs Q E hr h => ?_)
  · obtain ⟨MU, T, tv, A, Ld, g, ps, n, tl, fl, fs, rfl, _⟩ := h
    rfl
  · obtain ⟨MU, T', tv, A', Ld, g, ps, n, tl, fl, fs, rfl, hT, ht, hF, hO, k⟩ := h
    obtain ⟨dx, num, h1⟩ := hT.ins
    obtain ⟨dxh, lst, ab, ld, h4, _⟩ := hT.house.ins
    refine ⟨_, PSs.nox (pss_cons (ps_expr (pe_meth (pe_fld (pv 0) rfl) TH.cl D1.m G1 hr D1.b .nil pass0 (pa_cons (pv 1) pa_nil)))
      (pss_one (ps_expr (pe_meth (pv 0) T.cl D2.m G2 hr D2.b .nil pass0 (pa_cons (pv 2) pa_nil))))), ?_⟩
    refine ⟨_, rfl, T'.tp, c.CT, dx, _, _, rfl, h1, T.cl, T.n1, rfl, T'.hp, dxh, _, rfl, h4, rfl, _, rfl, rfl, T'.hp, tl, rfl, ht, fun H1 s1 => ?_⟩
    exact ⟨_, rfl, T'.tp, dx, _, rfl, s1 _ _ h1, rfl, _, rfl, MU, T', tv, A', Ld, g, ps, n, fl, fs, rfl, hT.same s1, hF.keep (SameX.of (S := []) s1) (by simp), hO, fun H2 s2 => k H2 (s1.trans s2)⟩
theorem scTTell : FnScope ["self", "facts", "shaken", "kind", "word", "one"] ["self", "facts"] (defScope sTTell) := ⟨rfl, rfl, rfl, by decide +kernel, rfl, by decide +kernel, by decide +kernel⟩
theorem ok_ttell (T : TCls K c.CT) (TF : FCls K c.CF) (D : MethD K c.CT "tell_facts" "Town.tell_facts" sTTell ["self", "facts"] f fd) (D1 : DefAt K mg "is_shaken" sIsShk ["was", "one"] f1 fd1) (D2 : MethD K c.CF "known" "Facts.known" sFKnown ["self", "kind", "word"] f2 fd2)
    (D3 : MethD K c.CF "forget" "Facts.forget" sFForget ["self", "kind", "word"] f3 fd3) (D4 : MethD K c.CF "tell" "Facts.tell" sFTell ["self", "kind", "word", "one"] f4 fd4) {f5 : Addr} {fd5 : FuncData} (D5 : DefAt K mg "is_number" sIsNum ["thing"] f5 fd5) (G5 : FnM P w K mg base CX0 1 f5 fd5 ["thing"] spIsNum) :
    FnOk P w K mg base CX0 3 f fd ["self", "facts"] (spTTell c) := by
  have G1 : FnOk P w K mg base CX0 2 f1 fd1 ["was", "one"] spIsShk := (ok_isShk D1).mono (by decide)
  have G2 : FnOk P w K mg base CX0 2 f2 fd2 ["self", "kind", "word"] (spFKnown c.CF) := (ok_fknown TF D2).mono (by decide)
  have G3 : FnOk P w K mg base CX0 2 f3 fd3 ["self", "kind", "word"] (spFForget c.CF) := (ok_fforget TF D3).mono (by decide)
  have G4 : FnOk P w K mg base CX0 2 f4 fd4 ["self", "kind", "word", "one"] (spFTell c.CF) := ok_ftell TF D4 D5 G5
  refine D.F.ok scTTell (fun vs H Q E h => ?_) (fun cdv A outer s H vs Q E hr h => ?_)
  · obtain ⟨MU, T, tv, A, Ld, g, ps, n, fl, fs, rfl, _⟩ := h
    rfl
  · obtain ⟨MU, T', tv, A', Ld, g, ps, n, fl, fs, rfl, hT, hF, hO, hn, k⟩ := h
    have hu : (A.deeper (envOfC "Town.tell_facts" (defScope sTTell) s.heap.objs.size f cdv)).units + 1 < cLine := hu_of hr
    refine ⟨_, PSs.nox (pss_cons (ps_set (i := 2) scTTell.nd rfl (Or.inl rfl) pe_dnewK)
      (pss_cons (ps_for PassesOwn.never rfl (pi_list (pv 1)) (pg_tup rfl (pgs_cons (pg_name (i := 3) scTTell.nd rfl (Or.inl rfl)) (pgs_cons (pg_name (i := 4) scTTell.nd rfl (Or.inl rfl)) (pgs_cons (pg_name (i := 5) scTTell.nd rfl (Or.inl rfl)) pgs_nil))))
        (pss_cons (ps_if (pt_val (pe_call G1 hr rfl D1.g D1.F.kp D1.b .nil pass0 (pa_cons (pe_meth (pe_fld (pv 0) rfl) TF.cl D2.m G2 hr D2.b .nil pass0 (pa_cons (pv 3) (pa_cons (pv 4) pa_nil))) (pa_cons (pv 5) pa_nil)))) (pss_one (ps_dput hu (pv 2) (pv 3) pe_bl rfl)) pss_nil)
        (pss_one (ps_if (pt_cmpR op_isN (pv 5) pe_non (nomark _)) (pss_one (ps_expr (pe_meth (pe_fld (pv 0) rfl) TF.cl D3.m G3 hr D3.b .nil pass0 (pa_cons (pv 3) (pa_cons (pv 4) pa_nil)))))
          (pss_one (ps_expr (pe_meth (pe_fld (pv 0) rfl) TF.cl D4.m G4 hr D4.b .nil pass0 (pa_cons (pv 3) (pa_cons (pv 4) (pa_cons (pv 5) pa_nil))))))))))
      (pss_one (ps_ret (pv 2))))), ?_⟩
    obtain ⟨a1, a2, a3, a4, a5, a6, a7, a8, a9, a10⟩ := hT.ap
    obtain ⟨dx, num, h1⟩ := hT.ins
    obtain ⟨dxf, h4⟩ := hT.facts.ins
    obtain ⟨ms, h2, h3⟩ := hT.marks
    have nfl : fl ≠ T'.he := fun z => hF.nl (by rw [z]; exact hT.facts.mh)
    have nfp : T'.fp ≠ T'.he := fun z => hT.facts.nf (by rw [z]; exact hT.facts.mh)
    refine fun sh hsh => ⟨_, rfl, fl, rfl, ⟨_, SqL.of ((Same.nw hsh) _ _ hF.top)⟩, for_list (K := K) (a := fl) (xs := fs.map fun r => V.ref r.1) (fun i σ H' => ∃ v1 v2 v3, σ = [some (.ref T'.tp), some (.ref fl), some (.ref sh), v1, v2, v3] ∧ SameX [T'.he] H H' ∧ H' sh = some (.dK (kvT (tells (g, []) (fs.take i)).2)) ∧ FactsAt MU H' c.CF T'.fp T'.he T'.as_ tv (tells (g, []) (fs.take i)).1 ps (n + i))
      ⟨_, _, _, rfl, (SameX.refl _ _).nw hsh, upd_same, hT.facts.keep (S := []) (SameX.of (Same.nw hsh)) (by simp) (by simp) (by simp)⟩ (fun i σ H' _ ⟨_, _, _, _, s1, _⟩ => SqL.of (s1 _ _ (by simpa using nfl) hF.top)) ?_ ?_⟩
    · intro i y σ H' hi ⟨v1, v2, v3, eσ, s1, hs, hT1⟩
      subst eσ
      obtain ⟨r, hrr, rfl⟩ := map_get hi
      have hrm := List.mem_of_getElem? hrr
      have hil := (List.getElem?_eq_some_iff.mp hrr).1
      have hlen := hO.len
      have hF1 := hF.keep s1 (by simp [hT.facts.mh])
      have hsm : sh ≠ T'.he := fun z => by
        obtain ⟨hs2, e, _⟩ := hT.facts.held
        rw [z, e] at hsh
        cases hsh
      have f1 := s1 _ _ (by simpa using a3) h1
      have f4 := s1 _ _ (by simpa using nfp) h4
      refine ⟨r.1, _, rfl, SqT.of (hF1.row r hrm).1, rfl, _, _, rfl, _, _, rfl, _, _, rfl, rfl, ?_⟩
      refine ⟨_, rfl, T'.tp, c.CT, dx, _, _, rfl, f1, T.cl, T.n2, rfl, T'.fp, dxf, _, rfl, f4, rfl, _, rfl, _, rfl, MU, T'.fp, T'.he, T'.as_, tv, _, ps, n + i, r.2.1, r.2.2.1, rfl, hT1, fun H2 s2 => ?_⟩
      have hs2 := s2 _ _ hs
      have hT2 := hT1.keep (S := []) (SameX.of s2) (by simp) (by simp) (by simp)
      have etk : tells (g, []) (fs.take (i + 1)) = tellS (tells (g, []) (fs.take i)) r := by rw [take_snoc hrr, tells_snoc]
      have fin : ∀ (D : Ends) (H3 : Hp), D.nx = (fun σ H' => ∃ v1 v2 v3, σ = [some (.ref T'.tp), some (.ref fl), some (.ref sh), v1, v2, v3] ∧ SameX [T'.he] H H' ∧ H' sh = some (.dK (kvT (tells (g, []) (fs.take (i + 1))).2)) ∧ FactsAt MU H' c.CF T'.fp T'.he T'.as_ tv (tells (g, []) (fs.take (i + 1))).1 ps (n + (i + 1))) →
          SameX [T'.he] H H3 → H3 sh = some (.dK (kvT (tells (g, []) (fs.take (i + 1))).2)) → FactsAt MU H3 c.CF T'.fp T'.he T'.as_ tv (tells (g, []) (fs.take i)).1 ps (n + i) →
          tIfS (tTest (tOp rIsN (tVar 5) (tC .non))) (tDrop (tMeth c.CF "forget" (spFForget c.CF) [] E0 (tFld K (tVar 0) "facts") (tCons (tVar 3) (tCons (tVar 4) tNil)))) (tDrop (tMeth c.CF "tell" (spFTell c.CF) [] E0 (tFld K (tVar 0) "facts") (tCons (tVar 3) (tCons (tVar 4) (tCons (tVar 5) tNil)))))
          D [some (.ref T'.tp), some (.ref fl), some (.ref sh), some (.str r.2.1), some (.str r.2.2.1), some (oV r.2.2.2)] H3 := fun D H3 hD s3 hs3 hT3 => by
        have q1 := s3 _ _ (by simpa using a3) h1
        have q4 := s3 _ _ (by simpa using nfp) h4
        refine ⟨_, rfl, rfl, _, rfl, ?_⟩
        cases ho : r.2.2.2 with
        | none =>
          refine iteT ⟨_, rfl, T'.tp, c.CT, dx, _, _, rfl, q1, T.cl, T.n2, rfl, T'.fp, dxf, _, rfl, q4, rfl, _, rfl, _, rfl, MU, T'.fp, T'.he, T'.as_, tv, _, ps, n + i, r.2.1, r.2.2.1, rfl, hT3, fun H4 s4 hT4 => ?_⟩
          show D.nx _ _
          rw [hD]
          refine ⟨_, _, _, rfl, s3.trans s4, s4 _ _ (by simpa using hsm) hs3, ?_⟩
          rw [etk]
          have e : (tellS (tells (g, []) (fs.take i)) r).1 = upK (tells (g, []) (fs.take i)).1 r.2.1 r.2.2.1 none := by
            unfold tellS
            rw [ho]
          rw [e]
          exact hT4.mono (by omega)
        | some v =>
          obtain ⟨v0, v2⟩ := hO.v r hrm v ho
          refine iteF ⟨_, rfl, T'.tp, c.CT, dx, _, _, rfl, q1, T.cl, T.n2, rfl, T'.fp, dxf, _, rfl, q4, rfl, _, rfl, _, rfl, _, rfl, MU, T'.fp, T'.he, T'.as_, tv, _, ps, n + i, r.2.1, r.2.2.1, v, rfl, hT3, by omega, v0, v2, fun H4 s4 hT4 => ?_⟩
          show D.nx _ _
          rw [hD]
          refine ⟨_, _, _, rfl, s3.trans s4, s4 _ _ (by simpa using hsm) hs3, ?_⟩
          rw [etk]
          have e : (tellS (tells (g, []) (fs.take i)) r).1 = upK (tells (g, []) (fs.take i)).1 r.2.1 r.2.2.1 (some v) := by
            unfold tellS
            rw [ho]
          rw [e]
          exact hT4
      refine ⟨_, rfl, _, _, rfl, _, rfl, ?_⟩
      have e2 : (tells (g, []) (fs.take (i + 1))).2 = if shk ((tells (g, []) (fs.take i)).1 r.2.1 r.2.2.1) r.2.2.2 = true then addN (tells (g, []) (fs.take i)).2 r.2.1 else (tells (g, []) (fs.take i)).2 := by rw [etk]; rfl
      cases hk : shk ((tells (g, []) (fs.take i)).1 r.2.1 r.2.2.1) r.2.2.2 with
      | false =>
        rw [hk, if_neg Bool.false_ne_true] at e2
        refine iteF ?_
        exact fin _ H2 rfl (s1.step s2) (by rw [e2]; exact hs2) hT2
      | true =>
        rw [hk, if_pos rfl] at e2
        have hll := tells_len (g, []) (fs.take i)
        rw [List.length_take] at hll
        have hll2 : (tells (g, []) (fs.take i)).2.length ≤ 100 := by
          have : ([] : List Str).length = 0 := rfl
          simp only [List.length_nil] at hll
          omega
        refine iteT ⟨_, rfl, _, rfl, sh, _, rfl, DPut.k (k := Sum.inr r.2.1) hs2 (size_lt (by rw [List.length_map]; omega)), ?_⟩
        rw [addN_put, ← e2]
        exact fin _ _ rfl ((s1.step s2).old hsh) upd_same (hT2.put hs2)
    · intro σ H' ⟨v1, v2, v3, eσ, s1, hs, hT1⟩
      subst eσ
      rw [List.length_map] at hT1
      rw [List.length_map, List.take_length] at hs
      rw [List.take_length] at hT1
      have sub : ∀ a ∈ [T'.he], a ∈ MU := by simp [hT.facts.mh]
      exact ⟨_, rfl, k H' sh s1 hsh hs ⟨⟨dx, num, s1 _ _ (by simpa using a3) h1⟩, hT.house.keep s1 sub (by simpa using a6), hT1, ⟨ms, s1 _ _ (by simpa using a8) h2, h3⟩, hT.mt, hT.mh, hT.mm, hT.ne⟩⟩
end
end TM
set_option maxRecDepth 100000
set_option maxHeartbeats 4000000
/-! Town.shift. -/
namespace TM
open PySem PySem.Spec PyProof.Rows L2 LamX NdefX
def touchedF (ks : List Str) (Ld : Ent) (l : List Str) : List Str := l.filter fun nm => (lookL (ent Ld) nm).any fun k => decide (k ∈ ks)
theorem putR_in {k : Str} {v : V} : ∀ {ms : List (Str × V)}, k ∈ ms.map (·.1) → ∃ ms', putK (kvR ms) (Sum.inr k) v = kvR ms' ∧ ms'.map (·.1) = ms.map (·.1) := fun {ms} h => by
  refine ⟨ms.map fun e => if e.1 = k then (e.1, v) else e, ?_, ?_⟩
  · unfold putK
    have hv := marks_in h
    rw [← valV_any] at hv
    rw [if_pos hv]
    unfold kvR
    rw [List.map_map, List.map_map]
    refine List.map_congr_left fun e _ => ?_
    show (if (Sum.inr e.1 : L2.Key) = Sum.inr k then ((Sum.inr e.1 : L2.Key), v) else (Sum.inr e.1, e.2)) = (Sum.inr (if e.1 = k then (e.1, v) else e).1, (if e.1 = k then (e.1, v) else e).2)
    by_cases z : e.1 = k
    · rw [if_pos z, if_pos (by rw [z])]
    · rw [if_neg z, if_neg (fun y => z (Sum.inr.inj y))]
  · rw [List.map_map]
    refine List.map_congr_left fun e _ => ?_
    show (if e.1 = k then (e.1, v) else e).1 = e.1
    split <;> rfl
theorem HouseAt.lineOk {MU : List Addr} {H : Hp} {CH hp : Addr} {A Ld : Ent} (h : HouseAt MU H CH hp A Ld) {x : Str} (hx : x ∈ keysE (ent A)) : (∀ y ∈ lookL (ent Ld) x, Asc y ∧ y ∈ keysE (ent A)) ∧ (lookL (ent Ld) x).length ≤ 12 ∧ (lookL (ent Ld) x).Nodup := by
  obtain ⟨p, hp2, hpm⟩ := lookup_some (L := Ld) (x := x) (by rw [h.keys]; exact hx)
  have e4 : lookL (ent Ld) x = p.2 := by
    unfold lookL
    rw [ent_lookup, hp2]
    rfl
  rw [e4]
  have gd := linesF_good h.wf h.lines
  obtain ⟨g1, _, g3⟩ := gd.2 (x, p.2) (List.mem_map.mpr ⟨(x, p), hpm, rfl⟩)
  refine ⟨fun y hy => ⟨h.rL.asc _ hpm y hy, by rw [← h.keys]; exact g3 y hy⟩, ?_, g1⟩
  have : p.2.length ≤ (keysE (ent Ld)).length := nodup_le g1 g3
  rw [h.keys, keys_len] at this
  have h2 := h.len
  omega
def spTShift (c : Cs) : Sp := fun vs H Q _ => ∃ (MU : List Addr) (T : TAd) (tv : V) (A Ld : Ent) (g : Kn) (ps : List (Str × Str)) (n : Nat) (tl fl : Addr) (fs : List FT), vs = [.ref T.tp, .ref tl, .ref fl] ∧ TownAt MU H c T tv A Ld g ps n ∧ MuOk MU H ∧ Lst H tl [] ∧ tl ∉ MU ∧ FtAt MU H fl fs ∧ FtOk A fs ∧ n + 100 ≤ 80000 ∧
  ∀ H' Ld' rl, SameX T.mu H H' → TownAt MU H' c T tv A Ld' (tells (g, []) fs).1 ps (n + fs.length) → ent Ld' = ent Ld → H rl = none → Lst H' rl (touchedF (tells (g, []) fs).2 Ld (keysE (ent A))) → Q (.ref rl) H'
section
variable {P : Program} {w : World} {K : PySem.W.Frag} {mg : Str → Option Value} {base : Heap} {f f1 f2 f3 f4 f5 : Addr} {fd fd1 fd2 fd3 fd4 fd5 : FuncData} {c : Cs}
abbrev nShift : List Str := ["self", "turns", "facts", "name", "lines", "shaken", "touched", "line", "kind"]
theorem scTShift : FnScope nShift ["self", "turns", "facts"] (defScope sTShift) := ⟨rfl, rfl, rfl, by decide +kernel, rfl, by decide +kernel, by decide +kernel⟩
theorem ok_tshift (T : TCls K c.CT) (TH : HCls K c.CH) (D : MethD K c.CT "shift" "Town.shift" sTShift ["self", "turns", "facts"] f fd)
    (D1 : MethD K c.CT "may_shift" "Town.may_shift" sTMay ["self", "turns", "facts"] f1 fd1) (G1 : FnOk P w K mg base CX0 4 f1 fd1 ["self", "turns", "facts"] (spTMay c))
    (D2 : MethD K c.CT "line" "Town.line" sTLine ["self", "name"] f2 fd2) (G2 : FnOk P w K mg base CX0 3 f2 fd2 ["self", "name"] (spTLine c))
    (D3 : MethD K c.CT "kinds" "Town.kinds" sTKinds ["self"] f3 fd3) (G3 : FnOk P w K mg base CX0 2 f3 fd3 ["self"] (spTKinds c))
    (D4 : MethD K c.CH "turn_all" "House.turn_all" sHTurn ["self", "turns"] f4 fd4) (G4 : FnM P w K mg base CX0 6 f4 fd4 ["self", "turns"] (spHTurn c.CH))
    (D5 : MethD K c.CT "tell_facts" "Town.tell_facts" sTTell ["self", "facts"] f5 fd5) (G5 : FnOk P w K mg base CX0 3 f5 fd5 ["self", "facts"] (spTTell c)) (hAn : mg "any" = none) :
    FnOk P w K mg base CX0 7 f fd ["self", "turns", "facts"] (spTShift c) := by
  have G1' : FnOk P w K mg base CX0 6 f1 fd1 ["self", "turns", "facts"] (spTMay c) := G1.mono (by decide)
  have G2' : FnOk P w K mg base CX0 6 f2 fd2 ["self", "name"] (spTLine c) := G2.mono (by decide)
  have G3' : FnOk P w K mg base CX0 6 f3 fd3 ["self"] (spTKinds c) := G3.mono (by decide)
  have G5' : FnOk P w K mg base CX0 6 f5 fd5 ["self", "facts"] (spTTell c) := G5.mono (by decide)
  refine D.F.ok scTShift (fun vs H Q E h => ?_) (fun cdv A outer s H vs Q E hr h => ?_)
  · obtain ⟨MU, T, tv, A, Ld, g, ps, n, tl, fl, fs, rfl, _⟩ := h
    rfl
  · obtain ⟨MU, T', tv, A', Ld, g, ps, n, tl, fl, fs, rfl, hT, hMU, ht, htm, hF, hO, hn, k⟩ := h
    have hu : (A.deeper (envOfC "Town.shift" (defScope sTShift) s.heap.objs.size f cdv)).units + 1 < cLine := hu_of hr
    have hu64 := roomM_64 (L2H.roomH_of hr)
    obtain ⟨a1, a2, a3, a4, a5, a6, a7, a8, a9, a10⟩ := hT.ap
    refine ⟨_, PSs.nox (pss_cons (ps_expr (pe_meth (pv 0) T.cl D1.m G1' hr D1.b .nil pass0 (pa_cons (pv 1) (pa_cons (pv 2) pa_nil))))
      (pss_cons (ps_setLcM (i := 4) (own := [("name", 3)]) (g := gName 3) (te := tTup (tCons (tVar 3) (tCons (tMeth c.CT "line" (spTLine c) [] E0 (tVar 0) (tCons (tVar 3) tNil)) tNil))) (.inl rfl) scTShift.nd rfl rfl (sw_true rfl rfl rfl (by decide +kernel)) (pm_list (pe_meth0 (pv 0) T.cl D3.m G3' hr D3.b .nil pass0)) (blkOk_by (N := nShift) (sc := defScope sTShift) (by decide +kernel)) (fun _ _ _ _ _ => pg_name (i := 3) scTShift.nd rfl (Or.inl rfl)) (fun _ _ _ _ _ => pts_nil)
        (fun _ _ _ _ _ => by exact (pe_tup (pa_cons (pv 3) (pa_cons (pe_meth (pv 0) T.cl D2.m G2' hr D2.b .nil pass0 (pa_cons (pv 3) pa_nil)) pa_nil)))))
      (pss_cons (ps_expr (pe_meth (pe_fld (pv 0) rfl) TH.cl D4.m G4.cold hr D4.b .nil pass0 (pa_cons (pv 1) pa_nil)))
      (pss_cons (ps_set (i := 5) scTShift.nd rfl (Or.inr rfl) (pe_meth (pv 0) T.cl D5.m G5' hr D5.b .nil pass0 (pa_cons (pv 2) pa_nil)))
      (pss_cons (ps_fldaug (pv 0) pe_int in_add)
      (pss_cons (ps_set (i := 6) scTShift.nd rfl (Or.inl rfl) (pe_lst pa_nil))
      (pss_cons (ps_for PassesOwn.never rfl (pi_list (pv 4)) (pg_tup rfl (pgs_cons (pg_name (i := 3) scTShift.nd rfl (Or.inl rfl)) (pgs_cons (pg_name (i := 7) scTShift.nd rfl (Or.inl rfl)) pgs_nil)))
        (pss_one (ps_if (PW.pt (pw_or (pt_cmpR (op_neD hu64) (pv 7) (pe_meth (pv 0) T.cl D2.m G2' hr D2.b .nil pass0 (pa_cons (pv 3) pa_nil)) (nomark _))
            (pw_or1 (pt_val (pe_callB (cm_any (.inl rfl)) rfl hAn (by decide +kernel) (pa_cons (pe_lcM (own := [("kind", 8)]) (g := gName 8) (te := tDIn (tVar 8) (tVar 5)) (.inl rfl) scTShift.nd (pm_list (pv 7)) (blkOk_by (N := nShift) (sc := defScope sTShift) (by decide +kernel)) (fun _ _ _ _ _ => pg_name (i := 8) scTShift.nd rfl (Or.inl rfl)) (fun _ _ _ _ _ => pts_nil) (fun _ _ _ _ _ => by exact (pe_cmp (pc_din hu (pv 8) (pv 5)) rfl))) pa_nil))))))
          (pss_cons (ps_dput hu (pe_fld (pv 0) rfl) (pv 3) (pe_fld (pv 0) rfl) rfl) (pss_one (ps_expr (pe_bm PySem.F.plainAttrs_list PySem.F.slot_list_append PySem.F.type_list_append mt_append (pv 6) (pa_cons (pv 3) pa_nil))))) pss_nil)))
      (pss_one (ps_ret (pv 6)))))))))), ?_⟩
    obtain ⟨dx0, num0, i0⟩ := hT.ins
    refine ⟨_, rfl, T'.tp, dx0, _, rfl, i0, rfl, _, rfl, _, rfl, MU, T', tv, A', Ld, g, ps, n, tl, fl, fs, rfl, hT, ht, hF, hO, fun H1 s1 => ?_⟩
    have hT1 := hT.same s1
    refine ⟨_, rfl, T'.tp, dx0, _, rfl, s1 _ _ i0, rfl, MU, T', tv, A', Ld, g, ps, n, rfl, hT1, fun H2 kl s2 nkl hkl => ⟨kl, rfl, ⟨_, SqL.of hkl⟩, fun ll hll => lc_list (K := K) (a := kl) (xs := vstr (keysE (ent A')))
      (fun i H' => ∃ rs : List (Addr × Addr × Str), H' ll = some (.lst (rs.map fun r => V.ref r.1)) ∧ rs.map (·.2.2) = (keysE (ent A')).take i ∧ (∀ r ∈ rs, H' r.1 = some (.tup [.str r.2.2, .ref r.2.1]) ∧ Lst H' r.2.1 (lookL (ent Ld) r.2.2) ∧ r.2.1 ≠ ll ∧ H r.1 = none ∧ H r.2.1 = none) ∧ Same H2 H')
      ⟨[], upd_same, rfl, (fun p hp => by cases hp), Same.nw hll⟩ (fun i H' _ ⟨_, _, _, _, s3⟩ => s3.seq (SqL.of hkl)) ?_ ?_⟩⟩
    · intro i y H' hi ⟨rs, b1, b2, b3, s3⟩
      obtain ⟨x, hx, rfl⟩ := map_get hi
      have s4 : Same H H' := (s1.trans s2).trans s3
      have hxm : x ∈ keysE (ent A') := List.mem_of_getElem? hx
      refine ⟨rfl, _, rfl, _, rfl, T'.tp, dx0, _, rfl, s4 _ _ i0, rfl, _, rfl, MU, T', tv, A', Ld, g, ps, n, x, rfl, hT.same s4, hxm, fun H3 la s5 nla hla => ⟨sz2, fun t nt => ?_⟩⟩
      have hlen : rs.length = i := by
        have := congrArg List.length b2
        rw [List.length_map, List.length_take] at this
        have hil := (List.getElem?_eq_some_iff.mp hx).1
        omega
      have hlA := hT.house.len
      have hil := (List.getElem?_eq_some_iff.mp hx).1
      rw [keys_len] at hil
      have e1 : H3 ll = some (.lst (rs.map fun r => V.ref r.1)) := s5 _ _ b1
      have nlt : ll ≠ t := ne_of_none e1 nt
      have nll : la ≠ ll := fun z => by rw [z, b1] at nla; cases nla
      refine ⟨_, (by rw [upd_ne nlt]; exact e1), size_lt (by rw [List.length_map]; omega), rs ++ [(t, la, x)], ?_, ?_, fun r hr => ?_, (((s3.trans s5).nw2 nt).old2 hll)⟩
      · rw [upd_same]
        simp
      · rw [List.map_append, b2, take_snoc hx]
        rfl
      · rcases List.mem_append.mp hr with hr | hr
        · obtain ⟨q1, q2, q3, q4, q5⟩ := b3 r hr
          have q1' := s5 _ _ q1
          have q2' := s5 _ _ q2
          have n1 : r.1 ≠ ll := ne_of q1' e1 (by intro z; cases z)
          refine ⟨by rw [upd_ne n1, upd_ne (ne_of_none q1' nt)]; exact q1', ?_, q3, q4, q5⟩
          show (upd (upd H3 t _) ll _) r.2.1 = _
          rw [upd_ne q3, upd_ne (ne_of_none q2' nt)]
          exact q2'
        · have e : r = (t, la, x) := by simpa using hr
          rw [e]
          refine ⟨by rw [upd_ne nlt.symm, upd_same], ?_, nll, (s4.trans s5).free nt, s4.free nla⟩
          show (upd (upd H3 t _) ll _) la = _
          rw [upd_ne nll, upd_ne (ne_of_none hla nt)]
          exact hla
    · intro H3 ⟨rs, b1, b2, b3, s3⟩
      have hlv : (vstr (keysE (ent A'))).length = (keysE (ent A')).length := by rw [List.length_map]
      rw [hlv, List.take_length] at b2
      have s4 : Same H H3 := (s1.trans s2).trans s3
      have hT3 := hT.same s4
      have hMU3 := hMU.same s4
      obtain ⟨dxh, lst, ab, ld, h4, _⟩ := hT3.house.ins
      refine ⟨_, rfl, T'.tp, c.CT, dx0, _, _, rfl, s4 _ _ i0, T.cl, T.n1, rfl, T'.hp, dxh, _, rfl, h4, rfl, _, rfl, rfl, MU, T'.hp, tl, A', Ld, rfl, hT3.house, hMU3.there, hT.mh, s4 _ _ ht, fun H4 Ld' s5 hH4 => ?_⟩
      have eLd : ent Ld' = ent Ld := by
        have z1 := hH4.lines
        rw [hT3.house.lines] at z1
        exact (Option.some.inj z1).symm
      obtain ⟨ms, m2, m3⟩ := hT3.marks
      have sub1 : ∀ a ∈ [T'.hp], a ∈ MU := by simp [hT.mh]
      have hT4 : TownAt MU H4 c T' tv A' Ld' g ps n := ⟨⟨dx0, num0, s5 _ _ (by simpa using a1) (s4 _ _ i0)⟩, hH4, hT3.facts.keep s5 sub1 (by simpa using a6.symm) (by simpa using a7.symm), ⟨ms, s5 _ _ (by simpa using a5.symm) m2, m3⟩, hT.mt, hT.mh, hT.mm, hT.ne⟩
      have hF4 := (hF.keep (SameX.of (S := []) s4) (by simp)).keep s5 sub1
      refine ⟨_, rfl, T'.tp, dx0, _, rfl, s5 _ _ (by simpa using a1) (s4 _ _ i0), rfl, _, rfl, MU, T', tv, A', Ld', g, ps, n, fl, fs, rfl, hT4, hF4, hO, hn, fun H5 sh s6 nsh hsh hT5 => ?_⟩
      obtain ⟨dx5, num5, i5⟩ := hT5.ins
      refine ⟨_, rfl, T'.tp, c.CT, dx5, _, .int num5, rfl, i5, T.cl, T.n4, rfl, _, _, rfl, rfl, dx5, _, i5, by show 4 < 1000; omega, by show 0 ≤ sizeLine; exact Nat.zero_le _, fun tc htc => ?_⟩
      -- everything fresh at H stays, the town's places are elsewhere
      have fm : ∀ {a : Addr}, H a = none → a ∉ T'.mu := fun {a} e hm => by
        obtain ⟨u, e2, _⟩ := hT.plain a hm
        rw [e] at e2
        cases e2
      have s7 : SameX T'.mu H3 (upd H5 T'.tp (.ins c.CT dx5 (putF "number" (.int (num5 + 1)) [("house", .ref T'.hp), ("facts", .ref T'.fp), ("marks", .ref T'.mks), ("number", .int num5)]))) := ((s5.mono (by simp)).trans (s6.mono (by simp))).up (by simp)
      have i6 : (upd H5 T'.tp (.ins c.CT dx5 (putF "number" (.int (num5 + 1)) [("house", .ref T'.hp), ("facts", .ref T'.fp), ("marks", .ref T'.mks), ("number", .int num5)]))) T'.tp = some (.ins c.CT dx5 [("house", .ref T'.hp), ("facts", .ref T'.fp), ("marks", .ref T'.mks), ("number", .int (num5 + 1))]) := by rw [upd_same]; rfl
      have sub2 : ∀ a ∈ [T'.tp], a ∈ MU := by simp [hT.mt]
      have s8 : SameX [T'.tp] H5 (upd H5 T'.tp (.ins c.CT dx5 (putF "number" (.int (num5 + 1)) [("house", .ref T'.hp), ("facts", .ref T'.fp), ("marks", .ref T'.mks), ("number", .int num5)]))) := (SameX.refl _ _).up (by simp)
      obtain ⟨ms5, m5, m6⟩ := hT5.marks
      have hH6 := hT5.house.keep s8 sub2 (by simpa using a1.symm)
      have hF6 := hT5.facts.keep s8 sub2 (by simpa using a3.symm) (by simpa using a4.symm)
      have m7 := s8 _ _ (by simpa using a2.symm) m5
      have hsh6 : (upd H5 T'.tp (.ins c.CT dx5 (putF "number" (.int (num5 + 1)) [("house", .ref T'.hp), ("facts", .ref T'.fp), ("marks", .ref T'.mks), ("number", .int num5)]))) sh = some (.dK (kvT (tells (g, []) fs).2)) := s8 _ _ (by
        have : sh ≠ T'.tp := fun z => by rw [z, i5] at hsh; cases hsh
        simpa using this) hsh
      revert htc s7 i6 hH6 hF6 m7 hsh6
      clear s8
      generalize upd H5 T'.tp (.ins c.CT dx5 (putF "number" (.int (num5 + 1)) [("house", .ref T'.hp), ("facts", .ref T'.fp), ("marks", .ref T'.mks), ("number", .int num5)])) = H6
      intro htc s7 i6 hH6 hF6 m7 hsh6
      have hll0 : H ll = none := (s1.trans s2).free hll
      have l6 : H6 ll = some (.lst (rs.map fun r => V.ref r.1)) := s7 _ _ (fm hll0) b1
      have r6 : ∀ r ∈ rs, H6 r.1 = some (.tup [.str r.2.2, .ref r.2.1]) ∧ Lst H6 r.2.1 (lookL (ent Ld) r.2.2) := fun r hr => by
        obtain ⟨q1, q2, q3, q4, q5⟩ := b3 r hr
        exact ⟨s7 _ _ (fm q4) q1, s7 _ _ (fm q5) q2⟩
      have ntl : tc ≠ ll := fun z => by rw [z, l6] at htc; cases htc
      have shm : sh ≠ T'.mks := fun z => by
        obtain ⟨u, e, _⟩ := hT4.plain T'.mks (by simp)
        rw [← z, nsh] at e
        cases e
      have tcm : tc ≠ T'.mks := fun z => by rw [z, m7] at htc; cases htc
      have kel : ∀ {S : List Addr} {H7 : Hp}, SameX [T'.mks, tc] H6 H7 → ∀ {a : Addr} {u : HO}, H6 a = some u → a ≠ T'.mks → H7 a = some u := fun {S H7} s {a u} e z => s _ _ (by
        have : a ≠ tc := ne_of_none e htc
        simp [z, this]) e
      refine ⟨_, rfl, ll, rfl, ⟨_, SqL.of ((Same.nw htc) _ _ l6)⟩, for_list (K := K) (a := ll) (xs := rs.map fun r => V.ref r.1) (fun i σ H' => ∃ v1 v2 ms', σ = [some (.ref T'.tp), some (.ref tl), some (.ref fl), v1, some (.ref ll), some (.ref sh), some (.ref tc), v2, none] ∧ SameX [T'.mks, tc] H6 H' ∧ H' T'.mks = some (.dK (kvR ms')) ∧ ms'.map (·.1) = keysE (ent A') ∧ Lst H' tc (touchedF (tells (g, []) fs).2 Ld ((keysE (ent A')).take i)))
        ⟨_, _, ms5, rfl, (SameX.refl _ _).nw htc, by rw [upd_ne tcm.symm]; exact m7, m6, upd_same⟩ (fun i σ H' _ ⟨_, _, _, _, s9, _⟩ => SqL.of (kel (S := []) s9 l6 (fun z => by rw [z, m7] at l6; cases l6))) ?_ ?_⟩
      · intro i y σ H' hi ⟨v1, v2, ms', eσ, s9, hm, hmk, htl⟩
        subst eσ
        obtain ⟨r, hr, rfl⟩ := map_get hi
        have hrm := List.mem_of_getElem? hr
        obtain ⟨q1, q2⟩ := r6 r hrm
        have q1' : H' r.1 = some (.tup [.str r.2.2, .ref r.2.1]) := kel (S := []) s9 q1 (fun z => by rw [z, m7] at q1; cases q1)
        have q2' : Lst H' r.2.1 (lookL (ent Ld) r.2.2) := kel (S := []) s9 q2 (fun z => by
          have q2'' : H6 r.2.1 = some (.lst (vstr (lookL (ent Ld) r.2.2))) := q2
          rw [z, m7] at q2''
          cases q2'')
        have hnk : (keysE (ent A'))[i]? = some r.2.2 := by rw [← b2, List.getElem?_map, hr]; rfl
        have hxm : r.2.2 ∈ keysE (ent A') := List.mem_of_getElem? hnk
        have i7 : H' T'.tp = some (.ins c.CT dx5 [("house", .ref T'.hp), ("facts", .ref T'.fp), ("marks", .ref T'.mks), ("number", .int (num5 + 1))]) := kel (S := []) s9 i6 a2
        have hT7 : TownAt MU H' c T' tv A' Ld' (tells (g, []) fs).1 ps (n + fs.length) := by
          have sk : SameX [T'.mks] H6 H' := s9.drop (fun b hb => by
            have hb' : b = T'.mks ∨ b = tc := by simpa using hb
            rcases hb' with z | z
            · exact .inl (by simp [z])
            · exact .inr (by rw [z]; exact htc))
          have sub3 : ∀ a ∈ [T'.mks], a ∈ MU := by simp [hT.mm]
          exact ⟨⟨dx5, num5 + 1, i7⟩, hH6.keep sk sub3 (by simpa using a5), hF6.keep sk sub3 (by simpa using a8.symm) (by simpa using a9.symm), ⟨ms', hm, hmk⟩, hT.mt, hT.mh, hT.mm, hT.ne⟩
        obtain ⟨lo1, lo2, lo3⟩ := hT7.house.lineOk hxm
        rw [eLd] at lo1 lo2 lo3
        have ts : touchedF (tells (g, []) fs).2 Ld ((keysE (ent A')).take (i + 1)) = touchedF (tells (g, []) fs).2 Ld ((keysE (ent A')).take i) ++ (if ((lookL (ent Ld) r.2.2).any fun k => decide (k ∈ (tells (g, []) fs).2)) = true then [r.2.2] else []) := by
          rw [take_snoc hnk]
          unfold touchedF
          rw [List.filter_append, List.filter_cons, List.filter_nil]
        refine ⟨r.1, _, rfl, SqT.of q1', rfl, _, _, rfl, _, _, rfl, rfl, ?_⟩
        refine ⟨_, rfl, _, rfl, T'.tp, dx5, _, rfl, i7, rfl, _, rfl, MU, T', tv, A', Ld', _, ps, _, r.2.2, rfl, hT7, hxm, fun H8 l8 s10 nl8 hl8 => ?_⟩
        rw [eLd] at hl8
        have sh1 : SeqAt.shaped (dStrs (lookL (ent Ld) r.2.2)) = true := shaped_strs fun x hx => (lo1 x hx).1
        refine ⟨_, _, dp_strs (SqL.of (s10 _ _ q2')), dp_strs (SqL.of hl8), sh1, sh1, _, rfl, ?_⟩
        rw [eqv_same sh1]
        refine iteF ⟨_, rfl, r.2.1, rfl, ⟨_, SqL.of (s10 _ _ q2')⟩, fun D2 hD2 => lc_list (K := K) (a := r.2.1) (xs := vstr (lookL (ent Ld) r.2.2))
          (fun j H9 => H9 D2 = some (.lst (((lookL (ent Ld) r.2.2).take j).map fun k => V.bl (decide (k ∈ (tells (g, []) fs).2)))) ∧ Same H8 H9)
          ⟨upd_same, Same.nw hD2⟩ (fun j H9 _ ⟨_, s11⟩ => s11.seq (SqL.of (s10 _ _ q2'))) ?_ ?_⟩
        · intro j z H9 hj ⟨g1, s11⟩
          obtain ⟨kd, hkd, rfl⟩ := map_get hj
          have hjl := (List.getElem?_eq_some_iff.mp hkd).1
          have hsh9 : H9 sh = some (.dK (kvT (tells (g, []) fs).2)) := s11 _ _ (s10 _ _ (kel (S := []) s9 hsh6 shm))
          refine ⟨rfl, _, rfl, _, rfl, sh, _, rfl, DGet.k (k := Sum.inr kd) hsh9, _, g1, ?_, ?_, s11.old2 hD2⟩
          · rw [List.length_map, List.length_take]
            exact size_lt (by omega)
          · rw [upd_same, valV_T, take_snoc hkd, List.map_append]
            rfl
        · intro H9 ⟨g1, s11⟩
          rw [List.length_map, List.take_length] at g1
          refine ⟨D2, (lookL (ent Ld) r.2.2).map (fun k => decide (k ∈ (tells (g, []) fs).2)), rfl, SqL.of (by rw [g1, List.map_map]; rfl), _, rfl, ?_⟩
          rw [List.any_map]
          have s12 : Same H' H9 := s10.trans s11
          have s13 : SameX [T'.mks, tc] H6 H9 := s9.step s12
          have eany : ((lookL (ent Ld) r.2.2).any (id ∘ fun k => decide (k ∈ (tells (g, []) fs).2))) = ((lookL (ent Ld) r.2.2).any fun k => decide (k ∈ (tells (g, []) fs).2)) := rfl
          rw [eany]
          cases hany : ((lookL (ent Ld) r.2.2).any fun k => decide (k ∈ (tells (g, []) fs).2)) with
          | false =>
            rw [hany, if_neg Bool.false_ne_true, List.append_nil] at ts
            refine iteF ⟨_, _, ms', rfl, s13, s12 _ _ hm, hmk, ?_⟩
            rw [ts]
            exact s12 _ _ htl
          | true =>
            rw [hany, if_pos rfl] at ts
            have i9 := s12 _ _ i7
            obtain ⟨ms2, p1, p2⟩ := putR_in (v := .int (num5 + 1)) (ms := ms') (by rw [hmk]; exact hxm)
            have mlen : ms'.length ≤ 12 := by
              have := congrArg List.length hmk
              rw [List.length_map, keys_len] at this
              have := hT.house.len
              omega
            refine iteT ⟨_, rfl, T'.tp, c.CT, dx5, _, _, rfl, i9, T.cl, T.n4, rfl, _, rfl, T'.tp, c.CT, dx5, _, _, rfl, i9, T.cl, T.n3, rfl, _, rfl, T'.mks, _, rfl, DPut.k (k := Sum.inr r.2.2) (s12 _ _ hm) (size_lt (by rw [List.length_map]; omega)), ?_⟩
            rw [p1]
            have htl9 : (upd H9 T'.mks (.dK (kvR ms2))) tc = some (.lst (vstr (touchedF (tells (g, []) fs).2 Ld ((keysE (ent A')).take i)))) := by rw [upd_ne tcm]; exact s12 _ _ htl
            have tlen : (touchedF (tells (g, []) fs).2 Ld ((keysE (ent A')).take i)).length ≤ 12 := by
              have h1 := List.length_filter_le (fun nm => (lookL (ent Ld) nm).any fun k => decide (k ∈ (tells (g, []) fs).2)) ((keysE (ent A')).take i)
              rw [List.length_take, keys_len] at h1
              have := hT.house.len
              show (List.filter _ _).length ≤ 12
              omega
            refine ⟨_, rfl, .inl ⟨rfl, _, SqL.of htl9⟩, _, rfl, tc, _, _, rfl, rfl, htl9, size_lt (by rw [List.length_map]; omega), _, _, ms2, rfl, (s13.up (by simp)).up (by simp), by rw [upd_ne tcm.symm, upd_same], by rw [p2, hmk], ?_⟩
            show (upd _ tc _) tc = _
            rw [upd_same, ts, vstr_snoc]
      · intro σ H' ⟨v1, v2, ms', eσ, s9, hm, hmk, htl⟩
        subst eσ
        have elen : (rs.map fun r => V.ref r.1).length = (keysE (ent A')).length := by rw [List.length_map, ← b2, List.length_map]
        rw [elen, List.take_length] at htl
        have sk : SameX [T'.mks] H6 H' := s9.drop (fun b hb => by
          have hb' : b = T'.mks ∨ b = tc := by simpa using hb
          rcases hb' with z | z
          · exact .inl (by simp [z])
          · exact .inr (by rw [z]; exact htc))
        have sub3 : ∀ a ∈ [T'.mks], a ∈ MU := by simp [hT.mm]
        have i7 : H' T'.tp = some (.ins c.CT dx5 [("house", .ref T'.hp), ("facts", .ref T'.fp), ("marks", .ref T'.mks), ("number", .int (num5 + 1))]) := sk _ _ (by simpa using a2) i6
        refine ⟨_, rfl, k H' Ld' tc (((SameX.of s4).trans s7).trans (sk.mono (by simp))) ⟨⟨dx5, num5 + 1, i7⟩, hH6.keep sk sub3 (by simpa using a5), hF6.keep sk sub3 (by simpa using a8.symm) (by simpa using a9.symm), ⟨ms', hm, hmk⟩, hT.mt, hT.mh, hT.mm, hT.ne⟩ eLd ?_ htl⟩
        cases e : H tc with
        | none => rfl
        | some u =>
          by_cases z : tc ∈ T'.mu
          · obtain ⟨u2, e2, _⟩ := (show TownAt MU H6 c T' tv A' Ld' (tells (g, []) fs).1 ps (n + fs.length) from ⟨⟨dx5, num5 + 1, i6⟩, hH6, hF6, ⟨ms5, m7, m6⟩, hT.mt, hT.mh, hT.mm, hT.ne⟩).plain tc z
            rw [htc] at e2
            cases e2
          · rw [s7 _ _ z (s4 _ _ e)] at htc
            cases htc
end
end TM
set_option maxRecDepth 100000
set_option maxHeartbeats 4000000
/-! What stays while an inner def is made; the world of a town. -/
namespace TM
open PySem PySem.Spec PyProof.Rows L2 LamX NdefX
def ExtS (S : List Addr) (H H' : Hp) : Prop := ∀ b u, b ∉ S → (∀ ps, u ≠ .tbl ps) → H b = some u → H' b = some u
theorem ExtS.of {S : List Addr} {H H' : Hp} (s : SameX S H H') : ExtS S H H' := fun b u n _ e => s b u n e
theorem ExtS.ext {S : List Addr} {H H' : Hp} (s : ExtN H H') : ExtS S H H' := fun b u _ n e => s b u e n
theorem ExtS.refl (S : List Addr) (H : Hp) : ExtS S H H := fun _ _ _ _ e => e
theorem ExtS.trans {S : List Addr} {H H1 H2 : Hp} (a : ExtS S H H1) (b : ExtS S H1 H2) : ExtS S H H2 := fun c u n t e => b c u n t (a c u n t e)
theorem ExtS.mono {S T : List Addr} {H H1 : Hp} (a : ExtS S H H1) (h : ∀ b ∈ S, b ∈ T) : ExtS T H H1 := fun c o n t e => a c o (fun m => n (h c m)) t e
theorem ExtS.step {S : List Addr} {H H1 H2 : Hp} (a : ExtS S H H1) (b : Same H1 H2) : ExtS S H H2 := a.trans (.of (.of b))
theorem ExtS.lst {S : List Addr} {H H' : Hp} {a : Addr} {l : List V} (s : ExtS S H H') (h : a ∉ S) (e : H a = some (.lst l)) : H' a = some (.lst l) := s a _ h (fun ps z => by cases z) e
theorem ExtS.tup {S : List Addr} {H H' : Hp} {a : Addr} {l : List V} (s : ExtS S H H') (h : a ∉ S) (e : H a = some (.tup l)) : H' a = some (.tup l) := s a _ h (fun ps z => by cases z) e
theorem ExtS.dk {S : List Addr} {H H' : Hp} {a : Addr} {l : List (L2.Key × V)} (s : ExtS S H H') (h : a ∉ S) (e : H a = some (.dK l)) : H' a = some (.dK l) := s a _ h (fun ps z => by cases z) e
theorem ExtS.dt {S : List Addr} {H H' : Hp} {a : Addr} {l : List (List L2.Key × V)} (s : ExtS S H H') (h : a ∉ S) (e : H a = some (.dT l)) : H' a = some (.dT l) := s a _ h (fun ps z => by cases z) e
theorem ExtS.ins {S : List Addr} {H H' : Hp} {a C dx : Addr} {fs : List (Str × V)} (s : ExtS S H H') (h : a ∉ S) (e : H a = some (.ins C dx fs)) : H' a = some (.ins C dx fs) := s a _ h (fun ps z => by cases z) e
theorem ExtS.ex {S : List Addr} {H H' : Hp} {a : Addr} {p : Heap → Prop} (s : ExtS S H H') (h : a ∉ S) (e : H a = some (.ext p)) : H' a = some (.ext p) := s a _ h (fun ps z => by cases z) e
theorem Rows.keepN {H H' : Hp} {L : Ent} {S : List Addr} (r : Rows H L) (s : ExtS S H H') (h : ∀ e ∈ L, e.2.1 ∉ S) : Rows H' L := ⟨fun e he => s.lst (h e he) (r.row e he), r.asc⟩
theorem PrsAt.keepN {MU S : List Addr} {H H' : Hp} {l : Addr} {ps : List (Str × Str)} (h : PrsAt MU H l ps) (s : ExtS S H H') (hS : ∀ a ∈ S, a ∈ MU) (hl : l ∉ S) : PrsAt MU H' l ps := by
  obtain ⟨rs, h1, h2, h3⟩ := h.ex
  exact ⟨rs, s.lst hl h1, fun r hr => ⟨s.tup (fun z => (h2 r hr).2 (hS _ z)) (h2 r hr).1, (h2 r hr).2⟩, h3⟩
theorem StAt.keepN {S : List Addr} {H H' : Hp} {sd : Addr} {D : Str → Str → Prop} {st : Str → Str → Int} (h : StAt H sd D st) (s : ExtS S H H') (hs : sd ∉ S) : StAt H' sd D st := by
  obtain ⟨ss, h1, h2⟩ := h.ex
  exact ⟨ss, s.dt hs h1, h2⟩
theorem MuOk.keepN {MU S : List Addr} {H H' : Hp} (h : MuOk MU H) (s : ExtS S H H') (hS : ∀ a ∈ S, ∃ u, H' a = some u ∧ Plain u) : MuOk MU H' := fun m hm => by
  by_cases z : m ∈ S
  · exact hS m z
  · obtain ⟨u, e, p⟩ := h m hm
    exact ⟨u, s _ _ z (fun ps y => by subst y; exact p) e, p⟩
theorem TelAt.keepN {q : Str} {S : List Addr} {H H' : Hp} {ft lg sd : Addr} (h : TelAt q H ft lg sd) (s : ExtS S H H') (hS : ∀ a ∈ S, ∃ u, H a = some u ∧ Plain u) : TelAt q H' ft lg sd := by
  obtain ⟨cl, c, h1, h2, h3⟩ := h.ex
  have np : ∀ {a : Addr} {p : Heap → Prop}, H a = some (.ext p) → a ∉ S := fun {a p} e z => by
    obtain ⟨u, e2, pl⟩ := hS a z
    rw [e] at e2
    cases e2
    exact pl
  refine ⟨cl, c, s.ex (np h1) h1, s.ex (np h2) h2, h3.keep fun b hb => ?_⟩
  obtain ⟨o, v, d, e⟩ := h3.all b hb
  rw [e]
  exact s.ex (np e) e
theorem HouseAt.keepN {MU S : List Addr} {H H' : Hp} {CH hp : Addr} {A Ld : Ent} (h : HouseAt MU H CH hp A Ld) (s : ExtS S H H') (hS : ∀ a ∈ S, a ∈ MU) (hh : hp ∉ S) : HouseAt MU H' CH hp A Ld := by
  obtain ⟨dx, lst, ab, ld, h1, h2, h3, h4, h5, h6, h7⟩ := h.ins
  exact ⟨⟨dx, lst, ab, ld, s.ins hh h1, s.lst (fun z => h5 (hS _ z)) h2, s.dk (fun z => h6 (hS _ z)) h3, s.dk (fun z => h7 (hS _ z)) h4, h5, h6, h7⟩,
    h.rA.keepN s fun e he z => h.mA e he (hS _ z), h.rL.keepN s fun e he z => h.mL e he (hS _ z), h.mA, h.mL, h.lines, h.wf, h.len, h.nm, h.el⟩
theorem FactsAt.keepN {MU S : List Addr} {H H' : Hp} {CF fp he as_ : Addr} {tv : V} {g : Kn} {ps : List (Str × Str)} {n : Nat} (h : FactsAt MU H CF fp he as_ tv g ps n) (s : ExtS S H H') (hS : ∀ a ∈ S, a ∈ MU) (h1 : he ∉ S) (h2 : as_ ∉ S) : FactsAt MU H' CF fp he as_ tv g ps n := by
  obtain ⟨dx, e1⟩ := h.ins
  obtain ⟨hs, e2, e3, e4⟩ := h.held
  exact ⟨⟨dx, s.ins (fun z => h.nf (hS _ z)) e1⟩, h.nf, h.mh, h.ma, ⟨hs, s.dt h1 e2, e3, e4⟩, h.asked.keepN s hS h2, h.len⟩
theorem TownAt.keepN {MU S : List Addr} {H H' : Hp} {c : Cs} {T : TAd} {tv : V} {A Ld : Ent} {g : Kn} {ps : List (Str × Str)} {n : Nat} (h : TownAt MU H c T tv A Ld g ps n) (s : ExtS S H H') (hS : ∀ a ∈ S, a ∈ MU) (hT : ∀ a ∈ T.mu, a ∉ S) : TownAt MU H' c T tv A Ld g ps n := by
  obtain ⟨dx, num, e⟩ := h.ins
  obtain ⟨ms, e2, e3⟩ := h.marks
  exact ⟨⟨dx, num, s.ins (hT _ (by simp)) e⟩, h.house.keepN s hS (hT _ (by simp)), h.facts.keepN s hS (hT _ (by simp)) (hT _ (by simp)), ⟨ms, s.dk (hT _ (by simp)) e2, e3⟩, h.mt, h.mh, h.mm, h.ne⟩
theorem TabsN.keepX {T : List NTab} {S : List Addr} {H H' : Hp} (t : TabsN T H) (s : SameX S H H') (hS : ∀ a ∈ S, ∃ u, H a = some u ∧ Plain u) : TabsN T H' := fun p hp => by
  have np : ∀ {a : Addr} {u : HO}, H a = some u → ¬ Plain u → a ∉ S := fun {a u} e n z => by
    obtain ⟨u2, e2, pl⟩ := hS a z
    rw [e] at e2
    cases e2
    exact n pl
  obtain ⟨ps, h1, h2, h3⟩ := t p hp
  refine ⟨ps, s _ _ (np h1 id) h1, h2, fun pos cv hc => ?_⟩
  obtain ⟨c, e1, e2⟩ := h3 pos cv hc
  exact ⟨c, e1, s _ _ (np e2 id) e2⟩
/-- the world in which a town is looked at: the town, its teller, the log, the store, the tables -/
structure WAt (q : Str) (TT : List NTab) (MU : List Addr) (H : Hp) (c : Cs) (T : TAd) (ft lg sd : Addr) (D : Str → Str → Prop) (st : Str → Str → Int) (A Ld : Ent) (g : Kn) (ps lps : List (Str × Str)) (n : Nat) : Prop where
  town : TownAt MU H c T (.ref ft) A Ld g ps n
  mu : MuOk MU H
  tel : TelAt q H ft lg sd
  log : PrsAt MU H lg lps
  store : StAt H sd D st
  tabs : TabsN TT H
  lm : lg ∈ MU
  sm : sd ∈ MU
  ln : lg ∉ T.mu
  sn : sd ∉ T.mu
  lls : lps.length ≤ n
section
variable {q : Str} {TT : List NTab} {MU : List Addr} {H H' : Hp} {c : Cs} {T : TAd} {ft lg sd : Addr} {D : Str → Str → Prop} {st : Str → Str → Int} {A Ld : Ent} {g : Kn} {ps lps : List (Str × Str)} {n : Nat}
theorem WAt.ls (h : WAt q TT MU H c T ft lg sd D st A Ld g ps lps n) : lg ≠ sd := by
  obtain ⟨xs, e, _⟩ := h.log.len
  obtain ⟨ss, e2, _⟩ := h.store.ex
  exact ne_of e e2 (by intro z; cases z)
theorem WAt.same (h : WAt q TT MU H c T ft lg sd D st A Ld g ps lps n) (s : Same H H') : WAt q TT MU H' c T ft lg sd D st A Ld g ps lps n :=
  ⟨h.town.same s, h.mu.same s, h.tel.keep (SameX.of (S := []) s) (by simp), h.log.keep (SameX.of (S := []) s) (by simp) (by simp), h.store.keep (SameX.of (S := []) s) (by simp), h.tabs.ext s, h.lm, h.sm, h.ln, h.sn, h.lls⟩
theorem WAt.ext (h : WAt q TT MU H c T ft lg sd D st A Ld g ps lps n) (s : ExtN H H') (t : TabsN TT H') : WAt q TT MU H' c T ft lg sd D st A Ld g ps lps n :=
  ⟨h.town.keepN (S := []) (.ext s) (by simp) (by simp), h.mu.keepN (S := []) (.ext s) (by simp), h.tel.keepN (S := []) (.ext s) (by simp), h.log.keepN (S := []) (.ext s) (by simp) (by simp), h.store.keepN (S := []) (.ext s) (by simp), t, h.lm, h.sm, h.ln, h.sn, h.lls⟩
theorem WAt.mono {m : Nat} (h : WAt q TT MU H c T ft lg sd D st A Ld g ps lps n) (hm : n ≤ m) : WAt q TT MU H c T ft lg sd D st A Ld g ps lps m :=
  ⟨h.town.mono hm, h.mu, h.tel, h.log, h.store, h.tabs, h.lm, h.sm, h.ln, h.sn, Nat.le_trans h.lls hm⟩
/-- one more was asked -/
theorem WAt.ask (h : WAt q TT MU H c T ft lg sd D st A Ld g ps lps n) (s : SameX [T.he, T.as_, lg] H H') {k w : Str} (hT : TownAt MU H' c T (.ref ft) A Ld (upK g k w (some (st k w))) (ps ++ [(k, w)]) (n + 1)) (hl : PrsAt MU H' lg (lps ++ [(k, w)])) :
    WAt q TT MU H' c T ft lg sd D st A Ld (upK g k w (some (st k w))) (ps ++ [(k, w)]) (lps ++ [(k, w)]) (n + 1) := by
  have pl : ∀ a ∈ [T.he, T.as_, lg], ∃ u, H a = some u ∧ Plain u := fun a ha => by
    simp only [List.mem_cons, List.not_mem_nil, or_false] at ha
    rcases ha with z | z | z
    · rw [z]; exact h.town.plain _ (by simp)
    · rw [z]; exact h.town.plain _ (by simp)
    · rw [z]
      obtain ⟨xs, e, _⟩ := h.log.len
      exact ⟨_, e, True.intro⟩
  have pl2 : ∀ a ∈ [T.he, T.as_, lg], ∃ u, H' a = some u ∧ Plain u := fun a ha => by
    simp only [List.mem_cons, List.not_mem_nil, or_false] at ha
    rcases ha with z | z | z
    · rw [z]; exact hT.plain _ (by simp)
    · rw [z]; exact hT.plain _ (by simp)
    · rw [z]
      obtain ⟨xs, e, _⟩ := hl.len
      exact ⟨_, e, True.intro⟩
  have sd1 : sd ∉ [T.he, T.as_, lg] := by
    have h1 := h.sn
    have h2 := h.ls
    simp only [List.mem_cons, List.not_mem_nil, or_false, not_or] at h1 ⊢
    exact ⟨h1.2.2.2.1, h1.2.2.2.2, fun z => h2 z.symm⟩
  exact ⟨hT, h.mu.keep s pl2, h.tel.keep s pl, hl, h.store.keep s sd1, TM.TabsN.keepX h.tabs s pl, h.lm, h.sm, h.ln, h.sn, by rw [List.length_append, List.length_singleton]; have := h.lls; omega⟩
end
section
variable {P : Program} {w : World} {K : PySem.W.Frag} {mg : Str → Option Value} {base : Heap} {x qual : Str} {params : Arguments} {body : List Stmt} {scope : Scope} {dvs : List V} {kws : List (Str × V)} {f : Addr} {fd : FuncData}
/-- FunD.ok, the code object told -/
theorem okC {CX : CXT} {N ps : List Str} {k : Nat} {sp : Sp} (F : FunD K x qual params body scope dvs kws f fd) (S : FnScope N ps scope) (len : ∀ vs H Q E, sp vs H Q E → vs.length = ps.length)
    (hbody : ∀ (cdv : Value) (A : Around) (outer : List Env) (s : Shared) (H : Hp) (vs : List V) (Q : VK) (E : XK), fd.code = cdv → Room k (A.deeper (envOfC qual scope s.heap.objs.size f cdv)) → sp vs H Q E →
      ∃ t, PSs (cxOf CX P w K mg base N qual scope f cdv A outer s H E) body t ∧ t { nx := fun _ H' => Q .non H', rt := Q } (start N vs) H) : FnOk P w K mg base CX (k + 1) f fd ps sp := by
  obtain ⟨oc, od, dV, kV, doc, pm, an, cdv, ct, osl, rfl, lk, hcd, _, _⟩ := F.ex
  exact fn_of lk hcd S len fun A outer s H vs Q E hr hsp => hbody cdv A outer s H vs Q E rfl hr hsp
end
end TM
set_option maxRecDepth 100000
set_option maxHeartbeats 4000000
/-! The inner strength; paper_of. -/
namespace TM
open PySem PySem.Spec PyProof.Rows L2 LamX NdefX
abbrev mkS (q : Str) (cl : List (Str × Addr)) (c : Addr) : NF := NF.of sLookS "strength" q cl c
abbrev frS : List Str := ["self"]
def spS (q : Str) (TT : List NTab) (c : Cs) : List (Option V) → Sp := fun ws vs H Q _ => ∃ (MU : List Addr) (T : TAd) (ft lg sd : Addr) (D : Str → Str → Prop) (st : Str → Str → Int) (A Ld : Ent) (g : Kn) (ps lps : List (Str × Str)) (n : Nat) (k w : Str),
  ws = [some (.ref T.tp)] ∧ vs = [.str k, .str w] ∧ WAt q TT MU H c T ft lg sd D st A Ld g ps lps n ∧ n + 1 ≤ 80000 ∧ D k w ∧
  ∀ H', SameX [T.he, T.as_, lg] H H' → WAt q TT MU H' c T ft lg sd D st A Ld (upK g k w (some ((g k w).getD (st k w)))) (ps ++ if (g k w).isNone = true then [(k, w)] else []) (lps ++ if (g k w).isNone = true then [(k, w)] else []) (n + 1) → Q (.int ((g k w).getD (st k w))) H'
def learn (g : Kn) (w : Str) (s : Str → Int) (vis : List Str) : Kn := fun k' w' => if w' = w ∧ k' ∈ vis then some (s k') else g k' w'
theorem learn_nil (g : Kn) (w : Str) (s : Str → Int) : learn g w s [] = g := by
  funext a b
  unfold learn
  rw [if_neg (fun h => nomatch h.2)]
theorem learn_none {g : Kn} {w k : Str} {s : Str → Int} {vis : List Str} (hk : k ∉ vis) : learn g w s (vis ++ [k]) = upK (learn g w s vis) k w (some (s k)) := by
  funext a b
  unfold learn upK
  by_cases h1 : a = k ∧ b = w
  · rw [if_pos h1, if_pos ⟨h1.2, by rw [h1.1]; exact List.mem_append_right _ (List.mem_singleton_self _)⟩, h1.1]
  · rw [if_neg h1]
    show _ = if b = w ∧ a ∈ vis then some (s a) else g a b
    by_cases h2 : b = w ∧ a ∈ vis
    · rw [if_pos h2, if_pos ⟨h2.1, List.mem_append_left _ h2.2⟩]
    · rw [if_neg h2, if_neg]
      rintro ⟨z1, z2⟩
      rcases List.mem_append.mp z2 with z | z
      · exact h2 ⟨z1, z⟩
      · exact h1 ⟨by simpa using z, z1⟩
theorem learn_out {g : Kn} {w k : Str} {s : Str → Int} {vis : List Str} (hk : k ∉ vis) : learn g w s vis k w = g k w := by
  unfold learn
  rw [if_neg fun h => hk h.2]
def newP (g : Kn) (w : Str) (vis : List Str) : List (Str × Str) := (vis.filter fun k => (g k w).isNone).map fun k => (k, w)
theorem newP_snoc (g : Kn) (w : Str) (vis : List Str) (k : Str) : newP g w (vis ++ [k]) = newP g w vis ++ (if (g k w).isNone = true then [(k, w)] else []) := by
  unfold newP
  rw [List.filter_append, List.map_append, List.filter_cons, List.filter_nil]
  split <;> rfl
abbrev oS : Option Str → V
  | some k => .str k
  | none => .non
section
variable {q : Str} {TT : List NTab} {MU : List Addr} {H H' : Hp} {c : Cs} {T : TAd} {ft lg sd : Addr} {D : Str → Str → Prop} {st : Str → Str → Int} {A Ld : Ent} {g : Kn} {ps lps : List (Str × Str)} {n : Nat}
theorem PrsAt.putL {l pa : Addr} {xs : List V} {o : HO} (h : PrsAt MU H l ps) (hp : H pa = some (.lst xs)) (hl : l ≠ pa) : PrsAt MU (upd H pa o) l ps := by
  obtain ⟨rs, h1, h2, h3⟩ := h.ex
  exact ⟨rs, by rw [upd_ne hl]; exact h1, fun r hr => ⟨by rw [upd_ne (ne_of (h2 r hr).1 hp (by intro z; cases z))]; exact (h2 r hr).1, (h2 r hr).2⟩, h3⟩
theorem WAt.putL {pa : Addr} {xs : List V} {o : HO} (h : WAt q TT MU H c T ft lg sd D st A Ld g ps lps n) (hp : H pa = some (.lst xs)) (hm : pa ∉ MU) (hH : HouseAt MU (upd H pa o) c.CH T.hp A Ld) : WAt q TT MU (upd H pa o) c T ft lg sd D st A Ld g ps lps n := by
  have nm : ∀ {a : Addr}, a ∈ MU → a ≠ pa := fun {a} z y => hm (y ▸ z)
  have s : SameX [pa] H (upd H pa o) := (SameX.refl _ _).up (by simp)
  have pl : ∀ a ∈ [pa], ∃ u, H a = some u ∧ Plain u := fun a ha => by
    have z : a = pa := by simpa using ha
    rw [z]
    exact ⟨_, hp, True.intro⟩
  obtain ⟨dx, num, e⟩ := h.town.ins
  obtain ⟨ms, e2, e3⟩ := h.town.marks
  obtain ⟨dxf, e4⟩ := h.town.facts.ins
  obtain ⟨hs, e5, e6, e7⟩ := h.town.facts.held
  obtain ⟨ss, e8, e9⟩ := h.store.ex
  refine ⟨⟨⟨dx, num, by rw [upd_ne (nm h.town.mt)]; exact e⟩, hH, ⟨⟨dxf, by rw [upd_ne (ne_of e4 hp (by intro z; cases z))]; exact e4⟩, h.town.facts.nf, h.town.facts.mh, h.town.facts.ma, ⟨hs, by rw [upd_ne (nm h.town.facts.mh)]; exact e5, e6, e7⟩, h.town.facts.asked.putL hp (nm h.town.facts.ma), h.town.facts.len⟩, ⟨ms, by rw [upd_ne (nm h.town.mm)]; exact e2, e3⟩, h.town.mt, h.town.mh, h.town.mm, h.town.ne⟩,
    fun m hm2 => ?_, h.tel.keep s pl, h.log.putL hp (nm h.lm), ⟨ss, by rw [upd_ne (nm h.sm)]; exact e8, e9⟩, TM.TabsN.keepX h.tabs s pl, h.lm, h.sm, h.ln, h.sn, h.lls⟩
  obtain ⟨u, a, b⟩ := h.mu m hm2
  exact ⟨u, by rw [upd_ne (nm hm2)]; exact a, b⟩
theorem hid_retr {H H' : Hp} {cl : List (Str × Addr)} (hn : ∀ b ∈ cas cl, H' b = none) : hid (retr H H' cl) cl = H' := by
  funext b
  by_cases h : b ∈ cas cl
  · rw [hid_in h, hn b h]
  · rw [hid_out h, retr_out h]
theorem hid_expo {H : Hp} {cl : List (Str × Addr)} {ox : Addr → Obj} (hn : ∀ b ∈ cas cl, H b = none) : hid (expo H cl ox) cl = H := by
  funext b
  by_cases h : b ∈ cas cl
  · rw [hid_in h, hn b h]
  · rw [hid_out h, expo_out h]
theorem hid_upd {H : Hp} {cl : List (Str × Addr)} {a : Addr} {o : HO} (ha : a ∉ cas cl) : hid (upd H a o) cl = upd (hid H cl) a o := by
  funext b
  by_cases h : b ∈ cas cl
  · rw [hid_in h, upd_ne (fun z : b = a => ha (z ▸ h)), hid_in h]
  · rw [hid_out h]
    by_cases z : b = a
    · rw [z, upd_same, upd_same]
    · rw [upd_ne z, upd_ne z, hid_out h]
theorem WAt.plain3 (h : WAt q TT MU H c T ft lg sd D st A Ld g ps lps n) : ∀ a ∈ [T.he, T.as_, lg], ∃ u, H a = some u ∧ Plain u := fun a ha => by
  simp only [List.mem_cons, List.not_mem_nil, or_false] at ha
  rcases ha with z | z | z
  · rw [z]; exact h.town.plain _ (by simp)
  · rw [z]; exact h.town.plain _ (by simp)
  · rw [z]
    obtain ⟨xs, e, _⟩ := h.log.len
    exact ⟨_, e, True.intro⟩
theorem WAt.sub3 (h : WAt q TT MU H c T ft lg sd D st A Ld g ps lps n) : ∀ a ∈ [T.he, T.as_, lg], a ∈ MU := fun a ha => by
  simp only [List.mem_cons, List.not_mem_nil, or_false] at ha
  rcases ha with z | z | z
  · rw [z]; exact h.town.facts.mh
  · rw [z]; exact h.town.facts.ma
  · rw [z]; exact h.lm
theorem WAt.hp3 (h : WAt q TT MU H c T ft lg sd D st A Ld g ps lps n) : T.hp ∉ [T.he, T.as_, lg] ∧ T.tp ∉ [T.he, T.as_, lg] ∧ T.mks ∉ [T.he, T.as_, lg] := by
  obtain ⟨a1, a2, a3, a4, a5, a6, a7, a8, a9, a10⟩ := h.town.ap
  have h1 := h.ln
  simp only [List.mem_cons, List.not_mem_nil, or_false, not_or] at h1 ⊢
  exact ⟨⟨a6, a7, fun z => h1.2.1 z.symm⟩, ⟨a3, a4, fun z => h1.1 z.symm⟩, ⟨a8, a9, fun z => h1.2.2.1 z.symm⟩⟩
end
section
variable {P : Program} {w : World} {K : PySem.W.Frag} {mg : Str → Option Value} {base : Heap} {c : Cs} {TT : List NTab} {q q2 : Str}
theorem scS : NScope ["one", "asked", "self"] ["one", "asked"] frS (C8.fnScope sLookS) := nscope_by (by decide +kernel)
theorem ok_strength {fS : Addr} {fdS : FuncData} (TC : TCls K c.CT) (TF : FCls K c.CF) (DS : MethD K c.CF "strength" "Facts.strength" sFStr ["self", "kind", "word"] fS fdS) (f : Addr) (cl : List (Str × Addr)) (cc : Addr) : NOk P w K mg base CX0 3 f (mkS q2 cl cc) ["one", "asked"] frS (spS q TT c) := by
  have GS : FnOk P w K mg base CX0 2 fS fdS ["self", "kind", "word"] (spFStr q c.CF) := ok_fstr q TF DS
  refine nok_of scS (fun doc pm ctv us h => ?_) (fun ws vs H Q E h => ?_) (fun A outer s H vs ws Q E hr hf hc hl h => ?_)
  · match us, h with
    | [a, b], _ => rfl
  · obtain ⟨MU, T, ft, lg, sd, D, st, A, Ld, g, ps, lps, n, k, w', rfl, rfl, _⟩ := h
    rfl
  · obtain ⟨MU, T, ft, lg, sd, D, st, A', Ld, g, ps, lps, n, k, w', rfl, rfl, hW, hn, hD, k1⟩ := h
    obtain ⟨dx, num, i0⟩ := hW.town.ins
    obtain ⟨dxf, i1⟩ := hW.town.facts.ins
    refine ⟨_, pss_one (ps_ret (pe_meth (pe_fld (pv 2) rfl) TF.cl DS.m GS hr DS.b .nil pass0 (pa_cons (pv 0) (pa_cons (pv 1) pa_nil)))), ?_⟩
    refine ⟨_, rfl, T.tp, c.CT, dx, _, _, rfl, i0, TC.cl, TC.n2, rfl, T.fp, dxf, _, rfl, i1, rfl, _, rfl, _, rfl, MU, T.fp, T.he, T.as_, _, g, ps, n, k, w', rfl, hW.town.facts, by omega, ?_⟩
    cases hg : g k w' with
    | some v =>
      rw [hg] at k1
      refine .inl ⟨v, rfl, fun H' s1 => k1 H' (SameX.of s1) ?_⟩
      have e : upK g k w' (some ((some v).getD (st k w'))) = g := by
        funext a b
        unfold upK
        split
        · next z => rw [z.1, z.2, hg]; rfl
        · rfl
      rw [e]
      show WAt q TT MU H' c T ft lg sd D st A' Ld g (ps ++ []) (lps ++ []) (n + 1)
      rw [List.append_nil, List.append_nil]
      exact (hW.same s1).mono (Nat.le_succ _)
    | none =>
      rw [hg] at k1
      refine .inr ⟨rfl, hW.mu, ft, lg, sd, lps, D, st, rfl, hW.tel, hW.log, by have := hW.lls; omega, hW.store, hD, hW.lm, ?_, fun H' s1 hF hL => ?_⟩
      · have h1 := hW.ln
        simp only [List.mem_cons, List.not_mem_nil, or_false, not_or] at h1
        exact h1.2.2.2.2
      · obtain ⟨p1, p2, p3⟩ := hW.hp3
        obtain ⟨ms, m1, m2⟩ := hW.town.marks
        exact k1 H' s1 (hW.ask s1 ⟨⟨dx, num, s1 _ _ p2 i0⟩, hW.town.house.keep s1 hW.sub3 p1, hF, ⟨ms, s1 _ _ p3 m1, m2⟩, hW.town.mt, hW.town.mh, hW.town.mm, hW.town.ne⟩ hL)
def spPaper (q q2 : Str) (TT : List NTab) (c : Cs) : Sp := fun vs H Q _ => ∃ (MU : List Addr) (T : TAd) (ft lg sd : Addr) (D : Str → Str → Prop) (st : Str → Str → Int) (A Ld : Ent) (g : Kn) (ps lps : List (Str × Str)) (n : Nat) (cl : List (Str × Addr)) (cc f ll : Addr) (line : List Str) (w : Str),
  vs = [.ref ll, .str w, .ref f] ∧ H f = some (FnO f (mkS q2 cl cc)) ∧ H cc = some (CodeO cc (mkS q2 cl cc).qual) ∧ ClX H cl frS [.ref T.tp] ∧ WAt q TT MU (hid H cl) c T ft lg sd D st A Ld g ps lps n ∧ Lst (hid H cl) ll line ∧ ll ∉ MU ∧ line.Nodup ∧ (∀ k ∈ line, D k w) ∧ n + line.length ≤ 80000 ∧
  ∀ H' t p, (∀ a ∈ cas cl, H' a = H a) → SameX [T.he, T.as_, lg] (hid H cl) (hid H' cl) →
    hid H' cl t = some (.tup [.ref p, oS (paper (fun k => (g k w).getD (st k w)) line).2.1, .int (paper (fun k => (g k w).getD (st k w)) line).2.2]) → hid H' cl p = some (.tup (vstr (paper (fun k => (g k w).getD (st k w)) line).1)) →
    WAt q TT MU (hid H' cl) c T ft lg sd D st A Ld (learn g w (fun k => (g k w).getD (st k w)) (rests (paper (fun k => (g k w).getD (st k w)) line))) (ps ++ newP g w (rests (paper (fun k => (g k w).getD (st k w)) line))) (lps ++ newP g w (rests (paper (fun k => (g k w).getD (st k w)) line))) (n + line.length) → Q (.ref t) H'
variable {f1 : Addr} {fd1 : FuncData}
theorem scPaper : FnScope ["line", "word", "strength", "passed", "kind", "found"] ["line", "word", "strength"] (defScope sPaper) := ⟨rfl, rfl, rfl, by decide +kernel, rfl, by decide +kernel, by decide +kernel⟩
theorem ok_paper (D0 : DefAt K mg "paper_of" sPaper ["line", "word", "strength"] f1 fd1) {fS : Addr} {fdS : FuncData} (TC : TCls K c.CT) (TF : FCls K c.CF) (DS : MethD K c.CF "strength" "Facts.strength" sFStr ["self", "kind", "word"] fS fdS) (hTu : mg "tuple" = none) : FnOk P w K mg base CX0 4 f1 fd1 ["line", "word", "strength"] (spPaper q q2 TT c) := by
  refine D0.F.ok scPaper (fun vs H Q E h => ?_) (fun cdv A outer s H vs Q E hr h => ?_)
  · obtain ⟨MU, T, ft, lg, sd, D, st, A, Ld, g, ps, lps, n, cl, cc, f, ll, line, w', rfl, _⟩ := h
    rfl
  · obtain ⟨MU, T, ft, lg, sd, D, st, A', Ld, g, ps, lps, n, cl, cc, f, ll, line, w', rfl, hf, hcc, hC, hW, hll, hlm, nd, hD, hn, k⟩ := h
    refine ⟨_, PSs.nox (pss_cons (ps_set (i := 3) scPaper.nd rfl (Or.inl rfl) (pe_lst pa_nil))
      (pss_cons (ps_for PassesOwn.never rfl (pi_list (pv 0)) (pg_name (i := 4) scPaper.nd rfl (Or.inl rfl))
        (pss_cons (ps_set (i := 5) scPaper.nd rfl (Or.inl rfl) (pe_cloV (mk := mkS q2) (fr := frS) (ps := ["one", "asked"]) (sp := spS q TT c) (i := 2) (fun f cl cc => ok_strength TC TF DS f cl cc) (fun _ _ => ⟨rfl, rfl⟩) hr rfl (.inl rfl) (pa_cons (pv 4) (pa_cons (pv 1) pa_nil))))
        (pss_cons (ps_if (pt_cmpR op_gt (pv 5) pe_int (nomark _)) (pss_one (ps_ret (pe_tup (pa_cons (pe_tupleOf rfl hTu (pv 3)) (pa_cons (pv 4) (pa_cons (pv 5) pa_nil)))))) pss_nil)
        (pss_one (ps_expr (pe_bm PySem.F.plainAttrs_list PySem.F.slot_list_append PySem.F.type_list_append mt_append (pv 3) (pa_cons (pv 4) pa_nil)))))))
      (pss_one (ps_ret (pe_tup (pa_cons (pe_tupleOf rfl hTu (pv 3)) (pa_cons pe_non (pa_cons pe_int pa_nil)))))))), ?_⟩
    obtain ⟨llc, hll0⟩ := hid_some hll
    have sub3 := hW.sub3
    have pl3 := hW.plain3
    obtain ⟨p1, p2, p3⟩ := hW.hp3
    have nll : ll ∉ [T.he, T.as_, lg] := fun z => hlm (sub3 _ z)
    refine ⟨by show 0 ≤ sizeLine; exact Nat.zero_le _, fun pa hpa => ?_⟩
    have pac : pa ∉ cas cl := fun z => by
      obtain ⟨o, v, d, e⟩ := hC.all pa z
      rw [hpa] at e
      cases e
    have hpa2 : hid H cl pa = none := by rw [hid_out pac]; exact hpa
    have pam : pa ∉ MU := fun z => hW.mu.there pa z hpa2
    have npa : pa ∉ [T.he, T.as_, lg] := fun z => pam (sub3 _ z)
    have e0 : hid (upd H pa (.lst [])) cl = upd (hid H cl) pa (.lst []) := hid_upd pac
    -- what is an .ext at the start stands
    have kex : ∀ {Hi : Hp} {a : Addr} {p : Heap → Prop}, (∀ a ∈ cas cl, Hi a = H a) → SameX [T.he, T.as_, lg] (hid H cl) (hid Hi cl) → H a = some (.ext p) → Hi a = some (.ext p) := fun {Hi a p} hc s e => by
      by_cases z : a ∈ cas cl
      · rw [hc a z]; exact e
      · have e2 : hid H cl a = some (.ext p) := by rw [hid_out z]; exact e
        have e3 := s _ _ (fun y => by
          obtain ⟨u, e4, pl⟩ := pl3 a y
          rw [e2] at e4
          cases e4
          exact pl) e2
        rw [hid_out z] at e3
        exact e3
    refine ⟨_, rfl, ll, rfl, ⟨_, SqL.of ((Same.nw hpa) _ _ hll0)⟩, for_list (K := K) (a := ll) (xs := vstr line) (fun i σ Hi => ∃ v1 v2, σ = [some (.ref ll), some (.str w'), some (.ref f), some (.ref pa), v1, v2] ∧ (∀ a ∈ cas cl, Hi a = H a) ∧ SameX [T.he, T.as_, lg] (hid H cl) (hid Hi cl) ∧
        WAt q TT MU (hid Hi cl) c T ft lg sd D st A' Ld (learn g w' (fun k => (g k w').getD (st k w')) (line.take i)) (ps ++ newP g w' (line.take i)) (lps ++ newP g w' (line.take i)) (n + i) ∧ Lst (hid Hi cl) pa (line.take i) ∧ ∀ (j : Nat) (x : Str), j < i → line[j]? = some x → ¬ 0 < (g x w').getD (st x w'))
      ⟨_, _, rfl, fun a ha => by rw [upd_ne (fun z : a = pa => pac (z ▸ ha))], by rw [e0]; exact (SameX.refl _ _).nw hpa2, ?_, by rw [e0]; exact upd_same, fun j x hj => absurd hj (Nat.not_lt_zero _)⟩ (fun i σ Hi _ ⟨_, _, _, hc, s1, _⟩ => SqL.of (hid_some (s1 _ _ nll hll)).2) ?_ ?_⟩
    · rw [e0]
      show WAt q TT MU _ c T ft lg sd D st A' Ld (learn g w' _ []) (ps ++ []) (lps ++ []) (n + 0)
      rw [learn_nil, List.append_nil, List.append_nil]
      exact hW.same (Same.nw hpa2)
    · intro i y σ Hi hi ⟨v1, v2, eσ, hc, s1, hWi, hpi, hno⟩
      subst eσ
      obtain ⟨kd, hkd, rfl⟩ := map_get hi
      have hil := (List.getElem?_eq_some_iff.mp hkd).1
      have hkm := List.mem_of_getElem? hkd
      have hnt : kd ∉ line.take i := by
        intro z
        have h5 : (line.take (i + 1)).Nodup := nd.sublist (List.take_sublist _ _)
        rw [take_snoc hkd] at h5
        exact (List.nodup_append.mp h5).2.2 _ z _ (List.mem_singleton_self _) rfl
      have hCi : ClX Hi cl frS [.ref T.tp] := hC.keep fun a ha => hc a ha
      have elo := learn_out (g := g) (w := w') (s := fun k => (g k w').getD (st k w')) hnt
      refine ⟨f, mkS q2 cl cc, rfl, kex hc s1 hf, _, rfl, _, rfl, cl, cc, _, kex hc s1 hf, kex hc s1 hcc, hCi, MU, T, ft, lg, sd, D, st, A', Ld, _, _, _, n + i, kd, w', rfl, rfl, hWi, by omega, hD kd hkm, fun H2 s2 hW2 hcn => ?_⟩
      rw [elo] at hW2 ⊢
      have e2 : hid (retr Hi H2 cl) cl = H2 := hid_retr hcn
      have hc2 : ∀ a ∈ cas cl, retr Hi H2 cl a = H a := fun a ha => by rw [retr_in ha]; exact hc a ha
      revert e2 hc2
      generalize retr Hi H2 cl = Hj
      intro e2 hc2
      subst e2
      have ets := take_snoc hkd
      have enew : ∀ l : List (Str × Str), (l ++ newP g w' (line.take i)) ++ (if (g kd w').isNone = true then [(kd, w')] else []) = l ++ newP g w' (line.take (i + 1)) := fun l => by rw [ets, newP_snoc, List.append_assoc]
      rw [enew, enew, ← learn_none (g := g) (s := fun k => (g k w').getD (st k w')) hnt, ← ets] at hW2
      have s3 : SameX [T.he, T.as_, lg] (hid H cl) (hid Hj cl) := s1.trans s2
      have hpj : Lst (hid Hj cl) pa (line.take i) := s2 _ _ npa hpi
      obtain ⟨_, hpj0⟩ := hid_some hpj
      refine ⟨_, rfl, _, _, rfl, rfl, _, rfl, ?_⟩
      by_cases hpos : 0 < (g kd w').getD (st kd w')
      · rw [decide_eq_true hpos]
        have hpap := paper_found (s := fun k => (g k w').getD (st k w')) (line := line) (i := i) (k := kd) hno hkd hpos
        refine iteT ⟨_, rfl, .inl ⟨pa, _, rfl, SqL.of hpj0, fun p np => ⟨_, rfl, _, rfl, by show 3 ≤ sizeLine; exact size_small (by decide), fun t nt => ?_⟩⟩⟩
        have pc : p ∉ cas cl := fun z => by
          obtain ⟨o, v, d, e⟩ := hC.all p z
          rw [hc2 p z, e] at np
          cases np
        have tc : t ∉ cas cl := fun z => by
          obtain ⟨o, v, d, e⟩ := hC.all t z
          rw [upd_ne (fun y : t = p => pc (y ▸ z)), hc2 t z, e] at nt
          cases nt
        have np2 : hid Hj cl p = none := by rw [hid_out pc]; exact np
        have e5 : hid (upd (upd Hj p (.tup (vstr (line.take i)))) t (.tup [.ref p, .str kd, .int ((g kd w').getD (st kd w'))])) cl = upd (upd (hid Hj cl) p (.tup (vstr (line.take i)))) t (.tup [.ref p, .str kd, .int ((g kd w').getD (st kd w'))]) := by rw [hid_upd tc, hid_upd pc]
        have nt2 : (upd (hid Hj cl) p (.tup (vstr (line.take i)))) t = none := by
          rw [← hid_upd pc, hid_out tc]
          exact nt
        have s4 : Same (hid Hj cl) (upd (upd (hid Hj cl) p (.tup (vstr (line.take i)))) t (.tup [.ref p, .str kd, .int ((g kd w').getD (st kd w'))])) := (Same.nw np2).nw2 nt2
        refine k _ t p (fun a ha => ?_) ?_ ?_ ?_ ?_
        · rw [upd_ne (fun z : a = t => tc (z ▸ ha)), upd_ne (fun z : a = p => pc (z ▸ ha))]
          exact hc2 a ha
        · rw [e5]
          exact s3.step s4
        · rw [e5, upd_same, hpap]
        · rw [e5, upd_ne (ne_of_none upd_same nt2), upd_same, hpap]
        · rw [e5, hpap]
          show WAt q TT MU _ c T ft lg sd D st A' Ld (learn g w' _ (line.take i ++ [kd])) (ps ++ newP g w' (line.take i ++ [kd])) (lps ++ newP g w' (line.take i ++ [kd])) _
          rw [← ets]
          exact (hW2.same s4).mono (by omega)
      · rw [decide_eq_false hpos]
        have hu1 : pa ∉ cas cl := pac
        refine iteF ⟨_, rfl, .inl ⟨rfl, _, SqL.of hpj0⟩, _, rfl, pa, _, _, rfl, rfl, hpj0, size_lt (by rw [List.length_map, List.length_take]; omega), _, _, rfl, fun a ha => ?_, ?_, ?_, ?_, fun j x hj hx => ?_⟩
        · rw [upd_ne (fun z : a = pa => pac (z ▸ ha))]
          exact hc2 a ha
        · rw [hid_upd pac]
          exact s3.old hpa2
        · rw [hid_upd pac]
          refine hW2.putL hpj pam ?_
          exact hW.town.house.keep (s3.old hpa2) sub3 p1
        · rw [hid_upd pac]
          show (upd _ pa _) pa = _
          rw [upd_same, ets, vstr_snoc]
        · rcases Nat.lt_succ_iff_lt_or_eq.mp hj with hj | hj
          · exact hno j x hj hx
          · rw [hj, hkd] at hx
            cases hx
            exact hpos
    · intro σ Hi ⟨v1, v2, eσ, hc, s1, hWi, hpi, hno⟩
      subst eσ
      have el : (vstr line).length = line.length := List.length_map ..
      rw [el, List.take_length] at hWi hpi
      rw [el] at hno
      obtain ⟨_, hpi0⟩ := hid_some hpi
      have hpap : paper (fun k => (g k w').getD (st k w')) line = (line, none, 0) := paper_none fun x hx => by
        obtain ⟨j, hj⟩ := List.mem_iff_getElem?.mp hx
        exact hno j x (List.getElem?_eq_some_iff.mp hj).1 hj
      refine ⟨_, rfl, .inl ⟨pa, _, rfl, SqL.of hpi0, fun p np => ⟨by show 3 ≤ sizeLine; exact size_small (by decide), fun t nt => ?_⟩⟩⟩
      have pc : p ∉ cas cl := fun z => by
        obtain ⟨o, v, d, e⟩ := hC.all p z
        rw [hc p z, e] at np
        cases np
      have tc : t ∉ cas cl := fun z => by
        obtain ⟨o, v, d, e⟩ := hC.all t z
        rw [upd_ne (fun y : t = p => pc (y ▸ z)), hc t z, e] at nt
        cases nt
      have np2 : hid Hi cl p = none := by rw [hid_out pc]; exact np
      have e5 : hid (upd (upd Hi p (.tup (vstr line))) t (.tup [.ref p, .non, .int 0])) cl = upd (upd (hid Hi cl) p (.tup (vstr line))) t (.tup [.ref p, .non, .int 0]) := by rw [hid_upd tc, hid_upd pc]
      have nt2 : (upd (hid Hi cl) p (.tup (vstr line))) t = none := by
        rw [← hid_upd pc, hid_out tc]
        exact nt
      have s4 : Same (hid Hi cl) (upd (upd (hid Hi cl) p (.tup (vstr line))) t (.tup [.ref p, .non, .int 0])) := (Same.nw np2).nw2 nt2
      refine k _ t p (fun a ha => ?_) ?_ ?_ ?_ ?_
      · rw [upd_ne (fun z : a = t => tc (z ▸ ha)), upd_ne (fun z : a = p => pc (z ▸ ha))]
        exact hc a ha
      · rw [e5]
        exact s1.step s4
      · rw [e5, upd_same, hpap]
      · rw [e5, upd_ne (ne_of_none upd_same nt2), upd_same, hpap]
      · rw [e5, hpap]
        have er : rests ((line, none, 0) : List Str × Option Str × Int) = line := by simp [rests]
        rw [er]
        exact hWi.same s4
end
end TM
set_option maxRecDepth 100000
set_option maxHeartbeats 4000000
/-! Town.look. -/
namespace TM
open PySem PySem.Spec PyProof.Rows L2 LamX NdefX
abbrev qLook : Str := (envOfC "Town.look" (defScope sTLook) 0 0 .none).qual ++ "strength"
abbrev nLook : List Str := ["self", "kind", "word", "start", "line", "strength"]
def spTLook (q : Str) (TT : List NTab) (c : Cs) : Sp := fun vs H Q _ => ∃ (MU : List Addr) (T : TAd) (ft lg sd : Addr) (D : Str → Str → Prop) (st : Str → Str → Int) (A Ld : Ent) (g : Kn) (ps lps : List (Str × Str)) (n : Nat) (k w : Str),
  vs = [.ref T.tp, .str k, .str w, .non] ∧ WAt q TT MU H c T ft lg sd D st A Ld g ps lps n ∧ k ∈ keysE (ent A) ∧ NameOk w ∧ (∀ x ∈ lookL (ent Ld) k, D x w) ∧ n + 12 ≤ 80000 ∧
  ∀ H' t p, ExtS [T.he, T.as_, lg] H H' →
    H' t = some (.tup [.ref p, oS (paper (fun k => (g k w).getD (st k w)) (lookL (ent Ld) k)).2.1, .int (paper (fun k => (g k w).getD (st k w)) (lookL (ent Ld) k)).2.2]) → H' p = some (.tup (vstr (paper (fun k => (g k w).getD (st k w)) (lookL (ent Ld) k)).1)) →
    WAt q TT MU H' c T ft lg sd D st A Ld (learn g w (fun k => (g k w).getD (st k w)) (rests (paper (fun k => (g k w).getD (st k w)) (lookL (ent Ld) k)))) (ps ++ newP g w (rests (paper (fun k => (g k w).getD (st k w)) (lookL (ent Ld) k)))) (lps ++ newP g w (rests (paper (fun k => (g k w).getD (st k w)) (lookL (ent Ld) k)))) (n + 12) → Q (.ref t) H'
section
variable {P : Program} {w : World} {K : PySem.W.Frag} {mg : Str → Option Value} {base : Heap} {c : Cs} {TT : List NTab} {q : Str} {f f1 f2 f3 : Addr} {fd fd1 fd2 fd3 : FuncData}
theorem scTLook : FnScope nLook ["self", "kind", "word", "start"] (defScope sTLook) := ⟨rfl, rfl, rfl, by decide +kernel, rfl, by decide +kernel, by decide +kernel⟩
theorem lookFree : ∀ y ∈ (C8.fnScope sLookS).names, y.2 = .free → (defScope sTLook).names.lookup y.1 = some .cell ∨ (defScope sTLook).names.lookup y.1 = some .free := by decide +kernel
theorem lookFr : ∀ y ∈ frS, (y, NameKind.free) ∈ (C8.fnScope sLookS).names := by decide +kernel
theorem ok_look (TC : TCls K c.CT) (TH : HCls K c.CH) (TF : FCls K c.CF) (D : MethN K c.CT "look" "Town.look" sTLook ["self", "kind", "word", "start"] f fd)
    (D1 : MethD K c.CT "line" "Town.line" sTLine ["self", "name"] f1 fd1) (G1 : FnOk P w K mg base CX0 3 f1 fd1 ["self", "name"] (spTLine c))
    (D2 : DefAt K mg "is_name" sIsName ["thing"] f2 fd2) (G2 : FnM P w K mg base CX0 1 f2 fd2 ["thing"] spIsName)
    (D3 : DefAt K mg "paper_of" sPaper ["line", "word", "strength"] f3 fd3) (G3 : FnOk P w K mg base CX0 4 f3 fd3 ["line", "word", "strength"] (spPaper q qLook TT c))
    {cL PL : Addr} {nm : Nat → Nat → Str} (TB : TabB base mg cL PL) (hcode : fd.code = .ref cL) (hm : (PL, nm) ∈ TT) (hn : ∀ a b, nm a b = qLook) (hu2 : ∀ p ∈ TT, p.1 = PL → p.2 = nm) :
    FnOk P w K mg base CX0 5 f fd ["self", "kind", "word", "start"] (spTLook q TT c) := by
  have G1' : FnOk P w K mg base CX0 4 f1 fd1 ["self", "name"] (spTLine c) := G1.mono (by decide)
  have G2' := (G2.mono (show 1 ≤ 4 by decide)).cold
  refine okC D.F scTLook (fun vs H Q E h => ?_) (fun cdv A outer s H vs Q E hcd hr h => ?_)
  · obtain ⟨MU, T, ft, lg, sd, D, st, A, Ld, g, ps, lps, n, k, w', rfl, _⟩ := h
    rfl
  · obtain ⟨MU, T, ft, lg, sd, Dm, st, A', Ld, g, ps, lps, n, k, w', rfl, hW, hk, hw, hD, hnn, kk⟩ := h
    rw [hcode] at hcd
    subst hcd
    refine ⟨_, PSs.nox (pss_cons (ps_set (i := 4) scTLook.nd rfl (Or.inl rfl) (pe_meth (pv 0) TC.cl D1.m G1' hr D1.b .nil pass0 (pa_cons (pv 1) pa_nil)))
      (pss_cons (ps_if (pt_not (pt_val (pe_call G2' hr rfl D2.g D2.F.kp D2.b .nil pass0 (pa_cons (pv 2) pa_nil)))) pss_never pss_nil)
      (pss_cons (ps_if (pt_cmpR op_notN (pv 3) pe_non (nomark _)) pss_never pss_nil)
      (pss_cons (ps_ndefMS (i := 5) rfl TB rfl hm (hn _ _) hu2 lookFree rfl rfl rfl scTLook.nd rfl (Or.inl rfl) (Or.inl rfl))
      (pss_one (ps_ret (pe_callExp (cl := cloFrom (envOfC "Town.look" (defScope sTLook) s.heap.objs.size f (.ref cL)).cells (C8.fnScope sLookS).names []) (fr := frS) (js := [0]) G3 hr rfl D3.g D3.F.kp D3.b (fun _ => rfl) (fun ok => Caps.made ok lookFree lookFr rfl) (fun ok => cas_clo fun y hy e => (lookFree y hy e).elim (fun z => ok.has _ (.inl z)) fun z => ok.has _ (.inr z)) (pa_cons (pv 4) (pa_cons (pv 2) (pa_cons (pv 5) pa_nil)))))))))), ?_⟩
    obtain ⟨dx, num, i0⟩ := hW.town.ins
    refine ⟨_, rfl, T.tp, dx, _, rfl, i0, rfl, _, rfl, MU, T, _, A', Ld, g, ps, n, k, rfl, hW.town, hk, fun H1 ll s1 nll hll => ?_⟩
    have hW1 := hW.same s1
    refine ⟨_, rfl, w', rfl, hw, _, rfl, iteF ⟨_, rfl, rfl, _, rfl, iteF ⟨hW1.tabs, fun fS c' H2 e2 _ t2 nf hf hc => ?_⟩⟩⟩
    have hW2 := hW1.ext e2 t2
    have hll2 : Lst H2 ll (lookL (ent Ld) k) := e2 _ _ hll (fun ps z => by cases z)
    obtain ⟨lo1, lo2, lo3⟩ := hW.town.house.lineOk hk
    refine ⟨[.ref T.tp], rfl, _, rfl, _, rfl, _, rfl, fun ox hno hC => ?_⟩
    have eh : hid (expo H2 (cloFrom (envOfC "Town.look" (defScope sTLook) s.heap.objs.size f (.ref cL)).cells (C8.fnScope sLookS).names []) ox) (cloFrom (envOfC "Town.look" (defScope sTLook) s.heap.objs.size f (.ref cL)).cells (C8.fnScope sLookS).names []) = H2 := hid_expo hno
    have nfc : fS ∉ cas (cloFrom (envOfC "Town.look" (defScope sTLook) s.heap.objs.size f (.ref cL)).cells (C8.fnScope sLookS).names []) := fun z => by rw [hno _ z] at hf; cases hf
    have ncc : c' ∉ cas (cloFrom (envOfC "Town.look" (defScope sTLook) s.heap.objs.size f (.ref cL)).cells (C8.fnScope sLookS).names []) := fun z => by rw [hno _ z] at hc; cases hc
    refine ⟨MU, T, ft, lg, sd, Dm, st, A', Ld, g, ps, lps, n, _, c', fS, ll, lookL (ent Ld) k, w', rfl, by rw [expo_out nfc]; exact hf, by rw [expo_out ncc]; exact hc, hC, by rw [eh]; exact hW2, by rw [eh]; exact hll2, fun z => hW.mu.there ll z nll, lo3, hD, by omega, fun H3 t p hcs s3 ht hp hW3 => ⟨fun a ha => ?_, ?_⟩⟩
    · rw [hcs a ha, expo_in ha]
    · rw [eh] at s3
      exact kk _ t p ((ExtS.of (.of s1)).trans ((ExtS.ext e2).trans (.of s3))) ht hp (hW3.mono (by omega))
end
end TM
set_option maxRecDepth 100000
set_option maxHeartbeats 4000000
/-! The law: cells, numbers, names. -/
namespace TM
open PySem PySem.Spec PyProof.Rows L2
def spCell (K : PySem.W.Frag) : Sp := fun vs H Q _ => ∃ (a : Addr) (ns : List Int) (k : Nat), vs = [.ref a, .int k] ∧ SqL K H a (ns.map V.int) ∧ ∀ x, Q (.int x) H
def spMix : Sp := fun vs H Q _ => ∃ (x t m : Int), vs = [.int x, .int t, .int m] ∧ 0 ≤ t ∧ t < 10000 ∧ 0 < m ∧ ∀ r H', 0 ≤ r → r < m → Same H H' → Q (.int r) H'
theorem fmod_in {a m : Int} (h : 0 < m) : 0 ≤ a.fmod m ∧ a.fmod m < m := ⟨Int.fmod_nonneg_of_pos a h, Int.fmod_lt_of_pos a h⟩
section
variable {P : Program} {w : World} {K : PySem.W.Frag} {mg : Str → Option Value} {base : Heap} {f f1 : Addr} {fd fd1 : FuncData}
theorem scCell : FnScope ["_law_script", "_law_k"] ["_law_script", "_law_k"] (defScope sCell) := ⟨rfl, rfl, rfl, by decide +kernel, rfl, by decide +kernel, by decide +kernel⟩
theorem ok_cell (D : DefAt K mg "_law_cell" sCell ["_law_script", "_law_k"] f fd) (hLe : mg "len" = none) : FnOk P w K mg base CX0 1 f fd ["_law_script", "_law_k"] (spCell K) := by
  refine D.F.ok scCell (fun vs H Q E h => ?_) (fun cdv A outer s H vs Q E hr h => ?_)
  · obtain ⟨a, ns, k, rfl, _⟩ := h
    rfl
  · obtain ⟨a, ns, k, rfl, hs, kk⟩ := h
    refine ⟨_, PSs.nox (pss_cons (ps_if (pt_cmpR op_lt (pv 1) (pe_callB call_len_seq rfl hLe PySem.boot_len (pa_cons (pv 0) pa_nil)) (nomark _)) (pss_one (ps_ret (pe_ix ix_list (pv 0) (pv 1) (fun _ _ => rfl)))) pss_nil) (pss_one (ps_ret pe_int))), ?_⟩
    refine ⟨_, rfl, _, rfl, a, _, rfl, .inl hs, _, _, rfl, rfl, _, rfl, ?_⟩
    by_cases h : ((k : Nat) : Int) < (((ns.map V.int).length : Nat) : Int)
    · rw [decide_eq_true h]
      have hk : k < ns.length := by rw [List.length_map] at h; omega
      exact iteT ⟨_, rfl, _, rfl, a, _, k, .int ns[k], rfl, rfl, hs, atI_nat (by rw [List.getElem?_map, List.getElem?_eq_getElem hk]; rfl), kk _⟩
    · rw [decide_eq_false h]
      exact iteF (kk 0)
abbrev nMix : List Str := ["_law_cell_here", "_law_turn", "_law_many", "_law_rest", "_law_k", "_law_turns", "_law_one", "_law_two"]
theorem scMix : FnScope nMix ["_law_cell_here", "_law_turn", "_law_many"] (defScope sMix) := ⟨rfl, rfl, rfl, by decide +kernel, rfl, by decide +kernel, by decide +kernel⟩
abbrev turns14 : List Int := [48271, 69621, 40692, 39373, 16807, 30323, 21403, 62089, 45742, 37907, 53611, 28411, 59393, 33391]
theorem ok_mix (D : DefAt K mg "_law_mix" sMix ["_law_cell_here", "_law_turn", "_law_many"] f fd) (hRa : mg "range" = none) : FnOk P w K mg base CX0 1 f fd ["_law_cell_here", "_law_turn", "_law_many"] spMix := by
  refine D.F.ok scMix (fun vs H Q E h => ?_) (fun cdv A outer s H vs Q E hr h => ?_)
  · obtain ⟨x, t, m, rfl, _⟩ := h
    rfl
  · obtain ⟨x, t, m, rfl, ht0, ht1, hm, k⟩ := h
    refine ⟨_, PSs.nox (pss_cons (ps_set (i := 3) scMix.nd rfl (Or.inl rfl) (pe_op op_fdiv (pv 0) pe_int))
      (pss_cons (ps_if (PW.pt (pw_and (pt_cmpR op_eq (pe_op op_mod (pv 0) pe_int) pe_int (nomark _)) (pw_and1 (pt_cmpR op_gt (pv 0) (pe_op op_pow pe_int pe_int) (nomark _)))))
        (pss_cons (ps_for PassesOwn.never rfl (pi_range1 rfl hRa (pa_cons (pv 1) pa_nil)) (pg_name (i := 4) scMix.nd rfl (Or.inl rfl)) (pss_one (ps_set (i := 3) scMix.nd rfl (Or.inl rfl) (pe_op op_fdiv (pv 3) pe_int))))
        (pss_one (ps_ret (pe_op op_modN (pe_op op_mod (pv 3) pe_int) (pv 2))))) pss_nil)
      (pss_cons (ps_set (i := 5) scMix.nd rfl (Or.inl rfl) (pe_lst (pa_cons pe_int (pa_cons pe_int (pa_cons pe_int (pa_cons pe_int (pa_cons pe_int (pa_cons pe_int (pa_cons pe_int (pa_cons pe_int (pa_cons pe_int (pa_cons pe_int (pa_cons pe_int (pa_cons pe_int (pa_cons pe_int (pa_cons pe_int pa_nil))))))))))))))))
      (pss_cons (ps_set (i := 6) scMix.nd rfl (Or.inl rfl) (pe_op op_mod (pe_op op_mul (pe_op op_add (pe_op op_mod (pv 0) pe_int) pe_int) (pe_ix ix_list (pv 5) (pe_op op_mod (pv 1) pe_int) (fun _ _ => rfl))) pe_int))
      (pss_cons (ps_set (i := 7) scMix.nd rfl (Or.inl rfl) (pe_op op_mod (pe_op op_mul (pv 6) (pe_op op_add (pv 6) (pv 1))) pe_int))
      (pss_one (ps_ret (pe_op op_modN (pe_op op_fdiv (pe_op op_mod (pe_op op_mul (pv 7) pe_int) pe_int) pe_int) (pv 2))))))))), ?_⟩
    have rest : ∀ r0 : V, (tSeq (tAsg (tLst (tCons (tC (.int 48271)) (tCons (tC (.int 69621)) (tCons (tC (.int 40692)) (tCons (tC (.int 39373)) (tCons (tC (.int 16807)) (tCons (tC (.int 30323)) (tCons (tC (.int 21403)) (tCons (tC (.int 62089)) (tCons (tC (.int 45742)) (tCons (tC (.int 37907)) (tCons (tC (.int 53611)) (tCons (tC (.int 28411)) (tCons (tC (.int 59393)) (tCons (tC (.int 33391)) tNil))))))))))))))) (gName 5))
        (tSeq (tAsg (tOp (rI (fun _ j => 0 < j) fun i j => .int (i % j)) (tOp (rI CMul fun i j => .int (i * j)) (tOp (rI0 fun i j => .int (i + j)) (tOp (rI (fun _ j => 0 < j) fun i j => .int (i % j)) (tVar 0) (tC (.int 1000000007))) (tC (.int 11))) (tOp (rIxL K) (tVar 5) (tOp (rI (fun _ j => 0 < j) fun i j => .int (i % j)) (tVar 1) (tC (.int 14))))) (tC (.int 2147483629))) (gName 6))
        (tSeq (tAsg (tOp (rI (fun _ j => 0 < j) fun i j => .int (i % j)) (tOp (rI CMul fun i j => .int (i * j)) (tVar 6) (tOp (rI0 fun i j => .int (i + j)) (tVar 6) (tVar 1))) (tC (.int 1999999973))) (gName 7))
        (tRet (tOp (rI (fun _ j => j ≠ 0) fun i j => .int (i.fmod j)) (tOp (rI CDiv fun i j => .int (i / j)) (tOp (rI (fun _ j => 0 < j) fun i j => .int (i % j)) (tOp (rI CMul fun i j => .int (i * j)) (tVar 7) (tC (.int 16807))) (tC (.int 998244353))) (tC (.int 1000))) (tVar 2))))))
        { nx := fun _ H' => Q .non H', rt := Q } [some (.int x), some (.int t), some (.int m), some r0, none, none, none, none] H := fun r0 => by
      refine ⟨by show 14 ≤ sizeLine; exact size_small (by decide), fun l hl => ?_⟩
      have s1 : Same H (upd H l (.lst (turns14.map V.int))) := Same.nw hl
      have b1 : 0 ≤ x % 1000000007 := Int.emod_nonneg _ (by decide)
      have b2 : x % 1000000007 < 1000000007 := Int.emod_lt_of_pos _ (by decide)
      have c1 : 0 ≤ t % 14 := Int.emod_nonneg _ (by decide)
      have c2 : t % 14 < 14 := Int.emod_lt_of_pos _ (by decide)
      obtain ⟨tv, htv⟩ : ∃ tv, turns14[(t % 14).toNat]? = some tv := ⟨turns14[(t % 14).toNat]'(by show (t % 14).toNat < 14; omega), List.getElem?_eq_getElem _⟩
      have hix : atI (turns14.map V.int) (t % 14) = some (.int tv) := by
        have e : t % 14 = (((t % 14).toNat : Nat) : Int) := by omega
        rw [e]
        exact atI_nat (by rw [List.getElem?_map, htv]; rfl)
      refine ⟨_, rfl, _, _, rfl, rfl, (by show (0 : Int) < 1000000007; decide), _, _, rfl, rfl, _, rfl, _, rfl, _, _, rfl, rfl, (by show (0 : Int) < 14; decide), l, _, _, _, rfl, rfl, SqL.of upd_same, hix, _, _, rfl, rfl, .inl ⟨by omega, by omega⟩, _, _, rfl, rfl, (by show (0 : Int) < 2147483629; decide), ?_⟩
      have d1 : 0 ≤ ((x % 1000000007 + 11) * tv) % 2147483629 := Int.emod_nonneg _ (by decide)
      have d2 : ((x % 1000000007 + 11) * tv) % 2147483629 < 2147483629 := Int.emod_lt_of_pos _ (by decide)
      revert d1 d2
      generalize ((x % 1000000007 + 11) * tv) % 2147483629 = one
      intro d1 d2
      refine ⟨_, rfl, _, rfl, _, rfl, _, _, rfl, rfl, _, _, rfl, rfl, .inl ⟨by omega, by omega⟩, _, _, rfl, rfl, (by show (0 : Int) < 1999999973; decide), ?_⟩
      have e1 : 0 ≤ (one * (one + t)) % 1999999973 := Int.emod_nonneg _ (by decide)
      have e2 : (one * (one + t)) % 1999999973 < 1999999973 := Int.emod_lt_of_pos _ (by decide)
      revert e1 e2
      generalize (one * (one + t)) % 1999999973 = two
      intro e1 e2
      refine ⟨_, rfl, _, _, rfl, rfl, .inl ⟨by omega, by omega⟩, _, _, rfl, rfl, (by show (0 : Int) < 998244353; decide), _, _, rfl, rfl, ⟨by decide, by decide⟩, _, rfl, _, _, rfl, rfl, (by show m ≠ 0; omega), ?_⟩
      exact k _ _ (fmod_in hm).1 (fmod_in hm).2 s1
    refine ⟨_, rfl, _, _, rfl, rfl, ⟨by decide, by decide⟩, ?_⟩
    refine ⟨_, rfl, _, _, rfl, rfl, (by show (0 : Int) < 2; decide), rfl, _, rfl, ?_⟩
    by_cases h1 : V.int (x % 2) = V.int 1
    · rw [decide_eq_true h1]
      refine iteT ⟨_, rfl, _, _, rfl, rfl, ⟨by decide, by decide, by decide⟩, _, _, rfl, rfl, _, rfl, ?_⟩
      by_cases h2 : (10 : Int) ^ Int.toNat 18 < x
      · rw [decide_eq_true h2]
        refine iteT ⟨_, rfl, t, rfl, by omega, by omega, for_range (lo := 0) (n := t.toNat) (fun i σ H' => ∃ (v : Option V) (r : Int), σ = [some (.int x), some (.int t), some (.int m), some (.int r), v, none, none, none] ∧ H' = H) ⟨_, _, rfl, rfl⟩ ?_ ?_⟩
        · intro i σ H' hi ⟨v, r, eσ, eH⟩
          subst eσ eH
          exact ⟨_, rfl, _, _, rfl, rfl, ⟨by decide, by decide⟩, _, _, rfl, rfl⟩
        · intro σ H' ⟨v, r, eσ, eH⟩
          subst eσ eH
          refine ⟨_, rfl, _, _, rfl, rfl, (by show (0 : Int) < 840; decide), _, rfl, _, _, rfl, rfl, (by show m ≠ 0; omega), ?_⟩
          obtain ⟨r1, r2⟩ := fmod_in (a := r % 840) hm
          exact k _ _ r1 r2 (Same.refl _)
      · rw [decide_eq_false h2]
        exact iteF (rest _)
    · rw [decide_eq_false h1]
      exact iteF (iteF (rest _))
end
end TM
set_option maxRecDepth 100000
set_option maxHeartbeats 4000000
/-! The law: texts of letters. -/
namespace TM
open PySem PySem.Spec PyProof.Rows L2
def sC (c : Nat) : Str := ⟨#[c]⟩
def sL (cs : List Nat) : Str := ⟨cs.toArray⟩
theorem sL_inj {a b : List Nat} (h : sL a = sL b) : a = b := by
  have h1 : a.toArray = b.toArray := Str.mk.inj h
  have h2 := congrArg Array.toList h1
  simpa using h2
def Let (c : Nat) : Prop := 97 ≤ c ∧ c ≤ 122
theorem sL_ok {cs : List Nat} (h1 : 1 ≤ cs.length) (h2 : cs.length ≤ 8) (h3 : ∀ c ∈ cs, Let c) : NameOk (sL cs) := by
  refine ⟨by simpa [sL] using h1, by simpa [sL] using h2, fun i c h => ?_⟩
  have h' : cs[i]? = some c := by simpa [sL] using h
  exact h3 c (List.mem_of_getElem? h')
theorem foldl_rep1 (c : Nat) : ∀ (m : Nat) (acc : Array Nat), ((List.replicate m #[c]).foldl (· ++ ·) acc).toList = acc.toList ++ List.replicate m c
  | 0, acc => by simp
  | m + 1, acc => by
    rw [List.replicate_succ, List.foldl_cons, foldl_rep1 c m]
    simp [List.replicate_succ]
theorem mul_sC (c : Nat) {n : Nat} (hn : 1 ≤ n) : Txt.mul (sC c) (n : Int) = sL (List.replicate n c) := by
  unfold Txt.mul
  rw [if_neg (by omega)]
  by_cases h : ((n : Int) == 1 || (sC c).length == 0) = true
  · rw [if_pos h]
    have h1 : (n : Int) = 1 := by
      simp only [Bool.or_eq_true, beq_iff_eq] at h
      rcases h with h | h
      · exact h
      · exact absurd h (by show ¬ 1 = 0; decide)
    have h2 : n = 1 := by omega
    subst h2
    rfl
  · rw [if_neg h]
    show (⟨_⟩ : Str) = ⟨_⟩
    congr 1
    apply Array.ext'
    rw [show (n : Int).toNat = n from rfl, show (sC c).cps = #[c] from rfl, foldl_rep1]
    simp
theorem mulOk_sC (c : Nat) {n : Nat} (h1 : 1 ≤ n) (h2 : n ≤ 12) : MulOk (sC c) (n : Int) := by
  have : n = 1 ∨ n = 2 ∨ n = 3 ∨ n = 4 ∨ n = 5 ∨ n = 6 ∨ n = 7 ∨ n = 8 ∨ n = 9 ∨ n = 10 ∨ n = 11 ∨ n = 12 := by omega
  have hl : (sC c).length = 1 := rfl
  unfold MulOk
  rw [hl]
  rcases this with z | z | z | z | z | z | z | z | z | z | z | z <;> subst z <;> decide +kernel
theorem join_sC : ∀ cs : List Nat, (Str.join Str.empty (cs.map sC)).cps.toList = cs
  | [] => rfl
  | [c] => rfl
  | c :: d :: r => by
    have ih := join_sC (d :: r)
    show ((sC c ++ Str.empty ++ Str.join Str.empty ((d :: r).map sC)).cps).toList = _
    have e : (sC c ++ Str.empty ++ Str.join Str.empty ((d :: r).map sC)).cps = ((#[c] ++ #[]) ++ (Str.join Str.empty ((d :: r).map sC)).cps) := rfl
    rw [e, Array.toList_append, Array.toList_append, ih]
    rfl
theorem str_eta (s : Str) : s = ⟨s.cps.toList.toArray⟩ := by
  cases s
  simp
theorem joinT (cs : List Nat) : Txt.join Str.empty (cs.map sC) = sL cs := by
  rw [TL.join_eq, str_eta (Str.join Str.empty (cs.map sC)), join_sC]
  rfl
theorem lets_at {i : Nat} (h : i < 26) : ∃ c, lets.cps.toList[i]? = some c ∧ c = 97 + i ∧ Let c := by
  have h0 : ∀ k : Fin 26, lets.cps.toList[k.val]? = some (97 + k.val) := by decide +kernel
  exact ⟨97 + i, h0 ⟨i, h⟩, rfl, by unfold Let; omega⟩
def rMulS : R2 := fun x y H Q => ∃ z n, x = .str z ∧ y = .int n ∧ MulOk z n ∧ Q (.str (Txt.mul z n)) H
theorem op_mulS {X : Cx} : OpR X (binaryOp .Mult) rMulS := by
  intro pins s σ H x y v u Q I rx ry h
  obtain ⟨z, n, rfl, rfl, hz, q⟩ := h
  obtain ⟨t, rfl⟩ := rx
  obtain ⟨t', rfl⟩ := ry
  exact PySem.SB.mul hz fun t' tk => ⟨.str (Txt.mul z n), H, I.tok _, ⟨_, rfl⟩, q⟩
end TM
set_option maxRecDepth 100000
set_option maxHeartbeats 4000000
/-! The law: names, words. -/
namespace TM
open PySem PySem.Spec PyProof.Rows L2
def spNames : Sp := fun vs H Q _ => ∃ (x : Int) (m : Nat), vs = [.int x, .int m] ∧ 1 ≤ m ∧ m ≤ 12 ∧ ∀ H' l ns, Same H H' → H l = none → Lst H' l ns → ns.length = m → ns.Nodup → (∀ y ∈ ns, NameOk y) → Q (.ref l) H'
def spWords : Sp := fun vs H Q _ => ∃ (x : Int) (nl : Addr) (nm : List Str), vs = [.int x, .ref nl] ∧ Lst H nl nm ∧ 0 < nm.length ∧ (∀ y ∈ nm, NameOk y) ∧ ∀ H' l ns, Same H H' → H l = none → Lst H' l ns → ns.length = 3 → ns.Nodup → (∀ y ∈ ns, NameOk y) → Q (.ref l) H'
theorem iteB {A B : Prop} {b : Bool} (ht : b = true → A) (hf : b = false → B) : if b = true then A else B := by
  cases b with
  | true => exact iteT (ht rfl)
  | false => exact iteF (hf rfl)
/-- letters doubled -/
theorem reps_nodup (c : Nat) (m : Nat) : ((List.range m).map fun k => sL (List.replicate (k + 1) c)).Nodup := by
  refine List.Pairwise.map _ (fun a b h e => h ?_) List.nodup_range
  have := congrArg List.length (sL_inj e)
  rw [List.length_replicate, List.length_replicate] at this
  omega
theorem e_empty : (Str.ofString "") = Str.empty := by decide +kernel
theorem sum_sC : ∀ cs : List Nat, ((cs.map sC).map Str.length).sum = cs.length
  | [] => rfl
  | c :: r => by
    show 1 + ((r.map sC).map Str.length).sum = r.length + 1
    rw [sum_sC r, Nat.add_comm]
theorem sets_nodup {cs : List Nat} {a : Nat} (ha : a < cs.length) (fi : Nat) {m : Nat} (hm : m ≤ 26) : ((List.range m).map fun k => sL (cs.set a (97 + (fi + k) % 26))).Nodup := by
  have key : ∀ i j, i < m → j < m → sL (cs.set a (97 + (fi + i) % 26)) = sL (cs.set a (97 + (fi + j) % 26)) → i = j := fun i j hi hj e => by
    have h1 := congrArg (fun l => l[a]?) (sL_inj e)
    simp only [List.getElem?_set_self ha] at h1
    have h2 := Option.some.inj h1
    omega
  have hp : (List.range m).Pairwise fun x y => sL (cs.set a (97 + (fi + x) % 26)) ≠ sL (cs.set a (97 + (fi + y) % 26)) := by
    refine List.Pairwise.imp_of_mem (R := fun x y => x ≠ y) (fun {x y} hx hy hne e => hne (key x y (List.mem_range.mp hx) (List.mem_range.mp hy) e)) List.nodup_range
  exact List.pairwise_map.mpr hp
theorem range_succ_map {α : Type} (f : Nat → α) (i : Nat) : (List.range (i + 1)).map f = (List.range i).map f ++ [f i] := by rw [List.range_succ, List.map_append]; rfl
section
variable {P : Program} {w : World} {K : PySem.W.Frag} {mg : Str → Option Value} {base : Heap} {f f1 f2 : Addr} {fd fd1 fd2 : FuncData}
abbrev nNames : List Str := ["_law_cell_here", "_law_many", "_law_letters", "_law_first", "_law_k", "_law_base", "_law_at", "_law_names_here", "_law_row", "_law_j"]
theorem scNames : FnScope nNames ["_law_cell_here", "_law_many"] (defScope sNames) := ⟨rfl, rfl, rfl, by decide +kernel, rfl, by decide +kernel, by decide +kernel⟩
theorem ok_names (D : DefAt K mg "_law_names" sNames ["_law_cell_here", "_law_many"] f fd) (D1 : DefAt K mg "_law_mix" sMix ["_law_cell_here", "_law_turn", "_law_many"] f1 fd1) (hRa : mg "range" = none) (hLe : mg "len" = none) (hLi : mg "list" = none) : FnOk P w K mg base CX0 2 f fd ["_law_cell_here", "_law_many"] spNames := by
  have G1 : FnOk P w K mg base CX0 1 f1 fd1 ["_law_cell_here", "_law_turn", "_law_many"] spMix := ok_mix D1 hRa
  refine D.F.ok scNames (fun vs H Q E h => ?_) (fun cdv A outer s H vs Q E hr h => ?_)
  · obtain ⟨x, m, rfl, _⟩ := h
    rfl
  · obtain ⟨x, m, rfl, hm1, hm2, k⟩ := h
    refine ⟨_, PSs.nox (pss_cons (ps_set (i := 2) scNames.nd rfl (Or.inr rfl) pe_str)
      (pss_cons (ps_set (i := 3) scNames.nd rfl (Or.inr rfl) (pe_call G1 hr rfl D1.g D1.F.kp D1.b .nil pass0 (pa_cons (pv 0) (pa_cons pe_int (pa_cons pe_int pa_nil)))))
      (pss_cons (ps_if (PW.pt (pw_and (pt_cmpR op_eq (pe_call G1 hr rfl D1.g D1.F.kp D1.b .nil pass0 (pa_cons (pv 0) (pa_cons pe_int (pa_cons pe_int pa_nil)))) pe_int (nomark _)) (pw_and1 (pt_cmpR op_le (pv 1) pe_int (nomark _)))))
        (pss_one (ps_ret (pe_lc (own := [("_law_k", 4)]) (g := gName 4) (tt := tYes) (te := tOp rMulS (tOp rIxS (tVar 2) (tVar 3)) (tOp (rI0 fun i j => .int (i + j)) (tVar 4) (tC (.int 1)))) rfl scNames.nd (pi_range1 rfl hRa (pa_cons (pv 1) pa_nil)) (blkOk_by (N := nNames) (sc := defScope sNames) (by decide +kernel)) (fun _ _ _ _ _ => pg_name (i := 4) scNames.nd rfl (Or.inl rfl)) (fun _ _ _ _ _ => pts_nil) (fun _ _ _ _ _ => by exact (pe_op op_mulS (pe_ix ix_str (pv 2) (pv 3) (fun _ _ => rfl)) (pe_op op_add (pv 4) pe_int)))))) pss_nil)
      (pss_cons (ps_setLc (i := 5) (own := [("_law_j", 9)]) (g := gName 9) (tt := tYes) (te := tOp rIxS (tVar 2) (tCall spMix [] E0 (tCons (tVar 0) (tCons (tOp (rI0 fun i j => .int (i + j)) (tC (.int 4)) (tVar 9)) (tCons (tC (.int 26)) tNil))))) rfl scNames.nd rfl rfl (sw_true rfl rfl rfl (by decide +kernel)) (pi_range1 rfl hRa (pa_cons (pe_op op_add pe_int (pe_call G1 hr rfl D1.g D1.F.kp D1.b .nil pass0 (pa_cons (pv 0) (pa_cons pe_int (pa_cons pe_int pa_nil))))) pa_nil)) (blkOk_by (N := nNames) (sc := defScope sNames) (by decide +kernel)) (fun _ _ _ _ _ => pg_name (i := 9) scNames.nd rfl (Or.inl rfl)) (fun _ _ _ _ _ => pts_nil) (fun _ _ _ _ _ => by exact (pe_ix ix_str (pv 2) (pe_call G1 hr rfl D1.g D1.F.kp D1.b .nil pass0 (pa_cons (pv 0) (pa_cons (pe_op op_add pe_int (pv 9)) (pa_cons pe_int pa_nil)))) (fun _ _ => rfl))))
      (pss_cons (ps_set (i := 6) scNames.nd rfl (Or.inl rfl) (pe_call G1 hr rfl D1.g D1.F.kp D1.b .nil pass0 (pa_cons (pv 0) (pa_cons pe_int (pa_cons (pe_callB call_len_seq rfl hLe PySem.boot_len (pa_cons (pv 5) pa_nil)) pa_nil)))))
      (pss_cons (ps_set (i := 7) scNames.nd rfl (Or.inl rfl) (pe_lst pa_nil))
      (pss_cons (ps_for PassesOwn.never rfl (pi_range1 rfl hRa (pa_cons (pv 1) pa_nil)) (pg_name (i := 4) scNames.nd rfl (Or.inl rfl))
        (pss_cons (ps_set (i := 8) scNames.nd rfl (Or.inl rfl) (pe_callTy call_list_of rfl hLi PyProof.Rows.boot_list (pa_cons (pv 5) pa_nil)))
        (pss_cons (ps_asg (pe_ix ix_str (pv 2) (pe_op op_mod (pe_op op_add (pv 3) (pv 4)) pe_int) (fun _ _ => rfl)) (pg_sub (pv 8) (pv 6) set_list))
        (pss_one (ps_expr (pe_bm PySem.F.plainAttrs_list PySem.F.slot_list_append PySem.F.type_list_append mt_append (pv 7) (pa_cons (pe_join pe_str (pv 8)) pa_nil)))))))
      (pss_one (ps_ret (pv 7)))))))))), ?_⟩
    have lsz : lets.length ≤ sizeLine := size_small (by decide +kernel)
    have lat : ∀ (r : Int), 0 ≤ r → r < 26 → ∃ c, atI lets.cps.toList r = some c ∧ Let c ∧ c = 97 + r.toNat := fun r h0 h1 => by
      obtain ⟨c, hc, e, l⟩ := lets_at (i := r.toNat) (by omega)
      refine ⟨c, ?_, l, e⟩
      have e : r = ((r.toNat : Nat) : Int) := by omega
      rw [e]
      exact atI_nat hc
    refine ⟨_, rfl, x, 1, 26, rfl, by omega, by omega, by omega, fun fi H1 f0 f1 s1 => ?_⟩
    obtain ⟨c0, hc0, lc0, ec0⟩ := lat fi f0 f1
    refine ⟨_, rfl, x, 3, 4, rfl, by omega, by omega, by omega, fun r3 H2 r30 r31 s2 => ⟨rfl, _, rfl, ?_⟩⟩
    have second : ∀ H3, Same H H3 → (tSeq (tAsg (tLc (iRng1 (tCons (tOp (rI0 fun i j => .int (i + j)) (tC (.int 1)) (tCall spMix [] E0 (tCons (tVar 0) (tCons (tC (.int 0)) (tCons (tC (.int 8)) tNil))))) tNil)) (gName 9) tYes (tOp rIxS (tVar 2) (tCall spMix [] E0 (tCons (tVar 0) (tCons (tOp (rI0 fun i j => .int (i + j)) (tC (.int 4)) (tVar 9)) (tCons (tC (.int 26)) tNil))))) [9]) (gName 5))
        (tSeq (tAsg (tCall spMix [] E0 (tCons (tVar 0) (tCons (tC (.int 2)) (tCons (tCB (fun xs H Q => ∃ p ys, xs = [.ref p] ∧ (SqL K H p ys ∨ SqT K H p ys) ∧ Q (.int ys.length) H) (tCons (tVar 5) tNil)) tNil)))) (gName 6))
        (tSeq (tAsg (tLst tNil) (gName 7)) (tSeq (tFor (iRng1 (tCons (tVar 1) tNil)) (gName 4) (tSeq (tAsg (tCB (rLstOf K) (tCons (tVar 5) tNil)) (gName 8)) (tSeq (tAsg (tOp rIxS (tVar 2) (tOp (rI (fun _ j => 0 < j) fun i j => .int (i % j)) (tOp (rI0 fun i j => .int (i + j)) (tVar 3) (tVar 4)) (tC (.int 26)))) (gSub (tVar 8) (tVar 6) rSetL))
          (tDrop (tBM K "list" rAppend (tVar 7) (tCons (tM1 (fun x xs H Q => ∃ a p, ∃ ys : List Str, x = .str a ∧ xs = [.ref p] ∧ (SqL K H p (ys.map V.str) ∨ SqT K H p (ys.map V.str)) ∧ (ys.map (·.length)).sum + ys.length * a.length ≤ 16777216 ∧ Q (.str (Txt.join a ys)) H) (tC (.str "")) (tVar 8)) tNil))))))
        (tRet (tVar 7)))))) { nx := fun _ H' => Q .non H', rt := Q } [some (.int x), some (.int m), some (.str lets), some (.int fi), none, none, none, none, none, none] H3 := fun H3 s3 => by
      refine ⟨_, rfl, x, 0, 8, rfl, by omega, by omega, by omega, fun r H4 r0 r1 s4 => ⟨_, _, rfl, rfl, 1 + r, rfl, by omega, by omega, fun D hD => lc_range (lo := 0) (n := (1 + r).toNat) (fun i H' => ∃ cs : List Nat, cs.length = i ∧ (∀ c ∈ cs, Let c) ∧ Lst H' D (cs.map sC) ∧ Same H4 H')
        ⟨[], rfl, (fun c hc => by cases hc), upd_same, Same.nw hD⟩ ?_ ?_⟩⟩
      · intro i H' hi ⟨cs, e1, e2, e3, s5⟩
        refine ⟨rfl, _, rfl, _, rfl, _, rfl, _, _, rfl, rfl, x, 4 + (0 + (i : Int)), 26, rfl, by omega, by omega, by omega, fun r2 H5 q0 q1 s6 => ?_⟩
        obtain ⟨c, hc, lc, ec⟩ := lat r2 q0 q1
        have e4 : Lst H5 D (cs.map sC) := s6 _ _ e3
        refine ⟨lets, r2, c, rfl, rfl, lsz, hc, _, e4, size_lt (by rw [List.length_map, List.length_map]; omega), cs ++ [c], by rw [List.length_append, e1]; rfl, fun d hd => ?_, ?_, (s5.trans s6).old2 hD⟩
        · rcases List.mem_append.mp hd with z | z
          · exact e2 d z
          · have z : d = c := by simpa using z
            rw [z]
            exact lc
        · show (upd H5 D _) D = _
          rw [upd_same, List.map_append]
          show _ = some (HO.lst (vstr (cs.map sC ++ [sC c])))
          rw [vstr_snoc]
          rfl
      · intro H5 ⟨cs, e1, e2, e3, s5⟩
        refine ⟨_, rfl, _, rfl, D, _, rfl, .inl (SqL.of e3), x, 2, _, rfl, by omega, by omega, by rw [List.length_map, List.length_map]; omega, fun at_ H6 a0 a1 s6 => ⟨by show 0 ≤ sizeLine; exact Nat.zero_le _, fun S hS => ?_⟩⟩
        rw [List.length_map, List.length_map] at a1
        have e6 : Lst H6 D (cs.map sC) := s6 _ _ e3
        have s7 : Same H H6 := (s3.trans s4).trans (s5.trans s6)
        refine ⟨_, rfl, (m : Int), rfl, by omega, by omega, for_range (lo := 0) (n := ((m : Int)).toNat) (fun i σ H' => ∃ v1 v2, σ = [some (.int x), some (.int m), some (.str lets), some (.int fi), v1, some (.ref D), some (.int at_), some (.ref S), v2, none] ∧ Same H6 H' ∧ Lst H' S ((List.range i).map fun k => sL (cs.set at_.toNat (97 + (fi.toNat + k) % 26))))
          ⟨_, _, rfl, Same.nw hS, upd_same⟩ ?_ ?_⟩
        · intro i σ H' hi ⟨v1, v2, eσ, s8, hs⟩
          subst eσ
          refine ⟨_, rfl, D, _, rfl, .inl (SqL.of (s8 _ _ e6)), fun lr nlr => ?_⟩
          have b0 : 0 ≤ (fi + (0 + (i : Int))) % 26 := Int.emod_nonneg _ (by decide)
          have b1 : (fi + (0 + (i : Int))) % 26 < 26 := Int.emod_lt_of_pos _ (by decide)
          obtain ⟨c, hc, lc, ec⟩ := lat _ b0 b1
          have ec2 : c = 97 + (fi.toNat + i) % 26 := by rw [ec]; omega
          have hix : ixN (vstr (cs.map sC)).length at_ = some at_.toNat := by
            unfold ixN
            rw [List.length_map, List.length_map, if_pos a0, if_pos (by omega)]
          refine ⟨_, rfl, _, rfl, _, rfl, _, _, rfl, rfl, _, _, rfl, rfl, (by show (0 : Int) < 26; decide), lets, _, c, rfl, rfl, lsz, hc, _, rfl, _, rfl, lr, _, at_, _, rfl, rfl, upd_same, hix, ?_⟩
          have nSl : S ≠ lr := ne_of_none hs nlr
          have eset : (vstr (cs.map sC)).set at_.toNat (.str ⟨#[c]⟩) = ((cs.set at_.toNat c).map sC).map V.str := by
            rw [List.map_set, List.map_set]
            rfl
          rw [eset]
          have s9 : Same H6 (upd (upd H' lr (.lst (vstr (cs.map sC)))) lr (.lst (((cs.set at_.toNat c).map sC).map V.str))) := (s8.nw2 nlr).old2 (s8.free nlr)
          have hS9 : Lst (upd (upd H' lr (.lst (vstr (cs.map sC)))) lr (.lst (((cs.set at_.toNat c).map sC).map V.str))) S ((List.range i).map fun k => sL (cs.set at_.toNat (97 + (fi.toNat + k) % 26))) := by
            show (upd (upd H' lr _) lr _) S = _
            rw [upd_ne nSl, upd_ne nSl]
            exact hs
          refine ⟨_, rfl, .inl ⟨rfl, _, SqL.of hS9⟩, ⟨_, rfl⟩, _, rfl, Str.ofString "", lr, (cs.set at_.toNat c).map sC, rfl, rfl, .inl (SqL.of upd_same), ?_, S, _, _, rfl, rfl, hS9, size_lt (by rw [List.length_map, List.length_map, List.length_range]; omega), _, _, rfl, s9.old2 hS, ?_⟩
          · rw [sum_sC, e_empty, List.length_set]
            show cs.length + _ * 0 ≤ _
            omega
          · show (upd _ S _) S = _
            rw [upd_same, range_succ_map, e_empty, joinT, ec2]
            show _ = some (HO.lst (vstr (_ ++ [_])))
            rw [vstr_snoc]
        · intro σ H' ⟨v1, v2, eσ, s8, hs⟩
          subst eσ
          have em : ((m : Int)).toNat = m := rfl
          rw [em] at hs
          refine ⟨_, rfl, k H' S _ (s7.trans s8) (s7.free hS) hs (by rw [List.length_map, List.length_range]) (sets_nodup (by omega) _ (by omega)) fun y hy => ?_⟩
          obtain ⟨j, hj, rfl⟩ := List.mem_map.mp hy
          refine sL_ok (by rw [List.length_set]; omega) (by rw [List.length_set]; omega) fun d hd => ?_
          rcases List.mem_or_eq_of_mem_set hd with z | z
          · exact e2 d z
          · rw [z]
            unfold Let
            omega
    refine iteB (fun _ => ⟨_, rfl, _, _, rfl, rfl, _, rfl, ?_⟩) (fun _ => ?_)
    · refine iteB (fun h8 => ?_) (fun _ => ?_)
      · have h8' : (m : Int) ≤ 8 := of_decide_eq_true h8
        refine ⟨_, rfl, (m : Int), rfl, by omega, by omega, fun D hD => lc_range (lo := 0) (n := ((m : Int)).toNat) (fun i H' => Lst H' D ((List.range i).map fun k => sL (List.replicate (k + 1) c0)) ∧ Same H2 H')
          ⟨upd_same, Same.nw hD⟩ ?_ ?_⟩
        · intro i H' hi ⟨e1, s5⟩
          have e : (0 + (i : Int)) + 1 = ((i + 1 : Nat) : Int) := by omega
          have hi' : i < m := hi
          refine ⟨rfl, _, rfl, _, rfl, lets, fi, c0, rfl, rfl, lsz, hc0, _, rfl, _, _, rfl, rfl, sC c0, _, rfl, rfl, by rw [e]; exact mulOk_sC c0 (by omega) (by omega), _, e1, size_lt (by rw [List.length_map, List.length_map, List.length_range]; omega), ?_, s5.old2 hD⟩
          show (upd H' D _) D = _
          rw [upd_same, e, mul_sC c0 (by omega), range_succ_map]
          show _ = some (HO.lst (vstr (_ ++ [_])))
          rw [vstr_snoc]
        · intro H' ⟨e1, s5⟩
          have em : ((m : Int)).toNat = m := rfl
          rw [em] at e1
          refine k H' D _ ((s1.trans s2).trans s5) ((s1.trans s2).free hD) e1 (by rw [List.length_map, List.length_range]) (reps_nodup c0 m) fun y hy => ?_
          obtain ⟨j, hj, rfl⟩ := List.mem_map.mp hy
          have hj := List.mem_range.mp hj
          refine sL_ok (by rw [List.length_replicate]; omega) (by rw [List.length_replicate]; omega) fun d hd => ?_
          rw [List.eq_of_mem_replicate hd]
          exact lc0
      · exact second _ (s1.trans s2)
    · exact iteF (second _ (s1.trans s2))
end
end TM
set_option maxRecDepth 100000
set_option maxHeartbeats 4000000
/-! The law: words, store, teller. -/
namespace TM
open PySem PySem.Spec PyProof.Rows L2 LamX NdefX
theorem cut_one {y : Str} (h : NameOk y) : ∃ c, cutS y none (some 1) = sC c ∧ Let c := by
  obtain ⟨h1, h2, h3⟩ := h
  refine ⟨y.cps[0]'(by omega), ?_, h3 0 _ (Array.getElem?_eq_getElem _)⟩
  unfold cutS sC
  have e1 : HT.sIx y.length 0 none = 0 := HT.sIx_none ..
  have e2 : HT.sIx y.length y.length (some 1) = min 1 y.length := HT.sIx_nat y.length y.length 1
  have e3 : min 1 y.length = 1 := by show min 1 y.cps.size = 1; omega
  rw [e1, e2, e3, List.drop_zero]
  show (⟨(y.cps.toList.take 1).toArray⟩ : Str) = ⟨#[y.cps[0]'(by omega)]⟩
  have hl : y.cps.toList.length = y.cps.size := by simp
  cases e : y.cps.toList with
  | nil => rw [e] at hl; simp at hl; omega
  | cons a r =>
    have : y.cps[0]'(by omega) = a := by
      have h5 : y.cps.toList[0]? = some a := by rw [e]; rfl
      rw [Array.getElem?_toList] at h5
      rw [Array.getElem?_eq_getElem (by omega)] at h5
      exact Option.some.inj h5
    rw [this]
    rfl
def dm (nm wm : List Str) : Str → Str → Prop := fun k w => k ∈ nm ∧ w ∈ wm
structure StX (H : Hp) (sd : Addr) (D : Str → Str → Prop) (st : Str → Str → Int) : Prop where
  ex : ∃ ss, H sd = some (.dT ss) ∧ (∀ k w, D k w → valV ss (k2 k w) = some (.int (st k w))) ∧ (∀ p ∈ ss, ∃ k w, p.1 = k2 k w ∧ D k w) ∧ ss.length ≤ 500
theorem StX.st {H : Hp} {sd : Addr} {D : Str → Str → Prop} {st : Str → Str → Int} (h : StX H sd D st) : StAt H sd D st := by
  obtain ⟨ss, a, b, _, _⟩ := h.ex
  exact ⟨ss, a, b⟩
theorem StX.keepN {S : List Addr} {H H' : Hp} {sd : Addr} {D : Str → Str → Prop} {st : Str → Str → Int} (h : StX H sd D st) (s : ExtS S H H') (hs : sd ∉ S) : StX H' sd D st := by
  obtain ⟨ss, h1, h2⟩ := h.ex
  exact ⟨ss, s.dt hs h1, h2⟩
theorem valV_mem {κ : Type} [DecidableEq κ] {kvs : List (κ × V)} {k : κ} {v : V} (h : valV kvs k = some v) : ∃ p ∈ kvs, p.1 = k ∧ p.2 = v := by
  unfold valV at h
  obtain ⟨p, hp, e⟩ := Option.map_eq_some_iff.mp h
  exact ⟨p, List.mem_of_find?_eq_some hp, of_decide_eq_true (List.find?_some (p := fun kv : κ × V => decide (kv.1 = k)) hp), e⟩
theorem mem_putK {κ : Type} [DecidableEq κ] {kvs : List (κ × V)} {k : κ} {v : V} {p : κ × V} (h : p ∈ putK kvs k v) : p ∈ kvs ∨ p = (k, v) := by
  unfold putK at h
  split at h
  · obtain ⟨q, hq, e⟩ := List.mem_map.mp h
    split at e
    · next z => exact .inr (by rw [← e, z])
    · exact .inl (e ▸ hq)
  · rcases List.mem_append.mp h with z | z
    · exact .inl z
    · exact .inr (by simpa using z)
/-- all entries are whole numbers by pairs of D -/
def Ints (ss : List (List L2.Key × V)) (D : Str → Str → Prop) : Prop := ∀ p ∈ ss, ∃ k w v, p.1 = k2 k w ∧ p.2 = .int v ∧ D k w
theorem Ints.put {ss : List (List L2.Key × V)} {D : Str → Str → Prop} (h : Ints ss D) {k w : Str} {v : Int} (hd : D k w) : Ints (putK ss (k2 k w) (.int v)) D := fun p hp => by
  rcases mem_putK hp with z | z
  · exact h p z
  · exact ⟨k, w, v, by rw [z], by rw [z], hd⟩
theorem Ints.get {ss : List (List L2.Key × V)} {D : Str → Str → Prop} (h : Ints ss D) {k w : Str} (hs : (valV ss (k2 k w)).isSome = true) : ∃ v, valV ss (k2 k w) = some (.int v) := by
  obtain ⟨u, hu⟩ := Option.isSome_iff_exists.mp hs
  obtain ⟨p, hp, e1, e2⟩ := valV_mem hu
  obtain ⟨_, _, v, _, e3, _⟩ := h p hp
  exact ⟨v, by rw [hu, ← e2, e3]⟩
theorem putK_has {ss : List (List L2.Key × V)} {k k' : List L2.Key} {v : V} (h : k' = k ∨ (valV ss k').isSome = true) : (valV (putK ss k v) k').isSome = true := by
  rw [valV_put]
  split
  · rfl
  · next z => exact h.resolve_left z
def spStore : Sp := fun vs H Q _ => ∃ (x : Int) (nl wl : Addr) (nm wm : List Str), vs = [.int x, .ref nl, .ref wl] ∧ Lst H nl nm ∧ Lst H wl wm ∧ nm.length ≤ 12 ∧ wm.length ≤ 12 ∧ ∀ H' sd st, Same H H' → H sd = none → StX H' sd (dm nm wm) st → Q (.ref sd) H'
abbrev qAsk : Str := (envOfC "_law_teller" (defScope sTeller) 0 0 .none).qual ++ "_law_asked"
def spTeller (TT : List NTab) : Sp := fun vs H Q _ => ∃ (sd lg : Addr), vs = [.ref sd, .ref lg] ∧ TabsN TT H ∧ ∀ H' ft, ExtS [] H H' → H ft = none → TabsN TT H' → TelAt qAsk H' ft lg sd → Q (.ref ft) H'
section
variable {P : Program} {w : World} {K : PySem.W.Frag} {mg : Str → Option Value} {base : Heap} {f f1 f2 : Addr} {fd fd1 fd2 : FuncData} {TT : List NTab}
abbrev nWords : List Str := ["_law_cell_here", "_law_names_here", "_law_k"]
theorem scWords : FnScope nWords ["_law_cell_here", "_law_names_here"] (defScope sWords) := ⟨rfl, rfl, rfl, by decide +kernel, rfl, by decide +kernel, by decide +kernel⟩
theorem ok_words (D : DefAt K mg "_law_words" sWords ["_law_cell_here", "_law_names_here"] f fd) (D1 : DefAt K mg "_law_mix" sMix ["_law_cell_here", "_law_turn", "_law_many"] f1 fd1) (D2 : DefAt K mg "_law_names" sNames ["_law_cell_here", "_law_many"] f2 fd2) (hRa : mg "range" = none) (hLe : mg "len" = none) (hLi : mg "list" = none) : FnOk P w K mg base CX0 3 f fd ["_law_cell_here", "_law_names_here"] spWords := by
  have G1 : FnOk P w K mg base CX0 2 f1 fd1 ["_law_cell_here", "_law_turn", "_law_many"] spMix := (ok_mix D1 hRa).mono (by decide)
  have G2 : FnOk P w K mg base CX0 2 f2 fd2 ["_law_cell_here", "_law_many"] spNames := ok_names D2 D1 hRa hLe hLi
  refine D.F.ok scWords (fun vs H Q E h => ?_) (fun cdv A outer s H vs Q E hr h => ?_)
  · obtain ⟨x, nl, nm, rfl, _⟩ := h
    rfl
  · obtain ⟨x, nl, nm, rfl, hnl, hlen, hok, k⟩ := h
    refine ⟨_, PSs.nox (pss_cons (ps_if (pt_cmpR op_eq (pe_call G1 hr rfl D1.g D1.F.kp D1.b .nil pass0 (pa_cons (pv 0) (pa_cons pe_int (pa_cons pe_int pa_nil)))) pe_int (nomark _))
        (pss_one (ps_ret (pe_lc (own := [("_law_k", 2)]) (g := gName 2) (tt := tYes) (te := tOp rMulS (tSl rSlS (tOp (rIxL K) (tVar 1) (tC (.int 0))) tNoPart (tPart (tC (.int 1)))) (tOp (rI0 fun i j => .int (i + j)) (tVar 2) (tC (.int 1)))) rfl scWords.nd (pi_range1 rfl hRa (pa_cons pe_int pa_nil)) (blkOk_by (N := nWords) (sc := defScope sWords) (by decide +kernel)) (fun _ _ _ _ _ => pg_name (i := 2) scWords.nd rfl (Or.inl rfl)) (fun _ _ _ _ _ => pts_nil) (fun _ _ _ _ _ => by exact (pe_op op_mulS (pe_slice sl_str (pe_ix ix_list (pv 1) pe_int (fun _ _ => rfl)) po_none (po_some pe_int)) (pe_op op_add (pv 2) pe_int)))))) pss_nil)
      (pss_one (ps_ret (pe_call G2 hr rfl D2.g D2.F.kp D2.b .nil pass0 (pa_cons (pv 0) (pa_cons pe_int pa_nil)))))), ?_⟩
    refine ⟨_, rfl, x, 12, 2, rfl, by omega, by omega, by omega, fun r H1 r0 r1 s1 => ⟨rfl, _, rfl, iteB (fun _ => ?_) (fun _ => ?_)⟩⟩
    · have hn1 : Lst H1 nl nm := s1 _ _ hnl
      obtain ⟨y0, hy0⟩ : ∃ y0, nm[0]? = some y0 := ⟨nm[0], List.getElem?_eq_getElem hlen⟩
      have hyo := hok y0 (List.mem_of_getElem? hy0)
      obtain ⟨c0, hc0, lc0⟩ := cut_one hyo
      refine ⟨3, rfl, by decide, by decide, fun D hD => lc_range (lo := 0) (n := 3) (fun i H' => Lst H' D ((List.range i).map fun k => sL (List.replicate (k + 1) c0)) ∧ Same H1 H')
        ⟨upd_same, Same.nw hD⟩ ?_ ?_⟩
      · intro i H' hi ⟨e1, s5⟩
        have e : (0 + (i : Int)) + 1 = ((i + 1 : Nat) : Int) := by omega
        refine ⟨rfl, _, rfl, nl, _, 0, .str y0, rfl, rfl, SqL.of (s5 _ _ hn1), atI_nat (by rw [List.getElem?_map, hy0]; rfl), 1, rfl, y0, rfl, size_small (by have := hyo.2.1; show y0.cps.size ≤ _; omega), _, rfl, _, _, rfl, rfl, _, _, rfl, rfl, by rw [hc0, e]; exact mulOk_sC c0 (by omega) (by omega), _, e1, size_lt (by rw [List.length_map, List.length_map, List.length_range]; omega), ?_, s5.old2 hD⟩
        show (upd H' D _) D = _
        rw [upd_same, hc0, e, mul_sC c0 (by omega), range_succ_map]
        show _ = some (HO.lst (vstr (_ ++ [_])))
        rw [vstr_snoc]
      · intro H' ⟨e1, s5⟩
        refine k H' D _ (s1.trans s5) (s1.free hD) e1 (by rw [List.length_map, List.length_range]) (reps_nodup c0 3) fun y hy => ?_
        obtain ⟨j, hj, rfl⟩ := List.mem_map.mp hy
        have hj := List.mem_range.mp hj
        refine sL_ok (by rw [List.length_replicate]; omega) (by rw [List.length_replicate]; omega) fun d hd => ?_
        rw [List.eq_of_mem_replicate hd]
        exact lc0
    · exact ⟨_, rfl, x, 3, rfl, by omega, by omega, fun H' l ns s2 h1 h2 h3 h4 h5 => k H' l ns (s1.trans s2) (s1.free h1) h2 h3 h4 h5⟩
abbrev nStore : List Str := ["_law_cell_here", "_law_names_here", "_law_words_here", "_law_store_here", "_law_i", "_law_j"]
theorem scStore : FnScope nStore ["_law_cell_here", "_law_names_here", "_law_words_here"] (defScope sStore) := ⟨rfl, rfl, rfl, by decide +kernel, rfl, by decide +kernel, by decide +kernel⟩
theorem ok_store (D : DefAt K mg "_law_store" sStore ["_law_cell_here", "_law_names_here", "_law_words_here"] f fd) (D1 : DefAt K mg "_law_mix" sMix ["_law_cell_here", "_law_turn", "_law_many"] f1 fd1) (hRa : mg "range" = none) (hLe : mg "len" = none) : FnOk P w K mg base CX0 2 f fd ["_law_cell_here", "_law_names_here", "_law_words_here"] spStore := by
  have G1 : FnOk P w K mg base CX0 1 f1 fd1 ["_law_cell_here", "_law_turn", "_law_many"] spMix := ok_mix D1 hRa
  refine D.F.ok scStore (fun vs H Q E h => ?_) (fun cdv A outer s H vs Q E hr h => ?_)
  · obtain ⟨x, nl, wl, nm, wm, rfl, _⟩ := h
    rfl
  · obtain ⟨x, nl, wl, nm, wm, rfl, hn, hw, hn12, hw12, k⟩ := h
    have hu : (A.deeper (envOfC "_law_store" (defScope sStore) s.heap.objs.size f cdv)).units + 1 < cLine := hu_of hr
    refine ⟨_, PSs.nox (pss_cons (ps_set (i := 3) scStore.nd rfl (Or.inl rfl) pe_dnewT)
      (pss_cons (ps_for PassesOwn.never rfl (pi_range1 rfl hRa (pa_cons (pe_callB call_len_seq rfl hLe PySem.boot_len (pa_cons (pv 1) pa_nil)) pa_nil)) (pg_name (i := 4) scStore.nd rfl (Or.inl rfl))
        (pss_one (ps_for PassesOwn.never rfl (pi_range1 rfl hRa (pa_cons (pe_callB call_len_seq rfl hLe PySem.boot_len (pa_cons (pv 2) pa_nil)) pa_nil)) (pg_name (i := 5) scStore.nd rfl (Or.inl rfl))
          (pss_one (ps_dput hu (pv 3) (pe_tup (pa_cons (pe_ix ix_list (pv 1) (pv 4) (fun _ _ => rfl)) (pa_cons (pe_ix ix_list (pv 2) (pv 5) (fun _ _ => rfl)) pa_nil))) (pe_ix ix_list (pe_lst (pa_cons pe_int (pa_cons pe_int (pa_cons pe_int (pa_cons pe_int (pa_cons pe_int pa_nil)))))) (pe_call G1 hr rfl D1.g D1.F.kp D1.b .nil pass0 (pa_cons (pv 0) (pa_cons (pe_op op_add (pe_op op_mul pe_int (pv 4)) (pv 5)) (pa_cons pe_int pa_nil)))) (fun _ _ => rfl)) rfl)))))
      (pss_one (ps_ret (pv 3))))), ?_⟩
    have lv : ∀ l : List Str, (vstr l).length = l.length := fun l => List.length_map ..
    refine fun sd hsd => ⟨_, rfl, nl, _, rfl, .inl (SqL.of ((Same.nw hsd) _ _ hn)), _, rfl, by omega, by rw [lv]; omega, for_range (lo := 0) (n := (((vstr nm).length : Nat) : Int).toNat) (fun i σ H' => ∃ (v1 v2 : Option V) (ss : List (List L2.Key × V)), σ = [some (.int x), some (.ref nl), some (.ref wl), some (.ref sd), v1, v2] ∧ Same H H' ∧ H' sd = some (.dT ss) ∧ Ints ss (dm nm wm) ∧ ss.length ≤ i * 12 ∧ ∀ k w, k ∈ nm.take i → w ∈ wm → (valV ss (k2 k w)).isSome = true)
      ⟨_, _, [], rfl, Same.nw hsd, upd_same, (fun p hp => by cases hp), Nat.zero_le _, (fun k w hk => by simp at hk)⟩ ?_ ?_⟩
    · intro i σ H' hi ⟨v1, v2, ss, eσ, s1, hss, hI, hl, hh⟩
      subst eσ
      have hi2 : i < nm.length := by rw [lv] at hi; exact hi
      obtain ⟨ki, hki⟩ : ∃ ki, nm[i]? = some ki := ⟨nm[i], List.getElem?_eq_getElem hi2⟩
      have hkm := List.mem_of_getElem? hki
      refine ⟨_, rfl, wl, _, rfl, .inl (SqL.of (s1 _ _ hw)), _, rfl, by omega, by rw [lv]; omega, for_range (lo := 0) (n := (((vstr wm).length : Nat) : Int).toNat) (fun j σ H' => ∃ (v2 : Option V) (ss : List (List L2.Key × V)), σ = [some (.int x), some (.ref nl), some (.ref wl), some (.ref sd), some (.int (0 + i)), v2] ∧ Same H H' ∧ H' sd = some (.dT ss) ∧ Ints ss (dm nm wm) ∧ ss.length ≤ i * 12 + j ∧ (∀ k w, k ∈ nm.take i → w ∈ wm → (valV ss (k2 k w)).isSome = true) ∧ ∀ w, w ∈ wm.take j → (valV ss (k2 ki w)).isSome = true)
        ⟨_, ss, rfl, s1, hss, hI, by omega, hh, (fun w hw => by simp at hw)⟩ ?_ ?_⟩
      · intro j σ H2 hj ⟨v2, ss, eσ, s2, hss, hI, hl, hh, hh2⟩
        subst eσ
        have hj2 : j < wm.length := by rw [lv] at hj; exact hj
        obtain ⟨wj, hwj⟩ : ∃ wj, wm[j]? = some wj := ⟨wm[j], List.getElem?_eq_getElem hj2⟩
        have hwmm := List.mem_of_getElem? hwj
        refine ⟨by show 5 ≤ sizeLine; exact size_small (by decide), fun l5 nl5 => ⟨_, rfl, _, rfl, _, _, rfl, rfl, .inl ⟨by decide, by decide⟩, _, rfl, _, _, rfl, rfl, x, 3 * (0 + (i : Int)) + (0 + (j : Int)), 5, rfl, by omega, by omega, by omega, fun r H3 r0 r1 s3 => ?_⟩⟩
        obtain ⟨v, hv⟩ : ∃ v, ([0, 0, 0, 1, 2] : List Int)[r.toNat]? = some v := ⟨([0, 0, 0, 1, 2] : List Int)[r.toNat]'(by show r.toNat < 5; omega), List.getElem?_eq_getElem _⟩
        have hat : atI (([0, 0, 0, 1, 2] : List Int).map V.int) r = some (.int v) := by
          have e : r = ((r.toNat : Nat) : Int) := by omega
          rw [e]
          exact atI_nat (by rw [List.getElem?_map, hv]; rfl)
        have s4 : Same H H3 := (s2.nw2 nl5).trans s3
        have hss3 : H3 sd = some (.dT ss) := s3 _ _ ((Same.nw nl5) _ _ hss)
        refine ⟨l5, _, r, .int v, rfl, rfl, SqL.of (s3 _ _ upd_same), hat, _, rfl, _, rfl, _, rfl, nl, _, 0 + (i : Int), .str ki, rfl, rfl, SqL.of (s4 _ _ hn), by rw [Int.zero_add]; exact atI_nat (by rw [List.getElem?_map, hki]; rfl), _, rfl, _, rfl, wl, _, 0 + (j : Int), .str wj, rfl, rfl, SqL.of (s4 _ _ hw), by rw [Int.zero_add]; exact atI_nat (by rw [List.getElem?_map, hwj]; rfl), sz2, fun t nt => ?_⟩
        refine ⟨sd, _, rfl, DPut.t (b := t) (k := k2 ki wj) (by rw [upd_ne (ne_of_none hss3 nt)]; exact hss3) upd_same (size_lt (by omega)), _, _, rfl, (s4.nw2 nt).old2 hsd, upd_same, hI.put ⟨hkm, hwmm⟩, by have := putT_len (kvs := ss) (k := k2 ki wj) (v := .int v); omega, fun k w hk hw => putK_has (.inr (hh k w hk hw)), fun w hw => ?_⟩
        rw [take_snoc hwj] at hw
        rcases List.mem_append.mp hw with z | z
        · exact putK_has (.inr (hh2 w z))
        · have z : w = wj := by simpa using z
          rw [z]
          exact putK_has (.inl rfl)
      · intro σ H2 ⟨v2, ss, eσ, s2, hss, hI, hl, hh, hh2⟩
        subst eσ
        have ew : (((vstr wm).length : Nat) : Int).toNat = wm.length := by rw [lv]; rfl
        rw [ew] at hl hh2
        rw [List.take_length] at hh2
        refine ⟨_, _, ss, rfl, s2, hss, hI, by omega, fun k w hk hw => ?_⟩
        rw [take_snoc hki] at hk
        rcases List.mem_append.mp hk with z | z
        · exact hh k w z hw
        · have z : k = ki := by simpa using z
          rw [z]
          exact hh2 w hw
    · intro σ H' ⟨v1, v2, ss, eσ, s1, hss, hI, hl, hh⟩
      subst eσ
      have ew : (((vstr nm).length : Nat) : Int).toNat = nm.length := by rw [lv]; rfl
      rw [ew] at hl hh
      rw [List.take_length] at hh
      refine ⟨_, rfl, k H' sd (fun k w => match valV ss (k2 k w) with | some (.int v) => v | _ => 0) s1 hsd ⟨ss, hss, fun k w hd => ?_, fun p hp => ?_, by omega⟩⟩
      · obtain ⟨v, hv⟩ := hI.get (hh k w hd.1 hd.2)
        show _ = some (V.int (match valV ss (k2 k w) with | some (.int v) => v | _ => 0))
        rw [hv]
      · obtain ⟨k, w, v, e1, _, e3⟩ := hI p hp
        exact ⟨k, w, e1, e3⟩
theorem scTeller : FnScope ["_law_store_here", "_law_log", "_law_asked"] ["_law_store_here", "_law_log"] (defScope sTeller) := ⟨rfl, rfl, rfl, by decide +kernel, rfl, by decide +kernel, by decide +kernel⟩
theorem telFree : ∀ y ∈ (C8.fnScope sAsked).names, y.2 = .free → (defScope sTeller).names.lookup y.1 = some .cell ∨ (defScope sTeller).names.lookup y.1 = some .free := by decide +kernel
theorem telFr : ∀ y ∈ frA, (y, NameKind.free) ∈ (C8.fnScope sAsked).names := by decide +kernel
theorem ok_teller (D : DefAt K mg "_law_teller" sTeller ["_law_store_here", "_law_log"] f fd) {cL PL : Addr} {nm : Nat → Nat → Str} (TB : TabB base mg cL PL) (hcode : fd.code = .ref cL) (hm : (PL, nm) ∈ TT) (hn : ∀ a b, nm a b = qAsk) (hu2 : ∀ p ∈ TT, p.1 = PL → p.2 = nm) :
    FnOk P w K mg base CX0 1 f fd ["_law_store_here", "_law_log"] (spTeller TT) := by
  refine fun_escape (nsc := C8.fnScope sAsked) (fr := frA) (js := [1, 0]) (st := sAsked) D.F rfl scTeller (fun vs H Q E h => ?_) telFree (fun cdv A outer s H vs Q E hcd hr h => ?_)
  · obtain ⟨sd, lg, rfl, _⟩ := h
    rfl
  · obtain ⟨sd, lg, rfl, hT, k⟩ := h
    rw [hcode] at hcd
    subst hcd
    refine ⟨_, _, ps_ndefMS (i := 2) rfl TB rfl hm (hn _ _) hu2 telFree rfl rfl rfl scTeller.nd rfl (Or.inl rfl) (Or.inl rfl), pv 2, fun ok => Caps.made ok telFree telFr rfl, ?_⟩
    refine ⟨hT, fun ft c' H1 e1 _ t1 nf hf hc => ⟨_, rfl, [.ref lg, .ref sd], rfl, fun ox hno hC => ?_⟩⟩
    have out : ∀ {a : Addr} {u : HO}, H1 a = some u → a ∉ cas (cloFrom (envOfC "_law_teller" (defScope sTeller) s.heap.objs.size f (.ref cL)).cells (C8.fnScope sAsked).names []) := fun {a u} e z => by rw [hno _ z] at e; cases e
    have sm : Same H1 (expo H1 (cloFrom (envOfC "_law_teller" (defScope sTeller) s.heap.objs.size f (.ref cL)).cells (C8.fnScope sAsked).names []) ox) := fun a u e => by rw [expo_out (out e)]; exact e
    exact k _ ft ((ExtS.ext e1).step sm) nf (t1.ext sm) ⟨_, c', sm _ _ hf, sm _ _ hc, hC⟩
end
end TM
set_option maxRecDepth 100000
set_option maxHeartbeats 4000000
/-! The law: paper, rests, is_paper. -/
namespace TM
open PySem PySem.Spec PyProof.Rows L2 LamX NdefX
structure KdAt (H : Hp) (kd : Addr) (g : Kn) (n : Nat) : Prop where
  ex : ∃ hs, H kd = some (.dT hs) ∧ KnAt hs g ∧ hs.length ≤ n
theorem KdAt.keepN {S : List Addr} {H H' : Hp} {kd : Addr} {g : Kn} {n : Nat} (h : KdAt H kd g n) (s : ExtS S H H') (hs : kd ∉ S) : KdAt H' kd g n := by
  obtain ⟨hs, h1, h2⟩ := h.ex
  exact ⟨hs, s.dt ‹_› h1, h2⟩
theorem KdAt.same {H H' : Hp} {kd : Addr} {g : Kn} {n : Nat} (h : KdAt H kd g n) (s : Same H H') : KdAt H' kd g n := h.keepN (S := []) (.of (.of s)) (by simp)
abbrev Pap := List Str × Option Str × Int
/-- a paper at t -/
def PapAt (H : Hp) (t : Addr) (r : Pap) : Prop := ∃ p, H t = some (.tup [.ref p, oS r.2.1, .int r.2.2]) ∧ H p = some (.tup (vstr r.1))
theorem PapAt.keepN {S : List Addr} {H H' : Hp} {t : Addr} {r : Pap} (h : PapAt H t r) (s : ExtS S H H') (hS : ∀ a ∈ S, ∃ u, H a = some u ∧ Plain u) : PapAt H' t r := by
  obtain ⟨p, h1, h2⟩ := h
  have np : ∀ {a : Addr} {l : List V}, H a = some (.tup l) → a ∉ S := fun {a l} e z => by
    obtain ⟨u, e2, pl⟩ := hS a z
    rw [e] at e2
    cases e2
    exact pl
  exact ⟨p, s.tup (np h1) h1, s.tup (np h2) h2⟩
theorem PapAt.same {H H' : Hp} {t : Addr} {r : Pap} (h : PapAt H t r) (s : Same H H') : PapAt H' t r := h.keepN (S := []) (.of (.of s)) (by simp)
def spLPaper : Sp := fun vs H Q _ => ∃ (ll kd sd : Addr) (line : List Str) (w : Str) (g : Kn) (n : Nat) (D : Str → Str → Prop) (st : Str → Str → Int), vs = [.ref ll, .str w, .ref kd, .ref sd] ∧ Lst H ll line ∧ KdAt H kd g n ∧ StAt H sd D st ∧ (∀ k ∈ line, D k w) ∧ line.length ≤ 50 ∧
  ∀ H' t, Same H H' → PapAt H' t (paper (fun k => (g k w).getD (st k w)) line) → Q (.ref t) H'
def spLRests : Sp := fun vs H Q _ => ∃ (MU : List Addr) (t : Addr) (r : Pap) (w : Str), vs = [.ref t, .str w] ∧ PapAt H t r ∧ r.1.length ≤ 50 ∧ (∀ m ∈ MU, H m ≠ none) ∧ ∀ H' l, Same H H' → H l = none → PrsAt MU H' l ((rests r).map fun k => (k, w)) → Q (.ref l) H'
def spLIsP : Sp := fun vs H Q _ => ∃ (t u : Addr) (r : Pap), vs = [.ref t, .ref u] ∧ PapAt H t r ∧ PapAt H u r ∧ (∀ x ∈ r.1, Asc x) ∧ (∀ x, r.2.1 = some x → Asc x) ∧ Q (.bl true) H
def dPap (r : Pap) : PyData := .tuple [.tuple (r.1.map PyData.str), (match r.2.1 with | some k => .str k | none => .none), .int r.2.2]
theorem dp_pap {K : PySem.W.Frag} {H : Hp} {t : Addr} {r : Pap} (h : PapAt H t r) : Dp K H (.ref t) (dPap r) := by
  obtain ⟨p, h1, h2⟩ := h
  refine .tup (SqT.of h1) (.cons (.tup (SqT.of h2) (dpAll_strs r.1)) (.cons ?_ (.cons (.int _) .nil)))
  cases r.2.1 with
  | none => exact .non
  | some k => exact .str k
theorem shaped_pap {r : Pap} (h1 : ∀ x ∈ r.1, Asc x) (h2 : ∀ x, r.2.1 = some x → Asc x) : SeqAt.shaped (dPap r) = true := by
  obtain ⟨l, o, v⟩ := r
  have e1 : PyData.canLayAll0 (l.map PyData.str) = true := can_strs h1
  have e2 : PyData.depthAll (l.map PyData.str) = 0 := deep_strs l
  cases o with
  | none =>
    show ((PyData.canLayAll0 (l.map PyData.str) && (true && (true && true))) && decide (max (PyData.depthAll (l.map PyData.str) + 1) (max 0 (max 0 0)) + 1 ≤ 64)) = true
    rw [e1, e2]
    rfl
  | some k =>
    have e3 : PyData.strOk k = true := asc_ok (h2 k rfl)
    show ((PyData.canLayAll0 (l.map PyData.str) && (PyData.strOk k && (true && true))) && decide (max (PyData.depthAll (l.map PyData.str) + 1) (max 0 (max 0 0)) + 1 ≤ 64)) = true
    rw [e1, e2, e3]
    rfl
section
variable {P : Program} {w : World} {K : PySem.W.Frag} {mg : Str → Option Value} {base : Heap} {f f1 f2 : Addr} {fd fd1 fd2 : FuncData}
theorem scLPaper : FnScope ["_law_line", "_law_word", "_law_known", "_law_store_here", "_law_passed", "_law_kind", "_law_one"] ["_law_line", "_law_word", "_law_known", "_law_store_here"] (defScope sLPaper) := ⟨rfl, rfl, rfl, by decide +kernel, rfl, by decide +kernel, by decide +kernel⟩
theorem ok_lpaper (D : DefAt K mg "_law_paper" sLPaper ["_law_line", "_law_word", "_law_known", "_law_store_here"] f fd) (hTu : mg "tuple" = none) : FnOk P w K mg base CX0 1 f fd ["_law_line", "_law_word", "_law_known", "_law_store_here"] spLPaper := by
  refine D.F.ok scLPaper (fun vs H Q E h => ?_) (fun cdv A outer s H vs Q E hr h => ?_)
  · obtain ⟨ll, kd, sd, line, w', g, n, Dm, st, rfl, _⟩ := h
    rfl
  · obtain ⟨ll, kd, sd, line, w', g, n, Dm, st, rfl, hl, hk, hs, hD, hlen, k⟩ := h
    have hu : (A.deeper (envOfC "_law_paper" (defScope sLPaper) s.heap.objs.size f cdv)).units + 1 < cLine := hu_of hr
    obtain ⟨hs1, k1, k2', k3⟩ := hk.ex
    obtain ⟨ss, s1, s2⟩ := hs.ex
    refine ⟨_, PSs.nox (pss_cons (ps_set (i := 4) scLPaper.nd rfl (Or.inl rfl) (pe_lst pa_nil))
      (pss_cons (ps_for PassesOwn.never rfl (pi_list (pv 0)) (pg_name (i := 5) scLPaper.nd rfl (Or.inl rfl))
        (pss_cons (ps_set (i := 6) scLPaper.nd rfl (Or.inl rfl) (pe_dget2 hu (pv 2) (pe_tup (pa_cons (pv 5) (pa_cons (pv 1) pa_nil))) (pe_dget2 hu (pv 3) (pe_tup (pa_cons (pv 5) (pa_cons (pv 1) pa_nil))) pe_int ⟨rfl, rfl, rfl, rfl⟩) ⟨rfl, rfl, rfl, rfl⟩))
        (pss_cons (ps_if (pt_cmpR op_gt (pv 6) pe_int (nomark _)) (pss_one (ps_ret (pe_tup (pa_cons (pe_tupleOf rfl hTu (pv 4)) (pa_cons (pv 5) (pa_cons (pv 6) pa_nil)))))) pss_nil)
        (pss_one (ps_expr (pe_bm PySem.F.plainAttrs_list PySem.F.slot_list_append PySem.F.type_list_append mt_append (pv 4) (pa_cons (pv 5) pa_nil)))))))
      (pss_one (ps_ret (pe_tup (pa_cons (pe_tupleOf rfl hTu (pv 4)) (pa_cons pe_non (pa_cons pe_int pa_nil)))))))), ?_⟩
    refine ⟨by show 0 ≤ sizeLine; exact Nat.zero_le _, fun pa hpa => ⟨_, rfl, ll, rfl, ⟨_, SqL.of ((Same.nw hpa) _ _ hl)⟩, for_list (K := K) (a := ll) (xs := vstr line) (fun i σ Hi => ∃ v1 v2, σ = [some (.ref ll), some (.str w'), some (.ref kd), some (.ref sd), some (.ref pa), v1, v2] ∧ Same H Hi ∧ Lst Hi pa (line.take i) ∧ ∀ (j : Nat) (x : Str), j < i → line[j]? = some x → ¬ 0 < (g x w').getD (st x w'))
      ⟨_, _, rfl, Same.nw hpa, upd_same, fun j x hj => absurd hj (Nat.not_lt_zero _)⟩ (fun i σ Hi _ ⟨_, _, _, s3, _⟩ => s3.seq (SqL.of hl)) ?_ ?_⟩⟩
    · intro i y σ Hi hi ⟨v1, v2, eσ, s3, hp, hno⟩
      subst eσ
      obtain ⟨kk, hkd, rfl⟩ := map_get hi
      have hil := (List.getElem?_eq_some_iff.mp hkd).1
      have hkm := List.mem_of_getElem? hkd
      have h1i := s3 _ _ k1
      have h2i := s3 _ _ s1
      refine ⟨_, rfl, kd, rfl, .inr ⟨hs1, .inl h1i⟩, _, rfl, _, rfl, sz2, fun t nt => ?_⟩
      have h2t : (upd Hi t (.tup [.str kk, .str w'])) sd = some (.dT ss) := (Same.nw nt) _ _ h2i
      refine ⟨_, rfl, sd, rfl, .inr ⟨ss, .inl h2t⟩, _, rfl, _, rfl, sz2, fun t2 nt2 => ⟨_, DGet.t (k := k2 kk w') ((Same.nw nt2) _ _ h2t) upd_same, ?_⟩⟩
      rw [s2 kk w' (hD kk hkm)]
      have sA : Same Hi (upd (upd Hi t (.tup [.str kk, .str w'])) t2 (.tup [.str kk, .str w'])) := (Same.nw nt).nw2 nt2
      refine ⟨_, DGet.t (b := t) (k := k2 kk w') (sA _ _ h1i) ((Same.nw nt2) _ _ upd_same), ?_⟩
      rw [k2' kk w']
      have ev : ((g kk w').map V.int).getD ((some (V.int (st kk w'))).getD (.int 0)) = .int ((g kk w').getD (st kk w')) := by cases g kk w' <;> rfl
      rw [ev]
      have hp2 := sA _ _ hp
      refine ⟨_, rfl, _, _, rfl, rfl, _, rfl, ?_⟩
      by_cases hpos : 0 < (g kk w').getD (st kk w')
      · rw [decide_eq_true hpos]
        have hpap := paper_found (s := fun k => (g k w').getD (st k w')) (line := line) (i := i) (k := kk) hno hkd hpos
        refine iteT ⟨_, rfl, .inl ⟨pa, _, rfl, SqL.of hp2, fun p np => ⟨_, rfl, _, rfl, by show 3 ≤ sizeLine; exact size_small (by decide), fun t3 nt3 => ?_⟩⟩⟩
        refine k _ t3 (((s3.trans sA).nw2 np).nw2 nt3) ?_
        rw [hpap]
        exact ⟨p, upd_same, by rw [upd_ne (ne_of_none upd_same nt3), upd_same]⟩
      · rw [decide_eq_false hpos]
        refine iteF ⟨_, rfl, .inl ⟨rfl, _, SqL.of hp2⟩, _, rfl, pa, _, _, rfl, rfl, hp2, size_lt (by rw [List.length_map, List.length_take]; omega), _, _, rfl, (s3.trans sA).old2 hpa, ?_, fun j x hj hx => ?_⟩
        · show (upd _ pa _) pa = _
          rw [upd_same, take_snoc hkd, vstr_snoc]
        · rcases Nat.lt_succ_iff_lt_or_eq.mp hj with hj | hj
          · exact hno j x hj hx
          · rw [hj, hkd] at hx
            cases hx
            exact hpos
    · intro σ Hi ⟨v1, v2, eσ, s3, hp, hno⟩
      subst eσ
      have el : (vstr line).length = line.length := List.length_map ..
      rw [el, List.take_length] at hp
      rw [el] at hno
      have hpap : paper (fun k => (g k w').getD (st k w')) line = (line, none, 0) := paper_none fun x hx => by
        obtain ⟨j, hj⟩ := List.mem_iff_getElem?.mp hx
        exact hno j x (List.getElem?_eq_some_iff.mp hj).1 hj
      refine ⟨_, rfl, .inl ⟨pa, _, rfl, SqL.of hp, fun p np => ⟨by show 3 ≤ sizeLine; exact size_small (by decide), fun t nt => ?_⟩⟩⟩
      refine k _ t ((s3.nw2 np).nw2 nt) ?_
      rw [hpap]
      exact ⟨p, upd_same, by rw [upd_ne (ne_of_none upd_same nt), upd_same]⟩
theorem scLRests : FnScope ["_law_paper_here", "_law_word", "_law_spots", "_law_kind"] ["_law_paper_here", "_law_word"] (defScope sLRests) := ⟨rfl, rfl, rfl, by decide +kernel, rfl, by decide +kernel, by decide +kernel⟩
theorem ok_lrests (D : DefAt K mg "_law_rests" sLRests ["_law_paper_here", "_law_word"] f fd) : FnOk P w K mg base CX0 1 f fd ["_law_paper_here", "_law_word"] spLRests := by
  refine D.F.ok scLRests (fun vs H Q E h => ?_) (fun cdv A outer s H vs Q E hr h => ?_)
  · obtain ⟨MU, t, r, w', rfl, _⟩ := h
    rfl
  · obtain ⟨MU, t, r, w', rfl, ⟨p, ht, hp⟩, hlen, hMU, k⟩ := h
    refine ⟨_, PSs.nox (pss_cons (ps_setLc (i := 2) (own := [("_law_kind", 3)]) (g := gName 3) (tt := tYes) (te := tTup (tCons (tVar 3) (tCons (tVar 1) tNil))) rfl scLRests.nd rfl rfl (sw_true rfl rfl rfl (by decide +kernel)) (pi_tup (pe_ix ix_tup (pv 0) pe_int (fun _ _ => rfl))) (blkOk_by (N := ["_law_paper_here", "_law_word", "_law_spots", "_law_kind"]) (sc := defScope sLRests) (by decide +kernel)) (fun _ _ _ _ _ => pg_name (i := 3) scLRests.nd rfl (Or.inl rfl)) (fun _ _ _ _ _ => pts_nil) (fun _ _ _ _ _ => by exact (pe_tup (pa_cons (pv 3) (pa_cons (pv 1) pa_nil)))))
      (pss_cons (ps_if (pt_cmpR op_notN (pe_ix ix_tup (pv 0) pe_int (fun _ _ => rfl)) pe_non (nomark _)) (pss_one (ps_expr (pe_bm PySem.F.plainAttrs_list PySem.F.slot_list_append PySem.F.type_list_append mt_append (pv 2) (pa_cons (pe_tup (pa_cons (pe_ix ix_tup (pv 0) pe_int (fun _ _ => rfl)) (pa_cons (pv 1) pa_nil))) pa_nil)))) pss_nil)
      (pss_one (ps_ret (pv 2))))), ?_⟩
    refine ⟨_, rfl, t, _, 0, .ref p, rfl, rfl, SqT.of ht, atI_nat rfl, p, rfl, ⟨_, SqT.of hp⟩, fun S hS => lc_tup (K := K) (a := p) (xs := vstr r.1) (fun i H' => ∃ rs : List (Addr × Str × Str), H' S = some (.lst (rs.map fun r => V.ref r.1)) ∧ (∀ r ∈ rs, H' r.1 = some (.tup [.str r.2.1, .str r.2.2]) ∧ H r.1 = none) ∧ rs.map (·.2) = (r.1.take i).map (fun k => (k, w')) ∧ Same H H')
      ⟨[], upd_same, (fun r hr => by cases hr), rfl, Same.nw hS⟩ (fun i H' _ ⟨_, _, _, _, s1⟩ => SqT.of (s1 _ _ hp)) ?_ ?_⟩
    · intro i y H' hi ⟨rs, b1, b2, b3, s1⟩
      obtain ⟨kk, hkd, rfl⟩ := map_get hi
      have hil := (List.getElem?_eq_some_iff.mp hkd).1
      have hlen2 : rs.length = i := by
        have := congrArg List.length b3
        rw [List.length_map, List.length_map, List.length_take] at this
        omega
      refine ⟨rfl, _, rfl, _, rfl, sz2, fun t2 nt => ?_⟩
      have nS : S ≠ t2 := ne_of_none b1 nt
      refine ⟨_, by rw [upd_ne nS]; exact b1, size_lt (by rw [List.length_map]; omega), rs ++ [(t2, kk, w')], by rw [upd_same]; simp, fun q hq => ?_, ?_, (s1.nw2 nt).old2 hS⟩
      · rcases List.mem_append.mp hq with z | z
        · obtain ⟨c1, c2⟩ := b2 q z
          exact ⟨by rw [upd_ne (ne_of c1 b1 (by intro z; cases z)), upd_ne (ne_of_none c1 nt)]; exact c1, c2⟩
        · have z : q = (t2, kk, w') := by simpa using z
          rw [z]
          exact ⟨by rw [upd_ne nS.symm, upd_same], s1.free nt⟩
      · rw [List.map_append, b3, take_snoc hkd, List.map_append]
        rfl
    · intro H' ⟨rs, b1, b2, b3, s1⟩
      have el : (vstr r.1).length = r.1.length := List.length_map ..
      rw [el, List.take_length] at b3
      have hPA : PrsAt MU H' S (r.1.map fun k => (k, w')) := ⟨rs, b1, fun q hq => ⟨(b2 q hq).1, fun z => hMU _ z (b2 q hq).2⟩, b3⟩
      have ht' := s1 _ _ ht
      refine ⟨_, rfl, t, _, 1, oS r.2.1, rfl, rfl, SqT.of ht', atI_nat rfl, rfl, _, rfl, ?_⟩
      cases ho : r.2.1 with
      | none =>
        refine iteF ⟨_, rfl, k H' S s1 hS ?_⟩
        have e : rests r = r.1 := by unfold rests; rw [ho]; simp
        rw [e]
        exact hPA
      | some kk =>
        have hlen2 : rs.length = r.1.length := by
          have := congrArg List.length b3
          rw [List.length_map, List.length_map] at this
          exact this
        refine iteT ⟨_, rfl, .inl ⟨rfl, _, SqL.of b1⟩, _, rfl, t, _, 1, oS r.2.1, rfl, rfl, SqT.of ht', atI_nat rfl, ?_⟩
        rw [ho]
        refine ⟨_, rfl, sz2, fun t2 nt => ?_⟩
        have nS : S ≠ t2 := ne_of_none b1 nt
        refine ⟨S, _, _, rfl, rfl, by rw [upd_ne nS]; exact b1, size_lt (by rw [List.length_map]; omega), _, rfl, ?_⟩
        have s2 : SameX [S] H' (upd (upd H' t2 (.tup [.str kk, .str w'])) S (.lst (rs.map (fun r => V.ref r.1) ++ [.ref t2]))) := ((SameX.refl _ _).nw nt).up (by simp)
        refine k _ S ((s1.nw2 nt).old2 hS) hS ?_
        have e : rests r = r.1 ++ [kk] := by unfold rests; rw [ho]; rfl
        rw [e, List.map_append]
        exact hPA.snoc b1 (fun b u _ hb e => s2 _ _ (by simpa using hb) e) upd_same (by rw [upd_ne nS.symm, upd_same]) (fun z => hMU _ z (s1.free nt))
theorem scLWhole : FnScope ["_law_found"] ["_law_found"] (defScope sLWhole) := ⟨rfl, rfl, rfl, by decide +kernel, rfl, by decide +kernel, by decide +kernel⟩
theorem ok_lwhole (D : DefAt K mg "_law_whole" sLWhole ["_law_found"] f fd) (hIs : mg "isinstance" = none) (hIn : mg "int" = none) (hBo : mg "bool" = none) : FnOk P w K mg base CX0 1 f fd ["_law_found"] (spIsNum true) := by
  refine D.F.ok scLWhole (fun vs H Q E h => ?_) (fun cdv A outer s H vs Q E hr h => ?_)
  · obtain ⟨x, rfl, _⟩ := h
    rfl
  · obtain ⟨x, rfl, k⟩ := h
    refine ⟨_, PSs.nox (pss_one (ps_ret (pe_and (pe_callB call_isi rfl hIs PyProof.Rows.boot_isinstance (pa_cons (pv 0) (pa_cons (pe_bltn (v := .ty "int") rfl hIn (by decide +kernel) rfl) pa_nil)))
      (pe_one (pe_not (pe_callB call_isi rfl hIs PyProof.Rows.boot_isinstance (pa_cons (pv 0) (pa_cons (pe_bltn (v := .ty "bool") rfl hBo (by decide +kernel) rfl) pa_nil)))))))), ?_⟩
    exact ⟨_, rfl, .int x, .ty "int", .type "int", .type "int", true, rfl, .ty _, .base (.int x), kit_ty (by decide +kernel), _, rfl, iteT ⟨_, rfl, .int x, .ty "bool", .type "int", .type "bool", false, rfl, .ty _, .base (.int x), kit_ty (by decide +kernel), _, rfl, k⟩⟩
theorem scLIsP : FnScope ["_law_found", "_law_due"] ["_law_found", "_law_due"] (defScope sLIsP) := ⟨rfl, rfl, rfl, by decide +kernel, rfl, by decide +kernel, by decide +kernel⟩
theorem ok_lisp (D : DefAt K mg "_law_is_paper" sLIsP ["_law_found", "_law_due"] f fd) (D1 : DefAt K mg "_law_whole" sLWhole ["_law_found"] f1 fd1) (hIs : mg "isinstance" = none) (hIn : mg "int" = none) (hBo : mg "bool" = none) (hTu : mg "tuple" = none) (hLe : mg "len" = none) : FnOk P w K mg base CX0 2 f fd ["_law_found", "_law_due"] spLIsP := by
  have G1 : FnOk P w K mg base CX0 1 f1 fd1 ["_law_found"] (spIsNum true) := ok_lwhole D1 hIs hIn hBo
  refine D.F.ok scLIsP (fun vs H Q E h => ?_) (fun cdv A outer s H vs Q E hr h => ?_)
  · obtain ⟨t, u, r, rfl, _⟩ := h
    rfl
  · obtain ⟨t, u, r, rfl, ht, hu2, a1, a2, k⟩ := h
    have hu64 := roomM_64 (L2H.roomH_of hr)
    obtain ⟨p, e1, e2⟩ := id ht
    refine ⟨_, PSs.nox (pss_cons (ps_if (PW.pt (pw_or (pt_not (pt_val (pe_callB call_isi rfl hIs PyProof.Rows.boot_isinstance (pa_cons (pv 0) (pa_cons (pe_bltn (v := .ty "tuple") rfl hTu (by decide +kernel) rfl) pa_nil)))))
        (pw_or (pt_cmpR op_ne (pe_callB call_len_seq rfl hLe PySem.boot_len (pa_cons (pv 0) pa_nil)) pe_int (nomark _))
        (pw_or1 (pt_not (pt_val (pe_callB call_isi rfl hIs PyProof.Rows.boot_isinstance (pa_cons (pe_ix ix_tup (pv 0) pe_int (fun _ _ => rfl)) (pa_cons (pe_bltn (v := .ty "tuple") rfl hTu (by decide +kernel) rfl) pa_nil))))))))) (pss_one (ps_ret pe_bl)) pss_nil)
      (pss_one (ps_ret (pe_and (pe_cmpR (op_eqD hu64) (pv 0) (pv 1) (nomark _)) (pe_one (pe_call G1 hr rfl D1.g D1.F.kp D1.b .nil pass0 (pa_cons (pe_ix ix_tup (pv 0) pe_int (fun _ _ => rfl)) pa_nil))))))), ?_⟩
    refine ⟨_, rfl, .ref t, .ty "tuple", .type "tuple", .type "tuple", true, rfl, .ty _, .base (.tup e1), kit_ty (by decide +kernel), _, rfl, iteF ⟨_, rfl, t, _, rfl, .inr (SqT.of e1), rfl, _, rfl, iteF ⟨_, rfl, t, _, 0, .ref p, rfl, rfl, SqT.of e1, atI_nat rfl, .ref p, .ty "tuple", .type "tuple", .type "tuple", true, rfl, .ty _, .base (.tup e2), kit_ty (by decide +kernel), _, rfl, iteF ?_⟩⟩⟩
    refine ⟨_, rfl, _, rfl, _, _, dp_pap ht, dp_pap hu2, shaped_pap a1 a2, shaped_pap a1 a2, _, rfl, ?_⟩
    rw [eqv_same (shaped_pap a1 a2)]
    exact iteT ⟨_, rfl, t, _, 2, .int r.2.2, rfl, rfl, SqT.of e1, atI_nat rfl, r.2.2, rfl, k⟩
end
end TM
set_option maxRecDepth 100000
set_option maxHeartbeats 4000000
/-! The law: the town begun; the store turned. -/
namespace TM
open PySem PySem.Spec PyProof.Rows L2 LamX NdefX
section
variable {X : Cx} {CX : CXT} {k : Nat} {f C : Addr} {fd : FuncData} {ps : List Str} {sp : Bool → Sp} {dvs : List V} {ds : List Value} {E : L2.St → XK} {x m : Str} {q pos apos : Pos} {e o : Expr} {es : List Expr} {ta : TE} {t : TA}
theorem pe_methB {pl : Sem Bool} {b : Bool} (hb0 : X.calm = b) (ho : PE X o ta) (c : Cls X.K C) (hme : Meth X.K C m f) (F : FnM X.prog X.w X.K X.mg X.base CX k f fd ps sp) (hr : L2H.RoomH k X.A) (hm : Md X) (hb : Binds X.K fd ps ds) (hd : Vals dvs ds) (hx : ∀ σ, PassesAt CX X σ (E σ)) (ha : PA X (e :: es) t)
    (hst : starEach (e :: es) X.env = (false, eval e X.env) :: starEach es X.env := by rfl) (hpl : (backTo pos (starEach es X.env)).any (·.1) = false := by rfl)
    (ht : eval (.Call (.Attribute o m apos) (e :: es) [] pos) X.env = (do
      let ov ← eval o X.env
      standAt apos.atName
      let (f, first) ← holding [ov] (getMethod ov m pl)
      callWith pos f first (backTo pos (starEach (e :: es) X.env)) (backToKw pos (keywordEach [] X.env))) := by rfl) :
    PE X (.Call (.Attribute o m apos) (e :: es) [] pos) (tMethM b C m sp dvs E ta t) := by
  have h := pe_methM (pl := pl) (apos := apos) ho c hme F hr hm hb hd hx ha hst hpl ht
  rw [hb0] at h
  exact h
end
def spTurned : Sp := fun vs H Q _ => ∃ (sd : Addr) (x : Int) (D : Str → Str → Prop) (st : Str → Str → Int), vs = [.ref sd, .int x] ∧ StX H sd D st ∧ ∀ H' st', SameX [sd] H H' → StX H' sd D st' → Q .non H'
def spBegun (c : Cs) : Sp := fun vs H Q _ => ∃ (MU : List Addr) (T : TAd) (tv : V) (x : Int) (nl : Addr) (nm : List Str) (g : Kn) (ps : List (Str × Str)) (n : Nat), vs = [.ref T.tp, .int x, .ref nl] ∧ TownAt MU H c T tv [] [] g ps n ∧ MuOk MU H ∧ Lst H nl nm ∧ nl ∉ MU ∧ nm.length ≤ 12 ∧ nm.Nodup ∧ (∀ y ∈ nm, NameOk y) ∧
  ∀ H' A Ld, SameX [T.tp, T.hp, T.mks] H H' → TownAt MU H' c T tv A Ld g ps n → keysE (ent A) = nm → Q .non H'
theorem cut_last3 (l : List Str) : ∃ es, cutV (vstr l) (some (-3)) none = vstr es ∧ es.length ≤ 3 ∧ es.Sublist l := by
  have h := HT.clip_eq (-3) l.length 0
  rw [if_pos (by decide)] at h
  refine ⟨(l.drop (HT.sIx l.length 0 (some (-3)))).take (l.length - HT.sIx l.length 0 (some (-3))), ?_, ?_, (List.take_sublist _ _).trans (List.drop_sublist _ _)⟩
  · unfold cutV
    rw [HT.sIx_none, show (vstr l).length = l.length from List.length_map .., ← List.map_drop, ← List.map_take]
  · rw [List.length_take, List.length_drop]
    omega
theorem nodup_rev {l : List Str} (h : l.Nodup) : l.reverse.Nodup := List.pairwise_reverse.mpr (List.Pairwise.imp (fun {a b} h => Ne.symm h) h)
theorem putK_same {kvs : List (List L2.Key × V)} {k : List L2.Key} {v : V} (h : (valV kvs k).isSome = true) : (putK kvs k v).length = kvs.length := by
  unfold putK
  rw [← valV_any] at h
  rw [if_pos h, List.length_map]
section
variable {P : Program} {w : World} {K : PySem.W.Frag} {mg : Str → Option Value} {base : Heap} {f f1 f2 : Addr} {fd fd1 fd2 : FuncData} {c : Cs} {CTg : Addr}
abbrev nBegun : List Str := ["_law_town", "_law_cell_here", "_law_names_here", "_law_k", "_law_row", "_law_j"]
theorem scBegun : FnScope nBegun ["_law_town", "_law_cell_here", "_law_names_here"] (defScope sBegun) := ⟨rfl, rfl, rfl, by decide +kernel, rfl, by decide +kernel, by decide +kernel⟩
theorem ok_begun (TC : TCls K c.CT) (D : DefAt K mg "_law_begun" sBegun ["_law_town", "_law_cell_here", "_law_names_here"] f fd) (D1 : DefAt K mg "_law_mix" sMix ["_law_cell_here", "_law_turn", "_law_many"] f1 fd1) (G1 : FnOk P w K mg base CX0 1 f1 fd1 ["_law_cell_here", "_law_turn", "_law_many"] spMix)
    (D2 : MethN K c.CT "add" "Town.add" sTAdd ["self", "name", "elders", "at"] f2 fd2) (G2 : FnM P w K mg base (L2N.CX P w) 7 f2 fd2 ["self", "name", "elders", "at"] (spTAdd c CTg)) (hRa : mg "range" = none) (hLe : mg "len" = none) (gT : mg "Tangled" = some (.ref CTg)) (eT : PySem.W.exmOne K (.ref CTg) (.ref CTg) = some true) :
    FnOk P w K mg base CX0 8 f fd ["_law_town", "_law_cell_here", "_law_names_here"] (spBegun c) := by
  have G1' : FnOk P w K mg base CX0 7 f1 fd1 ["_law_cell_here", "_law_turn", "_law_many"] spMix := G1.mono (by decide)
  refine D.F.ok scBegun (fun vs H Q E h => ?_) (fun cdv A outer s H vs Q E hr h => ?_)
  · obtain ⟨MU, T, tv, x, nl, nm, g, ps, n, rfl, _⟩ := h
    rfl
  · obtain ⟨MU, T, tv, x, nl, nm, g, ps, n, rfl, hT, hMU, hnl, hnm, hlen, nd, hok, k⟩ := h
    have hrH := L2H.roomH_of hr
    refine ⟨_, PSs.nox (pss_one (ps_for PassesOwn.never rfl (pi_range1 rfl hRa (pa_cons (pe_callB call_len_seq rfl hLe PySem.boot_len (pa_cons (pv 2) pa_nil)) pa_nil)) (pg_name (i := 3) scBegun.nd rfl (Or.inr rfl))
      (pss_cons (ps_set (i := 4) scBegun.nd rfl (Or.inl rfl) (pe_slice sl_list (pe_lc (own := [("_law_j", 5)]) (g := gName 5) (tt := tTest (tOp (rI0 fun i j => .bl (decide (i < j))) (tCall spMix [] E0 (tCons (tVar 1) (tCons (tOp (rI0 fun i j => .int (i + j)) (tOp (rI CMul fun i j => .int (i * j)) (tC (.int 8)) (tVar 3)) (tVar 5)) (tCons (tC (.int 5)) tNil)))) (tC (.int 2)))) (te := tOp (rIxL K) (tVar 2) (tVar 5)) rfl scBegun.nd (pi_range1 rfl hRa (pa_cons (pv 3) pa_nil)) (blkOk_by (N := nBegun) (sc := defScope sBegun) (by decide +kernel)) (fun _ _ _ _ _ => pg_name (i := 5) scBegun.nd rfl (Or.inl rfl))
          (fun _ _ _ _ _ => by exact (pts_one (pt_cmpR op_lt (pe_call G1' hr rfl D1.g D1.F.kp D1.b .nil pass0 (pa_cons (pv 1) (pa_cons (pe_op op_add (pe_op op_mul pe_int (pv 3)) (pv 5)) (pa_cons pe_int pa_nil)))) pe_int (nomark _)))) (fun _ _ _ _ _ => by exact (pe_ix ix_list (pv 2) (pv 5) (fun _ _ => rfl)))) (po_some (pe_un un_neg pe_int)) po_none))
      (pss_cons (ps_expr (pe_bm0 PySem.F.plainAttrs_list PySem.F.slot_list_reverse PySem.F.type_list_reverse mt_reverse (pv 4)))
      (pss_one (L2N.ps_try_many (tb := fun W => tDrop (tMethM true c.CT "add" (spTAdd c CTg) [.non] (fun σ => WE W σ) (tVar 0) (tCons (tOp (rIxL K) (tVar 2) (tVar 3)) (tCons (tVar 4) tNil))))
          (l := [(.ref CTg, fun a cls d => tDrop (tMethM false c.CT "add" (spTAdd c CTg) [.non] (fun σ => WE (fun _ _ _ _ => False) σ) (tVar 0) (tCons (tOp (rIxL K) (tVar 2) (tVar 3)) (tCons (tLst tNil) tNil))))]) rfl rfl takes0N
        (fun W pn xe tk _ => pss_one (ps_expr (pe_methB rfl (pv 0) TC.cl D2.m G2 hrH (.inl rfl) D2.b (.cons rfl .nil) (fun σ => L2N.passAt tk σ) (pa_cons (pe_ix ix_list (pv 2) (pv 3) (fun _ _ => rfl)) (pa_cons (pv 4) pa_nil)))))
        (.cons ⟨rfl, by decide, .inl gT⟩ (fun a oe cls d pn hz hf => pss_one (ps_expr (pe_methB rfl (pv 0) TC.cl D2.m G2 (show L2H.RoomH 7 _ from ⟨hrH.dp, hrH.un⟩) (.inr (let ⟨vs, hd⟩ := hf; ⟨(a, oe), ⟨rfl, vs, hd, hz.2.2 vs hd⟩, List.mem_cons_self⟩)) D2.b (.cons rfl .nil) (fun σ => L2N.passAt takes0N σ) (pa_cons (pe_ix ix_list (pv 2) (pv 3) (fun _ _ => rfl)) (pa_cons (pe_lst pa_nil) pa_nil))))) .nil))))))), ?_⟩
    have el : (vstr nm).length = nm.length := List.length_map ..
    refine ⟨_, rfl, nl, _, rfl, .inl (SqL.of hnl), _, rfl, by omega, by rw [el]; omega, for_range (lo := 0) (n := (((vstr nm).length : Nat) : Int).toNat) (fun i σ H' => ∃ (v1 v2 : Option V) (A Ld : Ent), σ = [some (.ref T.tp), some (.int x), some (.ref nl), v1, v2, none] ∧ SameX [T.tp, T.hp, T.mks] H H' ∧ TownAt MU H' c T tv A Ld g ps n ∧ keysE (ent A) = nm.take i)
      ⟨_, _, [], [], rfl, SameX.refl _ _, hT, rfl⟩ ?_ ?_⟩
    · intro i σ H' hi ⟨v1, v2, A', Ld, eσ, s1, hT1, hk⟩
      subst eσ
      have hi2 : i < nm.length := by rw [el] at hi; exact hi
      obtain ⟨ki, hki⟩ : ∃ ki, nm[i]? = some ki := ⟨nm[i], List.getElem?_eq_getElem hi2⟩
      have hkm := List.mem_of_getElem? hki
      have nl1 : nl ∉ [T.tp, T.hp, T.mks] := fun z => hnm (by
        simp only [List.mem_cons, List.not_mem_nil, or_false] at z
        rcases z with z | z | z
        · rw [z]; exact hT.mt
        · rw [z]; exact hT.mh
        · rw [z]; exact hT.mm)
      have hnl1 : Lst H' nl nm := s1 _ _ nl1 hnl
      have hMU1 : MuOk MU H' := hMU.keep s1 fun a ha => hT1.plain a (by
        simp only [List.mem_cons, List.not_mem_nil, or_false] at ha ⊢
        rcases ha with z | z | z
        · exact .inl z
        · exact .inr (.inl z)
        · exact .inr (.inr (.inl z)))
      have knot : ∀ j kj, nm[j]? = some kj → kj ∉ nm.take j := fun j kj hj z => by
        have h5 : (nm.take (j + 1)).Nodup := nd.sublist (List.take_sublist _ _)
        rw [take_snoc hj] at h5
        exact (List.nodup_append.mp h5).2.2 _ z _ (List.mem_singleton_self _) rfl
      refine ⟨_, rfl, 0 + (i : Int), rfl, by omega, by omega, fun D hD => lc_range (lo := 0) (n := (0 + (i : Int)).toNat) (fun j H2 => ∃ es : List Str, Lst H2 D es ∧ Same H' H2 ∧ es.Nodup ∧ (∀ e ∈ es, e ∈ nm.take j) ∧ es.length ≤ j)
        ⟨[], upd_same, Same.nw hD, List.nodup_nil, (fun e he => by cases he), Nat.le_refl _⟩ ?_ ?_⟩
      · intro j H2 hj ⟨es, b1, b2, b3, b4, b5⟩
        have hj2 : j < nm.length := by omega
        obtain ⟨kj, hkj⟩ : ∃ kj, nm[j]? = some kj := ⟨nm[j], List.getElem?_eq_getElem hj2⟩
        refine ⟨rfl, _, rfl, _, rfl, _, _, rfl, rfl, .inl ⟨by decide, by decide⟩, _, rfl, _, _, rfl, rfl, x, 8 * (0 + (i : Int)) + (0 + (j : Int)), 5, rfl, by omega, by omega, by omega, fun r H3 r0 r1 s3 => ⟨_, _, rfl, rfl, _, rfl, iteB (fun _ => ?_) (fun _ => ?_)⟩⟩
        · have b1' : Lst H3 D es := s3 _ _ b1
          refine ⟨_, rfl, _, rfl, nl, _, 0 + (j : Int), .str kj, rfl, rfl, SqL.of ((b2.trans s3) _ _ hnl1), by rw [Int.zero_add]; exact atI_nat (by rw [List.getElem?_map, hkj]; rfl), _, b1', size_lt (by rw [List.length_map]; omega), es ++ [kj], ?_, (b2.trans s3).old2 hD, ?_, fun e he => ?_, by rw [List.length_append, List.length_singleton]; omega⟩
          · show (upd H3 D _) D = _
            rw [upd_same, vstr_snoc]
          · exact List.nodup_append.mpr ⟨b3, by simp, fun a ha b hb => by
              have z : b = kj := by simpa using hb
              rw [z]
              exact fun y => knot j kj hkj (y ▸ b4 a ha)⟩
          · rw [take_snoc hkj]
            rcases List.mem_append.mp he with z | z
            · exact List.mem_append_left _ (b4 e z)
            · exact List.mem_append_right _ z
        · refine ⟨es, s3 _ _ b1, b2.trans s3, b3, fun e he => ?_, by omega⟩
          rw [take_snoc hkj]
          exact List.mem_append_left _ (b4 e he)
      · intro H2 ⟨es0, b1, b2, b3, b4, b5⟩
        have ei : (0 + (i : Int)).toNat = i := by omega
        rw [ei] at b4
        obtain ⟨es1, c1, c2, c3⟩ := cut_last3 es0
        refine ⟨3, rfl, _, rfl, D, _, rfl, SqL.of b1, fun lr nlr => ?_⟩
        rw [c1]
        have hlr : Lst (upd H2 lr (.lst (vstr es1))) lr es1 := upd_same
        refine ⟨_, rfl, .inl ⟨rfl, _, SqL.of hlr⟩, lr, _, rfl, rfl, hlr, ?_⟩
        have s4 : Same H' (upd (upd H2 lr (.lst (vstr es1))) lr (.lst (vstr es1).reverse)) := (b2.nw2 nlr).old2 (b2.free nlr)
        have hrev : Lst (upd (upd H2 lr (.lst (vstr es1))) lr (.lst (vstr es1).reverse)) lr es1.reverse := by
          show (upd _ lr _) lr = _
          rw [upd_same, ← List.map_reverse]
        revert s4 hrev
        generalize upd (upd H2 lr (.lst (vstr es1))) lr (.lst (vstr es1).reverse) = H4
        intro s4 hrev
        have hT4 := hT1.same s4
        have hMU4 := hMU1.same s4
        obtain ⟨dx, num, i0⟩ := hT4.ins
        have hnl4 := s4 _ _ hnl1
        have nk : ki ∉ keysE (ent A') := by rw [hk]; exact knot i ki hki
        have hA12 : A'.length < 12 := by rw [← keys_len, hk, List.length_take]; omega
        have s5 : SameX [T.tp, T.hp, T.mks] H H4 := s1.step s4
        have fin : ∀ (H5 : Hp) (e : Addr) (es : List Str) (Ld' : Ent), SameX [T.tp, T.hp, T.mks] H4 H5 → TownAt MU H5 c T tv (A' ++ [(ki, e, es)]) Ld' g ps n → ∃ (v1 v2 : Option V) (A Ld : Ent), [some (V.ref T.tp), some (.int x), some (.ref nl), some (.int (0 + i)), some (.ref lr), none] = [some (V.ref T.tp), some (.int x), some (.ref nl), v1, v2, none] ∧ SameX [T.tp, T.hp, T.mks] H H5 ∧ TownAt MU H5 c T tv A Ld g ps n ∧ keysE (ent A) = nm.take (i + 1) := fun H5 e es Ld' s6 hT6 =>
          ⟨_, _, _, Ld', rfl, s5.trans s6, hT6, by rw [ent_snoc, keysE_append, hk, take_snoc hki]; rfl⟩
        refine ⟨_, rfl, T.tp, dx, _, rfl, i0, rfl, _, rfl, _, rfl, nl, _, 0 + (i : Int), .str ki, rfl, rfl, SqL.of hnl4, by rw [Int.zero_add]; exact atI_nat (by rw [List.getElem?_map, hki]; rfl), _, rfl, MU, T, tv, lr, ki, A', Ld, es1.reverse, g, ps, n, rfl, hT4, hMU4, hrev, by rw [List.length_reverse]; omega, nodup_rev (b3.sublist c3), fun e he => by rw [hk]; exact b4 e (c3.subset (List.mem_reverse.mp he)), hok ki hkm, nk, hA12, fun Lr hLr H5 ea Ld' l s6 hT6 => fin H5 ea _ Ld' s6 hT6, fun hn => ⟨rfl, fun H5 d s6 => ⟨true, eT, fun _ a ha => ?_, fun z => Bool.noConfusion z⟩⟩⟩
        have hT5 := hT4.same s6
        obtain ⟨dx5, num5, i5⟩ := hT5.ins
        refine ⟨_, rfl, T.tp, dx5, _, rfl, i5, rfl, _, rfl, _, rfl, nl, _, 0 + (i : Int), .str ki, rfl, rfl, SqL.of (s6 _ _ hnl4), by rw [Int.zero_add]; exact atI_nat (by rw [List.getElem?_map, hki]; rfl), by show 0 ≤ sizeLine; exact Nat.zero_le _, fun le nle => ⟨MU, T, tv, le, ki, A', Ld, [], g, ps, n, rfl, hT5.same (Same.nw nle), (hMU4.same s6).same (Same.nw nle), upd_same, Nat.zero_le _, List.nodup_nil, (fun e he => by cases he), hok ki hkm, nk, hA12, fun Lr hLr H6 ea Ld' l s7 hT6 => ?_, fun hn2 => ?_⟩⟩
        · exact fin H6 ea [] Ld' (((SameX.of s6).nw nle).trans s7) hT6
        · have z := linesF_alone hT4.house.lines ki
          rw [hn2] at z
          cases z
    · intro σ H' ⟨v1, v2, A', Ld, eσ, s1, hT1, hk⟩
      have ew : (((vstr nm).length : Nat) : Int).toNat = nm.length := by rw [el]; rfl
      rw [ew, List.take_length] at hk
      exact k H' A' Ld s1 hT1 hk
end
end TM
set_option maxRecDepth 100000
set_option maxHeartbeats 4000000
/-! The law: turned; data of pairs. -/
namespace TM
open PySem PySem.Spec PyProof.Rows L2 LamX NdefX
abbrev dP (ps : List (Str × Str)) : PyData := .list (ps.map fun p => .tuple [.str p.1, .str p.2])
theorem dp_rs {K : PySem.W.Frag} {H : Hp} {l : Addr} {rs : List (Addr × Str × Str)} (h : SqL K H l (rs.map fun r => V.ref r.1)) (hr : ∀ r ∈ rs, H r.1 = some (.tup [.str r.2.1, .str r.2.2])) : Dp K H (.ref l) (dP (rs.map (·.2))) := by
  refine .lst h ?_
  clear h
  induction rs with
  | nil => exact .nil
  | cons r rs ih => exact .cons (.tup (SqT.of (hr r List.mem_cons_self)) (.cons (.str _) (.cons (.str _) .nil))) (ih fun q hq => hr q (List.mem_cons_of_mem _ hq))
theorem PrsAt.dp {K : PySem.W.Frag} {MU : List Addr} {H : Hp} {l : Addr} {ps : List (Str × Str)} (h : PrsAt MU H l ps) : Dp K H (.ref l) (dP ps) := by
  obtain ⟨rs, h1, h2, h3⟩ := h.ex
  rw [← h3]
  exact dp_rs (SqL.of h1) fun r hr => (h2 r hr).1
def AscP (ps : List (Str × Str)) : Prop := ∀ p ∈ ps, Asc p.1 ∧ Asc p.2
theorem lay_dP : ∀ {ps : List (Str × Str)}, AscP ps → PyData.canLayAll0 (ps.map fun p => PyData.tuple [.str p.1, .str p.2]) = true ∧ PyData.depthAll (ps.map fun p => PyData.tuple [.str p.1, .str p.2]) ≤ 1
  | [], _ => ⟨rfl, Nat.zero_le _⟩
  | p :: ps, h => by
    obtain ⟨a, b⟩ := lay_dP (ps := ps) fun q hq => h q (List.mem_cons_of_mem _ hq)
    obtain ⟨c, d⟩ := h p List.mem_cons_self
    constructor
    · show ((PyData.strOk p.1 && (PyData.strOk p.2 && true)) && PyData.canLayAll0 (ps.map fun p => PyData.tuple [.str p.1, .str p.2])) = true
      rw [a, asc_ok c, asc_ok d]
      rfl
    · show max (max 0 (max 0 0) + 1) (PyData.depthAll (ps.map fun p => PyData.tuple [.str p.1, .str p.2])) ≤ 1
      have : max 0 (max 0 0) + 1 = 1 := rfl
      omega
theorem shaped_dP {ps : List (Str × Str)} (h : AscP ps) : SeqAt.shaped (dP ps) = true := by
  obtain ⟨a, b⟩ := lay_dP h
  show (PyData.canLayAll0 (ps.map fun p => PyData.tuple [.str p.1, .str p.2]) && decide (PyData.depthAll (ps.map fun p => PyData.tuple [.str p.1, .str p.2]) + 1 ≤ 64)) = true
  rw [a, Bool.true_and]
  exact decide_eq_true (by omega)
theorem cut_from (xs : List V) {k : Nat} (h : k ≤ xs.length) : cutV xs (some (k : Int)) none = xs.drop k := by
  unfold cutV
  rw [HT.sIx_nat, HT.sIx_none, Nat.min_eq_left h, ← List.length_drop, List.take_length]
section
variable {q : Str} {TT : List NTab} {MU S : List Addr} {H H' : Hp} {c : Cs} {T : TAd} {ft lg sd : Addr} {D : Str → Str → Prop} {st : Str → Str → Int} {A Ld : Ent} {g : Kn} {ps lps : List (Str × Str)} {n : Nat}
theorem WAt.keepS (h : WAt q TT MU H c T ft lg sd D st A Ld g ps lps n) (s : SameX S H H') (hS : ∀ a ∈ S, a ∈ MU) (hT : ∀ a ∈ T.mu, a ∉ S) (hl : lg ∉ S) (hs : sd ∉ S) (p' : ∀ a ∈ S, ∃ u, H' a = some u ∧ Plain u) : WAt q TT MU H' c T ft lg sd D st A Ld g ps lps n := by
  have p : ∀ a ∈ S, ∃ u, H a = some u ∧ Plain u := fun a ha => h.mu a (hS a ha)
  exact ⟨h.town.keep s hS hT, h.mu.keep s p', h.tel.keep s p, h.log.keep s hS hl, h.store.keep s hs, TM.TabsN.keepX h.tabs s p, h.lm, h.sm, h.ln, h.sn, h.lls⟩
theorem WAt.store' {st' : Str → Str → Int} (h : WAt q TT MU H c T ft lg sd D st A Ld g ps lps n) (s : SameX [sd] H H') (hst : StAt H' sd D st') : WAt q TT MU H' c T ft lg sd D st' A Ld g ps lps n := by
  obtain ⟨ss, e, _⟩ := h.store.ex
  obtain ⟨ss', e', _⟩ := hst.ex
  have p : ∀ a ∈ [sd], ∃ u, H a = some u ∧ Plain u := fun a ha => by
    have z : a = sd := by simpa using ha
    rw [z]
    exact ⟨_, e, True.intro⟩
  have p' : ∀ a ∈ [sd], ∃ u, H' a = some u ∧ Plain u := fun a ha => by
    have z : a = sd := by simpa using ha
    rw [z]
    exact ⟨_, e', True.intro⟩
  have sub : ∀ a ∈ [sd], a ∈ MU := by simp [h.sm]
  exact ⟨h.town.keep s sub (fun a ha z => h.sn (by have y : a = sd := by simpa using z
                                                   rw [← y]; exact ha)), h.mu.keep s p', h.tel.keep s p, h.log.keep s sub (by simpa using h.ls), hst, TM.TabsN.keepX h.tabs s p, h.lm, h.sm, h.ln, h.sn, h.lls⟩
end
section
variable {P : Program} {w : World} {K : PySem.W.Frag} {mg : Str → Option Value} {base : Heap} {f f1 f2 : Addr} {fd fd1 fd2 : FuncData}
abbrev nTurned : List Str := ["_law_store_here", "_law_cell_here", "_law_spots", "_law_k"]
theorem scTurned : FnScope nTurned ["_law_store_here", "_law_cell_here"] (defScope sTurned) := ⟨rfl, rfl, rfl, by decide +kernel, rfl, by decide +kernel, by decide +kernel⟩
theorem ok_turned (D : DefAt K mg "_law_turned" sTurned ["_law_store_here", "_law_cell_here"] f fd) (D1 : DefAt K mg "_law_mix" sMix ["_law_cell_here", "_law_turn", "_law_many"] f1 fd1) (hRa : mg "range" = none) (hLe : mg "len" = none) (hLi : mg "list" = none) : FnOk P w K mg base CX0 2 f fd ["_law_store_here", "_law_cell_here"] spTurned := by
  have G1 : FnOk P w K mg base CX0 1 f1 fd1 ["_law_cell_here", "_law_turn", "_law_many"] spMix := ok_mix D1 hRa
  refine D.F.ok scTurned (fun vs H Q E h => ?_) (fun cdv A outer s H vs Q E hr h => ?_)
  · obtain ⟨sd, x, Dm, st, rfl, _⟩ := h
    rfl
  · obtain ⟨sd, x, Dm, st, rfl, hS, k⟩ := h
    have hu : (A.deeper (envOfC "_law_turned" (defScope sTurned) s.heap.objs.size f cdv)).units + 1 < cLine := hu_of hr
    obtain ⟨ss, h1, h2, h3, h4⟩ := hS.ex
    refine ⟨_, PSs.nox (pss_cons (ps_set (i := 2) scTurned.nd rfl (Or.inl rfl) (pe_callTy (call_list_dT rfl) rfl hLi PyProof.Rows.boot_list (pa_cons (pv 0) pa_nil)))
      (pss_one (ps_for PassesOwn.never rfl (pi_range1 rfl hRa (pa_cons (pe_callB call_len_seq rfl hLe PySem.boot_len (pa_cons (pv 2) pa_nil)) pa_nil)) (pg_name (i := 3) scTurned.nd rfl (Or.inl rfl))
        (pss_one (ps_if (pt_cmpR op_eq (pe_call G1 hr rfl D1.g D1.F.kp D1.b .nil pass0 (pa_cons (pv 1) (pa_cons (pe_op op_add pe_int (pe_op op_mul pe_int (pv 3))) (pa_cons pe_int pa_nil)))) pe_int (nomark _))
          (pss_one (ps_dput hu (pv 0) (pe_ix ix_list (pv 2) (pv 3) (fun _ _ => rfl)) (pe_op op_mod (pe_op op_add (pe_op op_add (pe_dget hu (pv 0) (pe_ix ix_list (pv 2) (pv 3) (fun _ _ => rfl)) (fun _ _ => rfl)) pe_int) (pe_call G1 hr rfl D1.g D1.F.kp D1.b .nil pass0 (pa_cons (pv 1) (pa_cons (pe_op op_add pe_int (pe_op op_mul pe_int (pv 3))) (pa_cons pe_int pa_nil))))) pe_int) rfl)) pss_nil))))), ?_⟩
    refine ⟨_, rfl, sd, ss, rfl, .inl h1, fun l bs hl hbs => ?_⟩
    have lb : bs.length = ss.length := (Paired.length hbs).symm
    have hll : (upd H l (.lst (bs.map V.ref))) l = some (.lst (bs.map V.ref)) := upd_same
    have nsl : sd ≠ l := ne_of_none h1 hl
    refine ⟨_, rfl, l, _, rfl, .inl (SqL.of hll), _, rfl, by omega, by rw [List.length_map]; omega, for_range (lo := 0) (n := (((bs.map V.ref).length : Nat) : Int).toNat) (fun i σ H' => ∃ (v1 : Option V) (ss' : List (List L2.Key × V)), σ = [some (.ref sd), some (.int x), some (.ref l), v1] ∧ SameX [sd] (upd H l (.lst (bs.map V.ref))) H' ∧ H' sd = some (.dT ss') ∧ (∀ k w, Dm k w → ∃ v, valV ss' (k2 k w) = some (.int v)) ∧ (∀ p ∈ ss', ∃ k w, p.1 = k2 k w ∧ Dm k w) ∧ ss'.length ≤ 500)
      ⟨_, ss, rfl, SameX.refl _ _, by rw [upd_ne nsl]; exact h1, fun k w hd => ⟨_, h2 k w hd⟩, h3, h4⟩ ?_ ?_⟩
    · intro i σ H' hi ⟨v1, ss', eσ, s1, e1, e2, e3, e4⟩
      subst eσ
      have hi2 : i < ss.length := by rw [List.length_map, lb] at hi; exact hi
      obtain ⟨p, hp⟩ : ∃ p, ss[i]? = some p := ⟨ss[i], List.getElem?_eq_getElem hi2⟩
      obtain ⟨kk, ww, ek, hD⟩ := h3 p (List.mem_of_getElem? hp)
      obtain ⟨b, hb, hbt⟩ := paired_get hbs hp
      rw [ek] at hbt
      have nbl : b ≠ sd := ne_of hbt h1 (by intro z; cases z)
      have hbH : H' b = some (.tup ((k2 kk ww).map kV)) := s1 _ _ (by simpa using nbl) (by rw [upd_ne (ne_of_none hbt hl)]; exact hbt)
      have hl1 : H' l = some (.lst (bs.map V.ref)) := s1 _ _ (by simpa using nsl.symm) hll
      have hat : atI (bs.map V.ref) (0 + (i : Int)) = some (.ref b) := by rw [Int.zero_add]; exact atI_nat (by rw [List.getElem?_map, hb]; rfl)
      refine ⟨_, rfl, _, rfl, _, _, rfl, rfl, .inl ⟨by decide, by decide⟩, _, _, rfl, rfl, x, 10 + 2 * (0 + (i : Int)), 3, rfl, by omega, by omega, by omega, fun r H2 r0 r1 s2 => ⟨rfl, _, rfl, iteB (fun _ => ?_) (fun _ => ?_)⟩⟩
      · obtain ⟨v, hv⟩ := e2 kk ww hD
        have e1' := s2 _ _ e1
        have hg : DGet H2 sd (.ref b) (some (.int v)) := by
          have := DGet.t (b := b) (k := k2 kk ww) e1' (s2 _ _ hbH)
          rw [hv] at this
          exact this
        refine ⟨_, rfl, _, rfl, _, rfl, l, _, 0 + (i : Int), .ref b, rfl, rfl, SqL.of (s2 _ _ hl1), hat, sd, _, rfl, hg, _, _, rfl, rfl, _, rfl, _, rfl, _, _, rfl, rfl, .inl ⟨by decide, by decide⟩, _, _, rfl, rfl, x, 11 + 2 * (0 + (i : Int)), 2, rfl, by omega, by omega, by omega, fun r2 H3 q0 q1 s3 => ⟨_, _, rfl, rfl, _, _, rfl, rfl, (by show (0 : Int) < 3; decide), ?_⟩⟩
        have s4 := s2.trans s3
        refine ⟨_, rfl, _, rfl, _, rfl, l, _, 0 + (i : Int), .ref b, rfl, rfl, SqL.of (s4 _ _ hl1), hat, sd, _, rfl, DPut.t (b := b) (k := k2 kk ww) (s4 _ _ e1) (s4 _ _ hbH) (size_lt (by omega)), _, _, rfl, (s1.step s4).up (by simp), upd_same, fun k w hd => ?_, fun p hp => ?_, ?_⟩
        · rw [valV_put]
          split
          · exact ⟨_, rfl⟩
          · exact e2 k w hd
        · rcases mem_putK hp with z | z
          · exact e3 p z
          · exact ⟨kk, ww, by rw [z], hD⟩
        · rw [putK_same (by rw [hv]; rfl)]
          exact e4
      · exact ⟨_, ss', rfl, s1.step s2, s2 _ _ e1, e2, e3, e4⟩
    · intro σ H' ⟨v1, ss', eσ, s1, e1, e2, e3, e4⟩
      subst eσ
      refine k H' (fun k w => match valV ss' (k2 k w) with | some (.int v) => v | _ => 0) ((SameX.of (Same.nw hl)).trans s1) ⟨ss', e1, fun k w hd => ?_, e3, e4⟩
      obtain ⟨v, hv⟩ := e2 k w hd
      show _ = some (V.int (match valV ss' (k2 k w) with | some (.int v) => v | _ => 0))
      rw [hv]
end
end TM
set_option maxRecDepth 100000
set_option maxHeartbeats 4000000
/-! The law: looked. -/
namespace TM
open PySem PySem.Spec PyProof.Rows L2 LamX NdefX
abbrev nLooked : List Str := ["_law_town", "_law_kind", "_law_word", "_law_known", "_law_store_here", "_law_log", "_law_due", "_law_rests_here", "_law_spot", "_law_asked_here", "_law_many", "_law_told"]
abbrev pLooked : List Str := ["_law_town", "_law_kind", "_law_word", "_law_known", "_law_store_here", "_law_log"]
theorem learn_in {g : Kn} {w k : Str} {s : Str → Int} {vis : List Str} (hk : k ∈ vis) : learn g w s vis k w = some (s k) := by
  unfold learn
  rw [if_pos ⟨rfl, hk⟩]
/-- g, the first i of the new spots known by the store -/
def gAt (g : Kn) (st : Str → Str → Int) (ps : List (Str × Str)) (i : Nat) : Kn := fun k w => if (k, w) ∈ ps.take i then some (st k w) else g k w
theorem gAt_zero (g : Kn) (st : Str → Str → Int) (ps : List (Str × Str)) : gAt g st ps 0 = g := by
  funext k w
  unfold gAt
  rw [if_neg (by simp)]
theorem gAt_step {g : Kn} {st : Str → Str → Int} {ps : List (Str × Str)} {i : Nat} {k w : Str} (h : ps[i]? = some (k, w)) : gAt g st ps (i + 1) = upK (gAt g st ps i) k w (some (st k w)) := by
  funext a b
  unfold gAt upK
  rw [take_snoc h]
  by_cases z : a = k ∧ b = w
  · rw [if_pos z, if_pos (by rw [z.1, z.2]; exact List.mem_append_right _ (List.mem_singleton_self _)), z.1, z.2]
  · rw [if_neg z]
    show _ = if (a, b) ∈ ps.take i then some (st a b) else g a b
    by_cases y : (a, b) ∈ ps.take i
    · rw [if_pos y, if_pos (List.mem_append_left _ y)]
    · rw [if_neg y, if_neg fun x => (List.mem_append.mp x).elim y fun x => z (by
        have e : (a, b) = (k, w) := by simpa using x
        exact ⟨(Prod.mk.inj e).1, (Prod.mk.inj e).2⟩)]
theorem gAt_all {g : Kn} {st : Str → Str → Int} {w : Str} {vis : List Str} : gAt g st (newP g w vis) (newP g w vis).length = learn g w (fun k => (g k w).getD (st k w)) vis := by
  funext a b
  unfold gAt learn
  rw [List.take_length]
  have hm : (a, b) ∈ newP g w vis ↔ b = w ∧ a ∈ vis ∧ (g a w).isNone = true := by
    unfold newP
    constructor
    · intro h
      obtain ⟨x, hx, e⟩ := List.mem_map.mp h
      obtain ⟨h1, h2⟩ := List.mem_filter.mp hx
      have e1 := (Prod.mk.inj e).1
      have e2 := (Prod.mk.inj e).2
      subst e1 e2
      exact ⟨rfl, h1, h2⟩
    · rintro ⟨rfl, h1, h2⟩
      exact List.mem_map.mpr ⟨a, List.mem_filter.mpr ⟨h1, h2⟩, rfl⟩
  by_cases z : b = w ∧ a ∈ vis
  · rw [if_pos z]
    cases hg : g a w with
    | none =>
      rw [if_pos (hm.mpr ⟨z.1, z.2, by rw [hg]; rfl⟩), z.1]
      show some (st a w) = some ((g a w).getD (st a w))
      rw [hg]
      rfl
    | some v =>
      have hno : ¬ (a, b) ∈ newP g w vis := fun y => by
        have h5 := (hm.mp y).2.2
        rw [hg] at h5
        exact Bool.noConfusion h5
      rw [if_neg hno, z.1]
      show g a w = some ((g a w).getD (st a w))
      rw [hg]
      rfl
  · rw [if_neg z, if_neg fun y => z ⟨(hm.mp y).1, (hm.mp y).2.1⟩]
/-- the law's world: the town's, and what the law holds known -/
structure LW (q : Str) (TT : List NTab) (MU : List Addr) (H : Hp) (c : Cs) (T : TAd) (ft lg sd kd : Addr) (D : Str → Str → Prop) (st : Str → Str → Int) (A Ld : Ent) (g : Kn) (ps : List (Str × Str)) (n : Nat) : Prop where
  w : WAt q TT MU H c T ft lg sd D st A Ld g ps ps n
  kn : KdAt H kd g n
  km : kd ∈ MU
  kT : kd ∉ T.mu
  ks : kd ≠ sd
  asc : AscP ps
  ln : ∀ k ∈ keysE (ent A), ∀ x ∈ lookL (ent Ld) k, ∀ w, (∃ k0, D k0 w) → D x w
theorem LW.kl {q : Str} {TT : List NTab} {MU : List Addr} {H : Hp} {c : Cs} {T : TAd} {ft lg sd kd : Addr} {D : Str → Str → Prop} {st : Str → Str → Int} {A Ld : Ent} {g : Kn} {ps : List (Str × Str)} {n : Nat} (h : LW q TT MU H c T ft lg sd kd D st A Ld g ps n) : kd ≠ lg := by
  obtain ⟨xs, e, _⟩ := h.w.log.len
  obtain ⟨hs, e2, _⟩ := h.kn.ex
  exact ne_of e2 e (by intro z; cases z)
def spLooked (q : Str) (TT : List NTab) (c : Cs) : Sp := fun vs H Q _ => ∃ (MU : List Addr) (T : TAd) (ft lg sd kd : Addr) (D : Str → Str → Prop) (st : Str → Str → Int) (A Ld : Ent) (g : Kn) (ps : List (Str × Str)) (n : Nat) (k w : Str),
  vs = [.ref T.tp, .str k, .str w, .ref kd, .ref sd, .ref lg] ∧ LW q TT MU H c T ft lg sd kd D st A Ld g ps n ∧ k ∈ keysE (ent A) ∧ NameOk w ∧ (∃ k0, D k0 w) ∧ n + 50 ≤ 70000 ∧
  ∀ H' g' ps', ExtS [T.he, T.as_, lg, kd] H H' → LW q TT MU H' c T ft lg sd kd D st A Ld g' ps' (n + 12) → Q (.bl true) H'
section
variable {P : Program} {w : World} {K : PySem.W.Frag} {mg : Str → Option Value} {base : Heap} {c : Cs} {TT : List NTab} {q : Str} {f f1 f2 f3 f4 f5 f6 f7 f8 : Addr} {fd fd1 fd2 fd3 fd4 fd5 fd6 fd7 fd8 : FuncData}
theorem scLooked : FnScope nLooked pLooked (defScope sLooked) := ⟨rfl, rfl, rfl, by decide +kernel, rfl, by decide +kernel, by decide +kernel⟩
theorem ok_looked (TC : TCls K c.CT) (D : DefAt K mg "_law_looked" sLooked pLooked f fd)
    (D1 : DefAt K mg "_law_paper" sLPaper ["_law_line", "_law_word", "_law_known", "_law_store_here"] f1 fd1) (G1 : FnOk P w K mg base CX0 1 f1 fd1 ["_law_line", "_law_word", "_law_known", "_law_store_here"] spLPaper)
    (D2 : DefAt K mg "_law_rests" sLRests ["_law_paper_here", "_law_word"] f2 fd2) (G2 : FnOk P w K mg base CX0 1 f2 fd2 ["_law_paper_here", "_law_word"] spLRests)
    (D3 : DefAt K mg "_law_is_paper" sLIsP ["_law_found", "_law_due"] f3 fd3) (G3 : FnOk P w K mg base CX0 2 f3 fd3 ["_law_found", "_law_due"] spLIsP)
    (D4 : DefAt K mg "_law_whole" sLWhole ["_law_found"] f4 fd4) (G4 : FnOk P w K mg base CX0 1 f4 fd4 ["_law_found"] (spIsNum true))
    (D5 : MethD K c.CT "line" "Town.line" sTLine ["self", "name"] f5 fd5) (G5 : FnOk P w K mg base CX0 3 f5 fd5 ["self", "name"] (spTLine c))
    (D6 : MethN K c.CT "look" "Town.look" sTLook ["self", "kind", "word", "start"] f6 fd6) (G6 : FnOk P w K mg base CX0 5 f6 fd6 ["self", "kind", "word", "start"] (spTLook q TT c))
    (D7 : MethD K c.CT "known" "Town.known" sTKnown ["self", "kind", "word"] f7 fd7) (G7 : FnOk P w K mg base CX0 2 f7 fd7 ["self", "kind", "word"] (spTKnown c))
    (D8 : MethD K c.CT "reads" "Town.reads" sTReads ["self"] f8 fd8) (G8 : FnOk P w K mg base CX0 2 f8 fd8 ["self"] (spTReads c))
    (hLe : mg "len" = none) (hIs : mg "isinstance" = none) (hLi : mg "list" = none) : FnOk P w K mg base CX0 6 f fd pLooked (spLooked q TT c) := by
  have G1' := G1.mono (show 1 ≤ 5 by decide)
  have G2' := G2.mono (show 1 ≤ 5 by decide)
  have G3' := G3.mono (show 2 ≤ 5 by decide)
  have G4' := G4.mono (show 1 ≤ 5 by decide)
  have G5' := G5.mono (show 3 ≤ 5 by decide)
  have G7' := G7.mono (show 2 ≤ 5 by decide)
  have G8' := G8.mono (show 2 ≤ 5 by decide)
  refine D.F.ok scLooked (fun vs H Q E h => ?_) (fun cdv A outer s H vs Q E hr h => ?_)
  · obtain ⟨MU, T, ft, lg, sd, kd, Dm, st, A, Ld, g, ps, n, k, w', rfl, _⟩ := h
    rfl
  · obtain ⟨MU, T, ft, lg, sd, kd, Dm, st, A', Ld, g, ps, n, k, w', rfl, hL, hk, hw, hDw, hn, kk⟩ := h
    have hu : (A.deeper (envOfC "_law_looked" (defScope sLooked) s.heap.objs.size f cdv)).units + 1 < cLine := hu_of hr
    have hu64 := roomM_64 (L2H.roomH_of hr)
    refine ⟨_, PSs.nox (pss_cons (ps_set (i := 6) scLooked.nd rfl (Or.inl rfl) (pe_call G1' hr rfl D1.g D1.F.kp D1.b .nil pass0 (pa_cons (pe_meth (pv 0) TC.cl D5.m G5' hr D5.b .nil pass0 (pa_cons (pv 1) pa_nil)) (pa_cons (pv 2) (pa_cons (pv 3) (pa_cons (pv 4) pa_nil))))))
      (pss_cons (ps_set (i := 7) scLooked.nd rfl (Or.inl rfl) (pe_call G2' hr rfl D2.g D2.F.kp D2.b .nil pass0 (pa_cons (pv 6) (pa_cons (pv 2) pa_nil))))
      (pss_cons (ps_setLc (i := 9) (own := [("_law_spot", 8)]) (g := gName 8) (tt := tB (tDNotIn (tVar 8) (tVar 3))) (te := tVar 8) rfl scLooked.nd rfl rfl (sw_true rfl rfl rfl (by decide +kernel)) (pi_list (pv 7)) (blkOk_by (N := nLooked) (sc := defScope sLooked) (by decide +kernel)) (fun _ _ _ _ _ => pg_name (i := 8) scLooked.nd rfl (Or.inl rfl)) (fun _ _ _ _ _ => by exact (pts_one (pt_cmp (pc_dnotin hu (pv 8) (pv 3))))) (fun _ _ _ _ _ => by exact (pv 8)))
      (pss_cons (ps_set (i := 10) scLooked.nd rfl (Or.inl rfl) (pe_callB call_len_seq rfl hLe PySem.boot_len (pa_cons (pv 5) pa_nil)))
      (pss_cons (ps_if (PW.pt (pw_or (pt_not (pt_val (pe_call G3' hr rfl D3.g D3.F.kp D3.b .nil pass0 (pa_cons (pe_meth (pv 0) TC.cl D6.m G6 hr D6.b (show Vals [V.non] [Value.none] from .cons rfl .nil) pass0 (pa_cons (pv 1) (pa_cons (pv 2) pa_nil))) (pa_cons (pv 6) pa_nil))))) (pw_or1 (pt_cmpR (op_neD hu64) (pe_slice sl_list (pv 5) (po_some (pv 10)) po_none) (pv 9) (nomark _))))) (pss_one (ps_ret pe_bl)) pss_nil)
      (pss_cons (ps_for PassesOwn.never rfl (pi_list (pv 9)) (pg_name (i := 8) scLooked.nd rfl (Or.inl rfl)) (pss_one (ps_dput hu (pv 3) (pv 8) (pe_dget hu (pv 4) (pv 8) (fun _ _ => rfl)) rfl)))
      (pss_cons (ps_for PassesOwn.never rfl (pi_list (pv 7)) (pg_name (i := 8) scLooked.nd rfl (Or.inl rfl))
        (pss_one (ps_if (PW.pt (pw_or (pt_not (pt_val (pe_call G4' hr rfl D4.g D4.F.kp D4.b .nil pass0 (pa_cons (pe_meth (pv 0) TC.cl D7.m G7' hr D7.b .nil pass0 (pa_cons (pe_ix ix_tup (pv 8) pe_int (fun _ _ => rfl)) (pa_cons (pe_ix ix_tup (pv 8) pe_int (fun _ _ => rfl)) pa_nil))) pa_nil))))
          (pw_or1 (pt_cmpR op_ne (pe_meth (pv 0) TC.cl D7.m G7' hr D7.b .nil pass0 (pa_cons (pe_ix ix_tup (pv 8) pe_int (fun _ _ => rfl)) (pa_cons (pe_ix ix_tup (pv 8) pe_int (fun _ _ => rfl)) pa_nil))) (pe_dget hu (pv 3) (pv 8) (fun _ _ => rfl)) (nomark _))))) (pss_one (ps_ret pe_bl)) pss_nil)))
      (pss_cons (ps_set (i := 11) scLooked.nd rfl (Or.inl rfl) (pe_meth0 (pv 0) TC.cl D8.m G8' hr D8.b .nil pass0))
      (pss_cons (ps_if (PW.pt (pw_or (pt_not (pt_val (pe_callB call_isi rfl hIs PyProof.Rows.boot_isinstance (pa_cons (pv 11) (pa_cons (pe_bltn (v := .ty "list") rfl hLi (by decide +kernel) rfl) pa_nil))))) (pw_or1 (pt_cmpR (op_neD hu64) (pv 11) (pv 5) (nomark _))))) (pss_one (ps_ret pe_bl)) pss_nil)
      (pss_cons (ps_expr (pe_bm0 PySem.F.plainAttrs_list PySem.F.slot_list_clear PySem.F.type_list_clear mt_clear (pv 11)))
      (pss_one (ps_ret (pe_cmpR (op_eqD hu64) (pe_meth0 (pv 0) TC.cl D8.m G8' hr D8.b .nil pass0) (pv 5) (nomark _)))))))))))))), ?_⟩
    have hW := hL.w
    have hT := hW.town
    obtain ⟨dx, num, i0⟩ := hT.ins
    obtain ⟨lo1, lo2, lo3⟩ := hT.house.lineOk hk
    have hDl : ∀ x ∈ lookL (ent Ld) k, Dm x w' := fun x hx => hL.ln k hk x hx w' hDw
    generalize hr0 : paper (fun k => (g k w').getD (st k w')) (lookL (ent Ld) k) = r
    obtain ⟨tl, htl⟩ := rests_prefix (s := fun k => (g k w').getD (st k w')) (lookL (ent Ld) k)
    rw [hr0] at htl
    have rsub : ∀ x ∈ rests r, x ∈ lookL (ent Ld) k := fun x hx => by rw [htl]; exact List.mem_append_left _ hx
    have rlen : (rests r).length ≤ 12 := by have := congrArg List.length htl; rw [List.length_append] at this; omega
    have r1len : r.1.length ≤ 12 := by have : (rests r).length = r.1.length + r.2.1.toList.length := by unfold rests; rw [List.length_append]
                                       omega
    have rasc : ∀ x ∈ rests r, Asc x := fun x hx => (lo1 x (rsub x hx)).1
    have rasc1 : ∀ x ∈ r.1, Asc x := fun x hx => rasc x (List.mem_append_left _ hx)
    have rasc2 : ∀ x, r.2.1 = some x → Asc x := fun x hx => rasc x (by unfold rests; rw [hx]; exact List.mem_append_right _ (List.mem_singleton_self _))
    -- the due paper, its rests
    refine ⟨_, rfl, T.tp, dx, _, rfl, i0, rfl, _, rfl, MU, T, _, A', Ld, g, ps, n, k, rfl, hT, hk, fun H1 ll s1 nll hll => ?_⟩
    refine ⟨_, rfl, _, rfl, _, rfl, ll, kd, sd, lookL (ent Ld) k, w', g, n, Dm, st, rfl, hll, hL.kn.same s1, hW.store.keep (SameX.of (S := []) s1) (by simp), hDl, by omega, fun H2 t s2 hP2 => ?_⟩
    rw [hr0] at hP2
    have s02 := s1.trans s2
    refine ⟨_, rfl, _, rfl, MU, t, r, w', rfl, hP2, by omega, (hW.mu.same s02).there, fun H3 rl s3 nrl hR3 => ?_⟩
    have s03 := s02.trans s3
    have hW3 := hW.same s03
    obtain ⟨hs, kn1, kn2, kn3⟩ := (hL.kn.same s03).ex
    obtain ⟨rs, rs1, rs2, rs3⟩ := hR3.ex
    have rsl : rs.length = (rests r).length := by have := congrArg List.length rs3; rw [List.length_map, List.length_map] at this; exact this
    -- the spots that are not known
    refine ⟨_, rfl, rl, rfl, ⟨_, SqL.of rs1⟩, fun al hal => lc_list (K := K) (a := rl) (xs := rs.map fun r => V.ref r.1) (fun i H' => ∃ us : List (Addr × Str × Str), H' al = some (.lst (us.map fun r => V.ref r.1)) ∧ (∀ u ∈ us, u ∈ rs) ∧ us.map (·.2) = newP g w' ((rests r).take i) ∧ Same H3 H')
      ⟨[], upd_same, (fun u hu => by cases hu), rfl, Same.nw hal⟩ (fun i H' _ ⟨_, _, _, _, s4⟩ => s4.seq (SqL.of rs1)) ?_ ?_⟩
    · intro i y H' hi ⟨us, b1, b2, b3, s4⟩
      obtain ⟨u, hu1, rfl⟩ := map_get hi
      have hum := List.mem_of_getElem? hu1
      have hil := (List.getElem?_eq_some_iff.mp hu1).1
      obtain ⟨kx, hkx, eu⟩ : ∃ kx, (rests r)[i]? = some kx ∧ u.2 = (kx, w') := by
        have h1 : (rs.map (·.2))[i]? = some u.2 := by rw [List.getElem?_map, hu1]; rfl
        rw [rs3] at h1
        obtain ⟨kx, h2, h3⟩ := map_get h1
        exact ⟨kx, h2, h3⟩
      have eu1 : u.2.1 = kx := by rw [eu]
      have eu2 : u.2.2 = w' := by rw [eu]
      have ut := s4 _ _ (rs2 u hum).1
      rw [eu1, eu2] at ut
      refine ⟨rfl, _, rfl, _, rfl, kd, _, rfl, DGet.t (k := k2 kx w') (s4 _ _ kn1) ut, _, rfl, ?_⟩
      rw [kn2 kx w', take_snoc hkx, newP_snoc]
      have ulen : us.length ≤ 12 := by
        have := congrArg List.length b3
        rw [List.length_map] at this
        have h2 : (newP g w' ((rests r).take i)).length ≤ ((rests r).take i).length := by unfold newP; rw [List.length_map]; exact List.length_filter_le _ _
        rw [List.length_take] at h2
        omega
      cases hg : g kx w' with
      | some v =>
        refine iteF ⟨us, b1, b2, ?_, s4⟩
        rw [b3]
        show _ = newP g w' _ ++ []
        rw [List.append_nil]
      | none =>
        refine iteT ⟨_, rfl, _, b1, size_lt (by rw [List.length_map]; omega), us ++ [u], by rw [upd_same]; simp, fun z hz => ?_, ?_, s4.old2 hal⟩
        · rcases List.mem_append.mp hz with y | y
          · exact b2 z y
          · have y : z = u := by simpa using y
            rw [y]
            exact hum
        · rw [List.map_append, b3]
          show _ ++ [u.2] = newP g w' _ ++ [(kx, w')]
          rw [eu]
    · intro H4 ⟨us, b1, b2, b3, s4⟩
      have ern : (rs.map fun r => V.ref r.1).length = (rests r).length := by rw [List.length_map, rsl]
      rw [ern, List.take_length] at b3
      have s04 := s03.trans s4
      have hW4 := hW.same s04
      obtain ⟨xs, lx1, lx2⟩ := hW4.log.len
      refine ⟨_, rfl, lg, xs, rfl, .inl (SqL.of lx1), ?_⟩
      rw [lx2]
      -- it is looked
      refine ⟨_, rfl, T.tp, dx, _, rfl, s04 _ _ i0, rfl, _, rfl, _, rfl, MU, T, ft, lg, sd, Dm, st, A', Ld, g, ps, ps, n, k, w', rfl, hW4, hk, hw, hDl, by omega, fun H5 t2 p2 e5 ht2 hp2 hW5 => ?_⟩
      rw [hr0] at ht2 hp2 hW5
      have pl3 := hW4.plain3
      have hP5 : PapAt H5 t r := (hP2.same (s3.trans s4)).keepN e5 pl3
      refine ⟨_, rfl, t2, t, r, rfl, ⟨p2, ht2, hp2⟩, hP5, rasc1, rasc2, _, rfl, iteF ?_⟩
      -- the log behind
      obtain ⟨rs5, l51, l52, l53⟩ := hW5.log.ex
      have l5l : rs5.length = ps.length + (newP g w' (rests r)).length := by have := congrArg List.length l53; rw [List.length_map, List.length_append] at this; exact this
      refine ⟨_, rfl, _, rfl, _, rfl, lg, _, rfl, SqL.of l51, fun sl nsl => ?_⟩
      rw [cut_from _ (by rw [List.length_map]; omega), ← List.map_drop]
      have nal : al ∉ [T.he, T.as_, lg] := fun z => by
        obtain ⟨u, e, _⟩ := (hW.same s03).plain3 al z
        rw [hal] at e
        cases e
      have urow : ∀ u ∈ us, H5 u.1 = some (.tup [.str u.2.1, .str u.2.2]) := fun u hu => e5.tup (fun z => by
        obtain ⟨o, e, pl⟩ := pl3 _ z
        rw [s4 _ _ (rs2 u (b2 u hu)).1] at e
        cases e
        exact pl) (s4 _ _ (rs2 u (b2 u hu)).1)
      have hal5 : H5 al = some (.lst (us.map fun r => V.ref r.1)) := e5.lst nal b1
      have newasc : AscP (newP g w' (rests r)) := fun p hp => by
        obtain ⟨kx, hkx, rfl⟩ := List.mem_map.mp hp
        exact ⟨rasc kx (List.mem_filter.mp hkx).1, hw.asc⟩
      have s5a : Same H5 (upd H5 sl (.lst ((rs5.drop ps.length).map fun r => V.ref r.1))) := Same.nw nsl
      have edrop : (rs5.drop ps.length).map (·.2) = newP g w' (rests r) := by
        rw [List.map_drop, l53]
        exact List.drop_left ..
      have dA := dp_rs (K := K) (H := upd H5 sl (.lst ((rs5.drop ps.length).map fun r => V.ref r.1))) (l := sl) (rs := rs5.drop ps.length) (SqL.of upd_same) fun r hr => s5a _ _ (l52 r (List.mem_of_mem_drop hr)).1
      have dB := dp_rs (K := K) (H := upd H5 sl (.lst ((rs5.drop ps.length).map fun r => V.ref r.1))) (l := al) (rs := us) (SqL.of (s5a _ _ hal5)) fun u hu => s5a _ _ (urow u hu)
      rw [edrop] at dA
      rw [b3] at dB
      refine ⟨_, rfl, _, _, dA, dB, shaped_dP newasc, shaped_dP newasc, _, rfl, ?_⟩
      rw [eqv_same (shaped_dP newasc)]
      refine iteF ?_
      have hW6 := hW5.same s5a
      have e6 : ExtS [T.he, T.as_, lg] H (upd H5 sl (.lst ((rs5.drop ps.length).map fun r => V.ref r.1))) := ((ExtS.of (.of s04)).trans e5).step s5a
      have hal6 := s5a _ _ hal5
      have urow6 : ∀ u ∈ us, (upd H5 sl (.lst ((rs5.drop ps.length).map fun r => V.ref r.1))) u.1 = some (.tup [.str u.2.1, .str u.2.2]) := fun u hu => s5a _ _ (urow u hu)
      have nkd3 : kd ∉ [T.he, T.as_, lg] := by
        have h1 := hL.kT
        have h2 := hL.kl
        simp only [List.mem_cons, List.not_mem_nil, or_false, not_or] at h1 ⊢
        exact ⟨h1.2.2.2.1, h1.2.2.2.2, h2⟩
      have hK6 : KdAt (upd H5 sl (.lst ((rs5.drop ps.length).map fun r => V.ref r.1))) kd g n := ((hL.kn.same s04).keepN e5 nkd3).same s5a
      have nrl3 : rl ∉ [T.he, T.as_, lg] := fun z => by
        obtain ⟨u, e, _⟩ := (hW.same s02).plain3 rl z
        rw [nrl] at e
        cases e
      have hrl6 : (upd H5 sl (.lst ((rs5.drop ps.length).map fun r => V.ref r.1))) rl = some (.lst (rs.map fun r => V.ref r.1)) := s5a _ _ (e5.lst nrl3 (s4 _ _ rs1))
      have rrow6 : ∀ u ∈ rs, (upd H5 sl (.lst ((rs5.drop ps.length).map fun r => V.ref r.1))) u.1 = some (.tup [.str u.2.1, .str u.2.2]) := fun u hu => s5a _ _ (e5.tup (fun z => by
        obtain ⟨o, e, pl⟩ := pl3 _ z
        rw [s4 _ _ (rs2 u hu).1] at e
        cases e
        exact pl) (s4 _ _ (rs2 u hu).1))
      revert hW6 e6 hal6 urow6 hK6 hrl6 rrow6
      clear dA dB s5a
      generalize upd H5 sl (.lst ((rs5.drop ps.length).map fun r => V.ref r.1)) = H6
      intro hW6 e6 hal6 urow6 hK6 hrl6 rrow6
      obtain ⟨ss, st1, st2⟩ := hW6.store.ex
      have hsub1 : ∀ a ∈ [kd], a ∈ MU := by simp [hL.km]
      have nkT : ∀ a ∈ T.mu, a ∉ [kd] := fun a ha z => hL.kT (by have y : a = kd := by simpa using z
                                                                 rw [← y]; exact ha)
      have usl : us.length = (newP g w' (rests r)).length := by have := congrArg List.length b3; rw [List.length_map] at this; exact this
      have npl : (newP g w' (rests r)).length ≤ 12 := by
        have : (newP g w' (rests r)).length ≤ (rests r).length := by unfold newP; rw [List.length_map]; exact List.length_filter_le _ _
        omega
      obtain ⟨hs6, kd1, kd2, kd3⟩ := hK6.ex
      refine ⟨_, rfl, al, rfl, ⟨_, SqL.of hal6⟩, for_list (K := K) (a := al) (xs := us.map fun r => V.ref r.1) (fun i σ H' => ∃ (v8 : Option V) (hs' : List (List L2.Key × V)), σ = [some (.ref T.tp), some (.str k), some (.str w'), some (.ref kd), some (.ref sd), some (.ref lg), some (.ref t), some (.ref rl), v8, some (.ref al), some (.int ps.length), none] ∧ SameX [kd] H6 H' ∧ H' kd = some (.dT hs') ∧ KnAt hs' (gAt g st (newP g w' (rests r)) i) ∧ hs'.length ≤ n + i)
        ⟨_, hs6, rfl, SameX.refl _ _, kd1, by rw [gAt_zero]; exact kd2, by omega⟩ (fun i σ H' _ ⟨_, _, _, s7, _⟩ => SqL.of (s7 _ _ (by simpa using (ne_of hal6 kd1 (by intro z; cases z))) hal6)) ?_ ?_⟩
      · intro i y σ H' hi ⟨v8, hs', eσ, s7, q1, q2, q3⟩
        subst eσ
        obtain ⟨u, hu1, rfl⟩ := map_get hi
        have hum := List.mem_of_getElem? hu1
        have hil := (List.getElem?_eq_some_iff.mp hu1).1
        have hnp : (newP g w' (rests r))[i]? = some u.2 := by rw [← b3, List.getElem?_map, hu1]; rfl
        obtain ⟨kx, hkx, ekx⟩ := List.mem_map.mp (List.mem_of_getElem? hnp)
        have hkr : kx ∈ rests r := (List.mem_filter.mp hkx).1
        have eu1 : u.2.1 = kx := by rw [← ekx]
        have eu2 : u.2.2 = w' := by rw [← ekx]
        have ut := urow6 u hum
        rw [eu1, eu2] at ut
        have ut7 : H' u.1 = some (.tup ((k2 kx w').map kV)) := s7 _ _ (by simpa using (ne_of ut kd1 (by intro z; cases z))) ut
        have st7 : H' sd = some (.dT ss) := s7 _ _ (by simpa using hL.ks.symm) st1
        have hg : DGet H' sd (.ref u.1) (some (.int (st kx w'))) := by
          have := DGet.t (b := u.1) (k := k2 kx w') st7 ut7
          rw [st2 kx w' (hDl kx (rsub kx hkr))] at this
          exact this
        refine ⟨_, rfl, _, rfl, sd, _, rfl, hg, _, rfl, _, rfl, kd, _, rfl, DPut.t (b := u.1) (k := k2 kx w') q1 ut7 (size_lt (by omega)), _, _, rfl, s7.up (by simp), upd_same, ?_, Nat.le_trans putT_len (by omega)⟩
        rw [gAt_step (k := kx) (w := w') (by rw [hnp, ← ekx])]
        exact q2.put kx w' (st kx w')
      · intro σ H7 ⟨v8, hs', eσ, s7, q1, q2, q3⟩
        subst eσ
        rw [List.length_map, usl] at q2 q3
        rw [gAt_all] at q2
        have hW7 := hW6.keepS s7 hsub1 nkT (by simpa using hL.kl.symm) (by simpa using hL.ks.symm) (fun a ha => by
          have z : a = kd := by simpa using ha
          rw [z]
          exact ⟨_, q1, True.intro⟩)
        have hrl7 : H7 rl = some (.lst (rs.map fun r => V.ref r.1)) := s7 _ _ (by simpa using (ne_of hrl6 kd1 (by intro z; cases z))) hrl6
        have rrow7 : ∀ u ∈ rs, H7 u.1 = some (.tup [.str u.2.1, .str u.2.2]) := fun u hu => s7 _ _ (by simpa using (ne_of (rrow6 u hu) kd1 (by intro z; cases z))) (rrow6 u hu)
        obtain ⟨dx7, num7, i7⟩ := hW7.town.ins
        refine ⟨_, rfl, rl, rfl, ⟨_, SqL.of hrl7⟩, for_list (K := K) (a := rl) (xs := rs.map fun r => V.ref r.1) (fun i σ H' => ∃ (v8 : Option V), σ = [some (.ref T.tp), some (.str k), some (.str w'), some (.ref kd), some (.ref sd), some (.ref lg), some (.ref t), some (.ref rl), v8, some (.ref al), some (.int ps.length), none] ∧ Same H7 H')
          ⟨_, rfl, Same.refl _⟩ (fun i σ H' _ ⟨_, _, s8⟩ => s8.seq (SqL.of hrl7)) ?_ ?_⟩
        · intro i y σ H' hi ⟨v8, eσ, s8⟩
          subst eσ
          obtain ⟨u, hu1, rfl⟩ := map_get hi
          have hum := List.mem_of_getElem? hu1
          obtain ⟨kx, hkx, ekx⟩ : ∃ kx ∈ rests r, u.2 = (kx, w') := by
            have h1 : u.2 ∈ rs.map (·.2) := List.mem_map.mpr ⟨u, hum, rfl⟩
            rw [rs3] at h1
            obtain ⟨kx, h2, h3⟩ := List.mem_map.mp h1
            exact ⟨kx, h2, h3.symm⟩
          have eu1 : u.2.1 = kx := by rw [ekx]
          have eu2 : u.2.2 = w' := by rw [ekx]
          have ut := rrow7 u hum
          rw [eu1, eu2] at ut
          have hkk : kx ∈ keysE (ent A') := (lo1 kx (rsub kx hkx)).2
          have ut8 := s8 _ _ ut
          have ev : ((learn g w' (fun k => (g k w').getD (st k w')) (rests r) kx w').map V.int).getD .non = .int ((g kx w').getD (st kx w')) := by rw [learn_in hkx]; rfl
          refine ⟨_, rfl, T.tp, dx7, _, rfl, s8 _ _ i7, rfl, _, rfl, u.1, _, 0, .str kx, rfl, rfl, SqT.of ut8, atI_nat rfl, _, rfl, u.1, _, 1, .str w', rfl, rfl, SqT.of ut8, atI_nat rfl, MU, T, _, A', Ld, _, _, _, kx, w', rfl, hW7.town.same s8, hkk, hw, fun H8 s9 => ?_⟩
          rw [ev]
          have ut9 := s9 _ _ ut8
          refine ⟨_, rfl, _, rfl, iteF ⟨_, rfl, T.tp, dx7, _, rfl, s9 _ _ (s8 _ _ i7), rfl, _, rfl, u.1, _, 0, .str kx, rfl, rfl, SqT.of ut9, atI_nat rfl, _, rfl, u.1, _, 1, .str w', rfl, rfl, SqT.of ut9, atI_nat rfl, MU, T, _, A', Ld, _, _, _, kx, w', rfl, hW7.town.same (s8.trans s9), hkk, hw, fun H9 s10 => ?_⟩⟩
          rw [ev]
          have s11 := (s8.trans s9).trans s10
          have hgk : DGet H9 kd (.ref u.1) (some (.int ((g kx w').getD (st kx w')))) := by
            have := DGet.t (b := u.1) (k := k2 kx w') (s11 _ _ q1) (s10 _ _ ut9)
            rw [q2 kx w', learn_in hkx] at this
            exact this
          refine ⟨_, rfl, _, rfl, kd, _, rfl, hgk, rfl, _, rfl, ?_⟩
          rw [decide_eq_true rfl]
          exact iteF ⟨_, rfl, s11⟩
        · intro σ H8 ⟨v8, eσ, s8⟩
          subst eσ
          have hW8 := hW7.same s8
          have asc2 : AscP (ps ++ newP g w' (rests r)) := fun p hp => (List.mem_append.mp hp).elim (hL.asc p) (newasc p)
          refine ⟨_, rfl, T.tp, dx7, _, rfl, s8 _ _ i7, rfl, MU, T, _, A', Ld, _, _, _, rfl, hW8.town, fun H9 l s9 nl hl9 => ?_⟩
          have hW9 := hW8.same s9
          obtain ⟨rl9, m1, m2, m3⟩ := hl9.ex
          refine ⟨_, rfl, .ref l, .ty "list", .type "list", .type "list", true, rfl, .ty _, .base (.lst m1), kit_ty (by decide +kernel), _, rfl, iteF ⟨_, rfl, _, rfl, _, _, hl9.dp, hW9.log.dp, shaped_dP asc2, shaped_dP asc2, _, rfl, ?_⟩⟩
          rw [eqv_same (shaped_dP asc2)]
          refine iteF ⟨_, rfl, .inl ⟨rfl, _, SqL.of m1⟩, l, _, rfl, rfl, m1, ?_⟩
          have s10 : Same H8 (upd H9 l (.lst [])) := s9.old2 nl
          have hW10 := hW8.same s10
          obtain ⟨dxA, numA, iA⟩ := hW10.town.ins
          refine ⟨_, rfl, T.tp, dxA, _, rfl, iA, rfl, MU, T, _, A', Ld, _, _, _, rfl, hW10.town, fun H11 l2 s11 nl2 hl11 => ?_⟩
          have hW11 := hW10.same s11
          refine ⟨_, rfl, _, _, hl11.dp, hW11.log.dp, shaped_dP asc2, shaped_dP asc2, ?_⟩
          rw [eqv_same (shaped_dP asc2)]
          have sz : Same H7 H11 := (s8.trans s10).trans s11
          exact kk H11 _ _ (((e6.mono (by simp)).trans ((ExtS.of s7).mono (by simp))).step sz) ⟨hW11, ⟨hs', sz _ _ q1, q2, by omega⟩, hL.km, hL.kT, hL.ks, asc2, hL.ln⟩
end
end TM
set_option maxRecDepth 100000
set_option maxHeartbeats 4000000
/-! The law: a round. -/
namespace TM
open PySem PySem.Spec PyProof.Rows L2 LamX NdefX
abbrev nRound : List Str := ["_law_town", "_law_cell_here", "_law_names_here", "_law_words_here", "_law_known", "_law_store_here", "_law_log", "_law_kind", "_law_word", "_law_rests_here", "_law_facts", "_law_k", "_law_other", "_law_name", "_law_told", "_law_one"]
abbrev pRound : List Str := ["_law_town", "_law_cell_here", "_law_names_here", "_law_words_here", "_law_known", "_law_store_here", "_law_log"]
theorem tells_out {k w : Str} : ∀ {fs : List FT} {s : Kn × List Str}, (k, w) ∉ fs.map (fun r => (r.2.1, r.2.2.1)) → (tells s fs).1 k w = s.1 k w
  | [], s, _ => rfl
  | r :: fs, s, h => by
    have h1 : (k, w) ≠ (r.2.1, r.2.2.1) := fun z => h (by rw [List.map_cons, z]; exact List.mem_cons_self)
    have h2 : (k, w) ∉ fs.map (fun r => (r.2.1, r.2.2.1)) := fun z => h (by rw [List.map_cons]; exact List.mem_cons_of_mem _ z)
    show (tells (tellS s r) fs).1 k w = _
    rw [tells_out h2]
    show upK s.1 r.2.1 r.2.2.1 r.2.2.2 k w = _
    unfold upK
    rw [if_neg fun z => h1 (by rw [z.1, z.2])]
theorem tells_get {r : FT} : ∀ {fs : List FT} {s : Kn × List Str}, (fs.map fun r => (r.2.1, r.2.2.1)).Nodup → r ∈ fs → (tells s fs).1 r.2.1 r.2.2.1 = r.2.2.2
  | x :: fs, s, nd, h => by
    obtain ⟨n1, n2⟩ := List.nodup_cons.mp (by rw [List.map_cons] at nd; exact nd)
    show (tells (tellS s x) fs).1 r.2.1 r.2.2.1 = _
    rcases List.mem_cons.mp h with z | z
    · rw [z, tells_out n1]
      show upK s.1 x.2.1 x.2.2.1 x.2.2.2 x.2.1 x.2.2.1 = _
      unfold upK
      rw [if_pos ⟨rfl, rfl⟩]
    · exact tells_get n2 z
theorem KnAt.putdrop {hs : List (List L2.Key × V)} {g : Kn} (h : KnAt hs g) (k w : Str) : KnAt (dropK (putK hs (k2 k w) .non) (k2 k w)) (upK g k w none) := fun k' w' => by
  rw [valV_dropK]
  unfold upK
  by_cases e : k' = k ∧ w' = w
  · rw [if_pos (k2_inj.mpr e), if_pos e]
    rfl
  · rw [if_neg (fun z => e (k2_inj.mp z)), if_neg e, valV_put, if_neg (fun z => e (k2_inj.mp z))]
    exact h k' w'
section
variable {q : Str} {TT : List NTab} {MU S : List Addr} {H H' : Hp} {c : Cs} {T : TAd} {ft lg sd kd : Addr} {D : Str → Str → Prop} {st : Str → Str → Int} {A Ld Ld' : Ent} {g g' : Kn} {ps lps : List (Str × Str)} {n m : Nat}
theorem WAt.shift (h : WAt q TT MU H c T ft lg sd D st A Ld g ps lps n) (s : SameX T.mu H H') (hT : TownAt MU H' c T (.ref ft) A Ld' g' ps m) (hm : n ≤ m) : WAt q TT MU H' c T ft lg sd D st A Ld' g' ps lps m :=
  ⟨hT, h.mu.keep s hT.plain, h.tel.keep s h.town.plain, h.log.keep s h.town.sub h.ln, h.store.keep s h.sn, TM.TabsN.keepX h.tabs s h.town.plain, h.lm, h.sm, h.ln, h.sn, Nat.le_trans h.lls hm⟩
theorem LW.same (h : LW q TT MU H c T ft lg sd kd D st A Ld g ps n) (s : Same H H') : LW q TT MU H' c T ft lg sd kd D st A Ld g ps n := ⟨h.w.same s, h.kn.same s, h.km, h.kT, h.ks, h.asc, h.ln⟩
theorem KdAt.mono (h : KdAt H kd g n) (hm : n ≤ m) : KdAt H kd g m := by
  obtain ⟨hs, a, b, e⟩ := h.ex
  exact ⟨hs, a, b, by omega⟩
theorem LW.mono (h : LW q TT MU H c T ft lg sd kd D st A Ld g ps n) (hm : n ≤ m) : LW q TT MU H c T ft lg sd kd D st A Ld g ps m := ⟨h.w.mono hm, h.kn.mono hm, h.km, h.kT, h.ks, h.asc, h.ln⟩
theorem LW.turn {st' : Str → Str → Int} (h : LW q TT MU H c T ft lg sd kd D st A Ld g ps n) (s : SameX [sd] H H') (hS : StX H' sd D st') : LW q TT MU H' c T ft lg sd kd D st' A Ld g ps n :=
  ⟨h.w.store' s hS.st, h.kn.keepN (.of s) (by simpa using h.ks), h.km, h.kT, h.ks, h.asc, h.ln⟩
end
theorem if_join {b : Bool} {X : Prop} {N : List (Option V) → Hp → Prop} {σ : List (Option V)} {H : Hp} {I : List (Option V) → Hp → Prop} (hN : ∀ σ H, I σ H → N σ H) (h0 : b = false → I σ H) (hx : b = true → (∀ σ H, I σ H → N σ H) → X) : if b = true then X else N σ H := by
  cases b with
  | true => exact iteT (hx rfl hN)
  | false => exact iteF (hN _ _ (h0 rfl))
theorem nodup_pair {fs : List FT} (h : (fs.map fun r : FT => r.2.1).Nodup) : (fs.map fun r : FT => (r.2.1, r.2.2.1)).Nodup := by
  have e : (fs.map fun r : FT => r.2.1) = (fs.map fun r : FT => (r.2.1, r.2.2.1)).map (·.1) := by rw [List.map_map]; rfl
  rw [e] at h
  exact List.Pairwise.of_map _ (fun a b hab z => hab (by rw [z])) h
def spRound (q : Str) (TT : List NTab) (c : Cs) : Sp := fun vs H Q _ => ∃ (MU : List Addr) (T : TAd) (ft lg sd kd nl wl : Addr) (nm wm : List Str) (st : Str → Str → Int) (A Ld : Ent) (g : Kn) (ps : List (Str × Str)) (n : Nat) (x : Int),
  vs = [.ref T.tp, .int x, .ref nl, .ref wl, .ref kd, .ref sd, .ref lg] ∧ LW q TT MU H c T ft lg sd kd (dm nm wm) st A Ld g ps n ∧ StX H sd (dm nm wm) st ∧ Lst H nl nm ∧ Lst H wl wm ∧ nl ∉ MU ∧ wl ∉ MU ∧ keysE (ent A) = nm ∧ 3 ≤ nm.length ∧ wm.length = 3 ∧ (∀ y ∈ wm, NameOk y) ∧ n + 400 ≤ 60000 ∧
  ∀ H' g' ps' st' Ld', ExtS (T.mu ++ [lg, kd, sd]) H H' → LW q TT MU H' c T ft lg sd kd (dm nm wm) st' A Ld' g' ps' (n + 300) → StX H' sd (dm nm wm) st' → Q (.bl true) H'
section
variable {P : Program} {w : World} {K : PySem.W.Frag} {mg : Str → Option Value} {base : Heap} {c : Cs} {TT : List NTab} {q : Str} {f f1 f2 f3 f4 f5 f6 f7 f8 : Addr} {fd fd1 fd2 fd3 fd4 fd5 fd6 fd7 fd8 : FuncData}
theorem scRound : FnScope nRound pRound (defScope sRound) := ⟨rfl, rfl, rfl, by decide +kernel, rfl, by decide +kernel, by decide +kernel⟩
theorem ok_round (TC : TCls K c.CT) (D : DefAt K mg "_law_round" sRound pRound f fd)
    (D1 : DefAt K mg "_law_mix" sMix ["_law_cell_here", "_law_turn", "_law_many"] f1 fd1) (G1 : FnOk P w K mg base CX0 1 f1 fd1 ["_law_cell_here", "_law_turn", "_law_many"] spMix)
    (D2 : DefAt K mg "_law_looked" sLooked pLooked f2 fd2) (G2 : FnOk P w K mg base CX0 6 f2 fd2 pLooked (spLooked q TT c))
    (D3 : DefAt K mg "_law_turned" sTurned ["_law_store_here", "_law_cell_here"] f3 fd3) (G3 : FnOk P w K mg base CX0 2 f3 fd3 ["_law_store_here", "_law_cell_here"] spTurned)
    (D4 : DefAt K mg "_law_paper" sLPaper ["_law_line", "_law_word", "_law_known", "_law_store_here"] f4 fd4) (G4 : FnOk P w K mg base CX0 1 f4 fd4 ["_law_line", "_law_word", "_law_known", "_law_store_here"] spLPaper)
    (D5 : DefAt K mg "_law_rests" sLRests ["_law_paper_here", "_law_word"] f5 fd5) (G5 : FnOk P w K mg base CX0 1 f5 fd5 ["_law_paper_here", "_law_word"] spLRests)
    (D6 : MethD K c.CT "line" "Town.line" sTLine ["self", "name"] f6 fd6) (G6 : FnOk P w K mg base CX0 3 f6 fd6 ["self", "name"] (spTLine c))
    (D7 : MethD K c.CT "known" "Town.known" sTKnown ["self", "kind", "word"] f7 fd7) (G7 : FnOk P w K mg base CX0 2 f7 fd7 ["self", "kind", "word"] (spTKnown c))
    (D8 : MethD K c.CT "shift" "Town.shift" sTShift ["self", "turns", "facts"] f8 fd8) (G8 : FnOk P w K mg base CX0 7 f8 fd8 ["self", "turns", "facts"] (spTShift c))
    (hLe : mg "len" = none) (hRa : mg "range" = none) (hLi : mg "list" = none) : FnOk P w K mg base CX0 8 f fd pRound (spRound q TT c) := by
  have G1' := G1.mono (show 1 ≤ 7 by decide)
  have G2' := G2.mono (show 6 ≤ 7 by decide)
  have G3' := G3.mono (show 2 ≤ 7 by decide)
  have G4' := G4.mono (show 1 ≤ 7 by decide)
  have G5' := G5.mono (show 1 ≤ 7 by decide)
  have G6' := G6.mono (show 3 ≤ 7 by decide)
  have G7' := G7.mono (show 2 ≤ 7 by decide)
  refine D.F.ok scRound (fun vs H Q E h => ?_) (fun cdv A outer s H vs Q E hr h => ?_)
  · obtain ⟨MU, T, ft, lg, sd, kd, nl, wl, nm, wm, st, A, Ld, g, ps, n, x, rfl, _⟩ := h
    rfl
  · obtain ⟨MU, T, ft, lg, sd, kd, nl, wl, nm, wm, st, A', Ld, g, ps, n, x, rfl, hL, hS, hnl, hwl, hnm, hwmu, hkeys, hn3, hw3, hwok, hn, kk⟩ := h
    have hu : (A.deeper (envOfC "_law_round" (defScope sRound) s.heap.objs.size f cdv)).units + 1 < cLine := hu_of hr
    refine ⟨_, PSs.nox (pss_cons (ps_set (i := 7) scRound.nd rfl (Or.inl rfl) (pe_ix ix_list (pv 2) (pe_call G1' hr rfl D1.g D1.F.kp D1.b .nil pass0 (pa_cons (pv 1) (pa_cons pe_int (pa_cons (pe_callB call_len_seq rfl hLe PySem.boot_len (pa_cons (pv 2) pa_nil)) pa_nil)))) (fun _ _ => rfl)))
      (pss_cons (ps_set (i := 8) scRound.nd rfl (Or.inl rfl) (pe_ix ix_list (pv 3) (pe_call G1' hr rfl D1.g D1.F.kp D1.b .nil pass0 (pa_cons (pv 1) (pa_cons pe_int (pa_cons pe_int pa_nil)))) (fun _ _ => rfl)))
      (pss_cons (ps_if (pt_not (pt_val (pe_call G2' hr rfl D2.g D2.F.kp D2.b .nil pass0 (pa_cons (pv 0) (pa_cons (pv 7) (pa_cons (pv 8) (pa_cons (pv 4) (pa_cons (pv 5) (pa_cons (pv 6) pa_nil))))))))) (pss_one (ps_ret pe_bl)) pss_nil)
      (pss_cons (ps_expr (pe_call G3' hr rfl D3.g D3.F.kp D3.b .nil pass0 (pa_cons (pv 5) (pa_cons (pv 1) pa_nil))))
      (pss_cons (ps_if (pt_not (pt_val (pe_call G2' hr rfl D2.g D2.F.kp D2.b .nil pass0 (pa_cons (pv 0) (pa_cons (pv 7) (pa_cons (pv 8) (pa_cons (pv 4) (pa_cons (pv 5) (pa_cons (pv 6) pa_nil))))))))) (pss_one (ps_ret pe_bl)) pss_nil)
      (pss_cons (ps_set (i := 9) scRound.nd rfl (Or.inl rfl) (pe_call G5' hr rfl D5.g D5.F.kp D5.b .nil pass0 (pa_cons (pe_call G4' hr rfl D4.g D4.F.kp D4.b .nil pass0 (pa_cons (pe_meth (pv 0) TC.cl D6.m G6' hr D6.b .nil pass0 (pa_cons (pv 7) pa_nil)) (pa_cons (pv 8) (pa_cons (pv 4) (pa_cons (pv 5) pa_nil))))) (pa_cons (pv 8) pa_nil))))
      (pss_cons (ps_set (i := 10) scRound.nd rfl (Or.inl rfl) (pe_lst pa_nil))
      (pss_cons (ps_for PassesOwn.never rfl (pi_range1 rfl hRa (pa_cons (pe_callB call_len_seq rfl hLe PySem.boot_len (pa_cons (pv 9) pa_nil)) pa_nil)) (pg_name (i := 11) scRound.nd rfl (Or.inl rfl))
        (pss_one (ps_if (pt_cmpR op_eq (pe_call G1' hr rfl D1.g D1.F.kp D1.b .nil pass0 (pa_cons (pv 1) (pa_cons (pe_op op_add pe_int (pv 11)) (pa_cons pe_int pa_nil)))) pe_int (nomark _))
          (pss_one (ps_expr (pe_bm PySem.F.plainAttrs_list PySem.F.slot_list_append PySem.F.type_list_append mt_append (pv 10) (pa_cons (pe_tup (pa_cons (pe_ix ix_tup (pe_ix ix_list (pv 9) (pv 11) (fun _ _ => rfl)) pe_int (fun _ _ => rfl)) (pa_cons (pv 8) (pa_cons pe_non pa_nil)))) pa_nil)))) pss_nil)))
      (pss_cons (ps_set (i := 12) scRound.nd rfl (Or.inl rfl) (pe_ix ix_list (pv 3) (pe_call G1' hr rfl D1.g D1.F.kp D1.b .nil pass0 (pa_cons (pv 1) (pa_cons pe_int (pa_cons pe_int pa_nil)))) (fun _ _ => rfl)))
      (pss_cons (ps_if (pt_cmpR op_ne (pv 12) (pv 8) (nomark _))
        (pss_one (ps_for PassesOwn.never rfl (pi_range1 rfl hRa (pa_cons (pe_call G1' hr rfl D1.g D1.F.kp D1.b .nil pass0 (pa_cons (pv 1) (pa_cons pe_int (pa_cons pe_int pa_nil)))) pa_nil)) (pg_name (i := 11) scRound.nd rfl (Or.inl rfl))
          (pss_one (ps_expr (pe_bm PySem.F.plainAttrs_list PySem.F.slot_list_append PySem.F.type_list_append mt_append (pv 10) (pa_cons (pe_tup (pa_cons (pe_ix ix_list (pv 2) (pv 11) (fun _ _ => rfl)) (pa_cons (pv 12) (pa_cons (pe_call G1' hr rfl D1.g D1.F.kp D1.b .nil pass0 (pa_cons (pv 1) (pa_cons (pe_op op_add pe_int (pv 11)) (pa_cons pe_int pa_nil)))) pa_nil)))) pa_nil)))))) pss_nil)
      (pss_cons (ps_expr (pe_meth (pv 0) TC.cl D8.m G8 hr D8.b .nil pass0 (pa_cons (pe_lst pa_nil) (pa_cons (pe_callTy call_list_of rfl hLi PyProof.Rows.boot_list (pa_cons (pv 10) pa_nil)) pa_nil))))
      (pss_cons (ps_for PassesOwn.never rfl (pi_list (pv 10)) (pg_tup rfl (pgs_cons (pg_name (i := 13) scRound.nd rfl (Or.inl rfl)) (pgs_cons (pg_name (i := 14) scRound.nd rfl (Or.inl rfl)) (pgs_cons (pg_name (i := 15) scRound.nd rfl (Or.inl rfl)) pgs_nil))))
        (pss_cons (ps_dput hu (pv 4) (pe_tup (pa_cons (pv 13) (pa_cons (pv 14) pa_nil))) (pv 15) rfl)
        (pss_cons (ps_if (pt_cmpR op_isN (pv 15) pe_non (nomark _)) (pss_one (ps_expr (pe_bm PySem.F.plainAttrs_dict PySem.F.slot_dict_pop PySem.F.type_dict_pop (mt_popT1 hu) (pv 4) (pa_cons (pe_tup (pa_cons (pv 13) (pa_cons (pv 14) pa_nil))) pa_nil)))) pss_nil)
        (pss_one (ps_if (pt_cmpR op_ne (pe_meth (pv 0) TC.cl D7.m G7' hr D7.b .nil pass0 (pa_cons (pv 13) (pa_cons (pv 14) pa_nil))) (pv 15) (nomark _)) (pss_one (ps_ret pe_bl)) pss_nil)))))
      (pss_cons (ps_if (pt_not (pt_val (pe_call G2' hr rfl D2.g D2.F.kp D2.b .nil pass0 (pa_cons (pv 0) (pa_cons (pv 7) (pa_cons (pv 8) (pa_cons (pv 4) (pa_cons (pv 5) (pa_cons (pv 6) pa_nil))))))))) (pss_one (ps_ret pe_bl)) pss_nil)
      (pss_one (ps_ret (pe_call G2' hr rfl D2.g D2.F.kp D2.b .nil pass0 (pa_cons (pv 0) (pa_cons (pv 7) (pa_cons (pv 8) (pa_cons (pv 4) (pa_cons (pv 5) (pa_cons (pv 6) pa_nil)))))))))))))))))))))), ?_⟩
    have lnm : (vstr nm).length = nm.length := List.length_map ..
    have nmnd : nm.Nodup := by rw [← hkeys]; exact hL.w.town.house.nodup
    have nm12 : nm.length ≤ 12 := by rw [← hkeys, keys_len]; exact hL.w.town.house.len
    have sub1 : ∀ a ∈ [T.he, T.as_, lg, kd], a ∈ MU := by simp [hL.w.town.facts.mh, hL.w.town.facts.ma, hL.w.lm, hL.km]
    have nsd : sd ∉ [T.he, T.as_, lg, kd] := by
      have h1 := hL.w.sn
      have h2 := hL.w.ls
      simp only [List.mem_cons, List.not_mem_nil, or_false, not_or] at h1 ⊢
      exact ⟨h1.2.2.2.1, h1.2.2.2.2, fun z => h2 z.symm, fun z => hL.ks z.symm⟩
    have pk : ∀ {l : List Str} {r : Int}, 0 ≤ r → r < l.length → ∃ y, y ∈ l ∧ atI (vstr l) r = some (.str y) := fun {l r} h0 h1 => by
      obtain ⟨m, rfl⟩ : ∃ m : Nat, r = m := ⟨r.toNat, by omega⟩
      have h2 : m < l.length := by omega
      exact ⟨l[m], List.getElem_mem h2, atI_nat (by rw [List.getElem?_map, List.getElem?_eq_getElem h2]; rfl)⟩
    refine ⟨_, rfl, _, rfl, _, rfl, nl, _, rfl, .inl (SqL.of hnl), x, 3, _, rfl, by omega, by omega, by rw [lnm]; omega, fun r H1 r0 r1 s1 => ?_⟩
    rw [lnm] at r1
    obtain ⟨kd0, hkd, hat⟩ := pk r0 r1
    refine ⟨nl, _, _, _, rfl, rfl, SqL.of (s1 _ _ hnl), hat, ?_⟩
    refine ⟨_, rfl, _, rfl, x, 4, 3, rfl, by omega, by omega, by omega, fun r' H2 q0 q1 s2 => ?_⟩
    obtain ⟨w', hw', hatw⟩ := pk (l := wm) (r := r') q0 (by omega)
    have s12 := s1.trans s2
    have hwl2 := s12 _ _ hwl
    refine ⟨wl, _, _, _, rfl, rfl, SqL.of hwl2, hatw, ?_⟩
    have hkk : kd0 ∈ keysE (ent A') := by rw [hkeys]; exact hkd
    have hwo := hwok w' hw'
    have hDw : ∃ k0, dm nm wm k0 w' := ⟨kd0, hkd, hw'⟩
    refine ⟨_, rfl, _, rfl, _, rfl, _, rfl, _, rfl, _, rfl, MU, T, ft, lg, sd, kd, dm nm wm, st, A', Ld, g, ps, n, kd0, w', rfl, hL.same s12, hkk, hwo, hDw, by omega, fun H3 g3 ps3 e3 hL3 => ⟨_, rfl, iteF ?_⟩⟩
    have e03 : ExtS [T.he, T.as_, lg, kd] H H3 := (ExtS.of (.of s12)).trans e3
    have hS3 := hS.keepN e03 nsd
    refine ⟨_, rfl, _, rfl, sd, x, dm nm wm, st, rfl, hS3, fun H4 st4 s4 hS4 => ?_⟩
    have hL4 := hL3.turn s4 hS4
    refine ⟨_, rfl, _, rfl, _, rfl, _, rfl, _, rfl, _, rfl, MU, T, ft, lg, sd, kd, dm nm wm, st4, A', Ld, g3, ps3, n + 12, kd0, w', rfl, hL4, hkk, hwo, hDw, by omega, fun H5 g5 ps5 e5 hL5 => ⟨_, rfl, iteF ?_⟩⟩
    have hS5 := hS4.keepN e5 nsd
    have subS : ∀ a ∈ T.mu ++ [lg, kd, sd], a ∈ MU := fun a ha => by
      rcases List.mem_append.mp ha with z | z
      · exact hL.w.town.sub a z
      · simp only [List.mem_cons, List.not_mem_nil, or_false] at z
        rcases z with z | z | z
        · rw [z]; exact hL.w.lm
        · rw [z]; exact hL.km
        · rw [z]; exact hL.w.sm
    have e05 : ExtS (T.mu ++ [lg, kd, sd]) H H5 := (e03.mono (by simp)).trans (((ExtS.of s4).mono (by simp)).trans (e5.mono (by simp)))
    have nlS : nl ∉ T.mu ++ [lg, kd, sd] := fun z => hnm (subS _ z)
    have wlS : wl ∉ T.mu ++ [lg, kd, sd] := fun z => hwmu (subS _ z)
    have hnl5 : Lst H5 nl nm := e05.lst nlS hnl
    have hwl5 : Lst H5 wl wm := e05.lst wlS hwl
    obtain ⟨dx5, num5, i5⟩ := hL5.w.town.ins
    obtain ⟨lo1, lo2, lo3⟩ := hL5.w.town.house.lineOk hkk
    refine ⟨_, rfl, T.tp, dx5, _, rfl, i5, rfl, _, rfl, MU, T, _, A', Ld, g5, ps5, n + 12 + 12, kd0, rfl, hL5.w.town, hkk, fun H6 ll s6 nll hll => ?_⟩
    refine ⟨_, rfl, _, rfl, _, rfl, ll, kd, sd, lookL (ent Ld) kd0, w', g5, n + 12 + 12, dm nm wm, st4, rfl, hll, hL5.kn.same s6, (hS5.keepN (S := []) (.of (.of s6)) (by simp)).st, fun y hy => ⟨by rw [← hkeys]; exact (lo1 y hy).2, hw'⟩, by omega, fun H7 t s7 hP7 => ?_⟩
    revert hP7
    generalize hr0 : paper (fun k => (g5 k w').getD (st4 k w')) (lookL (ent Ld) kd0) = rp
    intro hP7
    obtain ⟨tl0, htl0⟩ := rests_prefix (s := fun k => (g5 k w').getD (st4 k w')) (lookL (ent Ld) kd0)
    rw [hr0] at htl0
    have rsub : ∀ y ∈ rests rp, y ∈ lookL (ent Ld) kd0 := fun y hy => by rw [htl0]; exact List.mem_append_left _ hy
    have rnd : (rests rp).Nodup := by rw [htl0] at lo3; exact (List.nodup_append.mp lo3).1
    have rlen : (rests rp).length ≤ 12 := by have := congrArg List.length htl0; rw [List.length_append] at this; omega
    have r1len : rp.1.length ≤ 50 := by
      have : (rests rp).length = rp.1.length + rp.2.1.toList.length := by unfold rests; rw [List.length_append]
      omega
    refine ⟨_, rfl, MU, t, rp, w', rfl, hP7, r1len, ((hL5.w.mu.same s6).same s7).there, fun H8 rl s8 nrl hR8 => ?_⟩
    have s58 : Same H5 H8 := (s6.trans s7).trans s8
    obtain ⟨rs, rs1, rs2, rs3⟩ := hR8.ex
    have rsl : rs.length = (rests rp).length := by have := congrArg List.length rs3; rw [List.length_map, List.length_map] at this; exact this
    refine ⟨by show 0 ≤ sizeLine; exact Nat.zero_le _, fun fl nfl => ?_⟩
    have hL8 := hL5.same s58
    have hnl8 := s58 _ _ hnl5
    have hwl8 := s58 _ _ hwl5
    refine ⟨_, rfl, rl, _, rfl, .inl (SqL.of ((Same.nw nfl) _ _ rs1)), _, rfl, by omega, by rw [List.length_map]; omega, for_range (lo := 0) (n := (((rs.map fun r : Addr × Str × Str => V.ref r.1).length : Nat) : Int).toNat) (fun i σ H' => ∃ (v11 : Option V) (fs : List FT), σ = [some (.ref T.tp), some (.int x), some (.ref nl), some (.ref wl), some (.ref kd), some (.ref sd), some (.ref lg), some (.str kd0), some (.str w'), some (.ref rl), some (.ref fl), v11, none, none, none, none] ∧ Same H8 H' ∧ H' fl = some (.lst (fs.map fun r : FT => V.ref r.1)) ∧ (∀ r ∈ fs, H' r.1 = some (.tup [.str r.2.1, .str r.2.2.1, oV r.2.2.2]) ∧ H8 r.1 = none) ∧ (fs.map fun r : FT => r.2.1).Nodup ∧ (∀ r ∈ fs, r.2.1 ∈ (rests rp).take i ∧ r.2.2.1 = w' ∧ r.2.2.2 = none) ∧ fs.length ≤ i)
      ⟨_, [], rfl, Same.nw nfl, upd_same, (fun r hr => by cases hr), List.nodup_nil, (fun r hr => by cases hr), Nat.le_refl _⟩ ?_ ?_⟩
    · intro i σ H' hi ⟨v11, fs, eσ, s9, f1, f2, f3, f4, f5⟩
      subst eσ
      have hi2 : i < rs.length := by rw [List.length_map] at hi; exact hi
      obtain ⟨u, hu1⟩ : ∃ u, rs[i]? = some u := ⟨rs[i], List.getElem?_eq_getElem hi2⟩
      have hum := List.mem_of_getElem? hu1
      obtain ⟨kx, hkx, eu⟩ : ∃ kx, (rests rp)[i]? = some kx ∧ u.2 = (kx, w') := by
        have h1 : (rs.map (·.2))[i]? = some u.2 := by rw [List.getElem?_map, hu1]; rfl
        rw [rs3] at h1
        obtain ⟨kx, h2, h3⟩ := map_get h1
        exact ⟨kx, h2, h3⟩
      have eu1 : u.2.1 = kx := by rw [eu]
      have ut := s9 _ _ (rs2 u hum).1
      have hrl' := s9 _ _ rs1
      refine ⟨_, rfl, _, rfl, _, _, rfl, rfl, x, 60 + (0 + (i : Int)), 2, rfl, by omega, by omega, by omega, fun r2 H'' q2 q3 s10 => ⟨rfl, _, rfl, iteB (fun _ => ?_) (fun _ => ?_)⟩⟩
      · have f1' := s10 _ _ f1
        refine ⟨_, rfl, .inl ⟨rfl, _, SqL.of f1'⟩, _, rfl, _, rfl, rl, _, 0 + (i : Int), .ref u.1, rfl, rfl, SqL.of (s10 _ _ hrl'), by rw [Int.zero_add]; exact atI_nat (by rw [List.getElem?_map, hu1]; rfl), u.1, _, 0, .str u.2.1, rfl, rfl, SqT.of (s10 _ _ ut), atI_nat rfl, _, rfl, by show 3 ≤ sizeLine; exact size_small (by decide), fun t3 nt3 => ?_⟩
        have nft : fl ≠ t3 := ne_of_none f1' nt3
        refine ⟨fl, _, _, rfl, rfl, by rw [upd_ne nft]; exact f1', size_lt (by rw [List.length_map]; omega), _, fs ++ [(t3, kx, w', none)], rfl, ((s9.trans s10).nw2 nt3).old2 nfl, by rw [upd_same]; simp, fun z hz => ?_, ?_, fun z hz => ?_, by rw [List.length_append, List.length_singleton]; omega⟩
        · rcases List.mem_append.mp hz with y | y
          · obtain ⟨c1, c2⟩ := f2 z y
            have c1' := s10 _ _ c1
            exact ⟨by rw [upd_ne (ne_of c1' f1' (by intro z; cases z)), upd_ne (ne_of_none c1' nt3)]; exact c1', c2⟩
          · have y : z = (t3, kx, w', none) := by simpa using y
            rw [y]
            refine ⟨?_, (s9.trans s10).free nt3⟩
            rw [upd_ne nft.symm, upd_same, eu1]
            rfl
        · rw [List.map_append]
          refine List.nodup_append.mpr ⟨f3, by simp, fun a ha b hb => ?_⟩
          have z : b = kx := by simpa using hb
          rw [z]
          obtain ⟨p, hp, rfl⟩ := List.mem_map.mp ha
          intro y
          have h5 : ((rests rp).take (i + 1)).Nodup := rnd.sublist (List.take_sublist _ _)
          rw [take_snoc hkx] at h5
          exact (List.nodup_append.mp h5).2.2 _ (f4 p hp).1 _ (List.mem_singleton_self _) y
        · rw [take_snoc hkx]
          rcases List.mem_append.mp hz with y | y
          · obtain ⟨c1, c2, c3⟩ := f4 z y
            exact ⟨List.mem_append_left _ c1, c2, c3⟩
          · have y : z = (t3, kx, w', none) := by simpa using y
            rw [y]
            exact ⟨List.mem_append_right _ (List.mem_singleton_self _), rfl, rfl⟩
      · refine ⟨_, fs, rfl, s9.trans s10, s10 _ _ f1, fun z hz => ⟨s10 _ _ (f2 z hz).1, (f2 z hz).2⟩, f3, fun z hz => ?_, by omega⟩
        rw [take_snoc hkx]
        obtain ⟨c1, c2, c3⟩ := f4 z hz
        exact ⟨List.mem_append_left _ c1, c2, c3⟩
    · intro σ H9 ⟨v11, fs, eσ, s9, f1, f2, f3, f4, f5⟩
      subst eσ
      have ern : (((rs.map fun r : Addr × Str × Str => V.ref r.1).length : Nat) : Int).toNat = (rests rp).length := by rw [List.length_map, rsl]; rfl
      rw [ern] at f5
      refine ⟨_, rfl, _, rfl, x, 5, 3, rfl, by omega, by omega, by omega, fun r6 H10 q2 q3 s10 => ?_⟩
      obtain ⟨wo, hwo2, hatwo⟩ := pk (l := wm) (r := r6) q2 (by omega)
      have s810 := s9.trans s10
      refine ⟨wl, _, _, _, rfl, rfl, SqL.of (s810 _ _ hwl8), hatwo, ?_⟩
      have hpr : ∀ k ∈ rests rp, k ∈ nm := fun k hk => by rw [← hkeys]; exact (lo1 k (rsub k hk)).2
      have hmuO : ∀ a ∈ MU, H8 a ≠ none := ((hL5.w.mu.same s58)).there
      refine ⟨_, rfl, _, rfl, rfl, _, rfl, if_join (I := fun σ H' => ∃ (v11 : Option V) (fs : List FT), σ = [some (.ref T.tp), some (.int x), some (.ref nl), some (.ref wl), some (.ref kd), some (.ref sd), some (.ref lg), some (.str kd0), some (.str w'), some (.ref rl), some (.ref fl), v11, some (.str wo), none, none, none] ∧ Same H8 H' ∧ H' fl = some (.lst (fs.map fun r : FT => V.ref r.1)) ∧ (∀ r ∈ fs, H' r.1 = some (.tup [.str r.2.1, .str r.2.2.1, oV r.2.2.2]) ∧ H8 r.1 = none) ∧ (fs.map fun r : FT => (r.2.1, r.2.2.1)).Nodup ∧ (∀ r ∈ fs, r.2.1 ∈ nm ∧ r.2.2.1 ∈ wm ∧ ∀ v, r.2.2.2 = some v → 0 ≤ v ∧ v ≤ 2) ∧ fs.length ≤ 15) ?_ (fun _ => ⟨v11, fs, rfl, s810, s10 _ _ f1, fun z hz => ⟨s10 _ _ (f2 z hz).1, (f2 z hz).2⟩, nodup_pair f3, fun z hz => ?_, by omega⟩) (fun hb hN => ?_)⟩
      · intro σ H11 ⟨v11, fs, eσ, s11, e1, e2, e3, e4, e5'⟩
        subst eσ
        have hL11 := hL8.same s11
        obtain ⟨dx11, num11, i11⟩ := hL11.w.town.ins
        refine ⟨_, rfl, T.tp, dx11, _, rfl, i11, rfl, by show 0 ≤ sizeLine; exact Nat.zero_le _, fun tl ntl => ?_⟩
        have g1a := (Same.nw ntl : Same H11 (upd H11 tl (.lst []))) _ _ e1
        refine ⟨_, rfl, fl, _, rfl, .inl (SqL.of g1a), fun f2l nf2 => ?_⟩
        have sA : Same H11 (upd (upd H11 tl (.lst [])) f2l (.lst (fs.map fun r : FT => V.ref r.1))) := (Same.nw ntl).trans (Same.nw nf2)
        have nfree : ∀ {a : Addr}, a ∈ MU → H8 a ≠ none := fun ha => hmuO _ ha
        have ntl8 : H8 tl = none := s11.free ntl
        have nf28 : H8 f2l = none := s11.free ((Same.nw ntl).free nf2)
        have tlf2 : tl ≠ f2l := fun z => by
          rw [← z, upd_same] at nf2
          cases nf2
        have hLA := hL11.same sA
        refine ⟨MU, T, _, A', Ld, g5, ps5, n + 12 + 12, tl, f2l, fs, rfl, hLA.w.town, hLA.w.mu, (by show upd _ f2l _ tl = _; rw [upd_ne tlf2, upd_same]; rfl), fun z => nfree z ntl8, ⟨upd_same, fun z => nfree z nf28, fun r hr => ⟨sA _ _ (e2 r hr).1, fun z => nfree z (e2 r hr).2⟩⟩, ⟨fun r hr => by rw [hkeys]; exact (e4 r hr).1, fun r hr => hwok _ (e4 r hr).2.1, fun r hr => (e4 r hr).2.2, e3, by omega⟩, by omega, fun H12 Ld12 rl12 s12 hT12 eL nrl12 _ => ?_⟩
        have subT : ∀ a ∈ T.mu, a ∈ MU := hL.w.town.sub
        have hW12 := hLA.w.shift s12 hT12 (by omega)
        have hK12 : KdAt H12 kd g5 (n + 12 + 12) := hLA.kn.keepN (.of s12) hLA.kT
        have fr12 : ∀ {a : Addr}, H8 a = none → a ∉ T.mu := fun h z => nfree (subT _ z) h
        have g1c : H12 fl = some (.lst (fs.map fun r : FT => V.ref r.1)) := s12 _ _ (fr12 nfl) (sA _ _ e1)
        have g2c : ∀ r ∈ fs, H12 r.1 = some (.tup [.str r.2.1, .str r.2.2.1, oV r.2.2.2]) := fun r hr => s12 _ _ (fr12 (e2 r hr).2) (sA _ _ (e2 r hr).1)
        obtain ⟨hs12, kd1, kd2, kd3⟩ := hK12.ex
        obtain ⟨dx12, num12, i12⟩ := hW12.town.ins
        have nkT : ∀ a ∈ T.mu, a ∉ [kd] := fun a ha z => hL.kT (by have y : a = kd := by simpa using z
                                                                   rw [← y]; exact ha)
        have hsub1 : ∀ a ∈ [kd], a ∈ MU := by simp [hL.km]
        refine ⟨_, rfl, fl, rfl, ⟨_, SqL.of g1c⟩, for_list (K := K) (a := fl) (xs := fs.map fun r : FT => V.ref r.1) (fun i σ H' => ∃ (v13 v14 v15 : Option V) (hs' : List (List L2.Key × V)), σ = [some (.ref T.tp), some (.int x), some (.ref nl), some (.ref wl), some (.ref kd), some (.ref sd), some (.ref lg), some (.str kd0), some (.str w'), some (.ref rl), some (.ref fl), v11, some (.str wo), v13, v14, v15] ∧ SameX [kd] H12 H' ∧ H' kd = some (.dT hs') ∧ KnAt hs' (tells (g5, []) (fs.take i)).1 ∧ hs'.length ≤ n + 24 + i)
          ⟨_, _, _, hs12, rfl, SameX.refl _ _, kd1, kd2, by omega⟩ (fun i σ H' _ ⟨_, _, _, _, _, s13, _⟩ => SqL.of (s13 _ _ (by simpa using (ne_of g1c kd1 (by intro z; cases z))) g1c)) ?_ ?_⟩
        · intro i y σ H' hi ⟨v13, v14, v15, hs', eσ, s13, q1, q2, q3⟩
          subst eσ
          obtain ⟨r, hrr, rfl⟩ := map_get hi
          have hrm := List.mem_of_getElem? hrr
          have hil := (List.getElem?_eq_some_iff.mp hrr).1
          have ut := s13 _ _ (by simpa using (ne_of (g2c r hrm) kd1 (by intro z; cases z))) (g2c r hrm)
          have etk : (tells (g5, []) (fs.take (i + 1))).1 = upK (tells (g5, []) (fs.take i)).1 r.2.1 r.2.2.1 r.2.2.2 := by rw [take_snoc hrr, tells_snoc]; rfl
          obtain ⟨c1, c2, c3⟩ := e4 r hrm
          refine ⟨r.1, _, rfl, SqT.of ut, rfl, _, _, rfl, _, _, rfl, _, _, rfl, rfl, ?_⟩
          refine ⟨_, rfl, _, rfl, _, rfl, _, rfl, by show 2 ≤ sizeLine; exact size_small (by decide), fun t1 nt1 => ?_⟩
          have nkt1 : kd ≠ t1 := ne_of_none q1 nt1
          refine ⟨kd, _, rfl, DPut.t (b := t1) (k := k2 r.2.1 r.2.2.1) (by rw [upd_ne nkt1]; exact q1) upd_same (size_lt (by omega)), ?_⟩
          have sB : SameX [kd] H12 (upd (upd H' t1 (.tup ((k2 r.2.1 r.2.2.1).map kV))) kd (.dT (putK hs' (k2 r.2.1 r.2.2.1) (oV r.2.2.2)))) := (s13.nw nt1).up (by simp)
          refine ⟨_, rfl, rfl, _, rfl, if_join (I := fun σ H4 => σ = [some (.ref T.tp), some (.int x), some (.ref nl), some (.ref wl), some (.ref kd), some (.ref sd), some (.ref lg), some (.str kd0), some (.str w'), some (.ref rl), some (.ref fl), v11, some (.str wo), some (.str r.2.1), some (.str r.2.2.1), some (oV r.2.2.2)] ∧ ∃ hs2, SameX [kd] H12 H4 ∧ H4 kd = some (.dT hs2) ∧ KnAt hs2 (tells (g5, []) (fs.take (i + 1))).1 ∧ hs2.length ≤ n + 24 + (i + 1)) ?_ (fun hb => ?_) (fun hb hN => ?_)⟩
          · intro σ H4 ⟨eσ, hs2, z1, z2, z3, z4⟩
            subst eσ
            have hW4 := hW12.keepS z1 hsub1 nkT (by simpa using hLA.kl.symm) (by simpa using hLA.ks.symm) (fun a ha => by
              have z : a = kd := by simpa using ha
              rw [z]
              exact ⟨_, z2, True.intro⟩)
            have hkT : T.tp ∉ [kd] := fun z => nkT T.tp (by simp) z
            refine ⟨_, rfl, T.tp, dx12, _, rfl, z1 _ _ hkT i12, rfl, _, rfl, _, rfl, MU, T, _, A', Ld12, _, ps5, _, r.2.1, r.2.2.1, rfl, hW4.town, by rw [hkeys]; exact c1, hwok _ c2, fun H5' s5' => ?_⟩
            rw [tells_get e3 hrm]
            refine ⟨_, rfl, scal_oV _ _, _, rfl, ?_⟩
            rw [decide_eq_true rfl]
            exact iteF ⟨_, _, _, hs2, rfl, z1.step s5', s5' _ _ z2, z3, z4⟩
          · refine ⟨rfl, _, sB, upd_same, ?_, Nat.le_trans putT_len (by omega)⟩
            cases ho : r.2.2.2 with
            | none => rw [ho] at hb; cases hb
            | some v =>
              rw [etk, ho]
              exact q2.put _ _ v
          · have ho : r.2.2.2 = none := by
              cases ho : r.2.2.2 with
              | none => rfl
              | some v => rw [ho] at hb; cases hb
            refine ⟨_, rfl, .inr (.inr (.inl ⟨rfl, .inr ⟨_, upd_same⟩⟩)), _, rfl, _, rfl, by show 2 ≤ sizeLine; exact size_small (by decide), fun t2 nt2 => ?_⟩
            have nkt2 : kd ≠ t2 := ne_of_none upd_same nt2
            refine ⟨kd, _, k2 r.2.1 r.2.2.1, t2, oV r.2.2.2, rfl, rfl, by rw [upd_ne nkt2]; exact upd_same, upd_same, by rw [valV_put, if_pos rfl], ?_⟩
            refine hN _ _ ⟨rfl, _, (sB.nw nt2).up (by simp), upd_same, ?_, ?_⟩
            · rw [etk, ho]
              exact q2.putdrop _ _
            · exact Nat.le_trans (dropK_le _ _) (Nat.le_trans putT_len (by omega))
        · intro σ H13 ⟨v13, v14, v15, hs', eσ, s13, q1, q2, q3⟩
          subst eσ
          rw [List.length_map] at q2 q3
          rw [List.take_length] at q2
          have hW13 := hW12.keepS s13 hsub1 nkT (by simpa using hLA.kl.symm) (by simpa using hLA.ks.symm) (fun a ha => by
            have z : a = kd := by simpa using ha
            rw [z]
            exact ⟨_, q1, True.intro⟩)
          have hL13 : LW q TT MU H13 c T ft lg sd kd (dm nm wm) st4 A' Ld12 (tells (g5, []) fs).1 ps5 (n + 40) := ⟨hW13.mono (by omega), ⟨⟨hs', q1, q2, by omega⟩⟩, hLA.km, hLA.kT, hLA.ks, hLA.asc, by rw [eL]; exact hLA.ln⟩
          have e0D : ExtS (T.mu ++ [lg, kd, sd]) H H13 := (((e05.step s58).step s11).step sA).trans (((ExtS.of s12).mono (by intro b hb; exact List.mem_append_left _ hb)).trans ((ExtS.of s13).mono (by simp)))
          have hS13 : StX H13 sd (dm nm wm) st4 := ((hS5.keepN (S := []) (.of (.of ((s58.trans s11).trans sA))) (by simp)).keepN (.of s12) hLA.w.sn).keepN (.of s13) (by simpa using hLA.ks.symm)
          have emu : ∀ b ∈ [T.he, T.as_, lg, kd], b ∈ T.mu ++ [lg, kd, sd] := by simp
          refine ⟨_, rfl, _, rfl, _, rfl, _, rfl, _, rfl, _, rfl, MU, T, ft, lg, sd, kd, dm nm wm, st4, A', Ld12, _, ps5, n + 40, kd0, w', rfl, hL13, hkk, hwo, hDw, by omega, fun H14 g14 ps14 e14 hL14 => ⟨_, rfl, iteF ?_⟩⟩
          have hS14 := hS13.keepN e14 nsd
          refine ⟨_, rfl, _, rfl, _, rfl, _, rfl, _, rfl, _, rfl, MU, T, ft, lg, sd, kd, dm nm wm, st4, A', Ld12, _, ps14, n + 40 + 12, kd0, w', rfl, hL14, hkk, hwo, hDw, by omega, fun H15 g15 ps15 e15 hL15 => ?_⟩
          exact kk H15 g15 ps15 st4 Ld12 ((e0D.trans (e14.mono emu)).trans (e15.mono emu)) (hL15.mono (by omega)) (hS14.keepN e15 nsd)
      · obtain ⟨c1, c2, c3⟩ := f4 z hz
        exact ⟨hpr _ (List.mem_of_mem_take c1), by rw [c2]; exact hw', fun v hv => by rw [c3] at hv; cases hv⟩
      · have hne : wo ≠ w' := fun z => by rw [z] at hb; simp at hb
        refine ⟨_, rfl, x, 6, 3, rfl, by omega, by omega, by omega, fun r7 H11 q4 q5 s11 => ?_⟩
        have s811 := s810.trans s11
        refine ⟨_, rfl, by omega, by omega, for_range (lo := 0) (n := r7.toNat) (fun i σ H' => ∃ (v11 : Option V) (fs : List FT), σ = [some (.ref T.tp), some (.int x), some (.ref nl), some (.ref wl), some (.ref kd), some (.ref sd), some (.ref lg), some (.str kd0), some (.str w'), some (.ref rl), some (.ref fl), v11, some (.str wo), none, none, none] ∧ Same H8 H' ∧ H' fl = some (.lst (fs.map fun r : FT => V.ref r.1)) ∧ (∀ r ∈ fs, H' r.1 = some (.tup [.str r.2.1, .str r.2.2.1, oV r.2.2.2]) ∧ H8 r.1 = none) ∧ (fs.map fun r : FT => (r.2.1, r.2.2.1)).Nodup ∧ (∀ r ∈ fs, r.2.1 ∈ nm ∧ r.2.2.1 ∈ wm ∧ ∀ v, r.2.2.2 = some v → 0 ≤ v ∧ v ≤ 2) ∧ (∀ r ∈ fs, r.2.2.1 = wo → r.2.1 ∈ nm.take i) ∧ fs.length ≤ 12 + i)
          ⟨_, fs, rfl, s811, s11 _ _ (s10 _ _ f1), fun z hz => ⟨s11 _ _ (s10 _ _ (f2 z hz).1), (f2 z hz).2⟩, nodup_pair f3, fun z hz => ?_, fun z hz e => ?_, by omega⟩ ?_ ?_⟩
        · obtain ⟨c1, c2, c3⟩ := f4 z hz
          exact ⟨hpr _ (List.mem_of_mem_take c1), by rw [c2]; exact hw', fun v hv => by rw [c3] at hv; cases hv⟩
        · exact absurd (e.symm.trans (f4 z hz).2.1) hne
        · intro i σ H' hi ⟨v11, fs, eσ, s9, f1, f2, f3, f4, f6, f5⟩
          subst eσ
          have hi3 : i < nm.length := by omega
          obtain ⟨kx, hkx⟩ : ∃ kx, nm[i]? = some kx := ⟨nm[i], List.getElem?_eq_getElem hi3⟩
          have hkm := List.mem_of_getElem? hkx
          refine ⟨_, rfl, .inl ⟨rfl, _, SqL.of f1⟩, _, rfl, _, rfl, nl, _, 0 + (i : Int), .str kx, rfl, rfl, SqL.of (s9 _ _ hnl8), by rw [Int.zero_add]; exact atI_nat (by rw [List.getElem?_map, hkx]; rfl), _, rfl, _, rfl, _, rfl, _, _, rfl, rfl, x, 7 + (0 + (i : Int)), 3, rfl, by omega, by omega, by omega, fun r2 H'' q2 q3 s10 => ⟨by show 3 ≤ sizeLine; exact size_small (by decide), fun t3 nt3 => ?_⟩⟩
          have f1' := s10 _ _ f1
          have nft : fl ≠ t3 := ne_of_none f1' nt3
          refine ⟨fl, _, _, rfl, rfl, by rw [upd_ne nft]; exact f1', size_lt (by rw [List.length_map]; omega), _, fs ++ [(t3, kx, wo, some r2)], rfl, ((s9.trans s10).nw2 nt3).old2 nfl, by rw [upd_same]; simp, fun z hz => ?_, ?_, fun z hz => ?_, fun z hz e => ?_, by rw [List.length_append, List.length_singleton]; omega⟩
          · rcases List.mem_append.mp hz with y | y
            · obtain ⟨c1, c2⟩ := f2 z y
              have c1' := s10 _ _ c1
              exact ⟨by rw [upd_ne (ne_of c1' f1' (by intro z; cases z)), upd_ne (ne_of_none c1' nt3)]; exact c1', c2⟩
            · have y : z = (t3, kx, wo, some r2) := by simpa using y
              rw [y]
              refine ⟨?_, (s9.trans s10).free nt3⟩
              rw [upd_ne nft.symm, upd_same]
              rfl
          · rw [List.map_append]
            refine List.nodup_append.mpr ⟨f3, by simp, fun a ha b hb => ?_⟩
            have z : b = (kx, wo) := by simpa using hb
            rw [z]
            obtain ⟨p, hp, rfl⟩ := List.mem_map.mp ha
            intro y
            have y1 : p.2.1 = kx := congrArg Prod.fst y
            have y2 : p.2.2.1 = wo := congrArg Prod.snd y
            have h6 := f6 p hp y2
            rw [y1] at h6
            have h5 : (nm.take (i + 1)).Nodup := nmnd.sublist (List.take_sublist _ _)
            rw [take_snoc hkx] at h5
            exact (List.nodup_append.mp h5).2.2 _ h6 _ (List.mem_singleton_self _) rfl
          · rcases List.mem_append.mp hz with y | y
            · exact f4 z y
            · have y : z = (t3, kx, wo, some r2) := by simpa using y
              rw [y]
              exact ⟨hkm, hwo2, fun v hv => by cases hv; omega⟩
          · rw [take_snoc hkx]
            rcases List.mem_append.mp hz with y | y
            · exact List.mem_append_left _ (f6 z y e)
            · have y : z = (t3, kx, wo, some r2) := by simpa using y
              rw [y]
              exact List.mem_append_right _ (List.mem_singleton_self _)
        · intro σ H12 ⟨v11, fs, eσ, s9, f1, f2, f3, f4, f6, f5⟩
          exact hN _ _ ⟨v11, fs, eσ, s9, f1, f2, f3, f4, by omega⟩
end
end TM
set_option maxRecDepth 100000
set_option maxHeartbeats 4000000
/-! The law: sixty facts. -/
namespace TM
open PySem PySem.Spec PyProof.Rows L2 LamX NdefX
abbrev nSixty : List Str := ["_law_cell_here", "_law_names_here", "_law_words_here", "_law_town", "_law_name", "_law_facts", "_law_doubts", "_law_k", "_law_one", "_law_kind", "_law_word"]
theorem tells_still : ∀ {fs : List FT} {s : Kn × List Str}, (fs.map fun r : FT => (r.2.1, r.2.2.1)).Nodup → (∀ r ∈ fs, s.1 r.2.1 r.2.2.1 = none) → (tells s fs).2 = s.2
  | [], s, _, _ => rfl
  | x :: fs, s, nd, h => by
    obtain ⟨n1, n2⟩ := List.nodup_cons.mp (by rw [List.map_cons] at nd; exact nd)
    have h0 := h x List.mem_cons_self
    show (tells (tellS s x) fs).2 = _
    have e2 : (tellS s x).2 = s.2 := by
      show (if shk (s.1 x.2.1 x.2.2.1) x.2.2.2 = true then addN s.2 x.2.1 else s.2) = s.2
      rw [h0]
      exact if_neg Bool.false_ne_true
    rw [tells_still n2 (fun r hr => by
      show upK s.1 x.2.1 x.2.2.1 x.2.2.2 r.2.1 r.2.2.1 = none
      unfold upK
      rw [if_neg fun z => n1 (List.mem_map.mpr ⟨r, hr, by rw [z.1, z.2]⟩)]
      exact h r (List.mem_cons_of_mem _ hr)), e2]
theorem addN_mem {ks : List Str} {k x : Str} (h : x ∈ ks ∨ x = k) : x ∈ addN ks k := by
  unfold addN
  split
  · next z => exact h.elim id (fun e => e ▸ z)
  · exact List.mem_append.mpr (h.imp id (fun e => by rw [e]; exact List.mem_singleton_self _))
theorem tells_grow {x : Str} : ∀ {fs : List FT} {s : Kn × List Str}, x ∈ s.2 → x ∈ (tells s fs).2
  | [], s, h => h
  | r :: fs, s, h => tells_grow (fs := fs) (s := tellS s r) (by
      show x ∈ (if shk (s.1 r.2.1 r.2.2.1) r.2.2.2 = true then addN s.2 r.2.1 else s.2)
      split
      · exact addN_mem (.inl h)
      · exact h)
theorem tells_all {r : FT} : ∀ {fs : List FT} {s : Kn × List Str}, (fs.map fun r : FT => (r.2.1, r.2.2.1)).Nodup → r ∈ fs → (s.1 r.2.1 r.2.2.1).isSome = true → r.2.2.2 = none → r.2.1 ∈ (tells s fs).2
  | x :: fs, s, nd, h, hs, hn => by
    obtain ⟨n1, n2⟩ := List.nodup_cons.mp (by rw [List.map_cons] at nd; exact nd)
    show r.2.1 ∈ (tells (tellS s x) fs).2
    rcases List.mem_cons.mp h with z | z
    · subst z
      refine tells_grow ?_
      show r.2.1 ∈ (if shk (s.1 r.2.1 r.2.2.1) r.2.2.2 = true then addN s.2 r.2.1 else s.2)
      have e : shk (s.1 r.2.1 r.2.2.1) r.2.2.2 = true := by
        rw [hn]
        cases e : s.1 r.2.1 r.2.2.1 with
        | none => rw [e] at hs; cases hs
        | some v => rfl
      rw [if_pos e]
      exact addN_mem (.inr rfl)
    · refine tells_all n2 z ?_ hn
      show (upK s.1 x.2.1 x.2.2.1 x.2.2.2 r.2.1 r.2.2.1).isSome = true
      unfold upK
      rw [if_neg fun y => n1 (List.mem_map.mpr ⟨r, z, by rw [y.1, y.2]⟩)]
      exact hs
theorem look_self {k : Str} : ∀ {l : List Str}, k ∈ l → lookL (l.map fun n => (n, [n])) k = [k]
  | a :: l, h => by
    unfold lookL
    rw [List.map_cons, List.lookup_cons]
    by_cases e : k = a
    · rw [e, beq_self_eq_true]; rfl
    · rw [beq_false_of_ne e]
      exact look_self ((List.mem_cons.mp h).resolve_left e)
def pA (nm wm : List Str) (k : Nat) : Str × Str := (nm.getD (k % 12) (Str.ofString ""), wm.getD (k / 12) (Str.ofString ""))
theorem getD_inj {l : List Str} {d : Str} (nd : l.Nodup) {i j : Nat} (hi : i < l.length) (hj : j < l.length) (h : l.getD i d = l.getD j d) : i = j := by
  rw [List.getD_eq_getElem?_getD, List.getD_eq_getElem?_getD, List.getElem?_eq_getElem hi, List.getElem?_eq_getElem hj] at h
  exact (List.getElem_inj nd).mp h
theorem pA_nodup {nm wm : List Str} (n1 : nm.Nodup) (n2 : wm.Nodup) (l1 : nm.length = 12) (l2 : wm.length = 5) : ((List.range 60).map (pA nm wm)).Nodup := by
  refine List.pairwise_map.mpr (List.Pairwise.imp_of_mem (fun {a b} ha hb hab => ?_) List.pairwise_lt_range)
  have ha := List.mem_range.mp ha
  have hb := List.mem_range.mp hb
  intro h
  have h1 := getD_inj n1 (by omega) (by omega) (congrArg Prod.fst h)
  have h2 := getD_inj n2 (by omega) (by omega) (congrArg Prod.snd h)
  omega
def spSixty : Sp := fun vs H Q _ => ∃ x : Int, vs = [.int x] ∧ ∀ H', Q (.bl true) H'
section
variable {P : Program} {w : World} {K : PySem.W.Frag} {mg : Str → Option Value} {base : Heap} {c : Cs} {CTg f0 : Addr} {f f1 f2 f3 f4 f5 f6 f7 f8 : Addr} {fd fd1 fd2 fd3 fd4 fd5 fd6 fd7 fd8 : FuncData}
theorem scSixty : FnScope nSixty ["_law_cell_here"] (defScope sSixty) := ⟨rfl, rfl, rfl, by decide +kernel, rfl, by decide +kernel, by decide +kernel⟩
theorem ok_sixty (TC : TCls K c.CT) (D : DefAt K mg "_law_sixty" sSixty ["_law_cell_here"] f fd)
    (D1 : DefAt K mg "_law_mix" sMix ["_law_cell_here", "_law_turn", "_law_many"] f1 fd1) (G1 : FnOk P w K mg base CX0 1 f1 fd1 ["_law_cell_here", "_law_turn", "_law_many"] spMix)
    (D2 : DefAt K mg "_law_names" sNames ["_law_cell_here", "_law_many"] f2 fd2) (G2 : FnOk P w K mg base CX0 2 f2 fd2 ["_law_cell_here", "_law_many"] spNames)
    (D3 : MethD K c.CT "__init__" "Town.__init__" sTInit ["self", "teller"] f3 fd3) (G3 : FnOk P w K mg base CX0 3 f3 fd3 ["self", "teller"] (spTInit c)) (M3 : Mk K c.CT f3) (g3 : mg "Town" = some (.ref c.CT))
    (D4 : MethN K c.CT "add" "Town.add" sTAdd ["self", "name", "elders", "at"] f4 fd4) (G4 : FnM P w K mg base (L2N.CX P w) 7 f4 fd4 ["self", "name", "elders", "at"] (spTAdd c CTg))
    (D7 : MethD K c.CT "known" "Town.known" sTKnown ["self", "kind", "word"] f7 fd7) (G7 : FnOk P w K mg base CX0 2 f7 fd7 ["self", "kind", "word"] (spTKnown c))
    (D8 : MethD K c.CT "shift" "Town.shift" sTShift ["self", "turns", "facts"] f8 fd8) (G8 : FnOk P w K mg base CX0 7 f8 fd8 ["self", "turns", "facts"] (spTShift c))
    (D5 : MethD K c.CT "reads" "Town.reads" sTReads ["self"] f5 fd5) (G5 : FnOk P w K mg base CX0 2 f5 fd5 ["self"] (spTReads c))
    (g0 : mg "_law_none" = some (.ref f0)) (hRa : mg "range" = none) (hLi : mg "list" = none) : FnOk P w K mg base CX0 8 f fd ["_law_cell_here"] spSixty := by
  have G1' := G1.mono (show 1 ≤ 7 by decide)
  have G2' := G2.mono (show 2 ≤ 7 by decide)
  have G3' := G3.mono (show 3 ≤ 6 by decide)
  have G7' := G7.mono (show 2 ≤ 7 by decide)
  have G5' := G5.mono (show 2 ≤ 7 by decide)
  refine D.F.ok scSixty (fun vs H Q E h => ?_) (fun cdv A outer s H vs Q E hr h => ?_)
  · obtain ⟨x, rfl, _⟩ := h
    rfl
  · obtain ⟨x, rfl, kk⟩ := h
    have hrH := L2H.roomH_of hr
    have hu64 := roomM_64 (L2H.roomH_of hr)
    refine ⟨_, PSs.nox (pss_cons (ps_set (i := 1) scSixty.nd rfl (Or.inr rfl) (pe_call G2' hr rfl D2.g D2.F.kp D2.b .nil pass0 (pa_cons (pv 0) (pa_cons pe_int pa_nil))))
      (pss_cons (ps_set (i := 2) scSixty.nd rfl (Or.inr rfl) (pe_call G2' hr rfl D2.g D2.F.kp D2.b .nil pass0 (pa_cons (pe_op op_fdiv (pv 0) pe_int) (pa_cons pe_int pa_nil))))
      (pss_cons (ps_set (i := 3) scSixty.nd rfl (Or.inr rfl) (pe_make M3 G3' hr rfl g3 D3.b .nil pass0 (pa_cons (pe_glob (v := .ref f0) rfl g0 rfl) pa_nil)))
      (pss_cons (ps_for PassesOwn.never rfl (pi_list (pv 1)) (pg_name (i := 4) scSixty.nd rfl (Or.inl rfl))
        (pss_one (ps_expr (pe_methB rfl (pv 3) TC.cl D4.m G4 hrH (.inl rfl) D4.b (show Vals [V.non] [Value.none] from .cons rfl .nil) (fun σ => L2N.passAt takes0N σ) (pa_cons (pv 4) (pa_cons (pe_lst pa_nil) pa_nil))))))
      (pss_cons (ps_setLc (i := 5) (own := [("_law_k", 7)]) (g := gName 7) (tt := tYes) (te := tTup (tCons (tOp (rIxL K) (tVar 1) (tOp (rI (fun _ j => 0 < j) fun i j => .int (i % j)) (tVar 7) (tC (.int 12)))) (tCons (tOp (rIxL K) (tVar 2) (tOp (rI CDiv fun i j => .int (i / j)) (tVar 7) (tC (.int 12)))) (tCons (tCall spMix [] E0 (tCons (tVar 0) (tCons (tVar 7) (tCons (tC (.int 3)) tNil)))) tNil)))) rfl scSixty.nd rfl rfl (sw_true rfl rfl rfl (by decide +kernel)) (pi_range1 rfl hRa (pa_cons pe_int pa_nil)) (blkOk_by (N := nSixty) (sc := defScope sSixty) (by decide +kernel)) (fun _ _ _ _ _ => pg_name (i := 7) scSixty.nd rfl (Or.inl rfl)) (fun _ _ _ _ _ => pts_nil)
        (fun _ _ _ _ _ => by exact (pe_tup (pa_cons (pe_ix ix_list (pv 1) (pe_op op_mod (pv 7) pe_int) (fun _ _ => rfl)) (pa_cons (pe_ix ix_list (pv 2) (pe_op op_fdiv (pv 7) pe_int) (fun _ _ => rfl)) (pa_cons (pe_call G1' hr rfl D1.g D1.F.kp D1.b .nil pass0 (pa_cons (pv 0) (pa_cons (pv 7) (pa_cons pe_int pa_nil)))) pa_nil))))))
      (pss_cons (ps_if (pt_cmpR (op_neD hu64) (pe_meth (pv 3) TC.cl D8.m G8 hr D8.b .nil pass0 (pa_cons (pe_lst pa_nil) (pa_cons (pe_callTy call_list_of rfl hLi PyProof.Rows.boot_list (pa_cons (pv 5) pa_nil)) pa_nil))) (pe_lst pa_nil) (nomark _)) (pss_one (ps_ret pe_bl)) pss_nil)
      (pss_cons (ps_if (pt_cmpR (op_neD hu64) (pe_lc (own := [("_law_one", 8)]) (g := gName 8) (tt := tTest (tOp rNe (tMeth c.CT "known" (spTKnown c) [] E0 (tVar 3) (tCons (tOp (rIxT K) (tVar 8) (tC (.int 0))) (tCons (tOp (rIxT K) (tVar 8) (tC (.int 1))) tNil))) (tOp (rIxT K) (tVar 8) (tC (.int 2))))) (te := tVar 8) rfl scSixty.nd (pi_list (pv 5)) (blkOk_by (N := nSixty) (sc := defScope sSixty) (by decide +kernel)) (fun _ _ _ _ _ => pg_name (i := 8) scSixty.nd rfl (Or.inl rfl))
          (fun _ _ _ _ _ => by exact (pts_one (pt_cmpR op_ne (pe_meth (pv 3) TC.cl D7.m G7' hr D7.b .nil pass0 (pa_cons (pe_ix ix_tup (pv 8) pe_int (fun _ _ => rfl)) (pa_cons (pe_ix ix_tup (pv 8) pe_int (fun _ _ => rfl)) pa_nil))) (pe_ix ix_tup (pv 8) pe_int (fun _ _ => rfl)) (nomark _)))) (fun _ _ _ _ _ => by exact (pv 8))) (pe_lst pa_nil) (nomark _)) (pss_one (ps_ret pe_bl)) pss_nil)
      (pss_cons (ps_setLc (i := 6) (own := [("_law_kind", 9), ("_law_word", 10), ("_law_one", 8)]) (g := gTup K 3 (gCons (gName 9) (gCons (gName 10) (gCons (gName 8) gNil)))) (tt := tYes) (te := tTup (tCons (tVar 9) (tCons (tVar 10) (tCons (tC .non) tNil)))) rfl scSixty.nd rfl rfl (sw_true rfl rfl rfl (by decide +kernel)) (pi_list (pv 5)) (blkOk_by (N := nSixty) (sc := defScope sSixty) (by decide +kernel)) (fun _ _ _ _ _ => pg_tup rfl (pgs_cons (pg_name (i := 9) scSixty.nd rfl (Or.inl rfl)) (pgs_cons (pg_name (i := 10) scSixty.nd rfl (Or.inl rfl)) (pgs_cons (pg_name (i := 8) scSixty.nd rfl (Or.inl rfl)) pgs_nil)))) (fun _ _ _ _ _ => pts_nil)
        (fun _ _ _ _ _ => by exact (pe_tup (pa_cons (pv 9) (pa_cons (pv 10) (pa_cons pe_non pa_nil))))))
      (pss_one (ps_ret (pe_and (pe_cmpR (op_eqD hu64) (pe_meth (pv 3) TC.cl D8.m G8 hr D8.b .nil pass0 (pa_cons (pe_lst pa_nil) (pa_cons (pv 6) pa_nil))) (pv 1) (nomark _))
        (pe_and (pe_cmpR op_isN (pe_meth (pv 3) TC.cl D7.m G7' hr D7.b .nil pass0 (pa_cons (pe_ix ix_list (pv 1) pe_int (fun _ _ => rfl)) (pa_cons (pe_ix ix_list (pv 2) pe_int (fun _ _ => rfl)) pa_nil))) pe_non (nomark _))
          (pe_one (pe_cmpR (op_eqD hu64) (pe_meth0 (pv 3) TC.cl D5.m G5' hr D5.b .nil pass0) (pe_lst pa_nil) (nomark _))))))))))))))), ?_⟩
    refine ⟨_, rfl, x, 12, rfl, by decide, by decide, fun H1 nl nm s1 nnl hnl nm12 nmnd nmok => ?_⟩
    refine ⟨_, rfl, _, _, rfl, rfl, ⟨by decide, by decide⟩, _, 5, rfl, by decide, by decide, fun H2 wl wm s2 nwl hwl wm5 wmnd wmok => ?_⟩
    have hnl2 := s2 _ _ hnl
    refine fun tp dx ntp ndx ndt => ?_
    have sM : Same H2 (upd (upd H2 dx (.own tp)) tp (.ins c.CT dx [])) := (Same.nw ndx).trans (Same.nw (by rw [upd_ne ndt.symm]; exact ntp))
    refine ⟨[], tp, dx, .ref f0, rfl, upd_same, by simp, (fun a ha => by cases ha), fun H3 T eT s3 fr3 hT3 => ⟨rfl, ?_⟩⟩
    subst eT
    have frT : ∀ a ∈ T.mu, H2 a = none := fun a ha => by
      rcases List.mem_cons.mp ha with z | z
      · rw [z]; exact ntp
      · exact sM.free (fr3 a z)
    have old : ∀ {a : Addr} {u : HO}, H2 a = some u → a ∉ T.mu := fun e z => by
      rw [frT _ z] at e
      cases e
    have s23 : SameX T.mu H2 H3 := (SameX.of sM).trans (s3.mono (by simp))
    have hnl3 : Lst H3 nl nm := s23 _ _ (old hnl2) hnl2
    have hwl3 : Lst H3 wl wm := s23 _ _ (old hwl) hwl
    have knot : ∀ j kj, nm[j]? = some kj → kj ∉ nm.take j := fun j kj hj z => by
      have h5 : (nm.take (j + 1)).Nodup := nmnd.sublist (List.take_sublist _ _)
      rw [take_snoc hj] at h5
      exact (List.nodup_append.mp h5).2.2 _ z _ (List.mem_singleton_self _) rfl
    refine ⟨_, rfl, nl, rfl, ⟨_, SqL.of hnl3⟩, for_list (K := K) (a := nl) (xs := vstr nm) (fun i σ H' => ∃ (v4 : Option V) (A Ld : Ent), σ = [some (.int x), some (.ref nl), some (.ref wl), some (.ref T.tp), v4, none, none, none, none, none, none] ∧ SameX T.mu H3 H' ∧ TownAt T.mu H' c T (.ref f0) A Ld (fun _ _ => none) [] 0 ∧ keysE (ent A) = nm.take i ∧ ent Ld = (nm.take i).map fun n => (n, [n]))
      ⟨_, [], [], rfl, SameX.refl _ _, hT3, rfl, rfl⟩ (fun i σ H' _ ⟨_, _, _, _, s4, _⟩ => SqL.of (s4 _ _ (old hnl2) hnl3)) ?_ ?_⟩
    · intro i y σ H' hi ⟨v4, A', Ld, eσ, s4, hT1, hk, hLd⟩
      subst eσ
      obtain ⟨ki, hki, rfl⟩ := map_get hi
      have hkm := List.mem_of_getElem? hki
      have hil := (List.getElem?_eq_some_iff.mp hki).1
      obtain ⟨dx5, num5, i5⟩ := hT1.ins
      have nk : ki ∉ keysE (ent A') := by rw [hk]; exact knot i ki hki
      have hA12 : A'.length < 12 := by rw [← keys_len, hk, List.length_take]; omega
      have hla := linesF_alone hT1.house.lines ki
      refine ⟨_, rfl, T.tp, dx5, _, rfl, i5, rfl, _, rfl, by show 0 ≤ sizeLine; exact Nat.zero_le _, fun le nle => ⟨T.mu, T, _, le, ki, A', Ld, [], _, [], 0, rfl, hT1.same (Same.nw nle), (hT1.same (Same.nw nle)).plain, upd_same, Nat.zero_le _, List.nodup_nil, (fun e he => by cases he), nmok ki hkm, nk, hA12, fun Lr hLr H6 ea Ld' l s7 hT6 => ?_, fun hn2 => ?_⟩⟩
      · refine ⟨_, _, Ld', rfl, (s4.nw nle).trans (s7.mono (by simp)), hT6, by rw [ent_snoc, keysE_append, hk, take_snoc hki]; rfl, ?_⟩
        have z := hT6.house.lines
        rw [ent_snoc, hla] at z
        rw [← Option.some.inj z, hLd, take_snoc hki, List.map_append]
        rfl
      · rw [hla] at hn2
        cases hn2
    · intro σ H4 ⟨v4, A', Ld, eσ, s4, hT4, hk, hLd⟩
      subst eσ
      have l12 : (vstr nm).length = nm.length := List.length_map ..
      rw [l12, List.take_length] at hk hLd
      have hnl4 : Lst H4 nl nm := s4 _ _ (old hnl2) hnl3
      have hwl4 : Lst H4 wl wm := s4 _ _ (old hwl) hwl3
      refine ⟨60, rfl, by decide, by decide, fun D hD => lc_range (lo := 0) (n := (60 : Int).toNat) (fun i H' => ∃ fs : List FT, H' D = some (.lst (fs.map fun r : FT => V.ref r.1)) ∧ Same H4 H' ∧ (∀ r ∈ fs, H' r.1 = some (.tup [.str r.2.1, .str r.2.2.1, oV r.2.2.2]) ∧ H4 r.1 = none) ∧ (fs.map fun r : FT => (r.2.1, r.2.2.1)) = (List.range i).map (pA nm wm) ∧ (∀ r ∈ fs, ∃ v, r.2.2.2 = some v ∧ 0 ≤ v ∧ v ≤ 2))
        ⟨[], upd_same, Same.nw hD, (fun r hr => by cases hr), rfl, (fun r hr => by cases hr)⟩ ?_ ?_⟩
      · intro i H' hi ⟨fs, e1, s5, e2, e3, e4⟩
        have hi2 : i < 60 := hi
        have hflen : fs.length = i := by have := congrArg List.length e3; rw [List.length_map, List.length_map, List.length_range] at this; exact this
        have g1 : nm[i % 12]? = some (pA nm wm i).1 := by
          show _ = some (nm.getD (i % 12) _)
          rw [List.getD_eq_getElem?_getD, List.getElem?_eq_getElem (by omega)]
          rfl
        have g2 : wm[i / 12]? = some (pA nm wm i).2 := by
          show _ = some (wm.getD (i / 12) _)
          rw [List.getD_eq_getElem?_getD, List.getElem?_eq_getElem (by omega)]
          rfl
        refine ⟨rfl, _, rfl, _, rfl, _, _, rfl, rfl, (by show (0 : Int) < 12; decide), nl, _, (0 + (i : Int)) % 12, .str (pA nm wm i).1, rfl, rfl, SqL.of (s5 _ _ hnl4), by rw [show (0 + (i : Int)) % 12 = ((i % 12 : Nat) : Int) by omega]; exact atI_nat (by rw [List.getElem?_map, g1]; rfl), _, rfl, _, rfl, _, _, rfl, rfl, ⟨by decide, by decide⟩, wl, _, (0 + (i : Int)) / 12, .str (pA nm wm i).2, rfl, rfl, SqL.of (s5 _ _ hwl4), by rw [show (0 + (i : Int)) / 12 = ((i / 12 : Nat) : Int) by omega]; exact atI_nat (by rw [List.getElem?_map, g2]; rfl), _, rfl, _, rfl, x, 0 + (i : Int), 3, rfl, by omega, by omega, by omega, fun r H6 r0 r1 s6 => ⟨by show 3 ≤ sizeLine; exact size_small (by decide), fun t nt => ?_⟩⟩
        have e1' := s6 _ _ e1
        have nDt : D ≠ t := ne_of_none e1' nt
        refine ⟨_, by rw [upd_ne nDt]; exact e1', size_lt (by rw [List.length_map]; omega), fs ++ [(t, (pA nm wm i).1, (pA nm wm i).2, some r)], by rw [upd_same]; simp, ((s5.trans s6).nw2 nt).old2 hD, fun z hz => ?_, ?_, fun z hz => ?_⟩
        · rcases List.mem_append.mp hz with y | y
          · obtain ⟨c1, c2⟩ := e2 z y
            have c1' := s6 _ _ c1
            exact ⟨by rw [upd_ne (ne_of c1' e1' (by intro z; cases z)), upd_ne (ne_of_none c1' nt)]; exact c1', c2⟩
          · have y : z = (t, (pA nm wm i).1, (pA nm wm i).2, some r) := by simpa using y
            rw [y]
            refine ⟨?_, (s5.trans s6).free nt⟩
            rw [upd_ne nDt.symm, upd_same]
            rfl
        · rw [List.map_append, e3, List.range_succ, List.map_append]
          rfl
        · rcases List.mem_append.mp hz with y | y
          · exact e4 z y
          · have y : z = (t, (pA nm wm i).1, (pA nm wm i).2, some r) := by simpa using y
            rw [y]
            exact ⟨r, rfl, by omega⟩
      · intro H5 ⟨fs, e1, s5, e2, e3, e4⟩
        have e3 : (fs.map fun r : FT => (r.2.1, r.2.2.1)) = (List.range 60).map (pA nm wm) := e3
        have hflen : fs.length = 60 := by have := congrArg List.length e3; rw [List.length_map, List.length_map, List.length_range] at this; exact this
        have fnd : (fs.map fun r : FT => (r.2.1, r.2.2.1)).Nodup := by rw [e3]; exact pA_nodup nmnd wmnd nm12 wm5
        have fin : ∀ r ∈ fs, r.2.1 ∈ nm ∧ r.2.2.1 ∈ wm := fun r hr => by
          have h1 : (r.2.1, r.2.2.1) ∈ (List.range 60).map (pA nm wm) := by rw [← e3]; exact List.mem_map.mpr ⟨r, hr, rfl⟩
          obtain ⟨k, hk, ek⟩ := List.mem_map.mp h1
          have hk := List.mem_range.mp hk
          have a1 : r.2.1 = nm.getD (k % 12) (Str.ofString "") := (congrArg Prod.fst ek).symm
          have a2 : r.2.2.1 = wm.getD (k / 12) (Str.ofString "") := (congrArg Prod.snd ek).symm
          rw [a1, a2, List.getD_eq_getElem?_getD, List.getElem?_eq_getElem (by omega), List.getD_eq_getElem?_getD, List.getElem?_eq_getElem (by omega)]
          exact ⟨List.getElem_mem _, List.getElem_mem _⟩
        have hT5 := hT4.same s5
        have nD5 : D ∉ T.mu := fun z => by
          obtain ⟨u, e, _⟩ := hT4.plain D z
          rw [hD] at e
          cases e
        have nr5 : ∀ r ∈ fs, r.1 ∉ T.mu := fun r hr z => by
          obtain ⟨u, e, _⟩ := hT4.plain r.1 z
          rw [(e2 r hr).2] at e
          cases e
        obtain ⟨dx5, num5, i5⟩ := hT5.ins
        -- the first shift
        refine ⟨_, rfl, T.tp, dx5, _, rfl, i5, rfl, by show 0 ≤ sizeLine; exact Nat.zero_le _, fun tl ntl => ?_⟩
        have e1a := (Same.nw ntl : Same H5 (upd H5 tl (.lst []))) _ _ e1
        refine ⟨_, rfl, D, _, rfl, .inl (SqL.of e1a), fun f2l nf2 => ?_⟩
        have sA : Same H5 (upd (upd H5 tl (.lst [])) f2l (.lst (fs.map fun r : FT => V.ref r.1))) := (Same.nw ntl).trans (Same.nw nf2)
        have tlf2 : tl ≠ f2l := fun z => by
          rw [← z, upd_same] at nf2
          cases nf2
        have hTA := hT5.same sA
        have ntT : tl ∉ T.mu := fun z => by
          obtain ⟨u, e, _⟩ := hT5.plain tl z
          rw [ntl] at e
          cases e
        have nfT : f2l ∉ T.mu := fun z => by
          obtain ⟨u, e, _⟩ := (hT5.same (Same.nw ntl)).plain f2l z
          rw [nf2] at e
          cases e
        have fv : ∀ r ∈ fs, ∀ x, r.2.2.2 = some x → 0 ≤ x ∧ x ≤ 2 := fun r hr x hx => by
          obtain ⟨v, hv, h0⟩ := e4 r hr
          rw [hv] at hx
          cases hx
          exact h0
        refine ⟨T.mu, T, _, A', Ld, _, [], 0, tl, f2l, fs, rfl, hTA, hTA.plain, (by show upd _ f2l _ tl = _; rw [upd_ne tlf2, upd_same]; rfl), ntT, ⟨upd_same, nfT, fun r hr => ⟨sA _ _ (e2 r hr).1, nr5 r hr⟩⟩, ⟨fun r hr => by rw [hk]; exact (fin r hr).1, fun r hr => wmok _ (fin r hr).2, fv, fnd, by omega⟩, by omega, fun H6 Ld6 rl6 s6 hT6 eL6 nrl6 hrl6 => ?_⟩
        rw [tells_still fnd (fun r hr => rfl)] at hrl6
        have et : touchedF [] Ld (keysE (ent A')) = [] := by
          unfold touchedF
          exact List.filter_eq_nil_iff.mpr fun a _ => by simp
        rw [et] at hrl6
        refine ⟨by show 0 ≤ sizeLine; exact Nat.zero_le _, fun z6 nz6 => ?_⟩
        have s67 : Same H6 (upd H6 z6 (.lst [])) := Same.nw nz6
        have shN : SeqAt.shaped (dStrs []) = true := shaped_strs (fun x hx => by cases hx)
        refine ⟨_, _, dp_strs (l := []) (SqL.of (s67 _ _ hrl6)), dp_strs (l := []) (SqL.of upd_same), shN, shN, _, rfl, ?_⟩
        rw [eqv_same shN]
        refine iteF ?_
        have hT7 := hT6.same s67
        have s57 : SameX T.mu H5 (upd H6 z6 (.lst [])) := ((SameX.of sA).trans s6).step s67
        have hD7 := s57 _ _ nD5 e1
        have hr7 : ∀ r ∈ fs, (upd H6 z6 (.lst [])) r.1 = some (.tup [.str r.2.1, .str r.2.2.1, oV r.2.2.2]) := fun r hr => s57 _ _ (nr5 r hr) (e2 r hr).1
        have hnl7 := s57 _ _ (old hnl2) (s5 _ _ hnl4)
        have hwl7 := s57 _ _ (old hwl) (s5 _ _ hwl4)
        revert hT7 hD7 hr7 hnl7 hwl7
        generalize upd H6 z6 (.lst []) = H7
        intro hT7 hD7 hr7 hnl7 hwl7
        obtain ⟨dx7, num7, i7⟩ := hT7.ins
        -- all known
        refine ⟨_, rfl, D, rfl, ⟨_, SqL.of hD7⟩, fun D8 hD8 => lc_list (K := K) (a := D) (xs := fs.map fun r : FT => V.ref r.1) (fun i H' => Lst H' D8 [] ∧ Same H7 H') ⟨upd_same, Same.nw hD8⟩ (fun i H' _ ⟨_, s8⟩ => s8.seq (SqL.of hD7)) ?_ ?_⟩
        · intro i y H' hi ⟨b1, s8⟩
          obtain ⟨r, hrr, rfl⟩ := map_get hi
          have hrm := List.mem_of_getElem? hrr
          have ut := s8 _ _ (hr7 r hrm)
          refine ⟨rfl, _, rfl, T.tp, dx7, _, rfl, s8 _ _ i7, rfl, _, rfl, r.1, _, 0, .str r.2.1, rfl, rfl, SqT.of ut, atI_nat rfl, _, rfl, r.1, _, 1, .str r.2.2.1, rfl, rfl, SqT.of ut, atI_nat rfl, T.mu, T, _, A', Ld6, _, [], _, r.2.1, r.2.2.1, rfl, hT7.same s8, by rw [hk]; exact (fin r hrm).1, wmok _ (fin r hrm).2, fun H9 s9 => ?_⟩
          rw [tells_get fnd hrm]
          refine ⟨_, rfl, r.1, _, 2, oV r.2.2.2, rfl, rfl, SqT.of (s9 _ _ ut), atI_nat rfl, scal_oV _ _, _, rfl, ?_⟩
          rw [decide_eq_true rfl]
          exact iteF ⟨s9 _ _ b1, s8.trans s9⟩
        · intro H8 ⟨b1, s8⟩
          refine ⟨by show 0 ≤ sizeLine; exact Nat.zero_le _, fun z8 nz8 => ?_⟩
          have s89 : Same H8 (upd H8 z8 (.lst [])) := Same.nw nz8
          refine ⟨_, _, dp_strs (l := []) (SqL.of (s89 _ _ b1)), dp_strs (l := []) (SqL.of upd_same), shN, shN, _, rfl, ?_⟩
          rw [eqv_same shN]
          refine iteF ?_
          have s79 := s8.trans s89
          have hT9 := hT7.same s79
          have hD9 := s79 _ _ hD7
          have hr9 : ∀ r ∈ fs, (upd H8 z8 (.lst [])) r.1 = some (.tup [.str r.2.1, .str r.2.2.1, oV r.2.2.2]) := fun r hr => s79 _ _ (hr7 r hr)
          have hnl9 := s79 _ _ hnl7
          have hwl9 := s79 _ _ hwl7
          revert hT9 hD9 hr9 hnl9 hwl9
          clear s79 s89
          generalize upd H8 z8 (.lst []) = H9
          intro hT9 hD9 hr9 hnl9 hwl9
          -- the doubts
          refine ⟨_, rfl, D, rfl, ⟨_, SqL.of hD9⟩, fun D10 hD10 => lc_list (K := K) (a := D) (xs := fs.map fun r : FT => V.ref r.1) (fun i H' => ∃ gs : List FT, H' D10 = some (.lst (gs.map fun r : FT => V.ref r.1)) ∧ Same H9 H' ∧ (∀ r ∈ gs, H' r.1 = some (.tup [.str r.2.1, .str r.2.2.1, oV r.2.2.2]) ∧ H9 r.1 = none) ∧ (gs.map fun r : FT => (r.2.1, r.2.2.1)) = (fs.take i).map (fun r : FT => (r.2.1, r.2.2.1)) ∧ (∀ r ∈ gs, r.2.2.2 = none)) ⟨[], upd_same, Same.nw hD10, (fun r hr => by cases hr), rfl, (fun r hr => by cases hr)⟩ (fun i H' _ ⟨_, _, s10, _⟩ => s10.seq (SqL.of hD9)) ?_ ?_⟩
          · intro i y H' hi ⟨gs, q1, s10, q2, q3, q4⟩
            obtain ⟨r, hrr, rfl⟩ := map_get hi
            have hrm := List.mem_of_getElem? hrr
            have hil := (List.getElem?_eq_some_iff.mp hrr).1
            have hgl : gs.length ≤ i := by have := congrArg List.length q3; rw [List.length_map, List.length_map, List.length_take] at this; omega
            have ut := s10 _ _ (hr9 r hrm)
            refine ⟨r.1, _, rfl, SqT.of ut, rfl, _, _, rfl, _, _, rfl, _, _, rfl, rfl, rfl, _, rfl, _, rfl, by show 3 ≤ sizeLine; exact size_small (by decide), fun t nt => ?_⟩
            have nDt : D10 ≠ t := ne_of_none q1 nt
            refine ⟨_, by rw [upd_ne nDt]; exact q1, size_lt (by rw [List.length_map]; omega), gs ++ [(t, r.2.1, r.2.2.1, none)], by rw [upd_same]; simp, (s10.nw2 nt).old2 hD10, fun z hz => ?_, ?_, fun z hz => ?_⟩
            · rcases List.mem_append.mp hz with y | y
              · obtain ⟨c1, c2⟩ := q2 z y
                exact ⟨by rw [upd_ne (ne_of c1 q1 (by intro z; cases z)), upd_ne (ne_of_none c1 nt)]; exact c1, c2⟩
              · have y : z = (t, r.2.1, r.2.2.1, none) := by simpa using y
                rw [y]
                refine ⟨?_, s10.free nt⟩
                rw [upd_ne nDt.symm, upd_same]
                rfl
            · rw [List.map_append, q3, take_snoc hrr, List.map_append]
              rfl
            · rcases List.mem_append.mp hz with y | y
              · exact q4 z y
              · have y : z = (t, r.2.1, r.2.2.1, none) := by simpa using y
                rw [y]
          · intro H10 ⟨gs, q1, s10, q2, q3, q4⟩
            rw [List.length_map, List.take_length] at q3
            have gnd : (gs.map fun r : FT => (r.2.1, r.2.2.1)).Nodup := by rw [q3]; exact fnd
            have glen : gs.length = 60 := by have := congrArg List.length q3; rw [List.length_map, List.length_map] at this; omega
            have gin : ∀ r ∈ gs, r.2.1 ∈ nm ∧ r.2.2.1 ∈ wm ∧ ((tells ((fun _ _ => none : Kn), []) fs).1 r.2.1 r.2.2.1).isSome = true := fun r hr => by
              have h1 : (r.2.1, r.2.2.1) ∈ fs.map (fun r : FT => (r.2.1, r.2.2.1)) := by rw [← q3]; exact List.mem_map.mpr ⟨r, hr, rfl⟩
              obtain ⟨u, hu, eu⟩ := List.mem_map.mp h1
              have a1 : u.2.1 = r.2.1 := congrArg (fun p : Str × Str => p.1) eu
              have a2 : u.2.2.1 = r.2.2.1 := congrArg (fun p : Str × Str => p.2) eu
              rw [← a1, ← a2, tells_get fnd hu]
              obtain ⟨v, hv, _⟩ := e4 u hu
              exact ⟨(fin u hu).1, (fin u hu).2, by rw [hv]; rfl⟩
            have hT10 := hT9.same s10
            obtain ⟨dx10, num10, i10⟩ := hT10.ins
            have nDT : D10 ∉ T.mu := fun z => by
              obtain ⟨u, e, _⟩ := hT9.plain D10 z
              rw [hD10] at e
              cases e
            have nrT : ∀ r ∈ gs, r.1 ∉ T.mu := fun r hr z => by
              obtain ⟨u, e, _⟩ := hT9.plain r.1 z
              rw [(q2 r hr).2] at e
              cases e
            refine ⟨_, rfl, T.tp, dx10, _, rfl, i10, rfl, by show 0 ≤ sizeLine; exact Nat.zero_le _, fun tl nt => ⟨_, rfl, ?_⟩⟩
            have hT11 := hT10.same (Same.nw nt (o := .lst []))
            have ntT : tl ∉ T.mu := fun z => by
              obtain ⟨u, e, _⟩ := hT10.plain tl z
              rw [nt] at e
              cases e
            have s1011 : Same H10 (upd H10 tl (.lst [])) := Same.nw nt
            refine ⟨T.mu, T, _, A', Ld6, _, [], _, tl, D10, gs, rfl, hT11, hT11.plain, upd_same, ntT, ⟨s1011 _ _ q1, nDT, fun r hr => ⟨s1011 _ _ (q2 r hr).1, nrT r hr⟩⟩, ⟨fun r hr => by rw [hk]; exact (gin r hr).1, fun r hr => wmok _ (gin r hr).2.1, fun r hr x hx => (by rw [q4 r hr] at hx; cases hx), gnd, by omega⟩, by omega, fun H12 Ld12 rl s12 hT12 eL12 nrl hrl => ?_⟩
            have eT : touchedF (tells ((tells ((fun _ _ => none : Kn), []) fs).1, []) gs).2 Ld6 (keysE (ent A')) = nm := by
              unfold touchedF
              rw [hk]
              refine List.filter_eq_self.mpr fun a ha => ?_
              rw [eL6, hLd, look_self ha]
              show (decide (a ∈ _) || false) = true
              rw [Bool.or_false]
              refine decide_eq_true ?_
              obtain ⟨j, hj, ej⟩ := List.getElem_of_mem ha
              have h1 : (a, wm.getD 0 (Str.ofString "")) ∈ gs.map (fun r : FT => (r.2.1, r.2.2.1)) := by
                rw [q3, e3]
                refine List.mem_map.mpr ⟨j, List.mem_range.mpr (by omega), ?_⟩
                show (nm.getD (j % 12) _, wm.getD (j / 12) _) = _
                rw [show j % 12 = j by omega, show j / 12 = 0 by omega, List.getD_eq_getElem?_getD, List.getElem?_eq_getElem hj, ej]
                rfl
              obtain ⟨u, hu, eu⟩ := List.mem_map.mp h1
              have a1 : u.2.1 = a := congrArg (fun p : Str × Str => p.1) eu
              rw [← a1]
              exact tells_all gnd hu (gin u hu).2.2 (q4 u hu)
            rw [eT] at hrl
            have s9c : SameX T.mu H9 H12 := ((SameX.of (s10.trans s1011)).trans s12)
            have hnl12 : Lst H12 nl nm := s9c _ _ (old hnl2) hnl9
            have hwl12 : Lst H12 wl wm := s9c _ _ (old hwl) hwl9
            have shN2 : SeqAt.shaped (dStrs nm) = true := shaped_strs (fun x hx => (nmok x hx).asc)
            refine ⟨_, rfl, _, _, dp_strs (SqL.of hrl), dp_strs (SqL.of hnl12), shN2, shN2, _, rfl, ?_⟩
            rw [eqv_same shN2]
            refine iteT ?_
            obtain ⟨dx12, num12, i12⟩ := hT12.ins
            have g1 : nm[0]? = some (pA nm wm 0).1 := by
              show _ = some (nm.getD (0 % 12) _)
              rw [List.getD_eq_getElem?_getD, List.getElem?_eq_getElem (by omega)]
              rfl
            have g2 : wm[0]? = some (pA nm wm 0).2 := by
              show _ = some (wm.getD (0 / 12) _)
              rw [List.getD_eq_getElem?_getD, List.getElem?_eq_getElem (by omega)]
              rfl
            refine ⟨_, rfl, T.tp, dx12, _, rfl, i12, rfl, _, rfl, nl, _, 0, .str (pA nm wm 0).1, rfl, rfl, SqL.of hnl12, atI_nat (by rw [List.getElem?_map, g1]; rfl), _, rfl, wl, _, 0, .str (pA nm wm 0).2, rfl, rfl, SqL.of hwl12, atI_nat (by rw [List.getElem?_map, g2]; rfl), T.mu, T, _, A', Ld12, _, [], _, (pA nm wm 0).1, (pA nm wm 0).2, rfl, hT12, by rw [hk]; exact List.mem_of_getElem? g1, wmok _ (List.mem_of_getElem? g2), fun H13 s13 => ?_⟩
            have h1 : pA nm wm 0 ∈ gs.map (fun r : FT => (r.2.1, r.2.2.1)) := by
              rw [q3, e3]
              exact List.mem_map.mpr ⟨0, List.mem_range.mpr (by omega), rfl⟩
            obtain ⟨u, hu, eu⟩ := List.mem_map.mp h1
            have a1 : u.2.1 = (pA nm wm 0).1 := congrArg (fun p : Str × Str => p.1) eu
            have a2 : u.2.2.1 = (pA nm wm 0).2 := congrArg (fun p : Str × Str => p.2) eu
            have ek : (tells ((tells ((fun _ _ => none : Kn), []) fs).1, []) gs).1 (pA nm wm 0).1 (pA nm wm 0).2 = none := by
              rw [← a1, ← a2, tells_get gnd hu, q4 u hu]
            rw [ek]
            refine ⟨rfl, _, rfl, iteT ?_⟩
            refine ⟨_, rfl, T.tp, dx12, _, rfl, s13 _ _ i12, rfl, T.mu, T, _, A', Ld12, _, [], _, rfl, hT12.same s13, fun H14 l14 s14 nl14 hP14 => ⟨by show 0 ≤ sizeLine; exact Nat.zero_le _, fun z14 nz14 => ?_⟩⟩
            obtain ⟨rs, rs1, rs2, rs3⟩ := hP14.ex
            have rs0 : rs = [] := List.map_eq_nil_iff.mp rs3
            rw [rs0] at rs1
            refine ⟨_, _, dp_strs (l := []) (SqL.of ((Same.nw nz14) _ _ rs1)), dp_strs (l := []) (SqL.of upd_same), shN, shN, ?_⟩
            rw [eqv_same shN]
            exact kk _
end
end TM
set_option maxRecDepth 100000
set_option maxHeartbeats 4000000
/-! The law. -/
namespace TM
open PySem PySem.Spec PyProof.Rows L2 LamX NdefX
abbrev nLaw : List Str := ["_law_script", "_law_names_here", "_law_words_here", "_law_store_here", "_law_log", "_law_teller_here", "_law_town", "_law_other", "_law_known", "_law_k", "_law_word"]
def spLaw (K : PySem.W.Frag) (TT : List NTab) : Sp := fun vs H Q _ => ∃ (a : Addr) (ns : List Int), vs = [.ref a] ∧ SqL K H a (ns.map V.int) ∧ TabsN TT H ∧ ∀ H', Q (.bl true) H'
section
variable {q : Str} {TT : List NTab} {MU S N : List Addr} {H H' : Hp} {c : Cs} {T T2 : TAd} {ft lg sd kd : Addr} {D : Str → Str → Prop} {st : Str → Str → Int} {A Ld A' Ld' : Ent} {g g' : Kn} {ps lps ps' : List (Str × Str)} {n m : Nat}
theorem WAt.grow' (h : WAt q TT MU H c T ft lg sd D st A Ld g ps lps n) (hN : ∀ a ∈ N, H a = none) (s : Same H H') (pl : ∀ a ∈ N, ∃ u, H' a = some u ∧ Plain u) : WAt q TT (MU ++ N) H' c T ft lg sd D st A Ld g ps lps n :=
  ⟨(h.town.grow hN).same s, fun a ha => (List.mem_append.mp ha).elim (h.mu.same s a) (pl a), h.tel.keep (S := []) (.of s) (by simp), (h.log.grow hN).keep (S := []) (.of s) (by simp) (by simp), h.store.keep (S := []) (.of s) (by simp), TM.TabsN.keepX (S := []) h.tabs (.of s) (by simp), List.mem_append_left _ h.lm, List.mem_append_left _ h.sm, h.ln, h.sn, h.lls⟩
theorem WAt.town' (h : WAt q TT MU H c T ft lg sd D st A Ld g ps lps n) (s : SameX T.mu H H') (hT : TownAt MU H' c T (.ref ft) A' Ld' g' ps' m) (hm : lps.length ≤ m) : WAt q TT MU H' c T ft lg sd D st A' Ld' g' ps' lps m :=
  ⟨hT, h.mu.keep s hT.plain, h.tel.keep s h.town.plain, h.log.keep s h.town.sub h.ln, h.store.keep s h.sn, TM.TabsN.keepX h.tabs s h.town.plain, h.lm, h.sm, h.ln, h.sn, hm⟩
theorem WAt.other (h : WAt q TT MU H c T ft lg sd D st A Ld g ps lps n) (hT : TownAt MU H c T2 (.ref ft) A' Ld' g' ps' m) (l2 : lg ∉ T2.mu) (s2 : sd ∉ T2.mu) (hm : lps.length ≤ m) : WAt q TT MU H c T2 ft lg sd D st A' Ld' g' ps' lps m := ⟨hT, h.mu, h.tel, h.log, h.store, h.tabs, h.lm, h.sm, l2, s2, hm⟩
/-- fresh but for tables -/
def Fr (H : Hp) (S : List Addr) : Prop := ∀ b ∈ S, ∀ u, H b = some u → ∃ ps, u = .tbl ps
theorem Fr.app (h : Fr H S) (h' : Fr H N) : Fr H (S ++ N) := fun b hb => (List.mem_append.mp hb).elim (h b) (h' b)
theorem freeE (s : ExtS S H H') (h : ∀ b ∈ N, b ∉ S ∧ H' b = none) : Fr H N := fun b hb u e => by
  obtain ⟨nb, h0⟩ := h b hb
  by_cases z : ∃ ps, u = .tbl ps
  · exact z
  · have := s b u nb (fun ps y => z ⟨ps, y⟩) e
    rw [h0] at this
    cases this
theorem seqE {K : PySem.W.Frag} {a : Addr} {xs : List V} (s : ExtS S H H') (fr : Fr H S) (h : SqL K H a xs) : SqL K H' a xs := by
  rcases h with (h | ⟨o, h⟩) | h
  · exact .inl (.inl (s _ _ (fun z => by obtain ⟨ps, y⟩ := fr _ z _ h; cases y) (fun ps z => by cases z) h))
  · exact .inl (.inr ⟨o, s _ _ (fun z => by obtain ⟨ps, y⟩ := fr _ z _ h; cases y) (fun ps z => by cases z) h⟩)
  · exact .inr h
end
section
variable {P : Program} {w : World} {K : PySem.W.Frag} {mg : Str → Option Value} {base : Heap} {c : Cs} {CTg f0 : Addr} {TT : List NTab} {f f1 f2 f3 f4 f5 f6 f7 f8 f9 fA fB fC fD fE fF : Addr} {fd fd1 fd2 fd3 fd4 fd5 fd6 fd7 fd8 fd9 fdA fdB fdC fdD fdE fdF : FuncData}
theorem scLaw : FnScope nLaw ["_law_script"] (defScope sLaw) := ⟨rfl, rfl, rfl, by decide +kernel, rfl, by decide +kernel, by decide +kernel⟩
theorem ok_law (TC : TCls K c.CT) (D : DefAt K mg "law" sLaw ["_law_script"] f fd)
    (D1 : DefAt K mg "_law_mix" sMix ["_law_cell_here", "_law_turn", "_law_many"] f1 fd1) (G1 : FnOk P w K mg base CX0 1 f1 fd1 ["_law_cell_here", "_law_turn", "_law_many"] spMix)
    (D2 : DefAt K mg "_law_names" sNames ["_law_cell_here", "_law_many"] f2 fd2) (G2 : FnOk P w K mg base CX0 2 f2 fd2 ["_law_cell_here", "_law_many"] spNames)
    (D3 : MethD K c.CT "__init__" "Town.__init__" sTInit ["self", "teller"] f3 fd3) (G3 : FnOk P w K mg base CX0 3 f3 fd3 ["self", "teller"] (spTInit c)) (M3 : Mk K c.CT f3) (g3 : mg "Town" = some (.ref c.CT))
    (D4 : MethN K c.CT "add" "Town.add" sTAdd ["self", "name", "elders", "at"] f4 fd4) (G4 : FnM P w K mg base (L2N.CX P w) 7 f4 fd4 ["self", "name", "elders", "at"] (spTAdd c CTg))
    (D5 : MethD K c.CT "reads" "Town.reads" sTReads ["self"] f5 fd5) (G5 : FnOk P w K mg base CX0 2 f5 fd5 ["self"] (spTReads c))
    (D6 : MethN K c.CT "look" "Town.look" sTLook ["self", "kind", "word", "start"] f6 fd6) (G6 : FnOk P w K mg base CX0 5 f6 fd6 ["self", "kind", "word", "start"] (spTLook qAsk TT c))
    (D7 : MethD K c.CT "known" "Town.known" sTKnown ["self", "kind", "word"] f7 fd7) (G7 : FnOk P w K mg base CX0 2 f7 fd7 ["self", "kind", "word"] (spTKnown c))
    (D8 : MethD K c.CT "shift" "Town.shift" sTShift ["self", "turns", "facts"] f8 fd8) (G8 : FnOk P w K mg base CX0 7 f8 fd8 ["self", "turns", "facts"] (spTShift c))
    (D9 : DefAt K mg "_law_cell" sCell ["_law_script", "_law_k"] f9 fd9) (G9 : FnOk P w K mg base CX0 1 f9 fd9 ["_law_script", "_law_k"] (spCell K))
    (DA : DefAt K mg "_law_words" sWords ["_law_cell_here", "_law_names_here"] fA fdA) (GA : FnOk P w K mg base CX0 3 fA fdA ["_law_cell_here", "_law_names_here"] spWords)
    (DB : DefAt K mg "_law_store" sStore ["_law_cell_here", "_law_names_here", "_law_words_here"] fB fdB) (GB : FnOk P w K mg base CX0 2 fB fdB ["_law_cell_here", "_law_names_here", "_law_words_here"] spStore)
    (DC : DefAt K mg "_law_teller" sTeller ["_law_store_here", "_law_log"] fC fdC) (GC : FnOk P w K mg base CX0 1 fC fdC ["_law_store_here", "_law_log"] (spTeller TT))
    (DD : DefAt K mg "_law_begun" sBegun ["_law_town", "_law_cell_here", "_law_names_here"] fD fdD) (GD : FnOk P w K mg base CX0 8 fD fdD ["_law_town", "_law_cell_here", "_law_names_here"] (spBegun c))
    (DE : DefAt K mg "_law_round" sRound pRound fE fdE) (GE : FnOk P w K mg base CX0 8 fE fdE pRound (spRound qAsk TT c))
    (DF : DefAt K mg "_law_sixty" sSixty ["_law_cell_here"] fF fdF) (GF : FnOk P w K mg base CX0 8 fF fdF ["_law_cell_here"] spSixty)
    (hRa : mg "range" = none) : FnOk P w K mg base CX0 9 f fd ["_law_script"] (spLaw K TT) := by
  have G1' := G1.mono (show 1 ≤ 8 by decide)
  have G2' := G2.mono (show 2 ≤ 8 by decide)
  have G3' := G3.mono (show 3 ≤ 7 by decide)
  have G4' := G4.mono (show 7 ≤ 8 by decide)
  have G5' := G5.mono (show 2 ≤ 8 by decide)
  have G6' := G6.mono (show 5 ≤ 8 by decide)
  have G7' := G7.mono (show 2 ≤ 8 by decide)
  have G8' := G8.mono (show 7 ≤ 8 by decide)
  have G9' := G9.mono (show 1 ≤ 8 by decide)
  have GA' := GA.mono (show 3 ≤ 8 by decide)
  have GB' := GB.mono (show 2 ≤ 8 by decide)
  have GC' := GC.mono (show 1 ≤ 8 by decide)
  refine D.F.ok scLaw (fun vs H Q E h => ?_) (fun cdv A outer s H vs Q E hr h => ?_)
  · obtain ⟨a, ns, rfl, _⟩ := h
    rfl
  · obtain ⟨a, ns, rfl, hsc, hTT, kk⟩ := h
    have hrH := L2H.roomH_of hr
    have hu64 := roomM_64 (L2H.roomH_of hr)
    refine ⟨_, PSs.nox (pss_cons (ps_set (i := 1) scLaw.nd rfl (Or.inr rfl) (pe_call G2' hr rfl D2.g D2.F.kp D2.b .nil pass0 (pa_cons (pe_call G9' hr rfl D9.g D9.F.kp D9.b .nil pass0 (pa_cons (pv 0) (pa_cons pe_int pa_nil))) (pa_cons (pe_op op_add pe_int (pe_call G1' hr rfl D1.g D1.F.kp D1.b .nil pass0 (pa_cons (pe_call G9' hr rfl D9.g D9.F.kp D9.b .nil pass0 (pa_cons (pv 0) (pa_cons pe_int pa_nil))) (pa_cons pe_int (pa_cons pe_int pa_nil))))) pa_nil))))
      (pss_cons (ps_set (i := 2) scLaw.nd rfl (Or.inl rfl) (pe_call GA' hr rfl DA.g DA.F.kp DA.b .nil pass0 (pa_cons (pe_call G9' hr rfl D9.g D9.F.kp D9.b .nil pass0 (pa_cons (pv 0) (pa_cons pe_int pa_nil))) (pa_cons (pv 1) pa_nil))))
      (pss_cons (ps_set (i := 3) scLaw.nd rfl (Or.inl rfl) (pe_call GB' hr rfl DB.g DB.F.kp DB.b .nil pass0 (pa_cons (pe_call G9' hr rfl D9.g D9.F.kp D9.b .nil pass0 (pa_cons (pv 0) (pa_cons pe_int pa_nil))) (pa_cons (pv 1) (pa_cons (pv 2) pa_nil)))))
      (pss_cons (ps_set (i := 4) scLaw.nd rfl (Or.inl rfl) (pe_lst pa_nil))
      (pss_cons (ps_set (i := 5) scLaw.nd rfl (Or.inl rfl) (pe_call GC' hr rfl DC.g DC.F.kp DC.b .nil pass0 (pa_cons (pv 3) (pa_cons (pv 4) pa_nil))))
      (pss_cons (ps_set (i := 6) scLaw.nd rfl (Or.inl rfl) (pe_make M3 G3' hr rfl g3 D3.b .nil pass0 (pa_cons (pv 5) pa_nil)))
      (pss_cons (ps_expr (pe_call GD hr rfl DD.g DD.F.kp DD.b .nil pass0 (pa_cons (pv 6) (pa_cons (pe_call G9' hr rfl D9.g D9.F.kp D9.b .nil pass0 (pa_cons (pv 0) (pa_cons pe_int pa_nil))) (pa_cons (pv 1) pa_nil)))))
      (pss_cons (ps_set (i := 7) scLaw.nd rfl (Or.inr rfl) (pe_make M3 G3' hr rfl g3 D3.b .nil pass0 (pa_cons (pv 5) pa_nil)))
      (pss_cons (ps_expr (pe_methB rfl (pv 7) TC.cl D4.m G4' hrH (.inl rfl) D4.b (show Vals [V.non] [Value.none] from .cons rfl .nil) (fun σ => L2N.passAt takes0N σ) (pa_cons (pe_ix ix_list (pv 1) pe_int (fun _ _ => rfl)) (pa_cons (pe_lst pa_nil) pa_nil))))
      (pss_cons (ps_expr (pe_meth (pv 7) TC.cl D8.m G8' hr D8.b .nil pass0 (pa_cons (pe_lst pa_nil) (pa_cons (pe_lc (own := [("_law_word", 10)]) (g := gName 10) (tt := tYes) (te := tTup (tCons (tOp (rIxL K) (tVar 1) (tC (.int 0))) (tCons (tVar 10) (tCons (tC (.int 2)) tNil)))) rfl scLaw.nd (pi_list (pv 2)) (blkOk_by (N := nLaw) (sc := defScope sLaw) (by decide +kernel)) (fun _ _ _ _ _ => pg_name (i := 10) scLaw.nd rfl (Or.inl rfl)) (fun _ _ _ _ _ => pts_nil)
          (fun _ _ _ _ _ => by exact (pe_tup (pa_cons (pe_ix ix_list (pv 1) pe_int (fun _ _ => rfl)) (pa_cons (pv 10) (pa_cons pe_int pa_nil)))))) pa_nil))))
      (pss_cons (ps_set (i := 8) scLaw.nd rfl (Or.inl rfl) pe_dnewT)
      (pss_cons (ps_for PassesOwn.never rfl (pi_range2 rfl hRa (pa_cons pe_int (pa_cons pe_int pa_nil))) (pg_name (i := 9) scLaw.nd rfl (Or.inl rfl))
        (pss_one (ps_if (pt_not (pt_val (pe_call GE hr rfl DE.g DE.F.kp DE.b .nil pass0 (pa_cons (pv 6) (pa_cons (pe_call G9' hr rfl D9.g D9.F.kp D9.b .nil pass0 (pa_cons (pv 0) (pa_cons (pv 9) pa_nil))) (pa_cons (pv 1) (pa_cons (pv 2) (pa_cons (pv 8) (pa_cons (pv 3) (pa_cons (pv 4) pa_nil)))))))))) (pss_one (ps_ret pe_bl)) pss_nil)))
      (pss_cons (ps_if (PW.pt (pw_or (pt_cmpR (op_neD hu64) (pe_lc (own := [("_law_word", 10)]) (g := gName 10) (tt := tTest (tOp rNe (tMeth c.CT "known" (spTKnown c) [] E0 (tVar 7) (tCons (tOp (rIxL K) (tVar 1) (tC (.int 0))) (tCons (tVar 10) tNil))) (tC (.int 2)))) (te := tVar 10) rfl scLaw.nd (pi_list (pv 2)) (blkOk_by (N := nLaw) (sc := defScope sLaw) (by decide +kernel)) (fun _ _ _ _ _ => pg_name (i := 10) scLaw.nd rfl (Or.inl rfl))
            (fun _ _ _ _ _ => by exact (pts_one (pt_cmpR op_ne (pe_meth (pv 7) TC.cl D7.m G7' hr D7.b .nil pass0 (pa_cons (pe_ix ix_list (pv 1) pe_int (fun _ _ => rfl)) (pa_cons (pv 10) pa_nil))) pe_int (nomark _)))) (fun _ _ _ _ _ => by exact (pv 10))) (pe_lst pa_nil) (nomark _))
          (pw_or1 (pt_cmpR (op_neD hu64) (pe_meth0 (pv 7) TC.cl D5.m G5' hr D5.b .nil pass0) (pe_lst pa_nil) (nomark _))))) (pss_one (ps_ret pe_bl)) pss_nil)
      (pss_cons (ps_if (PW.pt (pw_or (pt_cmpR (op_neD hu64) (pe_meth (pv 7) TC.cl D6.m G6' hr D6.b (show Vals [V.non] [Value.none] from .cons rfl .nil) pass0 (pa_cons (pe_ix ix_list (pv 1) pe_int (fun _ _ => rfl)) (pa_cons (pe_ix ix_list (pv 2) pe_int (fun _ _ => rfl)) pa_nil))) (pe_tup (pa_cons (pe_tup pa_nil) (pa_cons (pe_ix ix_list (pv 1) pe_int (fun _ _ => rfl)) (pa_cons pe_int pa_nil)))) (nomark _))
          (pw_or1 (pt_cmpR (op_neD hu64) (pe_meth0 (pv 7) TC.cl D5.m G5' hr D5.b .nil pass0) (pe_lst pa_nil) (nomark _))))) (pss_one (ps_ret pe_bl)) pss_nil)
      (pss_one (ps_ret (pe_and (pe_cmpR (op_eqD hu64) (pe_meth0 (pv 6) TC.cl D5.m G5' hr D5.b .nil pass0) (pv 4) (nomark _)) (pe_one (pe_call GF hr rfl DF.g DF.F.kp DF.b .nil pass0 (pa_cons (pe_call G9' hr rfl D9.g D9.F.kp D9.b .nil pass0 (pa_cons (pv 0) (pa_cons pe_int pa_nil))) pa_nil)))))))))))))))))))), ?_⟩
    refine ⟨_, rfl, a, ns, 0, rfl, hsc, fun x0 => ⟨_, rfl, a, ns, 0, rfl, hsc, fun x0' => ⟨x0', 12, 5, rfl, by omega, by omega, by omega, fun r H1' r0 r1 s1' => ⟨_, _, rfl, rfl, x0, (3 + r).toNat, ?_, by omega, by omega, fun H1 nl nm s1'' nnl hnl nml nmnd nmok => ?_⟩⟩⟩⟩
    · rw [show (((3 + r).toNat : Nat) : Int) = 3 + r by omega]
      rfl
    have nm3 : 3 ≤ nm.length ∧ nm.length ≤ 7 := by omega
    have s1 := s1'.trans s1''
    refine ⟨_, rfl, a, ns, 1, rfl, s1.seq hsc, fun x1 => ⟨_, rfl, x1, nl, nm, rfl, hnl, by omega, nmok, fun H2 wl wm s2 nwl hwl wm3 wmnd wmok => ?_⟩⟩
    have hnl2 := s2 _ _ hnl
    refine ⟨_, rfl, a, ns, 2, rfl, (s1.trans s2).seq hsc, fun x2 => ⟨_, rfl, _, rfl, x2, nl, wl, nm, wm, rfl, hnl2, hwl, by omega, by omega, fun H3 sd st s3 nsd hS3 => ?_⟩⟩
    refine ⟨by show 0 ≤ sizeLine; exact Nat.zero_le _, fun lg nlg => ?_⟩
    have s4 : Same H3 (upd H3 lg (.lst [])) := Same.nw nlg
    have s04 := ((s1.trans s2).trans s3).trans s4
    refine ⟨_, rfl, _, rfl, sd, lg, rfl, TM.TabsN.keepX (S := []) hTT (.of s04) (by simp), fun H5 ft e5 nft t5 tel5 => ?_⟩
    have e05 : ExtS [] H H5 := (ExtS.of (.of s04)).trans e5
    have hnl5 : Lst H5 nl nm := e5.lst (by simp) ((s3.trans s4) _ _ hnl2)
    have hwl5 : Lst H5 wl wm := e5.lst (by simp) ((s3.trans s4) _ _ hwl)
    have hlg5 : H5 lg = some (.lst []) := e5.lst (by simp) upd_same
    have hS5 : StX H5 sd (dm nm wm) st := (hS3.keepN (S := []) (.of (.of s4)) (by simp)).keepN e5 (by simp)
    obtain ⟨ss, hsd5, _⟩ := hS5.ex
    refine ⟨_, rfl, fun tp dx ntp ndx ndt => ?_⟩
    have sM : Same H5 (upd (upd H5 dx (.own tp)) tp (.ins c.CT dx [])) := (Same.nw ndx).trans (Same.nw (by rw [upd_ne ndt.symm]; exact ntp))
    have lsd : lg ≠ sd := ne_of hlg5 hsd5 (by intro z; cases z)
    have hmu0 : MuOk [sd, lg] H5 := fun a ha => by
      simp only [List.mem_cons, List.not_mem_nil, or_false] at ha
      rcases ha with z | z
      · rw [z]; exact ⟨_, hsd5, True.intro⟩
      · rw [z]; exact ⟨_, hlg5, True.intro⟩
    refine ⟨[sd, lg], tp, dx, .ref ft, rfl, upd_same, (fun z => by obtain ⟨u, e, _⟩ := hmu0 _ z; rw [ntp] at e; cases e), hmu0.same sM, fun H6 T eT s6 fr6 hT6 => ⟨rfl, ?_⟩⟩
    subst eT
    have s56 : Same H5 H6 := fun b u e => s6 b u (by simpa using (show b ≠ T.tp from fun z => by rw [z, ntp] at e; cases e)) (sM b u e)
    have frT : ∀ a ∈ T.mu, H5 a = none := fun a ha => by
      rcases List.mem_cons.mp ha with z | z
      · rw [z]; exact ntp
      · exact sM.free (fr6 a z)
    have outT : ∀ {b : Addr} {u : HO}, H5 b = some u → b ∉ T.mu := fun e z => by
      rw [frT _ z] at e
      cases e
    have hlg6 := s56 _ _ hlg5
    have hS6 : StX H6 sd (dm nm wm) st := hS5.keepN (S := []) (.of (.of s56)) (by simp)
    have W6 : WAt qAsk TT ([sd, lg] ++ T.mu) H6 c T ft lg sd (dm nm wm) st [] [] (fun _ _ => none) [] [] 0 :=
      ⟨hT6, fun a ha => (List.mem_append.mp ha).elim (hmu0.same s56 a) (hT6.plain a), tel5.keep (S := []) (.of s56) (by simp), ⟨⟨[], hlg6, (fun r hr => by cases hr), rfl⟩⟩, hS6.st, TM.TabsN.keepX (S := []) t5 (.of s56) (by simp), by simp, by simp, outT hlg5, outT hsd5, Nat.zero_le _⟩
    have e06 : ExtS [] H H6 := e05.step s56
    have frH : Fr H T.mu := freeE e05 fun b hb => ⟨by simp, frT b hb⟩
    have nlM : nl ∉ [sd, lg] ++ T.mu := fun z => (List.mem_append.mp z).elim (fun y => by
      simp only [List.mem_cons, List.not_mem_nil, or_false] at y
      rcases y with y | y
      · exact ne_of hnl5 hsd5 (by intro z; cases z) y
      · exact ne_of_none (s3 _ _ hnl2) nlg y) (outT hnl5)
    have wlM : wl ∉ [sd, lg] ++ T.mu := fun z => (List.mem_append.mp z).elim (fun y => by
      simp only [List.mem_cons, List.not_mem_nil, or_false] at y
      rcases y with y | y
      · exact ne_of hwl5 hsd5 (by intro z; cases z) y
      · exact ne_of_none (s3 _ _ hwl) nlg y) (outT hwl5)
    have hnl6 := s56 _ _ hnl5
    have hwl6 := s56 _ _ hwl5
    -- the town begun
    refine ⟨_, rfl, _, rfl, a, ns, 3, rfl, seqE e06 (fun b hb => by cases hb) hsc, fun x3 => ⟨_, rfl, [sd, lg] ++ T.mu, T, _, x3, nl, nm, _, [], 0, rfl, W6.town, W6.mu, hnl6, nlM, by omega, nmnd, nmok, fun H7 A' Ld s7 hT7 hk => ?_⟩⟩
    have s7T : SameX T.mu H6 H7 := s7.mono (by simp)
    have W7 := W6.town' s7T hT7 (Nat.le_refl _)
    have e07 : ExtS T.mu H H7 := (e06.mono (by simp)).trans (.of s7T)
    have nT : ∀ {b : Addr}, b ∉ [sd, lg] ++ T.mu → b ∉ T.mu := fun h z => h (List.mem_append_right _ z)
    have hnl7 : Lst H7 nl nm := s7T _ _ (nT nlM) hnl6
    have hwl7 : Lst H7 wl wm := s7T _ _ (nT wlM) hwl6
    have hS7 : StX H7 sd (dm nm wm) st := hS6.keepN (.of s7T) W6.sn
    -- the other town
    refine ⟨_, rfl, fun tp dx ntp ndx ndt => ?_⟩
    have sN : Same H7 (upd (upd H7 dx (.own tp)) tp (.ins c.CT dx [])) := (Same.nw ndx).trans (Same.nw (by rw [upd_ne ndt.symm]; exact ntp))
    refine ⟨[sd, lg] ++ T.mu, tp, dx, .ref ft, rfl, upd_same, (fun z => by obtain ⟨u, e, _⟩ := W7.mu _ z; rw [ntp] at e; cases e), W7.mu.same sN, fun H8 T2 eT s8 fr8 hT8 => ⟨rfl, ?_⟩⟩
    subst eT
    have s78 : Same H7 H8 := fun b u e => s8 b u (by simpa using (show b ≠ T2.tp from fun z => by rw [z, ntp] at e; cases e)) (sN b u e)
    have frT2 : ∀ a ∈ T2.mu, H7 a = none := fun a ha => by
      rcases List.mem_cons.mp ha with z | z
      · rw [z]; exact ntp
      · exact sN.free (fr8 a z)
    have outT2 : ∀ {b : Addr} {u : HO}, H7 b = some u → b ∉ T2.mu := fun e z => by
      rw [frT2 _ z] at e
      cases e
    have hlg7 : ∃ xs, H7 lg = some (.lst xs) := let ⟨xs, e, _⟩ := W7.log.len; ⟨xs, e⟩
    have W8 := W7.grow' frT2 s78 hT8.plain
    have MU2s : ∀ a ∈ T2.mu, a ∈ [sd, lg] ++ T.mu ++ T2.mu := fun a ha => List.mem_append_right _ ha
    have nTT : ∀ a ∈ T.mu, a ∉ T2.mu := fun a ha => by
      obtain ⟨u, e, _⟩ := W7.town.plain a ha
      exact outT2 e
    obtain ⟨ss7, hsd7, _⟩ := hS7.ex
    obtain ⟨xlg, hlg7⟩ := hlg7
    have l2 : lg ∉ T2.mu := outT2 hlg7
    have s2n : sd ∉ T2.mu := outT2 hsd7
    have hnl8 := s78 _ _ hnl7
    have hwl8 := s78 _ _ hwl7
    have nl2 : nl ∉ T2.mu := outT2 hnl7
    have wl2 : wl ∉ T2.mu := outT2 hwl7
    obtain ⟨n0, hn0⟩ : ∃ y, nm[0]? = some y := ⟨nm[0], List.getElem?_eq_getElem (by omega)⟩
    have hn0m := List.mem_of_getElem? hn0
    have at0 : atI (vstr nm) 0 = some (.str n0) := atI_nat (by rw [List.getElem?_map, hn0]; rfl)
    obtain ⟨dx8, num8, i8⟩ := hT8.ins
    refine ⟨_, rfl, T2.tp, dx8, _, rfl, i8, rfl, _, rfl, nl, _, 0, .str n0, rfl, rfl, SqL.of hnl8, at0, by show 0 ≤ sizeLine; exact Nat.zero_le _, fun le nle => ⟨_, T2, _, le, n0, [], [], [], _, [], 0, rfl, hT8.same (Same.nw nle), W8.mu.same (Same.nw nle), upd_same, Nat.zero_le _, List.nodup_nil, (fun e he => by cases he), nmok n0 hn0m, (fun z => by cases z), by decide, fun Lr hLr H9 ea Ld2 l s9 hT9 => ?_, fun hn2 => ?_⟩⟩
    rotate_left
    · have hla := linesF_alone (show linesF (ent []) = some [] from rfl) n0
      rw [hla] at hn2
      cases hn2
    have eL2 : ent Ld2 = [(n0, [n0])] := by
      have z := hT9.house.lines
      rw [ent_snoc, linesF_alone (show linesF (ent []) = some [] from rfl) n0] at z
      exact (Option.some.inj z).symm
    have s89 : SameX T2.mu H8 H9 := ((SameX.refl _ _).nw nle).trans (s9.mono (by simp))
    have W9 := W8.keepS s89 MU2s nTT l2 s2n hT9.plain
    have hnl9 := s89 _ _ nl2 hnl8
    have hwl9 := s89 _ _ wl2 hwl8
    obtain ⟨dx9, num9, i9⟩ := hT9.ins
    refine ⟨_, rfl, T2.tp, dx9, _, rfl, i9, rfl, by show 0 ≤ sizeLine; exact Nat.zero_le _, fun tl ntl => ?_⟩
    have s9a : Same H9 (upd H9 tl (.lst [])) := Same.nw ntl
    have htl : Lst (upd H9 tl (.lst [])) tl [] := upd_same
    have W9a := W9.same s9a
    have hT9a := hT9.same s9a
    have hnl9a := s9a _ _ hnl9
    have hwl9a := s9a _ _ hwl9
    have ntM : tl ∉ [sd, lg] ++ T.mu ++ T2.mu := fun z => by
      obtain ⟨u, e, _⟩ := W9.mu _ z
      rw [ntl] at e
      cases e
    revert htl W9a hT9a hnl9a hwl9a s9a
    generalize upd H9 tl (.lst []) = H9a
    intro s9a htl W9a hT9a hnl9a hwl9a
    refine ⟨_, rfl, wl, rfl, ⟨_, SqL.of hwl9a⟩, fun D hD => lc_list (K := K) (a := wl) (xs := vstr wm) (fun i H' => ∃ fs : List FT, H' D = some (.lst (fs.map fun r : FT => V.ref r.1)) ∧ Same H9a H' ∧ (∀ r ∈ fs, H' r.1 = some (.tup [.str r.2.1, .str r.2.2.1, oV r.2.2.2]) ∧ H9a r.1 = none) ∧ (fs.map fun r : FT => (r.2.1, r.2.2.1)) = (wm.take i).map (fun y => (n0, y)) ∧ (∀ r ∈ fs, r.2.2.2 = some 2)) ⟨[], upd_same, Same.nw hD, (fun r hr => by cases hr), rfl, (fun r hr => by cases hr)⟩ (fun i H' _ ⟨_, _, s10, _⟩ => s10.seq (SqL.of hwl9a)) ?_ ?_⟩
    · intro i y H' hi ⟨fs, q1, s10, q2, q3, q4⟩
      obtain ⟨wi, hwi, rfl⟩ := map_get hi
      have hwm := List.mem_of_getElem? hwi
      have hil := (List.getElem?_eq_some_iff.mp hwi).1
      have hfl : fs.length ≤ i := by have := congrArg List.length q3; rw [List.length_map, List.length_map, List.length_take] at this; omega
      refine ⟨rfl, _, rfl, nl, _, 0, .str n0, rfl, rfl, SqL.of (s10 _ _ hnl9a), at0, _, rfl, by show 3 ≤ sizeLine; exact size_small (by decide), fun t nt => ?_⟩
      have nDt : D ≠ t := ne_of_none q1 nt
      refine ⟨_, by rw [upd_ne nDt]; exact q1, size_lt (by rw [List.length_map]; omega), fs ++ [(t, n0, wi, some 2)], by rw [upd_same]; simp, (s10.nw2 nt).old2 hD, fun z hz => ?_, ?_, fun z hz => ?_⟩
      · rcases List.mem_append.mp hz with y | y
        · obtain ⟨c1, c2⟩ := q2 z y
          exact ⟨by rw [upd_ne (ne_of c1 q1 (by intro z; cases z)), upd_ne (ne_of_none c1 nt)]; exact c1, c2⟩
        · have y : z = (t, n0, wi, some 2) := by simpa using y
          rw [y]
          refine ⟨?_, s10.free nt⟩
          rw [upd_ne nDt.symm, upd_same]
          rfl
      · rw [List.map_append, q3, take_snoc hwi, List.map_append]
        rfl
      · rcases List.mem_append.mp hz with y | y
        · exact q4 z y
        · have y : z = (t, n0, wi, some 2) := by simpa using y
          rw [y]
    intro H10a ⟨fs, q1, s10, q2, q3, q4⟩
    have q3 : (fs.map fun r : FT => (r.2.1, r.2.2.1)) = wm.map (fun y => (n0, y)) := by
      rw [q3, List.length_map, List.take_length]
    have flen : fs.length = 3 := by have := congrArg List.length q3; rw [List.length_map, List.length_map] at this; omega
    have fnd : (fs.map fun r : FT => (r.2.1, r.2.2.1)).Nodup := by
      rw [q3]
      exact List.pairwise_map.mpr (List.Pairwise.imp (fun {a b} h z => h (congrArg (fun p : Str × Str => p.2) z)) wmnd)
    have fin : ∀ r ∈ fs, r.2.1 = n0 ∧ r.2.2.1 ∈ wm := fun r hr => by
      have h1 : (r.2.1, r.2.2.1) ∈ wm.map (fun y => (n0, y)) := by rw [← q3]; exact List.mem_map.mpr ⟨r, hr, rfl⟩
      obtain ⟨y, hy, ey⟩ := List.mem_map.mp h1
      have a1 : n0 = r.2.1 := congrArg (fun p : Str × Str => p.1) ey
      have a2 : y = r.2.2.1 := congrArg (fun p : Str × Str => p.2) ey
      exact ⟨a1.symm, a2 ▸ hy⟩
    have hT10a := hT9a.same s10
    have W10a := W9a.same s10
    have nDM : D ∉ [sd, lg] ++ T.mu ++ T2.mu := fun z => by
      obtain ⟨u, e, _⟩ := W9a.mu _ z
      rw [hD] at e
      cases e
    have nrM : ∀ r ∈ fs, r.1 ∉ [sd, lg] ++ T.mu ++ T2.mu := fun r hr z => by
      obtain ⟨u, e, _⟩ := W9a.mu _ z
      rw [(q2 r hr).2] at e
      cases e
    have kA2 : keysE (ent ([] ++ [(n0, ea, [])] : Ent)) = [n0] := rfl
    refine ⟨_, T2, _, _, Ld2, _, [], 0, tl, D, fs, rfl, hT10a, W10a.mu, s10 _ _ htl, ntM, ⟨q1, nDM, fun r hr => ⟨(q2 r hr).1, nrM r hr⟩⟩, ⟨fun r hr => by rw [kA2, (fin r hr).1]; exact List.mem_singleton_self _, fun r hr => wmok _ (fin r hr).2, fun r hr x hx => (by rw [q4 r hr] at hx; cases hx; decide), fnd, by omega⟩, by decide, fun H10 Ld10 rl s10T hT10 eL10 nrl _ => ?_⟩
    have W10 := W10a.keepS s10T MU2s nTT l2 s2n hT10.plain
    have hnl10 := s10T _ _ nl2 (s10 _ _ hnl9a)
    have hwl10 := s10T _ _ wl2 (s10 _ _ hwl9a)
    have e7 : ExtS T2.mu H7 H10 := ((((ExtS.of (.of s78)).trans (.of s89)).step s9a).step s10).trans (.of s10T)
    have hS10 : StX H10 sd (dm nm wm) st := hS7.keepN e7 s2n
    have e010 : ExtS (T.mu ++ T2.mu) H H10 := (e07.mono (fun b hb => List.mem_append_left _ hb)).trans (e7.mono (fun b hb => List.mem_append_right _ hb))
    refine fun kd nkd => ?_
    have sK : Same H10 (upd H10 kd (.dT [])) := Same.nw nkd
    have hkd : upd H10 kd (.dT []) kd = some (.dT []) := upd_same
    revert sK hkd
    generalize upd H10 kd (.dT []) = H11
    intro sK hkd
    have nk0 : ∀ a ∈ [kd], H10 a = none := fun a ha => by
      have z : a = kd := by simpa using ha
      rw [z]; exact nkd
    have W11 := W10.grow' nk0 sK (fun a ha => by
      have z : a = kd := by simpa using ha
      rw [z]; exact ⟨_, hkd, True.intro⟩)
    have hT11 := (hT10.grow nk0).same sK
    have kdM : kd ∉ [sd, lg] ++ T.mu ++ T2.mu := fun z => by
      obtain ⟨u, e, _⟩ := W10.mu _ z
      rw [nkd] at e
      cases e
    have kdT : kd ∉ T.mu := fun z => kdM (List.mem_append_left _ (List.mem_append_right _ z))
    have kdT2 : kd ∉ T2.mu := fun z => kdM (List.mem_append_right _ z)
    have kds : kd ≠ sd := fun z => kdM (by rw [z]; simp)
    have hL11 : LW qAsk TT ([sd, lg] ++ T.mu ++ T2.mu ++ [kd]) H11 c T ft lg sd kd (dm nm wm) st A' Ld (fun _ _ => none) [] 0 :=
      ⟨W11, ⟨⟨[], hkd, (fun k w => rfl), Nat.zero_le _⟩⟩, by simp, kdT, kds, (fun p hp => by cases hp), fun k hk1 x hx w hw => ⟨by rw [← hk]; exact ((W11.town.house.lineOk hk1).1 x hx).2, hw.elim fun k0 h0 => h0.2⟩⟩
    have hS11 : StX H11 sd (dm nm wm) st := hS10.keepN (S := []) (.of (.of sK)) (by simp)
    have hnl11 : Lst H11 nl nm := sK _ _ hnl10
    have hwl11 : Lst H11 wl wm := sK _ _ hwl10
    have nlM3 : nl ∉ [sd, lg] ++ T.mu ++ T2.mu ++ [kd] := fun z => by
      rcases List.mem_append.mp z with z | z
      · exact (List.mem_append.mp z).elim nlM nl2
      · have z : nl = kd := by simpa using z
        exact ne_of_none hnl10 nkd z
    have wlM3 : wl ∉ [sd, lg] ++ T.mu ++ T2.mu ++ [kd] := fun z => by
      rcases List.mem_append.mp z with z | z
      · exact (List.mem_append.mp z).elim wlM wl2
      · have z : wl = kd := by simpa using z
        exact ne_of_none hwl10 nkd z
    have frA : Fr H ([sd, lg] ++ T.mu ++ T2.mu ++ [kd]) := by
      refine Fr.app (Fr.app (Fr.app ?_ frH) ?_) ?_
      · refine freeE (S := []) (.of (.of (s1.trans s2))) fun b hb => ⟨by simp, ?_⟩
        simp only [List.mem_cons, List.not_mem_nil, or_false] at hb
        rcases hb with z | z
        · rw [z]; exact nsd
        · rw [z]; exact s3.free nlg
      · refine freeE e07 fun b hb => ⟨fun z => nTT b z hb, frT2 b hb⟩
      · refine freeE e010 fun b hb => ⟨fun z => ?_, nk0 b hb⟩
        have y : b = kd := by simpa using hb
        rw [y] at z
        exact (List.mem_append.mp z).elim kdT kdT2
    have sub1 : ∀ a ∈ T.mu ++ [lg, kd, sd], a ∈ [sd, lg] ++ T.mu ++ T2.mu ++ [kd] := fun a ha => by
      rcases List.mem_append.mp ha with z | z
      · exact hL11.w.town.sub a z
      · simp only [List.mem_cons, List.not_mem_nil, or_false] at z
        rcases z with z | z | z <;> rw [z] <;> simp
    have e011 : ExtS ([sd, lg] ++ T.mu ++ T2.mu ++ [kd]) H H11 := (e010.step sK).mono (fun b hb => by
      rcases List.mem_append.mp hb with z | z
      · exact List.mem_append_left _ (List.mem_append_left _ (List.mem_append_right _ z))
      · exact List.mem_append_left _ (List.mem_append_right _ z))
    have hsc11 : ∀ H', ExtS (T.mu ++ [lg, kd, sd]) H11 H' → SqL K H' a (ns.map V.int) := fun H' e => seqE (e011.trans (e.mono sub1)) frA hsc
    -- the rounds
    refine ⟨4, 10, rfl, ⟨by decide, by decide, by decide, by decide⟩, for_range (lo := 4) (n := ((10 : Int) - 4).toNat) (fun i σ H' => ∃ (v9 : Option V) (st : Str → Str → Int) (Ld : Ent) (g : Kn) (ps : List (Str × Str)), σ = [some (.ref a), some (.ref nl), some (.ref wl), some (.ref sd), some (.ref lg), some (.ref ft), some (.ref T.tp), some (.ref T2.tp), some (.ref kd), v9, none] ∧ ExtS (T.mu ++ [lg, kd, sd]) H11 H' ∧ LW qAsk TT ([sd, lg] ++ T.mu ++ T2.mu ++ [kd]) H' c T ft lg sd kd (dm nm wm) st A' Ld g ps (300 * i) ∧ StX H' sd (dm nm wm) st)
      ⟨_, st, Ld, _, [], rfl, ExtS.refl _ _, hL11, hS11⟩ ?_ ?_⟩
    · intro i σ H' hi ⟨v9, st', Ld', g', ps', eσ, eR, hL, hS⟩
      subst eσ
      have hi6 : i < 6 := hi
      have e4 : (4 + (i : Int)) = ((4 + i : Nat) : Int) := by omega
      refine ⟨_, rfl, _, rfl, _, rfl, a, ns, 4 + i, (by rw [e4]; rfl), hsc11 _ eR, fun x => ⟨_, rfl, _, rfl, _, rfl, _, rfl, _, rfl, _, T, ft, lg, sd, kd, nl, wl, nm, wm, st', A', Ld', g', ps', 300 * i, x, rfl, hL, hS, eR.lst (fun z => nlM3 (sub1 _ z)) hnl11, eR.lst (fun z => wlM3 (sub1 _ z)) hwl11, nlM3, wlM3, hk, nm3.1, wm3, wmok, by omega, fun H'' g'' ps'' st'' Ld'' e hL' hS' => ⟨_, rfl, iteF ?_⟩⟩⟩
      exact ⟨_, st'', Ld'', g'', ps'', rfl, eR.trans e, hL', hS'⟩
    intro σ H12 ⟨v9, st', Ld', g', ps', eσ, eR, hL, hS⟩
    subst eσ
    have hnl12 := eR.lst (fun z => nlM3 (sub1 _ z)) hnl11
    have hwl12 := eR.lst (fun z => wlM3 (sub1 _ z)) hwl11
    have hT2 := ((hT11.keepN eR sub1 (fun a ha z => by
      rcases List.mem_append.mp z with y | y
      · exact nTT a y ha
      · simp only [List.mem_cons, List.not_mem_nil, or_false] at y
        rcases y with y | y | y
        · rw [y] at ha; exact l2 ha
        · rw [y] at ha; exact kdT2 ha
        · rw [y] at ha; exact s2n ha)).mono (show _ ≤ 3000 by omega))
    obtain ⟨dx12, num12, i12⟩ := hT2.ins
    have shN : SeqAt.shaped (dStrs []) = true := shaped_strs (fun x hx => by cases hx)
    have g2 : ∀ y ∈ wm, (tells ((fun _ _ => none : Kn), []) fs).1 n0 y = some 2 := fun y hy => by
      have h1 : (n0, y) ∈ fs.map (fun r : FT => (r.2.1, r.2.2.1)) := by rw [q3]; exact List.mem_map.mpr ⟨y, hy, rfl⟩
      obtain ⟨u, hu, eu⟩ := List.mem_map.mp h1
      have a1 : u.2.1 = n0 := congrArg (fun p : Str × Str => p.1) eu
      have a2 : u.2.2.1 = y := congrArg (fun p : Str × Str => p.2) eu
      have h3 := tells_get (s := ((fun _ _ => none : Kn), [])) fnd hu
      rw [a1, a2, q4 u hu] at h3
      exact h3
    refine ⟨_, rfl, wl, rfl, ⟨_, SqL.of hwl12⟩, fun D8 hD8 => lc_list (K := K) (a := wl) (xs := vstr wm) (fun i H' => Lst H' D8 [] ∧ Same H12 H') ⟨upd_same, Same.nw hD8⟩ (fun i H' _ ⟨_, s8⟩ => s8.seq (SqL.of hwl12)) ?_ ?_⟩
    · intro i y H' hi ⟨b1, s8⟩
      obtain ⟨wi, hwi, rfl⟩ := map_get hi
      have hwm := List.mem_of_getElem? hwi
      refine ⟨rfl, _, rfl, T2.tp, dx12, _, rfl, s8 _ _ i12, rfl, _, rfl, nl, _, 0, .str n0, rfl, rfl, SqL.of (s8 _ _ hnl12), at0, _, rfl, _, T2, _, _, Ld10, _, [], _, n0, wi, rfl, hT2.same s8, by rw [kA2]; exact List.mem_singleton_self _, wmok _ hwm, fun H9 s9 => ?_⟩
      rw [g2 wi hwm]
      refine ⟨rfl, _, rfl, ?_⟩
      exact iteF ⟨s9 _ _ b1, s8.trans s9⟩
    intro H13 ⟨b1, s13⟩
    refine ⟨by show 0 ≤ sizeLine; exact Nat.zero_le _, fun z8 nz8 => ?_⟩
    refine ⟨_, _, dp_strs (l := []) (SqL.of ((Same.nw nz8) _ _ b1)), dp_strs (l := []) (SqL.of upd_same), shN, shN, _, rfl, ?_⟩
    rw [eqv_same shN]
    have s13a := s13.trans (Same.nw nz8 (o := .lst []))
    revert s13a
    generalize upd H13 z8 (.lst []) = H13a
    intro s13a
    refine iteF ?_
    refine ⟨_, rfl, T2.tp, dx12, _, rfl, s13a _ _ i12, rfl, _, T2, _, _, Ld10, _, [], _, rfl, hT2.same s13a, fun H14 l14 s14 nl14 hP14 => ⟨by show 0 ≤ sizeLine; exact Nat.zero_le _, fun z14 nz14 => ?_⟩⟩
    obtain ⟨rs, rs1, rs2, rs3⟩ := hP14.ex
    have rs0 : rs = [] := List.map_eq_nil_iff.mp rs3
    rw [rs0] at rs1
    refine ⟨_, _, dp_strs (l := []) (SqL.of ((Same.nw nz14) _ _ rs1)), dp_strs (l := []) (SqL.of upd_same), shN, shN, _, rfl, ?_⟩
    rw [eqv_same shN]
    refine iteF ?_
    have s15 := s13a.trans (s14.trans (Same.nw nz14 (o := .lst [])))
    revert s15
    generalize upd H14 z14 (.lst []) = H15
    intro s15
    have hL15 := hL.same s15
    have hT15 := hT2.same s15
    obtain ⟨w0, hw0⟩ : ∃ y, wm[0]? = some y := ⟨wm[0], List.getElem?_eq_getElem (by omega)⟩
    have hw0m := List.mem_of_getElem? hw0
    have atw0 : atI (vstr wm) 0 = some (.str w0) := atI_nat (by rw [List.getElem?_map, hw0]; rfl)
    have hlk : lookL (ent Ld10) n0 = [n0] := by
      rw [eL10, eL2]
      exact look_self (l := [n0]) (List.mem_singleton_self _)
    have hg0 := g2 w0 hw0m
    revert hT15
    generalize hgg : (tells ((fun _ _ => none : Kn), []) fs).1 = gg
    rw [hgg] at hg0
    intro hT15
    have W15 := hL15.w.other hT15 l2 s2n (Nat.le_trans hL15.w.lls (by decide))
    have hpp : paper (fun k => (gg k w0).getD (st' k w0)) (lookL (ent Ld10) n0) = ([], some n0, 2) := by
      rw [hlk]
      unfold paper
      rw [hg0]
      rfl
    refine ⟨_, rfl, T2.tp, dx12, _, rfl, s15 _ _ i12, rfl, _, rfl, nl, _, 0, .str n0, rfl, rfl, SqL.of (s15 _ _ hnl12), at0, _, rfl, wl, _, 0, .str w0, rfl, rfl, SqL.of (s15 _ _ hwl12), atw0, _, T2, ft, lg, sd, dm nm wm, st', _, Ld10, gg, [], ps', 3000, n0, w0, rfl, W15, by rw [kA2]; exact List.mem_singleton_self _, wmok _ hw0m, (fun x hx => by
      rw [hlk] at hx
      have z : x = n0 := by simpa using hx
      rw [z]
      exact ⟨hn0m, hw0m⟩), by decide, fun H16 t p e16 ht hp hW => ?_⟩
    rw [hpp] at ht hp hW
    have hnp : newP gg w0 (rests (([], some n0, 2) : Pap)) = [] := by
      unfold newP rests
      show ((([n0] : List Str).filter fun k => (gg k w0).isNone).map fun k => (k, w0)) = []
      rw [List.filter_cons, hg0]
      rfl
    rw [hnp, List.append_nil, List.append_nil] at hW
    have hnl16 : Lst H16 nl nm := e16.lst (fun z => nlM3 (by
      simp only [List.mem_cons, List.not_mem_nil, or_false] at z
      rcases z with z | z | z <;> rw [z] <;> simp)) (s15 _ _ hnl12)
    refine ⟨by show 0 ≤ sizeLine; exact Nat.zero_le _, fun p2 np2 => ⟨_, rfl, nl, _, 0, .str n0, rfl, rfl, SqL.of ((Same.nw np2) _ _ hnl16), at0, by show 3 ≤ sizeLine; exact size_small (by decide), fun t2 nt2 => ?_⟩⟩
    have s17 : Same H16 (upd (upd H16 p2 (.tup [])) t2 (.tup [.ref p2, .str n0, .int 2])) := (Same.nw np2).trans (Same.nw nt2)
    have hP1 : PapAt (upd (upd H16 p2 (.tup [])) t2 (.tup [.ref p2, .str n0, .int 2])) t ([], some n0, 2) := PapAt.same ⟨p, ht, hp⟩ s17
    have hP2 : PapAt (upd (upd H16 p2 (.tup [])) t2 (.tup [.ref p2, .str n0, .int 2])) t2 ([], some n0, 2) := ⟨p2, upd_same, (Same.nw nt2) _ _ upd_same⟩
    have shP : SeqAt.shaped (dPap ([], some n0, 2)) = true := shaped_pap (fun x hx => by cases hx) (fun x hx => by cases hx; exact (nmok n0 hn0m).asc)
    refine ⟨_, _, dp_pap hP1, dp_pap hP2, shP, shP, _, rfl, ?_⟩
    rw [eqv_same shP]
    refine iteF ?_
    revert s17
    clear hP1 hP2
    generalize upd (upd H16 p2 (.tup [])) t2 (.tup [.ref p2, .str n0, .int 2]) = H17
    intro s17
    have hW17 := hW.same s17
    obtain ⟨dx17, num17, i17⟩ := hW17.town.ins
    refine ⟨_, rfl, T2.tp, dx17, _, rfl, i17, rfl, _, T2, _, _, Ld10, _, [], _, rfl, hW17.town, fun H18 l18 s18 nl18 hP18 => ⟨by show 0 ≤ sizeLine; exact Nat.zero_le _, fun z18 nz18 => ?_⟩⟩
    obtain ⟨rs', rs1', rs2', rs3'⟩ := hP18.ex
    have rs0' : rs' = [] := List.map_eq_nil_iff.mp rs3'
    rw [rs0'] at rs1'
    refine ⟨_, _, dp_strs (l := []) (SqL.of ((Same.nw nz18) _ _ rs1')), dp_strs (l := []) (SqL.of upd_same), shN, shN, _, rfl, ?_⟩
    rw [eqv_same shN]
    refine iteF ?_
    have s19 := s17.trans (s18.trans (Same.nw nz18 (o := .lst [])))
    revert s19
    generalize upd H18 z18 (.lst []) = H19
    intro s19
    have sub2 : ∀ a ∈ [T2.he, T2.as_, lg], a ∈ [sd, lg] ++ T.mu ++ T2.mu ++ [kd] := fun a ha => by
      simp only [List.mem_cons, List.not_mem_nil, or_false] at ha
      rcases ha with z | z | z <;> rw [z] <;> simp
    have hTa : TownAt ([sd, lg] ++ T.mu ++ T2.mu ++ [kd]) H19 c T (.ref ft) A' Ld' g' ps' (300 * ((10 : Int) - 4).toNat) := (hL15.w.town.keepN e16 sub2 (fun a ha z => by
      simp only [List.mem_cons, List.not_mem_nil, or_false] at z
      rcases z with z | z | z
      · exact nTT a ha (by rw [z]; simp)
      · exact nTT a ha (by rw [z]; simp)
      · rw [z] at ha; exact hL15.w.ln ha)).same s19
    have hlgE : PrsAt ([sd, lg] ++ T.mu ++ T2.mu ++ [kd]) H19 lg ps' := (hW.same s19).log
    obtain ⟨dx19, num19, i19⟩ := hTa.ins
    refine ⟨_, rfl, T.tp, dx19, _, rfl, i19, rfl, _, T, _, A', Ld', _, ps', _, rfl, hTa, fun H20 l20 s20 nl20 hP20 => ?_⟩
    refine ⟨_, rfl, _, _, hP20.dp, (hlgE.keep (S := []) (.of s20) (by simp) (by simp)).dp, shaped_dP hL.asc, shaped_dP hL.asc, _, rfl, ?_⟩
    rw [eqv_same (shaped_dP hL.asc)]
    refine iteT ?_
    have eEnd : ExtS ([sd, lg] ++ T.mu ++ T2.mu ++ [kd]) H H20 := (((e011.trans (eR.mono sub1)).step s15).trans (e16.mono sub2)).step (s19.trans s20)
    exact ⟨_, rfl, a, ns, 11, rfl, seqE eEnd frA hsc, fun x11 => ⟨x11, rfl, fun H' => kk H'⟩⟩
end
end TM
set_option maxRecDepth 100000
set_option maxHeartbeats 4000000
/-! The head's facts (printed by gen.py). -/
namespace TM
open PySem PySem.Spec PyProof.Rows L2 LamX NdefX
/-! ### classes of errors, by a Bool -/
theorem oexB_ok {K : PySem.W.Frag} {C : Addr} (h : oexB K C = true) : OexC K C := by
  obtain ⟨h1, h⟩ := Bool.and_eq_true_iff.mp h
  obtain ⟨h2, h⟩ := Bool.and_eq_true_iff.mp h
  obtain ⟨h3, h⟩ := Bool.and_eq_true_iff.mp h
  obtain ⟨h4, h5⟩ := Bool.and_eq_true_iff.mp h
  refine ⟨?_, of_decide_eq_true h2, of_decide_eq_true h3, of_decide_eq_true h4, h5⟩
  split at h1
  · rename_i dd cd sl ho
    split at h1
    · rename_i C' bm k0 k1 k2 k3 n k5 hm hs
      obtain ⟨q1, h1⟩ := Bool.and_eq_true_iff.mp h1
      obtain ⟨q2, h1⟩ := Bool.and_eq_true_iff.mp h1
      obtain ⟨q3, h1⟩ := Bool.and_eq_true_iff.mp h1
      obtain ⟨q4, q5⟩ := Bool.and_eq_true_iff.mp h1
      have q1 := of_decide_eq_true q1
      have q2 := of_decide_eq_true q2
      obtain ⟨nm, bs, mro, ns, qn, hd, sn, sub, ab, col, del⟩ := cd
      dsimp only at hm q3 q4
      have q3 : del = false := by cases del <;> first | rfl | cases q3
      subst hm q1 q2 q3 q4
      have hsl : sl = #[k0, k1, k2, k3, some (.builtin "ValueError.__new__"), k5] := by
        obtain ⟨l⟩ := sl
        simp only at hs
        rw [hs]
      subst hsl
      exact ⟨nm, qn, ns, bs, bm, sn, sub, ab, col, dd, k0, k1, k2, k3, k5, ho, q5⟩
    · cases h1
  · cases h1
theorem midB_ok {K : PySem.W.Frag} {B : Addr} (h : midB K B = true) : MidC K B (.type "type") := by
  obtain ⟨h1, h⟩ := Bool.and_eq_true_iff.mp h
  obtain ⟨h2, h3⟩ := Bool.and_eq_true_iff.mp h
  refine ⟨h1, of_decide_eq_true h2, ?_⟩
  split at h3
  · rename_i n e
    rw [e, of_decide_eq_true h3]
  · cases h3
theorem vals_non {ds : List Value} (h : Vals [V.non] ds) : ds = [Value.none] := by
  obtain ⟨u, rfl, r⟩ := vals1 h
  cases r
  rfl
theorem code_of {K : PySem.W.Frag} {p : Str × Option Str} {x qual : Str} {params : Arguments} {body : List Stmt} {scope : Scope} {dvs : List V} {kws : List (Str × V)} {fd : FuncData} (F : FunD K x qual params body scope dvs kws (He.fAd K p) fd) : fd.code = .ref (He.codeOf K p) := by
  obtain ⟨oc, od, dV, kV, doc, pm, an, cdv, ct, osl, e, lk, hcd, _, _⟩ := F.ex
  obtain ⟨cc, hc⟩ := He.codeIn_ref hcd
  have e2 : fd.code = .ref cc := by rw [e]; exact hc
  rw [He.codeOf_eq lk e2, e2]

abbrev law0 : PySem.W.OpenLaw := PySem.Challenge.rw_taglook_k45_doubted_and_read_again
abbrev TT0 (K : PySem.W.Frag) : List NTab := [((He.cT K ("Town", some "look")).2, fun _ _ => qLook), ((He.cT K ("_law_teller", none)).2, fun _ _ => qAsk)]
abbrev c0 (K : PySem.W.Frag) : Cs := ⟨He.ga K "Town", He.ga K "House", He.ga K "Facts"⟩
theorem facts {w : World} {K : PySem.W.Frag} {h : Heap} {mg : Str → Option Value} {f : Addr} (X : K.In h) (G : h.Ns mainGlobals mg) (hfa : mg ("law" : Str) = some (.ref f)) (c : He.SaysX fa fn [] tf ex w h K) : LawAtS law0 w K CX0 9 63 "_law_script" mg f h := by
  have cd := c.t.d
  obtain ⟨d_is_free, F_is_free⟩ := cd.def_ 0 rfl
  have D_is_free : DefAt K mg "is_free" sIsFree ["name", "rows"] (He.ga K "is_free") d_is_free := ⟨F_is_free, He.glo_ok X G (cd.fact 0 rfl), F_is_free.bindsN fun _ _ _ _ _ _ us hl => match us, hl with | [_, _], _ => rfl⟩
  obtain ⟨d_next_free, F_next_free⟩ := cd.def_ 1 rfl
  have D_next_free : DefAt K mg "next_free" sNextFree ["rows"] (He.ga K "next_free") d_next_free := ⟨F_next_free, He.glo_ok X G (cd.fact 1 rfl), F_next_free.bindsN fun _ _ _ _ _ _ us hl => match us, hl with | [_], _ => rfl⟩
  obtain ⟨d_rows_without, F_rows_without⟩ := cd.def_ 2 rfl
  have D_rows_without : DefAt K mg "rows_without" sWithout ["rows", "name"] (He.ga K "rows_without") d_rows_without := ⟨F_rows_without, He.glo_ok X G (cd.fact 2 rfl), F_rows_without.bindsN fun _ _ _ _ _ _ us hl => match us, hl with | [_, _], _ => rfl⟩
  obtain ⟨d_claim_on, F_claim_on⟩ := cd.def_ 3 rfl
  have D_claim_on : DefAt K mg "claim_on" sClaim ["name", "rows"] (He.ga K "claim_on") d_claim_on := ⟨F_claim_on, He.glo_ok X G (cd.fact 3 rfl), F_claim_on.bindsN fun _ _ _ _ _ _ us hl => match us, hl with | [_, _], _ => rfl⟩
  obtain ⟨d_ring_among, F_ring_among⟩ := cd.def_ 4 rfl
  have D_ring_among : DefAt K mg "ring_among" sRingA ["rows"] (He.ga K "ring_among") d_ring_among := ⟨F_ring_among, He.glo_ok X G (cd.fact 4 rfl), F_ring_among.bindsN fun _ _ _ _ _ _ us hl => match us, hl with | [_], _ => rfl⟩
  obtain ⟨d_merged, F_merged⟩ := cd.def_ 5 rfl
  have D_merged : DefAt K mg "merged" sMerged ["rows"] (He.ga K "merged") d_merged := ⟨F_merged, He.glo_ok X G (cd.fact 5 rfl), F_merged.bindsN fun _ _ _ _ _ _ us hl => match us, hl with | [_], _ => rfl⟩
  obtain ⟨d_ring_below, F_ring_below⟩ := cd.def_ 6 rfl
  have D_ring_below : DefAt K mg "ring_below" sRingB ["name", "elders", "above", "known"] (He.ga K "ring_below") d_ring_below := ⟨F_ring_below, He.glo_ok X G (cd.fact 6 rfl), F_ring_below.bindsN fun _ _ _ _ _ _ us hl => match us, hl with | [_, _, _, _], _ => rfl⟩
  obtain ⟨d_loop_of, F_loop_of⟩ := cd.def_ 7 rfl
  have D_loop_of : DefAt K mg "loop_of" sLoopOf ["elders"] (He.ga K "loop_of") d_loop_of := ⟨F_loop_of, He.glo_ok X G (cd.fact 7 rfl), F_loop_of.bindsN fun _ _ _ _ _ _ us hl => match us, hl with | [_], _ => rfl⟩
  obtain ⟨d_rows_above, F_rows_above⟩ := cd.def_ 8 rfl
  have D_rows_above : DefAt K mg "rows_above" sRowsAb ["elders", "lines", "name"] (He.ga K "rows_above") d_rows_above := ⟨F_rows_above, He.glo_ok X G (cd.fact 8 rfl), F_rows_above.bindsN fun _ _ _ _ _ _ us hl => match us, hl with | [_, _, _], _ => rfl⟩
  obtain ⟨d_take_line, F_take_line⟩ := cd.def_ 9 rfl
  have D_take_line : DefAt K mg "take_line" sTake ["elders", "lines", "rings", "name"] (He.ga K "take_line") d_take_line := ⟨F_take_line, He.glo_ok X G (cd.fact 9 rfl), F_take_line.bindsN fun _ _ _ _ _ _ us hl => match us, hl with | [_, _, _, _], _ => rfl⟩
  obtain ⟨d_lines_of, F_lines_of⟩ := cd.def_ 10 rfl
  have D_lines_of : DefAt K mg "lines_of" sLinesOf ["elders"] (He.ga K "lines_of") d_lines_of := ⟨F_lines_of, He.glo_ok X G (cd.fact 10 rfl), F_lines_of.bindsN fun _ _ _ _ _ _ us hl => match us, hl with | [_], _ => rfl⟩
  obtain ⟨d_in_turn, F_in_turn⟩ := cd.def_ 11 rfl
  have D_in_turn : DefAt K mg "in_turn" sInTurn ["names", "above"] (He.ga K "in_turn") d_in_turn := ⟨F_in_turn, He.glo_ok X G (cd.fact 11 rfl), F_in_turn.bindsN fun _ _ _ _ _ _ us hl => match us, hl with | [_, _], _ => rfl⟩
  obtain ⟨d_is_name, F_is_name⟩ := cd.def_ 12 rfl
  have D_is_name : DefAt K mg "is_name" sIsName ["thing"] (He.ga K "is_name") d_is_name := ⟨F_is_name, He.glo_ok X G (cd.fact 12 rfl), F_is_name.bindsN fun _ _ _ _ _ _ us hl => match us, hl with | [_], _ => rfl⟩
  obtain ⟨d_is_number, F_is_number⟩ := cd.def_ 13 rfl
  have D_is_number : DefAt K mg "is_number" sIsNum ["thing"] (He.ga K "is_number") d_is_number := ⟨F_is_number, He.glo_ok X G (cd.fact 13 rfl), F_is_number.bindsN fun _ _ _ _ _ _ us hl => match us, hl with | [_], _ => rfl⟩
  obtain ⟨d_is_told, F_is_told⟩ := cd.def_ 14 rfl
  have D_is_told : DefAt K mg "is_told" sIsTold ["one"] (He.ga K "is_told") d_is_told := ⟨F_is_told, He.glo_ok X G (cd.fact 14 rfl), F_is_told.bindsN fun _ _ _ _ _ _ us hl => match us, hl with | [_], _ => rfl⟩
  obtain ⟨d_is_shaken, F_is_shaken⟩ := cd.def_ 15 rfl
  have D_is_shaken : DefAt K mg "is_shaken" sIsShk ["was", "one"] (He.ga K "is_shaken") d_is_shaken := ⟨F_is_shaken, He.glo_ok X G (cd.fact 15 rfl), F_is_shaken.bindsN fun _ _ _ _ _ _ us hl => match us, hl with | [_, _], _ => rfl⟩
  obtain ⟨d_paper_of, F_paper_of⟩ := cd.def_ 16 rfl
  have D_paper_of : DefAt K mg "paper_of" sPaper ["line", "word", "strength"] (He.ga K "paper_of") d_paper_of := ⟨F_paper_of, He.glo_ok X G (cd.fact 16 rfl), F_paper_of.bindsN fun _ _ _ _ _ _ us hl => match us, hl with | [_, _, _], _ => rfl⟩
  obtain ⟨d_l_cell, F_l_cell⟩ := cd.def_ 17 rfl
  have D_l_cell : DefAt K mg "_law_cell" sCell ["_law_script", "_law_k"] (He.ga K "_law_cell") d_l_cell := ⟨F_l_cell, He.glo_ok X G (cd.fact 17 rfl), F_l_cell.bindsN fun _ _ _ _ _ _ us hl => match us, hl with | [_, _], _ => rfl⟩
  obtain ⟨d_l_mix, F_l_mix⟩ := cd.def_ 18 rfl
  have D_l_mix : DefAt K mg "_law_mix" sMix ["_law_cell_here", "_law_turn", "_law_many"] (He.ga K "_law_mix") d_l_mix := ⟨F_l_mix, He.glo_ok X G (cd.fact 18 rfl), F_l_mix.bindsN fun _ _ _ _ _ _ us hl => match us, hl with | [_, _, _], _ => rfl⟩
  obtain ⟨d_l_names, F_l_names⟩ := cd.def_ 19 rfl
  have D_l_names : DefAt K mg "_law_names" sNames ["_law_cell_here", "_law_many"] (He.ga K "_law_names") d_l_names := ⟨F_l_names, He.glo_ok X G (cd.fact 19 rfl), F_l_names.bindsN fun _ _ _ _ _ _ us hl => match us, hl with | [_, _], _ => rfl⟩
  obtain ⟨d_l_words, F_l_words⟩ := cd.def_ 20 rfl
  have D_l_words : DefAt K mg "_law_words" sWords ["_law_cell_here", "_law_names_here"] (He.ga K "_law_words") d_l_words := ⟨F_l_words, He.glo_ok X G (cd.fact 20 rfl), F_l_words.bindsN fun _ _ _ _ _ _ us hl => match us, hl with | [_, _], _ => rfl⟩
  obtain ⟨d_l_store, F_l_store⟩ := cd.def_ 21 rfl
  have D_l_store : DefAt K mg "_law_store" sStore ["_law_cell_here", "_law_names_here", "_law_words_here"] (He.ga K "_law_store") d_l_store := ⟨F_l_store, He.glo_ok X G (cd.fact 21 rfl), F_l_store.bindsN fun _ _ _ _ _ _ us hl => match us, hl with | [_, _, _], _ => rfl⟩
  obtain ⟨d_l_teller, F_l_teller⟩ := cd.def_ 22 rfl
  have D_l_teller : DefAt K mg "_law_teller" sTeller ["_law_store_here", "_law_log"] (He.ga K "_law_teller") d_l_teller := ⟨F_l_teller, He.glo_ok X G (cd.fact 22 rfl), F_l_teller.bindsN fun _ _ _ _ _ _ us hl => match us, hl with | [_, _], _ => rfl⟩
  obtain ⟨d_l_paper, F_l_paper⟩ := cd.def_ 23 rfl
  have D_l_paper : DefAt K mg "_law_paper" sLPaper ["_law_line", "_law_word", "_law_known", "_law_store_here"] (He.ga K "_law_paper") d_l_paper := ⟨F_l_paper, He.glo_ok X G (cd.fact 23 rfl), F_l_paper.bindsN fun _ _ _ _ _ _ us hl => match us, hl with | [_, _, _, _], _ => rfl⟩
  obtain ⟨d_l_rests, F_l_rests⟩ := cd.def_ 24 rfl
  have D_l_rests : DefAt K mg "_law_rests" sLRests ["_law_paper_here", "_law_word"] (He.ga K "_law_rests") d_l_rests := ⟨F_l_rests, He.glo_ok X G (cd.fact 24 rfl), F_l_rests.bindsN fun _ _ _ _ _ _ us hl => match us, hl with | [_, _], _ => rfl⟩
  obtain ⟨d_l_whole, F_l_whole⟩ := cd.def_ 25 rfl
  have D_l_whole : DefAt K mg "_law_whole" sLWhole ["_law_found"] (He.ga K "_law_whole") d_l_whole := ⟨F_l_whole, He.glo_ok X G (cd.fact 25 rfl), F_l_whole.bindsN fun _ _ _ _ _ _ us hl => match us, hl with | [_], _ => rfl⟩
  obtain ⟨d_l_is_paper, F_l_is_paper⟩ := cd.def_ 26 rfl
  have D_l_is_paper : DefAt K mg "_law_is_paper" sLIsP ["_law_found", "_law_due"] (He.ga K "_law_is_paper") d_l_is_paper := ⟨F_l_is_paper, He.glo_ok X G (cd.fact 26 rfl), F_l_is_paper.bindsN fun _ _ _ _ _ _ us hl => match us, hl with | [_, _], _ => rfl⟩
  obtain ⟨d_l_begun, F_l_begun⟩ := cd.def_ 27 rfl
  have D_l_begun : DefAt K mg "_law_begun" sBegun ["_law_town", "_law_cell_here", "_law_names_here"] (He.ga K "_law_begun") d_l_begun := ⟨F_l_begun, He.glo_ok X G (cd.fact 27 rfl), F_l_begun.bindsN fun _ _ _ _ _ _ us hl => match us, hl with | [_, _, _], _ => rfl⟩
  obtain ⟨d_l_looked, F_l_looked⟩ := cd.def_ 28 rfl
  have D_l_looked : DefAt K mg "_law_looked" sLooked pLooked (He.ga K "_law_looked") d_l_looked := ⟨F_l_looked, He.glo_ok X G (cd.fact 28 rfl), F_l_looked.bindsN fun _ _ _ _ _ _ us hl => match us, hl with | [_, _, _, _, _, _], _ => rfl⟩
  obtain ⟨d_l_turned, F_l_turned⟩ := cd.def_ 29 rfl
  have D_l_turned : DefAt K mg "_law_turned" sTurned ["_law_store_here", "_law_cell_here"] (He.ga K "_law_turned") d_l_turned := ⟨F_l_turned, He.glo_ok X G (cd.fact 29 rfl), F_l_turned.bindsN fun _ _ _ _ _ _ us hl => match us, hl with | [_, _], _ => rfl⟩
  obtain ⟨d_l_round, F_l_round⟩ := cd.def_ 30 rfl
  have D_l_round : DefAt K mg "_law_round" sRound pRound (He.ga K "_law_round") d_l_round := ⟨F_l_round, He.glo_ok X G (cd.fact 30 rfl), F_l_round.bindsN fun _ _ _ _ _ _ us hl => match us, hl with | [_, _, _, _, _, _, _], _ => rfl⟩
  obtain ⟨d_l_sixty, F_l_sixty⟩ := cd.def_ 31 rfl
  have D_l_sixty : DefAt K mg "_law_sixty" sSixty ["_law_cell_here"] (He.ga K "_law_sixty") d_l_sixty := ⟨F_l_sixty, He.glo_ok X G (cd.fact 31 rfl), F_l_sixty.bindsN fun _ _ _ _ _ _ us hl => match us, hl with | [_], _ => rfl⟩
  obtain ⟨d_lw, F_lw⟩ := cd.def_ 32 rfl
  have D_lw : DefAt K mg "law" sLaw ["_law_script"] (He.ga K "law") d_lw := ⟨F_lw, He.glo_ok X G (cd.fact 32 rfl), F_lw.bindsN fun _ _ _ _ _ _ us hl => match us, hl with | [_], _ => rfl⟩
  obtain ⟨d_Hinit, F_Hinit⟩ := cd.def_ 33 rfl
  have M_Hinit : MethD K (He.ga K "House") "__init__" "House.__init__" sHInit _ (He.ma K (He.ga K "House") "__init__") d_Hinit := ⟨F_Hinit, He.meth_ok (cd.fact 33 rfl), F_Hinit.bindsN (ps := ["self"]) fun _ _ _ _ _ _ us hl => match us, hl with | [_], _ => rfl⟩
  obtain ⟨d_Hneed_kind, F_Hneed_kind⟩ := cd.def_ 34 rfl
  have M_Hneed_kind : MethD K (He.ga K "House") "need_kind" "House.need_kind" sHNK _ (He.ma K (He.ga K "House") "need_kind") d_Hneed_kind := ⟨F_Hneed_kind, He.meth_ok (cd.fact 34 rfl), F_Hneed_kind.bindsN (ps := ["self", "name"]) fun _ _ _ _ _ _ us hl => match us, hl with | [_, _], _ => rfl⟩
  obtain ⟨d_Hneed_elders, F_Hneed_elders⟩ := cd.def_ 35 rfl
  have M_Hneed_elders : MethD K (He.ga K "House") "need_elders" "House.need_elders" sHNE _ (He.ma K (He.ga K "House") "need_elders") d_Hneed_elders := ⟨F_Hneed_elders, He.meth_ok (cd.fact 35 rfl), F_Hneed_elders.bindsN (ps := ["self", "elders"]) fun _ _ _ _ _ _ us hl => match us, hl with | [_, _], _ => rfl⟩
  obtain ⟨d_Hmay_turn, F_Hmay_turn⟩ := cd.def_ 36 rfl
  have M_Hmay_turn : MethD K (He.ga K "House") "may_turn" "House.may_turn" sHMay _ (He.ma K (He.ga K "House") "may_turn") d_Hmay_turn := ⟨F_Hmay_turn, He.meth_ok (cd.fact 36 rfl), F_Hmay_turn.bindsN (ps := ["self", "turns"]) fun _ _ _ _ _ _ us hl => match us, hl with | [_, _], _ => rfl⟩
  obtain ⟨d_Hturn_all, F_Hturn_all⟩ := cd.def_ 37 rfl
  have M_Hturn_all : MethD K (He.ga K "House") "turn_all" "House.turn_all" sHTurn _ (He.ma K (He.ga K "House") "turn_all") d_Hturn_all := ⟨F_Hturn_all, He.meth_ok (cd.fact 37 rfl), F_Hturn_all.bindsN (ps := ["self", "turns"]) fun _ _ _ _ _ _ us hl => match us, hl with | [_, _], _ => rfl⟩
  obtain ⟨d_Hkinds, F_Hkinds⟩ := cd.def_ 38 rfl
  have M_Hkinds : MethD K (He.ga K "House") "kinds" "House.kinds" sHKinds _ (He.ma K (He.ga K "House") "kinds") d_Hkinds := ⟨F_Hkinds, He.meth_ok (cd.fact 38 rfl), F_Hkinds.bindsN (ps := ["self"]) fun _ _ _ _ _ _ us hl => match us, hl with | [_], _ => rfl⟩
  obtain ⟨d_Hline, F_Hline⟩ := cd.def_ 39 rfl
  have M_Hline : MethD K (He.ga K "House") "line" "House.line" sHLine _ (He.ma K (He.ga K "House") "line") d_Hline := ⟨F_Hline, He.meth_ok (cd.fact 39 rfl), F_Hline.bindsN (ps := ["self", "name"]) fun _ _ _ _ _ _ us hl => match us, hl with | [_, _], _ => rfl⟩
  obtain ⟨d_Finit, F_Finit⟩ := cd.def_ 40 rfl
  have M_Finit : MethD K (He.ga K "Facts") "__init__" "Facts.__init__" sFInit _ (He.ma K (He.ga K "Facts") "__init__") d_Finit := ⟨F_Finit, He.meth_ok (cd.fact 40 rfl), F_Finit.bindsN (ps := ["self", "teller"]) fun _ _ _ _ _ _ us hl => match us, hl with | [_, _], _ => rfl⟩
  obtain ⟨d_Fstrength, F_Fstrength⟩ := cd.def_ 41 rfl
  have M_Fstrength : MethD K (He.ga K "Facts") "strength" "Facts.strength" sFStr _ (He.ma K (He.ga K "Facts") "strength") d_Fstrength := ⟨F_Fstrength, He.meth_ok (cd.fact 41 rfl), F_Fstrength.bindsN (ps := ["self", "kind", "word"]) fun _ _ _ _ _ _ us hl => match us, hl with | [_, _, _], _ => rfl⟩
  obtain ⟨d_Fknown, F_Fknown⟩ := cd.def_ 42 rfl
  have M_Fknown : MethD K (He.ga K "Facts") "known" "Facts.known" sFKnown _ (He.ma K (He.ga K "Facts") "known") d_Fknown := ⟨F_Fknown, He.meth_ok (cd.fact 42 rfl), F_Fknown.bindsN (ps := ["self", "kind", "word"]) fun _ _ _ _ _ _ us hl => match us, hl with | [_, _, _], _ => rfl⟩
  obtain ⟨d_Ftell, F_Ftell⟩ := cd.def_ 43 rfl
  have M_Ftell : MethD K (He.ga K "Facts") "tell" "Facts.tell" sFTell _ (He.ma K (He.ga K "Facts") "tell") d_Ftell := ⟨F_Ftell, He.meth_ok (cd.fact 43 rfl), F_Ftell.bindsN (ps := ["self", "kind", "word", "one"]) fun _ _ _ _ _ _ us hl => match us, hl with | [_, _, _, _], _ => rfl⟩
  obtain ⟨d_Fforget, F_Fforget⟩ := cd.def_ 44 rfl
  have M_Fforget : MethD K (He.ga K "Facts") "forget" "Facts.forget" sFForget _ (He.ma K (He.ga K "Facts") "forget") d_Fforget := ⟨F_Fforget, He.meth_ok (cd.fact 44 rfl), F_Fforget.bindsN (ps := ["self", "kind", "word"]) fun _ _ _ _ _ _ us hl => match us, hl with | [_, _, _], _ => rfl⟩
  obtain ⟨d_Freads, F_Freads⟩ := cd.def_ 45 rfl
  have M_Freads : MethD K (He.ga K "Facts") "reads" "Facts.reads" sFReads _ (He.ma K (He.ga K "Facts") "reads") d_Freads := ⟨F_Freads, He.meth_ok (cd.fact 45 rfl), F_Freads.bindsN (ps := ["self"]) fun _ _ _ _ _ _ us hl => match us, hl with | [_], _ => rfl⟩
  obtain ⟨d_Tinit, F_Tinit⟩ := cd.def_ 46 rfl
  have M_Tinit : MethD K (He.ga K "Town") "__init__" "Town.__init__" sTInit _ (He.ma K (He.ga K "Town") "__init__") d_Tinit := ⟨F_Tinit, He.meth_ok (cd.fact 46 rfl), F_Tinit.bindsN (ps := ["self", "teller"]) fun _ _ _ _ _ _ us hl => match us, hl with | [_, _], _ => rfl⟩
  obtain ⟨d_Tkinds, F_Tkinds⟩ := cd.def_ 47 rfl
  have M_Tkinds : MethD K (He.ga K "Town") "kinds" "Town.kinds" sTKinds _ (He.ma K (He.ga K "Town") "kinds") d_Tkinds := ⟨F_Tkinds, He.meth_ok (cd.fact 47 rfl), F_Tkinds.bindsN (ps := ["self"]) fun _ _ _ _ _ _ us hl => match us, hl with | [_], _ => rfl⟩
  obtain ⟨d_Tline, F_Tline⟩ := cd.def_ 48 rfl
  have M_Tline : MethD K (He.ga K "Town") "line" "Town.line" sTLine _ (He.ma K (He.ga K "Town") "line") d_Tline := ⟨F_Tline, He.meth_ok (cd.fact 48 rfl), F_Tline.bindsN (ps := ["self", "name"]) fun _ _ _ _ _ _ us hl => match us, hl with | [_, _], _ => rfl⟩
  obtain ⟨d_Tneed_facts, F_Tneed_facts⟩ := cd.def_ 49 rfl
  have M_Tneed_facts : MethD K (He.ga K "Town") "need_facts" "Town.need_facts" sTNeed _ (He.ma K (He.ga K "Town") "need_facts") d_Tneed_facts := ⟨F_Tneed_facts, He.meth_ok (cd.fact 49 rfl), F_Tneed_facts.bindsN (ps := ["self", "facts"]) fun _ _ _ _ _ _ us hl => match us, hl with | [_, _], _ => rfl⟩
  obtain ⟨d_Tmay_shift, F_Tmay_shift⟩ := cd.def_ 50 rfl
  have M_Tmay_shift : MethD K (He.ga K "Town") "may_shift" "Town.may_shift" sTMay _ (He.ma K (He.ga K "Town") "may_shift") d_Tmay_shift := ⟨F_Tmay_shift, He.meth_ok (cd.fact 50 rfl), F_Tmay_shift.bindsN (ps := ["self", "turns", "facts"]) fun _ _ _ _ _ _ us hl => match us, hl with | [_, _, _], _ => rfl⟩
  obtain ⟨d_Ttell_facts, F_Ttell_facts⟩ := cd.def_ 51 rfl
  have M_Ttell_facts : MethD K (He.ga K "Town") "tell_facts" "Town.tell_facts" sTTell _ (He.ma K (He.ga K "Town") "tell_facts") d_Ttell_facts := ⟨F_Ttell_facts, He.meth_ok (cd.fact 51 rfl), F_Ttell_facts.bindsN (ps := ["self", "facts"]) fun _ _ _ _ _ _ us hl => match us, hl with | [_, _], _ => rfl⟩
  obtain ⟨d_Tshift, F_Tshift⟩ := cd.def_ 52 rfl
  have M_Tshift : MethD K (He.ga K "Town") "shift" "Town.shift" sTShift _ (He.ma K (He.ga K "Town") "shift") d_Tshift := ⟨F_Tshift, He.meth_ok (cd.fact 52 rfl), F_Tshift.bindsN (ps := ["self", "turns", "facts"]) fun _ _ _ _ _ _ us hl => match us, hl with | [_, _, _], _ => rfl⟩
  obtain ⟨d_Tknown, F_Tknown⟩ := cd.def_ 53 rfl
  have M_Tknown : MethD K (He.ga K "Town") "known" "Town.known" sTKnown _ (He.ma K (He.ga K "Town") "known") d_Tknown := ⟨F_Tknown, He.meth_ok (cd.fact 53 rfl), F_Tknown.bindsN (ps := ["self", "kind", "word"]) fun _ _ _ _ _ _ us hl => match us, hl with | [_, _, _], _ => rfl⟩
  obtain ⟨d_Treads, F_Treads⟩ := cd.def_ 54 rfl
  have M_Treads : MethD K (He.ga K "Town") "reads" "Town.reads" sTReads _ (He.ma K (He.ga K "Town") "reads") d_Treads := ⟨F_Treads, He.meth_ok (cd.fact 54 rfl), F_Treads.bindsN (ps := ["self"]) fun _ _ _ _ _ _ us hl => match us, hl with | [_], _ => rfl⟩
  obtain ⟨d_Hadd, F_Hadd⟩ := cd.def_ 55 rfl
  have F_Hadd : FunD K "add" "House.add" (defArgs sHAdd) (defBody sHAdd) (defScope sHAdd) [.non] [] (He.ma K (He.ga K "House") "add") d_Hadd := F_Hadd
  obtain ⟨ds_Hadd, v_Hadd, b_Hadd⟩ := F_Hadd.binds1 (ps := ["self", "name", "elders", "at"]) 3 0 (fun z => by cases z) rfl (fun T kV doc pm an cdv ct us its h1 h2 => match us, its, h1, h2 with | [_, _, _], [_], _, _ => ⟨_, rfl, rfl⟩)
  have v_Hadd := vals_non v_Hadd
  subst v_Hadd
  obtain ⟨ds0_Hadd, v0_Hadd, b0_Hadd⟩ := F_Hadd.binds1 (ps := ["self", "name", "elders", "at"]) 4 1 (fun z => by cases z) rfl (fun T kV doc pm an cdv ct us its h1 h2 => match us, its, h1, h2 with | [_, _, _, _], [_], _, _ => ⟨_, rfl, rfl⟩)
  have v0_Hadd : ds0_Hadd = [] := by cases v0_Hadd; rfl
  subst v0_Hadd
  have M_Hadd : MethN K (He.ga K "House") "add" "House.add" sHAdd ["self", "name", "elders", "at"] (He.ma K (He.ga K "House") "add") d_Hadd := ⟨F_Hadd, He.meth_ok (cd.fact 55 rfl), b_Hadd, b0_Hadd⟩
  obtain ⟨d_Tadd, F_Tadd⟩ := cd.def_ 56 rfl
  have F_Tadd : FunD K "add" "Town.add" (defArgs sTAdd) (defBody sTAdd) (defScope sTAdd) [.non] [] (He.ma K (He.ga K "Town") "add") d_Tadd := F_Tadd
  obtain ⟨ds_Tadd, v_Tadd, b_Tadd⟩ := F_Tadd.binds1 (ps := ["self", "name", "elders", "at"]) 3 0 (fun z => by cases z) rfl (fun T kV doc pm an cdv ct us its h1 h2 => match us, its, h1, h2 with | [_, _, _], [_], _, _ => ⟨_, rfl, rfl⟩)
  have v_Tadd := vals_non v_Tadd
  subst v_Tadd
  obtain ⟨ds0_Tadd, v0_Tadd, b0_Tadd⟩ := F_Tadd.binds1 (ps := ["self", "name", "elders", "at"]) 4 1 (fun z => by cases z) rfl (fun T kV doc pm an cdv ct us its h1 h2 => match us, its, h1, h2 with | [_, _, _, _], [_], _, _ => ⟨_, rfl, rfl⟩)
  have v0_Tadd : ds0_Tadd = [] := by cases v0_Tadd; rfl
  subst v0_Tadd
  have M_Tadd : MethN K (He.ga K "Town") "add" "Town.add" sTAdd ["self", "name", "elders", "at"] (He.ma K (He.ga K "Town") "add") d_Tadd := ⟨F_Tadd, He.meth_ok (cd.fact 56 rfl), b_Tadd, b0_Tadd⟩
  obtain ⟨d_Tlook, F_Tlook⟩ := cd.def_ 57 rfl
  have F_Tlook : FunD K "look" "Town.look" (defArgs sTLook) (defBody sTLook) (defScope sTLook) [.non] [] (He.ma K (He.ga K "Town") "look") d_Tlook := F_Tlook
  obtain ⟨ds_Tlook, v_Tlook, b_Tlook⟩ := F_Tlook.binds1 (ps := ["self", "kind", "word", "start"]) 3 0 (fun z => by cases z) rfl (fun T kV doc pm an cdv ct us its h1 h2 => match us, its, h1, h2 with | [_, _, _], [_], _, _ => ⟨_, rfl, rfl⟩)
  have v_Tlook := vals_non v_Tlook
  subst v_Tlook
  obtain ⟨ds0_Tlook, v0_Tlook, b0_Tlook⟩ := F_Tlook.binds1 (ps := ["self", "kind", "word", "start"]) 4 1 (fun z => by cases z) rfl (fun T kV doc pm an cdv ct us its h1 h2 => match us, its, h1, h2 with | [_, _, _, _], [_], _, _ => ⟨_, rfl, rfl⟩)
  have v0_Tlook : ds0_Tlook = [] := by cases v0_Tlook; rfl
  subst v0_Tlook
  have M_Tlook : MethN K (He.ga K "Town") "look" "Town.look" sTLook ["self", "kind", "word", "start"] (He.ma K (He.ga K "Town") "look") d_Tlook := ⟨F_Tlook, He.meth_ok (cd.fact 57 rfl), b_Tlook, b0_Tlook⟩
  obtain ⟨x1, xx⟩ := Bool.and_eq_true_iff.mp (show (_ && _) = true from c.more)
  obtain ⟨x2, xx⟩ := Bool.and_eq_true_iff.mp xx
  obtain ⟨x3, xx⟩ := Bool.and_eq_true_iff.mp xx
  obtain ⟨x4, xx⟩ := Bool.and_eq_true_iff.mp xx
  obtain ⟨x5, xx⟩ := Bool.and_eq_true_iff.mp xx
  obtain ⟨x6, xx⟩ := Bool.and_eq_true_iff.mp xx
  obtain ⟨x7, x8⟩ := Bool.and_eq_true_iff.mp xx
  have x8 := of_decide_eq_true x8
  obtain ⟨d_Ring, F_Ring⟩ := cd.def_ 58 rfl
  have E_Ring : ErrAt K mg "Ring" "Ring.__init__" sRingI ["self", "steps"] (He.ga K "Ring") (He.ma K (He.ga K "Ring") "__init__") (He.ga K "LookError") d_Ring := ⟨oexB_ok x1, He.eqO_ok (He.ba (cd.fact 58 (f := .meth "Ring" "__init__") rfl)).1, of_decide_eq_true x5, He.glo_ok X G (cd.fact 59 rfl), xfB_ok x3, He.exm_ok (cd.fact 60 rfl), F_Ring, F_Ring.bindsN fun _ _ _ _ _ _ us hl => match us, hl with | [_, _], _ => rfl, He.glo_ok X G (cd.fact 64 rfl), ⟨_, midB_ok x7⟩, He.noat_ok (cd.fact 103 rfl), He.noat_ok (cd.fact 104 rfl)⟩
  obtain ⟨d_Tangled, F_Tangled⟩ := cd.def_ 59 rfl
  have E_Tangled : ErrAt K mg "Tangled" "Tangled.__init__" sTangI ["self", "name", "steps"] (He.ga K "Tangled") (He.ma K (He.ga K "Tangled") "__init__") (He.ga K "LookError") d_Tangled := ⟨oexB_ok x2, He.eqO_ok (He.ba (cd.fact 61 (f := .meth "Tangled" "__init__") rfl)).1, of_decide_eq_true x6, He.glo_ok X G (cd.fact 62 rfl), xfB_ok x4, He.exm_ok (cd.fact 63 rfl), F_Tangled, F_Tangled.bindsN fun _ _ _ _ _ _ us hl => match us, hl with | [_, _, _], _ => rfl, He.glo_ok X G (cd.fact 64 rfl), ⟨_, midB_ok x7⟩, He.noat_ok (cd.fact 105 rfl), He.noat_ok (cd.fact 106 rfl)⟩
  have h_len : mg "len" = none := He.free_ok X G (cd.fact 66 rfl)
  have h_range : mg "range" = none := He.free_ok X G (cd.fact 67 rfl)
  have h_list : mg "list" = none := He.free_ok X G (cd.fact 68 rfl)
  have h_isinstance : mg "isinstance" = none := He.free_ok X G (cd.fact 69 rfl)
  have h_str : mg "str" = none := He.free_ok X G (cd.fact 70 rfl)
  have h_int : mg "int" = none := He.free_ok X G (cd.fact 71 rfl)
  have h_bool : mg "bool" = none := He.free_ok X G (cd.fact 72 rfl)
  have h_enumerate : mg "enumerate" = none := He.free_ok X G (cd.fact 73 rfl)
  have h_reversed : mg "reversed" = none := He.free_ok X G (cd.fact 74 rfl)
  have h_any : mg "any" = none := He.free_ok X G (cd.fact 75 rfl)
  have h_all : mg "all" = none := He.free_ok X G (cd.fact 76 rfl)
  have h_dict : mg "dict" = none := He.free_ok X G (cd.fact 77 rfl)
  have h_tuple : mg "tuple" = none := He.free_ok X G (cd.fact 78 rfl)
  obtain ⟨t_LONGEST, h_LONGEST⟩ := He.int_ok X G (cd.fact 79 (f := .int "LONGEST" 8) rfl)
  obtain ⟨t_MOST_ELDERS, h_MOST_ELDERS⟩ := He.int_ok X G (cd.fact 80 (f := .int "MOST_ELDERS" 5) rfl)
  obtain ⟨t_MOST_KINDS, h_MOST_KINDS⟩ := He.int_ok X G (cd.fact 81 (f := .int "MOST_KINDS" 12) rfl)
  obtain ⟨t_FIRM, h_FIRM⟩ := He.int_ok X G (cd.fact 82 (f := .int "FIRM" 2) rfl)
  obtain ⟨t_lets, h_lets⟩ := He.str_ok X G (cd.fact 83 (f := .str "LETTERS" lets) rfl)
  have C_House : HCls K (He.ga K "House") := ⟨He.cls_ok (cd.fact 85 rfl), He.noat_ok (cd.fact 87 rfl), He.noat_ok (cd.fact 88 rfl), He.noat_ok (cd.fact 89 rfl)⟩
  have K_House : Mk K (He.ga K "House") (He.ma K (He.ga K "House") "__init__") := He.mkr_ok (cd.fact 86 rfl)
  have g_House : mg "House" = some (.ref (He.ga K "House")) := He.glo_ok X G (cd.fact 84 rfl)
  have C_Facts : FCls K (He.ga K "Facts") := ⟨He.cls_ok (cd.fact 91 rfl), He.noat_ok (cd.fact 93 rfl), He.noat_ok (cd.fact 94 rfl), He.noat_ok (cd.fact 95 rfl)⟩
  have K_Facts : Mk K (He.ga K "Facts") (He.ma K (He.ga K "Facts") "__init__") := He.mkr_ok (cd.fact 92 rfl)
  have g_Facts : mg "Facts" = some (.ref (He.ga K "Facts")) := He.glo_ok X G (cd.fact 90 rfl)
  have C_Town : TCls K (He.ga K "Town") := ⟨He.cls_ok (cd.fact 97 rfl), He.noat_ok (cd.fact 99 rfl), He.noat_ok (cd.fact 100 rfl), He.noat_ok (cd.fact 101 rfl), He.noat_ok (cd.fact 102 rfl)⟩
  have K_Town : Mk K (He.ga K "Town") (He.ma K (He.ga K "Town") "__init__") := He.mkr_ok (cd.fact 98 rfl)
  have g_Town : mg "Town" = some (.ref (He.ga K "Town")) := He.glo_ok X G (cd.fact 96 rfl)
  have g_none : mg "_law_none" = some (.ref (He.ga K "_law_none")) := He.glo_ok X G (cd.fact 65 rfl)
  have e := hfa.symm.trans D_lw.g
  cases e
  refine ⟨d_lw, [He.cT K ("Town", some "look"), He.cT K ("_law_teller", none)], spLaw K (TT0 K), fun p hp => ?_, fun p hp => ?_, fun p hp => ?_, fun s u => F_lw.bindsA (ps := ["_law_script"]) (fun _ _ _ _ _ _ us hl => match us, hl with | [_], _ => rfl) s [u] rfl, fun H a ns hl hb ht hS => ⟨a, ns, rfl, hS, fun p hp => ?_, fun _ => rfl⟩, fun base XB GB hTB => ?_⟩
  · rcases List.mem_cons.mp hp with z | z
    · rw [z]; exact c.empty _ (by simp [tf])
    · rw [List.mem_singleton.mp z]; exact c.empty _ (by simp [tf])
  · rcases List.mem_cons.mp hp with z | z
    · rw [z]; exact c.out _ (by simp [tf])
    · rw [List.mem_singleton.mp z]; exact c.out _ (by simp [tf])
  · rcases List.mem_cons.mp hp with z | z
    · rw [z]; exact PySem.W.codeHd_of_K X (c.hd _ (by simp [tf]))
    · rw [List.mem_singleton.mp z]; exact PySem.W.codeHd_of_K X (c.hd _ (by simp [tf]))
  · rcases List.mem_cons.mp hp with z | z
    · rw [z]; exact TabN.nil (ht _ (List.mem_cons_self))
    · rw [List.mem_singleton.mp z]; exact TabN.nil (ht _ (List.mem_cons_of_mem _ (List.mem_singleton_self _)))
  have TBl := hTB _ (List.mem_cons_self)
  have TBt := hTB _ (List.mem_cons_of_mem _ (List.mem_singleton_self _))
  have m1 : ((He.cT K ("Town", some "look")).2, (fun _ _ => qLook : Nat → Nat → Str)) ∈ TT0 K := List.mem_cons_self
  have m2 : ((He.cT K ("_law_teller", none)).2, (fun _ _ => qAsk : Nat → Nat → Str)) ∈ TT0 K := List.mem_cons_of_mem _ (List.mem_singleton_self _)
  have u1 : ∀ p ∈ TT0 K, p.1 = (He.cT K ("Town", some "look")).2 → p.2 = fun _ _ => qLook := fun p hp e => by
    rcases List.mem_cons.mp hp with z | z
    · rw [z]
    · rw [List.mem_singleton.mp z] at e; exact absurd e.symm x8
  have u2 : ∀ p ∈ TT0 K, p.1 = (He.cT K ("_law_teller", none)).2 → p.2 = fun _ _ => qAsk := fun p hp e => by
    rcases List.mem_cons.mp hp with z | z
    · rw [z] at e; exact absurd e x8
    · rw [List.mem_singleton.mp z]
  have cl := code_of (p := ("Town", some "look")) F_Tlook
  have ct := code_of (p := ("_law_teller", none)) F_l_teller
  let P := law0.prog
  have G_isname := ok_isName (P := P) (w := w) (base := base) D_is_name h_isinstance h_str h_len h_LONGEST h_lets
  have G_isnum := ok_isNum (P := P) (w := w) (base := base) D_is_number h_isinstance h_int h_bool
  have G_merged := ok_merged (P := P) (w := w) (base := base) D_merged h_enumerate h_reversed h_list h_any D_next_free D_is_free D_rows_without D_ring_among D_claim_on E_Ring
  have G_loop := ok_loop (P := P) (w := w) (base := base) D_loop_of D_ring_below
  have G_take := ok_take2 (P := P) (w := w) (base := base) D_take_line D_rows_above h_list h_all D_merged G_merged E_Ring
  have G_lines := ok_lines (P := P) (w := w) (base := base) D_lines_of D_loop_of G_loop D_take_line G_take E_Tangled h_list
  have G_turn := ok_inTurn (P := P) (w := w) (base := base) D_in_turn
  have G_hne := ok_hne (P := P) (w := w) (base := base) C_House M_Hneed_elders M_Hneed_kind h_len h_MOST_ELDERS
  have G_hadd := ok_hadd (P := P) (w := w) (base := base) C_House M_Hadd D_is_name G_isname M_Hneed_elders G_hne D_in_turn G_turn D_lines_of G_lines h_len h_list h_dict h_MOST_KINDS
  have G_hturn := ok_hturn (P := P) (w := w) (base := base) C_House M_Hturn_all M_Hmay_turn D_in_turn G_turn D_lines_of G_lines h_dict
  have G_tinit := ok_tinit (P := P) (w := w) (base := base) (c := c0 K) C_Town C_House C_Facts M_Tinit M_Hinit K_House g_House M_Finit K_Facts g_Facts
  have G_tadd := ok_tadd (P := P) (w := w) (base := base) (c := c0 K) C_Town C_House M_Tadd M_Hadd G_hadd
  have G_tkinds := ok_tkinds (P := P) (w := w) (base := base) (c := c0 K) C_Town C_House M_Tkinds M_Hkinds h_list
  have G_tline := ok_tline (P := P) (w := w) (base := base) (c := c0 K) C_Town C_House M_Tline M_Hline M_Hneed_kind h_list
  have G_tknown := ok_tknown (P := P) (w := w) (base := base) (c := c0 K) C_Town C_Facts M_Tknown M_Fknown D_is_name G_isname
  have G_treads := ok_treads (P := P) (w := w) (base := base) (c := c0 K) C_Town C_Facts M_Treads M_Freads h_list
  have G_told := ok_isTold (P := P) (w := w) (base := base) D_is_told D_is_number G_isnum h_FIRM
  have G_tneed := ok_tneed (P := P) (w := w) (base := base) (c := c0 K) C_Town M_Tneed_facts D_is_name G_isname D_is_told G_told
  have G_tmay := ok_tmay (P := P) (w := w) (base := base) (c := c0 K) C_Town C_House M_Tmay_shift M_Hmay_turn M_Tneed_facts G_tneed
  have G_ttell := ok_ttell (P := P) (w := w) (base := base) (c := c0 K) C_Town C_Facts M_Ttell_facts D_is_shaken M_Fknown M_Fforget M_Ftell D_is_number G_isnum
  have G_tshift := ok_tshift (P := P) (w := w) (base := base) (c := c0 K) C_Town C_House M_Tshift M_Tmay_shift G_tmay M_Tline G_tline M_Tkinds G_tkinds M_Hturn_all G_hturn M_Ttell_facts G_ttell h_any
  have G_paper := ok_paper (P := P) (w := w) (base := base) (c := c0 K) (q := qAsk) (q2 := qLook) (TT := TT0 K) D_paper_of C_Town C_Facts M_Fstrength h_tuple
  have G_look := ok_look (P := P) (w := w) (base := base) (c := c0 K) (q := qAsk) (TT := TT0 K) C_Town C_House C_Facts M_Tlook M_Tline G_tline D_is_name G_isname D_paper_of G_paper TBl cl m1 (fun _ _ => rfl) u1
  have G_cell := ok_cell (P := P) (w := w) (base := base) D_l_cell h_len
  have G_mix := ok_mix (P := P) (w := w) (base := base) D_l_mix h_range
  have G_names := ok_names (P := P) (w := w) (base := base) D_l_names D_l_mix h_range h_len h_list
  have G_words := ok_words (P := P) (w := w) (base := base) D_l_words D_l_mix D_l_names h_range h_len h_list
  have G_store := ok_store (P := P) (w := w) (base := base) D_l_store D_l_mix h_range h_len
  have G_teller := ok_teller (P := P) (w := w) (base := base) (TT := TT0 K) D_l_teller TBt ct m2 (fun _ _ => rfl) u2
  have G_lpaper := ok_lpaper (P := P) (w := w) (base := base) D_l_paper h_tuple
  have G_lrests := ok_lrests (P := P) (w := w) (base := base) D_l_rests
  have G_lwhole := ok_lwhole (P := P) (w := w) (base := base) D_l_whole h_isinstance h_int h_bool
  have G_lisp := ok_lisp (P := P) (w := w) (base := base) D_l_is_paper D_l_whole h_isinstance h_int h_bool h_tuple h_len
  have G_begun := ok_begun (P := P) (w := w) (base := base) (c := c0 K) C_Town D_l_begun D_l_mix G_mix M_Tadd G_tadd h_range h_len E_Tangled.g E_Tangled.self
  have G_turned := ok_turned (P := P) (w := w) (base := base) D_l_turned D_l_mix h_range h_len h_list
  have G_looked := ok_looked (P := P) (w := w) (base := base) (c := c0 K) C_Town D_l_looked D_l_paper G_lpaper D_l_rests G_lrests D_l_is_paper G_lisp D_l_whole G_lwhole M_Tline G_tline M_Tlook G_look M_Tknown G_tknown M_Treads G_treads h_len h_isinstance h_list
  have G_round := ok_round (P := P) (w := w) (base := base) (c := c0 K) C_Town D_l_round D_l_mix G_mix D_l_looked G_looked D_l_turned G_turned D_l_paper G_lpaper D_l_rests G_lrests M_Tline G_tline M_Tknown G_tknown M_Tshift G_tshift h_len h_range h_list
  have G_sixty := ok_sixty (P := P) (w := w) (base := base) (c := c0 K) C_Town D_l_sixty D_l_mix G_mix D_l_names G_names M_Tinit G_tinit K_Town g_Town M_Tadd G_tadd M_Tknown G_tknown M_Tshift G_tshift M_Treads G_treads g_none h_range h_list
  exact ok_law (P := P) (w := w) (base := base) (c := c0 K) C_Town D_lw D_l_mix G_mix D_l_names G_names M_Tinit G_tinit K_Town g_Town M_Tadd G_tadd M_Treads G_treads M_Tlook G_look M_Tknown G_tknown M_Tshift G_tshift D_l_cell G_cell D_l_words G_words D_l_store G_store D_l_teller G_teller D_l_begun G_begun D_l_round G_round D_l_sixty G_sixty h_range
end TM
open PySem PySem.W PySem.Calls PyProof.Rows
theorem PySem.Challenge.cw_taglook_k45_doubted_and_read_again_holds : PySem.Challenge.rw_taglook_k45_doubted_and_read_again.Holds := by
  w_on; o_law
  refine HandSHeadRun.head_any (r := OpenLaw.row PySem.Challenge.rw_taglook_k45_doubted_and_read_again) (q := view (OpenLaw.row PySem.Challenge.rw_taglook_k45_doubted_and_read_again).prog [63]) (H := TM.hk) (ob := TM.ob) (M := 20000) (loose := TM.loose) (d := HandSHeadRun.topDef (OpenLaw.row PySem.Challenge.rw_taglook_k45_doubted_and_read_again).prog 63) (kwd := []) TM.ob_eq
    (by kernel_rfl) (fun s => by kernel_rfl) TM.run (by kernel_rfl) (by kernel_rfl) (by kernel_rfl) (by rfl) (by first | assumption | decide +kernel) (by decide +kernel) ⟨rfl, rfl, rfl, rfl, rfl, by decide +kernel⟩ ?hw ?hc
  case hw => w_witness2
  case hc =>
    refine LamX.walk_ofTsE (l := PySem.Challenge.rw_taglook_k45_doubted_and_read_again) (n := 63) (k := 9) (x := "_law_script") (CX := fun _ => L2.CX0) rfl (by decide) (by kernel_rfl) ⟨rfl, by decide, by decide⟩ ?F (fun _ _ _ _ _ z => z)
    intro w mg fa h Y G hmg0
    obtain ⟨K, KX, c⟩ := Y
    have hmg : mg ("law" : PySem.Str) = some (.ref fa) := by
      have e : (HandSHeadRun.topDef (OpenLaw.row PySem.Challenge.rw_taglook_k45_doubted_and_read_again).prog 63).name = ("law" : PySem.Str) := by kernel_rfl
      rw [← e]
      exact hmg0
    exact ⟨K, KX, TM.facts KX G hmg c⟩
