import PyProof.Rows.All
import Wide.All
import OpenK.AllK
import Wide.FinOn
import Lean
import HandS.Head0
import HandS.Head1
import HandS.Head2
import HandS.HeadEnd
import HandS.HeadHook1
import HandS.HeadHook2
import HandS.ForMost
import HandS.Deep
import HandS.ExcInit
import HandS.IsInst
import HandS.TupSets
import KE.SortData
import HandS.SetBool
import HandS.Conv
import KE.KDictSum
import HandS.NoneIn
import HandS.ExcField
import HandS.ExcIs
import HandS.ExcOwn
import HandS.ExcValue
import KE.KExcIs
import KE.KAssignIn
import HandS.Defaults
import HandS.ExcCtx
import HandS.HotCalls
import PySem.Challenge.RW_whencehold_k59_told_answers
set_option Elab.async false
set_option linter.all false
set_option maxRecDepth 100000
set_option maxHeartbeats 4000000
namespace DL
open PySem PySem.Spec L2
open PyProof.Rows hiding St
/-- the i-th of a class's body -/
def inClass (st : Stmt) (i : Nat) : Stmt := match st with
  | .ClassDef _ _ _ body _ _ _ _ _ _ _ => body.getD i (.Pass ⟨0, 0, 0, 0⟩)
  | _ => .Pass ⟨0, 0, 0, 0⟩
def topS (i : Nat) : Stmt := PySem.Challenge.pw_whencehold_k59_told_answers.main.body.getD i (.Pass ⟨0, 0, 0, 0⟩)
abbrev s_ask : Stmt := topS 53
abbrev s_read : Stmt := topS 54
abbrev s_nodes : Stmt := topS 55
abbrev s_law_draw : Stmt := topS 68
abbrev s_law_pick : Stmt := topS 69
abbrev s_law_read : Stmt := topS 71
abbrev s_law_choices : Stmt := topS 73
abbrev s_law_some_name : Stmt := topS 75
abbrev s_law_hit : Stmt := topS 78
abbrev s_names_in : Stmt := topS 56
abbrev s_binit : Stmt := inClass (topS 65) 0
abbrev s_contains : Stmt := inClass (topS 65) 2
abbrev s_struck : Stmt := inClass (topS 65) 6
abbrev s_without : Stmt := topS 60
abbrev s_two_readings : Stmt := topS 58
abbrev s_freed : Stmt := topS 61
abbrev s_ninit : Stmt := inClass (topS 63) 0
abbrev s_nlen : Stmt := inClass (topS 63) 1
abbrev s_paper : Stmt := inClass (topS 63) 3
abbrev s_stale : Stmt := inClass (topS 63) 4
abbrev s_hanging : Stmt := inClass (topS 63) 5
abbrev s_note : Stmt := inClass (topS 63) 2
abbrev s_strike : Stmt := inClass (topS 63) 6
abbrev s_law_pool : Stmt := topS 67
abbrev s_law_same : Stmt := topS 70
abbrev s_law_inside : Stmt := topS 72
abbrev s_law_fold : Stmt := topS 74
abbrev s_law_paper : Stmt := topS 76
abbrev s_law_strikes : Stmt := topS 77
abbrev s_law_gone : Stmt := topS 79
abbrev s_law_stale : Stmt := topS 80
abbrev s_law_hanging : Stmt := topS 81
abbrev s_law_freed : Stmt := topS 82
abbrev s_law_book : Stmt := topS 83
abbrev s_law_asked : Stmt := topS 84
abbrev s_law_both : Stmt := topS 85
abbrev s_law_noted : Stmt := topS 87
abbrev s_law_behind : Stmt := topS 88
abbrev s_law_chain : Stmt := topS 89
abbrev s_law_kinds : Stmt := topS 90
abbrev s_law_made : Stmt := topS 91
abbrev s_law_texts : Stmt := topS 92
abbrev s_law_numbers : Stmt := topS 93
abbrev s_law_errors : Stmt := topS 94
abbrev s_law : Stmt := topS 95
abbrev s_BadName : Stmt := inClass (topS 3) 0
abbrev s_BadPaper : Stmt := inClass (topS 4) 0
abbrev s_TooWide : Stmt := inClass (topS 6) 0
abbrev s_NotPositive : Stmt := inClass (topS 8) 0
abbrev s_NotSettling : Stmt := inClass (topS 9) 0
abbrev s_NamedTwice : Stmt := inClass (topS 10) 0
abbrev s_NotLooked : Stmt := inClass (topS 11) 0
abbrev s_BadProgram : Stmt := inClass (topS 12) 0
abbrev s_BadLine : Stmt := inClass (topS 13) 0
abbrev s_BadMoment : Stmt := inClass (topS 15) 0
abbrev s_NoCell : Stmt := inClass (topS 16) 0
abbrev s_NoExchange : Stmt := inClass (topS 17) 0
abbrev s_TooMany : Stmt := inClass (topS 18) 0
abbrev s_BadModulus : Stmt := inClass (topS 19) 0
abbrev s_NoLine : Stmt := inClass (topS 20) 0
abbrev s_ShutLine : Stmt := inClass (topS 21) 0
abbrev s_NoPart : Stmt := inClass (topS 22) 0
abbrev s_BadSize : Stmt := inClass (topS 23) 0
abbrev s_BadText : Stmt := inClass (topS 25) 0
abbrev s_NotTold : Stmt := inClass (topS 26) 0
abbrev s_UnlikeSizes : Stmt := inClass (topS 27) 0
abbrev s_Unlike : Stmt := inClass (topS 28) 0
abbrev s_Unfit : Stmt := inClass (topS 30) 0
abbrev s_BadBase : Stmt := inClass (topS 31) 0
abbrev s_NotNeeded : Stmt := inClass (topS 32) 0
abbrev s_NotEnough : Stmt := inClass (topS 33) 0
abbrev s_NoTable : Stmt := inClass (topS 34) 0
abbrev s_NotShown : Stmt := inClass (topS 35) 0
abbrev s_NotPlain : Stmt := inClass (topS 36) 0
abbrev s_NotShuttable : Stmt := inClass (topS 39) 0
abbrev s_NoNote : Stmt := inClass (topS 40) 0
abbrev s_BadStep : Stmt := inClass (topS 41) 0
abbrev s_NoHouse : Stmt := inClass (topS 42) 0
abbrev s_NoLetter : Stmt := inClass (topS 43) 0
abbrev s_NoNotice : Stmt := inClass (topS 44) 0
abbrev s_NotShownIn : Stmt := inClass (topS 45) 0
abbrev s_BadNest : Stmt := inClass (topS 46) 0
abbrev s_NoExhibit : Stmt := inClass (topS 50) 0
abbrev s_Faulty : Stmt := inClass (topS 51) 0
abbrev s_law_refused : Stmt := topS 86
end DL
set_option Elab.async false
set_option linter.all false
set_option maxRecDepth 100000
set_option maxHeartbeats 4000000
/-! A0: what the head tells, as lists. -/
namespace DL.As
open PySem PySem.Spec PyProof.Rows L2
def d1 (x : Str) (st : Stmt) : He.DefD := ⟨(x, none), x, x, defArgs st, defBody st, defScope st, [], []⟩
def dm (C m q : Str) (st : Stmt) : He.DefD := ⟨(C, some m), m, q, defArgs st, defBody st, defScope st, [], []⟩
def fn0 : List He.DefD := [d1 "ask" s_ask, d1 "read" s_read, d1 "_nodes" s_nodes, d1 "_law_draw" s_law_draw, d1 "_law_pick" s_law_pick, d1 "_law_read" s_law_read, d1 "_law_choices" s_law_choices, d1 "_law_some_name" s_law_some_name, d1 "_law_hit" s_law_hit, d1 "names_in" s_names_in, d1 "without" s_without, d1 "two_readings" s_two_readings, d1 "freed" s_freed, d1 "_law_pool" s_law_pool, d1 "_law_same" s_law_same, d1 "_law_inside" s_law_inside, d1 "_law_fold" s_law_fold, d1 "_law_paper" s_law_paper, d1 "_law_strikes" s_law_strikes, d1 "_law_gone" s_law_gone, d1 "_law_stale" s_law_stale, d1 "_law_hanging" s_law_hanging, d1 "_law_freed" s_law_freed, d1 "_law_book" s_law_book, d1 "_law_asked" s_law_asked, d1 "_law_both" s_law_both, d1 "_law_noted" s_law_noted, d1 "_law_behind" s_law_behind, d1 "_law_chain" s_law_chain, d1 "_law_kinds" s_law_kinds]
def fn1 : List He.DefD := [d1 "_law_made" s_law_made, d1 "_law_texts" s_law_texts, d1 "_law_numbers" s_law_numbers, d1 "_law_errors" s_law_errors, d1 "law" s_law, d1 "_law_refused" s_law_refused]
def fn2 : List He.DefD := [⟨("StrikeBook", some "__init__"), "__init__", "StrikeBook.__init__", defArgs s_binit, defBody s_binit, defScope s_binit, [.adr (He.dflAt ("StrikeBook", some "__init__") 0)], []⟩, ⟨("Notes", some "__init__"), "__init__", "Notes.__init__", defArgs s_ninit, defBody s_ninit, defScope s_ninit, [], []⟩, dm "StrikeBook" "__contains__" "StrikeBook.__contains__" s_contains, dm "StrikeBook" "struck" "StrikeBook.struck" s_struck, dm "Notes" "__len__" "Notes.__len__" s_nlen, dm "Notes" "paper" "Notes.paper" s_paper, dm "Notes" "stale" "Notes.stale" s_stale, dm "Notes" "hanging" "Notes.hanging" s_hanging, dm "Notes" "note" "Notes.note" s_note, dm "Notes" "strike" "Notes.strike" s_strike]
def fn3 : List He.DefD := [dm "BadName" "__init__" "BadName.__init__" s_BadName, dm "BadPaper" "__init__" "BadPaper.__init__" s_BadPaper, dm "TooWide" "__init__" "TooWide.__init__" s_TooWide, dm "NotPositive" "__init__" "NotPositive.__init__" s_NotPositive, dm "NotSettling" "__init__" "NotSettling.__init__" s_NotSettling, dm "NamedTwice" "__init__" "NamedTwice.__init__" s_NamedTwice, dm "NotLooked" "__init__" "NotLooked.__init__" s_NotLooked, dm "BadProgram" "__init__" "BadProgram.__init__" s_BadProgram, dm "BadLine" "__init__" "BadLine.__init__" s_BadLine, dm "BadMoment" "__init__" "BadMoment.__init__" s_BadMoment, dm "NoCell" "__init__" "NoCell.__init__" s_NoCell, dm "NoExchange" "__init__" "NoExchange.__init__" s_NoExchange, dm "TooMany" "__init__" "TooMany.__init__" s_TooMany, dm "BadModulus" "__init__" "BadModulus.__init__" s_BadModulus, dm "NoLine" "__init__" "NoLine.__init__" s_NoLine, dm "ShutLine" "__init__" "ShutLine.__init__" s_ShutLine, dm "NoPart" "__init__" "NoPart.__init__" s_NoPart, dm "BadSize" "__init__" "BadSize.__init__" s_BadSize, dm "BadText" "__init__" "BadText.__init__" s_BadText, dm "NotTold" "__init__" "NotTold.__init__" s_NotTold, dm "UnlikeSizes" "__init__" "UnlikeSizes.__init__" s_UnlikeSizes, dm "Unlike" "__init__" "Unlike.__init__" s_Unlike, dm "Unfit" "__init__" "Unfit.__init__" s_Unfit, dm "BadBase" "__init__" "BadBase.__init__" s_BadBase, dm "NotNeeded" "__init__" "NotNeeded.__init__" s_NotNeeded, dm "NotEnough" "__init__" "NotEnough.__init__" s_NotEnough, dm "NoTable" "__init__" "NoTable.__init__" s_NoTable, dm "NotShown" "__init__" "NotShown.__init__" s_NotShown, dm "NotPlain" "__init__" "NotPlain.__init__" s_NotPlain, dm "NotShuttable" "__init__" "NotShuttable.__init__" s_NotShuttable]
def fn4 : List He.DefD := [dm "NoNote" "__init__" "NoNote.__init__" s_NoNote, dm "BadStep" "__init__" "BadStep.__init__" s_BadStep, dm "NoHouse" "__init__" "NoHouse.__init__" s_NoHouse, dm "NoLetter" "__init__" "NoLetter.__init__" s_NoLetter, dm "NoNotice" "__init__" "NoNotice.__init__" s_NoNotice, dm "NotShownIn" "__init__" "NotShownIn.__init__" s_NotShownIn, dm "BadNest" "__init__" "BadNest.__init__" s_BadNest, dm "NoExhibit" "__init__" "NoExhibit.__init__" s_NoExhibit, dm "Faulty" "__init__" "Faulty.__init__" s_Faulty]
def fnA : List He.DefD := fn0 ++ fn1 ++ fn2
def fnB : List He.DefD := fn3 ++ fn4
def fa0 : List He.Fa := [.glo "ask", .glo "read", .glo "_nodes", .glo "_law_draw", .glo "_law_pick", .glo "_law_read", .glo "_law_choices", .glo "_law_some_name", .glo "_law_hit", .glo "names_in", .glo "without", .glo "two_readings", .glo "freed", .glo "_law_pool", .glo "_law_same", .glo "_law_inside", .glo "_law_fold", .glo "_law_paper", .glo "_law_strikes", .glo "_law_gone", .glo "_law_stale", .glo "_law_hanging", .glo "_law_freed", .glo "_law_book", .glo "_law_asked", .glo "_law_both", .glo "_law_noted", .glo "_law_behind", .glo "_law_chain", .glo "_law_kinds"]
def fa1 : List He.Fa := [.glo "_law_made", .glo "_law_texts", .glo "_law_numbers", .glo "_law_errors", .glo "law", .glo "_law_refused", .glo "BadName", .glo "BadPaper", .glo "BadReadings", .glo "TooWide", .glo "TooGreat", .glo "NotPositive", .glo "NotSettling", .glo "NamedTwice", .glo "NotLooked", .glo "BadProgram", .glo "BadLine", .glo "NoExample", .glo "BadMoment", .glo "NoCell", .glo "NoExchange", .glo "TooMany", .glo "BadModulus", .glo "NoLine", .glo "ShutLine", .glo "NoPart", .glo "BadSize", .glo "BadView", .glo "BadText", .glo "NotTold"]
def fa2 : List He.Fa := [.glo "UnlikeSizes", .glo "Unlike", .glo "UnlikeHeads", .glo "Unfit", .glo "BadBase", .glo "NotNeeded", .glo "NotEnough", .glo "NoTable", .glo "NotShown", .glo "NotPlain", .glo "NotOpen", .glo "BadEntry", .glo "NotShuttable", .glo "NoNote", .glo "BadStep", .glo "NoHouse", .glo "NoLetter", .glo "NoNotice", .glo "NotShownIn", .glo "BadNest", .glo "UnlikeHouses", .glo "OtherHouse", .glo "NotTaken", .glo "NoExhibit", .glo "Faulty", .glo "HoldError", .glo "Notes", .glo "StrikeBook", .free "len", .free "abs"]
def fa3 : List He.Fa := [.free "sum", .free "any", .free "int", .free "list", .free "max", .free "range", .free "enumerate", .free "isinstance", .free "tuple", .free "bool", .free "str", .free "sorted", .free "set", .free "ValueError", .cls "Notes", .cls "StrikeBook", .noat "Notes" "_papers", .noat "StrikeBook" "_bounds", .noat "StrikeBook" "_kept", .mkr "Notes", .mkr "StrikeBook", .meth "StrikeBook" "__contains__", .meth "StrikeBook" "struck", .meth "Notes" "__len__", .meth "Notes" "paper", .meth "Notes" "stale", .meth "Notes" "hanging", .meth "Notes" "note", .meth "Notes" "strike", .exc "BadReadings"]
def fa4 : List He.Fa := [.exc "TooGreat", .exc "NoExample", .exc "BadView", .exc "UnlikeHeads", .exc "NotOpen", .exc "BadEntry", .exc "UnlikeHouses", .exc "OtherHouse", .exc "NotTaken"]
def fa : List He.Fa := fa0 ++ fa1 ++ fa2 ++ fa3 ++ fa4
def exN0 : List Str := ["BadName", "BadPaper", "BadReadings", "TooWide", "TooGreat", "NotPositive", "NotSettling", "NamedTwice", "NotLooked", "BadProgram", "BadLine", "NoExample", "BadMoment", "NoCell", "NoExchange", "TooMany", "BadModulus", "NoLine", "ShutLine", "NoPart", "BadSize", "BadView", "BadText", "NotTold", "UnlikeSizes"]
def exN1 : List Str := ["Unlike", "UnlikeHeads", "Unfit", "BadBase", "NotNeeded", "NotEnough", "NoTable", "NotShown", "NotPlain", "NotOpen", "BadEntry", "NotShuttable", "NoNote", "BadStep", "NoHouse", "NoLetter", "NoNotice", "NotShownIn", "BadNest", "UnlikeHouses", "OtherHouse", "NotTaken", "NoExhibit", "Faulty"]
def exN : List Str := exN0 ++ exN1
def exF0 : List (Str × List Str) := [("BadName", ["text"]), ("BadPaper", ["text"]), ("TooWide", ["count"]), ("NotPositive", ["choice", "name"]), ("NotSettling", ["choice"]), ("NamedTwice", ["table"]), ("NotLooked", ["table", "key"]), ("BadProgram", ["text"]), ("BadLine", ["text"]), ("BadMoment", ["moment"]), ("NoCell", ["cell"]), ("NoExchange", ["number"]), ("TooMany", ["what"]), ("BadModulus", ["modulus"]), ("NoLine", ["number"]), ("ShutLine", ["number"]), ("NoPart", ["start", "width"]), ("BadSize", ["size"]), ("BadText", ["place"]), ("NotTold", ["start", "width"]), ("UnlikeSizes", ["first", "second"]), ("Unlike", ["start", "width"]), ("Unfit", ["number", "word"]), ("BadBase", ["base"]), ("NotNeeded", ["cell"]), ("NotEnough", ["start", "width"]), ("NoTable", ["table"]), ("NotShown", ["number"]), ("NotPlain", ["number"]), ("NotShuttable", ["number"])]
def exF1 : List (Str × List Str) := [("NoNote", ["index"]), ("BadStep", ["place"]), ("NoHouse", ["house"]), ("NoLetter", ["key"]), ("NoNotice", ["key"]), ("NotShownIn", ["house", "number"]), ("BadNest", ["word", "house", "number"]), ("NoExhibit", ["index"]), ("Faulty", ["first", "second"])]
def exF : List (Str × List Str) := exF0 ++ exF1
def exs (K : PySem.W.Frag) : List Addr := exN.map (He.ga K)
def oexB (K : PySem.W.Frag) (C : Addr) : Bool := (match K.lookup C with
  | some ⟨.type c, _, .cls cd, sl⟩ => (match cd.mro, sl.toList with
    | .ref C' :: bm, [_, _, _, _, some (.builtin n), _] => decide (c = "type") && (decide (C' = C) && (decide (n = "ValueError.__new__") && (!cd.hasDel && (cd.hasDict && decide (bm = .ref (He.ga K "HoldError") :: PySem.HandSPX.veTail)))))
    | _, _ => false)
  | _ => false) && (He.eqO (PySem.W.findIn K (.ref C) "__setattr__") (some (some (.builtin "object.__setattr__"))) && (decide (PySem.W.subIn K (.ref C) (.type "BaseException") = some true) && (decide (PySem.W.typeIn K (.ref C) = some (.type "type")) && PySem.W.keepIn K (.ref C))))
def excB (K : PySem.W.Frag) (C : Addr) : Bool := He.eqO (PySem.W.findIn K (.ref C) "__getattribute__") (some (some (.builtin "BaseException.__getattribute__"))) && (He.eqO (PySem.W.findIn K (.ref C) "__getattr__") (some none) && (decide (PySem.W.subIn K (.ref C) (.type "BaseException") = some true) && (PySem.W.hasDictIn K C && (He.eqO (PySem.W.findIn K (.ref C) "__class__") (some (some (.builtin "object.__class__"))) && decide (PySem.W.mroIn K C (.type "object") = some true)))))
def initB (K : PySem.W.Frag) (p : Str × List Str) : Bool := p.2.all (fun f => He.eqO (PySem.W.findIn K (.ref (He.ga K p.1)) f) (some none)) && (He.eqO (PySem.W.findIn K (.ref (He.ga K p.1)) "__init__") (some (some (.ref (He.ma K (He.ga K p.1) "__init__")))) && decide (PySem.W.typeIn K (.ref (He.ma K (He.ga K p.1) "__init__")) = some (.type "function")))
def isB2 (K : PySem.W.Frag) : Bool := !(exs K).contains (He.ga K "HoldError") && (exs K).all fun C => decide (PySem.W.kitOne K (.ref C) (.ref (He.ga K "HoldError")) = some true) && decide (PySem.W.kitOne K (.ref C) (.type "ValueError") = some true)
def ex (K : PySem.W.Frag) : Bool := decide ((exs K).Nodup) && ((exs K).all (fun C => oexB K C && (excB K C && xfB K C)) && (exF.all (initB K) && isB2 K))
/-! ### the part of the heap that is looked at: the module's names, their code, a class's methods -/
def fnsG (g : Addr → Option Obj) (a : Addr) : List Addr := match g a with
  | some ⟨_, _, .func fd, _⟩ => a :: (He.refV fd.code ++ He.refV fd.defaults)
  | _ => []
def objsG (g : Addr → Option Obj) (a : Addr) : List Addr := match g a with
  | some ⟨_, _, .func fd, _⟩ => a :: He.refV fd.code
  | some ⟨_, _, .cls cd, _⟩ => a :: cd.ns :: (match g cd.ns with
    | some ⟨_, _, .dict es _, _⟩ => es.toList.flatMap fun e => match e.val with
      | .ref f => fnsG g f
      | _ => []
    | _ => [])
  | _ => []
def adr (g : Addr → Option Obj) : List Addr := mainGlobals :: (match g mainGlobals with
  | some ⟨_, _, .dict es _, _⟩ => es.toList.flatMap fun e => match e.val with
    | .ref a => objsG g a
    | _ => []
  | _ => [])
def KY (g : Addr → Option Obj) : PySem.W.Frag := He.frG g (adr g)
def obK (K : PySem.W.Frag) : He.AlD × He.AlD × Bool := (He.obsD fa fnA K, He.obsD [] fnB K, ex K)
def hk : PySem.W.Hook where
  α := He.AlD × He.AlD × Bool
  obs := fun s => obK (KY s.heap.get?)
  val := fun _ => (He.valD fnA, He.valD fnB, true)
  says := fun _ h => ∃ K : PySem.W.Frag, K.In h ∧ He.SaysD fa fnA K ∧ He.SaysD [] fnB K ∧ ex K = true
  of := fun _ _ e => ⟨_, He.frG_in, congrArg (fun z : He.AlD × He.AlD × Bool => z.1) e, congrArg (fun z : He.AlD × He.AlD × Bool => z.2.1) e, congrArg (fun z : He.AlD × He.AlD × Bool => z.2.2) e⟩
  keeps := fun _ _ _ ⟨K, hK, c⟩ k => ⟨K, PySem.W.Frag.In.keeps hK k, c⟩
def ob (s : PySem.W.SharedT) : He.AlD × He.AlD × Bool := obK (KY (HandSHeadRun.getT s))
theorem ob_eq (s : PySem.W.SharedT) : ob s = hk.obs s.abs := by
  have e : HandSHeadRun.getT s = s.abs.heap.get? := funext (HandSHeadRun.getT_eq s)
  unfold ob
  rw [e]
  rfl
theorem comb {α β γ δ ε ζ : Type} {x : Option α} {f : α → β} {g : α → γ} {h : α → δ} {k : α → ε} {l : α → ζ} {a : β} {b : γ} {c : δ} {d : ε} {e : ζ} (h1 : x.map (fun s => (f s, g s, l s)) = some (a, b, e)) (h2 : x.map h = some c) (h3 : x.map k = some d) : x.map (fun s => (f s, g s, h s, k s, l s)) = some (a, b, c, d, e) := by
  cases x with
  | none => cases h1
  | some s =>
    have q1 := Option.some.inj h1
    have q2 : h s = c := Option.some.inj h2
    have q3 : k s = d := Option.some.inj h3
    obtain ⟨r1, r2⟩ := Prod.mk.inj q1
    obtain ⟨r2, r3⟩ := Prod.mk.inj r2
    show some (f s, g s, h s, k s, l s) = _
    rw [r1, r2, r3, q2, q3]
end DL.As
set_option Elab.async false
set_option linter.all false
set_option maxRecDepth 100000
set_option maxHeartbeats 0
namespace DL.As
open PySem PySem.W PySem.Calls PyProof.Rows HandSHeadRun
abbrev R : OpenRow := OpenLaw.row PySem.Challenge.rw_whencehold_k59_told_answers
abbrev qv : Program := view R.prog [95]
def ns0 : List PySem.Str := (["_wall", "HoldError", "BadName", "BadPaper", "BadReadings", "TooWide", "TooGreat", "NotPositive", "NotSettling", "NamedTwice", "NotLooked", "BadProgram", "BadLine", "NoExample", "BadMoment", "NoCell", "NoExchange", "TooMany", "BadModulus", "NoLine", "ShutLine", "NoPart", "BadSize", "BadView", "BadText", "NotTold", "UnlikeSizes", "Unlike", "UnlikeHeads", "Unfit", "BadBase", "NotNeeded", "NotEnough", "NoTable", "NotShown"] : List String).map PySem.Str.ofString
def ns1 : List PySem.Str := (["NotPlain", "NotOpen", "BadEntry", "NotShuttable", "NoNote", "BadStep", "NoHouse", "NoLetter", "NoNotice", "NotShownIn", "BadNest", "UnlikeHouses", "OtherHouse", "NotTaken", "NoExhibit", "Faulty", "ask", "read", "_nodes", "names_in", "two_readings", "without", "freed", "Notes", "StrikeBook", "_law_pool", "_law_draw", "_law_pick", "_law_same", "_law_read", "_law_inside", "_law_choices", "_law_fold", "_law_some_name", "_law_paper"] : List String).map PySem.Str.ofString
def ns2 : List PySem.Str := (["_law_strikes", "_law_hit", "_law_gone", "_law_stale", "_law_hanging", "_law_freed", "_law_book", "_law_asked", "_law_both", "_law_refused", "_law_noted", "_law_behind", "_law_chain", "_law_kinds", "_law_made", "_law_texts", "_law_numbers", "_law_errors"] : List String).map PySem.Str.ofString
def names : List PySem.Str := ns0 ++ ns1 ++ ns2
theorem runA (w : World) (os : OsState) : (endF (stepQ (denQ tabQ) R.prog w) 15000 R.prog w os).map (fun s => (looksF R.prog (boot_heap w.params) s.abs, seenQ qv names (importedModules R.prog.main.body) (fun s => xlAt qv [] s && recOk R.toRowW.records s) s.abs, ex (KY (getT s)))) = some (true, openGood qv names, true) := by kernel_rfl
theorem runB (w : World) (os : OsState) : (endF (stepQ (denQ tabQ) R.prog w) 15000 R.prog w os).map (fun s => He.obsD fa fnA (KY (getT s))) = some (He.valD fnA) := by kernel_rfl
theorem runC (w : World) (os : OsState) : (endF (stepQ (denQ tabQ) R.prog w) 15000 R.prog w os).map (fun s => He.obsD [] fnB (KY (getT s))) = some (He.valD fnB) := by kernel_rfl
theorem run (w : World) : RunEq R qv hk ob 15000 names w := fun os => comb (runA w os) (runB w os) (runC w os)
end DL.As
set_option Elab.async false
set_option linter.all false
set_option maxRecDepth 100000
set_option maxHeartbeats 1000000
/-! D0: values as data; what a state is (slots, owned lists), what an expression, a statement, a def computes, as plain functions. -/
namespace DL
open PySem PySem.Spec L2
open PyProof.Rows hiding St
abbrev PD := PyData
/-- a number for each exception class -/
class CN where
  n : Addr → Nat
variable [CN]

/-! ### data in a heap -/
mutual
inductive Dk (H : Hp) : V → PD → Prop
  | non : Dk H .non .none
  | bl (b : Bool) : Dk H (.bl b) (.bool b)
  | int (i : Int) : Dk H (.int i) (.int i)
  | str (x : Str) : Dk H (.str x) (.str x)
  | lst {a : Addr} {xs : List V} {ds : List PD} : H a = some (.lst xs) → DkAll H xs ds → Dk H (.ref a) (.list ds)
  | tup {a : Addr} {xs : List V} {ds : List PD} : H a = some (.tup xs) → DkAll H xs ds → Dk H (.ref a) (.tuple ds)
  /-- an exception of the class at C with fields; without any -/
  | exc {a C dx : Addr} {fs : List (Str × V)} {ds : List PD} {kv : List (PD × PD)} : H a = some (exo a C (some dx)) → H dx = some (exd dx fs) → DkAll H (fs.map (·.2)) ds → kv = (.int (CN.n C : Nat), .list ds) :: fs.map (fun p => (.str p.1, .none)) → Dk H (.ref a) (.dict kv)
  | exc0 {a C : Addr} {kv : List (PD × PD)} : H a = some (exo a C none) → kv = [(.int (CN.n C : Nat), .none)] → Dk H (.ref a) (.dict kv)
inductive DkAll (H : Hp) : List V → List PD → Prop
  | nil : DkAll H [] []
  | cons {v : V} {vs : List V} {d : PD} {ds : List PD} : Dk H v d → DkAll H vs ds → DkAll H (v :: vs) (d :: ds)
end
mutual
theorem Dk.mono {G G' : Hp} (s : Same G G') : ∀ {v : V} {d : PD}, Dk G v d → Dk G' v d
  | _, _, .non => .non
  | _, _, .bl b => .bl b
  | _, _, .int i => .int i
  | _, _, .str x => .str x
  | _, _, .lst h r => .lst (s _ _ h) (DkAll.mono s r)
  | _, _, .tup h r => .tup (s _ _ h) (DkAll.mono s r)
  | _, _, .exc h h2 r e => .exc (s _ _ h) (s _ _ h2) (DkAll.mono s r) e
  | _, _, .exc0 h e => .exc0 (s _ _ h) e
theorem DkAll.mono {G G' : Hp} (s : Same G G') : ∀ {vs : List V} {ds : List PD}, DkAll G vs ds → DkAll G' vs ds
  | _, _, .nil => .nil
  | _, _, .cons h r => .cons (Dk.mono s h) (DkAll.mono s r)
end
mutual
theorem Dk.dp {K : PySem.W.Frag} {H : Hp} : ∀ {v : V} {d : PD}, Dk H v d → d.canLay0 = true → Dp K H v d
  | _, _, .non, _ => .non
  | _, _, .bl b, _ => .bl b
  | _, _, .int i, _ => .int i
  | _, _, .str x, _ => .str x
  | _, _, .lst h r, e => .lst (SqL.of h) (DkAll.dp r (by rw [PyData.canLay0] at e; exact e))
  | _, _, .tup h r, e => .tup (SqT.of h) (DkAll.dp r (by rw [PyData.canLay0] at e; exact e))
  | _, _, .exc _ _ _ _, e => by rw [PyData.canLay0] at e; cases e
  | _, _, .exc0 _ _, e => by rw [PyData.canLay0] at e; cases e
theorem DkAll.dp {K : PySem.W.Frag} {H : Hp} : ∀ {vs : List V} {ds : List PD}, DkAll H vs ds → PyData.canLayAll0 ds = true → DpAll K H vs ds
  | _, _, .nil, _ => .nil
  | _, _, .cons h r, e => by
    rw [PyData.canLayAll0, Bool.and_eq_true] at e
    exact .cons (Dk.dp h e.1) (DkAll.dp r e.2)
end
theorem DkAll.length {H : Hp} : ∀ {vs : List V} {ds : List PD}, DkAll H vs ds → vs.length = ds.length
  | _, _, .nil => rfl
  | _, _, .cons _ r => congrArg (· + 1) (DkAll.length r)
theorem DkAll.get {H : Hp} : ∀ {vs : List V} {ds : List PD} {i : Nat} {d : PD}, DkAll H vs ds → ds[i]? = some d → ∃ v, vs[i]? = some v ∧ Dk H v d
  | _, _, 0, _, .cons h _, e => by simp at e; subst e; exact ⟨_, rfl, h⟩
  | _, _, i + 1, d, .cons _ r, e => by
    obtain ⟨v, h1, h2⟩ := DkAll.get (i := i) (d := d) r (by simpa using e)
    exact ⟨v, by simpa using h1, h2⟩
theorem DkAll.get' {H : Hp} : ∀ {vs : List V} {ds : List PD} {i : Nat} {v : V}, DkAll H vs ds → vs[i]? = some v → ∃ d, ds[i]? = some d ∧ Dk H v d
  | _, _, 0, _, .cons h _, e => by simp at e; subst e; exact ⟨_, rfl, h⟩
  | _, _, i + 1, d, .cons _ r, e => by
    obtain ⟨v, h1, h2⟩ := DkAll.get' (i := i) (v := d) r (by simpa using e)
    exact ⟨v, by simpa using h1, h2⟩
theorem DkAll.append {H : Hp} : ∀ {vs us : List V} {ds es : List PD}, DkAll H vs ds → DkAll H us es → DkAll H (vs ++ us) (ds ++ es)
  | _, _, _, _, .nil, s => s
  | _, _, _, _, .cons h r, s => .cons h (DkAll.append r s)
theorem DkAll.snoc {H : Hp} {vs : List V} {ds : List PD} {v : V} {d : PD} (r : DkAll H vs ds) (h : Dk H v d) : DkAll H (vs ++ [v]) (ds ++ [d]) := r.append (.cons h .nil)
theorem DkAll.take {H : Hp} : ∀ (n : Nat) {vs : List V} {ds : List PD}, DkAll H vs ds → DkAll H (vs.take n) (ds.take n)
  | 0, _, _, _ => .nil
  | _ + 1, _, _, .nil => .nil
  | n + 1, _, _, .cons h r => .cons h (DkAll.take n r)
theorem DkAll.drop {H : Hp} : ∀ (n : Nat) {vs : List V} {ds : List PD}, DkAll H vs ds → DkAll H (vs.drop n) (ds.drop n)
  | 0, _, _, r => r
  | _ + 1, _, _, .nil => .nil
  | n + 1, _, _, .cons _ r => DkAll.drop n r
theorem DkAll.set {H : Hp} {v : V} {d : PD} (h : Dk H v d) : ∀ (i : Nat) {vs : List V} {ds : List PD}, DkAll H vs ds → DkAll H (vs.set i v) (ds.set i d)
  | _, _, _, .nil => .nil
  | 0, _, _, .cons _ r => .cons h r
  | i + 1, _, _, .cons q r => .cons q (DkAll.set h i r)
theorem DkAll.ints {H : Hp} : ∀ {vs : List V} {ns : List Int}, DkAll H vs (ns.map PyData.int) → vs = ns.map V.int
  | _, [], .nil => rfl
  | _, n :: ns, .cons h r => by cases h; rw [DkAll.ints r]; rfl
theorem DkAll.of_ints {H : Hp} : ∀ (ns : List Int), DkAll H (ns.map V.int) (ns.map PyData.int)
  | [] => .nil
  | n :: ns => .cons (.int n) (DkAll.of_ints ns)
theorem DkAll.bools {H : Hp} : ∀ {vs : List V} {ns : List Bool}, DkAll H vs (ns.map PyData.bool) → vs = ns.map V.bl
  | _, [], .nil => rfl
  | _, n :: ns, .cons h r => by cases h; rw [DkAll.bools r]; rfl

/-- data without a heap -/
def scalarD : PD → Bool
  | .none => true | .bool _ => true | .int _ => true | .str _ => true | _ => false
theorem Dk.scalar {H H' : Hp} {v : V} {d : PD} (h : Dk H v d) (s : scalarD d = true) : Dk H' v d := by
  cases h with
  | non => exact .non
  | bl b => exact .bl b
  | int i => exact .int i
  | str x => exact .str x
  | lst _ _ => cases s
  | tup _ _ => cases s
  | exc _ _ _ _ => cases s
  | exc0 _ _ => cases s
theorem DkAll.scalar {H H' : Hp} : ∀ {vs : List V} {ds : List PD}, DkAll H vs ds → ds.all scalarD = true → DkAll H' vs ds
  | _, _, .nil, _ => .nil
  | _, _, .cons h r, s => by
    rw [List.all_cons, Bool.and_eq_true] at s
    exact .cons (h.scalar s.1) (DkAll.scalar r s.2)

/-! ### what is not owned -/
open Classical in
noncomputable def hid (H : Hp) (M : Addr → Prop) : Hp := fun a => if M a then none else H a
theorem hid_some {H : Hp} {M : Addr → Prop} {a : Addr} {o : HO} : hid H M a = some o ↔ ¬ M a ∧ H a = some o := by
  unfold hid
  by_cases h : M a
  · rw [if_pos h]
    exact ⟨fun z => (nomatch z), fun z => absurd h z.1⟩
  · rw [if_neg h]
    exact ⟨fun z => ⟨h, z⟩, fun z => z.2⟩
theorem hid_same {H : Hp} {M : Addr → Prop} : Same (hid H M) H := fun a o h => (hid_some.mp h).2

/-! ### the language: opaque objects, owned resources -/
structure Lang where
  Ob : Type
  rep : Hp → V → Ob → Prop
  mono : ∀ {G G' : Hp} {v : V} {o : Ob}, Same G G' → rep G v o → rep G' v o
  Ow : Type
  /-- the heap, what of it is not owned, the value, the resource, its objects -/
  orep : Hp → Hp → V → Ow → (Addr → Prop) → Prop
  omono : ∀ {H H' G G' : Hp} {v : V} {w : Ow} {f : Addr → Prop}, (∀ a o, f a → H a = some o → H' a = some o) → Same G G' → orep H G v w f → orep H' G' v w f
  odom : ∀ {H G : Hp} {v : V} {w : Ow} {f : Addr → Prop}, orep H G v w f → ∀ a, f a → ∃ o, H a = some o
  /-- how it is read while it stands still -/
  shr : Ow → Option Ob
  shrOk : ∀ {H G G' : Hp} {v : V} {w : Ow} {k : Ob} {f : Addr → Prop}, shr w = some k → orep H G v w f → (∀ a o, f a → H a = some o → G' a = some o) → Same G G' → rep G' v k

variable (L : Lang)
inductive DV where
  | d (x : PD)
  | ob (o : L.Ob)
inductive OW where
  | lst (ds : List PD)
  | res (w : L.Ow)
/-- a slot: not known; a value; what the frame owns (par: the first argument, lent by the caller) -/
inductive SV where
  | un
  | dv (x : DV L)
  | own (par : Bool) (w : OW L)
inductive RV where
  | dv (x : DV L)
  | own (w : OW L)
variable {L}
abbrev DV.int (i : Int) : DV L := .d (.int i)
abbrev DV.bool (b : Bool) : DV L := .d (.bool b)
abbrev SV.d (x : PD) : SV L := .dv (.d x)
abbrev RV.d (x : PD) : RV L := .dv (.d x)

variable (L)
def RepV (G : Hp) (v : V) : DV L → Prop
  | .d x => Dk G v x
  | .ob o => L.rep G v o
def OwnAt (H : Hp) (M : Addr → Prop) (v : V) (w : OW L) (f : Addr → Prop) : Prop :=
  match w with
  | .lst ds => ∃ a xs, v = .ref a ∧ (∀ x, f x ↔ x = a) ∧ H a = some (.lst xs) ∧ DkAll (hid H M) xs ds
  | .res w => L.orep H (hid H M) v w f
variable {L}
theorem RepV.mono {G G' : Hp} {v : V} : ∀ {x : DV L}, Same G G' → RepV L G v x → RepV L G' v x
  | .d _, s, h => Dk.mono s h
  | .ob _, s, h => L.mono s h
theorem OwnAt.mono {H H' : Hp} {M M' : Addr → Prop} {v : V} {w : OW L} {f : Addr → Prop} (k : ∀ a o, f a → H a = some o → H' a = some o) (s : Same (hid H M) (hid H' M')) (h : OwnAt L H M v w f) : OwnAt L H' M' v w f := by
  cases w with
  | lst ds =>
    obtain ⟨a, xs, e, hf, ha, r⟩ := h
    exact ⟨a, xs, e, hf, k a _ ((hf a).mpr rfl) ha, r.mono s⟩
  | res w => exact L.omono k s h
theorem OwnAt.dom {H : Hp} {M : Addr → Prop} {v : V} {w : OW L} {f : Addr → Prop} (h : OwnAt L H M v w f) : ∀ a, f a → ∃ o, H a = some o := by
  cases w with
  | lst ds =>
    obtain ⟨a, xs, e, hf, ha, r⟩ := h
    intro x hx
    rw [(hf x).mp hx]
    exact ⟨_, ha⟩
  | res w => exact L.odom h

/-! ### a frame's state -/
variable (L)
def SlotOk (p0 : Option V) (H : Hp) (M : Addr → Prop) (o : Option V) (s : SV L) (f : Addr → Prop) : Prop :=
  match s with
  | .un => ∀ a, ¬ f a
  | .dv d => (∀ a, ¬ f a) ∧ ∃ v, o = some v ∧ RepV L (hid H M) v d
  | .own k w => ∃ v, o = some v ∧ OwnAt L H M v w f ∧ (k = true → p0 = some v)
structure Rp (p0 : Option V) (H : Hp) (M : Addr → Prop) (ft : Nat → Addr → Prop) (σ : St) (δ : List (SV L)) : Prop where
  len : σ.length = δ.length
  slot : ∀ (i : Nat) (s : SV L), δ[i]? = some s → SlotOk L p0 H M (σ[i]?.join) s (ft i)
  bnd : ∀ i a, ft i a → i < δ.length
  inM : ∀ i a, ft i a → M a
  dis : ∀ i j a, ft i a → ft j a → i = j
variable {L}
structure Step (H : Hp) (M : Addr → Prop) (ft : Nat → Addr → Prop) (H' : Hp) (M' : Addr → Prop) (ft' : Nat → Addr → Prop) : Prop where
  ext : Same (hid H M) (hid H' M')
  keep : ∀ a o, M a → (∀ i, ¬ ft i a) → H a = some o → H' a = some o ∧ M' a ∧ ∀ i, ¬ ft' i a
theorem Step.refl (H : Hp) (M : Addr → Prop) (ft : Nat → Addr → Prop) : Step H M ft H M ft := ⟨Same.refl _, fun a o hm hf h => ⟨h, hm, hf⟩⟩
theorem Step.trans {H H1 H2 : Hp} {M M1 M2 : Addr → Prop} {ft ft1 ft2 : Nat → Addr → Prop} (a : Step H M ft H1 M1 ft1) (b : Step H1 M1 ft1 H2 M2 ft2) : Step H M ft H2 M2 ft2 :=
  ⟨a.ext.trans b.ext, fun x o hm hf h => by
    obtain ⟨h1, m1, f1⟩ := a.keep x o hm hf h
    exact b.keep x o m1 f1 h1⟩
/-- new since then: not there, or the frame's own -/
def Fresh (H : Hp) (ft : Nat → Addr → Prop) (a : Addr) : Prop := H a = none ∨ ∃ i, ft i a
theorem Fresh.back {H H1 : Hp} {M M1 : Addr → Prop} {ft ft1 : Nat → Addr → Prop} {a : Addr} (s : Step H M ft H1 M1 ft1) (hM : ∀ i a, ft1 i a → M1 a) (h : Fresh H1 ft1 a) : Fresh H ft a := by
  by_cases e : H a = none
  · exact .inl e
  · obtain ⟨o, e⟩ := Option.ne_none_iff_exists'.mp e
    by_cases hf : ∃ i, ft i a
    · exact .inr hf
    · exfalso
      have hf' : ∀ i, ¬ ft i a := fun i z => hf ⟨i, z⟩
      by_cases hm : M a
      · obtain ⟨h1, m1, f1⟩ := s.keep a o hm hf' e
        rcases h with h | ⟨i, h⟩
        · rw [h1] at h; cases h
        · exact f1 i h
      · have q := hid_some.mp (s.ext a o (hid_some.mpr ⟨hm, e⟩))
        rcases h with h | ⟨i, h⟩
        · rw [q.2] at h; cases h
        · exact q.1 (hM i a h)
variable (L)
def ResOk (H : Hp) (ft : Nat → Addr → Prop) (H' : Hp) (M' : Addr → Prop) (ft' : Nat → Addr → Prop) (v : V) (r : RV L) : Prop :=
  match r with
  | .dv d => RepV L (hid H' M') v d
  | .own w => ∃ f, OwnAt L H' M' v w f ∧ ∀ a, f a → M' a ∧ (∀ i, ¬ ft' i a) ∧ Fresh H ft a

/-! ### what an expression, a test, arguments, a statement compute -/
abbrev Ev := List (SV L) → Option (RV L × List (SV L))
abbrev Et := List (SV L) → Option (Bool × List (SV L))
abbrev Ea := List (SV L) → Option (List (DV L) × List (SV L))
inductive Fl where
  | nx | bk | ct
  | rt (r : RV L)
abbrev Es := List (SV L) → Option (Fl L × List (SV L))
def SndE (f : Ev L) (t : TE) : Prop := ∀ (p0 : Option V) (σ : St) (H : Hp) (M : Addr → Prop) (ft : Nat → Addr → Prop) (δ : List (SV L)) (r : RV L) (δ' : List (SV L)), Rp L p0 H M ft σ δ → f δ = some (r, δ') →
  ∀ Q : VK, (∀ v H' M' ft', Step H M ft H' M' ft' → Rp L p0 H' M' ft' σ δ' → ResOk L H ft H' M' ft' v r → Q v H') → t σ H Q
def SndT (f : Et L) (t : TT) : Prop := ∀ (p0 : Option V) (σ : St) (H : Hp) (M : Addr → Prop) (ft : Nat → Addr → Prop) (δ : List (SV L)) (r : Bool) (δ' : List (SV L)), Rp L p0 H M ft σ δ → f δ = some (r, δ') →
  ∀ Q : Bool → Hp → Prop, (∀ H' M' ft', Step H M ft H' M' ft' → Rp L p0 H' M' ft' σ δ' → Q r H') → t σ H Q
def RepAll (G : Hp) : List V → List (DV L) → Prop := Paired (RepV L G)
def SndA (f : Ea L) (t : TA) : Prop := ∀ (p0 : Option V) (σ : St) (H : Hp) (M : Addr → Prop) (ft : Nat → Addr → Prop) (δ : List (SV L)) (r : List (DV L)) (δ' : List (SV L)), Rp L p0 H M ft σ δ → f δ = some (r, δ') →
  ∀ Q : List V → Hp → Prop, (∀ vs H' M' ft', Step H M ft H' M' ft' → Rp L p0 H' M' ft' σ δ' → RepAll L (hid H' M') vs r → Q vs H') → t σ H Q
def ContS (p0 : Option V) (H : Hp) (M : Addr → Prop) (ft : Nat → Addr → Prop) (fl : Fl L) (δ' : List (SV L)) (D : Ends) : Prop :=
  match fl with
  | .nx => ∀ σ' H' M' ft', Step H M ft H' M' ft' → Rp L p0 H' M' ft' σ' δ' → D.nx σ' H'
  | .bk => ∀ σ' H' M' ft', Step H M ft H' M' ft' → Rp L p0 H' M' ft' σ' δ' → D.bk σ' H'
  | .ct => ∀ σ' H' M' ft', Step H M ft H' M' ft' → Rp L p0 H' M' ft' σ' δ' → D.ct σ' H'
  | .rt r => ∀ v σ' H' M' ft', Step H M ft H' M' ft' → Rp L p0 H' M' ft' σ' δ' → ResOk L H ft H' M' ft' v r → D.rt v H'
def SndS (g : Es L) (t : TS) : Prop := ∀ (p0 : Option V) (σ : St) (H : Hp) (M : Addr → Prop) (ft : Nat → Addr → Prop) (δ : List (SV L)) (fl : Fl L) (δ' : List (SV L)), Rp L p0 H M ft σ δ → g δ = some (fl, δ') →
  ∀ D : Ends, ContS L p0 H M ft fl δ' D → t D σ H
structure DE (X : Cx) (e : Expr) (f : Ev L) : Prop where
  ex : ∃ t, PE X e t ∧ SndE L f t
structure DT (X : Cx) (e : Expr) (f : Et L) : Prop where
  ex : ∃ t, PT X e t ∧ SndT L f t
structure DA (X : Cx) (es : List Expr) (f : Ea L) : Prop where
  ex : ∃ t, PA X es t ∧ SndA L f t
structure DS (X : Cx) (st : Stmt) (g : Es L) : Prop where
  ex : ∃ t, PS X st t ∧ SndS L g t
structure DSs (X : Cx) (st : List Stmt) (g : Es L) : Prop where
  ex : ∃ t, PSs X st t ∧ SndS L g t
variable {L}
theorem ResOk.step {H0 H H' : Hp} {M M' : Addr → Prop} {ft0 ft ft' : Nat → Addr → Prop} {v : V} {r : RV L} (s : Step H M ft H' M' ft') (h : ResOk L H0 ft0 H M ft v r) : ResOk L H0 ft0 H' M' ft' v r := by
  cases r with
  | dv d => exact RepV.mono s.ext h
  | own w =>
    obtain ⟨f, ow, hf⟩ := h
    refine ⟨f, ow.mono (fun a o fa e => (s.keep a o (hf a fa).1 (hf a fa).2.1 e).1) s.ext, fun a fa => ?_⟩
    obtain ⟨o, e⟩ := ow.dom a fa
    obtain ⟨_, m, n⟩ := s.keep a o (hf a fa).1 (hf a fa).2.1 e
    exact ⟨m, n, (hf a fa).2.2⟩
theorem ResOk.back {H H1 H' : Hp} {M M1 M' : Addr → Prop} {ft ft1 ft' : Nat → Addr → Prop} {v : V} {r : RV L} (s : Step H M ft H1 M1 ft1) (hM : ∀ i a, ft1 i a → M1 a) (h : ResOk L H1 ft1 H' M' ft' v r) : ResOk L H ft H' M' ft' v r := by
  cases r with
  | dv d => exact h
  | own w =>
    obtain ⟨f, ow, hf⟩ := h
    exact ⟨f, ow, fun a fa => ⟨(hf a fa).1, (hf a fa).2.1, (hf a fa).2.2.back s hM⟩⟩
theorem RepAll.mono {G G' : Hp} (s : Same G G') : ∀ {vs : List V} {ds : List (DV L)}, RepAll L G vs ds → RepAll L G' vs ds
  | _, _, .nil => .nil
  | _, _, .cons h r => .cons (h.mono s) (RepAll.mono s r)
/-- the frame's own things stand while only others change -/
theorem Rp.carry {p0 : Option V} {H H' : Hp} {M M' : Addr → Prop} {ft : Nat → Addr → Prop} {σ : St} {δ : List (SV L)} (R : Rp L p0 H M ft σ δ) (s : Same (hid H M) (hid H' M')) (k : ∀ i a o, ft i a → H a = some o → H' a = some o ∧ M' a) : Rp L p0 H' M' ft σ δ where
  len := R.len
  slot := fun i x e => by
    have h := R.slot i x e
    cases x with
    | un => exact h
    | dv d => obtain ⟨n, v, ev, r⟩ := h; exact ⟨n, v, ev, r.mono s⟩
    | own b w => obtain ⟨v, ev, ow, p⟩ := h; exact ⟨v, ev, ow.mono (fun a o fa ea => (k i a o fa ea).1) s, p⟩
  bnd := R.bnd
  inM := fun i a fa => by
    have hi := R.bnd i a fa
    obtain ⟨x, ex⟩ : ∃ x, δ[i]? = some x := ⟨_, List.getElem?_eq_getElem hi⟩
    have h := R.slot i x ex
    cases x with
    | un => exact absurd fa (h a)
    | dv d => exact absurd fa (h.1 a)
    | own b w =>
      obtain ⟨v, ev, ow, p⟩ := h
      obtain ⟨o, eo⟩ := ow.dom a fa
      exact (k i a o fa eo).2
  dis := R.dis
/-- an owned object is there -/
theorem Rp.there {p0 : Option V} {H : Hp} {M : Addr → Prop} {ft : Nat → Addr → Prop} {σ : St} {δ : List (SV L)} (R : Rp L p0 H M ft σ δ) {i : Nat} {a : Addr} (fa : ft i a) : ∃ o, H a = some o := by
  have hi := R.bnd i a fa
  obtain ⟨x, ex⟩ : ∃ x, δ[i]? = some x := ⟨_, List.getElem?_eq_getElem hi⟩
  have h := R.slot i x ex
  cases x with
  | un => exact absurd fa (h a)
  | dv d => exact absurd fa (h.1 a)
  | own b w => obtain ⟨v, ev, ow, p⟩ := h; exact ow.dom a fa
theorem Rp.fnone {p0 : Option V} {H : Hp} {M : Addr → Prop} {ft : Nat → Addr → Prop} {σ : St} {δ : List (SV L)} (R : Rp L p0 H M ft σ δ) {a : Addr} (h : H a = none) (i : Nat) : ¬ ft i a := fun fa => by
  obtain ⟨o, e⟩ := R.there fa
  rw [h] at e; cases e
/-- a new object that is not owned -/
theorem hid_new {H : Hp} {M : Addr → Prop} {p : Addr} {o : HO} (hp : H p = none) (hM : ¬ M p) : hid (upd H p o) M p = some o := hid_some.mpr ⟨hM, upd_same⟩
theorem same_new {H : Hp} {M : Addr → Prop} {p : Addr} {o : HO} (hp : H p = none) : Same (hid H M) (hid (upd H p o) M) := fun a u h => by
  obtain ⟨m, e⟩ := hid_some.mp h
  exact hid_some.mpr ⟨m, by rw [upd_ne (ne_of_none e hp)]; exact e⟩
end DL
set_option Elab.async false
set_option linter.all false
set_option maxRecDepth 100000
set_option maxHeartbeats 1000000
/-! D1: rules for expressions. -/
namespace DL
open PySem PySem.Spec L2
open PyProof.Rows hiding St
variable [CN]
variable {L : Lang}
abbrev Mp := Addr → Prop
def del (M : Mp) (p : Addr) : Mp := fun a => M a ∧ a ≠ p
def ins (M : Mp) (p : Addr) : Mp := fun a => M a ∨ a = p

section
variable {p0 : Option V} {H H' : Hp} {M M' : Mp} {ft : Nat → Addr → Prop} {σ : St} {δ : List (SV L)}
/-- a new object that nobody owns -/
theorem alloc (R : Rp L p0 H M ft σ δ) {p : Addr} {o : HO} (hp : H p = none) :
    Step H M ft (upd H p o) (del M p) ft ∧ Rp L p0 (upd H p o) (del M p) ft σ δ ∧ hid (upd H p o) (del M p) p = some o := by
  have ne : ∀ {a : Addr} {u : HO}, H a = some u → a ≠ p := fun e => ne_of_none e hp
  have ext : Same (hid H M) (hid (upd H p o) (del M p)) := fun a u h => by
    obtain ⟨m, e⟩ := hid_some.mp h
    exact hid_some.mpr ⟨fun z => m z.1, by rw [upd_ne (ne e)]; exact e⟩
  refine ⟨⟨ext, fun a u hm hf e => ⟨by rw [upd_ne (ne e)]; exact e, ⟨hm, ne e⟩, hf⟩⟩, R.carry ext fun i a u fa e => ⟨by rw [upd_ne (ne e)]; exact e, R.inM i a fa, ne e⟩, hid_some.mpr ⟨fun z => z.2 rfl, upd_same⟩⟩
/-- a new list that is owned -/
theorem allocO (R : Rp L p0 H M ft σ δ) {p : Addr} {xs : List V} {ds : List PD} (hp : H p = none) (r : DkAll (hid H M) xs ds) :
    Step H M ft (upd H p (.lst xs)) (ins M p) ft ∧ Rp L p0 (upd H p (.lst xs)) (ins M p) ft σ δ ∧ ResOk L H ft (upd H p (.lst xs)) (ins M p) ft (.ref p) (.own (.lst ds)) := by
  have ne : ∀ {a : Addr} {u : HO}, H a = some u → a ≠ p := fun e => ne_of_none e hp
  have ext : Same (hid H M) (hid (upd H p (.lst xs)) (ins M p)) := fun a u h => by
    obtain ⟨m, e⟩ := hid_some.mp h
    exact hid_some.mpr ⟨fun z => z.elim m (ne e), by rw [upd_ne (ne e)]; exact e⟩
  refine ⟨⟨ext, fun a u hm hf e => ⟨by rw [upd_ne (ne e)]; exact e, .inl hm, hf⟩⟩, R.carry ext fun i a u fa e => ⟨by rw [upd_ne (ne e)]; exact e, .inl (R.inM i a fa)⟩, fun a => a = p, ⟨p, xs, rfl, fun x => Iff.rfl, upd_same, r.mono ext⟩, fun a ea => ?_⟩
  rw [ea]
  exact ⟨.inr rfl, fun i => R.fnone hp i, .inl hp⟩
end

/-! ### a result that is let go -/
def frz (f : Ev L) : List (SV L) → Option (DV L × List (SV L)) := fun δ => match f δ with
  | some (.dv d, δ') => some (d, δ')
  | some (.own (.lst ds), δ') => some (.d (.list ds), δ')
  | _ => none
def SndF (f : List (SV L) → Option (DV L × List (SV L))) (t : TE) : Prop := ∀ (p0 : Option V) (σ : St) (H : Hp) (M : Addr → Prop) (ft : Nat → Addr → Prop) (δ : List (SV L)) (d : DV L) (δ' : List (SV L)), Rp L p0 H M ft σ δ → f δ = some (d, δ') →
  ∀ Q : VK, (∀ v H' M' ft', Step H M ft H' M' ft' → Rp L p0 H' M' ft' σ δ' → RepV L (hid H' M') v d → Q v H') → t σ H Q
theorem letgo {p0 : Option V} {H H' : Hp} {M M' : Mp} {ft ft' : Nat → Addr → Prop} {σ : St} {δ' : List (SV L)} {v : V} {ds : List PD} (s : Step H M ft H' M' ft') (R : Rp L p0 H' M' ft' σ δ') (h : ResOk L H ft H' M' ft' v (.own (.lst ds))) :
    ∃ M'', Step H M ft H' M'' ft' ∧ Rp L p0 H' M'' ft' σ δ' ∧ Dk (hid H' M'') v (.list ds) := by
  obtain ⟨f, ⟨a, xs, e, hf, ha, r⟩, hfr⟩ := h
  subst e
  obtain ⟨ma, na, fa⟩ := hfr a ((hf a).mpr rfl)
  have ext : Same (hid H' M') (hid H' (del M' a)) := fun b u h => by
    obtain ⟨m, e⟩ := hid_some.mp h
    exact hid_some.mpr ⟨fun z => m z.1, e⟩
  refine ⟨del M' a, ⟨s.ext.trans ext, fun b u hm hf' e => ?_⟩, R.carry ext fun i b u fb e => ⟨e, R.inM i b fb, fun z => na i (z ▸ fb)⟩, .lst (hid_some.mpr ⟨fun z => z.2 rfl, ha⟩) (r.mono ext)⟩
  obtain ⟨e', m', n'⟩ := s.keep b u hm hf' e
  refine ⟨e', ⟨m', fun z => ?_⟩, n'⟩
  subst z
  rcases fa with fa | ⟨i, fa⟩
  · rw [fa] at e; cases e
  · exact hf' i fa
theorem SndE.frz {f : Ev L} {t : TE} (h : SndE L f t) : SndF (frz f) t := fun p0 σ H M ft δ d δ' R e Q q => by
  unfold DL.frz at e
  cases ef : f δ with
  | none => rw [ef] at e; cases e
  | some r =>
    obtain ⟨r, δ1⟩ := r
    rw [ef] at e
    cases r with
    | dv x => cases e; exact h p0 σ H M ft δ _ _ R ef Q fun v H' M' ft' s R' r => q v H' M' ft' s R' r
    | own w =>
      cases w with
      | res w => cases e
      | lst ds =>
        cases e
        refine h p0 σ H M ft δ _ _ R ef Q fun v H' M' ft' s R' r => ?_
        obtain ⟨M'', s2, R2, k⟩ := letgo s R' r
        exact q v H' M'' ft' s2 R2 k
/-- a value as an expression's result -/
def toE (f : List (SV L) → Option (DV L × List (SV L))) : Ev L := fun δ => (f δ).map fun p => (.dv p.1, p.2)

/-! ### names, constants -/
def eVar (i : Nat) : Ev L := fun δ => match δ[i]? with
  | some (.dv d) => some (.dv d, δ)
  | some (.own _ (.lst ds)) => some (.dv (.d (.list ds)), δ.set i (.dv (.d (.list ds))))
  | _ => none
def eMv (i : Nat) : Ev L := fun δ => match δ[i]? with
  | some (.dv d) => some (.dv d, δ)
  | some (.own _ w) => some (.own w, δ.set i .un)
  | _ => none
def fset (ft : Nat → Addr → Prop) (i : Nat) (f : Addr → Prop) : Nat → Addr → Prop := fun j a => if j = i then f a else ft j a
theorem fset_same {ft : Nat → Addr → Prop} {i : Nat} {f : Addr → Prop} {a : Addr} : fset ft i f i a ↔ f a := by unfold fset; rw [if_pos rfl]
theorem fset_ne {ft : Nat → Addr → Prop} {i j : Nat} {f : Addr → Prop} {a : Addr} (h : j ≠ i) : fset ft i f j a ↔ ft j a := by unfold fset; rw [if_neg h]
theorem rp_var {p0 : Option V} {H : Hp} {M : Mp} {ft : Nat → Addr → Prop} {σ : St} {δ : List (SV L)} (R : Rp L p0 H M ft σ δ) {i : Nat} {d : DV L} (e : δ[i]? = some (.dv d)) : ∃ v, σ[i]? = some (some v) ∧ RepV L (hid H M) v d := by
  obtain ⟨n, v, ev, r⟩ := R.slot i _ e
  refine ⟨v, ?_, r⟩
  cases q : σ[i]? with
  | none => rw [q] at ev; cases ev
  | some o => rw [q] at ev; have : o = some v := ev; rw [this]
theorem rp_own {p0 : Option V} {H : Hp} {M : Mp} {ft : Nat → Addr → Prop} {σ : St} {δ : List (SV L)} (R : Rp L p0 H M ft σ δ) {i : Nat} {b : Bool} {w : OW L} (e : δ[i]? = some (.own b w)) : ∃ v, σ[i]? = some (some v) ∧ OwnAt L H M v w (ft i) ∧ (b = true → p0 = some v) := by
  obtain ⟨v, ev, ow, p⟩ := R.slot i _ e
  refine ⟨v, ?_, ow, p⟩
  cases q : σ[i]? with
  | none => rw [q] at ev; cases ev
  | some o => rw [q] at ev; have : o = some v := ev; rw [this]
/-- a slot is set: what stood there is no more the slot's -/
theorem Rp.put {p0 : Option V} {H : Hp} {M : Mp} {ft : Nat → Addr → Prop} {σ σ' : St} {δ : List (SV L)} (R : Rp L p0 H M ft σ δ) {i : Nat} {s : SV L} {f : Addr → Prop} {o : Option V} (hi : i < δ.length) (hσ : σ' = σ.set i o ∨ (σ' = σ ∧ σ[i]?.join = o))
    (hs : SlotOk L p0 H M o s f) (hM : ∀ a, f a → M a) (hd : ∀ a j, f a → j ≠ i → ¬ ft j a) : Rp L p0 H M (fset ft i f) σ' (δ.set i s) where
  len := by rcases hσ with rfl | ⟨rfl, _⟩ <;> simp [R.len]
  slot := fun j x e => by
    have hl : i < σ.length := by rw [R.len]; exact hi
    by_cases hj : j = i
    · subst hj
      rw [List.getElem?_set_self hi] at e
      cases e
      have e1 : σ'[j]?.join = o := by
        rcases hσ with rfl | ⟨rfl, q⟩
        · rw [List.getElem?_set_self hl]; rfl
        · exact q
      rw [e1]
      have e2 : fset ft j f j = f := by funext a; exact propext fset_same
      rw [e2]
      exact hs
    · rw [List.getElem?_set_ne (Ne.symm hj)] at e
      have h := R.slot j x e
      have e1 : σ'[j]?.join = σ[j]?.join := by
        rcases hσ with rfl | ⟨rfl, q⟩
        · rw [List.getElem?_set_ne (Ne.symm hj)]
        · rfl
      have e2 : fset ft i f j = ft j := by funext a; exact propext (fset_ne hj)
      rw [e1, e2]
      exact h
  bnd := fun j a fa => by
    rw [List.length_set]
    by_cases hj : j = i
    · rw [hj]; exact hi
    · exact R.bnd j a ((fset_ne hj).mp fa)
  inM := fun j a fa => by
    by_cases hj : j = i
    · subst hj; exact hM a (fset_same.mp fa)
    · exact R.inM j a ((fset_ne hj).mp fa)
  dis := fun j k a ja ka => by
    by_cases hj : j = i
    · subst hj
      by_cases hk : k = j
      · exact hk.symm
      · exact absurd ((fset_ne hk).mp ka) (hd a k (fset_same.mp ja) hk)
    · by_cases hk : k = i
      · subst hk
        exact absurd ((fset_ne hj).mp ja) (hd a j (fset_same.mp ka) hj)
      · exact R.dis j k a ((fset_ne hj).mp ja) ((fset_ne hk).mp ka)
/-- fewer owned: those that leave were slots' -/
theorem step_drop {H : Hp} {M M' : Mp} {ft ft' : Nat → Addr → Prop} (h1 : ∀ a, M' a → M a) (h2 : ∀ a, M a → (∀ i, ¬ ft i a) → M' a ∧ ∀ i, ¬ ft' i a) : Step H M ft H M' ft' :=
  ⟨fun a o h => by obtain ⟨m, e⟩ := hid_some.mp h; exact hid_some.mpr ⟨fun z => m (h1 a z), e⟩, fun a o hm hf e => ⟨e, h2 a hm hf⟩⟩
theorem lt_of_get {α : Type} {l : List α} {i : Nat} {x : α} (e : l[i]? = some x) : i < l.length := (List.getElem?_eq_some_iff.mp e).1
theorem snd_mv (i : Nat) : SndE L (eMv i) (tVar i) := fun p0 σ H M ft δ r δ' R e Q q => by
  unfold eMv at e
  cases es : δ[i]? with
  | none => rw [es] at e; cases e
  | some s =>
    rw [es] at e
    cases s with
    | un => cases e
    | dv d =>
      cases e
      obtain ⟨v, ev, r⟩ := rp_var R es
      exact ⟨v, ev, q v H M ft (Step.refl ..) R r⟩
    | own b w =>
      cases e
      obtain ⟨v, ev, ow, hp⟩ := rp_own R es
      have R2 : Rp L p0 H M (fset ft i fun _ => False) σ (δ.set i .un) := R.put (o := σ[i]?.join) (lt_of_get es) (.inr ⟨rfl, rfl⟩) (fun _ z => z) (fun _ z => z.elim) (fun _ _ z => z.elim)
      refine ⟨v, ev, q v H M _ (step_drop (fun _ z => z) fun a hm hf => ⟨hm, fun j z => ?_⟩) R2 ⟨ft i, ow, fun a fa => ⟨R.inM i a fa, fun j z => ?_, .inr ⟨i, fa⟩⟩⟩⟩
      · by_cases hj : j = i
        · subst hj; exact fset_same.mp z
        · exact hf j ((fset_ne hj).mp z)
      · by_cases hj : j = i
        · subst hj; exact fset_same.mp z
        · exact hj (R.dis j i a ((fset_ne hj).mp z) fa)
theorem snd_var (i : Nat) : SndE L (eVar i) (tVar i) := fun p0 σ H M ft δ r δ' R e Q q => by
  unfold eVar at e
  cases es : δ[i]? with
  | none => rw [es] at e; cases e
  | some s =>
    rw [es] at e
    cases s with
    | un => cases e
    | dv d =>
      cases e
      obtain ⟨v, ev, r⟩ := rp_var R es
      exact ⟨v, ev, q v H M ft (Step.refl ..) R r⟩
    | own b w =>
      cases w with
      | res w => cases e
      | lst ds =>
        cases e
        obtain ⟨v, ev, ow, hp⟩ := rp_own R es
        obtain ⟨a, xs, e1, hf, ha, rk⟩ := ow
        subst e1
        have fa : ft i a := (hf a).mpr rfl
        have ext : Same (hid H M) (hid H (del M a)) := fun b u h => by
          obtain ⟨m, e⟩ := hid_some.mp h
          exact hid_some.mpr ⟨fun z => m z.1, e⟩
        have kd : Dk (hid H (del M a)) (.ref a) (.list ds) := .lst (hid_some.mpr ⟨fun z => z.2 rfl, ha⟩) (rk.mono ext)
        -- first the slot is emptied, then it is carried to fewer owned, then it is set
        have R1 : Rp L p0 H M (fset ft i fun _ => False) σ (δ.set i .un) := R.put (o := σ[i]?.join) (lt_of_get es) (.inr ⟨rfl, rfl⟩) (fun _ z => z) (fun _ z => z.elim) (fun _ _ z => z.elim)
        have R2 : Rp L p0 H (del M a) (fset ft i fun _ => False) σ (δ.set i .un) := R1.carry ext fun j b o fb e => ⟨e, R1.inM j b fb, fun z => by
          subst z
          by_cases hj : j = i
          · subst hj; exact fset_same.mp fb
          · exact hj (R.dis j i b ((fset_ne hj).mp fb) fa)⟩
        have R3 := R2.put (i := i) (s := .dv (.d (.list ds))) (f := fun _ => False) (o := some (.ref a)) (σ' := σ) (by rw [List.length_set]; exact lt_of_get es) (.inr ⟨rfl, by rw [ev]; rfl⟩) ⟨fun _ z => z, _, rfl, kd⟩ (fun _ z => z.elim) (fun _ _ z => z.elim)
        rw [List.set_set] at R3
        refine ⟨_, ev, q _ H (del M a) _ (step_drop (fun _ z => z.1) fun b hm hf' => ⟨⟨hm, fun z => hf' i (z ▸ fa)⟩, fun j z => ?_⟩) R3 kd⟩
        by_cases hj : j = i
        · subst hj; exact fset_same.mp z
        · exact hf' j ((fset_ne hj).mp ((fset_ne hj).mp z))
section
variable {X : Cx} {e a b : Expr} {es : List Expr} {pos : Pos}
theorem de_var (i : Nat) {x : Str} (hN : X.N[i]? = some x := by rfl) (hv : Vis X.env.scope x := by first | exact Or.inl rfl | exact Or.inr (Or.inl rfl) | exact Or.inr (Or.inr rfl)) (hd : (x == ("__debug__" : Str)) = false := by decide)
    (hcd : (x == ("__classdict__" : Str)) = false := by decide) : DE L X (.Name x pos) (eVar i) := ⟨_, pe_var hN hv hd hcd, snd_var i⟩
theorem de_mv (i : Nat) {x : Str} (hN : X.N[i]? = some x := by rfl) (hv : Vis X.env.scope x := by first | exact Or.inl rfl | exact Or.inr (Or.inl rfl) | exact Or.inr (Or.inr rfl)) (hd : (x == ("__debug__" : Str)) = false := by decide)
    (hcd : (x == ("__classdict__" : Str)) = false := by decide) : DE L X (.Name x pos) (eMv i) := ⟨_, pe_var hN hv hd hcd, snd_mv i⟩
def eC (d : PD) : Ev L := fun δ => some (.dv (.d d), δ)
theorem snd_c {v : V} {d : PD} (h : ∀ G, Dk G v d) : SndE L (eC d) (tC v) := fun p0 σ H M ft δ r δ' R e Q q => by
  cases e
  exact q v H M ft (Step.refl ..) R (h _)
theorem de_int {i : Int} {j pos} : DE L X (.Constant (.int i) j pos) (eC (.int i)) := ⟨_, pe_int, snd_c fun _ => .int _⟩
theorem de_bl {i : Bool} {j pos} : DE L X (.Constant (.bool i) j pos) (eC (.bool i)) := ⟨_, pe_bl, snd_c fun _ => .bl _⟩
theorem de_non {j pos} : DE L X (.Constant .none j pos) (eC .none) := ⟨_, pe_non, snd_c fun _ => .non⟩
theorem de_str {x : Str} {j pos} : DE L X (.Constant (.str x) j pos) (eC (.str x)) := ⟨_, pe_str, snd_c fun _ => .str _⟩

/-! ### two operands -/
def eOp (g : PD → PD → Option PD) (fa fb : Ev L) : Ev L := fun δ => match frz fa δ with
  | some (.d x, δ1) => match frz fb δ1 with
    | some (.d y, δ2) => match g x y with
      | some z => some (.dv (.d z), δ2)
      | none => none
    | _ => none
  | _ => none
/-- an operation that makes nothing new -/
def PureR (r : R2) (g : PD → PD → Option PD) : Prop := ∀ (H G : Hp) (v w : V) (x y z : PD), Same G H → Dk G v x → Dk G w y → g x y = some z → ∀ Q : VK, (∀ u, Dk G u z → Q u H) → r v w H Q
theorem snd_op {r : R2} {g : PD → PD → Option PD} {fa fb : Ev L} {ta tb : TE} (hr : PureR r g) (ha : SndE L fa ta) (hb : SndE L fb tb) : SndE L (eOp g fa fb) (tOp r ta tb) := fun p0 σ H M ft δ rr δ' R e Q q => by
  unfold eOp at e
  cases e1 : frz fa δ with
  | none => rw [e1] at e; cases e
  | some p1 =>
    obtain ⟨x, δ1⟩ := p1
    rw [e1] at e
    cases x with
    | ob o => cases e
    | d x =>
      simp only at e
      cases e2 : frz fb δ1 with
      | none => rw [e2] at e; cases e
      | some p2 =>
        obtain ⟨y, δ2⟩ := p2
        rw [e2] at e
        cases y with
        | ob o => cases e
        | d y =>
          simp only at e
          cases e3 : g x y with
          | none => rw [e3] at e; cases e
          | some z =>
            rw [e3] at e
            cases e
            refine ha.frz p0 σ H M ft δ _ _ R e1 _ fun v H1 M1 ft1 s1 R1 k1 => hb.frz p0 σ H1 M1 ft1 δ1 _ _ R1 e2 _ fun w H2 M2 ft2 s2 R2 k2 => ?_
            exact hr H2 (hid H2 M2) v w x y z hid_same (Dk.mono s2.ext k1) k2 e3 Q fun u ku => q u H2 M2 ft2 (s1.trans s2) R2 ku
theorem de_op {op : Operator} {r : R2} {g : PD → PD → Option PD} {fa fb : Ev L} (ho : OpR X (binaryOp op) r) (hr : PureR r g) (ha : DE L X a fa) (hb : DE L X b fb) : DE L X (.BinOp a op b pos) (eOp g fa fb) := by
  obtain ⟨ta, pa, sa⟩ := ha
  obtain ⟨tb, pb, sb⟩ := hb
  exact ⟨_, pe_op ho pa pb, snd_op hr sa sb⟩
theorem de_ix {r : R2} {g : PD → PD → Option PD} {fa fb : Ev L} (ho : IxR X r) (hr : PureR r g) (ha : DE L X a fa) (hb : DE L X b fb) (hs : PlainIx b := by exact fun _ _ => rfl) : DE L X (.Subscript a b pos) (eOp g fa fb) := by
  obtain ⟨ta, pa, sa⟩ := ha
  obtain ⟨tb, pb, sb⟩ := hb
  exact ⟨_, pe_ix ho pa pb hs, snd_op hr sa sb⟩
theorem de_cmp {op : CmpOp} {r : R2} {g : PD → PD → Option PD} {fa fb : Ev L} (ho : OpR X (compareOp op) r) (hr : PureR r g) (ha : DE L X a fa) (hb : DE L X b fb) (hm : behindInMarks op b = false) : DE L X (.Compare a [op] [b] pos) (eOp g fa fb) := by
  obtain ⟨ta, pa, sa⟩ := ha
  obtain ⟨tb, pb, sb⟩ := hb
  exact ⟨_, pe_cmpR ho pa pb hm, snd_op hr sa sb⟩
/-- a bool as a test -/
def tst (f : Ev L) : Et L := fun δ => match f δ with
  | some (.dv (.d (.bool b)), δ') => some (b, δ')
  | _ => none
theorem snd_tst {f : Ev L} {t : TE} (h : SndE L f t) : SndT L (tst f) (tTest t) := fun p0 σ H M ft δ b δ' R e Q q => by
  unfold tst at e
  cases e1 : f δ with
  | none => rw [e1] at e; cases e
  | some p1 =>
    obtain ⟨r, δ1⟩ := p1
    rw [e1] at e
    cases r with
    | own w => cases e
    | dv d =>
      cases d with
      | ob o => cases e
      | d x =>
        cases x with
        | bool b =>
          cases e
          refine h p0 σ H M ft δ _ _ R e1 _ fun v H1 M1 ft1 s1 R1 k1 => ?_
          have k2 : Dk (hid H1 M1) v (.bool b) := k1
          cases k2
          exact ⟨b, rfl, q H1 M1 ft1 s1 R1⟩
        | none => cases e
        | int _ => cases e
        | str _ => cases e
        | list _ => cases e
        | tuple _ => cases e
        | dict _ => cases e
theorem dt_cmp {op : CmpOp} {r : R2} {g : PD → PD → Option PD} {fa fb : Ev L} (ho : OpR X (compareOp op) r) (hr : PureR r g) (ha : DE L X a fa) (hb : DE L X b fb) (hm : behindInMarks op b = false) : DT L X (.Compare a [op] [b] pos) (tst (eOp g fa fb)) := by
  obtain ⟨ta, pa, sa⟩ := ha
  obtain ⟨tb, pb, sb⟩ := hb
  exact ⟨_, pt_cmpR ho pa pb hm, snd_tst (snd_op hr sa sb)⟩
theorem dt_val {f : Ev L} (h : DE L X e f) (he : ∀ whole, isTrue e X.env whole = (do let v ← whole; standAt e.pos; holding [v] (truthy v)) := by intro _; rfl) : DT L X e (tst f) := by
  obtain ⟨t, p, s⟩ := h
  exact ⟨_, pt_val p he, snd_tst s⟩
/-! ints -/
def gI (g : Int → Int → Option PD) : PD → PD → Option PD := fun x y => match x, y with
  | .int i, .int j => g i j
  | _, _ => none
theorem gI_some {g : Int → Int → Option PD} {x y z : PD} (h : gI g x y = some z) : ∃ i j, x = .int i ∧ y = .int j ∧ g i j = some z := by
  unfold gI at h
  split at h
  · exact ⟨_, _, rfl, rfl, h⟩
  · cases h
theorem pureI {r : R2} {g : Int → Int → Option PD} (h : ∀ i j z H (Q : VK) G, g i j = some z → (∀ u, Dk G u z → Q u H) → r (.int i) (.int j) H Q) : PureR r (gI g) := fun H G v w x y z sm k1 k2 e Q q => by
  obtain ⟨i, j, rfl, rfl, e⟩ := gI_some e
  cases k1
  cases k2
  exact h i j z H Q G e q
theorem pI0 {g : Int → Int → V} {g' : Int → Int → PD} (h : ∀ i j G, Dk G (g i j) (g' i j)) : PureR (rI0 g) (gI fun i j => some (g' i j)) := pureI fun i j z H Q G e q => by
  cases e
  exact ⟨i, j, rfl, rfl, q _ (h i j G)⟩
theorem pI {C : Int → Int → Prop} {D : Int → Int → Bool} {g : Int → Int → V} {g' : Int → Int → PD} (h : ∀ i j G, Dk G (g i j) (g' i j)) (hc : ∀ i j, D i j = true → C i j) : PureR (rI C g) (gI fun i j => if D i j = true then some (g' i j) else none) := pureI fun i j z H Q G e q => by
  by_cases hd : D i j = true
  · rw [if_pos hd] at e
    cases e
    exact ⟨i, j, rfl, rfl, hc i j hd, q _ (h i j G)⟩
  · rw [if_neg hd] at e
    cases e
def gAdd := gI fun i j => some (.int (i + j))
def gSub := gI fun i j => some (.int (i - j))
def gFdiv := gI fun i j => if (decide (j ≠ 0) && decide (j.natAbs < 1073741824)) = true then some (.int (i.fdiv j)) else none
def gMod := gI fun i j => if decide (j ≠ 0) = true then some (.int (i.fmod j)) else none
def gPow := gI fun i j => if (decide (0 ≤ j) && decide (j ≤ 1000000) && decide (i.natAbs < 2 ^ 64)) = true then some (.int (i ^ j.toNat)) else none
def gShr := gI fun i j => if decide (0 ≤ j) = true then some (.int (i / 2 ^ j.toNat)) else none
def gAnd := gI fun i j => some (.int (Builtin.bitAnd i j))
def gLt := gI fun i j => some (.bool (decide (i < j)))
def gLe := gI fun i j => some (.bool (decide (i ≤ j)))
def gGt := gI fun i j => some (.bool (decide (j < i)))
def gGe := gI fun i j => some (.bool (decide (j ≤ i)))
theorem p_add : PureR (rI0 fun i j => .int (i + j)) gAdd := pI0 fun _ _ _ => .int _
theorem p_sub : PureR (rI0 fun i j => .int (i - j)) gSub := pI0 fun _ _ _ => .int _
theorem p_fdiv : PureR (rI CDivN fun i j => .int (i.fdiv j)) gFdiv := pI (fun _ _ _ => .int _) fun i j h => by
  rw [Bool.and_eq_true] at h
  exact ⟨of_decide_eq_true h.1, of_decide_eq_true h.2⟩
theorem p_mod : PureR (rI (fun _ j => j ≠ 0) fun i j => .int (i.fmod j)) gMod := pI (fun _ _ _ => .int _) fun i j h => of_decide_eq_true h
theorem p_pow : PureR (rI CPow fun i j => .int (i ^ j.toNat)) gPow := pI (fun _ _ _ => .int _) fun i j h => by
  rw [Bool.and_eq_true, Bool.and_eq_true] at h
  exact ⟨of_decide_eq_true h.1.1, of_decide_eq_true h.1.2, of_decide_eq_true h.2⟩
theorem p_shr : PureR (rI (fun _ j => 0 ≤ j) fun i j => .int (i / 2 ^ j.toNat)) gShr := pI (fun _ _ _ => .int _) fun i j h => of_decide_eq_true h
theorem p_and : PureR (rI0 fun i j => .int (Builtin.bitAnd i j)) gAnd := pI0 fun _ _ _ => .int _
theorem p_lt : PureR (rI0 fun i j => .bl (decide (i < j))) gLt := pI0 fun _ _ _ => .bl _
theorem p_le : PureR (rI0 fun i j => .bl (decide (i ≤ j))) gLe := pI0 fun _ _ _ => .bl _
theorem p_gt : PureR (rI0 fun i j => .bl (decide (j < i))) gGt := pI0 fun _ _ _ => .bl _
theorem p_ge : PureR (rI0 fun i j => .bl (decide (j ≤ i))) gGe := pI0 fun _ _ _ => .bl _
/-! is None -/
def isNoneD : PD → Bool | .none => true | _ => false
def gIsN : PD → PD → Option PD := fun x y => match y with
  | .none => some (.bool (isNoneD x))
  | _ => none
def gNotN : PD → PD → Option PD := fun x y => match y with
  | .none => some (.bool (!isNoneD x))
  | _ => none
theorem dk_none {G : Hp} {v : V} {x : PD} (k : Dk G v x) : decide (v = .non) = isNoneD x := by
  cases k <;> first | rfl | exact decide_eq_false (fun z => nomatch z)
theorem p_isN : PureR (fun x y H Q => y = .non ∧ Q (.bl (decide (x = .non))) H) gIsN := fun H G v w x y z sm k1 k2 e Q q => by
  cases k2 with
  | non => cases e; exact ⟨rfl, by rw [dk_none k1]; exact q _ (.bl _)⟩
  | bl _ => cases e
  | int _ => cases e
  | str _ => cases e
  | lst _ _ => cases e
  | tup _ _ => cases e
  | exc _ _ _ _ => cases e
  | exc0 _ _ => cases e
theorem p_notN : PureR (fun x y H Q => y = .non ∧ Q (.bl (!decide (x = .non))) H) gNotN := fun H G v w x y z sm k1 k2 e Q q => by
  cases k2 with
  | non => cases e; exact ⟨rfl, by rw [dk_none k1]; exact q _ (.bl _)⟩
  | bl _ => cases e
  | int _ => cases e
  | str _ => cases e
  | lst _ _ => cases e
  | tup _ _ => cases e
  | exc _ _ _ _ => cases e
  | exc0 _ _ => cases e
/-! == of data -/
def gEq : PD → PD → Option PD := fun x y => if SeqAt.shaped x = true ∧ SeqAt.shaped y = true then some (.bool (PyData.eqv x y)) else none
def gNe : PD → PD → Option PD := fun x y => if SeqAt.shaped x = true ∧ SeqAt.shaped y = true then some (.bool (!PyData.eqv x y)) else none
theorem p_eq {K : PySem.W.Frag} : PureR (rEqD K) gEq := fun H G v w x y z sm k1 k2 e Q q => by
  unfold gEq at e
  by_cases h : SeqAt.shaped x = true ∧ SeqAt.shaped y = true
  · rw [if_pos h] at e
    cases e
    exact ⟨x, y, (k1.mono sm).dp (SeqAt.canLay_of_shaped h.1), (k2.mono sm).dp (SeqAt.canLay_of_shaped h.2), h.1, h.2, q _ (.bl _)⟩
  · rw [if_neg h] at e; cases e
theorem p_ne {K : PySem.W.Frag} : PureR (rNeD K) gNe := fun H G v w x y z sm k1 k2 e Q q => by
  unfold gNe at e
  by_cases h : SeqAt.shaped x = true ∧ SeqAt.shaped y = true
  · rw [if_pos h] at e
    cases e
    exact ⟨x, y, (k1.mono sm).dp (SeqAt.canLay_of_shaped h.1), (k2.mono sm).dp (SeqAt.canLay_of_shaped h.2), h.1, h.2, q _ (.bl _)⟩
  · rw [if_neg h] at e; cases e
/-! subscripts -/
def gIx : PD → PD → Option PD := fun x y => match x, y with
  | .list ds, .int i => atI ds i
  | .tuple ds, .int i => atI ds i
  | .str s, .int i => if s.length ≤ sizeLine then (atI s.cps.toList i).map fun c => .str ⟨#[c]⟩ else none
  | _, _ => none
theorem atI_dk {G : Hp} {xs : List V} {ds : List PD} {i : Int} {z : PD} (r : DkAll G xs ds) (h : atI ds i = some z) : ∃ v, atI xs i = some v ∧ Dk G v z := by
  unfold atI at h ⊢
  rw [r.length]
  cases q : ixN ds.length i with
  | none => rw [q] at h; cases h
  | some j =>
    rw [q] at h
    obtain ⟨v, hv, k⟩ := r.get (i := j) (d := z) h
    exact ⟨v, hv, k⟩
theorem p_ix {K : PySem.W.Frag} : PureR (rIx K) gIx := fun H G v w x y z sm k1 k2 e Q q => by
  cases k2 with
  | int i =>
    cases k1 with
    | lst ha r =>
      obtain ⟨u, hu, ku⟩ := atI_dk r e
      exact .inl ⟨_, _, _, _, rfl, rfl, SqL.of (sm _ _ ha), hu, q _ ku⟩
    | tup ha r =>
      obtain ⟨u, hu, ku⟩ := atI_dk r e
      exact .inr (.inl ⟨_, _, _, _, rfl, rfl, SqT.of (sm _ _ ha), hu, q _ ku⟩)
    | str s =>
      have e' : (if s.length ≤ sizeLine then (atI s.cps.toList i).map fun c => PyData.str ⟨#[c]⟩ else none) = some z := e
      by_cases hs : s.length ≤ sizeLine
      · rw [if_pos hs] at e'
        cases ec : atI s.cps.toList i with
        | none => rw [ec] at e'; cases e'
        | some c =>
          rw [ec] at e'
          cases e'
          exact .inr (.inr ⟨s, i, c, rfl, rfl, hs, ec, q _ (.str _)⟩)
      · rw [if_neg hs] at e'; cases e'
    | non => cases e
    | bl _ => cases e
    | int _ => cases e
    | exc _ _ _ _ => cases e
    | exc0 _ _ => cases e
  | non => cases k1 <;> cases e
  | bl _ => cases k1 <;> cases e
  | str _ => cases k1 <;> cases e
  | lst _ _ => cases k1 <;> cases e
  | tup _ _ => cases k1 <;> cases e
  | exc _ _ _ _ => cases k1 <;> cases e
  | exc0 _ _ => cases k1 <;> cases e
/-! in -/
def gIn : PD → PD → Option PD := fun x y => match y with
  | .list ds => if SeqAt.shaped x = true ∧ SeqAt.shaped (.list ds) = true then some (.bool (ds.any fun z => PyData.eqv z x)) else none
  | _ => none
def gNotIn : PD → PD → Option PD := fun x y => match y with
  | .list ds => if SeqAt.shaped x = true ∧ SeqAt.shaped (.list ds) = true then some (.bool (!ds.any fun z => PyData.eqv z x)) else none
  | _ => none
theorem p_in {K : PySem.W.Frag} : PureR (rInD K) gIn := fun H G v w x y z sm k1 k2 e Q q => by
  unfold gIn at e
  split at e
  · rename_i ds
    by_cases h : SeqAt.shaped x = true ∧ SeqAt.shaped (.list ds) = true
    · rw [if_pos h] at e
      cases e
      exact ⟨x, ds, (k1.mono sm).dp (SeqAt.canLay_of_shaped h.1), (k2.mono sm).dp (SeqAt.canLay_of_shaped h.2), h.1, h.2, q _ (.bl _)⟩
    · rw [if_neg h] at e; cases e
  · cases e
theorem p_notIn {K : PySem.W.Frag} : PureR (rNotInD K) gNotIn := fun H G v w x y z sm k1 k2 e Q q => by
  unfold gNotIn at e
  split at e
  · rename_i ds
    by_cases h : SeqAt.shaped x = true ∧ SeqAt.shaped (.list ds) = true
    · rw [if_pos h] at e
      cases e
      exact ⟨x, ds, (k1.mono sm).dp (SeqAt.canLay_of_shaped h.1), (k2.mono sm).dp (SeqAt.canLay_of_shaped h.2), h.1, h.2, q _ (.bl _)⟩
    · rw [if_neg h] at e; cases e
  · cases e
end
end DL
set_option Elab.async false
set_option linter.all false
set_option maxRecDepth 100000
set_option maxHeartbeats 1000000
/-! D2: arguments, displays, slices, bools, built-ins, reading while what is owned stands still. -/
namespace DL
open PySem PySem.Spec L2
open PyProof.Rows hiding St
variable [CN]
variable {L : Lang}
section
variable {X : Cx} {e a b c : Expr} {es : List Expr} {pos : Pos}
/-! ### arguments -/
def aNil : Ea L := fun δ => some ([], δ)
def aCons (f : Ev L) (fa : Ea L) : Ea L := fun δ => match frz f δ with
  | some (d, δ1) => match fa δ1 with
    | some (ds, δ2) => some (d :: ds, δ2)
    | none => none
  | none => none
theorem snd_nil : SndA L aNil tNil := fun p0 σ H M ft δ r δ' R e Q q => by
  cases e
  exact q [] H M ft (Step.refl ..) R .nil
theorem snd_cons {f : Ev L} {fa : Ea L} {te : TE} {t : TA} (h : SndE L f te) (hr : SndA L fa t) : SndA L (aCons f fa) (tCons te t) := fun p0 σ H M ft δ r δ' R e Q q => by
  unfold aCons at e
  cases e1 : frz f δ with
  | none => rw [e1] at e; cases e
  | some p1 =>
    obtain ⟨d, δ1⟩ := p1
    rw [e1] at e
    simp only at e
    cases e2 : fa δ1 with
    | none => rw [e2] at e; cases e
    | some p2 =>
      obtain ⟨ds, δ2⟩ := p2
      rw [e2] at e
      cases e
      refine h.frz p0 σ H M ft δ _ _ R e1 _ fun v H1 M1 ft1 s1 R1 k1 => hr p0 σ H1 M1 ft1 δ1 _ _ R1 e2 _ fun vs H2 M2 ft2 s2 R2 k2 => ?_
      exact q (v :: vs) H2 M2 ft2 (s1.trans s2) R2 (.cons (k1.mono s2.ext) k2)
theorem da_nil : DA L X [] aNil := ⟨_, pa_nil, snd_nil⟩
theorem da_cons {f : Ev L} {fa : Ea L} (h : DE L X e f) (hr : DA L X es fa) (hs : starEach (e :: es) X.env = (false, eval e X.env) :: starEach es X.env := by rfl) : DA L X (e :: es) (aCons f fa) := by
  obtain ⟨t, p, s⟩ := h
  obtain ⟨ta, pa, sa⟩ := hr
  exact ⟨_, pa_cons p pa hs, snd_cons s sa⟩
/-- data only -/
def pds : List (DV L) → Option (List PD)
  | [] => some []
  | .d x :: r => match pds r with | some xs => some (x :: xs) | none => none
  | .ob _ :: _ => none
theorem pds_all {G : Hp} : ∀ {vs : List V} {ds : List (DV L)} {xs : List PD}, RepAll L G vs ds → pds ds = some xs → DkAll G vs xs
  | _, _, _, .nil, e => by cases e; exact .nil
  | v :: vs, .d x :: r, xs, .cons h t, e => by
    unfold pds at e
    cases q : pds r with
    | none => rw [q] at e; cases e
    | some ys => rw [q] at e; cases e; exact .cons h (pds_all t q)
  | v :: vs, .ob o :: r, xs, .cons h t, e => by cases e
/-! ### displays -/
def eTup (fa : Ea L) : Ev L := fun δ => match fa δ with
  | some (ds, δ') => match pds ds with
    | some xs => if xs.length ≤ 1000 then some (.dv (.d (.tuple xs)), δ') else none
    | none => none
  | none => none
def eLst (fa : Ea L) : Ev L := fun δ => match fa δ with
  | some (ds, δ') => match pds ds with
    | some xs => if xs.length ≤ 1000 then some (.own (.lst xs), δ') else none
    | none => none
  | none => none
theorem le1000 {n : Nat} (h : n ≤ 1000) : n ≤ sizeLine := Nat.le_of_lt (small1000 h)
theorem snd_tup {fa : Ea L} {t : TA} (h : SndA L fa t) : SndE L (eTup fa) (tTup t) := fun p0 σ H M ft δ r δ' R e Q q => by
  unfold eTup at e
  cases e1 : fa δ with
  | none => rw [e1] at e; cases e
  | some p1 =>
    obtain ⟨ds, δ1⟩ := p1
    rw [e1] at e
    simp only at e
    cases e2 : pds ds with
    | none => rw [e2] at e; cases e
    | some xs =>
      rw [e2] at e
      simp only at e
      by_cases hl : xs.length ≤ 1000
      · rw [if_pos hl] at e
        cases e
        refine h p0 σ H M ft δ _ _ R e1 _ fun vs H1 M1 ft1 s1 R1 k1 => ?_
        have ka := pds_all k1 e2
        refine ⟨by rw [ka.length]; exact le1000 hl, fun p hp => ?_⟩
        obtain ⟨s2, R2, hx⟩ := alloc (o := .tup vs) R1 hp
        exact q (.ref p) _ _ _ (s1.trans s2) R2 (.tup hx (ka.mono s2.ext))
      · rw [if_neg hl] at e; cases e
theorem snd_lst {fa : Ea L} {t : TA} (h : SndA L fa t) : SndE L (eLst fa) (tLst t) := fun p0 σ H M ft δ r δ' R e Q q => by
  unfold eLst at e
  cases e1 : fa δ with
  | none => rw [e1] at e; cases e
  | some p1 =>
    obtain ⟨ds, δ1⟩ := p1
    rw [e1] at e
    simp only at e
    cases e2 : pds ds with
    | none => rw [e2] at e; cases e
    | some xs =>
      rw [e2] at e
      simp only at e
      by_cases hl : xs.length ≤ 1000
      · rw [if_pos hl] at e
        cases e
        refine h p0 σ H M ft δ _ _ R e1 _ fun vs H1 M1 ft1 s1 R1 k1 => ?_
        have ka := pds_all k1 e2
        refine ⟨by rw [ka.length]; exact le1000 hl, fun p hp => ?_⟩
        obtain ⟨s2, R2, rk⟩ := allocO R1 hp ka
        exact q (.ref p) _ _ _ (s1.trans s2) R2 (rk.back s1 R1.inM)
      · rw [if_neg hl] at e; cases e
theorem de_tup {fa : Ea L} {x1} (h : DA L X es fa) : DE L X (.Tuple es x1 pos) (eTup fa) := by
  obtain ⟨t, p, s⟩ := h
  exact ⟨_, pe_tup p, snd_tup s⟩
theorem de_lst {fa : Ea L} (h : DA L X es fa) : DE L X (.List es pos) (eLst fa) := by
  obtain ⟨t, p, s⟩ := h
  exact ⟨_, pe_lst p, snd_lst s⟩
/-! ### an operation that makes a new list -/
def eOpL (g : PD → PD → Option (List PD)) (fa fb : Ev L) : Ev L := fun δ => match frz fa δ with
  | some (.d x, δ1) => match frz fb δ1 with
    | some (.d y, δ2) => match g x y with
      | some z => some (.own (.lst z), δ2)
      | none => none
    | _ => none
  | _ => none
def NewR (r : R2) (g : PD → PD → Option (List PD)) : Prop := ∀ (H G : Hp) (v w : V) (x y : PD) (z : List PD), Same G H → Dk G v x → Dk G w y → g x y = some z → ∀ Q : VK, (∀ p us, H p = none → DkAll G us z → Q (.ref p) (upd H p (.lst us))) → r v w H Q
theorem snd_opL {r : R2} {g : PD → PD → Option (List PD)} {fa fb : Ev L} {ta tb : TE} (hr : NewR r g) (ha : SndE L fa ta) (hb : SndE L fb tb) : SndE L (eOpL g fa fb) (tOp r ta tb) := fun p0 σ H M ft δ rr δ' R e Q q => by
  unfold eOpL at e
  cases e1 : frz fa δ with
  | none => rw [e1] at e; cases e
  | some p1 =>
    obtain ⟨x, δ1⟩ := p1
    rw [e1] at e
    cases x with
    | ob o => cases e
    | d x =>
      simp only at e
      cases e2 : frz fb δ1 with
      | none => rw [e2] at e; cases e
      | some p2 =>
        obtain ⟨y, δ2⟩ := p2
        rw [e2] at e
        cases y with
        | ob o => cases e
        | d y =>
          simp only at e
          cases e3 : g x y with
          | none => rw [e3] at e; cases e
          | some z =>
            rw [e3] at e
            cases e
            refine ha.frz p0 σ H M ft δ _ _ R e1 _ fun v H1 M1 ft1 s1 R1 k1 => hb.frz p0 σ H1 M1 ft1 δ1 _ _ R1 e2 _ fun w H2 M2 ft2 s2 R2 k2 => ?_
            refine hr H2 (hid H2 M2) v w x y z hid_same (Dk.mono s2.ext k1) k2 e3 Q fun p us hp ku => ?_
            obtain ⟨s3, R3, rk⟩ := allocO R2 hp ku
            exact q _ _ _ _ ((s1.trans s2).trans s3) R3 (rk.back (s1.trans s2) R2.inM)
theorem de_opL {op : Operator} {r : R2} {g : PD → PD → Option (List PD)} {fa fb : Ev L} (ho : OpR X (binaryOp op) r) (hr : NewR r g) (ha : DE L X a fa) (hb : DE L X b fb) : DE L X (.BinOp a op b pos) (eOpL g fa fb) := by
  obtain ⟨ta, pa, sa⟩ := ha
  obtain ⟨tb, pb, sb⟩ := hb
  exact ⟨_, pe_op ho pa pb, snd_opL hr sa sb⟩
def gCat : PD → PD → Option (List PD) := fun x y => match x, y with
  | .list xs, .list ys => if xs.length + ys.length ≤ 100000 then some (xs ++ ys) else none
  | _, _ => none
def gRep : PD → PD → Option (List PD) := fun x y => match x, y with
  | .list xs, .int k => if (-(2 ^ 63) ≤ k ∧ k < 2 ^ 63) ∧ xs.length * k.toNat ≤ 100000 then some (List.replicate k.toNat xs).flatten else none
  | _, _ => none
theorem le100k {n : Nat} (h : n ≤ 100000) : n ≤ sizeLine := Nat.le_trans h (by decide)
theorem n_cat : NewR rCat gCat := fun H G v w x y z sm k1 k2 e Q q => by
  unfold gCat at e
  split at e
  · rename_i xs ys
    by_cases hl : xs.length + ys.length ≤ 100000
    · rw [if_pos hl] at e
      cases e
      cases k1 with
      | lst h1 r1 =>
        cases k2 with
        | lst h2 r2 => exact ⟨_, _, _, _, rfl, rfl, sm _ _ h1, sm _ _ h2, by rw [r1.length, r2.length]; exact le100k hl, fun p hp => q p _ hp (r1.append r2)⟩
    · rw [if_neg hl] at e; cases e
  · cases e
theorem dk_flat {G : Hp} {us : List V} {ds : List PD} (r : DkAll G us ds) : ∀ n, DkAll G (List.replicate n us).flatten (List.replicate n ds).flatten
  | 0 => .nil
  | n + 1 => by
    rw [List.replicate_succ, List.replicate_succ, List.flatten_cons, List.flatten_cons]
    exact r.append (dk_flat r n)
theorem n_rep : NewR rRep gRep := fun H G v w x y z sm k1 k2 e Q q => by
  unfold gRep at e
  split at e
  · rename_i xs k
    by_cases hl : (-(2 ^ 63) ≤ k ∧ k < 2 ^ 63) ∧ xs.length * k.toNat ≤ 100000
    · rw [if_pos hl] at e
      cases e
      cases k2
      cases k1 with
      | lst h1 r1 => exact ⟨_, k, _, rfl, rfl, sm _ _ h1, hl.1.1, hl.1.2, by rw [r1.length]; exact le100k hl.2, fun p hp => q p _ hp (dk_flat r1 _)⟩
    · rw [if_neg hl] at e; cases e
  · cases e
/-! ### slices of lists -/
abbrev Eo := List (SV L) → Option (Option Int × List (SV L))
def SndO (f : List (SV L) → Option (Option Int × List (SV L))) (t : TO) : Prop := ∀ (p0 : Option V) (σ : St) (H : Hp) (M : Addr → Prop) (ft : Nat → Addr → Prop) (δ : List (SV L)) (r : Option Int) (δ' : List (SV L)), Rp L p0 H M ft σ δ → f δ = some (r, δ') →
  ∀ Q : Option Int → Hp → Prop, (∀ H' M' ft', Step H M ft H' M' ft' → Rp L p0 H' M' ft' σ δ' → Q r H') → t σ H Q
structure DO (L : Lang) (X : Cx) (e : Option Expr) (f : List (SV L) → Option (Option Int × List (SV L))) : Prop where
  ex : ∃ t, PO X e t ∧ SndO f t
def oNone : List (SV L) → Option (Option Int × List (SV L)) := fun δ => some (none, δ)
def oSome (f : Ev L) : List (SV L) → Option (Option Int × List (SV L)) := fun δ => match f δ with
  | some (.dv (.d (.int i)), δ') => some (some i, δ')
  | _ => none
theorem do_none : DO L X none oNone := ⟨_, po_none, fun p0 σ H M ft δ r δ' R e Q q => by
  cases e
  exact q H M ft (Step.refl ..) R⟩
theorem do_some {f : Ev L} (h : DE L X e f) : DO L X (some e) (oSome f) := by
  obtain ⟨t, p, s⟩ := h
  refine ⟨_, po_some p, fun p0 σ H M ft δ r δ' R e Q q => ?_⟩
  unfold oSome at e
  split at e
  · rename_i i δ1 e1
    cases e
    refine s p0 σ H M ft δ _ _ R e1 _ fun v H1 M1 ft1 s1 R1 k1 => ?_
    have k2 : Dk (hid H1 M1) v (.int i) := k1
    cases k2
    exact ⟨i, rfl, q H1 M1 ft1 s1 R1⟩
  · cases e
def cutD (xs : List PD) (lo hi : Option Int) : List PD := (xs.drop (HT.sIx xs.length 0 lo)).take (HT.sIx xs.length xs.length hi - HT.sIx xs.length 0 lo)
def eSl (f : Ev L) (fl fh : List (SV L) → Option (Option Int × List (SV L))) : Ev L := fun δ => match frz f δ with
  | some (.d (.list xs), δ1) => match fl δ1 with
    | some (lo, δ2) => match fh δ2 with
      | some (hi, δ3) => some (.own (.lst (cutD xs lo hi)), δ3)
      | none => none
    | none => none
  | _ => none
theorem de_sl {f : Ev L} {fl fh : List (SV L) → Option (Option Int × List (SV L))} {lo hi : Option Expr} {p2 : Pos} (h : DE L X e f) (hl : DO L X lo fl) (hh : DO L X hi fh) : DE L X (.Subscript e (.Slice lo hi none p2) pos) (eSl f fl fh) := by
  obtain ⟨t, p, s⟩ := h
  obtain ⟨tl, pl, sl⟩ := hl
  obtain ⟨th, ph, sh⟩ := hh
  refine ⟨_, pe_slice sl_list p pl ph, fun p0 σ H M ft δ r δ' R e Q q => ?_⟩
  unfold eSl at e
  split at e
  · rename_i xs δ1 e1
    split at e
    · rename_i lo δ2 e2
      split at e
      · rename_i hi δ3 e3
        cases e
        refine s.frz p0 σ H M ft δ _ _ R e1 _ fun v H1 M1 ft1 s1 R1 k1 => sl p0 σ H1 M1 ft1 δ1 _ _ R1 e2 _ fun H2 M2 ft2 s2 R2 => sh p0 σ H2 M2 ft2 δ2 _ _ R2 e3 _ fun H3 M3 ft3 s3 R3 => ?_
        have k3 : Dk (hid H3 M3) v (.list xs) := Dk.mono (s2.trans s3).ext k1
        cases k3 with
        | @lst a ys _ ha rk =>
          refine ⟨a, ys, rfl, SqL.of (hid_same _ _ ha), fun p hp => ?_⟩
          have rc : DkAll (hid H3 M3) (cutV ys lo hi) (cutD xs lo hi) := by
            unfold cutV cutD
            rw [rk.length]
            exact (rk.drop _).take _
          obtain ⟨s4, R4, rr⟩ := allocO R3 hp rc
          exact q _ _ _ _ (((s1.trans s2).trans s3).trans s4) R4 (rr.back ((s1.trans s2).trans s3) R3.inM)
      · cases e
    · cases e
  · cases e
/-! ### bools, if .. else -/
def tstNot (f : Et L) : Et L := fun δ => match f δ with
  | some (b, δ') => some (!b, δ')
  | none => none
def tstAnd (f g : Et L) : Et L := fun δ => match f δ with
  | some (true, δ') => g δ'
  | some (false, δ') => some (false, δ')
  | none => none
def tstOr (f g : Et L) : Et L := fun δ => match f δ with
  | some (true, δ') => some (true, δ')
  | some (false, δ') => g δ'
  | none => none
theorem snd_not {f : Et L} {t : TT} (h : SndT L f t) : SndT L (tstNot f) (tNot t) := fun p0 σ H M ft δ b δ' R e Q q => by
  unfold tstNot at e
  split at e
  · rename_i b1 δ1 e1
    cases e
    exact h p0 σ H M ft δ _ _ R e1 _ fun H1 M1 ft1 s1 R1 => q H1 M1 ft1 s1 R1
  · cases e
theorem snd_and {f g : Et L} {t u : TT} (h : SndT L f t) (hg : SndT L g u) : SndT L (tstAnd f g) (tAnd t u) := fun p0 σ H M ft δ b δ' R e Q q => by
  unfold tstAnd at e
  split at e
  · rename_i δ1 e1
    refine h p0 σ H M ft δ _ _ R e1 _ fun H1 M1 ft1 s1 R1 => ?_
    exact iteT (hg p0 σ H1 M1 ft1 δ1 _ _ R1 e Q fun H2 M2 ft2 s2 R2 => q H2 M2 ft2 (s1.trans s2) R2)
  · rename_i δ1 e1
    cases e
    refine h p0 σ H M ft δ _ _ R e1 _ fun H1 M1 ft1 s1 R1 => ?_
    exact iteF (q H1 M1 ft1 s1 R1)
  · cases e
theorem snd_or {f g : Et L} {t u : TT} (h : SndT L f t) (hg : SndT L g u) : SndT L (tstOr f g) (tOr t u) := fun p0 σ H M ft δ b δ' R e Q q => by
  unfold tstOr at e
  split at e
  · rename_i δ1 e1
    cases e
    refine h p0 σ H M ft δ _ _ R e1 _ fun H1 M1 ft1 s1 R1 => ?_
    exact iteT (q H1 M1 ft1 s1 R1)
  · rename_i δ1 e1
    refine h p0 σ H M ft δ _ _ R e1 _ fun H1 M1 ft1 s1 R1 => ?_
    exact iteF (hg p0 σ H1 M1 ft1 δ1 _ _ R1 e Q fun H2 M2 ft2 s2 R2 => q H2 M2 ft2 (s1.trans s2) R2)
  · cases e
theorem dt_not {f : Et L} (h : DT L X a f) : DT L X (.UnaryOp .Not a pos) (tstNot f) := by
  obtain ⟨t, p, s⟩ := h
  exact ⟨_, pt_not p, snd_not s⟩
/-- chains of and, of or, as tests -/
structure DW (L : Lang) (X : Cx) (e : Expr) (f : Et L) : Prop where
  ex : ∃ t, PW X e t ∧ SndT L f t
theorem DW.dt {f : Et L} (h : DW L X e f) : DT L X e f := by
  obtain ⟨t, p, s⟩ := h
  exact ⟨_, p.pt, s⟩
variable {rest : List Expr}
theorem dw_and1 {f : Et L} (h : DT L X a f) : DW L X (.BoolOp .And [a] pos) f := by
  obtain ⟨t, p, s⟩ := h
  exact ⟨_, pw_and1 p, s⟩
theorem dw_or1 {f : Et L} (h : DT L X a f) : DW L X (.BoolOp .Or [a] pos) f := by
  obtain ⟨t, p, s⟩ := h
  exact ⟨_, pw_or1 p, s⟩
theorem dw_and {f g : Et L} (h : DT L X a f) (hg : DW L X (.BoolOp .And (b :: rest) pos) g) : DW L X (.BoolOp .And (a :: b :: rest) pos) (tstAnd f g) := by
  obtain ⟨t, p, s⟩ := h
  obtain ⟨u, pu, su⟩ := hg
  exact ⟨_, pw_and p pu, snd_and s su⟩
theorem dw_or {f g : Et L} (h : DT L X a f) (hg : DW L X (.BoolOp .Or (b :: rest) pos) g) : DW L X (.BoolOp .Or (a :: b :: rest) pos) (tstOr f g) := by
  obtain ⟨t, p, s⟩ := h
  obtain ⟨u, pu, su⟩ := hg
  exact ⟨_, pw_or p pu, snd_or s su⟩
/-- a test as a value (and, or, not of bools) -/
def ofT (f : Et L) : Ev L := fun δ => match f δ with
  | some (b, δ') => some (.dv (.d (.bool b)), δ')
  | none => none
theorem snd_andV {f g : Ev L} {t u : TE} (h : SndE L f t) (hg : SndE L g u) : SndE L (ofT (tstAnd (tst f) (tst g))) (tAndV t u) := fun p0 σ H M ft δ r δ' R e Q q => by
  unfold ofT at e
  split at e
  · rename_i b δ1 e1
    cases e
    have z := snd_tst h
    unfold tstAnd at e1
    split at e1
    · rename_i δ2 e2
      refine snd_tst h p0 σ H M ft δ _ _ R e2 (fun k H1 => if k = true then u σ H1 Q else Q (.bl false) H1) fun H1 M1 ft1 s1 R1 => iteT ?_
      have w := snd_tst hg p0 σ H1 M1 ft1 δ2 _ _ R1 e1 (fun k H2 => Q (.bl k) H2) fun H2 M2 ft2 s2 R2 => q _ H2 M2 ft2 (s1.trans s2) R2 (.bl _)
      have w2 : u σ H1 fun x H2 => ∃ k, x = .bl k ∧ Q (.bl k) H2 := w
      unfold tst at e1
      split at e1
      · rename_i b' δ3 e3
        cases e1
        refine hg p0 σ H1 M1 ft1 δ2 _ _ R1 e3 Q fun v H2 M2 ft2 s2 R2 k2 => ?_
        exact q v H2 M2 ft2 (s1.trans s2) R2 k2
      · cases e1
    · rename_i δ2 e2
      cases e1
      exact snd_tst h p0 σ H M ft δ _ _ R e2 (fun k H1 => if k = true then u σ H1 Q else Q (.bl false) H1) fun H1 M1 ft1 s1 R1 => iteF (q _ H1 M1 ft1 s1 R1 (.bl _))
    · cases e1
  · cases e
theorem snd_orV {f g : Ev L} {t u : TE} (h : SndE L f t) (hg : SndE L g u) : SndE L (ofT (tstOr (tst f) (tst g))) (tOrV t u) := fun p0 σ H M ft δ r δ' R e Q q => by
  unfold ofT at e
  split at e
  · rename_i b δ1 e1
    cases e
    unfold tstOr at e1
    split at e1
    · rename_i δ2 e2
      cases e1
      exact snd_tst h p0 σ H M ft δ _ _ R e2 (fun k H1 => if k = true then Q (.bl true) H1 else u σ H1 Q) fun H1 M1 ft1 s1 R1 => iteT (q _ H1 M1 ft1 s1 R1 (.bl _))
    · rename_i δ2 e2
      refine snd_tst h p0 σ H M ft δ _ _ R e2 (fun k H1 => if k = true then Q (.bl true) H1 else u σ H1 Q) fun H1 M1 ft1 s1 R1 => iteF ?_
      unfold tst at e1
      split at e1
      · rename_i b' δ3 e3
        cases e1
        refine hg p0 σ H1 M1 ft1 δ2 _ _ R1 e3 Q fun v H2 M2 ft2 s2 R2 k2 => ?_
        exact q v H2 M2 ft2 (s1.trans s2) R2 k2
      · cases e1
    · cases e1
  · cases e
theorem de_one {op} {f : Ev L} (h : DE L X a f) : DE L X (.BoolOp op [a] pos) f := by
  obtain ⟨t, p, s⟩ := h
  exact ⟨_, pe_one p, s⟩
theorem de_and {f g : Ev L} (h : DE L X a f) (hg : DE L X (.BoolOp .And (b :: rest) pos) g) : DE L X (.BoolOp .And (a :: b :: rest) pos) (ofT (tstAnd (tst f) (tst g))) := by
  obtain ⟨t, p, s⟩ := h
  obtain ⟨u, pu, su⟩ := hg
  exact ⟨_, pe_and p pu, snd_andV s su⟩
theorem de_or {f g : Ev L} (h : DE L X a f) (hg : DE L X (.BoolOp .Or (b :: rest) pos) g) : DE L X (.BoolOp .Or (a :: b :: rest) pos) (ofT (tstOr (tst f) (tst g))) := by
  obtain ⟨t, p, s⟩ := h
  obtain ⟨u, pu, su⟩ := hg
  exact ⟨_, pe_or p pu, snd_orV s su⟩
def eIf (c : Et L) (f g : Ev L) : Ev L := fun δ => match c δ with
  | some (true, δ') => f δ'
  | some (false, δ') => g δ'
  | none => none
theorem de_if {fc : Et L} {f g : Ev L} (hc : DT L X c fc) (ha : DE L X a f) (hb : DE L X b g) : DE L X (.IfExp c a b pos) (eIf fc f g) := by
  obtain ⟨tc, pc, sc⟩ := hc
  obtain ⟨ta, pa, sa⟩ := ha
  obtain ⟨tb, pb, sb⟩ := hb
  refine ⟨_, pe_ifExp pc pa pb, fun p0 σ H M ft δ r δ' R e Q q => ?_⟩
  unfold eIf at e
  split at e
  · rename_i δ1 e1
    refine sc p0 σ H M ft δ _ _ R e1 _ fun H1 M1 ft1 s1 R1 => iteT ?_
    exact sa p0 σ H1 M1 ft1 δ1 _ _ R1 e Q fun v H2 M2 ft2 s2 R2 k2 => q v H2 M2 ft2 (s1.trans s2) R2 (k2.back s1 R1.inM)
  · rename_i δ1 e1
    refine sc p0 σ H M ft δ _ _ R e1 _ fun H1 M1 ft1 s1 R1 => iteF ?_
    exact sb p0 σ H1 M1 ft1 δ1 _ _ R1 e Q fun v H2 M2 ft2 s2 R2 k2 => q v H2 M2 ft2 (s1.trans s2) R2 (k2.back s1 R1.inM)
  · cases e
/-! ### built-ins -/
def eCB (g : List PD → Option PD) (fa : Ea L) : Ev L := fun δ => match fa δ with
  | some (ds, δ') => match pds ds with
    | some xs => match g xs with
      | some z => some (.dv (.d z), δ')
      | none => none
    | none => none
  | none => none
def PureC (r : List V → Hp → VK → Prop) (g : List PD → Option PD) : Prop := ∀ (H G : Hp) (vs : List V) (xs : List PD) (z : PD), Same G H → DkAll G vs xs → g xs = some z → ∀ Q : VK, (∀ u, Dk G u z → Q u H) → r vs H Q
theorem snd_cb {r : List V → Hp → VK → Prop} {g : List PD → Option PD} {fa : Ea L} {t : TA} (hr : PureC r g) (h : SndA L fa t) : SndE L (eCB g fa) (tCB r t) := fun p0 σ H M ft δ rr δ' R e Q q => by
  unfold eCB at e
  split at e
  · rename_i ds δ1 e1
    split at e
    · rename_i xs e2
      split at e
      · rename_i z e3
        cases e
        refine h p0 σ H M ft δ _ _ R e1 _ fun vs H1 M1 ft1 s1 R1 k1 => ?_
        exact hr H1 (hid H1 M1) vs xs z hid_same (pds_all k1 e2) e3 Q fun u ku => q u H1 M1 ft1 s1 R1 ku
      · cases e
    · cases e
  · cases e
variable {x : Str} {p : Pos}
theorem de_cb {r : List V → Hp → VK → Prop} {g : List PD → Option PD} {fa : Ea L} {id : String} (hc : CallR X (.builtin id) r) (hr : PureC r g) (hm : X.mg x = none) (hv : bootBuiltins x = some (.builtin id)) (ha : DA L X (e :: es) fa) (hg : Gl X x := by rfl) (hn : x ≠ "__name__" := by decide) (hdb : (x == ("__debug__" : Str)) = false := by decide)
    (he : starEach (e :: es) X.env = (false, eval e X.env) :: starEach es X.env := by rfl) (hpl : (backTo pos (starEach es X.env)).any (·.1) = false := by rfl) : DE L X (.Call (.Name x p) (e :: es) [] pos) (eCB g fa) := by
  obtain ⟨t, pa, sa⟩ := ha
  exact ⟨_, pe_callB hc hg hm hv pa hn hdb he hpl, snd_cb hr sa⟩
theorem de_ct {r : List V → Hp → VK → Prop} {g : List PD → Option PD} {fa : Ea L} {T : String} (hc : CallR X (.type T) r) (hr : PureC r g) (hm : X.mg x = none) (hv : bootBuiltins x = some (.type T)) (ha : DA L X (e :: es) fa) (hg : Gl X x := by rfl) (hn : x ≠ "__name__" := by decide) (hdb : (x == ("__debug__" : Str)) = false := by decide)
    (he : starEach (e :: es) X.env = (false, eval e X.env) :: starEach es X.env := by rfl) (hpl : (backTo pos (starEach es X.env)).any (·.1) = false := by rfl) : DE L X (.Call (.Name x p) (e :: es) [] pos) (eCB g fa) := by
  obtain ⟨t, pa, sa⟩ := ha
  exact ⟨_, pe_callTy hc hg hm hv pa hn hdb he hpl, snd_cb hr sa⟩
end
end DL
set_option Elab.async false
set_option linter.all false
set_option maxRecDepth 100000
set_option maxHeartbeats 1000000
/-! D3: built-ins; reading while what is owned stands still; statements. -/
namespace DL
open PySem PySem.Spec L2
open PyProof.Rows hiding St
variable [CN]
variable {L : Lang}
section
variable {X : Cx} {e a b c : Expr} {es : List Expr} {pos : Pos}
/-! ### built-ins -/
def cLen : List PD → Option PD
  | [.list xs] => some (.int xs.length)
  | [.tuple xs] => some (.int xs.length)
  | [.str s] => if s.length ≤ sizeLine then some (.int s.length) else none
  | _ => none
theorem q_len {K : PySem.W.Frag} : PureC (fun xs H Q => ∃ x n, xs = [x] ∧ LenV K x H n ∧ Q (.int n) H) cLen := fun H G vs xs z sm k e Q q => by
  unfold cLen at e
  split at e
  · rename_i ys
    cases e
    cases k with
    | cons h t =>
      cases t
      cases h with
      | lst ha r => exact ⟨_, _, rfl, .inl ⟨_, SqL.of (sm _ _ ha), rfl⟩, by rw [r.length]; exact q _ (.int _)⟩
  · rename_i ys
    cases e
    cases k with
    | cons h t =>
      cases t
      cases h with
      | tup ha r => exact ⟨_, _, rfl, .inr ⟨_, SqT.of (sm _ _ ha), rfl⟩, by rw [r.length]; exact q _ (.int _)⟩
  · rename_i s
    by_cases hs : s.length ≤ sizeLine
    · rw [if_pos hs] at e
      cases e
      cases k with
      | cons h t =>
        cases t
        cases h
        exact ⟨_, _, rfl, ⟨hs, rfl⟩, q _ (.int _)⟩
    · rw [if_neg hs] at e; cases e
  · cases e
def cInt : List PD → Option PD
  | [.int i] => some (.int i)
  | [.bool k] => some (.int (if k then 1 else 0))
  | _ => none
theorem q_int : PureC (fun xs H Q => (∃ i, xs = [.int i] ∧ Q (.int i) H) ∨ ∃ k, xs = [.bl k] ∧ Q (.int (if k then 1 else 0)) H) cInt := fun H G vs xs z sm k e Q q => by
  unfold cInt at e
  split at e
  · cases e
    cases k with
    | cons h t => cases t; cases h; exact .inl ⟨_, rfl, q _ (.int _)⟩
  · cases e
    cases k with
    | cons h t => cases t; cases h; exact .inr ⟨_, rfl, q _ (.int _)⟩
  · cases e
def cAbs : List PD → Option PD
  | [.int i] => some (.int (if i < 0 then -i else i))
  | _ => none
theorem q_abs : PureC (fun xs H Q => ∃ i, xs = [.int i] ∧ Q (.int (if i < 0 then -i else i)) H) cAbs := fun H G vs xs z sm k e Q q => by
  unfold cAbs at e
  split at e
  · cases e
    cases k with
    | cons h t => cases t; cases h; exact ⟨_, rfl, q _ (.int _)⟩
  · cases e
def cMax2 : List PD → Option PD
  | [.int i, .int j] => some (.int (if j > i then j else i))
  | _ => none
theorem q_max2 : PureC (fun xs H Q => ∃ i j, xs = [.int i, .int j] ∧ Q (.int (if j > i then j else i)) H) cMax2 := fun H G vs xs z sm k e Q q => by
  unfold cMax2 at e
  split at e
  · cases e
    cases k with
    | cons h t =>
      cases t with
      | cons h2 t2 => cases t2; cases h; cases h2; exact ⟨_, _, rfl, q _ (.int _)⟩
  · cases e
/-- the ints, the bools of a list of data -/
def intsD : List PD → Option (List Int)
  | [] => some []
  | .int i :: r => match intsD r with | some ns => some (i :: ns) | none => none
  | _ :: _ => none
def boolsD : List PD → Option (List Bool)
  | [] => some []
  | .bool i :: r => match boolsD r with | some ns => some (i :: ns) | none => none
  | _ :: _ => none
theorem intsD_eq : ∀ {ds : List PD} {ns : List Int}, intsD ds = some ns → ds = ns.map PyData.int
  | [], ns, e => by cases e; rfl
  | .int i :: r, ns, e => by
    unfold intsD at e
    cases q : intsD r with
    | none => rw [q] at e; cases e
    | some ms => rw [q] at e; cases e; rw [intsD_eq q]; rfl
  | .none :: _, _, e => by cases e
  | .bool _ :: _, _, e => by cases e
  | .str _ :: _, _, e => by cases e
  | .list _ :: _, _, e => by cases e
  | .tuple _ :: _, _, e => by cases e
  | .dict _ :: _, _, e => by cases e
theorem boolsD_eq : ∀ {ds : List PD} {ns : List Bool}, boolsD ds = some ns → ds = ns.map PyData.bool
  | [], ns, e => by cases e; rfl
  | .bool i :: r, ns, e => by
    unfold boolsD at e
    cases q : boolsD r with
    | none => rw [q] at e; cases e
    | some ms => rw [q] at e; cases e; rw [boolsD_eq q]; rfl
  | .none :: _, _, e => by cases e
  | .int _ :: _, _, e => by cases e
  | .str _ :: _, _, e => by cases e
  | .list _ :: _, _, e => by cases e
  | .tuple _ :: _, _, e => by cases e
  | .dict _ :: _, _, e => by cases e
def cSum : List PD → Option PD
  | [.list xs] => match intsD xs with | some ns => some (.int ns.sum) | none => none
  | _ => none
theorem q_sum {K : PySem.W.Frag} : PureC (rSum K) cSum := fun H G vs xs z sm k e Q q => by
  unfold cSum at e
  split at e
  · rename_i ys
    split at e
    · rename_i ns e1
      cases e
      cases k with
      | cons h t =>
        cases t
        cases h with
        | lst ha r =>
          rw [intsD_eq e1] at r
          rw [r.ints] at ha
          exact ⟨_, ns, rfl, SqL.of (sm _ _ ha), q _ (.int _)⟩
    · cases e
  · cases e
def cAny : List PD → Option PD
  | [.list xs] => match boolsD xs with | some ns => some (.bool (ns.any id)) | none => none
  | _ => none
theorem q_any {K : PySem.W.Frag} : PureC (rAny K) cAny := fun H G vs xs z sm k e Q q => by
  unfold cAny at e
  split at e
  · rename_i ys
    split at e
    · rename_i ns e1
      cases e
      cases k with
      | cons h t =>
        cases t
        cases h with
        | lst ha r =>
          rw [boolsD_eq e1] at r
          rw [r.bools] at ha
          exact ⟨_, ns, rfl, SqL.of (sm _ _ ha), q _ (.bl _)⟩
    · cases e
  · cases e
/-! a built-in that makes a list: list(xs) -/
def eCBL (g : List PD → Option (List PD)) (fa : Ea L) : Ev L := fun δ => match fa δ with
  | some (ds, δ') => match pds ds with
    | some xs => match g xs with
      | some z => some (.own (.lst z), δ')
      | none => none
    | none => none
  | none => none
def NewC (r : List V → Hp → VK → Prop) (g : List PD → Option (List PD)) : Prop := ∀ (H G : Hp) (vs : List V) (xs : List PD) (z : List PD), Same G H → DkAll G vs xs → g xs = some z → ∀ Q : VK, (∀ p us, H p = none → DkAll G us z → Q (.ref p) (upd H p (.lst us))) → r vs H Q
theorem snd_cbl {r : List V → Hp → VK → Prop} {g : List PD → Option (List PD)} {fa : Ea L} {t : TA} (hr : NewC r g) (h : SndA L fa t) : SndE L (eCBL g fa) (tCB r t) := fun p0 σ H M ft δ rr δ' R e Q q => by
  unfold eCBL at e
  split at e
  · rename_i ds δ1 e1
    split at e
    · rename_i xs e2
      split at e
      · rename_i z e3
        cases e
        refine h p0 σ H M ft δ _ _ R e1 _ fun vs H1 M1 ft1 s1 R1 k1 => ?_
        refine hr H1 (hid H1 M1) vs xs z hid_same (pds_all k1 e2) e3 Q fun p us hp ku => ?_
        obtain ⟨s2, R2, rk⟩ := allocO R1 hp ku
        exact q _ _ _ _ (s1.trans s2) R2 (rk.back s1 R1.inM)
      · cases e
    · cases e
  · cases e
variable {x : Str} {p : Pos}
theorem de_ctL {r : List V → Hp → VK → Prop} {g : List PD → Option (List PD)} {fa : Ea L} {T : String} (hc : CallR X (.type T) r) (hr : NewC r g) (hm : X.mg x = none) (hv : bootBuiltins x = some (.type T)) (ha : DA L X (e :: es) fa) (hg : Gl X x := by rfl) (hn : x ≠ "__name__" := by decide) (hdb : (x == ("__debug__" : Str)) = false := by decide)
    (he : starEach (e :: es) X.env = (false, eval e X.env) :: starEach es X.env := by rfl) (hpl : (backTo pos (starEach es X.env)).any (·.1) = false := by rfl) : DE L X (.Call (.Name x p) (e :: es) [] pos) (eCBL g fa) := by
  obtain ⟨t, pa, sa⟩ := ha
  exact ⟨_, pe_callTy hc hg hm hv pa hn hdb he hpl, snd_cbl hr sa⟩
def cListOf : List PD → Option (List PD)
  | [.list xs] => some xs
  | [.tuple xs] => some xs
  | _ => none
theorem q_listOf {K : PySem.W.Frag} : NewC (fun xs H Q => ∃ p ys, xs = [.ref p] ∧ (SqL K H p ys ∨ SqT K H p ys) ∧ ∀ l, H l = none → Q (.ref l) (upd H l (.lst ys))) cListOf := fun H G vs xs z sm k e Q q => by
  unfold cListOf at e
  split at e
  · cases e
    cases k with
    | cons h t =>
      cases t
      cases h with
      | lst ha r => exact ⟨_, _, rfl, .inl (SqL.of (sm _ _ ha)), fun l hl => q l _ hl r⟩
  · cases e
    cases k with
    | cons h t =>
      cases t
      cases h with
      | tup ha r => exact ⟨_, _, rfl, .inr (SqT.of (sm _ _ ha)), fun l hl => q l _ hl r⟩
  · cases e
/-! tuple(list) -/
def eTupOf (fa : Ea L) : Ev L := fun δ => match fa δ with
  | some ([.d (.list xs)], δ') => some (.dv (.d (.tuple xs)), δ')
  | some ([.d (.tuple xs)], δ') => some (.dv (.d (.tuple xs)), δ')
  | _ => none
theorem de_tupOf {fa : Ea L} (hm : X.mg x = none) (hv : bootBuiltins x = some (.type "tuple")) (ha : DA L X (e :: es) fa) (hg : Gl X x := by rfl) (hn : x ≠ "__name__" := by decide) (hdb : (x == ("__debug__" : Str)) = false := by decide)
    (he : starEach (e :: es) X.env = (false, eval e X.env) :: starEach es X.env := by rfl) (hpl : (backTo pos (starEach es X.env)).any (·.1) = false := by rfl) : DE L X (.Call (.Name x p) (e :: es) [] pos) (eTupOf fa) := by
  obtain ⟨t, pa, sa⟩ := ha
  refine ⟨_, pe_callTy call_tuple_of hg hm hv pa hn hdb he hpl, fun p0 σ H M ft δ r δ' R e Q q => ?_⟩
  unfold eTupOf at e
  split at e
  · rename_i xs δ1 e1
    cases e
    refine sa p0 σ H M ft δ _ _ R e1 _ fun vs H1 M1 ft1 s1 R1 k1 => ?_
    cases k1 with
    | cons h t2 =>
      cases t2
      have h' : Dk (hid H1 M1) _ (.list xs) := h
      cases h' with
      | lst ha rk =>
        refine ⟨_, _, rfl, .inl ⟨SqL.of (hid_same _ _ ha), fun l hl => ?_⟩⟩
        obtain ⟨s2, R2, hx⟩ := alloc (o := .tup _) R1 hl
        exact q _ _ _ _ (s1.trans s2) R2 (.tup hx (rk.mono s2.ext))
  · rename_i xs δ1 e1
    cases e
    refine sa p0 σ H M ft δ _ _ R e1 _ fun vs H1 M1 ft1 s1 R1 k1 => ?_
    cases k1 with
    | cons h t2 =>
      cases t2
      have h' : Dk (hid H1 M1) _ (.tuple xs) := h
      cases h' with
      | tup ha rk => exact ⟨_, _, rfl, .inr ⟨SqT.of (hid_same _ _ ha), q _ _ _ _ s1 R1 (.tup ha rk)⟩⟩
  · cases e
/-! isinstance of data -/
def tyD : PD → String
  | .none => "NoneType" | .bool _ => "bool" | .int _ => "int" | .str _ => "str" | .list _ => "list" | .tuple _ => "tuple" | .dict _ => "dict"
def isiD (T : String) (x : PD) : Bool := tyD x == T || (T == "int" && tyD x == "bool")
def tyNames : List String := ["NoneType", "bool", "int", "str", "list", "tuple"]
def clNames : List String := ["int", "bool", "str", "list", "tuple"]
theorem kit_all : ∀ a ∈ tyNames, ∀ T ∈ clNames, kitB a T = some (a == T || (T == "int" && a == "bool")) := by decide +kernel
def isDict : PD → Bool | .dict _ => true | _ => false
theorem tyD_mem {G : Hp} {v : V} {x : PD} (k : Dk G v x) (nd : isDict x = false) : tyD x ∈ tyNames := by
  cases k with
  | exc _ _ _ _ => cases nd
  | exc0 _ _ => cases nd
  | _ => simp [tyD, tyNames]
theorem ty_of {K : PySem.W.Frag} {G H : Hp} {v : V} {x : PD} (sm : Same G H) (k : Dk G v x) (nd : isDict x = false) : TyX K H v (.type (tyD x)) := by
  cases k with
  | exc _ _ _ _ => cases nd
  | exc0 _ _ => cases nd
  | non => exact .base .non
  | bl b => exact .base (.bl b)
  | int b => exact .base (.int b)
  | str b => exact .base (.str b)
  | lst h _ => exact .base (.lst (sm _ _ h))
  | tup h _ => exact .base (.tup (sm _ _ h))
theorem kit_d {K : PySem.W.Frag} {T : String} (hT : T ∈ clNames) {G : Hp} {v : V} {x : PD} (k : Dk G v x) (nd : isDict x = false) : PySem.W.kitOne K (.type (tyD x)) (.type T) = some (isiD T x) := kit_ty (kit_all _ (tyD_mem k nd) T hT)
/-- isinstance(e, T), T a built-in class -/
def eIsi (T : String) (f : Ev L) : Ev L := fun δ => match frz f δ with
  | some (.d x, δ') => if isDict x = false then some (.dv (.d (.bool (isiD T x))), δ') else none
  | _ => none
theorem de_isi {f : Ev L} {T : String} {y : Str} {p2 : Pos} (h : DE L X e f) (hT : T ∈ clNames) (hm : X.mg "isinstance" = none) (hv : bootBuiltins "isinstance" = some (.builtin "isinstance")) (my : X.mg y = none) (by_ : bootBuiltins y = some (.type T)) (hg : Gl X "isinstance" := by rfl) (gy : Gl X y := by rfl)
    (ny : y ≠ "__name__" := by decide) (dy : (y == ("__debug__" : Str)) = false := by decide) (he : starEach (e :: [.Name y p2]) X.env = (false, eval e X.env) :: starEach [.Name y p2] X.env := by rfl) (he2 : starEach (.Name y p2 :: []) X.env = (false, eval (.Name y p2) X.env) :: starEach [] X.env := by rfl)
    (hpl : (backTo pos (starEach [.Name y p2] X.env)).any (·.1) = false := by rfl) : DE L X (.Call (.Name "isinstance" p) [e, .Name y p2] [] pos) (eIsi T f) := by
  obtain ⟨t, pa, sa⟩ := h
  refine ⟨_, pe_callB call_isi hg hm hv (pa_cons pa (pa_cons (pe_bltn (v := .ty T) gy my by_ rfl ny dy) pa_nil he2) he) (by decide) (by decide) he hpl, fun p0 σ H M ft δ r δ' R e Q q => ?_⟩
  unfold eIsi at e
  split at e
  · rename_i x δ1 e1
    split at e
    · rename_i nd
      cases e
      refine sa.frz p0 σ H M ft δ _ _ R e1 _ fun v H1 M1 ft1 s1 R1 k1 => ?_
      exact ⟨v, .ty T, _, _, _, rfl, .ty T, ty_of hid_same k1 nd, kit_d hT k1 nd, q _ _ _ _ s1 R1 (.bl _)⟩
    · cases e
  · cases e
/-- isinstance(e, (T, U)) -/
def eIsi2 (T U : String) (f : Ev L) : Ev L := fun δ => match frz f δ with
  | some (.d x, δ') => if isDict x = false then some (.dv (.d (.bool (isiD T x || isiD U x))), δ') else none
  | _ => none
theorem de_isi2 {f : Ev L} {T U : String} {y z : Str} {p2 p3 p4 : Pos} {k4} (h : DE L X e f) (hT : T ∈ clNames) (hU : U ∈ clNames) (hm : X.mg "isinstance" = none) (hv : bootBuiltins "isinstance" = some (.builtin "isinstance"))
    (my : X.mg y = none) (by_ : bootBuiltins y = some (.type T)) (mz : X.mg z = none) (bz : bootBuiltins z = some (.type U)) (hg : Gl X "isinstance" := by rfl) (gy : Gl X y := by rfl) (gz : Gl X z := by rfl)
    (ny : y ≠ "__name__" := by decide) (dy : (y == ("__debug__" : Str)) = false := by decide) (nz : z ≠ "__name__" := by decide) (dz : (z == ("__debug__" : Str)) = false := by decide)
    (he : starEach (e :: [.Tuple [.Name y p2, .Name z p3] k4 p4]) X.env = (false, eval e X.env) :: starEach [.Tuple [.Name y p2, .Name z p3] k4 p4] X.env := by rfl)
    (he2 : starEach (.Tuple [.Name y p2, .Name z p3] k4 p4 :: []) X.env = (false, eval (.Tuple [.Name y p2, .Name z p3] k4 p4) X.env) :: starEach [] X.env := by rfl)
    (he3 : starEach (.Name y p2 :: [.Name z p3]) X.env = (false, eval (.Name y p2) X.env) :: starEach [.Name z p3] X.env := by rfl) (he4 : starEach (.Name z p3 :: []) X.env = (false, eval (.Name z p3) X.env) :: starEach [] X.env := by rfl)
    (hpl : (backTo pos (starEach [.Tuple [.Name y p2, .Name z p3] k4 p4] X.env)).any (·.1) = false := by rfl) : DE L X (.Call (.Name "isinstance" p) [e, .Tuple [.Name y p2, .Name z p3] k4 p4] [] pos) (eIsi2 T U f) := by
  obtain ⟨t, pa, sa⟩ := h
  refine ⟨_, pe_callB call_isiT hg hm hv (pa_cons pa (pa_cons (pe_tup (pa_cons (pe_bltn (v := .ty T) gy my by_ rfl ny dy) (pa_cons (pe_bltn (v := .ty U) gz mz bz rfl nz dz) pa_nil he4) he3)) pa_nil he2) he) (by decide) (by decide) he hpl, fun p0 σ H M ft δ r δ' R e Q q => ?_⟩
  unfold eIsi2 at e
  split at e
  · rename_i x δ1 e1
    split at e
    · rename_i nd
      cases e
      refine sa.frz p0 σ H M ft δ _ _ R e1 _ fun v H1 M1 ft1 s1 R1 k1 => ⟨by show 2 ≤ sizeLine; decide, fun tp htp => ?_⟩
      obtain ⟨s2, R2, hx⟩ := alloc (o := .tup [.ty T, .ty U]) R1 htp
      have k2 : Dk _ v x := Dk.mono s2.ext k1
      refine ⟨v, tp, _, _, _, _, rfl, hid_same _ _ hx, .cons (.ty T) (.cons (.ty U) .nil), ty_of hid_same k2 nd, ?_, q _ _ _ _ (s1.trans s2) R2 (.bl _)⟩
      refine kitAny_cons (kit_d hT k2 nd) (fun hb => ?_) (fun hb => by rw [hb]; rfl)
      refine kitAny_cons (r := isiD T x || isiD U x) (kit_d hU k2 nd) (fun hb2 => ?_) (fun hb2 => by rw [hb2, Bool.or_true])
      rw [hb, hb2]
      exact kitAny_nil
    · cases e
  · cases e
/-! ### reading while what is owned stands still -/
def shr1 : SV L → SV L
  | .own _ (.lst ds) => .dv (.d (.list ds))
  | .own _ (.res w) => match L.shr w with
    | some k => .dv (.ob k)
    | none => .un
  | s => s
def scalR : RV L → Bool
  | .dv (.d x) => scalarD x
  | .own (.lst ds) => ds.all scalarD
  | _ => false
def thaw (f : Ev L) : Ev L := fun δ => match f (δ.map shr1) with
  | some (r, _) => if scalR r = true then some (r, δ) else none
  | none => none
def mt (M : Mp) (ft : Nat → Addr → Prop) : Mp := fun a => M a ∧ ∀ i, ¬ ft i a
def mb (M' : Mp) (ft : Nat → Addr → Prop) : Mp := fun a => M' a ∨ ∃ i, ft i a
theorem shr1_slot {p0 : Option V} {H : Hp} {M M' : Mp} {o : Option V} {s : SV L} {f : Addr → Prop} (ext : Same (hid H M) (hid H M')) (vis : ∀ a o, f a → H a = some o → hid H M' a = some o) (h : SlotOk L p0 H M o s f) : SlotOk L p0 H M' o (shr1 s) (fun _ => False) := by
  cases s with
  | un => exact fun _ z => z
  | dv d =>
    obtain ⟨n, v, ev, k⟩ := h
    exact ⟨fun _ z => z, v, ev, k.mono ext⟩
  | own b w =>
    obtain ⟨v, ev, ow, hp⟩ := h
    cases w with
    | lst ds =>
      obtain ⟨a, xs, ea, hf, ha, rk⟩ := ow
      exact ⟨fun _ z => z, v, ev, by rw [ea]; exact .lst (vis a _ ((hf a).mpr rfl) ha) (rk.mono ext)⟩
    | res w =>
      cases eo : L.shr w with
      | none =>
        have e2 : shr1 (L := L) (.own b (.res w)) = .un := by simp only [shr1, eo]
        rw [e2]
        exact fun _ z => z
      | some k =>
        have e2 : shr1 (L := L) (.own b (.res w)) = .dv (.ob k) := by simp only [shr1, eo]
        rw [e2]
        exact ⟨fun _ z => z, v, ev, L.shrOk eo ow vis ext⟩
theorem thaw_in {p0 : Option V} {H : Hp} {M : Mp} {ft : Nat → Addr → Prop} {σ : St} {δ : List (SV L)} (R : Rp L p0 H M ft σ δ) : Rp L p0 H (mt M ft) (fun _ _ => False) σ (δ.map shr1) where
  len := by rw [List.length_map]; exact R.len
  slot := fun i s es => by
    rw [List.getElem?_map] at es
    cases ed : δ[i]? with
    | none => rw [ed] at es; cases es
    | some s0 =>
      rw [ed] at es
      have es' : shr1 s0 = s := Option.some.inj es
      subst es'
      exact shr1_slot (fun a u hh => by
        obtain ⟨m, eo⟩ := hid_some.mp hh
        exact hid_some.mpr ⟨fun z => m z.1, eo⟩) (fun a o fa eo => hid_some.mpr ⟨fun z => z.2 i fa, eo⟩) (R.slot i s0 ed)
  bnd := fun _ _ z => z.elim
  inM := fun _ _ z => z.elim
  dis := fun _ _ _ z => z.elim
theorem thaw_out {p0 : Option V} {H H' : Hp} {M M' : Mp} {ft ft' : Nat → Addr → Prop} {σ : St} {δ : List (SV L)} (R : Rp L p0 H M ft σ δ) (s : Step H (mt M ft) (fun _ _ => False) H' M' ft') : Step H M ft H' (mb M' ft) ft ∧ Rp L p0 H' (mb M' ft) ft σ δ := by
  have own : ∀ i a o, ft i a → H a = some o → H' a = some o := fun i a o fa eo => (hid_some.mp (s.ext a o (hid_some.mpr ⟨fun z => z.2 i fa, eo⟩))).2
  have ext2 : Same (hid H M) (hid H' (mb M' ft)) := fun a o hh => by
    obtain ⟨m, eo⟩ := hid_some.mp hh
    obtain ⟨m', eo'⟩ := hid_some.mp (s.ext a o (hid_some.mpr ⟨fun z => m z.1, eo⟩))
    exact hid_some.mpr ⟨fun z => z.elim m' fun ⟨i, fa⟩ => m (R.inM i a fa), eo'⟩
  refine ⟨⟨ext2, fun a o hm hf eo => ?_⟩, R.carry ext2 fun i a o fa eo => ⟨own i a o fa eo, .inr ⟨i, fa⟩⟩⟩
  obtain ⟨e', m', _⟩ := s.keep a o ⟨hm, hf⟩ (fun _ z => z) eo
  exact ⟨e', .inl m', hf⟩
theorem snd_thaw {f : Ev L} {t : TE} (h : SndE L f t) : SndE L (thaw f) t := fun p0 σ H M ft δ r δ' R e Q q => by
  unfold thaw at e
  cases e1 : f (δ.map shr1) with
  | none => rw [e1] at e; cases e
  | some p1 =>
    obtain ⟨r1, δ1⟩ := p1
    rw [e1] at e
    simp only at e
    by_cases hs : scalR r1 = true
    · rw [if_pos hs] at e
      cases e
      refine h p0 σ H (mt M ft) (fun _ _ => False) (δ.map shr1) _ _ (thaw_in R) e1 Q fun v H' M' ft' s R' rk => ?_
      obtain ⟨s2, R2⟩ := thaw_out R s
      refine q v H' _ ft s2 R2 ?_
      cases r with
      | dv d =>
        cases d with
        | ob o => cases hs
        | d x => exact Dk.scalar rk hs
      | own w =>
        cases w with
        | res w => cases hs
        | lst ds =>
          obtain ⟨f', ⟨a, xs, ea, hf, ha, ra⟩, hfr⟩ := rk
          refine ⟨f', ⟨a, xs, ea, hf, ha, ra.scalar hs⟩, fun b fb => ?_⟩
          obtain ⟨mb, nb, fr⟩ := hfr b fb
          have hb : H b = none := by
            rcases fr with fr | ⟨_, z⟩
            · exact fr
            · exact z.elim
          exact ⟨.inl mb, fun i => R.fnone hb i, .inl hb⟩
    · rw [if_neg hs] at e; cases e
theorem DE.thaw {f : Ev L} (h : DE L X e f) : DE L X e (DL.thaw f) := by
  obtain ⟨t, p, s⟩ := h
  exact ⟨_, p, snd_thaw s⟩
def thawT (f : Et L) : Et L := fun δ => match f (δ.map shr1) with
  | some (r, _) => some (r, δ)
  | none => none
theorem DT.thaw {f : Et L} (h : DT L X e f) : DT L X e (thawT f) := by
  obtain ⟨t, p, s⟩ := h
  refine ⟨_, p, fun p0 σ H M ft δ b δ' R e Q q => ?_⟩
  unfold thawT at e
  split at e
  · rename_i r δ1 e1
    cases e
    refine s p0 σ H (mt M ft) (fun _ _ => False) (δ.map shr1) _ _ (thaw_in R) e1 Q fun H' M' ft' s R' => ?_
    obtain ⟨s2, R2⟩ := thaw_out R s
    exact q H' _ ft s2 R2
  · cases e
end
end DL
set_option Elab.async false
set_option linter.all false
set_option maxRecDepth 100000
set_option maxHeartbeats 1000000
/-! D4: statements, loops. -/
namespace DL
open PySem PySem.Spec L2
open PyProof.Rows hiding St
variable [CN]
variable {L : Lang}
section
variable {X : Cx} {e a b c : Expr} {es : List Expr} {pos : Pos} {st : Stmt} {rest : List Stmt}
theorem ContS.step {p0 : Option V} {H H1 : Hp} {M M1 : Mp} {ft ft1 : Nat → Addr → Prop} {fl : Fl L} {δ' : List (SV L)} {D : Ends} (s : Step H M ft H1 M1 ft1) (hM : ∀ i a, ft1 i a → M1 a) (h : ContS L p0 H M ft fl δ' D) : ContS L p0 H1 M1 ft1 fl δ' D := by
  cases fl with
  | nx => exact fun σ' H' M' ft' s' R' => h σ' H' M' ft' (s.trans s') R'
  | bk => exact fun σ' H' M' ft' s' R' => h σ' H' M' ft' (s.trans s') R'
  | ct => exact fun σ' H' M' ft' s' R' => h σ' H' M' ft' (s.trans s') R'
  | rt r => exact fun v σ' H' M' ft' s' R' k => h v σ' H' M' ft' (s.trans s') R' (k.back s hM)
/-! ### a row of statements -/
def sNil : Es L := fun δ => some (.nx, δ)
def sSeq (g h : Es L) : Es L := fun δ => match g δ with
  | some (.nx, δ') => h δ'
  | r => r
theorem snd_snil : SndS L sNil tNext := fun p0 σ H M ft δ fl δ' R e D q => by
  cases e
  exact q σ H M ft (Step.refl ..) R
theorem snd_seq {g h : Es L} {t u : TS} (hg : SndS L g t) (hh : SndS L h u) : SndS L (sSeq g h) (tSeq t u) := fun p0 σ H M ft δ fl δ' R e D q => by
  unfold sSeq at e
  show t { D with nx := u D } σ H
  cases e1 : g δ with
  | none => rw [e1] at e; cases e
  | some p1 =>
    obtain ⟨f1, δ1⟩ := p1
    rw [e1] at e
    cases f1 with
    | nx => exact hg p0 σ H M ft δ _ _ R e1 _ fun σ1 H1 M1 ft1 s1 R1 => hh p0 σ1 H1 M1 ft1 δ1 _ _ R1 e D (q.step s1 R1.inM)
    | bk => cases e; exact hg p0 σ H M ft δ _ _ R e1 _ q
    | ct => cases e; exact hg p0 σ H M ft δ _ _ R e1 _ q
    | rt r => cases e; exact hg p0 σ H M ft δ _ _ R e1 _ q
theorem dss_nil : DSs L X [] sNil := ⟨_, pss_nil, snd_snil⟩
theorem dss_cons {g h : Es L} (h1 : DS L X st g) (h2 : DSs L X rest h) : DSs L X (st :: rest) (sSeq g h) := by
  obtain ⟨t, p, s⟩ := h1
  obtain ⟨u, pu, su⟩ := h2
  exact ⟨_, pss_cons p pu, snd_seq s su⟩
theorem dss_one {g : Es L} (h1 : DS L X st g) : DSs L X [st] g := by
  obtain ⟨t, p, s⟩ := h1
  exact ⟨_, pss_one p, s⟩
/-! ### pass, break, continue, return, an expression, if -/
def sBk : Es L := fun δ => some (.bk, δ)
def sCt : Es L := fun δ => some (.ct, δ)
theorem ds_pass : DS L X (.Pass pos) sNil := ⟨_, ps_pass, snd_snil⟩
theorem ds_break : DS L X (.Break pos) sBk := ⟨_, ps_break, fun p0 σ H M ft δ fl δ' R e D q => by cases e; exact q σ H M ft (Step.refl ..) R⟩
theorem ds_cont : DS L X (.Continue pos) sCt := ⟨_, ps_continue, fun p0 σ H M ft δ fl δ' R e D q => by cases e; exact q σ H M ft (Step.refl ..) R⟩
def sRet (f : Ev L) : Es L := fun δ => match f δ with
  | some (r, δ') => some (.rt r, δ')
  | none => none
theorem ds_ret {f : Ev L} (h : DE L X e f) : DS L X (.Return (some e) pos) (sRet f) := by
  obtain ⟨t, p, s⟩ := h
  refine ⟨_, ps_ret p, fun p0 σ H M ft δ fl δ' R e D q => ?_⟩
  unfold sRet at e
  split at e
  · rename_i r δ1 e1
    cases e
    exact s p0 σ H M ft δ _ _ R e1 _ fun v H1 M1 ft1 s1 R1 k1 => q v σ H1 M1 ft1 s1 R1 k1
  · cases e
def sRetN : Es L := fun δ => some (.rt (.dv (.d .none)), δ)
theorem ds_retN : DS L X (.Return none pos) sRetN := ⟨_, ps_retN, fun p0 σ H M ft δ fl δ' R e D q => by
  cases e
  exact q .non σ H M ft (Step.refl ..) R .non⟩
def sExp (f : Ev L) : Es L := fun δ => match f δ with
  | some (_, δ') => some (.nx, δ')
  | none => none
theorem ds_exp {f : Ev L} (h : DE L X e f) (hs : swapsWith e none pos.line X.env = pure false := by rfl) : DS L X (.Expr e pos) (sExp f) := by
  obtain ⟨t, p, s⟩ := h
  refine ⟨_, ps_expr p hs, fun p0 σ H M ft δ fl δ' R e D q => ?_⟩
  unfold sExp at e
  split at e
  · rename_i r δ1 e1
    cases e
    exact s p0 σ H M ft δ _ _ R e1 _ fun v H1 M1 ft1 s1 R1 k1 => q σ H1 M1 ft1 s1 R1
  · cases e
def sIf (c : Et L) (g h : Es L) : Es L := fun δ => match c δ with
  | some (true, δ') => g δ'
  | some (false, δ') => h δ'
  | none => none
theorem snd_if {fc : Et L} {g h : Es L} {tc : TT} {t u : TS} (hc : SndT L fc tc) (hg : SndS L g t) (hh : SndS L h u) : SndS L (sIf fc g h) (tIfS tc t u) := fun p0 σ H M ft δ fl δ' R e D q => by
  unfold sIf at e
  split at e
  · rename_i δ1 e1
    exact hc p0 σ H M ft δ _ _ R e1 _ fun H1 M1 ft1 s1 R1 => iteT (hg p0 σ H1 M1 ft1 δ1 _ _ R1 e D (q.step s1 R1.inM))
  · rename_i δ1 e1
    exact hc p0 σ H M ft δ _ _ R e1 _ fun H1 M1 ft1 s1 R1 => iteF (hh p0 σ H1 M1 ft1 δ1 _ _ R1 e D (q.step s1 R1.inM))
  · cases e
theorem ds_if {fc : Et L} {g h : Es L} {sa sb : List Stmt} (hc : DT L X c fc) (ha : DSs L X sa g) (hb : DSs L X sb h) : DS L X (.If c sa sb pos) (sIf fc g h) := by
  obtain ⟨tc, pc, sc⟩ := hc
  obtain ⟨t, p, s⟩ := ha
  obtain ⟨u, pu, su⟩ := hb
  exact ⟨_, ps_if pc p pu, snd_if sc s su⟩
/-! ### targets -/
abbrev Eg (L : Lang) := DV L → List (SV L) → Option (List (SV L))
/-- the slots vs alone change -/
def SndG (vs : List Nat) (u : Eg L) (g : TG) : Prop := ∀ (p0 : Option V) (σ : St) (H : Hp) (M : Addr → Prop) (ft : Nat → Addr → Prop) (δ : List (SV L)) (v : V) (d : DV L) (δ' : List (SV L)), Rp L p0 H M ft σ δ → RepV L (hid H M) v d → u d δ = some δ' →
  ∀ Q : St → Hp → Prop, (∀ σ' ft', Step H M ft H M ft' → Rp L p0 H M ft' σ' δ' → σ'.length = σ.length → (∀ j, j ∉ vs → σ'[j]? = σ[j]?) → Q σ' H) → g v σ H Q
def SndGs (vs : List Nat) (u : List PD → List (SV L) → Option (List (SV L))) (g : TGs) : Prop := ∀ (p0 : Option V) (σ : St) (H : Hp) (M : Addr → Prop) (ft : Nat → Addr → Prop) (δ : List (SV L)) (v : List V) (d : List PD) (δ' : List (SV L)), Rp L p0 H M ft σ δ → DkAll (hid H M) v d → u d δ = some δ' →
  ∀ Q : St → Hp → Prop, (∀ σ' ft', Step H M ft H M ft' → Rp L p0 H M ft' σ' δ' → σ'.length = σ.length → (∀ j, j ∉ vs → σ'[j]? = σ[j]?) → Q σ' H) → g v σ H Q
structure DG (L : Lang) (X : Cx) (e : Expr) (vs : List Nat) (u : Eg L) : Prop where
  ex : ∃ g, PG X e g ∧ SndG vs u g
structure DGs (L : Lang) (X : Cx) (es : List Expr) (vs : List Nat) (u : List PD → List (SV L) → Option (List (SV L))) : Prop where
  ex : ∃ g, PGs X es g ∧ SndGs vs u g
def uName (i : Nat) : Eg L := fun d δ => if i < δ.length then some (δ.set i (.dv d)) else none
/-- a slot gets a value -/
theorem Rp.setDv {p0 : Option V} {H : Hp} {M : Mp} {ft : Nat → Addr → Prop} {σ : St} {δ : List (SV L)} (R : Rp L p0 H M ft σ δ) {i : Nat} (hi : i < δ.length) {v : V} {d : DV L} (k : RepV L (hid H M) v d) :
    Step H M ft H M (fset ft i fun _ => False) ∧ Rp L p0 H M (fset ft i fun _ => False) (σ.set i (some v)) (δ.set i (.dv d)) :=
  ⟨step_drop (fun _ z => z) fun a hm hf => ⟨hm, fun j z => by
    by_cases hj : j = i
    · subst hj; exact fset_same.mp z
    · exact hf j ((fset_ne hj).mp z)⟩, R.put (o := some v) hi (.inl rfl) ⟨fun _ z => z, v, rfl, k⟩ (fun _ z => z.elim) (fun _ _ z => z.elim)⟩
theorem snd_name (i : Nat) : SndG [i] (uName (L := L) i) (gName i) := fun p0 σ H M ft δ v d δ' R k e Q q => by
  unfold uName at e
  by_cases hi : i < δ.length
  · rw [if_pos hi] at e
    cases e
    obtain ⟨s, R2⟩ := R.setDv hi k
    refine q _ _ s R2 (List.length_set ..) fun j hj => ?_
    rw [List.getElem?_set_ne]
    intro z
    subst z
    exact hj (List.mem_singleton.mpr rfl)
  · rw [if_neg hi] at e; cases e
theorem dg_name {i : Nat} {x : Str} (hN : X.N.Nodup) (hi : X.N[i]? = some x := by rfl) (hx : Loc X.env.scope x := by first | exact .inl rfl | exact .inr rfl) (hf : X.fn x = true ∨ X.env.scope.names.lookup x = some .local := by first | exact .inl rfl | exact .inr rfl | assumption) :
    DG L X (.Name x pos) [i] (uName i) := ⟨_, pg_name hN hi hx hf, snd_name i⟩
def usNil : List PD → List (SV L) → Option (List (SV L)) := fun ds δ => match ds with
  | [] => some δ
  | _ => none
def usCons (u : Eg L) (us : List PD → List (SV L) → Option (List (SV L))) : List PD → List (SV L) → Option (List (SV L)) := fun ds δ => match ds with
  | d :: r => match u (.d d) δ with
    | some δ1 => us r δ1
    | none => none
  | [] => none
theorem dgs_nil : DGs L X [] [] usNil := ⟨_, pgs_nil, fun p0 σ H M ft δ v d δ' R k e Q q => by
  unfold usNil at e
  split at e
  · cases e
    cases k
    exact ⟨rfl, q σ ft (Step.refl ..) R rfl fun _ _ => rfl⟩
  · cases e⟩
theorem dgs_cons {vs ws : List Nat} {u : Eg L} {us : List PD → List (SV L) → Option (List (SV L))} (h1 : DG L X e vs u) (h2 : DGs L X es ws us) (hs : (assignEach (e :: es) X.env).map (·.2) = assign e X.env :: (assignEach es X.env).map (·.2) := by rfl) : DGs L X (e :: es) (vs ++ ws) (usCons u us) := by
  obtain ⟨g, pg, sg⟩ := h1
  obtain ⟨gs, pgs, sgs⟩ := h2
  refine ⟨_, pgs_cons pg pgs hs, fun p0 σ H M ft δ v d δ' R k e Q q => ?_⟩
  unfold usCons at e
  split at e
  · rename_i d1 r
    split at e
    · rename_i δ1 e1
      cases k with
      | cons h t =>
        refine ⟨_, _, rfl, sg p0 σ H M ft δ _ (.d d1) _ R h e1 _ fun σ1 ft1 s1 R1 l1 n1 => ?_⟩
        refine sgs p0 σ1 H M ft1 δ1 _ _ _ R1 t e Q fun σ2 ft2 s2 R2 l2 n2 => q σ2 ft2 (s1.trans s2) R2 (l2.trans l1) fun j hj => ?_
        rw [List.mem_append] at hj
        exact (n2 j fun z => hj (.inr z)).trans (n1 j fun z => hj (.inl z))
    · cases e
  · cases e
def uTup (n : Nat) (us : List PD → List (SV L) → Option (List (SV L))) : Eg L := fun d δ => match d with
  | .d (.tuple ds) => if ds.length = n then us ds δ else none
  | _ => none
theorem dg_tup {vs : List Nat} {k : Nat} {us : List PD → List (SV L) → Option (List (SV L))} {n : Nat} (hc : X.calm = true) (h : DGs L X es vs us) (hn : (assignEach es X.env).length = n := by rfl) (hst : (assignEach es X.env).findIdx? (·.1) = none := by rfl) : DG L X (.Tuple es k pos) vs (uTup n us) := by
  obtain ⟨gs, pgs, sgs⟩ := h
  refine ⟨_, pg_tup hc pgs hn hst, fun p0 σ H M ft δ v d δ' R k e Q q => ?_⟩
  unfold uTup at e
  split at e
  · rename_i ds
    by_cases hd : ds.length = n
    · rw [if_pos hd] at e
      have k' : Dk (hid H M) v (.tuple ds) := k
      cases k' with
      | tup ha r => exact ⟨_, _, rfl, SqT.of (hid_same _ _ ha), by rw [r.length]; exact hd, sgs p0 σ H M ft δ _ _ _ R r e Q q⟩
    · rw [if_neg hd] at e; cases e
  · cases e
/-! ### assignments -/
def sAsg (f : Ev L) (u : Eg L) : Es L := fun δ => match frz f δ with
  | some (d, δ1) => match u d δ1 with
    | some δ2 => some (.nx, δ2)
    | none => none
  | none => none
theorem snd_asg {f : Ev L} {u : Eg L} {vs : List Nat} {t : TE} {g : TG} (h : SndE L f t) (hg : SndG vs u g) : SndS L (sAsg f u) (tAsg t g) := fun p0 σ H M ft δ fl δ' R e D q => by
  unfold sAsg at e
  split at e
  · rename_i d δ1 e1
    split at e
    · rename_i δ2 e2
      cases e
      exact h.frz p0 σ H M ft δ _ _ R e1 _ fun v H1 M1 ft1 s1 R1 k1 => hg p0 σ H1 M1 ft1 δ1 _ _ _ R1 k1 e2 _ fun σ2 ft2 s2 R2 _ _ => q σ2 H1 M1 ft2 (s1.trans s2) R2
    · cases e
  · cases e
variable {tg : Expr}
theorem ds_asg {f : Ev L} {u : Eg L} {vs : List Nat} (h : DE L X e f) (hg : DG L X tg vs u) (hs : swapsWithSole [tg] e pos.line X.env = pure false := by rfl) (hw : swappedStores [tg] e X.env = pure none := by rfl) (h1 : (assignEach [tg] X.env).map (·.2) = [assign tg X.env] := by rfl) : DS L X (.Assign [tg] e pos) (sAsg f u) := by
  obtain ⟨t, p, s⟩ := h
  obtain ⟨g, pg, sg⟩ := hg
  exact ⟨_, ps_asg p pg hs hw h1, snd_asg s sg⟩
/-- a name: a new list is the frame's own -/
def sSet (i : Nat) (f : Ev L) : Es L := fun δ => match f δ with
  | some (.dv d, δ1) => if i < δ1.length then some (.nx, δ1.set i (.dv d)) else none
  | some (.own w, δ1) => if i < δ1.length then some (.nx, δ1.set i (.own false w)) else none
  | none => none
theorem snd_set (i : Nat) {f : Ev L} {t : TE} (h : SndE L f t) : SndS L (sSet i f) (tAsg t (gName i)) := fun p0 σ H M ft δ fl δ' R e D q => by
  unfold sSet at e
  split at e
  · rename_i d δ1 e1
    by_cases hi : i < δ1.length
    · rw [if_pos hi] at e
      cases e
      refine h p0 σ H M ft δ _ _ R e1 _ fun v H1 M1 ft1 s1 R1 k1 => ?_
      obtain ⟨s2, R2⟩ := R1.setDv hi (v := v) (d := d) k1
      exact q _ H1 M1 _ (s1.trans s2) R2
    · rw [if_neg hi] at e; cases e
  · rename_i w δ1 e1
    by_cases hi : i < δ1.length
    · rw [if_pos hi] at e
      cases e
      refine h p0 σ H M ft δ _ _ R e1 _ fun v H1 M1 ft1 s1 R1 k1 => ?_
      obtain ⟨f', ow, hf⟩ := k1
      have R2 : Rp L p0 H1 M1 (fset ft1 i f') (σ.set i (some v)) (δ1.set i (.own false w)) := R1.put (o := some v) hi (.inl rfl) ⟨v, rfl, ow, fun z => nomatch z⟩ (fun a fa => (hf a fa).1) (fun a j fa hj => (hf a fa).2.1 j)
      refine q _ H1 M1 _ ⟨s1.ext, fun a o hm hn eo => ?_⟩ R2
      obtain ⟨e', m', n'⟩ := s1.keep a o hm hn eo
      refine ⟨e', m', fun j z => ?_⟩
      by_cases hj : j = i
      · subst hj
        have fa := fset_same.mp z
        rcases (hf a fa).2.2 with fr | ⟨k, fr⟩
        · rw [fr] at eo; cases eo
        · exact hn k fr
      · exact n' j ((fset_ne hj).mp z)
    · rw [if_neg hi] at e; cases e
  · cases e
theorem ds_set (i : Nat) {x : Str} {f : Ev L} {pos' : Pos} (hN : X.N.Nodup) (he : DE L X e f) (hi : X.N[i]? = some x := by rfl) (hx : Loc X.env.scope x := by first | exact .inl rfl | exact .inr rfl) (hs : swapsWith e (some (.Name x pos')) pos.line X.env = pure false := by rfl) (hf : X.fn x = true ∨ X.env.scope.names.lookup x = some .local := by first | exact .inl rfl | exact .inr rfl | assumption) :
    DS L X (.Assign [.Name x pos'] e pos) (sSet i f) := by
  obtain ⟨t, p, s⟩ := he
  exact ⟨_, ps_set hN hi hx p hs hf, snd_set i s⟩
/-- x += e, whole numbers -/
def sAug (i : Nat) (g : Int → Int → Int) (f : Ev L) : Es L := fun δ => match δ[i]? with
  | some (.dv (.d (.int k))) => match f δ with
    | some (.dv (.d (.int j)), δ1) => some (.nx, δ1.set i (.dv (.d (.int (g k j)))))
    | _ => none
  | _ => none
theorem ds_aug (i : Nat) {x : Str} {op : Operator} {g : Int → Int → Int} {f : Ev L} {pos' : Pos} (ho : PIp X op (ipI g)) (hN : X.N.Nodup) (he : DE L X e f) (hi : X.N[i]? = some x := by rfl) (hx : Loc X.env.scope x := by first | exact .inl rfl | exact .inr rfl) (hf : X.fn x = true ∨ X.env.scope.names.lookup x = some .local := by first | exact .inl rfl | exact .inr rfl | assumption) :
    DS L X (.AugAssign (.Name x pos') op e pos) (sAug i g f) := by
  obtain ⟨t, p, s⟩ := he
  refine ⟨_, ps_aug hN hi hx p ho hf, fun p0 σ H M ft δ fl δ' R e D q => ?_⟩
  unfold sAug at e
  split at e
  · rename_i k ek
    split at e
    · rename_i j δ1 e1
      cases e
      obtain ⟨v, ev, kv⟩ := rp_var R ek
      have kv' : Dk (hid H M) v (.int k) := kv
      cases kv'
      refine ⟨.int k, ev, s p0 σ H M ft δ _ _ R e1 _ fun w H1 M1 ft1 s1 R1 k1 => ?_⟩
      have k1' : Dk (hid H1 M1) w (.int j) := k1
      cases k1'
      have hl : i < δ1.length := by rw [← R1.len, R.len]; exact lt_of_get ek
      obtain ⟨s2, R2⟩ := R1.setDv hl (v := .int (g k j)) (d := .d (.int (g k j))) (.int _)
      exact ⟨k, j, rfl, rfl, q _ H1 M1 _ (s1.trans s2) R2⟩
    · cases e
  · cases e
/-- x.append(e), x the frame's own list -/
def sApp (i : Nat) (f : Ev L) : Es L := fun δ => match frz f δ with
  | some (.d y, δ1) => match δ[i]?, δ1[i]? with
    | some (.own _ (.lst _)), some (.own b (.lst ds)) => if ds.length < 100000 then some (.nx, δ1.set i (.own b (.lst (ds ++ [y])))) else none
    | _, _ => none
  | _ => none
theorem rp_own_v {p0 : Option V} {H : Hp} {M : Mp} {ft : Nat → Addr → Prop} {σ : St} {δ : List (SV L)} (R : Rp L p0 H M ft σ δ) {i : Nat} {b : Bool} {ds : List PD} (e : δ[i]? = some (.own b (.lst ds))) : ∃ a xs, σ[i]? = some (some (.ref a)) ∧ (∀ x, ft i x ↔ x = a) ∧ H a = some (.lst xs) ∧ DkAll (hid H M) xs ds ∧ (b = true → p0 = some (.ref a)) := by
  obtain ⟨v, ev, ⟨a, xs, ea, hf, ha, rk⟩, p⟩ := rp_own R e
  subst ea
  exact ⟨a, xs, ev, hf, ha, rk, p⟩
/-- an owned list changes -/
theorem Rp.mut {p0 : Option V} {H : Hp} {M : Mp} {ft : Nat → Addr → Prop} {σ : St} {δ : List (SV L)} (R : Rp L p0 H M ft σ δ) {i : Nat} {b : Bool} {ds ds' : List PD} {a : Addr} {xs' : List V} (e : δ[i]? = some (.own b (.lst ds))) (ev : σ[i]? = some (some (.ref a))) (hf : ∀ x, ft i x ↔ x = a) (hb : b = true → p0 = some (.ref a)) (r : DkAll (hid H M) xs' ds') :
    Step H M ft (upd H a (.lst xs')) M ft ∧ Rp L p0 (upd H a (.lst xs')) M ft σ (δ.set i (.own b (.lst ds'))) := by
  have fa : ft i a := (hf a).mpr rfl
  have ma := R.inM i a fa
  have ext : Same (hid H M) (hid (upd H a (.lst xs')) M) := fun x o h => by
    obtain ⟨m, eo⟩ := hid_some.mp h
    exact hid_some.mpr ⟨m, by rw [upd_ne (show x ≠ a from fun z => m (by rw [z]; exact ma))]; exact eo⟩
  refine ⟨⟨ext, fun x o hm hn eo => ⟨by rw [upd_ne (show x ≠ a from fun z => hn i (by rw [z]; exact fa))]; exact eo, hm, hn⟩⟩, ?_⟩
  have R1 : Rp L p0 H M (fset ft i fun _ => False) σ (δ.set i .un) := R.put (o := σ[i]?.join) (lt_of_get e) (.inr ⟨rfl, rfl⟩) (fun _ z => z) (fun _ z => z.elim) (fun _ _ z => z.elim)
  have R2 : Rp L p0 (upd H a (.lst xs')) M (fset ft i fun _ => False) σ (δ.set i .un) := R1.carry ext fun j x o fx eo => by
    have hj : j ≠ i := fun z => by subst z; exact fset_same.mp fx
    have hx : x ≠ a := fun z => hj (R.dis j i x ((fset_ne hj).mp fx) (by rw [z]; exact fa))
    exact ⟨by rw [upd_ne hx]; exact eo, R1.inM j x fx⟩
  have R3 := R2.put (i := i) (s := .own b (.lst ds')) (f := ft i) (o := some (.ref a)) (σ' := σ) (by rw [List.length_set]; exact lt_of_get e) (.inr ⟨rfl, by rw [ev]; rfl⟩) ⟨_, rfl, ⟨a, xs', rfl, hf, upd_same, r.mono ext⟩, hb⟩ (fun x fx => R.inM i x fx)
    (fun x j fx hj z => hj (R.dis j i x ((fset_ne hj).mp z) fx))
  rw [List.set_set] at R3
  have ef : fset (fset ft i fun _ => False) i (ft i) = ft := by
    funext j x
    by_cases hj : j = i
    · subst hj; exact propext fset_same
    · exact propext ((fset_ne hj).trans (fset_ne hj))
  rw [ef] at R3
  exact R3
theorem ds_app (i : Nat) {x : Str} {f : Ev L} {p1 p2 p3 : Pos} (he : DE L X e f) (hN : X.N[i]? = some x := by rfl) (hv : Vis X.env.scope x := by first | exact Or.inl rfl | exact Or.inr (Or.inl rfl) | exact Or.inr (Or.inr rfl)) (hd : (x == ("__debug__" : Str)) = false := by decide)
    (hcd : (x == ("__classdict__" : Str)) = false := by decide) (hst : starEach (e :: []) X.env = (false, eval e X.env) :: starEach [] X.env := by rfl)
    (hpe : ∀ {ta : TE} {t : TA}, PE X (.Name x p1) ta → PA X [e] t → PE X (.Call (.Attribute (.Name x p1) "append" p2) [e] [] p3) (tBM X.K "list" rAppend ta t) := by intro _ _ h1 h2; exact pe_bm PySem.F.plainAttrs_list PySem.F.slot_list_append PySem.F.type_list_append mt_append h1 h2)
    (hs : swapsWith (.Call (.Attribute (.Name x p1) "append" p2) [e] [] p3) none pos.line X.env = pure false := by rfl) : DS L X (.Expr (.Call (.Attribute (.Name x p1) "append" p2) [e] [] p3) pos) (sApp i f) := by
  obtain ⟨t, p, s⟩ := he
  refine ⟨_, ps_expr (hpe (pe_var hN hv hd hcd) (pa_cons p pa_nil hst)) hs, fun p0 σ H M ft δ fl δ' R e D q => ?_⟩
  unfold sApp at e
  split at e
  · rename_i y δ1 e1
    split at e
    · rename_i b0 ds0 b ds h0 h1
      by_cases hl : ds.length < 100000
      · rw [if_pos hl] at e
        cases e
        obtain ⟨a0, xs0, ev0, hf0, ha0, rk0, _⟩ := rp_own_v R h0
        refine ⟨.ref a0, ev0, .inl ⟨rfl, _, .inl (.inl ha0)⟩, ?_⟩
        refine s.frz p0 σ H M ft δ _ _ R e1 _ fun w H1 M1 ft1 s1 R1 k1 => ?_
        obtain ⟨a, xs, ev, hf, ha, rk, hb⟩ := rp_own_v R1 h1
        have ea : a0 = a := by
          have z := ev0.symm.trans ev
          cases z
          rfl
        subst ea
        obtain ⟨s2, R2⟩ := R1.mut (ds' := ds ++ [y]) (xs' := xs ++ [w]) h1 ev hf hb (rk.snoc k1)
        exact ⟨a0, xs, w, rfl, rfl, ha, by rw [rk.length]; exact Nat.lt_of_lt_of_le hl (by decide), q σ _ M1 ft1 (s1.trans s2) R2⟩
      · rw [if_neg hl] at e; cases e
    · cases e
  · cases e
/-- x[k] = e, x the frame's own list, k a whole number from 0 on -/
def sPut (i : Nat) (f fk : Ev L) : Es L := fun δ => match frz f δ with
  | some (.d y, δ1) => match frz fk δ1 with
    | some (.d (.int k), δ2) => match δ1[i]?, δ2[i]? with
      | some (.own _ (.lst _)), some (.own b (.lst ds)) => match ixN ds.length k with
        | some j => some (.nx, δ2.set i (.own b (.lst (ds.set j y))))
        | none => none
      | _, _ => none
    | _ => none
  | _ => none
theorem ds_put (i : Nat) {x : Str} {f fk : Ev L} {k : Expr} {p1 p2 : Pos} (he : DE L X e f) (hk : DE L X k fk) (hN : X.N[i]? = some x := by rfl) (hv : Vis X.env.scope x := by first | exact Or.inl rfl | exact Or.inr (Or.inl rfl) | exact Or.inr (Or.inr rfl)) (hd : (x == ("__debug__" : Str)) = false := by decide)
    (hcd : (x == ("__classdict__" : Str)) = false := by decide) (hpe : ∀ {ta tk : TE}, PE X (.Name x p1) ta → PE X k tk → PG X (.Subscript (.Name x p1) k p2) (L2.gSub ta tk rSetL) := by intro _ _ h1 h2; exact pg_sub h1 h2 set_list)
    (hs : swapsWithSole [.Subscript (.Name x p1) k p2] e pos.line X.env = pure false := by rfl) (hw : swappedStores [.Subscript (.Name x p1) k p2] e X.env = pure none := by rfl) (h1 : (assignEach [.Subscript (.Name x p1) k p2] X.env).map (·.2) = [assign (.Subscript (.Name x p1) k p2) X.env] := by rfl) : DS L X (.Assign [.Subscript (.Name x p1) k p2] e pos) (sPut i f fk) := by
  obtain ⟨t, p, s⟩ := he
  obtain ⟨tk, pk, sk⟩ := hk
  refine ⟨_, ps_asg p (hpe (pe_var hN hv hd hcd) pk) hs hw h1, fun p0 σ H M ft δ fl δ' R e D q => ?_⟩
  unfold sPut at e
  split at e
  · rename_i y δ1 e1
    split at e
    · rename_i k δ2 e2
      split at e
      · rename_i b0 ds0 b ds h0 h1
        split at e
        · rename_i j ej
          cases e
          refine s.frz p0 σ H M ft δ _ _ R e1 _ fun w H1 M1 ft1 s1 R1 k1 => ?_
          obtain ⟨a0, xs0, ev0, hf0, ha0, rk0, _⟩ := rp_own_v R1 h0
          refine ⟨.ref a0, ev0, sk.frz p0 σ H1 M1 ft1 δ1 _ _ R1 e2 _ fun u H2 M2 ft2 s2 R2 k2 => ?_⟩
          obtain ⟨a, xs, ev, hf, ha, rk, hb⟩ := rp_own_v R2 h1
          have ea : a0 = a := by
            have z := ev0.symm.trans ev
            cases z
            rfl
          subst ea
          have k2' : Dk (hid H2 M2) u (.int k) := k2
          cases k2'
          obtain ⟨s3, R3⟩ := R2.mut (ds' := ds.set j y) (xs' := xs.set j w) h1 ev hf hb (rk.set (Dk.mono s2.ext k1) j)
          exact ⟨a0, xs, k, j, rfl, rfl, ha, by rw [rk.length]; exact ej, q σ _ M2 ft2 ((s1.trans s2).trans s3) R3⟩
        · cases e
      · cases e
    · cases e
  · cases e
/-- x[k], x the frame's own list -/
def eIxO (i : Nat) (fk : Ev L) : Ev L := fun δ => match frz fk δ with
  | some (.d (.int k), δ1) => match δ[i]?, δ1[i]? with
    | some (.own _ (.lst _)), some (.own b (.lst ds)) => match atI ds k with
      | some y => some (.dv (.d y), δ1)
      | none => none
    | _, _ => none
  | _ => none
theorem de_ixO (i : Nat) {x : Str} {fk : Ev L} {k : Expr} {p1 : Pos} (hk : DE L X k fk) (hN : X.N[i]? = some x := by rfl) (hv : Vis X.env.scope x := by first | exact Or.inl rfl | exact Or.inr (Or.inl rfl) | exact Or.inr (Or.inr rfl)) (hd : (x == ("__debug__" : Str)) = false := by decide)
    (hcd : (x == ("__classdict__" : Str)) = false := by decide) (hs : PlainIx k := by exact fun _ _ => rfl) : DE L X (.Subscript (.Name x p1) k pos) (eIxO i fk) := by
  obtain ⟨tk, pk, sk⟩ := hk
  refine ⟨_, pe_ix ix_list (pe_var hN hv hd hcd) pk hs, fun p0 σ H M ft δ r δ' R e Q q => ?_⟩
  unfold eIxO at e
  split at e
  · rename_i k δ1 e1
    split at e
    · rename_i b0 ds0 b ds h0 h1
      split at e
      · rename_i y ey
        cases e
        obtain ⟨a0, xs0, ev0, hf0, ha0, rk0, _⟩ := rp_own_v R h0
        refine ⟨.ref a0, ev0, sk.frz p0 σ H M ft δ _ _ R e1 _ fun u H1 M1 ft1 s1 R1 k1 => ?_⟩
        obtain ⟨a, xs, ev, hf, ha, rk, hb⟩ := rp_own_v R1 h1
        have ea : a0 = a := by
          have z := ev0.symm.trans ev
          cases z
          rfl
        subst ea
        have k1' : Dk (hid H1 M1) u (.int k) := k1
        cases k1'
        obtain ⟨w, hw, kw⟩ := atI_dk rk ey
        exact ⟨a0, xs, k, w, rfl, rfl, SqL.of ha, hw, q w H1 M1 ft1 s1 R1 kw⟩
      · cases e
    · cases e
  · cases e
/-! ### while -/
def sWhN (c : Et L) (b : Es L) : Nat → Es L
  | 0, _ => none
  | n + 1, δ => match c δ with
    | some (true, δ1) => match b δ1 with
      | some (.nx, δ2) => sWhN c b n δ2
      | some (.ct, δ2) => sWhN c b n δ2
      | some (.bk, δ2) => some (.nx, δ2)
      | some (.rt r, δ2) => some (.rt r, δ2)
      | none => none
    | some (false, δ1) => some (.nx, δ1)
    | none => none
theorem snd_while (n : Nat) {fc : Et L} {g : Es L} {tc : TT} {t : TS} (hc : SndT L fc tc) (hg : SndS L g t) : SndS L (sWhN fc g n) (tWhile tc t) := fun p0 σ H M ft δ fl δ' R e D q => by
  refine ⟨fun m σ' H' => ∃ M' ft' δm, Step H M ft H' M' ft' ∧ Rp L p0 H' M' ft' σ' δm ∧ sWhN fc g m δm = some (fl, δ'), ⟨n, M, ft, δ, Step.refl .., R, e⟩, ?_⟩
  rintro m σ1 H1 ⟨M1, ft1, δ1, s1, R1, e1⟩
  cases m with
  | zero => cases e1
  | succ m =>
    unfold sWhN at e1
    split at e1
    · rename_i δ2 e2
      refine hc p0 σ1 H1 M1 ft1 δ1 _ _ R1 e2 _ fun H2 M2 ft2 s2 R2 => ?_
      refine ⟨fun σ' H' => ∃ M' ft' δm, Step H M ft H' M' ft' ∧ Rp L p0 H' M' ft' σ' δm ∧ sWhN fc g m δm = some (fl, δ'), fun σ' H' h => ⟨m, Nat.lt_succ_self m, h⟩, ?_⟩
      have s12 := s1.trans s2
      split at e1
      · rename_i δ3 e3
        exact hg p0 σ1 H2 M2 ft2 δ2 _ _ R2 e3 _ fun σ3 H3 M3 ft3 s3 R3 => ⟨M3, ft3, δ3, s12.trans s3, R3, e1⟩
      · rename_i δ3 e3
        exact hg p0 σ1 H2 M2 ft2 δ2 _ _ R2 e3 _ fun σ3 H3 M3 ft3 s3 R3 => ⟨M3, ft3, δ3, s12.trans s3, R3, e1⟩
      · rename_i δ3 e3
        cases e1
        exact hg p0 σ1 H2 M2 ft2 δ2 _ _ R2 e3 _ fun σ3 H3 M3 ft3 s3 R3 => q σ3 H3 M3 ft3 (s12.trans s3) R3
      · rename_i r δ3 e3
        cases e1
        exact hg p0 σ1 H2 M2 ft2 δ2 _ _ R2 e3 _ fun v σ3 H3 M3 ft3 s3 R3 k3 => q v σ3 H3 M3 ft3 (s12.trans s3) R3 (k3.back s12 R2.inM)
      · cases e1
    · rename_i δ2 e2
      cases e1
      refine hc p0 σ1 H1 M1 ft1 δ1 _ _ R1 e2 _ fun H2 M2 ft2 s2 R2 => ?_
      exact q σ1 H2 M2 ft2 (s1.trans s2) R2
    · cases e1
theorem ds_while (n : Nat) {fc : Et L} {g : Es L} {sb : List Stmt} (hp : PassesOwn (model X.prog X.w) X.A X.env X.xe) (hc : DT L X c fc) (hb : DSs L X sb g) : DS L X (.While c sb [] pos) (sWhN fc g n) := by
  obtain ⟨tc, pc, sc⟩ := hc
  obtain ⟨t, p, s⟩ := hb
  exact ⟨_, ps_while hp pc p, snd_while n sc s⟩
end
end DL
set_option Elab.async false
set_option linter.all false
set_option maxRecDepth 100000
set_option maxHeartbeats 1000000
/-! D5: what is walked; for; comprehensions. -/
namespace DL
open PySem PySem.Spec L2
open PyProof.Rows hiding St
variable [CN]
variable {L : Lang}
/-! ### the weakest reading -/
def tOf (f : Ev L) : TE := fun σ H Q => ∃ (p0 : Option V) (M : Mp) (ft : Nat → Addr → Prop) (δ : List (SV L)) (r : RV L) (δ' : List (SV L)), Rp L p0 H M ft σ δ ∧ f δ = some (r, δ') ∧ ∀ v H' M' ft', Step H M ft H' M' ft' → Rp L p0 H' M' ft' σ δ' → ResOk L H ft H' M' ft' v r → Q v H'
def ttOf (f : Et L) : TT := fun σ H Q => ∃ (p0 : Option V) (M : Mp) (ft : Nat → Addr → Prop) (δ : List (SV L)) (r : Bool) (δ' : List (SV L)), Rp L p0 H M ft σ δ ∧ f δ = some (r, δ') ∧ ∀ H' M' ft', Step H M ft H' M' ft' → Rp L p0 H' M' ft' σ δ' → Q r H'
def tgOf (vs : List Nat) (u : Eg L) : TG := fun v σ H Q => ∃ (p0 : Option V) (M : Mp) (ft : Nat → Addr → Prop) (δ : List (SV L)) (d : DV L) (δ' : List (SV L)), Rp L p0 H M ft σ δ ∧ RepV L (hid H M) v d ∧ u d δ = some δ' ∧ ∀ σ' ft', Step H M ft H M ft' → Rp L p0 H M ft' σ' δ' → σ'.length = σ.length → (∀ j, j ∉ vs → σ'[j]? = σ[j]?) → Q σ' H
section
variable {X : Cx} {e a b c : Expr} {es : List Expr} {pos : Pos}
theorem DE.can {f : Ev L} (h : DE L X e f) : PE X e (tOf f) := by
  obtain ⟨t, p, s⟩ := h
  refine ⟨fun pins st σ H Q I hq => p.run pins st σ H Q I ?_⟩
  obtain ⟨p0, M, ft, δ, r, δ', R, e, k⟩ := hq
  exact s p0 σ H M ft δ r δ' R e Q k
theorem snd_of (f : Ev L) : SndE L f (tOf f) := fun p0 σ H M ft δ r δ' R e Q k => ⟨p0, M, ft, δ, r, δ', R, e, k⟩
theorem DT.can {f : Et L} (h : DT L X e f) : PT X e (ttOf f) := by
  obtain ⟨t, p, s⟩ := h
  refine ⟨fun pins st σ H Q I hq => p.run pins st σ H Q I ?_⟩
  obtain ⟨p0, M, ft, δ, r, δ', R, e, k⟩ := hq
  exact s p0 σ H M ft δ r δ' R e Q k
theorem snd_tof (f : Et L) : SndT L f (ttOf f) := fun p0 σ H M ft δ r δ' R e Q k => ⟨p0, M, ft, δ, r, δ', R, e, k⟩
theorem DG.can {vs : List Nat} {u : Eg L} (h : DG L X e vs u) : PG X e (tgOf vs u) := by
  obtain ⟨t, p, s⟩ := h
  refine ⟨fun pins st σ H v u' Q I rv hq => p.run pins st σ H v u' Q I rv ?_⟩
  obtain ⟨p0, M, ft, δ, d, δ', R, k1, e, k⟩ := hq
  exact s p0 σ H M ft δ v d δ' R k1 e Q k
theorem snd_gof (vs : List Nat) (u : Eg L) : SndG vs u (tgOf vs u) := fun p0 σ H M ft δ v d δ' R k1 e Q k => ⟨p0, M, ft, δ, d, δ', R, k1, e, k⟩
/-! ### what is walked -/
structure Iter (L : Lang) (J : It) (H0 : Hp) (M0 : Mp) (ft0 : Nat → Addr → Prop) (xs : List (DV L)) : Prop where
  turn : ∀ (H : Hp) (M : Mp) (ft : Nat → Addr → Prop), Step H0 M0 ft0 H M ft → ∀ (p0 : Option V) (σ : St) (δ : List (SV L)), Rp L p0 H M ft σ δ → ∀ i : Nat, (xs.length ≤ i → J.stop i H) ∧
    ∀ d, xs[i]? = some d → J.go i H ∧ ∀ x H', J.yld i H x H' → ∃ M', Step H M ft H' M' ft ∧ Rp L p0 H' M' ft σ δ ∧ RepV L (hid H' M') x d
abbrev Ei (L : Lang) := List (SV L) → Option (List (DV L) × List (SV L))
def SndI (fi : Ei L) (wi : TI) : Prop := ∀ (p0 : Option V) (σ : St) (H : Hp) (M : Addr → Prop) (ft : Nat → Addr → Prop) (δ : List (SV L)) (xs : List (DV L)) (δ1 : List (SV L)), Rp L p0 H M ft σ δ → fi δ = some (xs, δ1) →
  ∀ R : It → Hp → Prop, (∀ J H' M' ft', Step H M ft H' M' ft' → Rp L p0 H' M' ft' σ δ1 → Iter L J H' M' ft' xs → R J H') → wi σ H R
structure DI (L : Lang) (X : Cx) (tg e : Expr) (fi : Ei L) : Prop where
  ex : ∃ wi, PI X tg e wi ∧ SndI fi wi
def iL (f : Ev L) : Ei L := fun δ => match frz f δ with
  | some (.d (.list ds), δ1) => some (ds.map DV.d, δ1)
  | _ => none
def iT (f : Ev L) : Ei L := fun δ => match frz f δ with
  | some (.d (.tuple ds), δ1) => some (ds.map DV.d, δ1)
  | _ => none
theorem iter_lst {K : PySem.W.Frag} {H0 : Hp} {M0 : Mp} {ft0 : Nat → Addr → Prop} {a : Addr} {ys : List V} {ds : List PD} (ha : hid H0 M0 a = some (.lst ys)) (rk : DkAll (hid H0 M0) ys ds) : Iter L (Itl K a) H0 M0 ft0 (ds.map DV.d) where
  turn := fun H M ft s p0 σ δ R i => by
    have hq : SqL K H a ys := SqL.of (hid_same _ _ (s.ext _ _ ha))
    refine ⟨fun hi => ⟨ys, hq, by rw [rk.length]; rw [List.length_map] at hi; exact hi⟩, fun d ed => ?_⟩
    rw [List.getElem?_map] at ed
    cases ex : ds[i]? with
    | none => rw [ex] at ed; cases ed
    | some d' =>
      rw [ex] at ed
      cases ed
      obtain ⟨v, hv, kv⟩ := rk.get ex
      refine ⟨⟨ys, v, hq, hv⟩, fun x H' hy => ?_⟩
      obtain ⟨rfl, hx⟩ := hy
      have e2 : v = x := Option.some.inj (hv.symm.trans (hx ys hq))
      subst e2
      exact ⟨M, Step.refl .., R, kv.mono s.ext⟩
theorem iter_tup {K : PySem.W.Frag} {H0 : Hp} {M0 : Mp} {ft0 : Nat → Addr → Prop} {a : Addr} {ys : List V} {ds : List PD} (ha : hid H0 M0 a = some (.tup ys)) (rk : DkAll (hid H0 M0) ys ds) : Iter L (Itt K a) H0 M0 ft0 (ds.map DV.d) where
  turn := fun H M ft s p0 σ δ R i => by
    have hq : SqT K H a ys := SqT.of (hid_same _ _ (s.ext _ _ ha))
    refine ⟨fun hi => ⟨ys, hq, by rw [rk.length]; rw [List.length_map] at hi; exact hi⟩, fun d ed => ?_⟩
    rw [List.getElem?_map] at ed
    cases ex : ds[i]? with
    | none => rw [ex] at ed; cases ed
    | some d' =>
      rw [ex] at ed
      cases ed
      obtain ⟨v, hv, kv⟩ := rk.get ex
      refine ⟨⟨ys, v, hq, hv⟩, fun x H' hy => ?_⟩
      obtain ⟨rfl, hx⟩ := hy
      have e2 : v = x := Option.some.inj (hv.symm.trans (hx ys hq))
      subst e2
      exact ⟨M, Step.refl .., R, kv.mono s.ext⟩
theorem iter_range {lo : Int} {n : Nat} {H0 : Hp} {M0 : Mp} {ft0 : Nat → Addr → Prop} : Iter L (Itr lo n) H0 M0 ft0 ((List.range n).map fun (i : Nat) => DV.d (.int (lo + (i : Int)))) where
  turn := fun H M ft s p0 σ δ R i => by
    refine ⟨fun hi => by rw [List.length_map, List.length_range] at hi; exact hi, fun d ed => ?_⟩
    have hi := lt_of_get ed
    rw [List.length_map, List.length_range] at hi
    rw [List.getElem?_map, List.getElem?_range hi] at ed
    cases ed
    refine ⟨hi, fun x H' hy => ?_⟩
    obtain ⟨rfl, rfl⟩ := hy
    exact ⟨M, Step.refl .., R, .int _⟩
theorem iter_enum {K : PySem.W.Frag} {H0 : Hp} {M0 : Mp} {ft0 : Nat → Addr → Prop} {a : Addr} {ys : List V} {ds : List PD} (ha : hid H0 M0 a = some (.lst ys)) (rk : DkAll (hid H0 M0) ys ds) : Iter L (Ite K a) H0 M0 ft0 (ds.zipIdx.map fun p => DV.d (.tuple [.int (p.2 : Nat), p.1])) where
  turn := fun H M ft s p0 σ δ R i => by
    have hq : SqL K H a ys := SqL.of (hid_same _ _ (s.ext _ _ ha))
    refine ⟨fun hi => ⟨ys, hq, by rw [rk.length]; rw [List.length_map, List.length_zipIdx] at hi; exact hi⟩, fun d ed => ?_⟩
    rw [List.getElem?_map, List.getElem?_zipIdx] at ed
    cases ex : ds[i]? with
    | none => rw [ex] at ed; cases ed
    | some d' =>
      rw [ex] at ed
      have ed' : DV.d (.tuple [.int ((0 + i : Nat) : Int), d']) = d := Option.some.inj ed
      subst ed'
      obtain ⟨v, hv, kv⟩ := rk.get ex
      refine ⟨⟨ys, v, hq, hv⟩, fun x H' hy => ?_⟩
      obtain ⟨T, y, rfl, hT, rfl, hx⟩ := hy
      have e2 : v = y := Option.some.inj (hv.symm.trans (hx ys hq))
      subst e2
      obtain ⟨s2, R2, hh⟩ := alloc (o := .tup [.int (i : Nat), v]) R hT
      refine ⟨_, s2, R2, .tup hh ?_⟩
      rw [Nat.zero_add]
      exact .cons (.int _) (.cons ((kv.mono s.ext).mono s2.ext) .nil)
variable {tg : Expr}
theorem di_list {f : Ev L} (h : DE L X e f) : DI L X tg e (iL f) := by
  obtain ⟨t, p, s⟩ := h
  refine ⟨_, pi_list p, fun p0 σ H M ft δ xs δ1 R e R' q => ?_⟩
  unfold iL at e
  split at e
  · rename_i ds δ2 e1
    cases e
    refine s.frz p0 σ H M ft δ _ _ R e1 _ fun v H1 M1 ft1 s1 R1 k1 => ?_
    have k2 : Dk (hid H1 M1) v (.list ds) := k1
    cases k2 with
    | lst ha rk => exact ⟨_, rfl, ⟨_, SqL.of (hid_same _ _ ha)⟩, q _ H1 M1 ft1 s1 R1 (iter_lst ha rk)⟩
  · cases e
theorem di_tup {f : Ev L} (h : DE L X e f) : DI L X tg e (iT f) := by
  obtain ⟨t, p, s⟩ := h
  refine ⟨_, pi_tup p, fun p0 σ H M ft δ xs δ1 R e R' q => ?_⟩
  unfold iT at e
  split at e
  · rename_i ds δ2 e1
    cases e
    refine s.frz p0 σ H M ft δ _ _ R e1 _ fun v H1 M1 ft1 s1 R1 k1 => ?_
    have k2 : Dk (hid H1 M1) v (.tuple ds) := k1
    cases k2 with
    | tup ha rk => exact ⟨_, rfl, ⟨_, SqT.of (hid_same _ _ ha)⟩, q _ H1 M1 ft1 s1 R1 (iter_tup ha rk)⟩
  · cases e
def iR1 (fa : Ea L) : Ei L := fun δ => match fa δ with
  | some ([.d (.int j)], δ1) => if -(2 ^ 62) ≤ j ∧ j < 2 ^ 62 then some ((List.range j.toNat).map fun (i : Nat) => DV.d (.int (0 + (i : Int))), δ1) else none
  | _ => none
def iR2 (fa : Ea L) : Ei L := fun δ => match fa δ with
  | some ([.d (.int i), .d (.int j)], δ1) => if -(2 ^ 62) ≤ i ∧ i < 2 ^ 62 ∧ -(2 ^ 62) ≤ j ∧ j < 2 ^ 62 then some ((List.range (j - i).toNat).map fun (k : Nat) => DV.d (.int (i + (k : Int))), δ1) else none
  | _ => none
variable {p : Pos}
theorem di_range1 {fa : Ea L} (hm : X.mg "range" = none) (ha : DA L X [a] fa) (hg : Gl X "range" := by rfl) (hs : starEach [a] X.env = [(false, eval a X.env)] := by rfl) : DI L X tg (.Call (.Name "range" p) [a] [] pos) (iR1 fa) := by
  obtain ⟨t, pa, s⟩ := ha
  refine ⟨_, pi_range1 hg hm pa hs, fun p0 σ H M ft δ xs δ1 R e R' q => ?_⟩
  unfold iR1 at e
  split at e
  · rename_i j δ2 e1
    by_cases hj : -(2 ^ 62) ≤ j ∧ j < 2 ^ 62
    · rw [if_pos hj] at e
      cases e
      refine s p0 σ H M ft δ _ _ R e1 _ fun vs H1 M1 ft1 s1 R1 k1 => ?_
      cases k1 with
      | cons h r =>
        cases r
        have h2 : Dk (hid H1 M1) _ (.int j) := h
        cases h2
        exact ⟨j, rfl, hj.1, hj.2, q _ H1 M1 ft1 s1 R1 iter_range⟩
    · rw [if_neg hj] at e; cases e
  · cases e
theorem di_range2 {fa : Ea L} (hm : X.mg "range" = none) (ha : DA L X [a, b] fa) (hg : Gl X "range" := by rfl) (hs : starEach [a, b] X.env = [(false, eval a X.env), (false, eval b X.env)] := by rfl) (hs2 : starEach [b] X.env = [(false, eval b X.env)] := by rfl) : DI L X tg (.Call (.Name "range" p) [a, b] [] pos) (iR2 fa) := by
  obtain ⟨t, pa, s⟩ := ha
  refine ⟨_, pi_range2 hg hm pa hs hs2, fun p0 σ H M ft δ xs δ1 R e R' q => ?_⟩
  unfold iR2 at e
  split at e
  · rename_i i j δ2 e1
    by_cases hj : -(2 ^ 62) ≤ i ∧ i < 2 ^ 62 ∧ -(2 ^ 62) ≤ j ∧ j < 2 ^ 62
    · rw [if_pos hj] at e
      cases e
      refine s p0 σ H M ft δ _ _ R e1 _ fun vs H1 M1 ft1 s1 R1 k1 => ?_
      cases k1 with
      | cons h r =>
        cases r with
        | cons h' r' =>
          cases r'
          have h2 : Dk (hid H1 M1) _ (.int i) := h
          cases h2
          have h3 : Dk (hid H1 M1) _ (.int j) := h'
          cases h3
          exact ⟨i, j, rfl, hj, q _ H1 M1 ft1 s1 R1 iter_range⟩
    · rw [if_neg hj] at e; cases e
  · cases e
def iE (fa : Ea L) : Ei L := fun δ => match fa δ with
  | some ([.d (.list ds)], δ1) => some (ds.zipIdx.map fun p => DV.d (.tuple [.int (p.2 : Nat), p.1]), δ1)
  | _ => none
theorem di_enum {fa : Ea L} {elts : List Expr} {kk : Nat} {tpos : Pos} (hm : X.mg "enumerate" = none) (ha : DA L X [e] fa) (hg : Gl X "enumerate" := by rfl) (hs : starEach [e] X.env = [(false, eval e X.env)] := by rfl) : DI L X (.Tuple elts kk tpos) (.Call (.Name "enumerate" p) [e] [] pos) (iE fa) := by
  obtain ⟨t, pa, s⟩ := ha
  refine ⟨_, pi_enum hg hm pa hs, fun p0 σ H M ft δ xs δ1 R e R' q => ?_⟩
  unfold iE at e
  split at e
  · rename_i ds δ2 e1
    cases e
    refine s p0 σ H M ft δ _ _ R e1 _ fun vs H1 M1 ft1 s1 R1 k1 => ?_
    cases k1 with
    | cons h r =>
      cases r
      have h2 : Dk (hid H1 M1) _ (.list ds) := h
      cases h2 with
      | lst ha rk => exact ⟨_, _, rfl, SqL.of (hid_same _ _ ha), q _ H1 M1 ft1 s1 R1 (iter_enum ha rk)⟩
  · cases e
/-! ### for -/
def sForN (u : Eg L) (b : Es L) : List (DV L) → Es L
  | [], δ => some (.nx, δ)
  | x :: xs, δ => match u x δ with
    | some δ1 => match b δ1 with
      | some (.nx, δ2) => sForN u b xs δ2
      | some (.ct, δ2) => sForN u b xs δ2
      | some (.bk, δ2) => some (.nx, δ2)
      | some (.rt r, δ2) => some (.rt r, δ2)
      | none => none
    | none => none
def sFor (fi : Ei L) (u : Eg L) (b : Es L) : Es L := fun δ => match fi δ with
  | some (xs, δ1) => sForN u b xs δ1
  | none => none
theorem snd_for {fi : Ei L} {u : Eg L} {b : Es L} {vs : List Nat} {wi : TI} {g : TG} {t : TS} (hi : SndI fi wi) (hg : SndG vs u g) (hb : SndS L b t) : SndS L (sFor fi u b) (tFor wi g t) := fun p0 σ H M ft δ fl δ' R e D q => by
  unfold sFor at e
  split at e
  · rename_i xs δ1 e1
    refine hi p0 σ H M ft δ _ _ R e1 _ fun J H1 M1 ft1 s1 R1 T => ?_
    refine ⟨fun i m σ' H' => m = xs.length - i ∧ i ≤ xs.length ∧ ∃ M' ft' δi, Step H1 M1 ft1 H' M' ft' ∧ Rp L p0 H' M' ft' σ' δi ∧ sForN u b (xs.drop i) δi = some (fl, δ'),
      ⟨xs.length, rfl, Nat.zero_le _, M1, ft1, δ1, Step.refl .., R1, e⟩, ?_⟩
    rintro i m σ2 H2 ⟨rfl, hle, M2, ft2, δ2, s2, R2, e2⟩
    obtain ⟨stp, go⟩ := T.turn H2 M2 ft2 s2 p0 σ2 δ2 R2 i
    by_cases hlt : i < xs.length
    · have ed : xs[i]? = some xs[i] := List.getElem?_eq_getElem hlt
      obtain ⟨g1, g2⟩ := go _ ed
      rw [List.drop_eq_getElem_cons hlt] at e2
      unfold sForN at e2
      refine .inr ⟨g1, fun σ' H' => ∃ M' ft' δi, Step H1 M1 ft1 H' M' ft' ∧ Rp L p0 H' M' ft' σ' δi ∧ sForN u b (xs.drop (i + 1)) δi = some (fl, δ'), fun σ' H' h => ⟨xs.length - (i + 1), by omega, rfl, hlt, h⟩, fun x H' hy => ?_⟩
      obtain ⟨M3, s3, R3, k3⟩ := g2 x H' hy
      have s23 := s2.trans s3
      split at e2
      · rename_i δ4 e4
        refine hg p0 σ2 H' M3 ft2 δ2 _ _ _ R3 k3 e4 _ fun σ5 ft5 s5 R5 _ _ => ?_
        have s25 := s23.trans s5
        split at e2
        · rename_i δ6 e6
          exact hb p0 σ5 H' M3 ft5 δ4 _ _ R5 e6 _ fun σ7 H7 M7 ft7 s7 R7 => ⟨M7, ft7, δ6, s25.trans s7, R7, e2⟩
        · rename_i δ6 e6
          exact hb p0 σ5 H' M3 ft5 δ4 _ _ R5 e6 _ fun σ7 H7 M7 ft7 s7 R7 => ⟨M7, ft7, δ6, s25.trans s7, R7, e2⟩
        · rename_i δ6 e6
          cases e2
          exact hb p0 σ5 H' M3 ft5 δ4 _ _ R5 e6 _ fun σ7 H7 M7 ft7 s7 R7 => q σ7 H7 M7 ft7 ((s1.trans s25).trans s7) R7
        · rename_i r δ6 e6
          cases e2
          exact hb p0 σ5 H' M3 ft5 δ4 _ _ R5 e6 _ fun v σ7 H7 M7 ft7 s7 R7 k7 => q v σ7 H7 M7 ft7 ((s1.trans s25).trans s7) R7 (k7.back (s1.trans s25) R5.inM)
        · cases e2
      · cases e2
    · have ei : i = xs.length := by omega
      subst ei
      rw [List.drop_length] at e2
      cases e2
      exact .inl ⟨stp (Nat.le_refl _), q σ2 H2 M2 ft2 (s1.trans s2) R2⟩
  · cases e
theorem ds_for {fi : Ei L} {u : Eg L} {b : Es L} {vs : List Nat} {sb : List Stmt} {it : Expr} (hp : PassesOwn (model X.prog X.w) X.A X.env X.xe) (hc : X.calm = true) (hi : DI L X tg it fi) (hg : DG L X tg vs u) (hb : DSs L X sb b)
    (hs : ∀ x, foldedSetIterable it X.env x = pure x := by intro _; rfl) : DS L X (.For tg it sb [] pos) (sFor fi u b) := by
  obtain ⟨wi, pi, si⟩ := hi
  obtain ⟨g, pg, sg⟩ := hg
  obtain ⟨t, p, s⟩ := hb
  exact ⟨_, ps_for hp hc pi pg p hs, snd_for si sg s⟩
/-! ### slots that are forgotten -/
def wipeD (δ : List (SV L)) : List Nat → List (SV L)
  | [] => δ
  | v :: vs => (wipeD δ vs).set v .un
theorem wipeD_length (δ : List (SV L)) : ∀ vs : List Nat, (wipeD δ vs).length = δ.length
  | [] => rfl
  | v :: vs => by unfold wipeD; rw [List.length_set, wipeD_length δ vs]
theorem wipeD_get (δ : List (SV L)) (i : Nat) : ∀ vs : List Nat, (wipeD δ vs)[i]? = if i ∈ vs then (if i < δ.length then some .un else none) else δ[i]?
  | [] => by simp [wipeD]
  | v :: vs => by
    unfold wipeD
    by_cases h : v = i
    · subst h
      rw [if_pos List.mem_cons_self, List.getElem?_set_self']
      cases q : (wipeD δ vs)[v]? with
      | none =>
        rw [List.getElem?_eq_none_iff, wipeD_length] at q
        rw [if_neg (by omega)]
        rfl
      | some x =>
        have := lt_of_get q
        rw [wipeD_length] at this
        rw [if_pos this]
        rfl
    · rw [List.getElem?_set_ne h, wipeD_get δ i vs]
      by_cases h2 : i ∈ vs
      · rw [if_pos h2, if_pos (List.mem_cons_of_mem _ h2)]
      · rw [if_neg h2, if_neg (fun z => (List.mem_cons.mp z).elim (fun z => h z.symm) h2)]
theorem wipe_get (σ : St) (i : Nat) : ∀ vs : List Nat, (wipe σ vs)[i]? = if i ∈ vs then (if i < σ.length then some none else none) else σ[i]?
  | [] => by simp [wipe]
  | v :: vs => by
    unfold wipe
    by_cases h : v = i
    · subst h
      rw [if_pos List.mem_cons_self, List.getElem?_set_self']
      cases q : (wipe σ vs)[v]? with
      | none =>
        rw [List.getElem?_eq_none_iff, wipe_length] at q
        rw [if_neg (by omega)]
        rfl
      | some x =>
        have := lt_of_get q
        rw [wipe_length] at this
        rw [if_pos this]
        rfl
    · rw [List.getElem?_set_ne h, wipe_get σ i vs]
      by_cases h2 : i ∈ vs
      · rw [if_pos h2, if_pos (List.mem_cons_of_mem _ h2)]
      · rw [if_neg h2, if_neg (fun z => (List.mem_cons.mp z).elim (fun z => h z.symm) h2)]
theorem Rp.resig {p0 : Option V} {H : Hp} {M : Mp} {ft : Nat → Addr → Prop} {σ σ' : St} {δ : List (SV L)} (R : Rp L p0 H M ft σ δ) (vs : List Nat) (hl : σ'.length = σ.length) (h : ∀ j, j ∉ vs → σ'[j]? = σ[j]?) :
    Step H M ft H M (fun j a => j ∉ vs ∧ ft j a) ∧ Rp L p0 H M (fun j a => j ∉ vs ∧ ft j a) σ' (wipeD δ vs) :=
  ⟨step_drop (fun _ z => z) fun a hm hf => ⟨hm, fun j z => hf j z.2⟩, {
    len := by rw [hl, R.len, wipeD_length]
    slot := fun i s es => by
      rw [wipeD_get] at es
      by_cases hv : i ∈ vs
      · rw [if_pos hv] at es
        split at es
        · cases es
          exact fun _ z => z.1 hv
        · cases es
      · rw [if_neg hv] at es
        have sl := R.slot i s es
        have ef : (fun a => i ∉ vs ∧ ft i a) = ft i := by
          funext a
          exact propext ⟨fun z => z.2, fun z => ⟨hv, z⟩⟩
        show SlotOk L p0 H M (σ'[i]?.join) s (fun a => i ∉ vs ∧ ft i a)
        rw [ef, h i hv]
        exact sl
    bnd := fun i a z => by rw [wipeD_length]; exact R.bnd i a z.2
    inM := fun i a z => R.inM i a z.2
    dis := fun i j a z w => R.dis i j a z.2 w.2 }⟩
/-! ### comprehensions -/
def lcN (vs : List Nat) (u : Eg L) (c : Et L) (f : Ev L) : List (DV L) → List (SV L) → List PD → Option (List PD × List (SV L))
  | [], δ, acc => some (acc, δ)
  | x :: xs, δ, acc => match u x δ with
    | some δ1 => match c δ1 with
      | some (true, δ2) => match frz f δ2 with
        | some (.d y, δ3) => lcN vs u c f xs (wipeD δ3 vs) (acc ++ [y])
        | _ => none
      | some (false, δ2) => lcN vs u c f xs (wipeD δ2 vs) acc
      | none => none
    | none => none
def eLc (vs : List Nat) (fi : Ei L) (u : Eg L) (c : Et L) (f : Ev L) : Ev L := fun δ => match fi δ with
  | some (xs, δ1) => if xs.length ≤ 100000 then match lcN vs u c f xs (wipeD δ1 vs) [] with
      | some (out, δ2) => some (.own (.lst out), wipeD δ2 vs)
      | none => none
    else none
  | none => none
theorem lc_at {vs ws : List Nat} {u : Eg L} {c : Et L} {f : Ev L} {wi : TI} {g : TG} {tt : TT} {te : TE} {p0 : Option V} {σ : St} {H : Hp} {M : Mp} {ft : Nat → Addr → Prop} {xs : List (DV L)} {δ1 δ2 : List (SV L)} {out : List PD} (hsub : ∀ i ∈ ws, i ∈ vs)
    (hi : ∀ R : It → Hp → Prop, (∀ J H' M' ft', Step H M ft H' M' ft' → Rp L p0 H' M' ft' σ δ1 → Iter L J H' M' ft' xs → R J H') → wi σ H R) (hg : SndG ws u g) (hc : SndT L c tt) (hf : SndE L f te) (hx : xs.length ≤ 100000) (e2 : lcN vs u c f xs (wipeD δ1 vs) [] = some (out, δ2))
    {Q : VK} (q : ∀ v H' M' ft', Step H M ft H' M' ft' → Rp L p0 H' M' ft' σ (wipeD δ2 vs) → ResOk L H ft H' M' ft' v (.own (.lst out)) → Q v H') : tLc wi g tt te vs σ H Q := by
  refine hi _ fun J H1 M1 ft1 s1 R1 T => fun D hD => ?_
  obtain ⟨sw, Rw⟩ := R1.resig (σ' := wipe σ vs) vs (wipe_length σ vs) (fun j hj => by rw [wipe_get, if_neg hj])
  obtain ⟨sa, Ra, ka⟩ := allocO (ds := []) Rw hD .nil
  have sD := (s1.trans sw).trans sa
  refine ⟨fun i m H' => m = xs.length - i ∧ i ≤ xs.length ∧ ∃ M' ft' δi acc ds, Step H1 M1 ft1 H' M' ft' ∧ Rp L p0 H' M' ft' (wipe σ vs) δi ∧ H' D = some (.lst acc) ∧ DkAll (hid H' M') acc ds ∧ M' D ∧ (∀ j, ¬ ft' j D) ∧ ds.length ≤ i ∧ lcN vs u c f (xs.drop i) δi ds = some (out, δ2),
    ⟨xs.length, rfl, Nat.zero_le _, _, _, _, [], [], sw.trans sa, Ra, upd_same, .nil, .inr rfl, fun j z => Rw.fnone hD j z, Nat.le_refl 0, e2⟩, ?_⟩
  rintro i m H2 ⟨rfl, hle, M2, ft2, δ3, acc, ds, s2, R2, hacc, kacc, mD, nD, hdl, e3⟩
  obtain ⟨stp, go⟩ := T.turn H2 M2 ft2 s2 p0 (wipe σ vs) δ3 R2 i
  by_cases hlt : i < xs.length
  · have ed : xs[i]? = some xs[i] := List.getElem?_eq_getElem hlt
    obtain ⟨g1, g2⟩ := go _ ed
    rw [List.drop_eq_getElem_cons hlt] at e3
    unfold lcN at e3
    refine .inr ⟨g1, fun H' => i + 1 ≤ xs.length ∧ ∃ M' ft' δi acc ds, Step H1 M1 ft1 H' M' ft' ∧ Rp L p0 H' M' ft' (wipe σ vs) δi ∧ H' D = some (.lst acc) ∧ DkAll (hid H' M') acc ds ∧ M' D ∧ (∀ j, ¬ ft' j D) ∧ ds.length ≤ i + 1 ∧ lcN vs u c f (xs.drop (i + 1)) δi ds = some (out, δ2),
      fun H' h => ⟨xs.length - (i + 1), by omega, rfl, h⟩, fun x H3 hy => ?_⟩
    obtain ⟨M3, s3, R3, k3⟩ := g2 x H3 hy
    split at e3
    · rename_i δ4 e4
      refine hg p0 (wipe σ vs) H3 M3 ft2 δ3 _ _ _ R3 k3 e4 _ fun σ5 ft5 s5 R5 l5 n5 => ?_
      have n5' : ∀ j, j ∉ vs → σ5[j]? = (wipe σ vs)[j]? := fun j hj => n5 j fun z => hj (hsub j z)
      refine ⟨?_, ?_⟩
      · refine List.ext_getElem? fun j => ?_
        rw [wipe_get, wipe_get]
        by_cases hj : j ∈ vs
        · rw [if_pos hj, if_pos hj, l5, wipe_length]
        · rw [if_neg hj, if_neg hj, n5' j hj, wipe_get, if_neg hj]
      · have s35 := s3.trans s5
        split at e3
        · rename_i δ6 e6
          refine hc p0 σ5 H3 M3 ft5 δ4 _ _ R5 e6 _ fun H6 M6 ft6 s6 R6 => iteT ?_
          split at e3
          · rename_i y δ7 e7
            refine hf.frz p0 σ5 H6 M6 ft6 δ6 _ _ R6 e7 _ fun w H7 M7 ft7 s7 R7 k7 => ?_
            have s27 := (s35.trans s6).trans s7
            obtain ⟨h7, m7, f7⟩ := s27.keep D _ mD nD hacc
            obtain ⟨s8, R8⟩ := R7.resig (σ' := wipe σ vs) vs (by rw [l5]) (fun j hj => (n5' j hj).symm)
            have f8 : ∀ j, ¬ (j ∉ vs ∧ ft7 j D) := fun j z => f7 j z.2
            have ext9 : Same (hid H7 M7) (hid (upd H7 D (.lst (acc ++ [w]))) M7) := fun b o hb => by
              obtain ⟨mb, eb⟩ := hid_some.mp hb
              exact hid_some.mpr ⟨mb, by rw [upd_ne (show b ≠ D from fun z => mb (by rw [z]; exact m7))]; exact eb⟩
            refine ⟨acc, h7, by rw [kacc.length]; exact Nat.lt_of_le_of_lt (Nat.le_trans hdl (Nat.le_trans hle hx)) (by decide), hlt, M7, _, _, acc ++ [w], ds ++ [y], ?_, R8.carry ext9 (fun j b o fb eo => ⟨by rw [upd_ne (show b ≠ D from fun z => f8 j (by rw [← z]; exact fb))]; exact eo, R8.inM j b fb⟩), upd_same, ((kacc.mono s27.ext).snoc k7).mono ext9, m7, f8, by rw [List.length_append]; exact Nat.succ_le_succ hdl, e3⟩
            · have s28 := (s2.trans s27).trans s8
              refine ⟨s28.ext.trans ext9, fun b o mb nb eb => ?_⟩
              obtain ⟨e', m', n'⟩ := s28.keep b o mb nb eb
              exact ⟨by rw [upd_ne (ne_of_none eb hD)]; exact e', m', n'⟩
          · cases e3
        · rename_i δ6 e6
          refine hc p0 σ5 H3 M3 ft5 δ4 _ _ R5 e6 _ fun H6 M6 ft6 s6 R6 => iteF ?_
          have s26 := s35.trans s6
          obtain ⟨h7, m7, f7⟩ := s26.keep D _ mD nD hacc
          obtain ⟨s8, R8⟩ := R6.resig (σ' := wipe σ vs) vs (by rw [l5]) (fun j hj => (n5' j hj).symm)
          exact ⟨hlt, M6, _, _, acc, ds, (s2.trans s26).trans s8, R8, h7, kacc.mono s26.ext, m7, fun j z => f7 j z.2, Nat.le_succ_of_le hdl, e3⟩
        · cases e3
    · cases e3
  · have ei : i = xs.length := by omega
    subst ei
    rw [List.drop_length] at e3
    cases e3
    obtain ⟨s8, R8⟩ := R2.resig (σ' := σ) vs (wipe_length σ vs).symm (fun j hj => by rw [wipe_get, if_neg hj])
    refine .inl ⟨stp (Nat.le_refl _), q (.ref D) H2 M2 _ ((s1.trans s2).trans s8) R8 ⟨fun a => a = D, ⟨D, acc, rfl, fun _ => Iff.rfl, hacc, kacc⟩, fun a ea => ?_⟩⟩
    rw [ea]
    refine ⟨mD, fun j z => nD j z.2, ?_⟩
    exact Fresh.back s1 R1.inM (.inl hD)
theorem snd_lc {vs ws : List Nat} {fi : Ei L} {u : Eg L} {c : Et L} {f : Ev L} {wi : TI} {g : TG} {tt : TT} {te : TE} (hsub : ∀ i ∈ ws, i ∈ vs) (hi : SndI fi wi) (hg : SndG ws u g) (hc : SndT L c tt) (hf : SndE L f te) : SndE L (eLc vs fi u c f) (tLc wi g tt te vs) := fun p0 σ H M ft δ r δ' R e Q q => by
  unfold eLc at e
  split at e
  · rename_i xs δ1 e1
    by_cases hx : xs.length ≤ 100000
    · rw [if_pos hx] at e
      cases e2 : lcN vs u c f xs (wipeD δ1 vs) [] with
      | none => rw [e2] at e; cases e
      | some p2 =>
        obtain ⟨out, δ2⟩ := p2
        rw [e2] at e
        cases e
        exact lc_at hsub (hi p0 σ H M ft δ _ _ R e1) hg hc hf hx e2 q
    · rw [if_neg hx] at e; cases e
  · cases e
def cYes : Et L := fun δ => some (true, δ)
theorem snd_yes : SndT L cYes tYes := fun p0 σ H M ft δ r δ' R e Q q => by
  cases e
  exact q H M ft (Step.refl ..) R
variable {elt : Expr} {ifs : List Expr} {scope : Scope}
/-- [elt for tg in iter], [.. if test] -/
theorem de_lc {own : List (Str × Nat)} {ws : List Nat} {fi : Ei L} {u : Eg L} {f : Ev L} {it : Expr} (hc : X.calm = true) (hN : X.N.Nodup) (hi : DI L X tg it fi) (ok : BlkOk X.N X.env.scope scope own) (hsub : ∀ i ∈ ws, i ∈ own.map (·.2))
    (hg : ∀ (s : Shared) (H : Hp) (C : Addr) (cl : List (Str × Addr)) (fp : List Addr), DG L (X.blk s H scope (compEnvC scope cl C X.env) fp) tg ws u)
    (he : ∀ (s : Shared) (H : Hp) (C : Addr) (cl : List (Str × Addr)) (fp : List Addr), DE L (X.blk s H scope (compEnvC scope cl C X.env) fp) elt f) (hs : ∀ x, foldedSetIterable it X.env x = pure x := by intro _; rfl) :
    DE L X (.ListComp elt [⟨tg, it, [], 0⟩] scope pos) (eLc (own.map (·.2)) fi u cYes f) := by
  obtain ⟨wi, pi, si⟩ := hi
  exact ⟨_, pe_lc hc hN pi ok (fun s H C cl fp => (hg s H C cl fp).can) (fun _ _ _ _ _ => pts_nil) (fun s H C cl fp => (he s H C cl fp).can) hs, snd_lc hsub si (snd_gof ws u) snd_yes (snd_of f)⟩
theorem de_lcIf {own : List (Str × Nat)} {ws : List Nat} {fi : Ei L} {u : Eg L} {c : Et L} {f : Ev L} {it t : Expr} (hc : X.calm = true) (hN : X.N.Nodup) (hi : DI L X tg it fi) (ok : BlkOk X.N X.env.scope scope own) (hsub : ∀ i ∈ ws, i ∈ own.map (·.2))
    (hg : ∀ (s : Shared) (H : Hp) (C : Addr) (cl : List (Str × Addr)) (fp : List Addr), DG L (X.blk s H scope (compEnvC scope cl C X.env) fp) tg ws u)
    (ht : ∀ (s : Shared) (H : Hp) (C : Addr) (cl : List (Str × Addr)) (fp : List Addr), DT L (X.blk s H scope (compEnvC scope cl C X.env) fp) t c)
    (he : ∀ (s : Shared) (H : Hp) (C : Addr) (cl : List (Str × Addr)) (fp : List Addr), DE L (X.blk s H scope (compEnvC scope cl C X.env) fp) elt f) (hs : ∀ x, foldedSetIterable it X.env x = pure x := by intro _; rfl) :
    DE L X (.ListComp elt [⟨tg, it, [t], 0⟩] scope pos) (eLc (own.map (·.2)) fi u c f) := by
  obtain ⟨wi, pi, si⟩ := hi
  exact ⟨_, pe_lc hc hN pi ok (fun s H C cl fp => (hg s H C cl fp).can) (fun s H C cl fp => pts_one (ht s H C cl fp).can) (fun s H C cl fp => (he s H C cl fp).can) hs, snd_lc hsub si (snd_gof ws u) (snd_tof c) (snd_of f)⟩
/-- x = [..] -/
theorem ds_setLc (i : Nat) {y : Str} {py : Pos} {spos : Pos} {own : List (Str × Nat)} {ws : List Nat} {fi : Ei L} {u : Eg L} {f : Ev L} {it : Expr} (hc : X.calm = true) (hN : X.N.Nodup) (hi : DI L X tg it fi) (ok : BlkOk X.N X.env.scope scope own) (hsub : ∀ i ∈ ws, i ∈ own.map (·.2))
    (hg : ∀ (s : Shared) (H : Hp) (C : Addr) (cl : List (Str × Addr)) (fp : List Addr), DG L (X.blk s H scope (compEnvC scope cl C X.env) fp) tg ws u)
    (he : ∀ (s : Shared) (H : Hp) (C : Addr) (cl : List (Str × Addr)) (fp : List Addr), DE L (X.blk s H scope (compEnvC scope cl C X.env) fp) elt f)
    (hsw : swapsWith (.ListComp elt [⟨tg, it, [], 0⟩] scope pos) (some (.Name y py)) spos.line X.env = pure true)
    (hy : X.N[i]? = some y := by rfl) (hyl : X.env.scope.names.lookup y = some .local := by rfl) (hs : ∀ x, foldedSetIterable it X.env x = pure x := by intro _; rfl) :
    DS L X (.Assign [.Name y py] (.ListComp elt [⟨tg, it, [], 0⟩] scope pos) spos) (sSet i (eLc (own.map (·.2)) fi u cYes f)) := by
  obtain ⟨wi, pi, si⟩ := hi
  exact ⟨_, L2.ps_setLc hc hN hy hyl hsw pi ok (fun s H C cl fp => (hg s H C cl fp).can) (fun _ _ _ _ _ => pts_nil) (fun s H C cl fp => (he s H C cl fp).can) hs, snd_set i (snd_lc hsub si (snd_gof ws u) snd_yes (snd_of f))⟩
theorem ds_setLcIf (i : Nat) {y : Str} {py : Pos} {spos : Pos} {own : List (Str × Nat)} {ws : List Nat} {fi : Ei L} {u : Eg L} {c : Et L} {f : Ev L} {it t : Expr} (hc : X.calm = true) (hN : X.N.Nodup) (hi : DI L X tg it fi) (ok : BlkOk X.N X.env.scope scope own) (hsub : ∀ i ∈ ws, i ∈ own.map (·.2))
    (hg : ∀ (s : Shared) (H : Hp) (C : Addr) (cl : List (Str × Addr)) (fp : List Addr), DG L (X.blk s H scope (compEnvC scope cl C X.env) fp) tg ws u)
    (ht : ∀ (s : Shared) (H : Hp) (C : Addr) (cl : List (Str × Addr)) (fp : List Addr), DT L (X.blk s H scope (compEnvC scope cl C X.env) fp) t c)
    (he : ∀ (s : Shared) (H : Hp) (C : Addr) (cl : List (Str × Addr)) (fp : List Addr), DE L (X.blk s H scope (compEnvC scope cl C X.env) fp) elt f)
    (hsw : swapsWith (.ListComp elt [⟨tg, it, [t], 0⟩] scope pos) (some (.Name y py)) spos.line X.env = pure true)
    (hy : X.N[i]? = some y := by rfl) (hyl : X.env.scope.names.lookup y = some .local := by rfl) (hs : ∀ x, foldedSetIterable it X.env x = pure x := by intro _; rfl) :
    DS L X (.Assign [.Name y py] (.ListComp elt [⟨tg, it, [t], 0⟩] scope pos) spos) (sSet i (eLc (own.map (·.2)) fi u c f)) := by
  obtain ⟨wi, pi, si⟩ := hi
  exact ⟨_, L2.ps_setLc hc hN hy hyl hsw pi ok (fun s H C cl fp => (hg s H C cl fp).can) (fun s H C cl fp => pts_one (ht s H C cl fp).can) (fun s H C cl fp => (he s H C cl fp).can) hs, snd_set i (snd_lc hsub si (snd_gof ws u) (snd_tof c) (snd_of f))⟩
end
end DL
set_option Elab.async false
set_option linter.all false
set_option maxRecDepth 100000
set_option maxHeartbeats 1000000
/-! D6: defs and their calls. -/
namespace DL
open PySem PySem.Spec L2
open PyProof.Rows hiding St
variable [CN]
variable {L : Lang}
variable (L)
/-- the first argument as the caller has it back -/
def Aft (p0 : Option V) (H' : Hp) (M' : Mp) (ft' : Nat → Addr → Prop) (w : Option (OW L)) : Prop :=
  (∀ i a, ft' i a → i = 0 ∧ M' a) ∧ match w with
    | none => ∀ a, ¬ ft' 0 a
    | some ow => ∃ v, p0 = some v ∧ OwnAt L H' M' v ow (ft' 0)
abbrev Fn := List (SV L) → Option (RV L × Option (OW L))
/-- a def's promise: it computes F -/
def spD (F : Fn L) : Sp := fun vs H Q _ => ∃ (M : Mp) (ft : Nat → Addr → Prop) (as : List (SV L)) (r : RV L) (w : Option (OW L)), Rp L vs.head? H M ft (vs.map some) as ∧ F as = some (r, w) ∧
  ∀ v H' M' ft', Step H M ft H' M' ft' → Aft L vs.head? H' M' ft' w → ResOk L H ft H' M' ft' v r → Q v H'
variable {L}
def back (δ : List (SV L)) : Option (OW L) := match δ[0]? with
  | some (SV.own true w) => some w
  | _ => none
/-- a def with np parameters and nn names, by its body -/
def fnD (np nn : Nat) (b : Es L) : Fn L := fun as => if as.length = np then
    match b (as ++ List.replicate (nn - as.length) .un) with
    | some (.rt r, δ) => some (r, back δ)
    | some (.nx, δ) => some (.dv (.d .none), back δ)
    | _ => none
  else none
theorem Rp.aft {p0 : Option V} {H H' : Hp} {M M' : Mp} {ft ft' : Nat → Addr → Prop} {σ' : St} {δ' : List (SV L)} {v : V} {r : RV L} (s : Step H M ft H' M' ft') (R : Rp L p0 H' M' ft' σ' δ') (k : ResOk L H ft H' M' ft' v r) :
    ∃ ft2, Step H M ft H' M' ft2 ∧ Aft L p0 H' M' ft2 (back δ') ∧ ResOk L H ft H' M' ft2 v r := by
  have sub : ∀ (ft2 : Nat → Addr → Prop), (∀ i a, ft2 i a → ft' i a) → Step H M ft H' M' ft2 ∧ ResOk L H ft H' M' ft2 v r := fun ft2 h2 => by
    refine ⟨⟨s.ext, fun a o hm hf e => ?_⟩, ?_⟩
    · obtain ⟨e', m', n'⟩ := s.keep a o hm hf e
      exact ⟨e', m', fun i z => n' i (h2 i a z)⟩
    · cases r with
      | dv d => exact k
      | own w =>
        obtain ⟨f, ow, hf⟩ := k
        exact ⟨f, ow, fun a fa => ⟨(hf a fa).1, fun i z => (hf a fa).2.1 i (h2 i a z), (hf a fa).2.2⟩⟩
  have none_case : back δ' = none → ∃ ft2, Step H M ft H' M' ft2 ∧ Aft L p0 H' M' ft2 (back δ') ∧ ResOk L H ft H' M' ft2 v r := fun e => by
    obtain ⟨s2, k2⟩ := sub (fun _ _ => False) (fun _ _ z => z.elim)
    rw [e]
    exact ⟨_, s2, ⟨fun _ _ z => z.elim, fun _ z => z⟩, k2⟩
  cases e0 : δ'[0]? with
  | none => exact none_case (by unfold back; rw [e0])
  | some x =>
    cases x with
    | un => exact none_case (by unfold back; rw [e0])
    | dv d => exact none_case (by unfold back; rw [e0])
    | own b w =>
      cases b with
      | false => exact none_case (by unfold back; rw [e0])
      | true =>
        have eb : back δ' = some w := by unfold back; rw [e0]
        obtain ⟨s2, k2⟩ := sub (fun i a => i = 0 ∧ ft' 0 a) (fun i a z => by rw [z.1]; exact z.2)
        obtain ⟨u, eu, ow, hp⟩ := R.slot 0 _ e0
        rw [eb]
        refine ⟨_, s2, ⟨fun i a z => ⟨z.1, R.inM 0 a z.2⟩, u, hp rfl, ?_⟩, k2⟩
        have ef : (fun a => (0 : Nat) = 0 ∧ ft' 0 a) = ft' 0 := by
          funext a
          exact propext ⟨fun z => z.2, fun z => ⟨rfl, z⟩⟩
        show OwnAt L H' M' u w (fun a => (0 : Nat) = 0 ∧ ft' 0 a)
        rw [ef]
        exact ow
section
variable {P : Program} {w : World} {K : PySem.W.Frag} {mg : Str → Option Value} {base : Heap}
/-- by any rule Fok that walks the body -/
theorem ok_defG {qual : Str} {st : Stmt} {f : Addr} {fd : FuncData} {N ps : List Str} {k : Nat} {b : Es L} (S : FnScope N ps (defScope st))
    (Fok : ∀ sp : Sp, (∀ vs H Q E, sp vs H Q E → vs.length = ps.length) →
      (∀ (cdv : Value) (A : Around) (outer : List Env) (s : Shared) (H : Hp) (vs : List V) (Q : VK) (E : XK), Room k (A.deeper (envOfC qual (defScope st) s.heap.objs.size f cdv)) → sp vs H Q E →
        ∃ t, PSs (cxOf CX0 P w K mg base N qual (defScope st) f cdv A outer s H E).nox (defBody st) t ∧ t { nx := fun _ H' => Q .non H', rt := Q } (L2.start N vs) H) → FnOk P w K mg base CX0 (k + 1) f fd ps sp)
    (hb : ∀ (cdv : Value) (A : Around) (outer : List Env) (s : Shared) (H : Hp) (E : XK), Room k (A.deeper (envOfC qual (defScope st) s.heap.objs.size f cdv)) → DSs L (cxOf CX0 P w K mg base N qual (defScope st) f cdv A outer s H E).nox (defBody st) b) :
    FnOk P w K mg base CX0 (k + 1) f fd ps (spD L (fnD ps.length N.length b)) := by
  refine Fok _ (fun vs H Q E h => ?_) (fun cdv A outer s H vs Q E hr h => ?_)
  · obtain ⟨M, ft, as, r, w, R, e, _⟩ := h
    unfold fnD at e
    by_cases hl : as.length = ps.length
    · rw [← hl, ← R.len, List.length_map]
    · rw [if_neg hl] at e; cases e
  · obtain ⟨t, p, sd⟩ := hb cdv A outer s H E hr
    refine ⟨t, p, ?_⟩
    obtain ⟨M, ft, as, r, w, R, e, q⟩ := h
    unfold fnD at e
    by_cases hl : as.length = ps.length
    · rw [if_pos hl] at e
      have hv : vs.length = as.length := by rw [← R.len, List.length_map]
      have R2 : Rp L vs.head? H M ft (L2.start N vs) (as ++ List.replicate (N.length - as.length) .un) := {
        len := by
          unfold L2.start
          rw [List.length_append, List.length_append, List.length_map, List.length_replicate, List.length_replicate, hv]
        slot := fun i s es => by
          by_cases hi : i < as.length
          · rw [List.getElem?_append_left hi] at es
            have sl := R.slot i s es
            unfold L2.start
            rw [List.getElem?_append_left (by rw [List.length_map, hv]; exact hi)]
            exact sl
          · rw [List.getElem?_append_right (by omega)] at es
            have e2 : s = .un := by
              have := List.mem_of_getElem? es
              exact (List.mem_replicate.mp this).2
            subst e2
            exact fun a z => hi (R.bnd i a z)
        bnd := fun i a z => by rw [List.length_append]; exact Nat.lt_of_lt_of_le (R.bnd i a z) (Nat.le_add_right _ _)
        inM := R.inM
        dis := R.dis }
      split at e
      · rename_i r' δ' e1
        cases e
        refine sd vs.head? _ H M ft _ _ _ R2 e1 _ fun v σ' H' M' ft' s' R' k' => ?_
        obtain ⟨ft2, s2, a2, k2⟩ := Rp.aft s' R' k'
        exact q v H' M' ft2 s2 a2 k2
      · rename_i δ' e1
        cases e
        refine sd vs.head? _ H M ft _ _ _ R2 e1 _ fun σ' H' M' ft' s' R' => ?_
        obtain ⟨ft2, s2, a2, k2⟩ := Rp.aft (v := .non) (r := .dv (.d .none)) s' R' .non
        exact q .non H' M' ft2 s2 a2 k2
      · cases e
    · rw [if_neg hl] at e; cases e
theorem ok_def {x qual : Str} {st : Stmt} {f : Addr} {fd : FuncData} {N ps : List Str} {k : Nat} {b : Es L} (F : Fun K x qual st f fd) (S : FnScope N ps (defScope st))
    (hb : ∀ (cdv : Value) (A : Around) (outer : List Env) (s : Shared) (H : Hp) (E : XK), Room k (A.deeper (envOfC qual (defScope st) s.heap.objs.size f cdv)) → DSs L (cxOf CX0 P w K mg base N qual (defScope st) f cdv A outer s H E).nox (defBody st) b) :
    FnOk P w K mg base CX0 (k + 1) f fd ps (spD L (fnD ps.length N.length b)) := ok_defG S (fun sp len hbody => F.ok S len hbody) hb
end
/-! ### a call, all arguments values -/
def eCall (F : Fn L) (fa : Ea L) : Ev L := fun δ => match fa δ with
  | some (ds, δ1) => match F (ds.map SV.dv) with
    | some (r, _) => some (r, δ1)
    | none => none
  | none => none
theorem rp_args {H : Hp} {M : Mp} {vs : List V} {ds : List (DV L)} {p0 : Option V} (k : RepAll L (hid H M) vs ds) : Rp L p0 H M (fun _ _ => False) (vs.map some) (ds.map SV.dv) where
  len := by rw [List.length_map, List.length_map, Paired.length k]
  slot := fun i s es => by
    rw [List.getElem?_map] at es
    cases ed : ds[i]? with
    | none => rw [ed] at es; cases es
    | some d =>
      rw [ed] at es
      cases es
      refine ⟨fun _ z => z, ?_⟩
      have hv : ∃ v, vs[i]? = some v ∧ RepV L (hid H M) v d := by
        induction k generalizing i with
        | nil => cases ed
        | cons h t ih =>
          cases i with
          | zero => cases ed; exact ⟨_, rfl, h⟩
          | succ i => exact ih i ed
      obtain ⟨v, ev, kv⟩ := hv
      exact ⟨v, by rw [List.getElem?_map, ev]; rfl, kv⟩
  bnd := fun _ _ z => z.elim
  inM := fun _ _ z => z.elim
  dis := fun _ _ _ z => z.elim
/-- behind a call that owns nothing of the frame's -/
theorem back_of {p0 : Option V} {H H' : Hp} {M M' : Mp} {ft ft' : Nat → Addr → Prop} {σ : St} {δ : List (SV L)} {v : V} {r : RV L} (R : Rp L p0 H M ft σ δ) (s : Step H M (fun _ _ => False) H' M' ft') (k : ResOk L H (fun _ _ => False) H' M' ft' v r) :
    Step H M ft H' M' ft ∧ Rp L p0 H' M' ft σ δ ∧ ResOk L H ft H' M' ft v r := by
  have keep : ∀ i a o, ft i a → H a = some o → H' a = some o ∧ M' a := fun i a o fa eo => by
    obtain ⟨e', m', _⟩ := s.keep a o (R.inM i a fa) (fun _ z => z) eo
    exact ⟨e', m'⟩
  refine ⟨⟨s.ext, fun a o hm hf eo => ?_⟩, R.carry s.ext keep, ?_⟩
  · obtain ⟨e', m', _⟩ := s.keep a o hm (fun _ z => z) eo
    exact ⟨e', m', hf⟩
  · cases r with
    | dv d => exact k
    | own w =>
      obtain ⟨f, ow, hf⟩ := k
      refine ⟨f, ow, fun a fa => ?_⟩
      obtain ⟨m, n, fr⟩ := hf a fa
      have hn : H a = none := by
        rcases fr with fr | ⟨_, z⟩
        · exact fr
        · exact z.elim
      exact ⟨m, fun i => R.fnone hn i, .inl hn⟩
theorem snd_call {F : Fn L} {fa : Ea L} {t : TA} {E : XK} (h : SndA L fa t) : SndE L (eCall F fa) (tCall (spD L F) [] E t) := fun p0 σ H M ft δ r δ' R e Q q => by
  unfold eCall at e
  split at e
  · rename_i ds δ1 e1
    split at e
    · rename_i r' w' e2
      cases e
      refine h p0 σ H M ft δ _ _ R e1 _ fun vs H1 M1 ft1 s1 R1 k1 => ?_
      show spD L F (vs ++ []) H1 Q E
      rw [List.append_nil]
      refine ⟨M1, fun _ _ => False, ds.map SV.dv, r, w', rp_args k1, e2, fun v H2 M2 ft2 s2 _ k2 => ?_⟩
      obtain ⟨s3, R3, k3⟩ := back_of R1 s2 k2
      exact q v H2 M2 ft1 (s1.trans s3) R3 (k3.back s1 R1.inM)
    · cases e
  · cases e
section
variable {X : Cx} {e o : Expr} {es : List Expr} {pos p apos : Pos} {x m : Str} {k : Nat} {f C : Addr} {fd : FuncData} {ps : List Str}
theorem de_call {F : Fn L} {fa : Ea L} (G : FnOk X.prog X.w X.K X.mg X.base CX0 k f fd ps (spD L F)) (hr : Room k X.A) (hm : X.mg x = some (.ref f)) (hk : PySem.W.keepIn X.K (.ref f) = true) (hb : Binds X.K fd ps []) (ha : DA L X (e :: es) fa) (hg : Gl X x := by rfl)
    (hdb : (x == ("__debug__" : Str)) = false := by decide) (he : starEach (e :: es) X.env = (false, eval e X.env) :: starEach es X.env := by rfl) (hpl : (backTo pos (starEach es X.env)).any (·.1) = false := by rfl) :
    DE L X (.Call (.Name x p) (e :: es) [] pos) (eCall F fa) := by
  obtain ⟨t, pa, sa⟩ := ha
  exact ⟨_, pe_call G hr hg hm hk hb .nil pass0 pa hdb he hpl, snd_call sa⟩
theorem de_call0 {F : Fn L} (G : FnOk X.prog X.w X.K X.mg X.base CX0 k f fd ps (spD L F)) (hr : Room k X.A) (hm : X.mg x = some (.ref f)) (hk : PySem.W.keepIn X.K (.ref f) = true) (hb : Binds X.K fd ps []) (hg : Gl X x := by rfl)
    (hdb : (x == ("__debug__" : Str)) = false := by decide) : DE L X (.Call (.Name x p) [] [] pos) (eCall F aNil) := ⟨_, pe_call0 G hr hg hm hk hb .nil pass0 hdb, snd_call snd_nil⟩
/-! ### a call that is lent the frame's own thing in slot i -/
def eCallB (i : Nat) (F : Fn L) (fa : Ea L) : Ev L := fun δ => match δ[i]? with
  | some (.own _ _) => match fa δ with
    | some (ds, δ1) => match δ1[i]? with
      | some (.own b w) => match F (.own true w :: ds.map SV.dv) with
        | some (r, some w') => some (r, δ1.set i (.own b w'))
        | _ => none
      | _ => none
    | none => none
  | _ => none
/-- the callee's view -/
theorem rp_lend {p0 : Option V} {H : Hp} {M : Mp} {ft : Nat → Addr → Prop} {σ : St} {δ : List (SV L)} (R : Rp L p0 H M ft σ δ) {i : Nat} {b : Bool} {w : OW L} {v : V} {vs : List V} {ds : List (DV L)} (e : δ[i]? = some (.own b w)) (ev : σ[i]? = some (some v)) (k : RepAll L (hid H M) vs ds) :
    Rp L (some v) H M (fun j a => j = 0 ∧ ft i a) ((v :: vs).map some) (.own true w :: ds.map SV.dv) where
  len := by
    have := (rp_args (p0 := none) k).len
    simp only [List.map_cons, List.length_cons]
    omega
  slot := fun j s es => by
    cases j with
    | zero =>
      cases es
      obtain ⟨u, eu, ow, _⟩ := rp_own R e
      have : u = v := by
        have z := eu.symm.trans ev
        cases z
        rfl
      subst this
      refine ⟨u, rfl, ?_, fun _ => rfl⟩
      have ef : (fun a => (0 : Nat) = 0 ∧ ft i a) = ft i := by
        funext a
        exact propext ⟨fun z => z.2, fun z => ⟨rfl, z⟩⟩
      rw [ef]
      exact ow
    | succ j =>
      have sl := (rp_args (p0 := some v) k).slot j s es
      cases s with
      | un => exact fun a z => nomatch z.1
      | dv d => exact ⟨fun a z => (nomatch z.1), sl.2⟩
      | own b' w' =>
        exfalso
        have es' : (ds.map SV.dv)[j]? = some (SV.own b' w') := es
        rw [List.getElem?_map] at es'
        cases q : ds[j]? with
        | none => rw [q] at es'; cases es'
        | some d => rw [q] at es'; cases es'
  bnd := fun j a z => by rw [z.1]; exact Nat.succ_pos _
  inM := fun j a z => R.inM i a z.2
  dis := fun j l a z y => by rw [z.1, y.1]
/-- behind the call -/
theorem back_lent {p0 : Option V} {H H' : Hp} {M M' : Mp} {ft ft' : Nat → Addr → Prop} {σ : St} {δ : List (SV L)} {v u : V} {r : RV L} (R : Rp L p0 H M ft σ δ) {i : Nat} {b : Bool} {w w' : OW L} (e : δ[i]? = some (.own b w)) (ev : σ[i]? = some (some u)) (s : Step H M (fun j a => j = 0 ∧ ft i a) H' M' ft')
    (a' : Aft L (some u) H' M' ft' (some w')) (k : ResOk L H (fun j a => j = 0 ∧ ft i a) H' M' ft' v r) :
    ∃ ft2, Step H M ft H' M' ft2 ∧ Rp L p0 H' M' ft2 σ (δ.set i (.own b w')) ∧ ResOk L H ft H' M' ft2 v r := by
  obtain ⟨hz, u', eu, ow⟩ := a'
  cases eu
  have other : ∀ j a o, j ≠ i → ft j a → H a = some o → H' a = some o ∧ M' a ∧ ∀ l, ¬ ft' l a := fun j a o hj fa eo =>
    s.keep a o (R.inM j a fa) (fun l z => hj (R.dis j i a fa z.2)) eo
  have R1 : Rp L p0 H M (fset ft i fun _ => False) σ (δ.set i .un) := R.put (o := σ[i]?.join) (lt_of_get e) (.inr ⟨rfl, rfl⟩) (fun _ z => z) (fun _ z => z.elim) (fun _ _ z => z.elim)
  have R2 : Rp L p0 H' M' (fset ft i fun _ => False) σ (δ.set i .un) := R1.carry s.ext fun j a o fa eo => by
    have hj : j ≠ i := fun z => by subst z; exact fset_same.mp fa
    obtain ⟨h1, h2, _⟩ := other j a o hj ((fset_ne hj).mp fa) eo
    exact ⟨h1, h2⟩
  have hp : b = true → p0 = some u := by
    obtain ⟨u2, eu2, _, hp⟩ := rp_own R e
    have : u2 = u := by
      have z := eu2.symm.trans ev
      cases z
      rfl
    rw [← this]
    exact hp
  have R3 := R2.put (i := i) (s := .own b w') (f := ft' 0) (o := some u) (σ' := σ) (by rw [List.length_set]; exact lt_of_get e) (.inr ⟨rfl, by rw [ev]; rfl⟩) ⟨u, rfl, ow, hp⟩ (fun a fa => (hz 0 a fa).2)
    (fun a j fa hj z => by
      have fj := (fset_ne hj).mp z
      obtain ⟨o, eo⟩ := R.there fj
      exact (other j a o hj fj eo).2.2 0 fa)
  rw [List.set_set] at R3
  refine ⟨_, ⟨s.ext, fun a o hm hf eo => ?_⟩, R3, ?_⟩
  · obtain ⟨e', m', n'⟩ := s.keep a o hm (fun j z => hf i z.2) eo
    refine ⟨e', m', fun j z => ?_⟩
    by_cases hj : j = i
    · subst hj; exact n' 0 (fset_same.mp z)
    · exact hf j ((fset_ne hj).mp ((fset_ne hj).mp z))
  · cases r with
    | dv d => exact k
    | own w2 =>
      obtain ⟨f, ow2, hf⟩ := k
      refine ⟨f, ow2, fun a fa => ?_⟩
      obtain ⟨m, n, fr⟩ := hf a fa
      refine ⟨m, fun j z => ?_, ?_⟩
      · by_cases hj : j = i
        · subst hj; exact n 0 (fset_same.mp z)
        · have fj := (fset_ne hj).mp ((fset_ne hj).mp z)
          obtain ⟨o, eo⟩ := R.there fj
          rcases fr with fr | ⟨l, fr⟩
          · rw [fr] at eo; cases eo
          · exact hj (R.dis j i a fj fr.2)
      · rcases fr with fr | ⟨l, fr⟩
        · exact .inl fr
        · exact .inr ⟨i, fr.2⟩
theorem snd_callB {i : Nat} {F : Fn L} {fa : Ea L} {t : TA} {E : XK} (h : SndA L fa t) : SndE L (eCallB i F fa) (tCall (spD L F) [] E (tCons (tVar i) t)) := fun p0 σ H M ft δ r δ' R e Q q => by
  unfold eCallB at e
  split at e
  · rename_i b0 w0 e0
    split at e
    · rename_i ds δ1 e1
      split at e
      · rename_i b w e2
        split at e
        · rename_i r' w' e3
          cases e
          obtain ⟨v, ev, _⟩ := rp_own R e0
          refine ⟨v, ev, h p0 σ H M ft δ _ _ R e1 _ fun vs H1 M1 ft1 s1 R1 k1 => ?_⟩
          show spD L F ((v :: vs) ++ []) H1 Q E
          rw [List.append_nil]
          refine ⟨M1, _, _, r, some w', rp_lend R1 e2 ev k1, e3, fun v2 H2 M2 ft2 s2 a2 k2 => ?_⟩
          obtain ⟨ft3, s3, R3, k3⟩ := back_lent R1 e2 ev s2 a2 k2
          exact q v2 H2 M2 ft3 (s1.trans s3) R3 (k3.back s1 R1.inM)
        · cases e
      · cases e
    · cases e
  · cases e
theorem de_callB (i : Nat) {y : Str} {py : Pos} {F : Fn L} {fa : Ea L} (G : FnOk X.prog X.w X.K X.mg X.base CX0 k f fd ps (spD L F)) (hr : Room k X.A) (hm : X.mg x = some (.ref f)) (hk : PySem.W.keepIn X.K (.ref f) = true) (hb : Binds X.K fd ps []) (ha : DA L X es fa) (hg : Gl X x := by rfl)
    (hN : X.N[i]? = some y := by rfl) (hv : Vis X.env.scope y := by first | exact Or.inl rfl | exact Or.inr (Or.inl rfl) | exact Or.inr (Or.inr rfl)) (hd : (y == ("__debug__" : Str)) = false := by decide) (hcd : (y == ("__classdict__" : Str)) = false := by decide)
    (hs : starEach (.Name y py :: es) X.env = (false, eval (.Name y py) X.env) :: starEach es X.env := by rfl)
    (hdb : (x == ("__debug__" : Str)) = false := by decide) (hpl : (backTo pos (starEach es X.env)).any (·.1) = false := by rfl) :
    DE L X (.Call (.Name x p) (.Name y py :: es) [] pos) (eCallB i F fa) := by
  obtain ⟨t, pa, sa⟩ := ha
  exact ⟨_, pe_call G hr hg hm hk hb .nil pass0 (pa_cons (pe_var hN hv hd hcd) pa hs) hdb hs hpl, snd_callB sa⟩
/-! ### methods -/
/-- an object's class, and that m is no attribute of its own -/
def InsOb (C : Addr) (m : Str) (o : L.Ob) : Prop := ∀ (G : Hp) (v : V), L.rep G v o → ∃ a dx fs, v = .ref a ∧ G a = some (.ins C dx fs) ∧ fs.lookup m = none
def InsOw (C : Addr) (m : Str) (w : L.Ow) : Prop := ∀ (H G : Hp) (v : V) (f : Addr → Prop), L.orep H G v w f → ∃ a dx fs, v = .ref a ∧ H a = some (.ins C dx fs) ∧ fs.lookup m = none
/-- a method of a value -/
def eMeth (F : Fn L) (f : Ev L) (fa : Ea L) : Ev L := fun δ => match frz f δ with
  | some (.ob o, δ1) => match fa δ1 with
    | some (ds, δ2) => match F (.dv (.ob o) :: ds.map SV.dv) with
      | some (r, _) => some (r, δ2)
      | none => none
    | none => none
  | _ => none
theorem snd_meth {F : Fn L} {f : Ev L} {fa : Ea L} {te : TE} {t : TA} {E : XK} (hC : ∀ o as r, F (.dv (.ob o) :: as) = some r → InsOb C m o) (hf : SndE L f te) (h : SndA L fa t) : SndE L (eMeth F f fa) (tMeth C m (spD L F) [] E te t) := fun p0 σ H M ft δ r δ' R e Q q => by
  unfold eMeth at e
  split at e
  · rename_i o δ1 e1
    split at e
    · rename_i ds δ2 e2
      split at e
      · rename_i r' w' e3
        cases e
        refine hf.frz p0 σ H M ft δ _ _ R e1 _ fun v H1 M1 ft1 s1 R1 k1 => ?_
        obtain ⟨a, dx, fs, ev, ha, hl⟩ := hC o _ _ e3 _ v k1
        refine ⟨a, dx, fs, ev, hid_same _ _ ha, hl, h p0 σ H1 M1 ft1 δ1 _ _ R1 e2 _ fun vs H2 M2 ft2 s2 R2 k2 => ?_⟩
        show spD L F (v :: (vs ++ [])) H2 Q E
        rw [List.append_nil]
        refine ⟨M2, fun _ _ => False, (DV.ob o :: ds).map SV.dv, r, w', rp_args (vs := v :: vs) (ds := .ob o :: ds) (.cons (RepV.mono (x := .ob o) s2.ext k1) k2), e3, fun v3 H3 M3 ft3 s3 _ k3 => ?_⟩
        obtain ⟨s4, R4, k4⟩ := back_of R2 s3 k3
        exact q v3 H3 M3 ft2 ((s1.trans s2).trans s4) R4 (k4.back (s1.trans s2) R2.inM)
      · cases e
    · cases e
  · cases e
/-- a method of what the frame owns -/
def eMethB (i : Nat) (F : Fn L) (fa : Ea L) : Ev L := fun δ => match δ[i]? with
  | some (.own _ (.res _)) => match fa δ with
    | some (ds, δ1) => match δ1[i]? with
      | some (.own b w) => match F (.own true w :: ds.map SV.dv) with
        | some (r, some w') => some (r, δ1.set i (.own b w'))
        | _ => none
      | _ => none
    | none => none
  | _ => none
theorem snd_methB {i : Nat} {F : Fn L} {fa : Ea L} {t : TA} {E : XK} (hC : ∀ u : L.Ow, InsOw C m u) (h : SndA L fa t) : SndE L (eMethB i F fa) (tMeth C m (spD L F) [] E (tVar i) t) := fun p0 σ H M ft δ r δ' R e Q q => by
  unfold eMethB at e
  split at e
  · rename_i b0 w0 e0
    split at e
    · rename_i ds δ1 e1
      split at e
      · rename_i b w e2
        split at e
        · rename_i r' w' e3
          cases e
          obtain ⟨v, ev, ow, _⟩ := rp_own R e0
          obtain ⟨a, dx, fs, ea, ha, hl⟩ := hC w0 _ _ v _ ow
          refine ⟨v, ev, a, dx, fs, ea, ha, hl, h p0 σ H M ft δ _ _ R e1 _ fun vs H1 M1 ft1 s1 R1 k1 => ?_⟩
          show spD L F (v :: (vs ++ [])) H1 Q E
          rw [List.append_nil]
          refine ⟨M1, _, _, r, some w', rp_lend R1 e2 ev k1, e3, fun v2 H2 M2 ft2 s2 a2 k2 => ?_⟩
          obtain ⟨ft3, s3, R3, k3⟩ := back_lent R1 e2 ev s2 a2 k2
          exact q v2 H2 M2 ft3 (s1.trans s3) R3 (k3.back s1 R1.inM)
        · cases e
      · cases e
    · cases e
  · cases e
theorem de_meth {pl : Sem Bool} {F : Fn L} {fo : Ev L} {fa : Ea L} (c : Cls X.K C) (hM : Meth X.K C m f) (G : FnOk X.prog X.w X.K X.mg X.base CX0 k f fd ps (spD L F)) (hr : Room k X.A) (hb : Binds X.K fd ps []) (hC : ∀ o as r, F (.dv (.ob o) :: as) = some r → InsOb (L := L) C m o) (ho : DE L X o fo) (ha : DA L X (e :: es) fa)
    (hst : starEach (e :: es) X.env = (false, eval e X.env) :: starEach es X.env := by rfl) (hpl : (backTo pos (starEach es X.env)).any (·.1) = false := by rfl)
    (ht : eval (.Call (.Attribute o m apos) (e :: es) [] pos) X.env = (do
      let ov ← eval o X.env
      standAt apos.atName
      let (f, first) ← holding [ov] (getMethod ov m pl)
      callWith pos f first (backTo pos (starEach (e :: es) X.env)) (backToKw pos (keywordEach [] X.env))) := by rfl) :
    DE L X (.Call (.Attribute o m apos) (e :: es) [] pos) (eMeth F fo fa) := by
  obtain ⟨to, po, so⟩ := ho
  obtain ⟨t, pa, sa⟩ := ha
  exact ⟨_, pe_meth po c hM G hr hb .nil pass0 pa hst hpl ht, snd_meth hC so sa⟩
theorem de_methB (i : Nat) {y : Str} {py : Pos} {pl : Sem Bool} {F : Fn L} {fa : Ea L} (c : Cls X.K C) (hM : Meth X.K C m f) (G : FnOk X.prog X.w X.K X.mg X.base CX0 k f fd ps (spD L F)) (hr : Room k X.A) (hb : Binds X.K fd ps []) (hC : ∀ u : L.Ow, InsOw (L := L) C m u) (ha : DA L X (e :: es) fa)
    (hN : X.N[i]? = some y := by rfl) (hv : Vis X.env.scope y := by first | exact Or.inl rfl | exact Or.inr (Or.inl rfl) | exact Or.inr (Or.inr rfl)) (hd : (y == ("__debug__" : Str)) = false := by decide) (hcd : (y == ("__classdict__" : Str)) = false := by decide)
    (hst : starEach (e :: es) X.env = (false, eval e X.env) :: starEach es X.env := by rfl) (hpl : (backTo pos (starEach es X.env)).any (·.1) = false := by rfl)
    (ht : eval (.Call (.Attribute (.Name y py) m apos) (e :: es) [] pos) X.env = (do
      let ov ← eval (.Name y py) X.env
      standAt apos.atName
      let (f, first) ← holding [ov] (getMethod ov m pl)
      callWith pos f first (backTo pos (starEach (e :: es) X.env)) (backToKw pos (keywordEach [] X.env))) := by rfl) :
    DE L X (.Call (.Attribute (.Name y py) m apos) (e :: es) [] pos) (eMethB i F fa) := by
  obtain ⟨t, pa, sa⟩ := ha
  exact ⟨_, pe_meth (pe_var hN hv hd hcd) c hM G hr hb .nil pass0 pa hst hpl ht, snd_methB hC sa⟩
end
end DL
set_option Elab.async false
set_option linter.all false
set_option maxRecDepth 100000
set_option maxHeartbeats 1000000
/-! E0: x in o, len(o) by an own method; defs as they stand; unary minus. -/
namespace DL
open PySem PySem.Spec L2
open PyProof.Rows hiding St
variable [CN]
section
variable {X : Cx} {k : Nat} {C f : Addr} {fd : FuncData} {ps : List Str} {sp : Sp}
/-- x in o -/
def rInOwn (C : Addr) (sp : Sp) : R2 := fun x y H Q => ∃ a dx fs, y = .ref a ∧ H a = some (.ins C dx fs) ∧ sp [.ref a, x] H (fun v H' => ∃ b, v = .bl b ∧ Q (.bl b) H') E0
theorem op_in_own (G : FnOk X.prog X.w X.K X.mg X.base CX0 k f fd ps sp) (hr : Room k X.A) (hb : Binds X.K fd ps []) (hs : PySem.W.findIn X.K (.ref C) "__contains__" = some (some (.ref f))) (hf : PySem.W.isFn X.K (.ref f) = true) : OpR X (compareOp .In) (rInOwn C sp) := by
  intro pins s σ H x y v u Q I rx ry h
  obtain ⟨a, dx, fs, ey, ea, h⟩ := h
  subst ey
  obtain rfl : u = Value.ref a := ry
  obtain ⟨mA, O, _⟩ := ins_get I.hok ea
  obtain ⟨od, J, _⟩ := O.look
  obtain ⟨m, F⟩ := I.fr
  refine PySem.W.in_K F I.ok.mod.kin J hs hf ?_
  refine thn (run_fn (us := [.ref a, v]) (vs := [.ref a, x]) (dvs := []) (ds := []) G hr hb .nil (pass0 (X := X)) I (.cons rfl (.cons rx .nil)) h) fun r s' hq => ?_
  obtain ⟨w, H', I', rw', b, eb, q⟩ := hq
  subst eb
  obtain rfl : r = Value.bool b := rw'
  exact wpAny_truthy_bool ⟨.bl b, H', I', rfl, q⟩
/-- len(o) -/
def rLenOwn (C : Addr) (sp : Sp) : List V → Hp → VK → Prop := fun xs H Q => ∃ a dx fs, xs = [.ref a] ∧ H a = some (.ins C dx fs) ∧ sp [.ref a] H (fun v H' => ∃ n : Int, v = .int n ∧ 0 ≤ n ∧ n < 2 ^ 63 ∧ Q (.int n) H') E0
theorem call_len_own (G : FnOk X.prog X.w X.K X.mg X.base CX0 k f fd ps sp) (hr : Room (k + 1) X.A) (hb : Binds X.K fd ps []) (hs : PySem.W.findIn X.K (.ref C) "__len__" = some (some (.ref f))) (hf : PySem.W.isFn X.K (.ref f) = true) : CallR X (.builtin "len") (rLenOwn C sp) := by
  intro pins s σ H xs us Q I r h
  obtain ⟨a, dx, fs, ex, ea, h⟩ := h
  subst ex
  obtain rfl : us = [Value.ref a] := by
    cases r with
    | cons r1 r2 =>
      cases r2
      obtain rfl := r1
      rfl
  obtain ⟨mA, O, _⟩ := ins_get I.hok ea
  obtain ⟨od, J, _⟩ := O.look
  obtain ⟨m, F⟩ := I.fr
  refine PySem.W.len_K F I.ok.mod.kin J hs hf ?_
  have hl : ([Value.ref a] ++ ([] : List Value)).length = ps.length := by
    have e := G.len _ _ _ _ h
    exact e
  refine wpAny_call (codeAny_mono (G.run X.A.in1 X.stack s H ⟨[.ref a], []⟩ [.ref a] [.ref a] _ E0 hr.in1 I.env0.in1 (hb s [.ref a] I.kIn hl) (.cons rfl .nil) h) fun r s' hq => ?_)
  cases r with
  | error e => exact hq.elim
  | ok fl =>
    cases fl with
    | ret u =>
      obtain ⟨v, H', I', rv, n, en, h0, h1, q⟩ := I.after hq
      subst en
      obtain ⟨t, rfl⟩ := rv
      exact ⟨⟨h0, h1⟩, .int n, H', I'.tok _, ⟨_, rfl⟩, q⟩
    | next => exact hq.elim
    | brk => exact hq.elim
    | cont => exact hq.elim
end
variable {L : Lang}
section
variable {P : Program} {w : World} {K : PySem.W.Frag} {mg : Str → Option Value} {base : Heap}
/-- a def of the top as it stands -/
structure DefAt (K : PySem.W.Frag) (mg : Str → Option Value) (x : Str) (st : Stmt) (ps : List Str) : Prop where
  ex : ∃ f fd, Fun K x x st f fd ∧ Binds K fd ps [] ∧ mg x = some (.ref f)
/-- a method of the class at C -/
structure MethAt (K : PySem.W.Frag) (C : Addr) (x qual : Str) (st : Stmt) (ps : List Str) : Prop where
  ex : ∃ f fd, Fun K x qual st f fd ∧ Binds K fd ps [] ∧ Meth K C x f
structure OkD (L : Lang) (P : Program) (w : World) (K : PySem.W.Frag) (mg : Str → Option Value) (base : Heap) (k : Nat) (x : Str) (ps : List Str) (F : Fn L) : Prop where
  ex : ∃ f fd, FnOk P w K mg base CX0 k f fd ps (spD L F) ∧ mg x = some (.ref f) ∧ PySem.W.keepIn K (.ref f) = true ∧ Binds K fd ps []
structure OkM (L : Lang) (P : Program) (w : World) (K : PySem.W.Frag) (mg : Str → Option Value) (base : Heap) (k : Nat) (C : Addr) (x : Str) (ps : List Str) (F : Fn L) : Prop where
  ex : ∃ f fd, FnOk P w K mg base CX0 k f fd ps (spD L F) ∧ Meth K C x f ∧ Binds K fd ps []
theorem OkD.mono {k j : Nat} {x : Str} {ps : List Str} {F : Fn L} (h : OkD L P w K mg base k x ps F) (hj : k ≤ j) : OkD L P w K mg base j x ps F := by
  obtain ⟨f, fd, G, r⟩ := h
  exact ⟨f, fd, G.mono hj, r⟩
theorem OkM.mono {k j : Nat} {C : Addr} {x : Str} {ps : List Str} {F : Fn L} (h : OkM L P w K mg base k C x ps F) (hj : k ≤ j) : OkM L P w K mg base j C x ps F := by
  obtain ⟨f, fd, G, r⟩ := h
  exact ⟨f, fd, G.mono hj, r⟩
theorem ok_defD {x : Str} {st : Stmt} {N ps : List Str} {k : Nat} {b : Es L} (D : DefAt K mg x st ps) (S : FnScope N ps (defScope st))
    (hb : ∀ (f : Addr) (cdv : Value) (A : Around) (outer : List Env) (s : Shared) (H : Hp) (E : XK), Room k (A.deeper (envOfC x (defScope st) s.heap.objs.size f cdv)) → DSs L (cxOf CX0 P w K mg base N x (defScope st) f cdv A outer s H E).nox (defBody st) b) :
    OkD L P w K mg base (k + 1) x ps (fnD ps.length N.length b) := by
  obtain ⟨f, fd, F, hbn, hm⟩ := D
  exact ⟨f, fd, ok_def F S fun cdv A outer s H E hr => hb f cdv A outer s H E hr, hm, F.kp, hbn⟩
theorem ok_defM {C : Addr} {x qual : Str} {st : Stmt} {N ps : List Str} {k : Nat} {b : Es L} (D : MethAt K C x qual st ps) (S : FnScope N ps (defScope st))
    (hb : ∀ (f : Addr) (cdv : Value) (A : Around) (outer : List Env) (s : Shared) (H : Hp) (E : XK), Room k (A.deeper (envOfC qual (defScope st) s.heap.objs.size f cdv)) → DSs L (cxOf CX0 P w K mg base N qual (defScope st) f cdv A outer s H E).nox (defBody st) b) :
    OkM L P w K mg base (k + 1) C x ps (fnD ps.length N.length b) := by
  obtain ⟨f, fd, F, hbn, hm⟩ := D
  exact ⟨f, fd, ok_def F S fun cdv A outer s H E hr => hb f cdv A outer s H E hr, hm, hbn⟩
/-- nothing is promised -/
theorem ok_noneD {x : Str} {st : Stmt} {ps : List Str} {k : Nat} (D : DefAt K mg x st ps) : OkD L P w K mg base k x ps (fun _ => none) := by
  obtain ⟨f, fd, F, hbn, hm⟩ := D
  refine ⟨f, fd, ⟨fun vs H Q E h => ?_, fun A outer s H args us vs Q E hr he hb hv h => ?_⟩, hm, F.kp, hbn⟩
  · obtain ⟨M, ft, as, r, w, R, e, _⟩ := h
    cases e
  · obtain ⟨M, ft, as, r, w, R, e, _⟩ := h
    cases e
end
section
variable {X : Cx} {e o : Expr} {es : List Expr} {pos p apos : Pos} {x m : Str} {k : Nat} {C : Addr} {ps : List Str}
theorem de_callD {F : Fn L} {fa : Ea L} (G : OkD L X.prog X.w X.K X.mg X.base k x ps F) (hr : Room k X.A) (ha : DA L X (e :: es) fa) (hg : Gl X x := by rfl)
    (hdb : (x == ("__debug__" : Str)) = false := by decide) (he : starEach (e :: es) X.env = (false, eval e X.env) :: starEach es X.env := by rfl) (hpl : (backTo pos (starEach es X.env)).any (·.1) = false := by rfl) :
    DE L X (.Call (.Name x p) (e :: es) [] pos) (eCall F fa) := by
  obtain ⟨f, fd, G, hm, hk, hb⟩ := G
  exact de_call G hr hm hk hb ha hg hdb he hpl
theorem de_callD0 {F : Fn L} (G : OkD L X.prog X.w X.K X.mg X.base k x ps F) (hr : Room k X.A) (hg : Gl X x := by rfl)
    (hdb : (x == ("__debug__" : Str)) = false := by decide) : DE L X (.Call (.Name x p) [] [] pos) (eCall F aNil) := by
  obtain ⟨f, fd, G, hm, hk, hb⟩ := G
  exact de_call0 G hr hm hk hb hg hdb
theorem de_callBD (i : Nat) {y : Str} {py : Pos} {F : Fn L} {fa : Ea L} (G : OkD L X.prog X.w X.K X.mg X.base k x ps F) (hr : Room k X.A) (ha : DA L X es fa) (hg : Gl X x := by rfl)
    (hN : X.N[i]? = some y := by rfl) (hv : Vis X.env.scope y := by first | exact Or.inl rfl | exact Or.inr (Or.inl rfl) | exact Or.inr (Or.inr rfl)) (hd : (y == ("__debug__" : Str)) = false := by decide) (hcd : (y == ("__classdict__" : Str)) = false := by decide)
    (hs : starEach (.Name y py :: es) X.env = (false, eval (.Name y py) X.env) :: starEach es X.env := by rfl)
    (hdb : (x == ("__debug__" : Str)) = false := by decide) (hpl : (backTo pos (starEach es X.env)).any (·.1) = false := by rfl) :
    DE L X (.Call (.Name x p) (.Name y py :: es) [] pos) (eCallB i F fa) := by
  obtain ⟨f, fd, G, hm, hk, hb⟩ := G
  exact de_callB i G hr hm hk hb ha hg hN hv hd hcd hs hdb hpl
/-- -n -/
def eNeg (f : Ev L) : Ev L := fun δ => match f δ with
  | some (.dv (.d (.int i)), δ') => some (.dv (.d (.int (-i))), δ')
  | _ => none
theorem de_neg {f : Ev L} (h : DE L X e f) : DE L X (.UnaryOp .USub e pos) (eNeg f) := by
  obtain ⟨t, p, s⟩ := h
  refine ⟨_, pe_un un_neg p, fun p0 σ H M ft δ r δ' R e Q q => ?_⟩
  unfold eNeg at e
  split at e
  · rename_i i δ1 e1
    cases e
    refine s p0 σ H M ft δ _ _ R e1 _ fun v H1 M1 ft1 s1 R1 k1 => ?_
    have k2 : Dk (hid H1 M1) v (.int i) := k1
    cases k2
    exact ⟨i, rfl, q _ H1 M1 ft1 s1 R1 (.int _)⟩
  · cases e
end
end DL
set_option Elab.async false
set_option linter.all false
set_option maxRecDepth 100000
set_option maxHeartbeats 1000000
/-! E1: in, not in for lists and tuples of data; a list unpacked. -/
namespace DL
open PySem PySem.Spec L2
open PyProof.Rows hiding St
variable [CN]
variable {L : Lang}
/-- the items of a list or a tuple -/
def itemsD : PD → Option (List PD)
  | .list ds => some ds
  | .tuple ds => some ds
  | _ => none
def rInX (K : PySem.W.Frag) (neg : Bool) : R2 := fun x y H Q => ∃ d e ds, Dp K H x d ∧ Dp K H y e ∧ itemsD e = some ds ∧ SeqAt.shaped d = true ∧ SeqAt.shaped e = true ∧ Q (.bl (if neg then !(ds.any fun z => PyData.eqv z d) else ds.any fun z => PyData.eqv z d)) H
section
variable {X : Cx}
theorem hu65 {k : Nat} {A : Around} (r : Room k A) : A.units + 65 < cLine := by have := r.un; omega
theorem op_inX (hu : X.A.units + 65 < cLine) : OpR X (compareOp .In) (rInX X.K false) := by
  intro pins s σ H x y v u Q I rx ry h
  obtain ⟨d, e, ds, hd, he, hi, sd, se, q⟩ := h
  obtain ⟨as, r1⟩ := Dp.reads I d x v hd rx
  obtain ⟨bs, r2⟩ := Dp.reads I e y u he ry
  have du := SeqAt.depth_of_shaped sd
  cases e with
  | list xs =>
    cases hi
    exact SeqAt.in_list_reads r2 r1 (SeqAt.canLay_of_shaped se) (SeqAt.canLay_of_shaped sd) (by have := Nat.min_le_right (PyData.depthAll ds) d.depth; omega) ⟨.bl _, H, I, rfl, q⟩
  | tuple xs =>
    cases hi
    exact SeqAt.in_tuple_reads r2 r1 (SeqAt.canLay_of_shaped se) (SeqAt.canLay_of_shaped sd) (by have := Nat.min_le_right (PyData.depthAll ds) d.depth; omega) ⟨.bl _, H, I, rfl, q⟩
  | none => cases hi
  | bool _ => cases hi
  | int _ => cases hi
  | str _ => cases hi
  | dict _ => cases hi
theorem op_notInX (hu : X.A.units + 65 < cLine) : OpR X (compareOp .NotIn) (rInX X.K true) := by
  intro pins s σ H x y v u Q I rx ry h
  obtain ⟨d, e, ds, hd, he, hi, sd, se, q⟩ := h
  obtain ⟨as, r1⟩ := Dp.reads I d x v hd rx
  obtain ⟨bs, r2⟩ := Dp.reads I e y u he ry
  have du := SeqAt.depth_of_shaped sd
  cases e with
  | list xs =>
    cases hi
    exact SeqAt.notIn_list_reads r2 r1 (SeqAt.canLay_of_shaped se) (SeqAt.canLay_of_shaped sd) (by have := Nat.min_le_right (PyData.depthAll ds) d.depth; omega) ⟨.bl _, H, I, rfl, q⟩
  | tuple xs =>
    cases hi
    exact SeqAt.notIn_tuple_reads r2 r1 (SeqAt.canLay_of_shaped se) (SeqAt.canLay_of_shaped sd) (by have := Nat.min_le_right (PyData.depthAll ds) d.depth; omega) ⟨.bl _, H, I, rfl, q⟩
  | none => cases hi
  | bool _ => cases hi
  | int _ => cases hi
  | str _ => cases hi
  | dict _ => cases hi
end
def gInX : PD → PD → Option PD := fun x y => match itemsD y with
  | some ds => if SeqAt.shaped x = true ∧ SeqAt.shaped y = true then some (.bool (ds.any fun z => PyData.eqv z x)) else none
  | none => none
def gNotInX : PD → PD → Option PD := fun x y => match itemsD y with
  | some ds => if SeqAt.shaped x = true ∧ SeqAt.shaped y = true then some (.bool (!(ds.any fun z => PyData.eqv z x))) else none
  | none => none
theorem p_inX {K : PySem.W.Frag} : PureR (rInX K false) gInX := fun H G v w x y z sm k1 k2 e Q q => by
  unfold gInX at e
  split at e
  · rename_i ds ei
    by_cases h : SeqAt.shaped x = true ∧ SeqAt.shaped y = true
    · rw [if_pos h] at e
      cases e
      exact ⟨x, y, ds, (k1.mono sm).dp (SeqAt.canLay_of_shaped h.1), (k2.mono sm).dp (SeqAt.canLay_of_shaped h.2), ei, h.1, h.2, q _ (.bl _)⟩
    · rw [if_neg h] at e; cases e
  · cases e
theorem p_notInX {K : PySem.W.Frag} : PureR (rInX K true) gNotInX := fun H G v w x y z sm k1 k2 e Q q => by
  unfold gNotInX at e
  split at e
  · rename_i ds ei
    by_cases h : SeqAt.shaped x = true ∧ SeqAt.shaped y = true
    · rw [if_pos h] at e
      cases e
      exact ⟨x, y, ds, (k1.mono sm).dp (SeqAt.canLay_of_shaped h.1), (k2.mono sm).dp (SeqAt.canLay_of_shaped h.2), ei, h.1, h.2, q _ (.bl _)⟩
    · rw [if_neg h] at e; cases e
  · cases e
section
variable {X : Cx} {a : Expr} {pos : Pos} {L : Lang}
theorem de_notV {f : Ev L} (h : DE L X a f) : DE L X (.UnaryOp .Not a pos) (ofT (tstNot (tst f))) := by
  obtain ⟨t, p, s⟩ := h
  refine ⟨_, pe_not p, fun p0 σ H M ft δ r δ' R e Q q => ?_⟩
  unfold ofT at e
  split at e
  · rename_i b δ1 e1
    cases e
    unfold tstNot at e1
    split at e1
    · rename_i c δ2 e2
      cases e1
      have z := snd_tst s p0 σ H M ft δ _ _ R e2
      exact z (fun k H' => Q (.bl (!k)) H') fun H1 M1 ft1 s1 R1 => q _ H1 M1 ft1 s1 R1 (.bl _)
    · cases e1
  · cases e
end
end DL
set_option Elab.async false
set_option linter.all false
set_option maxRecDepth 100000
set_option maxHeartbeats 1000000
/-! S1: the table of a set of tuples of ints and texts: a search, one more, a larger table. -/
namespace DL.TK
open PySem PySem.Spec L2
open PyProof.Rows hiding St
abbrev Kt := List Key
abbrev En := Addr × Kt
section
variable (P : Program) (w : World)
abbrev hsh (k : Kt) : Int := tupleKeyHash (mixKind P w) k
abbrev Isk (h : Heap) (k : Kt) (a : Addr) : Prop := IsTupleKey (mixKind P w) h k a
def row (p : En) : Int × Value := (hsh P w p.2, .ref p.1)
/-- the set at S holds L, its table found from the hashes -/
structure Stb (h : Heap) (S : Addr) (L : List En) (es : Array (Int × Value)) (ep : Nat) (t : SetTable) : Prop where
  at_ : ∃ o, h.get? S = some o ∧ o.ExactSet ∧ o.data = .set es ep t
  rows : es.toList = L.map (row P w)
  tab : TabOk t ((L.map (·.2)).map (hsh P w))
  uniq : (L.map (·.2)).Nodup
  keys : ∀ p ∈ L, Isk P w h p.2 p.1
  ld : w.params.followText "set-order" = true ∨ t.led = true
  room : L.length * 5 < t.mask * 3
  few : L.length < 64
end
variable {P : Program} {w : World} {A : Around} {E : Value → Shared → Prop} {s : Shared}
/-! ### what is asked of an item, of a tuple -/
theorem key_free {k : Key} {v : Value} (n : Nat) (h : keyIs k v = true) : ofAClassStatement n v = pure false ∧ ∃ b, hashByValue n v = pure b := by
  rcases keyIs_shape h with ⟨i, t, _, e⟩ | ⟨x, t, _, e⟩
  · subst e
    exact ⟨by cases n <;> rfl, true, by cases n <;> rfl⟩
  · subst e
    exact ⟨by cases n <;> rfl, false, by cases n <;> rfl⟩
theorem items_keys {k : Kt} {vs : List Value} (h : ItemsAre (mixKind P w) k vs) : ∀ v ∈ vs, ∃ j, keyIs j v = true := by
  induction h with
  | nil => exact fun v hv => absurd hv (by simp)
  | @cons k0 v0 ks us h0 _ ih =>
    intro v hv
    cases hv with
    | head => exact ⟨k0, h0⟩
    | tail _ hv => exact ih v hv
theorem tup_noclass {k : Kt} {b : Addr} {Q : Bool → Shared → Prop} (x : Isk P w s.heap k b) (q : Q false s) : wpAny (model P w) A (ofAClassStatement 8 (.ref b)) Q E s := by
  have ty := x.typeIs
  obtain ⟨o, its, m, eo, _, ed, hi⟩ := x
  unfold ofAClassStatement
  refine wpAny_bind (wpAny_typeOf ty ?_)
  dsimp only
  have e : (("tuple" : String) == "tuple") = true := by decide
  simp only [e, if_true, Bool.not_true, Bool.false_eq_true, if_false]
  try refine wpAny_bind (wpAny_pure ?_)
  try simp only [Bool.not_true, Bool.false_eq_true, if_false]
  show wpAny _ _ (seqItems? (.ref b) >>= _) _ _ s
  refine wpAny_bind (wpAny_seqItems eo ed ?_)
  dsimp only
  refine wpAny_bind ?_
  show wpAny _ _ (forIn its _ _) _ _ s
  rw [← Array.forIn_toList]
  refine wpAny_forIn_list _ (fun left acc z => (∀ v ∈ left, ∃ j, keyIs j v = true) ∧ acc.1 = none ∧ z = s) _ ?_ ?_ _ _ ⟨items_keys hi, rfl, rfl⟩
  · intro v left acc z hz
    obtain ⟨hl, ha, ez⟩ := hz
    subst ez
    obtain ⟨j, hj⟩ := hl v List.mem_cons_self
    rw [(key_free _ hj).1]
    refine wpAny_bind (wpAny_pure ?_)
    simp only [Bool.false_eq_true, if_false]
    exact wpAny_pure ⟨fun u hu => hl u (List.mem_cons_of_mem _ hu), rfl, rfl⟩
  · intro acc z hz
    obtain ⟨a1, a2⟩ := acc
    obtain ⟨_, ha, ez⟩ := hz
    subst ez
    simp only at ha
    subst ha
    exact wpAny_pure q
theorem tup_byvalue {k : Kt} {b : Addr} {Q : Bool → Shared → Prop} (x : Isk P w s.heap k b) (q : ∀ r, Q r s) : wpAny (model P w) A (hashByValue 8 (.ref b)) Q E s := by
  have ty := x.typeIs
  obtain ⟨o, its, m, eo, _, ed, hi⟩ := x
  unfold hashByValue
  refine wpAny_bind (wpAny_specialOf ty F.slot_tuple_hash.lookup ?_)
  show wpAny _ _ (seqItems? (.ref b) >>= _) _ _ s
  refine wpAny_bind (wpAny_seqItems eo ed ?_)
  refine wpAny_bind ?_
  show wpAny _ _ (forIn its _ _) _ _ s
  rw [← Array.forIn_toList]
  refine wpAny_forIn_list _ (fun left acc z => (∀ v ∈ left, ∃ j, keyIs j v = true) ∧ z = s) _ ?_ ?_ _ _ ⟨items_keys hi, rfl⟩
  · intro v left acc z hz
    obtain ⟨hl, ez⟩ := hz
    subst ez
    obtain ⟨j, hj⟩ := hl v List.mem_cons_self
    obtain ⟨_, r, er⟩ := key_free 7 hj
    rw [er]
    refine wpAny_bind (wpAny_pure ?_)
    cases r with
    | true =>
      simp only [Bool.not_true, Bool.false_eq_true, if_false]
      exact wpAny_pure ⟨fun u hu => hl u (List.mem_cons_of_mem _ hu), rfl⟩
    | false =>
      simp only [Bool.not_false, if_true]
      refine wpAny_pure ?_
      first
        | exact wpAny_pure (q false)
        | exact ⟨fun u hu => hl u (List.mem_cons_of_mem _ hu), rfl⟩
  · intro acc z hz
    obtain ⟨a1, a2⟩ := acc
    obtain ⟨_, ez⟩ := hz
    subst ez
    cases a1 with
    | none => exact wpAny_pure (q _)
    | some r => exact wpAny_pure (q _)
/-- nobody sees a search among such tuples -/
theorem unseen {k : Kt} {b : Addr} {Q : Bool → Shared → Prop} (x : Isk P w s.heap k b) {us : List Value} (hu : ∀ u ∈ us, ∃ j c, u = Value.ref c ∧ Isk P w s.heap j c) (q : Q false s) :
    wpAny (model P w) A (searchCouldBeSeen (.ref b) us) Q E s := by
  unfold searchCouldBeSeen
  refine wpAny_bind ?_
  refine wpAny_forIn_list _ (fun left acc z => (∀ u ∈ left, ∃ j c, u = Value.ref c ∧ Isk P w s.heap j c) ∧ acc.1 = none ∧ z = s) _ ?_ ?_ _ _ ⟨hu, rfl, rfl⟩
  · intro v left acc z hz
    obtain ⟨hl, ha, ez⟩ := hz
    subst ez
    obtain ⟨j, c, ev, hc⟩ := hl v List.mem_cons_self
    subst ev
    have hl' := fun u hu => hl u (List.mem_cons_of_mem _ hu)
    dsimp only
    by_cases hv : (b == c || (carriedByValue (.ref b) && carriedByValue (.ref c))) = true
    · exact wp_if_pos hv (wpAny_pure ⟨hl', rfl, rfl⟩)
    · refine wp_if_neg hv (wpAny_bind (wpAny_eqIsQuiet_tuple x ?_))
      simp only [Bool.not_true, Bool.false_eq_true, if_false]
      refine wpAny_bind (wpAny_eqIsQuiet_tuple hc ?_)
      simp only [Bool.not_true, Bool.false_eq_true, if_false]
      refine wpAny_bind (tup_noclass x ?_)
      simp only [Bool.false_eq_true, if_false]
      refine wpAny_bind (tup_noclass hc ?_)
      simp only [Bool.false_eq_true, if_false]
      exact wpAny_pure ⟨hl', rfl, rfl⟩
  · intro acc z hz
    obtain ⟨a1, a2⟩ := acc
    obtain ⟨_, ha, ez⟩ := hz
    subst ez
    simp only at ha
    subst ha
    exact wpAny_pure q
/-! ### the search -/
section
variable {S : Addr} {L : List En} {es : Array (Int × Value)} {ep : Nat} {t : SetTable}
theorem Stb.sz (R : Stb P w s.heap S L es ep t) : es.size = L.length := by
  rw [← Array.length_toList, R.rows, List.length_map]
theorem Stb.placed (R : Stb P w s.heap S L es ep t) : t.place.toList.length = L.length := by
  have e := R.tab.sz
  rw [List.length_map, List.length_map] at e
  exact e
theorem fits_of {es : Array (Int × Value)} {t : SetTable} (h1 : t.place.size = es.size) (h2 : t.dummies = #[]) (h3 : es.size ≤ t.mask) : t.fits es.size = true := by
  unfold SetTable.fits SetTable.fill
  rw [h2, Bool.and_eq_true, beq_iff_eq, decide_eq_true_eq]
  exact ⟨h1, by show t.place.size + 0 ≤ t.mask; omega⟩
theorem Stb.fits (R : Stb P w s.heap S L es ep t) : t.fits es.size = true := by
  have h1 := R.placed
  rw [Array.length_toList] at h1
  have h2 := R.sz
  have h3 := R.room
  exact fits_of (by omega) R.tab.dm (by omega)
theorem Stb.ent (R : Stb P w s.heap S L es ep t) (i : Nat) : es[i]? = (L[i]?).map (row P w) := by
  rw [← Array.getElem?_toList, R.rows, List.getElem?_map]
/-- from the c-th place of the way on -/
abbrev wy (P : Program) (w : World) (t : SetTable) (k : Kt) (c : Nat) : SetTable.Probe := nth t.mask (runAt t.mask (SetTable.bits (hsh P w k) % (t.mask + 1)) (SetTable.bits (hsh P w k))) c
theorem wy_dummy (t : SetTable) (k : Kt) (c : Nat) : (wy P w t k c).dummy = none := by
  have adv0 : ∀ p : SetTable.Probe, p.dummy = none → (adv t.mask p).dummy = none := fun p hp => by
    unfold adv
    split <;> exact hp
  induction c with
  | zero => rfl
  | succ c ih => rw [show wy P w t k (c + 1) = adv t.mask (wy P w t k c) from nth_succ ..]; exact adv0 _ ih
theorem walk_on (R : Stb P w s.heap S L es ep t) {x : Addr} {k : Kt} (hx : Isk P w s.heap k x) (hu : A.units < cLine) {e : Nat} (he : e < 10 * SetTable.turns t.mask) (hend : (wy P w t k e).j ∉ t.place.toList) (hfull : ∀ c, c < e → (wy P w t k c).j ∈ t.place.toList)
    {Q : SetFound → Shared → Prop} (q1 : k ∈ L.map (·.2) → Q (.there none) s) (q2 : k ∉ L.map (·.2) → Q (.free (wy P w t k e).j false) s) (n : Nat) :
    ∀ (c : Nat) (st : Option SetTable.Probe), st.getD (t.probeStart (hsh P w k)) = wy P w t k c → c ≤ e → e - c < n → (∀ (i : Nat) (p : En), L[i]? = some p → p.2 = k → ∃ d, c ≤ d ∧ d < e ∧ t.place.toList[i]? = some (wy P w t k d).j) →
      wpAny (model P w) A (setSearchFrom S (.ref x) (hsh P w k) true n st) Q E s := by
  induction n with
  | zero => exact fun c st _ _ hn _ => absurd hn (Nat.not_lt_zero _)
  | succ n ih =>
    intro c st hst hc hn hah
    obtain ⟨o, eo, hex, ed⟩ := R.at_
    rw [setSearchFrom_succ]
    refine wpAny_bind (wpAny_setState_of eo ed R.fits ?_)
    dsimp only
    refine wp_if_neg (by unfold SetTable.gaveWay; rw [mask_odd R.tab.mok]; decide) ?_
    try refine wpAny_bind (wpAny_pure ?_)
    have sh : ∀ d, nth t.mask (wy P w t k c) d = wy P w t k (c + d) := fun d => (nth_add t.mask c _ d).symm
    have hat : ∀ (i : Nat) (p : En), L[i]? = some p → (es[i]?.map (·.1)).getD 0 = hsh P w p.2 := fun i p ep => by
      rw [R.ent, ep]
      rfl
    have spec := go_spec t R.tab.ris R.tab.dm (fun i => (es[i]?.map (·.1)).getD 0) (hsh P w k) (10 * SetTable.turns t.mask) (e - c) (wy P w t k c) (wy_dummy t k c) (by omega)
      (fun d hd => by rw [sh]; exact hfull _ (by omega)) (by rw [sh, show c + (e - c) = e by omega]; exact hend)
    rcases spec with ⟨d, i, hd, hi, hh, hno, hpr⟩ | ⟨hno, hpr⟩
    · rw [sh] at hi hpr
      rw [sh] at hpr
      have hpr2 : t.probe (fun i => (es[i]?.map (·.1)).getD 0) (hsh P w k) (st.getD (t.probeStart (hsh P w k))) = some (.candidate (wy P w t k (c + d)).j i (wy P w t k (c + (d + 1)))) := by rw [hst]; exact hpr
      rw [hpr2]
      dsimp only
      have hil : i < L.length := by
        have z := (List.getElem?_eq_some_iff.mp hi).1
        rw [R.placed] at z
        exact z
      obtain ⟨p, hp⟩ : ∃ p, L[i]? = some p := ⟨_, List.getElem?_eq_getElem hil⟩
      have pk := R.keys p (List.mem_of_getElem? hp)
      have hsl : t.slot (wy P w t k (c + d)).j = .live i := slot_live R.tab.ris hi
      have cand : wpAny (model P w) A (searchRest S (.ref x) (hsh P w k) true n es t (wy P w t k (c + d)).j i (wy P w t k (c + (d + 1)))) Q E s := by
        unfold searchRest
        rw [R.ent, hp]
        show wpAny _ _ (holding [Value.ref p.1] (eqBool (.ref p.1) (.ref x)) >>= _) _ _ _
        refine wpAny_bind (wpAny_holding (wpAny_eqBool_tuple hu pk hx (wpAny_bind (wpAny_setState_of eo ed R.fits ?_))))
        dsimp only
        by_cases ek : p.2 = k
        · exact wp_if_pos (by simp [ek]) (wpAny_pure (q1 (List.mem_map.mpr ⟨p, List.mem_of_getElem? hp, ek⟩)))
        · refine wp_if_neg (by simp [ek]) ?_
          try refine wpAny_bind (wpAny_pure ?_)
          rw [sameMem]
          dsimp only
          simp only [if_true, hsl, R.ent, hp, Option.map_some]
          show wpAny _ _ (isSame (.ref p.1) (.ref p.1) >>= _) _ _ _
          refine wpAny_bind (wpAny_isSame_ref_self (wpAny_bind (wpAny_pure ?_)))
          simp only [if_true]
          refine wp_if_neg (by simp [ek]) ?_
          refine ih (c + (d + 1)) _ rfl (by omega) (by omega) fun i0 p0 h0 k0 => ?_
          obtain ⟨d', z1, z2, z3⟩ := hah i0 p0 h0 k0
          refine ⟨d', Nat.le_of_not_lt fun lt => ?_, z2, z3⟩
          rcases Nat.lt_or_ge d' (c + d) with z | z
          · refine hno (d' - c) i0 (by omega) ?_ ((hat i0 p0 h0).trans (congrArg (hsh P w) k0))
            rw [sh, show c + (d' - c) = d' by omega]
            exact z3
          · have ed' : d' = c + d := by omega
            rw [ed'] at z3
            have s0 := slot_live R.tab.ris z3
            rw [hsl] at s0
            injection s0 with s0
            rw [← s0, hp] at h0
            cases h0
            exact ek k0
      by_cases hl : t.led = true
      · refine wp_if_neg (by simp [hl]) ?_
        try refine wpAny_bind (wpAny_pure ?_)
        exact cand
      · refine wp_if_pos (by simp [hl]) (wpAny_bind (unseen hx (fun u hu' => ?_) ?_))
        · obtain ⟨z, hz, ez⟩ := List.mem_map.mp hu'
          have hz1 : z ∈ es ∧ z.1 = hsh P w k := by simpa using hz
          have hz2 : z ∈ es.toList := by simpa using hz1.1
          rw [R.rows] at hz2
          obtain ⟨p2, m2, e2⟩ := List.mem_map.mp hz2
          exact ⟨p2.2, p2.1, by rw [← ez, ← e2]; rfl, R.keys p2 m2⟩
        · refine wp_if_neg (by decide) ?_
          try refine wpAny_bind (wpAny_pure ?_)
          exact cand
    · rw [sh, show c + (e - c) = e by omega] at hpr
      have hpr2 : t.probe (fun i => (es[i]?.map (·.1)).getD 0) (hsh P w k) (st.getD (t.probeStart (hsh P w k))) = some (.empty (wy P w t k e).j none) := by rw [hst]; exact hpr
      rw [hpr2]
      dsimp only
      refine wpAny_pure (q2 fun hm => ?_)
      obtain ⟨p, mp, ek⟩ := List.mem_map.mp hm
      obtain ⟨i, hi, ei⟩ := List.getElem_of_mem mp
      have hp : L[i]? = some p := by rw [List.getElem?_eq_getElem hi, ei]
      obtain ⟨d, z1, z2, z3⟩ := hah i p hp ek
      refine hno (d - c) i (by omega) ?_ ((hat i p hp).trans (congrArg (hsh P w) ek))
      rw [sh, show c + (d - c) = d by omega]
      exact z3
theorem seek (R : Stb P w s.heap S L es ep t) {x : Addr} {k : Kt} (hx : Isk P w s.heap k x) (hu : A.units < cLine) {Q : SetFound → Shared → Prop} (q1 : k ∈ L.map (·.2) → Q (.there none) s)
    (q2 : ∀ e, k ∉ L.map (·.2) → (wy P w t k e).j ∉ t.place.toList → (∀ c, c < e → (wy P w t k c).j ∈ t.place.toList) → Q (.free (wy P w t k e).j false) s) : wpAny (model P w) A (setSearch S (.ref x) (hsh P w k) true) Q E s := by
  have rm := R.room
  obtain ⟨e, h1, h2, h3⟩ := R.tab.first (by rw [List.length_map, List.length_map]; omega) (hsh P w k)
  have hb : 10 * SetTable.turns t.mask ≤ 1420 := by
    unfold SetTable.turns
    rcases R.tab.mok with z | z | z <;> omega
  unfold setSearch
  refine walk_on R hx hu h1 h2 h3 q1 (fun hn => q2 e hn h2 h3) 100000 0 none rfl (Nat.zero_le _) (by omega) fun i p hp ek => ?_
  have hi : ((L.map (·.2)).map (hsh P w))[i]? = some (hsh P w k) := by rw [List.getElem?_map, List.getElem?_map, hp, ← ek]; rfl
  have hil : i < t.place.toList.length := by
    rw [R.placed]
    exact (List.getElem?_eq_some_iff.mp hp).1
  have hj := List.getElem?_eq_getElem hil
  obtain ⟨d, hd, ed⟩ := R.tab.before h2 hi hj
  exact ⟨d, Nat.zero_le _, hd, by rw [hj]; exact congrArg some ed.symm⟩
end
/-! ### the rows in another order -/
theorem range_get {α : Type} : ∀ L : List α, (List.range L.length).filterMap (fun i => L[i]?) = L
  | [] => rfl
  | x :: L => by
    have h : (List.map Nat.succ (List.range L.length)).filterMap (fun i => (x :: L)[i]?) = (List.range L.length).filterMap (fun i => L[i]?) := by
      rw [List.filterMap_map]
      exact congrArg (fun f => List.filterMap f (List.range L.length)) (funext fun i => by simp)
    rw [List.length_cons, List.range_succ_eq_map, List.filterMap_cons_some (b := x) (by simp), h, range_get L]
theorem rows_ord {L : List En} {es : Array (Int × Value)} {ord : Array Nat} (hr : es.toList = L.map (row P w)) (hp : ord.toList.Perm (List.range L.length)) :
    ∃ L2 : List En, (ord.filterMap (es[·]?)).toList = L2.map (row P w) ∧ L2.Perm L ∧ (L2.map (·.2)).map (hsh P w) = ord.toList.map fun i => (es.map (·.1)).getD i 0 := by
  have en : ∀ i, es[i]? = (L[i]?).map (row P w) := fun i => by rw [← Array.getElem?_toList, hr, List.getElem?_map]
  refine ⟨ord.toList.filterMap (fun i => L[i]?), ?_, ?_, ?_⟩
  · rw [Array.toList_filterMap, List.map_filterMap]
    exact congrArg (fun f => List.filterMap f ord.toList) (funext en)
  · exact (hp.filterMap _).trans (by rw [range_get])
  · have key : ∀ l : List Nat, (∀ i ∈ l, i < L.length) → ((l.filterMap (fun i => L[i]?)).map (·.2)).map (hsh P w) = l.map fun i => (es.map (·.1)).getD i 0 := by
      intro l
      induction l with
      | nil => exact fun _ => rfl
      | cons i l ih =>
        intro hl
        have hi := hl i List.mem_cons_self
        have e1 : (es.map (·.1)).getD i 0 = hsh P w (L[i]).2 := by
          have e2 : (es.map (·.1))[i]? = some (hsh P w (L[i]).2) := by
            rw [Array.getElem?_map, en, List.getElem?_eq_getElem hi]
            rfl
          rw [Array.getD_eq_getD_getElem?, e2]
          rfl
        rw [List.filterMap_cons_some (List.getElem?_eq_getElem hi), List.map_cons, List.map_cons, List.map_cons, ih (fun j hj => hl j (List.mem_cons_of_mem _ hj)), e1]
    exact key _ fun i hi => List.mem_range.mp (hp.mem_iff.mp hi)
theorem isk_but {h h' : Heap} {k : Kt} {a S : Addr} {o : Obj} {es : Array (Int × Value)} {ep : Nat} {t : SetTable} (x : Isk P w h k a) (ho : h.get? S = some o) (hd : o.data = .set es ep t) (sb : Heap.SameBut S h h') : Isk P w h' k a := by
  obtain ⟨u, its, n, eu, r⟩ := x
  have ne : a ≠ S := fun z => by
    rw [z, ho] at eu
    cases eu
    rw [hd] at r
    cases r.2.1
  exact ⟨u, its, n, (sb.2 a ne).trans eu, r⟩
theorem isk_up {h h' : Heap} {k : Kt} {a : Addr} (x : Isk P w h k a) (hk : ∀ b u, h.get? b = some u → h'.get? b = some u) : Isk P w h' k a := by
  obtain ⟨u, its, n, eu, r⟩ := x
  exact ⟨u, its, n, hk a u eu, r⟩
/-! ### a larger table -/
section
variable {S : Addr} {L : List En} {es : Array (Int × Value)} {ep : Nat} {t : SetTable}
theorem enlarge {o : Obj} (ho : s.heap.get? S = some o) (hex : o.ExactSet) (hd : o.data = .set es ep t) (hr : es.toList = L.map (row P w)) (h1 : t.place.size = es.size) (h2 : t.dummies = #[]) (h3 : es.size ≤ t.mask) (nd : (L.map (·.2)).Nodup)
    (hk : ∀ p ∈ L, Isk P w s.heap p.2 p.1) (ld : w.params.followText "set-order" = true ∨ t.led = true) (few : L.length < 64) {want M : Nat} (hw : SetTable.sizeAbove want - 1 = M) (hM : MaskOk M) (hw2 : SetTable.sizeAbove want ≤ 128) (hn : L.length * 5 < M * 3)
    {Q : Unit → Shared → Prop} (hQ : ∀ h' L' es' ep' t', Heap.SameBut S s.heap h' → Stb P w h' S L' es' ep' t' → L'.Perm L → Q () { s with heap := h' }) : wpAny (model P w) A (setRelay S want) Q E s := by
  have sz : es.size = L.length := by rw [← Array.length_toList, hr, List.length_map]
  obtain ⟨t2, ord, e, pm, T, em, el, _, _⟩ := relaid_ok t (hs := es.map (·.1)) (wanted := want) hw hM (by rw [Array.size_map, sz]; omega)
  rw [Array.size_map, sz] at pm
  obtain ⟨L2, r1, r2, r3⟩ := rows_ord hr pm
  rw [← r3] at T
  have sz2 : (ord.filterMap (es[·]?)).size = es.size := by rw [← Array.length_toList, r1, List.length_map, r2.length_eq, sz]
  rw [setRelay_eq]
  refine wpAny_bind (wpAny_setState_of ho hd (fits_of h1 h2 h3) ?_)
  dsimp only
  refine wp_if_neg (by rw [sizeLine_eq]; omega) ?_
  try refine wpAny_bind (wpAny_pure ?_)
  rw [e]
  dsimp only
  refine wpAny_bind (wp_if_neg (by rw [sz2]; simp) ?_)
  try refine wpAny_bind (wpAny_pure ?_)
  refine wpAny_pure ?_
  dsimp only
  refine wpAny_storeSet_of ho hd ?_ (by rw [sz2, sz, sizeLine_eq]; omega)
  have sb : Heap.SameBut S s.heap (s.heap.update S (Obj.putSet (ord.filterMap (es[·]?)) t2)) := Heap.SameBut.update ..
  exact hQ _ L2 _ (ep + 1) t2 sb ⟨⟨_, store_at ho hd, ⟨hex.1, hex.2.1, hex.2.2⟩, rfl⟩, r1, T, (r2.map (·.2)).nodup_iff.mpr nd, fun p hp => isk_but (hk p (r2.mem_iff.mp hp)) ho hd sb, by rw [el]; exact ld, by rw [r2.length_eq, em]; exact hn, by rw [r2.length_eq]; exact few⟩ r2
/-! ### one more -/
theorem add_one (R : Stb P w s.heap S L es ep t) {x : Addr} {k : Kt} (hx : Isk P w s.heap k x) (hu : A.units < cLine) (few : L.length + 1 < 64) {Q : Bool → Shared → Prop}
    (hQ : ∀ b h' L' es' ep' t', Heap.SameBut S s.heap h' → Stb P w h' S L' es' ep' t' → (k ∈ L.map (·.2) → L' = L) → (k ∉ L.map (·.2) → L'.Perm ((x, k) :: L)) → Q b { s with heap := h' }) : wpAny (model P w) A (setAddHashed S (.ref x) (hsh P w k)) Q E s := by
  obtain ⟨o, ho, hex, hd⟩ := R.at_
  have sz := R.sz
  have rm := R.room
  have pd := R.placed
  unfold setAddHashed
  refine wpAny_holding ?_
  rw [show (100000 : Nat) = 99999 + 1 from rfl, setAddHashedIn_succ]
  refine wpAny_bind (wpAny_setState_of ho hd R.fits ?_)
  dsimp only
  refine wp_if_neg (by simp [byScan, Value.scannable]) ?_
  try refine wpAny_bind (wpAny_pure ?_)
  refine wpAny_bind (seek R hx hu (fun hm => ?_) fun e hm he hb => ?_)
  · exact wpAny_pure (hQ false s.heap L es ep t (Heap.SameBut.refl S s.heap) R (fun _ => rfl) fun z => absurd hm z)
  dsimp only
  refine wpAny_bind (wpAny_setState_of ho hd R.fits ?_)
  dsimp only
  obtain ⟨q1, q2, q3, q4, q5, _, _, _, q9⟩ := R.tab.put he hb
  rw [show way t.mask (hsh P w k) e = (wy P w t k e).j from rfl] at q1 q2 q3 q4 q5 q9
  generalize hpt : t.put (wy P w t k e).j = pt at q1 q3 q4 q5 q9 ⊢
  obtain ⟨t1, pp⟩ := pt
  dsimp only at q1 q3 q4 q5 q9 ⊢
  subst q1
  generalize SetTable.below t.place (wy P w t k e).j = m at q2 q3 ⊢
  have pm := put_perm L m (x, k)
  have hin : (SetTable.insertAt es m (hsh P w k, Value.ref x)).toList = (L.take m ++ (x, k) :: L.drop m).map (row P w) := by
    rw [SetTable.toList_insertAt, R.rows, List.map_append, List.map_cons, List.map_take, List.map_drop]
    rfl
  have hhs : ((L.take m ++ (x, k) :: L.drop m).map (·.2)).map (hsh P w) = ((L.map (·.2)).map (hsh P w)).take m ++ hsh P w k :: ((L.map (·.2)).map (hsh P w)).drop m := by
    simp only [List.map_append, List.map_cons, List.map_take, List.map_drop]
  rw [← hhs] at q3
  have nd1 : ((L.take m ++ (x, k) :: L.drop m).map (·.2)).Nodup := by
    refine (pm.map (·.2)).nodup_iff.mpr ?_
    rw [List.map_cons]
    exact List.nodup_cons.mpr ⟨hm, R.uniq⟩
  have ln := pm.length_eq
  rw [List.length_cons] at ln
  have hes : (SetTable.insertAt es m (hsh P w k, Value.ref x)).size = L.length + 1 := by rw [← Array.length_toList, hin, List.length_map, ln]
  generalize SetTable.insertAt es m (hsh P w k, Value.ref x) = es1 at hin hes ⊢
  generalize L.take m ++ (x, k) :: L.drop m = L1 at pm ln q3 nd1 hin hhs
  have rest : ∀ t2 : SetTable, TabOk t2 ((L1.map (·.2)).map (hsh P w)) → t2.mask = t.mask → t2.led = t.led → t2.fill = L.length + 1 →
      wpAny (model P w) A (storeSet S es1 t2 >>= fun _ => if (!false && t2.tooFull) = true then (setRelay S (SetTable.grown (es.size + 1)) >>= fun _ => pure true) else pure true) Q E s := fun t2 T em el ef => by
    refine wpAny_bind (wpAny_storeSet_of ho hd ?_ (by rw [hes, sizeLine_eq]; omega))
    have sb : Heap.SameBut S s.heap (s.heap.update S (Obj.putSet es1 t2)) := Heap.SameBut.update ..
    have ho1 := store_at (es' := es1) (t' := t2) ho hd
    generalize s.heap.update S (Obj.putSet es1 t2) = h1 at sb ho1 ⊢
    have k1 : ∀ p ∈ L1, Isk P w h1 p.2 p.1 := fun p hp => by
      cases pm.mem_iff.mp hp with
      | head => exact isk_but hx ho hd sb
      | tail _ hp => exact isk_but (R.keys p hp) ho hd sb
    have l1 : w.params.followText "set-order" = true ∨ t2.led = true := by rw [el]; exact R.ld
    by_cases hf : t2.tooFull = true
    · refine wp_if_pos (by simp [hf]) (wpAny_bind ?_)
      have full : (L.length + 1) * 5 ≥ t2.mask * 3 := by
        have z := hf
        unfold SetTable.tooFull at z
        rw [decide_eq_true_eq, ef] at z
        exact z
      rw [sz]
      have two : (t.mask = 7 ∧ L.length = 4) ∨ (t.mask = 31 ∧ L.length = 18) := by
        rw [em] at full
        rcases R.tab.mok with z | z | z
        · rw [z] at full rm; exact .inl ⟨z, by omega⟩
        · rw [z] at full rm; exact .inr ⟨z, by omega⟩
        · rw [z] at full; omega
      have pl1 := T.sz
      rw [List.length_map, List.length_map, ln] at pl1
      have big : ∀ M, SetTable.sizeAbove (SetTable.grown (L.length + 1)) - 1 = M → MaskOk M → SetTable.sizeAbove (SetTable.grown (L.length + 1)) ≤ 128 → (L.length + 1) * 5 < M * 3 →
          wpAny (model P w) A (setRelay S (SetTable.grown (L.length + 1))) (fun _ z => wpAny (model P w) A (pure true) Q E z) E { s with heap := h1 } := fun M a1 a2 a3 a4 =>
        enlarge (s := { s with heap := h1 }) ho1 ⟨hex.1, hex.2.1, hex.2.2⟩ rfl hin (by rw [hes, pl1]) T.dm (by rw [hes, em]; rcases two with ⟨z, z2⟩ | ⟨z, z2⟩ <;> omega) nd1 k1 l1 (by rw [ln]; exact few) a1 a2 a3 (by rw [ln]; exact a4)
          fun h2 L2 es2 ep2 t3 sb2 R2 pm2 => wpAny_pure (hQ true h2 L2 es2 ep2 t3 (sb.trans sb2) R2 (fun z => absurd z hm) fun _ => pm2.trans pm)
      rcases two with ⟨_, z⟩ | ⟨_, z⟩
      · exact big 31 (by rw [z, size_20]) (.inr (.inl rfl)) (by rw [z, size_20]; decide) (by omega)
      · exact big 127 (by rw [z, size_76]) (.inr (.inr rfl)) (by rw [z, size_76]; decide) (by omega)
    · refine wp_if_neg (by simp [hf]) ?_
      refine wpAny_pure (hQ true h1 L1 es1 (ep + 1) t2 sb ⟨⟨_, ho1, ⟨hex.1, hex.2.1, hex.2.2⟩, rfl⟩, hin, T, nd1, k1, l1, ?_, by rw [ln]; exact few⟩ (fun z => absurd z hm) fun _ => pm)
      have z := hf
      unfold SetTable.tooFull at z
      rw [decide_eq_true_eq, ef] at z
      rw [ln]
      omega
  have fl : t1.fill = L.length + 1 := by rw [q9, List.length_map, List.length_map]
  have Tf : TabOk { t1 with plain := false } ((L1.map (·.2)).map (hsh P w)) := ⟨q3.ris, q3.dm, q3.sz, q3.mok, q3.bd, q3.reach⟩
  by_cases hp : t1.plain = true
  · refine wp_if_pos hp (wpAny_bind (tup_byvalue hx fun r => ?_))
    cases r with
    | true => exact rest t1 q3 q4 q5 fl
    | false => exact rest _ Tf q4 q5 fl
  · exact wp_if_neg hp (wpAny_bind (wpAny_pure (rest t1 q3 q4 q5 fl)))
end
end DL.TK
set_option Elab.async false
set_option linter.all false
set_option maxRecDepth 100000
set_option maxHeartbeats 3200000
/-! S2: set(xs) of a list of tuple keys; sorted(such a set). -/
namespace DL.TK
open PySem PySem.Spec L2
open PyProof.Rows hiding St
variable {P : Program} {w : World} {A : Around} {E : Value → Shared → Prop} {s : Shared}
abbrev set0 (w : World) : Obj := { cls := .type "set", dict := none, data := .set #[] 0 (.fresh 0 0 (!w.params.followText "set-order")) }
theorem stb_new {h : Heap} {S : Addr} (ho : h.get? S = some (set0 w)) : Stb P w h S [] #[] 0 (.fresh 0 0 (!w.params.followText "set-order")) where
  at_ := ⟨_, ho, ⟨rfl, rfl, rfl⟩, rfl⟩
  rows := rfl
  tab := ⟨List.Pairwise.nil, rfl, rfl, .inl rfl, (fun x hx => nomatch hx), fun i h j hi => absurd hi (by simp)⟩
  uniq := List.nodup_nil
  keys := fun p hp => absurd hp (by simp)
  ld := by
    show _ ∨ (!w.params.followText "set-order") = true
    cases w.params.followText "set-order"
    · exact .inr rfl
    · exact .inl rfl
  room := by show 0 * 5 < 7 * 3; decide
  few := by show 0 < 64; decide
theorem Stb.move {h h' : Heap} {S : Addr} {L : List En} {es : Array (Int × Value)} {ep : Nat} {t : SetTable} (R : Stb P w h S L es ep t) (a : ∀ o, h.get? S = some o → h'.get? S = some o) (k : ∀ p ∈ L, Isk P w h' p.2 p.1) : Stb P w h' S L es ep t := by
  obtain ⟨o, ho, r⟩ := R.at_
  exact ⟨⟨o, a o ho, r⟩, R.rows, R.tab, R.uniq, k, R.ld, R.room, R.few⟩
/-- what a set of the first i of ks holds -/
structure Of (ks : List En) (i : Nat) (L : List En) : Prop where
  sub : ∀ p ∈ L, p ∈ ks.take i
  has : ∀ p ∈ ks.take i, p.2 ∈ L.map (·.2)
  le : L.length ≤ i
theorem Of.next {ks L L' : List En} {i : Nat} {x : Addr} {k : Kt} (g : Of ks i L) (h : ks[i]? = some (x, k)) (c1 : k ∈ L.map (·.2) → L' = L) (c2 : k ∉ L.map (·.2) → L'.Perm ((x, k) :: L)) : Of ks (i + 1) L' := by
  have tk : ks.take (i + 1) = ks.take i ++ [(x, k)] := by rw [List.take_succ, h]; rfl
  rcases Classical.em (k ∈ L.map (·.2)) with c | c
  · have e := c1 c
    subst e
    refine ⟨fun p hp => by rw [tk]; exact List.mem_append_left _ (g.sub p hp), fun p hp => ?_, Nat.le_succ_of_le g.le⟩
    rw [tk] at hp
    rcases List.mem_append.mp hp with z | z
    · exact g.has p z
    · rw [List.mem_singleton.mp z]; exact c
  · have pm := c2 c
    refine ⟨fun p hp => ?_, fun p hp => ?_, ?_⟩
    · rw [tk]
      cases pm.mem_iff.mp hp with
      | head => exact List.mem_append_right _ List.mem_cons_self
      | tail _ hp => exact List.mem_append_left _ (g.sub p hp)
    · rw [(pm.map (·.2)).mem_iff, List.map_cons]
      rw [tk] at hp
      rcases List.mem_append.mp hp with z | z
      · exact List.mem_cons_of_mem _ (g.has p z)
      · rw [List.mem_singleton.mp z]; exact List.mem_cons_self
    · rw [pm.length_eq, List.length_cons]; exact Nat.succ_le_succ g.le
/-- set.add of one, by the method's own code -/
theorem add_val {S : Addr} {L : List En} {es : Array (Int × Value)} {ep : Nat} {t : SetTable} (R : Stb P w s.heap S L es ep t) {x : Addr} {k : Kt} (hx : Isk P w s.heap k x) (hu : A.units < cLine) (few : L.length + 1 < 64) {Q : Bool → Shared → Prop}
    (hQ : ∀ b h' tk L' es' ep' t', Heap.SameBut S s.heap h' → s.toks ≤ tk → Stb P w h' S L' es' ep' t' → (k ∈ L.map (·.2) → L' = L) → (k ∉ L.map (·.2) → L'.Perm ((x, k) :: L)) → Q b { s with heap := h', toks := tk }) : wpAny (model P w) A (setAdd S (.ref x)) Q E s := by
  unfold setAdd
  refine wpAny_holding (wpAny_bind (wpAny_pyHash_tuple hu hx ?_))
  exact add_one (s := { s with toks := s.toks + (k.length + 1) }) R hx hu few fun b h' L' es' ep' t' sb R' c1 c2 => hQ b h' _ L' es' ep' t' sb (Nat.le_add_right _ _) R' c1 c2
/-- the loop of set.update -/
theorem fill {I : Addr} {fp wr : List Addr} {G : Array GenState → Array GenState → Prop} {n : Nat} {Pv : Nat → Value → Prop} {Si : Nat → Shared → Prop} {R : Result → Shared → Prop} (W : WalksS P w A.in1 I fp wr G n Pv Si) {S : Addr} (hS : S ∉ fp) {ks : List En} (hn : n = ks.length) (few : ks.length < 64)
    (hv : ∀ i v, Pv i v → ∃ p, ks[i]? = some p ∧ v = .ref p.1) {h0 : Heap} (hk : ∀ p ∈ ks, Isk P w h0 p.2 p.1) (S0 : h0.get? S = none) (w0 : ∀ b ∈ wr, h0.get? b = none) (hu : A.in1.units < cLine)
    (out : ∀ s' L es ep t, Stb P w s'.heap S L es ep t → Of ks n L → (∀ b o, h0.get? b = some o → s'.heap.get? b = some o) → G s.gens s'.gens → s'.drawn = s.drawn → s'.os = s.os → R (.ok (.ret .none)) s') :
    ∀ (k i : Nat) (z : Shared), n - i = k → i ≤ n → Si i z → (∀ b o, h0.get? b = some o → z.heap.get? b = some o) → G s.gens z.gens → z.drawn = s.drawn → z.os = s.os → (∃ L es ep t, Stb P w z.heap S L es ep t ∧ Of ks i L) →
      codeAny (model P w) A (.builtin "set.update.loop" ⟨[.ref S, .ref I], []⟩) R z := by
  have hSw : S ∉ wr := fun m => hS (W.sub _ m)
  have ahead : ∀ {z z' : Shared} {i : Nat} {L : List En} {es : Array (Int × Value)} {ep : Nat} {t : SetTable}, Moved wr G z z' → (∀ b o, h0.get? b = some o → z.heap.get? b = some o) → Stb P w z.heap S L es ep t → Of ks i L →
      (∀ b o, h0.get? b = some o → z'.heap.get? b = some o) ∧ Stb P w z'.heap S L es ep t := fun {z z' i L es ep t} m k R0 g => by
    have k' : ∀ b o, h0.get? b = some o → z'.heap.get? b = some o := fun b o e => m.heap b o (fun hb => by rw [w0 b hb] at e; cases e) (k b o e)
    exact ⟨k', R0.move (fun o e => m.heap S o hSw e) fun p hp => isk_up (hk p (List.mem_of_mem_take (g.sub p hp))) k'⟩
  intro k
  induction k with
  | zero =>
    intro i z e1 hi st kp eg ed eo hL
    obtain ⟨L, es, ep, t, R0, g⟩ := hL
    have ei : i = n := by omega
    subst ei
    refine codeAny_builtin F.entry_set_update_loop ?_
    rw [Around.under_plainId F.plain_set_update_loop _]
    show wpAny _ A.in1 (pyNext (.ref I) >>= _) _ _ z
    refine wpAny_bind (W.done z _ _ st fun z' m => ?_)
    obtain ⟨k', R'⟩ := ahead m kp R0 g
    show wpAny _ A.in1 (ret Value.none) _ _ z'
    exact wpAny_pure (out z' L es ep t R' g k' (W.gtrans _ _ _ eg m.gens) (m.drawn.trans ed) (m.os.trans eo))
  | succ k ih =>
    intro i z e1 hi st kp eg ed eo hL
    obtain ⟨L, es, ep, t, R0, g⟩ := hL
    have lt : i < n := by omega
    refine codeAny_builtin F.entry_set_update_loop ?_
    rw [Around.under_plainId F.plain_set_update_loop _]
    show wpAny _ A.in1 (pyNext (.ref I) >>= _) _ _ z
    refine wpAny_bind (W.item i z _ _ lt st fun v z' pv st' m => ?_)
    obtain ⟨p, hp, ev⟩ := hv i v pv
    subst ev
    obtain ⟨k', R'⟩ := ahead m kp R0 g
    show wpAny _ A.in1 (holding [Value.ref p.1] (setAdd S (.ref p.1)) >>= _) _ _ z'
    have gl := g.le
    refine wpAny_bind (wpAny_holding (add_val R' (isk_up (hk p (List.mem_of_getElem? hp)) k') hu (by omega) fun b h' tk L' es' ep' t' sb htk R2 c1 c2 => ?_))
    refine wpAny_pure ⟨plainId_quiet F.plain_set_update_loop _, ih (i + 1) _ (by omega) lt (W.frame _ z' _ _ st' htk fun b hb o e => ?_) (fun b o e => ?_) (W.gtrans _ _ _ eg m.gens) (m.drawn.trans ed) (m.os.trans eo) ⟨L', es', ep', t', R2, g.next hp c1 c2⟩⟩
    · rw [sb.2 b (fun y : b = S => hS (by rw [← y]; exact hb))]
      exact e
    · exact (sb.2 b fun y => by rw [y, S0] at e; cases e).trans (k' b o e)
/-- set(xs) -/
theorem set_of {l : Addr} {ks : List En} {Q : Value → Shared → Prop} {items : Array Value} (hh : A.handled = none) (hl : s.heap.IsList l items) (hit : items.toList = ks.map fun p => Value.ref p.1) (hk : ∀ p ∈ ks, Isk P w s.heap p.2 p.1) (few : ks.length < 64) (hu : A.units + 3 < cLine)
    (q : ∀ h' tk L es ep t, Stb P w h' s.heap.objs.size L es ep t → Of ks ks.length L → (∀ b o, s.heap.get? b = some o → h'.get? b = some o) → Q (.ref s.heap.objs.size) { s with heap := h', toks := tk }) :
    wpAny (model P w) A (call (.type "set") [.ref l]) Q E s := by
  obtain ⟨c, tl, hmro⟩ := F.called_set.mro
  have hmade := F.called_set.made
  have hsub := F.called_set.sub
  have h1 := F.called_set.notType
  have h2 := F.called_set.canCreate
  have hct := F.typeCall_set_1 (.ref l)
  have hli := F.called_set.init.lookup
  have hbi := F.called_set.init.bind (.ref s.heap.objs.size)
  refine wpAny_call (codeAny_of_tree ?_)
  show wpAny _ _ (callAny (.type "set") _) _ _ _
  refine wpAny_pure ⟨Code.quiet_builtin _ (by decide +kernel), codeAny_builtin F.entry_type_call ?_⟩
  rw [Around.under_plain (weight_type_call_type "set" [.ref l] []) rfl]
  repeat (any_goals (first | assumption | wp_step))
  refine codeAny_mono (code_set_led1 (.ref l) (E := E) (Q₁ := fun v z => v = .ref s.heap.objs.size ∧ z = { s with heap := s.heap.push (set0 w) }) ⟨rfl, rfl⟩) fun r z hr => ?_
  cases r with
  | error e => exact hr
  | ok fl =>
    cases fl with
    | next => exact hr.elim
    | brk => exact hr.elim
    | cont => exact hr.elim
    | ret v =>
      obtain ⟨ev, ez⟩ := hr
      subst ev
      subst ez
      have hS : (s.heap.push (set0 w)).get? s.heap.objs.size = some (set0 w) := Heap.get?_push_size _ rfl
      have hT : Shared.TypeIs { s with heap := s.heap.push (set0 w) } (.ref s.heap.objs.size) "set" := ⟨_, hS, rfl⟩
      repeat (any_goals (first | assumption | wp_step))
      refine codeAny_mono (codeAny_call_builtin (R := wants (fun r z => r = .none ∧ ∃ h' tk L es ep t, z = { s with heap := h', toks := tk } ∧ Stb P w h' s.heap.objs.size L es ep t ∧ Of ks ks.length L ∧ ∀ b o, s.heap.get? b = some o → h'.get? b = some o) E)
        F.called_set.init.plain F.entry_set_init (check_set_init_1 hT ?_)) fun r2 z2 hr2 => ?_
      · have isz : items.size = ks.length := by rw [← Array.length_toList, hit, List.length_map]
        have hl1 : (s.heap.push (set0 w)).IsList l items := hl.push _
        obtain ⟨ol, hol, hcl, nl, hdl⟩ := hl
        have hlS : l < s.heap.objs.size := Heap.lt_size hol
        obtain ⟨oc, od, odt, osl⟩ := ol
        simp only at hcl hdl
        subst hcl
        subst hdl
        have hol' : (s.heap.push (set0 w)).get? l = some { cls := .type "list", dict := od, data := .seq items nl, slots := osl } := Heap.get?_push_of_some _ hol
        have a1 := F.sub_list_set
        have a2 := F.sub_list_frozenset
        have a3 : (Value.type "list" == Value.type "dict") = false := by decide
        unfold Builtin.«set.__init__» noKeywords Builtin.Frozenset.updateFrom
        generalize hPI : pyIter = PI
        wp_walk
        subst hPI
        refine wpAny_pyIter_list hl1 (wpAny_bind (wpAny_runValue ?_))
        have none_of : ∀ b, s.heap.objs.size ≤ b → s.heap.get? b = none := fun b hb => by
          cases e : s.heap.get? b with
          | none => rfl
          | some o => exact absurd (Heap.lt_size e) (Nat.not_lt.mpr hb)
        have zs : (s.heap.push (set0 w)).objs.size = s.heap.objs.size + 1 := Heap.size_push ..
        have lne : l ≠ (s.heap.push (set0 w)).objs.size := by rw [zs]; exact Nat.ne_of_lt (Nat.lt_succ_of_lt hlS)
        have hval : ∀ (i : Nat) (v : Value), items[i]? = some v → ∃ p, ks[i]? = some p ∧ v = .ref p.1 := fun i v hv => by
          rw [← Array.getElem?_toList, hit, List.getElem?_map] at hv
          cases e : ks[i]? with
          | none => rw [e] at hv; cases hv
          | some p => rw [e] at hv; cases hv; exact ⟨p, rfl, rfl⟩
        refine fill ((Walks.list (by simp [hh]) _ l lne items).toS) (S := s.heap.objs.size) (by rw [zs]; simp only [List.mem_cons, List.not_mem_nil, or_false, not_or]; exact ⟨Nat.ne_of_lt (Nat.lt_succ_self _), Nat.ne_of_gt hlS⟩) isz few hval hk (none_of _ (Nat.le_refl _))
          (fun b hb => none_of b (by rw [List.mem_singleton.mp hb, zs]; exact Nat.le_succ _)) hu (fun z' L es ep t R g k eg ed eo => ?_) (items.size - 0) 0 _ (by omega) (Nat.zero_le _) ⟨⟨_, Heap.get?_push_size _ rfl, rfl, rfl⟩, hl1.push _⟩
          (fun b o e => Heap.get?_push_of_some _ (Heap.get?_push_of_some _ e)) rfl rfl rfl ⟨[], #[], 0, _, stb_new (Heap.get?_push_of_some _ hS), ⟨fun p h => absurd h (by simp), fun p h => absurd h (by simp), Nat.le_refl _⟩⟩
        obtain ⟨h', g', d', t', o'⟩ := z'
        obtain rfl : g' = s.gens := eg
        obtain rfl : d' = s.drawn := ed
        obtain rfl : o' = s.os := eo
        show wpAny _ _ _ _ _ _
        refine wpAny_pure ?_
        show wpAny _ _ (ret Value.none) _ _ _
        rw [isz] at g
        exact wpAny_pure ⟨rfl, h', t', L, es, ep, t, rfl, R, g, k⟩
      · cases r2 with
        | error e => exact hr2
        | ok fl2 =>
          cases fl2 with
          | next => exact hr2.elim
          | brk => exact hr2.elim
          | cont => exact hr2.elim
          | ret v2 =>
            obtain ⟨ev, h', tk, L, es, ep, t, ez, R, g, k⟩ := hr2
            subst ev
            subst ez
            repeat (any_goals (first | assumption | wp_step))
            exact q _ _ _ _ _ _ R g k
end DL.TK
set_option Elab.async false
set_option linter.all false
set_option maxRecDepth 100000
set_option maxHeartbeats 1000000
/-! S3: tuple keys as data, in order without doubles; sorted(a set of them). -/
namespace DL.TK
open PySem PySem.Spec L2 PySem.W
open PyProof.Rows hiding St
def keyD : Key → PyData
  | .inl i => .int i
  | .inr x => .str x
def ktD (k : Kt) : PyData := .tuple (k.map keyD)
def dKey : PyData → Option Key
  | .int i => some (.inl i)
  | .str x => some (.inr x)
  | _ => none
def dKeys : List PyData → Option Kt
  | [] => some []
  | d :: ds => match dKey d, dKeys ds with
    | some k, some ks => some (k :: ks)
    | _, _ => none
def dKt : PyData → Option Kt
  | .tuple xs => dKeys xs
  | _ => none
theorem dKey_eq {d : PyData} {k : Key} (h : dKey d = some k) : d = keyD k := by
  cases d with
  | int i => cases h; rfl
  | str x => cases h; rfl
  | _ => cases h
theorem dKeys_eq : ∀ {ds : List PyData} {k : Kt}, dKeys ds = some k → ds = k.map keyD
  | [], _, h => by cases h; rfl
  | d :: ds, k, h => by
    unfold dKeys at h
    split at h
    · rename_i k0 ks h1 h2
      cases h
      rw [dKey_eq h1, dKeys_eq h2]
      rfl
    · cases h
theorem dKt_eq {d : PyData} {k : Kt} (h : dKt d = some k) : d = ktD k := by
  cases d with
  | tuple xs => exact congrArg PyData.tuple (dKeys_eq h)
  | _ => cases h
theorem dKey_keyD (k : Key) : dKey (keyD k) = some k := by cases k <;> rfl
theorem dKeys_map : ∀ k : Kt, dKeys (k.map keyD) = some k
  | [] => rfl
  | x :: k => by
    show (match dKey (keyD x), dKeys (k.map keyD) with | some k, some ks => some (k :: ks) | _, _ => none) = _
    rw [dKey_keyD, dKeys_map k]
theorem dKt_ktD (k : Kt) : dKt (ktD k) = some k := dKeys_map k
/-! ### the order -/
theorem lt_irr (x : PyData) : dataLt x x = false := lex_irrefl _
theorem lt_tr {x y z : PyData} (h : dataLt x y = true) (g : dataLt y z = true) : dataLt x z = true := lex_trans _ _ _ h g
theorem lt_as {x y : PyData} (h : dataLt x y = true) : dataLt y x = false := by
  cases e : dataLt y x with
  | false => rfl
  | true =>
    have := lt_tr h e
    rw [lt_irr] at this
    cases this
theorem toks_key {k : Key} : ∃ t, keyToks (keyD k) = [t] := by cases k <;> exact ⟨_, rfl⟩
theorem toks_key_inj {k j : Key} (h : keyToks (keyD k) = keyToks (keyD j)) : k = j := by
  cases k with
  | inl a =>
    cases j with
    | inl b => simp only [keyD, keyToks, List.cons.injEq, and_true, Sum.inl.injEq] at h; rw [h]
    | inr b => simp [keyD, keyToks] at h
  | inr a =>
    cases j with
    | inl b => simp [keyD, keyToks] at h
    | inr b =>
      simp only [keyD, keyToks, List.cons.injEq, and_true, Sum.inr.injEq] at h
      rw [str_of_cps h]
theorem toks_inj : ∀ {k j : Kt}, keyToksAll (k.map keyD) = keyToksAll (j.map keyD) → k = j
  | [], [], _ => rfl
  | [], y :: j, h => by simp [keyToksAll] at h
  | x :: k, [], h => by simp [keyToksAll] at h
  | x :: k, y :: j, h => by
    obtain ⟨s, es⟩ := toks_key (k := x)
    obtain ⟨t, et⟩ := toks_key (k := y)
    simp only [List.map_cons, keyToksAll, es, et, List.cons.injEq, true_and, List.singleton_append] at h
    have e1 : x = y := toks_key_inj (by rw [es, et, h.1])
    have e2 : k = j := toks_inj h.2
    rw [e1, e2]
theorem lt_tot {k j : Kt} (h : dataLt (ktD k) (ktD j) = false) (g : dataLt (ktD j) (ktD k) = false) : k = j := by
  have e := lex_total _ _ h g
  simp only [ktD, keyToks] at e
  exact toks_inj e
/-! ### in order, without doubles -/
abbrev Srt (l : List PyData) : Prop := l.Pairwise fun x y => dataLt x y = true
def insK (x : PyData) : List PyData → List PyData
  | [] => [x]
  | y :: l => if dataLt x y = true then x :: y :: l else if dataLt y x = true then y :: insK x l else y :: l
def sortK (ds : List PyData) : List PyData := ds.foldr insK []
theorem insK_mem {k : Kt} : ∀ {l : List PyData}, (∀ y ∈ l, ∃ j, y = ktD j) → ∀ z, z ∈ insK (ktD k) l ↔ z = ktD k ∨ z ∈ l
  | [], _, z => by simp [insK]
  | y :: l, hl, z => by
    obtain ⟨j, ej⟩ := hl y List.mem_cons_self
    subst ej
    unfold insK
    split
    · rw [List.mem_cons]
    · rename_i h1
      split
      · rw [List.mem_cons, List.mem_cons, insK_mem (fun y hy => hl y (List.mem_cons_of_mem _ hy))]
        constructor
        · rintro (h | h | h)
          · exact .inr (.inl h)
          · exact .inl h
          · exact .inr (.inr h)
        · rintro (h | h | h)
          · exact .inr (.inl h)
          · exact .inl h
          · exact .inr (.inr h)
      · rename_i h2
        have e := lt_tot (Bool.eq_false_iff.mpr h1) (Bool.eq_false_iff.mpr h2)
        subst e
        rw [List.mem_cons]
        constructor
        · exact fun h => .inr h
        · rintro (h | h)
          · exact .inl h
          · exact h
theorem insK_srt {x : PyData} : ∀ {l : List PyData}, (∀ z, z ∈ insK x l → z = x ∨ z ∈ l) → Srt l → Srt (insK x l)
  | [], _, _ => List.pairwise_singleton ..
  | y :: l, hm, h => by
    obtain ⟨h1, h2⟩ := List.pairwise_cons.mp h
    unfold insK at hm ⊢
    split
    · rename_i e
      exact List.pairwise_cons.mpr ⟨fun z hz => by
        cases hz with
        | head => exact e
        | tail _ hz => exact lt_tr e (h1 z hz), h⟩
    · split
      · rename_i e1 e2
        have mem : ∀ {l : List PyData} z, z ∈ insK x l → z = x ∨ z ∈ l := by
          intro l
          induction l with
          | nil => intro z hz; simp [insK] at hz; exact .inl hz
          | cons w l ih =>
            intro z hz
            unfold insK at hz
            split at hz
            · exact List.mem_cons.mp hz
            · split at hz
              · cases hz with
                | head => exact .inr List.mem_cons_self
                | tail _ hz =>
                  rcases ih z hz with c | c
                  · exact .inl c
                  · exact .inr (List.mem_cons_of_mem _ c)
              · exact .inr hz
        refine List.pairwise_cons.mpr ⟨fun z hz => ?_, insK_srt mem h2⟩
        rcases mem z hz with c | c
        · rw [c]; exact e2
        · exact h1 z c
      · exact h
theorem insK_sub {x : PyData} : ∀ {l : List PyData} {z}, z ∈ insK x l → z = x ∨ z ∈ l
  | [], z, hz => by simp [insK] at hz; exact .inl hz
  | y :: l, z, hz => by
    unfold insK at hz
    split at hz
    · exact List.mem_cons.mp hz
    · split at hz
      · cases hz with
        | head => exact .inr List.mem_cons_self
        | tail _ hz =>
          rcases insK_sub hz with c | c
          · exact .inl c
          · exact .inr (List.mem_cons_of_mem _ c)
      · exact .inr hz
theorem sortK_srt : ∀ ds : List PyData, Srt (sortK ds)
  | [] => List.Pairwise.nil
  | d :: ds => insK_srt (fun z hz => insK_sub hz) (sortK_srt ds)
theorem sortK_mem : ∀ {ds : List PyData}, (∀ d ∈ ds, ∃ k, d = ktD k) → ∀ z, z ∈ sortK ds ↔ z ∈ ds
  | [], _, z => Iff.rfl
  | d :: ds, h, z => by
    obtain ⟨k, e⟩ := h d List.mem_cons_self
    have ih := sortK_mem fun y hy => h y (List.mem_cons_of_mem _ hy)
    subst e
    show z ∈ insK (ktD k) (sortK ds) ↔ _
    rw [insK_mem (fun y hy => h y (List.mem_cons_of_mem _ ((ih y).mp hy))), ih, List.mem_cons]
theorem srt_ext : ∀ {l m : List PyData}, Srt l → Srt m → (∀ x, x ∈ l ↔ x ∈ m) → l = m
  | [], [], _, _, _ => rfl
  | [], y :: m, _, _, h => absurd ((h y).mpr List.mem_cons_self) (by simp)
  | x :: l, [], _, _, h => absurd ((h x).mp List.mem_cons_self) (by simp)
  | x :: l, y :: m, h1, h2, h => by
    obtain ⟨a1, a2⟩ := List.pairwise_cons.mp h1
    obtain ⟨b1, b2⟩ := List.pairwise_cons.mp h2
    have e : x = y := by
      cases (h x).mp List.mem_cons_self with
      | head => rfl
      | tail _ q =>
        cases (h y).mpr List.mem_cons_self with
        | head => rfl
        | tail _ q2 =>
          have := lt_as (b1 x q)
          rw [a1 y q2] at this
          cases this
    subst e
    rw [srt_ext a2 b2 fun z => ?_]
    constructor
    · intro hz
      cases (h z).mp (List.mem_cons_of_mem _ hz) with
      | head => have := a1 _ hz; rw [lt_irr] at this; cases this
      | tail _ q => exact q
    · intro hz
      cases (h z).mpr (List.mem_cons_of_mem _ hz) with
      | head => have := b1 _ hz; rw [lt_irr] at this; cases this
      | tail _ q => exact q
/-! ### alike tuples -/
def isTup : PyData → Bool
  | .tuple (_ :: _) => true
  | _ => false
def okK (ds : List PyData) : Bool := ds.all fun d => isTup d && ((dKt d).isSome && ds.all fun e => alike d e)
theorem okK_k {ds : List PyData} (h : okK ds = true) : ∀ d ∈ ds, ∃ k, d = ktD k := fun d hd => by
  have z := List.all_eq_true.mp h d hd
  rw [Bool.and_eq_true, Bool.and_eq_true] at z
  obtain ⟨k, e⟩ := Option.isSome_iff_exists.mp z.2.1
  exact ⟨k, dKt_eq e⟩
theorem okK_al {ds : List PyData} (h : okK ds = true) : AllAlike ds := fun d hd e he => by
  have z := List.all_eq_true.mp h d hd
  rw [Bool.and_eq_true, Bool.and_eq_true] at z
  exact List.all_eq_true.mp z.2.2 e he
theorem okK_so {ds : List PyData} (h : okK ds = true) : Sortable ds := .inl fun d hd => by
  have z := List.all_eq_true.mp h d hd
  rw [Bool.and_eq_true] at z
  cases d with
  | tuple xs =>
    cases xs with
    | nil => cases z.1
    | cons x r => exact ⟨x, r, rfl⟩
  | _ => cases z.1
theorem okK_sub {ds es : List PyData} (h : okK ds = true) (s : ∀ d ∈ es, d ∈ ds) : okK es = true := List.all_eq_true.mpr fun d hd => by
  have z := List.all_eq_true.mp h d (s d hd)
  rw [Bool.and_eq_true, Bool.and_eq_true] at z ⊢
  exact ⟨z.1, z.2.1, List.all_eq_true.mpr fun e he => List.all_eq_true.mp z.2.2 e (s e he)⟩
theorem depth_keys : ∀ k : Kt, PyData.depthAll (k.map keyD) = 0
  | [] => rfl
  | x :: k => by
    rw [List.map_cons, PyData.depthAll, depth_keys k]
    cases x <;> rfl
theorem depth_kt (k : Kt) : (ktD k).depth ≤ 1 := by
  rw [ktD, PyData.depth, depth_keys]
  exact Nat.le_refl _
/-! ### reading such a tuple -/
section
variable {P : Program} {w : World} {A : Around} {E : Value → Shared → Prop} {s : Shared}
theorem key_reads {h : Heap} {k : Key} {v : Value} (e : keyIs k v = true) : Reads h v (keyD k) [] := by
  rcases keyIs_shape e with ⟨i, t, e1, e2⟩ | ⟨x, t, e1, e2⟩
  · subst e1; subst e2; exact .int i t
  · subst e1; subst e2; exact .str x t
theorem items_reads {h : Heap} {k : Kt} {vs : List Value} (x : ItemsAre (mixKind P w) k vs) : ReadsAll h vs (k.map keyD) [] := by
  induction x with
  | nil => exact .nil
  | cons h0 _ ih => exact .cons (as := []) (bs := []) (key_reads h0) ih
theorem isk_reads {h : Heap} {k : Kt} {a : Addr} (x : Isk P w h k a) : Reads h (.ref a) (ktD k) [] := by
  obtain ⟨o, its, n, eo, ec, ed, hi⟩ := x
  exact .tuple eo ec ed (items_reads hi)
/-- a permuted list of images is the image of a permuted list -/
theorem perm_map_inv {α β : Type} {f : α → β} : ∀ {u v : List β}, u.Perm v → ∀ L : List α, v = L.map f → ∃ L1 : List α, L1.Perm L ∧ u = L1.map f := by
  intro u v h
  induction h with
  | nil => exact fun L e => ⟨L, .refl _, e⟩
  | cons x p ih =>
    intro L e
    cases L with
    | nil => cases e
    | cons y L =>
      injection e with e1 e2
      obtain ⟨L1, p1, e3⟩ := ih L e2
      exact ⟨y :: L1, p1.cons y, by rw [e1, e3]; rfl⟩
  | swap x y l =>
    intro L e
    match L, e with
    | a :: b :: L, e =>
      injection e with e1 e2
      injection e2 with e2 e3
      exact ⟨b :: a :: L, .swap a b L, by rw [e1, e2, e3]; rfl⟩
  | trans p q ih1 ih2 =>
    intro L e
    obtain ⟨L1, p1, e1⟩ := ih2 L e
    obtain ⟨L2, p2, e2⟩ := ih1 L1 e1
    exact ⟨L2, p2.trans p1, e2⟩
theorem each_refs {vs : List Value} {L : List En} (e : EachIs (fun v (p : En) => v = Value.ref p.1) vs L) : vs = L.map fun p => Value.ref p.1 := by
  induction e with
  | nil => rfl
  | cons h _ ih => rw [h, ih]; rfl
theorem refs_each (R : Value → En → Prop) : ∀ L : List En, (∀ p ∈ L, R (.ref p.1) p) → EachIs R (L.map fun p => Value.ref p.1) L
  | [], _ => .nil
  | p :: L, h => .cons (h p List.mem_cons_self) (refs_each R L fun q hq => h q (List.mem_cons_of_mem _ hq))
/-- in order by mergeSort, no doubles: strictly -/
theorem merge_srt {L : List En} (nd : (L.map (·.2)).Nodup) : Srt ((L.mergeSort (dataLe false fun p => ktD p.2)).map fun p => ktD p.2) := by
  have le_def : ∀ a b : En, dataLe false (fun p : En => ktD p.2) a b = !dataLt (ktD b.2) (ktD a.2) := fun a b => by rw [dataLe_eq]; rfl
  have so := List.pairwise_mergeSort (le := dataLe false fun p : En => ktD p.2) (fun a b c h1 h2 => by
    rw [le_def] at h1 h2 ⊢
    have h1 : dataLt (ktD b.2) (ktD a.2) = false := by simpa using h1
    have h2 : dataLt (ktD c.2) (ktD b.2) = false := by simpa using h2
    cases e : dataLt (ktD c.2) (ktD a.2) with
    | false => rfl
    | true =>
      rcases lex_negTrans (O := itemOrd) _ (keyToks (ktD b.2)) _ e with z | z
      · have z : dataLt (ktD c.2) (ktD b.2) = true := z
        rw [h2] at z; cases z
      · have z : dataLt (ktD b.2) (ktD a.2) = true := z
        rw [h1] at z; cases z) (fun a b => by
    rw [le_def, le_def]
    cases e : dataLt (ktD b.2) (ktD a.2) with
    | false => rfl
    | true => rw [lt_as e]; rfl) L
  have nd2 : ((L.mergeSort (dataLe false fun p : En => ktD p.2)).map (·.2)).Nodup := ((List.mergeSort_perm L _).map (·.2)).nodup_iff.mpr nd
  rw [Srt, List.pairwise_map]
  refine List.Pairwise.imp (R := fun a b : En => dataLe false (fun p : En => ktD p.2) a b = true ∧ a.2 ≠ b.2) (fun {a b} h => ?_) (List.pairwise_and_iff.mpr ⟨so, List.pairwise_map.mp nd2⟩)
  obtain ⟨h1, h2⟩ := h
  rw [le_def] at h1
  have h1 : dataLt (ktD b.2) (ktD a.2) = false := by simpa using h1
  cases e : dataLt (ktD a.2) (ktD b.2) with
  | true => rfl
  | false => exact absurd (lt_tot e h1) h2
/-- sorted(a set of alike tuples) -/
theorem sorted_stb {a : Addr} {L : List En} {es : Array (Int × Value)} {ep : Nat} {t : SetTable} {Q : Value → Shared → Prop} (R : Stb P w s.heap a L es ep t) (hh : A.handled = none) (ok : okK (L.map fun p => ktD p.2) = true) (hu : A.units + 8 < cLine)
    (q : ∀ z p (out : Array Value) (c : Nat) (L' : List En), (∀ b o, s.heap.get? b = some o → z.heap.get? b = some o) → z.gens = s.gens → z.os = s.os → s.heap.objs.size ≤ p → z.heap.get? p = some (seqObj "list" out c) → out.toList = L'.map (fun p => Value.ref p.1) → L'.Perm L → Srt (L'.map fun p => ktD p.2) → Q (.ref p) z) :
    wpAny (model P w) A (call (.builtin "sorted") [.ref a]) Q E s := by
  obtain ⟨o, ho, hex, hd⟩ := R.at_
  have sz := R.sz
  have few := R.few
  refine Calls.call_function_entry kind_sorted plain_sorted entry_sorted (args_sorted1 _) ?_
  unfold Builtin.«sorted»
  refine wpAny_bind (m := checkCount "sorted" 1 1 _) (wpAny_pure ?_)
  refine wpAny_bind (collect_set (A := A.in1) hh ⟨o, ho, hex.1, hd⟩ R.fits (by unfold scanBound; omega) R.tab.ris R.ld fun s1 vs k1 hz g1 o1 pm => ?_)
  have e1 : es.toList.map (·.2) = L.map fun p => Value.ref p.1 := by
    rw [R.rows, List.map_map]
    rfl
  rw [e1] at pm
  obtain ⟨L1, p1, ev⟩ := perm_map_inv pm L rfl
  have vl : vs.length < 64 := by rw [ev, List.length_map, p1.length_eq]; exact few
  refine wpAny_bind (wpAny_newList ?_ (by rw [sizeLine_eq]; omega))
  have hoL : (s1.heap.push (seqObj "list" vs.toArray 0)).get? s1.heap.objs.size = some (seqObj "list" vs.toArray 0) := Heap.get?_push_size _ rfl
  have rd : ∀ p ∈ L1, Reads (s1.heap.push (seqObj "list" vs.toArray 0)) (.ref p.1) (ktD p.2) [] := fun p hp => isk_reads (P := P) (w := w) (isk_up (R.keys p (p1.mem_iff.mp hp)) fun b u e => Heap.get?_push_of_some _ (k1 b u e))
  have ok1 : okK (L1.map fun p => ktD p.2) = true := okK_sub ok fun d hd => (p1.map _).mem_iff.mp hd
  refine wpAny_bind (wpAny_holding (list_sort_data (R := fun v (p : En) => v = Value.ref p.1) (enc := fun p : En => ktD p.2) (bs := L1) (s := { s1 with heap := s1.heap.push (seqObj "list" vs.toArray 0) }) hoL (by rw [ev]; exact refs_each _ L1 fun _ _ => rfl)
    (by rw [ev]; exact refs_each _ L1 fun p hp => ⟨[], by rw [← ev]; exact rd p hp, by simp⟩) (okK_al ok1) (okK_so ok1) (by rw [← List.length_map (as := L1) (f := fun p => Value.ref p.1), ← ev, sizeLine_eq]; omega) (fun p _ => ?_) fun out ol eo => ?_))
  · have := depth_kt p.2
    show A.in1.units + 1 + (ktD p.2).depth < cLine
    have e : A.in1.units = A.units + 1 := rfl
    omega
  · have eo2 := each_refs eo
    obtain ⟨c, hc⟩ := sortedHeap_at (vs := vs) (out := out.toArray) hoL
    have pm2 : (L1.mergeSort (dataLe false fun p : En => ktD p.2)).Perm L := (List.mergeSort_perm L1 _).trans p1
    refine wpAny_pure ⟨_, rfl, q _ s1.heap.objs.size out.toArray c _ (fun b u e => ?_) g1 o1 hz hc (by simpa using eo2) pm2 (merge_srt ((p1.map _).nodup_iff.mpr R.uniq))⟩
    have lt := Heap.lt_size (k1 b u e)
    show (sortedHeap (s1.heap.push (seqObj "list" vs.toArray 0)) s1.heap.objs.size vs out.toArray).get? b = some u
    rw [sortedHeap_old (Nat.ne_of_lt lt) (by rw [size_push']; exact Nat.lt_succ_of_lt lt)]
    exact Heap.get?_push_of_some _ (k1 b u e)
end
end DL.TK
set_option Elab.async false
set_option linter.all false
set_option maxRecDepth 100000
set_option maxHeartbeats 2000000
/-! S4: sets of tuple keys in the walk: set(xs), sorted, {.. for .. in ..}. -/
namespace DL.TK
open PySem PySem.Spec L2 PySem.W
open PyProof.Rows hiding St
/-- the set at a, its tuples apart -/
structure Sto0 (P : Program) (w : World) (h : Heap) (a : Addr) (L : List En) : Prop where
  ex : ∃ (es : Array (Int × Value)) (ep : Nat) (t : SetTable), (∃ o, h.get? a = some o ∧ o.ExactSet ∧ o.data = .set es ep t) ∧ es.toList = L.map (row P w) ∧ TabOk t ((L.map (·.2)).map (hsh P w)) ∧ (L.map (·.2)).Nodup ∧
    (w.params.followText "set-order" = true ∨ t.led = true) ∧ L.length * 5 < t.mask * 3 ∧ L.length < 64
def Sto (P : Program) (w : World) (a : Addr) (L : List En) : HO := .ext fun h => Sto0 P w h a L
section
variable {P : Program} {w : World} {h : Heap} {H : Hp} {a : Addr} {L : List En}
theorem Stb.less {es : Array (Int × Value)} {ep : Nat} {t : SetTable} (R : Stb P w h a L es ep t) : Sto0 P w h a L := ⟨es, ep, t, R.at_, R.rows, R.tab, R.uniq, R.ld, R.room, R.few⟩
theorem Sto0.full (R : Sto0 P w h a L) (k : ∀ p ∈ L, Isk P w h p.2 p.1) : ∃ es ep t, Stb P w h a L es ep t := by
  obtain ⟨es, ep, t, h1, h2, h3, h4, h5, h6, h7⟩ := R
  exact ⟨es, ep, t, h1, h2, h3, h4, k, h5, h6, h7⟩
theorem sto_ok (R : Sto0 P w h a L) : ObjOk P w H h a (Sto P w a L) := by
  have ⟨es, ep, t, ⟨o, ho, r⟩, z⟩ := R.ex
  refine ⟨R, ⟨o, ho⟩, fun h1 h2 x k => ?_⟩
  have ⟨es', ep', t', ⟨o', ho', r'⟩, z'⟩ := Sto0.ex x
  exact ⟨es', ep', t', ⟨o', k o' ho', r'⟩, z'⟩
end
/-- a tuple of these keys -/
abbrev KeT (K : PySem.W.Frag) (H : Hp) (p : En) : Prop := SqT K H p.1 (p.2.map kV)
theorem vals_keys {P : Program} {w : World} : ∀ {k : Kt} {us : List Value}, Vals (k.map kV) us → ItemsAre (mixKind P w) k us
  | [], _, .nil => .nil
  | _ :: _, _, .cons r t => .cons (kV_is r) (vals_keys t)
theorem vals_refs : ∀ L : List En, Vals (L.map fun p => V.ref p.1) (L.map fun p => Value.ref p.1)
  | [] => .nil
  | _ :: L => .cons rfl (vals_refs L)
theorem refs_vals : ∀ {L : List En} {us : List Value}, Vals (L.map fun p => V.ref p.1) us → us = L.map fun p => Value.ref p.1
  | [], _, .nil => rfl
  | p :: L, _, .cons r t => by
    cases r
    rw [refs_vals t]
    rfl
section
variable {X : Cx} {pins : List (Addr × Obj)} {σ : St} {H : Hp} {s : Shared}
theorem ket_isk (I : Inv X pins σ H s) {p : En} (h : KeT X.K H p) : Isk X.prog X.w s.heap p.2 p.1 := by
  obtain ⟨its, r, ⟨o, ho, hc, n, hd⟩, _⟩ := I.tuple h
  exact ⟨o, its.toArray, n, ho, hc, hd, by simpa using vals_keys r⟩
/-- set(xs) -/
def rSet (K : PySem.W.Frag) (P : Program) (w : World) : List V → Hp → VK → Prop := fun xs H Q => ∃ (l : Addr) (ks : List En), xs = [V.ref l] ∧ SqL K H l (ks.map fun p => V.ref p.1) ∧ (∀ p ∈ ks, KeT K H p) ∧ ks.length < 64 ∧
  ∀ a L, H a = none → (∀ p ∈ L, p ∈ ks) → (∀ p ∈ ks, p.2 ∈ L.map (·.2)) → Q (.ref a) (upd H a (Sto P w a L))
theorem cr_set (hc : X.calm = true) (hu : X.A.units + 64 < cLine) : CallR X (.type "set") (rSet X.K X.prog X.w) := by
  intro pins s σ H xs us Q I r h
  obtain ⟨l, ks, rfl, hl, hk, few, q⟩ := h
  rw [Vals.ref1 r]
  obtain ⟨its, rv, pl, _⟩ := I.list hl
  refine set_of (P := X.prog) (w := X.w) (ks := ks) (I.ok.hd hc) pl.isList (by simpa using refs_vals rv) (fun p hp => ket_isk I (hk p hp)) few (by omega) fun h' tk L es ep t R g k => ?_
  exact ⟨.ref s.heap.objs.size, upd H s.heap.objs.size (Sto X.prog X.w s.heap.objs.size L), I.laid (t' := tk) k (Nat.le_refl _) (sto_ok R.less), rfl,
    q _ L (I.hok.fresh (Nat.le_refl _)) (fun p hp => List.mem_of_mem_take (g.sub p hp)) fun p hp => g.has p (by rw [List.take_length]; exact hp)⟩
/-- sorted(a set) -/
def rSortS (K : PySem.W.Frag) (P : Program) (w : World) : List V → Hp → VK → Prop := fun xs H Q => ∃ (a : Addr) (L : List En), xs = [V.ref a] ∧ H a = some (Sto P w a L) ∧ (∀ p ∈ L, KeT K H p) ∧ okK (L.map fun p => ktD p.2) = true ∧
  ∀ (L' : List En) (p : Addr), L'.Perm L → Srt (L'.map fun p => ktD p.2) → L'.length < 64 → H p = none → Q (.ref p) (upd H p (.lst (L'.map fun p => V.ref p.1)))
theorem cr_sortS (hc : X.calm = true) (hu : X.A.units + 64 < cLine) : CallR X (.builtin "sorted") (rSortS X.K X.prog X.w) := by
  intro pins s σ H xs us Q I r h
  obtain ⟨a, L, rfl, ha, hk, ok, q⟩ := h
  have R0 : Sto0 X.prog X.w s.heap a L := (I.hok a _ ha).1
  obtain ⟨es, ep, t, R⟩ := R0.full fun p hp => ket_isk I (hk p hp)
  rw [Vals.ref1 r]
  refine sorted_stb R (I.ok.hd hc) ok (by omega) fun z p out c L' k g o hp hg hout pm so => ?_
  have few : L'.length < 64 := by rw [pm.length_eq]; exact R.few
  have hn : H p = none := I.hok.fresh hp
  have J : Inv X pins σ (upd H p (.lst (L'.map fun q => V.ref q.1))) { s with heap := z.heap, gens := z.gens, drawn := z.drawn, toks := z.toks } :=
    I.call (ch := []) (Un.laid k hp hn) (I.hok.laid k hp ⟨by rw [List.length_map, sizeLine_eq]; omega, out.toList, c, by rw [hout]; exact vals_refs L', hg⟩) (by rw [g]; exact I.bare) (fun _ y => nomatch y)
  obtain ⟨zh, zg, zd, zt, zo⟩ := z
  obtain rfl : zo = s.os := o
  exact ⟨.ref p, _, J, rfl, q L' p pm so few hn⟩
/-- set.add of a tuple -/
theorem add_call {P : Program} {w : World} {A : Around} {E : Value → Shared → Prop} {S : Addr} {L : List En} {es : Array (Int × Value)} {ep : Nat} {t : SetTable} (R : Stb P w s.heap S L es ep t) {x : Addr} {k : Kt} (hx : Isk P w s.heap k x) (hu : A.units + 2 < cLine) (few : L.length + 1 < 64) {Q : Value → Shared → Prop}
    (hQ : ∀ h' tk L' es' ep' t', Heap.SameBut S s.heap h' → s.toks ≤ tk → Stb P w h' S L' es' ep' t' → (k ∈ L.map (·.2) → L' = L) → (k ∉ L.map (·.2) → L'.Perm ((x, k) :: L)) → Q .none { s with heap := h', toks := tk }) :
    wpAny (model P w) A (call (.builtin "set.add") [.ref S, .ref x]) Q E s := by
  obtain ⟨o, ho, hex, hd⟩ := R.at_
  refine wpAny_call_entry F.slot_set_add ⟨o, ho, hex.1⟩ F.entry_set_add ?_ (F.args_set_add_2 _ _)
  unfold Builtin.«set.add» Builtin.Frozenset.oneOther
  simp only [List.isEmpty_nil, bind_assoc]
  unfold Builtin.Frozenset.addrOf
  refine wpAny_bind (wpAny_pure ?_)
  try dsimp only
  refine wpAny_bind (wpAny_pure ?_)
  try dsimp only
  refine wpAny_bind (add_val R hx (Nat.lt_of_le_of_lt (show A.in1.units ≤ A.units + 2 from by first | exact Nat.le_succ _ | (show A.units + 1 ≤ A.units + 2; omega)) hu) few fun b h' tk L' es' ep' t' sb htk R' c1 c2 => ?_)
  show wpAny _ _ (ret Value.none) _ _ _
  exact wpAny_pure ⟨_, rfl, hQ h' tk L' es' ep' t' sb htk R' c1 c2⟩
theorem add_ok {A : Around} {E : Value → Shared → Prop} {D a : Addr} {k : Kt} {L : List En} {Q : Value → Shared → Prop} (I : Inv X pins σ H s) (hu : A.units + 2 < cLine) (hD : H D = some (Sto X.prog X.w D L)) (hk : ∀ p ∈ L, KeT X.K H p) (ha : KeT X.K H (a, k)) (few : L.length + 1 < 64)
    (q : ∀ L' s', (k ∈ L.map (·.2) → L' = L) → (k ∉ L.map (·.2) → L'.Perm ((a, k) :: L)) → Inv X pins σ (upd H D (Sto X.prog X.w D L')) s' → Q .none s') : wpAny (model X.prog X.w) A (call (.builtin "set.add") [.ref D, .ref a]) Q E s := by
  have R0 : Sto0 X.prog X.w s.heap D L := (I.hok D _ hD).1
  obtain ⟨es, ep, t, R⟩ := R0.full fun p hp => ket_isk I (hk p hp)
  refine add_call R (ket_isk I ha) hu few fun h' tk L' es' ep' t' sb _ R' c1 c2 => q L' _ c1 c2 ?_
  obtain ⟨o, ho, _⟩ := R'.at_
  exact I.write (e := D) (t' := tk) (by rw [hD]; exact True.intro) (.inl rfl) (fun b u hb hu => (sb.2 b hb).trans hu) ⟨o, ho⟩ (sto_ok R'.less)
end
/-! ### {elt for tg in it if ..} -/
def tSetC (K : PySem.W.Frag) (P : Program) (w : World) (wi : TI) (g : TG) (tt : TT) (te : TE) (vs : List Nat) : TE := fun σ H Q => wi σ H fun J H1 => ∀ D, H1 D = none → ∃ W : Nat → Nat → Hp → Prop, (∃ m, W 0 m (upd H1 D (Sto P w D []))) ∧ ∀ i m H, W i m H →
  (J.stop i H ∧ Q (.ref D) H) ∨ (J.go i H ∧ ∃ Nx : Hp → Prop, (∀ H', Nx H' → ∃ m', m' < m ∧ W (i + 1) m' H') ∧ ∀ x H', J.yld i H x H' → g x (wipe σ vs) H' fun σ2 H2 => wipe σ2 vs = wipe σ vs ∧ tt σ2 H2 fun b H3 =>
    if b = true then te σ2 H3 fun y H4 => ∃ (a : Addr) (k : Kt) (L : List En), y = .ref a ∧ H4 D = some (Sto P w D L) ∧ (∀ p ∈ L, KeT K H4 p) ∧ KeT K H4 (a, k) ∧ L.length + 1 < 64 ∧
      ∀ L', (k ∈ L.map (·.2) → L' = L) → (k ∉ L.map (·.2) → L'.Perm ((a, k) :: L)) → Nx (upd H4 D (Sto P w D L')) else Nx H3)
theorem pe_setC {X : Cx} {elt tg iter : Expr} {ifs : List Expr} {scope : Scope} {own : List (PySem.Str × Nat)} {pos : Pos} {wi : TI} {g : TG} {tt : TT} {te : TE} (hc : X.calm = true) (hu : X.A.units + 64 < cLine) (hN : X.N.Nodup) (hi : PI X tg iter wi) (ok : BlkOk X.N X.env.scope scope own)
    (hg : ∀ (s : Shared) (H : Hp) (C : Addr) (cl : List (PySem.Str × Addr)) (fp : List Addr), PG (X.blk s H scope (compEnvC scope cl C X.env) fp) tg g) (ht : ∀ (s : Shared) (H : Hp) (C : Addr) (cl : List (PySem.Str × Addr)) (fp : List Addr), PTs (X.blk s H scope (compEnvC scope cl C X.env) fp) ifs tt)
    (he : ∀ (s : Shared) (H : Hp) (C : Addr) (cl : List (PySem.Str × Addr)) (fp : List Addr), PE (X.blk s H scope (compEnvC scope cl C X.env) fp) elt te) (hs : ∀ x, foldedSetIterable iter X.env x = pure x := by intro _; rfl) :
    PE X (.SetComp elt [⟨tg, iter, ifs, 0⟩] scope pos) (tSetC X.K X.prog X.w wi g tt te (own.map (·.2))) := by
  refine ⟨fun pins s σ H Q I h => ?_⟩
  rw [PpSet.eval_SetComp]
  have fr : ∀ y ∈ scope.names, y.2 = .free → ∃ c, X.env.cells.lookup y.1 = some c := fun y hy e => I.ok.has _ (ok.free y hy e)
  refine wpAny_comprehension_free (use := none) rfl hs (closure_ok fr) ok.kind (fun y hy e => by rw [ok.uniq y hy, e]) (thn (hi.run pins s σ H _ I h) fun xv s1 hx => thn hx fun itv s2 h2 => ?_)
  obtain ⟨it, fp, tn, J, H2, rfl, I2, T, st2, f2, q⟩ := h2
  refine PpSet.newSet_ok (newEnv_comp ?_)
  generalize hD : s2.heap.objs.size = D
  obtain ⟨W, ⟨m0, w0⟩, turn⟩ := q D (I2.hok.fresh (Nat.le_of_eq hD))
  generalize hs3 : ({ s2 with heap := s2.heap.push { cls := .type "set", dict := none, data := .set #[] 0 (.fresh 0 0 (!X.w.params.followText "set-order")) } } : Shared) = s3
  have h3 : s3.heap = s2.heap.push (set0 X.w) := by rw [← hs3]
  have I3 : Inv X pins σ (upd H2 D (Sto X.prog X.w D [])) s3 := by
    rw [← hs3]
    exact I2.laid (t' := s2.toks) (fun b o e => Heap.get?_push_of_some _ e) (Nat.le_of_eq hD) (sto_ok (stb_new (P := X.prog) (by rw [← hD]; exact Heap.get?_push_size _ rfl)).less)
  have f3 : ∀ b ∈ fp, FpOk X pins (upd H2 D (Sto X.prog X.w D [])) b ∧ b < s3.heap.objs.size := fun b hb => by
    obtain ⟨o, e, _⟩ := T.obj _ _ st2 b hb
    have lt := Heap.lt_size e
    exact ⟨⟨by rw [upd_ne (by rw [← hD]; exact Nat.ne_of_lt lt)]; exact (f2 b hb).1, (f2 b hb).2⟩, by rw [h3, Heap.size_push]; exact Nat.lt_succ_of_lt lt⟩
  have st3 : tn 0 s3.heap := T.keep _ _ _ st2 fun b _ o e => by rw [h3]; exact Heap.get?_push_of_some _ e
  have I4 := block_start I3 ok hN f3
  show codeAny _ _ (.compStart (.SetComp elt [⟨tg, iter, ifs, 0⟩] scope pos) 0 (.ref it) (.ref D) (compEnvC scope (cellsFrom (s3.heap.objs.size + 1) scope.names (cloFrom X.env.cells scope.names [])) s3.heap.objs.size X.env)) (compPost (model X.prog X.w) X.A X.xe none (EP X pins σ Q) (.ref D) s3.heap.objs.size) { s3 with heap := pushCells (s3.heap.push { cls := .type "dict", data := .dict #[] }) scope.names }
  have pg := hg s3 (upd H2 D (Sto X.prog X.w D [])) s3.heap.objs.size (cellsFrom (s3.heap.objs.size + 1) scope.names (cloFrom X.env.cells scope.names [])) fp
  have pt := ht s3 (upd H2 D (Sto X.prog X.w D [])) s3.heap.objs.size (cellsFrom (s3.heap.objs.size + 1) scope.names (cloFrom X.env.cells scope.names [])) fp
  have pe := he s3 (upd H2 D (Sto X.prog X.w D [])) s3.heap.objs.size (cellsFrom (s3.heap.objs.size + 1) scope.names (cloFrom X.env.cells scope.names [])) fp
  have n3 : ∀ b ∈ fp, (upd H2 D (Sto X.prog X.w D [])) b = none := fun b hb => (f3 b hb).1.1
  generalize hce : compEnvC scope (cellsFrom (s3.heap.objs.size + 1) scope.names (cloFrom X.env.cells scope.names [])) s3.heap.objs.size X.env = ce at I4 pg pt pe ⊢
  have cL : ce.locals = s3.heap.objs.size := by subst hce; rfl
  generalize hH3 : upd H2 D (Sto X.prog X.w D []) = H3 at I3 I4 pg pt pe w0 n3 f3
  generalize hs4 : ({ s3 with heap := pushCells (s3.heap.push { cls := .type "dict", data := .dict #[] }) scope.names } : Shared) = s4 at I4 ⊢
  have st4 : tn 0 s4.heap := T.keep _ _ _ st3 fun b _ o e => by rw [← hs4]; exact pushCells_keeps _ _ _ _ (Heap.get?_push_of_some _ e)
  have stat : ∀ {σ' : St} {H' : Hp} {z : Shared}, Inv (X.blk s3 H3 scope ce fp) [] σ' H' z → (∀ b ∈ fp, H' b = none) → ∀ b ∈ fp, FpOk (X.blk s3 H3 scope ce fp) [] H' b := fun {σ' H' z} I' hn b hb =>
    ⟨hn b hb, (I'.ok.exf b hb).1, I'.ok.exfs b hb, .inl hb, fun x c e => (I'.ok.exf b hb).2 x c e, fun p hp => absurd (show p ∈ ([] : List (Addr × Obj)) ++ [] from hp) (by simp)⟩
  refine PpSet.codeAny_compStart_set ?lp (T.self X.A 0 _ _ _ st4 ?lp)
  refine PpSet.compLoopS_any (fun n z => ∃ i H', Inv (X.blk s3 H3 scope ce fp) [] (wipe σ (own.map (·.2))) H' z ∧ tn i z.heap ∧ (∀ b ∈ fp, H' b = none) ∧ W i n H') (fun n s5 hI => ?_) m0 ⟨0, H3, I4, st4, n3, w0⟩
  obtain ⟨i, H5, I5, st5, n5, w5⟩ := hI
  rcases turn i n H5 w5 with ⟨stop, qq⟩ | ⟨go, Nx, hNx, step⟩
  · refine thnF (T.done (X.blk s3 H3 scope ce fp) rfl rfl rfl hc i [] s5 _ H5 (fun _ _ => False) I5 (stat I5 n5) st5 stop) fun r s6 hr => ?_
    obtain ⟨rfl, I6⟩ := hr
    have I7 : Inv X pins σ H5 s6 := I3.call' (ch := fp) I6.os I6.base I6.hok I6.bare fun b hb => ⟨(f3 b hb).1.2.2.2.1, (f3 b hb).1.2.1, (f3 b hb).1.2.2.2.2.1, (f3 b hb).1.2.2.2.2.2⟩
    have nC : H5 s3.heap.objs.size = none := by
      have z : H5 ce.locals = none := I6.free
      rw [← cL]
      exact z
    obtain ⟨m, hn, _⟩ := I6.loc
    have hn : s6.heap.Ns ce.locals m := hn
    rw [cL] at hn
    obtain ⟨a0, a1, _, a3, a4, a5⟩ := I3.fpOk (Nat.le_refl _) nC
    exact ⟨m, hn, fun h'' sb => ⟨.ref D, H5, I7.turned (t' := s6.toks) (fun b o hb e => (sb.2 b hb).trans e) a0 a1 a3 a4 a5, rfl, qq⟩⟩
  · refine thnF (T.item (X.blk s3 H3 scope ce fp) rfl rfl rfl hc i [] s5 _ H5 (fun _ _ => False) I5 (stat I5 n5) st5 go) fun r s6 hr => ?_
    obtain ⟨u, rfl, h6⟩ := hr
    refine thnF h6 fun _ s7 h7 => ?_
    obtain ⟨x, H7, I7, r7, y7, st7, n7⟩ := h7
    refine thnF (pg.run _ s7 _ H7 x u _ (I7.pinned (stat I7 n7) (T.obj _ _ st7)) r7 (step x H7 y7)) fun _ s8 h8 => ?_
    obtain ⟨σ8, H8, I8, hw, q8⟩ := h8
    refine thnF (pt.run _ s8 σ8 H8 _ I8 q8) fun b s9 h9 => ?_
    obtain ⟨H9, I9, q9⟩ := h9
    have onward : ∀ {z : Shared} {H' : Hp}, Inv (X.blk s3 H3 scope ce fp) ([] ++ pinsAt fp s7.heap) σ8 H' z → Nx H' → ∃ m, m < n ∧ ∃ i H', Inv (X.blk s3 H3 scope ce fp) [] (wipe σ (own.map (·.2))) H' z ∧ tn i z.heap ∧ (∀ b ∈ fp, H' b = none) ∧ W i m H' := fun {z H'} I' nx => by
      obtain ⟨m', lt, w'⟩ := hNx H' nx
      have pin : ∀ b ∈ fp, ∀ o, s7.heap.get? b = some o → z.heap.get? b = some o ∧ H' b = none := fun b hb o e =>
        have y := I'.pin (b, o) (List.mem_append_right _ (List.mem_append_right _ (mem_pinsAt hb e)))
        ⟨y.1, y.2.1⟩
      refine ⟨m', lt, i + 1, H', (I'.unpinned (pins := [])).weak (by rw [← hw, wipe_length]) (fun j v e => ?_), T.keep _ _ _ st7 fun b hb o e => (pin b hb o e).1, fun b hb => ?_, w'⟩
      · rw [← hw] at e
        exact (wipe_some e).1
      · obtain ⟨o, e, _⟩ := T.obj _ _ st7 b hb
        exact (pin b hb o e).2
    cases b with
    | false =>
      simp only [Bool.false_eq_true, if_false] at q9 ⊢
      exact onward I9 q9
    | true =>
      simp only [if_true] at q9 ⊢
      refine thnF (pe.run _ s9 σ8 H9 _ I9 q9) fun z s10 h10 => ?_
      obtain ⟨yv, H10, I10, r10, a, k, L, rfl, hD10, hk10, ha10, few, nx⟩ := h10
      obtain rfl : z = Value.ref a := r10
      exact add_ok (X := X.blk s3 H3 scope ce fp) I10 (Nat.lt_of_le_of_lt (Nat.add_le_add_left (by decide) _) hu) hD10 hk10 ha10 few fun L' s11 c1 c2 I11 => onward I11 (nx L' c1 c2)
end DL.TK
set_option Elab.async false
set_option linter.all false
set_option maxRecDepth 100000
set_option maxHeartbeats 2000000
/-! S5: sorted(d), d a dict with tuple keys. -/
namespace DL.TK
open PySem PySem.Spec L2 PySem.W
open PyProof.Rows hiding St
section
variable {X : Cx}
def rSortD (K : PySem.W.Frag) : List V → Hp → VK → Prop := fun xs H Q => ∃ (d : Addr) (kvs : List (List Key × V)), xs = [V.ref d] ∧ Rd H d (.dT kvs) ∧ okK (kvs.map fun p => ktD p.1) = true ∧ kvs.length < 64 ∧
  ∀ (L' : List En) (p : Addr), (L'.map (·.2)).Perm (kvs.map (·.1)) → (∀ q ∈ L', H q.1 = some (.tup (q.2.map kV))) → Srt (L'.map fun p => ktD p.2) → H p = none → Q (.ref p) (upd H p (.lst (L'.map fun p => V.ref p.1)))
theorem cr_sortD (hc : X.calm = true) (hu : X.A.units + 64 < cLine) : CallR X (.builtin "sorted") (rSortD X.K) := by
  intro pins s σ H xs us Q I r h
  obtain ⟨d, kvs, rfl, hd, ok, few, q⟩ := h
  obtain ⟨u, rfl, rx⟩ := r.one
  obtain rfl : u = Value.ref d := rx
  obtain ⟨z, hs, ks, pr, o, es, ep, ho, hx, hdt, he, hn⟩ := (show ObjOk X.prog X.w H s.heap d (.dT kvs) from hd.ok I.hok)
  have l1 : es.size = ks.length := size_of_entries he
  have l2 : kvs.length = ks.length := Paired.length pr
  -- the rows
  have keys : ∀ {kvs : List (List Key × V)} {ks : List (List Key × Addr × Value)}, KT H kvs ks → kvs.map (·.1) = ks.map (·.1) ∧ ∀ x ∈ ks, H x.2.1 = some (.tup (x.1.map kV)) := by
    intro kvs ks r
    induction r with
    | nil => exact ⟨rfl, fun x hx => absurd hx (by simp)⟩
    | cons h _ ih =>
      refine ⟨by rw [List.map_cons, List.map_cons, ih.1, h.1], fun x hx => ?_⟩
      cases hx with
      | head => rw [← h.1]; exact h.2.1
      | tail _ hx => exact ih.2 x hx
  obtain ⟨k1, k2⟩ := keys pr
  obtain ⟨L1, eL⟩ : ∃ L1 : List En, L1 = ks.map fun x => (x.2.1, x.1) := ⟨_, rfl⟩
  have e2 : L1.map (·.2) = kvs.map (·.1) := by rw [eL, List.map_map, k1]; rfl
  have kL : ∀ p ∈ L1, H p.1 = some (.tup (p.2.map kV)) := fun p hp => by
    rw [eL] at hp
    obtain ⟨x, hx, e⟩ := List.mem_map.mp hp
    rw [← e]
    exact k2 x hx
  have ndL : (L1.map (·.2)).Nodup := by rw [e2, k1]; exact hn
  have okL : okK (L1.map fun p => ktD p.2) = true := by
    have e3 : (L1.map fun p => ktD p.2) = kvs.map fun p => ktD p.1 := by
      have a1 : (L1.map fun p => ktD p.2) = (L1.map (·.2)).map ktD := by rw [List.map_map]; rfl
      have a2 : (kvs.map fun p => ktD p.1) = (kvs.map (·.1)).map ktD := by rw [List.map_map]; rfl
      rw [a1, a2, e2]
    rw [e3]
    exact ok
  have lL : L1.length < 64 := by rw [eL, List.length_map]; omega
  refine Calls.call_function_entry kind_sorted plain_sorted entry_sorted (args_sorted1 _) ?_
  unfold Builtin.«sorted»
  refine wpAny_bind (m := checkCount "sorted" 1 1 _) (wpAny_pure ?_)
  refine wpAny_bind (PySem.W.kdu_collect (A := X.A.in1) (kdl_raw hs hx hdt) (I.ok.hd hc) ho (by rw [sizeLine_eq]; omega) fun h1 tk acc kp it => ?_)
  have ea : acc.toList = L1.map fun p => Value.ref p.1 := by
    have hl : acc.toList.length = ks.length := by rw [Array.length_toList, it.1]; exact l1
    apply List.ext_getElem?
    intro j
    rw [eL, List.map_map, List.getElem?_map]
    cases hj : acc.toList[j]? with
    | none =>
      have h1 := List.getElem?_eq_none_iff.mp hj
      rw [List.getElem?_eq_none (by omega)]
      rfl
    | some v =>
      obtain ⟨en, hen, hv⟩ := it.2 j v (by rw [← Array.getElem?_toList]; exact hj)
      have qe := entry_at he j
      rw [hen] at qe
      cases hb : ks[j]? with
      | none =>
        rw [hb] at qe
        exact nomatch (show some en = none from qe)
      | some b =>
        rw [hb] at qe
        have e4 : en = entryOfKey (tupleKind (mixKind X.prog X.w)) b := Option.some.inj qe
        rw [hv, e4]
        rfl
  generalize acc.toList = vs at ea
  have vl : vs.length < 64 := by rw [ea, List.length_map]; exact lL
  refine wpAny_bind (wpAny_newList ?_ (by rw [sizeLine_eq]; omega))
  have hoL : (h1.push (seqObj "list" vs.toArray 0)).get? h1.objs.size = some (seqObj "list" vs.toArray 0) := Heap.get?_push_size _ rfl
  have I1 : Inv X pins σ H { s with heap := h1, toks := tk } := I.kept (t' := tk) kp
  have rd : ∀ p ∈ L1, Reads (h1.push (seqObj "list" vs.toArray 0)) (.ref p.1) (ktD p.2) [] := fun p hp => isk_reads (P := X.prog) (w := X.w) (isk_up (ket_isk I1 (SqT.of (kL p hp))) fun b u e => Heap.get?_push_of_some _ e)
  refine wpAny_bind (wpAny_holding (list_sort_data (R := fun v (p : En) => v = Value.ref p.1) (enc := fun p : En => ktD p.2) (bs := L1) (s := { s with heap := h1.push (seqObj "list" vs.toArray 0), toks := tk }) hoL (by rw [ea]; exact refs_each _ L1 fun _ _ => rfl)
    (by rw [ea]; exact refs_each _ L1 fun p hp => ⟨[], by rw [← ea]; exact rd p hp, by simp⟩) (okK_al okL) (okK_so okL) (by rw [sizeLine_eq]; omega) (fun p _ => ?_) fun out ol eo => ?_))
  · have := depth_kt p.2
    show X.A.in1.units + 1 + (ktD p.2).depth < cLine
    have e : X.A.in1.units = X.A.units + 1 := rfl
    omega
  · have eo2 := each_refs eo
    obtain ⟨c, hcc⟩ := sortedHeap_at (vs := vs) (out := out.toArray) hoL
    have pm2 : (L1.mergeSort (dataLe false fun p : En => ktD p.2)).Perm L1 := List.mergeSort_perm L1 _
    have hfr : H h1.objs.size = none := I1.hok.fresh (Nat.le_refl _)
    have kp2 : ∀ b u, h1.get? b = some u → (sortedHeap (h1.push (seqObj "list" vs.toArray 0)) h1.objs.size vs out.toArray).get? b = some u := fun b u e => by
      have lt := Heap.lt_size e
      rw [sortedHeap_old (Nat.ne_of_lt lt) (by rw [size_push']; exact Nat.lt_succ_of_lt lt)]
      exact Heap.get?_push_of_some _ e
    refine wpAny_pure ⟨_, rfl, .ref h1.objs.size, upd H h1.objs.size (.lst ((L1.mergeSort (dataLe false fun p : En => ktD p.2)).map fun p => V.ref p.1)), ?_, rfl, q _ _ (by rw [← e2]; exact pm2.map _) (fun p hp => kL p (pm2.mem_iff.mp hp)) (merge_srt ndL) hfr⟩
    refine I1.laid (t' := tk) kp2 (Nat.le_refl _) ⟨by rw [List.length_map, pm2.length_eq, sizeLine_eq]; omega, out, c, by rw [eo2]; exact vals_refs _, ?_⟩
    exact hcc
end
end DL.TK
set_option Elab.async false
set_option linter.all false
set_option maxRecDepth 100000
set_option maxHeartbeats 1000000
/-! D7: exceptions as values: made, their fields, isinstance. -/
namespace DL
open PySem PySem.Spec L2
open PyProof.Rows hiding St
variable [CN]
/-! ### self.f = y as a target -/
def gOst (K : PySem.W.Frag) (C : Addr) (f : Str) (to : TE) : TG := fun y σ H Q => to σ H fun x H2 => ∃ a : Addr, x = .ref a ∧
  ((H2 a = some (exo a C none) ∧ ∀ dx, H2 dx = none → dx ≠ a → Q σ (upd (upd H2 dx (exd dx [(f, y)])) a (exo a C (some dx)))) ∨
    ∃ (dx : Addr) (fs : List (Str × V)), H2 a = some (exo a C (some dx)) ∧ H2 dx = some (exd dx fs) ∧ fs.length ≤ 900 ∧ Q σ (upd H2 dx (exd dx ((f, y) :: fs))))
theorem pg_ost {X : Cx} {C : Addr} {o : Expr} {f : Str} {to : TE} {p' : Pos} (T : OexC X.K C) (hno : PySem.W.findIn X.K (.ref C) f = some none) (ho : PE X o to) : PG X (.Attribute o f p') (gOst X.K C f to) := by
  refine ⟨fun pins s σ H y u Q I r h => ?_⟩
  refine PySem.W.kas_attr (thn (ho.run pins s σ H _ I h) fun v s1 ⟨x, H2, I2, r2, a, ex, q⟩ => ?_)
  subst ex
  obtain rfl : v = Value.ref a := r2
  rcases q with ⟨ea, q⟩ | ⟨dx, fs, ea, ed, hl, q⟩
  · exact ost_new T I2 ea hno r fun dx s' n ne J => ⟨σ, _, J, q dx n ne⟩
  · exact ost_old T I2 ea ed hl hno r fun s' J => ⟨σ, _, J, q⟩
/-! ### an own __init__ that stores its arguments -/
/-- the promise: fields fn, the last one first -/
def spX (C : Addr) (fn : List Str) : Sp := fun vs H Q _ => ∃ (a : Addr) (ys : List V), vs = .ref a :: ys ∧ ys.length = fn.length ∧ H a = some (exo a C none) ∧
  ∀ dx H', (∀ b o, b ≠ a → H b = some o → H' b = some o) → dx ≠ a → H dx = none → H' a = some (exo a C (some dx)) → H' dx = some (exd dx (fn.zip ys).reverse) → Q .non H'
section
variable {K : PySem.W.Frag} {C : Addr} {f0 f1 f2 : Str} {vs : List V} {H : Hp} {Q : VK} {E : XK} {D : Ends}
theorem spX_len {fn : List Str} (h : spX C fn vs H Q E) : vs.length = fn.length + 1 := by
  obtain ⟨a, ys, e, hl, _⟩ := h
  rw [e, List.length_cons, hl]
theorem upd_old {H : Hp} {a b : Addr} {o u : HO} (h : b ≠ a) (e : H b = some u) : upd H a o b = some u := by rw [upd_ne h]; exact e
theorem tI1_ok {N : List Str} (hN : N.length = 2) (hD : ∀ σ H', D.nx σ H' = Q .non H') (h : spX C [f0] vs H Q E) : tAsg (tVar 1) (gOst K C f0 (tVar 0)) D (start N vs) H := by
  obtain ⟨a, ys, e, hl, ha, q⟩ := h
  obtain ⟨y, rfl⟩ : ∃ y, ys = [y] := by
    match ys, hl with
    | [y], _ => exact ⟨y, rfl⟩
  subst e
  refine ⟨y, rfl, .ref a, rfl, a, rfl, .inl ⟨ha, fun dx hn ne => ?_⟩⟩
  rw [hD]
  refine q dx _ (fun b o hb eb => upd_old hb (upd_old (ne_of_none eb hn) eb)) ne hn upd_same (upd_old ne upd_same)
theorem tI2_ok {N : List Str} (hN : N.length = 3) (hD : ∀ σ H', D.nx σ H' = Q .non H') (h : spX C [f0, f1] vs H Q E) : tAsg (tTup (tCons (tVar 1) (tCons (tVar 2) tNil))) (gTup K 2 (gCons (gOst K C f0 (tVar 0)) (gCons (gOst K C f1 (tVar 0)) gNil))) D (start N vs) H := by
  obtain ⟨a, ys, e, hl, ha, q⟩ := h
  obtain ⟨y, z, rfl⟩ : ∃ y z, ys = [y, z] := by
    match ys, hl with
    | [y, z], _ => exact ⟨y, z, rfl⟩
  subst e
  refine ⟨y, rfl, z, rfl, Nat.le_of_lt (small1000 (show 2 ≤ 1000 by decide)), fun p hp => ⟨p, [y, z], rfl, SqT.of upd_same, rfl, y, [z], rfl, .ref a, rfl, a, rfl, .inl ⟨upd_old (ne_of_none ha hp) ha, fun dx hn ne => ?_⟩⟩⟩
  have np : dx ≠ p := fun z => by rw [z, upd_same] at hn; cases hn
  have hn' : H dx = none := by rw [upd_ne np] at hn; exact hn
  refine ⟨z, [], rfl, .ref a, rfl, a, rfl, .inr ⟨dx, _, upd_same, upd_old ne upd_same, (by show (1:Nat) ≤ 900; decide), rfl, ?_⟩⟩
  rw [hD]
  exact q dx _ (fun b o hb eb => upd_old (ne_of_none eb hn') (upd_old hb (upd_old (ne_of_none eb hn') (upd_old (ne_of_none eb hp) eb)))) ne hn' (upd_old (Ne.symm ne) upd_same) upd_same
theorem tI3_ok {N : List Str} (hN : N.length = 4) (hD : ∀ σ H', D.nx σ H' = Q .non H') (h : spX C [f0, f1, f2] vs H Q E) : tAsg (tTup (tCons (tVar 1) (tCons (tVar 2) (tCons (tVar 3) tNil)))) (gTup K 3 (gCons (gOst K C f0 (tVar 0)) (gCons (gOst K C f1 (tVar 0)) (gCons (gOst K C f2 (tVar 0)) gNil)))) D (start N vs) H := by
  obtain ⟨a, ys, e, hl, ha, q⟩ := h
  obtain ⟨y, z, x, rfl⟩ : ∃ y z x, ys = [y, z, x] := by
    match ys, hl with
    | [y, z, x], _ => exact ⟨y, z, x, rfl⟩
  subst e
  refine ⟨y, rfl, z, rfl, x, rfl, Nat.le_of_lt (small1000 (show 3 ≤ 1000 by decide)), fun p hp => ⟨p, [y, z, x], rfl, SqT.of upd_same, rfl, y, [z, x], rfl, .ref a, rfl, a, rfl, .inl ⟨upd_old (ne_of_none ha hp) ha, fun dx hn ne => ?_⟩⟩⟩
  have np : dx ≠ p := fun z => by rw [z, upd_same] at hn; cases hn
  have hn' : H dx = none := by rw [upd_ne np] at hn; exact hn
  refine ⟨z, [x], rfl, .ref a, rfl, a, rfl, .inr ⟨dx, _, upd_same, upd_old ne upd_same, (by show (1:Nat) ≤ 900; decide), x, [], rfl, .ref a, rfl, a, rfl, .inr ⟨dx, _, upd_old (Ne.symm ne) upd_same, upd_same, (by show (2:Nat) ≤ 900; decide), rfl, ?_⟩⟩⟩
  rw [hD]
  exact q dx _ (fun b o hb eb => upd_old (ne_of_none eb hn') (upd_old (ne_of_none eb hn') (upd_old hb (upd_old (ne_of_none eb hn') (upd_old (ne_of_none eb hp) eb))))) ne hn' (upd_old (Ne.symm ne) (upd_old (Ne.symm ne) upd_same)) upd_same
end
/-! ### C(e, ..) as a value -/
def tMkV (C : Addr) (sp : Sp) (ta : TA) : TE := fun σ H Q => ta σ H fun vs H1 => vs.length ≤ 1000 ∧ ∀ a, H1 a = none → sp (.ref a :: vs) (upd H1 a (exo a C none)) (fun v H2 => v = .non ∧ Q (.ref a) H2) E0
theorem pe_mkV {X : Cx} {x : Str} {e : Expr} {es : List Expr} {ta : TA} {p pos : Pos} {C fI : Addr} {k : Nat} {fd : FuncData} {ps : List Str} {sp : Sp} (T : OexC X.K C) (iC : PySem.W.findIn X.K (.ref C) "__init__" = some (some (.ref fI))) (tI : PySem.W.typeIn X.K (.ref fI) = some (.type "function"))
    (F1 : FnOk X.prog X.w X.K X.mg X.base CX0 k fI fd ps sp) (hr : Room (k + 1) X.A) (hb : Binds X.K fd ps []) (hg : Gl X x) (hm : X.mg x = some (.ref C)) (ha : PA X (e :: es) ta)
    (hdb : (x == ("__debug__" : Str)) = false := by decide) (he : starEach (e :: es) X.env = (false, eval e X.env) :: starEach es X.env := by rfl) (hpl : (backTo pos (starEach es X.env)).any (·.1) = false := by rfl) :
    PE X (.Call (.Name x p) (e :: es) [] pos) (tMkV C sp ta) := by
  refine ⟨fun pins s σ H Q I h => ?_⟩
  obtain ⟨nm, q, N, bs, bm, sn, sub, ab, col, dd, k0, k1, k2, k3, k5, hC, hbm⟩ := T.cls
  refine wpAny_Call_Name_kw (ld_glob I hg hm ?_ hdb)
  refine PySem.W.callWith_K (h₀ := X.base) I.ok.mod.kin T.kC (thn (ha.run pos pins s σ H _ I h) fun us s1 ⟨vs, H1, I1, r1, hz, q1⟩ => ⟨I1.kIn, ?_⟩) he hpl
  show wpAny _ _ (call (.ref C) us) _ _ _
  obtain ⟨hp, g, dr, tk, os⟩ := s1
  have hsz : hp.objs.size ≤ hp.objs.size + 1 := Nat.le_succ _
  have hn : H1 (hp.objs.size + 1) = none := I1.hok.fresh hsz
  have hq := q1 (hp.objs.size + 1) hn
  have kk : ∀ b o, hp.get? b = some o → ((hp.push (PySem.W.kdv_tup us)).push (PySem.HandSPX.excO C hp.objs.size)).get? b = some o := fun b o e => Heap.get?_push_of_some _ (Heap.get?_push_of_some _ e)
  have hget : ((hp.push (PySem.W.kdv_tup us)).push (PySem.HandSPX.excO C hp.objs.size)).get? (hp.objs.size + 1) = some (PySem.HandSPX.excO C hp.objs.size) := by heap_get
  have I2 : Inv X pins σ (upd H1 (hp.objs.size + 1) (exo (hp.objs.size + 1) C none)) ⟨(hp.push (PySem.W.kdv_tup us)).push (PySem.HandSPX.excO C hp.objs.size), g, dr, tk, os⟩ :=
    I1.laid (t' := tk) (a := hp.objs.size + 1) (o := exo (hp.objs.size + 1) C none) (h' := (hp.push (PySem.W.kdv_tup us)).push (PySem.HandSPX.excO C hp.objs.size)) kk hsz (exo_ok hget)
  have r2 : Vals (V.ref (hp.objs.size + 1) :: vs) (Value.ref (hp.objs.size + 1) :: us) := .cons rfl r1
  have hl : (Value.ref (hp.objs.size + 1) :: us ++ []).length = ps.length := by
    have e := r2.length
    rw [F1.len _ _ _ _ hq] at e
    rw [List.append_nil]
    exact e.symm
  have hus : us.length ≤ sizeLine := by
    rw [← Paired.length r1, sizeLine_eq]
    omega
  have b2 := hb _ (Value.ref (hp.objs.size + 1) :: us) I2.kIn hl
  rw [List.append_nil] at b2
  refine wpAny_call (PySem.HandSPX.call_own PySem.F.excBase_ValueError (fun Y => PySem.HandSPX.refsVE_contains Y bm hbm) (I1.kIn _ _ hC) (PySem.W.looks_findIn I1.kIn iC) (fun self => PySem.W.bind_fn I1.kIn self tI) hus
    (codeAny_mono (F1.run _ X.stack _ _ ⟨Value.ref (hp.objs.size + 1) :: us, []⟩ (Value.ref (hp.objs.size + 1) :: us) _ _ _ (hr.make C us []) (I2.env0.make C us []) b2 r2 hq) fun r s' hq' => ?_))
  cases r with
  | error er => exact hq'.elim
  | ok fl =>
    cases fl with
    | ret u =>
      obtain ⟨v, H2, I3, rv, ev, q2⟩ := I2.after hq'
      subst ev
      exact ⟨rv, .ref (hp.objs.size + 1), H2, I3, rfl, q2⟩
    | next => exact hq'.elim
    | brk => exact hq'.elim
    | cont => exact hq'.elim
/-- C(), no __init__ of its own -/
def tMkV0 (C : Addr) : TE := fun σ H Q => ∀ a, H a = none → Q (.ref a) (upd H a (exo a C none))
theorem pe_mkV0 {X : Cx} {x : Str} {p pos : Pos} {C : Addr} {bmB : List Value} (F : ExcBaseFacts "ValueError" "ValueError.__new__" "ValueError.__init__" bmB) (q : PySem.W.excIn X.K C bmB "ValueError.__new__" = true) (kC : PySem.W.keepIn X.K (.ref C) = true) (hg : Gl X x) (hm : X.mg x = some (.ref C)) (hdb : (x == ("__debug__" : Str)) = false := by decide) :
    PE X (.Call (.Name x p) [] [] pos) (tMkV0 C) := by
  refine ⟨fun pins s σ H Q I h => ?_⟩
  refine wpAny_Call_Name_kw (ld_glob I hg hm ?_ hdb)
  refine PySem.W.callWith_K0 I.kIn kC ?_
  show wpAny _ _ (call (.ref C) []) _ _ _
  obtain ⟨bm, N, nm, qn, bs, hdct, sn, sub, ab, col, dd, k0, k1, k2, k3, k5, mN, hC, hN, hni, T⟩ := exc_obj I.kIn q
  refine wpAny_call_exc_subT F T hC hN hni (fun h' a hm => ?_) (by show 0 ≤ sizeLine; rw [sizeLine_eq]; omega)
  have hn : H a = none := I.hok.gone hm.new
  obtain ⟨t, ht, _, _⟩ := hm.there
  exact ⟨.ref a, upd H a (exo a C none), I.laidN hm.keeps hm.new hn (exo_ok ht), rfl, h a hn⟩
/-! ### e.f, isinstance(e, X) -/
def tXfV (C : Addr) (f : Str) (te : TE) : TE := fun σ H Q => te σ H fun x H1 => ∃ (a dx : Addr) (fs : List (Str × V)) (v : V), x = .ref a ∧ H1 a = some (exo a C (some dx)) ∧ H1 dx = some (exd dx fs) ∧ fs.lookup f = some v ∧ Q v H1
theorem inst_exo {X : Cx} {pins : List (Addr × Obj)} {σ : St} {H : Hp} {s : Shared} {a C dx : Addr} {fs : List (Str × V)} (I : Inv X pins σ H s) (ea : H a = some (exo a C (some dx))) (ed : H dx = some (exd dx fs)) :
    ∃ ox od, PySem.W.InstAt s.heap a ox C (some od) ∧ ∀ f, ∃ o, PySem.W.lookIn f od = some o ∧ RelO (fs.lookup f) o := by
  obtain ⟨t1, ho⟩ := exo_at I.hok ea
  obtain ⟨mA, hns, rel⟩ := exd_at I.hok ed
  obtain ⟨od, hd, hl⟩ := lookIn_ns hns
  exact ⟨_, od, ⟨ho, rfl, rfl, hd⟩, fun f => ⟨mA f, hl f, rel f⟩⟩
theorem pe_xfV {X : Cx} {C : Addr} {e : Expr} {te : TE} {pos : Pos} {n : Str} (T : XfC X.K C) (hno : PySem.W.findIn X.K (.ref C) n = some none) (he : PE X e te) (hb : attributeBase e n X.env (eval e X.env) = eval e X.env := by rfl) :
    PE X (.Attribute e n pos) (tXfV C n te) := by
  refine ⟨fun pins s σ H Q I h => ?_⟩
  refine attr_of hb (thn (he.run pins s σ H _ I h) fun u s1 hh => ?_)
  obtain ⟨x, H1, I1, rx, a, dx, fs, v, ex, ea, ed, l, q⟩ := hh
  subst ex
  obtain rfl : u = Value.ref a := rx
  obtain ⟨ox, od, J, hl⟩ := inst_exo I1 ea ed
  obtain ⟨o, ho, r⟩ := hl n
  rw [l] at r
  obtain ⟨u, hu, ru⟩ := RelO.some_of (v := v) (o := o) r
  exact HandSPX.exc_get I1.kIn J T.ga T.gg T.exC (PySem.W.findObj_own T.hdC hno rfl (by rw [ho, hu])) (handed_of ru) ⟨v, H1, I1.tok _, ru, q⟩
/-- isinstance(e, c), e an exception of the class at C -/
def rIsX (K : PySem.W.Frag) : List V → Hp → VK → Prop := fun xs H Q => ∃ (a C : Addr) (d : Option Addr) (c : V) (cv : Value) (b : Bool), xs = [.ref a, c] ∧ H a = some (exo a C d) ∧ (∀ dx, d = some dx → ∃ fs, H dx = some (exd dx fs)) ∧ ExcC K C ∧ (∀ u, RelV c u → u = cv) ∧ PySem.W.kitOne K (.ref C) cv = some b ∧ Q (.bl b) H
theorem call_isX {X : Cx} : CallR X (.builtin "isinstance") (rIsX X.K) := by
  intro pins s σ H xs us Q I r h
  obtain ⟨a, C, d, c, cv, b, rfl, ea, hd, T, hcv, e, q⟩ := h
  cases r with
  | cons rx rr =>
    cases rr with
    | cons rt rr =>
      cases rr
      cases rx
      have ec := hcv _ rt
      subst ec
      have hcl : (PySem.W.clsIn X.K C).isSome = true := by
        obtain ⟨cd, hc, _⟩ := PySem.W.any_some T.hd
        rw [hc]
        rfl
      have J : ∃ ox od, PySem.W.InstAt s.heap a ox C od := by
        obtain ⟨t1, ho⟩ := exo_at I.hok ea
        cases d with
        | none => exact ⟨_, none, ho, rfl, rfl, trivial⟩
        | some dx =>
          obtain ⟨fs, ed⟩ := hd dx rfl
          obtain ⟨ox, od, J, _⟩ := inst_exo I ea ed
          exact ⟨ox, some od, J⟩
      obtain ⟨ox, od, J⟩ := J
      exact PySem.W.kia_one (PySem.W.kitx_exc hcl T.hg T.hk T.hs T.ha T.hn T.ht T.hm) I.kIn J e (fun z => nomatch z) fun tk => ⟨.bl b, H, I.kept (t' := tk) fun _ _ z => z, rfl, q⟩
/-! ### as functions -/
variable {L : Lang}
def excD (c : Nat) (fn : List Str) (xs : List PD) : PD := .dict ((.int c, .list xs.reverse) :: fn.reverse.map fun x => (.str x, .none))
def eMkE (c : Nat) (fn : List Str) (fa : Ea L) : Ev L := fun δ => match fa δ with
  | some (ds, δ') => match pds ds with
    | some xs => if xs.length = fn.length ∧ xs.length ≤ 1000 then some (.dv (.d (excD c fn xs)), δ') else none
    | none => none
  | none => none
def eMk0 (c : Nat) : Ev L := fun δ => some (.dv (.d (.dict [(.int c, .none)])), δ)
def res (M : Mp) (H : Hp) : Mp := fun a => M a ∧ H a ≠ none
theorem grow {p0 : Option V} {H H' : Hp} {M : Mp} {ft : Nat → Addr → Prop} {σ : St} {δ : List (SV L)} (R : Rp L p0 H M ft σ δ) (k : Same H H') : Step H M ft H' (res M H) ft ∧ Rp L p0 H' (res M H) ft σ δ ∧ ∀ b o, H b = none → H' b = some o → hid H' (res M H) b = some o := by
  have ext : Same (hid H M) (hid H' (res M H)) := fun a u h => by
    obtain ⟨m, e⟩ := hid_some.mp h
    exact hid_some.mpr ⟨fun z => m z.1, k _ _ e⟩
  refine ⟨⟨ext, fun a u hm hf e => ⟨k _ _ e, ⟨hm, by rw [e]; exact fun z => nomatch z⟩, hf⟩⟩, R.carry ext fun i a u fa e => ⟨k _ _ e, R.inM i a fa, by rw [e]; exact fun z => nomatch z⟩, fun b o n e => hid_some.mpr ⟨fun z => z.2 n, e⟩⟩
theorem DkAll.reverse {H : Hp} {vs : List V} {ds : List PD} (h : DkAll H vs ds) : DkAll H vs.reverse ds.reverse := by
  match vs, ds, h with
  | _, _, .nil => exact .nil
  | v :: vs, d :: ds, .cons h r =>
    rw [List.reverse_cons, List.reverse_cons]
    exact (DkAll.reverse r).append (.cons h .nil)
theorem zip_snd : ∀ {fn : List Str} {ys : List V}, ys.length = fn.length → (fn.zip ys).map (·.2) = ys
  | [], [], _ => rfl
  | f :: fn, y :: ys, h => by
    rw [List.zip_cons_cons, List.map_cons, zip_snd (by simpa using h)]
theorem zip_fst : ∀ {fn : List Str} {ys : List V}, ys.length = fn.length → (fn.zip ys).map (fun p => (PyData.str p.1, PyData.none)) = fn.map fun x => (PyData.str x, PyData.none)
  | [], [], _ => rfl
  | f :: fn, y :: ys, h => by
    rw [List.zip_cons_cons, List.map_cons, List.map_cons, zip_fst (by simpa using h)]
theorem snd_mkE {C : Addr} {c : Nat} {fn : List Str} {fa : Ea L} {t : TA} (hc : CN.n C = c) (h : SndA L fa t) : SndE L (eMkE c fn fa) (tMkV C (spX C fn) t) := fun p0 σ H M ft δ r δ' R e Q q => by
  unfold eMkE at e
  split at e
  · rename_i ds δ1 e1
    split at e
    · rename_i xs e2
      split at e
      · rename_i hl
        cases e
        refine h p0 σ H M ft δ _ _ R e1 _ fun vs H1 M1 ft1 s1 R1 k1 => ?_
        have k2 := pds_all k1 e2
        have hv := DkAll.length k2
        refine ⟨by rw [hv]; exact hl.2, fun a ha => ⟨a, vs, rfl, by rw [hv]; exact hl.1, upd_same, fun dx H' keep ne hdx ea ed => ⟨rfl, ?_⟩⟩⟩
        have hdx' : H1 dx = none := by rw [upd_ne ne] at hdx; exact hdx
        obtain ⟨s2, R2, nw⟩ := grow (H' := H') R1 (fun b o eb => keep b o (ne_of_none eb ha) (upd_old (ne_of_none eb ha) eb))
        refine q _ _ _ _ (s1.trans s2) R2 ?_
        refine Dk.exc (nw _ _ ha ea) (nw _ _ hdx' ed) (ds := xs.reverse) ?_ ?_
        · rw [List.map_reverse, zip_snd (by rw [hv]; exact hl.1)]
          exact (k2.mono s2.ext).reverse
        · rw [hc]
          refine congrArg _ (Eq.symm ?_)
          refine (List.map_reverse).trans ((congrArg List.reverse (zip_fst (fn := fn) (ys := vs) (by rw [hv]; exact hl.1))).trans (List.map_reverse).symm)
      · cases e
    · cases e
  · cases e
theorem snd_mk0 {C : Addr} {c : Nat} (hc : CN.n C = c) : SndE L (eMk0 c) (tMkV0 C) := fun p0 σ H M ft δ r δ' R e Q q => by
  cases e
  intro a ha
  obtain ⟨s2, R2, nw⟩ := grow (H' := upd H a (exo a C none)) R (fun b o eb => upd_old (ne_of_none eb ha) eb)
  refine q _ _ _ _ s2 R2 (Dk.exc0 (nw _ _ ha upd_same) ?_)
  rw [hc]
def fldD (f : Str) : List (PD × PD) → List PD → Option PD
  | (.str g, _) :: kv, x :: xs => if f = g then some x else fldD f kv xs
  | _, _ => none
theorem fldD_ok {G : Hp} {f : Str} {z : PD} : ∀ {fs : List (Str × V)} {ds : List PD}, DkAll G (fs.map (·.2)) ds → fldD f (fs.map fun p => (.str p.1, .none)) ds = some z → ∃ v, fs.lookup f = some v ∧ Dk G v z
  | [], _, _, h => by cases h
  | (g, v) :: fs, d :: ds, .cons k r, h => by
    unfold fldD at h
    simp only [List.map_cons] at h
    rw [lookup_put]
    split at h
    · rename_i e
      cases h
      exact ⟨v, if_pos e, k⟩
    · rename_i e
      obtain ⟨w, hw, kw⟩ := fldD_ok r h
      exact ⟨w, by rw [if_neg e]; exact hw, kw⟩
def eFld (c : Nat) (f : Str) (fe : Ev L) : Ev L := fun δ => match frz fe δ with
  | some (.d (.dict ((.int i, .list xs) :: kv)), δ') => if i = (c : Nat) then match fldD f kv xs with
      | some z => some (.dv (.d z), δ')
      | none => none
    else none
  | _ => none
theorem snd_fld {C : Addr} {c : Nat} {f : Str} {fe : Ev L} {t : TE} (hc : ∀ C', CN.n C' = c → C' = C) (h : SndE L fe t) : SndE L (eFld c f fe) (tXfV C f t) := fun p0 σ H M ft δ r δ' R e Q q => by
  unfold eFld at e
  split at e
  · rename_i i xs kv δ1 e1
    split at e
    · rename_i hi
      split at e
      · rename_i z ez
        cases e
        refine h.frz p0 σ H M ft δ _ _ R e1 _ fun v H1 M1 ft1 s1 R1 k1 => ?_
        have k2 : Dk (hid H1 M1) v (.dict ((.int i, .list xs) :: kv)) := k1
        cases k2 with
        | exc ea ed k ekv =>
          rename_i a C' dx fs ds
          injection ekv with e2 e3
          injection e2 with e4 e5
          injection e4 with e4
          injection e5 with e5
          subst e3 e5
          have ec : C' = C := hc C' (by rw [hi] at e4; exact (Int.ofNat.inj e4).symm)
          subst ec
          obtain ⟨u, hu, ku⟩ := fldD_ok k ez
          exact ⟨a, dx, fs, u, rfl, hid_same _ _ ea, hid_same _ _ ed, hu, q _ _ _ _ s1 R1 ku⟩
        | exc0 ea ekv => cases ekv
      · cases e
    · cases e
  · cases e
/-- isinstance(e, X) -/
def eIsX (n : Nat) (cs : List Nat) (fe : Ev L) : Ev L := fun δ => match frz fe δ with
  | some (.d (.dict ((.int (.ofNat c), _) :: _)), δ') => if c < n then some (.dv (.d (.bool (cs.contains c))), δ') else none
  | _ => none
section
variable {X : Cx} {e : Expr} {es : List Expr} {pos p p2 apos : Pos} {x y m : Str} {C : Addr} {c n : Nat}
theorem de_isX {f : Ev L} {cs : List Nat} {cV : V} {cv : Value} (h : DE L X e f) (hy : PE X (.Name y p2) (tC cV)) (hcv : ∀ u, RelV cV u → u = cv) (hk : ∀ C, CN.n C < n → ExcC X.K C ∧ PySem.W.kitOne X.K (.ref C) cv = some (cs.contains (CN.n C)))
    (hm : X.mg "isinstance" = none) (hv : bootBuiltins "isinstance" = some (.builtin "isinstance")) (hg : Gl X "isinstance" := by rfl) (he : starEach (e :: [.Name y p2]) X.env = (false, eval e X.env) :: starEach [.Name y p2] X.env := by rfl) (he2 : starEach (.Name y p2 :: []) X.env = (false, eval (.Name y p2) X.env) :: starEach [] X.env := by rfl)
    (hpl : (backTo pos (starEach [.Name y p2] X.env)).any (·.1) = false := by rfl) : DE L X (.Call (.Name "isinstance" p) [e, .Name y p2] [] pos) (eIsX n cs f) := by
  obtain ⟨t, pa, sa⟩ := h
  refine ⟨_, pe_callB call_isX hg hm hv (pa_cons pa (pa_cons hy pa_nil he2) he) (by decide) (by decide) he hpl, fun p0 σ H M ft δ r δ' R e Q q => ?_⟩
  unfold eIsX at e
  split at e
  · rename_i c d kv δ1 e1
    split at e
    · rename_i hn
      cases e
      refine sa.frz p0 σ H M ft δ _ _ R e1 _ fun v H1 M1 ft1 s1 R1 k1 => ?_
      have k2 : Dk (hid H1 M1) v (.dict ((.int (.ofNat c), d) :: kv)) := k1
      cases k2 with
      | exc ea ed k ekv =>
        rename_i a C' dx fs ds
        injection ekv with e2 e3
        injection e2 with e4 e5
        injection e4 with e4
        have ec : c = CN.n C' := Int.ofNat.inj e4
        obtain ⟨T, hb⟩ := hk C' (ec ▸ hn)
        exact ⟨a, C', some dx, cV, cv, _, rfl, hid_same _ _ ea, (fun dx' z => by cases z; exact ⟨fs, hid_same _ _ ed⟩), T, hcv, hb, q _ _ _ _ s1 R1 (by rw [ec]; exact .bl _)⟩
      | exc0 ea ekv =>
        rename_i a C'
        injection ekv with e2 e3
        injection e2 with e4 e5
        injection e4 with e4
        have ec : c = CN.n C' := Int.ofNat.inj e4
        obtain ⟨T, hb⟩ := hk C' (ec ▸ hn)
        exact ⟨a, C', none, cV, cv, _, rfl, hid_same _ _ ea, (fun dx' z => nomatch z), T, hcv, hb, q _ _ _ _ s1 R1 (by rw [ec]; exact .bl _)⟩
    · cases e
  · cases e
/-- what K says of an own exception class with number c and its own __init__ -/
structure ExK (P : Program) (w : World) (K : PySem.W.Frag) (mg : Str → Option Value) (base : Heap) (x : Str) (c : Nat) (fn : List Str) : Prop where
  ex : ∃ C fI fd ps, mg x = some (.ref C) ∧ CN.n C = c ∧ (∀ C', CN.n C' = c → C' = C) ∧ OexC K C ∧ XfC K C ∧ (∀ f ∈ fn, PySem.W.findIn K (.ref C) f = some none) ∧ PySem.W.findIn K (.ref C) "__init__" = some (some (.ref fI)) ∧ PySem.W.typeIn K (.ref fI) = some (.type "function") ∧
    FnOk P w K mg base CX0 1 fI fd ps (spX C fn) ∧ Binds K fd ps []
theorem de_mkE {fa : Ea L} {fn : List Str} (T : ExK X.prog X.w X.K X.mg X.base x c fn) (hr : Room 2 X.A) (ha : DA L X (e :: es) fa) (hg : Gl X x := by rfl)
    (hdb : (x == ("__debug__" : Str)) = false := by decide) (he : starEach (e :: es) X.env = (false, eval e X.env) :: starEach es X.env := by rfl) (hpl : (backTo pos (starEach es X.env)).any (·.1) = false := by rfl) :
    DE L X (.Call (.Name x p) (e :: es) [] pos) (eMkE c fn fa) := by
  obtain ⟨C, fI, fd, ps, hm, hc, _, O, _, _, iC, tI, F1, hb⟩ := T
  obtain ⟨t, pa, sa⟩ := ha
  exact ⟨_, pe_mkV O iC tI F1 hr hb hg hm pa hdb he hpl, snd_mkE hc sa⟩
theorem de_fld {f : Ev L} {fn : List Str} (T : ExK X.prog X.w X.K X.mg X.base x c fn) (hf : m ∈ fn) (h : DE L X e f) (hb : attributeBase e m X.env (eval e X.env) = eval e X.env := by rfl) : DE L X (.Attribute e m pos) (eFld c m f) := by
  obtain ⟨C, fI, fd, ps, hm, _, hc, _, XC, hn, _⟩ := T
  obtain ⟨t, pa, sa⟩ := h
  exact ⟨_, pe_xfV XC (hn m hf) pa hb, snd_fld hc sa⟩
/-- .. without one -/
structure ExK0 (K : PySem.W.Frag) (mg : Str → Option Value) (x : Str) (c : Nat) : Prop where
  ex : ∃ (C : Addr) (bmB : List Value), mg x = some (.ref C) ∧ CN.n C = c ∧ Nonempty (ExcBaseFacts "ValueError" "ValueError.__new__" "ValueError.__init__" bmB) ∧ PySem.W.excIn K C bmB "ValueError.__new__" = true ∧ PySem.W.keepIn K (.ref C) = true
theorem de_mk0 (T : ExK0 X.K X.mg x c) (hg : Gl X x := by rfl) (hdb : (x == ("__debug__" : Str)) = false := by decide) : DE L X (.Call (.Name x p) [] [] pos) (eMk0 c) := by
  obtain ⟨C, bmB, hm, hc, ⟨F⟩, q, kC⟩ := T
  exact ⟨_, pe_mkV0 F q kC hg hm hdb, snd_mk0 hc⟩
end
end DL
set_option Elab.async false
set_option linter.all false
set_option maxRecDepth 100000
set_option maxHeartbeats 1000000
/-! D8: sorted(set(xs)), sorted({.. for .. in .. if ..}) as functions. -/
namespace DL
open PySem PySem.Spec L2 TK
open PyProof.Rows hiding St
variable [CN]
variable {L : Lang}
theorem dk_ktD {G : Hp} {v : V} {k : Kt} (h : Dk G v (ktD k)) : ∃ a, v = .ref a ∧ G a = some (.tup (k.map kV)) := by
  have kk : ∀ {k : Kt} {vs : List V}, DkAll G vs (k.map keyD) → vs = k.map kV := by
    intro k
    induction k with
    | nil => intro vs h; cases h; rfl
    | cons x k ih =>
      intro vs h
      cases h with
      | cons h r =>
        rw [ih r]
        cases x with
        | inl i => cases h; rfl
        | inr i => cases h; rfl
  unfold ktD at h
  cases h with
  | tup ha r => exact ⟨_, rfl, by rw [ha, kk r]⟩
theorem ktD_dk {G : Hp} {a : Addr} {k : Kt} (h : G a = some (.tup (k.map kV))) : Dk G (.ref a) (ktD k) := by
  refine .tup h ?_
  induction k generalizing a with
  | nil => exact .nil
  | cons x k ih =>
    have all : ∀ k : Kt, DkAll G (k.map kV) (k.map keyD) := by
      intro k
      induction k with
      | nil => exact .nil
      | cons x k ih => exact .cons (by cases x <;> constructor) ih
    exact all (x :: k)
theorem keys_of {G : Hp} : ∀ {vs : List V} {xs : List PD}, DkAll G vs xs → (∀ d ∈ xs, ∃ k, d = ktD k) → ∃ ks : List En, vs = ks.map (fun p => V.ref p.1) ∧ xs = ks.map (fun p => ktD p.2) ∧ ∀ p ∈ ks, G p.1 = some (.tup (p.2.map kV))
  | _, _, .nil, _ => ⟨[], rfl, rfl, fun p hp => absurd hp (by simp)⟩
  | _, _, .cons h r, hk => by
    obtain ⟨k, ek⟩ := hk _ List.mem_cons_self
    subst ek
    obtain ⟨a, ea, ha⟩ := dk_ktD h
    subst ea
    obtain ⟨ks, e1, e2, e3⟩ := keys_of r fun d hd => hk d (List.mem_cons_of_mem _ hd)
    refine ⟨(a, k) :: ks, by rw [e1]; rfl, by rw [e2]; rfl, fun p hp => ?_⟩
    cases hp with
    | head => exact ha
    | tail _ hp => exact e3 p hp
theorem of_keys {G : Hp} : ∀ {ks : List En}, (∀ p ∈ ks, G p.1 = some (.tup (p.2.map kV))) → DkAll G (ks.map fun p => V.ref p.1) (ks.map fun p => ktD p.2)
  | [], _ => .nil
  | p :: ks, h => .cons (ktD_dk (h p List.mem_cons_self)) (of_keys fun q hq => h q (List.mem_cons_of_mem _ hq))
theorem sorted_same {ks L L' : List En} {xs : List PD} (ex : xs = ks.map fun p => ktD p.2) (ok : okK xs = true) (h1 : ∀ p ∈ L, p ∈ ks) (h2 : ∀ p ∈ ks, p.2 ∈ L.map (·.2)) (pm : L'.Perm L) (so : Srt (L'.map fun p => ktD p.2)) : L'.map (fun p => ktD p.2) = sortK xs := by
  refine srt_ext so (sortK_srt xs) fun z => ?_
  rw [sortK_mem (okK_k ok), ex]
  constructor
  · intro hz
    obtain ⟨p, hp, e⟩ := List.mem_map.mp hz
    exact List.mem_map.mpr ⟨p, h1 p (pm.mem_iff.mp hp), e⟩
  · intro hz
    obtain ⟨p, hp, e⟩ := List.mem_map.mp hz
    obtain ⟨r, hr, er⟩ := List.mem_map.mp (h2 p hp)
    exact List.mem_map.mpr ⟨r, pm.mem_iff.mpr hr, by rw [er]; exact e⟩
/-- a new object that is no one's, hidden -/
theorem allocM {p0 : Option V} {H : Hp} {M : Mp} {ft : Nat → Addr → Prop} {σ : St} {δ : List (SV L)} (R : Rp L p0 H M ft σ δ) {p : Addr} {o : HO} (hp : H p = none) : Step H M ft (upd H p o) (ins M p) ft ∧ Rp L p0 (upd H p o) (ins M p) ft σ δ := by
  have ext : Same (hid H M) (hid (upd H p o) (ins M p)) := fun a u h => by
    obtain ⟨m, e⟩ := hid_some.mp h
    exact hid_some.mpr ⟨fun z => z.elim m (ne_of_none e hp), upd_old (ne_of_none e hp) e⟩
  exact ⟨⟨ext, fun a u hm hf e => ⟨upd_old (ne_of_none e hp) e, .inl hm, hf⟩⟩, R.carry ext fun i a u fa e => ⟨upd_old (ne_of_none e hp) e, .inl (R.inM i a fa)⟩⟩
def eSortSet (f : Ev L) : Ev L := fun δ => match frz f δ with
  | some (.d (.list xs), δ') => if okK xs = true ∧ xs.length < 64 then some (.own (.lst (sortK xs)), δ') else none
  | _ => none
section
variable {X : Cx} {e elt tg it t : Expr} {es : List Expr} {pos p p2 pos2 : Pos} {k : Nat}
/-- sorted at a set that stands -/
theorem sort_end {p0 : Option V} {σ : St} {δ : List (SV L)} {H1 : Hp} {M1 : Mp} {ft1 : Nat → Addr → Prop} {K : PySem.W.Frag} {P : Program} {w : World} {a : Addr} {ks Ls : List En} {xs : List PD} (R : Rp L p0 H1 M1 ft1 σ δ) (ha : H1 a = some (Sto P w a Ls)) (hk : ∀ q ∈ ks, hid H1 M1 q.1 = some (.tup (q.2.map kV)))
    (ex : xs = ks.map fun p => ktD p.2) (ok : okK xs = true) (h1 : ∀ p ∈ Ls, p ∈ ks) (h2 : ∀ p ∈ ks, p.2 ∈ Ls.map (·.2)) {Q : VK} (q : ∀ v H' M' ft', Step H1 M1 ft1 H' M' ft' → Rp L p0 H' M' ft' σ δ → ResOk L H1 ft1 H' M' ft' v (.own (.lst (sortK xs))) → Q v H') : rSortS K P w [.ref a] H1 Q := by
  refine ⟨a, Ls, rfl, ha, fun q hq => SqT.of (hid_same _ _ (hk q (h1 q hq))), okK_sub ok (fun d hd => ?_), fun L' p pm so _ hp => ?_⟩
  · obtain ⟨q, hq, e⟩ := List.mem_map.mp hd
    rw [ex]
    exact List.mem_map.mpr ⟨q, h1 q hq, e⟩
  · have kk : DkAll (hid H1 M1) (L'.map fun p => V.ref p.1) (sortK xs) := by
      rw [← sorted_same ex ok h1 h2 pm so]
      exact of_keys fun q hq => hk q (h1 q (pm.mem_iff.mp hq))
    obtain ⟨s2, R2, k2⟩ := allocO R hp kk
    exact q _ _ _ _ s2 R2 k2
theorem de_sortSet {f : Ev L} (hr : Room k X.A) (hc : X.calm = true) (h : DE L X e f) (hm : X.mg "sorted" = none) (hm2 : X.mg "set" = none) (hv : bootBuiltins "sorted" = some (.builtin "sorted")) (hv2 : bootBuiltins "set" = some (.type "set")) (hg : Gl X "sorted" := by rfl) (hg2 : Gl X "set" := by rfl)
    (he : starEach [e] X.env = (false, eval e X.env) :: starEach [] X.env := by rfl) (he2 : starEach [.Call (.Name "set" p2) [e] [] pos2] X.env = (false, eval (.Call (.Name "set" p2) [e] [] pos2) X.env) :: starEach [] X.env := by rfl) :
    DE L X (.Call (.Name "sorted" p) [.Call (.Name "set" p2) [e] [] pos2] [] pos) (eSortSet f) := by
  obtain ⟨t, pa, sa⟩ := h
  have hu : X.A.units + 64 < cLine := by have := hr.un; omega
  refine ⟨_, pe_callB (cr_sortS hc hu) hg hm hv (pa_cons (pe_callTy (cr_set hc hu) hg2 hm2 hv2 (pa_cons pa pa_nil he) (by decide) (by decide) he (by rfl)) pa_nil he2) (by decide) (by decide) he2 (by rfl), fun p0 σ H M ft δ r δ' R e Q q => ?_⟩
  unfold eSortSet at e
  split at e
  · rename_i xs δ1 e1
    split at e
    · rename_i ok
      cases e
      refine sa.frz p0 σ H M ft δ _ _ R e1 _ fun v H1 M1 ft1 s1 R1 k1 => ?_
      have k2 : Dk (hid H1 M1) v (.list xs) := k1
      cases k2 with
      | lst hl rk =>
        obtain ⟨ks, ev, ex, hk⟩ := keys_of rk (okK_k ok.1)
        subst ev
        refine ⟨_, ks, rfl, SqL.of (hid_same _ _ hl), fun q hq => SqT.of (hid_same _ _ (hk q hq)), by rw [← List.length_map (as := ks) (f := fun p => ktD p.2), ← ex]; exact ok.2, fun a Ls ha h1 h2 => ?_⟩
        obtain ⟨s2, R2, hx⟩ := alloc (o := Sto X.prog X.w a Ls) R1 ha
        refine sort_end R2 upd_same (fun q hq => s2.ext _ _ (hk q hq)) ex ok.1 h1 h2 fun v2 H3 M3 ft3 s3 R3 k3 => ?_
        exact q v2 H3 M3 ft3 ((s1.trans s2).trans s3) R3 (k3.back (s1.trans s2) R2.inM)
    · cases e
  · cases e
/-! ### the comprehension -/
def eSortSC (vs : List Nat) (fi : Ei L) (u : Eg L) (c : Et L) (f : Ev L) : Ev L := fun δ => match fi δ with
  | some (xs, δ1) => if xs.length < 63 then match lcN vs u c f xs (wipeD δ1 vs) [] with
      | some (out, δ2) => if okK out = true then some (.own (.lst (sortK out)), wipeD δ2 vs) else none
      | none => none
    else none
  | none => none
/-- what the set holds of the elements so far -/
structure Has (ds : List PD) (ks Ls : List En) : Prop where
  e : ds = ks.map fun p => ktD p.2
  a : ∀ p ∈ Ls, p ∈ ks
  b : ∀ p ∈ ks, p.2 ∈ Ls.map (·.2)
  l : Ls.length ≤ ds.length
theorem Has.more {ds : List PD} {ks Ls L' : List En} {a : Addr} {k : Kt} (h : Has ds ks Ls) (c1 : k ∈ Ls.map (·.2) → L' = Ls) (c2 : k ∉ Ls.map (·.2) → L'.Perm ((a, k) :: Ls)) : Has (ds ++ [ktD k]) (ks ++ [(a, k)]) L' := by
  refine ⟨by rw [h.e, List.map_append]; rfl, fun p hp => ?_, fun p hp => ?_, ?_⟩
  · rcases Classical.em (k ∈ Ls.map (·.2)) with c | c
    · rw [c1 c] at hp
      exact List.mem_append_left _ (h.a p hp)
    · cases (c2 c).mem_iff.mp hp with
      | head => exact List.mem_append_right _ List.mem_cons_self
      | tail _ hp => exact List.mem_append_left _ (h.a p hp)
  · rcases Classical.em (k ∈ Ls.map (·.2)) with c | c
    · rw [c1 c]
      rcases List.mem_append.mp hp with z | z
      · exact h.b p z
      · rw [List.mem_singleton.mp z]; exact c
    · rw [((c2 c).map (·.2)).mem_iff, List.map_cons]
      rcases List.mem_append.mp hp with z | z
      · exact List.mem_cons_of_mem _ (h.b p z)
      · rw [List.mem_singleton.mp z]; exact List.mem_cons_self
  · rw [List.length_append]
    have hl := h.l
    rcases Classical.em (k ∈ Ls.map (·.2)) with c | c
    · rw [c1 c]; exact Nat.le_succ_of_le hl
    · rw [(c2 c).length_eq]; exact Nat.succ_le_succ hl
theorem lcN_pre {vs : List Nat} {u : Eg L} {c : Et L} {f : Ev L} : ∀ {xs : List (DV L)} {δ δ2 : List (SV L)} {acc out : List PD}, lcN vs u c f xs δ acc = some (out, δ2) → ∀ d ∈ acc, d ∈ out
  | [], _, _, _, _, h, d, hd => by cases h; exact hd
  | x :: xs, δ, δ2, acc, out, h, d, hd => by
    unfold lcN at h
    split at h
    · split at h
      · split at h
        · exact lcN_pre h d (List.mem_append_left _ hd)
        · cases h
      · exact lcN_pre h d hd
      · cases h
    · cases h
theorem snd_setC {K : PySem.W.Frag} {P : Program} {w : World} {vs ws : List Nat} {fi : Ei L} {u : Eg L} {c : Et L} {f : Ev L} {wi : TI} {g : TG} {tt : TT} {te : TE} (hsub : ∀ i ∈ ws, i ∈ vs) (hi : SndI fi wi) (hg : SndG ws u g) (hc : SndT L c tt) (hf : SndE L f te) :
    SndE L (eSortSC vs fi u c f) (tCB (rSortS K P w) (tCons (tSetC K P w wi g tt te vs) tNil)) := fun p0 σ H M ft δ r δ' R e Q q => by
  unfold eSortSC at e
  split at e
  · rename_i xs δ1 e1
    split at e
    · rename_i hx
      split at e
      · rename_i out δ2 e2
        split at e
        · rename_i ok
          cases e
          refine hi p0 σ H M ft δ _ _ R e1 _ fun J H1 M1 ft1 s1 R1 T => fun D hD => ?_
          obtain ⟨sw, Rw⟩ := R1.resig (σ' := wipe σ vs) vs (wipe_length σ vs) (fun j hj => by rw [wipe_get, if_neg hj])
          obtain ⟨sa, Ra⟩ := allocM (o := Sto P w D []) Rw hD
          refine ⟨fun i m H' => m = xs.length - i ∧ i ≤ xs.length ∧ ∃ M' ft' δi Ls ks ds, Step H1 M1 ft1 H' M' ft' ∧ Rp L p0 H' M' ft' (wipe σ vs) δi ∧ H' D = some (Sto P w D Ls) ∧ M' D ∧ (∀ j, ¬ ft' j D) ∧ Has ds ks Ls ∧ (∀ q ∈ ks, hid H' M' q.1 = some (.tup (q.2.map kV))) ∧ ds.length ≤ i ∧ lcN vs u c f (xs.drop i) δi ds = some (out, δ2),
            ⟨xs.length, rfl, Nat.zero_le _, _, _, _, [], [], [], sw.trans sa, Ra, upd_same, .inr rfl, fun j z => Rw.fnone hD j z, ⟨rfl, fun p h => absurd h (by simp), fun p h => absurd h (by simp), Nat.le_refl _⟩, fun p h => absurd h (by simp), Nat.le_refl 0, e2⟩, ?_⟩
          rintro i m H2 ⟨rfl, hle, M2, ft2, δ3, Ls, ks, ds, s2, R2, hset, mD, nD, hhas, hks, hdl, e3⟩
          obtain ⟨stp, go⟩ := T.turn H2 M2 ft2 s2 p0 (wipe σ vs) δ3 R2 i
          by_cases hlt : i < xs.length
          · have ed : xs[i]? = some xs[i] := List.getElem?_eq_getElem hlt
            obtain ⟨g1, g2⟩ := go _ ed
            rw [List.drop_eq_getElem_cons hlt] at e3
            unfold lcN at e3
            refine .inr ⟨g1, fun H' => i + 1 ≤ xs.length ∧ ∃ M' ft' δi Ls ks ds, Step H1 M1 ft1 H' M' ft' ∧ Rp L p0 H' M' ft' (wipe σ vs) δi ∧ H' D = some (Sto P w D Ls) ∧ M' D ∧ (∀ j, ¬ ft' j D) ∧ Has ds ks Ls ∧ (∀ q ∈ ks, hid H' M' q.1 = some (.tup (q.2.map kV))) ∧ ds.length ≤ i + 1 ∧ lcN vs u c f (xs.drop (i + 1)) δi ds = some (out, δ2),
              fun H' h => ⟨xs.length - (i + 1), by omega, rfl, h⟩, fun x H3 hy => ?_⟩
            obtain ⟨M3, s3, R3, k3⟩ := g2 x H3 hy
            split at e3
            · rename_i δ4 e4
              refine hg p0 (wipe σ vs) H3 M3 ft2 δ3 _ _ _ R3 k3 e4 _ fun σ5 ft5 s5 R5 l5 n5 => ?_
              have n5' : ∀ j, j ∉ vs → σ5[j]? = (wipe σ vs)[j]? := fun j hj => n5 j fun z => hj (hsub j z)
              refine ⟨?_, ?_⟩
              · refine List.ext_getElem? fun j => ?_
                rw [wipe_get, wipe_get]
                by_cases hj : j ∈ vs
                · rw [if_pos hj, if_pos hj, l5, wipe_length]
                · rw [if_neg hj, if_neg hj, n5' j hj, wipe_get, if_neg hj]
              · have s35 := s3.trans s5
                split at e3
                · rename_i δ6 e6
                  refine hc p0 σ5 H3 M3 ft5 δ4 _ _ R5 e6 _ fun H6 M6 ft6 s6 R6 => iteT ?_
                  split at e3
                  · rename_i y δ7 e7
                    refine hf.frz p0 σ5 H6 M6 ft6 δ6 _ _ R6 e7 _ fun v7 H7 M7 ft7 s7 R7 k7 => ?_
                    have s27 := (s35.trans s6).trans s7
                    obtain ⟨h7, m7, f7⟩ := s27.keep D _ mD nD hset
                    have yo : y ∈ out := lcN_pre e3 y (List.mem_append_right _ List.mem_cons_self)
                    obtain ⟨k, ek⟩ := okK_k ok y yo
                    subst ek
                    obtain ⟨a, ea, ha7⟩ := dk_ktD (show Dk (hid H7 M7) v7 (ktD k) from k7)
                    subst ea
                    obtain ⟨s8, R8⟩ := R7.resig (σ' := wipe σ vs) vs (by rw [l5]) (fun j hj => (n5' j hj).symm)
                    have k7' : ∀ q ∈ ks, hid H7 M7 q.1 = some (.tup (q.2.map kV)) := fun q hq => s27.ext _ _ (hks q hq)
                    have few : Ls.length + 1 < 64 := by have := hhas.l; omega
                    refine ⟨a, k, Ls, rfl, h7, fun q hq => SqT.of (hid_same _ _ (k7' q (hhas.a q hq))), SqT.of (hid_same _ _ ha7), few, fun L' c1 c2 => ⟨hlt, ?_⟩⟩
                    have f8 : ∀ j, ¬ (j ∉ vs ∧ ft7 j D) := fun j z => f7 j z.2
                    have ext9 : Same (hid H7 M7) (hid (upd H7 D (Sto P w D L')) M7) := fun b o hb => by
                      obtain ⟨mb, eb⟩ := hid_some.mp hb
                      exact hid_some.mpr ⟨mb, upd_old (fun z => mb (by rw [z]; exact m7)) eb⟩
                    refine ⟨M7, _, _, L', ks ++ [(a, k)], ds ++ [ktD k], ?_, R8.carry ext9 (fun j b o fb eo => ⟨upd_old (fun z => f8 j (by rw [← z]; exact fb)) eo, R8.inM j b fb⟩), upd_same, m7, f8, hhas.more c1 c2, fun q hq => ?_, by rw [List.length_append]; exact Nat.succ_le_succ hdl, e3⟩
                    · have s28 := (s2.trans s27).trans s8
                      refine ⟨s28.ext.trans ext9, fun b o mb nb eb => ?_⟩
                      obtain ⟨e', m', n'⟩ := s28.keep b o mb nb eb
                      exact ⟨upd_old (ne_of_none eb hD) e', m', n'⟩
                    · refine ext9 _ _ ?_
                      rcases List.mem_append.mp hq with z | z
                      · exact k7' q z
                      · rw [List.mem_singleton.mp z]; exact ha7
                  · cases e3
                · rename_i δ6 e6
                  refine hc p0 σ5 H3 M3 ft5 δ4 _ _ R5 e6 _ fun H6 M6 ft6 s6 R6 => iteF ?_
                  have s26 := s35.trans s6
                  obtain ⟨h7, m7, f7⟩ := s26.keep D _ mD nD hset
                  obtain ⟨s8, R8⟩ := R6.resig (σ' := wipe σ vs) vs (by rw [l5]) (fun j hj => (n5' j hj).symm)
                  exact ⟨hlt, M6, _, _, Ls, ks, ds, (s2.trans s26).trans s8, R8, h7, m7, (fun j z => f7 j z.2), hhas, fun q hq => s26.ext _ _ (hks q hq), Nat.le_succ_of_le hdl, e3⟩
                · cases e3
            · cases e3
          · have ei : i = xs.length := by omega
            subst ei
            rw [List.drop_length] at e3
            cases e3
            obtain ⟨s8, R8⟩ := R2.resig (σ' := σ) vs (wipe_length σ vs).symm (fun j hj => by rw [wipe_get, if_neg hj])
            have s18 := (s1.trans s2).trans s8
            refine .inl ⟨stp (Nat.le_refl _), sort_end R8 hset hks hhas.e ok hhas.a hhas.b fun v3 H3 M3 ft3 s3 R3 k3 => ?_⟩
            exact q v3 H3 M3 ft3 (s18.trans s3) R3 (k3.back s18 R8.inM)
        · cases e
      · cases e
    · cases e
  · cases e
theorem de_sortSC {scope : Scope} {own : List (Str × Nat)} {ws : List Nat} {fi : Ei L} {u : Eg L} {c : Et L} {f : Ev L} (hr : Room k X.A) (hc : X.calm = true) (hN : X.N.Nodup) (hi : DI L X tg it fi) (ok : BlkOk X.N X.env.scope scope own) (hsub : ∀ i ∈ ws, i ∈ own.map (·.2))
    (hg : ∀ (s : Shared) (H : Hp) (C : Addr) (cl : List (Str × Addr)) (fp : List Addr), DG L (X.blk s H scope (compEnvC scope cl C X.env) fp) tg ws u)
    (ht : ∀ (s : Shared) (H : Hp) (C : Addr) (cl : List (Str × Addr)) (fp : List Addr), DT L (X.blk s H scope (compEnvC scope cl C X.env) fp) t c)
    (he : ∀ (s : Shared) (H : Hp) (C : Addr) (cl : List (Str × Addr)) (fp : List Addr), DE L (X.blk s H scope (compEnvC scope cl C X.env) fp) elt f)
    (hm : X.mg "sorted" = none) (hv : bootBuiltins "sorted" = some (.builtin "sorted")) (hg0 : Gl X "sorted" := by rfl) (hs : ∀ x, foldedSetIterable it X.env x = pure x := by intro _; rfl)
    (hst : starEach [.SetComp elt [⟨tg, it, [t], 0⟩] scope pos2] X.env = (false, eval (.SetComp elt [⟨tg, it, [t], 0⟩] scope pos2) X.env) :: starEach [] X.env := by rfl) :
    DE L X (.Call (.Name "sorted" p) [.SetComp elt [⟨tg, it, [t], 0⟩] scope pos2] [] pos) (eSortSC (own.map (·.2)) fi u c f) := by
  obtain ⟨wi, pi, si⟩ := hi
  have hu : X.A.units + 64 < cLine := by have := hr.un; omega
  exact ⟨_, pe_callB (cr_sortS hc hu) hg0 hm hv (pa_cons (pe_setC hc hu hN pi ok (fun s H C cl fp => (hg s H C cl fp).can) (fun s H C cl fp => pts_one (ht s H C cl fp).can) (fun s H C cl fp => (he s H C cl fp).can) hs) pa_nil hst) (by decide) (by decide) hst (by rfl), snd_setC hsub si (snd_gof ws u) (snd_tof c) (snd_of f)⟩
end
end DL
set_option Elab.async false
set_option linter.all false
set_option maxRecDepth 100000
set_option maxHeartbeats 1000000
/-! L0: the language of k59: books of strikes, notes, the script. -/
namespace DL
open PySem PySem.Spec L2 TK
open PyProof.Rows hiding St
variable [CN]
inductive Ob59 where
  | book (kvs : List (Kt × Int))
  | notes (ds : List PD)
  | script (ns : List Int)
  | dct (kvs : List (Kt × Int))
/-- raw: an instance without attributes (of the notes' class | of the book's); half: a book without _kept -/
inductive Ow59 where
  | notes (ds : List PD)
  | dct (kvs : List (Kt × Int))
  | raw (c : Bool)
  | half (kvs : List (Kt × Int))
  | bk (kvs : List (Kt × Int))
def bks (kvs : List (Kt × Int)) : List (List Key × V) := kvs.map fun p => (p.1, .int p.2)
def rep59 (K : PySem.W.Frag) (C1 C2 : Addr) (G : Hp) (v : V) : Ob59 → Prop
  | .book kvs => ∃ (a dx d : Addr) (z : V), v = .ref a ∧ G a = some (.ins C2 dx [("_bounds", .ref d), ("_kept", z)]) ∧ G d = some (.dT (bks kvs))
  | .notes ds => ∃ (a dx l : Addr) (xs : List V), v = .ref a ∧ G a = some (.ins C1 dx [("_papers", .ref l)]) ∧ G l = some (.lst xs) ∧ DkAll G xs ds
  | .script ns => ∃ a : Addr, v = .ref a ∧ SqL K G a (ns.map V.int)
  | .dct kvs => ∃ d : Addr, v = .ref d ∧ G d = some (.dT (bks kvs))
theorem sqL_mono {K : PySem.W.Frag} {G G' : Hp} {a : Addr} {xs : List V} (s : Same G G') (h : SqL K G a xs) : SqL K G' a xs :=
  h.elim (fun h => .inl (h.elim (fun h => .inl (s _ _ h)) fun ⟨o, h⟩ => .inr ⟨o, s _ _ h⟩)) fun h => .inr h
theorem rep59_mono {K : PySem.W.Frag} {C1 C2 : Addr} {G G' : Hp} {v : V} {o : Ob59} (s : Same G G') (h : rep59 K C1 C2 G v o) : rep59 K C1 C2 G' v o := by
  cases o with
  | book kvs =>
    obtain ⟨a, dx, d, z, ev, ha, hd⟩ := h
    exact ⟨a, dx, d, z, ev, s _ _ ha, s _ _ hd⟩
  | notes ds =>
    obtain ⟨a, dx, l, xs, ev, ha, hl, r⟩ := h
    exact ⟨a, dx, l, xs, ev, s _ _ ha, s _ _ hl, r.mono s⟩
  | script ns =>
    obtain ⟨a, ev, h⟩ := h
    exact ⟨a, ev, sqL_mono s h⟩
  | dct kvs =>
    obtain ⟨d, ev, h⟩ := h
    exact ⟨d, ev, s _ _ h⟩
def orep59 (C1 C2 : Addr) (H G : Hp) (v : V) : Ow59 → (Addr → Prop) → Prop
  | .notes ds, f => ∃ (a dx l : Addr) (xs : List V), v = .ref a ∧ (∀ x, f x ↔ x = a ∨ x = dx ∨ x = l) ∧ H a = some (.ins C1 dx [("_papers", .ref l)]) ∧ H dx = some (.own a) ∧ H l = some (.lst xs) ∧ DkAll G xs ds
  | .dct kvs, f => ∃ d : Addr, v = .ref d ∧ (∀ x, f x ↔ x = d) ∧ H d = some (.dT (bks kvs))
  | .raw c, f => ∃ a dx : Addr, v = .ref a ∧ (∀ x, f x ↔ x = a ∨ x = dx) ∧ H a = some (.ins (if c then C1 else C2) dx []) ∧ H dx = some (.own a)
  | .half kvs, f => ∃ a dx d : Addr, v = .ref a ∧ (∀ x, f x ↔ x = a ∨ x = dx) ∧ H a = some (.ins C2 dx [("_bounds", .ref d)]) ∧ H dx = some (.own a) ∧ G d = some (.dT (bks kvs))
  | .bk kvs, f => ∃ (a dx d : Addr) (z : V), v = .ref a ∧ (∀ x, f x ↔ x = a ∨ x = dx) ∧ H a = some (.ins C2 dx [("_bounds", .ref d), ("_kept", z)]) ∧ H dx = some (.own a) ∧ G d = some (.dT (bks kvs))
def shr59 : Ow59 → Option Ob59
  | .notes ds => some (.notes ds)
  | .dct kvs => some (.dct kvs)
  | .bk kvs => some (.book kvs)
  | _ => none
def L59 (K : PySem.W.Frag) (C1 C2 : Addr) : Lang where
  Ob := Ob59
  rep := rep59 K C1 C2
  mono := rep59_mono
  Ow := Ow59
  orep := orep59 C1 C2
  omono := fun {H H' G G' v w f} k s h => by
    cases w with
    | notes ds =>
      obtain ⟨a, dx, l, xs, ev, hf, ha, hd, hl, r⟩ := h
      exact ⟨a, dx, l, xs, ev, hf, k a _ ((hf a).mpr (.inl rfl)) ha, k dx _ ((hf dx).mpr (.inr (.inl rfl))) hd, k l _ ((hf l).mpr (.inr (.inr rfl))) hl, r.mono s⟩
    | dct kvs =>
      obtain ⟨d, ev, hf, hd⟩ := h
      exact ⟨d, ev, hf, k d _ ((hf d).mpr rfl) hd⟩
    | raw c =>
      obtain ⟨a, dx, ev, hf, ha, hd⟩ := h
      exact ⟨a, dx, ev, hf, k a _ ((hf a).mpr (.inl rfl)) ha, k dx _ ((hf dx).mpr (.inr rfl)) hd⟩
    | half kvs =>
      obtain ⟨a, dx, d, ev, hf, ha, hd, hb⟩ := h
      exact ⟨a, dx, d, ev, hf, k a _ ((hf a).mpr (.inl rfl)) ha, k dx _ ((hf dx).mpr (.inr rfl)) hd, s _ _ hb⟩
    | bk kvs =>
      obtain ⟨a, dx, d, z, ev, hf, ha, hd, hb⟩ := h
      exact ⟨a, dx, d, z, ev, hf, k a _ ((hf a).mpr (.inl rfl)) ha, k dx _ ((hf dx).mpr (.inr rfl)) hd, s _ _ hb⟩
  odom := fun {H G v w f} h => by
    have two : ∀ {a dx : Addr} {o u : HO}, (∀ x, f x ↔ x = a ∨ x = dx) → H a = some o → H dx = some u → ∀ x, f x → ∃ o, H x = some o := fun hf h1 h2 x fx => by
      rcases (hf x).mp fx with e | e
      · rw [e]; exact ⟨_, h1⟩
      · rw [e]; exact ⟨_, h2⟩
    cases w with
    | notes ds =>
      obtain ⟨a, dx, l, xs, ev, hf, ha, hd, hl, r⟩ := h
      intro x fx
      rcases (hf x).mp fx with e | e | e
      · rw [e]; exact ⟨_, ha⟩
      · rw [e]; exact ⟨_, hd⟩
      · rw [e]; exact ⟨_, hl⟩
    | dct kvs =>
      obtain ⟨d, ev, hf, hd⟩ := h
      intro x fx
      rw [(hf x).mp fx]
      exact ⟨_, hd⟩
    | raw c =>
      obtain ⟨a, dx, ev, hf, ha, hd⟩ := h
      exact two hf ha hd
    | half kvs =>
      obtain ⟨a, dx, d, ev, hf, ha, hd, hb⟩ := h
      exact two hf ha hd
    | bk kvs =>
      obtain ⟨a, dx, d, z, ev, hf, ha, hd, hb⟩ := h
      exact two hf ha hd
  shr := shr59
  shrOk := fun {H G G' v w k f} e h hf s => by
    cases w with
    | notes ds =>
      cases e
      obtain ⟨a, dx, l, xs, ev, hff, ha, hd, hl, r⟩ := h
      exact ⟨a, dx, l, xs, ev, hf a _ ((hff a).mpr (.inl rfl)) ha, hf l _ ((hff l).mpr (.inr (.inr rfl))) hl, r.mono s⟩
    | dct kvs =>
      cases e
      obtain ⟨d, ev, hff, hd⟩ := h
      exact ⟨d, ev, hf d _ ((hff d).mpr rfl) hd⟩
    | raw c => cases e
    | half kvs => cases e
    | bk kvs =>
      cases e
      obtain ⟨a, dx, d, z, ev, hff, ha, hd, hb⟩ := h
      exact ⟨a, dx, d, z, ev, hf a _ ((hff a).mpr (.inl rfl)) ha, s _ _ hb⟩
/-- what K says of the two classes -/
structure Cl59 (K : PySem.W.Frag) (C1 C2 : Addr) : Prop where
  c1 : Cls K C1
  c2 : Cls K C2
  p : NoAttr K C1 "_papers"
  b : NoAttr K C2 "_bounds"
  k : NoAttr K C2 "_kept"
section
variable {X : Cx} {K : PySem.W.Frag} {C1 C2 : Addr} {e e1 e2 : Expr} {es : List Expr} {pos pos' p1 p2 p3 p4 p5 apos : Pos} {k : Nat}
abbrev LX (X : Cx) (C1 C2 : Addr) : Lang := L59 X.K C1 C2
/-- o._papers, read -/
def ePap (f : Ev (L59 K C1 C2)) : Ev (L59 K C1 C2) := fun δ => match frz f δ with
  | some (.ob o, δ') => match (show Ob59 from o) with
    | .notes ds => some (.dv (.d (.list ds)), δ')
    | _ => none
  | _ => none
theorem de_pap (T : Cl59 K C1 C2) {f : Ev (L59 K C1 C2)} (h : DE (L59 K C1 C2) X e f) (hb : attributeBase e "_papers" X.env (eval e X.env) = eval e X.env := by rfl) (eK : X.K = K := by rfl) : DE (L59 K C1 C2) X (.Attribute e "_papers" pos) (ePap f) := by
  subst eK
  obtain ⟨t, p, s⟩ := h
  refine ⟨_, pe_fld p hb, fun p0 σ H M ft δ r δ' R e Q q => ?_⟩
  unfold ePap at e
  split at e
  · rename_i o δ1 e1
    split at e
    · rename_i ds eo
      cases e
      refine s.frz p0 σ H M ft δ _ _ R e1 _ fun v H1 M1 ft1 s1 R1 k1 => ?_
      have k2 : rep59 X.K C1 C2 (hid H1 M1) v (.notes ds) := by rw [← show (show Ob59 from o) = Ob59.notes ds from eo]; exact k1
      obtain ⟨a, dx, l, xs, ev, ha, hl, rk⟩ := k2
      exact ⟨a, C1, dx, _, .ref l, ev, hid_same _ _ ha, T.c1, T.p, rfl, q _ _ _ _ s1 R1 (.lst hl rk)⟩
    · cases e
  · cases e
/-- o._bounds.get((x, y), 0) -/
def eBGet (fo fx fy : Ev (L59 K C1 C2)) : Ev (L59 K C1 C2) := fun δ => match frz fo δ with
  | some (.ob o, δ1) => match (show Ob59 from o), frz fx δ1 with
    | .book kvs, some (.d (.str x), δ2) => match frz fy δ2 with
      | some (.d (.str y), δ3) => some (.dv (.d (.int (((kvs.find? fun p => decide (p.1 = [.inr x, .inr y])).map (·.2)).getD 0))), δ3)
      | _ => none
    | _, _ => none
  | _ => none
theorem valV_bks (kvs : List (Kt × Int)) (k : Kt) : valV (bks kvs) k = (((kvs.find? fun p => decide (p.1 = k)).map (·.2))).map V.int := by
  induction kvs with
  | nil => rfl
  | cons p kvs ih =>
    unfold bks valV at ih ⊢
    rw [List.map_cons, List.find?_cons, List.find?_cons]
    by_cases h : p.1 = k
    · rw [decide_eq_true h]
      simp [h]
    · rw [decide_eq_false h]
      simp only [h, decide_false]
      exact ih
theorem de_bget (T : Cl59 K C1 C2) (hr : Room k X.A) {fo fx fy : Ev (L59 K C1 C2)} {j : Nat} {n : Nat} (ho : DE (L59 K C1 C2) X e fo) (h1 : DE (L59 K C1 C2) X e1 fx) (h2 : DE (L59 K C1 C2) X e2 fy)
    (m : M2 X (.Attribute e "_bounds" p1) "get" p2 (.Tuple [e1, e2] j p3) (.Constant (.int 0) n p4) pos := by exact ⟨rfl, rfl, rfl, rfl⟩) (hb : attributeBase e "_bounds" X.env (eval e X.env) = eval e X.env := by rfl)
    (hs : starEach [e1, e2] X.env = (false, eval e1 X.env) :: starEach [e2] X.env := by rfl) (hs2 : starEach [e2] X.env = (false, eval e2 X.env) :: starEach [] X.env := by rfl) (eK : X.K = K := by rfl) :
    DE (L59 K C1 C2) X (.Call (.Attribute (.Attribute e "_bounds" p1) "get" p2) [.Tuple [e1, e2] j p3, .Constant (.int 0) n p4] [] pos) (eBGet fo fx fy) := by
  subst eK
  obtain ⟨t, p, s⟩ := ho
  obtain ⟨t1, pe1, s1⟩ := h1
  obtain ⟨t2, pe2, s2⟩ := h2
  have hu : X.A.units + 1 < cLine := by have := hr.un; omega
  refine ⟨_, pe_dget2 hu (pe_fld p hb) (pe_tup (pa_cons pe1 (pa_cons pe2 pa_nil hs2) hs)) pe_int m, fun p0 σ H M ft δ r δ' R e Q q => ?_⟩
  unfold eBGet at e
  split at e
  · rename_i o δ1 q1
    split at e
    · rename_i kvs x δ2 eo q2
      split at e
      · rename_i y δ3 q3
        cases e
        refine s.frz p0 σ H M ft δ _ _ R q1 _ fun v H1 M1 ft1 st1 R1 k1 => ?_
        have k2 : rep59 X.K C1 C2 (hid H1 M1) v (.book kvs) := by rw [← show (show Ob59 from o) = Ob59.book kvs from eo]; exact k1
        obtain ⟨a, dx, d, z, ev, ha, hd⟩ := k2
        refine ⟨a, C2, dx, _, .ref d, ev, hid_same _ _ ha, T.c2, T.b, rfl, d, rfl, .inr ⟨_, .inl (hid_same _ _ hd)⟩, ?_⟩
        refine s1.frz p0 σ H1 M1 ft1 δ1 _ _ R1 q2 _ fun vx H2 M2 ft2 st2 R2 kx => ?_
        refine s2.frz p0 σ H2 M2 ft2 δ2 _ _ R2 q3 _ fun vy H3 M3 ft3 st3 R3 ky => ?_
        have kx' : Dk (hid H2 M2) vx (.str x) := kx
        have ky' : Dk (hid H3 M3) vy (.str y) := ky
        cases kx'
        cases ky'
        refine ⟨by show 2 ≤ sizeLine; decide, fun tp htp => ?_⟩
        obtain ⟨st4, R4, ht⟩ := alloc (o := .tup [.str x, .str y]) R3 htp
        have hd4 := hid_same _ _ (st4.ext _ _ (st3.ext _ _ (st2.ext _ _ hd)))
        refine ⟨_, DGet.t (k := [.inr x, .inr y]) hd4 (hid_same _ _ ht), ?_⟩
        rw [valV_bks]
        refine q _ _ _ _ (((st1.trans st2).trans st3).trans st4) R4 ?_
        cases (kvs.find? fun p => decide (p.1 = [.inr x, .inr y])) <;> exact .int _
      · cases e
    · cases e
  · cases e
end
end DL
set_option Elab.async false
set_option linter.all false
set_option maxRecDepth 100000
set_option maxHeartbeats 1000000
/-! L1: the notes that are owned; chains; x in o; a row of names from a list. -/
namespace DL
open PySem PySem.Spec L2 TK
open PyProof.Rows hiding St
variable [CN]
variable {L : Lang}
section
variable {X : Cx} {e a b c o : Expr} {es : List Expr} {pos : Pos} {k : Nat}
/-! ### what is not come to -/
def sNo : Es L := fun _ => none
theorem dss_no {sts : List Stmt} : DSs L X sts sNo := ⟨_, pss_never, fun p0 σ H M ft δ fl δ' R e D q => nomatch e⟩
theorem ds_no {st : Stmt} : DS L X st sNo := ⟨_, ps_never, fun p0 σ H M ft δ fl δ' R e D q => nomatch e⟩
/-! ### a < b < c -/
def tCh (g g' : PD → PD → Option PD) (fa fb fc : Ev L) : Et L := fun δ => match frz fa δ with
  | some (.d x, δ1) => match frz fb δ1 with
    | some (.d y, δ2) => match g x y with
      | some (.bool true) => match frz fc δ2 with
        | some (.d z, δ3) => match g' y z with
          | some (.bool r) => some (r, δ3)
          | _ => none
        | _ => none
      | some (.bool false) => some (false, δ2)
      | _ => none
    | _ => none
  | _ => none
theorem dt_chain {op op' : CmpOp} {r r' : R2} {g g' : PD → PD → Option PD} {fa fb fc : Ev L} (ho : OpR X (compareOp op) r) (ho' : OpR X (compareOp op') r') (hr : PureR r g) (hr' : PureR r' g') (ha : DE L X a fa) (hb : DE L X b fb) (hc : DE L X c fc)
    (hm : lastMarks [op, op'] [b, c] = false := by with_unfolding_all rfl) : DT L X (.Compare a [op, op'] [b, c] pos) (tCh g g' fa fb fc) := by
  obtain ⟨ta, pa, sa⟩ := ha
  obtain ⟨tb, pb, sb⟩ := hb
  obtain ⟨tc, pc, sc⟩ := hc
  refine ⟨_, pt_chain ho ho' pa pb pc hm, fun p0 σ H M ft δ rr δ' R e Q q => ?_⟩
  unfold tCh at e
  split at e
  · rename_i x δ1 e1
    split at e
    · rename_i y δ2 e2
      refine sa.frz p0 σ H M ft δ _ _ R e1 _ fun v H1 M1 ft1 s1 R1 k1 => sb.frz p0 σ H1 M1 ft1 δ1 _ _ R1 e2 _ fun w H2 M2 ft2 s2 R2 k2 => ?_
      have k1' : Dk (hid H2 M2) v x := Dk.mono s2.ext k1
      split at e
      · rename_i eg
        refine hr H2 _ v w x y _ hid_same k1' k2 eg _ fun u ku => ?_
        cases ku
        refine ⟨true, rfl, iteT ?_⟩
        split at e
        · rename_i z δ3 e3
          split at e
          · rename_i rb eg'
            cases e
            refine sc.frz p0 σ H2 M2 ft2 δ2 _ _ R2 e3 _ fun u3 H3 M3 ft3 s3 R3 k3 => ?_
            refine hr' H3 _ w u3 y z _ hid_same (Dk.mono s3.ext k2) k3 eg' _ fun u ku => ?_
            cases ku
            exact ⟨_, rfl, q H3 M3 ft3 ((s1.trans s2).trans s3) R3⟩
          · cases e
        · cases e
      · rename_i eg
        cases e
        refine hr H2 _ v w x y _ hid_same k1' k2 eg _ fun u ku => ?_
        cases ku
        exact ⟨false, rfl, iteF ⟨false, rfl, q H2 M2 ft2 (s1.trans s2) R2⟩⟩
      · cases e
    · cases e
  · cases e
/-! ### x in o, o's own __contains__ -/
def eInO (F : Fn L) (fa fo : Ev L) : Ev L := fun δ => match frz fa δ with
  | some (d, δ1) => match frz fo δ1 with
    | some (.ob u, δ2) => match F [.dv (.ob u), .dv d] with
      | some (.dv (.d (.bool r)), _) => some (.dv (.d (.bool r)), δ2)
      | _ => none
    | _ => none
  | none => none
theorem snd_inO {C : Addr} {F : Fn L} {fa fo : Ev L} {ta to : TE} {m : Str} (hC : ∀ u as r, F (.dv (.ob u) :: as) = some r → InsOb C m u) (ha : SndE L fa ta) (ho : SndE L fo to) : SndE L (eInO F fa fo) (tOp (rInOwn C (spD L F)) ta to) := fun p0 σ H M ft δ r δ' R e Q q => by
  unfold eInO at e
  split at e
  · rename_i d δ1 e1
    split at e
    · rename_i u δ2 e2
      split at e
      · rename_i rb w' e3
        cases e
        refine ha.frz p0 σ H M ft δ _ _ R e1 _ fun v H1 M1 ft1 s1 R1 k1 => ho.frz p0 σ H1 M1 ft1 δ1 _ _ R1 e2 _ fun y H2 M2 ft2 s2 R2 k2 => ?_
        obtain ⟨a, dx, fs, ey, hh, _⟩ := hC u _ _ e3 _ y k2
        refine ⟨a, dx, fs, ey, hid_same _ _ hh, ?_⟩
        rw [← ey]
        refine ⟨M2, fun _ _ => False, [DV.ob u, d].map SV.dv, _, w', rp_args (vs := [y, v]) (ds := [.ob u, d]) (.cons k2 (.cons (k1.mono s2.ext) .nil)), e3, fun v3 H3 M3 ft3 s3 _ k3 => ?_⟩
        obtain ⟨s4, R4, k4⟩ := back_of R2 s3 k3
        have k5 : Dk (hid H3 M3) v3 (.bool rb) := k4
        cases k5
        exact ⟨rb, rfl, q _ H3 M3 ft2 ((s1.trans s2).trans s4) R4 (.bl _)⟩
      · cases e
    · cases e
  · cases e
theorem de_inO {C : Addr} {F : Fn L} {fa fo : Ev L} {ps : List Str} {m : Str} (G : OkM L X.prog X.w X.K X.mg X.base k C "__contains__" ps F) (hr : Room k X.A) (hC : ∀ u as r, F (.dv (.ob u) :: as) = some r → InsOb C m u) (ha : DE L X a fa) (ho : DE L X b fo)
    (hm : behindInMarks .In b = false := by with_unfolding_all rfl) : DE L X (.Compare a [.In] [b] pos) (eInO F fa fo) := by
  obtain ⟨f, fd, G, M, hb⟩ := G
  obtain ⟨ta, pa, sa⟩ := ha
  obtain ⟨tb, pb, sb⟩ := ho
  exact ⟨_, pe_cmpR (op_in_own G hr hb M.at_ M.fn) pa pb hm, snd_inO hC sa sb⟩
theorem dt_inO {C : Addr} {F : Fn L} {fa fo : Ev L} {ps : List Str} {m : Str} (G : OkM L X.prog X.w X.K X.mg X.base k C "__contains__" ps F) (hr : Room k X.A) (hC : ∀ u as r, F (.dv (.ob u) :: as) = some r → InsOb C m u) (ha : DE L X a fa) (ho : DE L X b fo)
    (hm : behindInMarks .In b = false := by with_unfolding_all rfl) : DT L X (.Compare a [.In] [b] pos) (tst (eInO F fa fo)) := by
  obtain ⟨f, fd, G, M, hb⟩ := G
  obtain ⟨ta, pa, sa⟩ := ha
  obtain ⟨tb, pb, sb⟩ := ho
  exact ⟨_, pt_cmpR (op_in_own G hr hb M.at_ M.fn) pa pb hm, snd_tst (snd_inO hC sa sb)⟩
end
/-! ### names from a list -/
section
variable {X : Cx} {tg : Expr} {es ts : List Expr} {pos : Pos}
def uLst (n : Nat) (us : List PD → List (SV L) → Option (List (SV L))) : Eg L := fun d δ => match d with
  | .d (.list ds) => if ds.length = n then us ds δ else none
  | _ => none
theorem dg_unl {vs : List Nat} {k : Nat} {us : List PD → List (SV L) → Option (List (SV L))} {n : Nat} (hc : X.calm = true) (h : DGs L X es vs us) (hn : (assignEach es X.env).length = n := by rfl) (hst : (assignEach es X.env).findIdx? (·.1) = none := by rfl) : DG L X (.Tuple es k pos) vs (uLst n us) := by
  obtain ⟨gs, pgs, sgs⟩ := h
  refine ⟨_, pg_unl hc pgs hn hst, fun p0 σ H M ft δ v d δ' R k e Q q => ?_⟩
  unfold uLst at e
  split at e
  · rename_i ds
    by_cases hd : ds.length = n
    · rw [if_pos hd] at e
      have k' : Dk (hid H M) v (.list ds) := k
      cases k' with
      | lst ha r => exact ⟨_, _, rfl, SqL.of (hid_same _ _ ha), by rw [r.length]; exact hd, sgs p0 σ H M ft δ _ _ _ R r e Q q⟩
    · rw [if_neg hd] at e; cases e
  · cases e
end
/-! ### a list that stands while no one has it -/
theorem iter_kept {K : PySem.W.Frag} {H0 : Hp} {M0 : Mp} {ft0 : Nat → Addr → Prop} {a : Addr} {ys : List V} {ds : List PD} (ha : H0 a = some (.lst ys)) (ma : M0 a) (na : ∀ j, ¬ ft0 j a) (rk : DkAll (hid H0 M0) ys ds) : Iter L (Itl K a) H0 M0 ft0 (ds.map DV.d) where
  turn := fun H M ft s p0 σ δ R i => by
    have hq : SqL K H a ys := SqL.of (s.keep a _ ma na ha).1
    refine ⟨fun hi => ⟨ys, hq, by rw [rk.length]; rw [List.length_map] at hi; exact hi⟩, fun d ed => ?_⟩
    rw [List.getElem?_map] at ed
    cases ex : ds[i]? with
    | none => rw [ex] at ed; cases ed
    | some d' =>
      rw [ex] at ed
      cases ed
      obtain ⟨v, hv, kv⟩ := rk.get ex
      refine ⟨⟨ys, v, hq, hv⟩, fun x H' hy => ?_⟩
      obtain ⟨rfl, hx⟩ := hy
      have e2 : v = x := Option.some.inj (hv.symm.trans (hx ys hq))
      subst e2
      exact ⟨M, Step.refl .., R, kv.mono s.ext⟩
/-! ### the owned notes -/
section
variable {X : Cx} {K : PySem.W.Frag} {C1 C2 : Addr} {e elt tg : Expr} {es : List Expr} {pos p1 p2 p3 p4 p5 : Pos} {k : Nat} {self : Str}
abbrev nts (ds : List PD) : OW (L59 K C1 C2) := .res (show (L59 K C1 C2).Ow from Ow59.notes ds)
def ntsOf (s : Option (SV (L59 K C1 C2))) : Option (List PD) := match s with
  | some (.own true (.res w)) => match (show Ow59 from w) with
    | .notes ds => some ds
    | _ => none
  | _ => none
theorem ntsOf_eq {s : Option (SV (LX X C1 C2))} {ds : List PD} (h : ntsOf s = some ds) : s = some (.own true (nts ds)) := by
  unfold ntsOf at h
  split at h
  · rename_i w
    split at h
    · rename_i ds' ew
      cases h
      have : w = Ow59.notes ds := ew
      subst this
      rfl
    · cases h
  · cases h
theorem rp_nts {p0 : Option V} {H : Hp} {M : Mp} {ft : Nat → Addr → Prop} {σ : St} {δ : List (SV (LX X C1 C2))} {ds : List PD} (R : Rp (LX X C1 C2) p0 H M ft σ δ) (e : ntsOf δ[0]? = some ds) :
    ∃ (a dx l : Addr) (xs : List V), σ[0]? = some (some (.ref a)) ∧ p0 = some (.ref a) ∧ (∀ x, ft 0 x ↔ x = a ∨ x = dx ∨ x = l) ∧ H a = some (.ins C1 dx [("_papers", .ref l)]) ∧ H dx = some (.own a) ∧ H l = some (.lst xs) ∧ DkAll (hid H M) xs ds := by
  obtain ⟨v, ev, ow, hp⟩ := rp_own R (ntsOf_eq e)
  obtain ⟨a, dx, l, xs, ea, hf, ha, hd, hl, r⟩ := (show orep59 C1 C2 H (hid H M) v (.notes ds) (ft 0) from ow)
  subst ea
  exact ⟨a, dx, l, xs, ev, hp rfl, hf, ha, hd, hl, r⟩
/-- what is the notes' own changes -/
theorem Rp.mutN {p0 : Option V} {H H' : Hp} {M : Mp} {ft : Nat → Addr → Prop} {σ : St} {δ : List (SV (LX X C1 C2))} {ds ds' : List PD} (R : Rp (LX X C1 C2) p0 H M ft σ δ) (e : ntsOf δ[0]? = some ds) (same : ∀ b, ¬ ft 0 b → H' b = H b)
    (ow : OwnAt (LX X C1 C2) H' M (p0.getD .non) (nts ds') (ft 0)) : Step H M ft H' M ft ∧ Rp (LX X C1 C2) p0 H' M ft σ (δ.set 0 (.own true (nts ds'))) := by
  have e0 := ntsOf_eq e
  obtain ⟨a, dx, l, xs, ev, hp, _⟩ := rp_nts R e
  have ext : Same (hid H M) (hid H' M) := fun b o h => by
    obtain ⟨m, eo⟩ := hid_some.mp h
    exact hid_some.mpr ⟨m, by rw [same b fun z => m (R.inM 0 b z)]; exact eo⟩
  refine ⟨⟨ext, fun b o hm hn eo => ⟨by rw [same b (hn 0)]; exact eo, hm, hn⟩⟩, ?_⟩
  have R1 : Rp (LX X C1 C2) p0 H M (fset ft 0 fun _ => False) σ (δ.set 0 .un) := R.put (o := σ[0]?.join) (lt_of_get e0) (.inr ⟨rfl, rfl⟩) (fun _ z => z) (fun _ z => z.elim) (fun _ _ z => z.elim)
  have R2 : Rp (LX X C1 C2) p0 H' M (fset ft 0 fun _ => False) σ (δ.set 0 .un) := R1.carry ext fun j b o fb eo => by
    have hj : j ≠ 0 := fun z => by subst z; exact fset_same.mp fb
    exact ⟨by rw [same b fun z => hj (R.dis j 0 b ((fset_ne hj).mp fb) z)]; exact eo, R1.inM j b fb⟩
  have R3 := R2.put (i := 0) (s := .own true (nts ds')) (f := ft 0) (o := some (.ref a)) (σ' := σ) (by rw [List.length_set]; exact lt_of_get e0) (.inr ⟨rfl, by rw [ev]; rfl⟩) ⟨_, rfl, by rw [hp] at ow; exact ow, fun _ => hp⟩ (fun b fb => R.inM 0 b fb)
    (fun b j fb hj z => hj (R.dis j 0 b ((fset_ne hj).mp z) fb))
  rw [List.set_set] at R3
  have ef : fset (fset ft 0 fun _ => False) 0 (ft 0) = ft := by
    funext j b
    by_cases hj : j = 0
    · subst hj; exact propext fset_same
    · exact propext ((fset_ne hj).trans (fset_ne hj))
  rw [ef] at R3
  exact R3
/-- self._papers.append(x) -/
def sPapA (j : Nat) : Es (L59 K C1 C2) := fun δ => match ntsOf δ[0]?, δ[j]? with
  | some ds, some (.dv (.d y)) => if ds.length < 100000 then some (.nx, δ.set 0 (.own true (nts (ds ++ [y])))) else none
  | _, _ => none
theorem ds_papA (T : Cl59 K C1 C2) (j : Nat) {y : Str} (hN0 : X.N[0]? = some self := by rfl) (hN : X.N[j]? = some y := by rfl) (hv0 : Vis X.env.scope self := by first | exact Or.inl rfl | exact Or.inr (Or.inl rfl) | exact Or.inr (Or.inr rfl)) (hv : Vis X.env.scope y := by first | exact Or.inl rfl | exact Or.inr (Or.inl rfl) | exact Or.inr (Or.inr rfl))
    (hd0 : (self == ("__debug__" : Str)) = false := by decide) (hcd0 : (self == ("__classdict__" : Str)) = false := by decide) (hd : (y == ("__debug__" : Str)) = false := by decide) (hcd : (y == ("__classdict__" : Str)) = false := by decide)
    (hb : attributeBase (.Name self p1) "_papers" X.env (eval (.Name self p1) X.env) = eval (.Name self p1) X.env := by rfl) (hst : starEach (.Name y p4 :: []) X.env = (false, eval (.Name y p4) X.env) :: starEach [] X.env := by rfl)
    (hpe : ∀ {ta : TE} {t : TA}, PE X (.Attribute (.Name self p1) "_papers" p2) ta → PA X [.Name y p4] t → PE X (.Call (.Attribute (.Attribute (.Name self p1) "_papers" p2) "append" p3) [.Name y p4] [] p5) (tBM X.K "list" rAppend ta t) := by intro _ _ h1 h2; exact pe_bm PySem.F.plainAttrs_list PySem.F.slot_list_append PySem.F.type_list_append mt_append h1 h2)
    (hs : swapsWith (.Call (.Attribute (.Attribute (.Name self p1) "_papers" p2) "append" p3) [.Name y p4] [] p5) none pos.line X.env = pure false := by rfl) (eK : X.K = K := by rfl) : DS (L59 K C1 C2) X (.Expr (.Call (.Attribute (.Attribute (.Name self p1) "_papers" p2) "append" p3) [.Name y p4] [] p5) pos) (sPapA j) := by
  subst eK
  refine ⟨_, ps_expr (hpe (pe_fld (pe_var hN0 hv0 hd0 hcd0) hb) (pa_cons (pe_var hN hv hd hcd) pa_nil hst)) hs, fun p0 σ H M ft δ fl δ' R e D q => ?_⟩
  unfold sPapA at e
  split at e
  · rename_i ds yy e0 ej
    split at e
    · rename_i hl
      cases e
      obtain ⟨a, dx, l, xs, ev, hp, hf, ha, hd', hl', rk⟩ := rp_nts R e0
      obtain ⟨v, evj, kv⟩ := rp_var R ej
      have ml := R.inM 0 l ((hf l).mpr (.inr (.inr rfl)))
      have al : a ≠ l := fun z => by rw [z, hl'] at ha; cases ha
      have dl : dx ≠ l := fun z => by rw [z, hl'] at hd'; cases hd'
      refine ⟨.ref a, ev, a, C1, dx, _, .ref l, rfl, ha, T.c1, T.p, rfl, .inl ⟨rfl, _, .inl (.inl hl')⟩, v, evj, ?_⟩
      have ext : Same (hid H M) (hid (upd H l (.lst (xs ++ [v]))) M) := fun b o h => by
        obtain ⟨m, eo⟩ := hid_some.mp h
        exact hid_some.mpr ⟨m, upd_old (fun z => m (by rw [z]; exact ml)) eo⟩
      obtain ⟨s2, R2⟩ := R.mutN (H' := upd H l (.lst (xs ++ [v]))) (ds' := ds ++ [yy]) e0 (fun b nb => upd_ne fun z => nb ((hf b).mpr (.inr (.inr z)))) (by
        rw [hp]
        exact ⟨a, dx, l, xs ++ [v], rfl, hf, upd_old al ha, upd_old dl hd', upd_same, (rk.snoc kv).mono ext⟩)
      exact ⟨l, xs, v, rfl, rfl, hl', by rw [rk.length]; exact Nat.lt_of_lt_of_le hl (by decide), q σ _ M ft s2 R2⟩
    · cases e
  · cases e
/-- self._papers = [elt for tg in self._papers] -/
def sPapS (vs : List Nat) (u : Eg (L59 K C1 C2)) (f : Ev (L59 K C1 C2)) : Es (L59 K C1 C2) := fun δ => match ntsOf δ[0]? with
  | some ds => if ds.length ≤ 100000 then match lcN vs u cYes f (ds.map DV.d) (wipeD (δ.set 0 SV.un) vs) [] with
      | some (out, δ2) => match (wipeD δ2 vs)[0]? with
        | some SV.un => some (.nx, (wipeD δ2 vs).set 0 (.own true (nts out)))
        | _ => none
      | none => none
    else none
  | none => none
theorem ds_papS (T : Cl59 K C1 C2) {scope : Scope} {own : List (Str × Nat)} {ws : List Nat} {u : Eg (L59 K C1 C2)} {f : Ev (L59 K C1 C2)} (hc : X.calm = true) (hNd : X.N.Nodup) (ok : BlkOk X.N X.env.scope scope own) (hsub : ∀ i ∈ ws, i ∈ own.map (·.2))
    (hg : ∀ (s : Shared) (H : Hp) (C : Addr) (cl : List (Str × Addr)) (fp : List Addr), DG (L59 K C1 C2) (X.blk s H scope (compEnvC scope cl C X.env) fp) tg ws u)
    (he : ∀ (s : Shared) (H : Hp) (C : Addr) (cl : List (Str × Addr)) (fp : List Addr), DE (L59 K C1 C2) (X.blk s H scope (compEnvC scope cl C X.env) fp) elt f)
    (hN0 : X.N[0]? = some self := by rfl) (hv0 : Vis X.env.scope self := by first | exact Or.inl rfl | exact Or.inr (Or.inl rfl) | exact Or.inr (Or.inr rfl)) (hd0 : (self == ("__debug__" : Str)) = false := by decide) (hcd0 : (self == ("__classdict__" : Str)) = false := by decide)
    (hb : attributeBase (.Name self p1) "_papers" X.env (eval (.Name self p1) X.env) = eval (.Name self p1) X.env := by rfl) (hs : ∀ x, foldedSetIterable (.Attribute (.Name self p1) "_papers" p2) X.env x = pure x := by intro _; rfl)
    (hsw : swapsWith (.ListComp elt [⟨tg, .Attribute (.Name self p1) "_papers" p2, [], 0⟩] scope p5) (some (.Attribute (.Name self p3) "_papers" p4)) pos.line X.env = pure false := by rfl) (eK : X.K = K := by rfl) :
    DS (L59 K C1 C2) X (.Assign [.Attribute (.Name self p3) "_papers" p4] (.ListComp elt [⟨tg, .Attribute (.Name self p1) "_papers" p2, [], 0⟩] scope p5) pos) (sPapS (own.map (·.2)) u f) := by
  subst eK
  refine ⟨_, ps_fld (pe_var hN0 hv0 hd0 hcd0) (pe_lc hc hNd (pi_list (pe_fld (pe_var hN0 hv0 hd0 hcd0) hb)) ok (fun s H C cl fp => (hg s H C cl fp).can) (fun _ _ _ _ _ => pts_nil) (fun s H C cl fp => (he s H C cl fp).can) hs) hsw, fun p0 σ H M ft δ fl δ' R e D q => ?_⟩
  unfold sPapS at e
  split at e
  · rename_i ds e0
    split at e
    · rename_i hx
      split at e
      · rename_i out δ2 e2
        split at e
        · rename_i e3
          cases e
          obtain ⟨a, dx, l, xs, ev, hp, hf, ha, hd, hl, rk⟩ := rp_nts R e0
          have e0' := ntsOf_eq e0
          have R0 : Rp (LX X C1 C2) p0 H M (fset ft 0 fun _ => False) σ (δ.set 0 .un) := R.put (o := σ[0]?.join) (lt_of_get e0') (.inr ⟨rfl, rfl⟩) (fun _ z => z) (fun _ z => z.elim) (fun _ _ z => z.elim)
          have park : ∀ b, (b = a ∨ b = dx ∨ b = l) → M b ∧ ∀ j, ¬ fset ft 0 (fun _ => False) j b := fun b hb => by
            have fb := (hf b).mpr hb
            refine ⟨R.inM 0 b fb, fun j z => ?_⟩
            by_cases hj : j = 0
            · subst hj; exact fset_same.mp z
            · exact hj (R.dis j 0 b ((fset_ne hj).mp z) fb)
          refine lc_at (p0 := p0) (M := M) (ft := fset ft 0 fun _ => False) hsub (fun R' hR' => ?_) (snd_gof ws u) snd_yes (snd_of f) (by rw [List.length_map]; exact hx) e2 fun v H1 M1 ft1 s1 R1 k1 => ?_
          · refine ⟨.ref a, ev, a, C1, dx, _, .ref l, rfl, ha, T.c1, T.p, rfl, l, rfl, ⟨xs, SqL.of hl⟩, hR' _ H M _ (Step.refl ..) R0 (iter_kept hl (park l (.inr (.inr rfl))).1 (park l (.inr (.inr rfl))).2 rk)⟩
          · obtain ⟨f2, ⟨l2, ys, ev2, hf2, hl2, rk2⟩, hfr⟩ := k1
            subst ev2
            obtain ⟨ma, na, fa⟩ := hfr l2 ((hf2 l2).mpr rfl)
            obtain ⟨ha1, ma1, na1⟩ := s1.keep a _ (park a (.inl rfl)).1 (park a (.inl rfl)).2 ha
            obtain ⟨hd1, md1, nd1⟩ := s1.keep dx _ (park dx (.inr (.inl rfl))).1 (park dx (.inr (.inl rfl))).2 hd
            refine ⟨.ref a, ev, a, C1, dx, _, rfl, ha1, T.c1, T.p, (by show (1:Nat) < 1000; decide), ?_⟩
            have ef : putF ("_papers" : Str) (V.ref l2) [(("_papers" : Str), V.ref l)] = [(("_papers" : Str), V.ref l2)] := if_pos rfl
            rw [ef]
            have ext2 : Same (hid H1 M1) (hid (upd H1 a (.ins C1 dx [(("_papers" : Str), V.ref l2)])) M1) := fun b o h => by
              obtain ⟨m, eo⟩ := hid_some.mp h
              exact hid_some.mpr ⟨m, upd_old (fun z => m (by rw [z]; exact ma1)) eo⟩
            have al2 : l2 ≠ a := fun z => by rw [z, ha1] at hl2; cases hl2
            have da : dx ≠ a := fun z => by rw [z, ha1] at hd1; cases hd1
            have R2 : Rp (LX X C1 C2) p0 (upd H1 a (.ins C1 dx [(("_papers" : Str), V.ref l2)])) M1 ft1 σ (wipeD δ2 (own.map (·.2))) := R1.carry ext2 fun j b o fb eo => ⟨upd_old (fun z => na1 j (by rw [← z]; exact fb)) eo, R1.inM j b fb⟩
            refine q σ _ M1 (fset ft1 0 fun x => x = a ∨ x = dx ∨ x = l2) ⟨s1.ext.trans ext2, fun b o hm hn eo => ?_⟩ (R2.put (o := some (.ref a)) (lt_of_get e3) (.inr ⟨rfl, by rw [ev]; rfl⟩) ⟨.ref a, rfl, ⟨a, dx, l2, ys, rfl, fun _ => Iff.rfl, upd_same, upd_old da hd1, upd_old al2 hl2, rk2.mono ext2⟩, fun _ => hp⟩ (fun b fb => ?_) (fun b j fb hj z => ?_))
            · have n0 : ∀ j, ¬ fset ft 0 (fun _ => False) j b := fun j z => by
                by_cases hj : j = 0
                · subst hj; exact fset_same.mp z
                · exact hn j ((fset_ne hj).mp z)
              obtain ⟨e', m', n'⟩ := s1.keep b o hm n0 eo
              have nb : ¬ (b = a ∨ b = dx ∨ b = l) := fun z => hn 0 ((hf b).mpr z)
              refine ⟨upd_old (fun z => nb (.inl z)) e', m', fun j z => ?_⟩
              by_cases hj : j = 0
              · subst hj
                rcases fset_same.mp z with z | z | z
                · exact nb (.inl z)
                · exact nb (.inr (.inl z))
                · subst z
                  rcases fa with fa | ⟨j, fa⟩
                  · rw [fa] at eo; cases eo
                  · exact n0 j fa
              · exact n' j ((fset_ne hj).mp z)
            · rcases fb with z | z | z
              · rw [z]; exact ma1
              · rw [z]; exact md1
              · rw [z]; exact ma
            · rcases fb with y | y | y
              · exact na1 j (by rw [← y]; exact z)
              · exact nd1 j (by rw [← y]; exact z)
              · exact na j (by rw [← y]; exact z)
        · cases e
      · cases e
    · cases e
  · cases e
end
end DL
set_option Elab.async false
set_option linter.all false
set_option maxRecDepth 100000
set_option maxHeartbeats 1000000
/-! L2: what is owned changes, is let go, is made; books and their dicts. -/
namespace DL
open PySem PySem.Spec L2 TK
open PyProof.Rows hiding St
variable [CN]
variable {L : Lang}
section
variable {p0 : Option V} {H H' : Hp} {M M' : Mp} {ft : Nat → Addr → Prop} {σ : St} {δ : List (SV L)}
/-- a resource in slot i changes -/
theorem Rp.mutW {i : Nat} {b : Bool} {w w' : OW L} {v : V} {f' : Addr → Prop} (R : Rp L p0 H M ft σ δ) (e : δ[i]? = some (.own b w)) (ev : σ[i]? = some (some v)) (old : ∀ a o, ¬ ft i a → H a = some o → H' a = some o) (mm : ∀ a, M a → H a ≠ none → ¬ ft i a → M' a) (vis : ∀ a, ¬ M a → H a ≠ none → ¬ M' a)
    (fM : ∀ a, f' a → M' a) (fn : ∀ a, f' a → ft i a ∨ H a = none) (ow : OwnAt L H' M' v w' f') : Step H M ft H' M' (fset ft i f') ∧ Rp L p0 H' M' (fset ft i f') σ (δ.set i (.own b w')) := by
  have hp : b = true → p0 = some v := by
    obtain ⟨u, eu, _, hp⟩ := rp_own R e
    have : u = v := by
      have z := eu.symm.trans ev
      cases z
      rfl
    rw [← this]
    exact hp
  have ne : ∀ {a : Addr} {o : HO}, H a = some o → H a ≠ none := fun e => by rw [e]; exact fun z => nomatch z
  have ext : Same (hid H M) (hid H' M') := fun a o h => by
    obtain ⟨m, eo⟩ := hid_some.mp h
    exact hid_some.mpr ⟨vis a m (ne eo), old a o (fun z => m (R.inM i a z)) eo⟩
  refine ⟨⟨ext, fun a o hm hn eo => ⟨old a o (hn i) eo, mm a hm (ne eo) (hn i), fun j z => ?_⟩⟩, ?_⟩
  · by_cases hj : j = i
    · subst hj
      rcases fn a (fset_same.mp z) with y | y
      · exact hn j y
      · exact ne eo y
    · exact hn j ((fset_ne hj).mp z)
  · have R1 : Rp L p0 H M (fset ft i fun _ => False) σ (δ.set i .un) := R.put (o := σ[i]?.join) (lt_of_get e) (.inr ⟨rfl, rfl⟩) (fun _ z => z) (fun _ z => z.elim) (fun _ _ z => z.elim)
    have R2 : Rp L p0 H' M' (fset ft i fun _ => False) σ (δ.set i .un) := R1.carry ext fun j a o fa eo => by
      have hj : j ≠ i := fun z => by subst z; exact fset_same.mp fa
      have fa' := (fset_ne hj).mp fa
      have ni : ¬ ft i a := fun z => hj (R.dis j i a fa' z)
      exact ⟨old a o ni eo, mm a (R.inM j a fa') (ne eo) ni⟩
    have R3 := R2.put (i := i) (s := .own b w') (f := f') (o := some v) (σ' := σ) (by rw [List.length_set]; exact lt_of_get e) (.inr ⟨rfl, by rw [ev]; rfl⟩) ⟨v, rfl, ow, hp⟩ fM (fun a j fa hj z => by
      have fj := (fset_ne hj).mp z
      have fj' := fj
      rcases fn a fa with y | y
      · exact hj (R.dis j i a fj' y)
      · exact R.fnone y j fj')
    rw [List.set_set] at R3
    have ef : fset (fset ft i fun _ => False) i f' = fset ft i f' := by
      funext j x
      by_cases hj : j = i
      · subst hj; exact propext (fset_same.trans fset_same.symm)
      · exact propext ((fset_ne hj).trans ((fset_ne hj).trans (fset_ne hj).symm))
    rw [ef] at R3
    exact R3
/-- a resource in slot i is let go: it stands for all to see -/
theorem Rp.free {i : Nat} {b : Bool} {w : L.Ow} {k : L.Ob} (R : Rp L p0 H M ft σ δ) (e : δ[i]? = some (.own b (.res w))) (hk : L.shr w = some k) :
    Step H M ft H (fun a => M a ∧ ¬ ft i a) (fset ft i fun _ => False) ∧ Rp L p0 H (fun a => M a ∧ ¬ ft i a) (fset ft i fun _ => False) σ (δ.set i (.dv (.ob k))) := by
  obtain ⟨v, ev, ow, hp⟩ := rp_own R e
  have ext : Same (hid H M) (hid H fun a => M a ∧ ¬ ft i a) := fun a o h => by
    obtain ⟨m, eo⟩ := hid_some.mp h
    exact hid_some.mpr ⟨fun z => m z.1, eo⟩
  refine ⟨⟨ext, fun a o hm hn eo => ⟨eo, ⟨hm, hn i⟩, fun j z => ?_⟩⟩, ?_⟩
  · by_cases hj : j = i
    · subst hj; exact fset_same.mp z
    · exact hn j ((fset_ne hj).mp z)
  · have R1 : Rp L p0 H M (fset ft i fun _ => False) σ (δ.set i .un) := R.put (o := σ[i]?.join) (lt_of_get e) (.inr ⟨rfl, rfl⟩) (fun _ z => z) (fun _ z => z.elim) (fun _ _ z => z.elim)
    have R2 : Rp L p0 H (fun a => M a ∧ ¬ ft i a) (fset ft i fun _ => False) σ (δ.set i .un) := R1.carry ext fun j a o fa eo => by
      have hj : j ≠ i := fun z => by subst z; exact fset_same.mp fa
      have fa' := (fset_ne hj).mp fa
      exact ⟨eo, R.inM j a fa', fun z => hj (R.dis j i a fa' z)⟩
    have R3 := R2.put (i := i) (s := .dv (.ob k)) (f := fun _ => False) (o := some v) (σ' := σ) (by rw [List.length_set]; exact lt_of_get e) (.inr ⟨rfl, by rw [ev]; rfl⟩) ⟨fun _ z => z, v, rfl, L.shrOk hk ow (fun a o fa eo => hid_some.mpr ⟨fun z => z.2 fa, eo⟩) ext⟩ (fun _ z => z.elim) (fun _ _ z => z.elim)
    rw [List.set_set] at R3
    have ef : fset (fset ft i fun _ => False) i (fun _ => False) = fset ft i fun _ => False := by
      funext j x
      by_cases hj : j = i
      · subst hj; exact propext ((fset_same (f := fun _ => False)).trans (fset_same (f := fun _ => False)).symm)
      · exact propext ((fset_ne hj).trans ((fset_ne hj).trans (fset_ne hj).symm))
    rw [ef] at R3
    exact R3
end
/-! ### a result that is let go -/
def eFrz (f : Ev L) : Ev L := fun δ => match f δ with
  | some (.own (.res w), δ') => match L.shr w with
    | some k => some (.dv (.ob k), δ')
    | none => none
  | _ => none
theorem snd_frz {f : Ev L} {t : TE} (h : SndE L f t) : SndE L (eFrz f) t := fun p0 σ H M ft δ r δ' R e Q q => by
  unfold eFrz at e
  split at e
  · rename_i w δ1 e1
    split at e
    · rename_i k hk
      cases e
      refine h p0 σ H M ft δ _ _ R e1 _ fun v H1 M1 ft1 s1 R1 k1 => ?_
      obtain ⟨f, ow, hf⟩ := k1
      have ext : Same (hid H1 M1) (hid H1 fun a => M1 a ∧ ¬ f a) := fun a o h => by
        obtain ⟨m, eo⟩ := hid_some.mp h
        exact hid_some.mpr ⟨fun z => m z.1, eo⟩
      refine q v H1 _ ft1 ⟨s1.ext.trans ext, fun a o hm hn eo => ?_⟩ (R1.carry ext fun j a o fa eo => ⟨eo, R1.inM j a fa, fun z => (hf a z).2.1 j fa⟩) (L.shrOk hk ow (fun a o fa eo => hid_some.mpr ⟨fun z => z.2 fa, eo⟩) ext)
      obtain ⟨e', m', n'⟩ := s1.keep a o hm hn eo
      refine ⟨e', ⟨m', fun z => ?_⟩, n'⟩
      rcases (hf a z).2.2 with y | ⟨j, y⟩
      · rw [y] at eo; cases eo
      · exact hn j y
    · cases e
  · cases e
/-! ### a new instance -/
def eMkO (raw : L.Ow) (F : Fn L) (fa : Ea L) : Ev L := fun δ => match fa δ with
  | some (ds, δ1) => match F (.own true (.res raw) :: ds.map SV.dv) with
    | some (.dv (.d .none), some w) => some (.own w, δ1)
    | _ => none
  | none => none
theorem snd_mkO {C : Addr} {raw : L.Ow} {F : Fn L} {fa : Ea L} {t : TA} (hraw : ∀ (H G : Hp) (x dx : Addr), H x = some (.ins C dx []) → H dx = some (.own x) → L.orep H G (.ref x) raw (fun a => a = x ∨ a = dx)) (h : SndA L fa t) : SndE L (eMkO raw F fa) (tMake C (spD L F) [] E0 t) := fun p0 σ H M ft δ r δ' R e Q q => by
  unfold eMkO at e
  split at e
  · rename_i ds δ1 e1
    split at e
    · rename_i w e2
      cases e
      refine h p0 σ H M ft δ _ _ R e1 _ fun vs H1 M1 ft1 s1 R1 k1 => fun x dx hx hdx ne => ?_
      rw [List.append_nil]
      obtain ⟨H2, eH⟩ : ∃ H2, H2 = upd (upd H1 dx (.own x)) x (.ins C dx []) := ⟨_, rfl⟩
      rw [← eH]
      have hx2 : H2 x = some (.ins C dx []) := by rw [eH, upd_same]
      have hdx2 : H2 dx = some (.own x) := by rw [eH]; exact upd_old ne upd_same
      have old : ∀ a o, H1 a = some o → H2 a = some o := fun a o eo => by rw [eH]; exact upd_old (ne_of_none eo hx) (upd_old (ne_of_none eo hdx) eo)
      -- hidden: what was, and the new two
      obtain ⟨M2, eM⟩ : ∃ M2 : Mp, M2 = fun a => (M1 a ∧ H1 a ≠ none) ∨ a = x ∨ a = dx := ⟨_, rfl⟩
      have mx : ∀ a, (a = x ∨ a = dx) → M2 a := fun a z => by rw [eM]; exact .inr z
      have m1 : ∀ {a o}, M1 a → H1 a = some o → M2 a := fun m eo => by rw [eM]; exact .inl ⟨m, by rw [eo]; exact fun z => nomatch z⟩
      have nm : ∀ {a o}, H1 a = some o → M2 a → M1 a := fun {a o} eo m => by
        rw [eM] at m
        rcases m with z | z | z
        · exact z.1
        · rw [z, hx] at eo; cases eo
        · rw [z, hdx] at eo; cases eo
      have ext : Same (hid H1 M1) (hid H2 M2) := fun a o h => by
        obtain ⟨m, eo⟩ := hid_some.mp h
        exact hid_some.mpr ⟨fun z => m (nm eo z), old a o eo⟩
      have R2 : Rp L p0 H2 M2 ft1 σ δ' := R1.carry ext fun j a o fa eo => ⟨old a o eo, m1 (R1.inM j a fa) eo⟩
      have k2 : RepAll L (hid H2 M2) vs ds := k1.mono ext
      -- the callee's view
      have Rc : Rp L (some (.ref x)) H2 M2 (fun j a => j = 0 ∧ (a = x ∨ a = dx)) ((V.ref x :: vs).map some) (.own true (.res raw) :: ds.map SV.dv) := {
        len := by
          have := (rp_args (p0 := none) k2).len
          simp only [List.map_cons, List.length_cons]
          omega
        slot := fun j s es => by
          cases j with
          | zero =>
            cases es
            refine ⟨.ref x, rfl, ?_, fun _ => rfl⟩
            have ef : (fun a => (0 : Nat) = 0 ∧ (a = x ∨ a = dx)) = fun a => a = x ∨ a = dx := by
              funext a
              exact propext ⟨fun z => z.2, fun z => ⟨rfl, z⟩⟩
            rw [ef]
            exact hraw H2 _ x dx hx2 hdx2
          | succ j =>
            have sl := (rp_args (p0 := some (.ref x)) k2).slot j s es
            cases s with
            | un => exact fun a z => nomatch z.1
            | dv d => exact ⟨fun a z => (nomatch z.1), sl.2⟩
            | own b' w' =>
              exfalso
              have es' : (ds.map SV.dv)[j]? = some (SV.own b' w') := es
              rw [List.getElem?_map] at es'
              cases q : ds[j]? with
              | none => rw [q] at es'; cases es'
              | some d => rw [q] at es'; cases es'
        bnd := fun j a z => by rw [z.1]; exact Nat.succ_pos _
        inM := fun j a z => mx a z.2
        dis := fun j l a z y => by rw [z.1, y.1] }
      refine ⟨M2, _, _, _, some w, Rc, e2, fun v H3 M3 ft3 s3 a3 k3 => ?_⟩
      have k4 : Dk (hid H3 M3) v .none := k3
      cases k4
      obtain ⟨hz, u', eu, ow⟩ := a3
      cases eu
      refine ⟨rfl, ?_⟩
      have kept : ∀ a o, M1 a → H1 a = some o → H3 a = some o ∧ M3 a ∧ ∀ i, ¬ ft3 i a := fun a o m eo => s3.keep a o (m1 m eo) (fun j z => by
        rcases z.2 with y | y
        · rw [y, hx] at eo; cases eo
        · rw [y, hdx] at eo; cases eo) (old a o eo)
      have s13 : Step H1 M1 ft1 H3 M3 ft1 := ⟨ext.trans s3.ext, fun a o hm hn eo => ⟨(kept a o hm eo).1, (kept a o hm eo).2.1, hn⟩⟩
      refine q _ H3 M3 ft1 (s1.trans s13) (R1.carry s13.ext fun j a o fa eo => ⟨(kept a o (R1.inM j a fa) eo).1, (kept a o (R1.inM j a fa) eo).2.1⟩) (ResOk.back (r := .own w) s1 R1.inM ⟨ft3 0, ow, fun a fa => ?_⟩)
      have hn : H1 a = none := by
        cases eo : H1 a with
        | none => rfl
        | some o =>
          exfalso
          by_cases m : M1 a
          · exact (kept a o m eo).2.2 0 fa
          · exact (hid_some.mp (s3.ext _ _ (ext _ _ (hid_some.mpr ⟨m, eo⟩)))).1 (hz 0 a fa).2
      exact ⟨(hz 0 a fa).2, fun i z => R1.fnone hn i z, .inl hn⟩
    · cases e
  · cases e
section
variable {X : Cx} {K : PySem.W.Frag} {C1 C2 : Addr} {e elt tg : Expr} {es : List Expr} {pos p p1 p2 p3 p4 p5 : Pos} {k : Nat} {self x y z : Str}
/-- what is needed to make one -/
structure OkMk (L : Lang) (P : Program) (w : World) (K : PySem.W.Frag) (mg : Str → Option Value) (base : Heap) (k : Nat) (x : Str) (C : Addr) (ps : List Str) (F : Fn L) : Prop where
  ex : ∃ f fd, mg x = some (.ref C) ∧ Mk K C f ∧ FnOk P w K mg base CX0 k f fd ps (spD L F) ∧ Binds K fd ps []
theorem de_mkO {C : Addr} {raw : L.Ow} {F : Fn L} {fa : Ea L} {ps : List Str} (G : OkMk L X.prog X.w X.K X.mg X.base k x C ps F) (hr : Room (k + 1) X.A) (hraw : ∀ (H G : Hp) (x dx : Addr), H x = some (.ins C dx []) → H dx = some (.own x) → L.orep H G (.ref x) raw (fun a => a = x ∨ a = dx)) (ha : DA L X (e :: es) fa) (hg : Gl X x := by rfl)
    (hdb : (x == ("__debug__" : Str)) = false := by decide) (he : starEach (e :: es) X.env = (false, eval e X.env) :: starEach es X.env := by rfl) (hpl : (backTo pos (starEach es X.env)).any (·.1) = false := by rfl) :
    DE L X (.Call (.Name x p) (e :: es) [] pos) (eMkO raw F fa) := by
  obtain ⟨f, fd, hm, M, G, hb⟩ := G
  obtain ⟨t, pa, sa⟩ := ha
  exact ⟨_, pe_make M G hr hg hm hb .nil pass0 pa hdb he hpl, snd_mkO hraw sa⟩
theorem de_mkO0 {C : Addr} {raw : L.Ow} {F : Fn L} {ps : List Str} (G : OkMk L X.prog X.w X.K X.mg X.base k x C ps F) (hr : Room (k + 1) X.A) (hraw : ∀ (H G : Hp) (x dx : Addr), H x = some (.ins C dx []) → H dx = some (.own x) → L.orep H G (.ref x) raw (fun a => a = x ∨ a = dx)) (hg : Gl X x := by rfl)
    (hdb : (x == ("__debug__" : Str)) = false := by decide) : DE L X (.Call (.Name x p) [] [] pos) (eMkO raw F aNil) := by
  obtain ⟨f, fd, hm, M, G, hb⟩ := G
  exact ⟨_, pe_make0 M G hr hg hm hb .nil pass0 hdb, snd_mkO hraw snd_nil⟩
theorem DE.frz {f : Ev L} (h : DE L X e f) : DE L X e (eFrz f) := by
  obtain ⟨t, p, s⟩ := h
  exact ⟨t, p, snd_frz s⟩
theorem raw59 {K : PySem.W.Frag} {C1 C2 : Addr} (c : Bool) (H G : Hp) (x dx : Addr) (h1 : H x = some (.ins (if c then C1 else C2) dx [])) (h2 : H dx = some (.own x)) : (L59 K C1 C2).orep H G (.ref x) (Ow59.raw c) (fun a => a = x ∨ a = dx) := ⟨x, dx, rfl, fun _ => Iff.rfl, h1, h2⟩
end
end DL
set_option Elab.async false
set_option linter.all false
set_option maxRecDepth 100000
set_option maxHeartbeats 1000000
/-! L3: a book's making: its dict, its fields. -/
namespace DL
open PySem PySem.Spec L2 TK
open PyProof.Rows hiding St
variable [CN]
section
variable {X : Cx} {K : PySem.W.Frag} {C1 C2 : Addr} {e e1 e2 elt tg : Expr} {es : List Expr} {pos p p1 p2 p3 p4 p5 p6 p7 : Pos} {k : Nat} {self x y z : Str}
abbrev rs59 (w : Ow59) : OW (L59 K C1 C2) := .res (show (L59 K C1 C2).Ow from w)
def owOf (s : Option (SV (L59 K C1 C2))) : Option Ow59 := match s with
  | some (.own true (.res w)) => some (show Ow59 from w)
  | _ => none
theorem owOf_eq {s : Option (SV (LX X C1 C2))} {w : Ow59} (h : owOf s = some w) : s = some (.own true (rs59 w)) := by
  unfold owOf at h
  split at h
  · cases h; rfl
  · cases h
def fwOf (s : Option (SV (L59 K C1 C2))) : Option Ow59 := match s with
  | some (.own false (.res w)) => some (show Ow59 from w)
  | _ => none
theorem fwOf_eq {s : Option (SV (LX X C1 C2))} {w : Ow59} (h : fwOf s = some w) : s = some (.own false (rs59 w)) := by
  unfold fwOf at h
  split at h
  · cases h; rfl
  · cases h
/-- self._papers = [] -/
def sPapN : Es (L59 K C1 C2) := fun δ => match owOf δ[0]? with
  | some (.raw true) => some (.nx, δ.set 0 (.own true (rs59 (.notes []))))
  | _ => none
theorem ds_papN (T : Cl59 K C1 C2) (hN0 : X.N[0]? = some self := by rfl) (hv0 : Vis X.env.scope self := by first | exact Or.inl rfl | exact Or.inr (Or.inl rfl) | exact Or.inr (Or.inr rfl)) (hd0 : (self == ("__debug__" : Str)) = false := by decide) (hcd0 : (self == ("__classdict__" : Str)) = false := by decide)
    (hsw : swapsWith (.List [] p2) (some (.Attribute (.Name self p3) "_papers" p4)) pos.line X.env = pure false := by rfl) (eK : X.K = K := by rfl) : DS (L59 K C1 C2) X (.Assign [.Attribute (.Name self p3) "_papers" p4] (.List [] p2) pos) sPapN := by
  subst eK
  refine ⟨_, ps_fld (pe_var hN0 hv0 hd0 hcd0) (pe_lst pa_nil) hsw, fun p0 σ H M ft δ fl δ' R e D q => ?_⟩
  unfold sPapN at e
  split at e
  · rename_i e0
    cases e
    have e0' := owOf_eq e0
    obtain ⟨v, ev, ow, hp⟩ := rp_own R e0'
    obtain ⟨a, dx, ea, hf, ha, hd⟩ := (show orep59 C1 C2 H (hid H M) v (.raw true) (ft 0) from ow)
    subst ea
    have ha : H a = some (.ins C1 dx []) := ha
    refine ⟨Nat.zero_le _, fun l hl => ⟨.ref a, ev, a, C1, dx, [], rfl, upd_old (ne_of_none ha hl) ha, T.c1, T.p, by show (0 : Nat) < 1000; decide, ?_⟩⟩
    have fa := (hf a).mpr (.inl rfl)
    have da : dx ≠ a := fun z => by rw [z, ha] at hd; cases hd
    have la : l ≠ a := fun z => by rw [z, ha] at hl; cases hl
    have ld : l ≠ dx := fun z => by rw [z, hd] at hl; cases hl
    obtain ⟨s2, R2⟩ := R.mutW (H' := upd (upd H l (.lst [])) a (.ins C1 dx [(("_papers" : Str), V.ref l)])) (M' := ins M l) (w' := rs59 (.notes [])) (f' := fun b => b = a ∨ b = dx ∨ b = l) e0' ev
      (fun b o nb eo => upd_old (fun z => nb (by rw [z]; exact fa)) (upd_old (ne_of_none eo hl) eo)) (fun b m _ _ => .inl m) (fun b m n z => z.elim m fun y => n (by rw [y]; exact hl))
      (fun b fb => by
        rcases fb with y | y | y
        · exact .inl (R.inM 0 b ((hf b).mpr (.inl y)))
        · exact .inl (R.inM 0 b ((hf b).mpr (.inr y)))
        · exact .inr y)
      (fun b fb => by
        rcases fb with y | y | y
        · exact .inl ((hf b).mpr (.inl y))
        · exact .inl ((hf b).mpr (.inr y))
        · exact .inr (by rw [y]; exact hl))
      ⟨a, dx, l, [], rfl, fun _ => Iff.rfl, upd_same, upd_old da (upd_old (Ne.symm ld) hd), upd_old la upd_same, .nil⟩
    exact q σ _ _ _ s2 R2
  · cases e
/-- {} -/
def eDct0 : Ev (L59 K C1 C2) := fun δ => some (.own (rs59 (.dct [])), δ)
theorem de_dct0 (eK : X.K = K := by rfl) : DE (L59 K C1 C2) X (.Dict [] [] pos) eDct0 := by
  subst eK
  refine ⟨_, pe_dnewT, fun p0 σ H M ft δ r δ' R e Q q => ?_⟩
  cases e
  intro d hd
  obtain ⟨s2, R2⟩ := allocM (o := .dT []) R hd
  refine q _ _ _ ft s2 R2 ⟨fun b => b = d, ⟨d, rfl, fun _ => Iff.rfl, upd_same⟩, fun b eb => ?_⟩
  rw [eb]
  exact ⟨.inr rfl, fun i => R.fnone hd i, .inl hd⟩
/-- d.get((x, y), 0), d read -/
def eDGet (fo fx fy : Ev (L59 K C1 C2)) : Ev (L59 K C1 C2) := fun δ => match frz fo δ with
  | some (.ob o, δ1) => match (show Ob59 from o), frz fx δ1 with
    | .dct kvs, some (.d (.str x), δ2) => match frz fy δ2 with
      | some (.d (.str y), δ3) => some (.dv (.d (.int (((kvs.find? fun p => decide (p.1 = [.inr x, .inr y])).map (·.2)).getD 0))), δ3)
      | _ => none
    | _, _ => none
  | _ => none
theorem de_dget (hr : Room k X.A) {fo fx fy : Ev (L59 K C1 C2)} {j : Nat} {n : Nat} (ho : DE (L59 K C1 C2) X e fo) (h1 : DE (L59 K C1 C2) X e1 fx) (h2 : DE (L59 K C1 C2) X e2 fy)
    (m : M2 X e "get" p2 (.Tuple [e1, e2] j p3) (.Constant (.int 0) n p4) pos := by exact ⟨rfl, rfl, rfl, rfl⟩)
    (hs : starEach [e1, e2] X.env = (false, eval e1 X.env) :: starEach [e2] X.env := by rfl) (hs2 : starEach [e2] X.env = (false, eval e2 X.env) :: starEach [] X.env := by rfl) (eK : X.K = K := by rfl) :
    DE (L59 K C1 C2) X (.Call (.Attribute e "get" p2) [.Tuple [e1, e2] j p3, .Constant (.int 0) n p4] [] pos) (eDGet fo fx fy) := by
  subst eK
  obtain ⟨t, p, s⟩ := ho
  obtain ⟨t1, pe1, s1⟩ := h1
  obtain ⟨t2, pe2, s2⟩ := h2
  have hu : X.A.units + 1 < cLine := by have := hr.un; omega
  refine ⟨_, pe_dget2 hu p (pe_tup (pa_cons pe1 (pa_cons pe2 pa_nil hs2) hs)) pe_int m, fun p0 σ H M ft δ r δ' R e Q q => ?_⟩
  unfold eDGet at e
  split at e
  · rename_i o δ1 q1
    split at e
    · rename_i kvs x δ2 eo q2
      split at e
      · rename_i y δ3 q3
        cases e
        refine s.frz p0 σ H M ft δ _ _ R q1 _ fun v H1 M1 ft1 st1 R1 k1 => ?_
        have k2 : rep59 X.K C1 C2 (hid H1 M1) v (.dct kvs) := by rw [← show (show Ob59 from o) = Ob59.dct kvs from eo]; exact k1
        obtain ⟨d, ev, hd⟩ := k2
        refine ⟨d, ev, .inr ⟨_, .inl (hid_same _ _ hd)⟩, ?_⟩
        refine s1.frz p0 σ H1 M1 ft1 δ1 _ _ R1 q2 _ fun vx H2 M2 ft2 st2 R2 kx => ?_
        refine s2.frz p0 σ H2 M2 ft2 δ2 _ _ R2 q3 _ fun vy H3 M3 ft3 st3 R3 ky => ?_
        have kx' : Dk (hid H2 M2) vx (.str x) := kx
        have ky' : Dk (hid H3 M3) vy (.str y) := ky
        cases kx'
        cases ky'
        refine ⟨by show 2 ≤ sizeLine; decide, fun tp htp => ?_⟩
        obtain ⟨st4, R4, ht⟩ := alloc (o := .tup [.str x, .str y]) R3 htp
        have hd4 := hid_same _ _ (st4.ext _ _ (st3.ext _ _ (st2.ext _ _ hd)))
        refine ⟨_, DGet.t (k := [.inr x, .inr y]) hd4 (hid_same _ _ ht), ?_⟩
        rw [valV_bks]
        refine q _ _ _ _ (((st1.trans st2).trans st3).trans st4) R4 ?_
        cases (kvs.find? fun p => decide (p.1 = [.inr x, .inr y])) <;> exact .int _
      · cases e
    · cases e
  · cases e
/-- d[x, y] = n -/
def putI (kvs : List (Kt × Int)) (k : Kt) (n : Int) : List (Kt × Int) := if (kvs.any fun p => decide (p.1 = k)) = true then kvs.map (fun p => if p.1 = k then (p.1, n) else p) else kvs ++ [(k, n)]
theorem bks_put (kvs : List (Kt × Int)) (k : Kt) (n : Int) : putK (bks kvs) k (.int n) = bks (putI kvs k n) := by
  unfold putK putI bks
  have ea : (List.map (fun p : Kt × Int => (p.1, V.int p.2)) kvs).any (fun kv => decide (kv.1 = k)) = kvs.any fun p => decide (p.1 = k) := by
    rw [List.any_map]
    rfl
  rw [ea]
  split
  · rw [List.map_map, List.map_map]
    refine List.map_congr_left fun p _ => ?_
    show (if p.1 = k then (p.1, V.int n) else (p.1, V.int p.2)) = ((if p.1 = k then (p.1, n) else p).1, V.int (if p.1 = k then (p.1, n) else p).2)
    split <;> rfl
  · rw [List.map_append]
    rfl
def sDPutN (i j1 j2 j3 : Nat) : Es (L59 K C1 C2) := fun δ => match fwOf δ[i]?, δ[j1]?, δ[j2]?, δ[j3]? with
  | some (.dct kvs), some (.dv (.d (.str x))), some (.dv (.d (.str y))), some (.dv (.d (.int n))) => if kvs.length < 60 then some (.nx, δ.set i (.own false (rs59 (.dct (putI kvs [.inr x, .inr y] n))))) else none
  | _, _, _, _ => none
theorem ds_dputN (hr : Room k X.A) (i j1 j2 j3 : Nat) {b c1 c2 c3 : Str} {j : Nat} (hb : PE X (.Name b p1) (tVar i) := by exact pv _) (h1 : PE X (.Name c1 p2) (tVar j1) := by exact pv _) (h2 : PE X (.Name c2 p3) (tVar j2) := by exact pv _) (h3 : PE X (.Name c3 p4) (tVar j3) := by exact pv _)
    (hs : starEach [.Name c1 p2, .Name c2 p3] X.env = (false, eval (.Name c1 p2) X.env) :: starEach [.Name c2 p3] X.env := by rfl) (hs2 : starEach [.Name c2 p3] X.env = (false, eval (.Name c2 p3) X.env) :: starEach [] X.env := by rfl)
    (hsw : swapsWith (.Name c3 p4) (some (.Subscript (.Name b p1) (.Tuple [.Name c1 p2, .Name c2 p3] j p5) p6)) pos.line X.env = pure false := by rfl) (eK : X.K = K := by rfl) :
    DS (L59 K C1 C2) X (.Assign [.Subscript (.Name b p1) (.Tuple [.Name c1 p2, .Name c2 p3] j p5) p6] (.Name c3 p4) pos) (sDPutN i j1 j2 j3) := by
  subst eK
  have hu : X.A.units + 1 < cLine := by have := hr.un; omega
  refine ⟨_, ps_dput hu hb (pe_tup (pa_cons h1 (pa_cons h2 pa_nil hs2) hs)) h3 hsw, fun p0 σ H M ft δ fl δ' R e D q => ?_⟩
  unfold sDPutN at e
  split at e
  · rename_i kvs xx yy n e0 q1 q2 q3
    split at e
    · rename_i hl
      cases e
      obtain ⟨v3, ev3, k3⟩ := rp_var R q3
      obtain ⟨v1, ev1, k1⟩ := rp_var R q1
      obtain ⟨v2, ev2, k2⟩ := rp_var R q2
      have k1 : Dk _ v1 (.str xx) := k1
      have k2 : Dk _ v2 (.str yy) := k2
      have k3 : Dk _ v3 (.int n) := k3
      cases k1
      cases k2
      cases k3
      have e0' := fwOf_eq e0
      obtain ⟨v, ev, ow, hp⟩ := rp_own R e0'
      obtain ⟨d, ed, hf, hd⟩ := (show orep59 C1 C2 H (hid H M) v (.dct kvs) (ft i) from ow)
      subst ed
      refine ⟨_, ev3, _, ev, _, ev1, _, ev2, by show 2 ≤ sizeLine; decide, fun tp htp => ?_⟩
      obtain ⟨s2, R2, ht⟩ := alloc (o := .tup [.str xx, .str yy]) R htp
      have hd2 : upd H tp (.tup [.str xx, .str yy]) d = some (.dT (bks kvs)) := upd_old (ne_of_none hd htp) hd
      refine ⟨d, _, rfl, DPut.t (k := [.inr xx, .inr yy]) hd2 (hid_same _ _ ht) (by unfold bks; rw [List.length_map, sizeLine_eq]; omega), ?_⟩
      rw [bks_put]
      have fd := (hf d).mpr rfl
      obtain ⟨s3, R3⟩ := R2.mutW (H' := upd (upd H tp (.tup [.str xx, .str yy])) d (.dT (bks (putI kvs [.inr xx, .inr yy] n)))) (M' := DL.del M tp) (w' := rs59 (.dct (putI kvs [.inr xx, .inr yy] n))) (f' := ft i) e0' ev
        (fun b o nb eo => upd_old (fun z => nb (by rw [z]; exact fd)) eo) (fun b m _ _ => m) (fun b m _ => m) (fun b fb => R2.inM i b fb) (fun b fb => .inl fb) ⟨d, rfl, hf, upd_same⟩
      exact q σ _ _ _ (s2.trans s3) R3
    · cases e
  · cases e
/-- self._bounds = d -/
def sBnd (i : Nat) : Es (L59 K C1 C2) := fun δ => match owOf δ[0]?, fwOf δ[i]? with
  | some (.raw false), some (.dct kvs) => some (.nx, (δ.set i (.dv (.ob (show (L59 K C1 C2).Ob from Ob59.dct kvs)))).set 0 (.own true (rs59 (.half kvs))))
  | _, _ => none
theorem ds_bnd (T : Cl59 K C1 C2) (i : Nat) {b : Str} (hs0 : PE X (.Name self p3) (tVar 0) := by exact pv _) (hb : PE X (.Name b p1) (tVar i) := by exact pv _)
    (hsw : swapsWith (.Name b p1) (some (.Attribute (.Name self p3) "_bounds" p4)) pos.line X.env = pure false := by rfl) (eK : X.K = K := by rfl) : DS (L59 K C1 C2) X (.Assign [.Attribute (.Name self p3) "_bounds" p4] (.Name b p1) pos) (sBnd i) := by
  subst eK
  refine ⟨_, ps_fld hs0 hb hsw, fun p0 σ H M ft δ fl δ' R e D q => ?_⟩
  unfold sBnd at e
  split at e
  · rename_i kvs e0 e1
    cases e
    have e0' := owOf_eq e0
    have e1' := fwOf_eq e1
    have i0 : i ≠ 0 := fun z => by rw [z, e0'] at e1'; cases e1'
    obtain ⟨v, ev, ow, hp⟩ := rp_own R e0'
    obtain ⟨a, dx, ea, hf, ha, hd⟩ := (show orep59 C1 C2 H (hid H M) v (.raw false) (ft 0) from ow)
    subst ea
    have ha : H a = some (.ins C2 dx []) := ha
    obtain ⟨v1, ev1, ow1, _⟩ := rp_own R e1'
    obtain ⟨d, ed, hfd, hdd⟩ := (show orep59 C1 C2 H (hid H M) v1 (.dct kvs) (ft i) from ow1)
    subst ed
    refine ⟨_, ev1, .ref a, ev, a, C2, dx, [], rfl, ha, T.c2, T.b, by show (0 : Nat) < 1000; decide, ?_⟩
    obtain ⟨s2, R2⟩ := R.free (k := (show (LX X C1 C2).Ob from Ob59.dct kvs)) e1' rfl
    have fa := (hf a).mpr (.inl rfl)
    have da : dx ≠ a := fun z => by rw [z, ha] at hd; cases hd
    have dna : d ≠ a := fun z => by rw [z, ha] at hdd; cases hdd
    have ft0 : ∀ b, fset ft i (fun _ => False) 0 b ↔ ft 0 b := fun b => fset_ne (Ne.symm i0)
    have g0 : (δ.set i (SV.dv (DV.ob (show (LX X C1 C2).Ob from Ob59.dct kvs))))[0]? = some (.own true (rs59 (.raw false))) := by rw [List.getElem?_set_ne i0]; exact e0'
    obtain ⟨s3, R3⟩ := R2.mutW (H' := upd H a (.ins C2 dx [(("_bounds" : Str), V.ref d)])) (M' := fun b => M b ∧ ¬ ft i b) (w' := rs59 (.half kvs)) (f' := fun b => b = a ∨ b = dx) g0 ev
      (fun b o nb eo => upd_old (fun z => nb (by rw [z]; exact (ft0 a).mpr fa)) eo) (fun b m _ _ => m) (fun b m _ => m)
      (fun b fb => R2.inM 0 b ((ft0 b).mpr ((hf b).mpr fb))) (fun b fb => .inl ((ft0 b).mpr ((hf b).mpr fb)))
      ⟨a, dx, d, rfl, fun _ => Iff.rfl, upd_same, upd_old da hd, hid_some.mpr ⟨fun z => z.2 ((hfd d).mpr rfl), upd_old dna hdd⟩⟩
    exact q σ _ _ _ (s2.trans s3) R3
  · cases e
/-- the keys are pairs of texts -/
def twoS (k : Kt) : Bool := match k with
  | [.inr _, .inr _] => true
  | _ => false
theorem twoS_eq {k : Kt} (h : twoS k = true) : ∃ x y, k = [.inr x, .inr y] := by
  unfold twoS at h
  split at h
  · exact ⟨_, _, rfl⟩
  · cases h
def okB (kvs : List (Kt × Int)) : Bool := kvs.all (fun p => twoS p.1) && (okK (kvs.map fun p => ktD p.1) && decide (kvs.length < 60))
theorem wipe_set {σ σ' : St} {vs : List Nat} (hl : σ'.length = σ.length) (h : ∀ j, j ∉ vs → σ'[j]? = (wipe σ vs)[j]?) : wipe σ' vs = wipe σ vs := by
  refine List.ext_getElem? fun j => ?_
  by_cases hj : j ∈ vs
  · rw [wipe_get, wipe_get, if_pos hj, if_pos hj, hl]
  · rw [wipe_get σ', if_neg hj, h j hj]
theorem bks_get {kvs : List (Kt × Int)} {k : Kt} (h : k ∈ kvs.map (·.1)) : ∃ n : Int, valV (bks kvs) k = some (.int n) := by
  rw [valV_bks]
  obtain ⟨p, hp, e⟩ := List.mem_map.mp h
  cases q : kvs.find? fun p => decide (p.1 = k) with
  | none =>
    have := List.find?_eq_none.mp q p hp
    simp [e] at this
  | some r => exact ⟨r.2, rfl⟩
/-- self._kept = tuple([(a, b, d[a, b]) for a, b in sorted(d)]): slots a, b (ia, ib) are the block's own -/
def sKept (i ia ib : Nat) (vs : List Nat) : Es (L59 K C1 C2) := fun δ => match owOf δ[0]?, δ[i]? with
  | some (.half kvs), some (.dv (.ob o)) => match (show Ob59 from o) with
    | .dct kvs' => if kvs' = kvs ∧ okB kvs = true ∧ ia ≠ ib ∧ ia ∈ vs ∧ ib ∈ vs ∧ i ∉ vs ∧ ia < δ.length ∧ ib < δ.length then some (.nx, δ.set 0 (.own true (rs59 (.bk kvs)))) else none
    | _ => none
  | _, _ => none
/-- the reading of the value -/
abbrev tKept (K : PySem.W.Frag) (i ia ib : Nat) (vs : List Nat) : TE := tLc (iList K (tCB (rSortD K) (tCons (tVar i) tNil))) (gTup K 2 (gCons (gName ia) (gCons (gName ib) gNil))) tYes (tTup (tCons (tVar ia) (tCons (tVar ib) (tCons (tDGet (tVar i) (tTup (tCons (tVar ia) (tCons (tVar ib) tNil)))) tNil)))) vs
theorem kept_ok {K : PySem.W.Frag} {i ia ib : Nat} {vs : List Nat} {σ : St} {H : Hp} {d : Addr} {kvs : List (Kt × Int)} {Q : VK} (hd : H d = some (.dT (bks kvs))) (ev : σ[i]? = some (some (.ref d))) (ok : okB kvs = true) (hab : ia ≠ ib) (ha : ia ∈ vs) (hb : ib ∈ vs) (hi : i ∉ vs) (la : ia < σ.length) (lb : ib < σ.length)
    (q : ∀ l ys H', (∀ b o, H b = some o → H' b = some o) → H' l = some (.lst ys) → H l = none → Q (.ref l) H') : tKept K i ia ib vs σ H Q := by
  unfold okB at ok
  rw [Bool.and_eq_true, Bool.and_eq_true, decide_eq_true_eq] at ok
  obtain ⟨o1, o2, o3⟩ := ok
  have e0 : (bks kvs).map (fun p => ktD p.1) = kvs.map fun p => ktD p.1 := by unfold bks; rw [List.map_map]; rfl
  have e1 : (bks kvs).map (·.1) = kvs.map (·.1) := by unfold bks; rw [List.map_map]; rfl
  refine ⟨.ref d, ev, d, bks kvs, rfl, .inl hd, by rw [e0]; exact o2, by unfold bks; rw [List.length_map]; omega, fun L' l pm hk so hl => ?_⟩
  refine ⟨l, rfl, ⟨_, SqL.of upd_same⟩, fun D hD => ?_⟩
  have Dl : D ≠ l := fun z => by rw [z, upd_same] at hD; cases hD
  have hD0 : H D = none := by rw [upd_ne Dl] at hD; exact hD
  have few : L'.length < 64 := by
    have := pm.length_eq
    rw [List.length_map, e1, List.length_map] at this
    omega
  refine lc_list (xs := L'.map fun p => V.ref p.1) (fun n Hn => (∀ b o, b ≠ D → upd H l (.lst (L'.map fun p => V.ref p.1)) b = some o → Hn b = some o) ∧ ∃ acc, Hn D = some (.lst acc) ∧ acc.length ≤ n) ⟨fun b o hb eo => upd_old hb eo, [], upd_same, Nat.le_refl _⟩
    (fun n Hn _ p => SqL.of (p.1 l _ (Ne.symm Dl) upd_same)) (fun n x Hn hx p => ?_) (fun Hn p => ?_)
  · obtain ⟨keep, acc, hacc, hal⟩ := p
    rw [List.getElem?_map] at hx
    cases er : L'[n]? with
    | none => rw [er] at hx; cases hx
    | some r =>
      rw [er] at hx
      cases hx
      have mr := List.mem_of_getElem? er
      have km : r.2 ∈ kvs.map (·.1) := by rw [← e1]; exact pm.mem_iff.mp (List.mem_map.mpr ⟨r, mr, rfl⟩)
      obtain ⟨pk, hpk, epk⟩ := List.mem_map.mp km
      obtain ⟨xx, yy, ek⟩ := twoS_eq (List.all_eq_true.mp o1 pk hpk)
      rw [epk] at ek
      have up : ∀ b o, H b = some o → Hn b = some o := fun b o eo => keep b o (ne_of_none eo hD0) (upd_old (ne_of_none eo hl) eo)
      have ht := up _ _ (hk r mr)
      rw [ek] at ht
      refine ⟨r.1, [.str xx, .str yy], rfl, SqT.of ht, rfl, .str xx, [.str yy], rfl, .str yy, [], rfl, rfl, ?_⟩
      have sl : ∀ (τ : St), τ = ((wipe σ vs).set ia (some (.str xx))).set ib (some (.str yy)) → τ.length = σ.length ∧ τ[ia]? = some (some (.str xx)) ∧ τ[ib]? = some (some (.str yy)) ∧ τ[i]? = some (some (.ref d)) ∧ wipe τ vs = wipe σ vs := fun τ eτ => by
        have l1 : τ.length = σ.length := by rw [eτ, List.length_set, List.length_set, wipe_length]
        refine ⟨l1, ?_, ?_, ?_, wipe_set l1 fun j hj => ?_⟩
        · rw [eτ, List.getElem?_set_ne (Ne.symm hab), List.getElem?_set_self (by rw [wipe_length]; exact la)]
        · rw [eτ, List.getElem?_set_self (by rw [List.length_set, wipe_length]; exact lb)]
        · rw [eτ, List.getElem?_set_ne (fun z => hi (by rw [← z]; exact hb)), List.getElem?_set_ne (fun z => hi (by rw [← z]; exact ha)), wipe_get, if_neg hi]
          exact ev
        · rw [eτ, List.getElem?_set_ne (fun z => hj (by rw [← z]; exact hb)), List.getElem?_set_ne (fun z => hj (by rw [← z]; exact ha))]
      obtain ⟨_, s1, s2, s3, s4⟩ := sl _ rfl
      refine ⟨s4, ?_⟩
      unfold tYes
      simp only [if_true]
      obtain ⟨nv, hv⟩ := bks_get (kvs := kvs) (k := r.2) km
      refine ⟨_, s1, _, s2, _, s3, _, s1, _, s2, by show 2 ≤ sizeLine; decide, fun t1 h1 => ?_⟩
      have hd1 : upd Hn t1 (.tup [.str xx, .str yy]) d = some (.dT (bks kvs)) := upd_old (ne_of_none (up _ _ hd) h1) (up _ _ hd)
      refine ⟨d, .int nv, rfl, ?_, by show 3 ≤ sizeLine; decide, fun t2 h2 => ?_⟩
      · have g := DGet.t (k := [.inr xx, .inr yy]) hd1 (show upd Hn t1 (.tup [.str xx, .str yy]) t1 = some (.tup (([.inr xx, .inr yy] : List Key).map kV)) from upd_same)
        rw [← ek, hv] at g
        exact g
      · have h2' : t2 ≠ t1 := fun z => by rw [z, upd_same] at h2; cases h2
        have h2n : Hn t2 = none := by rw [upd_ne h2'] at h2; exact h2
        refine ⟨acc, upd_old (ne_of_none hacc h2n) (upd_old (ne_of_none hacc h1) hacc), Nat.lt_of_le_of_lt hal (Nat.lt_of_lt_of_le (lt_of_get er) (by rw [sizeLine_eq]; omega)), fun b o hb eo => ?_, _, upd_same, by rw [List.length_append]; exact Nat.succ_le_succ hal⟩
        have e3 := keep b o hb eo
        exact upd_old hb (upd_old (ne_of_none e3 h2n) (upd_old (ne_of_none e3 h1) e3))
  · obtain ⟨keep, acc, hacc, _⟩ := p
    exact q D acc Hn (fun b o eo => keep b o (ne_of_none eo hD0) (upd_old (ne_of_none eo hl) eo)) hacc hD0
theorem ds_kept (T : Cl59 K C1 C2) (i ia ib : Nat) {b x1 x2 : Str} {j1 j2 j3 : Nat} {q1 q2 q3 q4 q5 q6 q7 q8 q9 qa qb qc qd qe : Pos} {scope : Scope} {own : List (Str × Nat)} (hr : Room k X.A) (hc : X.calm = true) (hNd : X.N.Nodup) (ok : BlkOk X.N X.env.scope scope own)
    (hm : X.mg "sorted" = none) (hv : bootBuiltins "sorted" = some (.builtin "sorted")) (hm2 : X.mg "tuple" = none) (hv2 : bootBuiltins "tuple" = some (.type "tuple"))
    (hs0 : PE X (.Name self p3) (tVar 0) := by exact pv _) (hb : PE X (.Name b q3) (tVar i) := by exact pv _)
    (hg : ∀ (s : Shared) (H : Hp) (C : Addr) (cl : List (Str × Addr)) (fp : List Addr), PG (X.blk s H scope (compEnvC scope cl C X.env) fp) (.Tuple [.Name x1 q5, .Name x2 q6] j1 q7) (gTup X.K 2 (gCons (gName ia) (gCons (gName ib) gNil))))
    (he : ∀ (s : Shared) (H : Hp) (C : Addr) (cl : List (Str × Addr)) (fp : List Addr), PE (X.blk s H scope (compEnvC scope cl C X.env) fp) (.Tuple [.Name x1 q8, .Name x2 q9, .Subscript (.Name b qa) (.Tuple [.Name x1 qb, .Name x2 qc] j2 qd) qe] j3 q4) (tTup (tCons (tVar ia) (tCons (tVar ib) (tCons (tDGet (tVar i) (tTup (tCons (tVar ia) (tCons (tVar ib) tNil)))) tNil)))))
    (hg1 : Gl X "sorted" := by rfl) (hg2 : Gl X "tuple" := by rfl)
    (hst : starEach [.Name b q3] X.env = (false, eval (.Name b q3) X.env) :: starEach [] X.env := by rfl)
    (hst2 : starEach [.ListComp (.Tuple [.Name x1 q8, .Name x2 q9, .Subscript (.Name b qa) (.Tuple [.Name x1 qb, .Name x2 qc] j2 qd) qe] j3 q4) [⟨.Tuple [.Name x1 q5, .Name x2 q6] j1 q7, .Call (.Name "sorted" q1) [.Name b q3] [] q2, [], 0⟩] scope p5] X.env = (false, eval (.ListComp (.Tuple [.Name x1 q8, .Name x2 q9, .Subscript (.Name b qa) (.Tuple [.Name x1 qb, .Name x2 qc] j2 qd) qe] j3 q4) [⟨.Tuple [.Name x1 q5, .Name x2 q6] j1 q7, .Call (.Name "sorted" q1) [.Name b q3] [] q2, [], 0⟩] scope p5) X.env) :: starEach [] X.env := by rfl)
    (hs : ∀ x, foldedSetIterable (.Call (.Name "sorted" q1) [.Name b q3] [] q2) X.env x = pure x := by intro _; rfl)
    (hsw : swapsWith (.Call (.Name "tuple" p6) [.ListComp (.Tuple [.Name x1 q8, .Name x2 q9, .Subscript (.Name b qa) (.Tuple [.Name x1 qb, .Name x2 qc] j2 qd) qe] j3 q4) [⟨.Tuple [.Name x1 q5, .Name x2 q6] j1 q7, .Call (.Name "sorted" q1) [.Name b q3] [] q2, [], 0⟩] scope p5] [] p7) (some (.Attribute (.Name self p3) "_kept" p4)) pos.line X.env = pure false := by rfl) (eK : X.K = K := by rfl) :
    DS (L59 K C1 C2) X (.Assign [.Attribute (.Name self p3) "_kept" p4] (.Call (.Name "tuple" p6) [.ListComp (.Tuple [.Name x1 q8, .Name x2 q9, .Subscript (.Name b qa) (.Tuple [.Name x1 qb, .Name x2 qc] j2 qd) qe] j3 q4) [⟨.Tuple [.Name x1 q5, .Name x2 q6] j1 q7, .Call (.Name "sorted" q1) [.Name b q3] [] q2, [], 0⟩] scope p5] [] p7) pos) (sKept i ia ib (own.map (·.2))) := by
  subst eK
  have hu : X.A.units + 64 < cLine := by have := hr.un; omega
  have pl : PE X (.ListComp (.Tuple [.Name x1 q8, .Name x2 q9, .Subscript (.Name b qa) (.Tuple [.Name x1 qb, .Name x2 qc] j2 qd) qe] j3 q4) [⟨.Tuple [.Name x1 q5, .Name x2 q6] j1 q7, .Call (.Name "sorted" q1) [.Name b q3] [] q2, [], 0⟩] scope p5) (tKept X.K i ia ib (own.map (·.2))) :=
    pe_lc hc hNd (pi_list (pe_callB (cr_sortD hc hu) hg1 hm hv (pa_cons hb pa_nil hst) (by decide) (by decide) hst (by rfl))) ok hg (fun _ _ _ _ _ => pts_nil) he hs
  refine ⟨_, ps_fld hs0 (pe_callTy call_tuple_of hg2 hm2 hv2 (pa_cons pl pa_nil hst2) (by decide) (by decide) hst2 (by rfl)) hsw, fun p0 σ H M ft δ fl δ' R e D q => ?_⟩
  unfold sKept at e
  split at e
  · rename_i kvs o e0 e1
    split at e
    · rename_i kvs' eo
      split at e
      · rename_i hh
        obtain ⟨h1, h2, h3, h4, h5, h6, h7, h8⟩ := hh
        subst h1
        cases e
        have e0' := owOf_eq e0
        obtain ⟨v, ev, ow, hp⟩ := rp_own R e0'
        obtain ⟨a, dx, d, ea, hf, ha, hd, hb'⟩ := (show orep59 C1 C2 H (hid H M) v (.half kvs') (ft 0) from ow)
        subst ea
        obtain ⟨v1, ev1, k1⟩ := rp_var R e1
        have k2 : rep59 X.K C1 C2 (hid H M) v1 (.dct kvs') := by rw [← show (show Ob59 from o) = Ob59.dct kvs' from eo]; exact k1
        obtain ⟨d1, ed1, hd1⟩ := k2
        subst ed1
        unfold sFld tCB
        rw [show (tCons (tKept X.K i ia ib (own.map (·.2))) tNil) σ H = fun Q => tKept X.K i ia ib (own.map (·.2)) σ H fun x H1 => Q [x] H1 from rfl]
        refine kept_ok (K := X.K) (hid_same _ _ hd1) ev1 h2 h3 h4 h5 h6 (by rw [R.len]; exact h7) (by rw [R.len]; exact h8) fun l ys H' up hl hln => ?_
        refine ⟨l, ys, rfl, .inl ⟨SqL.of hl, fun t ht => ?_⟩⟩
        have up2 : ∀ b o, H b = some o → upd H' t (.tup ys) b = some o := fun b o eo => upd_old (ne_of_none (up b o eo) ht) (up b o eo)
        refine ⟨.ref a, ev, a, C2, dx, _, rfl, up2 _ _ ha, T.c2, T.k, (by show (1:Nat) < 1000; decide), ?_⟩
        have ef : putF ("_kept" : Str) (V.ref t) [(("_bounds" : Str), V.ref d)] = [(("_bounds" : Str), V.ref d), (("_kept" : Str), V.ref t)] := by
          show (if ("_bounds" : Str) = ("_kept" : Str) then _ else _) = _
          rw [if_neg (by decide)]
          rfl
        rw [ef]
        have fa := (hf a).mpr (.inl rfl)
        have da : dx ≠ a := fun z => by rw [z, ha] at hd; cases hd
        have dna : d ≠ a := fun z => by
          have y := hid_same _ _ hb'
          rw [z, ha] at y
          cases y
        have ne : ∀ {b : Addr} {o : HO}, H b = some o → H b ≠ none := fun e => by rw [e]; exact fun z => nomatch z
        obtain ⟨md, hdd⟩ := hid_some.mp hb'
        obtain ⟨s3, R3⟩ := R.mutW (H' := upd (upd H' t (.tup ys)) a (.ins C2 dx [(("_bounds" : Str), V.ref d), (("_kept" : Str), V.ref t)])) (M' := fun b => M b ∧ H b ≠ none) (w' := rs59 (.bk kvs')) (f' := fun b => b = a ∨ b = dx) e0' ev
          (fun b o nb eo => upd_old (fun z => nb (by rw [z]; exact fa)) (up2 b o eo)) (fun b m n _ => ⟨m, n⟩) (fun b m _ z => m z.1)
          (fun b fb => by
            have fb' := (hf b).mpr fb
            obtain ⟨o, eo⟩ := R.there fb'
            exact ⟨R.inM 0 b fb', ne eo⟩) (fun b fb => .inl ((hf b).mpr fb))
          ⟨a, dx, d, .ref t, rfl, fun _ => Iff.rfl, upd_same, upd_old da (up2 _ _ hd), hid_some.mpr ⟨fun z => md z.1, upd_old dna (up2 _ _ hdd)⟩⟩
        exact q σ _ _ _ s3 R3
      · cases e
    · cases e
  · cases e
end
end DL
set_option Elab.async false
set_option linter.all false
set_option maxRecDepth 100000
set_option maxHeartbeats 1000000
/-! L4: methods of books and notes; the script; a book made of a list that goes on. -/
namespace DL
open PySem PySem.Spec L2 TK
open PyProof.Rows hiding St
variable [CN]
section
variable {L : Lang} {X : Cx} {a b e o : Expr} {es : List Expr} {pos p apos : Pos} {k : Nat} {C : Addr} {m x : Str} {ps : List Str}
/-! ### o.m(..), x in o, len(o): c says which objects are of the class -/
def eMt (c : L.Ob → Bool) (F : Fn L) (f : Ev L) (fa : Ea L) : Ev L := fun δ => match frz f δ with
  | some (.ob o, δ1) => if c o = true then match fa δ1 with
      | some (ds, δ2) => match F (.dv (.ob o) :: ds.map SV.dv) with
        | some (r, _) => some (r, δ2)
        | none => none
      | none => none
    else none
  | _ => none
theorem snd_mt {c : L.Ob → Bool} {F : Fn L} {f : Ev L} {fa : Ea L} {te : TE} {t : TA} {E : XK} (hC : ∀ o, c o = true → InsOb C m o) (hf : SndE L f te) (h : SndA L fa t) : SndE L (eMt c F f fa) (tMeth C m (spD L F) [] E te t) := fun p0 σ H M ft δ r δ' R e Q q => by
  unfold eMt at e
  split at e
  · rename_i o δ1 e1
    split at e
    · rename_i hc
      split at e
      · rename_i ds δ2 e2
        split at e
        · rename_i r' w' e3
          cases e
          refine hf.frz p0 σ H M ft δ _ _ R e1 _ fun v H1 M1 ft1 s1 R1 k1 => ?_
          obtain ⟨a, dx, fs, ev, ha, hl⟩ := hC o hc _ v k1
          refine ⟨a, dx, fs, ev, hid_same _ _ ha, hl, h p0 σ H1 M1 ft1 δ1 _ _ R1 e2 _ fun vs H2 M2 ft2 s2 R2 k2 => ?_⟩
          show spD L F (v :: (vs ++ [])) H2 Q E
          rw [List.append_nil]
          refine ⟨M2, fun _ _ => False, (DV.ob o :: ds).map SV.dv, r, w', rp_args (vs := v :: vs) (ds := .ob o :: ds) (.cons (RepV.mono (x := .ob o) s2.ext k1) k2), e3, fun v3 H3 M3 ft3 s3 _ k3 => ?_⟩
          obtain ⟨s4, R4, k4⟩ := back_of R2 s3 k3
          exact q v3 H3 M3 ft2 ((s1.trans s2).trans s4) R4 (k4.back (s1.trans s2) R2.inM)
        · cases e
      · cases e
    · cases e
  · cases e
def eMtB (c : L.Ow → Bool) (i : Nat) (F : Fn L) (fa : Ea L) : Ev L := fun δ => match δ[i]? with
  | some (.own _ (.res w0)) => if c w0 = true then match fa δ with
      | some (ds, δ1) => match δ1[i]? with
        | some (.own b w) => match F (.own true w :: ds.map SV.dv) with
          | some (r, some w') => some (r, δ1.set i (.own b w'))
          | _ => none
        | _ => none
      | none => none
    else none
  | _ => none
theorem snd_mtB {c : L.Ow → Bool} {i : Nat} {F : Fn L} {fa : Ea L} {t : TA} {E : XK} (hC : ∀ u : L.Ow, c u = true → InsOw C m u) (h : SndA L fa t) : SndE L (eMtB c i F fa) (tMeth C m (spD L F) [] E (tVar i) t) := fun p0 σ H M ft δ r δ' R e Q q => by
  unfold eMtB at e
  split at e
  · rename_i b0 w0 e0
    split at e
    · rename_i hc
      split at e
      · rename_i ds δ1 e1
        split at e
        · rename_i b w e2
          split at e
          · rename_i r' w' e3
            cases e
            obtain ⟨v, ev, ow, _⟩ := rp_own R e0
            obtain ⟨a, dx, fs, ea, ha, hl⟩ := hC w0 hc _ _ v _ ow
            refine ⟨v, ev, a, dx, fs, ea, ha, hl, h p0 σ H M ft δ _ _ R e1 _ fun vs H1 M1 ft1 s1 R1 k1 => ?_⟩
            show spD L F (v :: (vs ++ [])) H1 Q E
            rw [List.append_nil]
            refine ⟨M1, _, _, r, some w', rp_lend R1 e2 ev k1, e3, fun v2 H2 M2 ft2 s2 a2 k2 => ?_⟩
            obtain ⟨ft3, s3, R3, k3⟩ := back_lent R1 e2 ev s2 a2 k2
            exact q v2 H2 M2 ft3 (s1.trans s3) R3 (k3.back s1 R1.inM)
          · cases e
        · cases e
      · cases e
    · cases e
  · cases e
theorem de_mt {c : L.Ob → Bool} {pl : Sem Bool} {F : Fn L} {fo : Ev L} {fa : Ea L} (G : OkM L X.prog X.w X.K X.mg X.base k C m ps F) (K1 : Cls X.K C) (hr : Room k X.A) (hC : ∀ o : L.Ob, c o = true → InsOb C m o) (ho : DE L X o fo) (ha : DA L X (e :: es) fa)
    (hst : starEach (e :: es) X.env = (false, eval e X.env) :: starEach es X.env := by rfl) (hpl : (backTo pos (starEach es X.env)).any (·.1) = false := by rfl)
    (ht : eval (.Call (.Attribute o m apos) (e :: es) [] pos) X.env = (do
      let ov ← eval o X.env
      standAt apos.atName
      let (f, first) ← holding [ov] (getMethod ov m pl)
      callWith pos f first (backTo pos (starEach (e :: es) X.env)) (backToKw pos (keywordEach [] X.env))) := by rfl) :
    DE L X (.Call (.Attribute o m apos) (e :: es) [] pos) (eMt c F fo fa) := by
  obtain ⟨f, fd, G, hM, hb⟩ := G
  obtain ⟨to, po, so⟩ := ho
  obtain ⟨t, pa, sa⟩ := ha
  exact ⟨_, pe_meth po K1 hM G hr hb .nil pass0 pa hst hpl ht, snd_mt hC so sa⟩
theorem de_mtB (i : Nat) {c : L.Ow → Bool} {y : Str} {py : Pos} {pl : Sem Bool} {F : Fn L} {fa : Ea L} (G : OkM L X.prog X.w X.K X.mg X.base k C m ps F) (K1 : Cls X.K C) (hr : Room k X.A) (hC : ∀ u : L.Ow, c u = true → InsOw C m u) (ha : DA L X (e :: es) fa)
    (hN : X.N[i]? = some y := by rfl) (hv : Vis X.env.scope y := by first | exact Or.inl rfl | exact Or.inr (Or.inl rfl) | exact Or.inr (Or.inr rfl)) (hd : (y == ("__debug__" : Str)) = false := by decide) (hcd : (y == ("__classdict__" : Str)) = false := by decide)
    (hst : starEach (e :: es) X.env = (false, eval e X.env) :: starEach es X.env := by rfl) (hpl : (backTo pos (starEach es X.env)).any (·.1) = false := by rfl)
    (ht : eval (.Call (.Attribute (.Name y py) m apos) (e :: es) [] pos) X.env = (do
      let ov ← eval (.Name y py) X.env
      standAt apos.atName
      let (f, first) ← holding [ov] (getMethod ov m pl)
      callWith pos f first (backTo pos (starEach (e :: es) X.env)) (backToKw pos (keywordEach [] X.env))) := by rfl) :
    DE L X (.Call (.Attribute (.Name y py) m apos) (e :: es) [] pos) (eMtB c i F fa) := by
  obtain ⟨f, fd, G, hM, hb⟩ := G
  obtain ⟨t, pa, sa⟩ := ha
  exact ⟨_, pe_meth (pe_var hN hv hd hcd) K1 hM G hr hb .nil pass0 pa hst hpl ht, snd_mtB hC sa⟩
def eInC (c : L.Ob → Bool) (F : Fn L) (fa fo : Ev L) : Ev L := fun δ => match frz fa δ with
  | some (d, δ1) => match frz fo δ1 with
    | some (.ob u, δ2) => if c u = true then match F [.dv (.ob u), .dv d] with
        | some (.dv (.d (.bool r)), _) => some (.dv (.d (.bool r)), δ2)
        | _ => none
      else none
    | _ => none
  | none => none
theorem snd_inC {c : L.Ob → Bool} {F : Fn L} {fa fo : Ev L} {ta to : TE} {m : Str} (hC : ∀ u, c u = true → InsOb C m u) (ha : SndE L fa ta) (ho : SndE L fo to) : SndE L (eInC c F fa fo) (tOp (rInOwn C (spD L F)) ta to) := fun p0 σ H M ft δ r δ' R e Q q => by
  unfold eInC at e
  split at e
  · rename_i d δ1 e1
    split at e
    · rename_i u δ2 e2
      split at e
      · rename_i hc
        split at e
        · rename_i rb w' e3
          cases e
          refine ha.frz p0 σ H M ft δ _ _ R e1 _ fun v H1 M1 ft1 s1 R1 k1 => ho.frz p0 σ H1 M1 ft1 δ1 _ _ R1 e2 _ fun y H2 M2 ft2 s2 R2 k2 => ?_
          obtain ⟨a, dx, fs, ey, hh, _⟩ := hC u hc _ y k2
          refine ⟨a, dx, fs, ey, hid_same _ _ hh, ?_⟩
          rw [← ey]
          refine ⟨M2, fun _ _ => False, [DV.ob u, d].map SV.dv, _, w', rp_args (vs := [y, v]) (ds := [.ob u, d]) (.cons k2 (.cons (k1.mono s2.ext) .nil)), e3, fun v3 H3 M3 ft3 s3 _ k3 => ?_⟩
          obtain ⟨s4, R4, k4⟩ := back_of R2 s3 k3
          have k5 : Dk (hid H3 M3) v3 (.bool rb) := k4
          cases k5
          exact ⟨rb, rfl, q _ H3 M3 ft2 ((s1.trans s2).trans s4) R4 (.bl _)⟩
        · cases e
      · cases e
    · cases e
  · cases e
theorem de_inC {c : L.Ob → Bool} {F : Fn L} {fa fo : Ev L} {m : Str} (G : OkM L X.prog X.w X.K X.mg X.base k C "__contains__" ps F) (hr : Room k X.A) (hC : ∀ u : L.Ob, c u = true → InsOb C m u) (ha : DE L X a fa) (ho : DE L X b fo)
    (hm : behindInMarks .In b = false := by with_unfolding_all rfl) : DE L X (.Compare a [.In] [b] pos) (eInC c F fa fo) := by
  obtain ⟨f, fd, G, M, hb⟩ := G
  obtain ⟨ta, pa, sa⟩ := ha
  obtain ⟨tb, pb, sb⟩ := ho
  exact ⟨_, pe_cmpR (op_in_own G hr hb M.at_ M.fn) pa pb hm, snd_inC hC sa sb⟩
theorem dt_inC {c : L.Ob → Bool} {F : Fn L} {fa fo : Ev L} {m : Str} (G : OkM L X.prog X.w X.K X.mg X.base k C "__contains__" ps F) (hr : Room k X.A) (hC : ∀ u : L.Ob, c u = true → InsOb C m u) (ha : DE L X a fa) (ho : DE L X b fo)
    (hm : behindInMarks .In b = false := by with_unfolding_all rfl) : DT L X (.Compare a [.In] [b] pos) (tst (eInC c F fa fo)) := by
  obtain ⟨f, fd, G, M, hb⟩ := G
  obtain ⟨ta, pa, sa⟩ := ha
  obtain ⟨tb, pb, sb⟩ := ho
  exact ⟨_, pt_cmpR (op_in_own G hr hb M.at_ M.fn) pa pb hm, snd_tst (snd_inC hC sa sb)⟩
def eLenC (c : L.Ob → Bool) (F : Fn L) (fo : Ev L) : Ev L := fun δ => match frz fo δ with
  | some (.ob u, δ2) => if c u = true then match F [.dv (.ob u)] with
      | some (.dv (.d (.int n)), _) => if 0 ≤ n ∧ n < 2 ^ 63 then some (.dv (.d (.int n)), δ2) else none
      | _ => none
    else none
  | _ => none
theorem de_lenC {c : L.Ob → Bool} {F : Fn L} {fo : Ev L} {m : Str} (G : OkM L X.prog X.w X.K X.mg X.base k C "__len__" ps F) (hr : Room (k + 1) X.A) (hC : ∀ u : L.Ob, c u = true → InsOb C m u) (ho : DE L X o fo) (hm : X.mg "len" = none) (hv : bootBuiltins "len" = some (.builtin "len")) (hg : Gl X "len" := by rfl)
    (he : starEach [o] X.env = (false, eval o X.env) :: starEach [] X.env := by rfl) : DE L X (.Call (.Name "len" p) [o] [] pos) (eLenC c F fo) := by
  obtain ⟨f, fd, G, M, hb⟩ := G
  obtain ⟨tb, pb, sb⟩ := ho
  refine ⟨_, pe_callB (call_len_own G hr hb M.at_ M.fn) hg hm hv (pa_cons pb pa_nil he) (by decide) (by decide) he (by rfl), fun p0 σ H M ft δ r δ' R e Q q => ?_⟩
  unfold eLenC at e
  split at e
  · rename_i u δ2 e2
    split at e
    · rename_i hc
      split at e
      · rename_i n w' e3
        split at e
        · rename_i hn
          cases e
          refine sb.frz p0 σ H M ft δ _ _ R e2 _ fun y H2 M2 ft2 s2 R2 k2 => ?_
          obtain ⟨a, dx, fs, ey, hh, _⟩ := hC u hc _ y k2
          refine ⟨a, dx, fs, by rw [ey], hid_same _ _ hh, ?_⟩
          rw [← ey]
          refine ⟨M2, fun _ _ => False, [DV.ob u].map SV.dv, _, w', rp_args (vs := [y]) (ds := [.ob u]) (.cons k2 .nil), e3, fun v3 H3 M3 ft3 s3 _ k3 => ?_⟩
          obtain ⟨s4, R4, k4⟩ := back_of R2 s3 k3
          have k5 : Dk (hid H3 M3) v3 (.int n) := k4
          cases k5
          exact ⟨n, rfl, hn.1, hn.2, q _ H3 M3 ft2 (s2.trans s4) R4 (.int _)⟩
        · cases e
      · cases e
    · cases e
  · cases e
end
section
variable {X : Cx} {K : PySem.W.Frag} {C1 C2 : Addr} {e : Expr} {pos p : Pos} {k : Nat}
def isB {K : PySem.W.Frag} {C1 C2 : Addr} (o : (L59 K C1 C2).Ob) : Bool := match (show Ob59 from o) with | .book _ => true | _ => false
def isN {K : PySem.W.Frag} {C1 C2 : Addr} (o : (L59 K C1 C2).Ob) : Bool := match (show Ob59 from o) with | .notes _ => true | _ => false
def isNw {K : PySem.W.Frag} {C1 C2 : Addr} (o : (L59 K C1 C2).Ow) : Bool := match (show Ow59 from o) with | .notes _ => true | _ => false
theorem insB {K : PySem.W.Frag} {m : Str} (h1 : m ≠ "_bounds") (h2 : m ≠ "_kept") (o : (L59 K C1 C2).Ob) (h : isB o = true) : InsOb (L := L59 K C1 C2) C2 m o := fun G v r => by
  cases o with
  | book kvs =>
    obtain ⟨a, dx, d, z, ev, ha, hd⟩ := r
    refine ⟨a, dx, _, ev, ha, ?_⟩
    rw [lookup_put, if_neg h1, lookup_put, if_neg h2]
    rfl
  | _ => cases h
theorem insN {K : PySem.W.Frag} {m : Str} (h1 : m ≠ "_papers") (o : (L59 K C1 C2).Ob) (h : isN o = true) : InsOb (L := L59 K C1 C2) C1 m o := fun G v r => by
  cases o with
  | notes ds =>
    obtain ⟨a, dx, l, xs, ev, ha, hd⟩ := r
    refine ⟨a, dx, _, ev, ha, ?_⟩
    rw [lookup_put, if_neg h1]
    rfl
  | _ => cases h
theorem insNw {K : PySem.W.Frag} {m : Str} (h1 : m ≠ "_papers") (o : (L59 K C1 C2).Ow) (h : isNw o = true) : InsOw (L := L59 K C1 C2) C1 m o := fun H G v f r => by
  cases o with
  | notes ds =>
    obtain ⟨a, dx, l, xs, ev, hf, ha, hd⟩ := r
    refine ⟨a, dx, _, ev, ha, ?_⟩
    rw [lookup_put, if_neg h1]
    rfl
  | _ => cases h
/-! ### script[lo:hi] -/
def eSlScr (f : Ev (L59 K C1 C2)) (fl fh : List (SV (L59 K C1 C2)) → Option (Option Int × List (SV (L59 K C1 C2)))) : Ev (L59 K C1 C2) := fun δ => match frz f δ with
  | some (.ob o, δ1) => match (show Ob59 from o) with
    | .script ns => match fl δ1 with
      | some (lo, δ2) => match fh δ2 with
        | some (hi, δ3) => some (.own (.lst (cutD (ns.map PyData.int) lo hi)), δ3)
        | none => none
      | none => none
    | _ => none
  | _ => none
theorem de_slScr {f : Ev (L59 K C1 C2)} {fl fh : List (SV (L59 K C1 C2)) → Option (Option Int × List (SV (L59 K C1 C2)))} {lo hi : Option Expr} {p2 : Pos} (h : DE (L59 K C1 C2) X e f) (hl : DO (L59 K C1 C2) X lo fl) (hh : DO (L59 K C1 C2) X hi fh) (eK : X.K = K := by rfl) : DE (L59 K C1 C2) X (.Subscript e (.Slice lo hi none p2) pos) (eSlScr f fl fh) := by
  subst eK
  obtain ⟨t, p, s⟩ := h
  obtain ⟨tl, pl, sl⟩ := hl
  obtain ⟨th, ph, sh⟩ := hh
  refine ⟨_, pe_slice sl_list p pl ph, fun p0 σ H M ft δ r δ' R e Q q => ?_⟩
  unfold eSlScr at e
  split at e
  · rename_i o δ1 e1
    split at e
    · rename_i ns eo
      split at e
      · rename_i lo δ2 e2
        split at e
        · rename_i hi δ3 e3
          cases e
          refine s.frz p0 σ H M ft δ _ _ R e1 _ fun v H1 M1 ft1 s1 R1 k1 => sl p0 σ H1 M1 ft1 δ1 _ _ R1 e2 _ fun H2 M2 ft2 s2 R2 => sh p0 σ H2 M2 ft2 δ2 _ _ R2 e3 _ fun H3 M3 ft3 s3 R3 => ?_
          have k2 : rep59 X.K C1 C2 (hid H1 M1) v (.script ns) := by rw [← show (show Ob59 from o) = Ob59.script ns from eo]; exact k1
          obtain ⟨a, ea, ha⟩ := k2
          have rk : DkAll (hid H3 M3) (ns.map V.int) (ns.map PyData.int) := DkAll.of_ints ns
          refine ⟨a, ns.map V.int, ea, sqL_mono hid_same (sqL_mono (s2.trans s3).ext ha), fun p hp => ?_⟩
          have rc : DkAll (hid H3 M3) (cutV (ns.map V.int) lo hi) (cutD (ns.map PyData.int) lo hi) := by
            unfold cutV cutD
            rw [rk.length]
            exact (rk.drop _).take _
          obtain ⟨s4, R4, rr⟩ := allocO R3 hp rc
          exact q _ _ _ _ (((s1.trans s2).trans s3).trans s4) R4 (rr.back ((s1.trans s2).trans s3) R3.inM)
        · cases e
      · cases e
    · cases e
  · cases e
/-! ### a book made while the frame's lists are lent -/
def noRes (δ : List (SV (L59 K C1 C2))) : Bool := δ.all fun s => match s with | .own _ (.res _) => false | _ => true
def eThB (f : Ev (L59 K C1 C2)) : Ev (L59 K C1 C2) := fun δ => match f (δ.map shr1) with
  | some (.dv (.ob o), _) => if isB o = true ∧ noRes δ = true then some (.dv (.ob o), δ) else none
  | _ => none
theorem DE.thB {f : Ev (L59 K C1 C2)} (h : DE (L59 K C1 C2) X e f) (eK : X.K = K := by rfl) : DE (L59 K C1 C2) X e (eThB f) := by
  subst eK
  obtain ⟨t, p, s⟩ := h
  refine ⟨t, p, fun p0 σ H M ft δ r δ' R e Q q => ?_⟩
  unfold eThB at e
  split at e
  · rename_i o δ1 e1
    split at e
    · rename_i hh
      cases e
      refine s p0 σ H (mt M ft) (fun _ _ => False) (δ.map shr1) _ _ (thaw_in R) e1 Q fun v H' M' ft' s R' rk => ?_
      obtain ⟨s2, R2⟩ := thaw_out R s
      refine q v H' _ ft s2 R2 ?_
      -- what is owned is a list, and stands
      have lsts : ∀ i x, ft i x → ∃ ys, H' x = some (.lst ys) := fun i x fx => by
        have hi := R.bnd i x fx
        obtain ⟨z, ez⟩ : ∃ z, δ[i]? = some z := ⟨_, List.getElem?_eq_getElem hi⟩
        have sl := R.slot i z ez
        cases z with
        | un => exact absurd fx (sl x)
        | dv d => exact absurd fx (sl.1 x)
        | own b w =>
          cases w with
          | res w =>
            have := List.all_eq_true.mp hh.2 _ (List.mem_of_getElem? ez)
            cases this
          | lst ds =>
            obtain ⟨u, eu, ⟨a, xs, ea, hf, ha, _⟩, _⟩ := sl
            have exa := (hf x).mp fx
            subst exa
            exact ⟨xs, (hid_some.mp (s.ext x _ (hid_some.mpr ⟨fun z => z.2 i fx, ha⟩))).2⟩
      cases o with
      | book kvs =>
        obtain ⟨a, dx, d, z, ev, ha, hd⟩ := (show rep59 X.K C1 C2 (hid H' M') v (.book kvs) from rk)
        have vis : ∀ {x : Addr} {o : HO}, hid H' M' x = some o → (∀ ys, o ≠ .lst ys) → hid H' (mb M' ft) x = some o := fun {x o} hx hn => by
          obtain ⟨mx, ex⟩ := hid_some.mp hx
          refine hid_some.mpr ⟨fun z => z.elim mx fun ⟨i, fx⟩ => ?_, ex⟩
          obtain ⟨ys, ey⟩ := lsts i x fx
          rw [ex] at ey
          exact hn ys (Option.some.inj ey)
        exact ⟨a, dx, d, z, ev, vis ha (fun ys z => nomatch z), vis hd (fun ys z => nomatch z)⟩
      | _ => cases hh.1
    · cases e
  · cases e
end
end DL
set_option Elab.async false
set_option linter.all false
set_option maxRecDepth 100000
set_option maxHeartbeats 1000000
/-! L5: exception classes as they stand; isinstance by name; methods of the two classes as they stand. -/
namespace DL
open PySem PySem.Spec L2 TK
open PyProof.Rows hiding St
variable [CN]
theorem hu1 {k : Nat} {A : Around} (r : Room k A) : A.units + 1 < cLine := by have := r.un; omega
structure ExAt (K : PySem.W.Frag) (mg : Str → Option Value) (x qual : Str) (st : Stmt) (c : Nat) (fn ps : List Str) : Prop where
  ex : ∃ C fI fd, mg x = some (.ref C) ∧ CN.n C = c ∧ (∀ C', CN.n C' = c → C' = C) ∧ OexC K C ∧ XfC K C ∧ (∀ f ∈ fn, PySem.W.findIn K (.ref C) f = some none) ∧ PySem.W.findIn K (.ref C) "__init__" = some (some (.ref fI)) ∧ PySem.W.typeIn K (.ref fI) = some (.type "function") ∧
    Fun K "__init__" qual st fI fd ∧ Binds K fd ps []
section
variable {P : Program} {w : World} {K : PySem.W.Frag} {mg : Str → Option Value} {base : Heap} {x qual f0 f1 f2 p0 p1 p2 : Str} {st : Stmt} {c : Nat}
theorem ExAt.mk1 (D : ExAt K mg x qual st c [f0] ["self", p0]) (S : FnScope ["self", p0] ["self", p0] (defScope st))
    (hb : ∀ (C : Addr), OexC K C → PySem.W.findIn K (.ref C) f0 = some none → ∀ (f : Addr) (cdv : Value) (A : Around) (outer : List Env) (s : Shared) (H : Hp) (E : XK), PSs (cxOf CX0 P w K mg base ["self", p0] qual (defScope st) f cdv A outer s H E).nox (defBody st) (tAsg (tVar 1) (gOst K C f0 (tVar 0)))) : ExK P w K mg base x c [f0] := by
  obtain ⟨C, fI, fd, h1, h2, h3, h4, h5, h6, h7, h8, F, hbn⟩ := D
  refine ⟨C, fI, fd, _, h1, h2, h3, h4, h5, h6, h7, h8, F.ok S (fun vs H Q E h => ?_) (fun cdv A outer s H vs Q E hr h => ⟨_, hb C h4 (h6 f0 List.mem_cons_self) fI cdv A outer s H E, tI1_ok rfl (fun _ _ => rfl) h⟩), hbn⟩
  have hl := spX_len h
  exact hl
theorem ExAt.mk2 (D : ExAt K mg x qual st c [f0, f1] ["self", p0, p1]) (S : FnScope ["self", p0, p1] ["self", p0, p1] (defScope st))
    (hb : ∀ (C : Addr), OexC K C → PySem.W.findIn K (.ref C) f0 = some none → PySem.W.findIn K (.ref C) f1 = some none → ∀ (f : Addr) (cdv : Value) (A : Around) (outer : List Env) (s : Shared) (H : Hp) (E : XK), PSs (cxOf CX0 P w K mg base ["self", p0, p1] qual (defScope st) f cdv A outer s H E).nox (defBody st)
      (tAsg (tTup (tCons (tVar 1) (tCons (tVar 2) tNil))) (gTup K 2 (gCons (gOst K C f0 (tVar 0)) (gCons (gOst K C f1 (tVar 0)) gNil))))) : ExK P w K mg base x c [f0, f1] := by
  obtain ⟨C, fI, fd, h1, h2, h3, h4, h5, h6, h7, h8, F, hbn⟩ := D
  refine ⟨C, fI, fd, _, h1, h2, h3, h4, h5, h6, h7, h8, F.ok S (fun vs H Q E h => ?_) (fun cdv A outer s H vs Q E hr h => ⟨_, hb C h4 (h6 f0 List.mem_cons_self) (h6 f1 (List.mem_cons_of_mem _ List.mem_cons_self)) fI cdv A outer s H E, tI2_ok rfl (fun _ _ => rfl) h⟩), hbn⟩
  have hl := spX_len h
  exact hl
theorem ExAt.mk3 (D : ExAt K mg x qual st c [f0, f1, f2] ["self", p0, p1, p2]) (S : FnScope ["self", p0, p1, p2] ["self", p0, p1, p2] (defScope st))
    (hb : ∀ (C : Addr), OexC K C → PySem.W.findIn K (.ref C) f0 = some none → PySem.W.findIn K (.ref C) f1 = some none → PySem.W.findIn K (.ref C) f2 = some none → ∀ (f : Addr) (cdv : Value) (A : Around) (outer : List Env) (s : Shared) (H : Hp) (E : XK), PSs (cxOf CX0 P w K mg base ["self", p0, p1, p2] qual (defScope st) f cdv A outer s H E).nox (defBody st)
      (tAsg (tTup (tCons (tVar 1) (tCons (tVar 2) (tCons (tVar 3) tNil)))) (gTup K 3 (gCons (gOst K C f0 (tVar 0)) (gCons (gOst K C f1 (tVar 0)) (gCons (gOst K C f2 (tVar 0)) gNil)))))) : ExK P w K mg base x c [f0, f1, f2] := by
  obtain ⟨C, fI, fd, h1, h2, h3, h4, h5, h6, h7, h8, F, hbn⟩ := D
  refine ⟨C, fI, fd, _, h1, h2, h3, h4, h5, h6, h7, h8, F.ok S (fun vs H Q E h => ?_) (fun cdv A outer s H vs Q E hr h => ⟨_, hb C h4 (h6 f0 List.mem_cons_self) (h6 f1 (List.mem_cons_of_mem _ List.mem_cons_self)) (h6 f2 (List.mem_cons_of_mem _ (List.mem_cons_of_mem _ List.mem_cons_self))) fI cdv A outer s H E, tI3_ok rfl (fun _ _ => rfl) h⟩), hbn⟩
  have hl := spX_len h
  exact hl
end
/-- y names a class: which numbers are its exceptions' -/
structure IsK (K : PySem.W.Frag) (mg : Str → Option Value) (y : Str) (n : Nat) (cs : List Nat) : Prop where
  ex : ∃ D : Addr, mg y = some (.ref D) ∧ ∀ C, CN.n C < n → ExcC K C ∧ PySem.W.kitOne K (.ref C) (.ref D) = some (cs.contains (CN.n C))
structure IsKb (K : PySem.W.Frag) (mg : Str → Option Value) (y : Str) (n : Nat) (cs : List Nat) : Prop where
  ex : ∃ T : String, mg y = none ∧ bootBuiltins y = some (.type T) ∧ ∀ C, CN.n C < n → ExcC K C ∧ PySem.W.kitOne K (.ref C) (.type T) = some (cs.contains (CN.n C))
variable {L : Lang}
section
variable {X : Cx} {e : Expr} {pos p p2 : Pos} {y : Str} {n : Nat} {cs : List Nat}
theorem de_isK {f : Ev L} (T : IsK X.K X.mg y n cs) (h : DE L X e f) (hm : X.mg "isinstance" = none) (hv : bootBuiltins "isinstance" = some (.builtin "isinstance")) (gy : Gl X y := by rfl) (dy : (y == ("__debug__" : Str)) = false := by decide)
    (hg : Gl X "isinstance" := by rfl) (he : starEach (e :: [.Name y p2]) X.env = (false, eval e X.env) :: starEach [.Name y p2] X.env := by rfl) (he2 : starEach (.Name y p2 :: []) X.env = (false, eval (.Name y p2) X.env) :: starEach [] X.env := by rfl)
    (hpl : (backTo pos (starEach [.Name y p2] X.env)).any (·.1) = false := by rfl) : DE L X (.Call (.Name "isinstance" p) [e, .Name y p2] [] pos) (eIsX n cs f) := by
  obtain ⟨D, hD, hk⟩ := T
  exact de_isX h (pe_glob (v := .ref D) gy hD rfl dy) (fun u r => r) hk hm hv hg he he2 hpl
theorem de_isKb {f : Ev L} (T : IsKb X.K X.mg y n cs) (h : DE L X e f) (hm : X.mg "isinstance" = none) (hv : bootBuiltins "isinstance" = some (.builtin "isinstance")) (gy : Gl X y := by rfl) (ny : y ≠ "__name__" := by decide) (dy : (y == ("__debug__" : Str)) = false := by decide)
    (hg : Gl X "isinstance" := by rfl) (he : starEach (e :: [.Name y p2]) X.env = (false, eval e X.env) :: starEach [.Name y p2] X.env := by rfl) (he2 : starEach (.Name y p2 :: []) X.env = (false, eval (.Name y p2) X.env) :: starEach [] X.env := by rfl)
    (hpl : (backTo pos (starEach [.Name y p2] X.env)).any (·.1) = false := by rfl) : DE L X (.Call (.Name "isinstance" p) [e, .Name y p2] [] pos) (eIsX n cs f) := by
  obtain ⟨T0, hD, hb, hk⟩ := T
  exact de_isX h (pe_bltn (v := .ty T0) gy hD hb rfl ny dy) (fun u r => r) hk hm hv hg he he2 hpl
end
section
variable {P : Program} {w : World} {K : PySem.W.Frag} {mg : Str → Option Value} {base : Heap}
/-- a class that is made, by its own __init__ -/
structure MkAt (K : PySem.W.Frag) (mg : Str → Option Value) (x : Str) (C : Addr) (qual : Str) (st : Stmt) (ps : List Str) : Prop where
  ex : ∃ f fd dvs, mg x = some (.ref C) ∧ Mk K C f ∧ FunD K "__init__" qual (defArgs st) (defBody st) (defScope st) dvs [] f fd ∧ Binds K fd ps []
theorem ok_defK {C : Addr} {x qual : Str} {st : Stmt} {N ps : List Str} {k : Nat} {b : Es L} (D : MkAt K mg x C qual st ps) (S : FnScope N ps (defScope st))
    (hb : ∀ (f : Addr) (cdv : Value) (A : Around) (outer : List Env) (s : Shared) (H : Hp) (E : XK), Room k (A.deeper (envOfC qual (defScope st) s.heap.objs.size f cdv)) → DSs L (cxOf CX0 P w K mg base N qual (defScope st) f cdv A outer s H E).nox (defBody st) b) :
    OkMk L P w K mg base (k + 1) x C ps (fnD ps.length N.length b) := by
  obtain ⟨f, fd, dvs, hm, M, F, hbn⟩ := D
  refine ⟨f, fd, hm, M, ok_defG S (fun sp len hbody => F.ok S len fun cdv A outer s H vs Q E hr hsp => ?_) fun cdv A outer s H E hr => hb f cdv A outer s H E hr, hbn⟩
  obtain ⟨t, h, q⟩ := hbody cdv A outer s H vs Q E hr hsp
  exact ⟨t, h.nox, q⟩
end
end DL
set_option Elab.async false
set_option linter.all false
set_option maxRecDepth 100000
set_option maxHeartbeats 4000000
namespace DL
open PySem PySem.Spec L2 TK
open PyProof.Rows hiding St
variable [CN]
theorem sc_ask : FnScope ["name", "stands", "gone"] ["name", "stands", "gone"] (defScope s_ask) := ⟨rfl, rfl, rfl, by decide +kernel, rfl, by decide +kernel, by decide +kernel⟩
theorem sc_read : FnScope ["paper", "choice"] ["paper", "choice"] (defScope s_read) := ⟨rfl, rfl, rfl, by decide +kernel, rfl, by decide +kernel, by decide +kernel⟩
theorem sc_nodes : FnScope ["paper", "nodes", "at"] ["paper"] (defScope s_nodes) := ⟨rfl, rfl, rfl, by decide +kernel, rfl, by decide +kernel, by decide +kernel⟩
theorem sc_law_draw : FnScope ["pool", "many", "k", "digit"] ["pool", "many"] (defScope s_law_draw) := ⟨rfl, rfl, rfl, by decide +kernel, rfl, by decide +kernel, by decide +kernel⟩
theorem sc_law_pick : FnScope ["pool", "row"] ["pool", "row"] (defScope s_law_pick) := ⟨rfl, rfl, rfl, by decide +kernel, rfl, by decide +kernel, by decide +kernel⟩
theorem sc_law_read : FnScope ["paper", "choice", "k"] ["paper", "choice"] (defScope s_law_read) := ⟨rfl, rfl, rfl, by decide +kernel, rfl, by decide +kernel, by decide +kernel⟩
theorem sc_law_choices : FnScope ["names", "row", "one", "out"] ["names"] (defScope s_law_choices) := ⟨rfl, rfl, rfl, by decide +kernel, rfl, by decide +kernel, by decide +kernel⟩
theorem sc_law_some_name : FnScope ["pool", "house", "owner", "number"] ["pool"] (defScope s_law_some_name) := ⟨rfl, rfl, rfl, by decide +kernel, rfl, by decide +kernel, by decide +kernel⟩
theorem sc_law_hit : FnScope ["bars", "name", "house", "owner", "bound"] ["bars", "name"] (defScope s_law_hit) := ⟨rfl, rfl, rfl, by decide +kernel, rfl, by decide +kernel, by decide +kernel⟩
theorem sc_names_in : FnScope ["paper", "node"] ["paper"] (defScope s_names_in) := ⟨rfl, rfl, rfl, by decide +kernel, rfl, by decide +kernel, by decide +kernel⟩
theorem sc_binit : FnScope ["self", "strikes", "bounds", "house", "owner", "bound"] ["self", "strikes"] (defScope s_binit) := ⟨rfl, rfl, rfl, by decide +kernel, rfl, by decide +kernel, by decide +kernel⟩
theorem sc_contains : FnScope ["self", "name", "house", "number", "owner"] ["self", "name"] (defScope s_contains) := ⟨rfl, rfl, rfl, by decide +kernel, rfl, by decide +kernel, by decide +kernel⟩
theorem sc_struck : FnScope ["self", "names", "name"] ["self", "names"] (defScope s_struck) := ⟨rfl, rfl, rfl, by decide +kernel, rfl, by decide +kernel, by decide +kernel⟩
theorem sc_without : FnScope ["paper", "choice", "gone"] ["paper", "choice"] (defScope s_without) := ⟨rfl, rfl, rfl, by decide +kernel, rfl, by decide +kernel, by decide +kernel⟩
theorem sc_two_readings : FnScope ["paper", "book"] ["paper", "book"] (defScope s_two_readings) := ⟨rfl, rfl, rfl, by decide +kernel, rfl, by decide +kernel, by decide +kernel⟩
theorem sc_freed : FnScope ["paper", "book"] ["paper", "book"] (defScope s_freed) := ⟨rfl, rfl, rfl, by decide +kernel, rfl, by decide +kernel, by decide +kernel⟩
theorem sc_ninit : FnScope ["self"] ["self"] (defScope s_ninit) := ⟨rfl, rfl, rfl, by decide +kernel, rfl, by decide +kernel, by decide +kernel⟩
theorem sc_nlen : FnScope ["self"] ["self"] (defScope s_nlen) := ⟨rfl, rfl, rfl, by decide +kernel, rfl, by decide +kernel, by decide +kernel⟩
theorem sc_paper : FnScope ["self", "index"] ["self", "index"] (defScope s_paper) := ⟨rfl, rfl, rfl, by decide +kernel, rfl, by decide +kernel, by decide +kernel⟩
theorem sc_stale : FnScope ["self", "book", "readings", "paper", "index", "before", "after"] ["self", "book"] (defScope s_stale) := ⟨rfl, rfl, rfl, by decide +kernel, rfl, by decide +kernel, by decide +kernel⟩
theorem sc_hanging : FnScope ["self", "book", "found", "index", "paper", "name"] ["self", "book"] (defScope s_hanging) := ⟨rfl, rfl, rfl, by decide +kernel, rfl, by decide +kernel, by decide +kernel⟩
theorem sc_note : FnScope ["self", "paper"] ["self", "paper"] (defScope s_note) := ⟨rfl, rfl, rfl, by decide +kernel, rfl, by decide +kernel, by decide +kernel⟩
theorem sc_strike : FnScope ["self", "book", "found", "paper"] ["self", "book"] (defScope s_strike) := ⟨rfl, rfl, rfl, by decide +kernel, rfl, by decide +kernel, by decide +kernel⟩
theorem sc_law_pool : FnScope ["script", "cells", "cell"] ["script"] (defScope s_law_pool) := ⟨rfl, rfl, rfl, by decide +kernel, rfl, by decide +kernel, by decide +kernel⟩
theorem sc_law_same : FnScope ["told", "due", "k"] ["told", "due"] (defScope s_law_same) := ⟨rfl, rfl, rfl, by decide +kernel, rfl, by decide +kernel, by decide +kernel⟩
theorem sc_law_inside : FnScope ["paper"] ["paper"] (defScope s_law_inside) := ⟨rfl, rfl, rfl, by decide +kernel, rfl, by decide +kernel, by decide +kernel⟩
theorem sc_law_fold : FnScope ["names", "row", "half", "stands", "gone"] ["names", "row"] (defScope s_law_fold) := ⟨rfl, rfl, rfl, by decide +kernel, rfl, by decide +kernel, by decide +kernel⟩
theorem sc_law_paper : FnScope ["pool", "names", "mask", "some", "menu", "row", "k", "out"] ["pool", "names"] (defScope s_law_paper) := ⟨rfl, rfl, rfl, by decide +kernel, rfl, by decide +kernel, by decide +kernel⟩
theorem sc_law_strikes : FnScope ["pool", "names", "bars", "k", "name", "bound", "owner"] ["pool", "names"] (defScope s_law_strikes) := ⟨rfl, rfl, rfl, by decide +kernel, rfl, by decide +kernel, by decide +kernel⟩
theorem sc_law_gone : FnScope ["paper", "bars", "name"] ["paper", "bars"] (defScope s_law_gone) := ⟨rfl, rfl, rfl, by decide +kernel, rfl, by decide +kernel, by decide +kernel⟩
theorem sc_law_stale : FnScope ["kept", "bars", "found", "k", "gone"] ["kept", "bars"] (defScope s_law_stale) := ⟨rfl, rfl, rfl, by decide +kernel, rfl, by decide +kernel, by decide +kernel⟩
theorem sc_law_hanging : FnScope ["kept", "bars", "k"] ["kept", "bars"] (defScope s_law_hanging) := ⟨rfl, rfl, rfl, by decide +kernel, rfl, by decide +kernel, by decide +kernel⟩
theorem sc_law_freed : FnScope ["paper", "bars", "gone", "left", "row", "name", "out"] ["paper", "bars"] (defScope s_law_freed) := ⟨rfl, rfl, rfl, by decide +kernel, rfl, by decide +kernel, by decide +kernel⟩
theorem sc_law_book : FnScope ["bars", "handed", "book"] ["bars"] (defScope s_law_book) := ⟨rfl, rfl, rfl, by decide +kernel, rfl, by decide +kernel, by decide +kernel⟩
theorem sc_law_asked : FnScope ["notes", "kept", "bars", "k", "book", "again", "told"] ["notes", "kept", "bars"] (defScope s_law_asked) := ⟨rfl, rfl, rfl, by decide +kernel, rfl, by decide +kernel, by decide +kernel⟩
theorem sc_law_both : FnScope ["notes", "kept", "first", "later"] ["notes", "kept", "first", "later"] (defScope s_law_both) := ⟨rfl, rfl, rfl, by decide +kernel, rfl, by decide +kernel, by decide +kernel⟩
theorem sc_law_noted : FnScope ["notes", "kept", "k", "count", "odd", "index"] ["notes", "kept"] (defScope s_law_noted) := ⟨rfl, rfl, rfl, by decide +kernel, rfl, by decide +kernel, by decide +kernel⟩
theorem sc_law_behind : FnScope ["notes", "kept", "more", "first", "later", "told", "freed_v", "paper"] ["notes", "kept", "more", "first", "later"] (defScope s_law_behind) := ⟨rfl, rfl, rfl, by decide +kernel, rfl, by decide +kernel, by decide +kernel⟩
theorem sc_law_chain : FnScope ["pool", "house", "owner", "odd", "number", "paper", "bounds", "k", "person", "worth", "last", "name", "turn", "pair", "most"] ["pool"] (defScope s_law_chain) := ⟨rfl, rfl, rfl, by decide +kernel, rfl, by decide +kernel, by decide +kernel⟩
theorem sc_law_kinds : FnScope ["e"] ["e"] (defScope s_law_kinds) := ⟨rfl, rfl, rfl, by decide +kernel, rfl, by decide +kernel, by decide +kernel⟩
theorem sc_law_made : FnScope ["row"] [] (defScope s_law_made) := ⟨rfl, rfl, rfl, by decide +kernel, rfl, by decide +kernel, by decide +kernel⟩
theorem sc_law_texts : FnScope ["t", "row"] ["t"] (defScope s_law_texts) := ⟨rfl, rfl, rfl, by decide +kernel, rfl, by decide +kernel, by decide +kernel⟩
theorem sc_law_numbers : FnScope ["m", "n", "row"] ["m", "n"] (defScope s_law_numbers) := ⟨rfl, rfl, rfl, by decide +kernel, rfl, by decide +kernel, by decide +kernel⟩
theorem sc_law_errors : FnScope ["pool", "names", "word", "one", "two", "row", "k", "choice", "fall", "told", "due", "j"] ["pool", "names"] (defScope s_law_errors) := ⟨rfl, rfl, rfl, by decide +kernel, rfl, by decide +kernel, by decide +kernel⟩
theorem sc_law : FnScope ["script", "pool", "names", "count", "kept", "first", "later", "more", "paper", "most", "single", "notes", "other", "told", "k"] ["script"] (defScope s_law) := ⟨rfl, rfl, rfl, by decide +kernel, rfl, by decide +kernel, by decide +kernel⟩
theorem sc_BadName : FnScope ["self", "text"] ["self", "text"] (defScope s_BadName) := ⟨rfl, rfl, rfl, by decide +kernel, rfl, by decide +kernel, by decide +kernel⟩
theorem sc_BadPaper : FnScope ["self", "text"] ["self", "text"] (defScope s_BadPaper) := ⟨rfl, rfl, rfl, by decide +kernel, rfl, by decide +kernel, by decide +kernel⟩
theorem sc_TooWide : FnScope ["self", "count"] ["self", "count"] (defScope s_TooWide) := ⟨rfl, rfl, rfl, by decide +kernel, rfl, by decide +kernel, by decide +kernel⟩
theorem sc_NotPositive : FnScope ["self", "choice", "name"] ["self", "choice", "name"] (defScope s_NotPositive) := ⟨rfl, rfl, rfl, by decide +kernel, rfl, by decide +kernel, by decide +kernel⟩
theorem sc_NotSettling : FnScope ["self", "choice"] ["self", "choice"] (defScope s_NotSettling) := ⟨rfl, rfl, rfl, by decide +kernel, rfl, by decide +kernel, by decide +kernel⟩
theorem sc_NamedTwice : FnScope ["self", "table"] ["self", "table"] (defScope s_NamedTwice) := ⟨rfl, rfl, rfl, by decide +kernel, rfl, by decide +kernel, by decide +kernel⟩
theorem sc_NotLooked : FnScope ["self", "table", "key"] ["self", "table", "key"] (defScope s_NotLooked) := ⟨rfl, rfl, rfl, by decide +kernel, rfl, by decide +kernel, by decide +kernel⟩
theorem sc_BadProgram : FnScope ["self", "text"] ["self", "text"] (defScope s_BadProgram) := ⟨rfl, rfl, rfl, by decide +kernel, rfl, by decide +kernel, by decide +kernel⟩
theorem sc_BadLine : FnScope ["self", "text"] ["self", "text"] (defScope s_BadLine) := ⟨rfl, rfl, rfl, by decide +kernel, rfl, by decide +kernel, by decide +kernel⟩
theorem sc_BadMoment : FnScope ["self", "moment"] ["self", "moment"] (defScope s_BadMoment) := ⟨rfl, rfl, rfl, by decide +kernel, rfl, by decide +kernel, by decide +kernel⟩
theorem sc_NoCell : FnScope ["self", "cell"] ["self", "cell"] (defScope s_NoCell) := ⟨rfl, rfl, rfl, by decide +kernel, rfl, by decide +kernel, by decide +kernel⟩
theorem sc_NoExchange : FnScope ["self", "number"] ["self", "number"] (defScope s_NoExchange) := ⟨rfl, rfl, rfl, by decide +kernel, rfl, by decide +kernel, by decide +kernel⟩
theorem sc_TooMany : FnScope ["self", "what"] ["self", "what"] (defScope s_TooMany) := ⟨rfl, rfl, rfl, by decide +kernel, rfl, by decide +kernel, by decide +kernel⟩
theorem sc_BadModulus : FnScope ["self", "modulus"] ["self", "modulus"] (defScope s_BadModulus) := ⟨rfl, rfl, rfl, by decide +kernel, rfl, by decide +kernel, by decide +kernel⟩
theorem sc_NoLine : FnScope ["self", "number"] ["self", "number"] (defScope s_NoLine) := ⟨rfl, rfl, rfl, by decide +kernel, rfl, by decide +kernel, by decide +kernel⟩
theorem sc_ShutLine : FnScope ["self", "number"] ["self", "number"] (defScope s_ShutLine) := ⟨rfl, rfl, rfl, by decide +kernel, rfl, by decide +kernel, by decide +kernel⟩
theorem sc_NoPart : FnScope ["self", "start", "width"] ["self", "start", "width"] (defScope s_NoPart) := ⟨rfl, rfl, rfl, by decide +kernel, rfl, by decide +kernel, by decide +kernel⟩
theorem sc_BadSize : FnScope ["self", "size"] ["self", "size"] (defScope s_BadSize) := ⟨rfl, rfl, rfl, by decide +kernel, rfl, by decide +kernel, by decide +kernel⟩
theorem sc_BadText : FnScope ["self", "place"] ["self", "place"] (defScope s_BadText) := ⟨rfl, rfl, rfl, by decide +kernel, rfl, by decide +kernel, by decide +kernel⟩
theorem sc_NotTold : FnScope ["self", "start", "width"] ["self", "start", "width"] (defScope s_NotTold) := ⟨rfl, rfl, rfl, by decide +kernel, rfl, by decide +kernel, by decide +kernel⟩
theorem sc_UnlikeSizes : FnScope ["self", "first", "second"] ["self", "first", "second"] (defScope s_UnlikeSizes) := ⟨rfl, rfl, rfl, by decide +kernel, rfl, by decide +kernel, by decide +kernel⟩
theorem sc_Unlike : FnScope ["self", "start", "width"] ["self", "start", "width"] (defScope s_Unlike) := ⟨rfl, rfl, rfl, by decide +kernel, rfl, by decide +kernel, by decide +kernel⟩
theorem sc_Unfit : FnScope ["self", "number", "word"] ["self", "number", "word"] (defScope s_Unfit) := ⟨rfl, rfl, rfl, by decide +kernel, rfl, by decide +kernel, by decide +kernel⟩
theorem sc_BadBase : FnScope ["self", "base"] ["self", "base"] (defScope s_BadBase) := ⟨rfl, rfl, rfl, by decide +kernel, rfl, by decide +kernel, by decide +kernel⟩
theorem sc_NotNeeded : FnScope ["self", "cell"] ["self", "cell"] (defScope s_NotNeeded) := ⟨rfl, rfl, rfl, by decide +kernel, rfl, by decide +kernel, by decide +kernel⟩
theorem sc_NotEnough : FnScope ["self", "start", "width"] ["self", "start", "width"] (defScope s_NotEnough) := ⟨rfl, rfl, rfl, by decide +kernel, rfl, by decide +kernel, by decide +kernel⟩
theorem sc_NoTable : FnScope ["self", "table"] ["self", "table"] (defScope s_NoTable) := ⟨rfl, rfl, rfl, by decide +kernel, rfl, by decide +kernel, by decide +kernel⟩
theorem sc_NotShown : FnScope ["self", "number"] ["self", "number"] (defScope s_NotShown) := ⟨rfl, rfl, rfl, by decide +kernel, rfl, by decide +kernel, by decide +kernel⟩
theorem sc_NotPlain : FnScope ["self", "number"] ["self", "number"] (defScope s_NotPlain) := ⟨rfl, rfl, rfl, by decide +kernel, rfl, by decide +kernel, by decide +kernel⟩
theorem sc_NotShuttable : FnScope ["self", "number"] ["self", "number"] (defScope s_NotShuttable) := ⟨rfl, rfl, rfl, by decide +kernel, rfl, by decide +kernel, by decide +kernel⟩
theorem sc_NoNote : FnScope ["self", "index"] ["self", "index"] (defScope s_NoNote) := ⟨rfl, rfl, rfl, by decide +kernel, rfl, by decide +kernel, by decide +kernel⟩
theorem sc_BadStep : FnScope ["self", "place"] ["self", "place"] (defScope s_BadStep) := ⟨rfl, rfl, rfl, by decide +kernel, rfl, by decide +kernel, by decide +kernel⟩
theorem sc_NoHouse : FnScope ["self", "house"] ["self", "house"] (defScope s_NoHouse) := ⟨rfl, rfl, rfl, by decide +kernel, rfl, by decide +kernel, by decide +kernel⟩
theorem sc_NoLetter : FnScope ["self", "key"] ["self", "key"] (defScope s_NoLetter) := ⟨rfl, rfl, rfl, by decide +kernel, rfl, by decide +kernel, by decide +kernel⟩
theorem sc_NoNotice : FnScope ["self", "key"] ["self", "key"] (defScope s_NoNotice) := ⟨rfl, rfl, rfl, by decide +kernel, rfl, by decide +kernel, by decide +kernel⟩
theorem sc_NotShownIn : FnScope ["self", "house", "number"] ["self", "house", "number"] (defScope s_NotShownIn) := ⟨rfl, rfl, rfl, by decide +kernel, rfl, by decide +kernel, by decide +kernel⟩
theorem sc_BadNest : FnScope ["self", "word", "house", "number"] ["self", "word", "house", "number"] (defScope s_BadNest) := ⟨rfl, rfl, rfl, by decide +kernel, rfl, by decide +kernel, by decide +kernel⟩
theorem sc_NoExhibit : FnScope ["self", "index"] ["self", "index"] (defScope s_NoExhibit) := ⟨rfl, rfl, rfl, by decide +kernel, rfl, by decide +kernel, by decide +kernel⟩
theorem sc_Faulty : FnScope ["self", "first", "second"] ["self", "first", "second"] (defScope s_Faulty) := ⟨rfl, rfl, rfl, by decide +kernel, rfl, by decide +kernel, by decide +kernel⟩
structure Txt (K : PySem.W.Frag) (mg : Str → Option Value) (C1 C2 : Addr) : Prop where
  d_ask : DefAt K mg "ask" s_ask ["name", "stands", "gone"]
  d_read : DefAt K mg "read" s_read ["paper", "choice"]
  d_nodes : DefAt K mg "_nodes" s_nodes ["paper"]
  d_law_draw : DefAt K mg "_law_draw" s_law_draw ["pool", "many"]
  d_law_pick : DefAt K mg "_law_pick" s_law_pick ["pool", "row"]
  d_law_read : DefAt K mg "_law_read" s_law_read ["paper", "choice"]
  d_law_choices : DefAt K mg "_law_choices" s_law_choices ["names"]
  d_law_some_name : DefAt K mg "_law_some_name" s_law_some_name ["pool"]
  d_law_hit : DefAt K mg "_law_hit" s_law_hit ["bars", "name"]
  d_names_in : DefAt K mg "names_in" s_names_in ["paper"]
  k_binit : MkAt K mg "StrikeBook" C2 "StrikeBook.__init__" s_binit ["self", "strikes"]
  m_contains : MethAt K C2 "__contains__" "StrikeBook.__contains__" s_contains ["self", "name"]
  m_struck : MethAt K C2 "struck" "StrikeBook.struck" s_struck ["self", "names"]
  d_without : DefAt K mg "without" s_without ["paper", "choice"]
  d_two_readings : DefAt K mg "two_readings" s_two_readings ["paper", "book"]
  d_freed : DefAt K mg "freed" s_freed ["paper", "book"]
  k_ninit : MkAt K mg "Notes" C1 "Notes.__init__" s_ninit ["self"]
  m_nlen : MethAt K C1 "__len__" "Notes.__len__" s_nlen ["self"]
  m_paper : MethAt K C1 "paper" "Notes.paper" s_paper ["self", "index"]
  m_stale : MethAt K C1 "stale" "Notes.stale" s_stale ["self", "book"]
  m_hanging : MethAt K C1 "hanging" "Notes.hanging" s_hanging ["self", "book"]
  m_note : MethAt K C1 "note" "Notes.note" s_note ["self", "paper"]
  m_strike : MethAt K C1 "strike" "Notes.strike" s_strike ["self", "book"]
  d_law_pool : DefAt K mg "_law_pool" s_law_pool ["script"]
  d_law_same : DefAt K mg "_law_same" s_law_same ["told", "due"]
  d_law_inside : DefAt K mg "_law_inside" s_law_inside ["paper"]
  d_law_fold : DefAt K mg "_law_fold" s_law_fold ["names", "row"]
  d_law_paper : DefAt K mg "_law_paper" s_law_paper ["pool", "names"]
  d_law_strikes : DefAt K mg "_law_strikes" s_law_strikes ["pool", "names"]
  d_law_gone : DefAt K mg "_law_gone" s_law_gone ["paper", "bars"]
  d_law_stale : DefAt K mg "_law_stale" s_law_stale ["kept", "bars"]
  d_law_hanging : DefAt K mg "_law_hanging" s_law_hanging ["kept", "bars"]
  d_law_freed : DefAt K mg "_law_freed" s_law_freed ["paper", "bars"]
  d_law_book : DefAt K mg "_law_book" s_law_book ["bars"]
  d_law_asked : DefAt K mg "_law_asked" s_law_asked ["notes", "kept", "bars"]
  d_law_both : DefAt K mg "_law_both" s_law_both ["notes", "kept", "first", "later"]
  d_law_noted : DefAt K mg "_law_noted" s_law_noted ["notes", "kept"]
  d_law_behind : DefAt K mg "_law_behind" s_law_behind ["notes", "kept", "more", "first", "later"]
  d_law_chain : DefAt K mg "_law_chain" s_law_chain ["pool"]
  d_law_kinds : DefAt K mg "_law_kinds" s_law_kinds ["e"]
  d_law_made : DefAt K mg "_law_made" s_law_made []
  d_law_texts : DefAt K mg "_law_texts" s_law_texts ["t"]
  d_law_numbers : DefAt K mg "_law_numbers" s_law_numbers ["m", "n"]
  d_law_errors : DefAt K mg "_law_errors" s_law_errors ["pool", "names"]
  d_law : DefAt K mg "law" s_law ["script"]
  d_law_refused : DefAt K mg "_law_refused" s_law_refused ["notes", "index"]
  b_len : mg "len" = none
  b_abs : mg "abs" = none
  b_sum : mg "sum" = none
  b_any : mg "any" = none
  b_int : mg "int" = none
  b_list : mg "list" = none
  b_max : mg "max" = none
  b_range : mg "range" = none
  b_enumerate : mg "enumerate" = none
  b_isinstance : mg "isinstance" = none
  b_tuple : mg "tuple" = none
  b_bool : mg "bool" = none
  b_str : mg "str" = none
  b_sorted : mg "sorted" = none
  b_set : mg "set" = none
  c59 : Cl59 K C1 C2
  e_BadName : ExAt K mg "BadName" "BadName.__init__" s_BadName 0 ["text"] ["self", "text"]
  i_BadName : IsK K mg "BadName" 49 [0]
  e_BadPaper : ExAt K mg "BadPaper" "BadPaper.__init__" s_BadPaper 1 ["text"] ["self", "text"]
  i_BadPaper : IsK K mg "BadPaper" 49 [1]
  z_BadReadings : ExK0 K mg "BadReadings" 2
  i_BadReadings : IsK K mg "BadReadings" 49 [2]
  e_TooWide : ExAt K mg "TooWide" "TooWide.__init__" s_TooWide 3 ["count"] ["self", "count"]
  i_TooWide : IsK K mg "TooWide" 49 [3]
  z_TooGreat : ExK0 K mg "TooGreat" 4
  i_TooGreat : IsK K mg "TooGreat" 49 [4]
  e_NotPositive : ExAt K mg "NotPositive" "NotPositive.__init__" s_NotPositive 5 ["choice", "name"] ["self", "choice", "name"]
  i_NotPositive : IsK K mg "NotPositive" 49 [5]
  e_NotSettling : ExAt K mg "NotSettling" "NotSettling.__init__" s_NotSettling 6 ["choice"] ["self", "choice"]
  i_NotSettling : IsK K mg "NotSettling" 49 [6]
  e_NamedTwice : ExAt K mg "NamedTwice" "NamedTwice.__init__" s_NamedTwice 7 ["table"] ["self", "table"]
  i_NamedTwice : IsK K mg "NamedTwice" 49 [7]
  e_NotLooked : ExAt K mg "NotLooked" "NotLooked.__init__" s_NotLooked 8 ["table", "key"] ["self", "table", "key"]
  i_NotLooked : IsK K mg "NotLooked" 49 [8]
  e_BadProgram : ExAt K mg "BadProgram" "BadProgram.__init__" s_BadProgram 9 ["text"] ["self", "text"]
  i_BadProgram : IsK K mg "BadProgram" 49 [9]
  e_BadLine : ExAt K mg "BadLine" "BadLine.__init__" s_BadLine 10 ["text"] ["self", "text"]
  i_BadLine : IsK K mg "BadLine" 49 [10]
  z_NoExample : ExK0 K mg "NoExample" 11
  i_NoExample : IsK K mg "NoExample" 49 [11]
  e_BadMoment : ExAt K mg "BadMoment" "BadMoment.__init__" s_BadMoment 12 ["moment"] ["self", "moment"]
  i_BadMoment : IsK K mg "BadMoment" 49 [12]
  e_NoCell : ExAt K mg "NoCell" "NoCell.__init__" s_NoCell 13 ["cell"] ["self", "cell"]
  i_NoCell : IsK K mg "NoCell" 49 [13]
  e_NoExchange : ExAt K mg "NoExchange" "NoExchange.__init__" s_NoExchange 14 ["number"] ["self", "number"]
  i_NoExchange : IsK K mg "NoExchange" 49 [14]
  e_TooMany : ExAt K mg "TooMany" "TooMany.__init__" s_TooMany 15 ["what"] ["self", "what"]
  i_TooMany : IsK K mg "TooMany" 49 [15]
  e_BadModulus : ExAt K mg "BadModulus" "BadModulus.__init__" s_BadModulus 16 ["modulus"] ["self", "modulus"]
  i_BadModulus : IsK K mg "BadModulus" 49 [16]
  e_NoLine : ExAt K mg "NoLine" "NoLine.__init__" s_NoLine 17 ["number"] ["self", "number"]
  i_NoLine : IsK K mg "NoLine" 49 [17]
  e_ShutLine : ExAt K mg "ShutLine" "ShutLine.__init__" s_ShutLine 18 ["number"] ["self", "number"]
  i_ShutLine : IsK K mg "ShutLine" 49 [18]
  e_NoPart : ExAt K mg "NoPart" "NoPart.__init__" s_NoPart 19 ["start", "width"] ["self", "start", "width"]
  i_NoPart : IsK K mg "NoPart" 49 [19]
  e_BadSize : ExAt K mg "BadSize" "BadSize.__init__" s_BadSize 20 ["size"] ["self", "size"]
  i_BadSize : IsK K mg "BadSize" 49 [20]
  z_BadView : ExK0 K mg "BadView" 21
  i_BadView : IsK K mg "BadView" 49 [21]
  e_BadText : ExAt K mg "BadText" "BadText.__init__" s_BadText 22 ["place"] ["self", "place"]
  i_BadText : IsK K mg "BadText" 49 [22]
  e_NotTold : ExAt K mg "NotTold" "NotTold.__init__" s_NotTold 23 ["start", "width"] ["self", "start", "width"]
  i_NotTold : IsK K mg "NotTold" 49 [23]
  e_UnlikeSizes : ExAt K mg "UnlikeSizes" "UnlikeSizes.__init__" s_UnlikeSizes 24 ["first", "second"] ["self", "first", "second"]
  i_UnlikeSizes : IsK K mg "UnlikeSizes" 49 [24]
  e_Unlike : ExAt K mg "Unlike" "Unlike.__init__" s_Unlike 25 ["start", "width"] ["self", "start", "width"]
  i_Unlike : IsK K mg "Unlike" 49 [25]
  z_UnlikeHeads : ExK0 K mg "UnlikeHeads" 26
  i_UnlikeHeads : IsK K mg "UnlikeHeads" 49 [26]
  e_Unfit : ExAt K mg "Unfit" "Unfit.__init__" s_Unfit 27 ["number", "word"] ["self", "number", "word"]
  i_Unfit : IsK K mg "Unfit" 49 [27]
  e_BadBase : ExAt K mg "BadBase" "BadBase.__init__" s_BadBase 28 ["base"] ["self", "base"]
  i_BadBase : IsK K mg "BadBase" 49 [28]
  e_NotNeeded : ExAt K mg "NotNeeded" "NotNeeded.__init__" s_NotNeeded 29 ["cell"] ["self", "cell"]
  i_NotNeeded : IsK K mg "NotNeeded" 49 [29]
  e_NotEnough : ExAt K mg "NotEnough" "NotEnough.__init__" s_NotEnough 30 ["start", "width"] ["self", "start", "width"]
  i_NotEnough : IsK K mg "NotEnough" 49 [30]
  e_NoTable : ExAt K mg "NoTable" "NoTable.__init__" s_NoTable 31 ["table"] ["self", "table"]
  i_NoTable : IsK K mg "NoTable" 49 [31]
  e_NotShown : ExAt K mg "NotShown" "NotShown.__init__" s_NotShown 32 ["number"] ["self", "number"]
  i_NotShown : IsK K mg "NotShown" 49 [32]
  e_NotPlain : ExAt K mg "NotPlain" "NotPlain.__init__" s_NotPlain 33 ["number"] ["self", "number"]
  i_NotPlain : IsK K mg "NotPlain" 49 [33]
  z_NotOpen : ExK0 K mg "NotOpen" 34
  i_NotOpen : IsK K mg "NotOpen" 49 [34]
  z_BadEntry : ExK0 K mg "BadEntry" 35
  i_BadEntry : IsK K mg "BadEntry" 49 [35]
  e_NotShuttable : ExAt K mg "NotShuttable" "NotShuttable.__init__" s_NotShuttable 36 ["number"] ["self", "number"]
  i_NotShuttable : IsK K mg "NotShuttable" 49 [36]
  e_NoNote : ExAt K mg "NoNote" "NoNote.__init__" s_NoNote 37 ["index"] ["self", "index"]
  i_NoNote : IsK K mg "NoNote" 49 [37]
  e_BadStep : ExAt K mg "BadStep" "BadStep.__init__" s_BadStep 38 ["place"] ["self", "place"]
  i_BadStep : IsK K mg "BadStep" 49 [38]
  e_NoHouse : ExAt K mg "NoHouse" "NoHouse.__init__" s_NoHouse 39 ["house"] ["self", "house"]
  i_NoHouse : IsK K mg "NoHouse" 49 [39]
  e_NoLetter : ExAt K mg "NoLetter" "NoLetter.__init__" s_NoLetter 40 ["key"] ["self", "key"]
  i_NoLetter : IsK K mg "NoLetter" 49 [40]
  e_NoNotice : ExAt K mg "NoNotice" "NoNotice.__init__" s_NoNotice 41 ["key"] ["self", "key"]
  i_NoNotice : IsK K mg "NoNotice" 49 [41]
  e_NotShownIn : ExAt K mg "NotShownIn" "NotShownIn.__init__" s_NotShownIn 42 ["house", "number"] ["self", "house", "number"]
  i_NotShownIn : IsK K mg "NotShownIn" 49 [42]
  e_BadNest : ExAt K mg "BadNest" "BadNest.__init__" s_BadNest 43 ["word", "house", "number"] ["self", "word", "house", "number"]
  i_BadNest : IsK K mg "BadNest" 49 [43]
  z_UnlikeHouses : ExK0 K mg "UnlikeHouses" 44
  i_UnlikeHouses : IsK K mg "UnlikeHouses" 49 [44]
  z_OtherHouse : ExK0 K mg "OtherHouse" 45
  i_OtherHouse : IsK K mg "OtherHouse" 49 [45]
  z_NotTaken : ExK0 K mg "NotTaken" 46
  i_NotTaken : IsK K mg "NotTaken" 49 [46]
  e_NoExhibit : ExAt K mg "NoExhibit" "NoExhibit.__init__" s_NoExhibit 47 ["index"] ["self", "index"]
  i_NoExhibit : IsK K mg "NoExhibit" 49 [47]
  e_Faulty : ExAt K mg "Faulty" "Faulty.__init__" s_Faulty 48 ["first", "second"] ["self", "first", "second"]
  i_Faulty : IsK K mg "Faulty" 49 [48]
  i_HoldError : IsK K mg "HoldError" 49 (List.range 49)
  i_ValueError : IsKb K mg "ValueError" 49 (List.range 49)
theorem v_len : bootBuiltins "len" = some (.builtin "len") := by decide +kernel
theorem v_abs : bootBuiltins "abs" = some (.builtin "abs") := by decide +kernel
theorem v_sum : bootBuiltins "sum" = some (.builtin "sum") := by decide +kernel
theorem v_any : bootBuiltins "any" = some (.builtin "any") := by decide +kernel
theorem v_int : bootBuiltins "int" = some (.type "int") := by decide +kernel
theorem v_list : bootBuiltins "list" = some (.type "list") := by decide +kernel
theorem v_max : bootBuiltins "max" = some (.builtin "max") := by decide +kernel
theorem v_isinstance : bootBuiltins "isinstance" = some (.builtin "isinstance") := by decide +kernel
theorem v_tuple : bootBuiltins "tuple" = some (.type "tuple") := by decide +kernel
theorem v_bool : bootBuiltins "bool" = some (.type "bool") := by decide +kernel
theorem v_str : bootBuiltins "str" = some (.type "str") := by decide +kernel
theorem v_sorted : bootBuiltins "sorted" = some (.builtin "sorted") := by decide +kernel
theorem v_set : bootBuiltins "set" = some (.type "set") := by decide +kernel
section
variable {L : Lang} {P : Program} {w : World} {K : PySem.W.Frag} {mg : Str → Option Value} {base : Heap} {C1 C2 : Addr}
theorem x_BadName (T : Txt K mg C1 C2) : ExK P w K mg base "BadName" 0 ["text"] := T.e_BadName.mk1 sc_BadName fun C O h0 f cdv A outer s H E => pss_one (ps_asg (pv 1) (pg_ost O h0 (pv 0)))
theorem x_BadPaper (T : Txt K mg C1 C2) : ExK P w K mg base "BadPaper" 1 ["text"] := T.e_BadPaper.mk1 sc_BadPaper fun C O h0 f cdv A outer s H E => pss_one (ps_asg (pv 1) (pg_ost O h0 (pv 0)))
theorem x_TooWide (T : Txt K mg C1 C2) : ExK P w K mg base "TooWide" 3 ["count"] := T.e_TooWide.mk1 sc_TooWide fun C O h0 f cdv A outer s H E => pss_one (ps_asg (pv 1) (pg_ost O h0 (pv 0)))
theorem x_NotPositive (T : Txt K mg C1 C2) : ExK P w K mg base "NotPositive" 5 ["choice", "name"] := T.e_NotPositive.mk2 sc_NotPositive fun C O h0 h1 f cdv A outer s H E => pss_one (ps_asg (pe_tup (pa_cons (pv 1) (pa_cons (pv 2) pa_nil))) (pg_tup rfl (pgs_cons (pg_ost O h0 (pv 0)) (pgs_cons (pg_ost O h1 (pv 0)) pgs_nil))))
theorem x_NotSettling (T : Txt K mg C1 C2) : ExK P w K mg base "NotSettling" 6 ["choice"] := T.e_NotSettling.mk1 sc_NotSettling fun C O h0 f cdv A outer s H E => pss_one (ps_asg (pv 1) (pg_ost O h0 (pv 0)))
theorem x_NamedTwice (T : Txt K mg C1 C2) : ExK P w K mg base "NamedTwice" 7 ["table"] := T.e_NamedTwice.mk1 sc_NamedTwice fun C O h0 f cdv A outer s H E => pss_one (ps_asg (pv 1) (pg_ost O h0 (pv 0)))
theorem x_NotLooked (T : Txt K mg C1 C2) : ExK P w K mg base "NotLooked" 8 ["table", "key"] := T.e_NotLooked.mk2 sc_NotLooked fun C O h0 h1 f cdv A outer s H E => pss_one (ps_asg (pe_tup (pa_cons (pv 1) (pa_cons (pv 2) pa_nil))) (pg_tup rfl (pgs_cons (pg_ost O h0 (pv 0)) (pgs_cons (pg_ost O h1 (pv 0)) pgs_nil))))
theorem x_BadProgram (T : Txt K mg C1 C2) : ExK P w K mg base "BadProgram" 9 ["text"] := T.e_BadProgram.mk1 sc_BadProgram fun C O h0 f cdv A outer s H E => pss_one (ps_asg (pv 1) (pg_ost O h0 (pv 0)))
theorem x_BadLine (T : Txt K mg C1 C2) : ExK P w K mg base "BadLine" 10 ["text"] := T.e_BadLine.mk1 sc_BadLine fun C O h0 f cdv A outer s H E => pss_one (ps_asg (pv 1) (pg_ost O h0 (pv 0)))
theorem x_BadMoment (T : Txt K mg C1 C2) : ExK P w K mg base "BadMoment" 12 ["moment"] := T.e_BadMoment.mk1 sc_BadMoment fun C O h0 f cdv A outer s H E => pss_one (ps_asg (pv 1) (pg_ost O h0 (pv 0)))
theorem x_NoCell (T : Txt K mg C1 C2) : ExK P w K mg base "NoCell" 13 ["cell"] := T.e_NoCell.mk1 sc_NoCell fun C O h0 f cdv A outer s H E => pss_one (ps_asg (pv 1) (pg_ost O h0 (pv 0)))
theorem x_NoExchange (T : Txt K mg C1 C2) : ExK P w K mg base "NoExchange" 14 ["number"] := T.e_NoExchange.mk1 sc_NoExchange fun C O h0 f cdv A outer s H E => pss_one (ps_asg (pv 1) (pg_ost O h0 (pv 0)))
theorem x_TooMany (T : Txt K mg C1 C2) : ExK P w K mg base "TooMany" 15 ["what"] := T.e_TooMany.mk1 sc_TooMany fun C O h0 f cdv A outer s H E => pss_one (ps_asg (pv 1) (pg_ost O h0 (pv 0)))
theorem x_BadModulus (T : Txt K mg C1 C2) : ExK P w K mg base "BadModulus" 16 ["modulus"] := T.e_BadModulus.mk1 sc_BadModulus fun C O h0 f cdv A outer s H E => pss_one (ps_asg (pv 1) (pg_ost O h0 (pv 0)))
theorem x_NoLine (T : Txt K mg C1 C2) : ExK P w K mg base "NoLine" 17 ["number"] := T.e_NoLine.mk1 sc_NoLine fun C O h0 f cdv A outer s H E => pss_one (ps_asg (pv 1) (pg_ost O h0 (pv 0)))
theorem x_ShutLine (T : Txt K mg C1 C2) : ExK P w K mg base "ShutLine" 18 ["number"] := T.e_ShutLine.mk1 sc_ShutLine fun C O h0 f cdv A outer s H E => pss_one (ps_asg (pv 1) (pg_ost O h0 (pv 0)))
theorem x_NoPart (T : Txt K mg C1 C2) : ExK P w K mg base "NoPart" 19 ["start", "width"] := T.e_NoPart.mk2 sc_NoPart fun C O h0 h1 f cdv A outer s H E => pss_one (ps_asg (pe_tup (pa_cons (pv 1) (pa_cons (pv 2) pa_nil))) (pg_tup rfl (pgs_cons (pg_ost O h0 (pv 0)) (pgs_cons (pg_ost O h1 (pv 0)) pgs_nil))))
theorem x_BadSize (T : Txt K mg C1 C2) : ExK P w K mg base "BadSize" 20 ["size"] := T.e_BadSize.mk1 sc_BadSize fun C O h0 f cdv A outer s H E => pss_one (ps_asg (pv 1) (pg_ost O h0 (pv 0)))
theorem x_BadText (T : Txt K mg C1 C2) : ExK P w K mg base "BadText" 22 ["place"] := T.e_BadText.mk1 sc_BadText fun C O h0 f cdv A outer s H E => pss_one (ps_asg (pv 1) (pg_ost O h0 (pv 0)))
theorem x_NotTold (T : Txt K mg C1 C2) : ExK P w K mg base "NotTold" 23 ["start", "width"] := T.e_NotTold.mk2 sc_NotTold fun C O h0 h1 f cdv A outer s H E => pss_one (ps_asg (pe_tup (pa_cons (pv 1) (pa_cons (pv 2) pa_nil))) (pg_tup rfl (pgs_cons (pg_ost O h0 (pv 0)) (pgs_cons (pg_ost O h1 (pv 0)) pgs_nil))))
theorem x_UnlikeSizes (T : Txt K mg C1 C2) : ExK P w K mg base "UnlikeSizes" 24 ["first", "second"] := T.e_UnlikeSizes.mk2 sc_UnlikeSizes fun C O h0 h1 f cdv A outer s H E => pss_one (ps_asg (pe_tup (pa_cons (pv 1) (pa_cons (pv 2) pa_nil))) (pg_tup rfl (pgs_cons (pg_ost O h0 (pv 0)) (pgs_cons (pg_ost O h1 (pv 0)) pgs_nil))))
theorem x_Unlike (T : Txt K mg C1 C2) : ExK P w K mg base "Unlike" 25 ["start", "width"] := T.e_Unlike.mk2 sc_Unlike fun C O h0 h1 f cdv A outer s H E => pss_one (ps_asg (pe_tup (pa_cons (pv 1) (pa_cons (pv 2) pa_nil))) (pg_tup rfl (pgs_cons (pg_ost O h0 (pv 0)) (pgs_cons (pg_ost O h1 (pv 0)) pgs_nil))))
theorem x_Unfit (T : Txt K mg C1 C2) : ExK P w K mg base "Unfit" 27 ["number", "word"] := T.e_Unfit.mk2 sc_Unfit fun C O h0 h1 f cdv A outer s H E => pss_one (ps_asg (pe_tup (pa_cons (pv 1) (pa_cons (pv 2) pa_nil))) (pg_tup rfl (pgs_cons (pg_ost O h0 (pv 0)) (pgs_cons (pg_ost O h1 (pv 0)) pgs_nil))))
theorem x_BadBase (T : Txt K mg C1 C2) : ExK P w K mg base "BadBase" 28 ["base"] := T.e_BadBase.mk1 sc_BadBase fun C O h0 f cdv A outer s H E => pss_one (ps_asg (pv 1) (pg_ost O h0 (pv 0)))
theorem x_NotNeeded (T : Txt K mg C1 C2) : ExK P w K mg base "NotNeeded" 29 ["cell"] := T.e_NotNeeded.mk1 sc_NotNeeded fun C O h0 f cdv A outer s H E => pss_one (ps_asg (pv 1) (pg_ost O h0 (pv 0)))
theorem x_NotEnough (T : Txt K mg C1 C2) : ExK P w K mg base "NotEnough" 30 ["start", "width"] := T.e_NotEnough.mk2 sc_NotEnough fun C O h0 h1 f cdv A outer s H E => pss_one (ps_asg (pe_tup (pa_cons (pv 1) (pa_cons (pv 2) pa_nil))) (pg_tup rfl (pgs_cons (pg_ost O h0 (pv 0)) (pgs_cons (pg_ost O h1 (pv 0)) pgs_nil))))
theorem x_NoTable (T : Txt K mg C1 C2) : ExK P w K mg base "NoTable" 31 ["table"] := T.e_NoTable.mk1 sc_NoTable fun C O h0 f cdv A outer s H E => pss_one (ps_asg (pv 1) (pg_ost O h0 (pv 0)))
theorem x_NotShown (T : Txt K mg C1 C2) : ExK P w K mg base "NotShown" 32 ["number"] := T.e_NotShown.mk1 sc_NotShown fun C O h0 f cdv A outer s H E => pss_one (ps_asg (pv 1) (pg_ost O h0 (pv 0)))
theorem x_NotPlain (T : Txt K mg C1 C2) : ExK P w K mg base "NotPlain" 33 ["number"] := T.e_NotPlain.mk1 sc_NotPlain fun C O h0 f cdv A outer s H E => pss_one (ps_asg (pv 1) (pg_ost O h0 (pv 0)))
theorem x_NotShuttable (T : Txt K mg C1 C2) : ExK P w K mg base "NotShuttable" 36 ["number"] := T.e_NotShuttable.mk1 sc_NotShuttable fun C O h0 f cdv A outer s H E => pss_one (ps_asg (pv 1) (pg_ost O h0 (pv 0)))
theorem x_NoNote (T : Txt K mg C1 C2) : ExK P w K mg base "NoNote" 37 ["index"] := T.e_NoNote.mk1 sc_NoNote fun C O h0 f cdv A outer s H E => pss_one (ps_asg (pv 1) (pg_ost O h0 (pv 0)))
theorem x_BadStep (T : Txt K mg C1 C2) : ExK P w K mg base "BadStep" 38 ["place"] := T.e_BadStep.mk1 sc_BadStep fun C O h0 f cdv A outer s H E => pss_one (ps_asg (pv 1) (pg_ost O h0 (pv 0)))
theorem x_NoHouse (T : Txt K mg C1 C2) : ExK P w K mg base "NoHouse" 39 ["house"] := T.e_NoHouse.mk1 sc_NoHouse fun C O h0 f cdv A outer s H E => pss_one (ps_asg (pv 1) (pg_ost O h0 (pv 0)))
theorem x_NoLetter (T : Txt K mg C1 C2) : ExK P w K mg base "NoLetter" 40 ["key"] := T.e_NoLetter.mk1 sc_NoLetter fun C O h0 f cdv A outer s H E => pss_one (ps_asg (pv 1) (pg_ost O h0 (pv 0)))
theorem x_NoNotice (T : Txt K mg C1 C2) : ExK P w K mg base "NoNotice" 41 ["key"] := T.e_NoNotice.mk1 sc_NoNotice fun C O h0 f cdv A outer s H E => pss_one (ps_asg (pv 1) (pg_ost O h0 (pv 0)))
theorem x_NotShownIn (T : Txt K mg C1 C2) : ExK P w K mg base "NotShownIn" 42 ["house", "number"] := T.e_NotShownIn.mk2 sc_NotShownIn fun C O h0 h1 f cdv A outer s H E => pss_one (ps_asg (pe_tup (pa_cons (pv 1) (pa_cons (pv 2) pa_nil))) (pg_tup rfl (pgs_cons (pg_ost O h0 (pv 0)) (pgs_cons (pg_ost O h1 (pv 0)) pgs_nil))))
theorem x_BadNest (T : Txt K mg C1 C2) : ExK P w K mg base "BadNest" 43 ["word", "house", "number"] := T.e_BadNest.mk3 sc_BadNest fun C O h0 h1 h2 f cdv A outer s H E => pss_one (ps_asg (pe_tup (pa_cons (pv 1) (pa_cons (pv 2) (pa_cons (pv 3) pa_nil)))) (pg_tup rfl (pgs_cons (pg_ost O h0 (pv 0)) (pgs_cons (pg_ost O h1 (pv 0)) (pgs_cons (pg_ost O h2 (pv 0)) pgs_nil)))))
theorem x_NoExhibit (T : Txt K mg C1 C2) : ExK P w K mg base "NoExhibit" 47 ["index"] := T.e_NoExhibit.mk1 sc_NoExhibit fun C O h0 f cdv A outer s H E => pss_one (ps_asg (pv 1) (pg_ost O h0 (pv 0)))
theorem x_Faulty (T : Txt K mg C1 C2) : ExK P w K mg base "Faulty" 48 ["first", "second"] := T.e_Faulty.mk2 sc_Faulty fun C O h0 h1 f cdv A outer s H E => pss_one (ps_asg (pe_tup (pa_cons (pv 1) (pa_cons (pv 2) pa_nil))) (pg_tup rfl (pgs_cons (pg_ost O h0 (pv 0)) (pgs_cons (pg_ost O h1 (pv 0)) pgs_nil))))
end
end DL
set_option Elab.async false
set_option linter.all false
set_option maxRecDepth 100000
set_option maxHeartbeats 4000000
namespace DL
open PySem PySem.Spec L2 TK
open PyProof.Rows hiding St
variable [CN]
section
variable {L : Lang} {P : Program} {w : World} {K : PySem.W.Frag} {mg : Str → Option Value} {base : Heap} {C1 C2 : Addr}
def B_ask : Es (L) :=
  sSeq (sIf (tst (eOp gEq (eVar 1) (eVar 2)))
    (sRet (eVar 1))
    (sNil))
  (sRet (eTup (aCons (eC (.str "if")) (aCons (eVar 0) (aCons (eVar 1) (aCons (eVar 2) (aNil)))))))
def F_ask : Fn (L) := fnD 3 3 B_ask
theorem ok_ask (T : Txt K mg C1 C2) : OkD (L) P w K mg base 1 "ask" ["name", "stands", "gone"] F_ask := ok_defD T.d_ask sc_ask fun f cdv A outer s H E hr =>
    dss_cons (ds_if (dt_cmp (op_eqD hr.units) p_eq (de_var 1) (de_var 2) (nomark _))
      (dss_one (ds_ret (de_var 1)))
      (dss_nil))
    (dss_one (ds_ret (de_tup (da_cons (de_str) (da_cons (de_var 0) (da_cons (de_var 1) (da_cons (de_var 2) (da_nil))))))))
def B_read : Es (L) :=
  sSeq (sWhN (tst (eOp gEq (eOp gIx (eVar 0) (eC (.int 0))) (eC (.str "if"))))
    (sSet 0 (eIf (tst (eOp gInX (eOp gIx (eVar 0) (eC (.int 1))) (eVar 1))) (eOp gIx (eVar 0) (eC (.int 3))) (eOp gIx (eVar 0) (eC (.int 2))))) 1000)
  (sRet (eOp gIx (eVar 0) (eC (.int 1))))
def F_read : Fn (L) := fnD 2 2 B_read
theorem ok_read (T : Txt K mg C1 C2) : OkD (L) P w K mg base 1 "read" ["paper", "choice"] F_read := ok_defD T.d_read sc_read fun f cdv A outer s H E hr =>
    dss_cons (ds_while 1000 PassesOwn.never (dt_cmp (op_eqD hr.units) p_eq (de_ix ix_seq p_ix (de_var 0) (de_int)) (de_str) (nomark _))
      (dss_one (ds_set 0 sc_read.nd (de_if (dt_cmp (op_inX (hu65 hr)) p_inX (de_ix ix_seq p_ix (de_var 0) (de_int)) (de_var 1) (by rfl)) (de_ix ix_seq p_ix (de_var 0) (de_int)) (de_ix ix_seq p_ix (de_var 0) (de_int))))))
    (dss_one (ds_ret (de_ix ix_seq p_ix (de_var 0) (de_int))))
def B_nodes : Es (L) :=
  sSeq (sSet 1 (eLst (aCons (eVar 0) (aNil))))
  (sSeq (sSet 2 (eC (.int 0)))
  (sSeq (sWhN (tst (eOp gLt (eVar 2) (thaw (eCB cLen (aCons (eVar 1) (aNil))))))
    (sSeq (sIf (tst (eOp gEq (eOp gIx (eIxO 1 (eVar 2)) (eC (.int 0))) (eC (.str "if"))))
    (sSeq (sApp 1 (eOp gIx (eIxO 1 (eVar 2)) (eC (.int 2))))
  (sApp 1 (eOp gIx (eIxO 1 (eVar 2)) (eC (.int 3)))))
    (sNil))
  (sAug 2 (fun i j => i + j) (eC (.int 1)))) 5000)
  (sRet (eMv 1))))
def F_nodes : Fn (L) := fnD 1 3 B_nodes
theorem ok_nodes (T : Txt K mg C1 C2) : OkD (L) P w K mg base 1 "_nodes" ["paper"] F_nodes := ok_defD T.d_nodes sc_nodes fun f cdv A outer s H E hr =>
    dss_cons (ds_set 1 sc_nodes.nd (de_lst (da_cons (de_var 0) (da_nil))))
    (dss_cons (ds_set 2 sc_nodes.nd (de_int))
    (dss_cons (ds_while 5000 PassesOwn.never (dt_cmp op_lt p_lt (de_var 2) (DE.thaw (de_cb call_len q_len T.b_len v_len (da_cons (de_var 1) (da_nil)))) (nomark _))
      (dss_cons (ds_if (dt_cmp (op_eqD hr.units) p_eq (de_ix ix_seq p_ix (de_ixO 1 (de_var 2)) (de_int)) (de_str) (nomark _))
      (dss_cons (ds_app 1 (de_ix ix_seq p_ix (de_ixO 1 (de_var 2)) (de_int)))
    (dss_one (ds_app 1 (de_ix ix_seq p_ix (de_ixO 1 (de_var 2)) (de_int)))))
      (dss_nil))
    (dss_one (ds_aug 2 ip_add sc_nodes.nd (de_int)))))
    (dss_one (ds_ret (de_mv 1)))))
def B_law_draw : Es (L) :=
  sSeq (sFor (iR2 (aCons (eC (.int 1)) (aCons (thaw (eCB cLen (aCons (eVar 0) (aNil)))) (aNil)))) (uName 2)
    (sIf (tst (eOp gGt (eIxO 0 (eVar 2)) (eC (.int 0))))
    (sSeq (sSet 3 (eOp gMod (eCB cInt (aCons (eIxO 0 (eVar 2)) (aNil))) (eVar 1)))
  (sSeq (sPut 0 (eOp gFdiv (eIxO 0 (eVar 2)) (eVar 1)) (eVar 2))
  (sRet (eVar 3))))
    (sNil)))
  (sSeq (sPut 0 (eOp gAdd (eIxO 0 (eC (.int 0))) (eC (.int 1))) (eC (.int 0)))
  (sRet (eOp gMod (eCB cInt (aCons (eIxO 0 (eC (.int 0))) (aNil))) (eVar 1))))
def F_law_draw : Fn (L) := fnD 2 4 B_law_draw
theorem ok_law_draw (T : Txt K mg C1 C2) : OkD (L) P w K mg base 1 "_law_draw" ["pool", "many"] F_law_draw := ok_defD T.d_law_draw sc_law_draw fun f cdv A outer s H E hr =>
    dss_cons (ds_for PassesOwn.never rfl (di_range2 T.b_range (da_cons (de_int) (da_cons (DE.thaw (de_cb call_len q_len T.b_len v_len (da_cons (de_var 0) (da_nil)))) (da_nil)))) (dg_name (i := 2) sc_law_draw.nd)
      (dss_one (ds_if (dt_cmp op_gt p_gt (de_ixO 0 (de_var 2)) (de_int) (nomark _))
      (dss_cons (ds_set 3 sc_law_draw.nd (de_op op_modN p_mod (de_ct call_int1 q_int T.b_int v_int (da_cons (de_ixO 0 (de_var 2)) (da_nil))) (de_var 1)))
    (dss_cons (ds_put 0 (de_op op_fdivN p_fdiv (de_ixO 0 (de_var 2)) (de_var 1)) (de_var 2))
    (dss_one (ds_ret (de_var 3)))))
      (dss_nil))))
    (dss_cons (ds_put 0 (de_op op_add p_add (de_ixO 0 (de_int)) (de_int)) (de_int))
    (dss_one (ds_ret (de_op op_modN p_mod (de_ct call_int1 q_int T.b_int v_int (da_cons (de_ixO 0 (de_int)) (da_nil))) (de_var 1)))))
def B_law_pick : Es (L) :=
  sRet (eOp gIx (eVar 1) (eCallB 0 (F_law_draw) (aCons (eCB cLen (aCons (eVar 1) (aNil))) (aNil))))
def F_law_pick : Fn (L) := fnD 2 2 B_law_pick
theorem ok_law_pick (T : Txt K mg C1 C2) : OkD (L) P w K mg base 2 "_law_pick" ["pool", "row"] F_law_pick := ok_defD T.d_law_pick sc_law_pick fun f cdv A outer s H E hr =>
    dss_one (ds_ret (de_ix ix_seq p_ix (de_var 1) (de_callBD 0 (ok_law_draw T) (hr.mono (by omega)) (da_cons (de_cb call_len q_len T.b_len v_len (da_cons (de_var 1) (da_nil))) (da_nil)))))
def B_law_read : Es (L) :=
  sSeq (sFor (iR1 (aCons (eC (.int 11)) (aNil))) (uName 2)
    (sSeq (sIf (tst (eOp gEq (eOp gIx (eVar 0) (eC (.int 0))) (eC (.str "is"))))
    (sRet (eOp gIx (eVar 0) (eC (.int 1))))
    (sNil))
  (sSet 0 (eIf (tst (eOp gInX (eOp gIx (eVar 0) (eC (.int 1))) (eVar 1))) (eOp gIx (eVar 0) (eC (.int 3))) (eOp gIx (eVar 0) (eC (.int 2)))))))
  (sRet (eC .none))
def F_law_read : Fn (L) := fnD 2 3 B_law_read
theorem ok_law_read (T : Txt K mg C1 C2) : OkD (L) P w K mg base 1 "_law_read" ["paper", "choice"] F_law_read := ok_defD T.d_law_read sc_law_read fun f cdv A outer s H E hr =>
    dss_cons (ds_for PassesOwn.never rfl (di_range1 T.b_range (da_cons (de_int) (da_nil))) (dg_name (i := 2) sc_law_read.nd)
      (dss_cons (ds_if (dt_cmp (op_eqD hr.units) p_eq (de_ix ix_seq p_ix (de_var 0) (de_int)) (de_str) (nomark _))
      (dss_one (ds_ret (de_ix ix_seq p_ix (de_var 0) (de_int))))
      (dss_nil))
    (dss_one (ds_set 0 sc_law_read.nd (de_if (dt_cmp (op_inX (hu65 hr)) p_inX (de_ix ix_seq p_ix (de_var 0) (de_int)) (de_var 1) (by rfl)) (de_ix ix_seq p_ix (de_var 0) (de_int)) (de_ix ix_seq p_ix (de_var 0) (de_int)))))))
    (dss_one (ds_ret (de_non)))
def B_law_choices : Es (L) :=
  sSeq (sSet 1 (eLst (aCons (eLst (aNil)) (aNil))))
  (sSeq (sFor (iL (eVar 0)) (uName 2)
    (sSet 1 (eOpL gCat (eVar 1) (eLc [3] (iL (eVar 1)) (uName 3) cYes (eOpL gCat (eVar 3) (eLst (aCons (eVar 2) (aNil))))))))
  (sRet (eMv 1)))
def F_law_choices : Fn (L) := fnD 1 4 B_law_choices
theorem ok_law_choices (T : Txt K mg C1 C2) : OkD (L) P w K mg base 1 "_law_choices" ["names"] F_law_choices := ok_defD T.d_law_choices sc_law_choices fun f cdv A outer s H E hr =>
    dss_cons (ds_set 1 sc_law_choices.nd (de_lst (da_cons (de_lst (da_nil)) (da_nil))))
    (dss_cons (ds_for PassesOwn.never rfl (di_list (de_var 0)) (dg_name (i := 2) sc_law_choices.nd)
      (dss_one (ds_set 1 sc_law_choices.nd (de_opL op_cat n_cat (de_var 1) (de_lc (own := [("out", 3)]) rfl sc_law_choices.nd (di_list (de_var 1)) (blkOk_by (N := ["names", "row", "one", "out"]) (sc := defScope s_law_choices) (by decide +kernel)) (by decide) (fun _ _ _ _ _ => dg_name (i := 3) sc_law_choices.nd) (fun _ _ _ _ _ => de_opL op_cat n_cat (de_var 3) (de_lst (da_cons (de_var 2) (da_nil)))))))))
    (dss_one (ds_ret (de_mv 1))))
def B_law_some_name : Es (L) :=
  sSeq (sSet 1 (eOp gIx (eC (.str "AABABH")) (eCallB 0 (F_law_draw) (aCons (eC (.int 6)) (aNil)))))
  (sSeq (sSet 2 (eOp gIx (eLst (aCons (eC (.str "zoe")) (aCons (eC (.str "bob")) (aCons (eC (.str "")) (aCons (eC (.str "eve")) (aCons (eC (.str "bob")) (aCons (eC (.str "bo")) (aNil)))))))) (eCallB 0 (F_law_draw) (aCons (eC (.int 6)) (aNil)))))
  (sSeq (sSet 3 (eOp gAdd (eOp gIx (eLst (aCons (eC (.int 7)) (aCons (eC (.int 2)) (aCons (eC (.int 60)) (aCons (eC (.int 11)) (aCons (eC (.int 59)) (aCons (eC (.int 0)) (aCons (eC (.int 3)) (aCons (eC (.int 19)) (aCons (eC (.int 40)) (aNil))))))))))) (eCallB 0 (F_law_draw) (aCons (eC (.int 9)) (aNil)))) (eCallB 0 (F_law_draw) (aCons (eC (.int 2)) (aNil)))))
  (sSeq (sIf (tstAnd (tst (eOp gGe (eVar 3) (eC (.int 60)))) (tst (eOp gNe (eVar 2) (eC (.str "")))))
    (sRet (eTup (aCons (eVar 1) (aCons (eC (.int 99)) (aCons (eVar 2) (aNil))))))
    (sNil))
  (sRet (eTup (aCons (eVar 1) (aCons (eOp gMod (eCB cInt (aCons (eVar 3) (aNil))) (eC (.int 60))) (aCons (eVar 2) (aNil)))))))))
def F_law_some_name : Fn (L) := fnD 1 4 B_law_some_name
theorem ok_law_some_name (T : Txt K mg C1 C2) : OkD (L) P w K mg base 2 "_law_some_name" ["pool"] F_law_some_name := ok_defD T.d_law_some_name sc_law_some_name fun f cdv A outer s H E hr =>
    dss_cons (ds_set 1 sc_law_some_name.nd (de_ix ix_seq p_ix (de_str) (de_callBD 0 (ok_law_draw T) (hr.mono (by omega)) (da_cons (de_int) (da_nil)))))
    (dss_cons (ds_set 2 sc_law_some_name.nd (de_ix ix_seq p_ix (de_lst (da_cons (de_str) (da_cons (de_str) (da_cons (de_str) (da_cons (de_str) (da_cons (de_str) (da_cons (de_str) (da_nil)))))))) (de_callBD 0 (ok_law_draw T) (hr.mono (by omega)) (da_cons (de_int) (da_nil)))))
    (dss_cons (ds_set 3 sc_law_some_name.nd (de_op op_add p_add (de_ix ix_seq p_ix (de_lst (da_cons (de_int) (da_cons (de_int) (da_cons (de_int) (da_cons (de_int) (da_cons (de_int) (da_cons (de_int) (da_cons (de_int) (da_cons (de_int) (da_cons (de_int) (da_nil))))))))))) (de_callBD 0 (ok_law_draw T) (hr.mono (by omega)) (da_cons (de_int) (da_nil)))) (de_callBD 0 (ok_law_draw T) (hr.mono (by omega)) (da_cons (de_int) (da_nil)))))
    (dss_cons (ds_if (DW.dt (dw_and (dt_cmp op_ge p_ge (de_var 3) (de_int) (nomark _)) (dw_and1 (dt_cmp (op_neD hr.units) p_ne (de_var 2) (de_str) (nomark _)))))
      (dss_one (ds_ret (de_tup (da_cons (de_var 1) (da_cons (de_int) (da_cons (de_var 2) (da_nil)))))))
      (dss_nil))
    (dss_one (ds_ret (de_tup (da_cons (de_var 1) (da_cons (de_op op_modN p_mod (de_ct call_int1 q_int T.b_int v_int (da_cons (de_var 3) (da_nil))) (de_int)) (da_cons (de_var 2) (da_nil))))))))))
def B_law_hit : Es (L) :=
  sSeq (sFor (iL (eVar 0)) (uTup 3 (usCons (uName 2) (usCons (uName 3) (usCons (uName 4) (usNil)))))
    (sIf (tstAnd (tst (eOp gEq (eVar 2) (eOp gIx (eVar 1) (eC (.int 0))))) (tstAnd (tst (eOp gEq (eVar 3) (eOp gIx (eVar 1) (eC (.int 2))))) (tst (eOp gLt (eOp gIx (eVar 1) (eC (.int 1))) (eVar 4)))))
    (sRet (eC (.bool true)))
    (sNil)))
  (sRet (eC (.bool false)))
def F_law_hit : Fn (L) := fnD 2 5 B_law_hit
theorem ok_law_hit (T : Txt K mg C1 C2) : OkD (L) P w K mg base 1 "_law_hit" ["bars", "name"] F_law_hit := ok_defD T.d_law_hit sc_law_hit fun f cdv A outer s H E hr =>
    dss_cons (ds_for PassesOwn.never rfl (di_list (de_var 0)) (dg_tup rfl (dgs_cons (dg_name (i := 2) sc_law_hit.nd) (dgs_cons (dg_name (i := 3) sc_law_hit.nd) (dgs_cons (dg_name (i := 4) sc_law_hit.nd) (dgs_nil)))))
      (dss_one (ds_if (DW.dt (dw_and (dt_cmp (op_eqD hr.units) p_eq (de_var 2) (de_ix ix_seq p_ix (de_var 1) (de_int)) (nomark _)) (dw_and (dt_cmp (op_eqD hr.units) p_eq (de_var 3) (de_ix ix_seq p_ix (de_var 1) (de_int)) (nomark _)) (dw_and1 (dt_cmp op_lt p_lt (de_ix ix_seq p_ix (de_var 1) (de_int)) (de_var 4) (nomark _))))))
      (dss_one (ds_ret (de_bl)))
      (dss_nil))))
    (dss_one (ds_ret (de_bl)))
end
end DL
set_option Elab.async false
set_option linter.all false
set_option maxRecDepth 100000
set_option maxHeartbeats 4000000
namespace DL
open PySem PySem.Spec L2 TK
open PyProof.Rows hiding St
variable [CN]
section
variable {L : Lang} {P : Program} {w : World} {K : PySem.W.Frag} {mg : Str → Option Value} {base : Heap} {C1 C2 : Addr}
def B_names_in : Es (L) :=
  sRet (eSortSC [1] (iL (eCall (F_nodes) (aCons (eVar 0) (aNil)))) (uName 1) (tst (eOp gEq (eOp gIx (eVar 1) (eC (.int 0))) (eC (.str "if")))) (eOp gIx (eVar 1) (eC (.int 1))))
def F_names_in : Fn (L) := fnD 1 2 B_names_in
theorem ok_names_in (T : Txt K mg C1 C2) : OkD (L) P w K mg base 2 "names_in" ["paper"] F_names_in := ok_defD T.d_names_in sc_names_in fun f cdv A outer s H E hr =>
    dss_one (ds_ret (de_sortSC (own := [("node", 1)]) hr rfl sc_names_in.nd (di_list (de_callD (ok_nodes T) (hr.mono (by omega)) (da_cons (de_var 0) (da_nil)))) (blkOk_by (N := ["paper", "node"]) (sc := defScope s_names_in) (by decide +kernel)) (by decide) (fun _ _ _ _ _ => dg_name (i := 1) sc_names_in.nd) (fun _ _ _ _ _ => dt_cmp (op_eqD hr.units) p_eq (de_ix ix_seq p_ix (de_var 1) (de_int)) (de_str) (nomark _)) (fun _ _ _ _ _ => de_ix ix_seq p_ix (de_var 1) (de_int)) T.b_sorted v_sorted))
def B_binit : Es (L59 K C1 C2) :=
  sSeq (sSet 2 (eDct0))
  (sSeq (sFor (iL (eVar 1)) (uTup 3 (usCons (uName 3) (usCons (uName 4) (usCons (uName 5) (usNil)))))
    (sIf (tst (eOp gGt (eVar 5) (thaw (eDGet (eVar 2) (eVar 3) (eVar 4)))))
    (sDPutN 2 3 4 5)
    (sNil)))
  (sSeq (sBnd 2)
  (sKept 2 3 4 [3, 4])))
def F_binit : Fn (L59 K C1 C2) := fnD 2 6 B_binit
theorem ok_binit (T : Txt K mg C1 C2) : OkMk (L59 K C1 C2) P w K mg base 1 "StrikeBook" C2 ["self", "strikes"] F_binit := ok_defK T.k_binit sc_binit fun f cdv A outer s H E hr =>
    dss_cons (ds_set 2 sc_binit.nd (de_dct0))
    (dss_cons (ds_for PassesOwn.never rfl (di_list (de_var 1)) (dg_tup rfl (dgs_cons (dg_name (i := 3) sc_binit.nd) (dgs_cons (dg_name (i := 4) sc_binit.nd) (dgs_cons (dg_name (i := 5) sc_binit.nd) (dgs_nil)))))
      (dss_one (ds_if (dt_cmp op_gt p_gt (de_var 5) (DE.thaw (de_dget hr (de_var 2) (de_var 3) (de_var 4))) (nomark _))
      (dss_one (ds_dputN hr 2 3 4 5))
      (dss_nil))))
    (dss_cons (ds_bnd T.c59 2)
    (dss_one (ds_kept (own := [("house", 3), ("owner", 4)]) T.c59 2 3 4 hr rfl sc_binit.nd (blkOk_by (N := ["self", "strikes", "bounds", "house", "owner", "bound"]) (sc := defScope s_binit) (by decide +kernel)) T.b_sorted v_sorted T.b_tuple v_tuple (hg := fun _ _ _ _ _ => pg_tup rfl (pgs_cons (pg_name (i := 3) sc_binit.nd rfl (by first | exact .inl rfl | exact .inr rfl)) (pgs_cons (pg_name (i := 4) sc_binit.nd rfl (by first | exact .inl rfl | exact .inr rfl)) pgs_nil))) (he := fun _ _ _ _ _ => pe_tup (pa_cons (pv 3) (pa_cons (pv 4) (pa_cons (pe_dget (hu1 hr) (pv 2) (pe_tup (pa_cons (pv 3) (pa_cons (pv 4) pa_nil))) (fun _ _ => rfl)) pa_nil))))))))
def B_contains : Es (L59 K C1 C2) :=
  sSeq (sAsg (eVar 1) (uTup 3 (usCons (uName 2) (usCons (uName 3) (usCons (uName 4) (usNil))))))
  (sRet (ofT (tstAnd (tst (eOp gNe (eVar 4) (eC (.str "")))) (tst (eOp gLt (eVar 3) (eBGet (eVar 0) (eVar 2) (eVar 4)))))))
def F_contains : Fn (L59 K C1 C2) := fnD 2 5 B_contains
theorem ok_contains (T : Txt K mg C1 C2) : OkM (L59 K C1 C2) P w K mg base 1 C2 "__contains__" ["self", "name"] F_contains := ok_defM T.m_contains sc_contains fun f cdv A outer s H E hr =>
    dss_cons (ds_asg (de_var 1) (dg_tup rfl (dgs_cons (dg_name (i := 2) sc_contains.nd) (dgs_cons (dg_name (i := 3) sc_contains.nd) (dgs_cons (dg_name (i := 4) sc_contains.nd) (dgs_nil))))))
    (dss_one (ds_ret (de_and (de_cmp (op_neD hr.units) p_ne (de_var 4) (de_str) (nomark _)) (de_one (de_cmp op_lt p_lt (de_var 3) (de_bget T.c59 hr (de_var 0) (de_var 2) (de_var 4)) (nomark _))))))
def B_struck : Es (L59 K C1 C2) :=
  sRet (eSortSC [2] (iL (eVar 1)) (uName 2) (tst (eInC isB F_contains (eVar 2) (eVar 0))) (eVar 2))
def F_struck : Fn (L59 K C1 C2) := fnD 2 3 B_struck
theorem ok_struck (T : Txt K mg C1 C2) : OkM (L59 K C1 C2) P w K mg base 2 C2 "struck" ["self", "names"] F_struck := ok_defM T.m_struck sc_struck fun f cdv A outer s H E hr =>
    dss_one (ds_ret (de_sortSC (own := [("name", 2)]) hr rfl sc_struck.nd (di_list (de_var 1)) (blkOk_by (N := ["self", "names", "name"]) (sc := defScope s_struck) (by decide +kernel)) (by decide) (fun _ _ _ _ _ => dg_name (i := 2) sc_struck.nd) (fun _ _ _ _ _ => dt_inC (ok_contains T) (hr.mono (by omega)) (insB (m := "__contains__") (by decide) (by decide)) (de_var 2) (de_var 0)) (fun _ _ _ _ _ => de_var 2) T.b_sorted v_sorted))
def B_without (g : Fn (L)) : Es (L) :=
  sSeq (sIf (tst (eOp gEq (eOp gIx (eVar 0) (eC (.int 0))) (eC (.str "is"))))
    (sRet (eVar 0))
    (sNil))
  (sSeq (sSet 2 (eCall (g) (aCons (eOp gIx (eVar 0) (eC (.int 3))) (aCons (eVar 1) (aNil)))))
  (sSeq (sIf (tst (eOp gInX (eOp gIx (eVar 0) (eC (.int 1))) (eVar 1)))
    (sRet (eVar 2))
    (sNil))
  (sRet (eCall (F_ask) (aCons (eOp gIx (eVar 0) (eC (.int 1))) (aCons (eCall (g) (aCons (eOp gIx (eVar 0) (eC (.int 2))) (aCons (eVar 1) (aNil)))) (aCons (eVar 2) (aNil))))))))
def F_without : Nat → Fn (L)
  | 0 => fun _ => none
  | n + 1 => fnD 2 3 (B_without (F_without n))
theorem ok_without (T : Txt K mg C1 C2) : ∀ n, OkD (L) P w K mg base (2 + n) "without" ["paper", "choice"] (F_without n)
  | 0 => ok_noneD T.d_without
  | n + 1 => ok_defD (k := 2 + n) T.d_without sc_without fun f cdv A outer s H E hr =>
    dss_cons (ds_if (dt_cmp (op_eqD hr.units) p_eq (de_ix ix_seq p_ix (de_var 0) (de_int)) (de_str) (nomark _))
      (dss_one (ds_ret (de_var 0)))
      (dss_nil))
    (dss_cons (ds_set 2 sc_without.nd (de_callD (ok_without T n) (hr.mono (by omega)) (da_cons (de_ix ix_seq p_ix (de_var 0) (de_int)) (da_cons (de_var 1) (da_nil)))))
    (dss_cons (ds_if (dt_cmp (op_inX (hu65 hr)) p_inX (de_ix ix_seq p_ix (de_var 0) (de_int)) (de_var 1) (by rfl))
      (dss_one (ds_ret (de_var 2)))
      (dss_nil))
    (dss_one (ds_ret (de_callD (ok_ask T) (hr.mono (by omega)) (da_cons (de_ix ix_seq p_ix (de_var 0) (de_int)) (da_cons (de_callD (ok_without T n) (hr.mono (by omega)) (da_cons (de_ix ix_seq p_ix (de_var 0) (de_int)) (da_cons (de_var 1) (da_nil)))) (da_cons (de_var 2) (da_nil)))))))))
def B_two_readings : Es (L59 K C1 C2) :=
  sRet (eTup (aCons (eCall (F_read) (aCons (eVar 0) (aCons (eTup (aNil)) (aNil)))) (aCons (eCall (F_read) (aCons (eVar 0) (aCons (eMt isB F_struck (eVar 1) (aCons (eCall (F_names_in) (aCons (eVar 0) (aNil))) (aNil))) (aNil)))) (aNil))))
def F_two_readings : Fn (L59 K C1 C2) := fnD 2 2 B_two_readings
theorem ok_two_readings (T : Txt K mg C1 C2) : OkD (L59 K C1 C2) P w K mg base 3 "two_readings" ["paper", "book"] F_two_readings := ok_defD T.d_two_readings sc_two_readings fun f cdv A outer s H E hr =>
    dss_one (ds_ret (de_tup (da_cons (de_callD (ok_read T) (hr.mono (by omega)) (da_cons (de_var 0) (da_cons (de_tup (da_nil)) (da_nil)))) (da_cons (de_callD (ok_read T) (hr.mono (by omega)) (da_cons (de_var 0) (da_cons (de_mt (ok_struck T) T.c59.c2 (hr.mono (by omega)) (insB (m := "struck") (by decide) (by decide)) (de_var 1) (da_cons (de_callD (ok_names_in T) (hr.mono (by omega)) (da_cons (de_var 0) (da_nil))) (da_nil))) (da_nil)))) (da_nil)))))
def B_freed : Es (L59 K C1 C2) :=
  sRet (eCall (F_without 13) (aCons (eVar 0) (aCons (eMt isB F_struck (eVar 1) (aCons (eCall (F_names_in) (aCons (eVar 0) (aNil))) (aNil))) (aNil))))
def F_freed : Fn (L59 K C1 C2) := fnD 2 2 B_freed
theorem ok_freed (T : Txt K mg C1 C2) : OkD (L59 K C1 C2) P w K mg base 16 "freed" ["paper", "book"] F_freed := ok_defD T.d_freed sc_freed fun f cdv A outer s H E hr =>
    dss_one (ds_ret (de_callD (ok_without T 13) (hr.mono (by omega)) (da_cons (de_var 0) (da_cons (de_mt (ok_struck T) T.c59.c2 (hr.mono (by omega)) (insB (m := "struck") (by decide) (by decide)) (de_var 1) (da_cons (de_callD (ok_names_in T) (hr.mono (by omega)) (da_cons (de_var 0) (da_nil))) (da_nil))) (da_nil)))))
end
end DL
set_option Elab.async false
set_option linter.all false
set_option maxRecDepth 100000
set_option maxHeartbeats 4000000
namespace DL
open PySem PySem.Spec L2 TK
open PyProof.Rows hiding St
variable [CN]
section
variable {L : Lang} {P : Program} {w : World} {K : PySem.W.Frag} {mg : Str → Option Value} {base : Heap} {C1 C2 : Addr}
def B_ninit : Es (L59 K C1 C2) :=
  sPapN
def F_ninit : Fn (L59 K C1 C2) := fnD 1 1 B_ninit
theorem ok_ninit (T : Txt K mg C1 C2) : OkMk (L59 K C1 C2) P w K mg base 1 "Notes" C1 ["self"] F_ninit := ok_defK T.k_ninit sc_ninit fun f cdv A outer s H E hr =>
    dss_one (ds_papN T.c59)
def B_nlen : Es (L59 K C1 C2) :=
  sRet (eCB cLen (aCons (ePap (eVar 0)) (aNil)))
def F_nlen : Fn (L59 K C1 C2) := fnD 1 1 B_nlen
theorem ok_nlen (T : Txt K mg C1 C2) : OkM (L59 K C1 C2) P w K mg base 1 C1 "__len__" ["self"] F_nlen := ok_defM T.m_nlen sc_nlen fun f cdv A outer s H E hr =>
    dss_one (ds_ret (de_cb call_len q_len T.b_len v_len (da_cons (de_pap T.c59 (de_var 0)) (da_nil))))
def B_paper : Es (L59 K C1 C2) :=
  sSeq (sIf (tstNot (tCh gLe gLt (eC (.int 0)) (eVar 1) (eCB cLen (aCons (ePap (eVar 0)) (aNil)))))
    (sNo)
    (sNil))
  (sRet (eOp gIx (ePap (eVar 0)) (eVar 1)))
def F_paper : Fn (L59 K C1 C2) := fnD 2 2 B_paper
theorem ok_paper (T : Txt K mg C1 C2) : OkM (L59 K C1 C2) P w K mg base 1 C1 "paper" ["self", "index"] F_paper := ok_defM T.m_paper sc_paper fun f cdv A outer s H E hr =>
    dss_cons (ds_if (dt_not (dt_chain op_le op_lt p_le p_lt (de_int) (de_var 1) (de_cb call_len q_len T.b_len v_len (da_cons (de_pap T.c59 (de_var 0)) (da_nil)))))
      (dss_one (ds_no))
      (dss_nil))
    (dss_one (ds_ret (de_ix ix_seq p_ix (de_pap T.c59 (de_var 0)) (de_var 1))))
def B_stale : Es (L59 K C1 C2) :=
  sSeq (sSet 2 (eLc [3] (iL (ePap (eVar 0))) (uName 3) cYes (eCall (F_two_readings) (aCons (eVar 3) (aCons (eVar 1) (aNil))))))
  (sRet (eLc [4, 5, 6] (iE (aCons (eVar 2) (aNil))) (uTup 2 (usCons (uName 4) (usCons (uTup 2 (usCons (uName 5) (usCons (uName 6) (usNil)))) (usNil)))) (tst (eOp gNe (eVar 5) (eVar 6))) (eVar 4)))
def F_stale : Fn (L59 K C1 C2) := fnD 2 7 B_stale
theorem ok_stale (T : Txt K mg C1 C2) : OkM (L59 K C1 C2) P w K mg base 4 C1 "stale" ["self", "book"] F_stale := ok_defM T.m_stale sc_stale fun f cdv A outer s H E hr =>
    dss_cons (ds_setLc 2 (own := [("paper", 3)]) rfl sc_stale.nd (di_list (de_pap T.c59 (de_var 0))) (blkOk_by (N := ["self", "book", "readings", "paper", "index", "before", "after"]) (sc := defScope s_stale) (by decide +kernel)) (by decide) (fun _ _ _ _ _ => dg_name (i := 3) sc_stale.nd) (fun _ _ _ _ _ => de_callD (ok_two_readings T) (hr.mono (by omega)) (da_cons (de_var 3) (da_cons (de_var 1) (da_nil)))) (sw_true rfl rfl rfl (by decide +kernel)))
    (dss_one (ds_ret (de_lcIf (own := [("index", 4), ("before", 5), ("after", 6)]) rfl sc_stale.nd (di_enum T.b_enumerate (da_cons (de_var 2) (da_nil))) (blkOk_by (N := ["self", "book", "readings", "paper", "index", "before", "after"]) (sc := defScope s_stale) (by decide +kernel)) (by decide) (fun _ _ _ _ _ => dg_tup rfl (dgs_cons (dg_name (i := 4) sc_stale.nd) (dgs_cons (dg_tup rfl (dgs_cons (dg_name (i := 5) sc_stale.nd) (dgs_cons (dg_name (i := 6) sc_stale.nd) (dgs_nil)))) (dgs_nil)))) (fun _ _ _ _ _ => dt_cmp (op_neD hr.units) p_ne (de_var 5) (de_var 6) (nomark _)) (fun _ _ _ _ _ => de_var 4))))
def B_hanging : Es (L59 K C1 C2) :=
  sSeq (sSet 2 (eLst (aNil)))
  (sSeq (sFor (iE (aCons (ePap (eVar 0)) (aNil))) (uTup 2 (usCons (uName 3) (usCons (uName 4) (usNil))))
    (sIf (tst (eCB cAny (aCons (eLc [5] (iL (eCall (F_names_in) (aCons (eVar 4) (aNil)))) (uName 5) cYes (eInC isB F_contains (eVar 5) (eVar 1))) (aNil))))
    (sApp 2 (eVar 3))
    (sNil)))
  (sRet (eMv 2)))
def F_hanging : Fn (L59 K C1 C2) := fnD 2 6 B_hanging
theorem ok_hanging (T : Txt K mg C1 C2) : OkM (L59 K C1 C2) P w K mg base 3 C1 "hanging" ["self", "book"] F_hanging := ok_defM T.m_hanging sc_hanging fun f cdv A outer s H E hr =>
    dss_cons (ds_set 2 sc_hanging.nd (de_lst (da_nil)))
    (dss_cons (ds_for PassesOwn.never rfl (di_enum T.b_enumerate (da_cons (de_pap T.c59 (de_var 0)) (da_nil))) (dg_tup rfl (dgs_cons (dg_name (i := 3) sc_hanging.nd) (dgs_cons (dg_name (i := 4) sc_hanging.nd) (dgs_nil))))
      (dss_one (ds_if (dt_val (de_cb (cr_any rfl) q_any T.b_any v_any (da_cons (de_lc (own := [("name", 5)]) rfl sc_hanging.nd (di_list (de_callD (ok_names_in T) (hr.mono (by omega)) (da_cons (de_var 4) (da_nil)))) (blkOk_by (N := ["self", "book", "found", "index", "paper", "name"]) (sc := defScope s_hanging) (by decide +kernel)) (by decide) (fun _ _ _ _ _ => dg_name (i := 5) sc_hanging.nd) (fun _ _ _ _ _ => de_inC (ok_contains T) (hr.mono (by omega)) (insB (m := "__contains__") (by decide) (by decide)) (de_var 5) (de_var 1))) (da_nil))))
      (dss_one (ds_app 2 (de_var 3)))
      (dss_nil))))
    (dss_one (ds_ret (de_mv 2))))
def B_note : Es (L59 K C1 C2) :=
  sSeq (sPapA 1)
  (sRet (eOp gSub (thaw (eCB cLen (aCons (ePap (eVar 0)) (aNil)))) (eC (.int 1))))
def F_note : Fn (L59 K C1 C2) := fnD 2 2 B_note
theorem ok_note (T : Txt K mg C1 C2) : OkM (L59 K C1 C2) P w K mg base 1 C1 "note" ["self", "paper"] F_note := ok_defM T.m_note sc_note fun f cdv A outer s H E hr =>
    dss_cons (ds_papA T.c59 1)
    (dss_one (ds_ret (de_op op_sub p_sub (DE.thaw (de_cb call_len q_len T.b_len v_len (da_cons (de_pap T.c59 (de_var 0)) (da_nil)))) (de_int))))
def B_strike : Es (L59 K C1 C2) :=
  sSeq (sSet 2 (thaw (eMt isN F_stale (eVar 0) (aCons (eVar 1) (aNil)))))
  (sSeq (sPapS [3] (uName 3) (eCall (F_freed) (aCons (eVar 3) (aCons (eVar 1) (aNil)))))
  (sRet (eMv 2)))
def F_strike : Fn (L59 K C1 C2) := fnD 2 4 B_strike
theorem ok_strike (T : Txt K mg C1 C2) : OkM (L59 K C1 C2) P w K mg base 17 C1 "strike" ["self", "book"] F_strike := ok_defM T.m_strike sc_strike fun f cdv A outer s H E hr =>
    dss_cons (ds_set 2 sc_strike.nd (DE.thaw (de_mt (ok_stale T) T.c59.c1 (hr.mono (by omega)) (insN (m := "stale") (by decide)) (de_var 0) (da_cons (de_var 1) (da_nil)))))
    (dss_cons (ds_papS (own := [("paper", 3)]) T.c59 rfl sc_strike.nd (blkOk_by (N := ["self", "book", "found", "paper"]) (sc := defScope s_strike) (by decide +kernel)) (by decide) (fun _ _ _ _ _ => dg_name (i := 3) sc_strike.nd) (fun _ _ _ _ _ => de_callD (ok_freed T) (hr.mono (by omega)) (da_cons (de_var 3) (da_cons (de_var 1) (da_nil)))))
    (dss_one (ds_ret (de_mv 2))))
end
end DL
set_option Elab.async false
set_option linter.all false
set_option maxRecDepth 100000
set_option maxHeartbeats 4000000
namespace DL
open PySem PySem.Spec L2 TK
open PyProof.Rows hiding St
variable [CN]
section
variable {L : Lang} {P : Program} {w : World} {K : PySem.W.Frag} {mg : Str → Option Value} {base : Heap} {C1 C2 : Addr}
def B_law_pool : Es (L59 K C1 C2) :=
  sSeq (sSet 1 (eLc [2] (iL (eSlScr (eVar 0) (oNone) (oSome (eC (.int 63))))) (uName 2) cYes (eCB cAbs (aCons (eVar 2) (aNil)))))
  (sRet (eOpL gCat (eLst (aCons (eOp gMod (eCB cSum (aCons (eVar 1) (aNil))) (eC (.int 5039))) (aNil))) (eVar 1)))
def F_law_pool : Fn (L59 K C1 C2) := fnD 1 3 B_law_pool
theorem ok_law_pool (T : Txt K mg C1 C2) : OkD (L59 K C1 C2) P w K mg base 1 "_law_pool" ["script"] F_law_pool := ok_defD T.d_law_pool sc_law_pool fun f cdv A outer s H E hr =>
    dss_cons (ds_setLc 1 (own := [("cell", 2)]) rfl sc_law_pool.nd (di_list (de_slScr (de_var 0) (do_none) (do_some (de_int)))) (blkOk_by (N := ["script", "cells", "cell"]) (sc := defScope s_law_pool) (by decide +kernel)) (by decide) (fun _ _ _ _ _ => dg_name (i := 2) sc_law_pool.nd) (fun _ _ _ _ _ => de_cb call_abs q_abs T.b_abs v_abs (da_cons (de_var 2) (da_nil))) (sw_true rfl rfl rfl (by decide +kernel)))
    (dss_one (ds_ret (de_opL op_cat n_cat (de_lst (da_cons (de_op op_modN p_mod (de_cb (cr_sum rfl) q_sum T.b_sum v_sum (da_cons (de_var 1) (da_nil))) (de_int)) (da_nil))) (de_var 1))))
def B_law_same (g : Fn (L)) : Es (L) :=
  sSeq (sIf (tst (eOp gIsN (eVar 1) (eC .none)))
    (sRet (eOp gIsN (eVar 0) (eC .none)))
    (sNil))
  (sSeq (sIf (tst (eIsi "bool" (eVar 1)))
    (sRet (ofT (tstAnd (tst (eIsi "bool" (eVar 0))) (tst (eOp gEq (eVar 0) (eVar 1))))))
    (sNil))
  (sSeq (sIf (tst (eIsi "int" (eVar 1)))
    (sRet (ofT (tstAnd (tst (eIsi "int" (eVar 0))) (tst (ofT (tstAnd (tst (ofT (tstNot (tst (eIsi "bool" (eVar 0)))))) (tst (eOp gEq (eVar 0) (eVar 1)))))))))
    (sNil))
  (sSeq (sIf (tst (eIsi "str" (eVar 1)))
    (sRet (ofT (tstAnd (tst (eIsi "str" (eVar 0))) (tst (eOp gEq (eVar 0) (eVar 1))))))
    (sNil))
  (sSeq (sIf (tst (eOp gNe (eIsi "list" (eVar 0)) (eIsi "list" (eVar 1))))
    (sRet (eC (.bool false)))
    (sNil))
  (sSeq (sIf (tstOr (tstNot (tst (eIsi2 "list" "tuple" (eVar 0)))) (tst (eOp gNe (eCB cLen (aCons (eVar 0) (aNil))) (eCB cLen (aCons (eVar 1) (aNil))))))
    (sRet (eC (.bool false)))
    (sNil))
  (sSeq (sFor (iR1 (aCons (eCB cLen (aCons (eVar 1) (aNil))) (aNil))) (uName 2)
    (sIf (tstNot (tst (eCall (g) (aCons (eOp gIx (eVar 0) (eVar 2)) (aCons (eOp gIx (eVar 1) (eVar 2)) (aNil))))))
    (sRet (eC (.bool false)))
    (sNil)))
  (sRet (eC (.bool true)))))))))
def F_law_same : Nat → Fn (L)
  | 0 => fun _ => none
  | n + 1 => fnD 2 3 (B_law_same (F_law_same n))
theorem ok_law_same (T : Txt K mg C1 C2) : ∀ n, OkD (L) P w K mg base (2 + n) "_law_same" ["told", "due"] (F_law_same n)
  | 0 => ok_noneD T.d_law_same
  | n + 1 => ok_defD (k := 2 + n) T.d_law_same sc_law_same fun f cdv A outer s H E hr =>
    dss_cons (ds_if (dt_cmp op_isN p_isN (de_var 1) (de_non) (nomark _))
      (dss_one (ds_ret (de_cmp op_isN p_isN (de_var 0) (de_non) (nomark _))))
      (dss_nil))
    (dss_cons (ds_if (dt_val (de_isi (de_var 1) (by decide) T.b_isinstance v_isinstance T.b_bool v_bool))
      (dss_one (ds_ret (de_and (de_isi (de_var 0) (by decide) T.b_isinstance v_isinstance T.b_bool v_bool) (de_one (de_cmp (op_eqD hr.units) p_eq (de_var 0) (de_var 1) (nomark _))))))
      (dss_nil))
    (dss_cons (ds_if (dt_val (de_isi (de_var 1) (by decide) T.b_isinstance v_isinstance T.b_int v_int))
      (dss_one (ds_ret (de_and (de_isi (de_var 0) (by decide) T.b_isinstance v_isinstance T.b_int v_int) (de_and (de_notV (de_isi (de_var 0) (by decide) T.b_isinstance v_isinstance T.b_bool v_bool)) (de_one (de_cmp (op_eqD hr.units) p_eq (de_var 0) (de_var 1) (nomark _)))))))
      (dss_nil))
    (dss_cons (ds_if (dt_val (de_isi (de_var 1) (by decide) T.b_isinstance v_isinstance T.b_str v_str))
      (dss_one (ds_ret (de_and (de_isi (de_var 0) (by decide) T.b_isinstance v_isinstance T.b_str v_str) (de_one (de_cmp (op_eqD hr.units) p_eq (de_var 0) (de_var 1) (nomark _))))))
      (dss_nil))
    (dss_cons (ds_if (dt_cmp (op_neD hr.units) p_ne (de_isi (de_var 0) (by decide) T.b_isinstance v_isinstance T.b_list v_list) (de_isi (de_var 1) (by decide) T.b_isinstance v_isinstance T.b_list v_list) (nomark _))
      (dss_one (ds_ret (de_bl)))
      (dss_nil))
    (dss_cons (ds_if (DW.dt (dw_or (dt_not (dt_val (de_isi2 (de_var 0) (by decide) (by decide) T.b_isinstance v_isinstance T.b_list v_list T.b_tuple v_tuple))) (dw_or1 (dt_cmp (op_neD hr.units) p_ne (de_cb call_len q_len T.b_len v_len (da_cons (de_var 0) (da_nil))) (de_cb call_len q_len T.b_len v_len (da_cons (de_var 1) (da_nil))) (nomark _)))))
      (dss_one (ds_ret (de_bl)))
      (dss_nil))
    (dss_cons (ds_for PassesOwn.never rfl (di_range1 T.b_range (da_cons (de_cb call_len q_len T.b_len v_len (da_cons (de_var 1) (da_nil))) (da_nil))) (dg_name (i := 2) sc_law_same.nd)
      (dss_one (ds_if (dt_not (dt_val (de_callD (ok_law_same T n) (hr.mono (by omega)) (da_cons (de_ix ix_seq p_ix (de_var 0) (de_var 2)) (da_cons (de_ix ix_seq p_ix (de_var 1) (de_var 2)) (da_nil))))))
      (dss_one (ds_ret (de_bl)))
      (dss_nil))))
    (dss_one (ds_ret (de_bl)))))))))
def B_law_inside (g : Fn (L)) : Es (L) :=
  sSeq (sIf (tst (eOp gEq (eOp gIx (eVar 0) (eC (.int 0))) (eC (.str "is"))))
    (sRet (eLst (aNil)))
    (sNil))
  (sRet (eSortSet (eOpL gCat (eOpL gCat (eLst (aCons (eOp gIx (eVar 0) (eC (.int 1))) (aNil))) (eCall (g) (aCons (eOp gIx (eVar 0) (eC (.int 2))) (aNil)))) (eCall (g) (aCons (eOp gIx (eVar 0) (eC (.int 3))) (aNil))))))
def F_law_inside : Nat → Fn (L)
  | 0 => fun _ => none
  | n + 1 => fnD 1 1 (B_law_inside (F_law_inside n))
theorem ok_law_inside (T : Txt K mg C1 C2) : ∀ n, OkD (L) P w K mg base (2 + n) "_law_inside" ["paper"] (F_law_inside n)
  | 0 => ok_noneD T.d_law_inside
  | n + 1 => ok_defD (k := 2 + n) T.d_law_inside sc_law_inside fun f cdv A outer s H E hr =>
    dss_cons (ds_if (dt_cmp (op_eqD hr.units) p_eq (de_ix ix_seq p_ix (de_var 0) (de_int)) (de_str) (nomark _))
      (dss_one (ds_ret (de_lst (da_nil))))
      (dss_nil))
    (dss_one (ds_ret (de_sortSet hr rfl (de_opL op_cat n_cat (de_opL op_cat n_cat (de_lst (da_cons (de_ix ix_seq p_ix (de_var 0) (de_int)) (da_nil))) (de_callD (ok_law_inside T n) (hr.mono (by omega)) (da_cons (de_ix ix_seq p_ix (de_var 0) (de_int)) (da_nil)))) (de_callD (ok_law_inside T n) (hr.mono (by omega)) (da_cons (de_ix ix_seq p_ix (de_var 0) (de_int)) (da_nil)))) T.b_sorted T.b_set v_sorted v_set)))
def B_law_fold (g : Fn (L)) : Es (L) :=
  sSeq (sIf (tst (eOp gEq (eVar 0) (eLst (aNil))))
    (sRet (eTup (aCons (eC (.str "is")) (aCons (eOp gIx (eVar 1) (eC (.int 0))) (aNil)))))
    (sNil))
  (sSeq (sSet 2 (eOp gFdiv (eCB cLen (aCons (eVar 1) (aNil))) (eC (.int 2))))
  (sSeq (sSet 3 (eCall (g) (aCons (eSl (eVar 0) (oNone) (oSome (eNeg (eC (.int 1))))) (aCons (eSl (eVar 1) (oNone) (oSome (eVar 2))) (aNil)))))
  (sSeq (sSet 4 (eCall (g) (aCons (eSl (eVar 0) (oNone) (oSome (eNeg (eC (.int 1))))) (aCons (eSl (eVar 1) (oSome (eVar 2)) (oNone)) (aNil)))))
  (sRet (eIf (tst (eOp gEq (eVar 3) (eVar 4))) (eVar 3) (eTup (aCons (eC (.str "if")) (aCons (eOp gIx (eVar 0) (eNeg (eC (.int 1)))) (aCons (eVar 3) (aCons (eVar 4) (aNil)))))))))))
def F_law_fold : Nat → Fn (L)
  | 0 => fun _ => none
  | n + 1 => fnD 2 5 (B_law_fold (F_law_fold n))
theorem ok_law_fold (T : Txt K mg C1 C2) : ∀ n, OkD (L) P w K mg base (2 + n) "_law_fold" ["names", "row"] (F_law_fold n)
  | 0 => ok_noneD T.d_law_fold
  | n + 1 => ok_defD (k := 2 + n) T.d_law_fold sc_law_fold fun f cdv A outer s H E hr =>
    dss_cons (ds_if (dt_cmp (op_eqD hr.units) p_eq (de_var 0) (de_lst (da_nil)) (nomark _))
      (dss_one (ds_ret (de_tup (da_cons (de_str) (da_cons (de_ix ix_seq p_ix (de_var 1) (de_int)) (da_nil))))))
      (dss_nil))
    (dss_cons (ds_set 2 sc_law_fold.nd (de_op op_fdivN p_fdiv (de_cb call_len q_len T.b_len v_len (da_cons (de_var 1) (da_nil))) (de_int)))
    (dss_cons (ds_set 3 sc_law_fold.nd (de_callD (ok_law_fold T n) (hr.mono (by omega)) (da_cons (de_sl (de_var 0) (do_none) (do_some (de_neg (de_int)))) (da_cons (de_sl (de_var 1) (do_none) (do_some (de_var 2))) (da_nil)))))
    (dss_cons (ds_set 4 sc_law_fold.nd (de_callD (ok_law_fold T n) (hr.mono (by omega)) (da_cons (de_sl (de_var 0) (do_none) (do_some (de_neg (de_int)))) (da_cons (de_sl (de_var 1) (do_some (de_var 2)) (do_none)) (da_nil)))))
    (dss_one (ds_ret (de_if (dt_cmp (op_eqD hr.units) p_eq (de_var 3) (de_var 4) (nomark _)) (de_var 3) (de_tup (da_cons (de_str) (da_cons (de_ix ix_seq p_ix (de_var 0) (de_neg (de_int))) (da_cons (de_var 3) (da_cons (de_var 4) (da_nil))))))))))))
def B_law_paper : Es (L) :=
  sSeq (sSet 2 (eOp gAdd (eC (.int 1)) (eCallB 0 (F_law_draw) (aCons (eC (.int 31)) (aNil)))))
  (sSeq (sSet 3 (eSl (eLc [6] (iR1 (aCons (eCB cLen (aCons (eVar 1) (aNil))) (aNil))) (uName 6) (tst (eOp gEq (eOp gAnd (eOp gShr (eVar 2) (eVar 6)) (eC (.int 1))) (eC (.int 1)))) (eOp gIx (eVar 1) (eVar 6))) (oNone) (oSome (eC (.int 3)))))
  (sSeq (sSet 4 (eLst (aCons (eC .none) (aCons (eC (.int 1)) (aCons (eC (.int 0)) (aCons (eOp gSub (eC (.int 0)) (eC (.int 2))) (aCons (eC (.int 1)) (aCons (eOp gPow (eC (.int 10)) (eC (.int 9))) (aCons (eC (.int 0)) (aNil))))))))))
  (sSeq (sSet 5 (eLc [7] (iL (eCall (F_law_choices) (aCons (eVar 3) (aNil)))) (uName 7) cYes (eOp gIx (eVar 4) (eCallB 0 (F_law_draw) (aCons (eC (.int 7)) (aNil))))))
  (sRet (eCall (F_law_fold 13) (aCons (eVar 3) (aCons (eVar 5) (aNil))))))))
def F_law_paper : Fn (L) := fnD 2 8 B_law_paper
theorem ok_law_paper (T : Txt K mg C1 C2) : OkD (L) P w K mg base 16 "_law_paper" ["pool", "names"] F_law_paper := ok_defD T.d_law_paper sc_law_paper fun f cdv A outer s H E hr =>
    dss_cons (ds_set 2 sc_law_paper.nd (de_op op_add p_add (de_int) (de_callBD 0 (ok_law_draw T) (hr.mono (by omega)) (da_cons (de_int) (da_nil)))))
    (dss_cons (ds_set 3 sc_law_paper.nd (de_sl (de_lcIf (own := [("k", 6)]) rfl sc_law_paper.nd (di_range1 T.b_range (da_cons (de_cb call_len q_len T.b_len v_len (da_cons (de_var 1) (da_nil))) (da_nil))) (blkOk_by (N := ["pool", "names", "mask", "some", "menu", "row", "k", "out"]) (sc := defScope s_law_paper) (by decide +kernel)) (by decide) (fun _ _ _ _ _ => dg_name (i := 6) sc_law_paper.nd) (fun _ _ _ _ _ => dt_cmp (op_eqD hr.units) p_eq (de_op op_and p_and (de_op op_shr p_shr (de_var 2) (de_var 6)) (de_int)) (de_int) (nomark _)) (fun _ _ _ _ _ => de_ix ix_seq p_ix (de_var 1) (de_var 6))) (do_none) (do_some (de_int))))
    (dss_cons (ds_set 4 sc_law_paper.nd (de_lst (da_cons (de_non) (da_cons (de_int) (da_cons (de_int) (da_cons (de_op op_sub p_sub (de_int) (de_int)) (da_cons (de_int) (da_cons (de_op op_pow p_pow (de_int) (de_int)) (da_cons (de_int) (da_nil))))))))))
    (dss_cons (ds_setLc 5 (own := [("out", 7)]) rfl sc_law_paper.nd (di_list (de_callD (ok_law_choices T) (hr.mono (by omega)) (da_cons (de_var 3) (da_nil)))) (blkOk_by (N := ["pool", "names", "mask", "some", "menu", "row", "k", "out"]) (sc := defScope s_law_paper) (by decide +kernel)) (by decide) (fun _ _ _ _ _ => dg_name (i := 7) sc_law_paper.nd) (fun _ _ _ _ _ => de_ix ix_seq p_ix (de_var 4) (de_callBD 0 (ok_law_draw T) (hr.mono (by omega)) (da_cons (de_int) (da_nil)))) (sw_true rfl rfl rfl (by decide +kernel)))
    (dss_one (ds_ret (de_callD (ok_law_fold T 13) (hr.mono (by omega)) (da_cons (de_var 3) (da_cons (de_var 5) (da_nil)))))))))
def B_law_strikes : Es (L) :=
  sSeq (sSet 2 (eLst (aNil)))
  (sSeq (sFor (iR1 (aCons (eCallB 0 (F_law_draw) (aCons (eC (.int 4)) (aNil))) (aNil))) (uName 3)
    (sSeq (sSet 4 (eCallB 0 (F_law_pick) (aCons (eVar 1) (aNil))))
  (sSeq (sSet 5 (eOp gIx (eLst (aCons (eOp gAdd (eOp gIx (eVar 4) (eC (.int 1))) (eC (.int 1))) (aCons (eOp gIx (eVar 4) (eC (.int 1))) (aCons (eC (.int 100)) (aCons (eC (.int 60)) (aCons (eC (.int 0)) (aCons (eOp gAdd (eOp gIx (eVar 4) (eC (.int 1))) (eC (.int 1))) (aNil)))))))) (eCallB 0 (F_law_draw) (aCons (eC (.int 6)) (aNil)))))
  (sSeq (sSet 6 (eIf (tst (eOp gEq (eOp gIx (eVar 4) (eC (.int 2))) (eC (.str "")))) (eC (.str "bob")) (eOp gIx (eVar 4) (eC (.int 2)))))
  (sApp 2 (eTup (aCons (eOp gIx (eVar 4) (eC (.int 0))) (aCons (eVar 6) (aCons (eIf (tst (eOp gLe (eVar 5) (eC (.int 60)))) (eVar 5) (eC (.int 100))) (aNil))))))))))
  (sRet (eMv 2)))
def F_law_strikes : Fn (L) := fnD 2 7 B_law_strikes
theorem ok_law_strikes (T : Txt K mg C1 C2) : OkD (L) P w K mg base 3 "_law_strikes" ["pool", "names"] F_law_strikes := ok_defD T.d_law_strikes sc_law_strikes fun f cdv A outer s H E hr =>
    dss_cons (ds_set 2 sc_law_strikes.nd (de_lst (da_nil)))
    (dss_cons (ds_for PassesOwn.never rfl (di_range1 T.b_range (da_cons (de_callBD 0 (ok_law_draw T) (hr.mono (by omega)) (da_cons (de_int) (da_nil))) (da_nil))) (dg_name (i := 3) sc_law_strikes.nd)
      (dss_cons (ds_set 4 sc_law_strikes.nd (de_callBD 0 (ok_law_pick T) (hr.mono (by omega)) (da_cons (de_var 1) (da_nil))))
    (dss_cons (ds_set 5 sc_law_strikes.nd (de_ix ix_seq p_ix (de_lst (da_cons (de_op op_add p_add (de_ix ix_seq p_ix (de_var 4) (de_int)) (de_int)) (da_cons (de_ix ix_seq p_ix (de_var 4) (de_int)) (da_cons (de_int) (da_cons (de_int) (da_cons (de_int) (da_cons (de_op op_add p_add (de_ix ix_seq p_ix (de_var 4) (de_int)) (de_int)) (da_nil)))))))) (de_callBD 0 (ok_law_draw T) (hr.mono (by omega)) (da_cons (de_int) (da_nil)))))
    (dss_cons (ds_set 6 sc_law_strikes.nd (de_if (dt_cmp (op_eqD hr.units) p_eq (de_ix ix_seq p_ix (de_var 4) (de_int)) (de_str) (nomark _)) (de_str) (de_ix ix_seq p_ix (de_var 4) (de_int))))
    (dss_one (ds_app 2 (de_tup (da_cons (de_ix ix_seq p_ix (de_var 4) (de_int)) (da_cons (de_var 6) (da_cons (de_if (dt_cmp op_le p_le (de_var 5) (de_int) (nomark _)) (de_var 5) (de_int)) (da_nil)))))))))))
    (dss_one (ds_ret (de_mv 2))))
def B_law_gone : Es (L) :=
  sRet (eLc [2] (iL (eCall (F_law_inside 13) (aCons (eVar 0) (aNil)))) (uName 2) (tst (eCall (F_law_hit) (aCons (eVar 1) (aCons (eVar 2) (aNil))))) (eVar 2))
def F_law_gone : Fn (L) := fnD 2 3 B_law_gone
theorem ok_law_gone (T : Txt K mg C1 C2) : OkD (L) P w K mg base 16 "_law_gone" ["paper", "bars"] F_law_gone := ok_defD T.d_law_gone sc_law_gone fun f cdv A outer s H E hr =>
    dss_one (ds_ret (de_lcIf (own := [("name", 2)]) rfl sc_law_gone.nd (di_list (de_callD (ok_law_inside T 13) (hr.mono (by omega)) (da_cons (de_var 0) (da_nil)))) (blkOk_by (N := ["paper", "bars", "name"]) (sc := defScope s_law_gone) (by decide +kernel)) (by decide) (fun _ _ _ _ _ => dg_name (i := 2) sc_law_gone.nd) (fun _ _ _ _ _ => dt_val (de_callD (ok_law_hit T) (hr.mono (by omega)) (da_cons (de_var 1) (da_cons (de_var 2) (da_nil))))) (fun _ _ _ _ _ => de_var 2)))
def B_law_stale : Es (L) :=
  sSeq (sSet 2 (eLst (aNil)))
  (sSeq (sFor (iR1 (aCons (eCB cLen (aCons (eVar 0) (aNil))) (aNil))) (uName 3)
    (sSeq (sSet 4 (eCall (F_law_gone) (aCons (eOp gIx (eVar 0) (eVar 3)) (aCons (eVar 1) (aNil)))))
  (sIf (tst (eOp gNe (eCall (F_law_read) (aCons (eOp gIx (eVar 0) (eVar 3)) (aCons (eVar 4) (aNil)))) (eCall (F_law_read) (aCons (eOp gIx (eVar 0) (eVar 3)) (aCons (eLst (aNil)) (aNil))))))
    (sApp 2 (eVar 3))
    (sNil))))
  (sRet (eMv 2)))
def F_law_stale : Fn (L) := fnD 2 5 B_law_stale
theorem ok_law_stale (T : Txt K mg C1 C2) : OkD (L) P w K mg base 17 "_law_stale" ["kept", "bars"] F_law_stale := ok_defD T.d_law_stale sc_law_stale fun f cdv A outer s H E hr =>
    dss_cons (ds_set 2 sc_law_stale.nd (de_lst (da_nil)))
    (dss_cons (ds_for PassesOwn.never rfl (di_range1 T.b_range (da_cons (de_cb call_len q_len T.b_len v_len (da_cons (de_var 0) (da_nil))) (da_nil))) (dg_name (i := 3) sc_law_stale.nd)
      (dss_cons (ds_set 4 sc_law_stale.nd (de_callD (ok_law_gone T) (hr.mono (by omega)) (da_cons (de_ix ix_seq p_ix (de_var 0) (de_var 3)) (da_cons (de_var 1) (da_nil)))))
    (dss_one (ds_if (dt_cmp (op_neD hr.units) p_ne (de_callD (ok_law_read T) (hr.mono (by omega)) (da_cons (de_ix ix_seq p_ix (de_var 0) (de_var 3)) (da_cons (de_var 4) (da_nil)))) (de_callD (ok_law_read T) (hr.mono (by omega)) (da_cons (de_ix ix_seq p_ix (de_var 0) (de_var 3)) (da_cons (de_lst (da_nil)) (da_nil)))) (nomark _))
      (dss_one (ds_app 2 (de_var 3)))
      (dss_nil)))))
    (dss_one (ds_ret (de_mv 2))))
def B_law_hanging : Es (L) :=
  sRet (eLc [2] (iR1 (aCons (eCB cLen (aCons (eVar 0) (aNil))) (aNil))) (uName 2) (tst (eOp gNe (eCall (F_law_gone) (aCons (eOp gIx (eVar 0) (eVar 2)) (aCons (eVar 1) (aNil)))) (eLst (aNil)))) (eVar 2))
def F_law_hanging : Fn (L) := fnD 2 3 B_law_hanging
theorem ok_law_hanging (T : Txt K mg C1 C2) : OkD (L) P w K mg base 17 "_law_hanging" ["kept", "bars"] F_law_hanging := ok_defD T.d_law_hanging sc_law_hanging fun f cdv A outer s H E hr =>
    dss_one (ds_ret (de_lcIf (own := [("k", 2)]) rfl sc_law_hanging.nd (di_range1 T.b_range (da_cons (de_cb call_len q_len T.b_len v_len (da_cons (de_var 0) (da_nil))) (da_nil))) (blkOk_by (N := ["kept", "bars", "k"]) (sc := defScope s_law_hanging) (by decide +kernel)) (by decide) (fun _ _ _ _ _ => dg_name (i := 2) sc_law_hanging.nd) (fun _ _ _ _ _ => dt_cmp (op_neD hr.units) p_ne (de_callD (ok_law_gone T) (hr.mono (by omega)) (da_cons (de_ix ix_seq p_ix (de_var 0) (de_var 2)) (da_cons (de_var 1) (da_nil)))) (de_lst (da_nil)) (nomark _)) (fun _ _ _ _ _ => de_var 2)))
def B_law_freed : Es (L) :=
  sSeq (sSet 2 (eCall (F_law_gone) (aCons (eVar 0) (aCons (eVar 1) (aNil)))))
  (sSeq (sSet 3 (eLc [5] (iL (eCall (F_law_inside 13) (aCons (eVar 0) (aNil)))) (uName 5) (tst (eOp gNotInX (eVar 5) (eVar 2))) (eVar 5)))
  (sSeq (sSet 4 (eLc [6] (iL (eCall (F_law_choices) (aCons (eVar 3) (aNil)))) (uName 6) cYes (eCall (F_law_read) (aCons (eVar 0) (aCons (eOpL gCat (eVar 2) (eVar 6)) (aNil))))))
  (sRet (eCall (F_law_fold 13) (aCons (eVar 3) (aCons (eVar 4) (aNil)))))))
def F_law_freed : Fn (L) := fnD 2 7 B_law_freed
theorem ok_law_freed (T : Txt K mg C1 C2) : OkD (L) P w K mg base 17 "_law_freed" ["paper", "bars"] F_law_freed := ok_defD T.d_law_freed sc_law_freed fun f cdv A outer s H E hr =>
    dss_cons (ds_set 2 sc_law_freed.nd (de_callD (ok_law_gone T) (hr.mono (by omega)) (da_cons (de_var 0) (da_cons (de_var 1) (da_nil)))))
    (dss_cons (ds_setLcIf 3 (own := [("name", 5)]) rfl sc_law_freed.nd (di_list (de_callD (ok_law_inside T 13) (hr.mono (by omega)) (da_cons (de_var 0) (da_nil)))) (blkOk_by (N := ["paper", "bars", "gone", "left", "row", "name", "out"]) (sc := defScope s_law_freed) (by decide +kernel)) (by decide) (fun _ _ _ _ _ => dg_name (i := 5) sc_law_freed.nd) (fun _ _ _ _ _ => dt_cmp (op_notInX (hu65 hr)) p_notInX (de_var 5) (de_var 2) (by rfl)) (fun _ _ _ _ _ => de_var 5) (sw_true rfl rfl rfl (by decide +kernel)))
    (dss_cons (ds_setLc 4 (own := [("out", 6)]) rfl sc_law_freed.nd (di_list (de_callD (ok_law_choices T) (hr.mono (by omega)) (da_cons (de_var 3) (da_nil)))) (blkOk_by (N := ["paper", "bars", "gone", "left", "row", "name", "out"]) (sc := defScope s_law_freed) (by decide +kernel)) (by decide) (fun _ _ _ _ _ => dg_name (i := 6) sc_law_freed.nd) (fun _ _ _ _ _ => de_callD (ok_law_read T) (hr.mono (by omega)) (da_cons (de_var 0) (da_cons (de_opL op_cat n_cat (de_var 2) (de_var 6)) (da_nil)))) (sw_true rfl rfl rfl (by decide +kernel)))
    (dss_one (ds_ret (de_callD (ok_law_fold T 13) (hr.mono (by omega)) (da_cons (de_var 3) (da_cons (de_var 4) (da_nil))))))))
def B_law_book : Es (L59 K C1 C2) :=
  sSeq (sSet 1 (eCBL cListOf (aCons (eVar 0) (aNil))))
  (sSeq (sSet 2 (eThB (eFrz (eMkO (Ow59.raw false) F_binit (aCons (eVar 1) (aNil))))))
  (sSeq (sApp 1 (eTup (aCons (eC (.str "A")) (aCons (eC (.str "bob")) (aCons (eC (.int 100)) (aNil))))))
  (sRet (eVar 2))))
def F_law_book : Fn (L59 K C1 C2) := fnD 1 3 B_law_book
theorem ok_law_book (T : Txt K mg C1 C2) : OkD (L59 K C1 C2) P w K mg base 3 "_law_book" ["bars"] F_law_book := ok_defD T.d_law_book sc_law_book fun f cdv A outer s H E hr =>
    dss_cons (ds_set 1 sc_law_book.nd (de_ctL call_list_of q_listOf T.b_list v_list (da_cons (de_var 0) (da_nil))))
    (dss_cons (ds_set 2 sc_law_book.nd (DE.thB (DE.frz (de_mkO (ok_binit T) (hr.mono (by omega)) (raw59 false) (da_cons (de_var 1) (da_nil))))))
    (dss_cons (ds_app 1 (de_tup (da_cons (de_str) (da_cons (de_str) (da_cons (de_int) (da_nil))))))
    (dss_one (ds_ret (de_var 2)))))
end
end DL
set_option Elab.async false
set_option linter.all false
set_option maxRecDepth 100000
set_option maxHeartbeats 1000000
/-! R0: an error raised by a method, caught: what is needed of the walk. -/
namespace DL
open PySem PySem.Spec L2
open PyProof.Rows hiding St
variable [CN]
/-- raise C(e, ..), C's own __init__ keeping sp, no context -/
theorem pmk_oexN {X : Cx} {x : Str} {e : Expr} {es : List Expr} {ta : TA} {p pos : Pos} {C fI : Addr} {k : Nat} {fd : FuncData} {ps : List Str} {sp : Sp} (T : OexC X.K C) (iC : PySem.W.findIn X.K (.ref C) "__init__" = some (some (.ref fI))) (tI : PySem.W.typeIn X.K (.ref fI) = some (.type "function"))
    (F1 : FnOk X.prog X.w X.K X.mg X.base CX0 k fI fd ps sp) (hr : Room (k + 1) X.A) (hb : Binds X.K fd ps []) (hg : Gl X x) (hm : X.mg x = some (.ref C)) (ha : PA X (e :: es) ta)
    (hdb : (x == ("__debug__" : Str)) = false := by decide) (he : starEach (e :: es) X.env = (false, eval e X.env) :: starEach es X.env := by rfl) (hpl : (backTo pos (starEach es X.env)).any (·.1) = false := by rfl) :
    L2N.PMk X (.Call (.Name x p) (e :: es) [] pos) (tMkO C sp [] ta) := by
  intro pins s σ H Q I h
  obtain ⟨nm, q, N, bs, bm, sn, sub, ab, col, dd, k0, k1, k2, k3, k5, hC, hbm⟩ := T.cls
  refine wpAny_Call_Name_kw (ld_glob I hg hm ?_ hdb)
  refine PySem.W.callWith_K (h₀ := X.base) I.ok.mod.kin T.kC (thn (ha.run pos pins s σ H _ I h) fun us s1 ⟨vs, H1, I1, r1, hz, q1⟩ => ⟨I1.kIn, ?_⟩) he hpl
  show wpAny _ _ (call (.ref C) us) _ _ _
  obtain ⟨hp, g, dr, tk, os⟩ := s1
  have hsz : hp.objs.size ≤ hp.objs.size + 1 := Nat.le_succ _
  have hn : H1 (hp.objs.size + 1) = none := I1.hok.fresh hsz
  have hq := q1 (hp.objs.size + 1) hn
  rw [List.append_nil] at hq
  have kk : ∀ b o, hp.get? b = some o → ((hp.push (PySem.W.kdv_tup us)).push (PySem.HandSPX.excO C hp.objs.size)).get? b = some o := fun b o e => Heap.get?_push_of_some _ (Heap.get?_push_of_some _ e)
  have hget : ((hp.push (PySem.W.kdv_tup us)).push (PySem.HandSPX.excO C hp.objs.size)).get? (hp.objs.size + 1) = some (PySem.HandSPX.excO C hp.objs.size) := by heap_get
  have I2 : Inv X pins σ (upd H1 (hp.objs.size + 1) (exo (hp.objs.size + 1) C none)) ⟨(hp.push (PySem.W.kdv_tup us)).push (PySem.HandSPX.excO C hp.objs.size), g, dr, tk, os⟩ :=
    I1.laid (t' := tk) (a := hp.objs.size + 1) (o := exo (hp.objs.size + 1) C none) (h' := (hp.push (PySem.W.kdv_tup us)).push (PySem.HandSPX.excO C hp.objs.size)) kk hsz (exo_ok hget)
  have r2 : Vals (V.ref (hp.objs.size + 1) :: vs) (Value.ref (hp.objs.size + 1) :: us) := .cons rfl r1
  have hl : (Value.ref (hp.objs.size + 1) :: us ++ []).length = ps.length := by
    have e := r2.length
    rw [F1.len _ _ _ _ hq] at e
    rw [List.append_nil]
    exact e.symm
  have hus : us.length ≤ sizeLine := by
    rw [← Paired.length r1, sizeLine_eq]
    omega
  have b2 := hb _ (Value.ref (hp.objs.size + 1) :: us) I2.kIn hl
  rw [List.append_nil] at b2
  refine wpAny_call (PySem.HandSPX.call_own PySem.F.excBase_ValueError (fun Y => PySem.HandSPX.refsVE_contains Y bm hbm) (I1.kIn _ _ hC) (PySem.W.looks_findIn I1.kIn iC) (fun self => PySem.W.bind_fn I1.kIn self tI) hus
    (codeAny_mono (F1.run _ X.stack _ _ ⟨Value.ref (hp.objs.size + 1) :: us, []⟩ (Value.ref (hp.objs.size + 1) :: us) _ _ _ (hr.make C us []) (I2.env0.make C us []) b2 r2 hq) fun r s' hq' => ?_))
  cases r with
  | error er => exact hq'.elim
  | ok fl =>
    cases fl with
    | ret u =>
      obtain ⟨v, H2, os2, bare2, un2, hok2, rv, ev, d, fs, ea, ed, hd1, q2⟩ := hq'
      subst ev
      obtain ⟨h2, g2, d2, t2, os'⟩ := s'
      obtain ⟨t0, G, J, kG, ge, hoe, na⟩ := mk_end0 (d2 := d2) (t2 := t2) I1 hsz kk un2 hok2 os2 bare2 ea ed hd1
      exact ⟨rv, hp.objs.size + 1, _, _, ⟨G, g2, d2, t2, os'⟩, _, .ref C, some d, rfl, J, kG, ge, hoe, ⟨rfl, rfl, fun vs hv => by cases hv; rfl⟩, rfl, rfl, na, rfl, bare2, raises_own T.exC T.tyC, q2⟩
    | next => exact hq'.elim
    | brk => exact hq'.elim
    | cont => exact hq'.elim
/-- o.m(e, ..), m letting errors out -/
theorem pe_methE {X : Cx} {CX : CXT} {k : Nat} {f C : Addr} {fd : FuncData} {ps : List Str} {sp : Sp} {E : St → XK} {m : Str} {pos apos : Pos} {e o : Expr} {es : List Expr} {ta : TE} {t : TA} {pl : Sem Bool} (he : PE X o ta) (c : Cls X.K C) (hm : Meth X.K C m f) (F : FnOk X.prog X.w X.K X.mg X.base CX k f fd ps sp)
    (hr : Room k X.A) (hb : Binds X.K fd ps []) (hx : ∀ σ, PassesAt CX X σ (E σ)) (ha : PA X (e :: es) t)
    (hst : starEach (e :: es) X.env = (false, eval e X.env) :: starEach es X.env := by rfl) (hpl : (backTo pos (starEach es X.env)).any (·.1) = false := by rfl)
    (ht : eval (.Call (.Attribute o m apos) (e :: es) [] pos) X.env = (do
      let ov ← eval o X.env
      standAt apos.atName
      let (f, first) ← holding [ov] (getMethod ov m pl)
      callWith pos f first (backTo pos (starEach (e :: es) X.env)) (backToKw pos (keywordEach [] X.env))) := by rfl) :
    PE X (.Call (.Attribute o m apos) (e :: es) [] pos) (L2H.tMethH C m sp E ta t) := by
  refine ⟨fun pins s σ H Q I h => ?_⟩
  refine PySem.W.methodCall_KW (pl := pl) (thn (he.run pins s σ H _ I h) fun u s1 ⟨x, H1, I1, rx, a, dx, fs, ex, ea, l, q⟩ => ?_) ht
  subst ex
  obtain rfl : u = Value.ref a := rx
  refine getmeth_ok I1 ea c hm l ?_
  refine PySem.W.callWith_K (first := [.ref a]) (h₀ := X.base) I.ok.mod.kin hm.kp (thn (ha.run pos pins s1 σ H1 _ I1 q) fun us s2 ⟨vs, H2, I2, r, q2⟩ => ⟨I2.kIn, ?_⟩) hst hpl
  exact run_fnS (us := .ref a :: us) (vs := .ref a :: vs) F hr hb (hx σ) I2 (.cons rfl r) q2
/-- isinstance(e, c), e the error that the suite holds, which has fields -/
def rIsEd (K : PySem.W.Frag) (D a dd : Addr) : List V → Hp → VK → Prop := fun xs H Q => ∃ (c : V) (cv : Value) (b : Bool) (fs : List (Str × V)), xs = [.ref a, c] ∧ H dd = some (.xd fs) ∧ (∀ u, RelV c u → u = cv) ∧ PySem.W.kitOne K (.ref D) cv = some b ∧ Q (.bl b) H
theorem call_isEd {X : Cx} {a D dd : Addr} {oe : Obj} {pn : List (Addr × Obj)} (T : ExcC X.K D) (hz : Zc (.ref D) (some dd) oe) (hf : ∃ vs, oe.data = .fields vs) : CallR (X.suite a ((a, oe) :: pn)) (.builtin "isinstance") (rIsEd X.K D a dd) := by
  intro pins s σ H xs us Q I r h
  obtain ⟨c, cv, b, fs, rfl, ed, hcv, e, q⟩ := h
  cases r with
  | cons rx rr =>
    cases rr with
    | cons rt rr =>
      cases rr
      cases rx
      have ec := hcv _ rt
      subst ec
      obtain ⟨hget, _⟩ := I.pin (a, oe) (List.mem_append.mpr (.inl List.mem_cons_self))
      obtain ⟨vs, hv⟩ := hf
      have hcl : (PySem.W.clsIn X.K D).isSome = true := by
        obtain ⟨cd, hc, _⟩ := PySem.W.any_some T.hd
        rw [hc]
        rfl
      obtain ⟨mA, hns, _⟩ := (show ObjOk X.prog X.w H s.heap dd (.xd fs) from I.hok dd _ ed)
      obtain ⟨od, ho, _⟩ := lookIn_ns hns
      have J : PySem.W.InstAt s.heap a oe D (some od) := ⟨hget, hz.1, by unfold PySem.W.notCls; rw [hv], by rw [hz.2]; exact ho⟩
      exact PySem.W.kia_one (PySem.W.kitx_exc hcl T.hg T.hk T.hs T.ha T.hn T.ht T.hm) I.kIn J e (fun z => nomatch z) fun tk => ⟨.bl b, H, I.kept (t' := tk) fun _ _ z => z, rfl, q⟩
theorem hotC_suite {X : Cx} {a : Addr} {oe : Obj} {pn : List (Addr × Obj)} {cls : Value} {d : Option Addr} (hz : L2N.Zn cls d oe) (hf : ∃ vs, oe.data = .fields vs) : L2H.HotC (X.suite a ((a, oe) :: pn)) := by
  obtain ⟨vs, hv⟩ := hf
  exact ⟨(a, oe), ⟨rfl, vs, hv, hz.2.2 vs hv⟩, List.mem_cons_self⟩
end DL
set_option Elab.async false
set_option linter.all false
set_option maxRecDepth 100000
set_option maxHeartbeats 1000000
/-! R1: _law_same of two whole numbers while an error is handled. -/
namespace DL
open PySem PySem.Spec L2 TK
open PyProof.Rows hiding St
variable [CN]
section
variable {P : Program} {w : World} {K : PySem.W.Frag} {mg : Str → Option Value} {base : Heap} {C1 C2 : Addr}
def B_sameI : Es (L59 K C1 C2) :=
  sSeq (sIf (tst (eOp gIsN (eVar 1) (eC .none)))
    (sRet (eOp gIsN (eVar 0) (eC .none)))
    (sNil))
  (sSeq (sIf (tst (eIsi "bool" (eVar 1)))
    (sRet (ofT (tstAnd (tst (eIsi "bool" (eVar 0))) (tst (eOp gEq (eVar 0) (eVar 1))))))
    (sNil))
  (sSeq (sIf (tst (eIsi "int" (eVar 1)))
    (sRet (ofT (tstAnd (tst (eIsi "int" (eVar 0))) (tst (ofT (tstAnd (tst (ofT (tstNot (tst (eIsi "bool" (eVar 0)))))) (tst (eOp gEq (eVar 0) (eVar 1)))))))))
    (sNil)) sNo))
def spEqI : Sp := fun vs H Q _ => ∃ i j : Int, vs = [.int i, .int j] ∧ ∀ H', Same H H' → Q (.bl (i == j)) H'
theorem b_sameI (i j : Int) : B_sameI (K := K) (C1 := C1) (C2 := C2) [.dv (.d (.int i)), .dv (.d (.int j)), .un] = some (.rt (.dv (.d (.bool (i == j)))), [.dv (.d (.int i)), .dv (.d (.int j)), .un]) := by
  rfl
theorem units_H {k : Nat} {A : Around} (r : L2H.RoomH k A) : A.units + 64 < cLine := by have := r.un; omega
theorem ok_sameH (T : Txt K mg C1 C2) : ∃ f fd, L2H.FnH P w K mg base CX0 1 f fd ["told", "due"] spEqI ∧ mg "_law_same" = some (.ref f) ∧ PySem.W.keepIn K (.ref f) = true ∧ Binds K fd ["told", "due"] [] := by
  obtain ⟨f, fd, F, hbn, hm⟩ := T.d_law_same
  refine ⟨f, fd, ?_, hm, F.kp, hbn⟩
  obtain ⟨oc, od, kV, doc, pm, an, cdv, ct, osl, rfl, lk, hcd⟩ := F.ex
  refine L2H.fn_ofH lk hcd sc_law_same (fun vs H Q E h => ?_) fun A outer s H vs Q E p hot hr h => ?_
  · obtain ⟨i, j, rfl, _⟩ := h
    rfl
  · have hu := units_H hr
    have D : DSs (L59 K C1 C2) (L2H.cxH CX0 P w K mg base ["told", "due", "k"] "_law_same" (defScope s_law_same) f cdv A outer s H E p) (defBody s_law_same) B_sameI :=
      dss_cons (ds_if (dt_cmp op_isN p_isN (de_var 1) (de_non) (nomark _))
        (dss_one (ds_ret (de_cmp op_isN p_isN (de_var 0) (de_non) (nomark _))))
        (dss_nil))
      (dss_cons (ds_if (dt_val (de_isi (de_var 1) (by decide) T.b_isinstance v_isinstance T.b_bool v_bool))
        (dss_one (ds_ret (de_and (de_isi (de_var 0) (by decide) T.b_isinstance v_isinstance T.b_bool v_bool) (de_one (de_cmp (op_eqD hu) p_eq (de_var 0) (de_var 1) (nomark _))))))
        (dss_nil))
      (dss_cons (ds_if (dt_val (de_isi (de_var 1) (by decide) T.b_isinstance v_isinstance T.b_int v_int))
        (dss_one (ds_ret (de_and (de_isi (de_var 0) (by decide) T.b_isinstance v_isinstance T.b_int v_int) (de_and (de_notV (de_isi (de_var 0) (by decide) T.b_isinstance v_isinstance T.b_bool v_bool)) (de_one (de_cmp (op_eqD hu) p_eq (de_var 0) (de_var 1) (nomark _)))))))
        (dss_nil)) dss_no))
    obtain ⟨t, pt, sd⟩ := D
    refine ⟨t, pt, ?_⟩
    obtain ⟨i, j, rfl, q⟩ := h
    have R : Rp (L59 K C1 C2) none H (fun _ => False) (fun _ _ => False) (start ["told", "due", "k"] [.int i, .int j]) [.dv (.d (.int i)), .dv (.d (.int j)), .un] := {
      len := rfl
      slot := fun n x e => by
        match n, e with
        | 0, e => cases e; exact ⟨fun _ z => z, .int i, rfl, .int i⟩
        | 1, e => cases e; exact ⟨fun _ z => z, .int j, rfl, .int j⟩
        | 2, e => cases e; exact fun _ z => z
        | n + 3, e => simp at e
      bnd := fun _ _ z => z.elim
      inM := fun _ _ z => z.elim
      dis := fun _ _ _ z => z.elim }
    refine sd none _ H _ _ _ _ _ R (b_sameI i j) _ fun v σ' H' M' ft' s' R' k' => ?_
    have k2 : Dk (hid H' M') v (.bool (i == j)) := k'
    cases k2
    exact q H' fun a o e => hid_same _ _ (s'.ext a o (hid_some.mpr ⟨fun z => z, e⟩))
end
end DL
set_option Elab.async false
set_option linter.all false
set_option maxRecDepth 100000
set_option maxHeartbeats 1000000
/-! R2: Notes.paper, its error let out. -/
namespace DL
open PySem PySem.Spec L2 TK
open PyProof.Rows hiding St
variable [CN]
section
variable {P : Program} {w : World} {K : PySem.W.Frag} {mg : Str → Option Value} {base : Heap} {C1 C2 : Addr}
/-- the promise of paper: CE the class of its error -/
def spPX (C1 CE : Addr) : Sp := fun vs H Q E => ∃ (a dx l : Addr) (xs : List V) (ds : List PD) (i : Int), vs = [.ref a, .int i] ∧ H a = some (.ins C1 dx [("_papers", .ref l)]) ∧ H l = some (.lst xs) ∧ DkAll H xs ds ∧
  (if 0 ≤ i ∧ i < ds.length then ∀ v H', Same H H' → Q v H' else ∀ d H', Same H H' → H' d = some (.xd [("index", .int i)]) → E (.ref CE) (some d) H')
def T_paper : Et (L59 K C1 C2) := tstNot (tCh gLe gLt (eC (.int 0)) (eVar 1) (eCB cLen (aCons (ePap (eVar 0)) (aNil))))
def U_paper : Es (L59 K C1 C2) := sRet (eOp gIx (ePap (eVar 0)) (eVar 1))
def δP (ds : List PD) (i : Int) : List (SV (L59 K C1 C2)) := [.dv (.ob (show (L59 K C1 C2).Ob from Ob59.notes ds)), .dv (.d (.int i))]
theorem t_paper (ds : List PD) (i : Int) : T_paper (K := K) (C1 := C1) (C2 := C2) (δP ds i) = some (!(decide (0 ≤ i) && decide (i < ds.length)), δP ds i) := by
  unfold T_paper tstNot tCh
  by_cases h : (0:Int) ≤ i
  · simp [eC, frz, eVar, δP, gLe, gLt, gI, eCB, aCons, aNil, ePap, cLen, pds, h]
  · simp [eC, frz, eVar, δP, gLe, gLt, gI, eCB, aCons, aNil, ePap, cLen, pds, h]
theorem u_paper (ds : List PD) (i : Int) (h0 : 0 ≤ i) (h1 : i < ds.length) : ∃ r, U_paper (K := K) (C1 := C1) (C2 := C2) (δP ds i) = some (.rt r, δP ds i) := by
  refine ⟨.dv (.d (ds[i.toNat]'(by omega))), ?_⟩
  have e : atI ds i = some (ds[i.toNat]'(by omega)) := by
    unfold atI ixN
    simp [h0, h1]
    try omega
  unfold U_paper sRet eOp
  simp [frz, eVar, δP, ePap, gIx, e]
/-- a test, then a raise, then the rest -/
theorem ifraise {L : Lang} {X : Cx} {W : WX} {c e : Expr} {t : St → Hp → XK → Prop} {rest : List Stmt} {p1 p2 : Pos} {f : Et L} {g : Es L} (hc : X.calm = true) (tk : L2N.Takes X W) (D1 : DT L X c f) (hm : L2N.PMk X e t) (D2 : DSs L X rest g) :
    ∃ tc tu, SndT L f tc ∧ SndS L g tu ∧ PSs X (.If c [.Raise (some e) none p1] [] p2 :: rest) (tSeq (tIfS tc (fun _ σ H => t σ H fun cls d H' => W cls d σ H') tNext) tu) := by
  obtain ⟨tc, p, s⟩ := D1
  obtain ⟨tu, q, r⟩ := D2
  exact ⟨tc, tu, s, r, pss_cons (ps_if p (pss_one (L2N.ps_raise hc tk hm)) pss_nil) q⟩
theorem rpP {H : Hp} {a dx l : Addr} {xs : List V} {ds : List PD} {i : Int} (ha : H a = some (.ins C1 dx [("_papers", .ref l)])) (hl : H l = some (.lst xs)) (hk : DkAll H xs ds) :
    Rp (L59 K C1 C2) none H (fun _ => False) (fun _ _ => False) (start ["self", "index"] [.ref a, .int i]) (δP ds i) := by
  have sm : Same H (hid H fun _ => False) := fun b o e => hid_some.mpr ⟨fun z => z, e⟩
  exact {
    len := rfl
    slot := fun n x e => by
      match n, e with
      | 0, e => cases e; exact ⟨fun _ z => z, .ref a, rfl, a, dx, l, xs, rfl, sm _ _ ha, sm _ _ hl, hk.mono sm⟩
      | 1, e => cases e; exact ⟨fun _ z => z, .int i, rfl, .int i⟩
      | n + 2, e => simp [δP] at e
    bnd := fun _ _ z => z.elim
    inM := fun _ _ z => z.elim
    dis := fun _ _ _ z => z.elim }
theorem ok_paperX (T : Txt K mg C1 C2) : ∃ CE f fd, FnOk P w K mg base (L2N.CX P w) 4 f fd ["self", "index"] (spPX C1 CE) ∧ Meth K C1 "paper" f ∧ Binds K fd ["self", "index"] [] ∧ mg "NoNote" = some (.ref CE) ∧ CN.n CE = 37 ∧ OexC K CE ∧ XfC K CE ∧ PySem.W.findIn K (.ref CE) "index" = some none := by
  obtain ⟨f, fd, F, hbn, hm⟩ := T.m_paper
  obtain ⟨CE, fI, fdI, ps, gm, hc, hu, O, XF, hn, iC, tI, FI, hbI⟩ := (x_NoNote (P := P) (w := w) (base := base) T).ex
  refine ⟨CE, f, fd, ?_, hm, hbn, gm, hc, O, XF, hn "index" (by simp)⟩
  obtain ⟨oc, od, kV, doc, pm, an, cdv, ct, osl, rfl, lk, hcd⟩ := F.ex
  refine fn_of lk hcd sc_paper (fun vs H Q E h => ?_) fun A outer s H vs Q E hr h => ?_
  · obtain ⟨a, dx, l, xs, ds, i, rfl, _⟩ := h
    rfl
  · have Z : ∃ tc tu, SndT (L59 K C1 C2) T_paper tc ∧ SndS (L59 K C1 C2) U_paper tu ∧ PSs (cxOf (L2N.CX P w) P w K mg base ["self", "index"] "Notes.paper" (defScope s_paper) f cdv A outer s H E) (defBody s_paper) (tSeq (tIfS tc (fun _ σ H => tMkO CE (spX CE ["index"]) [] (tCons (tVar 1) tNil) σ H fun cls d H' => E cls d H') tNext) tu) :=
      ifraise (W := fun cls d _ H => E cls d H) rfl (L2N.takes_of rfl rfl rfl rfl) (dt_not (dt_chain op_le op_lt p_le p_lt de_int (de_var 1) (de_cb call_len q_len T.b_len v_len (da_cons (de_pap T.c59 (de_var 0)) (da_nil)))))
        (pmk_oexN O iC tI FI (hr.mono (by omega)) hbI rfl gm (pa_cons (pv 1) pa_nil))
        (dss_one (ds_ret (de_ix ix_seq p_ix (de_pap T.c59 (de_var 0)) (de_var 1))))
    obtain ⟨tc, tu, s1, s2, p⟩ := Z
    refine ⟨_, p, ?_⟩
    obtain ⟨a, dx, l, xs, ds, i, rfl, ha, hl, hk, q⟩ := h
    have R := rpP (K := K) (C2 := C2) (i := i) ha hl hk
    refine s1 none _ H _ _ _ _ _ R (t_paper ds i) _ fun H1 M1 ft1 st1 R1 => ?_
    have sm1 : Same H H1 := fun b o e => hid_same _ _ (st1.ext b o (hid_some.mpr ⟨fun z => z, e⟩))
    by_cases h : 0 ≤ i ∧ i < ds.length
    · rw [if_pos h] at q
      have e : (!(decide (0 ≤ i) && decide (i < ds.length))) = false := by simp [h.1, h.2]
      rw [e]
      show tu _ _ _
      obtain ⟨r, er⟩ := u_paper (K := K) (C1 := C1) (C2 := C2) ds i h.1 h.2
      refine s2 none _ H1 _ _ _ _ _ R1 er _ fun v σ' H' M' ft' s' R' k' => ?_
      refine q v H' fun b o e => hid_same _ _ ((st1.trans s').ext b o (hid_some.mpr ⟨fun z => z, e⟩))
    · rw [if_neg h] at q
      have e : (!(decide (0 ≤ i) && decide (i < ds.length))) = true := by
        by_cases h0 : 0 ≤ i
        · have h1 : ¬ i < ds.length := fun z => h ⟨h0, z⟩
          simp [h1]
        · simp [h0]
      rw [e]
      show tMkO CE (spX CE ["index"]) [] (tCons (tVar 1) tNil) _ _ _
      refine ⟨.int i, rfl, (by show (1:Nat) ≤ 1000; decide), fun x hx => ⟨x, [.int i], rfl, rfl, upd_same, fun dd H2 kp nd nn hxx hdd => ⟨rfl, dd, _, hxx, hdd, ?_, ?_⟩⟩⟩
      · rw [upd_ne nd] at nn
        exact nn
      · rw [upd_ne nd] at nn
        refine q dd _ (fun b o eb => ?_) upd_same
        have bx : b ≠ x := fun z => by rw [z] at eb; rw [sm1 _ _ eb] at hx; cases hx
        have bd : b ≠ dd := fun z => by rw [z] at eb; rw [sm1 _ _ eb] at nn; cases nn
        rw [upd_ne bd]
        have e2 := kp b o bx (by rw [upd_ne bx]; exact sm1 _ _ eb)
        rw [del_ne bx]
        exact e2
end
end DL
set_option Elab.async false
set_option linter.all false
set_option maxRecDepth 100000
set_option maxHeartbeats 1000000
/-! R3: _law_refused. -/
namespace DL
open PySem PySem.Spec L2 TK
open PyProof.Rows hiding St
variable [CN]
section
variable {P : Program} {w : World} {K : PySem.W.Frag} {mg : Str → Option Value} {base : Heap} {C1 C2 : Addr}
theorem sc_law_refused : FnScope ["notes", "index", "e"] ["notes", "index"] (defScope s_law_refused) := ⟨rfl, rfl, rfl, by decide +kernel, rfl, by decide +kernel, by decide +kernel⟩
theorem sub_self {C : Addr} (O : OexC K C) : PySem.W.subIn K (.ref C) (.ref C) = some true := by
  obtain ⟨nm, q, N, bs, bm, sn, sub, ab, col, dd, k0, k1, k2, k3, k5, hC, hbm⟩ := O.cls
  have hcl : PySem.W.clsIn K C = some { name := nm, bases := bs, mro := .ref C :: bm, ns := N, qualname := q, hasDict := true, slotNames := sn, subclasses := sub, abstract := ab, collection := col, hasDel := false } := by
    unfold PySem.W.clsIn
    rw [hC] <;> rfl
  show PySem.W.mroIn K C (.ref C) = some true
  unfold PySem.W.mroIn
  rw [hcl]
  simp
/-- isinstance(e, c), e the caught error in slot 2 -/
def tIsE (K : PySem.W.Frag) (D a dd : Addr) (c : V) : TE := tCB (rIsEd K D a dd) (tCons (tVar 2) (tCons (tC c) tNil))
/-- the suite's reading -/
def tsR (K : PySem.W.Frag) (CE DH : Addr) (a : Addr) (cls : Value) (d : Option Addr) : TS := fun D σ H => cls = .ref CE ∧ ∃ dd, d = some dd ∧
  tSeq (tIfS (tOr (tNot (tB (tIsE K CE a dd (.ref DH)))) (tNot (tB (tIsE K CE a dd (.ty "ValueError"))))) (tRet (tC (.bl false))) tNext) (tRet (tCallS spEqI (fun _ _ _ _ => False) (tCons (tXf a (.ref CE) (some dd) CE "index" (tVar 2)) (tCons (tVar 1) tNil)))) D σ H
theorem suite_of {X : Cx} {sts : List Stmt} {cls c : Value} {d : Option Addr} {r : Addr → TS} (h : ∀ dd, cls = c → d = some dd → PSs X sts (r dd)) : PSs X sts (fun D σ H => cls = c ∧ ∃ dd, d = some dd ∧ r dd D σ H) :=
  ⟨fun pins s σ H D I ⟨e1, dd, e2, h2⟩ => (h dd e1 e2).run pins s σ H D I h2⟩
theorem roomH_mk {k : Nat} {A : Around} (r : Room k A) (h : Option Value) : L2H.RoomH k (A.mark h) := ⟨r.dp, r.un⟩
def WF : WX := fun _ _ _ _ => False
theorem takesF {X : Cx} : L2N.Takes X WF := fun u s' ⟨_, _, _, _, _, _, _, _, _, _, _, _, _, _, _, _, w⟩ => w.elim
theorem body_refused (T : Txt K mg C1 C2) : ∃ CE DH, OexC K CE ∧ XfC K CE ∧ PySem.W.kitOne K (.ref CE) (.ref DH) = some true ∧ PySem.W.kitOne K (.ref CE) (.type "ValueError") = some true ∧
    ∃ f fd, Fun K "_law_refused" "_law_refused" s_law_refused f fd ∧ Binds K fd ["notes", "index"] [] ∧ mg "_law_refused" = some (.ref f) ∧
    ∀ (cdv : Value) (A : Around) (outer : List Env) (s : Shared) (H : Hp) (E : XK), Room 17 (A.deeper (envOfC "_law_refused" (defScope s_law_refused) s.heap.objs.size f cdv)) →
      PSs (cxOf CX0 P w K mg base ["notes", "index", "e"] "_law_refused" (defScope s_law_refused) f cdv A outer s H E).nox (defBody s_law_refused)
        (tSeq (fun D σ H => tDrop (L2H.tMethH C1 "paper" (spPX C1 CE) (L2.WE (wAs K (.ref CE) 2 (tsR K CE DH) WF D)) (tVar 0) (tCons (tVar 1) tNil)) D σ H) (tRet (tC (.bl false)))) := by
  obtain ⟨CE, fp, fdp, Fp, mp, bp, gm, hc, O, XF, hn⟩ := ok_paperX (P := P) (w := w) (base := base) T
  obtain ⟨DH, gH, kH⟩ := T.i_HoldError.ex
  obtain ⟨TV, gV, bV, kV⟩ := T.i_ValueError.ex
  obtain ⟨fs, fds, Fs, gs, ks, bs⟩ := ok_sameH (P := P) (w := w) (base := base) T
  obtain ⟨f, fd, F, hbn, hm⟩ := T.d_law_refused
  have eV : TV = "ValueError" := by
    have e : bootBuiltins "ValueError" = some (.type "ValueError") := by decide +kernel
    rw [e] at bV
    cases bV
    rfl
  subst eV
  have k1 := (kH CE (by rw [hc]; decide)).2
  have k2 := (kV CE (by rw [hc]; decide)).2
  have xc := (kH CE (by rw [hc]; decide)).1
  rw [hc] at k1 k2
  refine ⟨CE, DH, O, XF, k1, k2, f, fd, F, hbn, hm, fun cdv A outer s H E hr => ?_⟩
  exact pss_cons (L2N.ps_try_as (tb := fun W => tDrop (L2H.tMethH C1 "paper" (spPX C1 CE) (L2.WE W) (tVar 0) (tCons (tVar 1) tNil))) (i := 2) rfl rfl sc_law_refused.nd (n := "e") rfl (by rfl) ⟨by rfl, by decide, .inl gm⟩ takesF
    (fun W pn xe tk _ => pss_one (ps_expr (pe_methE (pv 0) T.c59.c1 mp Fp (hr.mono (by omega)) bp (fun σ => L2N.passAt tk σ) (pa_cons (pv 1) pa_nil))))
    (fun a oe cls d pn hz hf => suite_of fun dd e1 e2 => by
      subst e1 e2
      have hz2 : Zc (.ref CE) (some dd) oe := hz.zc
      exact pss_cons (ps_if (pw_or (pt_not (pt_val (pe_callB (call_isEd xc hz2 hf) (by rfl) T.b_isinstance v_isinstance (pa_cons (pv 2) (pa_cons (pe_glob (v := .ref DH) (by rfl) gH rfl) pa_nil)))))
        (pw_or1 (pt_not (pt_val (pe_callB (call_isEd xc hz2 hf) (by rfl) T.b_isinstance v_isinstance (pa_cons (pv 2) (pa_cons (pe_bltn (v := .ty "ValueError") (by rfl) gV bV rfl) pa_nil))))))).pt
        (pss_one (ps_ret pe_bl)) pss_nil)
        (pss_one (ps_ret (L2H.pe_callH Fs ((roomH_mk hr _).mono (by omega)) (hotC_suite hz hf) (by rfl) gs ks bs (fun _ _ _ _ _ _ _ h => h.elim) (pa_cons (pe_xf XF hn hz2 hf (pv 2)) (pa_cons (pv 1) pa_nil)))))))
    (pss_one (ps_ret pe_bl))
end
end DL
set_option Elab.async false
set_option linter.all false
set_option maxRecDepth 100000
set_option maxHeartbeats 1000000
/-! R4: _law_refused as a def. -/
namespace DL
open PySem PySem.Spec L2 TK
open PyProof.Rows hiding St
variable [CN]
section
variable {P : Program} {w : World} {K : PySem.W.Frag} {mg : Str → Option Value} {base : Heap} {C1 C2 : Addr}
def F_law_refused : Fn (L59 K C1 C2) := fun as => match as with
  | [.dv (.ob o), .dv (.d (.int i))] => match (show Ob59 from o) with
    | .notes ds => some (.dv (.d (.bool (!(decide (0 ≤ i) && decide (i < ds.length))))), none)
    | _ => none
  | _ => none
/-- what its promise says -/
theorem refused_in {vs : List V} {H : Hp} {Q : VK} {E : XK} (h : spD (L59 K C1 C2) F_law_refused vs H Q E) : ∃ (a dx l : Addr) (xs : List V) (ds : List PD) (i : Int), vs = [.ref a, .int i] ∧ H a = some (.ins C1 dx [("_papers", .ref l)]) ∧ H l = some (.lst xs) ∧ DkAll H xs ds ∧
    ∀ H', Same H H' → Q (.bl (!(decide (0 ≤ i) && decide (i < ds.length)))) H' := by
  obtain ⟨M, ft, as, r, w, R, e, q⟩ := h
  unfold F_law_refused at e
  split at e
  · rename_i o i
    split at e
    · rename_i ds eo
      cases e
      have hv : vs.length = 2 := by have := R.len; simpa using this
      match vs, hv with
      | [v0, v1], _ =>
        obtain ⟨n0, u0, e0, k0⟩ := R.slot 0 _ rfl
        obtain ⟨n1, u1, e1, k1⟩ := R.slot 1 _ rfl
        cases e0
        cases e1
        have k2 : rep59 K C1 C2 (hid H M) v0 (.notes ds) := by rw [← show (show Ob59 from o) = Ob59.notes ds from eo]; exact k0
        have k3 : Dk (hid H M) v1 (.int i) := k1
        obtain ⟨a, dx, l, xs, rfl, ha, hl, hk⟩ := k2
        cases k3
        have nf : ∀ j b, ¬ ft j b := fun j b z => by
          have := R.bnd j b z
          match j, this with
          | 0, _ => exact n0 b z
          | 1, _ => exact n1 b z
        refine ⟨a, dx, l, xs, ds, i, rfl, hid_same _ _ ha, hid_same _ _ hl, hk.mono hid_same, fun H' sm => ?_⟩
        refine q _ H' M ft ⟨fun b o e => ?_, fun b o hm hf e => ⟨sm _ _ e, hm, hf⟩⟩ ⟨fun j b z => (nf j b z).elim, fun b => nf 0 b⟩ (Dk.bl _)
        obtain ⟨x1, x2⟩ := hid_some.mp e
        exact hid_some.mpr ⟨x1, sm _ _ x2⟩
    · cases e
  · cases e
theorem ok_law_refused (T : Txt K mg C1 C2) : OkD (L59 K C1 C2) P w K mg base 18 "_law_refused" ["notes", "index"] F_law_refused := by
  obtain ⟨CE, DH, O, XF, k1, k2, f, fd, F, hbn, hm, hb⟩ := body_refused (P := P) (w := w) (base := base) T
  refine ⟨f, fd, F.ok sc_law_refused (fun vs H Q E h => ?_) (fun cdv A outer s H vs Q E hr h => ⟨_, hb cdv A outer s H E hr, ?_⟩), hm, F.kp, hbn⟩
  · obtain ⟨a, dx, l, xs, ds, i, rfl, _⟩ := refused_in h
    rfl
  · obtain ⟨a, dx, l, xs, ds, i, rfl, ha, hl, hk, q⟩ := refused_in h
    refine ⟨.ref a, rfl, a, dx, _, rfl, ha, rfl, .int i, rfl, a, dx, l, xs, ds, i, rfl, ha, hl, hk, ?_⟩
    by_cases c : 0 ≤ i ∧ i < ds.length
    · rw [if_pos c]
      intro v H' sm
      have e : (!(decide (0 ≤ i) && decide (i < ds.length))) = false := by simp [c.1, c.2]
      rw [e] at q
      exact q H' sm
    · rw [if_neg c]
      intro d H' sm hd
      have e : (!(decide (0 ≤ i) && decide (i < ds.length))) = true := by
        by_cases h0 : 0 ≤ i
        · have h1 : ¬ i < ds.length := fun z => c ⟨h0, z⟩
          simp [h1]
        · simp [h0]
      rw [e] at q
      refine ⟨true, PySem.W.exm_ref XF.exC XF.hdC O.tyC (sub_self O), fun _ x hx => ⟨rfl, d, rfl, ?_⟩, fun z => nomatch z⟩
      show tCB _ (tCons (tVar 2) (tCons (tC _) tNil)) _ _ _
      refine ⟨.ref x, rfl, .ref DH, .ref DH, true, _, rfl, hd, fun u r => r, k1, true, rfl, ?_⟩
      show tCB _ (tCons (tVar 2) (tCons (tC _) tNil)) _ _ _
      refine ⟨.ref x, rfl, .ty "ValueError", .type "ValueError", true, _, rfl, hd, fun u r => r, k2, true, rfl, ?_⟩
      show tCallS spEqI (fun _ _ _ _ => False) (tCons (tXf x (.ref CE) (some d) CE "index" (tVar 2)) (tCons (tVar 1) tNil)) ((start ["notes", "index", "e"] [.ref a, .int i]).set 2 (some (.ref x))) H' Q
      refine ⟨.ref x, rfl, rfl, rfl, d, _, .int i, rfl, hd, rfl, .int i, rfl, i, i, rfl, fun H2 sm2 => ?_⟩
      rw [beq_self_eq_true]
      exact q H2 (sm.trans sm2)
end
end DL
set_option Elab.async false
set_option linter.all false
set_option maxRecDepth 100000
set_option maxHeartbeats 4000000
namespace DL
open PySem PySem.Spec L2 TK
open PyProof.Rows hiding St
variable [CN]
section
variable {L : Lang} {P : Program} {w : World} {K : PySem.W.Frag} {mg : Str → Option Value} {base : Heap} {C1 C2 : Addr}
def B_law_asked : Es (L59 K C1 C2) :=
  sSeq (sIf (tst (eOp gNe (eLenC isN F_nlen (eVar 0)) (eCB cLen (aCons (eVar 1) (aNil)))))
    (sRet (eC (.bool false)))
    (sNil))
  (sSeq (sFor (iR1 (aCons (eCB cLen (aCons (eVar 1) (aNil))) (aNil))) (uName 3)
    (sIf (tstNot (tst (eCall (F_law_same 16) (aCons (eMt isN F_paper (eVar 0) (aCons (eVar 3) (aNil))) (aCons (eOp gIx (eVar 1) (eVar 3)) (aNil))))))
    (sRet (eC (.bool false)))
    (sNil)))
  (sSeq (sSet 4 (eCall (F_law_book) (aCons (eVar 2) (aNil))))
  (sSeq (sFor (iR1 (aCons (eC (.int 2)) (aNil))) (uName 5)
    (sSeq (sSet 6 (eMt isN F_stale (eVar 0) (aCons (eVar 4) (aNil))))
  (sSeq (sIf (thawT (tstNot (thawT (tst (eCall (F_law_same 16) (aCons (eVar 6) (aCons (eCall (F_law_stale) (aCons (eVar 1) (aCons (eVar 2) (aNil)))) (aNil))))))))
    (sRet (eC (.bool false)))
    (sNil))
  (sSeq (sApp 6 (eVar 5))
  (sSeq (sSet 6 (eMt isN F_hanging (eVar 0) (aCons (eVar 4) (aNil))))
  (sSeq (sIf (thawT (tstNot (thawT (tst (eCall (F_law_same 16) (aCons (eVar 6) (aCons (eCall (F_law_hanging) (aCons (eVar 1) (aCons (eVar 2) (aNil)))) (aNil))))))))
    (sRet (eC (.bool false)))
    (sNil))
  (sApp 6 (eVar 5))))))))
  (sRet (eC (.bool true))))))
def F_law_asked : Fn (L59 K C1 C2) := fnD 3 7 B_law_asked
theorem ok_law_asked (T : Txt K mg C1 C2) : OkD (L59 K C1 C2) P w K mg base 19 "_law_asked" ["notes", "kept", "bars"] F_law_asked := ok_defD T.d_law_asked sc_law_asked fun f cdv A outer s H E hr =>
    dss_cons (ds_if (dt_cmp (op_neD hr.units) p_ne (de_lenC (ok_nlen T) (hr.mono (by omega)) (insN (m := "__len__") (by decide)) (de_var 0) T.b_len v_len) (de_cb call_len q_len T.b_len v_len (da_cons (de_var 1) (da_nil))) (nomark _))
      (dss_one (ds_ret (de_bl)))
      (dss_nil))
    (dss_cons (ds_for PassesOwn.never rfl (di_range1 T.b_range (da_cons (de_cb call_len q_len T.b_len v_len (da_cons (de_var 1) (da_nil))) (da_nil))) (dg_name (i := 3) sc_law_asked.nd)
      (dss_one (ds_if (dt_not (dt_val (de_callD (ok_law_same T 16) (hr.mono (by omega)) (da_cons (de_mt (ok_paper T) T.c59.c1 (hr.mono (by omega)) (insN (m := "paper") (by decide)) (de_var 0) (da_cons (de_var 3) (da_nil))) (da_cons (de_ix ix_seq p_ix (de_var 1) (de_var 3)) (da_nil))))))
      (dss_one (ds_ret (de_bl)))
      (dss_nil))))
    (dss_cons (ds_set 4 sc_law_asked.nd (de_callD (ok_law_book T) (hr.mono (by omega)) (da_cons (de_var 2) (da_nil))))
    (dss_cons (ds_for PassesOwn.never rfl (di_range1 T.b_range (da_cons (de_int) (da_nil))) (dg_name (i := 5) sc_law_asked.nd)
      (dss_cons (ds_set 6 sc_law_asked.nd (de_mt (ok_stale T) T.c59.c1 (hr.mono (by omega)) (insN (m := "stale") (by decide)) (de_var 0) (da_cons (de_var 4) (da_nil))))
    (dss_cons (ds_if (DT.thaw (dt_not (DT.thaw (dt_val (de_callD (ok_law_same T 16) (hr.mono (by omega)) (da_cons (de_var 6) (da_cons (de_callD (ok_law_stale T) (hr.mono (by omega)) (da_cons (de_var 1) (da_cons (de_var 2) (da_nil)))) (da_nil))))))))
      (dss_one (ds_ret (de_bl)))
      (dss_nil))
    (dss_cons (ds_app 6 (de_var 5))
    (dss_cons (ds_set 6 sc_law_asked.nd (de_mt (ok_hanging T) T.c59.c1 (hr.mono (by omega)) (insN (m := "hanging") (by decide)) (de_var 0) (da_cons (de_var 4) (da_nil))))
    (dss_cons (ds_if (DT.thaw (dt_not (DT.thaw (dt_val (de_callD (ok_law_same T 16) (hr.mono (by omega)) (da_cons (de_var 6) (da_cons (de_callD (ok_law_hanging T) (hr.mono (by omega)) (da_cons (de_var 1) (da_cons (de_var 2) (da_nil)))) (da_nil))))))))
      (dss_one (ds_ret (de_bl)))
      (dss_nil))
    (dss_one (ds_app 6 (de_var 5)))))))))
    (dss_one (ds_ret (de_bl))))))
def B_law_both : Es (L59 K C1 C2) :=
  sRet (ofT (tstAnd (tst (eCall (F_law_asked) (aCons (eVar 0) (aCons (eVar 1) (aCons (eVar 2) (aNil)))))) (tst (eCall (F_law_asked) (aCons (eVar 0) (aCons (eVar 1) (aCons (eVar 3) (aNil))))))))
def F_law_both : Fn (L59 K C1 C2) := fnD 4 4 B_law_both
theorem ok_law_both (T : Txt K mg C1 C2) : OkD (L59 K C1 C2) P w K mg base 20 "_law_both" ["notes", "kept", "first", "later"] F_law_both := ok_defD T.d_law_both sc_law_both fun f cdv A outer s H E hr =>
    dss_one (ds_ret (de_and (de_callD (ok_law_asked T) (hr.mono (by omega)) (da_cons (de_var 0) (da_cons (de_var 1) (da_cons (de_var 2) (da_nil))))) (de_one (de_callD (ok_law_asked T) (hr.mono (by omega)) (da_cons (de_var 0) (da_cons (de_var 1) (da_cons (de_var 3) (da_nil))))))))
end
end DL
set_option Elab.async false
set_option linter.all false
set_option maxRecDepth 100000
set_option maxHeartbeats 4000000
namespace DL
open PySem PySem.Spec L2 TK
open PyProof.Rows hiding St
variable [CN]
section
variable {L : Lang} {P : Program} {w : World} {K : PySem.W.Frag} {mg : Str → Option Value} {base : Heap} {C1 C2 : Addr}
def B_law_noted : Es (L59 K C1 C2) :=
  sSeq (sFor (iR1 (aCons (eCB cLen (aCons (eVar 1) (aNil))) (aNil))) (uName 2)
    (sIf (tstOr (tstNot (tst (thaw (eCall (F_law_refused) (aCons (eVar 0) (aCons (eVar 2) (aNil))))))) (tstNot (tst (eCall (F_law_same 16) (aCons (eMtB isNw 0 F_note (aCons (eOp gIx (eVar 1) (eVar 2)) (aNil))) (aCons (eVar 2) (aNil)))))))
    (sRet (eC (.bool false)))
    (sNil)))
  (sSeq (sSet 3 (eCB cLen (aCons (eVar 1) (aNil))))
  (sSeq (sSet 4 (eLst (aCons (eOp gSub (eC (.int 0)) (eC (.int 1))) (aCons (eOp gSub (eC (.int 0)) (eVar 3)) (aCons (eOp gSub (eOp gSub (eC (.int 0)) (eVar 3)) (eC (.int 1))) (aCons (eVar 3) (aCons (eOp gAdd (eVar 3) (eC (.int 1))) (aCons (eOp gPow (eC (.int 10)) (eC (.int 12))) (aCons (eOp gSub (eC (.int 0)) (eOp gPow (eC (.int 10)) (eC (.int 12)))) (aNil))))))))))
  (sSeq (sFor (iL (eVar 4)) (uName 5)
    (sIf (tstAnd (tstOr (tst (eOp gLt (eVar 5) (eC (.int 0)))) (tst (eOp gGe (eVar 5) (eVar 3)))) (tstNot (tst (thaw (eCall (F_law_refused) (aCons (eVar 0) (aCons (eVar 5) (aNil))))))))
    (sRet (eC (.bool false)))
    (sNil)))
  (sRet (eC (.bool true))))))
def F_law_noted : Fn (L59 K C1 C2) := fnD 2 6 B_law_noted
theorem ok_law_noted (T : Txt K mg C1 C2) : OkD (L59 K C1 C2) P w K mg base 20 "_law_noted" ["notes", "kept"] F_law_noted := ok_defD T.d_law_noted sc_law_noted fun f cdv A outer s H E hr =>
    dss_cons (ds_for PassesOwn.never rfl (di_range1 T.b_range (da_cons (de_cb call_len q_len T.b_len v_len (da_cons (de_var 1) (da_nil))) (da_nil))) (dg_name (i := 2) sc_law_noted.nd)
      (dss_one (ds_if (DW.dt (dw_or (dt_not (dt_val (DE.thaw (de_callD (ok_law_refused T) (hr.mono (by omega)) (da_cons (de_var 0) (da_cons (de_var 2) (da_nil))))))) (dw_or1 (dt_not (dt_val (de_callD (ok_law_same T 16) (hr.mono (by omega)) (da_cons (de_mtB 0 (ok_note T) T.c59.c1 (hr.mono (by omega)) (insNw (m := "note") (by decide)) (da_cons (de_ix ix_seq p_ix (de_var 1) (de_var 2)) (da_nil))) (da_cons (de_var 2) (da_nil)))))))))
      (dss_one (ds_ret (de_bl)))
      (dss_nil))))
    (dss_cons (ds_set 3 sc_law_noted.nd (de_cb call_len q_len T.b_len v_len (da_cons (de_var 1) (da_nil))))
    (dss_cons (ds_set 4 sc_law_noted.nd (de_lst (da_cons (de_op op_sub p_sub (de_int) (de_int)) (da_cons (de_op op_sub p_sub (de_int) (de_var 3)) (da_cons (de_op op_sub p_sub (de_op op_sub p_sub (de_int) (de_var 3)) (de_int)) (da_cons (de_var 3) (da_cons (de_op op_add p_add (de_var 3) (de_int)) (da_cons (de_op op_pow p_pow (de_int) (de_int)) (da_cons (de_op op_sub p_sub (de_int) (de_op op_pow p_pow (de_int) (de_int))) (da_nil))))))))))
    (dss_cons (ds_for PassesOwn.never rfl (di_list (de_var 4)) (dg_name (i := 5) sc_law_noted.nd)
      (dss_one (ds_if (DW.dt (dw_and (DW.dt (dw_or (dt_cmp op_lt p_lt (de_var 5) (de_int) (nomark _)) (dw_or1 (dt_cmp op_ge p_ge (de_var 5) (de_var 3) (nomark _))))) (dw_and1 (dt_not (dt_val (DE.thaw (de_callD (ok_law_refused T) (hr.mono (by omega)) (da_cons (de_var 0) (da_cons (de_var 5) (da_nil))))))))))
      (dss_one (ds_ret (de_bl)))
      (dss_nil))))
    (dss_one (ds_ret (de_bl))))))
def B_law_behind : Es (L59 K C1 C2) :=
  sSeq (sSet 5 (eMtB isNw 0 F_strike (aCons (eCall (F_law_book) (aCons (eVar 3) (aNil))) (aNil))))
  (sSeq (sIf (thawT (tstNot (thawT (tst (eCall (F_law_same 16) (aCons (eVar 5) (aCons (eCall (F_law_stale) (aCons (eVar 1) (aCons (eVar 3) (aNil)))) (aNil))))))))
    (sRet (eC (.bool false)))
    (sNil))
  (sSeq (sApp 5 (eC (.int 0)))
  (sSeq (sSet 6 (eLc [7] (iL (eVar 1)) (uName 7) cYes (eCall (F_law_freed) (aCons (eVar 7) (aCons (eVar 3) (aNil))))))
  (sSeq (sIf (tst (eOp gNe (eCall (F_law_hanging) (aCons (eVar 6) (aCons (eVar 3) (aNil)))) (eLst (aNil))))
    (sRet (eC (.bool false)))
    (sNil))
  (sSeq (sIf (tstNot (tst (thaw (eCall (F_law_both) (aCons (eVar 0) (aCons (eVar 6) (aCons (eVar 3) (aCons (eVar 4) (aNil)))))))))
    (sRet (eC (.bool false)))
    (sNil))
  (sSeq (sSet 5 (eMtB isNw 0 F_strike (aCons (eCall (F_law_book) (aCons (eVar 3) (aNil))) (aNil))))
  (sSeq (sIf (tstOr (tstNot (tst (eCall (F_law_same 16) (aCons (eVar 5) (aCons (eLst (aNil)) (aNil)))))) (tstNot (tst (eCall (F_law_same 16) (aCons (eMtB isNw 0 F_note (aCons (eVar 2) (aNil))) (aCons (eCB cLen (aCons (eVar 1) (aNil))) (aNil)))))))
    (sRet (eC (.bool false)))
    (sNil))
  (sSeq (sSet 6 (eOpL gCat (eVar 6) (eLst (aCons (eVar 2) (aNil)))))
  (sSeq (sIf (tstNot (tst (thaw (eCall (F_law_both) (aCons (eVar 0) (aCons (eVar 6) (aCons (eVar 3) (aCons (eOpL gCat (eVar 4) (eVar 3)) (aNil)))))))))
    (sRet (eC (.bool false)))
    (sNil))
  (sSeq (sSet 5 (eMtB isNw 0 F_strike (aCons (eCall (F_law_book) (aCons (eVar 4) (aNil))) (aNil))))
  (sSeq (sIf (tstNot (tst (eCall (F_law_same 16) (aCons (eVar 5) (aCons (eCall (F_law_stale) (aCons (eVar 6) (aCons (eVar 4) (aNil)))) (aNil))))))
    (sRet (eC (.bool false)))
    (sNil))
  (sSeq (sSet 6 (eLc [7] (iL (eVar 6)) (uName 7) cYes (eCall (F_law_freed) (aCons (eVar 7) (aCons (eVar 4) (aNil))))))
  (sRet (thaw (eCall (F_law_both) (aCons (eVar 0) (aCons (eVar 6) (aCons (eVar 3) (aCons (eVar 4) (aNil))))))))))))))))))))
def F_law_behind : Fn (L59 K C1 C2) := fnD 5 8 B_law_behind
theorem ok_law_behind (T : Txt K mg C1 C2) : OkD (L59 K C1 C2) P w K mg base 21 "_law_behind" ["notes", "kept", "more", "first", "later"] F_law_behind := ok_defD T.d_law_behind sc_law_behind fun f cdv A outer s H E hr =>
    dss_cons (ds_set 5 sc_law_behind.nd (de_mtB 0 (ok_strike T) T.c59.c1 (hr.mono (by omega)) (insNw (m := "strike") (by decide)) (da_cons (de_callD (ok_law_book T) (hr.mono (by omega)) (da_cons (de_var 3) (da_nil))) (da_nil))))
    (dss_cons (ds_if (DT.thaw (dt_not (DT.thaw (dt_val (de_callD (ok_law_same T 16) (hr.mono (by omega)) (da_cons (de_var 5) (da_cons (de_callD (ok_law_stale T) (hr.mono (by omega)) (da_cons (de_var 1) (da_cons (de_var 3) (da_nil)))) (da_nil))))))))
      (dss_one (ds_ret (de_bl)))
      (dss_nil))
    (dss_cons (ds_app 5 (de_int))
    (dss_cons (ds_setLc 6 (own := [("paper", 7)]) rfl sc_law_behind.nd (di_list (de_var 1)) (blkOk_by (N := ["notes", "kept", "more", "first", "later", "told", "freed_v", "paper"]) (sc := defScope s_law_behind) (by decide +kernel)) (by decide) (fun _ _ _ _ _ => dg_name (i := 7) sc_law_behind.nd) (fun _ _ _ _ _ => de_callD (ok_law_freed T) (hr.mono (by omega)) (da_cons (de_var 7) (da_cons (de_var 3) (da_nil)))) (sw_true rfl rfl rfl (by decide +kernel)))
    (dss_cons (ds_if (dt_cmp (op_neD hr.units) p_ne (de_callD (ok_law_hanging T) (hr.mono (by omega)) (da_cons (de_var 6) (da_cons (de_var 3) (da_nil)))) (de_lst (da_nil)) (nomark _))
      (dss_one (ds_ret (de_bl)))
      (dss_nil))
    (dss_cons (ds_if (dt_not (dt_val (DE.thaw (de_callD (ok_law_both T) (hr.mono (by omega)) (da_cons (de_var 0) (da_cons (de_var 6) (da_cons (de_var 3) (da_cons (de_var 4) (da_nil)))))))))
      (dss_one (ds_ret (de_bl)))
      (dss_nil))
    (dss_cons (ds_set 5 sc_law_behind.nd (de_mtB 0 (ok_strike T) T.c59.c1 (hr.mono (by omega)) (insNw (m := "strike") (by decide)) (da_cons (de_callD (ok_law_book T) (hr.mono (by omega)) (da_cons (de_var 3) (da_nil))) (da_nil))))
    (dss_cons (ds_if (DW.dt (dw_or (dt_not (dt_val (de_callD (ok_law_same T 16) (hr.mono (by omega)) (da_cons (de_var 5) (da_cons (de_lst (da_nil)) (da_nil)))))) (dw_or1 (dt_not (dt_val (de_callD (ok_law_same T 16) (hr.mono (by omega)) (da_cons (de_mtB 0 (ok_note T) T.c59.c1 (hr.mono (by omega)) (insNw (m := "note") (by decide)) (da_cons (de_var 2) (da_nil))) (da_cons (de_cb call_len q_len T.b_len v_len (da_cons (de_var 1) (da_nil))) (da_nil)))))))))
      (dss_one (ds_ret (de_bl)))
      (dss_nil))
    (dss_cons (ds_set 6 sc_law_behind.nd (de_opL op_cat n_cat (de_var 6) (de_lst (da_cons (de_var 2) (da_nil)))))
    (dss_cons (ds_if (dt_not (dt_val (DE.thaw (de_callD (ok_law_both T) (hr.mono (by omega)) (da_cons (de_var 0) (da_cons (de_var 6) (da_cons (de_var 3) (da_cons (de_opL op_cat n_cat (de_var 4) (de_var 3)) (da_nil)))))))))
      (dss_one (ds_ret (de_bl)))
      (dss_nil))
    (dss_cons (ds_set 5 sc_law_behind.nd (de_mtB 0 (ok_strike T) T.c59.c1 (hr.mono (by omega)) (insNw (m := "strike") (by decide)) (da_cons (de_callD (ok_law_book T) (hr.mono (by omega)) (da_cons (de_var 4) (da_nil))) (da_nil))))
    (dss_cons (ds_if (dt_not (dt_val (de_callD (ok_law_same T 16) (hr.mono (by omega)) (da_cons (de_var 5) (da_cons (de_callD (ok_law_stale T) (hr.mono (by omega)) (da_cons (de_var 6) (da_cons (de_var 4) (da_nil)))) (da_nil))))))
      (dss_one (ds_ret (de_bl)))
      (dss_nil))
    (dss_cons (ds_setLc 6 (own := [("paper", 7)]) rfl sc_law_behind.nd (di_list (de_var 6)) (blkOk_by (N := ["notes", "kept", "more", "first", "later", "told", "freed_v", "paper"]) (sc := defScope s_law_behind) (by decide +kernel)) (by decide) (fun _ _ _ _ _ => dg_name (i := 7) sc_law_behind.nd) (fun _ _ _ _ _ => de_callD (ok_law_freed T) (hr.mono (by omega)) (da_cons (de_var 7) (da_cons (de_var 4) (da_nil)))) (sw_true rfl rfl rfl (by decide +kernel)))
    (dss_one (ds_ret (DE.thaw (de_callD (ok_law_both T) (hr.mono (by omega)) (da_cons (de_var 0) (da_cons (de_var 6) (da_cons (de_var 3) (da_cons (de_var 4) (da_nil)))))))))))))))))))))
def B_law_chain : Es (L59 K C1 C2) :=
  sSeq (sSet 1 (eCallB 0 (F_law_pick) (aCons (eLst (aCons (eC (.str "A")) (aCons (eC (.str "H")) (aCons (eC (.str "C")) (aNil))))) (aNil))))
  (sSeq (sSet 2 (eCallB 0 (F_law_pick) (aCons (eLst (aCons (eC (.str "bob")) (aCons (eC (.str "eve")) (aCons (eC (.str "zoe")) (aNil))))) (aNil))))
  (sSeq (sSet 3 (eCallB 0 (F_law_draw) (aCons (eC (.int 5)) (aNil))))
  (sSeq (sSet 4 (eCallB 0 (F_law_draw) (aCons (eC (.int 6)) (aNil))))
  (sSeq (sSet 5 (eTup (aCons (eC (.str "is")) (aCons (eOp gSub (eC (.int 0)) (eC (.int 1))) (aNil)))))
  (sSeq (sSet 6 (eLst (aNil)))
  (sSeq (sFor (iR1 (aCons (eC (.int 10)) (aNil))) (uName 7)
    (sSeq (sSet 8 (eVar 2))
  (sSeq (sIf (tst (eOp gEq (eOp gMod (eCB cInt (aCons (eVar 7) (aNil))) (eC (.int 5))) (eVar 3)))
    (sSet 8 (eIf (tst (eOp gLt (eVar 7) (eC (.int 5)))) (eC (.str "")) (eC (.str "al"))))
    (sNil))
  (sSeq (sSet 9 (eOp gIx (eLst (aCons (eVar 7) (aCons (eOp gSub (eOp gPow (eC (.int 10)) (eC (.int 9))) (eVar 7)) (aCons (eOp gSub (eOp gSub (eC (.int 0)) (eC (.int 2))) (eVar 7)) (aNil))))) (eCallB 0 (F_law_draw) (aCons (eC (.int 3)) (aNil)))))
  (sSeq (sSet 10 (eTup (aCons (eC (.str "is")) (aCons (eIf (tst (eOp gEq (eVar 7) (eVar 3))) (eC .none) (eVar 9)) (aNil)))))
  (sSeq (sSet 11 (eTup (aCons (eVar 1) (aCons (eVar 4) (aCons (eVar 8) (aNil))))))
  (sSeq (sSet 12 (eCallB 0 (F_law_draw) (aCons (eC (.int 2)) (aNil))))
  (sSeq (sSet 13 (eIf (tst (eOp gEq (eVar 12) (eC (.int 0)))) (eLst (aCons (eVar 5) (aCons (eVar 10) (aNil)))) (eLst (aCons (eVar 10) (aCons (eVar 5) (aNil))))))
  (sSeq (sSet 5 (eTup (aCons (eC (.str "if")) (aCons (eVar 11) (aCons (eOp gIx (eVar 13) (eC (.int 0))) (aCons (eOp gIx (eVar 13) (eC (.int 1))) (aNil)))))))
  (sSeq (sSet 4 (eOp gAdd (eVar 4) (eC (.int 1))))
  (sSeq (sApp 6 (eVar 4))
  (sSet 4 (eOp gAdd (eVar 4) (eCallB 0 (F_law_draw) (aCons (eC (.int 5)) (aNil))))))))))))))))
  (sSeq (sSet 14 (eTup (aCons (eVar 1) (aCons (eVar 2) (aCons (eCallB 0 (F_law_pick) (aCons (eSl (eVar 6) (oSome (eC (.int 4))) (oNone)) (aNil))) (aNil))))))
  (sRet (eLst (aCons (eVar 5) (aCons (eVar 14) (aCons (eTup (aCons (eVar 1) (aCons (eC (.str "al")) (aCons (eCallB 0 (F_law_pick) (aCons (eLst (aCons (eC (.int 60)) (aCons (eOp gIx (eVar 6) (eC (.int 9))) (aCons (eC (.int 100)) (aNil))))) (aNil))) (aNil))))) (aNil)))))))))))))
def F_law_chain : Fn (L59 K C1 C2) := fnD 1 15 B_law_chain
theorem ok_law_chain (T : Txt K mg C1 C2) : OkD (L59 K C1 C2) P w K mg base 3 "_law_chain" ["pool"] F_law_chain := ok_defD T.d_law_chain sc_law_chain fun f cdv A outer s H E hr =>
    dss_cons (ds_set 1 sc_law_chain.nd (de_callBD 0 (ok_law_pick T) (hr.mono (by omega)) (da_cons (de_lst (da_cons (de_str) (da_cons (de_str) (da_cons (de_str) (da_nil))))) (da_nil))))
    (dss_cons (ds_set 2 sc_law_chain.nd (de_callBD 0 (ok_law_pick T) (hr.mono (by omega)) (da_cons (de_lst (da_cons (de_str) (da_cons (de_str) (da_cons (de_str) (da_nil))))) (da_nil))))
    (dss_cons (ds_set 3 sc_law_chain.nd (de_callBD 0 (ok_law_draw T) (hr.mono (by omega)) (da_cons (de_int) (da_nil))))
    (dss_cons (ds_set 4 sc_law_chain.nd (de_callBD 0 (ok_law_draw T) (hr.mono (by omega)) (da_cons (de_int) (da_nil))))
    (dss_cons (ds_set 5 sc_law_chain.nd (de_tup (da_cons (de_str) (da_cons (de_op op_sub p_sub (de_int) (de_int)) (da_nil)))))
    (dss_cons (ds_set 6 sc_law_chain.nd (de_lst (da_nil)))
    (dss_cons (ds_for PassesOwn.never rfl (di_range1 T.b_range (da_cons (de_int) (da_nil))) (dg_name (i := 7) sc_law_chain.nd)
      (dss_cons (ds_set 8 sc_law_chain.nd (de_var 2))
    (dss_cons (ds_if (dt_cmp (op_eqD hr.units) p_eq (de_op op_modN p_mod (de_ct call_int1 q_int T.b_int v_int (da_cons (de_var 7) (da_nil))) (de_int)) (de_var 3) (nomark _))
      (dss_one (ds_set 8 sc_law_chain.nd (de_if (dt_cmp op_lt p_lt (de_var 7) (de_int) (nomark _)) (de_str) (de_str))))
      (dss_nil))
    (dss_cons (ds_set 9 sc_law_chain.nd (de_ix ix_seq p_ix (de_lst (da_cons (de_var 7) (da_cons (de_op op_sub p_sub (de_op op_pow p_pow (de_int) (de_int)) (de_var 7)) (da_cons (de_op op_sub p_sub (de_op op_sub p_sub (de_int) (de_int)) (de_var 7)) (da_nil))))) (de_callBD 0 (ok_law_draw T) (hr.mono (by omega)) (da_cons (de_int) (da_nil)))))
    (dss_cons (ds_set 10 sc_law_chain.nd (de_tup (da_cons (de_str) (da_cons (de_if (dt_cmp (op_eqD hr.units) p_eq (de_var 7) (de_var 3) (nomark _)) (de_non) (de_var 9)) (da_nil)))))
    (dss_cons (ds_set 11 sc_law_chain.nd (de_tup (da_cons (de_var 1) (da_cons (de_var 4) (da_cons (de_var 8) (da_nil))))))
    (dss_cons (ds_set 12 sc_law_chain.nd (de_callBD 0 (ok_law_draw T) (hr.mono (by omega)) (da_cons (de_int) (da_nil))))
    (dss_cons (ds_set 13 sc_law_chain.nd (de_if (dt_cmp (op_eqD hr.units) p_eq (de_var 12) (de_int) (nomark _)) (de_lst (da_cons (de_var 5) (da_cons (de_var 10) (da_nil)))) (de_lst (da_cons (de_var 10) (da_cons (de_var 5) (da_nil))))))
    (dss_cons (ds_set 5 sc_law_chain.nd (de_tup (da_cons (de_str) (da_cons (de_var 11) (da_cons (de_ix ix_seq p_ix (de_var 13) (de_int)) (da_cons (de_ix ix_seq p_ix (de_var 13) (de_int)) (da_nil)))))))
    (dss_cons (ds_set 4 sc_law_chain.nd (de_op op_add p_add (de_var 4) (de_int)))
    (dss_cons (ds_app 6 (de_var 4))
    (dss_one (ds_set 4 sc_law_chain.nd (de_op op_add p_add (de_var 4) (de_callBD 0 (ok_law_draw T) (hr.mono (by omega)) (da_cons (de_int) (da_nil)))))))))))))))))
    (dss_cons (ds_set 14 sc_law_chain.nd (de_tup (da_cons (de_var 1) (da_cons (de_var 2) (da_cons (de_callBD 0 (ok_law_pick T) (hr.mono (by omega)) (da_cons (de_sl (de_var 6) (do_some (de_int)) (do_none)) (da_nil))) (da_nil))))))
    (dss_one (ds_ret (de_lst (da_cons (de_var 5) (da_cons (de_var 14) (da_cons (de_tup (da_cons (de_var 1) (da_cons (de_str) (da_cons (de_callBD 0 (ok_law_pick T) (hr.mono (by omega)) (da_cons (de_lst (da_cons (de_int) (da_cons (de_ix ix_seq p_ix (de_var 6) (de_int)) (da_cons (de_int) (da_nil))))) (da_nil))) (da_nil))))) (da_nil))))))))))))))
end
end DL
set_option Elab.async false
set_option linter.all false
set_option maxRecDepth 100000
set_option maxHeartbeats 4000000
namespace DL
open PySem PySem.Spec L2 TK
open PyProof.Rows hiding St
variable [CN]
section
variable {L : Lang} {P : Program} {w : World} {K : PySem.W.Frag} {mg : Str → Option Value} {base : Heap} {C1 C2 : Addr}
def B_law_kinds : Es (L) :=
  sRet (eLst (aCons (eIsX 49 [0] (eVar 0)) (aCons (eIsX 49 [1] (eVar 0)) (aCons (eIsX 49 [2] (eVar 0)) (aCons (eIsX 49 [3] (eVar 0)) (aCons (eIsX 49 [4] (eVar 0)) (aCons (eIsX 49 [5] (eVar 0)) (aCons (eIsX 49 [6] (eVar 0)) (aCons (eIsX 49 [7] (eVar 0)) (aCons (eIsX 49 [8] (eVar 0)) (aCons (eIsX 49 [9] (eVar 0)) (aCons (eIsX 49 [10] (eVar 0)) (aCons (eIsX 49 [11] (eVar 0)) (aCons (eIsX 49 [12] (eVar 0)) (aCons (eIsX 49 [13] (eVar 0)) (aCons (eIsX 49 [14] (eVar 0)) (aCons (eIsX 49 [15] (eVar 0)) (aCons (eIsX 49 [16] (eVar 0)) (aCons (eIsX 49 [17] (eVar 0)) (aCons (eIsX 49 [18] (eVar 0)) (aCons (eIsX 49 [19] (eVar 0)) (aCons (eIsX 49 [20] (eVar 0)) (aCons (eIsX 49 [21] (eVar 0)) (aCons (eIsX 49 [22] (eVar 0)) (aCons (eIsX 49 [23] (eVar 0)) (aCons (eIsX 49 [24] (eVar 0)) (aCons (eIsX 49 [25] (eVar 0)) (aCons (eIsX 49 [26] (eVar 0)) (aCons (eIsX 49 [27] (eVar 0)) (aCons (eIsX 49 [28] (eVar 0)) (aCons (eIsX 49 [29] (eVar 0)) (aCons (eIsX 49 [30] (eVar 0)) (aCons (eIsX 49 [31] (eVar 0)) (aCons (eIsX 49 [32] (eVar 0)) (aCons (eIsX 49 [33] (eVar 0)) (aCons (eIsX 49 [34] (eVar 0)) (aCons (eIsX 49 [35] (eVar 0)) (aCons (eIsX 49 [36] (eVar 0)) (aCons (eIsX 49 [37] (eVar 0)) (aCons (eIsX 49 [38] (eVar 0)) (aCons (eIsX 49 [39] (eVar 0)) (aCons (eIsX 49 [40] (eVar 0)) (aCons (eIsX 49 [41] (eVar 0)) (aCons (eIsX 49 [42] (eVar 0)) (aCons (eIsX 49 [43] (eVar 0)) (aCons (eIsX 49 [44] (eVar 0)) (aCons (eIsX 49 [45] (eVar 0)) (aCons (eIsX 49 [46] (eVar 0)) (aCons (eIsX 49 [47] (eVar 0)) (aCons (eIsX 49 [48] (eVar 0)) (aNil)))))))))))))))))))))))))))))))))))))))))))))))))))
def F_law_kinds : Fn (L) := fnD 1 1 B_law_kinds
theorem ok_law_kinds (T : Txt K mg C1 C2) : OkD (L) P w K mg base 3 "_law_kinds" ["e"] F_law_kinds := ok_defD T.d_law_kinds sc_law_kinds fun f cdv A outer s H E hr =>
    dss_one (ds_ret (de_lst (da_cons (de_isK T.i_BadName (de_var 0) T.b_isinstance v_isinstance) (da_cons (de_isK T.i_BadPaper (de_var 0) T.b_isinstance v_isinstance) (da_cons (de_isK T.i_BadReadings (de_var 0) T.b_isinstance v_isinstance) (da_cons (de_isK T.i_TooWide (de_var 0) T.b_isinstance v_isinstance) (da_cons (de_isK T.i_TooGreat (de_var 0) T.b_isinstance v_isinstance) (da_cons (de_isK T.i_NotPositive (de_var 0) T.b_isinstance v_isinstance) (da_cons (de_isK T.i_NotSettling (de_var 0) T.b_isinstance v_isinstance) (da_cons (de_isK T.i_NamedTwice (de_var 0) T.b_isinstance v_isinstance) (da_cons (de_isK T.i_NotLooked (de_var 0) T.b_isinstance v_isinstance) (da_cons (de_isK T.i_BadProgram (de_var 0) T.b_isinstance v_isinstance) (da_cons (de_isK T.i_BadLine (de_var 0) T.b_isinstance v_isinstance) (da_cons (de_isK T.i_NoExample (de_var 0) T.b_isinstance v_isinstance) (da_cons (de_isK T.i_BadMoment (de_var 0) T.b_isinstance v_isinstance) (da_cons (de_isK T.i_NoCell (de_var 0) T.b_isinstance v_isinstance) (da_cons (de_isK T.i_NoExchange (de_var 0) T.b_isinstance v_isinstance) (da_cons (de_isK T.i_TooMany (de_var 0) T.b_isinstance v_isinstance) (da_cons (de_isK T.i_BadModulus (de_var 0) T.b_isinstance v_isinstance) (da_cons (de_isK T.i_NoLine (de_var 0) T.b_isinstance v_isinstance) (da_cons (de_isK T.i_ShutLine (de_var 0) T.b_isinstance v_isinstance) (da_cons (de_isK T.i_NoPart (de_var 0) T.b_isinstance v_isinstance) (da_cons (de_isK T.i_BadSize (de_var 0) T.b_isinstance v_isinstance) (da_cons (de_isK T.i_BadView (de_var 0) T.b_isinstance v_isinstance) (da_cons (de_isK T.i_BadText (de_var 0) T.b_isinstance v_isinstance) (da_cons (de_isK T.i_NotTold (de_var 0) T.b_isinstance v_isinstance) (da_cons (de_isK T.i_UnlikeSizes (de_var 0) T.b_isinstance v_isinstance) (da_cons (de_isK T.i_Unlike (de_var 0) T.b_isinstance v_isinstance) (da_cons (de_isK T.i_UnlikeHeads (de_var 0) T.b_isinstance v_isinstance) (da_cons (de_isK T.i_Unfit (de_var 0) T.b_isinstance v_isinstance) (da_cons (de_isK T.i_BadBase (de_var 0) T.b_isinstance v_isinstance) (da_cons (de_isK T.i_NotNeeded (de_var 0) T.b_isinstance v_isinstance) (da_cons (de_isK T.i_NotEnough (de_var 0) T.b_isinstance v_isinstance) (da_cons (de_isK T.i_NoTable (de_var 0) T.b_isinstance v_isinstance) (da_cons (de_isK T.i_NotShown (de_var 0) T.b_isinstance v_isinstance) (da_cons (de_isK T.i_NotPlain (de_var 0) T.b_isinstance v_isinstance) (da_cons (de_isK T.i_NotOpen (de_var 0) T.b_isinstance v_isinstance) (da_cons (de_isK T.i_BadEntry (de_var 0) T.b_isinstance v_isinstance) (da_cons (de_isK T.i_NotShuttable (de_var 0) T.b_isinstance v_isinstance) (da_cons (de_isK T.i_NoNote (de_var 0) T.b_isinstance v_isinstance) (da_cons (de_isK T.i_BadStep (de_var 0) T.b_isinstance v_isinstance) (da_cons (de_isK T.i_NoHouse (de_var 0) T.b_isinstance v_isinstance) (da_cons (de_isK T.i_NoLetter (de_var 0) T.b_isinstance v_isinstance) (da_cons (de_isK T.i_NoNotice (de_var 0) T.b_isinstance v_isinstance) (da_cons (de_isK T.i_NotShownIn (de_var 0) T.b_isinstance v_isinstance) (da_cons (de_isK T.i_BadNest (de_var 0) T.b_isinstance v_isinstance) (da_cons (de_isK T.i_UnlikeHouses (de_var 0) T.b_isinstance v_isinstance) (da_cons (de_isK T.i_OtherHouse (de_var 0) T.b_isinstance v_isinstance) (da_cons (de_isK T.i_NotTaken (de_var 0) T.b_isinstance v_isinstance) (da_cons (de_isK T.i_NoExhibit (de_var 0) T.b_isinstance v_isinstance) (da_cons (de_isK T.i_Faulty (de_var 0) T.b_isinstance v_isinstance) (da_nil))))))))))))))))))))))))))))))))))))))))))))))))))))
def B_law_made : Es (L) :=
  sSeq (sSet 0 (eLst (aCons (eMkE 0 ["text"] (aCons (eC (.str "a")) (aNil))) (aCons (eMkE 1 ["text"] (aCons (eC (.str "a")) (aNil))) (aCons (eMk0 2) (aCons (eMkE 3 ["count"] (aCons (eC (.int 11)) (aNil))) (aCons (eMk0 4) (aNil))))))))
  (sSeq (sSet 0 (eOpL gCat (eVar 0) (eLst (aCons (eMkE 5 ["choice", "name"] (aCons (eTup (aNil)) (aCons (eTup (aCons (eC (.str "A")) (aCons (eC (.int 1)) (aCons (eC (.str "")) (aNil))))) (aNil)))) (aCons (eMkE 6 ["choice"] (aCons (eTup (aNil)) (aNil))) (aCons (eMkE 7 ["table"] (aCons (eC (.str "p")) (aNil))) (aCons (eMkE 8 ["table", "key"] (aCons (eC (.str "p")) (aCons (eC (.int 3)) (aNil)))) (aNil))))))))
  (sSeq (sSet 0 (eOpL gCat (eVar 0) (eLst (aCons (eMkE 9 ["text"] (aCons (eC (.str "a")) (aNil))) (aCons (eMkE 10 ["text"] (aCons (eC (.str "a")) (aNil))) (aCons (eMk0 11) (aCons (eMkE 12 ["moment"] (aCons (eC (.int 0)) (aNil))) (aCons (eMkE 13 ["cell"] (aCons (eC (.str "p6")) (aNil))) (aCons (eMkE 14 ["number"] (aCons (eC (.int 0)) (aNil))) (aNil))))))))))
  (sSeq (sSet 0 (eOpL gCat (eVar 0) (eLst (aCons (eMkE 15 ["what"] (aCons (eC (.str "lines")) (aNil))) (aCons (eMkE 16 ["modulus"] (aCons (eC (.int 1)) (aNil))) (aCons (eMkE 17 ["number"] (aCons (eC (.int 60)) (aNil))) (aCons (eMkE 18 ["number"] (aCons (eC (.int 1)) (aNil))) (aCons (eMkE 19 ["start", "width"] (aCons (eC (.int 1)) (aCons (eC (.int 2)) (aNil)))) (aCons (eMkE 20 ["size"] (aCons (eC (.int 0)) (aNil))) (aNil))))))))))
  (sSeq (sSet 0 (eOpL gCat (eVar 0) (eLst (aCons (eMk0 21) (aCons (eMkE 22 ["place"] (aCons (eC (.int 0)) (aNil))) (aCons (eMkE 23 ["start", "width"] (aCons (eC (.int 0)) (aCons (eC (.int 1)) (aNil)))) (aCons (eMkE 24 ["first", "second"] (aCons (eC (.int 1)) (aCons (eC (.int 2)) (aNil)))) (aCons (eMkE 25 ["start", "width"] (aCons (eC (.int 0)) (aCons (eC (.int 1)) (aNil)))) (aCons (eMk0 26) (aNil))))))))))
  (sSeq (sSet 0 (eOpL gCat (eVar 0) (eLst (aCons (eMkE 27 ["number", "word"] (aCons (eC (.int 0)) (aCons (eC (.str "found")) (aNil)))) (aCons (eMkE 28 ["base"] (aCons (eC (.int 1)) (aNil))) (aCons (eMkE 29 ["cell"] (aCons (eC (.str "!1")) (aNil))) (aCons (eMkE 30 ["start", "width"] (aCons (eC (.int 0)) (aCons (eC (.int 1)) (aNil)))) (aCons (eMkE 31 ["table"] (aCons (eC (.str "z")) (aNil))) (aNil)))))))))
  (sSeq (sSet 0 (eOpL gCat (eVar 0) (eLst (aCons (eMkE 32 ["number"] (aCons (eC (.int 1)) (aNil))) (aCons (eMkE 33 ["number"] (aCons (eC (.int 0)) (aNil))) (aCons (eMk0 34) (aCons (eMk0 35) (aCons (eMkE 36 ["number"] (aCons (eC (.int 0)) (aNil))) (aCons (eMkE 37 ["index"] (aCons (eC (.int 0)) (aNil))) (aNil))))))))))
  (sSeq (sSet 0 (eOpL gCat (eVar 0) (eLst (aCons (eMkE 38 ["place"] (aCons (eC (.int 0)) (aNil))) (aCons (eMkE 39 ["house"] (aCons (eC (.str "H")) (aNil))) (aCons (eMkE 40 ["key"] (aCons (eTup (aCons (eC (.str "A")) (aCons (eC (.int 1)) (aNil)))) (aNil))) (aCons (eMkE 41 ["key"] (aCons (eTup (aCons (eC (.str "A")) (aCons (eC (.str "B")) (aCons (eC (.str "A")) (aCons (eC (.str "bob")) (aCons (eC (.int 1)) (aNil))))))) (aNil))) (aNil))))))))
  (sSeq (sSet 0 (eOpL gCat (eVar 0) (eLst (aCons (eMkE 42 ["house", "number"] (aCons (eC (.str "A")) (aCons (eC (.int 1)) (aNil)))) (aCons (eMkE 43 ["word", "house", "number"] (aCons (eC (.str "root")) (aCons (eC (.str "A")) (aCons (eC (.int 0)) (aNil))))) (aCons (eMk0 44) (aCons (eMk0 45) (aCons (eMk0 46) (aNil)))))))))
  (sRet (eOpL gCat (eVar 0) (eLst (aCons (eMkE 47 ["index"] (aCons (eC (.int 0)) (aNil))) (aCons (eMkE 48 ["first", "second"] (aCons (eC (.int 0)) (aCons (eC (.int 1)) (aNil)))) (aNil))))))))))))))
def F_law_made : Fn (L) := fnD 0 1 B_law_made
theorem ok_law_made (T : Txt K mg C1 C2) : OkD (L) P w K mg base 3 "_law_made" [] F_law_made := ok_defD T.d_law_made sc_law_made fun f cdv A outer s H E hr =>
    dss_cons (ds_set 0 sc_law_made.nd (de_lst (da_cons (de_mkE (x_BadName T) (hr.mono (by omega)) (da_cons (de_str) (da_nil))) (da_cons (de_mkE (x_BadPaper T) (hr.mono (by omega)) (da_cons (de_str) (da_nil))) (da_cons (de_mk0 T.z_BadReadings) (da_cons (de_mkE (x_TooWide T) (hr.mono (by omega)) (da_cons (de_int) (da_nil))) (da_cons (de_mk0 T.z_TooGreat) (da_nil))))))))
    (dss_cons (ds_set 0 sc_law_made.nd (de_opL op_cat n_cat (de_var 0) (de_lst (da_cons (de_mkE (x_NotPositive T) (hr.mono (by omega)) (da_cons (de_tup (da_nil)) (da_cons (de_tup (da_cons (de_str) (da_cons (de_int) (da_cons (de_str) (da_nil))))) (da_nil)))) (da_cons (de_mkE (x_NotSettling T) (hr.mono (by omega)) (da_cons (de_tup (da_nil)) (da_nil))) (da_cons (de_mkE (x_NamedTwice T) (hr.mono (by omega)) (da_cons (de_str) (da_nil))) (da_cons (de_mkE (x_NotLooked T) (hr.mono (by omega)) (da_cons (de_str) (da_cons (de_int) (da_nil)))) (da_nil))))))))
    (dss_cons (ds_set 0 sc_law_made.nd (de_opL op_cat n_cat (de_var 0) (de_lst (da_cons (de_mkE (x_BadProgram T) (hr.mono (by omega)) (da_cons (de_str) (da_nil))) (da_cons (de_mkE (x_BadLine T) (hr.mono (by omega)) (da_cons (de_str) (da_nil))) (da_cons (de_mk0 T.z_NoExample) (da_cons (de_mkE (x_BadMoment T) (hr.mono (by omega)) (da_cons (de_int) (da_nil))) (da_cons (de_mkE (x_NoCell T) (hr.mono (by omega)) (da_cons (de_str) (da_nil))) (da_cons (de_mkE (x_NoExchange T) (hr.mono (by omega)) (da_cons (de_int) (da_nil))) (da_nil))))))))))
    (dss_cons (ds_set 0 sc_law_made.nd (de_opL op_cat n_cat (de_var 0) (de_lst (da_cons (de_mkE (x_TooMany T) (hr.mono (by omega)) (da_cons (de_str) (da_nil))) (da_cons (de_mkE (x_BadModulus T) (hr.mono (by omega)) (da_cons (de_int) (da_nil))) (da_cons (de_mkE (x_NoLine T) (hr.mono (by omega)) (da_cons (de_int) (da_nil))) (da_cons (de_mkE (x_ShutLine T) (hr.mono (by omega)) (da_cons (de_int) (da_nil))) (da_cons (de_mkE (x_NoPart T) (hr.mono (by omega)) (da_cons (de_int) (da_cons (de_int) (da_nil)))) (da_cons (de_mkE (x_BadSize T) (hr.mono (by omega)) (da_cons (de_int) (da_nil))) (da_nil))))))))))
    (dss_cons (ds_set 0 sc_law_made.nd (de_opL op_cat n_cat (de_var 0) (de_lst (da_cons (de_mk0 T.z_BadView) (da_cons (de_mkE (x_BadText T) (hr.mono (by omega)) (da_cons (de_int) (da_nil))) (da_cons (de_mkE (x_NotTold T) (hr.mono (by omega)) (da_cons (de_int) (da_cons (de_int) (da_nil)))) (da_cons (de_mkE (x_UnlikeSizes T) (hr.mono (by omega)) (da_cons (de_int) (da_cons (de_int) (da_nil)))) (da_cons (de_mkE (x_Unlike T) (hr.mono (by omega)) (da_cons (de_int) (da_cons (de_int) (da_nil)))) (da_cons (de_mk0 T.z_UnlikeHeads) (da_nil))))))))))
    (dss_cons (ds_set 0 sc_law_made.nd (de_opL op_cat n_cat (de_var 0) (de_lst (da_cons (de_mkE (x_Unfit T) (hr.mono (by omega)) (da_cons (de_int) (da_cons (de_str) (da_nil)))) (da_cons (de_mkE (x_BadBase T) (hr.mono (by omega)) (da_cons (de_int) (da_nil))) (da_cons (de_mkE (x_NotNeeded T) (hr.mono (by omega)) (da_cons (de_str) (da_nil))) (da_cons (de_mkE (x_NotEnough T) (hr.mono (by omega)) (da_cons (de_int) (da_cons (de_int) (da_nil)))) (da_cons (de_mkE (x_NoTable T) (hr.mono (by omega)) (da_cons (de_str) (da_nil))) (da_nil)))))))))
    (dss_cons (ds_set 0 sc_law_made.nd (de_opL op_cat n_cat (de_var 0) (de_lst (da_cons (de_mkE (x_NotShown T) (hr.mono (by omega)) (da_cons (de_int) (da_nil))) (da_cons (de_mkE (x_NotPlain T) (hr.mono (by omega)) (da_cons (de_int) (da_nil))) (da_cons (de_mk0 T.z_NotOpen) (da_cons (de_mk0 T.z_BadEntry) (da_cons (de_mkE (x_NotShuttable T) (hr.mono (by omega)) (da_cons (de_int) (da_nil))) (da_cons (de_mkE (x_NoNote T) (hr.mono (by omega)) (da_cons (de_int) (da_nil))) (da_nil))))))))))
    (dss_cons (ds_set 0 sc_law_made.nd (de_opL op_cat n_cat (de_var 0) (de_lst (da_cons (de_mkE (x_BadStep T) (hr.mono (by omega)) (da_cons (de_int) (da_nil))) (da_cons (de_mkE (x_NoHouse T) (hr.mono (by omega)) (da_cons (de_str) (da_nil))) (da_cons (de_mkE (x_NoLetter T) (hr.mono (by omega)) (da_cons (de_tup (da_cons (de_str) (da_cons (de_int) (da_nil)))) (da_nil))) (da_cons (de_mkE (x_NoNotice T) (hr.mono (by omega)) (da_cons (de_tup (da_cons (de_str) (da_cons (de_str) (da_cons (de_str) (da_cons (de_str) (da_cons (de_int) (da_nil))))))) (da_nil))) (da_nil))))))))
    (dss_cons (ds_set 0 sc_law_made.nd (de_opL op_cat n_cat (de_var 0) (de_lst (da_cons (de_mkE (x_NotShownIn T) (hr.mono (by omega)) (da_cons (de_str) (da_cons (de_int) (da_nil)))) (da_cons (de_mkE (x_BadNest T) (hr.mono (by omega)) (da_cons (de_str) (da_cons (de_str) (da_cons (de_int) (da_nil))))) (da_cons (de_mk0 T.z_UnlikeHouses) (da_cons (de_mk0 T.z_OtherHouse) (da_cons (de_mk0 T.z_NotTaken) (da_nil)))))))))
    (dss_one (ds_ret (de_opL op_cat n_cat (de_var 0) (de_lst (da_cons (de_mkE (x_NoExhibit T) (hr.mono (by omega)) (da_cons (de_int) (da_nil))) (da_cons (de_mkE (x_Faulty T) (hr.mono (by omega)) (da_cons (de_int) (da_cons (de_int) (da_nil)))) (da_nil)))))))))))))))
def B_law_texts : Es (L) :=
  sSeq (sSet 1 (eLst (aCons (eFld 0 "text" (eMkE 0 ["text"] (aCons (eVar 0) (aNil)))) (aCons (eFld 1 "text" (eMkE 1 ["text"] (aCons (eVar 0) (aNil)))) (aCons (eFld 9 "text" (eMkE 9 ["text"] (aCons (eVar 0) (aNil)))) (aCons (eFld 10 "text" (eMkE 10 ["text"] (aCons (eVar 0) (aNil)))) (aNil)))))))
  (sSeq (sSet 1 (eOpL gCat (eVar 1) (eLst (aCons (eFld 7 "table" (eMkE 7 ["table"] (aCons (eVar 0) (aNil)))) (aCons (eFld 8 "table" (eMkE 8 ["table", "key"] (aCons (eVar 0) (aCons (eC (.int 3)) (aNil))))) (aCons (eFld 13 "cell" (eMkE 13 ["cell"] (aCons (eVar 0) (aNil)))) (aNil)))))))
  (sSeq (sSet 1 (eOpL gCat (eVar 1) (eLst (aCons (eFld 15 "what" (eMkE 15 ["what"] (aCons (eVar 0) (aNil)))) (aCons (eFld 27 "word" (eMkE 27 ["number", "word"] (aCons (eC (.int 1)) (aCons (eVar 0) (aNil))))) (aCons (eFld 29 "cell" (eMkE 29 ["cell"] (aCons (eVar 0) (aNil)))) (aNil)))))))
  (sSeq (sSet 1 (eOpL gCat (eVar 1) (eLst (aCons (eFld 31 "table" (eMkE 31 ["table"] (aCons (eVar 0) (aNil)))) (aCons (eFld 39 "house" (eMkE 39 ["house"] (aCons (eVar 0) (aNil)))) (aCons (eFld 42 "house" (eMkE 42 ["house", "number"] (aCons (eVar 0) (aCons (eC (.int 1)) (aNil))))) (aNil)))))))
  (sRet (eOpL gCat (eVar 1) (eLst (aCons (eFld 43 "word" (eMkE 43 ["word", "house", "number"] (aCons (eVar 0) (aCons (eC (.str "B")) (aCons (eC (.int 1)) (aNil)))))) (aCons (eFld 43 "house" (eMkE 43 ["word", "house", "number"] (aCons (eC (.str "past")) (aCons (eVar 0) (aCons (eC (.int 1)) (aNil)))))) (aNil)))))))))
def F_law_texts : Fn (L) := fnD 1 2 B_law_texts
theorem ok_law_texts (T : Txt K mg C1 C2) : OkD (L) P w K mg base 3 "_law_texts" ["t"] F_law_texts := ok_defD T.d_law_texts sc_law_texts fun f cdv A outer s H E hr =>
    dss_cons (ds_set 1 sc_law_texts.nd (de_lst (da_cons (de_fld (x_BadName T) (by decide) (de_mkE (x_BadName T) (hr.mono (by omega)) (da_cons (de_var 0) (da_nil)))) (da_cons (de_fld (x_BadPaper T) (by decide) (de_mkE (x_BadPaper T) (hr.mono (by omega)) (da_cons (de_var 0) (da_nil)))) (da_cons (de_fld (x_BadProgram T) (by decide) (de_mkE (x_BadProgram T) (hr.mono (by omega)) (da_cons (de_var 0) (da_nil)))) (da_cons (de_fld (x_BadLine T) (by decide) (de_mkE (x_BadLine T) (hr.mono (by omega)) (da_cons (de_var 0) (da_nil)))) (da_nil)))))))
    (dss_cons (ds_set 1 sc_law_texts.nd (de_opL op_cat n_cat (de_var 1) (de_lst (da_cons (de_fld (x_NamedTwice T) (by decide) (de_mkE (x_NamedTwice T) (hr.mono (by omega)) (da_cons (de_var 0) (da_nil)))) (da_cons (de_fld (x_NotLooked T) (by decide) (de_mkE (x_NotLooked T) (hr.mono (by omega)) (da_cons (de_var 0) (da_cons (de_int) (da_nil))))) (da_cons (de_fld (x_NoCell T) (by decide) (de_mkE (x_NoCell T) (hr.mono (by omega)) (da_cons (de_var 0) (da_nil)))) (da_nil)))))))
    (dss_cons (ds_set 1 sc_law_texts.nd (de_opL op_cat n_cat (de_var 1) (de_lst (da_cons (de_fld (x_TooMany T) (by decide) (de_mkE (x_TooMany T) (hr.mono (by omega)) (da_cons (de_var 0) (da_nil)))) (da_cons (de_fld (x_Unfit T) (by decide) (de_mkE (x_Unfit T) (hr.mono (by omega)) (da_cons (de_int) (da_cons (de_var 0) (da_nil))))) (da_cons (de_fld (x_NotNeeded T) (by decide) (de_mkE (x_NotNeeded T) (hr.mono (by omega)) (da_cons (de_var 0) (da_nil)))) (da_nil)))))))
    (dss_cons (ds_set 1 sc_law_texts.nd (de_opL op_cat n_cat (de_var 1) (de_lst (da_cons (de_fld (x_NoTable T) (by decide) (de_mkE (x_NoTable T) (hr.mono (by omega)) (da_cons (de_var 0) (da_nil)))) (da_cons (de_fld (x_NoHouse T) (by decide) (de_mkE (x_NoHouse T) (hr.mono (by omega)) (da_cons (de_var 0) (da_nil)))) (da_cons (de_fld (x_NotShownIn T) (by decide) (de_mkE (x_NotShownIn T) (hr.mono (by omega)) (da_cons (de_var 0) (da_cons (de_int) (da_nil))))) (da_nil)))))))
    (dss_one (ds_ret (de_opL op_cat n_cat (de_var 1) (de_lst (da_cons (de_fld (x_BadNest T) (by decide) (de_mkE (x_BadNest T) (hr.mono (by omega)) (da_cons (de_var 0) (da_cons (de_str) (da_cons (de_int) (da_nil)))))) (da_cons (de_fld (x_BadNest T) (by decide) (de_mkE (x_BadNest T) (hr.mono (by omega)) (da_cons (de_str) (da_cons (de_var 0) (da_cons (de_int) (da_nil)))))) (da_nil))))))))))
def B_law_numbers : Es (L) :=
  sSeq (sSet 2 (eLst (aCons (eFld 3 "count" (eMkE 3 ["count"] (aCons (eVar 0) (aNil)))) (aCons (eFld 8 "key" (eMkE 8 ["table", "key"] (aCons (eC (.str "p")) (aCons (eVar 0) (aNil))))) (aCons (eFld 12 "moment" (eMkE 12 ["moment"] (aCons (eVar 0) (aNil)))) (aNil))))))
  (sSeq (sSet 2 (eOpL gCat (eVar 2) (eLst (aCons (eFld 14 "number" (eMkE 14 ["number"] (aCons (eVar 0) (aNil)))) (aCons (eFld 16 "modulus" (eMkE 16 ["modulus"] (aCons (eVar 0) (aNil)))) (aCons (eFld 17 "number" (eMkE 17 ["number"] (aCons (eVar 0) (aNil)))) (aNil)))))))
  (sSeq (sSet 2 (eOpL gCat (eVar 2) (eLst (aCons (eFld 18 "number" (eMkE 18 ["number"] (aCons (eVar 0) (aNil)))) (aCons (eFld 20 "size" (eMkE 20 ["size"] (aCons (eVar 0) (aNil)))) (aCons (eFld 22 "place" (eMkE 22 ["place"] (aCons (eVar 0) (aNil)))) (aNil)))))))
  (sSeq (sSet 2 (eOpL gCat (eVar 2) (eLst (aCons (eFld 19 "start" (eMkE 19 ["start", "width"] (aCons (eVar 0) (aCons (eVar 1) (aNil))))) (aCons (eFld 19 "width" (eMkE 19 ["start", "width"] (aCons (eVar 1) (aCons (eVar 0) (aNil))))) (aCons (eFld 28 "base" (eMkE 28 ["base"] (aCons (eVar 0) (aNil)))) (aNil)))))))
  (sSeq (sSet 2 (eOpL gCat (eVar 2) (eLst (aCons (eFld 23 "start" (eMkE 23 ["start", "width"] (aCons (eVar 0) (aCons (eVar 1) (aNil))))) (aCons (eFld 23 "width" (eMkE 23 ["start", "width"] (aCons (eVar 1) (aCons (eVar 0) (aNil))))) (aCons (eFld 32 "number" (eMkE 32 ["number"] (aCons (eVar 0) (aNil)))) (aNil)))))))
  (sSeq (sSet 2 (eOpL gCat (eVar 2) (eLst (aCons (eFld 24 "first" (eMkE 24 ["first", "second"] (aCons (eVar 0) (aCons (eVar 1) (aNil))))) (aCons (eFld 24 "second" (eMkE 24 ["first", "second"] (aCons (eVar 1) (aCons (eVar 0) (aNil))))) (aNil))))))
  (sSeq (sSet 2 (eOpL gCat (eVar 2) (eLst (aCons (eFld 25 "start" (eMkE 25 ["start", "width"] (aCons (eVar 0) (aCons (eVar 1) (aNil))))) (aCons (eFld 25 "width" (eMkE 25 ["start", "width"] (aCons (eVar 1) (aCons (eVar 0) (aNil))))) (aCons (eFld 33 "number" (eMkE 33 ["number"] (aCons (eVar 0) (aNil)))) (aNil)))))))
  (sSeq (sSet 2 (eOpL gCat (eVar 2) (eLst (aCons (eFld 30 "start" (eMkE 30 ["start", "width"] (aCons (eVar 0) (aCons (eVar 1) (aNil))))) (aCons (eFld 30 "width" (eMkE 30 ["start", "width"] (aCons (eVar 1) (aCons (eVar 0) (aNil))))) (aNil))))))
  (sSeq (sSet 2 (eOpL gCat (eVar 2) (eLst (aCons (eFld 27 "number" (eMkE 27 ["number", "word"] (aCons (eVar 0) (aCons (eC (.str "head")) (aNil))))) (aCons (eFld 36 "number" (eMkE 36 ["number"] (aCons (eVar 0) (aNil)))) (aCons (eFld 37 "index" (eMkE 37 ["index"] (aCons (eVar 0) (aNil)))) (aNil)))))))
  (sSeq (sSet 2 (eOpL gCat (eVar 2) (eLst (aCons (eFld 38 "place" (eMkE 38 ["place"] (aCons (eVar 0) (aNil)))) (aCons (eFld 47 "index" (eMkE 47 ["index"] (aCons (eVar 0) (aNil)))) (aCons (eFld 42 "number" (eMkE 42 ["house", "number"] (aCons (eC (.str "B")) (aCons (eVar 0) (aNil))))) (aNil)))))))
  (sSeq (sSet 2 (eOpL gCat (eVar 2) (eLst (aCons (eFld 43 "number" (eMkE 43 ["word", "house", "number"] (aCons (eC (.str "past")) (aCons (eC (.str "B")) (aCons (eVar 0) (aNil)))))) (aCons (eFld 48 "first" (eMkE 48 ["first", "second"] (aCons (eVar 0) (aCons (eVar 1) (aNil))))) (aNil))))))
  (sRet (eOpL gCat (eVar 2) (eLst (aCons (eFld 48 "second" (eMkE 48 ["first", "second"] (aCons (eVar 1) (aCons (eVar 0) (aNil))))) (aNil)))))))))))))))
def F_law_numbers : Fn (L) := fnD 2 3 B_law_numbers
theorem ok_law_numbers (T : Txt K mg C1 C2) : OkD (L) P w K mg base 3 "_law_numbers" ["m", "n"] F_law_numbers := ok_defD T.d_law_numbers sc_law_numbers fun f cdv A outer s H E hr =>
    dss_cons (ds_set 2 sc_law_numbers.nd (de_lst (da_cons (de_fld (x_TooWide T) (by decide) (de_mkE (x_TooWide T) (hr.mono (by omega)) (da_cons (de_var 0) (da_nil)))) (da_cons (de_fld (x_NotLooked T) (by decide) (de_mkE (x_NotLooked T) (hr.mono (by omega)) (da_cons (de_str) (da_cons (de_var 0) (da_nil))))) (da_cons (de_fld (x_BadMoment T) (by decide) (de_mkE (x_BadMoment T) (hr.mono (by omega)) (da_cons (de_var 0) (da_nil)))) (da_nil))))))
    (dss_cons (ds_set 2 sc_law_numbers.nd (de_opL op_cat n_cat (de_var 2) (de_lst (da_cons (de_fld (x_NoExchange T) (by decide) (de_mkE (x_NoExchange T) (hr.mono (by omega)) (da_cons (de_var 0) (da_nil)))) (da_cons (de_fld (x_BadModulus T) (by decide) (de_mkE (x_BadModulus T) (hr.mono (by omega)) (da_cons (de_var 0) (da_nil)))) (da_cons (de_fld (x_NoLine T) (by decide) (de_mkE (x_NoLine T) (hr.mono (by omega)) (da_cons (de_var 0) (da_nil)))) (da_nil)))))))
    (dss_cons (ds_set 2 sc_law_numbers.nd (de_opL op_cat n_cat (de_var 2) (de_lst (da_cons (de_fld (x_ShutLine T) (by decide) (de_mkE (x_ShutLine T) (hr.mono (by omega)) (da_cons (de_var 0) (da_nil)))) (da_cons (de_fld (x_BadSize T) (by decide) (de_mkE (x_BadSize T) (hr.mono (by omega)) (da_cons (de_var 0) (da_nil)))) (da_cons (de_fld (x_BadText T) (by decide) (de_mkE (x_BadText T) (hr.mono (by omega)) (da_cons (de_var 0) (da_nil)))) (da_nil)))))))
    (dss_cons (ds_set 2 sc_law_numbers.nd (de_opL op_cat n_cat (de_var 2) (de_lst (da_cons (de_fld (x_NoPart T) (by decide) (de_mkE (x_NoPart T) (hr.mono (by omega)) (da_cons (de_var 0) (da_cons (de_var 1) (da_nil))))) (da_cons (de_fld (x_NoPart T) (by decide) (de_mkE (x_NoPart T) (hr.mono (by omega)) (da_cons (de_var 1) (da_cons (de_var 0) (da_nil))))) (da_cons (de_fld (x_BadBase T) (by decide) (de_mkE (x_BadBase T) (hr.mono (by omega)) (da_cons (de_var 0) (da_nil)))) (da_nil)))))))
    (dss_cons (ds_set 2 sc_law_numbers.nd (de_opL op_cat n_cat (de_var 2) (de_lst (da_cons (de_fld (x_NotTold T) (by decide) (de_mkE (x_NotTold T) (hr.mono (by omega)) (da_cons (de_var 0) (da_cons (de_var 1) (da_nil))))) (da_cons (de_fld (x_NotTold T) (by decide) (de_mkE (x_NotTold T) (hr.mono (by omega)) (da_cons (de_var 1) (da_cons (de_var 0) (da_nil))))) (da_cons (de_fld (x_NotShown T) (by decide) (de_mkE (x_NotShown T) (hr.mono (by omega)) (da_cons (de_var 0) (da_nil)))) (da_nil)))))))
    (dss_cons (ds_set 2 sc_law_numbers.nd (de_opL op_cat n_cat (de_var 2) (de_lst (da_cons (de_fld (x_UnlikeSizes T) (by decide) (de_mkE (x_UnlikeSizes T) (hr.mono (by omega)) (da_cons (de_var 0) (da_cons (de_var 1) (da_nil))))) (da_cons (de_fld (x_UnlikeSizes T) (by decide) (de_mkE (x_UnlikeSizes T) (hr.mono (by omega)) (da_cons (de_var 1) (da_cons (de_var 0) (da_nil))))) (da_nil))))))
    (dss_cons (ds_set 2 sc_law_numbers.nd (de_opL op_cat n_cat (de_var 2) (de_lst (da_cons (de_fld (x_Unlike T) (by decide) (de_mkE (x_Unlike T) (hr.mono (by omega)) (da_cons (de_var 0) (da_cons (de_var 1) (da_nil))))) (da_cons (de_fld (x_Unlike T) (by decide) (de_mkE (x_Unlike T) (hr.mono (by omega)) (da_cons (de_var 1) (da_cons (de_var 0) (da_nil))))) (da_cons (de_fld (x_NotPlain T) (by decide) (de_mkE (x_NotPlain T) (hr.mono (by omega)) (da_cons (de_var 0) (da_nil)))) (da_nil)))))))
    (dss_cons (ds_set 2 sc_law_numbers.nd (de_opL op_cat n_cat (de_var 2) (de_lst (da_cons (de_fld (x_NotEnough T) (by decide) (de_mkE (x_NotEnough T) (hr.mono (by omega)) (da_cons (de_var 0) (da_cons (de_var 1) (da_nil))))) (da_cons (de_fld (x_NotEnough T) (by decide) (de_mkE (x_NotEnough T) (hr.mono (by omega)) (da_cons (de_var 1) (da_cons (de_var 0) (da_nil))))) (da_nil))))))
    (dss_cons (ds_set 2 sc_law_numbers.nd (de_opL op_cat n_cat (de_var 2) (de_lst (da_cons (de_fld (x_Unfit T) (by decide) (de_mkE (x_Unfit T) (hr.mono (by omega)) (da_cons (de_var 0) (da_cons (de_str) (da_nil))))) (da_cons (de_fld (x_NotShuttable T) (by decide) (de_mkE (x_NotShuttable T) (hr.mono (by omega)) (da_cons (de_var 0) (da_nil)))) (da_cons (de_fld (x_NoNote T) (by decide) (de_mkE (x_NoNote T) (hr.mono (by omega)) (da_cons (de_var 0) (da_nil)))) (da_nil)))))))
    (dss_cons (ds_set 2 sc_law_numbers.nd (de_opL op_cat n_cat (de_var 2) (de_lst (da_cons (de_fld (x_BadStep T) (by decide) (de_mkE (x_BadStep T) (hr.mono (by omega)) (da_cons (de_var 0) (da_nil)))) (da_cons (de_fld (x_NoExhibit T) (by decide) (de_mkE (x_NoExhibit T) (hr.mono (by omega)) (da_cons (de_var 0) (da_nil)))) (da_cons (de_fld (x_NotShownIn T) (by decide) (de_mkE (x_NotShownIn T) (hr.mono (by omega)) (da_cons (de_str) (da_cons (de_var 0) (da_nil))))) (da_nil)))))))
    (dss_cons (ds_set 2 sc_law_numbers.nd (de_opL op_cat n_cat (de_var 2) (de_lst (da_cons (de_fld (x_BadNest T) (by decide) (de_mkE (x_BadNest T) (hr.mono (by omega)) (da_cons (de_str) (da_cons (de_str) (da_cons (de_var 0) (da_nil)))))) (da_cons (de_fld (x_Faulty T) (by decide) (de_mkE (x_Faulty T) (hr.mono (by omega)) (da_cons (de_var 0) (da_cons (de_var 1) (da_nil))))) (da_nil))))))
    (dss_one (ds_ret (de_opL op_cat n_cat (de_var 2) (de_lst (da_cons (de_fld (x_Faulty T) (by decide) (de_mkE (x_Faulty T) (hr.mono (by omega)) (da_cons (de_var 1) (da_cons (de_var 0) (da_nil))))) (da_nil))))))))))))))))
def B_law_errors : Es (L59 K C1 C2) :=
  sSeq (sSet 2 (eCallB 0 (F_law_pick) (aCons (eLst (aCons (eC (.str "p")) (aCons (eC (.str "")) (aCons (eC (.str "A7.bob")) (aCons (eC (.str "found")) (aCons (eC (.str "of")) (aNil))))))) (aNil))))
  (sSeq (sSet 3 (eOp gAdd (eC (.int 1)) (eCallB 0 (F_law_draw) (aCons (eC (.int 400)) (aNil)))))
  (sSeq (sSet 4 (eOp gAdd (eOp gAdd (eVar 3) (eC (.int 1))) (eCallB 0 (F_law_draw) (aCons (eC (.int 60)) (aNil)))))
  (sSeq (sSet 5 (eCall (F_law_made) aNil))
  (sSeq (sFor (iR1 (aCons (eCB cLen (aCons (eVar 5) (aNil))) (aNil))) (uName 6)
    (sSeq (sIf (tstOr (tstNot (tst (eIsX 49 (List.range 49) (eOp gIx (eVar 5) (eVar 6))))) (tstNot (tst (eIsX 49 (List.range 49) (eOp gIx (eVar 5) (eVar 6))))))
    (sRet (eC (.bool false)))
    (sNil))
  (sIf (tst (eOp gNe (eCall (F_law_kinds) (aCons (eOp gIx (eVar 5) (eVar 6)) (aNil))) (eLc [11] (iR1 (aCons (eCB cLen (aCons (eVar 5) (aNil))) (aNil))) (uName 11) cYes (eOp gEq (eVar 11) (eVar 6)))))
    (sRet (eC (.bool false)))
    (sNil))))
  (sSeq (sIf (tstNot (tst (eCall (F_law_same 16) (aCons (eCall (F_law_texts) (aCons (eVar 2) (aNil))) (aCons (eOpL gRep (eLst (aCons (eVar 2) (aNil))) (eC (.int 15))) (aNil))))))
    (sRet (eC (.bool false)))
    (sNil))
  (sSeq (sIf (tstNot (tst (eCall (F_law_same 16) (aCons (eCall (F_law_numbers) (aCons (eVar 3) (aCons (eVar 4) (aNil)))) (aCons (eOpL gRep (eLst (aCons (eVar 3) (aNil))) (eC (.int 31))) (aNil))))))
    (sRet (eC (.bool false)))
    (sNil))
  (sSeq (sSet 7 (eTupOf (aCons (eSl (eVar 1) (oSome (eC (.int 1))) (oNone)) (aNil))))
  (sSeq (sSet 8 (eMkE 5 ["choice", "name"] (aCons (eVar 7) (aCons (eOp gIx (eVar 1) (eC (.int 0))) (aNil)))))
  (sSeq (sSet 9 (eLst (aCons (eFld 5 "choice" (eVar 8)) (aCons (eFld 5 "name" (eVar 8)) (aCons (eFld 6 "choice" (eMkE 6 ["choice"] (aCons (eVar 7) (aNil)))) (aNil))))))
  (sSeq (sSet 9 (eOpL gCat (eVar 9) (eLst (aCons (eFld 40 "key" (eMkE 40 ["key"] (aCons (eTup (aCons (eC (.str "A")) (aCons (eVar 3) (aNil)))) (aNil)))) (aCons (eFld 41 "key" (eMkE 41 ["key"] (aCons (eTup (aCons (eC (.str "A")) (aCons (eC (.str "B")) (aCons (eC (.str "A")) (aCons (eVar 2) (aCons (eVar 4) (aNil))))))) (aNil)))) (aNil))))))
  (sSeq (sSet 10 (eLst (aCons (eVar 7) (aCons (eOp gIx (eVar 1) (eC (.int 0))) (aCons (eVar 7) (aCons (eTup (aCons (eC (.str "A")) (aCons (eVar 3) (aNil)))) (aCons (eTup (aCons (eC (.str "A")) (aCons (eC (.str "B")) (aCons (eC (.str "A")) (aCons (eVar 2) (aCons (eVar 4) (aNil))))))) (aNil))))))))
  (sRet (eCall (F_law_same 16) (aCons (eVar 9) (aCons (eVar 10) (aNil))))))))))))))))
def F_law_errors : Fn (L59 K C1 C2) := fnD 2 12 B_law_errors
theorem ok_law_errors (T : Txt K mg C1 C2) : OkD (L59 K C1 C2) P w K mg base 19 "_law_errors" ["pool", "names"] F_law_errors := ok_defD T.d_law_errors sc_law_errors fun f cdv A outer s H E hr =>
    dss_cons (ds_set 2 sc_law_errors.nd (de_callBD 0 (ok_law_pick T) (hr.mono (by omega)) (da_cons (de_lst (da_cons (de_str) (da_cons (de_str) (da_cons (de_str) (da_cons (de_str) (da_cons (de_str) (da_nil))))))) (da_nil))))
    (dss_cons (ds_set 3 sc_law_errors.nd (de_op op_add p_add (de_int) (de_callBD 0 (ok_law_draw T) (hr.mono (by omega)) (da_cons (de_int) (da_nil)))))
    (dss_cons (ds_set 4 sc_law_errors.nd (de_op op_add p_add (de_op op_add p_add (de_var 3) (de_int)) (de_callBD 0 (ok_law_draw T) (hr.mono (by omega)) (da_cons (de_int) (da_nil)))))
    (dss_cons (ds_set 5 sc_law_errors.nd (de_callD0 (ok_law_made T) (hr.mono (by omega))))
    (dss_cons (ds_for PassesOwn.never rfl (di_range1 T.b_range (da_cons (de_cb call_len q_len T.b_len v_len (da_cons (de_var 5) (da_nil))) (da_nil))) (dg_name (i := 6) sc_law_errors.nd)
      (dss_cons (ds_if (DW.dt (dw_or (dt_not (dt_val (de_isK T.i_HoldError (de_ix ix_seq p_ix (de_var 5) (de_var 6)) T.b_isinstance v_isinstance))) (dw_or1 (dt_not (dt_val (de_isKb T.i_ValueError (de_ix ix_seq p_ix (de_var 5) (de_var 6)) T.b_isinstance v_isinstance))))))
      (dss_one (ds_ret (de_bl)))
      (dss_nil))
    (dss_one (ds_if (dt_cmp (op_neD hr.units) p_ne (de_callD (ok_law_kinds T) (hr.mono (by omega)) (da_cons (de_ix ix_seq p_ix (de_var 5) (de_var 6)) (da_nil))) (de_lc (own := [("j", 11)]) rfl sc_law_errors.nd (di_range1 T.b_range (da_cons (de_cb call_len q_len T.b_len v_len (da_cons (de_var 5) (da_nil))) (da_nil))) (blkOk_by (N := ["pool", "names", "word", "one", "two", "row", "k", "choice", "fall", "told", "due", "j"]) (sc := defScope s_law_errors) (by decide +kernel)) (by decide) (fun _ _ _ _ _ => dg_name (i := 11) sc_law_errors.nd) (fun _ _ _ _ _ => de_cmp (op_eqD hr.units) p_eq (de_var 11) (de_var 6) (nomark _))) (nomark _))
      (dss_one (ds_ret (de_bl)))
      (dss_nil)))))
    (dss_cons (ds_if (dt_not (dt_val (de_callD (ok_law_same T 16) (hr.mono (by omega)) (da_cons (de_callD (ok_law_texts T) (hr.mono (by omega)) (da_cons (de_var 2) (da_nil))) (da_cons (de_opL op_rep n_rep (de_lst (da_cons (de_var 2) (da_nil))) (de_int)) (da_nil))))))
      (dss_one (ds_ret (de_bl)))
      (dss_nil))
    (dss_cons (ds_if (dt_not (dt_val (de_callD (ok_law_same T 16) (hr.mono (by omega)) (da_cons (de_callD (ok_law_numbers T) (hr.mono (by omega)) (da_cons (de_var 3) (da_cons (de_var 4) (da_nil)))) (da_cons (de_opL op_rep n_rep (de_lst (da_cons (de_var 3) (da_nil))) (de_int)) (da_nil))))))
      (dss_one (ds_ret (de_bl)))
      (dss_nil))
    (dss_cons (ds_set 7 sc_law_errors.nd (de_tupOf T.b_tuple v_tuple (da_cons (de_sl (de_var 1) (do_some (de_int)) (do_none)) (da_nil))))
    (dss_cons (ds_set 8 sc_law_errors.nd (de_mkE (x_NotPositive T) (hr.mono (by omega)) (da_cons (de_var 7) (da_cons (de_ix ix_seq p_ix (de_var 1) (de_int)) (da_nil)))))
    (dss_cons (ds_set 9 sc_law_errors.nd (de_lst (da_cons (de_fld (x_NotPositive T) (by decide) (de_var 8)) (da_cons (de_fld (x_NotPositive T) (by decide) (de_var 8)) (da_cons (de_fld (x_NotSettling T) (by decide) (de_mkE (x_NotSettling T) (hr.mono (by omega)) (da_cons (de_var 7) (da_nil)))) (da_nil))))))
    (dss_cons (ds_set 9 sc_law_errors.nd (de_opL op_cat n_cat (de_var 9) (de_lst (da_cons (de_fld (x_NoLetter T) (by decide) (de_mkE (x_NoLetter T) (hr.mono (by omega)) (da_cons (de_tup (da_cons (de_str) (da_cons (de_var 3) (da_nil)))) (da_nil)))) (da_cons (de_fld (x_NoNotice T) (by decide) (de_mkE (x_NoNotice T) (hr.mono (by omega)) (da_cons (de_tup (da_cons (de_str) (da_cons (de_str) (da_cons (de_str) (da_cons (de_var 2) (da_cons (de_var 4) (da_nil))))))) (da_nil)))) (da_nil))))))
    (dss_cons (ds_set 10 sc_law_errors.nd (de_lst (da_cons (de_var 7) (da_cons (de_ix ix_seq p_ix (de_var 1) (de_int)) (da_cons (de_var 7) (da_cons (de_tup (da_cons (de_str) (da_cons (de_var 3) (da_nil)))) (da_cons (de_tup (da_cons (de_str) (da_cons (de_str) (da_cons (de_str) (da_cons (de_var 2) (da_cons (de_var 4) (da_nil))))))) (da_nil))))))))
    (dss_one (ds_ret (de_callD (ok_law_same T 16) (hr.mono (by omega)) (da_cons (de_var 9) (da_cons (de_var 10) (da_nil)))))))))))))))))
end
end DL
set_option Elab.async false
set_option linter.all false
set_option maxRecDepth 100000
set_option maxHeartbeats 4000000
namespace DL
open PySem PySem.Spec L2 TK
open PyProof.Rows hiding St
variable [CN]
section
variable {L : Lang} {P : Program} {w : World} {K : PySem.W.Frag} {mg : Str → Option Value} {base : Heap} {C1 C2 : Addr}
def B_law : Es (L59 K C1 C2) :=
  sSeq (sSet 1 (eCall (F_law_pool) (aCons (eVar 0) (aNil))))
  (sSeq (sSet 2 (eLc [14] (iR1 (aCons (eOp gAdd (eC (.int 1)) (eCallB 1 (F_law_draw) (aCons (eC (.int 5)) (aNil)))) (aNil))) (uName 14) cYes (eCallB 1 (F_law_some_name) (aNil))))
  (sSeq (sSet 2 (eSortSet (eVar 2)))
  (sSeq (sSet 3 (eOp gIx (eLst (aCons (eC (.int 0)) (aCons (eC (.int 2)) (aCons (eC (.int 4)) (aCons (eC (.int 3)) (aCons (eC (.int 14)) (aCons (eC (.int 1)) (aCons (eC (.int 6)) (aCons (eC (.int 5)) (aNil)))))))))) (eCallB 1 (F_law_draw) (aCons (eC (.int 8)) (aNil)))))
  (sSeq (sSet 4 (eLc [14] (iR1 (aCons (eVar 3) (aNil))) (uName 14) cYes (eCallB 1 (F_law_paper) (aCons (eVar 2) (aNil)))))
  (sSeq (sSet 5 (eCallB 1 (F_law_strikes) (aCons (eVar 2) (aNil))))
  (sSeq (sSet 6 (eCallB 1 (F_law_strikes) (aCons (eVar 2) (aNil))))
  (sSeq (sSet 7 (eCallB 1 (F_law_paper) (aCons (eVar 2) (aNil))))
  (sSeq (sIf (tst (eOp gEq (eCallB 1 (F_law_draw) (aCons (eC (.int 4)) (aNil))) (eC (.int 0))))
    (sSeq (sAsg (eCallB 1 (F_law_chain) (aNil)) (uLst 3 (usCons (uName 8) (usCons (uName 9) (usCons (uName 10) (usNil))))))
  (sSeq (sSet 4 (eOpL gCat (eOpL gCat (eSl (eVar 4) (oNone) (oSome (eC (.int 1)))) (eLst (aCons (eVar 8) (aNil)))) (eSl (eVar 4) (oSome (eC (.int 1))) (oNone))))
  (sSeq (sSet 3 (eCB cLen (aCons (eVar 4) (aNil))))
  (sSeq (sApp 5 (eVar 9))
  (sApp 6 (eVar 10))))))
    (sNil))
  (sSeq (sIf (tstNot (tst (eCallB 1 (F_law_errors) (aCons (eVar 2) (aNil)))))
    (sRet (eC (.bool false)))
    (sNil))
  (sSeq (sSet 11 (eMkO (Ow59.raw true) F_ninit aNil))
  (sSeq (sSet 12 (eMkO (Ow59.raw true) F_ninit aNil))
  (sSeq (sSet 13 (eMtB isNw 11 F_strike (aCons (eCall (F_law_book) (aCons (eVar 5) (aNil))) (aNil))))
  (sSeq (sIf (tstOr (tstNot (tst (eCall (F_law_same 16) (aCons (eVar 13) (aCons (eLst (aNil)) (aNil)))))) (tstNot (tst (thaw (eCall (F_law_asked) (aCons (eVar 11) (aCons (eLst (aNil)) (aCons (eVar 5) (aNil)))))))))
    (sRet (eC (.bool false)))
    (sNil))
  (sSeq (sIf (tstOr (tstNot (tst (eCallB 11 (F_law_noted) (aCons (eVar 4) (aNil))))) (tstNot (tst (eCallB 12 (F_law_noted) (aCons (eSl (eVar 4) (oSome (eC (.int 1))) (oNone)) (aNil))))))
    (sRet (eC (.bool false)))
    (sNil))
  (sSeq (sIf (tstNot (tst (thaw (eCall (F_law_both) (aCons (eVar 11) (aCons (eVar 4) (aCons (eVar 5) (aCons (eVar 6) (aNil)))))))))
    (sRet (eC (.bool false)))
    (sNil))
  (sSeq (sIf (tstNot (tst (eCallB 11 (F_law_behind) (aCons (eVar 4) (aCons (eVar 7) (aCons (eVar 5) (aCons (eVar 6) (aNil))))))))
    (sRet (eC (.bool false)))
    (sNil))
  (sSeq (sIf (tstNot (tst (thaw (eCall (F_law_asked) (aCons (eVar 12) (aCons (eSl (eVar 4) (oSome (eC (.int 1))) (oNone)) (aCons (eVar 5) (aNil))))))))
    (sRet (eC (.bool false)))
    (sNil))
  (sRet (ofT (tstAnd (tst (thaw (eCall (F_law_refused) (aCons (eVar 12) (aCons (eCB cMax2 (aCons (eC (.int 0)) (aCons (eOp gSub (eVar 3) (eC (.int 1))) (aNil)))) (aNil)))))) (tst (thaw (eCall (F_law_refused) (aCons (eVar 11) (aCons (eOp gAdd (eVar 3) (eC (.int 1))) (aNil))))))))))))))))))))))))))
def F_law : Fn (L59 K C1 C2) := fnD 1 15 B_law
theorem ok_lawF (T : Txt K mg C1 C2) {f : Addr} {fd : FuncData} (F : Fun K "law" "law" s_law f fd) : FnOk P w K mg base CX0 23 f fd ["script"] (spD (L59 K C1 C2) F_law) := ok_def F sc_law fun cdv A outer s H E hr =>
    dss_cons (ds_set 1 sc_law.nd (de_callD (ok_law_pool T) (hr.mono (by omega)) (da_cons (de_var 0) (da_nil))))
    (dss_cons (ds_set 2 sc_law.nd (de_lc (own := [("k", 14)]) rfl sc_law.nd (di_range1 T.b_range (da_cons (de_op op_add p_add (de_int) (de_callBD 1 (ok_law_draw T) (hr.mono (by omega)) (da_cons (de_int) (da_nil)))) (da_nil))) (blkOk_by (N := ["script", "pool", "names", "count", "kept", "first", "later", "more", "paper", "most", "single", "notes", "other", "told", "k"]) (sc := defScope s_law) (by decide +kernel)) (by decide) (fun _ _ _ _ _ => dg_name (i := 14) sc_law.nd) (fun _ _ _ _ _ => de_callBD 1 (ok_law_some_name T) (hr.mono (by omega)) (da_nil))))
    (dss_cons (ds_set 2 sc_law.nd (de_sortSet hr rfl (de_var 2) T.b_sorted T.b_set v_sorted v_set))
    (dss_cons (ds_set 3 sc_law.nd (de_ix ix_seq p_ix (de_lst (da_cons (de_int) (da_cons (de_int) (da_cons (de_int) (da_cons (de_int) (da_cons (de_int) (da_cons (de_int) (da_cons (de_int) (da_cons (de_int) (da_nil)))))))))) (de_callBD 1 (ok_law_draw T) (hr.mono (by omega)) (da_cons (de_int) (da_nil)))))
    (dss_cons (ds_setLc 4 (own := [("k", 14)]) rfl sc_law.nd (di_range1 T.b_range (da_cons (de_var 3) (da_nil))) (blkOk_by (N := ["script", "pool", "names", "count", "kept", "first", "later", "more", "paper", "most", "single", "notes", "other", "told", "k"]) (sc := defScope s_law) (by decide +kernel)) (by decide) (fun _ _ _ _ _ => dg_name (i := 14) sc_law.nd) (fun _ _ _ _ _ => de_callBD 1 (ok_law_paper T) (hr.mono (by omega)) (da_cons (de_var 2) (da_nil))) (sw_true rfl rfl rfl (by decide +kernel)))
    (dss_cons (ds_set 5 sc_law.nd (de_callBD 1 (ok_law_strikes T) (hr.mono (by omega)) (da_cons (de_var 2) (da_nil))))
    (dss_cons (ds_set 6 sc_law.nd (de_callBD 1 (ok_law_strikes T) (hr.mono (by omega)) (da_cons (de_var 2) (da_nil))))
    (dss_cons (ds_set 7 sc_law.nd (de_callBD 1 (ok_law_paper T) (hr.mono (by omega)) (da_cons (de_var 2) (da_nil))))
    (dss_cons (ds_if (dt_cmp (op_eqD hr.units) p_eq (de_callBD 1 (ok_law_draw T) (hr.mono (by omega)) (da_cons (de_int) (da_nil))) (de_int) (nomark _))
      (dss_cons (ds_asg (de_callBD 1 (ok_law_chain T) (hr.mono (by omega)) (da_nil)) (dg_unl rfl (dgs_cons (dg_name (i := 8) sc_law.nd) (dgs_cons (dg_name (i := 9) sc_law.nd) (dgs_cons (dg_name (i := 10) sc_law.nd) (dgs_nil))))))
    (dss_cons (ds_set 4 sc_law.nd (de_opL op_cat n_cat (de_opL op_cat n_cat (de_sl (de_var 4) (do_none) (do_some (de_int))) (de_lst (da_cons (de_var 8) (da_nil)))) (de_sl (de_var 4) (do_some (de_int)) (do_none))))
    (dss_cons (ds_set 3 sc_law.nd (de_cb call_len q_len T.b_len v_len (da_cons (de_var 4) (da_nil))))
    (dss_cons (ds_app 5 (de_var 9))
    (dss_one (ds_app 6 (de_var 10)))))))
      (dss_nil))
    (dss_cons (ds_if (dt_not (dt_val (de_callBD 1 (ok_law_errors T) (hr.mono (by omega)) (da_cons (de_var 2) (da_nil)))))
      (dss_one (ds_ret (de_bl)))
      (dss_nil))
    (dss_cons (ds_set 11 sc_law.nd (de_mkO0 (ok_ninit T) (hr.mono (by omega)) (raw59 true)))
    (dss_cons (ds_set 12 sc_law.nd (de_mkO0 (ok_ninit T) (hr.mono (by omega)) (raw59 true)))
    (dss_cons (ds_set 13 sc_law.nd (de_mtB 11 (ok_strike T) T.c59.c1 (hr.mono (by omega)) (insNw (m := "strike") (by decide)) (da_cons (de_callD (ok_law_book T) (hr.mono (by omega)) (da_cons (de_var 5) (da_nil))) (da_nil))))
    (dss_cons (ds_if (DW.dt (dw_or (dt_not (dt_val (de_callD (ok_law_same T 16) (hr.mono (by omega)) (da_cons (de_var 13) (da_cons (de_lst (da_nil)) (da_nil)))))) (dw_or1 (dt_not (dt_val (DE.thaw (de_callD (ok_law_asked T) (hr.mono (by omega)) (da_cons (de_var 11) (da_cons (de_lst (da_nil)) (da_cons (de_var 5) (da_nil)))))))))))
      (dss_one (ds_ret (de_bl)))
      (dss_nil))
    (dss_cons (ds_if (DW.dt (dw_or (dt_not (dt_val (de_callBD 11 (ok_law_noted T) (hr.mono (by omega)) (da_cons (de_var 4) (da_nil))))) (dw_or1 (dt_not (dt_val (de_callBD 12 (ok_law_noted T) (hr.mono (by omega)) (da_cons (de_sl (de_var 4) (do_some (de_int)) (do_none)) (da_nil))))))))
      (dss_one (ds_ret (de_bl)))
      (dss_nil))
    (dss_cons (ds_if (dt_not (dt_val (DE.thaw (de_callD (ok_law_both T) (hr.mono (by omega)) (da_cons (de_var 11) (da_cons (de_var 4) (da_cons (de_var 5) (da_cons (de_var 6) (da_nil)))))))))
      (dss_one (ds_ret (de_bl)))
      (dss_nil))
    (dss_cons (ds_if (dt_not (dt_val (de_callBD 11 (ok_law_behind T) (hr.mono (by omega)) (da_cons (de_var 4) (da_cons (de_var 7) (da_cons (de_var 5) (da_cons (de_var 6) (da_nil))))))))
      (dss_one (ds_ret (de_bl)))
      (dss_nil))
    (dss_cons (ds_if (dt_not (dt_val (DE.thaw (de_callD (ok_law_asked T) (hr.mono (by omega)) (da_cons (de_var 12) (da_cons (de_sl (de_var 4) (do_some (de_int)) (do_none)) (da_cons (de_var 5) (da_nil))))))))
      (dss_one (ds_ret (de_bl)))
      (dss_nil))
    (dss_one (ds_ret (de_and (DE.thaw (de_callD (ok_law_refused T) (hr.mono (by omega)) (da_cons (de_var 12) (da_cons (de_cb (call_max2 rfl) q_max2 T.b_max v_max (da_cons (de_int) (da_cons (de_op op_sub p_sub (de_var 3) (de_int)) (da_nil)))) (da_nil))))) (de_one (DE.thaw (de_callD (ok_law_refused T) (hr.mono (by omega)) (da_cons (de_var 11) (da_cons (de_op op_add p_add (de_var 3) (de_int)) (da_nil))))))))))))))))))))))))))
theorem ok_law (T : Txt K mg C1 C2) : OkD (L59 K C1 C2) P w K mg base 23 "law" ["script"] F_law := by
  obtain ⟨f, fd, F, b, m⟩ := T.d_law
  exact ⟨f, fd, ok_lawF T F, m, F.kp, b⟩
end
end DL
set_option Elab.async false
set_option linter.all false
set_option maxRecDepth 100000
set_option maxHeartbeats 1000000
/-! M0: papers as trees, plainly. -/
namespace DL.M
section
variable {N : Type} [DecidableEq N]
inductive Pap (N : Type) where
  | leaf (v : Option Int)
  | node (n : N) (s g : Pap N)
deriving DecidableEq
variable (lt : N → N → Prop)
namespace Pap
def names : Pap N → List N
  | leaf _ => []
  | node n s g => n :: (names s ++ names g)
def size : Pap N → Nat
  | leaf _ => 0
  | node _ s g => 1 + size s + size g
def depth : Pap N → Nat
  | leaf _ => 0
  | node _ s g => 1 + max (depth s) (depth g)
/-- names fall from the root, no node has two equal branches -/
def Ok : Pap N → Prop
  | leaf _ => True
  | node n s g => Ok s ∧ Ok g ∧ s ≠ g ∧ (∀ m ∈ names s, lt m n) ∧ ∀ m ∈ names g, lt m n
def read : Pap N → List N → Option Int
  | leaf v, _ => v
  | node n s g, c => if n ∈ c then read g c else read s c
def ask (n : N) (s g : Pap N) : Pap N := if s = g then s else node n s g
def without : Pap N → List N → Pap N
  | leaf v, _ => leaf v
  | node n s g, c => if n ∈ c then without g c else ask n (without s c) (without g c)
/-- ns: the last name first -/
def fold : List N → (List N → Option Int) → Pap N
  | [], f => leaf (f [])
  | n :: ns, f => ask n (fold ns f) (fold ns fun c => f (c ++ [n]))
variable {lt}
theorem read_ask {n : N} {s g : Pap N} {c : List N} : read (ask n s g) c = if n ∈ c then read g c else read s c := by
  unfold ask
  by_cases h : s = g
  · rw [if_pos h, h]; simp
  · rw [if_neg h]; rfl
theorem read_without : ∀ (p : Pap N) (x c : List N), read (without p x) c = read p (x ++ c)
  | leaf v, x, c => rfl
  | node n s g, x, c => by
    show read (if n ∈ x then without g x else ask n (without s x) (without g x)) c = if n ∈ x ++ c then read g (x ++ c) else read s (x ++ c)
    by_cases h : n ∈ x
    · rw [if_pos h, if_pos (List.mem_append_left _ h)]
      exact read_without g x c
    · rw [if_neg h, read_ask]
      by_cases h2 : n ∈ c
      · rw [if_pos h2, if_pos (List.mem_append_right _ h2)]
        exact read_without g x c
      · rw [if_neg h2, if_neg fun z => (List.mem_append.mp z).elim h h2]
        exact read_without s x c
theorem names_ask {n m : N} {s g : Pap N} (h : m ∈ names (ask n s g)) : m = n ∨ m ∈ names s ∨ m ∈ names g := by
  unfold ask at h
  by_cases e : s = g
  · rw [if_pos e] at h; exact .inr (.inl h)
  · rw [if_neg e] at h
    rcases List.mem_cons.mp h with h | h
    · exact .inl h
    · exact .inr (List.mem_append.mp h)
theorem ok_ask {n : N} {s g : Pap N} (hs : Ok lt s) (hg : Ok lt g) (h1 : ∀ m ∈ names s, lt m n) (h2 : ∀ m ∈ names g, lt m n) : Ok lt (ask n s g) := by
  unfold ask
  by_cases e : s = g
  · rw [if_pos e]; exact hs
  · rw [if_neg e]; exact ⟨hs, hg, e, h1, h2⟩
theorem size_ask {n : N} {s g : Pap N} : size (ask n s g) ≤ 1 + size s + size g := by
  unfold ask
  by_cases e : s = g
  · rw [if_pos e]; omega
  · rw [if_neg e]; exact Nat.le_refl _
theorem depth_ask {n : N} {s g : Pap N} : depth (ask n s g) ≤ 1 + max (depth s) (depth g) := by
  unfold ask
  by_cases e : s = g
  · rw [if_pos e]; omega
  · rw [if_neg e]; exact Nat.le_refl _
theorem names_without : ∀ (p : Pap N) (x : List N) {m : N}, m ∈ names (without p x) → m ∈ names p ∧ m ∉ x
  | leaf v, x, m, h => by cases h
  | node n s g, x, m, h => by
    have h : m ∈ names (if n ∈ x then without g x else ask n (without s x) (without g x)) := h
    by_cases e : n ∈ x
    · rw [if_pos e] at h
      obtain ⟨h1, h2⟩ := names_without g x h
      exact ⟨List.mem_cons_of_mem _ (List.mem_append_right _ h1), h2⟩
    · rw [if_neg e] at h
      rcases names_ask h with h | h | h
      · rw [h]; exact ⟨List.mem_cons_self, e⟩
      · obtain ⟨h1, h2⟩ := names_without s x h
        exact ⟨List.mem_cons_of_mem _ (List.mem_append_left _ h1), h2⟩
      · obtain ⟨h1, h2⟩ := names_without g x h
        exact ⟨List.mem_cons_of_mem _ (List.mem_append_right _ h1), h2⟩
theorem ok_without : ∀ (p : Pap N) (x : List N), Ok lt p → Ok lt (without p x)
  | leaf v, x, h => h
  | node n s g, x, h => by
    show Ok lt (if n ∈ x then without g x else ask n (without s x) (without g x))
    obtain ⟨h1, h2, h3, h4, h5⟩ := h
    by_cases e : n ∈ x
    · rw [if_pos e]; exact ok_without g x h2
    · rw [if_neg e]
      exact ok_ask (ok_without s x h1) (ok_without g x h2) (fun m hm => h4 m (names_without s x hm).1) fun m hm => h5 m (names_without g x hm).1
theorem size_without : ∀ (p : Pap N) (x : List N), size (without p x) ≤ size p
  | leaf v, x => Nat.le_refl _
  | node n s g, x => by
    show size (if n ∈ x then without g x else ask n (without s x) (without g x)) ≤ 1 + size s + size g
    have a := size_without s x
    have b := size_without g x
    by_cases e : n ∈ x
    · rw [if_pos e]; omega
    · rw [if_neg e]
      have := size_ask (n := n) (s := without s x) (g := without g x)
      omega
theorem depth_without : ∀ (p : Pap N) (x : List N), depth (without p x) ≤ depth p
  | leaf v, x => Nat.le_refl _
  | node n s g, x => by
    show depth (if n ∈ x then without g x else ask n (without s x) (without g x)) ≤ 1 + max (depth s) (depth g)
    have a := depth_without s x
    have b := depth_without g x
    by_cases e : n ∈ x
    · rw [if_pos e]; omega
    · rw [if_neg e]
      have := depth_ask (n := n) (s := without s x) (g := without g x)
      omega
theorem without_nil : ∀ (p : Pap N), Ok lt p → without p [] = p
  | leaf v, _ => rfl
  | node n s g, h => by
    show (if n ∈ ([] : List N) then without g [] else ask n (without s []) (without g [])) = _
    rw [if_neg (by simp), without_nil s h.1, without_nil g h.2.1]
    unfold ask
    rw [if_neg h.2.2.1]
/-- reading asks only the names that are there -/
theorem read_congr : ∀ (p : Pap N) {c d : List N}, (∀ m ∈ names p, m ∈ c ↔ m ∈ d) → read p c = read p d
  | leaf v, c, d, _ => rfl
  | node n s g, c, d, h => by
    have e := h n List.mem_cons_self
    have es := read_congr s (c := c) (d := d) fun m hm => h m (List.mem_cons_of_mem _ (List.mem_append_left _ hm))
    have eg := read_congr g (c := c) (d := d) fun m hm => h m (List.mem_cons_of_mem _ (List.mem_append_right _ hm))
    show (if n ∈ c then read g c else read s c) = if n ∈ d then read g d else read s d
    rw [es, eg]
    by_cases q : n ∈ c
    · rw [if_pos q, if_pos (e.mp q)]
    · rw [if_neg q, if_neg fun z => q (e.mpr z)]
theorem fold_congr : ∀ (ns : List N) {f g : List N → Option Int}, (∀ c, (∀ m ∈ c, m ∈ ns) → f c = g c) → fold ns f = fold ns g
  | [], f, g, h => by
    show leaf (f []) = leaf (g [])
    rw [h [] (by simp)]
  | n :: ns, f, g, h => by
    show ask n (fold ns f) (fold ns fun c => f (c ++ [n])) = ask n (fold ns g) (fold ns fun c => g (c ++ [n]))
    rw [fold_congr ns (f := f) (g := g) fun c hc => h c fun m hm => List.mem_cons_of_mem _ (hc m hm),
      fold_congr ns (f := fun c => f (c ++ [n])) (g := fun c => g (c ++ [n])) fun c hc => h _ fun m hm => by
        rcases List.mem_append.mp hm with z | z
        · exact List.mem_cons_of_mem _ (hc m z)
        · rw [List.mem_singleton.mp z]; exact List.mem_cons_self]
/-- folding what a paper reads gives the paper -/
theorem fold_read (irr : ∀ x, ¬ lt x x) (tr : ∀ x y z, lt x y → lt y z → lt x z) : ∀ (ns : List N) (q : Pap N), ns.Pairwise (fun x y => lt y x) → Ok lt q → (∀ m ∈ names q, m ∈ ns) → fold ns (read q) = q
  | [], q, _, _, h => by
    cases q with
    | leaf v => rfl
    | node n s g => exact absurd (h n List.mem_cons_self) (by simp)
  | n :: ns, q, hp, hq, h => by
    obtain ⟨p1, p2⟩ := List.pairwise_cons.mp hp
    have nn : n ∉ ns := fun z => irr _ (p1 n z)
    show ask n (fold ns (read q)) (fold ns fun c => read q (c ++ [n])) = q
    by_cases hn : n ∈ names q
    · cases q with
      | leaf v => cases hn
      | node r s g =>
        obtain ⟨h1, h2, h3, h4, h5⟩ := hq
        have er : n = r := by
          rcases List.mem_cons.mp hn with z | z
          · exact z
          · exfalso
            have q1 : lt n r := by
              rcases List.mem_append.mp z with z | z
              · exact h4 n z
              · exact h5 n z
            rcases List.mem_cons.mp (h r List.mem_cons_self) with z | z
            · rw [z] at q1; exact irr _ q1
            · exact irr _ (tr _ _ _ q1 (p1 r z))
        subst er
        have sub : ∀ t : Pap N, (∀ m ∈ names t, m ∈ names (node n s g)) → (∀ m ∈ names t, lt m n) → ∀ m ∈ names t, m ∈ ns := fun t a b m hm => by
          rcases List.mem_cons.mp (h m (a m hm)) with z | z
          · exact absurd (b m hm) (by rw [z]; exact irr n)
          · exact z
        have a1 : fold ns (read (node n s g)) = s := by
          rw [fold_congr ns (g := read s) fun c hc => ?_]
          · exact fold_read irr tr ns s p2 h1 (sub s (fun m hm => List.mem_cons_of_mem _ (List.mem_append_left _ hm)) h4)
          · show (if n ∈ c then _ else _) = _
            rw [if_neg fun z => nn (hc n z)]
        have a2 : fold ns (fun c => read (node n s g) (c ++ [n])) = g := by
          rw [fold_congr ns (g := read g) fun c hc => ?_]
          · exact fold_read irr tr ns g p2 h2 (sub g (fun m hm => List.mem_cons_of_mem _ (List.mem_append_right _ hm)) h5)
          · show (if n ∈ c ++ [n] then _ else _) = _
            rw [if_pos (by simp)]
            refine read_congr g fun m hm => ?_
            have : m ≠ n := fun z => irr n (by have := h5 m hm; rw [z] at this; exact this)
            simp [this]
        rw [a1, a2]
        unfold ask
        rw [if_neg h3]
    · have hs : ∀ m ∈ names q, m ∈ ns := fun m hm => (List.mem_cons.mp (h m hm)).resolve_left fun z => hn (by rw [← z]; exact hm)
      have a1 := fold_read irr tr ns q p2 hq hs
      have a2 : fold ns (fun c => read q (c ++ [n])) = q := by
        rw [fold_congr ns (g := read q) fun c hc => read_congr q fun m hm => ?_]
        · exact a1
        · have : m ≠ n := fun z => hn (by rw [← z]; exact hm)
          simp [this]
      rw [a1, a2]
      unfold ask
      rw [if_pos rfl]
/-- THE LAW of freed papers -/
theorem fold_without (irr : ∀ x, ¬ lt x x) (tr : ∀ x y z, lt x y → lt y z → lt x z) {ns x : List N} {p : Pap N} (hp : ns.Pairwise fun x y => lt y x) (ok : Ok lt p) (h : ∀ m ∈ names p, m ∉ x → m ∈ ns) : fold ns (fun c => read p (x ++ c)) = without p x := by
  rw [fold_congr ns (g := read (without p x)) fun c _ => (read_without p x c).symm]
  exact fold_read irr tr ns _ hp (ok_without p x ok) fun m hm => h m (names_without p x hm).1 (names_without p x hm).2
theorem ok_fold : ∀ (ns : List N) (f : List N → Option Int), ns.Pairwise (fun x y => lt y x) → Ok lt (fold ns f) ∧ (∀ m ∈ names (fold ns f), m ∈ ns) ∧ depth (fold ns f) ≤ ns.length ∧ size (fold ns f) + 1 ≤ 2 ^ ns.length
  | [], f, _ => ⟨trivial, (fun m h => absurd h (by simp [fold, names])), Nat.le_refl _, Nat.le_refl _⟩
  | n :: ns, f, hp => by
    obtain ⟨p1, p2⟩ := List.pairwise_cons.mp hp
    obtain ⟨a1, a2, a3, a4⟩ := ok_fold ns f p2
    obtain ⟨b1, b2, b3, b4⟩ := ok_fold ns (fun c => f (c ++ [n])) p2
    refine ⟨ok_ask a1 b1 (fun m hm => p1 m (a2 m hm)) fun m hm => p1 m (b2 m hm), fun m hm => ?_, ?_, ?_⟩
    · rcases names_ask hm with z | z | z
      · rw [z]; exact List.mem_cons_self
      · exact List.mem_cons_of_mem _ (a2 m z)
      · exact List.mem_cons_of_mem _ (b2 m z)
    · have : depth (fold (n :: ns) f) ≤ _ := depth_ask
      rw [List.length_cons]
      omega
    · have : size (fold (n :: ns) f) ≤ _ := size_ask
      rw [List.length_cons, Nat.pow_succ]
      omega
end Pap
end
end DL.M
set_option Elab.async false
set_option linter.all false
set_option maxRecDepth 100000
set_option maxHeartbeats 1000000
/-! M1: names and papers as data. -/
namespace DL.M
open PySem PySem.Spec L2 TK PySem.W
open PyProof.Rows hiding St
structure Nm where
  h : Str
  k : Int
  o : Str
deriving DecidableEq
abbrev P3 := Pap Nm
def nmD (n : Nm) : PD := .tuple [.str n.h, .int n.k, .str n.o]
def vD : Option Int → PD
  | none => .none
  | some i => .int i
def papD : P3 → PD
  | .leaf v => .tuple [.str "is", vD v]
  | .node n s g => .tuple [.str "if", nmD n, papD s, papD g]
theorem nmD_kt (n : Nm) : nmD n = ktD [.inr n.h, .inl n.k, .inr n.o] := rfl
theorem str_beq {x y : Str} : (x == y) = decide (x = y) := by
  by_cases h : x = y
  · subst h; simp
  · simp [h]
theorem int_beq {x y : Int} : (x == y) = decide (x = y) := by
  by_cases h : x = y
  · subst h; simp
  · simp [h]
theorem eqv_nm (a b : Nm) : PyData.eqv (nmD a) (nmD b) = decide (a = b) := by
  unfold nmD
  simp only [PyData.eqv, PyData.eqvAll, str_beq, int_beq, Bool.and_true]
  cases a; cases b
  simp [Bool.decide_and, and_assoc]
theorem eqv_v (a b : Option Int) : PyData.eqv (vD a) (vD b) = decide (a = b) := by
  cases a <;> cases b <;> simp [vD, PyData.eqv, int_beq]
theorem eqv_pap : ∀ a b : P3, PyData.eqv (papD a) (papD b) = decide (a = b)
  | .leaf v, .leaf u => by
    unfold papD
    simp only [PyData.eqv, PyData.eqvAll, str_beq, Bool.and_true, eqv_v]
    simp
  | .leaf v, .node n s g => by
    unfold papD
    simp [PyData.eqv, PyData.eqvAll]
  | .node n s g, .leaf v => by
    unfold papD
    simp [PyData.eqv, PyData.eqvAll]
  | .node n s g, .node m t h => by
    have e1 := eqv_pap s t
    have e2 := eqv_pap g h
    unfold papD
    simp only [PyData.eqv, PyData.eqvAll, str_beq, Bool.and_true, eqv_nm, e1, e2]
    simp [Bool.decide_and]
def NmOk (n : Nm) : Prop := 0 ≤ n.k ∧ PyData.strOk n.h = true ∧ PyData.strOk n.o = true
theorem shaped_nm {n : Nm} (h : NmOk n) : SeqAt.shaped (nmD n) = true := by
  unfold SeqAt.shaped nmD
  simp [PyData.canLay0, PyData.canLayAll0, PyData.depth, PyData.depthAll, h.2.1, h.2.2]
theorem shaped_v (v : Option Int) : SeqAt.shaped (vD v) = true := by
  cases v <;> simp [vD, SeqAt.shaped, PyData.canLay0, PyData.depth]
theorem ok_is : PyData.strOk ("is" : Str) = true := by decide +kernel
theorem ok_if : PyData.strOk ("if" : Str) = true := by decide +kernel
theorem lay_pap : ∀ (p : P3), (∀ n ∈ p.names, NmOk n) → (papD p).canLay0 = true ∧ (papD p).depth ≤ p.depth + 2
  | .leaf v, _ => by
    have := shaped_v v
    unfold papD
    cases v <;> exact ⟨by simp only [vD, PyData.canLay0, PyData.canLayAll0, ok_is, Bool.and_true], by simp [vD, PyData.depth, PyData.depthAll]⟩
  | .node n s g, h => by
    obtain ⟨a1, a2⟩ := lay_pap s fun m hm => h m (List.mem_cons_of_mem _ (List.mem_append_left _ hm))
    obtain ⟨b1, b2⟩ := lay_pap g fun m hm => h m (List.mem_cons_of_mem _ (List.mem_append_right _ hm))
    have hn := h n List.mem_cons_self
    unfold papD
    refine ⟨?_, ?_⟩
    · simp only [PyData.canLay0, PyData.canLayAll0, nmD, a1, b1, hn.2.1, hn.2.2, ok_if, Bool.and_true]
    · simp only [PyData.depth, PyData.depthAll, nmD, Pap.depth]
      omega
theorem shaped_pap {p : P3} (h : ∀ n ∈ p.names, NmOk n) (hd : p.depth ≤ 20) : SeqAt.shaped (papD p) = true := by
  obtain ⟨a, b⟩ := lay_pap p h
  unfold SeqAt.shaped
  rw [a]
  simp
  omega
/-- the order of the names -/
def nlt (a b : Nm) : Prop := dataLt (nmD a) (nmD b) = true
theorem nlt_irr (x : Nm) : ¬ nlt x x := by unfold nlt; rw [lt_irr]; decide
theorem nlt_tr (x y z : Nm) (h : nlt x y) (g : nlt y z) : nlt x z := lt_tr h g
theorem nmD_inj {a b : Nm} (h : nmD a = nmD b) : a = b := by
  cases a; cases b
  unfold nmD at h
  simpa using h
theorem okK_nm (l : List Nm) : okK (l.map nmD) = true := by
  unfold okK
  refine List.all_eq_true.mpr fun d hd => ?_
  obtain ⟨n, _, rfl⟩ := List.mem_map.mp hd
  rw [Bool.and_eq_true, Bool.and_eq_true]
  refine ⟨rfl, rfl, List.all_eq_true.mpr fun e he => ?_⟩
  obtain ⟨m, _, rfl⟩ := List.mem_map.mp he
  rfl
/-- the names in order, without doubles -/
theorem sort_nm (l : List Nm) : ∃ m : List Nm, sortK (l.map nmD) = m.map nmD ∧ m.Pairwise nlt ∧ ∀ x, x ∈ m ↔ x ∈ l := by
  have mem := sortK_mem (ds := l.map nmD) fun d hd => by
    obtain ⟨n, _, rfl⟩ := List.mem_map.mp hd
    exact ⟨_, nmD_kt n⟩
  have so := sortK_srt (l.map nmD)
  have ex : ∀ ds : List PD, (∀ d ∈ ds, d ∈ l.map nmD) → ∃ m : List Nm, ds = m.map nmD := by
    intro ds
    induction ds with
    | nil => exact fun _ => ⟨[], rfl⟩
    | cons d r ih =>
      intro h
      obtain ⟨n, _, e⟩ := List.mem_map.mp (h d List.mem_cons_self)
      obtain ⟨m, em⟩ := ih fun x hx => h x (List.mem_cons_of_mem _ hx)
      exact ⟨n :: m, by rw [em, ← e]; rfl⟩
  obtain ⟨m, em⟩ := ex _ fun d hd => (mem d).mp hd
  refine ⟨m, em, ?_, fun x => ?_⟩
  · rw [em] at so
    exact (List.pairwise_map (f := nmD)).mp so
  · have q := mem (nmD x)
    rw [em] at q
    constructor
    · intro h
      obtain ⟨y, hy, e⟩ := List.mem_map.mp (q.mp (List.mem_map.mpr ⟨x, h, rfl⟩))
      rw [← nmD_inj e]; exact hy
    · intro h
      obtain ⟨y, hy, e⟩ := List.mem_map.mp (q.mpr (List.mem_map.mpr ⟨x, h, rfl⟩))
      rw [← nmD_inj e]; exact hy
/-- the sorted list of l -/
noncomputable def srtN (l : List Nm) : List Nm := (sort_nm l).choose
theorem srtN_eq (l : List Nm) : sortK (l.map nmD) = (srtN l).map nmD := (sort_nm l).choose_spec.1
theorem srtN_srt (l : List Nm) : (srtN l).Pairwise nlt := (sort_nm l).choose_spec.2.1
theorem srtN_mem {l : List Nm} (x : Nm) : x ∈ srtN l ↔ x ∈ l := (sort_nm l).choose_spec.2.2 x
theorem map_inj : ∀ {a b : List Nm}, a.map nmD = b.map nmD → a = b
  | [], [], _ => rfl
  | [], _ :: _, h => by cases h
  | _ :: _, [], h => by cases h
  | x :: a, y :: b, h => by
    rw [List.map_cons, List.map_cons] at h
    obtain ⟨h1, h2⟩ := List.cons.inj h
    rw [nmD_inj h1, map_inj h2]
theorem srt_uniq {a b : List Nm} (ha : a.Pairwise nlt) (hb : b.Pairwise nlt) (h : ∀ x, x ∈ a ↔ x ∈ b) : a = b := by
  refine map_inj (srt_ext (List.pairwise_map.mpr ha) (List.pairwise_map.mpr hb) fun z => ?_)
  constructor
  · intro hz
    obtain ⟨y, hy, e⟩ := List.mem_map.mp hz
    exact List.mem_map.mpr ⟨y, (h y).mp hy, e⟩
  · intro hz
    obtain ⟨y, hy, e⟩ := List.mem_map.mp hz
    exact List.mem_map.mpr ⟨y, (h y).mpr hy, e⟩
/-- a strictly sorted list within another is no longer -/
theorem srt_len : ∀ {a b : List Nm}, a.Pairwise nlt → (∀ x ∈ a, x ∈ b) → a.length ≤ b.length
  | [], _, _, _ => Nat.zero_le _
  | x :: a, b, h, s => by
    obtain ⟨h1, h2⟩ := List.pairwise_cons.mp h
    have := srt_len (b := b.erase x) h2 fun y hy => (List.mem_erase_of_ne (fun e => nlt_irr x (by have := h1 y hy; rw [e] at this; exact this))).mpr (s y (List.mem_cons_of_mem _ hy))
    rw [List.length_erase_of_mem (s x List.mem_cons_self)] at this
    have : 0 < b.length := List.length_pos_of_mem (s x List.mem_cons_self)
    rw [List.length_cons]
    omega
end DL.M
set_option Elab.async false
set_option linter.all false
set_option maxRecDepth 100000
set_option maxHeartbeats 1000000
/-! M2: the pool and its draws. -/
namespace DL.M
open PySem PySem.Spec L2 TK PySem.W
open PyProof.Rows hiding St
variable [CN]
variable {L : Lang}
abbrev Pool := Int × List Int
def plD (p : Pool) : List PD := .int p.1 :: p.2.map PyData.int
def dr (m : Int) : List Int → Option (Int × List Int)
  | [] => none
  | x :: xs => if 0 < x then some (x.fmod m, x.fdiv m :: xs) else (dr m xs).map fun q => (q.1, x :: q.2)
def draw (m : Int) (p : Pool) : Int × Pool := match dr m p.2 with
  | some q => (q.1, (p.1, q.2))
  | none => ((p.1 + 1).fmod m, (p.1 + 1, p.2))
theorem fmod_in {m x : Int} (h : 0 < m) : 0 ≤ x.fmod m ∧ x.fmod m < m := ⟨Int.fmod_nonneg_of_pos _ h, Int.fmod_lt_of_pos _ h⟩
theorem dr_in {m : Int} (h : 0 < m) : ∀ {l : List Int} {q}, dr m l = some q → (0 ≤ q.1 ∧ q.1 < m) ∧ q.2.length = l.length
  | x :: xs, q, e => by
    unfold dr at e
    by_cases hx : 0 < x
    · rw [if_pos hx] at e
      cases e
      exact ⟨fmod_in h, rfl⟩
    · rw [if_neg hx] at e
      cases er : dr m xs with
      | none => rw [er] at e; cases e
      | some r =>
        rw [er] at e
        cases e
        obtain ⟨a, b⟩ := dr_in h er
        exact ⟨a, by simp [b]⟩
theorem draw_in {m : Int} (h : 0 < m) (p : Pool) : (0 ≤ (draw m p).1 ∧ (draw m p).1 < m) ∧ (draw m p).2.2.length = p.2.length := by
  unfold draw
  cases e : dr m p.2 with
  | none => exact ⟨fmod_in h, rfl⟩
  | some q => exact dr_in h e
/-- off, off + 1, .. -/
def ups (off : Int) (n : Nat) : List (DV L) := (List.range n).map fun (i : Nat) => DV.d (.int (off + (i : Int)))
theorem ups_succ (off : Int) (n : Nat) : (ups off (n + 1) : List (DV L)) = DV.d (.int off) :: ups (off + 1) n := by
  unfold ups
  rw [List.range_succ_eq_map, List.map_cons, List.map_map]
  congr 1
  · show DV.d (PyData.int (off + ((0 : Nat) : Int))) = _
    rw [show off + ((0 : Nat) : Int) = off by omega]
  · refine List.map_congr_left fun a _ => ?_
    show DV.d (PyData.int (off + ((a + 1 : Nat) : Int))) = DV.d (PyData.int (off + 1 + (a : Int)))
    rw [show off + ((a + 1 : Nat) : Int) = off + 1 + (a : Int) by omega]
theorem atI_nat {α : Type} (l : List α) (i : Nat) : atI l (i : Int) = l[i]? := by
  unfold atI ixN
  by_cases h : i < l.length
  · simp [h]
  · simp [h]
theorem ixN_nat (n i : Nat) (h : i < n) : ixN n (i : Int) = some i := by
  unfold ixN
  simp [h]
/-- the loop of _law_draw -/
def bodyD : Es L := sIf (tst (eOp gGt (eIxO 0 (eVar 2)) (eC (.int 0))))
    (sSeq (sSet 3 (eOp gMod (eCB cInt (aCons (eIxO 0 (eVar 2)) (aNil))) (eVar 1)))
  (sSeq (sPut 0 (eOp gFdiv (eIxO 0 (eVar 2)) (eVar 1)) (eVar 2))
  (sRet (eVar 3))))
    (sNil)
theorem bodyD_no {m x : Int} {i : Nat} {s2 s3 : SV L} {ds : List PD} (hi : ds[i]? = some (.int x)) (hx : ¬ 0 < x) :
    bodyD (L := L) [.own true (.lst ds), .dv (.d (.int m)), .dv (.d (.int i)), s3] = some (.nx, [.own true (.lst ds), .dv (.d (.int m)), .dv (.d (.int i)), s3]) := by
  simp [bodyD, sIf, tst, eOp, frz, eIxO, eVar, atI_nat, hi, eC, gGt, gI, hx, sNil]
theorem bodyD_yes {m x : Int} {i : Nat} {s3 : SV L} {ds : List PD} (hi : ds[i]? = some (.int x)) (hx : 0 < x) (hm : 0 < m) (hm2 : m < 1000000) :
    bodyD (L := L) [.own true (.lst ds), .dv (.d (.int m)), .dv (.d (.int i)), s3] = some (.rt (.dv (.d (.int (x.fmod m)))), [.own true (.lst (ds.set i (.int (x.fdiv m)))), .dv (.d (.int m)), .dv (.d (.int i)), .dv (.d (.int (x.fmod m)))]) := by
  have hl : i < ds.length := by
    obtain ⟨h, _⟩ := List.getElem?_eq_some_iff.mp hi
    exact h
  have m0 : ¬ m = 0 := by omega
  have m1 : m.natAbs < 1073741824 := by omega
  simp [bodyD, sIf, tst, eOp, frz, eIxO, eVar, atI_nat, hi, eC, gGt, gI, hx, sSeq, sSet, gMod, eCB, aCons, aNil, pds, cInt, m0, sPut, gFdiv, m1, ixN_nat _ _ hl, sRet]
theorem loopD (m : Int) (hm : 0 < m) (hm2 : m < 1000000) : ∀ (xs : List Int) (pre : List PD) (s2 s3 : SV L), ∃ s2' s3', sForN (uName 2) bodyD (ups (pre.length : Int) xs.length) [.own true (.lst (pre ++ xs.map PyData.int)), .dv (.d (.int m)), s2, s3] =
    match dr m xs with
    | some q => some (.rt (.dv (.d (.int q.1))), [.own true (.lst (pre ++ q.2.map PyData.int)), .dv (.d (.int m)), s2', s3'])
    | none => some (.nx, [.own true (.lst (pre ++ xs.map PyData.int)), .dv (.d (.int m)), s2', s3'])
  | [], pre, s2, s3 => ⟨s2, s3, rfl⟩
  | x :: xs, pre, s2, s3 => by
    have hi : (pre ++ (x :: xs).map PyData.int)[pre.length]? = some (.int x) := by simp
    have eu : uName (L := L) 2 (DV.d (.int (pre.length : Int))) [.own true (.lst (pre ++ (x :: xs).map PyData.int)), .dv (.d (.int m)), s2, s3] = some [.own true (.lst (pre ++ (x :: xs).map PyData.int)), .dv (.d (.int m)), .dv (.d (.int (pre.length : Int))), s3] := rfl
    rw [List.length_cons, ups_succ]
    unfold sForN dr
    rw [eu]
    by_cases hx : 0 < x
    · refine ⟨.dv (.d (.int (pre.length : Int))), .dv (.d (.int (x.fmod m))), ?_⟩
      simp only [bodyD_yes hi hx hm hm2, if_pos hx]
      simp
    · obtain ⟨s2', s3', e⟩ := loopD m hm hm2 xs (pre ++ [.int x]) (.dv (.d (.int (pre.length : Int)))) s3
      refine ⟨s2', s3', ?_⟩
      simp only [bodyD_no (s2 := s2) hi hx, if_neg hx]
      have el : (((pre ++ [PyData.int x]).length : Nat) : Int) = (pre.length : Int) + 1 := by simp
      rw [el] at e
      have ea : pre ++ [PyData.int x] ++ xs.map PyData.int = pre ++ (x :: xs).map PyData.int := by simp
      rw [ea] at e
      rw [e]
      cases dr m xs with
      | none => rfl
      | some q => simp
theorem sFor_eq {fi : Ei L} {u : Eg L} {b : Es L} {δ δ1 : List (SV L)} {xs : List (DV L)} (h : fi δ = some (xs, δ1)) : sFor fi u b δ = sForN u b xs δ1 := by unfold sFor; rw [h]
theorem sSeq_rt {g h : Es L} {δ δ' : List (SV L)} {r : RV L} (e : g δ = some (.rt r, δ')) : sSeq g h δ = some (.rt r, δ') := by unfold sSeq; rw [e]
theorem sSeq_nx {g h : Es L} {δ δ' : List (SV L)} (e : g δ = some (.nx, δ')) : sSeq g h δ = h δ' := by unfold sSeq; rw [e]
theorem fnD_rt {np nn : Nat} {b : Es L} {as as' : List (SV L)} {r : RV L} {δ : List (SV L)} (hl : as.length = np) (hp : as ++ List.replicate (nn - np) .un = as') (h : b as' = some (.rt r, δ)) : fnD np nn b as = some (r, back δ) := by
  unfold fnD
  rw [if_pos hl, hl, hp, h]
theorem iterD (m x0 : Int) (xs : List Int) (hl : xs.length < 1000) : iR2 (L := L) (aCons (eC (.int 1)) (aCons (thaw (eCB cLen (aCons (eVar 0) (aNil)))) (aNil))) [.own true (.lst (plD (x0, xs))), .dv (.d (.int m)), .un, .un] = some (ups 1 xs.length, [.own true (.lst (plD (x0, xs))), .dv (.d (.int m)), .un, .un]) := by
  have hr : -(2 ^ 62) ≤ (1 : Int) ∧ (1 : Int) < 2 ^ 62 ∧ -(2 ^ 62) ≤ ((xs.length : Int) + 1) ∧ ((xs.length : Int) + 1) < 2 ^ 62 := by omega
  have el : ((plD (x0, xs)).length : Int) = (xs.length : Int) + 1 := by simp [plD]
  have e4 : (((xs.length : Int) + 1) - 1).toNat = xs.length := by omega
  have ea : aCons (L := L) (eC (.int 1)) (aCons (thaw (eCB cLen (aCons (eVar 0) (aNil)))) (aNil)) [.own true (.lst (plD (x0, xs))), .dv (.d (.int m)), .un, .un] = some ([.d (.int 1), .d (.int ((plD (x0, xs)).length : Int))], [.own true (.lst (plD (x0, xs))), .dv (.d (.int m)), .un, .un]) := by
    simp [aCons, aNil, eC, frz, thaw, eCB, eVar, shr1, pds, cLen, scalR, scalarD]
  unfold iR2
  rw [ea, el]
  show (if -(2 ^ 62) ≤ (1 : Int) ∧ (1 : Int) < 2 ^ 62 ∧ -(2 ^ 62) ≤ ((xs.length : Int) + 1) ∧ ((xs.length : Int) + 1) < 2 ^ 62 then some ((List.range (((xs.length : Int) + 1) - 1).toNat).map fun (k : Nat) => DV.d (.int ((1 : Int) + (k : Int))), _) else none) = _
  rw [if_pos hr, e4]
  unfold ups
  rfl
/-- THE DRAW -/
theorem draw_eq (m : Int) (hm : 0 < m) (hm2 : m < 1000000) (p : Pool) (hl : p.2.length < 1000) : F_law_draw (L := L) [.own true (.lst (plD p)), .dv (.d (.int m))] = some (.dv (.d (.int (draw m p).1)), some (.lst (plD (draw m p).2))) := by
  obtain ⟨x0, xs⟩ := p
  obtain ⟨s2', s3', e⟩ := loopD (L := L) m hm hm2 xs [.int x0] .un .un
  have m0 : ¬ m = 0 := by omega
  have e2 : (([PyData.int x0] : List PD).length : Int) = 1 := rfl
  have en : [PyData.int x0] ++ xs.map PyData.int = plD (x0, xs) := rfl
  rw [e2, en] at e
  have e3 := (sFor_eq (u := uName 2) (b := bodyD) (iterD (L := L) m x0 xs hl)).trans e
  unfold bodyD at e3
  have hz : atI (plD (x0, xs)) 0 = some (.int x0) := atI_nat (plD (x0, xs)) 0
  have hz2 : atI ((plD (x0, xs)).set 0 (.int (x0 + 1))) 0 = some (.int (x0 + 1)) := atI_nat ((plD (x0, xs)).set 0 (.int (x0 + 1))) 0
  have hx : ixN (plD (x0, xs)).length 0 = some 0 := ixN_nat _ 0 (by simp [plD])
  have go : ∀ (r : RV L) (δ : List (SV L)), B_law_draw [.own true (.lst (plD (x0, xs))), .dv (.d (.int m)), .un, .un] = some (.rt r, δ) → F_law_draw (L := L) [.own true (.lst (plD (x0, xs))), .dv (.d (.int m))] = some (r, back δ) := fun r δ h => by
    unfold F_law_draw
    exact fnD_rt (as' := [.own true (.lst (plD (x0, xs))), .dv (.d (.int m)), .un, .un]) (by simp) (by simp) h
  unfold draw
  cases ed : dr m xs with
  | some q =>
    rw [ed] at e3
    rw [go (.dv (.d (.int q.1))) [.own true (.lst ([.int x0] ++ q.2.map PyData.int)), .dv (.d (.int m)), s2', s3'] ?_]
    · simp [ed, back, plD]
    · unfold B_law_draw
      exact sSeq_rt e3
  | none =>
    rw [ed] at e3
    rw [go (.dv (.d (.int ((x0 + 1).fmod m)))) [.own true (.lst ((plD (x0, xs)).set 0 (.int (x0 + 1)))), .dv (.d (.int m)), s2', s3'] ?_]
    · simp [ed, back, plD]
    · unfold B_law_draw
      rw [sSeq_nx e3]
      simp [sSeq, eC, frz, eOp, eIxO, hz, gAdd, gI, sPut, hx, sRet, gMod, eCB, aCons, aNil, pds, cInt, eVar, hz2, m0]
end DL.M
set_option Elab.async false
set_option linter.all false
set_option maxRecDepth 100000
set_option maxHeartbeats 1000000
/-! M3: what is drawn. -/
namespace DL.M
open PySem PySem.Spec L2 TK PySem.W
open PyProof.Rows hiding St
variable [CN]
variable {L : Lang}
def PlOk (p : Pool) : Prop := p.2.length < 1000
theorem draw_ok {m : Int} (h : 0 < m) {p : Pool} (hp : PlOk p) : PlOk (draw m p).2 := by
  unfold PlOk
  rw [(draw_in h p).2]
  exact hp
theorem eCallB_eq {i : Nat} {F : Fn L} {fa : Ea L} {δ δ1 : List (SV L)} {b0 b : Bool} {w0 w w' : OW L} {ds : List (DV L)} {r : RV L} (h0 : δ[i]? = some (.own b0 w0)) (ha : fa δ = some (ds, δ1)) (h1 : δ1[i]? = some (.own b w)) (hF : F (.own true w :: ds.map SV.dv) = some (r, some w')) :
    eCallB i F fa δ = some (r, δ1.set i (.own b w')) := by
  unfold eCallB
  rw [h0]
  dsimp only
  rw [ha]
  dsimp only
  rw [h1]
  dsimp only
  rw [hF]
/-- a draw within a def -/
theorem drawE {δ δ1 : List (SV L)} {i : Nat} {b0 b : Bool} {w0 : OW L} {p : Pool} {m : Int} {fa : Ea L} (hm : 0 < m) (hm2 : m < 1000000) (hp : PlOk p) (h0 : δ[i]? = some (.own b0 w0)) (ha : fa δ = some ([.d (.int m)], δ1)) (h1 : δ1[i]? = some (.own b (.lst (plD p)))) :
    eCallB i F_law_draw fa δ = some (.dv (.d (.int (draw m p).1)), δ1.set i (.own b (.lst (plD (draw m p).2)))) :=
  eCallB_eq h0 ha h1 (draw_eq m hm hm2 p hp)
theorem atI_in {α : Type} {l : List α} {i : Int} (h0 : 0 ≤ i) (h1 : i < l.length) : ∃ d, atI l i = some d ∧ d ∈ l := by
  obtain ⟨n, rfl⟩ : ∃ n : Nat, i = n := ⟨i.toNat, by omega⟩
  have hn : n < l.length := by omega
  exact ⟨l[n], by rw [atI_nat]; exact List.getElem?_eq_getElem hn, List.getElem_mem hn⟩
theorem frz_dv {f : Ev L} {δ δ' : List (SV L)} {d : DV L} (h : f δ = some (.dv d, δ')) : frz f δ = some (d, δ') := by unfold frz; rw [h]
theorem frz_lst {f : Ev L} {δ δ' : List (SV L)} {ds : List PD} (h : f δ = some (.own (.lst ds), δ')) : frz f δ = some (.d (.list ds), δ') := by unfold frz; rw [h]
theorem sRet_eq {f : Ev L} {δ δ' : List (SV L)} {r : RV L} (h : f δ = some (r, δ')) : sRet f δ = some (.rt r, δ') := by unfold sRet; rw [h]
theorem eOp_eq {g : PD → PD → Option PD} {fa fb : Ev L} {δ δ1 δ2 : List (SV L)} {x y z : PD} (h1 : frz fa δ = some (.d x, δ1)) (h2 : frz fb δ1 = some (.d y, δ2)) (h3 : g x y = some z) : eOp g fa fb δ = some (.dv (.d z), δ2) := by
  unfold eOp
  rw [h1]
  dsimp only
  rw [h2]
  dsimp only
  rw [h3]
theorem eVar_dv {i : Nat} {δ : List (SV L)} {d : DV L} (h : δ[i]? = some (.dv d)) : eVar i δ = some (.dv d, δ) := by unfold eVar; rw [h]
/-- one of a row -/
theorem pick_eq {p : Pool} {row : List PD} (hp : PlOk p) (h0 : 0 < row.length) (h1 : row.length < 1000) : ∃ d ∈ row, ∃ p', PlOk p' ∧ F_law_pick (L := L) [.own true (.lst (plD p)), .dv (.d (.list row))] = some (.dv (.d d), some (.lst (plD p'))) := by
  have hm : (0 : Int) < row.length := by omega
  obtain ⟨⟨a, b⟩, _⟩ := draw_in hm p
  obtain ⟨d, ed, hd⟩ := atI_in a b
  obtain ⟨δ, eδ⟩ : ∃ δ : List (SV L), δ = [.own true (.lst (plD p)), .dv (.d (.list row))] := ⟨_, rfl⟩
  have g0 : δ[0]? = some (.own true (.lst (plD p))) := by rw [eδ]; rfl
  have g1 : δ[1]? = some (.dv (.d (.list row))) := by rw [eδ]; rfl
  have ea : aCons (eCB cLen (aCons (eVar 1) (aNil))) (aNil) δ = some ([.d (.int row.length)], δ) := by
    simp [aCons, aNil, frz, eCB, eVar, g1, pds, cLen]
  have e := drawE (L := L) (i := 0) (fa := aCons (eCB cLen (aCons (eVar 1) (aNil))) (aNil)) (δ1 := δ) (b := true) hm (by omega) hp g0 ea g0
  have eb : B_law_pick δ = some (.rt (.dv (.d d)), δ.set 0 (.own true (.lst (plD (draw row.length p).2)))) := by
    unfold B_law_pick
    exact sRet_eq (eOp_eq (frz_dv (eVar_dv g1)) (frz_dv e) ed)
  refine ⟨d, hd, (draw row.length p).2, draw_ok hm hp, ?_⟩
  rw [eδ] at eb
  unfold F_law_pick
  rw [fnD_rt (by rfl) (by rfl) eb]
  rfl
end DL.M
set_option Elab.async false
set_option linter.all false
set_option maxRecDepth 100000
set_option maxHeartbeats 1000000
/-! M4: a step lemma for each combinator. -/
namespace DL.M
open PySem PySem.Spec L2 TK PySem.W
open PyProof.Rows hiding St
variable [CN]
variable {L : Lang}
section
variable {δ δ1 δ2 : List (SV L)}
theorem sIf_t {c : Et L} {g h : Es L} (e : c δ = some (true, δ1)) : sIf c g h δ = g δ1 := by unfold sIf; rw [e]
theorem sIf_f {c : Et L} {g h : Es L} (e : c δ = some (false, δ1)) : sIf c g h δ = h δ1 := by unfold sIf; rw [e]
theorem tst_eq {f : Ev L} {b : Bool} (e : f δ = some (.dv (.d (.bool b)), δ1)) : tst f δ = some (b, δ1) := by unfold tst; rw [e]
theorem tstNot_eq {f : Et L} {b : Bool} (e : f δ = some (b, δ1)) : tstNot f δ = some (!b, δ1) := by unfold tstNot; rw [e]
theorem tstAnd_t {f g : Et L} (e : f δ = some (true, δ1)) : tstAnd f g δ = g δ1 := by unfold tstAnd; rw [e]
theorem tstAnd_f {f g : Et L} (e : f δ = some (false, δ1)) : tstAnd f g δ = some (false, δ1) := by unfold tstAnd; rw [e]
theorem tstOr_t {f g : Et L} (e : f δ = some (true, δ1)) : tstOr f g δ = some (true, δ1) := by unfold tstOr; rw [e]
theorem tstOr_f {f g : Et L} (e : f δ = some (false, δ1)) : tstOr f g δ = g δ1 := by unfold tstOr; rw [e]
theorem ofT_eq {f : Et L} {b : Bool} (e : f δ = some (b, δ1)) : ofT f δ = some (.dv (.d (.bool b)), δ1) := by unfold ofT; rw [e]
theorem eIf_t {c : Et L} {f g : Ev L} (e : c δ = some (true, δ1)) : eIf c f g δ = f δ1 := by unfold eIf; rw [e]
theorem eIf_f {c : Et L} {f g : Ev L} (e : c δ = some (false, δ1)) : eIf c f g δ = g δ1 := by unfold eIf; rw [e]
theorem aNil_eq : aNil δ = some ([], δ) := rfl
theorem aCons_eq {f : Ev L} {fa : Ea L} {d : DV L} {ds : List (DV L)} (e : frz f δ = some (d, δ1)) (e2 : fa δ1 = some (ds, δ2)) : aCons f fa δ = some (d :: ds, δ2) := by
  unfold aCons
  rw [e]
  dsimp only
  rw [e2]
theorem eCall_eq {F : Fn L} {fa : Ea L} {ds : List (DV L)} {r : RV L} {w : Option (OW L)} (e : fa δ = some (ds, δ1)) (e2 : F (ds.map SV.dv) = some (r, w)) : eCall F fa δ = some (r, δ1) := by
  unfold eCall
  rw [e]
  dsimp only
  rw [e2]
theorem eC_eq {d : PD} : eC d δ = some (.dv (.d d), δ) := rfl
theorem sSet_dv {i : Nat} {f : Ev L} {d : DV L} (e : f δ = some (.dv d, δ1)) (h : i < δ1.length) : sSet i f δ = some (.nx, δ1.set i (.dv d)) := by
  unfold sSet
  rw [e]
  dsimp only
  rw [if_pos h]
theorem sSet_own {i : Nat} {f : Ev L} {w : OW L} (e : f δ = some (.own w, δ1)) (h : i < δ1.length) : sSet i f δ = some (.nx, δ1.set i (.own false w)) := by
  unfold sSet
  rw [e]
  dsimp only
  rw [if_pos h]
end
end DL.M
set_option Elab.async false
set_option linter.all false
set_option maxRecDepth 100000
set_option maxHeartbeats 1000000
/-! M5: all choices of names, a row of what they give, folded. -/
namespace DL.M
section
variable {N : Type} [DecidableEq N]
/-- ns: the last name first -/
def chs : List N → List (List N)
  | [] => [[]]
  | n :: ns => chs ns ++ (chs ns).map fun c => c ++ [n]
theorem chs_len : ∀ ns : List N, (chs ns).length = 2 ^ ns.length
  | [] => rfl
  | n :: ns => by
    show (chs ns ++ (chs ns).map fun c => c ++ [n]).length = _
    rw [List.length_append, List.length_map, chs_len ns, List.length_cons, Nat.pow_succ]
    omega
/-- a row folded -/
def rf : List N → List (Option Int) → Pap N
  | [], row => .leaf (row.head?.getD none)
  | n :: ns, row => Pap.ask n (rf ns (row.take (row.length / 2))) (rf ns (row.drop (row.length / 2)))
theorem rf_fold : ∀ (ns : List N) (f : List N → Option Int), rf ns ((chs ns).map f) = Pap.fold ns f
  | [], f => rfl
  | n :: ns, f => by
    have hl : ((chs (n :: ns)).map f).length / 2 = ((chs ns).map f).length := by
      rw [List.length_map, List.length_map, chs_len, chs_len, List.length_cons, Nat.pow_succ]
      omega
    have e : (chs (n :: ns)).map f = (chs ns).map f ++ (chs ns).map fun c => f (c ++ [n]) := by
      show (chs ns ++ (chs ns).map fun c => c ++ [n]).map f = _
      rw [List.map_append, List.map_map]
      rfl
    show Pap.ask n (rf ns (((chs (n :: ns)).map f).take (((chs (n :: ns)).map f).length / 2))) (rf ns (((chs (n :: ns)).map f).drop (((chs (n :: ns)).map f).length / 2))) = Pap.ask n (Pap.fold ns f) (Pap.fold ns fun c => f (c ++ [n]))
    rw [hl, e, List.take_left, List.drop_left, rf_fold ns f, rf_fold ns fun c => f (c ++ [n])]
/-- every row of the right length is what some reading gives -/
theorem rf_ok {lt : N → N → Prop} : ∀ (ns : List N) (row : List (Option Int)), ns.Pairwise (fun x y => lt y x) → (rf ns row).Ok lt ∧ (∀ m ∈ (rf ns row).names, m ∈ ns) ∧ (rf ns row).depth ≤ ns.length ∧ (rf ns row).size + 1 ≤ 2 ^ ns.length
  | [], row, _ => ⟨trivial, (fun m h => absurd h (by simp [rf, Pap.names])), Nat.le_refl _, Nat.le_refl _⟩
  | n :: ns, row, hp => by
    obtain ⟨p1, p2⟩ := List.pairwise_cons.mp hp
    obtain ⟨a1, a2, a3, a4⟩ := rf_ok ns (row.take (row.length / 2)) p2
    obtain ⟨b1, b2, b3, b4⟩ := rf_ok ns (row.drop (row.length / 2)) p2
    refine ⟨Pap.ok_ask a1 b1 (fun m hm => p1 m (a2 m hm)) fun m hm => p1 m (b2 m hm), fun m hm => ?_, ?_, ?_⟩
    · rcases Pap.names_ask hm with z | z | z
      · rw [z]; exact List.mem_cons_self
      · exact List.mem_cons_of_mem _ (a2 m z)
      · exact List.mem_cons_of_mem _ (b2 m z)
    · have : (rf (n :: ns) row).depth ≤ _ := Pap.depth_ask
      rw [List.length_cons]
      omega
    · have : (rf (n :: ns) row).size ≤ _ := Pap.size_ask
      rw [List.length_cons, Nat.pow_succ]
      omega
end
end DL.M
set_option Elab.async false
set_option linter.all false
set_option maxRecDepth 100000
set_option maxHeartbeats 1000000
/-! M6: displays, comprehensions, loops: their rules. -/
namespace DL.M
open PySem PySem.Spec L2 TK PySem.W
open PyProof.Rows hiding St
variable [CN]
variable {L : Lang}
section
variable {δ δ1 δ2 : List (SV L)}
theorem eTup_eq {fa : Ea L} {ds : List (DV L)} {xs : List PD} (e : fa δ = some (ds, δ1)) (h : pds ds = some xs) (hl : xs.length ≤ 1000 := by simp) : eTup fa δ = some (.dv (.d (.tuple xs)), δ1) := by
  unfold eTup
  rw [e]
  dsimp only
  rw [h]
  dsimp only
  rw [if_pos hl]
theorem eLst_eq {fa : Ea L} {ds : List (DV L)} {xs : List PD} (e : fa δ = some (ds, δ1)) (h : pds ds = some xs) (hl : xs.length ≤ 1000 := by simp) : eLst fa δ = some (.own (.lst xs), δ1) := by
  unfold eLst
  rw [e]
  dsimp only
  rw [h]
  dsimp only
  rw [if_pos hl]
theorem eOpL_eq {g : PD → PD → Option (List PD)} {fa fb : Ev L} {x y : PD} {z : List PD} (h1 : frz fa δ = some (.d x, δ1)) (h2 : frz fb δ1 = some (.d y, δ2)) (h3 : g x y = some z) : eOpL g fa fb δ = some (.own (.lst z), δ2) := by
  unfold eOpL
  rw [h1]
  dsimp only
  rw [h2]
  dsimp only
  rw [h3]
theorem gCat_eq {xs ys : List PD} (h : xs.length + ys.length ≤ 100000) : gCat (.list xs) (.list ys) = some (xs ++ ys) := if_pos h
theorem iL_eq {f : Ev L} {ds : List PD} (h : frz f δ = some (.d (.list ds), δ1)) : iL f δ = some (ds.map DV.d, δ1) := by unfold iL; rw [h]
theorem eVar_own {i : Nat} {b : Bool} {ds : List PD} (h : δ[i]? = some (.own b (.lst ds))) : eVar i δ = some (.dv (.d (.list ds)), δ.set i (.dv (.d (.list ds)))) := by unfold eVar; rw [h]
theorem eMv_own {i : Nat} {b : Bool} {w : OW L} (h : δ[i]? = some (.own b w)) : eMv i δ = some (.own w, δ.set i .un) := by unfold eMv; rw [h]
/-- [f for u in xs], the frame as it was -/
theorem lcN_map {A : Type} {vs : List Nat} {u : Eg L} {c : Et L} {f : Ev L} {inj : A → DV L} {g : A → PD} : ∀ (xs : List A) (acc : List PD), (∀ x ∈ xs, ∃ δ1 δ2 δ3, u (inj x) δ = some δ1 ∧ c δ1 = some (true, δ2) ∧ frz f δ2 = some (.d (g x), δ3) ∧ wipeD δ3 vs = δ) →
    lcN vs u c f (xs.map inj) δ acc = some (acc ++ xs.map g, δ)
  | [], acc, _ => by rw [List.map_nil, List.map_nil, List.append_nil]; rfl
  | x :: xs, acc, h => by
    obtain ⟨δ1, δ2, δ3, h1, h2, h3, h4⟩ := h x List.mem_cons_self
    rw [List.map_cons]
    unfold lcN
    rw [h1]
    dsimp only
    rw [h2]
    dsimp only
    rw [h3]
    dsimp only
    rw [h4, lcN_map xs _ fun y hy => h y (List.mem_cons_of_mem _ hy), List.map_cons, List.append_assoc]
    rfl
/-- [f for u in xs if c] -/
theorem lcN_filter {A : Type} {vs : List Nat} {u : Eg L} {c : Et L} {f : Ev L} {inj : A → DV L} {g : A → PD} {p : A → Bool} : ∀ (xs : List A) (acc : List PD), (∀ x ∈ xs, ∃ δ1 δ2, u (inj x) δ = some δ1 ∧ c δ1 = some (p x, δ2) ∧ (p x = true → ∃ δ3, frz f δ2 = some (.d (g x), δ3) ∧ wipeD δ3 vs = δ) ∧ (p x = false → wipeD δ2 vs = δ)) →
    lcN vs u c f (xs.map inj) δ acc = some (acc ++ (xs.filter p).map g, δ)
  | [], acc, _ => by rw [List.map_nil, List.filter_nil, List.map_nil, List.append_nil]; rfl
  | x :: xs, acc, h => by
    obtain ⟨δ1, δ2, h1, h2, h3, h4⟩ := h x List.mem_cons_self
    have ih := fun acc => lcN_filter (inj := inj) (g := g) (p := p) xs acc fun y hy => h y (List.mem_cons_of_mem _ hy)
    rw [List.map_cons]
    unfold lcN
    rw [h1]
    dsimp only
    rw [h2]
    cases hp : p x with
    | true =>
      obtain ⟨δ3, h5, h6⟩ := h3 hp
      dsimp only
      rw [h5]
      dsimp only
      rw [h6, ih, List.filter_cons_of_pos hp, List.map_cons, List.append_assoc]
      rfl
    | false =>
      dsimp only
      rw [h4 hp, ih, List.filter_cons_of_neg (by rw [hp]; decide)]
theorem eLc_eq {vs : List Nat} {fi : Ei L} {u : Eg L} {c : Et L} {f : Ev L} {xs : List (DV L)} {out : List PD} (hi : fi δ = some (xs, δ1)) (hl : xs.length ≤ 100000) (h : lcN vs u c f xs (wipeD δ1 vs) [] = some (out, δ2)) : eLc vs fi u c f δ = some (.own (.lst out), wipeD δ2 vs) := by
  unfold eLc
  rw [hi]
  dsimp only
  rw [if_pos hl, h]
/-- a loop that no turn leaves, by an invariant over what is left -/
theorem sForN_inv {A : Type} {u : Eg L} {b : Es L} {inj : A → DV L} {I : List A → List (SV L) → Prop} : ∀ (xs : List A) (δ : List (SV L)), I xs δ → (∀ x r δ, I (x :: r) δ → ∃ δ1 δ2, u (inj x) δ = some δ1 ∧ b δ1 = some (.nx, δ2) ∧ I r δ2) →
    ∃ δ', sForN u b (xs.map inj) δ = some (.nx, δ') ∧ I [] δ'
  | [], δ, h, _ => ⟨δ, rfl, h⟩
  | x :: xs, δ, h, st => by
    obtain ⟨δ1, δ2, h1, h2, h3⟩ := st x xs δ h
    obtain ⟨δ', e, h'⟩ := sForN_inv xs δ2 h3 st
    refine ⟨δ', ?_, h'⟩
    rw [List.map_cons]
    unfold sForN
    rw [h1]
    dsimp only
    rw [h2]
    exact e
end
end DL.M
set_option Elab.async false
set_option linter.all false
set_option maxRecDepth 100000
set_option maxHeartbeats 1000000
/-! M7: _law_choices. -/
namespace DL.M
open PySem PySem.Spec L2 TK PySem.W
open PyProof.Rows hiding St
variable [CN]
variable {L : Lang}
def nsD (c : List Nm) : PD := .list (c.map nmD)
theorem choices_step {nl : DV L} {x : Nm} {X : List (List Nm)} (hX : X.length ≤ 5000) (hc1 : ∀ c ∈ X, c.length ≤ 1000) : sSet (L := L) 1 (eOpL gCat (eVar 1) (eLc [3] (iL (eVar 1)) (uName 3) cYes (eOpL gCat (eVar 3) (eLst (aCons (eVar 2) (aNil)))))) [.dv nl, .own false (.lst (X.map nsD)), .dv (.d (nmD x)), .un] =
    some (.nx, [.dv nl, .own false (.lst ((X ++ X.map fun c => c ++ [x]).map nsD)), .dv (.d (nmD x)), .un]) := by
  obtain ⟨δ, eδ⟩ : ∃ δ : List (SV L), δ = [.dv nl, .dv (.d (.list (X.map nsD))), .dv (.d (nmD x)), .un] := ⟨_, rfl⟩
  have g1 : δ[1]? = some (.dv (.d (.list (X.map nsD)))) := by rw [eδ]; rfl
  have wp : wipeD δ [3] = δ := by rw [eδ]; rfl
  have e1 : eVar (L := L) 1 [.dv nl, .own false (.lst (X.map nsD)), .dv (.d (nmD x)), .un] = some (.dv (.d (.list (X.map nsD))), δ) := by rw [eδ]; rfl
  have ei : iL (eVar 1) δ = some (X.map (fun c => DV.d (nsD c)), δ) := by
    rw [iL_eq (frz_dv (eVar_dv g1)), List.map_map]
    rfl
  have el := lcN_map (L := L) (δ := δ) (vs := [3]) (u := uName 3) (c := cYes) (f := eOpL gCat (eVar 3) (eLst (aCons (eVar 2) (aNil)))) (inj := fun c => DV.d (nsD c)) (g := fun c => nsD (c ++ [x])) X [] fun c hc => by
    refine ⟨δ.set 3 (.dv (.d (nsD c))), δ.set 3 (.dv (.d (nsD c))), δ.set 3 (.dv (.d (nsD c))), by rw [eδ]; rfl, rfl, ?_, by rw [eδ]; rfl⟩
    have g3 : (δ.set 3 (.dv (.d (nsD c))))[3]? = some (.dv (.d (.list (c.map nmD)))) := by rw [eδ]; rfl
    have g2 : (δ.set 3 (.dv (.d (nsD c))))[2]? = some (.dv (.d (nmD x))) := by rw [eδ]; rfl
    have ea := eLst_eq (aCons_eq (frz_dv (eVar_dv g2)) aNil_eq) (xs := [nmD x]) rfl
    have hl : (c.map nmD).length + [nmD x].length ≤ 100000 := by
      have := hc1 c hc
      rw [List.length_map, List.length_singleton]
      omega
    rw [frz_lst (eOpL_eq (frz_dv (eVar_dv g3)) (frz_lst ea) (gCat_eq hl))]
    simp [nsD]
  rw [List.nil_append] at el
  have e2 := eLc_eq (vs := [3]) ei (by rw [List.length_map]; omega) (by rw [wp]; exact el)
  rw [wp] at e2
  have e3 := sSet_own (i := 1) (eOpL_eq (frz_dv e1) (frz_lst e2) (gCat_eq (by rw [List.length_map, List.length_map]; omega))) (by rw [eδ]; simp)
  rw [e3, eδ]
  simp
theorem chs_sub : ∀ (ns : List Nm) {c : List Nm}, c ∈ chs ns → (∀ m ∈ c, m ∈ ns) ∧ c.length ≤ ns.length
  | [], c, h => by
    rw [List.mem_singleton.mp h]
    exact ⟨fun m hm => absurd hm (by simp), Nat.le_refl _⟩
  | n :: ns, c, h => by
    rcases List.mem_append.mp (show c ∈ chs ns ++ (chs ns).map fun c => c ++ [n] from h) with h | h
    · obtain ⟨a, b⟩ := chs_sub ns h
      exact ⟨fun m hm => List.mem_cons_of_mem _ (a m hm), by rw [List.length_cons]; omega⟩
    · obtain ⟨d, hd, rfl⟩ := List.mem_map.mp h
      obtain ⟨a, b⟩ := chs_sub ns hd
      refine ⟨fun m hm => ?_, by simp; omega⟩
      rcases List.mem_append.mp hm with z | z
      · exact List.mem_cons_of_mem _ (a m z)
      · rw [List.mem_singleton.mp z]; exact List.mem_cons_self
end DL.M
set_option Elab.async false
set_option linter.all false
set_option maxRecDepth 100000
set_option maxHeartbeats 1000000
/-! M8: _law_choices whole. -/
namespace DL.M
open PySem PySem.Spec L2 TK PySem.W
open PyProof.Rows hiding St
variable [CN]
variable {L : Lang}
theorem choices_loop {nl : DV L} (ns : List Nm) (hl : ns.length ≤ 11) (s2 : SV L) : ∃ s2', sForN (L := L) (uName 2) (sSet 1 (eOpL gCat (eVar 1) (eLc [3] (iL (eVar 1)) (uName 3) cYes (eOpL gCat (eVar 3) (eLst (aCons (eVar 2) (aNil))))))) (ns.map fun n => DV.d (nmD n)) [.dv nl, .own false (.lst [nsD []]), s2, .un] =
    some (.nx, [.dv nl, .own false (.lst ((chs ns.reverse).map nsD)), s2', .un]) := by
  obtain ⟨δ', e, s2', done, e1, e2⟩ := sForN_inv (L := L) (u := uName 2) (b := sSet 1 (eOpL gCat (eVar 1) (eLc [3] (iL (eVar 1)) (uName 3) cYes (eOpL gCat (eVar 3) (eLst (aCons (eVar 2) (aNil))))))) (inj := fun n => DV.d (nmD n))
    (I := fun r δ => ∃ (s2 : SV L) (done : List Nm), done ++ r = ns ∧ δ = [.dv nl, .own false (.lst ((chs done.reverse).map nsD)), s2, .un]) ns [.dv nl, .own false (.lst [nsD []]), s2, .un] ⟨s2, [], rfl, rfl⟩
    fun x r δ ⟨s2, done, ed, eδ⟩ => by
      subst eδ
      have hd : done.length + 1 ≤ 11 := by
        have := congrArg List.length ed
        rw [List.length_append, List.length_cons] at this
        omega
      have hp : 2 ^ done.length ≤ 2 ^ 10 := Nat.pow_le_pow_right (by decide) (by omega)
      refine ⟨_, _, rfl, choices_step (X := chs done.reverse) (x := x) ?_ fun c hc => ?_, .dv (.d (nmD x)), done ++ [x], by rw [List.append_assoc]; exact ed, ?_⟩
      · rw [chs_len, List.length_reverse]
        have : (2 : Nat) ^ 10 = 1024 := by decide
        omega
      · have := (chs_sub _ hc).2
        rw [List.length_reverse] at this
        omega
      · rw [List.reverse_append]
        rfl
  rw [List.append_nil] at e1
  subst e1
  exact ⟨s2', by rw [e, e2]⟩
theorem choices_eq (ns : List Nm) (hl : ns.length ≤ 11) : F_law_choices (L := L) [.dv (.d (nsD ns))] = some (.own (.lst ((chs ns.reverse).map nsD)), none) := by
  obtain ⟨s2', e⟩ := choices_loop (L := L) (nl := .d (nsD ns)) ns hl .un
  have e0 : sSet (L := L) 1 (eLst (aCons (eLst (aNil)) (aNil))) [.dv (.d (nsD ns)), .un, .un, .un] = some (.nx, [.dv (.d (nsD ns)), .own false (.lst [nsD []]), .un, .un]) :=
    sSet_own (eLst_eq (aCons_eq (frz_lst (eLst_eq aNil_eq rfl)) aNil_eq) rfl) (by simp)
  have ei : iL (eVar 0) [.dv (.d (nsD ns)), .own false (.lst [nsD []]), .un, .un] = some (ns.map (fun n => DV.d (nmD n)), ([.dv (.d (nsD ns)), .own false (.lst [nsD []]), .un, .un] : List (SV L))) := by
    rw [iL_eq (frz_dv (eVar_dv (i := 0) (d := .d (.list (ns.map nmD))) rfl)), List.map_map]
    rfl
  have eb : B_law_choices (L := L) [.dv (.d (nsD ns)), .un, .un, .un] = some (.rt (.own (.lst ((chs ns.reverse).map nsD))), [.dv (.d (nsD ns)), .un, s2', .un]) := by
    unfold B_law_choices
    rw [sSeq_nx e0, sSeq_nx ((sFor_eq ei).trans e)]
    exact sRet_eq (eMv_own rfl)
  unfold F_law_choices
  rw [fnD_rt (by rfl) (by rfl) eb]
  rfl
end DL.M
set_option Elab.async false
set_option linter.all false
set_option maxRecDepth 100000
set_option maxHeartbeats 1000000
/-! M9: slices; _law_fold. -/
namespace DL.M
open PySem PySem.Spec L2 TK PySem.W
open PyProof.Rows hiding St
variable [CN]
variable {L : Lang}
theorem cut_init {xs : List PD} {x : PD} : cutD (xs ++ [x]) none (some (-1)) = xs := by
  have e : HT.sIx (xs ++ [x]).length (xs ++ [x]).length (some (-1)) = xs.length := by
    show (if (-1 : Int) < 0 then ((-1 : Int) + ((xs ++ [x]).length : Int)).toNat else min (-1 : Int).toNat (xs ++ [x]).length) = _
    rw [if_pos (by decide), List.length_append, List.length_singleton]
    omega
  unfold cutD
  rw [e, HT.sIx_none, List.drop_zero, Nat.sub_zero, List.take_left]
theorem cut_to {xs : List PD} {k : Nat} (h : k ≤ xs.length) : cutD xs none (some (k : Int)) = xs.take k := by
  unfold cutD
  rw [HT.sIx_nat, HT.sIx_none, List.drop_zero, Nat.sub_zero, Nat.min_eq_left h]
theorem cut_from {xs : List PD} {k : Nat} (h : k ≤ xs.length) : cutD xs (some (k : Int)) none = xs.drop k := by
  unfold cutD
  rw [HT.sIx_nat, HT.sIx_none, Nat.min_eq_left h, List.take_of_length_le (by rw [List.length_drop]; omega)]
section
variable {δ δ1 δ2 δ3 : List (SV L)}
theorem oSome_eq {f : Ev L} {i : Int} (e : f δ = some (.dv (.d (.int i)), δ1)) : oSome f δ = some (some i, δ1) := by unfold oSome; rw [e]
theorem eSl_eq {f : Ev L} {fl fh : List (SV L) → Option (Option Int × List (SV L))} {xs : List PD} {lo hi : Option Int} (e : frz f δ = some (.d (.list xs), δ1)) (e1 : fl δ1 = some (lo, δ2)) (e2 : fh δ2 = some (hi, δ3)) : eSl f fl fh δ = some (.own (.lst (cutD xs lo hi)), δ3) := by
  unfold eSl
  rw [e]
  dsimp only
  rw [e1]
  dsimp only
  rw [e2]
theorem eNeg_eq {f : Ev L} {i : Int} (e : f δ = some (.dv (.d (.int i)), δ1)) : eNeg f δ = some (.dv (.d (.int (-i))), δ1) := by unfold eNeg; rw [e]
theorem eCB_eq {g : List PD → Option PD} {fa : Ea L} {ds : List (DV L)} {xs : List PD} {z : PD} (e : fa δ = some (ds, δ1)) (h : pds ds = some xs) (h2 : g xs = some z) : eCB g fa δ = some (.dv (.d z), δ1) := by
  unfold eCB
  rw [e]
  dsimp only
  rw [h]
  dsimp only
  rw [h2]
end
theorem gEq_eq {x y : PD} (hx : SeqAt.shaped x = true) (hy : SeqAt.shaped y = true) : gEq x y = some (.bool (PyData.eqv x y)) := if_pos ⟨hx, hy⟩
theorem gNe_eq {x y : PD} (hx : SeqAt.shaped x = true) (hy : SeqAt.shaped y = true) : gNe x y = some (.bool (!PyData.eqv x y)) := if_pos ⟨hx, hy⟩
theorem lay_nms : ∀ {ns : List Nm}, (∀ n ∈ ns, NmOk n) → PyData.canLayAll0 (ns.map nmD) = true ∧ PyData.depthAll (ns.map nmD) ≤ 1
  | [], _ => ⟨by simp [PyData.canLayAll0], by simp [PyData.depthAll]⟩
  | n :: ns, h => by
    obtain ⟨a, b⟩ := lay_nms (ns := ns) fun m hm => h m (List.mem_cons_of_mem _ hm)
    have hn := h n List.mem_cons_self
    rw [List.map_cons]
    refine ⟨?_, ?_⟩
    · simp only [PyData.canLayAll0, a, nmD, PyData.canLay0, hn.2.1, hn.2.2, Bool.and_true]
    · simp only [PyData.depthAll, nmD, PyData.depth]
      omega
theorem shaped_nms {ns : List Nm} (h : ∀ n ∈ ns, NmOk n) : SeqAt.shaped (nsD ns) = true := by
  obtain ⟨a, b⟩ := lay_nms h
  unfold SeqAt.shaped nsD
  have e1 : (PyData.list (ns.map nmD)).canLay0 = true := by simp only [PyData.canLay0, a]
  have e2 : (PyData.list (ns.map nmD)).depth ≤ 64 := by
    simp only [PyData.depth]
    omega
  rw [e1, Bool.true_and]
  exact decide_eq_true e2
theorem shaped_nil : SeqAt.shaped (.list []) = true := by
  unfold SeqAt.shaped
  simp [PyData.canLay0, PyData.canLayAll0, PyData.depth, PyData.depthAll]
end DL.M
set_option Elab.async false
set_option linter.all false
set_option maxRecDepth 100000
set_option maxHeartbeats 1000000
/-! M10: _law_fold. -/
namespace DL.M
open PySem PySem.Spec L2 TK PySem.W
open PyProof.Rows hiding St
variable [CN]
variable {L : Lang}
def rowD (row : List (Option Int)) : PD := .list (row.map vD)
theorem take_rowD (row : List (Option Int)) (k : Nat) : (row.map vD).take k = (row.take k).map vD := List.map_take.symm
theorem drop_rowD (row : List (Option Int)) (k : Nat) : (row.map vD).drop k = (row.drop k).map vD := List.map_drop.symm
theorem eqv_nsD_nil : ∀ ns : List Nm, PyData.eqv (nsD ns) (.list []) = decide (ns = [])
  | [] => by simp [nsD, PyData.eqv, PyData.eqvAll]
  | n :: ns => by simp [nsD, PyData.eqv, PyData.eqvAll]
/-- ns: the last name first -/
theorem fold_eq : ∀ (ns : List Nm) (row : List (Option Int)) (n : Nat), ns.length ≤ n → ns.length ≤ 18 → row.length = 2 ^ ns.length → ns.Pairwise (fun x y => nlt y x) → (∀ m ∈ ns, NmOk m) →
    F_law_fold (L := L) (n + 1) [.dv (.d (nsD ns.reverse)), .dv (.d (rowD row))] = some (.dv (.d (papD (rf ns row))), none)
  | [], row, n, _, _, hl, _, _ => by
    obtain ⟨v, rfl⟩ : ∃ v, row = [v] := by
      match row, hl with
      | [v], _ => exact ⟨v, rfl⟩
    have g0 : ([.dv (.d (nsD [])), .dv (.d (rowD [v])), .un, .un, .un] : List (SV L))[0]? = some (.dv (.d (nsD []))) := rfl
    have eb : B_law_fold (L := L) (F_law_fold n) [.dv (.d (nsD [])), .dv (.d (rowD [v])), .un, .un, .un] = some (.rt (.dv (.d (.tuple [.str "is", vD v]))), [.dv (.d (nsD [])), .dv (.d (rowD [v])), .un, .un, .un]) := by
      unfold B_law_fold
      refine sSeq_rt ?_
      have et := eOp_eq (frz_dv (eVar_dv g0)) (frz_lst (eLst_eq aNil_eq rfl)) ((gEq_eq (shaped_nms (ns := []) (by simp)) shaped_nil).trans (by rw [eqv_nsD_nil]))
      rw [sIf_t (tst_eq (b := true) et)]
      exact sRet_eq (eTup_eq (aCons_eq (frz_dv eC_eq) (aCons_eq (frz_dv (eOp_eq (frz_dv (eVar_dv (i := 1) rfl)) (frz_dv eC_eq) (z := vD v) rfl)) aNil_eq)) rfl)
    show fnD 2 5 (B_law_fold (F_law_fold n)) _ = _
    rw [List.reverse_nil, fnD_rt (by rfl) (by rfl) eb]
    rfl
  | m :: ns, row, 0, h, _, _, _, _ => absurd h (by simp)
  | m :: ns, row, n + 1, h, h18, hl, hp, hk => by
    obtain ⟨p1, p2⟩ := List.pairwise_cons.mp hp
    rw [List.length_cons] at h h18 hl
    rw [Nat.pow_succ] at hl
    have k1 := fun x hx => hk x (List.mem_cons_of_mem _ hx)
    have hh : row.length / 2 = 2 ^ ns.length := by omega
    have l1 : (row.take (row.length / 2)).length = 2 ^ ns.length := by rw [List.length_take]; omega
    have l2 : (row.drop (row.length / 2)).length = 2 ^ ns.length := by rw [List.length_drop]; omega
    have i1 := fold_eq ns (row.take (row.length / 2)) n (by omega) (by omega) l1 p2 k1
    have i2 := fold_eq ns (row.drop (row.length / 2)) n (by omega) (by omega) l2 p2 k1
    obtain ⟨s, es⟩ : ∃ s, s = rf ns (row.take (row.length / 2)) := ⟨_, rfl⟩
    obtain ⟨g, eg⟩ : ∃ g, g = rf ns (row.drop (row.length / 2)) := ⟨_, rfl⟩
    obtain ⟨_, s2, s3, _⟩ := rf_ok (lt := nlt) ns (row.take (row.length / 2)) p2
    obtain ⟨_, t2, t3, _⟩ := rf_ok (lt := nlt) ns (row.drop (row.length / 2)) p2
    rw [← es] at i1 s2 s3
    rw [← eg] at i2 t2 t3
    have shs := shaped_pap (p := s) (fun x hx => k1 x (s2 x hx)) (by omega)
    have shg := shaped_pap (p := g) (fun x hx => k1 x (t2 x hx)) (by omega)
    have er : rf (m :: ns) row = Pap.ask m s g := by rw [es, eg]; rfl
    obtain ⟨nm, enm⟩ : ∃ nm, nm = nsD (m :: ns).reverse := ⟨_, rfl⟩
    obtain ⟨rw', erw⟩ : ∃ r, r = rowD row := ⟨_, rfl⟩
    rw [← enm, ← erw, er]
    have enl : nm = .list (ns.reverse.map nmD ++ [nmD m]) := by rw [enm]; simp [nsD]
    have shn : SeqAt.shaped nm = true := by rw [enm]; exact shaped_nms fun x hx => hk x (List.mem_reverse.mp hx)
    have hne : PyData.eqv nm (.list []) = false := by rw [enm, eqv_nsD_nil]; simp
    have erl : rw' = .list (row.map vD) := erw
    have half : (((row.length / 2 : Nat) : Nat) : Int) = ((row.map vD).length : Int).fdiv 2 := by
      rw [List.length_map, Int.fdiv_eq_ediv_of_nonneg _ (by decide)]
      omega
    have st1 : sIf (L := L) (tst (eOp gEq (eVar 0) (eLst (aNil)))) (sRet (eTup (aCons (eC (.str "is")) (aCons (eOp gIx (eVar 1) (eC (.int 0))) (aNil))))) (sNil) [.dv (.d nm), .dv (.d rw'), .un, .un, .un] = some (.nx, [.dv (.d nm), .dv (.d rw'), .un, .un, .un]) := by
      have et := eOp_eq (L := L) (δ := [.dv (.d nm), .dv (.d rw'), .un, .un, .un]) (frz_dv (eVar_dv (i := 0) (d := .d nm) rfl)) (frz_lst (eLst_eq aNil_eq rfl)) ((gEq_eq shn shaped_nil).trans (by rw [hne]))
      rw [sIf_f (tst_eq (b := false) et)]
      rfl
    have st2 : sSet (L := L) 2 (eOp gFdiv (eCB cLen (aCons (eVar 1) (aNil))) (eC (.int 2))) [.dv (.d nm), .dv (.d rw'), .un, .un, .un] = some (.nx, [.dv (.d nm), .dv (.d rw'), .dv (.d (.int ((row.length / 2 : Nat) : Int))), .un, .un]) := by
      have e1 := eCB_eq (L := L) (δ := [.dv (.d nm), .dv (.d rw'), .un, .un, .un]) (g := cLen) (aCons_eq (frz_dv (eVar_dv (i := 1) (d := .d rw') rfl)) aNil_eq) (xs := [rw']) rfl (z := .int ((row.map vD).length : Int)) (by rw [erl]; rfl)
      have e2 := eOp_eq (g := gFdiv) (frz_dv e1) (frz_dv (eC_eq (d := .int 2))) (z := .int ((row.length / 2 : Nat) : Int)) (by rw [half]; rfl)
      exact sSet_dv e2 (by simp)
    obtain ⟨hf, ehf⟩ : ∃ x : Int, x = ((row.length / 2 : Nat) : Int) := ⟨_, rfl⟩
    rw [← ehf] at st2
    obtain ⟨δ2, e2⟩ : ∃ δ : List (SV L), δ = [.dv (.d nm), .dv (.d rw'), .dv (.d (.int hf)), .un, .un] := ⟨_, rfl⟩
    rw [← e2] at st2
    have g0 : δ2[0]? = some (.dv (.d (.list (ns.reverse.map nmD ++ [nmD m])))) := by rw [e2, ← enl]; rfl
    have g1 : δ2[1]? = some (.dv (.d (.list (row.map vD)))) := by rw [e2, erl]; rfl
    have g2 : δ2[2]? = some (.dv (.d (.int hf))) := by rw [e2]; rfl
    have ek : row.length / 2 ≤ (row.map vD).length := by rw [List.length_map]; omega
    have a1 : ∀ {δ : List (SV L)}, δ[0]? = some (.dv (.d (.list (ns.reverse.map nmD ++ [nmD m])))) → frz (eSl (eVar 0) oNone (oSome (eNeg (eC (.int 1))))) δ = some (.d (nsD ns.reverse), δ) := fun h => by
      have := eSl_eq (frz_dv (eVar_dv h)) (fl := oNone) (lo := none) rfl (oSome_eq (eNeg_eq (i := 1) eC_eq))
      rw [frz_lst this, cut_init]
      rfl
    have b1 : ∀ {δ : List (SV L)}, δ[1]? = some (.dv (.d (.list (row.map vD)))) → δ[2]? = some (.dv (.d (.int hf))) → frz (eSl (eVar 1) oNone (oSome (eVar 2))) δ = some (.d (rowD (row.take (row.length / 2))), δ) := fun h h2 => by
      have := eSl_eq (frz_dv (eVar_dv h)) (fl := oNone) (lo := none) rfl (oSome_eq (eVar_dv h2))
      rw [frz_lst this, ehf, cut_to ek, take_rowD]
      rfl
    have b2 : ∀ {δ : List (SV L)}, δ[1]? = some (.dv (.d (.list (row.map vD)))) → δ[2]? = some (.dv (.d (.int hf))) → frz (eSl (eVar 1) (oSome (eVar 2)) oNone) δ = some (.d (rowD (row.drop (row.length / 2))), δ) := fun h h2 => by
      have := eSl_eq (frz_dv (eVar_dv h)) (oSome_eq (eVar_dv h2)) (fh := oNone) (hi := none) rfl
      rw [frz_lst this, ehf, cut_from ek, drop_rowD]
      rfl
    have st3 : sSet (L := L) 3 (eCall (F_law_fold (n + 1)) (aCons (eSl (eVar 0) oNone (oSome (eNeg (eC (.int 1))))) (aCons (eSl (eVar 1) oNone (oSome (eVar 2))) (aNil)))) δ2 = some (.nx, δ2.set 3 (.dv (.d (papD s)))) :=
      sSet_dv (eCall_eq (aCons_eq (a1 g0) (aCons_eq (b1 g1 g2) aNil_eq)) i1) (by rw [e2]; simp)
    have st4 : sSet (L := L) 4 (eCall (F_law_fold (n + 1)) (aCons (eSl (eVar 0) oNone (oSome (eNeg (eC (.int 1))))) (aCons (eSl (eVar 1) (oSome (eVar 2)) oNone) (aNil)))) (δ2.set 3 (.dv (.d (papD s)))) = some (.nx, (δ2.set 3 (.dv (.d (papD s)))).set 4 (.dv (.d (papD g)))) :=
      sSet_dv (eCall_eq (aCons_eq (a1 (by rw [e2, ← enl]; rfl)) (aCons_eq (b2 (by rw [e2, erl]; rfl) (by rw [e2]; rfl)) aNil_eq)) i2) (by rw [e2]; simp)
    obtain ⟨δ4, e4⟩ : ∃ δ : List (SV L), δ = (δ2.set 3 (.dv (.d (papD s)))).set 4 (.dv (.d (papD g))) := ⟨_, rfl⟩
    rw [← e4] at st4
    have q0 : δ4[0]? = some (.dv (.d (.list (ns.reverse.map nmD ++ [nmD m])))) := by rw [e4, e2, ← enl]; rfl
    have q3 : δ4[3]? = some (.dv (.d (papD s))) := by rw [e4, e2]; rfl
    have q4 : δ4[4]? = some (.dv (.d (papD g))) := by rw [e4, e2]; rfl
    have et := tst_eq (eOp_eq (frz_dv (eVar_dv q3)) (frz_dv (eVar_dv q4)) ((gEq_eq shs shg).trans (by rw [eqv_pap])))
    have last : eOp (L := L) gIx (eVar 0) (eNeg (eC (.int 1))) δ4 = some (.dv (.d (nmD m)), δ4) := by
      refine eOp_eq (frz_dv (eVar_dv q0)) (frz_dv (eNeg_eq (i := 1) eC_eq)) ?_
      show atI (ns.reverse.map nmD ++ [nmD m]) (-1) = _
      have e5 : ixN (ns.reverse.map nmD ++ [nmD m]).length (-1) = some (ns.reverse.map nmD).length := by
        unfold ixN
        rw [if_neg (by decide), if_pos (by rw [List.length_append, List.length_singleton]; omega)]
        congr 1
        rw [List.length_append, List.length_singleton]
        omega
      unfold atI
      rw [e5]
      simp
    have fin : sRet (L := L) (eIf (tst (eOp gEq (eVar 3) (eVar 4))) (eVar 3) (eTup (aCons (eC (.str "if")) (aCons (eOp gIx (eVar 0) (eNeg (eC (.int 1)))) (aCons (eVar 3) (aCons (eVar 4) (aNil))))))) δ4 = some (.rt (.dv (.d (papD (Pap.ask m s g)))), δ4) := by
      by_cases c : s = g
      · have et' : tst (L := L) (eOp gEq (eVar 3) (eVar 4)) δ4 = some (true, δ4) := by rw [et, decide_eq_true c]
        have ep : Pap.ask m s g = s := by unfold Pap.ask; rw [if_pos c]
        rw [ep]
        exact sRet_eq ((eIf_t et').trans (eVar_dv q3))
      · have et' : tst (L := L) (eOp gEq (eVar 3) (eVar 4)) δ4 = some (false, δ4) := by rw [et, decide_eq_false c]
        have ep : Pap.ask m s g = .node m s g := by unfold Pap.ask; rw [if_neg c]
        rw [ep]
        exact sRet_eq ((eIf_f et').trans (eTup_eq (aCons_eq (frz_dv eC_eq) (aCons_eq (frz_dv last) (aCons_eq (frz_dv (eVar_dv q3)) (aCons_eq (frz_dv (eVar_dv q4)) aNil_eq)))) rfl))
    have eb : B_law_fold (L := L) (F_law_fold (n + 1)) [.dv (.d nm), .dv (.d rw'), .un, .un, .un] = some (.rt (.dv (.d (papD (Pap.ask m s g)))), δ4) := by
      unfold B_law_fold
      rw [sSeq_nx st1, sSeq_nx st2, sSeq_nx st3, sSeq_nx st4]
      exact fin
    show fnD 2 5 (B_law_fold (F_law_fold (n + 1))) _ = _
    rw [fnD_rt (by rfl) (by rfl) eb]
    congr 2
    rw [e4, e2]
    rfl
end DL.M
set_option Elab.async false
set_option linter.all false
set_option maxRecDepth 100000
set_option maxHeartbeats 1000000
/-! M11: rules for simp: a combinator hands what its part computes on. -/
namespace DL.M
open PySem PySem.Spec L2 TK PySem.W
open PyProof.Rows hiding St
variable [CN]
variable {L : Lang}
/-- hides from simp that a rule holds by computing -/
theorem nr {α : Sort _} {a b : α} (h : a = b) : a = b := h
abbrev OE (L : Lang) := Option (RV L × List (SV L))
abbrev OF (L : Lang) := Option (DV L × List (SV L))
abbrev OA (L : Lang) := Option (List (DV L) × List (SV L))
abbrev OT (L : Lang) := Option (Bool × List (SV L))
abbrev OS (L : Lang) := Option (Fl L × List (SV L))
section
variable {δ δ1 δ2 : List (SV L)}
def kF : OE L → OF L
  | some (.dv d, δ') => some (d, δ')
  | some (.own (.lst ds), δ') => some (.d (.list ds), δ')
  | _ => none
@[simp] theorem frz_k {f : Ev L} : frz f δ = kF (f δ) := nr rfl
@[simp] theorem kF_dv {d : DV L} : kF (some (.dv d, δ)) = some (d, δ) := nr rfl
@[simp] theorem kF_lst {ds : List PD} : kF (L := L) (some (.own (.lst ds), δ)) = some (.d (.list ds), δ) := nr rfl
def kV (i : Nat) (δ : List (SV L)) : Option (SV L) → OE L
  | some (.dv d) => some (.dv d, δ)
  | some (.own _ (.lst ds)) => some (.dv (.d (.list ds)), δ.set i (.dv (.d (.list ds))))
  | _ => none
@[simp] theorem eVar_k {i : Nat} : eVar i δ = kV i δ δ[i]? := nr rfl
@[simp] theorem kV_dv {i : Nat} {d : DV L} : kV i δ (some (.dv d)) = some (.dv d, δ) := nr rfl
@[simp] theorem kV_lst {i : Nat} {b : Bool} {ds : List PD} : kV i δ (some (.own b (.lst ds))) = some (.dv (.d (.list ds)), δ.set i (.dv (.d (.list ds)))) := nr rfl
def kM (i : Nat) (δ : List (SV L)) : Option (SV L) → OE L
  | some (.dv d) => some (.dv d, δ)
  | some (.own _ w) => some (.own w, δ.set i .un)
  | _ => none
@[simp] theorem eMv_k {i : Nat} : eMv i δ = kM i δ δ[i]? := nr rfl
@[simp] theorem kM_dv {i : Nat} {d : DV L} : kM i δ (some (.dv d)) = some (.dv d, δ) := nr rfl
@[simp] theorem kM_own {i : Nat} {b : Bool} {w : OW L} : kM i δ (some (.own b w)) = some (.own w, δ.set i .un) := nr rfl
@[simp] theorem eC_k {d : PD} : eC d δ = some (.dv (.d d), δ) := nr rfl
def kO3 (δ : List (SV L)) : Option PD → OE L
  | some z => some (.dv (.d z), δ)
  | none => none
def kO2 (g : PD → PD → Option PD) (x : PD) : OF L → OE L
  | some (.d y, δ2) => kO3 δ2 (g x y)
  | _ => none
def kO1 (g : PD → PD → Option PD) (fb : Ev L) : OF L → OE L
  | some (.d x, δ1) => kO2 g x (frz fb δ1)
  | _ => none
@[simp] theorem eOp_k {g : PD → PD → Option PD} {fa fb : Ev L} : eOp g fa fb δ = kO1 g fb (frz fa δ) := nr (by
  unfold eOp
  cases frz fa δ with
  | none => rfl
  | some p =>
    obtain ⟨d, δ1⟩ := p
    cases d with
    | ob o => rfl
    | d x =>
      show _ = kO2 g x (frz fb δ1)
      dsimp only
      cases frz fb δ1 with
      | none => rfl
      | some p =>
        obtain ⟨d, δ1⟩ := p
        cases d with
        | ob o => rfl
        | d y =>
          show _ = kO3 _ (g x y)
          dsimp only
          cases g x y <;> rfl)
@[simp] theorem kO1_d {g : PD → PD → Option PD} {fb : Ev L} {x : PD} : kO1 g fb (some (.d x, δ)) = kO2 g x (frz fb δ) := nr rfl
@[simp] theorem kO2_d {g : PD → PD → Option PD} {x y : PD} : kO2 (L := L) g x (some (.d y, δ)) = kO3 δ (g x y) := nr rfl
@[simp] theorem kO3_d {z : PD} : kO3 δ (some z) = some (.dv (.d z), δ) := nr rfl
def kP3 (δ : List (SV L)) : Option (List PD) → OE L
  | some z => some (.own (.lst z), δ)
  | none => none
def kP2 (g : PD → PD → Option (List PD)) (x : PD) : OF L → OE L
  | some (.d y, δ2) => kP3 δ2 (g x y)
  | _ => none
def kP1 (g : PD → PD → Option (List PD)) (fb : Ev L) : OF L → OE L
  | some (.d x, δ1) => kP2 g x (frz fb δ1)
  | _ => none
@[simp] theorem eOpL_k {g : PD → PD → Option (List PD)} {fa fb : Ev L} : eOpL g fa fb δ = kP1 g fb (frz fa δ) := nr (by
  unfold eOpL
  cases frz fa δ with
  | none => rfl
  | some p =>
    obtain ⟨d, δ1⟩ := p
    cases d with
    | ob o => rfl
    | d x =>
      show _ = kP2 g x (frz fb δ1)
      dsimp only
      cases frz fb δ1 with
      | none => rfl
      | some p =>
        obtain ⟨d, δ1⟩ := p
        cases d with
        | ob o => rfl
        | d y =>
          show _ = kP3 _ (g x y)
          dsimp only
          cases g x y <;> rfl)
@[simp] theorem kP1_d {g : PD → PD → Option (List PD)} {fb : Ev L} {x : PD} : kP1 g fb (some (.d x, δ)) = kP2 g x (frz fb δ) := nr rfl
@[simp] theorem kP2_d {g : PD → PD → Option (List PD)} {x y : PD} : kP2 (L := L) g x (some (.d y, δ)) = kP3 δ (g x y) := nr rfl
@[simp] theorem kP3_d {z : List PD} : kP3 δ (some z) = some (.own (.lst z), δ) := nr rfl
def kT : OE L → OT L
  | some (.dv (.d (.bool b)), δ') => some (b, δ')
  | _ => none
@[simp] theorem tst_k {f : Ev L} : tst f δ = kT (f δ) := nr rfl
@[simp] theorem kT_b {b : Bool} : kT (some (.dv (.d (.bool b)), δ)) = some (b, δ) := nr rfl
def kN : OT L → OT L
  | some (b, δ') => some (!b, δ')
  | none => none
@[simp] theorem tstNot_k {f : Et L} : tstNot f δ = kN (f δ) := nr rfl
@[simp] theorem kN_b {b : Bool} : kN (some (b, δ)) = some (!b, δ) := nr rfl
def kA (g : Et L) : OT L → OT L
  | some (true, δ') => g δ'
  | some (false, δ') => some (false, δ')
  | none => none
@[simp] theorem tstAnd_k {f g : Et L} : tstAnd f g δ = kA g (f δ) := nr rfl
@[simp] theorem kA_t {g : Et L} : kA g (some (true, δ)) = g δ := nr rfl
@[simp] theorem kA_f {g : Et L} : kA g (some (false, δ)) = some (false, δ) := nr rfl
def kR (g : Et L) : OT L → OT L
  | some (true, δ') => some (true, δ')
  | some (false, δ') => g δ'
  | none => none
@[simp] theorem tstOr_k {f g : Et L} : tstOr f g δ = kR g (f δ) := nr rfl
@[simp] theorem kR_t {g : Et L} : kR g (some (true, δ)) = some (true, δ) := nr rfl
@[simp] theorem kR_f {g : Et L} : kR g (some (false, δ)) = g δ := nr rfl
def kOf : OT L → OE L
  | some (b, δ') => some (.dv (.d (.bool b)), δ')
  | none => none
@[simp] theorem ofT_k {f : Et L} : ofT f δ = kOf (f δ) := nr rfl
@[simp] theorem kOf_b {b : Bool} : kOf (some (b, δ)) = some (.dv (.d (.bool b)), δ) := nr rfl
def kI (f g : Ev L) : OT L → OE L
  | some (true, δ') => f δ'
  | some (false, δ') => g δ'
  | none => none
@[simp] theorem eIf_k {c : Et L} {f g : Ev L} : eIf c f g δ = kI f g (c δ) := nr rfl
@[simp] theorem kI_t {f g : Ev L} : kI f g (some (true, δ)) = f δ := nr rfl
@[simp] theorem kI_f {f g : Ev L} : kI f g (some (false, δ)) = g δ := nr rfl
def kS (f g : Es L) : OT L → OS L
  | some (true, δ') => f δ'
  | some (false, δ') => g δ'
  | none => none
@[simp] theorem sIf_k {c : Et L} {f g : Es L} : sIf c f g δ = kS f g (c δ) := nr rfl
@[simp] theorem kS_t {f g : Es L} : kS f g (some (true, δ)) = f δ := nr rfl
@[simp] theorem kS_f {f g : Es L} : kS f g (some (false, δ)) = g δ := nr rfl
@[simp] theorem aNil_k : aNil (L := L) δ = some ([], δ) := nr rfl
def kC2 (d : DV L) : OA L → OA L
  | some (ds, δ2) => some (d :: ds, δ2)
  | none => none
def kC1 (fa : Ea L) : OF L → OA L
  | some (d, δ1) => kC2 d (fa δ1)
  | none => none
@[simp] theorem aCons_k {f : Ev L} {fa : Ea L} : aCons f fa δ = kC1 fa (frz f δ) := nr (by
  unfold aCons
  cases frz f δ with
  | none => rfl
  | some p =>
    obtain ⟨d, δ1⟩ := p
    show _ = kC2 d (fa δ1)
    dsimp only
    cases fa δ1 <;> rfl)
@[simp] theorem kC1_d {fa : Ea L} {d : DV L} : kC1 fa (some (d, δ)) = kC2 d (fa δ) := nr rfl
@[simp] theorem kC2_d {d : DV L} {ds : List (DV L)} : kC2 d (some (ds, δ)) = some (d :: ds, δ) := nr rfl
def kPd (x : PD) : Option (List PD) → Option (List PD)
  | some xs => some (x :: xs)
  | none => none
@[simp] theorem pds_nil : pds (L := L) [] = some [] := nr rfl
@[simp] theorem pds_cons {x : PD} {r : List (DV L)} : pds (.d x :: r) = kPd x (pds r) := nr (by
  rw [pds]
  cases pds r <;> rfl)
@[simp] theorem kPd_s {x : PD} {xs : List PD} : kPd x (some xs) = some (x :: xs) := nr rfl
theorem pds_map : ∀ (xs : List PD), pds (xs.map (DV.d (L := L))) = some xs
  | [] => rfl
  | x :: xs => by rw [List.map_cons, pds_cons, pds_map xs]; rfl
def kTu2 (δ : List (SV L)) : Option (List PD) → OE L
  | some xs => if xs.length ≤ 1000 then some (.dv (.d (.tuple xs)), δ) else none
  | none => none
def kTu1 : OA L → OE L
  | some (ds, δ') => kTu2 δ' (pds ds)
  | none => none
@[simp] theorem eTup_k {fa : Ea L} : eTup fa δ = kTu1 (fa δ) := nr (by
  unfold eTup
  cases fa δ with
  | none => rfl
  | some p =>
    show _ = kTu2 _ (pds p.1)
    dsimp only
    cases pds p.1 <;> rfl)
@[simp] theorem kTu1_s {ds : List (DV L)} : kTu1 (some (ds, δ)) = kTu2 δ (pds ds) := nr rfl
@[simp] theorem kTu2_s {xs : List PD} : kTu2 δ (some xs) = if xs.length ≤ 1000 then some (.dv (.d (.tuple xs)), δ) else none := nr rfl
def kLs2 (δ : List (SV L)) : Option (List PD) → OE L
  | some xs => if xs.length ≤ 1000 then some (.own (.lst xs), δ) else none
  | none => none
def kLs1 : OA L → OE L
  | some (ds, δ') => kLs2 δ' (pds ds)
  | none => none
@[simp] theorem eLst_k {fa : Ea L} : eLst fa δ = kLs1 (fa δ) := nr (by
  unfold eLst
  cases fa δ with
  | none => rfl
  | some p =>
    show _ = kLs2 _ (pds p.1)
    dsimp only
    cases pds p.1 <;> rfl)
@[simp] theorem kLs1_s {ds : List (DV L)} : kLs1 (some (ds, δ)) = kLs2 δ (pds ds) := nr rfl
@[simp] theorem kLs2_s {xs : List PD} : kLs2 δ (some xs) = if xs.length ≤ 1000 then some (.own (.lst xs), δ) else none := nr rfl
abbrev OO (L : Lang) := Option (Option Int × List (SV L))
@[simp] theorem oNone_k : oNone (L := L) δ = some (none, δ) := nr rfl
def kOs : OE L → OO L
  | some (.dv (.d (.int i)), δ') => some (some i, δ')
  | _ => none
@[simp] theorem oSome_k {f : Ev L} : oSome f δ = kOs (f δ) := nr rfl
@[simp] theorem kOs_i {i : Int} : kOs (some (.dv (.d (.int i)), δ)) = some (some i, δ) := nr rfl
def kNg : OE L → OE L
  | some (.dv (.d (.int i)), δ') => some (.dv (.d (.int (-i))), δ')
  | _ => none
@[simp] theorem eNeg_k {f : Ev L} : eNeg f δ = kNg (f δ) := nr rfl
@[simp] theorem kNg_i {i : Int} : kNg (some (.dv (.d (.int i)), δ)) = some (.dv (.d (.int (-i))), δ) := nr rfl
def kSl3 (xs : List PD) (lo : Option Int) : OO L → OE L
  | some (hi, δ3) => some (.own (.lst (cutD xs lo hi)), δ3)
  | none => none
def kSl2 (fh : List (SV L) → OO L) (xs : List PD) : OO L → OE L
  | some (lo, δ2) => kSl3 xs lo (fh δ2)
  | none => none
def kSl1 (fl fh : List (SV L) → OO L) : OF L → OE L
  | some (.d (.list xs), δ1) => kSl2 fh xs (fl δ1)
  | _ => none
@[simp] theorem eSl_k {f : Ev L} {fl fh : List (SV L) → OO L} : eSl f fl fh δ = kSl1 fl fh (frz f δ) := nr (by
  unfold eSl kSl1 kSl2 kSl3
  repeat' split
  all_goals first
    | rfl
    | simp_all)
@[simp] theorem kSl1_s {fl fh : List (SV L) → OO L} {xs : List PD} : kSl1 fl fh (some (.d (.list xs), δ)) = kSl2 fh xs (fl δ) := nr rfl
@[simp] theorem kSl2_s {fh : List (SV L) → OO L} {xs : List PD} {lo : Option Int} : kSl2 fh xs (some (lo, δ)) = kSl3 xs lo (fh δ) := nr rfl
@[simp] theorem kSl3_s {xs : List PD} {lo hi : Option Int} : kSl3 (L := L) xs lo (some (hi, δ)) = some (.own (.lst (cutD xs lo hi)), δ) := nr rfl
def kCB2 (g : List PD → Option PD) (δ : List (SV L)) : Option (List PD) → OE L
  | some xs => kO3 δ (g xs)
  | none => none
def kCB1 (g : List PD → Option PD) : OA L → OE L
  | some (ds, δ') => kCB2 g δ' (pds ds)
  | none => none
@[simp] theorem eCB_k {g : List PD → Option PD} {fa : Ea L} : eCB g fa δ = kCB1 g (fa δ) := nr (by
  unfold eCB
  cases fa δ with
  | none => rfl
  | some p =>
    show _ = kCB2 g _ (pds p.1)
    dsimp only
    cases pds p.1 with
    | none => rfl
    | some xs =>
      show _ = kO3 _ (g xs)
      dsimp only
      cases g xs <;> rfl)
@[simp] theorem kCB1_s {g : List PD → Option PD} {ds : List (DV L)} : kCB1 g (some (ds, δ)) = kCB2 g δ (pds ds) := nr rfl
@[simp] theorem kCB2_s {g : List PD → Option PD} {xs : List PD} : kCB2 g δ (some xs) = kO3 δ (g xs) := nr rfl
def kCL2 (g : List PD → Option (List PD)) (δ : List (SV L)) : Option (List PD) → OE L
  | some xs => kP3 δ (g xs)
  | none => none
def kCL1 (g : List PD → Option (List PD)) : OA L → OE L
  | some (ds, δ') => kCL2 g δ' (pds ds)
  | none => none
@[simp] theorem eCBL_k {g : List PD → Option (List PD)} {fa : Ea L} : eCBL g fa δ = kCL1 g (fa δ) := nr (by
  unfold eCBL
  cases fa δ with
  | none => rfl
  | some p =>
    show _ = kCL2 g _ (pds p.1)
    dsimp only
    cases pds p.1 with
    | none => rfl
    | some xs =>
      show _ = kP3 _ (g xs)
      dsimp only
      cases g xs <;> rfl)
@[simp] theorem kCL1_s {g : List PD → Option (List PD)} {ds : List (DV L)} : kCL1 g (some (ds, δ)) = kCL2 g δ (pds ds) := nr rfl
@[simp] theorem kCL2_s {g : List PD → Option (List PD)} {xs : List PD} : kCL2 g δ (some xs) = kP3 δ (g xs) := nr rfl
@[simp] theorem cLen_l {xs : List PD} : cLen [.list xs] = some (.int xs.length) := nr rfl
@[simp] theorem cLen_t {xs : List PD} : cLen [.tuple xs] = some (.int xs.length) := nr rfl
@[simp] theorem cInt_i {i : Int} : cInt [.int i] = some (.int i) := nr rfl
@[simp] theorem cListOf_l {xs : List PD} : cListOf [.list xs] = some xs := nr rfl
@[simp] theorem cListOf_t {xs : List PD} : cListOf [.tuple xs] = some xs := nr rfl
@[simp] theorem cMax2_i {i j : Int} : cMax2 [.int i, .int j] = some (.int (if j > i then j else i)) := nr rfl
def kTO : OA L → OE L
  | some ([.d (.list xs)], δ') => some (.dv (.d (.tuple xs)), δ')
  | some ([.d (.tuple xs)], δ') => some (.dv (.d (.tuple xs)), δ')
  | _ => none
@[simp] theorem eTupOf_k {fa : Ea L} : eTupOf fa δ = kTO (fa δ) := nr rfl
@[simp] theorem kTO_l {xs : List PD} : kTO (L := L) (some ([.d (.list xs)], δ)) = some (.dv (.d (.tuple xs)), δ) := nr rfl
@[simp] theorem kTO_t {xs : List PD} : kTO (L := L) (some ([.d (.tuple xs)], δ)) = some (.dv (.d (.tuple xs)), δ) := nr rfl
def kIs (h : PD → Bool) : OF L → OE L
  | some (.d x, δ') => if isDict x = false then some (.dv (.d (.bool (h x))), δ') else none
  | _ => none
@[simp] theorem eIsi_k {T : String} {f : Ev L} : eIsi T f δ = kIs (isiD T) (frz f δ) := nr rfl
@[simp] theorem eIsi2_k {T U : String} {f : Ev L} : eIsi2 T U f δ = kIs (fun x => isiD T x || isiD U x) (frz f δ) := nr rfl
@[simp] theorem kIs_d {h : PD → Bool} {x : PD} : kIs (L := L) h (some (.d x, δ)) = if isDict x = false then some (.dv (.d (.bool (h x))), δ) else none := nr rfl
def kTh (δ : List (SV L)) : OE L → OE L
  | some (r, _) => if scalR r = true then some (r, δ) else none
  | none => none
@[simp] theorem thaw_k {f : Ev L} : thaw f δ = kTh δ (f (δ.map shr1)) := nr rfl
@[simp] theorem kTh_s {r : RV L} : kTh δ (some (r, δ1)) = if scalR r = true then some (r, δ) else none := nr rfl
def kThT (δ : List (SV L)) : OT L → OT L
  | some (r, _) => some (r, δ)
  | none => none
@[simp] theorem thawT_k {f : Et L} : thawT f δ = kThT δ (f (δ.map shr1)) := nr rfl
@[simp] theorem kThT_s {r : Bool} : kThT δ (some (r, δ1)) = some (r, δ) := nr rfl
@[simp] theorem shr1_lst {b : Bool} {ds : List PD} : shr1 (L := L) (.own b (.lst ds)) = .dv (.d (.list ds)) := nr rfl
@[simp] theorem shr1_dv {d : DV L} : shr1 (.dv d) = .dv d := nr rfl
@[simp] theorem shr1_un : shr1 (L := L) .un = .un := nr rfl
@[simp] theorem scalR_d {x : PD} : scalR (L := L) (.dv (.d x)) = scalarD x := nr rfl
@[simp] theorem scalR_l {xs : List PD} : scalR (L := L) (.own (.lst xs)) = xs.all scalarD := nr rfl
@[simp] theorem scalarD_i {i : Int} : scalarD (.int i) = true := nr rfl
@[simp] theorem scalarD_b {i : Bool} : scalarD (.bool i) = true := nr rfl
@[simp] theorem scalarD_s {i : Str} : scalarD (.str i) = true := nr rfl
@[simp] theorem scalarD_n : scalarD .none = true := nr rfl
@[simp] theorem sNil_k : sNil (L := L) δ = some (.nx, δ) := nr rfl
def kQ (h : Es L) : OS L → OS L
  | some (.nx, δ') => h δ'
  | r => r
@[simp] theorem sSeq_k {g h : Es L} : sSeq g h δ = kQ h (g δ) := nr rfl
@[simp] theorem kQ_nx {h : Es L} : kQ h (some (.nx, δ)) = h δ := nr rfl
@[simp] theorem kQ_rt {h : Es L} {r : RV L} : kQ h (some (.rt r, δ)) = some (.rt r, δ) := nr rfl
def kRt : OE L → OS L
  | some (r, δ') => some (.rt r, δ')
  | none => none
@[simp] theorem sRet_k {f : Ev L} : sRet f δ = kRt (f δ) := nr rfl
@[simp] theorem kRt_s {r : RV L} : kRt (some (r, δ)) = some (.rt r, δ) := nr rfl
@[simp] theorem sRetN_k : sRetN (L := L) δ = some (.rt (.dv (.d .none)), δ) := nr rfl
def kEx : OE L → OS L
  | some (_, δ') => some (.nx, δ')
  | none => none
@[simp] theorem sExp_k {f : Ev L} : sExp f δ = kEx (f δ) := nr rfl
@[simp] theorem kEx_s {r : RV L} : kEx (some (r, δ)) = some (.nx, δ) := nr rfl
def kSt (i : Nat) : OE L → OS L
  | some (.dv d, δ1) => if i < δ1.length then some (.nx, δ1.set i (.dv d)) else none
  | some (.own w, δ1) => if i < δ1.length then some (.nx, δ1.set i (.own false w)) else none
  | none => none
@[simp] theorem sSet_k {i : Nat} {f : Ev L} : sSet i f δ = kSt i (f δ) := nr rfl
@[simp] theorem kSt_dv {i : Nat} {d : DV L} : kSt i (some (.dv d, δ)) = if i < δ.length then some (.nx, δ.set i (.dv d)) else none := nr rfl
@[simp] theorem kSt_own {i : Nat} {w : OW L} : kSt i (some (.own w, δ)) = if i < δ.length then some (.nx, δ.set i (.own false w)) else none := nr rfl
def kAp2 (i : Nat) (y : PD) (δ1 : List (SV L)) : Option (SV L) → Option (SV L) → OS L
  | some (.own _ (.lst _)), some (.own b (.lst ds)) => if ds.length < 100000 then some (.nx, δ1.set i (.own b (.lst (ds ++ [y])))) else none
  | _, _ => none
def kAp1 (i : Nat) (δ : List (SV L)) : OF L → OS L
  | some (.d y, δ1) => kAp2 i y δ1 δ[i]? δ1[i]?
  | _ => none
@[simp] theorem sApp_k {i : Nat} {f : Ev L} : sApp i f δ = kAp1 i δ (frz f δ) := nr rfl
@[simp] theorem kAp1_d {i : Nat} {y : PD} : kAp1 i δ (some (.d y, δ1)) = kAp2 i y δ1 δ[i]? δ1[i]? := nr rfl
@[simp] theorem kAp2_l {i : Nat} {y : PD} {b b' : Bool} {ds ds' : List PD} : kAp2 i y δ (some (.own b' (.lst ds'))) (some (.own b (.lst ds))) = if ds.length < 100000 then some (.nx, δ.set i (.own b (.lst (ds ++ [y])))) else none := nr rfl
@[simp] theorem uName_k {i : Nat} {d : DV L} : uName i d δ = if i < δ.length then some (δ.set i (.dv d)) else none := nr rfl
@[simp] theorem usNil_k : usNil (L := L) [] δ = some δ := nr rfl
def kU (us : List PD → List (SV L) → Option (List (SV L))) (r : List PD) : Option (List (SV L)) → Option (List (SV L))
  | some δ1 => us r δ1
  | none => none
@[simp] theorem usCons_k {u : Eg L} {us : List PD → List (SV L) → Option (List (SV L))} {d : PD} {r : List PD} : usCons u us (d :: r) δ = kU us r (u (.d d) δ) := nr (by
  unfold usCons
  dsimp only
  cases u (.d d) δ <;> rfl)
@[simp] theorem kU_s {us : List PD → List (SV L) → Option (List (SV L))} {r : List PD} : kU us r (some δ) = us r δ := nr rfl
@[simp] theorem uTup_k {n : Nat} {us : List PD → List (SV L) → Option (List (SV L))} {ds : List PD} : uTup n us (.d (.tuple ds)) δ = if ds.length = n then us ds δ else none := nr rfl
@[simp] theorem uLst_k {n : Nat} {us : List PD → List (SV L) → Option (List (SV L))} {ds : List PD} : uLst n us (.d (.list ds)) δ = if ds.length = n then us ds δ else none := nr rfl
def kAs2 : Option (List (SV L)) → OS L
  | some δ2 => some (.nx, δ2)
  | none => none
def kAs1 (u : Eg L) : OF L → OS L
  | some (d, δ1) => kAs2 (u d δ1)
  | none => none
@[simp] theorem sAsg_k {f : Ev L} {u : Eg L} : sAsg f u δ = kAs1 u (frz f δ) := nr (by
  unfold sAsg
  cases frz f δ with
  | none => rfl
  | some p =>
    show _ = kAs2 (u p.1 p.2)
    dsimp only
    cases u p.1 p.2 <;> rfl)
@[simp] theorem kAs1_s {u : Eg L} {d : DV L} : kAs1 u (some (d, δ)) = kAs2 (u d δ) := nr rfl
@[simp] theorem kAs2_s : kAs2 (some δ) = some (.nx, δ) := nr rfl
def kIO2 (k : Int) (δ1 : List (SV L)) : Option (SV L) → Option (SV L) → OE L
  | some (.own _ (.lst _)), some (.own b (.lst ds)) => match atI ds k with
      | some y => some (.dv (.d y), δ1)
      | none => none
  | _, _ => none
def kIO1 (i : Nat) (δ : List (SV L)) : OF L → OE L
  | some (.d (.int k), δ1) => match δ[i]?, δ1[i]? with
    | some (.own _ (.lst _)), some (.own b (.lst ds)) => match atI ds k with
      | some y => some (.dv (.d y), δ1)
      | none => none
    | _, _ => none
  | _ => none
@[simp] theorem eIxO_k {i : Nat} {fk : Ev L} : eIxO i fk δ = kIO1 i δ (frz fk δ) := nr rfl
@[simp] theorem kIO1_i {i : Nat} {k : Int} : kIO1 i δ (some (.d (.int k), δ1)) = kIO2 k δ1 δ[i]? δ1[i]? := nr rfl
@[simp] theorem kIO2_l {k : Int} {b b' : Bool} {ds ds' : List PD} : kIO2 k δ (some (.own b' (.lst ds'))) (some (.own b (.lst ds))) = kO3 δ (atI ds k) := nr (by
  show (match atI ds k with
      | some y => some (RV.dv (.d y), δ)
      | none => none) = _
  cases atI ds k <;> rfl)
end
end DL.M
set_option Elab.async false
set_option linter.all false
set_option maxRecDepth 100000
set_option maxHeartbeats 1000000
/-! M12: rules for simp: calls, loops, comprehensions, sets, errors as values. -/
namespace DL.M
open PySem PySem.Spec L2 TK PySem.W
open PyProof.Rows hiding St
variable [CN]
variable {L : Lang}
section
variable {δ δ1 δ2 : List (SV L)}
abbrev OR (L : Lang) := Option (RV L × Option (OW L))
def kCa2 (δ1 : List (SV L)) : OR L → OE L
  | some (r, _) => some (r, δ1)
  | none => none
def kCa1 (F : Fn L) : OA L → OE L
  | some (ds, δ1) => kCa2 δ1 (F (ds.map SV.dv))
  | none => none
@[simp] theorem eCall_k {F : Fn L} {fa : Ea L} : eCall F fa δ = kCa1 F (fa δ) := nr (by
  unfold eCall
  cases fa δ with
  | none => rfl
  | some p =>
    show _ = kCa2 _ (F (p.1.map SV.dv))
    dsimp only
    cases F (p.1.map SV.dv) <;> rfl)
@[simp] theorem kCa1_s {F : Fn L} {ds : List (DV L)} : kCa1 F (some (ds, δ)) = kCa2 δ (F (ds.map SV.dv)) := nr rfl
@[simp] theorem kCa2_s {r : RV L} {w : Option (OW L)} : kCa2 δ (some (r, w)) = some (r, δ) := nr rfl
def kB4 (i : Nat) (b : Bool) (δ1 : List (SV L)) : OR L → OE L
  | some (r, some w') => some (r, δ1.set i (.own b w'))
  | _ => none
def kB3 (i : Nat) (F : Fn L) (ds : List (DV L)) (δ1 : List (SV L)) : Option (SV L) → OE L
  | some (.own b w) => match F (.own true w :: ds.map SV.dv) with
    | some (r, some w') => some (r, δ1.set i (.own b w'))
    | _ => none
  | _ => none
def kB2 (i : Nat) (F : Fn L) : OA L → OE L
  | some (ds, δ1) => match δ1[i]? with
    | some (.own b w) => match F (.own true w :: ds.map SV.dv) with
      | some (r, some w') => some (r, δ1.set i (.own b w'))
      | _ => none
    | _ => none
  | none => none
def kB1 (i : Nat) (F : Fn L) (fa : Ea L) (δ : List (SV L)) : Option (SV L) → OE L
  | some (.own _ _) => match fa δ with
    | some (ds, δ1) => match δ1[i]? with
      | some (.own b w) => match F (.own true w :: ds.map SV.dv) with
        | some (r, some w') => some (r, δ1.set i (.own b w'))
        | _ => none
      | _ => none
    | none => none
  | _ => none
@[simp] theorem eCallB_k {i : Nat} {F : Fn L} {fa : Ea L} : eCallB i F fa δ = kB1 i F fa δ δ[i]? := nr rfl
@[simp] theorem kB1_s {i : Nat} {F : Fn L} {fa : Ea L} {b : Bool} {w : OW L} : kB1 i F fa δ (some (.own b w)) = kB2 i F (fa δ) := nr rfl
@[simp] theorem kB2_s {i : Nat} {F : Fn L} {ds : List (DV L)} : kB2 i F (some (ds, δ)) = kB3 i F ds δ δ[i]? := nr rfl
@[simp] theorem kB3_s {i : Nat} {F : Fn L} {ds : List (DV L)} {b : Bool} {w : OW L} : kB3 i F ds δ (some (.own b w)) = kB4 i b δ (F (.own true w :: ds.map SV.dv)) := nr rfl
@[simp] theorem kB4_s {i : Nat} {b : Bool} {r : RV L} {w : OW L} : kB4 i b δ (some (r, some w)) = some (r, δ.set i (.own b w)) := nr rfl
abbrev OI (L : Lang) := Option (List (DV L) × List (SV L))
def kIL : OF L → OI L
  | some (.d (.list ds), δ1) => some (ds.map DV.d, δ1)
  | _ => none
@[simp] theorem iL_k {f : Ev L} : iL f δ = kIL (frz f δ) := nr rfl
@[simp] theorem kIL_s {ds : List PD} : kIL (L := L) (some (.d (.list ds), δ)) = some (ds.map DV.d, δ) := nr rfl
def nums (lo : Int) (n : Nat) : List (DV L) := (List.range n).map fun (i : Nat) => DV.d (.int (lo + (i : Int)))
def kR1 : OA L → OI L
  | some ([.d (.int j)], δ1) => if -(2 ^ 62) ≤ j ∧ j < 2 ^ 62 then some ((List.range j.toNat).map fun (i : Nat) => DV.d (.int (0 + (i : Int))), δ1) else none
  | _ => none
@[simp] theorem iR1_k {fa : Ea L} : iR1 fa δ = kR1 (fa δ) := nr rfl
theorem kR1_j {j : Int} (h0 : 0 ≤ j) (h : j < 1000000) : kR1 (L := L) (some ([.d (.int j)], δ)) = some (nums 0 j.toNat, δ) := by
  have hc : -(2 ^ 62) ≤ j ∧ j < 2 ^ 62 := by omega
  unfold kR1 nums
  simp only [if_pos hc]
def kIE : OA L → OI L
  | some ([.d (.list ds)], δ1) => some (ds.zipIdx.map fun p => DV.d (.tuple [.int (p.2 : Nat), p.1]), δ1)
  | _ => none
@[simp] theorem iE_k {fa : Ea L} : iE fa δ = kIE (fa δ) := nr rfl
@[simp] theorem kIE_s {ds : List PD} : kIE (L := L) (some ([.d (.list ds)], δ)) = some (ds.zipIdx.map fun p => DV.d (.tuple [.int (p.2 : Nat), p.1]), δ) := nr rfl
def kFo (u : Eg L) (b : Es L) : OI L → OS L
  | some (xs, δ1) => sForN u b xs δ1
  | none => none
@[simp] theorem sFor_k {fi : Ei L} {u : Eg L} {b : Es L} : sFor fi u b δ = kFo u b (fi δ) := nr rfl
theorem kFo_s {u : Eg L} {b : Es L} {xs : List (DV L)} : kFo u b (some (xs, δ)) = sForN u b xs δ := rfl
def kLc2 (vs : List Nat) : Option (List PD × List (SV L)) → OE L
  | some (out, δ2) => some (.own (.lst out), wipeD δ2 vs)
  | none => none
def kLc1 (vs : List Nat) (u : Eg L) (c : Et L) (f : Ev L) : OI L → OE L
  | some (xs, δ1) => if xs.length ≤ 100000 then match lcN vs u c f xs (wipeD δ1 vs) [] with
      | some (out, δ2) => some (.own (.lst out), wipeD δ2 vs)
      | none => none
    else none
  | none => none
@[simp] theorem eLc_k {vs : List Nat} {fi : Ei L} {u : Eg L} {c : Et L} {f : Ev L} : eLc vs fi u c f δ = kLc1 vs u c f (fi δ) := nr rfl
theorem kLc1_s {vs : List Nat} {u : Eg L} {c : Et L} {f : Ev L} {xs : List (DV L)} : kLc1 vs u c f (some (xs, δ)) = if xs.length ≤ 100000 then kLc2 vs (lcN vs u c f xs (wipeD δ vs) []) else none := nr rfl
@[simp] theorem kLc2_s {vs : List Nat} {out : List PD} : kLc2 vs (some (out, δ)) = some (.own (.lst out), wipeD δ vs) := nr rfl
@[simp] theorem wipeD_nil : wipeD δ [] = δ := nr rfl
@[simp] theorem wipeD_cons {v : Nat} {vs : List Nat} : wipeD δ (v :: vs) = (wipeD δ vs).set v .un := nr rfl
@[simp] theorem cYes_k : cYes (L := L) δ = some (true, δ) := nr rfl
def kSo : OF L → OE L
  | some (.d (.list xs), δ') => if okK xs = true ∧ xs.length < 64 then some (.own (.lst (sortK xs)), δ') else none
  | _ => none
@[simp] theorem eSortSet_k {f : Ev L} : eSortSet f δ = kSo (frz f δ) := nr rfl
@[simp] theorem kSo_s {xs : List PD} : kSo (L := L) (some (.d (.list xs), δ)) = if okK xs = true ∧ xs.length < 64 then some (.own (.lst (sortK xs)), δ) else none := nr rfl
def kSC2 (vs : List Nat) : Option (List PD × List (SV L)) → OE L
  | some (out, δ2) => if okK out = true then some (.own (.lst (sortK out)), wipeD δ2 vs) else none
  | none => none
def kSC1 (vs : List Nat) (u : Eg L) (c : Et L) (f : Ev L) : OI L → OE L
  | some (xs, δ1) => if xs.length < 63 then match lcN vs u c f xs (wipeD δ1 vs) [] with
      | some (out, δ2) => if okK out = true then some (.own (.lst (sortK out)), wipeD δ2 vs) else none
      | none => none
    else none
  | none => none
@[simp] theorem eSortSC_k {vs : List Nat} {fi : Ei L} {u : Eg L} {c : Et L} {f : Ev L} : eSortSC vs fi u c f δ = kSC1 vs u c f (fi δ) := nr rfl
theorem kSC1_s {vs : List Nat} {u : Eg L} {c : Et L} {f : Ev L} {xs : List (DV L)} : kSC1 vs u c f (some (xs, δ)) = if xs.length < 63 then kSC2 vs (lcN vs u c f xs (wipeD δ vs) []) else none := nr rfl
@[simp] theorem kSC2_s {vs : List Nat} {out : List PD} : kSC2 vs (some (out, δ)) = if okK out = true then some (.own (.lst (sortK out)), wipeD δ vs) else none := nr rfl
def kMt2 (c : L.Ob → Bool) (F : Fn L) (o : L.Ob) : OA L → OE L
  | some (ds, δ2) => match F (.dv (.ob o) :: ds.map SV.dv) with
    | some (r, _) => some (r, δ2)
    | none => none
  | none => none
def kMt1 (c : L.Ob → Bool) (F : Fn L) (fa : Ea L) : OF L → OE L
  | some (.ob o, δ1) => if c o = true then match fa δ1 with
      | some (ds, δ2) => match F (.dv (.ob o) :: ds.map SV.dv) with
        | some (r, _) => some (r, δ2)
        | none => none
      | none => none
    else none
  | _ => none
@[simp] theorem eMt_k {c : L.Ob → Bool} {F : Fn L} {f : Ev L} {fa : Ea L} : eMt c F f fa δ = kMt1 c F fa (frz f δ) := nr rfl
@[simp] theorem kMt1_s {c : L.Ob → Bool} {F : Fn L} {fa : Ea L} {o : L.Ob} : kMt1 c F fa (some (.ob o, δ)) = if c o = true then kMt2 c F o (fa δ) else none := nr rfl
@[simp] theorem kMt2_s {c : L.Ob → Bool} {F : Fn L} {o : L.Ob} {ds : List (DV L)} : kMt2 c F o (some (ds, δ)) = kCa2 δ (F (.dv (.ob o) :: ds.map SV.dv)) := nr rfl
def kMB1 (c : L.Ow → Bool) (i : Nat) (F : Fn L) (fa : Ea L) (δ : List (SV L)) : Option (SV L) → OE L
  | some (.own _ (.res w0)) => if c w0 = true then match fa δ with
      | some (ds, δ1) => match δ1[i]? with
        | some (.own b w) => match F (.own true w :: ds.map SV.dv) with
          | some (r, some w') => some (r, δ1.set i (.own b w'))
          | _ => none
        | _ => none
      | none => none
    else none
  | _ => none
@[simp] theorem eMtB_k {c : L.Ow → Bool} {i : Nat} {F : Fn L} {fa : Ea L} : eMtB c i F fa δ = kMB1 c i F fa δ δ[i]? := nr rfl
@[simp] theorem kMB1_s {c : L.Ow → Bool} {i : Nat} {F : Fn L} {fa : Ea L} {b : Bool} {w : L.Ow} : kMB1 c i F fa δ (some (.own b (.res w))) = if c w = true then kB2 i F (fa δ) else none := nr rfl
def kIC3 (δ : List (SV L)) : OR L → OE L
  | some (.dv (.d (.bool r)), _) => some (.dv (.d (.bool r)), δ)
  | _ => none
def kIC2 (c : L.Ob → Bool) (F : Fn L) (d : DV L) : OF L → OE L
  | some (.ob u, δ2) => if c u = true then match F [.dv (.ob u), .dv d] with
      | some (.dv (.d (.bool r)), _) => some (.dv (.d (.bool r)), δ2)
      | _ => none
    else none
  | _ => none
def kIC1 (c : L.Ob → Bool) (F : Fn L) (fo : Ev L) : OF L → OE L
  | some (d, δ1) => match frz fo δ1 with
    | some (.ob u, δ2) => if c u = true then match F [.dv (.ob u), .dv d] with
        | some (.dv (.d (.bool r)), _) => some (.dv (.d (.bool r)), δ2)
        | _ => none
      else none
    | _ => none
  | none => none
@[simp] theorem eInC_k {c : L.Ob → Bool} {F : Fn L} {fa fo : Ev L} : eInC c F fa fo δ = kIC1 c F fo (frz fa δ) := nr rfl
@[simp] theorem kIC1_s {c : L.Ob → Bool} {F : Fn L} {fo : Ev L} {d : DV L} : kIC1 c F fo (some (d, δ)) = kIC2 c F d (frz fo δ) := nr rfl
@[simp] theorem kIC2_s {c : L.Ob → Bool} {F : Fn L} {d : DV L} {u : L.Ob} : kIC2 c F d (some (.ob u, δ)) = if c u = true then kIC3 δ (F [.dv (.ob u), .dv d]) else none := nr rfl
@[simp] theorem kIC3_s {r : Bool} {w : Option (OW L)} : kIC3 δ (some (.dv (.d (.bool r)), w)) = some (.dv (.d (.bool r)), δ) := nr rfl
def kLC2 (δ : List (SV L)) : OR L → OE L
  | some (.dv (.d (.int n)), _) => if 0 ≤ n ∧ n < 2 ^ 63 then some (.dv (.d (.int n)), δ) else none
  | _ => none
def kLC1 (c : L.Ob → Bool) (F : Fn L) : OF L → OE L
  | some (.ob u, δ2) => if c u = true then match F [.dv (.ob u)] with
      | some (.dv (.d (.int n)), _) => if 0 ≤ n ∧ n < 2 ^ 63 then some (.dv (.d (.int n)), δ2) else none
      | _ => none
    else none
  | _ => none
@[simp] theorem eLenC_k {c : L.Ob → Bool} {F : Fn L} {fo : Ev L} : eLenC c F fo δ = kLC1 c F (frz fo δ) := nr rfl
@[simp] theorem kLC1_s {c : L.Ob → Bool} {F : Fn L} {u : L.Ob} : kLC1 c F (some (.ob u, δ)) = if c u = true then kLC2 δ (F [.dv (.ob u)]) else none := nr rfl
@[simp] theorem kLC2_s {n : Int} {w : Option (OW L)} : kLC2 δ (some (.dv (.d (.int n)), w)) = if 0 ≤ n ∧ n < 2 ^ 63 then some (.dv (.d (.int n)), δ) else none := nr rfl
def kMO2 (δ : List (SV L)) : OR L → OE L
  | some (.dv (.d .none), some w) => some (.own w, δ)
  | _ => none
def kMO1 (raw : L.Ow) (F : Fn L) : OA L → OE L
  | some (ds, δ1) => match F (.own true (.res raw) :: ds.map SV.dv) with
    | some (.dv (.d .none), some w) => some (.own w, δ1)
    | _ => none
  | none => none
@[simp] theorem eMkO_k {raw : L.Ow} {F : Fn L} {fa : Ea L} : eMkO raw F fa δ = kMO1 raw F (fa δ) := nr rfl
@[simp] theorem kMO1_s {raw : L.Ow} {F : Fn L} {ds : List (DV L)} : kMO1 raw F (some (ds, δ)) = kMO2 δ (F (.own true (.res raw) :: ds.map SV.dv)) := nr rfl
@[simp] theorem kMO2_s {w : OW L} : kMO2 δ (some (.dv (.d .none), some w)) = some (.own w, δ) := nr rfl
def kFn : OS L → OR L
  | some (.rt r, δ) => some (r, back δ)
  | some (.nx, δ) => some (.dv (.d .none), back δ)
  | _ => none
theorem fnD_k {np nn : Nat} {b : Es L} {as : List (SV L)} : fnD np nn b as = if as.length = np then kFn (b (as ++ List.replicate (nn - as.length) .un)) else none := nr rfl
@[simp] theorem kFn_rt {r : RV L} : kFn (some (.rt r, δ)) = some (r, back δ) := nr rfl
@[simp] theorem kFn_nx : kFn (L := L) (some (.nx, δ)) = some (.dv (.d .none), back δ) := nr rfl
@[simp] theorem back_own {w : OW L} : back (.own true w :: δ) = some w := nr rfl
@[simp] theorem back_own' {w : OW L} : back (.own false w :: δ) = none := nr rfl
@[simp] theorem back_dv {d : DV L} : back (.dv d :: δ) = none := nr rfl
@[simp] theorem back_un : back (L := L) (.un :: δ) = none := nr rfl
@[simp] theorem back_nil : back (L := L) [] = none := nr rfl
def kXk (c : Nat) (fn : List Str) (δ : List (SV L)) : Option (List PD) → OE L
  | some xs => if xs.length = fn.length ∧ xs.length ≤ 1000 then some (.dv (.d (excD c fn xs)), δ) else none
  | none => none
def kXa (c : Nat) (fn : List Str) : OA L → OE L
  | some (ds, δ') => match pds ds with
    | some xs => if xs.length = fn.length ∧ xs.length ≤ 1000 then some (.dv (.d (excD c fn xs)), δ') else none
    | none => none
  | none => none
@[simp] theorem eMkE_k {c : Nat} {fn : List Str} {fa : Ea L} : eMkE c fn fa δ = kXa c fn (fa δ) := nr rfl
@[simp] theorem kXa_s {c : Nat} {fn : List Str} {ds : List (DV L)} : kXa c fn (some (ds, δ)) = kXk c fn δ (pds ds) := nr rfl
@[simp] theorem kXk_s {c : Nat} {fn : List Str} {xs : List PD} : kXk c fn δ (some xs) = if xs.length = fn.length ∧ xs.length ≤ 1000 then some (.dv (.d (excD c fn xs)), δ) else none := nr rfl
@[simp] theorem eMk0_k {c : Nat} : eMk0 (L := L) c δ = some (.dv (.d (.dict [(.int c, .none)])), δ) := nr rfl
def kFd (c : Nat) (f : Str) : OF L → OE L
  | some (.d (.dict ((.int i, .list xs) :: kv)), δ') => if i = (c : Nat) then match fldD f kv xs with
      | some z => some (.dv (.d z), δ')
      | none => none
    else none
  | _ => none
@[simp] theorem eFld_k {c : Nat} {f : Str} {fe : Ev L} : eFld c f fe δ = kFd c f (frz fe δ) := nr rfl
@[simp] theorem kFd_s {c : Nat} {f : Str} {i : Int} {xs : List PD} {kv : List (PD × PD)} : kFd (L := L) c f (some (.d (.dict ((.int i, .list xs) :: kv)), δ)) = if i = (c : Nat) then kO3 δ (fldD f kv xs) else none := nr (by
  show (if i = (c : Nat) then match fldD f kv xs with
      | some z => some (RV.dv (.d z), δ)
      | none => none
    else none) = _
  cases fldD f kv xs <;> rfl)
def kIX (n : Nat) (cs : List Nat) : OF L → OE L
  | some (.d (.dict ((.int (.ofNat c), _) :: _)), δ') => if c < n then some (.dv (.d (.bool (cs.contains c))), δ') else none
  | _ => none
@[simp] theorem eIsX_k {n : Nat} {cs : List Nat} {fe : Ev L} : eIsX n cs fe δ = kIX n cs (frz fe δ) := nr rfl
end
end DL.M
set_option Elab.async false
set_option linter.all false
set_option maxRecDepth 100000
set_option maxHeartbeats 1000000
/-! M13: rules for simp: values; draws; loops. -/
namespace DL.M
open PySem PySem.Spec L2 TK PySem.W
open PyProof.Rows hiding St
variable [CN]
variable {L : Lang}
section
variable {δ δ1 δ2 : List (SV L)}
@[simp] theorem gAdd_i {i j : Int} : gAdd (.int i) (.int j) = some (.int (i + j)) := nr rfl
@[simp] theorem gSub_i {i j : Int} : gSub (.int i) (.int j) = some (.int (i - j)) := nr rfl
@[simp] theorem gLt_i {i j : Int} : gLt (.int i) (.int j) = some (.bool (decide (i < j))) := nr rfl
@[simp] theorem gLe_i {i j : Int} : gLe (.int i) (.int j) = some (.bool (decide (i ≤ j))) := nr rfl
@[simp] theorem gGt_i {i j : Int} : gGt (.int i) (.int j) = some (.bool (decide (j < i))) := nr rfl
@[simp] theorem gGe_i {i j : Int} : gGe (.int i) (.int j) = some (.bool (decide (j ≤ i))) := nr rfl
@[simp] theorem gMod_i {i j : Int} (h : j ≠ 0) : gMod (.int i) (.int j) = some (.int (i.fmod j)) := by
  show (if decide (j ≠ 0) = true then some (PyData.int (i.fmod j)) else none) = _
  rw [if_pos (decide_eq_true h)]
@[simp] theorem gPow_9 : gPow (.int 10) (.int 9) = some (.int 1000000000) := nr (by kernel_rfl)
@[simp] theorem gPow_12 : gPow (.int 10) (.int 12) = some (.int 1000000000000) := nr (by kernel_rfl)
@[simp] theorem gIx_l {ds : List PD} {i : Int} : gIx (.list ds) (.int i) = atI ds i := nr rfl
@[simp] theorem gIx_t {ds : List PD} {i : Int} : gIx (.tuple ds) (.int i) = atI ds i := nr rfl
@[simp] theorem atI_0 {α : Type} {a : α} {l : List α} : atI (a :: l) 0 = some a := by
  have := atI_nat (a :: l) 0
  exact this
@[simp] theorem atI_1 {α : Type} {a b : α} {l : List α} : atI (a :: b :: l) 1 = some b := by
  have := atI_nat (a :: b :: l) 1
  exact this
@[simp] theorem atI_2 {α : Type} {a b c : α} {l : List α} : atI (a :: b :: c :: l) 2 = some c := by
  have := atI_nat (a :: b :: c :: l) 2
  exact this
@[simp] theorem atI_3 {α : Type} {a b c d : α} {l : List α} : atI (a :: b :: c :: d :: l) 3 = some d := by
  have := atI_nat (a :: b :: c :: d :: l) 3
  exact this
@[simp] theorem shaped_i {i : Int} : SeqAt.shaped (.int i) = true := by simp [SeqAt.shaped, PyData.canLay0, PyData.depth]
@[simp] theorem shaped_b {i : Bool} : SeqAt.shaped (.bool i) = true := by simp [SeqAt.shaped, PyData.canLay0, PyData.depth]
@[simp] theorem shaped_n : SeqAt.shaped .none = true := by simp [SeqAt.shaped, PyData.canLay0, PyData.depth]
theorem shaped_s {x : Str} (h : PyData.strOk x = true) : SeqAt.shaped (.str x) = true := by simp [SeqAt.shaped, PyData.canLay0, PyData.depth, h]
@[simp] theorem gEq_i {i j : Int} : gEq (.int i) (.int j) = some (.bool (decide (i = j))) := by
  rw [gEq_eq shaped_i shaped_i]; simp [PyData.eqv, int_beq]
@[simp] theorem gNe_i {i j : Int} : gNe (.int i) (.int j) = some (.bool (!decide (i = j))) := by
  rw [gNe_eq shaped_i shaped_i]; simp [PyData.eqv, int_beq]
theorem gEq_s {x y : Str} (hx : PyData.strOk x = true) (hy : PyData.strOk y = true) : gEq (.str x) (.str y) = some (.bool (decide (x = y))) := by
  rw [gEq_eq (shaped_s hx) (shaped_s hy)]; simp [PyData.eqv, str_beq]
theorem gNe_s {x y : Str} (hx : PyData.strOk x = true) (hy : PyData.strOk y = true) : gNe (.str x) (.str y) = some (.bool (!decide (x = y))) := by
  rw [gNe_eq (shaped_s hx) (shaped_s hy)]; simp [PyData.eqv, str_beq]
@[simp] theorem ok_is' : PyData.strOk ("is" : Str) = true := ok_is
@[simp] theorem ok_if' : PyData.strOk ("if" : Str) = true := ok_if
@[simp] theorem ok_e : PyData.strOk ("" : Str) = true := nr (by decide +kernel)
@[simp] theorem ok_bob : PyData.strOk ("bob" : Str) = true := nr (by decide +kernel)
@[simp] theorem ok_zoe : PyData.strOk ("zoe" : Str) = true := nr (by decide +kernel)
@[simp] theorem ok_eve : PyData.strOk ("eve" : Str) = true := nr (by decide +kernel)
@[simp] theorem ok_bo : PyData.strOk ("bo" : Str) = true := nr (by decide +kernel)
@[simp] theorem ok_al : PyData.strOk ("al" : Str) = true := nr (by decide +kernel)
@[simp] theorem ok_A : PyData.strOk ("A" : Str) = true := nr (by decide +kernel)
@[simp] theorem ok_B : PyData.strOk ("B" : Str) = true := nr (by decide +kernel)
@[simp] theorem ok_H : PyData.strOk ("H" : Str) = true := nr (by decide +kernel)
@[simp] theorem ok_C : PyData.strOk ("C" : Str) = true := nr (by decide +kernel)
@[simp] theorem gEq_isis : gEq (.str "is") (.str "is") = some (.bool true) := nr (by kernel_rfl)
@[simp] theorem gEq_ifis : gEq (.str "if") (.str "is") = some (.bool false) := nr (by kernel_rfl)
@[simp] theorem gEq_isif : gEq (.str "is") (.str "if") = some (.bool false) := nr (by kernel_rfl)
@[simp] theorem gEq_ifif : gEq (.str "if") (.str "if") = some (.bool true) := nr (by kernel_rfl)
/-- a draw, all told -/
theorem drawX {m : Int} (hm : 0 < m) (hm2 : m < 1000000) {p : Pool} (hp : PlOk p) : ∃ (v : Int) (q : Pool), 0 ≤ v ∧ v < m ∧ PlOk q ∧ F_law_draw (L := L) [.own true (.lst (plD p)), .dv (.d (.int m))] = some (.dv (.d (.int v)), some (.lst (plD q))) := by
  obtain ⟨⟨a, b⟩, _⟩ := draw_in hm p
  exact ⟨(draw m p).1, (draw m p).2, a, b, draw_ok hm hp, draw_eq m hm hm2 p hp⟩
/-- a comprehension whose turns change the frame -/
theorem lcN_inv {A : Type} {vs : List Nat} {u : Eg L} {f : Ev L} {inj : A → DV L} {I : List (SV L) → Prop} {J : PD → Prop} : ∀ (xs : List A) (δ : List (SV L)) (acc : List PD), I δ → (∀ x ∈ xs, ∀ δ, I δ → ∃ δ1 y δ3, u (inj x) δ = some δ1 ∧ frz f δ1 = some (.d y, δ3) ∧ J y ∧ I (wipeD δ3 vs)) →
    ∃ out δ', lcN vs u cYes f (xs.map inj) δ acc = some (acc ++ out, δ') ∧ I δ' ∧ out.length = xs.length ∧ ∀ y ∈ out, J y
  | [], δ, acc, h, _ => ⟨[], δ, by rw [List.map_nil, List.append_nil]; rfl, h, rfl, fun y hy => absurd hy (by simp)⟩
  | x :: xs, δ, acc, h, st => by
    obtain ⟨δ1, y, δ3, h1, h2, hj, hi⟩ := st x List.mem_cons_self δ h
    obtain ⟨out, δ', e, i, l, j⟩ := lcN_inv xs (wipeD δ3 vs) (acc ++ [y]) hi fun z hz => st z (List.mem_cons_of_mem _ hz)
    refine ⟨y :: out, δ', ?_, i, by rw [List.length_cons, List.length_cons, l], fun z hz => ?_⟩
    · rw [List.map_cons]
      unfold lcN
      rw [h1]
      dsimp only
      unfold cYes
      dsimp only
      rw [h2]
      dsimp only
      have e' := e
      unfold cYes at e'
      rw [e', List.append_assoc]
      rfl
    · rcases List.mem_cons.mp hz with rfl | hz
      · exact hj
      · exact j z hz
/-- _law_some_name -/
theorem house_ix {v : Int} (h0 : 0 ≤ v) (h1 : v < 6) : ∃ h : Str, gIx (.str "AABABH") (.int v) = some (.str h) ∧ PyData.strOk h = true := by
  have : v = 0 ∨ v = 1 ∨ v = 2 ∨ v = 3 ∨ v = 4 ∨ v = 5 := by omega
  rcases this with rfl | rfl | rfl | rfl | rfl | rfl
  · exact ⟨"A", by kernel_rfl, by decide +kernel⟩
  · exact ⟨"A", by kernel_rfl, by decide +kernel⟩
  · exact ⟨"B", by kernel_rfl, by decide +kernel⟩
  · exact ⟨"A", by kernel_rfl, by decide +kernel⟩
  · exact ⟨"B", by kernel_rfl, by decide +kernel⟩
  · exact ⟨"H", by kernel_rfl, by decide +kernel⟩
theorem some_name_eq {p : Pool} (hp : PlOk p) : ∃ (n : Nm) (q : Pool), NmOk n ∧ PlOk q ∧ F_law_some_name (L := L) [.own true (.lst (plD p))] = some (.dv (.d (nmD n)), some (.lst (plD q))) := by
  obtain ⟨v1, p1, a1, b1, h1, e1⟩ := drawX (L := L) (m := 6) (by decide) (by decide) hp
  obtain ⟨v2, p2, a2, b2, h2, e2⟩ := drawX (L := L) (m := 6) (by decide) (by decide) h1
  obtain ⟨v3, p3, a3, b3, h3, e3⟩ := drawX (L := L) (m := 9) (by decide) (by decide) h2
  obtain ⟨v4, p4, a4, b4, h4, e4⟩ := drawX (L := L) (m := 2) (by decide) (by decide) h3
  obtain ⟨h, eh, oh⟩ := house_ix a1 b1
  obtain ⟨d2, ed2, m2⟩ := atI_in (l := [PyData.str "zoe", .str "bob", .str "", .str "eve", .str "bob", .str "bo"]) a2 b2
  obtain ⟨o, rfl, oo⟩ : ∃ o : Str, d2 = .str o ∧ PyData.strOk o = true := by
    simp only [List.mem_cons, List.not_mem_nil, or_false] at m2
    rcases m2 with rfl | rfl | rfl | rfl | rfl | rfl <;> exact ⟨_, rfl, by simp⟩
  obtain ⟨d3, ed3, m3⟩ := atI_in (l := [PyData.int 7, .int 2, .int 60, .int 11, .int 59, .int 0, .int 3, .int 19, .int 40]) a3 b3
  obtain ⟨k, rfl, hk⟩ : ∃ k : Int, d3 = .int k ∧ 0 ≤ k := by
    simp only [List.mem_cons, List.not_mem_nil, or_false] at m3
    rcases m3 with rfl | rfl | rfl | rfl | rfl | rfl | rfl | rfl | rfl <;> exact ⟨_, rfl, by decide⟩
  have en := gNe_s oo ok_e
  by_cases c1 : 60 ≤ k + v4
  · by_cases c2 : o = ""
    · refine ⟨⟨h, (k + v4).fmod 60, o⟩, p4, ⟨(fmod_in (by decide)).1, oh, oo⟩, h4, ?_⟩
      subst c2
      simp [F_law_some_name, fnD_k, B_law_some_name, e1, e2, e3, e4, eh, ed2, ed3, en, c1, nmD]
    · refine ⟨⟨h, 99, o⟩, p4, ⟨(by decide : (0 : Int) ≤ 99), oh, oo⟩, h4, ?_⟩
      simp [F_law_some_name, fnD_k, B_law_some_name, e1, e2, e3, e4, eh, ed2, ed3, en, c1, c2, nmD]
  · refine ⟨⟨h, (k + v4).fmod 60, o⟩, p4, ⟨(fmod_in (by decide)).1, oh, oo⟩, h4, ?_⟩
    simp [F_law_some_name, fnD_k, B_law_some_name, e1, e2, e3, e4, eh, ed2, ed3, en, c1, nmD]
end
end DL.M
set_option Elab.async false
set_option linter.all false
set_option maxRecDepth 100000
set_option maxHeartbeats 1000000
/-! M14: bars; _law_hit; papers read. -/
namespace DL.M
open PySem PySem.Spec L2 TK PySem.W
open PyProof.Rows hiding St
variable [CN]
variable {L : Lang}
structure Bar where
  h : Str
  o : Str
  b : Int
def barD (x : Bar) : PD := .tuple [.str x.h, .str x.o, .int x.b]
def BarOk (x : Bar) : Prop := PyData.strOk x.h = true ∧ PyData.strOk x.o = true ∧ x.o ≠ ""
def bsD (bs : List Bar) : PD := .list (bs.map barD)
def hit1 (n : Nm) (x : Bar) : Bool := decide (x.h = n.h) && (decide (x.o = n.o) && decide (n.k < x.b))
def hitB (bs : List Bar) (n : Nm) : Bool := bs.any (hit1 n)
/-- a loop that the first of a kind leaves -/
theorem sForN_any {A : Type} {u : Eg L} {b : Es L} {inj : A → DV L} {I : List (SV L) → Prop} {p : A → Bool} {r : RV L} : ∀ (xs : List A) (δ : List (SV L)), I δ → (∀ x ∈ xs, ∀ δ, I δ → ∃ δ1 δ2, u (inj x) δ = some δ1 ∧ b δ1 = some (if p x = true then .rt r else .nx, δ2) ∧ I δ2) →
    ∃ δ', sForN u b (xs.map inj) δ = some (if xs.any p = true then .rt r else .nx, δ') ∧ I δ'
  | [], δ, h, _ => ⟨δ, rfl, h⟩
  | x :: xs, δ, h, st => by
    obtain ⟨δ1, δ2, h1, h2, h3⟩ := st x List.mem_cons_self δ h
    rw [List.map_cons]
    unfold sForN
    rw [h1]
    dsimp only
    rw [h2, List.any_cons]
    cases hp : p x with
    | true => exact ⟨δ2, rfl, h3⟩
    | false =>
      obtain ⟨δ', e, h'⟩ := sForN_any xs δ2 h3 fun y hy => st y (List.mem_cons_of_mem _ hy)
      exact ⟨δ', e, h'⟩
theorem hit_eq {bs : List Bar} {n : Nm} (hb : ∀ x ∈ bs, BarOk x) (hn : NmOk n) : F_law_hit (L := L) [.dv (.d (bsD bs)), .dv (.d (nmD n))] = some (.dv (.d (.bool (hitB bs n))), none) := by
  obtain ⟨δ', e, s2, s3, s4, rfl⟩ := sForN_any (L := L) (u := uTup 3 (usCons (uName 2) (usCons (uName 3) (usCons (uName 4) (usNil))))) (b := (sIf (tstAnd (tst (eOp gEq (eVar 2) (eOp gIx (eVar 1) (eC (.int 0))))) (tstAnd (tst (eOp gEq (eVar 3) (eOp gIx (eVar 1) (eC (.int 2))))) (tst (eOp gLt (eOp gIx (eVar 1) (eC (.int 1))) (eVar 4))))) (sRet (eC (.bool true))) (sNil))) (inj := fun x => DV.d (barD x)) (p := hit1 n) (r := .dv (.d (.bool true)))
    (I := fun δ => ∃ s2 s3 s4, δ = [.dv (.d (bsD bs)), .dv (.d (nmD n)), s2, s3, s4]) bs [.dv (.d (bsD bs)), .dv (.d (nmD n)), .un, .un, .un] ⟨_, _, _, rfl⟩ fun x hx δ ⟨s2, s3, s4, eδ⟩ => by
      subst eδ
      obtain ⟨o1, o2, _⟩ := hb x hx
      refine ⟨[.dv (.d (bsD bs)), .dv (.d (nmD n)), .dv (.d (.str x.h)), .dv (.d (.str x.o)), .dv (.d (.int x.b))], [.dv (.d (bsD bs)), .dv (.d (nmD n)), .dv (.d (.str x.h)), .dv (.d (.str x.o)), .dv (.d (.int x.b))], by simp [barD], ?_, _, _, _, rfl⟩
      have e1 := gEq_s o1 hn.2.1
      have e2 := gEq_s o2 hn.2.2
      by_cases c1 : x.h = n.h
      · rw [decide_eq_true c1] at e1
        by_cases c2 : x.o = n.o
        · rw [decide_eq_true c2] at e2
          by_cases c3 : n.k < x.b
          · have hh : hit1 n x = true := by simp [hit1, c1, c2, c3]
            simp [nmD, hh, e1, e2, c3]
          · have hh : hit1 n x = false := by simp [hit1, c1, c2, c3]
            simp [nmD, hh, e1, e2, c3]
        · rw [decide_eq_false c2] at e2
          have hh : hit1 n x = false := by simp [hit1, c1, c2]
          simp [nmD, hh, e1, e2]
      · rw [decide_eq_false c1] at e1
        have hh : hit1 n x = false := by simp [hit1, c1]
        simp [nmD, hh, e1]
  have el : (bs.map barD).map (DV.d (L := L)) = bs.map fun x => DV.d (barD x) := by rw [List.map_map]; rfl
  unfold hitB
  by_cases c : bs.any (hit1 n) = true
  · rw [c] at e
    simp [F_law_hit, fnD_k, B_law_hit, kFo_s, bsD, el] at e ⊢
    simp [e, c]
  · have c' : bs.any (hit1 n) = false := by simpa using c
    rw [c'] at e
    simp [F_law_hit, fnD_k, B_law_hit, kFo_s, bsD, el] at e ⊢
    simp [e, c']
/-! ### names within a list -/
theorem any_nm (x : List Nm) (n : Nm) : ((x.map nmD).any fun z => PyData.eqv z (nmD n)) = decide (n ∈ x) := by
  induction x with
  | nil => simp
  | cons a x ih =>
    rw [List.map_cons, List.any_cons, ih, eqv_nm]
    by_cases h : a = n
    · simp [h]
    · have h' : ¬ n = a := fun e => h e.symm
      simp [h, h']
/-- a list or a tuple of names -/
structure NsC (c : PD) (x : List Nm) : Prop where
  it : itemsD c = some (x.map nmD)
  sh : SeqAt.shaped c = true
theorem nsC_l {x : List Nm} (h : ∀ n ∈ x, NmOk n) : NsC (nsD x) x := ⟨rfl, shaped_nms h⟩
theorem nsC_t : NsC (.tuple []) [] := ⟨rfl, by simp [SeqAt.shaped, PyData.canLay0, PyData.canLayAll0, PyData.depth, PyData.depthAll]⟩
theorem gInX_nm {c : PD} {x : List Nm} (h : NsC c x) {n : Nm} (hn : NmOk n) : gInX (nmD n) c = some (.bool (decide (n ∈ x))) := by
  unfold gInX
  rw [h.it]
  dsimp only
  rw [if_pos ⟨shaped_nm hn, h.sh⟩, any_nm]
theorem gNotInX_nm {c : PD} {x : List Nm} (h : NsC c x) {n : Nm} (hn : NmOk n) : gNotInX (nmD n) c = some (.bool (!decide (n ∈ x))) := by
  unfold gNotInX
  rw [h.it]
  dsimp only
  rw [if_pos ⟨shaped_nm hn, h.sh⟩, any_nm]
/-! ### read -/
theorem read_loop {c : PD} {x : List Nm} (hc : NsC c x) : ∀ (q : P3), (∀ m ∈ q.names, NmOk m) → ∀ k, q.depth < k →
    sWhN (L := L) (tst (eOp gEq (eOp gIx (eVar 0) (eC (.int 0))) (eC (.str "if")))) (sSet 0 (eIf (tst (eOp gInX (eOp gIx (eVar 0) (eC (.int 1))) (eVar 1))) (eOp gIx (eVar 0) (eC (.int 3))) (eOp gIx (eVar 0) (eC (.int 2))))) k [.dv (.d (papD q)), .dv (.d c)] = some (.nx, [.dv (.d (papD (.leaf (q.read x)))), .dv (.d c)])
  | q, _, 0, h => absurd h (by simp)
  | .leaf v, _, k + 1, _ => by
    unfold sWhN
    simp [papD, Pap.read]
  | .node n s g, hq, k + 1, h => by
    have h' : 1 + max s.depth g.depth < k + 1 := h
    have i1 := read_loop hc s (fun m hm => hq m (List.mem_cons_of_mem _ (List.mem_append_left _ hm))) k (by omega)
    have i2 := read_loop hc g (fun m hm => hq m (List.mem_cons_of_mem _ (List.mem_append_right _ hm))) k (by omega)
    have e := gInX_nm hc (hq n List.mem_cons_self)
    unfold sWhN
    by_cases hn : n ∈ x
    · simp [papD, Pap.read, e, hn]
      simpa [papD] using i2
    · simp [papD, Pap.read, e, hn]
      simpa [papD] using i1
theorem read_eq {c : PD} {x : List Nm} (hc : NsC c x) {q : P3} (hq : ∀ m ∈ q.names, NmOk m) (hd : q.depth < 1000) : F_read (L := L) [.dv (.d (papD q)), .dv (.d c)] = some (.dv (.d (vD (q.read x))), none) := by
  have e := read_loop (L := L) hc q hq 1000 hd
  simp only [papD] at e
  simp [F_read, fnD_k, B_read, e]
theorem lread_loop {c : PD} {x : List Nm} (hc : NsC c x) : ∀ (ks : List Int) (q : P3), (∀ m ∈ q.names, NmOk m) → q.depth < ks.length → ∀ s2 : SV L, ∃ δ',
    sForN (L := L) (uName 2) (sSeq (sIf (tst (eOp gEq (eOp gIx (eVar 0) (eC (.int 0))) (eC (.str "is")))) (sRet (eOp gIx (eVar 0) (eC (.int 1)))) (sNil)) (sSet 0 (eIf (tst (eOp gInX (eOp gIx (eVar 0) (eC (.int 1))) (eVar 1))) (eOp gIx (eVar 0) (eC (.int 3))) (eOp gIx (eVar 0) (eC (.int 2)))))) (ks.map fun k => DV.d (.int k)) [.dv (.d (papD q)), .dv (.d c), s2] = some (.rt (.dv (.d (vD (q.read x)))), δ') ∧ back δ' = none
  | [], q, _, h, _ => absurd h (by simp)
  | k :: ks, .leaf v, _, _, s2 => by
    rw [List.map_cons]
    unfold sForN
    refine ⟨_, by simp [papD, Pap.read]; rfl, rfl⟩
  | k :: ks, .node n s g, hq, h, s2 => by
    have h' : 1 + max s.depth g.depth < ks.length + 1 := h
    obtain ⟨d1, i1, b1⟩ := lread_loop hc ks s (fun m hm => hq m (List.mem_cons_of_mem _ (List.mem_append_left _ hm))) (by omega) (.dv (.d (.int k)))
    obtain ⟨d2, i2, b2⟩ := lread_loop hc ks g (fun m hm => hq m (List.mem_cons_of_mem _ (List.mem_append_right _ hm))) (by omega) (.dv (.d (.int k)))
    have e := gInX_nm hc (hq n List.mem_cons_self)
    rw [List.map_cons]
    unfold sForN
    by_cases hn : n ∈ x
    · refine ⟨d2, ?_, b2⟩
      simp [papD, Pap.read, e, hn]
      simpa [papD] using i2
    · refine ⟨d1, ?_, b1⟩
      simp [papD, Pap.read, e, hn]
      simpa [papD] using i1
theorem nums_ints (lo : Int) (n : Nat) : ∃ ks : List Int, nums (L := L) lo n = ks.map (fun k => DV.d (.int k)) ∧ ks.length = n := ⟨(List.range n).map fun (i : Nat) => lo + (i : Int), by unfold nums; rw [List.map_map]; rfl, by simp⟩
theorem lread_eq {c : PD} {x : List Nm} (hc : NsC c x) {q : P3} (hq : ∀ m ∈ q.names, NmOk m) (hd : q.depth ≤ 10) : F_law_read (L := L) [.dv (.d (papD q)), .dv (.d c)] = some (.dv (.d (vD (q.read x))), none) := by
  obtain ⟨ks, ek, hk⟩ := nums_ints (L := L) 0 11
  obtain ⟨δ', e, hb⟩ := lread_loop (L := L) hc ks q hq (by omega) .un
  rw [← ek] at e
  have en := kR1_j (L := L) (δ := [.dv (.d (papD q)), .dv (.d c), .un]) (j := 11) (by decide) (by decide)
  rw [show (11 : Int).toNat = 11 from rfl] at en
  simp [F_law_read, fnD_k, B_law_read, en, kFo_s, e, hb]
end DL.M
set_option Elab.async false
set_option linter.all false
set_option maxRecDepth 100000
set_option maxHeartbeats 1000000
/-! M15: names within a paper: _law_inside, _nodes, names_in; without. -/
namespace DL.M
open PySem PySem.Spec L2 TK PySem.W
open PyProof.Rows hiding St
variable [CN]
variable {L : Lang}
/-- a paper as the program keeps it -/
structure GP (q : P3) : Prop where
  ok : q.Ok nlt
  nm : ∀ n ∈ q.names, NmOk n
  dp : q.depth ≤ 10
  sz : q.size ≤ 30
  wd : (srtN q.names).length ≤ 10
theorem names_len : ∀ q : P3, q.names.length = q.size
  | .leaf v => rfl
  | .node n s g => by
    show (n :: (s.names ++ g.names)).length = 1 + s.size + g.size
    rw [List.length_cons, List.length_append, names_len s, names_len g]
    omega
theorem srtN_nil : srtN [] = [] := by
  have h := fun x => (srtN_mem (l := []) x).mp
  cases e : srtN [] with
  | nil => rfl
  | cons a l => exact absurd (h a (by rw [e]; exact List.mem_cons_self)) (by simp)
theorem srtN_congr {a b : List Nm} (h : ∀ x, x ∈ a ↔ x ∈ b) : srtN a = srtN b :=
  srt_uniq (srtN_srt a) (srtN_srt b) fun x => by rw [srtN_mem, srtN_mem]; exact h x
theorem srtN_len (a : List Nm) : (srtN a).length ≤ a.length := srt_len (srtN_srt a) fun x hx => (srtN_mem x).mp hx
theorem sortK_nm (l : List Nm) : sortK (l.map nmD) = (srtN l).map nmD := srtN_eq l
theorem inside_eq : ∀ (q : P3) (n : Nat), q.depth ≤ n → q.size ≤ 60 → F_law_inside (L := L) (n + 1) [.dv (.d (papD q))] = some (.own (.lst ((srtN q.names).map nmD)), none)
  | .leaf v, n, _, _ => by
    show fnD 1 1 (B_law_inside (F_law_inside n)) _ = _
    simp [fnD_k, B_law_inside, papD, Pap.names, srtN_nil]
  | .node m s g, 0, h, _ => absurd h (by simp [Pap.depth])
  | .node m s g, n + 1, h, hs => by
    have h' : 1 + max s.depth g.depth ≤ n + 1 := h
    have hs' : 1 + s.size + g.size ≤ 60 := hs
    have i1 := inside_eq s n (by omega) (by omega)
    have i2 := inside_eq g n (by omega) (by omega)
    have l1 := srtN_len s.names
    have l2 := srtN_len g.names
    rw [names_len] at l1 l2
    have ex : [nmD m] ++ (srtN s.names).map nmD ++ (srtN g.names).map nmD = (m :: (srtN s.names ++ srtN g.names)).map nmD := by simp
    have e1 : gCat (.list [nmD m]) (.list ((srtN s.names).map nmD)) = some ([nmD m] ++ (srtN s.names).map nmD) := gCat_eq (by simp; omega)
    have e2 : gCat (.list ([nmD m] ++ (srtN s.names).map nmD)) (.list ((srtN g.names).map nmD)) = some ((m :: (srtN s.names ++ srtN g.names)).map nmD) := by
      rw [gCat_eq (by simp; omega), ex]
    have e3 : okK ((m :: (srtN s.names ++ srtN g.names)).map nmD) = true := okK_nm _
    have e4 : sortK ((m :: (srtN s.names ++ srtN g.names)).map nmD) = (srtN (Pap.node m s g).names).map nmD := by
      rw [sortK_nm]
      congr 1
      refine srtN_congr fun x => ?_
      show x ∈ m :: (srtN s.names ++ srtN g.names) ↔ x ∈ m :: (s.names ++ g.names)
      simp [srtN_mem]
    have e5 : ((m :: (srtN s.names ++ srtN g.names)).map nmD).length < 64 := by simp; omega
    show fnD 1 1 (B_law_inside (F_law_inside (n + 1))) _ = _
    obtain ⟨xs, exs⟩ : ∃ xs, xs = (m :: (srtN s.names ++ srtN g.names)).map nmD := ⟨_, rfl⟩
    rw [← exs] at e2 e3 e4 e5
    simp only [List.cons_append, List.nil_append] at e1 e2
    simp [fnD_k, B_law_inside, papD, i1, i2, e1, e2, e3, e4, e5]
theorem inside13 {q : P3} (h : GP q) : F_law_inside (L := L) 13 [.dv (.d (papD q))] = some (.own (.lst ((srtN q.names).map nmD)), none) := inside_eq q 12 (by have := h.dp; omega) (by have := h.sz; omega)
section
variable {δ : List (SV L)}
def kAu2 (i : Nat) (g : Int → Int → Int) (k : Int) : OE L → OS L
  | some (.dv (.d (.int j)), δ1) => some (.nx, δ1.set i (.dv (.d (.int (g k j)))))
  | _ => none
def kAu1 (i : Nat) (g : Int → Int → Int) (f : Ev L) (δ : List (SV L)) : Option (SV L) → OS L
  | some (.dv (.d (.int k))) => match f δ with
    | some (.dv (.d (.int j)), δ1) => some (.nx, δ1.set i (.dv (.d (.int (g k j)))))
    | _ => none
  | _ => none
@[simp] theorem sAug_k {i : Nat} {g : Int → Int → Int} {f : Ev L} : sAug i g f δ = kAu1 i g f δ δ[i]? := nr rfl
@[simp] theorem kAu1_s {i : Nat} {g : Int → Int → Int} {f : Ev L} {k : Int} : kAu1 i g f δ (some (.dv (.d (.int k)))) = kAu2 i g k (f δ) := nr rfl
@[simp] theorem kAu2_s {i : Nat} {g : Int → Int → Int} {k j : Int} : kAu2 i g k (some (.dv (.d (.int j)), δ)) = some (.nx, δ.set i (.dv (.d (.int (g k j))))) := nr rfl
end
/-! ### the nodes -/
def roots : List P3 → List Nm
  | [] => []
  | .leaf _ :: r => roots r
  | .node n _ _ :: r => n :: roots r
def kids : P3 → List P3
  | .leaf _ => []
  | .node _ s g => [s, g]
def isNode : P3 → Bool
  | .leaf _ => false
  | .node _ _ _ => true
def psz (l : List P3) : Nat := (l.map fun q => 2 * q.size + 1).sum
theorem psz_append (a b : List P3) : psz (a ++ b) = psz a + psz b := by unfold psz; rw [List.map_append, List.sum_append]
theorem psz_kids (q : P3) : psz [q] = 1 + psz (kids q) := by
  cases q with
  | leaf v => rfl
  | node n s g => simp [psz, kids, Pap.size]; omega
theorem names_kids (q : P3) (x : Nm) : x ∈ q.names ↔ x ∈ roots [q] ∨ ∃ p ∈ kids q, x ∈ p.names := by
  cases q with
  | leaf v => simp [Pap.names, roots, kids]
  | node n s g => simp [Pap.names, roots, kids]
theorem roots_append : ∀ a b : List P3, roots (a ++ b) = roots a ++ roots b
  | [], b => rfl
  | .leaf v :: r, b => roots_append r b
  | .node n s g :: r, b => congrArg (n :: ·) (roots_append r b)
/-- done: behind these; todo: still to be looked at -/
theorem nodes_loop {s0 : SV L} : ∀ (k : Nat) (done todo : List P3), psz todo < k → done.length + psz todo < 2000 → ∃ all : List P3,
    sWhN (L := L) (tst (eOp gLt (eVar 2) (thaw (eCB cLen (aCons (eVar 1) (aNil)))))) (sSeq (sIf (tst (eOp gEq (eOp gIx (eIxO 1 (eVar 2)) (eC (.int 0))) (eC (.str "if")))) (sSeq (sApp 1 (eOp gIx (eIxO 1 (eVar 2)) (eC (.int 2)))) (sApp 1 (eOp gIx (eIxO 1 (eVar 2)) (eC (.int 3))))) (sNil)) (sAug 2 (fun i j => i + j) (eC (.int 1)))) k [s0, .own false (.lst ((done ++ todo).map papD)), .dv (.d (.int (done.length : Int)))] =
      some (.nx, [s0, .own false (.lst (all.map papD)), .dv (.d (.int (all.length : Int)))]) ∧ all.length = done.length + psz todo ∧ (∀ x, x ∈ roots all ↔ x ∈ roots done ∨ ∃ p ∈ todo, x ∈ p.names)
  | 0, done, todo, h, _ => absurd h (by simp)
  | k + 1, done, [], h, _ => by
    refine ⟨done, ?_, by simp [psz], by simp⟩
    unfold sWhN
    simp
  | k + 1, done, q :: r, h, hl => by
    have ep : psz (q :: r) = 1 + psz (kids q) + psz r := by
      have := psz_append [q] r
      rw [psz_kids] at this
      exact this
    have e2 : psz (r ++ kids q) = psz r + psz (kids q) := psz_append _ _
    obtain ⟨all, e, el, er⟩ := nodes_loop k (done ++ [q]) (r ++ kids q) (by omega) (by simp; omega)
    refine ⟨all, ?_, by rw [el]; simp; omega, fun x => ?_⟩
    · have hlen : (done.length : Int) < (((done ++ q :: r).map papD).length : Int) := by simp; omega
      have hlt : ((done ++ q :: r).map papD).length < 99998 := by
        have : r.length ≤ psz r := by
          clear e er el ep e2 h hl
          induction r with
          | nil => simp
          | cons a r ih => simp [psz] at ih ⊢; omega
        simp; omega
      have hat : atI ((done ++ q :: r).map papD) (done.length : Int) = some (papD q) := by rw [atI_nat]; simp
      obtain ⟨xs, exs⟩ : ∃ xs, xs = (done ++ q :: r).map papD := ⟨_, rfl⟩
      have exk : xs ++ (kids q).map papD = ((done ++ [q]) ++ (r ++ kids q)).map papD := by rw [exs]; simp
      have dl : ((done ++ [q]).length : Int) = (done.length : Int) + 1 := by simp
      rw [dl, ← exk] at e
      rw [← exs] at hlen hlt hat ⊢
      unfold sWhN
      cases q with
      | leaf v =>
        simp only [kids, List.map_nil, List.append_nil] at e
        simp [hlen, hat, papD, scalarD]
        simpa using e
      | node n s g =>
        have hat2 : atI (xs ++ [papD s]) (done.length : Int) = some (papD (.node n s g)) := by
          rw [atI_nat] at hat ⊢
          rw [List.getElem?_append_left (by simpa using hlen), hat]
        have h9 : xs.length < 100000 := by omega
        have h8 : xs.length + 1 < 100000 := by omega
        simp only [papD] at hat hat2
        simp [hlen, hat, hat2, papD, h9, h8]
        simpa [kids] using e
    · rw [er, roots_append]
      simp only [List.mem_append, List.mem_cons]
      constructor
      · rintro ((a | a) | ⟨p, hp | hp, hx⟩)
        · exact .inl a
        · exact .inr ⟨q, .inl rfl, (names_kids q x).mpr (.inl a)⟩
        · exact .inr ⟨p, .inr hp, hx⟩
        · exact .inr ⟨q, .inl rfl, (names_kids q x).mpr (.inr ⟨p, hp, hx⟩)⟩
      · rintro (a | ⟨p, hp | hp, hx⟩)
        · exact .inl (.inl a)
        · subst hp
          rcases (names_kids p x).mp hx with a | ⟨z, hz, hx⟩
          · exact .inl (.inr a)
          · exact .inr ⟨z, .inr hz, hx⟩
        · exact .inr ⟨p, .inl hp, hx⟩
theorem nodes_eq {q : P3} (h : q.size < 900) : ∃ all : List P3, F_nodes (L := L) [.dv (.d (papD q))] = some (.own (.lst (all.map papD)), none) ∧ all.length = 2 * q.size + 1 ∧ (∀ x, x ∈ roots all ↔ x ∈ q.names) := by
  have ez : psz [q] = 2 * q.size + 1 := by simp [psz]
  obtain ⟨all, e, el, er⟩ := nodes_loop (L := L) (s0 := .dv (.d (papD q))) 5000 [] [q] (by omega) (by simp; omega)
  refine ⟨all, ?_, by rw [el, ez]; simp, fun x => by rw [er]; simp [roots]⟩
  simp only [List.nil_append, List.map_cons, List.map_nil, List.length_nil, Int.ofNat_zero, Int.natCast_zero] at e
  simp [F_nodes, fnD_k, B_nodes, e]
def rootD : P3 → PD
  | .leaf _ => .none
  | .node n _ _ => nmD n
theorem roots_map : ∀ all : List P3, (all.filter isNode).map rootD = (roots all).map nmD
  | [] => rfl
  | .leaf v :: r => by
    rw [List.filter_cons_of_neg (by simp [isNode]), roots_map r]
    rfl
  | .node n s g :: r => by
    rw [List.filter_cons_of_pos (by simp [isNode]), List.map_cons, roots_map r]
    rfl
theorem names_in_eq {q : P3} (h : q.size ≤ 30) : F_names_in (L := L) [.dv (.d (papD q))] = some (.own (.lst ((srtN q.names).map nmD)), none) := by
  obtain ⟨all, e, el, er⟩ := nodes_eq (L := L) (q := q) (by omega)
  have ef := lcN_filter (L := L) (δ := [.dv (.d (papD q)), .un]) (vs := [1]) (u := uName 1) (c := (tst (eOp gEq (eOp gIx (eVar 1) (eC (.int 0))) (eC (.str "if"))))) (f := (eOp gIx (eVar 1) (eC (.int 1)))) (inj := fun p => DV.d (papD p)) (g := rootD) (p := isNode) all [] fun x hx => by
    refine ⟨[.dv (.d (papD q)), .dv (.d (papD x))], [.dv (.d (papD q)), .dv (.d (papD x))], by simp, ?_, fun hn => ⟨[.dv (.d (papD q)), .dv (.d (papD x))], ?_, by simp⟩, fun hn => by simp⟩
    · cases x <;> simp [papD, isNode]
    · cases x with
      | leaf v => simp [isNode] at hn
      | node n s g => simp [papD, rootD]
  rw [roots_map, List.nil_append] at ef
  have es : sortK ((roots all).map nmD) = (srtN q.names).map nmD := by
    rw [sortK_nm]
    congr 1
    exact srtN_congr er
  have em : (all.map papD).map (DV.d (L := L)) = all.map fun p => DV.d (papD p) := by rw [List.map_map]; rfl
  have hl : all.length < 63 := by omega
  have ok := okK_nm (roots all)
  obtain ⟨rs, ers⟩ : ∃ rs, rs = (roots all).map nmD := ⟨_, rfl⟩
  rw [← ers] at ef es ok
  simp [F_names_in, fnD_k, B_names_in, e, kSC1_s, em, hl, ef, ok, es]
/-! ### without -/
theorem ask_eq {n : Nm} {s g : P3} (hs : SeqAt.shaped (papD s) = true) (hg : SeqAt.shaped (papD g) = true) : F_ask (L := L) [.dv (.d (nmD n)), .dv (.d (papD s)), .dv (.d (papD g))] = some (.dv (.d (papD (Pap.ask n s g))), none) := by
  have e : gEq (papD s) (papD g) = some (.bool (decide (s = g))) := by rw [gEq_eq hs hg, eqv_pap]
  by_cases c : s = g
  · simp [F_ask, fnD_k, B_ask, e, c, Pap.ask]
    subst c
    simp [e]
  · simp [F_ask, fnD_k, B_ask, e, c, Pap.ask, papD]
theorem without_eq {c : PD} {x : List Nm} (hc : NsC c x) : ∀ (q : P3) (n : Nat), q.depth ≤ n → q.depth ≤ 15 → (∀ m ∈ q.names, NmOk m) → F_without (L := L) (n + 1) [.dv (.d (papD q)), .dv (.d c)] = some (.dv (.d (papD (q.without x))), none)
  | .leaf v, n, _, _, _ => by
    show fnD 2 3 (B_without (F_without n)) _ = _
    simp [fnD_k, B_without, papD, Pap.without]
  | .node m s g, 0, h, _, _ => absurd h (by simp [Pap.depth])
  | .node m s g, n + 1, h, h15, hq => by
    have h' : 1 + max s.depth g.depth ≤ n + 1 := h
    have h15' : 1 + max s.depth g.depth ≤ 15 := h15
    have qs := fun z hz => hq z (List.mem_cons_of_mem _ (List.mem_append_left _ hz))
    have qg := fun z hz => hq z (List.mem_cons_of_mem _ (List.mem_append_right _ hz))
    have i1 := without_eq hc s n (by omega) (by omega) qs
    have i2 := without_eq hc g n (by omega) (by omega) qg
    have e := gInX_nm hc (hq m List.mem_cons_self)
    have d1 : (s.without x).depth ≤ s.depth := Pap.depth_without s x
    have d2 : (g.without x).depth ≤ g.depth := Pap.depth_without g x
    have sh1 := shaped_pap (p := s.without x) (fun z hz => qs z (Pap.names_without s x hz).1) (by omega)
    have sh2 := shaped_pap (p := g.without x) (fun z hz => qg z (Pap.names_without g x hz).1) (by omega)
    have ea := ask_eq (L := L) (n := m) sh1 sh2
    show fnD 2 3 (B_without (F_without (n + 1))) _ = _
    by_cases hm : m ∈ x
    · simp [fnD_k, B_without, papD, Pap.without, i1, i2, e, hm]
    · simp [fnD_k, B_without, papD, Pap.without, i1, i2, e, hm, ea]
end DL.M
set_option Elab.async false
set_option linter.all false
set_option maxRecDepth 100000
set_option maxHeartbeats 1000000
/-! M16: notes and books: rules; the book. -/
namespace DL.M
open PySem PySem.Spec L2 TK PySem.W
open PyProof.Rows hiding St
variable [CN]
variable {K : PySem.W.Frag} {C1 C2 : Addr}
abbrev LK (K : PySem.W.Frag) (C1 C2 : Addr) : Lang := L59 K C1 C2
abbrev Kvs := List (Kt × Int)
def oB (kvs : Kvs) : (L59 K C1 C2).Ob := Ob59.book kvs
def oN (ds : List PD) : (L59 K C1 C2).Ob := Ob59.notes ds
def oD (kvs : Kvs) : (L59 K C1 C2).Ob := Ob59.dct kvs
def oS (ns : List Int) : (L59 K C1 C2).Ob := Ob59.script ns
def wN (ds : List PD) : OW (L59 K C1 C2) := nts ds
def wD (kvs : Kvs) : OW (L59 K C1 C2) := rs59 (.dct kvs)
def wH (kvs : Kvs) : OW (L59 K C1 C2) := rs59 (.half kvs)
def wB (kvs : Kvs) : OW (L59 K C1 C2) := rs59 (.bk kvs)
def wR (b : Bool) : OW (L59 K C1 C2) := rs59 (.raw b)
section
variable {δ δ1 δ2 : List (SV (L59 K C1 C2))}
@[simp] theorem isB_B {kvs : Kvs} : isB (oB (K := K) (C1 := C1) (C2 := C2) kvs) = true := nr rfl
@[simp] theorem isN_N {ds : List PD} : isN (oN (K := K) (C1 := C1) (C2 := C2) ds) = true := nr rfl
@[simp] theorem shr1_N {b : Bool} {ds : List PD} : shr1 (L := L59 K C1 C2) (.own b (wN ds)) = .dv (.ob (oN ds)) := nr rfl
@[simp] theorem shr1_D {b : Bool} {kvs : Kvs} : shr1 (L := L59 K C1 C2) (.own b (wD kvs)) = .dv (.ob (oD kvs)) := nr rfl
def kPp : OF (L59 K C1 C2) → OE (L59 K C1 C2)
  | some (.ob o, δ') => match (show Ob59 from o) with
    | .notes ds => some (.dv (.d (.list ds)), δ')
    | _ => none
  | _ => none
@[simp] theorem ePap_k {f : Ev (L59 K C1 C2)} : ePap f δ = kPp (frz f δ) := nr rfl
@[simp] theorem kPp_s {ds : List PD} : kPp (some (.ob (oN ds), δ)) = some (.dv (.d (.list ds)), δ) := nr rfl
def bget (kvs : Kvs) (h o : Str) : Int := ((kvs.find? fun p => decide (p.1 = [.inr h, .inr o])).map (·.2)).getD 0
def kBG3 (kvs : Kvs) (x : Str) : OF (L59 K C1 C2) → OE (L59 K C1 C2)
  | some (.d (.str y), δ3) => some (.dv (.d (.int (bget kvs x y))), δ3)
  | _ => none
def kBG2 (kvs : Kvs) (fy : Ev (L59 K C1 C2)) : OF (L59 K C1 C2) → OE (L59 K C1 C2)
  | some (.d (.str x), δ2) => kBG3 kvs x (frz fy δ2)
  | _ => none
def kBG1 (fx fy : Ev (L59 K C1 C2)) : OF (L59 K C1 C2) → OE (L59 K C1 C2)
  | some (.ob o, δ1) => match (show Ob59 from o), frz fx δ1 with
    | .book kvs, some (.d (.str x), δ2) => match frz fy δ2 with
      | some (.d (.str y), δ3) => some (.dv (.d (.int (((kvs.find? fun p => decide (p.1 = [.inr x, .inr y])).map (·.2)).getD 0))), δ3)
      | _ => none
    | _, _ => none
  | _ => none
@[simp] theorem eBGet_k {fo fx fy : Ev (L59 K C1 C2)} : eBGet fo fx fy δ = kBG1 fx fy (frz fo δ) := nr rfl
@[simp] theorem kBG1_s {kvs : Kvs} {fx fy : Ev (L59 K C1 C2)} : kBG1 fx fy (some (.ob (oB kvs), δ)) = kBG2 kvs fy (frz fx δ) := nr (by
  unfold kBG1
  dsimp only [oB, oD]
  generalize frz fx δ = r
  rcases r with _ | ⟨x | o, δ1⟩
  · rfl
  · cases x <;> first | rfl | (unfold kBG2 kBG3 bget; rfl)
  · rfl)
@[simp] theorem kBG2_s {kvs : Kvs} {fy : Ev (L59 K C1 C2)} {x : Str} : kBG2 kvs fy (some (.d (.str x), δ)) = kBG3 kvs x (frz fy δ) := nr rfl
@[simp] theorem kBG3_s {kvs : Kvs} {x y : Str} : kBG3 (K := K) (C1 := C1) (C2 := C2) kvs x (some (.d (.str y), δ)) = some (.dv (.d (.int (bget kvs x y))), δ) := nr rfl
def kDG1 (fx fy : Ev (L59 K C1 C2)) : OF (L59 K C1 C2) → OE (L59 K C1 C2)
  | some (.ob o, δ1) => match (show Ob59 from o), frz fx δ1 with
    | .dct kvs, some (.d (.str x), δ2) => match frz fy δ2 with
      | some (.d (.str y), δ3) => some (.dv (.d (.int (((kvs.find? fun p => decide (p.1 = [.inr x, .inr y])).map (·.2)).getD 0))), δ3)
      | _ => none
    | _, _ => none
  | _ => none
@[simp] theorem eDGet_k {fo fx fy : Ev (L59 K C1 C2)} : eDGet fo fx fy δ = kDG1 fx fy (frz fo δ) := nr rfl
@[simp] theorem kDG1_s {kvs : Kvs} {fx fy : Ev (L59 K C1 C2)} : kDG1 fx fy (some (.ob (oD kvs), δ)) = kBG2 kvs fy (frz fx δ) := nr (by
  unfold kDG1
  dsimp only [oB, oD]
  generalize frz fx δ = r
  rcases r with _ | ⟨x | o, δ1⟩
  · rfl
  · cases x <;> first | rfl | (unfold kBG2 kBG3 bget; rfl)
  · rfl)
@[simp] theorem eDct0_k : eDct0 δ = some (.own (wD []), δ) := nr rfl
def kDP (i : Nat) (δ : List (SV (L59 K C1 C2))) : Option Ow59 → Option (SV (L59 K C1 C2)) → Option (SV (L59 K C1 C2)) → Option (SV (L59 K C1 C2)) → OS (L59 K C1 C2)
  | some (.dct kvs), some (.dv (.d (.str x))), some (.dv (.d (.str y))), some (.dv (.d (.int n))) => if kvs.length < 60 then some (.nx, δ.set i (.own false (rs59 (.dct (putI kvs [.inr x, .inr y] n))))) else none
  | _, _, _, _ => none
@[simp] theorem sDPutN_k {i j1 j2 j3 : Nat} : sDPutN i j1 j2 j3 δ = kDP i δ (fwOf δ[i]?) δ[j1]? δ[j2]? δ[j3]? := nr rfl
@[simp] theorem fwOf_D {kvs : Kvs} : fwOf (K := K) (C1 := C1) (C2 := C2) (some (.own false (wD kvs))) = some (.dct kvs) := nr rfl
@[simp] theorem kDP_s {i : Nat} {kvs : Kvs} {x y : Str} {n : Int} : kDP i δ (some (.dct kvs)) (some (.dv (.d (.str x)))) (some (.dv (.d (.str y)))) (some (.dv (.d (.int n)))) = if kvs.length < 60 then some (.nx, δ.set i (.own false (wD (putI kvs [.inr x, .inr y] n)))) else none := nr rfl
def kBn (i : Nat) (δ : List (SV (L59 K C1 C2))) : Option Ow59 → Option Ow59 → OS (L59 K C1 C2)
  | some (.raw false), some (.dct kvs) => some (.nx, (δ.set i (.dv (.ob (show (L59 K C1 C2).Ob from Ob59.dct kvs)))).set 0 (.own true (rs59 (.half kvs))))
  | _, _ => none
@[simp] theorem sBnd_k {i : Nat} : sBnd i δ = kBn i δ (owOf δ[0]?) (fwOf δ[i]?) := nr rfl
@[simp] theorem owOf_R {b : Bool} : owOf (K := K) (C1 := C1) (C2 := C2) (some (.own true (wR b))) = some (.raw b) := nr rfl
@[simp] theorem owOf_H {kvs : Kvs} : owOf (K := K) (C1 := C1) (C2 := C2) (some (.own true (wH kvs))) = some (.half kvs) := nr rfl
@[simp] theorem kBn_s {i : Nat} {kvs : Kvs} : kBn i δ (some (.raw false)) (some (.dct kvs)) = some (.nx, (δ.set i (.dv (.ob (oD kvs)))).set 0 (.own true (wH kvs))) := nr rfl
theorem sKept_eq {i ia ib : Nat} {vs : List Nat} {kvs : Kvs} (h0 : δ[0]? = some (.own true (wH kvs))) (hi : δ[i]? = some (.dv (.ob (oD kvs)))) (h : okB kvs = true ∧ ia ≠ ib ∧ ia ∈ vs ∧ ib ∈ vs ∧ i ∉ vs ∧ ia < δ.length ∧ ib < δ.length) :
    sKept i ia ib vs δ = some (.nx, δ.set 0 (.own true (wB kvs))) := by
  unfold sKept
  rw [h0, hi]
  show (if kvs = kvs ∧ okB kvs = true ∧ ia ≠ ib ∧ ia ∈ vs ∧ ib ∈ vs ∧ i ∉ vs ∧ ia < δ.length ∧ ib < δ.length then _ else none) = _
  rw [if_pos ⟨rfl, h⟩]
  rfl
/-! ### the book's bounds -/
theorem key2 {h o h' o' : Str} : ([.inr h, .inr o] : Kt) = [.inr h', .inr o'] ↔ h = h' ∧ o = o' := by simp
theorem find_append {kvs : Kvs} {p : Kt × Int → Bool} {e : Kt × Int} : (kvs ++ [e]).find? p = (kvs.find? p).or (if p e then some e else none) := by
  rw [List.find?_append]
  congr 1
  by_cases h : p e = true <;> simp [h]
theorem bget_put {kvs : Kvs} {h o : Str} {n : Int} (h' o' : Str) : bget (putI kvs [.inr h, .inr o] n) h' o' = if h = h' ∧ o = o' then n else bget kvs h' o' := by
  unfold putI
  by_cases c : (kvs.any fun p => decide (p.1 = [.inr h, .inr o])) = true
  · rw [if_pos c]
    induction kvs with
    | nil => simp at c
    | cons q r ih =>
      obtain ⟨k, v⟩ := q
      unfold bget at ih ⊢
      rw [List.map_cons, List.find?_cons, List.find?_cons]
      by_cases e : k = [.inr h, .inr o]
      · subst e
        by_cases e2 : h = h' ∧ o = o'
        · obtain ⟨rfl, rfl⟩ := e2
          simp
        · have e3 : ¬ ([.inr h, .inr o] : Kt) = [.inr h', .inr o'] := fun z => e2 (key2.mp z)
          rw [if_neg e2]
          simp only [if_true, decide_eq_false e3]
          have : ∀ r : Kvs, (((r.map fun p => if p.1 = ([.inr h, .inr o] : Kt) then (p.1, n) else p).find? fun p => decide (p.1 = ([.inr h', .inr o'] : Kt))).map (·.2)).getD 0 = (((r.find? fun p => decide (p.1 = ([.inr h', .inr o'] : Kt))).map (·.2)).getD 0) := by
            intro r
            induction r with
            | nil => rfl
            | cons q r ih2 =>
              rw [List.map_cons, List.find?_cons, List.find?_cons]
              by_cases e4 : q.1 = ([.inr h, .inr o] : Kt)
              · have e5 : ¬ q.1 = ([.inr h', .inr o'] : Kt) := by rw [e4]; exact e3
                simp only [if_pos e4, decide_eq_false e5]
                exact ih2
              · simp only [if_neg e4]
                by_cases e5 : q.1 = ([.inr h', .inr o'] : Kt)
                · simp [e5]
                · simp only [decide_eq_false e5]
                  exact ih2
          exact this r
      · have c2 : (r.any fun p => decide (p.1 = [.inr h, .inr o])) = true := by simpa [e] using c
        have ih := ih c2
        simp only [if_neg e]
        by_cases e5 : k = ([.inr h', .inr o'] : Kt)
        · have e2 : ¬ (h = h' ∧ o = o') := fun z => e (by rw [e5, key2.mpr z])
          simp [e5, e2]
        · simp only [decide_eq_false e5]
          exact ih
  · rw [if_neg c]
    unfold bget
    rw [find_append]
    by_cases e2 : h = h' ∧ o = o'
    · obtain ⟨rfl, rfl⟩ := e2
      have : (kvs.find? fun p => decide (p.1 = ([.inr h, .inr o] : Kt))) = none := by
        rw [List.find?_eq_none]
        intro x hx hc
        exact c (List.any_eq_true.mpr ⟨x, hx, hc⟩)
      rw [this]
      simp
    · have e3 : ¬ ([.inr h, .inr o] : Kt) = [.inr h', .inr o'] := fun z => e2 (key2.mp z)
      simp [e3, e2]
structure KvOk (kvs : Kvs) (m : Nat) : Prop where
  two : ∀ p ∈ kvs, ∃ h o, p.1 = ([.inr h, .inr o] : Kt)
  len : kvs.length ≤ m
theorem put_ok {kvs : Kvs} {m : Nat} {h o : Str} {n : Int} (k : KvOk kvs m) : KvOk (putI kvs [.inr h, .inr o] n) (m + 1) := by
  unfold putI
  split
  · refine ⟨fun p hp => ?_, by rw [List.length_map]; exact Nat.le_succ_of_le k.len⟩
    obtain ⟨q, hq, rfl⟩ := List.mem_map.mp hp
    obtain ⟨a, b, e⟩ := k.two q hq
    refine ⟨a, b, ?_⟩
    split
    · exact e
    · exact e
  · refine ⟨fun p hp => ?_, by rw [List.length_append]; exact Nat.succ_le_succ k.len⟩
    rcases List.mem_append.mp hp with hp | hp
    · exact k.two p hp
    · rw [List.mem_singleton.mp hp]
      exact ⟨h, o, rfl⟩
theorem okB_ok {kvs : Kvs} (k : KvOk kvs 59) : okB kvs = true := by
  unfold okB
  rw [Bool.and_eq_true, Bool.and_eq_true]
  refine ⟨List.all_eq_true.mpr fun p hp => ?_, ?_, decide_eq_true (Nat.lt_of_le_of_lt k.len (by decide))⟩
  · obtain ⟨a, b, e⟩ := k.two p hp
    rw [e]
    rfl
  · unfold okK
    refine List.all_eq_true.mpr fun d hd => ?_
    obtain ⟨p, hp, rfl⟩ := List.mem_map.mp hd
    obtain ⟨a, b, e⟩ := k.two p hp
    rw [Bool.and_eq_true, Bool.and_eq_true]
    refine ⟨by rw [e]; rfl, by rw [e]; rfl, List.all_eq_true.mpr fun z hz => ?_⟩
    obtain ⟨q, hq, rfl⟩ := List.mem_map.mp hz
    obtain ⟨a', b', e'⟩ := k.two q hq
    rw [e, e']
    rfl
/-- what a book of these bars says -/
structure BkOf (bs : List Bar) (kvs : Kvs) : Prop where
  ok : KvOk kvs bs.length
  get : ∀ h o (t : Int), 0 ≤ t → (t < bget kvs h o ↔ ∃ x ∈ bs, x.h = h ∧ x.o = o ∧ t < x.b)
  nn : ∀ h o, 0 ≤ bget kvs h o
def putB (kvs : Kvs) (x : Bar) : Kvs := if bget kvs x.h x.o < x.b then putI kvs [.inr x.h, .inr x.o] x.b else kvs
theorem bk_nil : BkOf [] [] := ⟨⟨by simp, by simp⟩, fun h o t ht => by simp [bget]; omega, fun h o => by simp [bget]⟩
theorem bk_snoc {bs : List Bar} {kvs : Kvs} (k : BkOf bs kvs) (x : Bar) : BkOf (bs ++ [x]) (putB kvs x) := by
  have n0 := k.nn x.h x.o
  unfold putB
  by_cases c : bget kvs x.h x.o < x.b
  · rw [if_pos c]
    refine ⟨by rw [List.length_append]; exact put_ok k.ok, fun h o t ht => ?_, fun h o => ?_⟩
    · rw [bget_put]
      by_cases e : x.h = h ∧ x.o = o
      · rw [if_pos e]
        obtain ⟨rfl, rfl⟩ := e
        constructor
        · intro z
          exact ⟨x, by simp, rfl, rfl, z⟩
        · rintro ⟨y, hy, e1, e2, z⟩
          rcases List.mem_append.mp hy with hy | hy
          · have := (k.get x.h x.o t ht).mpr ⟨y, hy, e1, e2, z⟩
            omega
          · rw [List.mem_singleton.mp hy] at z
            exact z
      · rw [if_neg e, k.get h o t ht]
        constructor
        · rintro ⟨y, hy, z⟩
          exact ⟨y, List.mem_append_left _ hy, z⟩
        · rintro ⟨y, hy, e1, e2, z⟩
          rcases List.mem_append.mp hy with hy | hy
          · exact ⟨y, hy, e1, e2, z⟩
          · rw [List.mem_singleton.mp hy] at e1 e2
            exact absurd ⟨e1, e2⟩ e
    · rw [bget_put]
      split
      · omega
      · exact k.nn h o
  · rw [if_neg c]
    refine ⟨⟨k.ok.two, by rw [List.length_append]; exact Nat.le_succ_of_le k.ok.len⟩, fun h o t ht => ?_, k.nn⟩
    rw [k.get h o t ht]
    constructor
    · rintro ⟨y, hy, z⟩
      exact ⟨y, List.mem_append_left _ hy, z⟩
    · rintro ⟨y, hy, e1, e2, z⟩
      rcases List.mem_append.mp hy with hy | hy
      · exact ⟨y, hy, e1, e2, z⟩
      · rw [List.mem_singleton.mp hy] at e1 e2 z
        subst e1 e2
        exact (k.get _ _ t ht).mp (by omega)
end
end DL.M
set_option Elab.async false
set_option linter.all false
set_option maxRecDepth 100000
set_option maxHeartbeats 1000000
/-! M17: the book computed: made, asked. -/
namespace DL.M
open PySem PySem.Spec L2 TK PySem.W
open PyProof.Rows hiding St
variable [CN]
variable {K : PySem.W.Frag} {C1 C2 : Addr}
section
variable {δ δ1 δ2 : List (SV (L59 K C1 C2))}
@[simp] theorem shr1_R {b c : Bool} : shr1 (L := L59 K C1 C2) (.own b (wR c)) = .un := nr rfl
theorem binit_step {bs : List Bar} {kvs : Kvs} {x : Bar} {s3 s4 s5 : SV (L59 K C1 C2)} (hl : kvs.length < 60) :
    (sIf (tst (eOp gGt (eVar 5) (thaw (eDGet (eVar 2) (eVar 3) (eVar 4))))) (sDPutN 2 3 4 5) (sNil)) [.own true (wR (K := K) (C1 := C1) (C2 := C2) false), .dv (.d (bsD bs)), .own false (wD kvs), .dv (.d (.str x.h)), .dv (.d (.str x.o)), .dv (.d (.int x.b))] = some (.nx, [.own true (wR false), .dv (.d (bsD bs)), .own false (wD (putB kvs x)), .dv (.d (.str x.h)), .dv (.d (.str x.o)), .dv (.d (.int x.b))]) := by
  by_cases c : bget kvs x.h x.o < x.b
  · simp [c, hl, putB]
  · simp [c, putB]
theorem binit_eq {bs : List Bar} (hl : bs.length < 59) : ∃ kvs, BkOf bs kvs ∧ F_binit (K := K) (C1 := C1) (C2 := C2) [.own true (wR false), .dv (.d (bsD bs))] = some (.dv (.d .none), some (wB kvs)) := by
  obtain ⟨δ', e, done, kvs, s3, s4, s5, ed, hk, eδ⟩ := sForN_inv (L := L59 K C1 C2) (u := (uTup 3 (usCons (uName 3) (usCons (uName 4) (usCons (uName 5) (usNil)))))) (b := (sIf (tst (eOp gGt (eVar 5) (thaw (eDGet (eVar 2) (eVar 3) (eVar 4))))) (sDPutN 2 3 4 5) (sNil))) (inj := fun x => DV.d (barD x))
    (I := fun r δ => ∃ (done : List Bar) (kvs : Kvs) (s3 s4 s5 : SV (L59 K C1 C2)), done ++ r = bs ∧ BkOf done kvs ∧ δ = [.own true (wR false), .dv (.d (bsD bs)), .own false (wD kvs), s3, s4, s5]) bs
    [.own true (wR false), .dv (.d (bsD bs)), .own false (wD []), .un, .un, .un] ⟨[], [], _, _, _, rfl, bk_nil, rfl⟩ fun x r δ ⟨done, kvs, s3, s4, s5, ed, hk, eδ⟩ => by
      subst eδ
      have hd : kvs.length < 60 := by
        have := congrArg List.length ed
        rw [List.length_append, List.length_cons] at this
        have := hk.ok.len
        omega
      exact ⟨[.own true (wR false), .dv (.d (bsD bs)), .own false (wD kvs), .dv (.d (.str x.h)), .dv (.d (.str x.o)), .dv (.d (.int x.b))], _, by simp [barD], binit_step (s3 := s3) (s4 := s4) (s5 := s5) hd, done ++ [x], putB kvs x, _, _, _, by simp [ed], bk_snoc hk x, rfl⟩
  rw [List.append_nil] at ed
  subst ed eδ
  refine ⟨kvs, hk, ?_⟩
  have el : (done.map barD).map (DV.d (L := L59 K C1 C2)) = done.map fun x => DV.d (barD x) := by rw [List.map_map]; rfl
  have ek : sKept 2 3 4 [3, 4] [.own true (wH kvs), .dv (.d (bsD done)), .dv (.ob (oD (K := K) (C1 := C1) (C2 := C2) kvs)), s3, s4, s5] = some (.nx, [.own true (wB kvs), .dv (.d (bsD done)), .dv (.ob (oD kvs)), s3, s4, s5]) := by
    rw [sKept_eq (kvs := kvs) rfl rfl ⟨okB_ok ⟨hk.ok.two, by have := hk.ok.len; omega⟩, by decide, by decide, by decide, by decide, by simp, by simp⟩]
    rfl
  simp only [bsD] at e ek
  simp [F_binit, fnD_k, B_binit, kFo_s, bsD, el, e, ek]
def conB (kvs : Kvs) (n : Nm) : Bool := !decide (n.o = "") && decide (n.k < bget kvs n.h n.o)
theorem con_hit {bs : List Bar} {kvs : Kvs} (k : BkOf bs kvs) (hb : ∀ x ∈ bs, BarOk x) {n : Nm} (hn : NmOk n) : conB kvs n = hitB bs n := by
  rw [Bool.eq_iff_iff]
  unfold conB hitB
  rw [Bool.and_eq_true, List.any_eq_true]
  simp only [Bool.not_eq_true', decide_eq_false_iff_not, decide_eq_true_eq]
  rw [k.get n.h n.o n.k hn.1]
  constructor
  · rintro ⟨_, x, hx, e1, e2, z⟩
    exact ⟨x, hx, by simp [hit1, e1, e2, z]⟩
  · rintro ⟨x, hx, z⟩
    simp [hit1] at z
    exact ⟨fun e => (hb x hx).2.2 (by rw [z.2.1, e]), x, hx, z⟩
theorem contains_eq {kvs : Kvs} {n : Nm} (hn : NmOk n) : F_contains (K := K) (C1 := C1) (C2 := C2) [.dv (.ob (oB kvs)), .dv (.d (nmD n))] = some (.dv (.d (.bool (conB kvs n))), none) := by
  have en := gNe_s hn.2.2 ok_e
  by_cases c : n.o = ""
  · rw [decide_eq_true c] at en
    have hh : conB kvs n = false := by simp [conB, c]
    simp [F_contains, fnD_k, B_contains, nmD, en, hh]
  · rw [decide_eq_false c] at en
    have hh : conB kvs n = decide (n.k < bget kvs n.h n.o) := by simp [conB, c]
    simp [F_contains, fnD_k, B_contains, nmD, en, hh]
theorem struck_eq {bs : List Bar} {kvs : Kvs} (k : BkOf bs kvs) (hb : ∀ x ∈ bs, BarOk x) {ns : List Nm} (hn : ∀ n ∈ ns, NmOk n) (hl : ns.length < 63) :
    F_struck (K := K) (C1 := C1) (C2 := C2) [.dv (.ob (oB kvs)), .dv (.d (nsD ns))] = some (.own (.lst ((srtN (ns.filter (hitB bs))).map nmD)), none) := by
  have ef := lcN_filter (L := L59 K C1 C2) (δ := [.dv (.ob (oB kvs)), .dv (.d (nsD ns)), .un]) (vs := [2]) (u := uName 2) (c := (tst (eInC isB F_contains (eVar 2) (eVar 0)))) (f := (eVar 2)) (inj := fun p => DV.d (nmD p)) (g := nmD) (p := hitB bs) ns [] fun x hx => by
    have ec := contains_eq (K := K) (C1 := C1) (C2 := C2) (kvs := kvs) (hn x hx)
    rw [con_hit k hb (hn x hx)] at ec
    exact ⟨[.dv (.ob (oB kvs)), .dv (.d (nsD ns)), .dv (.d (nmD x))], [.dv (.ob (oB kvs)), .dv (.d (nsD ns)), .dv (.d (nmD x))], by simp, by simp [ec], fun h => ⟨[.dv (.ob (oB kvs)), .dv (.d (nsD ns)), .dv (.d (nmD x))], by simp, by simp⟩, fun h => by simp⟩
  rw [List.nil_append] at ef
  have em : (ns.map nmD).map (DV.d (L := L59 K C1 C2)) = ns.map fun p => DV.d (nmD p) := by rw [List.map_map]; rfl
  have ok := okK_nm (ns.filter (hitB bs))
  have es := sortK_nm (ns.filter (hitB bs))
  obtain ⟨rs, ers⟩ : ∃ rs, rs = (ns.filter (hitB bs)).map nmD := ⟨_, rfl⟩
  rw [← ers] at ef es ok
  simp only [nsD] at ef
  simp [F_struck, fnD_k, B_struck, kSC1_s, nsD, em, hl, ef, ok, es]
def kTB (δ : List (SV (L59 K C1 C2))) : OE (L59 K C1 C2) → OE (L59 K C1 C2)
  | some (.dv (.ob o), _) => if isB o = true ∧ noRes δ = true then some (.dv (.ob o), δ) else none
  | _ => none
@[simp] theorem eThB_k {f : Ev (L59 K C1 C2)} : eThB f δ = kTB δ (f (δ.map shr1)) := nr rfl
@[simp] theorem kTB_s {o : (L59 K C1 C2).Ob} : kTB δ (some (.dv (.ob o), δ1)) = if isB o = true ∧ noRes δ = true then some (.dv (.ob o), δ) else none := nr rfl
@[simp] theorem noRes_nil : noRes (K := K) (C1 := C1) (C2 := C2) [] = true := nr rfl
@[simp] theorem noRes_dv {d : DV (L59 K C1 C2)} : noRes (.dv d :: δ) = noRes δ := nr rfl
@[simp] theorem noRes_un : noRes (.un :: δ) = noRes δ := nr rfl
@[simp] theorem noRes_lst {b : Bool} {ds : List PD} : noRes (.own b (.lst ds) :: δ) = noRes δ := nr rfl
def kFz {L : Lang} : OE L → OE L
  | some (.own (.res w), δ') => match L.shr w with
    | some k => some (.dv (.ob k), δ')
    | none => none
  | _ => none
@[simp] theorem eFrz_k {L : Lang} {δ : List (SV L)} {f : Ev L} : eFrz f δ = kFz (f δ) := nr rfl
def kMR (b : Bool) (F : Fn (L59 K C1 C2)) (x : OA (L59 K C1 C2)) : OE (L59 K C1 C2) := kMO1 (L := L59 K C1 C2) (Ow59.raw b) F x
@[simp] theorem eMkO_R {b : Bool} {F : Fn (L59 K C1 C2)} {fa : Ea (L59 K C1 C2)} : eMkO (L := L59 K C1 C2) (Ow59.raw b) F fa δ = kMR b F (fa δ) := nr (eMkO_k (L := L59 K C1 C2))
@[simp] theorem kMR_s {b : Bool} {F : Fn (L59 K C1 C2)} {ds : List (DV (L59 K C1 C2))} : kMR b F (some (ds, δ)) = kMO2 δ (F (.own true (wR b) :: ds.map SV.dv)) := nr (kMO1_s (L := L59 K C1 C2))
@[simp] theorem kFz_B {kvs : Kvs} : kFz (some (.own (wB kvs), δ)) = some (.dv (.ob (oB kvs)), δ) := nr rfl
theorem law_book_eq {bs : List Bar} (hl : bs.length < 59) : ∃ kvs, BkOf bs kvs ∧ F_law_book (K := K) (C1 := C1) (C2 := C2) [.dv (.d (bsD bs))] = some (.dv (.ob (oB kvs)), none) := by
  obtain ⟨kvs, k, e⟩ := binit_eq (K := K) (C1 := C1) (C2 := C2) hl
  refine ⟨kvs, k, ?_⟩
  have e' := e
  simp only [bsD] at e'
  have h9 : bs.length < 100000 := by omega
  simp [F_law_book, fnD_k, B_law_book, bsD, e', h9]
end
end DL.M
set_option Elab.async false
set_option linter.all false
set_option maxRecDepth 100000
set_option maxHeartbeats 1000000
/-! M18: what a strike takes from a paper: gone, readings, freed. -/
namespace DL.M
open PySem PySem.Spec L2 TK PySem.W
open PyProof.Rows hiding St
variable [CN]
variable {K : PySem.W.Frag} {C1 C2 : Addr}
section
variable {L : Lang}
def BsOk (bs : List Bar) : Prop := (∀ x ∈ bs, BarOk x) ∧ bs.length < 50
noncomputable def gone (bs : List Bar) (q : P3) : List Nm := (srtN q.names).filter (hitB bs)
theorem gone_srt (bs : List Bar) (q : P3) : (gone bs q).Pairwise nlt := (srtN_srt q.names).filter _
theorem gone_mem {bs : List Bar} {q : P3} {n : Nm} : n ∈ gone bs q ↔ n ∈ q.names ∧ hitB bs n = true := by
  unfold gone
  rw [List.mem_filter, srtN_mem]
theorem srt_self {a : List Nm} (h : a.Pairwise nlt) : srtN a = a := srt_uniq (srtN_srt a) h fun x => srtN_mem x
theorem gone_ok {bs : List Bar} {q : P3} (h : GP q) : ∀ n ∈ gone bs q, NmOk n := fun n hn => h.nm n (gone_mem.mp hn).1
theorem GP.without {q : P3} (h : GP q) (x : List Nm) : GP (q.without x) where
  ok := Pap.ok_without q x h.ok
  nm := fun n hn => h.nm n (Pap.names_without q x hn).1
  dp := Nat.le_trans (Pap.depth_without q x) h.dp
  sz := Nat.le_trans (Pap.size_without q x) h.sz
  wd := Nat.le_trans (srt_len (srtN_srt _) fun n hn => (srtN_mem n).mpr (Pap.names_without q x ((srtN_mem n).mp hn)).1) h.wd
theorem law_gone_eq {bs : List Bar} {q : P3} (hb : BsOk bs) (h : GP q) : F_law_gone (L := L) [.dv (.d (papD q)), .dv (.d (bsD bs))] = some (.own (.lst ((gone bs q).map nmD)), none) := by
  have ei := inside13 (L := L) h
  have ef := lcN_filter (L := L) (δ := [.dv (.d (papD q)), .dv (.d (bsD bs)), .un]) (vs := [2]) (u := uName 2) (c := (tst (eCall (F_law_hit) (aCons (eVar 1) (aCons (eVar 2) (aNil)))))) (f := (eVar 2)) (inj := fun p => DV.d (nmD p)) (g := nmD) (p := hitB bs) (srtN q.names) [] fun x hx => by
    have ec := hit_eq (L := L) hb.1 (h.nm x ((srtN_mem x).mp hx))
    exact ⟨[.dv (.d (papD q)), .dv (.d (bsD bs)), .dv (.d (nmD x))], [.dv (.d (papD q)), .dv (.d (bsD bs)), .dv (.d (nmD x))], by simp, by simp [ec], fun h => ⟨[.dv (.d (papD q)), .dv (.d (bsD bs)), .dv (.d (nmD x))], by simp, by simp⟩, fun h => by simp⟩
  rw [List.nil_append] at ef
  have em : ((srtN q.names).map nmD).map (DV.d (L := L)) = (srtN q.names).map fun p => DV.d (nmD p) := by rw [List.map_map]; rfl
  have hl : (srtN q.names).length ≤ 100000 := by have := h.wd; omega
  have eg : (srtN q.names).filter (hitB bs) = gone bs q := rfl
  rw [eg] at ef
  simp [F_law_gone, fnD_k, B_law_gone, ei, kLc1_s, em, hl, ef]
theorem gone_len {bs : List Bar} {q : P3} (h : GP q) : (gone bs q).length ≤ 10 := Nat.le_trans (List.length_filter_le ..) h.wd
noncomputable def dif (bs : List Bar) (q : P3) : Bool := !decide (q.read (gone bs q) = q.read [])
theorem struck_gone {bs : List Bar} {kvs : Kvs} (k : BkOf bs kvs) (hb : BsOk bs) {q : P3} (h : GP q) :
    F_struck (K := K) (C1 := C1) (C2 := C2) [.dv (.ob (oB kvs)), .dv (.d (.list ((srtN q.names).map nmD)))] = some (.own (.lst ((gone bs q).map nmD)), none) := by
  have e := struck_eq (K := K) (C1 := C1) (C2 := C2) k hb.1 (ns := srtN q.names) (fun n hn => h.nm n ((srtN_mem n).mp hn)) (by have := h.wd; omega)
  rw [show (srtN q.names).filter (hitB bs) = gone bs q from rfl, srt_self (gone_srt bs q)] at e
  exact e
noncomputable def trD (bs : List Bar) (q : P3) : PD := .tuple [vD (q.read []), vD (q.read (gone bs q))]
theorem two_eq {bs : List Bar} {kvs : Kvs} (k : BkOf bs kvs) (hb : BsOk bs) {q : P3} (h : GP q) :
    F_two_readings (K := K) (C1 := C1) (C2 := C2) [.dv (.d (papD q)), .dv (.ob (oB kvs))] = some (.dv (.d (trD bs q)), none) := by
  have e1 := read_eq (L := L59 K C1 C2) nsC_t h.nm (by have := h.dp; omega)
  have e2 := names_in_eq (L := L59 K C1 C2) h.sz
  have e3 := struck_gone (K := K) (C1 := C1) (C2 := C2) k hb h
  have e4 := read_eq (L := L59 K C1 C2) (nsC_l (gone_ok (bs := bs) h)) h.nm (by have := h.dp; omega)
  simp only [nsD] at e4
  simp [F_two_readings, fnD_k, B_two_readings, e1, e2, e3, e4, trD]
theorem freed_eq {bs : List Bar} {kvs : Kvs} (k : BkOf bs kvs) (hb : BsOk bs) {q : P3} (h : GP q) :
    F_freed (K := K) (C1 := C1) (C2 := C2) [.dv (.d (papD q)), .dv (.ob (oB kvs))] = some (.dv (.d (papD (q.without (gone bs q)))), none) := by
  have e2 := names_in_eq (L := L59 K C1 C2) h.sz
  have e3 := struck_gone (K := K) (C1 := C1) (C2 := C2) k hb h
  have e4 := without_eq (L := L59 K C1 C2) (nsC_l (gone_ok (bs := bs) h)) q 12 (by have := h.dp; omega) (by have := h.dp; omega) h.nm
  simp only [nsD] at e4
  simp [F_freed, fnD_k, B_freed, e2, e3, e4]
theorem gNe_v (a b : Option Int) : gNe (vD a) (vD b) = some (.bool (!decide (a = b))) := by rw [gNe_eq (shaped_v a) (shaped_v b), eqv_v]
/-! ### the law's own freed paper -/
noncomputable def left (bs : List Bar) (q : P3) : List Nm := (srtN q.names).filter fun n => !decide (n ∈ gone bs q)
theorem left_srt (bs : List Bar) (q : P3) : (left bs q).Pairwise nlt := (srtN_srt q.names).filter _
theorem left_mem {bs : List Bar} {q : P3} {n : Nm} : n ∈ left bs q ↔ n ∈ q.names ∧ n ∉ gone bs q := by
  unfold left
  rw [List.mem_filter, srtN_mem]
  simp
/-- a filter whose turns may change the frame -/
theorem lcN_filterI {A : Type} {vs : List Nat} {u : Eg L} {c : Et L} {f : Ev L} {inj : A → DV L} {g : A → PD} {p : A → Bool} {I : List (SV L) → Prop} : ∀ (xs : List A) (δ : List (SV L)) (acc : List PD), I δ → (∀ x ∈ xs, ∀ δ, I δ → ∃ δ1 δ2, u (inj x) δ = some δ1 ∧ c δ1 = some (p x, δ2) ∧ (p x = true → ∃ δ3, frz f δ2 = some (.d (g x), δ3) ∧ I (wipeD δ3 vs)) ∧ (p x = false → I (wipeD δ2 vs))) →
    ∃ δ', lcN vs u c f (xs.map inj) δ acc = some (acc ++ (xs.filter p).map g, δ') ∧ I δ'
  | [], δ, acc, hI, _ => ⟨δ, by rw [List.map_nil, List.filter_nil, List.map_nil, List.append_nil]; rfl, hI⟩
  | x :: xs, δ, acc, hI, h => by
    obtain ⟨δ1, δ2, h1, h2, h3, h4⟩ := h x List.mem_cons_self δ hI
    have ih := fun δ acc hI => lcN_filterI (inj := inj) (g := g) (p := p) (I := I) xs δ acc hI fun y hy => h y (List.mem_cons_of_mem _ hy)
    rw [List.map_cons]
    unfold lcN
    rw [h1]
    dsimp only
    rw [h2]
    cases hp : p x with
    | true =>
      obtain ⟨δ3, h5, h6⟩ := h3 hp
      dsimp only
      rw [h5]
      dsimp only
      obtain ⟨δ', e, i⟩ := ih (wipeD δ3 vs) (acc ++ [g x]) h6
      refine ⟨δ', ?_, i⟩
      rw [e, List.filter_cons_of_pos hp, List.map_cons, List.append_assoc]
      rfl
    | false =>
      dsimp only
      obtain ⟨δ', e, i⟩ := ih (wipeD δ2 vs) acc (h4 hp)
      refine ⟨δ', ?_, i⟩
      rw [e, List.filter_cons_of_neg (by rw [hp]; decide)]
/-- a list that may have been read -/
def Fz (s : SV L) (ds : List PD) : Prop := s = .own false (.lst ds) ∨ s = .dv (.d (.list ds))
theorem law_freed_eq {bs : List Bar} (hb : BsOk bs) {q : P3} (h : GP q) : F_law_freed (L := L) [.dv (.d (papD q)), .dv (.d (bsD bs))] = some (.dv (.d (papD (q.without (gone bs q)))), none) := by
  have eg := law_gone_eq (L := L) hb h
  have ei := inside13 (L := L) h
  have hlk : ∀ n ∈ left bs q, NmOk n := fun n hn => h.nm n (left_mem.mp hn).1
  have hll : (left bs q).length ≤ 10 := Nat.le_trans (List.length_filter_le ..) h.wd
  obtain ⟨δ', ef, s2, hz, eδ⟩ := lcN_filterI (L := L) (vs := [5]) (u := uName 5) (c := (tst (eOp gNotInX (eVar 5) (eVar 2)))) (f := (eVar 5)) (inj := fun p => DV.d (nmD p)) (g := nmD) (p := fun n => !decide (n ∈ gone bs q)) (I := fun δ => ∃ s2 : SV L, Fz s2 ((gone bs q).map nmD) ∧ δ = [.dv (.d (papD q)), .dv (.d (bsD bs)), s2, .un, .un, .un, .un]) (srtN q.names)
    [.dv (.d (papD q)), .dv (.d (bsD bs)), .own false (.lst ((gone bs q).map nmD)), .un, .un, .un, .un] [] ⟨_, .inl rfl, rfl⟩ fun x hx δ ⟨s2, hz, eδ⟩ => by
      subst eδ
      have ec := gNotInX_nm (nsC_l (gone_ok (bs := bs) h)) (h.nm x ((srtN_mem x).mp hx))
      simp only [nsD] at ec
      refine ⟨[.dv (.d (papD q)), .dv (.d (bsD bs)), s2, .un, .un, .dv (.d (nmD x)), .un], [.dv (.d (papD q)), .dv (.d (bsD bs)), .dv (.d (.list ((gone bs q).map nmD))), .un, .un, .dv (.d (nmD x)), .un], by simp, ?_, fun h => ⟨[.dv (.d (papD q)), .dv (.d (bsD bs)), .dv (.d (.list ((gone bs q).map nmD))), .un, .un, .dv (.d (nmD x)), .un], by simp, _, .inr rfl, by simp⟩, fun h => ⟨_, .inr rfl, by simp⟩⟩
      rcases hz with rfl | rfl <;> simp [ec]
  subst eδ
  have el : (srtN q.names).filter (fun n => !decide (n ∈ gone bs q)) = left bs q := rfl
  rw [List.nil_append, el] at ef
  have em : ((srtN q.names).map nmD).map (DV.d (L := L)) = (srtN q.names).map fun p => DV.d (nmD p) := by rw [List.map_map]; rfl
  have hl : (srtN q.names).length ≤ 100000 := by have := h.wd; omega
  -- row
  have ec := choices_eq (L := L) (left bs q) (by omega)
  obtain ⟨δ', er, s2', hz', eδ⟩ := lcN_filterI (L := L) (vs := [6]) (u := uName 6) (c := cYes) (f := (eCall (F_law_read) (aCons (eVar 0) (aCons (eOpL gCat (eVar 2) (eVar 6)) (aNil))))) (inj := fun c => DV.d (nsD c)) (g := fun c => vD (q.read (gone bs q ++ c))) (p := fun _ => true) (I := fun δ => ∃ s2 : SV L, Fz s2 ((gone bs q).map nmD) ∧ δ = [.dv (.d (papD q)), .dv (.d (bsD bs)), s2, .dv (.d (nsD (left bs q))), .un, .un, .un]) (chs (left bs q).reverse)
    [.dv (.d (papD q)), .dv (.d (bsD bs)), s2, .dv (.d (nsD (left bs q))), .un, .un, .un] [] ⟨_, hz, rfl⟩ fun c hc δ ⟨s2, hz, eδ⟩ => by
    subst eδ
    have hs := chs_sub _ hc
    have hk : ∀ n ∈ gone bs q ++ c, NmOk n := fun n hn => by
      rcases List.mem_append.mp hn with z | z
      · exact gone_ok h n z
      · exact hlk n (List.mem_reverse.mp (hs.1 n z))
    have e4 := lread_eq (L := L) (nsC_l hk) h.nm h.dp
    have hg := gone_len (bs := bs) h
    have h2 := hs.2
    rw [List.length_reverse] at h2
    have e5 : gCat (.list ((gone bs q).map nmD)) (nsD c) = some ((gone bs q ++ c).map nmD) := by
      unfold nsD
      rw [gCat_eq (by simp; omega), List.map_append]
    have e4' : F_law_read (L := L) [.dv (.d (papD q)), .dv (.d (.list ((gone bs q ++ c).map nmD)))] = some (.dv (.d (vD (q.read (gone bs q ++ c)))), none) := e4
    obtain ⟨gc, egc⟩ : ∃ gc, gc = (gone bs q ++ c).map nmD := ⟨_, rfl⟩
    rw [← egc] at e5 e4'
    refine ⟨[.dv (.d (papD q)), .dv (.d (bsD bs)), s2, .dv (.d (nsD (left bs q))), .un, .un, .dv (.d (nsD c))], [.dv (.d (papD q)), .dv (.d (bsD bs)), s2, .dv (.d (nsD (left bs q))), .un, .un, .dv (.d (nsD c))], by simp, by simp, fun _ => ⟨[.dv (.d (papD q)), .dv (.d (bsD bs)), .dv (.d (.list ((gone bs q).map nmD))), .dv (.d (nsD (left bs q))), .un, .un, .dv (.d (nsD c))], ?_, _, .inr rfl, by simp⟩, fun h => absurd h (by simp)⟩
    rcases hz with rfl | rfl <;> simp [e5, e4']
  subst eδ
  rw [List.nil_append, List.filter_eq_self.mpr (by simp)] at er
  have emc : ((chs (left bs q).reverse).map nsD).map (DV.d (L := L)) = (chs (left bs q).reverse).map fun c => DV.d (nsD c) := by rw [List.map_map]; rfl
  have hp : 2 ^ (left bs q).length ≤ 2 ^ 10 := Nat.pow_le_pow_right (by decide) hll
  have hlc : (chs (left bs q).reverse).length ≤ 100000 := by
    rw [chs_len, List.length_reverse]
    have : (2 : Nat) ^ 10 = 1024 := by decide
    omega
  -- fold
  obtain ⟨row, erow⟩ : ∃ row, row = (chs (left bs q).reverse).map fun c => q.read (gone bs q ++ c) := ⟨_, rfl⟩
  have ero : (chs (left bs q).reverse).map (fun c => vD (q.read (gone bs q ++ c))) = row.map vD := by rw [erow, List.map_map]; rfl
  rw [ero] at er
  have e8 := fold_eq (L := L) (left bs q).reverse row 12 (by rw [List.length_reverse]; omega) (by rw [List.length_reverse]; omega) (by rw [erow, List.length_map, chs_len]) (List.pairwise_reverse.mpr (left_srt bs q)) fun m hm => hlk m (List.mem_reverse.mp hm)
  rw [List.reverse_reverse] at e8
  have e9 : rf (left bs q).reverse row = q.without (gone bs q) := by
    rw [erow, rf_fold]
    exact Pap.fold_without nlt_irr nlt_tr (List.pairwise_reverse.mpr (left_srt bs q)) h.ok fun m hm hx => List.mem_reverse.mpr (left_mem.mpr ⟨hm, hx⟩)
  rw [e9] at e8
  simp only [nsD, rowD] at ef er ec e8
  simp only [nsD] at emc
  simp [F_law_freed, fnD_k, B_law_freed, eg, ei, kLc1_s, em, hl, ef, ec, emc, hlc, er, e8]
end
end DL.M
set_option Elab.async false
set_option linter.all false
set_option maxRecDepth 100000
set_option maxHeartbeats 1000000
/-! M19: stale and hanging, by the program and by the law; the notes. -/
namespace DL.M
open PySem PySem.Spec L2 TK PySem.W
open PyProof.Rows hiding St
variable [CN]
variable {K : PySem.W.Frag} {C1 C2 : Addr}
section
variable {L : Lang}
def ksD (qs : List P3) : List PD := qs.map papD
def ixD (p : P3 × Nat) : PD := .int (p.2 : Nat)
noncomputable def staleD (bs : List Bar) (qs : List P3) : List PD := (qs.zipIdx.filter fun p => dif bs p.1).map ixD
noncomputable def hang (bs : List Bar) (q : P3) : Bool := !decide (gone bs q = [])
noncomputable def hangD (bs : List Bar) (qs : List P3) : List PD := (qs.zipIdx.filter fun p => hang bs p.1).map ixD
def QsOk (qs : List P3) : Prop := (∀ q ∈ qs, GP q) ∧ qs.length < 500
theorem nums_zip (qs : List P3) : nums (L := L) 0 qs.length = qs.zipIdx.map fun p => DV.d (ixD p) := by
  unfold nums
  rw [List.zipIdx_eq_zip_range', ← List.range_eq_range']
  apply List.ext_getElem
  · simp
  · intro i h1 h2
    simp [ixD]
theorem zip_mem {qs : List P3} {p : P3 × Nat} (h : p ∈ qs.zipIdx) : qs[p.2]? = some p.1 := by
  obtain ⟨q, i⟩ := p
  exact List.mem_zipIdx_iff_getElem?.mp h
theorem zip_at {qs : List P3} {p : P3 × Nat} (h : p ∈ qs.zipIdx) : atI (ksD qs) ((p.2 : Nat) : Int) = some (papD p.1) := by
  rw [atI_nat]
  unfold ksD
  rw [List.getElem?_map, zip_mem h]
  rfl
theorem zip_gp {qs : List P3} (hq : QsOk qs) {p : P3 × Nat} (h : p ∈ qs.zipIdx) : GP p.1 := hq.1 _ (List.mem_of_getElem? (zip_mem h))
theorem law_stale_eq {bs : List Bar} {qs : List P3} (hb : BsOk bs) (hq : QsOk qs) : F_law_stale (L := L) [.dv (.d (.list (ksD qs))), .dv (.d (bsD bs))] = some (.own (.lst (staleD bs qs)), none) := by
  obtain ⟨δ', e, done, s3, s4, ed, eδ⟩ := sForN_inv (L := L) (u := uName 3) (b := (sSeq (sSet 4 (eCall (F_law_gone) (aCons (eOp gIx (eVar 0) (eVar 3)) (aCons (eVar 1) (aNil))))) (sIf (tst (eOp gNe (eCall (F_law_read) (aCons (eOp gIx (eVar 0) (eVar 3)) (aCons (eVar 4) (aNil)))) (eCall (F_law_read) (aCons (eOp gIx (eVar 0) (eVar 3)) (aCons (eLst (aNil)) (aNil)))))) (sApp 2 (eVar 3)) (sNil)))) (inj := fun p => DV.d (ixD p))
    (I := fun r δ => ∃ (done : List (P3 × Nat)) (s3 s4 : SV L), done ++ r = qs.zipIdx ∧ δ = [.dv (.d (.list (ksD qs))), .dv (.d (bsD bs)), .own false (.lst ((done.filter fun p => dif bs p.1).map ixD)), s3, s4]) qs.zipIdx
    [.dv (.d (.list (ksD qs))), .dv (.d (bsD bs)), .own false (.lst []), .un, .un] ⟨[], _, _, rfl, rfl⟩ fun x r δ ⟨done, s3, s4, ed, eδ⟩ => by
      subst eδ
      have hx : x ∈ qs.zipIdx := by rw [← ed]; simp
      have g := zip_gp hq hx
      have hl : ((done.filter fun p => dif bs p.1).map ixD).length < 100000 := by
        have h1 := congrArg List.length ed
        rw [List.length_append, List.length_zipIdx] at h1
        have h2 : (done.filter fun p => dif bs p.1).length ≤ done.length := List.length_filter_le ..
        have h3 := hq.2
        rw [List.length_map]
        omega
      have e1 := zip_at hx
      have e2 := law_gone_eq (L := L) hb g
      have e3 := lread_eq (L := L) (nsC_l (gone_ok (bs := bs) g)) g.nm g.dp
      have e4 := lread_eq (L := L) (nsC_l (x := []) (by simp)) g.nm g.dp
      have e5 := gNe_v (x.1.read (gone bs x.1)) (x.1.read [])
      simp only [nsD, List.map_nil] at e3 e4
      refine ⟨[.dv (.d (.list (ksD qs))), .dv (.d (bsD bs)), .own false (.lst ((done.filter fun p => dif bs p.1).map ixD)), .dv (.d (ixD x)), s4],
        [.dv (.d (.list (ksD qs))), .dv (.d (bsD bs)), .own false (.lst (((done ++ [x]).filter fun p => dif bs p.1).map ixD)), .dv (.d (ixD x)), .dv (.d (.list ((gone bs x.1).map nmD)))], by simp, ?_, done ++ [x], _, _, by simp [ed], rfl⟩
      obtain ⟨acc, eacc⟩ : ∃ acc, acc = (done.filter fun p => dif bs p.1).map ixD := ⟨_, rfl⟩
      rw [List.filter_append, List.map_append, ← eacc]
      rw [← eacc] at hl
      by_cases c : x.1.read (gone bs x.1) = x.1.read []
      · have hd : dif bs x.1 = false := by simp [dif, c]
        rw [decide_eq_true c] at e5
        simp [ixD, e1, e2, e3, e4, e5, hd]
      · have hd : dif bs x.1 = true := by simp [dif, c]
        rw [decide_eq_false c] at e5
        simp [ixD, e1, e2, e3, e4, e5, hd, hl]
  rw [List.append_nil] at ed
  subst ed eδ
  have hr := kR1_j (L := L) (δ := [.dv (.d (.list (ksD qs))), .dv (.d (bsD bs)), .own false (.lst []), .un, .un]) (j := (qs.length : Int)) (by omega) (by have := hq.2; omega)
  rw [Int.toNat_natCast, nums_zip] at hr
  have hk : (ksD qs).length = qs.length := by unfold ksD; rw [List.length_map]
  simp [F_law_stale, fnD_k, B_law_stale, hk, hr, kFo_s, e, staleD]
theorem law_hanging_eq {bs : List Bar} {qs : List P3} (hb : BsOk bs) (hq : QsOk qs) : F_law_hanging (L := L) [.dv (.d (.list (ksD qs))), .dv (.d (bsD bs))] = some (.own (.lst (hangD bs qs)), none) := by
  have ef := lcN_filter (L := L) (δ := [.dv (.d (.list (ksD qs))), .dv (.d (bsD bs)), .un]) (vs := [2]) (u := uName 2) (c := (tst (eOp gNe (eCall (F_law_gone) (aCons (eOp gIx (eVar 0) (eVar 2)) (aCons (eVar 1) (aNil)))) (eLst (aNil))))) (f := (eVar 2)) (inj := fun p => DV.d (ixD p)) (g := ixD) (p := fun p => hang bs p.1) qs.zipIdx [] fun x hx => by
    have g := zip_gp hq hx
    have e1 := zip_at hx
    have e2 := law_gone_eq (L := L) hb g
    have e3 : gNe (.list ((gone bs x.1).map nmD)) (.list []) = some (.bool (!decide (gone bs x.1 = []))) := by
      have := gNe_eq (shaped_nms (gone_ok (bs := bs) g)) shaped_nil
      rw [eqv_nsD_nil] at this
      exact this
    exact ⟨[.dv (.d (.list (ksD qs))), .dv (.d (bsD bs)), .dv (.d (ixD x))], [.dv (.d (.list (ksD qs))), .dv (.d (bsD bs)), .dv (.d (ixD x))], by simp, by simp [ixD, e1, e2, e3, hang], fun h => ⟨[.dv (.d (.list (ksD qs))), .dv (.d (bsD bs)), .dv (.d (ixD x))], by simp, by simp⟩, fun h => by simp⟩
  rw [List.nil_append] at ef
  have hr := kR1_j (L := L) (δ := [.dv (.d (.list (ksD qs))), .dv (.d (bsD bs)), .un]) (j := (qs.length : Int)) (by omega) (by have := hq.2; omega)
  rw [Int.toNat_natCast, nums_zip] at hr
  have hk : (ksD qs).length = qs.length := by unfold ksD; rw [List.length_map]
  have hl : qs.length ≤ 100000 := by have := hq.2; omega
  simp [F_law_hanging, fnD_k, B_law_hanging, hk, hr, kLc1_s, hl, ef, hangD]
theorem zipIdx_map' (f : P3 → PD) (g : PD × Nat → DV L) : ∀ (qs : List P3) (k : Nat), ((qs.map f).zipIdx k).map g = (qs.zipIdx k).map fun p => g (f p.1, p.2)
  | [], _ => rfl
  | q :: r, k => by rw [List.map_cons, List.zipIdx_cons, List.zipIdx_cons, List.map_cons, List.map_cons, zipIdx_map' f g r (k + 1)]
end
theorem stale_eq {bs : List Bar} {kvs : Kvs} (k : BkOf bs kvs) {qs : List P3} (hb : BsOk bs) (hq : QsOk qs) :
    F_stale (K := K) (C1 := C1) (C2 := C2) [.dv (.ob (oN (ksD qs))), .dv (.ob (oB kvs))] = some (.own (.lst (staleD bs qs)), none) := by
  obtain ⟨N, eN⟩ : ∃ N, N = DV.ob (L := L59 K C1 C2) (oN (ksD qs)) := ⟨_, rfl⟩
  obtain ⟨B, eB⟩ : ∃ B, B = DV.ob (L := L59 K C1 C2) (oB kvs) := ⟨_, rfl⟩
  have e1 := lcN_map (L := L59 K C1 C2) (δ := [.dv (.ob (oN (ksD qs))), .dv (.ob (oB kvs)), .un, .un, .un, .un, .un]) (vs := [3]) (u := uName 3) (c := cYes) (f := (eCall (F_two_readings) (aCons (eVar 3) (aCons (eVar 1) (aNil))))) (inj := fun p => DV.d (papD p)) (g := trD bs) qs [] fun x hx => by
    have e2 := two_eq (K := K) (C1 := C1) (C2 := C2) k hb (hq.1 x hx)
    exact ⟨[.dv (.ob (oN (ksD qs))), .dv (.ob (oB kvs)), .un, .dv (.d (papD x)), .un, .un, .un], [.dv (.ob (oN (ksD qs))), .dv (.ob (oB kvs)), .un, .dv (.d (papD x)), .un, .un, .un], [.dv (.ob (oN (ksD qs))), .dv (.ob (oB kvs)), .un, .dv (.d (papD x)), .un, .un, .un], by simp, by simp, by simp [e2], by simp⟩
  rw [List.nil_append] at e1
  have em : (ksD qs).map (DV.d (L := L59 K C1 C2)) = qs.map fun p => DV.d (papD p) := by unfold ksD; rw [List.map_map]; rfl
  obtain ⟨ts, ets⟩ : ∃ ts, ts = qs.map (trD bs) := ⟨_, rfl⟩
  have ez := zipIdx_map' (L := L59 K C1 C2) (trD bs) (fun p => DV.d (.tuple [.int (p.2 : Nat), p.1])) qs 0
  rw [← ets] at e1 ez
  have e2 := lcN_filter (L := L59 K C1 C2) (δ := [.dv (.ob (oN (ksD qs))), .dv (.ob (oB kvs)), .dv (.d (.list ts)), .un, .un, .un, .un]) (vs := [4, 5, 6]) (u := (uTup 2 (usCons (uName 4) (usCons (uTup 2 (usCons (uName 5) (usCons (uName 6) (usNil)))) (usNil))))) (c := (tst (eOp gNe (eVar 5) (eVar 6)))) (f := (eVar 4)) (inj := fun p => DV.d (.tuple [.int (p.2 : Nat), trD bs p.1])) (g := ixD) (p := fun p => dif bs p.1) qs.zipIdx [] fun x hx => by
    have e5 := gNe_v (x.1.read []) (x.1.read (gone bs x.1))
    have ed : dif bs x.1 = !decide (x.1.read [] = x.1.read (gone bs x.1)) := by
      unfold dif
      congr 1
      rw [Bool.eq_iff_iff, decide_eq_true_eq, decide_eq_true_eq]
      exact eq_comm
    refine ⟨[.dv (.ob (oN (ksD qs))), .dv (.ob (oB kvs)), .dv (.d (.list ts)), .un, .dv (.d (ixD x)), .dv (.d (vD (x.1.read []))), .dv (.d (vD (x.1.read (gone bs x.1))))], [.dv (.ob (oN (ksD qs))), .dv (.ob (oB kvs)), .dv (.d (.list ts)), .un, .dv (.d (ixD x)), .dv (.d (vD (x.1.read []))), .dv (.d (vD (x.1.read (gone bs x.1))))], by simp [trD, ixD], by simp [e5, ed], fun h => ⟨[.dv (.ob (oN (ksD qs))), .dv (.ob (oB kvs)), .dv (.d (.list ts)), .un, .dv (.d (ixD x)), .dv (.d (vD (x.1.read []))), .dv (.d (vD (x.1.read (gone bs x.1))))], by simp, by simp⟩, fun h => by simp⟩
  rw [List.nil_append] at e2
  have hl : qs.length ≤ 100000 := by have := hq.2; omega
  simp [F_stale, fnD_k, B_stale, kLc1_s, em, hl, e1, ez, e2, staleD]
theorem bools_map {A : Type} (f : A → Bool) : ∀ l : List A, boolsD (l.map fun x => PyData.bool (f x)) = some (l.map f)
  | [] => rfl
  | x :: l => by rw [List.map_cons, boolsD, bools_map f l]; rfl
theorem hanging_eq {bs : List Bar} {kvs : Kvs} (k : BkOf bs kvs) {qs : List P3} (hb : BsOk bs) (hq : QsOk qs) :
    F_hanging (K := K) (C1 := C1) (C2 := C2) [.dv (.ob (oN (ksD qs))), .dv (.ob (oB kvs))] = some (.own (.lst (hangD bs qs)), none) := by
  have ez := zipIdx_map' (L := L59 K C1 C2) papD (fun p => DV.d (.tuple [.int (p.2 : Nat), p.1])) qs 0
  obtain ⟨δ', e, done, s3, s4, s5, ed, eδ⟩ := sForN_inv (L := L59 K C1 C2) (u := (uTup 2 (usCons (uName 3) (usCons (uName 4) (usNil))))) (b := (sIf (tst (eCB cAny (aCons (eLc [5] (iL (eCall (F_names_in) (aCons (eVar 4) (aNil)))) (uName 5) cYes (eInC isB F_contains (eVar 5) (eVar 1))) (aNil)))) (sApp 2 (eVar 3)) (sNil))) (inj := fun p => DV.d (.tuple [.int (p.2 : Nat), papD p.1]))
    (I := fun r δ => ∃ (done : List (P3 × Nat)) (s3 s4 s5 : SV (L59 K C1 C2)), done ++ r = qs.zipIdx ∧ δ = [.dv (.ob (oN (ksD qs))), .dv (.ob (oB kvs)), .own false (.lst ((done.filter fun p => hang bs p.1).map ixD)), s3, s4, s5]) qs.zipIdx
    [.dv (.ob (oN (ksD qs))), .dv (.ob (oB kvs)), .own false (.lst []), .un, .un, .un] ⟨[], _, _, _, rfl, rfl⟩ fun x r δ ⟨done, s3, s4, s5, ed, eδ⟩ => by
      subst eδ
      have hx : x ∈ qs.zipIdx := by rw [← ed]; simp
      have g := zip_gp hq hx
      have hl : ((done.filter fun p => hang bs p.1).map ixD).length < 100000 := by
        have h1 := congrArg List.length ed
        rw [List.length_append, List.length_zipIdx] at h1
        have h2 : (done.filter fun p => hang bs p.1).length ≤ done.length := List.length_filter_le ..
        have h3 := hq.2
        rw [List.length_map]
        omega
      obtain ⟨acc, eacc⟩ : ∃ acc, acc = (done.filter fun p => hang bs p.1).map ixD := ⟨_, rfl⟩
      have e2 := names_in_eq (L := L59 K C1 C2) g.sz
      have em : ((srtN x.1.names).map nmD).map (DV.d (L := L59 K C1 C2)) = (srtN x.1.names).map fun p => DV.d (nmD p) := by rw [List.map_map]; rfl
      have hln : (srtN x.1.names).length ≤ 100000 := by have := g.wd; omega
      have e3 := lcN_map (L := L59 K C1 C2) (δ := [.dv (.ob (oN (ksD qs))), .dv (.ob (oB kvs)), .own false (.lst acc), .dv (.d (ixD x)), .dv (.d (papD x.1)), .un]) (vs := [5]) (u := uName 5) (c := cYes) (f := (eInC isB F_contains (eVar 5) (eVar 1))) (inj := fun p => DV.d (nmD p)) (g := fun n => PyData.bool (hitB bs n)) (srtN x.1.names) [] fun n hn => by
        have hk := g.nm n ((srtN_mem n).mp hn)
        have ec := contains_eq (K := K) (C1 := C1) (C2 := C2) (kvs := kvs) hk
        rw [con_hit k hb.1 hk] at ec
        exact ⟨[.dv (.ob (oN (ksD qs))), .dv (.ob (oB kvs)), .own false (.lst acc), .dv (.d (ixD x)), .dv (.d (papD x.1)), .dv (.d (nmD n))], [.dv (.ob (oN (ksD qs))), .dv (.ob (oB kvs)), .own false (.lst acc), .dv (.d (ixD x)), .dv (.d (papD x.1)), .dv (.d (nmD n))], [.dv (.ob (oN (ksD qs))), .dv (.ob (oB kvs)), .own false (.lst acc), .dv (.d (ixD x)), .dv (.d (papD x.1)), .dv (.d (nmD n))], by simp, by simp, by simp [ec], by simp⟩
      rw [List.nil_append] at e3
      have e4 : cAny [.list ((srtN x.1.names).map fun n => PyData.bool (hitB bs n))] = some (.bool (hang bs x.1)) := by
        have eb := bools_map (hitB bs) (srtN x.1.names)
        simp only [cAny, eb]
        show some (PyData.bool (((srtN x.1.names).map (hitB bs)).any id)) = _
        congr 2
        unfold hang gone
        rw [List.any_map]
        rw [Bool.eq_iff_iff, List.any_eq_true]
        simp
      obtain ⟨bl, ebl⟩ : ∃ bl, bl = (srtN x.1.names).map fun n => PyData.bool (hitB bs n) := ⟨_, rfl⟩
      rw [← ebl] at e3 e4
      refine ⟨[.dv (.ob (oN (ksD qs))), .dv (.ob (oB kvs)), .own false (.lst ((done.filter fun p => hang bs p.1).map ixD)), .dv (.d (ixD x)), .dv (.d (papD x.1)), s5],
        [.dv (.ob (oN (ksD qs))), .dv (.ob (oB kvs)), .own false (.lst (((done ++ [x]).filter fun p => hang bs p.1).map ixD)), .dv (.d (ixD x)), .dv (.d (papD x.1)), .un], by simp [ixD], ?_, done ++ [x], _, _, _, by simp [ed], rfl⟩
      rw [List.filter_append, List.map_append, ← eacc]
      rw [← eacc] at hl
      cases c : hang bs x.1 with
      | false =>
        rw [c] at e4
        simp [e2, kLc1_s, em, hln, e3, e4, c]
      | true =>
        rw [c] at e4
        simp [e2, kLc1_s, em, hln, e3, e4, c, hl]
  rw [List.append_nil] at ed
  subst ed eδ
  simp only [ksD] at e
  simp [F_hanging, fnD_k, B_hanging, ksD, ez, kFo_s, e, hangD]
end DL.M
set_option Elab.async false
set_option linter.all false
set_option maxRecDepth 100000
set_option maxHeartbeats 1000000
/-! M20: the notes' methods; _law_same. -/
namespace DL.M
open PySem PySem.Spec L2 TK PySem.W
open PyProof.Rows hiding St
variable [CN]
variable {K : PySem.W.Frag} {C1 C2 : Addr}
@[simp] theorem isi_bool_none  : isiD "bool" .none = false := nr (by simp [isiD, tyD])
@[simp] theorem isi_bool_bool {b : Bool} : isiD "bool" (.bool b) = true := nr (by simp [isiD, tyD])
@[simp] theorem isi_bool_int {i : Int} : isiD "bool" (.int i) = false := nr (by simp [isiD, tyD])
@[simp] theorem isi_bool_str {s : Str} : isiD "bool" (.str s) = false := nr (by simp [isiD, tyD])
@[simp] theorem isi_bool_list {ds : List PD} : isiD "bool" (.list ds) = false := nr (by simp [isiD, tyD])
@[simp] theorem isi_bool_tuple {ds : List PD} : isiD "bool" (.tuple ds) = false := nr (by simp [isiD, tyD])
@[simp] theorem isi_int_none  : isiD "int" .none = false := nr (by simp [isiD, tyD])
@[simp] theorem isi_int_bool {b : Bool} : isiD "int" (.bool b) = true := nr (by simp [isiD, tyD])
@[simp] theorem isi_int_int {i : Int} : isiD "int" (.int i) = true := nr (by simp [isiD, tyD])
@[simp] theorem isi_int_str {s : Str} : isiD "int" (.str s) = false := nr (by simp [isiD, tyD])
@[simp] theorem isi_int_list {ds : List PD} : isiD "int" (.list ds) = false := nr (by simp [isiD, tyD])
@[simp] theorem isi_int_tuple {ds : List PD} : isiD "int" (.tuple ds) = false := nr (by simp [isiD, tyD])
@[simp] theorem isi_str_none  : isiD "str" .none = false := nr (by simp [isiD, tyD])
@[simp] theorem isi_str_bool {b : Bool} : isiD "str" (.bool b) = false := nr (by simp [isiD, tyD])
@[simp] theorem isi_str_int {i : Int} : isiD "str" (.int i) = false := nr (by simp [isiD, tyD])
@[simp] theorem isi_str_str {s : Str} : isiD "str" (.str s) = true := nr (by simp [isiD, tyD])
@[simp] theorem isi_str_list {ds : List PD} : isiD "str" (.list ds) = false := nr (by simp [isiD, tyD])
@[simp] theorem isi_str_tuple {ds : List PD} : isiD "str" (.tuple ds) = false := nr (by simp [isiD, tyD])
@[simp] theorem isi_list_none  : isiD "list" .none = false := nr (by simp [isiD, tyD])
@[simp] theorem isi_list_bool {b : Bool} : isiD "list" (.bool b) = false := nr (by simp [isiD, tyD])
@[simp] theorem isi_list_int {i : Int} : isiD "list" (.int i) = false := nr (by simp [isiD, tyD])
@[simp] theorem isi_list_str {s : Str} : isiD "list" (.str s) = false := nr (by simp [isiD, tyD])
@[simp] theorem isi_list_list {ds : List PD} : isiD "list" (.list ds) = true := nr (by simp [isiD, tyD])
@[simp] theorem isi_list_tuple {ds : List PD} : isiD "list" (.tuple ds) = false := nr (by simp [isiD, tyD])
@[simp] theorem isi_tuple_none  : isiD "tuple" .none = false := nr (by simp [isiD, tyD])
@[simp] theorem isi_tuple_bool {b : Bool} : isiD "tuple" (.bool b) = false := nr (by simp [isiD, tyD])
@[simp] theorem isi_tuple_int {i : Int} : isiD "tuple" (.int i) = false := nr (by simp [isiD, tyD])
@[simp] theorem isi_tuple_str {s : Str} : isiD "tuple" (.str s) = false := nr (by simp [isiD, tyD])
@[simp] theorem isi_tuple_list {ds : List PD} : isiD "tuple" (.list ds) = false := nr (by simp [isiD, tyD])
@[simp] theorem isi_tuple_tuple {ds : List PD} : isiD "tuple" (.tuple ds) = true := nr (by simp [isiD, tyD])
@[simp] theorem isd_none  : isDict .none = false := nr rfl
@[simp] theorem isd_bool {b : Bool} : isDict (.bool b) = false := nr rfl
@[simp] theorem isd_int {i : Int} : isDict (.int i) = false := nr rfl
@[simp] theorem isd_str {s : Str} : isDict (.str s) = false := nr rfl
@[simp] theorem isd_list {ds : List PD} : isDict (.list ds) = false := nr rfl
@[simp] theorem isd_tuple {ds : List PD} : isDict (.tuple ds) = false := nr rfl
@[simp] theorem gNe_b {i j : Bool} : gNe (.bool i) (.bool j) = some (.bool (!decide (i = j))) := by
  rw [gNe_eq shaped_b shaped_b]
  cases i <;> cases j <;> simp [PyData.eqv]
section
variable {L : Lang}
mutual
def smD : PD → Bool
  | .none => true
  | .bool _ => true
  | .int _ => true
  | .str s => PyData.strOk s
  | .list ds => decide (ds.length < 1000) && smAll ds
  | .tuple ds => decide (ds.length < 1000) && smAll ds
  | .dict _ => false
def smAll : List PD → Bool
  | [] => true
  | d :: ds => smD d && smAll ds
end
theorem smAll_mem : ∀ {ds : List PD}, smAll ds = true → ∀ d ∈ ds, smD d = true
  | d :: ds, h, e, he => by
    rw [smAll, Bool.and_eq_true] at h
    rcases List.mem_cons.mp he with rfl | he
    · exact h.1
    · exact smAll_mem h.2 e he
theorem depthAll_mem : ∀ {ds : List PD} {d : PD}, d ∈ ds → d.depth ≤ PyData.depthAll ds
  | e :: ds, d, h => by
    rw [PyData.depthAll]
    rcases List.mem_cons.mp h with rfl | h
    · omega
    · have := depthAll_mem h
      omega
theorem same_ret {n : Nat} {ds : List PD} {x : PD} (hx : x = .list ds ∨ x = .tuple ds) (hl : ds.length < 1000) (ih : ∀ d ∈ ds, F_law_same (L := L) n [.dv (.d d), .dv (.d d)] = some (.dv (.d (.bool true)), none)) :
    F_law_same (L := L) (n + 1) [.dv (.d x), .dv (.d x)] = some (.dv (.d (.bool true)), none) := by
  have hat : ∀ i : Nat, i < ds.length → ∃ d ∈ ds, gIx x (.int (i : Int)) = some d := fun i hi => by
    refine ⟨ds[i], List.getElem_mem hi, ?_⟩
    have e := atI_nat ds i
    rw [List.getElem?_eq_getElem hi] at e
    rcases hx with rfl | rfl
    · exact e
    · exact e
  obtain ⟨δ', e, s2, hs, eδ⟩ := sForN_inv (L := L) (u := uName 2) (b := (sIf (tstNot (tst (eCall (F_law_same n) (aCons (eOp gIx (eVar 0) (eVar 2)) (aCons (eOp gIx (eVar 1) (eVar 2)) (aNil)))))) (sRet (eC (.bool false))) (sNil))) (inj := fun (i : Nat) => DV.d (.int (0 + (i : Int))))
    (I := fun r δ => ∃ s2 : SV L, (∀ i ∈ r, i < ds.length) ∧ δ = [.dv (.d x), .dv (.d x), s2]) (List.range ds.length) [.dv (.d x), .dv (.d x), .un] ⟨.un, fun i hi => List.mem_range.mp hi, rfl⟩ fun i r δ ⟨s2, hr, eδ⟩ => by
      subst eδ
      obtain ⟨d, hd, ed⟩ := hat i (hr i List.mem_cons_self)
      refine ⟨[.dv (.d x), .dv (.d x), .dv (.d (.int (i : Int)))], [.dv (.d x), .dv (.d x), .dv (.d (.int (i : Int)))], by simp, by simp [ed, ih d hd], _, fun j hj => hr j (List.mem_cons_of_mem _ hj), rfl⟩
  subst eδ
  have hr := kR1_j (L := L) (δ := [.dv (.d x), .dv (.d x), .un]) (j := (ds.length : Int)) (by omega) (by omega)
  rw [Int.toNat_natCast] at hr
  have e : sForN (uName 2) (sIf (tstNot (tst (eCall (F_law_same n) (aCons (eOp gIx (eVar 0) (eVar 2)) (aCons (eOp gIx (eVar 1) (eVar 2)) (aNil)))))) (sRet (eC (.bool false))) (sNil)) (nums 0 ds.length) [.dv (.d x), .dv (.d x), .un] = _ := e
  have hn : gIsN x .none = some (.bool false) := by rcases hx with rfl | rfl <;> rfl
  show fnD 2 3 (B_law_same (F_law_same n)) _ = _
  rcases hx with rfl | rfl
  · simp [fnD_k, B_law_same, hn, hr, kFo_s, e]
  · simp [fnD_k, B_law_same, hn, hr, kFo_s, e]
theorem same_eq : ∀ (n : Nat) (x : PD), smD x = true → x.depth ≤ n → F_law_same (L := L) (n + 1) [.dv (.d x), .dv (.d x)] = some (.dv (.d (.bool true)), none)
  | n, .none, _, _ => by
    have hn : gIsN .none .none = some (.bool true) := rfl
    show fnD 2 3 (B_law_same (F_law_same n)) _ = _
    simp [fnD_k, B_law_same, hn]
  | n, .bool b, _, _ => by
    have hn : gIsN (.bool b) .none = some (.bool false) := rfl
    have he : gEq (.bool b) (.bool b) = some (.bool true) := by rw [gEq_eq shaped_b shaped_b]; simp [PyData.eqv]
    show fnD 2 3 (B_law_same (F_law_same n)) _ = _
    simp [fnD_k, B_law_same, hn, he]
  | n, .int i, _, _ => by
    have hn : gIsN (.int i) .none = some (.bool false) := rfl
    show fnD 2 3 (B_law_same (F_law_same n)) _ = _
    simp [fnD_k, B_law_same, hn]
  | n, .str s, h, _ => by
    have hn : gIsN (.str s) .none = some (.bool false) := rfl
    have hs : PyData.strOk s = true := by rw [smD] at h; exact h
    have he := gEq_s hs hs
    show fnD 2 3 (B_law_same (F_law_same n)) _ = _
    simp [fnD_k, B_law_same, hn, he]
  | 0, .list ds, _, hd => absurd hd (by simp [PyData.depth])
  | 0, .tuple ds, _, hd => absurd hd (by simp [PyData.depth])
  | n + 1, .list ds, h, hd => by
    rw [smD, Bool.and_eq_true, decide_eq_true_eq] at h
    rw [PyData.depth] at hd
    exact same_ret (.inl rfl) h.1 fun d hm => same_eq n d (smAll_mem h.2 d hm) (by have := depthAll_mem hm; omega)
  | n + 1, .tuple ds, h, hd => by
    rw [smD, Bool.and_eq_true, decide_eq_true_eq] at h
    rw [PyData.depth] at hd
    exact same_ret (.inr rfl) h.1 fun d hm => same_eq n d (smAll_mem h.2 d hm) (by have := depthAll_mem hm; omega)
theorem smAll_of {ds : List PD} (h : ∀ d ∈ ds, smD d = true) : smAll ds = true := by
  induction ds with
  | nil => rfl
  | cons d r ih => rw [smAll, h d List.mem_cons_self, ih fun e he => h e (List.mem_cons_of_mem _ he)]; rfl
theorem depthAll_le {ds : List PD} {m : Nat} (h : ∀ d ∈ ds, d.depth ≤ m) : PyData.depthAll ds ≤ m := by
  induction ds with
  | nil => simp [PyData.depthAll]
  | cons d r ih =>
    rw [PyData.depthAll]
    have := h d List.mem_cons_self
    have := ih fun e he => h e (List.mem_cons_of_mem _ he)
    omega
/-- a list of ints -/
theorem same_ints {xs : List PD} (h : ∀ d ∈ xs, ∃ i : Int, d = .int i) (hl : xs.length < 1000) : F_law_same (L := L) 16 [.dv (.d (.list xs)), .dv (.d (.list xs))] = some (.dv (.d (.bool true)), none) := by
  refine same_eq 15 _ ?_ ?_
  · rw [smD, Bool.and_eq_true, decide_eq_true_eq]
    exact ⟨hl, smAll_of fun d hd => by obtain ⟨i, rfl⟩ := h d hd; rw [smD]⟩
  · rw [PyData.depth]
    have := depthAll_le (m := 0) fun d hd => by obtain ⟨i, rfl⟩ := h d hd; simp [PyData.depth]
    omega
theorem same_int {i : Int} : F_law_same (L := L) 16 [.dv (.d (.int i)), .dv (.d (.int i))] = some (.dv (.d (.bool true)), none) := same_eq 15 _ (by rw [smD]) (by simp [PyData.depth])
theorem sm_pap : ∀ (q : P3), (∀ n ∈ q.names, NmOk n) → smD (papD q) = true
  | .leaf v, _ => by cases v <;> simp [papD, vD, smD, smAll]
  | .node n s g, h => by
    have a := sm_pap s fun m hm => h m (List.mem_cons_of_mem _ (List.mem_append_left _ hm))
    have b := sm_pap g fun m hm => h m (List.mem_cons_of_mem _ (List.mem_append_right _ hm))
    have hn := h n List.mem_cons_self
    simp [papD, nmD, smD, smAll, a, b, hn.2.1, hn.2.2]
theorem same_pap {q : P3} (h : GP q) : F_law_same (L := L) 16 [.dv (.d (papD q)), .dv (.d (papD q))] = some (.dv (.d (.bool true)), none) :=
  same_eq 15 _ (sm_pap q h.nm) (by have := (lay_pap q h.nm).2; have := h.dp; omega)
end
theorem nlen_eq {ds : List PD} : F_nlen (K := K) (C1 := C1) (C2 := C2) [.dv (.ob (oN ds))] = some (.dv (.d (.int ds.length)), none) := by
  simp [F_nlen, fnD_k, B_nlen]
theorem paper_eq {ds : List PD} {i : Nat} {d : PD} (h : ds[i]? = some d) : F_paper (K := K) (C1 := C1) (C2 := C2) [.dv (.ob (oN ds)), .dv (.d (.int (i : Int)))] = some (.dv (.d d), none) := by
  have hl : i < ds.length := by
    obtain ⟨h, _⟩ := List.getElem?_eq_some_iff.mp h
    exact h
  have e := atI_nat ds i
  rw [h] at e
  have ec : tCh (L := L59 K C1 C2) gLe gLt (eC (.int 0)) (eVar 1) (eCB cLen (aCons (ePap (eVar 0)) (aNil))) [.dv (.ob (oN ds)), .dv (.d (.int (i : Int)))] = some (true, [.dv (.ob (oN ds)), .dv (.d (.int (i : Int)))]) := by
    unfold tCh
    simp [hl]
  simp [F_paper, fnD_k, B_paper, ec, e]
section
variable {δ δ1 δ2 : List (SV (L59 K C1 C2))}
def kPA (δ : List (SV (L59 K C1 C2))) : Option (List PD) → Option (SV (L59 K C1 C2)) → OS (L59 K C1 C2)
  | some ds, some (.dv (.d y)) => if ds.length < 100000 then some (.nx, δ.set 0 (.own true (nts (ds ++ [y])))) else none
  | _, _ => none
@[simp] theorem sPapA_k {j : Nat} : sPapA j δ = kPA δ (ntsOf δ[0]?) δ[j]? := nr rfl
@[simp] theorem ntsOf_N {ds : List PD} : ntsOf (K := K) (C1 := C1) (C2 := C2) (some (.own true (wN ds))) = some ds := nr rfl
@[simp] theorem kPA_s {ds : List PD} {y : PD} : kPA δ (some ds) (some (.dv (.d y))) = if ds.length < 100000 then some (.nx, δ.set 0 (.own true (wN (ds ++ [y])))) else none := nr rfl
def kPS3 (δ : List (SV (L59 K C1 C2))) (out : List PD) : Option (SV (L59 K C1 C2)) → OS (L59 K C1 C2)
  | some SV.un => some (.nx, δ.set 0 (.own true (nts out)))
  | _ => none
def kPS2 (vs : List Nat) : Option (List PD × List (SV (L59 K C1 C2))) → OS (L59 K C1 C2)
  | some (out, δ2) => match (wipeD δ2 vs)[0]? with
    | some SV.un => some (.nx, (wipeD δ2 vs).set 0 (.own true (nts out)))
    | _ => none
  | none => none
def kPS1 (vs : List Nat) (u : Eg (L59 K C1 C2)) (f : Ev (L59 K C1 C2)) (δ : List (SV (L59 K C1 C2))) : Option (List PD) → OS (L59 K C1 C2)
  | some ds => if ds.length ≤ 100000 then match lcN vs u cYes f (ds.map DV.d) (wipeD (δ.set 0 SV.un) vs) [] with
      | some (out, δ2) => match (wipeD δ2 vs)[0]? with
        | some SV.un => some (.nx, (wipeD δ2 vs).set 0 (.own true (nts out)))
        | _ => none
      | none => none
    else none
  | none => none
@[simp] theorem sPapS_k {vs : List Nat} {u : Eg (L59 K C1 C2)} {f : Ev (L59 K C1 C2)} : sPapS vs u f δ = kPS1 vs u f δ (ntsOf δ[0]?) := nr rfl
theorem kPS1_s {vs : List Nat} {u : Eg (L59 K C1 C2)} {f : Ev (L59 K C1 C2)} {ds : List PD} : kPS1 vs u f δ (some ds) = if ds.length ≤ 100000 then kPS2 vs (lcN vs u cYes f (ds.map DV.d) (wipeD (δ.set 0 SV.un) vs) []) else none := nr rfl
@[simp] theorem kPS2_s {vs : List Nat} {out : List PD} : kPS2 vs (some (out, δ)) = kPS3 (wipeD δ vs) out (wipeD δ vs)[0]? := nr (by
  show (match (wipeD δ vs)[0]? with
    | some SV.un => some (Fl.nx, (wipeD δ vs).set 0 (.own true (nts out)))
    | _ => none) = _
  unfold kPS3
  rfl)
@[simp] theorem kPS3_s {out : List PD} : kPS3 δ out (some SV.un) = some (.nx, δ.set 0 (.own true (wN out))) := nr rfl
theorem note_eq {ds : List PD} {y : PD} (h : ds.length < 5000) : F_note (K := K) (C1 := C1) (C2 := C2) [.own true (wN ds), .dv (.d y)] = some (.dv (.d (.int ds.length)), some (wN (ds ++ [y]))) := by
  have h9 : ds.length < 100000 := by omega
  simp [F_note, fnD_k, B_note, h9]
theorem staleD_ints {bs : List Bar} {qs : List P3} : ∀ d ∈ staleD bs qs, ∃ i : Int, d = .int i := fun d hd => by
  obtain ⟨p, _, rfl⟩ := List.mem_map.mp hd
  exact ⟨_, rfl⟩
theorem hangD_ints {bs : List Bar} {qs : List P3} : ∀ d ∈ hangD bs qs, ∃ i : Int, d = .int i := fun d hd => by
  obtain ⟨p, _, rfl⟩ := List.mem_map.mp hd
  exact ⟨_, rfl⟩
theorem staleD_len {bs : List Bar} {qs : List P3} : (staleD bs qs).length ≤ qs.length := by
  unfold staleD
  rw [List.length_map]
  exact Nat.le_trans (List.length_filter_le ..) (by rw [List.length_zipIdx]; exact Nat.le_refl _)
theorem hangD_len {bs : List Bar} {qs : List P3} : (hangD bs qs).length ≤ qs.length := by
  unfold hangD
  rw [List.length_map]
  exact Nat.le_trans (List.length_filter_le ..) (by rw [List.length_zipIdx]; exact Nat.le_refl _)
noncomputable def freeQ (bs : List Bar) (qs : List P3) : List P3 := qs.map fun q => q.without (gone bs q)
theorem freeQ_ok {bs : List Bar} {qs : List P3} (h : QsOk qs) : QsOk (freeQ bs qs) := ⟨fun q hq => by
  obtain ⟨p, hp, rfl⟩ := List.mem_map.mp hq
  exact (h.1 p hp).without _, by unfold freeQ; rw [List.length_map]; exact h.2⟩
theorem strike_eq {bs : List Bar} {kvs : Kvs} (k : BkOf bs kvs) {qs : List P3} (hb : BsOk bs) (hq : QsOk qs) :
    F_strike (K := K) (C1 := C1) (C2 := C2) [.own true (wN (ksD qs)), .dv (.ob (oB kvs))] = some (.own (.lst (staleD bs qs)), some (wN (ksD (freeQ bs qs)))) := by
  have e1 := stale_eq (K := K) (C1 := C1) (C2 := C2) k hb hq
  have hs : (staleD bs qs).all scalarD = true := List.all_eq_true.mpr fun d hd => by obtain ⟨i, rfl⟩ := staleD_ints d hd; rfl
  obtain ⟨st, est⟩ : ∃ st, st = staleD bs qs := ⟨_, rfl⟩
  rw [← est] at e1 hs ⊢
  have e2 := lcN_map (L := L59 K C1 C2) (δ := [.un, .dv (.ob (oB kvs)), .own false (.lst st), .un]) (vs := [3]) (u := uName 3) (c := cYes) (f := (eCall (F_freed) (aCons (eVar 3) (aCons (eVar 1) (aNil))))) (inj := fun p => DV.d (papD p)) (g := fun q => papD (q.without (gone bs q))) qs [] fun x hx => by
    have e2 := freed_eq (K := K) (C1 := C1) (C2 := C2) k hb (hq.1 x hx)
    exact ⟨[.un, .dv (.ob (oB kvs)), .own false (.lst st), .dv (.d (papD x))], [.un, .dv (.ob (oB kvs)), .own false (.lst st), .dv (.d (papD x))], [.un, .dv (.ob (oB kvs)), .own false (.lst st), .dv (.d (papD x))], by simp, by simp, by simp [e2], by simp⟩
  rw [List.nil_append] at e2
  have em : (ksD qs).map (DV.d (L := L59 K C1 C2)) = qs.map fun p => DV.d (papD p) := by unfold ksD; rw [List.map_map]; rfl
  have hl : (ksD qs).length ≤ 100000 := by have := hq.2; unfold ksD; rw [List.length_map]; omega
  have ef : ksD (freeQ bs qs) = qs.map fun q => papD (q.without (gone bs q)) := by unfold ksD freeQ; rw [List.map_map]; rfl
  rw [ef]
  have hs' : (∀ (x : PD), x ∈ st → scalarD x = true) ↔ True := iff_true_intro (List.all_eq_true.mp hs)
  simp [F_strike, fnD_k, B_strike, e1, hs', kPS1_s, em, hl, e2]
end
end DL.M
set_option Elab.async false
set_option linter.all false
set_option maxRecDepth 100000
set_option maxHeartbeats 1000000
/-! M21: what the law asks of notes: _law_asked, _law_both, _law_noted. -/
namespace DL.M
open PySem PySem.Spec L2 TK PySem.W
open PyProof.Rows hiding St
variable [CN]
variable {K : PySem.W.Frag} {C1 C2 : Addr}
section
variable {δ δ1 δ2 : List (SV (L59 K C1 C2))}
theorem ksD_at {qs : List P3} {p : P3 × Nat} (h : p ∈ qs.zipIdx) : (ksD qs)[p.2]? = some (papD p.1) := by
  unfold ksD
  rw [List.getElem?_map, zip_mem h]
  rfl
theorem ksD_len (qs : List P3) : (ksD qs).length = qs.length := by unfold ksD; rw [List.length_map]
theorem asked1 {qs : List P3} (hq : QsOk qs) {bs : List Bar} : ∃ s3, sForN (L := L59 K C1 C2) (uName 3) (sIf (tstNot (tst (eCall (F_law_same 16) (aCons (eMt isN F_paper (eVar 0) (aCons (eVar 3) (aNil))) (aCons (eOp gIx (eVar 1) (eVar 3)) (aNil)))))) (sRet (eC (.bool false))) (sNil)) (nums 0 qs.length) [.dv (.ob (oN (ksD qs))), .dv (.d (.list (ksD qs))), .dv (.d (bsD bs)), .un, .un, .un, .un] =
    some (.nx, [.dv (.ob (oN (ksD qs))), .dv (.d (.list (ksD qs))), .dv (.d (bsD bs)), s3, .un, .un, .un]) := by
  obtain ⟨δ', e, done, s3, ed, eδ⟩ := sForN_inv (L := L59 K C1 C2) (u := uName 3) (b := (sIf (tstNot (tst (eCall (F_law_same 16) (aCons (eMt isN F_paper (eVar 0) (aCons (eVar 3) (aNil))) (aCons (eOp gIx (eVar 1) (eVar 3)) (aNil)))))) (sRet (eC (.bool false))) (sNil))) (inj := fun p => DV.d (ixD p))
    (I := fun r δ => ∃ (done : List (P3 × Nat)) (s3 : SV (L59 K C1 C2)), done ++ r = qs.zipIdx ∧ δ = [.dv (.ob (oN (ksD qs))), .dv (.d (.list (ksD qs))), .dv (.d (bsD bs)), s3, .un, .un, .un]) qs.zipIdx
    [.dv (.ob (oN (ksD qs))), .dv (.d (.list (ksD qs))), .dv (.d (bsD bs)), .un, .un, .un, .un] ⟨[], _, rfl, rfl⟩ fun x r δ ⟨done, s3, ed, eδ⟩ => by
      subst eδ
      have hx : x ∈ qs.zipIdx := by rw [← ed]; simp
      have e1 := paper_eq (K := K) (C1 := C1) (C2 := C2) (ksD_at hx)
      have e2 := zip_at hx
      have e3 := same_pap (L := L59 K C1 C2) (zip_gp hq hx)
      exact ⟨[.dv (.ob (oN (ksD qs))), .dv (.d (.list (ksD qs))), .dv (.d (bsD bs)), .dv (.d (ixD x)), .un, .un, .un], [.dv (.ob (oN (ksD qs))), .dv (.d (.list (ksD qs))), .dv (.d (bsD bs)), .dv (.d (ixD x)), .un, .un, .un], by simp, by simp [ixD, e1, e2, e3], done ++ [x], _, by simp [ed], rfl⟩
  subst eδ
  exact ⟨s3, by rw [nums_zip]; exact e⟩
theorem asked2 {qs : List P3} (hq : QsOk qs) {bs : List Bar} (hb : BsOk bs) {kvs : Kvs} (k : BkOf bs kvs) (ks : List Int) (s3 s5 s6 : SV (L59 K C1 C2)) : ∃ s5' s6', sForN (L := L59 K C1 C2) (uName 5) (sSeq (sSet 6 (eMt isN F_stale (eVar 0) (aCons (eVar 4) (aNil)))) (sSeq (sIf (thawT (tstNot (thawT (tst (eCall (F_law_same 16) (aCons (eVar 6) (aCons (eCall (F_law_stale) (aCons (eVar 1) (aCons (eVar 2) (aNil)))) (aNil)))))))) (sRet (eC (.bool false))) (sNil)) (sSeq (sApp 6 (eVar 5)) (sSeq (sSet 6 (eMt isN F_hanging (eVar 0) (aCons (eVar 4) (aNil)))) (sSeq (sIf (thawT (tstNot (thawT (tst (eCall (F_law_same 16) (aCons (eVar 6) (aCons (eCall (F_law_hanging) (aCons (eVar 1) (aCons (eVar 2) (aNil)))) (aNil)))))))) (sRet (eC (.bool false))) (sNil)) (sApp 6 (eVar 5))))))) (ks.map fun i => DV.d (.int i)) [.dv (.ob (oN (ksD qs))), .dv (.d (.list (ksD qs))), .dv (.d (bsD bs)), s3, .dv (.ob (oB kvs)), s5, s6] =
    some (.nx, [.dv (.ob (oN (ksD qs))), .dv (.d (.list (ksD qs))), .dv (.d (bsD bs)), s3, .dv (.ob (oB kvs)), s5', s6']) := by
  have e1 := stale_eq (K := K) (C1 := C1) (C2 := C2) k hb hq
  have e2 := law_stale_eq (L := L59 K C1 C2) hb hq
  have e3 := hanging_eq (K := K) (C1 := C1) (C2 := C2) k hb hq
  have e4 := law_hanging_eq (L := L59 K C1 C2) hb hq
  have e5 := same_ints (L := L59 K C1 C2) (staleD_ints (bs := bs) (qs := qs)) (by have := staleD_len (bs := bs) (qs := qs); have := hq.2; omega)
  have e6 := same_ints (L := L59 K C1 C2) (hangD_ints (bs := bs) (qs := qs)) (by have := hangD_len (bs := bs) (qs := qs); have := hq.2; omega)
  have l1 : (staleD bs qs).length < 100000 := by have := staleD_len (bs := bs) (qs := qs); have := hq.2; omega
  have l2 : (hangD bs qs).length < 100000 := by have := hangD_len (bs := bs) (qs := qs); have := hq.2; omega
  obtain ⟨st, est⟩ : ∃ st, st = staleD bs qs := ⟨_, rfl⟩
  obtain ⟨hn, ehn⟩ : ∃ hn, hn = hangD bs qs := ⟨_, rfl⟩
  rw [← est] at e1 e2 e5 l1
  rw [← ehn] at e3 e4 e6 l2
  obtain ⟨δ', e, s5', s6', eδ⟩ := sForN_inv (L := L59 K C1 C2) (u := uName 5) (b := (sSeq (sSet 6 (eMt isN F_stale (eVar 0) (aCons (eVar 4) (aNil)))) (sSeq (sIf (thawT (tstNot (thawT (tst (eCall (F_law_same 16) (aCons (eVar 6) (aCons (eCall (F_law_stale) (aCons (eVar 1) (aCons (eVar 2) (aNil)))) (aNil)))))))) (sRet (eC (.bool false))) (sNil)) (sSeq (sApp 6 (eVar 5)) (sSeq (sSet 6 (eMt isN F_hanging (eVar 0) (aCons (eVar 4) (aNil)))) (sSeq (sIf (thawT (tstNot (thawT (tst (eCall (F_law_same 16) (aCons (eVar 6) (aCons (eCall (F_law_hanging) (aCons (eVar 1) (aCons (eVar 2) (aNil)))) (aNil)))))))) (sRet (eC (.bool false))) (sNil)) (sApp 6 (eVar 5)))))))) (inj := fun i => DV.d (.int i))
    (I := fun r δ => ∃ (s5 s6 : SV (L59 K C1 C2)), δ = [.dv (.ob (oN (ksD qs))), .dv (.d (.list (ksD qs))), .dv (.d (bsD bs)), s3, .dv (.ob (oB kvs)), s5, s6]) ks
    [.dv (.ob (oN (ksD qs))), .dv (.d (.list (ksD qs))), .dv (.d (bsD bs)), s3, .dv (.ob (oB kvs)), s5, s6] ⟨_, _, rfl⟩ fun i r δ ⟨s5, s6, eδ⟩ => by
      subst eδ
      refine ⟨[.dv (.ob (oN (ksD qs))), .dv (.d (.list (ksD qs))), .dv (.d (bsD bs)), s3, .dv (.ob (oB kvs)), .dv (.d (.int i)), s6], [.dv (.ob (oN (ksD qs))), .dv (.d (.list (ksD qs))), .dv (.d (bsD bs)), s3, .dv (.ob (oB kvs)), .dv (.d (.int i)), .own false (.lst (hn ++ [.int i]))], by simp, ?_, _, _, rfl⟩
      simp [e1, e2, e3, e4, e5, e6, l1, l2]
  subst eδ
  exact ⟨s5', s6', e⟩
theorem asked_eq {qs : List P3} (hq : QsOk qs) {bs : List Bar} (hb : BsOk bs) : F_law_asked (K := K) (C1 := C1) (C2 := C2) [.dv (.ob (oN (ksD qs))), .dv (.d (.list (ksD qs))), .dv (.d (bsD bs))] = some (.dv (.d (.bool true)), none) := by
  obtain ⟨s3, e1⟩ := asked1 (K := K) (C1 := C1) (C2 := C2) hq (bs := bs)
  obtain ⟨kvs, k, e2⟩ := law_book_eq (K := K) (C1 := C1) (C2 := C2) (bs := bs) (by have := hb.2; omega)
  obtain ⟨ns, en, _⟩ := nums_ints (L := L59 K C1 C2) 0 2
  obtain ⟨s5, s6, e3⟩ := asked2 (K := K) (C1 := C1) (C2 := C2) hq hb k ns s3 .un .un
  rw [← en] at e3
  have e4 := nlen_eq (K := K) (C1 := C1) (C2 := C2) (ds := ksD qs)
  have hr := fun δ => kR1_j (L := L59 K C1 C2) (δ := δ) (j := (qs.length : Int)) (by omega) (by have := hq.2; omega)
  simp only [Int.toNat_natCast] at hr
  have hr2 := fun δ => kR1_j (L := L59 K C1 C2) (δ := δ) (j := 2) (by decide) (by decide)
  have h2 : (2 : Int).toNat = 2 := rfl
  simp only [h2] at hr2
  have hl := ksD_len qs
  have hb63 : (qs.length : Int) < 9223372036854775808 := by have := hq.2; omega
  rw [hl] at e4
  simp [F_law_asked, fnD_k, B_law_asked, e4, hl, hr, hr2, kFo_s, e1, e2, e3, hb63]
theorem both_eq {qs : List P3} (hq : QsOk qs) {bs cs : List Bar} (hb : BsOk bs) (hc : BsOk cs) : F_law_both (K := K) (C1 := C1) (C2 := C2) [.dv (.ob (oN (ksD qs))), .dv (.d (.list (ksD qs))), .dv (.d (bsD bs)), .dv (.d (bsD cs))] = some (.dv (.d (.bool true)), none) := by
  have e1 := asked_eq (K := K) (C1 := C1) (C2 := C2) hq hb
  have e2 := asked_eq (K := K) (C1 := C1) (C2 := C2) hq hc
  simp [F_law_both, fnD_k, B_law_both, e1, e2]
theorem refused_eq {ds : List PD} {i : Int} : F_law_refused (K := K) (C1 := C1) (C2 := C2) [.dv (.ob (oN ds)), .dv (.d (.int i))] = some (.dv (.d (.bool (!(decide (0 ≤ i) && decide (i < (ds.length : Int)))))), none) := rfl
@[simp] theorem kMB1_N {i : Nat} {F : Fn (L59 K C1 C2)} {fa : Ea (L59 K C1 C2)} {b : Bool} {ds : List PD} : kMB1 isNw i F fa δ (some (.own b (wN ds))) = kB2 i F (fa δ) := nr rfl
theorem noted1 {qs : List P3} (hq : QsOk qs) : ∃ s2, sForN (L := L59 K C1 C2) (uName 2) (sIf (tstOr (tstNot (tst (thaw (eCall (F_law_refused) (aCons (eVar 0) (aCons (eVar 2) (aNil))))))) (tstNot (tst (eCall (F_law_same 16) (aCons (eMtB isNw 0 F_note (aCons (eOp gIx (eVar 1) (eVar 2)) (aNil))) (aCons (eVar 2) (aNil))))))) (sRet (eC (.bool false))) (sNil)) (nums 0 qs.length) [.own true (wN []), .dv (.d (.list (ksD qs))), .un, .un, .un, .un] =
    some (.nx, [.own true (wN (ksD qs)), .dv (.d (.list (ksD qs))), s2, .un, .un, .un]) := by
  obtain ⟨δ', e, done, s2, ed, eδ⟩ := sForN_inv (L := L59 K C1 C2) (u := uName 2) (b := (sIf (tstOr (tstNot (tst (thaw (eCall (F_law_refused) (aCons (eVar 0) (aCons (eVar 2) (aNil))))))) (tstNot (tst (eCall (F_law_same 16) (aCons (eMtB isNw 0 F_note (aCons (eOp gIx (eVar 1) (eVar 2)) (aNil))) (aCons (eVar 2) (aNil))))))) (sRet (eC (.bool false))) (sNil))) (inj := fun p => DV.d (ixD p))
    (I := fun r δ => ∃ (done : List (P3 × Nat)) (s2 : SV (L59 K C1 C2)), done ++ r = qs.zipIdx ∧ δ = [.own true (wN (ksD (done.map (·.1)))), .dv (.d (.list (ksD qs))), s2, .un, .un, .un]) qs.zipIdx
    [.own true (wN []), .dv (.d (.list (ksD qs))), .un, .un, .un, .un] ⟨[], _, rfl, rfl⟩ fun x r δ ⟨done, s2, ed, eδ⟩ => by
      subst eδ
      have hx : x ∈ qs.zipIdx := by rw [← ed]; simp
      have hn : x.2 = done.length := by
        have h1 : (done ++ x :: r)[done.length]? = some x := by simp
        rw [ed, List.getElem?_zipIdx] at h1
        obtain ⟨q, _, h2⟩ := Option.map_eq_some_iff.mp h1
        rw [← h2]
        simp
      have hlen : done.length < 500 := by
        have h1 := congrArg List.length ed
        rw [List.length_append, List.length_zipIdx, List.length_cons] at h1
        have h3 := hq.2
        omega
      have hl : (ksD (done.map (·.1))).length = done.length := by rw [ksD_len, List.length_map]
      have e1 := refused_eq (K := K) (C1 := C1) (C2 := C2) (ds := ksD (done.map (·.1))) (i := (done.length : Int))
      have e2 := note_eq (K := K) (C1 := C1) (C2 := C2) (ds := ksD (done.map (·.1))) (y := papD x.1) (by omega)
      rw [hl] at e1 e2
      have e1' : (!(decide (0 ≤ (done.length : Int)) && decide ((done.length : Int) < (done.length : Int)))) = true := by simp
      rw [e1'] at e1
      have e3 := zip_at hx
      rw [hn] at e3
      have e4 := same_int (L := L59 K C1 C2) (i := (done.length : Int))
      have e5 : ksD (done.map (·.1)) ++ [papD x.1] = ksD ((done ++ [x]).map (·.1)) := by simp [ksD]
      rw [e5] at e2
      obtain ⟨k1, ek1⟩ : ∃ k1, k1 = ksD (done.map (·.1)) := ⟨_, rfl⟩
      obtain ⟨k2, ek2⟩ : ∃ k2, k2 = ksD ((done ++ [x]).map (·.1)) := ⟨_, rfl⟩
      refine ⟨[.own true (wN (ksD (done.map (·.1)))), .dv (.d (.list (ksD qs))), .dv (.d (ixD x)), .un, .un, .un], [.own true (wN (ksD ((done ++ [x]).map (·.1)))), .dv (.d (.list (ksD qs))), .dv (.d (ixD x)), .un, .un, .un], by simp, ?_, done ++ [x], _, by simp [ed], rfl⟩
      rw [← ek1] at e1 e2
      rw [← ek2] at e2
      rw [← ek1, ← ek2]
      simp [ixD, hn, e1, e2, e3, e4]
  rw [List.append_nil] at ed
  subst ed eδ
  refine ⟨s2, ?_⟩
  rw [nums_zip, e]
  congr 5
  rw [List.zipIdx_map_fst]
theorem noted2 {qs : List P3} (hq : QsOk qs) (xs : List Int) (s2 s4 s5 : SV (L59 K C1 C2)) : ∃ s5', sForN (L := L59 K C1 C2) (uName 5) (sIf (tstAnd (tstOr (tst (eOp gLt (eVar 5) (eC (.int 0)))) (tst (eOp gGe (eVar 5) (eVar 3)))) (tstNot (tst (thaw (eCall (F_law_refused) (aCons (eVar 0) (aCons (eVar 5) (aNil)))))))) (sRet (eC (.bool false))) (sNil)) (xs.map fun i => DV.d (.int i)) [.own true (wN (ksD qs)), .dv (.d (.list (ksD qs))), s2, .dv (.d (.int qs.length)), s4, s5] =
    some (.nx, [.own true (wN (ksD qs)), .dv (.d (.list (ksD qs))), s2, .dv (.d (.int qs.length)), s4, s5']) := by
  obtain ⟨δ', e, s5', eδ⟩ := sForN_inv (L := L59 K C1 C2) (u := uName 5) (b := (sIf (tstAnd (tstOr (tst (eOp gLt (eVar 5) (eC (.int 0)))) (tst (eOp gGe (eVar 5) (eVar 3)))) (tstNot (tst (thaw (eCall (F_law_refused) (aCons (eVar 0) (aCons (eVar 5) (aNil)))))))) (sRet (eC (.bool false))) (sNil))) (inj := fun i => DV.d (.int i))
    (I := fun r δ => ∃ (s5 : SV (L59 K C1 C2)), δ = [.own true (wN (ksD qs)), .dv (.d (.list (ksD qs))), s2, .dv (.d (.int qs.length)), s4, s5]) xs
    [.own true (wN (ksD qs)), .dv (.d (.list (ksD qs))), s2, .dv (.d (.int qs.length)), s4, s5] ⟨_, rfl⟩ fun i r δ ⟨s5, eδ⟩ => by
      subst eδ
      have e1 := refused_eq (K := K) (C1 := C1) (C2 := C2) (ds := ksD qs) (i := i)
      rw [ksD_len] at e1
      refine ⟨[.own true (wN (ksD qs)), .dv (.d (.list (ksD qs))), s2, .dv (.d (.int qs.length)), s4, .dv (.d (.int i))], [.own true (wN (ksD qs)), .dv (.d (.list (ksD qs))), s2, .dv (.d (.int qs.length)), s4, .dv (.d (.int i))], by simp, ?_, _, rfl⟩
      by_cases c : i < 0
      · have h2 : ¬ 0 ≤ i := by omega
        simp [c, e1, h2]
      · by_cases c2 : (qs.length : Int) ≤ i
        · have h2 : ¬ i < (qs.length : Int) := by omega
          simp [c, c2, e1, h2]
        · simp [c, c2]
  subst eδ
  exact ⟨s5', e⟩
theorem noted_eq {qs : List P3} (hq : QsOk qs) : F_law_noted (K := K) (C1 := C1) (C2 := C2) [.own true (wN []), .dv (.d (.list (ksD qs)))] = some (.dv (.d (.bool true)), some (wN (ksD qs))) := by
  obtain ⟨s2, e1⟩ := noted1 (K := K) (C1 := C1) (C2 := C2) hq
  obtain ⟨xs, exs⟩ : ∃ xs : List Int, xs = [0 - 1, 0 - (qs.length : Int), 0 - (qs.length : Int) - 1, (qs.length : Int), (qs.length : Int) + 1, 1000000000000, 0 - 1000000000000] := ⟨_, rfl⟩
  have e2 := noted2 (K := K) (C1 := C1) (C2 := C2) hq xs s2 (.dv (.d (.list (xs.map PyData.int)))) .un
  obtain ⟨s5, e2⟩ := e2
  have hr := fun δ => kR1_j (L := L59 K C1 C2) (δ := δ) (j := (qs.length : Int)) (by omega) (by have := hq.2; omega)
  simp only [Int.toNat_natCast] at hr
  have hl := ksD_len qs
  subst exs
  simp only [List.map_cons, List.map_nil] at e2
  simp at e2
  simp [F_law_noted, fnD_k, B_law_noted, hl, hr, kFo_s, e1, e2]
end
end DL.M
set_option Elab.async false
set_option linter.all false
set_option maxRecDepth 100000
set_option maxHeartbeats 2000000
/-! M22: _law_behind. -/
namespace DL.M
open PySem PySem.Spec L2 TK PySem.W
open PyProof.Rows hiding St
variable [CN]
variable {K : PySem.W.Frag} {C1 C2 : Addr}
section
variable {δ δ1 δ2 : List (SV (L59 K C1 C2))}
theorem gone_free {bs : List Bar} {q : P3} : gone bs (q.without (gone bs q)) = [] := by
  refine List.eq_nil_iff_forall_not_mem.mpr fun n hn => ?_
  obtain ⟨h1, h2⟩ := gone_mem.mp hn
  obtain ⟨h3, h4⟩ := Pap.names_without q _ h1
  exact h4 (gone_mem.mpr ⟨h3, h2⟩)
theorem hang_free (bs : List Bar) (qs : List P3) : hangD bs (freeQ bs qs) = [] := by
  unfold hangD
  rw [List.filter_eq_nil_iff.mpr fun p hp => ?_, List.map_nil]
  have h := List.mem_of_getElem? (zip_mem hp)
  obtain ⟨q, _, e⟩ := List.mem_map.mp (show p.1 ∈ qs.map fun q => q.without (gone bs q) from h)
  rw [← e]
  simp [hang, gone_free]
theorem stale_free (bs : List Bar) (qs : List P3) : staleD bs (freeQ bs qs) = [] := by
  unfold staleD
  rw [List.filter_eq_nil_iff.mpr fun p hp => ?_, List.map_nil]
  have h := List.mem_of_getElem? (zip_mem hp)
  obtain ⟨q, _, e⟩ := List.mem_map.mp (show p.1 ∈ qs.map fun q => q.without (gone bs q) from h)
  rw [← e]
  simp [dif, gone_free]
theorem free_free {bs : List Bar} {qs : List P3} (hq : QsOk qs) : freeQ bs (freeQ bs qs) = freeQ bs qs := by
  unfold freeQ
  rw [List.map_map]
  refine List.map_congr_left fun q h => ?_
  show (q.without (gone bs q)).without (gone bs (q.without (gone bs q))) = _
  rw [gone_free]
  exact Pap.without_nil _ ((hq.1 q h).without _).ok
theorem law_freed_map {bs : List Bar} (hb : BsOk bs) {qs : List P3} (hq : QsOk qs) {i : Nat} {s0 s1 s2 s3 s4 s5 s6 : SV (L59 K C1 C2)} (hi : i = 3 ∧ s3 = .dv (.d (bsD bs)) ∨ i = 4 ∧ s4 = .dv (.d (bsD bs))) :
    lcN (L := L59 K C1 C2) [7] (uName 7) cYes (eCall (F_law_freed) (aCons (eVar 7) (aCons (eVar i) (aNil)))) ((ksD qs).map DV.d) [s0, s1, s2, s3, s4, s5, s6, .un] [] = some (ksD (freeQ bs qs), [s0, s1, s2, s3, s4, s5, s6, .un]) := by
  have em : (ksD qs).map (DV.d (L := L59 K C1 C2)) = qs.map fun p => DV.d (papD p) := by unfold ksD; rw [List.map_map]; rfl
  have e := lcN_map (L := L59 K C1 C2) (δ := [s0, s1, s2, s3, s4, s5, s6, .un]) (vs := [7]) (u := uName 7) (c := cYes) (f := eCall (F_law_freed) (aCons (eVar 7) (aCons (eVar i) (aNil)))) (inj := fun p => DV.d (papD p)) (g := fun q => papD (q.without (gone bs q))) qs [] fun x hx => by
    have e2 := law_freed_eq (L := L59 K C1 C2) hb (hq.1 x hx)
    refine ⟨[s0, s1, s2, s3, s4, s5, s6, .dv (.d (papD x))], [s0, s1, s2, s3, s4, s5, s6, .dv (.d (papD x))], [s0, s1, s2, s3, s4, s5, s6, .dv (.d (papD x))], by simp, by simp, ?_, by simp⟩
    rcases hi with ⟨rfl, rfl⟩ | ⟨rfl, rfl⟩ <;> simp [e2]
  have ef : ksD (freeQ bs qs) = qs.map fun q => papD (q.without (gone bs q)) := by unfold ksD freeQ; rw [List.map_map]; rfl
  rw [em, e, ef]
  rfl
theorem bs_append {as bs : List Bar} (ha : BsOk as) (hb : BsOk bs) (hl : as.length + bs.length < 50) : BsOk (as ++ bs) := ⟨fun x hx => by
  rcases List.mem_append.mp hx with h | h
  · exact ha.1 x h
  · exact hb.1 x h, by rw [List.length_append]; exact hl⟩
theorem same_nil : F_law_same (L := L59 K C1 C2) 16 [.dv (.d (.list [])), .dv (.d (.list []))] = some (.dv (.d (.bool true)), none) := same_ints (by simp) (by simp)
theorem gNe_nil : gNe (.list []) (.list []) = some (.bool false) := by
  rw [gNe_eq shaped_nil shaped_nil]
  simp [PyData.eqv, PyData.eqvAll]
theorem behind_eq {qs : List P3} (hq : QsOk qs) (hql : qs.length < 400) {more : P3} (hm : GP more) {bs cs : List Bar} (hb : BsOk bs) (hc : BsOk cs) (hl : cs.length + bs.length < 50) :
    ∃ ks : List PD, ks.length = qs.length + 1 ∧ F_law_behind (K := K) (C1 := C1) (C2 := C2) [.own true (wN (ksD qs)), .dv (.d (.list (ksD qs))), .dv (.d (papD more)), .dv (.d (bsD bs)), .dv (.d (bsD cs))] = some (.dv (.d (.bool true)), some (wN ks)) := by
  obtain ⟨k1, b1, e1⟩ := law_book_eq (K := K) (C1 := C1) (C2 := C2) (bs := bs) (by have := hb.2; omega)
  obtain ⟨k2, b2, e2⟩ := law_book_eq (K := K) (C1 := C1) (C2 := C2) (bs := cs) (by have := hc.2; omega)
  have q1 := freeQ_ok (bs := bs) hq
  have l1 : (freeQ bs qs).length = qs.length := by unfold freeQ; rw [List.length_map]
  have q2 : QsOk (freeQ bs qs ++ [more]) := ⟨fun q h => by
    rcases List.mem_append.mp h with h | h
    · exact q1.1 q h
    · rw [List.mem_singleton.mp h]; exact hm, by rw [List.length_append, l1, List.length_singleton]; omega⟩
  have q3 := freeQ_ok (bs := cs) q2
  have bc := bs_append hc hb hl
  -- the first strike
  have s1 := strike_eq (K := K) (C1 := C1) (C2 := C2) b1 hb hq
  have t1 := law_stale_eq (L := L59 K C1 C2) hb hq
  have u1 := same_ints (L := L59 K C1 C2) (staleD_ints (bs := bs) (qs := qs)) (by have := staleD_len (bs := bs) (qs := qs); omega)
  have v1 : (staleD bs qs).length < 100000 := by have := staleD_len (bs := bs) (qs := qs); omega
  have f1 := fun s0 s1 s2 s4 s5 s6 => law_freed_map (K := K) (C1 := C1) (C2 := C2) hb hq (i := 3) (s0 := s0) (s1 := s1) (s2 := s2) (s3 := .dv (.d (bsD bs))) (s4 := s4) (s5 := s5) (s6 := s6) (.inl ⟨rfl, rfl⟩)
  have h1 := law_hanging_eq (L := L59 K C1 C2) hb q1
  rw [hang_free] at h1
  have a1 := both_eq (K := K) (C1 := C1) (C2 := C2) q1 hb hc
  -- the second one
  have s2 := strike_eq (K := K) (C1 := C1) (C2 := C2) b1 hb q1
  rw [stale_free, free_free hq] at s2
  have sn := same_nil (K := K) (C1 := C1) (C2 := C2)
  have nn := note_eq (K := K) (C1 := C1) (C2 := C2) (ds := ksD (freeQ bs qs)) (y := papD more) (by rw [ksD_len, l1]; omega)
  rw [ksD_len, l1] at nn
  have ka : ksD (freeQ bs qs) ++ [papD more] = ksD (freeQ bs qs ++ [more]) := by unfold ksD; rw [List.map_append]; rfl
  rw [ka] at nn
  have si := same_int (L := L59 K C1 C2) (i := (qs.length : Int))
  have gc : gCat (.list (ksD (freeQ bs qs))) (.list [papD more]) = some (ksD (freeQ bs qs ++ [more])) := by
    rw [gCat_eq (by rw [ksD_len, l1, List.length_singleton]; omega), ka]
  have gb : gCat (bsD cs) (bsD bs) = some ((cs ++ bs).map barD) := by
    unfold bsD
    rw [gCat_eq (by rw [List.length_map, List.length_map]; omega), List.map_append]
  have a2 := both_eq (K := K) (C1 := C1) (C2 := C2) q2 hb bc
  -- the later one
  have s3 := strike_eq (K := K) (C1 := C1) (C2 := C2) b2 hc q2
  have t3 := law_stale_eq (L := L59 K C1 C2) hc q2
  have lq : (freeQ bs qs ++ [more]).length < 450 := by rw [List.length_append, l1, List.length_singleton]; omega
  have u3 := same_ints (L := L59 K C1 C2) (staleD_ints (bs := cs) (qs := freeQ bs qs ++ [more])) (by have := staleD_len (bs := cs) (qs := freeQ bs qs ++ [more]); omega)
  have f3 := fun s0 s1 s2 s3 s5 s6 => law_freed_map (K := K) (C1 := C1) (C2 := C2) hc q2 (i := 4) (s0 := s0) (s1 := s1) (s2 := s2) (s3 := s3) (s4 := .dv (.d (bsD cs))) (s5 := s5) (s6 := s6) (.inr ⟨rfl, rfl⟩)
  have a3 := both_eq (K := K) (C1 := C1) (C2 := C2) q3 hb hc
  have k0 : (ksD qs).length = qs.length := ksD_len qs
  have kl1 : qs.length ≤ 100000 := by omega
  have kl2 : (ksD (freeQ bs qs ++ [more])).length ≤ 100000 := by rw [ksD_len]; omega
  have gn := gNe_nil
  have b3 : bsD (cs ++ bs) = .list ((cs ++ bs).map barD) := rfl
  rw [b3] at a2
  obtain ⟨K0, r0⟩ : ∃ x, x = ksD qs := ⟨_, rfl⟩
  obtain ⟨K1, r1⟩ : ∃ x, x = ksD (freeQ bs qs) := ⟨_, rfl⟩
  obtain ⟨K2, r2⟩ : ∃ x, x = ksD (freeQ bs qs ++ [more]) := ⟨_, rfl⟩
  obtain ⟨K3, r3⟩ : ∃ x, x = ksD (freeQ cs (freeQ bs qs ++ [more])) := ⟨_, rfl⟩
  obtain ⟨S1, r4⟩ : ∃ x, x = staleD bs qs := ⟨_, rfl⟩
  obtain ⟨S3, r5⟩ : ∃ x, x = staleD cs (freeQ bs qs ++ [more]) := ⟨_, rfl⟩
  obtain ⟨B1, r6⟩ : ∃ x, x = bsD bs := ⟨_, rfl⟩
  obtain ⟨B2, r7⟩ : ∃ x, x = bsD cs := ⟨_, rfl⟩
  obtain ⟨B3, r8⟩ : ∃ x, x = (cs ++ bs).map barD := ⟨_, rfl⟩
  obtain ⟨M0, r9⟩ : ∃ x, x = papD more := ⟨_, rfl⟩
  rw [← r0] at s1 t1 f1 k0 ⊢
  rw [← r1] at s1 f1 h1 a1 s2 nn gc
  rw [← r2] at nn gc a2 s3 t3 f3 kl2
  rw [← r3] at s3 f3 a3
  rw [← r4] at s1 t1 u1 v1
  rw [← r5] at s3 t3 u3
  rw [← r6] at e1 t1 f1 h1 a1 a2 a3 gb ⊢
  rw [← r7] at e2 a1 t3 f3 a3 gb ⊢
  rw [← r8] at gb a2
  rw [← r9] at nn gc ⊢
  refine ⟨K3, ?_, ?_⟩
  · rw [r3, ksD_len]
    unfold freeQ
    rw [List.length_map, List.length_append, List.length_map]
    rfl
  simp [F_law_behind, fnD_k, B_law_behind, e1, e2, s1, t1, u1, v1, f1, h1, a1, s2, sn, nn, si, gc, gb, a2, s3, t3, u3, f3, a3, k0, kl1, kl2, gn, kLc1_s]
end
end DL.M
set_option Elab.async false
set_option linter.all false
set_option maxRecDepth 100000
set_option maxHeartbeats 2000000
/-! M23: _law_paper, _law_strikes. -/
namespace DL.M
open PySem PySem.Spec L2 TK PySem.W
open PyProof.Rows hiding St
variable [CN]
variable {L : Lang}
@[simp] theorem gShr_i {i j : Int} (h : 0 ≤ j) : gShr (.int i) (.int j) = some (.int (i / 2 ^ j.toNat)) := by
  show (if decide (0 ≤ j) = true then some (PyData.int (i / 2 ^ j.toNat)) else none) = _
  rw [if_pos (decide_eq_true h)]
@[simp] theorem gAnd_i {i j : Int} : gAnd (.int i) (.int j) = some (.int (Builtin.bitAnd i j)) := nr rfl
theorem nums_zipA {A : Type} (qs : List A) : nums (L := L) 0 qs.length = qs.zipIdx.map fun p => DV.d (.int (p.2 : Nat)) := by
  unfold nums
  rw [List.zipIdx_eq_zip_range', ← List.range_eq_range']
  apply List.ext_getElem
  · simp
  · intro i h1 h2
    simp
theorem zip_atN {ns : List Nm} {p : Nm × Nat} (h : p ∈ ns.zipIdx) : atI (ns.map nmD) ((p.2 : Nat) : Int) = some (nmD p.1) := by
  obtain ⟨q, i⟩ := p
  rw [atI_nat, List.getElem?_map, List.mem_zipIdx_iff_getElem?.mp h]
  rfl
theorem cut_take {xs : List PD} {k : Nat} : cutD xs none (some (k : Int)) = xs.take k := by
  by_cases h : k ≤ xs.length
  · exact cut_to h
  · have h' : xs.length ≤ k := by omega
    unfold cutD
    rw [HT.sIx_nat, HT.sIx_none, List.drop_zero, Nat.sub_zero, Nat.min_eq_right h', List.take_length, List.take_of_length_le h']
theorem rows_of : ∀ (out : List PD), (∀ y ∈ out, ∃ v, y = vD v) → ∃ row : List (Option Int), out = row.map vD
  | [], _ => ⟨[], rfl⟩
  | y :: r, h => by
    obtain ⟨v, rfl⟩ := h y List.mem_cons_self
    obtain ⟨row, e⟩ := rows_of r fun z hz => h z (List.mem_cons_of_mem _ hz)
    exact ⟨v :: row, by rw [e]; rfl⟩
theorem gp_rf {ns : List Nm} {row : List (Option Int)} (hs : ns.Pairwise nlt) (hk : ∀ n ∈ ns, NmOk n) (hl : ns.length ≤ 3) : GP (rf ns.reverse row) := by
  obtain ⟨a, b, c, d⟩ := rf_ok (lt := nlt) ns.reverse row (List.pairwise_reverse.mpr hs)
  rw [List.length_reverse] at c d
  have hp : 2 ^ ns.length ≤ 2 ^ 3 := Nat.pow_le_pow_right (by decide) hl
  have h8 : (2 : Nat) ^ 3 = 8 := by decide
  exact ⟨a, fun n hn => hk n (List.mem_reverse.mp (b n hn)), by omega, by omega, Nat.le_trans (srt_len (srtN_srt _) fun n hn => List.mem_reverse.mp (b n ((srtN_mem n).mp hn))) (by omega)⟩
structure NsOk (ns : List Nm) : Prop where
  srt : ns.Pairwise nlt
  ok : ∀ n ∈ ns, NmOk n
  ne : 0 < ns.length
  le : ns.length ≤ 5
def menuD : List PD := [.none, .int 1, .int 0, .int (0 - 2), .int 1, .int 1000000000, .int 0]
theorem law_paper_eq {p : Pool} (hp : PlOk p) {ns : List Nm} (hn : NsOk ns) : ∃ (q : P3) (p' : Pool), GP q ∧ PlOk p' ∧ F_law_paper (L := L) [.own true (.lst (plD p)), .dv (.d (.list (ns.map nmD)))] = some (.dv (.d (papD q)), some (.lst (plD p'))) := by
  obtain ⟨v1, p1, a1, b1, h1, e1⟩ := drawX (L := L) (m := 31) (by decide) (by decide) hp
  -- some
  have ef := lcN_filter (L := L) (δ := [.own true (.lst (plD p1)), .dv (.d (.list (ns.map nmD))), .dv (.d (.int (1 + v1))), .un, .un, .un, .un, .un]) (vs := [6]) (u := uName 6) (c := (tst (eOp gEq (eOp gAnd (eOp gShr (eVar 2) (eVar 6)) (eC (.int 1))) (eC (.int 1))))) (f := (eOp gIx (eVar 1) (eVar 6))) (inj := fun x => DV.d (.int (x.2 : Nat))) (g := fun x => nmD x.1) (p := fun x => decide (Builtin.bitAnd ((1 + v1) / 2 ^ x.2) 1 = 1)) ns.zipIdx [] fun x hx => by
    have ex := zip_atN hx
    exact ⟨[.own true (.lst (plD p1)), .dv (.d (.list (ns.map nmD))), .dv (.d (.int (1 + v1))), .un, .un, .un, .dv (.d (.int (x.2 : Nat))), .un], [.own true (.lst (plD p1)), .dv (.d (.list (ns.map nmD))), .dv (.d (.int (1 + v1))), .un, .un, .un, .dv (.d (.int (x.2 : Nat))), .un], by simp, by simp, fun _ => ⟨[.own true (.lst (plD p1)), .dv (.d (.list (ns.map nmD))), .dv (.d (.int (1 + v1))), .un, .un, .un, .dv (.d (.int (x.2 : Nat))), .un], by simp [ex], by simp⟩, fun _ => by simp⟩
  rw [List.nil_append] at ef
  obtain ⟨ms, ems⟩ : ∃ ms : List Nm, ms = (ns.zipIdx.filter fun x => decide (Builtin.bitAnd ((1 + v1) / 2 ^ x.2) 1 = 1)).map (·.1) := ⟨_, rfl⟩
  have emm : (ns.zipIdx.filter fun x => decide (Builtin.bitAnd ((1 + v1) / 2 ^ x.2) 1 = 1)).map (fun x => nmD x.1) = ms.map nmD := by rw [ems, List.map_map]; rfl
  rw [emm] at ef
  have hsub : ms.Sublist ns := by
    rw [ems]
    have := (List.filter_sublist (l := ns.zipIdx) (p := fun x => decide (Builtin.bitAnd ((1 + v1) / 2 ^ x.2) 1 = 1))).map (·.1)
    rw [List.zipIdx_map_fst] at this
    exact this
  obtain ⟨some', es⟩ : ∃ s, s = ms.take 3 := ⟨_, rfl⟩
  have hsub2 : some'.Sublist ns := by rw [es]; exact (List.take_sublist 3 ms).trans hsub
  have ss : some'.Pairwise nlt := hn.srt.sublist hsub2
  have sk : ∀ n ∈ some', NmOk n := fun n h => hn.ok n (hsub2.subset h)
  have sl : some'.length ≤ 3 := by rw [es, List.length_take]; omega
  have ecut : cutD (ms.map nmD) none (some 3) = some'.map nmD := by
    have := cut_take (xs := ms.map nmD) (k := 3)
    rw [es, List.map_take]
    exact this
  have hr := fun δ => kR1_j (L := L) (δ := δ) (j := (ns.length : Int)) (by omega) (by have := hn.le; omega)
  simp only [Int.toNat_natCast, nums_zipA ns] at hr
  have hl1 : ns.length ≤ 100000 := by have := hn.le; omega
  -- row
  have ec := choices_eq (L := L) some' (by omega)
  simp only [nsD] at ec
  have hmenu : ∀ v : Int, 0 ≤ v → v < 7 → ∃ d, atI menuD v = some (vD d) := fun v h0 h7 => by
    obtain ⟨d, ed, hd⟩ := atI_in (l := menuD) h0 h7
    unfold menuD at hd
    simp only [List.mem_cons, List.not_mem_nil, or_false] at hd
    rcases hd with rfl | rfl | rfl | rfl | rfl | rfl | rfl
    · exact ⟨none, ed⟩
    · exact ⟨some 1, ed⟩
    · exact ⟨some 0, ed⟩
    · exact ⟨some (0 - 2), ed⟩
    · exact ⟨some 1, ed⟩
    · exact ⟨some 1000000000, ed⟩
    · exact ⟨some 0, ed⟩
  obtain ⟨out, δ', er, ⟨p2, s4, hp2, hz, eδ⟩, hlen, hJ⟩ := lcN_inv (L := L) (vs := [7]) (u := uName 7) (f := (eOp gIx (eVar 4) (eCallB 0 (F_law_draw) (aCons (eC (.int 7)) (aNil))))) (inj := fun c => DV.d (nsD c)) (I := fun δ => ∃ (p : Pool) (s4 : SV L), PlOk p ∧ Fz s4 menuD ∧ δ = [.own true (.lst (plD p)), .dv (.d (.list (ns.map nmD))), .dv (.d (.int (1 + v1))), .dv (.d (.list (some'.map nmD))), s4, .un, .un, .un]) (J := fun y => ∃ v, y = vD v) (chs some'.reverse)
    [.own true (.lst (plD p1)), .dv (.d (.list (ns.map nmD))), .dv (.d (.int (1 + v1))), .dv (.d (.list (some'.map nmD))), .own false (.lst menuD), .un, .un, .un] [] ⟨p1, _, h1, .inl rfl, rfl⟩ fun c hc δ ⟨p, s4, hp, hz, eδ⟩ => by
      subst eδ
      obtain ⟨v, p', a, b, h, e⟩ := drawX (L := L) (m := 7) (by decide) (by decide) hp
      obtain ⟨d, ed⟩ := hmenu v a b
      refine ⟨[.own true (.lst (plD p)), .dv (.d (.list (ns.map nmD))), .dv (.d (.int (1 + v1))), .dv (.d (.list (some'.map nmD))), s4, .un, .un, .dv (.d (nsD c))], vD d, [.own true (.lst (plD p')), .dv (.d (.list (ns.map nmD))), .dv (.d (.int (1 + v1))), .dv (.d (.list (some'.map nmD))), .dv (.d (.list menuD)), .un, .un, .dv (.d (nsD c))], by simp, ?_, ⟨d, rfl⟩, p', _, h, .inr rfl, by simp⟩
      rcases hz with rfl | rfl <;> simp [e, ed]
  subst eδ
  rw [List.nil_append] at er
  obtain ⟨row, erow⟩ := rows_of out hJ
  have hrl : row.length = 2 ^ some'.reverse.length := by
    have := hlen
    rw [erow, List.length_map, chs_len] at this
    exact this
  have e8 := fold_eq (L := L) some'.reverse row 12 (by rw [List.length_reverse]; omega) (by rw [List.length_reverse]; omega) hrl (List.pairwise_reverse.mpr ss) fun m hm => sk m (List.mem_reverse.mp hm)
  rw [List.reverse_reverse] at e8
  refine ⟨rf some'.reverse row, p2, gp_rf ss sk sl, hp2, ?_⟩
  have emc : ((chs some'.reverse).map nsD).map (DV.d (L := L)) = (chs some'.reverse).map fun c => DV.d (nsD c) := by rw [List.map_map]; rfl
  have hp8 : 2 ^ some'.length ≤ 2 ^ 3 := Nat.pow_le_pow_right (by decide) sl
  have hlc : (chs some'.reverse).length ≤ 100000 := by
    rw [chs_len, List.length_reverse]
    have : (2 : Nat) ^ 3 = 8 := by decide
    omega
  subst erow
  simp only [nsD, rowD] at er e8 emc
  unfold menuD at er
  simp at er
  simp [F_law_paper, fnD_k, B_law_paper, e1, hr, kLc1_s, hl1, ef, ecut, ec, emc, hlc, er, e8]
theorem law_strikes_eq {p : Pool} (hp : PlOk p) {ns : List Nm} (hn : NsOk ns) : ∃ (bs : List Bar) (p' : Pool), (∀ x ∈ bs, BarOk x) ∧ bs.length ≤ 3 ∧ PlOk p' ∧ F_law_strikes (L := L) [.own true (.lst (plD p)), .dv (.d (.list (ns.map nmD)))] = some (.own (.lst (bs.map barD)), some (.lst (plD p'))) := by
  obtain ⟨v1, p1, a1, b1, h1, e1⟩ := drawX (L := L) (m := 4) (by decide) (by decide) hp
  obtain ⟨ks, ek, hk⟩ := nums_ints (L := L) 0 v1.toNat
  obtain ⟨δ', e, p2, bs, s3, s4, s5, s6, hp2, hb, hbl, eδ⟩ := sForN_inv (L := L) (u := uName 3) (b := (sSeq (sSet 4 (eCallB 0 (F_law_pick) (aCons (eVar 1) (aNil)))) (sSeq (sSet 5 (eOp gIx (eLst (aCons (eOp gAdd (eOp gIx (eVar 4) (eC (.int 1))) (eC (.int 1))) (aCons (eOp gIx (eVar 4) (eC (.int 1))) (aCons (eC (.int 100)) (aCons (eC (.int 60)) (aCons (eC (.int 0)) (aCons (eOp gAdd (eOp gIx (eVar 4) (eC (.int 1))) (eC (.int 1))) (aNil)))))))) (eCallB 0 (F_law_draw) (aCons (eC (.int 6)) (aNil))))) (sSeq (sSet 6 (eIf (tst (eOp gEq (eOp gIx (eVar 4) (eC (.int 2))) (eC (.str "")))) (eC (.str "bob")) (eOp gIx (eVar 4) (eC (.int 2))))) (sApp 2 (eTup (aCons (eOp gIx (eVar 4) (eC (.int 0))) (aCons (eVar 6) (aCons (eIf (tst (eOp gLe (eVar 5) (eC (.int 60)))) (eVar 5) (eC (.int 100))) (aNil)))))))))) (inj := fun k => DV.d (.int k))
    (I := fun r δ => ∃ (p : Pool) (bs : List Bar) (s3 s4 s5 s6 : SV L), PlOk p ∧ (∀ x ∈ bs, BarOk x) ∧ bs.length + r.length ≤ 3 ∧ δ = [.own true (.lst (plD p)), .dv (.d (.list (ns.map nmD))), .own false (.lst (bs.map barD)), s3, s4, s5, s6]) ks
    [.own true (.lst (plD p1)), .dv (.d (.list (ns.map nmD))), .own false (.lst []), .un, .un, .un, .un] ⟨p1, [], _, _, _, _, h1, by simp, by simp; omega, rfl⟩ fun k r δ ⟨p, bs, s3, s4, s5, s6, hp, hb, hbl, eδ⟩ => by
      subst eδ
      obtain ⟨d, hd, p', hp', ed⟩ := pick_eq (L := L) (row := ns.map nmD) hp (by rw [List.length_map]; exact hn.ne) (by rw [List.length_map]; have := hn.le; omega)
      obtain ⟨n, hnn, rfl⟩ := List.mem_map.mp hd
      have hok := hn.ok n hnn
      obtain ⟨v, p'', a, b, h, e⟩ := drawX (L := L) (m := 6) (by decide) (by decide) hp'
      obtain ⟨dd, edd, hdd⟩ := atI_in (l := [PyData.int (n.k + 1), .int n.k, .int 100, .int 60, .int 0, .int (n.k + 1)]) a b
      obtain ⟨bd, rfl⟩ : ∃ bd : Int, dd = .int bd := by
        simp only [List.mem_cons, List.not_mem_nil, or_false] at hdd
        rcases hdd with rfl | rfl | rfl | rfl | rfl | rfl <;> exact ⟨_, rfl⟩
      have ee := gEq_s hok.2.2 ok_e
      obtain ⟨bb, ebb⟩ : ∃ bb : Int, bb = if bd ≤ 60 then bd else 100 := ⟨_, rfl⟩
      have hl9 : bs.length < 100000 := by simp at hbl; omega
      obtain ⟨ow, eow⟩ : ∃ ow : Str, ow = if n.o = "" then ("bob" : Str) else n.o := ⟨_, rfl⟩
      have how : PyData.strOk ow = true ∧ ow ≠ "" := by
        by_cases c : n.o = ""
        · rw [if_pos c] at eow
          rw [eow]
          exact ⟨ok_bob, by decide +kernel⟩
        · rw [if_neg c] at eow
          rw [eow]
          exact ⟨hok.2.2, c⟩
      refine ⟨[.own true (.lst (plD p)), .dv (.d (.list (ns.map nmD))), .own false (.lst (bs.map barD)), .dv (.d (.int k)), s4, s5, s6], [.own true (.lst (plD p'')), .dv (.d (.list (ns.map nmD))), .own false (.lst ((bs ++ [Bar.mk n.h ow bb]).map barD)), .dv (.d (.int k)), .dv (.d (nmD n)), .dv (.d (.int bd)), .dv (.d (.str ow))], by simp, ?_, p'', bs ++ [Bar.mk n.h ow bb], _, _, _, _, h, fun x hx => ?_, by simp at hbl ⊢; omega, rfl⟩
      · rw [List.map_append]
        obtain ⟨acc, eacc⟩ : ∃ acc, acc = bs.map barD := ⟨_, rfl⟩
        have hla : acc.length < 100000 := by rw [eacc, List.length_map]; exact hl9
        rw [← eacc]
        simp only [nmD] at ed
        by_cases c : n.o = ""
        · rw [decide_eq_true c] at ee
          rw [if_pos c] at eow
          by_cases c2 : bd ≤ 60
          · rw [if_pos c2] at ebb
            simp [ed, e, edd, ee, c2, hla, nmD, barD, eow, ebb]
          · rw [if_neg c2] at ebb
            simp [ed, e, edd, ee, c2, hla, nmD, barD, eow, ebb]
        · rw [decide_eq_false c] at ee
          rw [if_neg c] at eow
          by_cases c2 : bd ≤ 60
          · rw [if_pos c2] at ebb
            simp [ed, e, edd, ee, c2, hla, nmD, barD, eow, ebb]
          · rw [if_neg c2] at ebb
            simp [ed, e, edd, ee, c2, hla, nmD, barD, eow, ebb]
      · rcases List.mem_append.mp hx with hx | hx
        · exact hb x hx
        · rw [List.mem_singleton.mp hx]
          exact ⟨hok.2.1, how.1, how.2⟩
  subst eδ
  rw [← ek] at e
  have hr := fun δ => kR1_j (L := L) (δ := δ) (j := v1) a1 (by omega)
  refine ⟨bs, p2, hb, by simpa using hbl, hp2, ?_⟩
  simp [F_law_strikes, fnD_k, B_law_strikes, e1, hr, kFo_s, e]
end DL.M
set_option Elab.async false
set_option linter.all false
set_option maxRecDepth 100000
set_option maxHeartbeats 4000000
/-! M24: _law_chain. -/
namespace DL.M
open PySem PySem.Spec L2 TK PySem.W
open PyProof.Rows hiding St
variable [CN]
variable {L : Lang}
theorem nlt_num {h o o' : Str} {a b : Int} (hab : a < b) : nlt ⟨h, a, o⟩ ⟨h, b, o'⟩ := by
  have hne : (Sum.inl a : Int ⊕ List Nat) ≠ Sum.inl b := fun e => by
    have := Sum.inl.inj e
    omega
  show PyProof.Rows.lexLt itemOrd (keyToks (nmD ⟨h, a, o⟩)) (keyToks (nmD ⟨h, b, o'⟩)) = true
  have e : ∀ (x : Int) (y : Str), keyToks (nmD ⟨h, x, y⟩) = [Sum.inl 1, Sum.inr h.cps.toList, Sum.inl 1] ++ (Sum.inl x :: [Sum.inl 1, Sum.inr y.cps.toList, Sum.inl 0]) := fun x y => by
    simp [nmD, keyToks, keyToksAll]
  rw [e, e, lex_pre, lex_diff (O := itemOrd) hne]
  exact decide_eq_true hab
/-- what the chain's loop keeps -/
structure ChOk (h : Str) (num : Int) (n : Nat) (q : P3) : Prop where
  ok : q.Ok nlt
  nm : ∀ m ∈ q.names, m.h = h ∧ m.k < num ∧ NmOk m
  dp : q.depth ≤ n
  sz : q.size ≤ n
  nl : q = .leaf (some (-1)) ∨ isNode q = true
theorem ch_step {h : Str} {num : Int} {n : Nat} {q : P3} (c : ChOk h num n q) (hh : PyData.strOk h = true) (h0 : 0 ≤ num) {person : Str} (hp : PyData.strOk person = true) {lv : Option Int} (hlv : lv ≠ some (-1)) {num' : Int} (hn : num < num') (t : Bool) :
    ChOk h num' (n + 1) (if t = true then .node ⟨h, num, person⟩ q (.leaf lv) else .node ⟨h, num, person⟩ (.leaf lv) q) := by
  have hne : q ≠ .leaf lv := fun e => by
    rcases c.nl with z | z
    · rw [e] at z
      exact hlv (by injection z)
    · rw [e] at z
      cases z
  have lt : ∀ m ∈ q.names, nlt m ⟨h, num, person⟩ := fun m hm => by
    obtain ⟨a, b, _⟩ := c.nm m hm
    obtain ⟨mh, mk, mo⟩ := m
    simp only at a b
    subst a
    exact nlt_num b
  have nok : NmOk ⟨h, num, person⟩ := ⟨h0, hh, hp⟩
  have nn : ∀ m ∈ q.names, m.h = h ∧ m.k < num' ∧ NmOk m := fun m hm => by
    obtain ⟨a, b, d⟩ := c.nm m hm
    exact ⟨a, by omega, d⟩
  have dp := c.dp
  have sz := c.sz
  cases t with
  | true =>
    refine ⟨⟨c.ok, trivial, hne, lt, fun m hm => absurd hm (by simp [Pap.names])⟩, fun m hm => ?_, ?_, ?_, .inr rfl⟩
    · simp [Pap.names] at hm
      rcases hm with rfl | hm
      · exact ⟨rfl, hn, nok⟩
      · exact nn m hm
    · simp [Pap.depth]; omega
    · simp [Pap.size]; omega
  | false =>
    refine ⟨⟨trivial, c.ok, fun e => hne e.symm, fun m hm => absurd hm (by simp [Pap.names]), lt⟩, fun m hm => ?_, ?_, ?_, .inr rfl⟩
    · simp [Pap.names] at hm
      rcases hm with rfl | hm
      · exact ⟨rfl, hn, nok⟩
      · exact nn m hm
    · simp [Pap.depth]; omega
    · simp [Pap.size]; omega
theorem ch_gp {h : Str} {num : Int} {q : P3} (c : ChOk h num 10 q) : GP q where
  ok := c.ok
  nm := fun m hm => (c.nm m hm).2.2
  dp := c.dp
  sz := by have := c.sz; omega
  wd := by
    have h1 := srtN_len q.names
    have h2 := c.sz
    rw [names_len] at h1
    omega
theorem chain_step {p : Pool} (hp : PlOk p) {h o : Str} (hh : PyData.strOk h = true) (ho : PyData.strOk o = true) {odd num : Int} (h0 : 0 ≤ num) {n : Nat} {q : P3} (c : ChOk h num n q) {bl : List Int} (hbl : bl.length < 100) {k : Int} (k0 : 0 ≤ k) (k9 : k < 10) {s8 s9 s10 s11 s12 s13 : SV L} :
    ∃ (q' : P3) (num' : Int) (p' : Pool) (s8' s9' s10' s11' s12' s13' : SV L), PlOk p' ∧ num < num' ∧ ChOk h num' (n + 1) q' ∧ (sSeq (sSet 8 (eVar 2)) (sSeq (sIf (tst (eOp gEq (eOp gMod (eCB cInt (aCons (eVar 7) (aNil))) (eC (.int 5))) (eVar 3))) (sSet 8 (eIf (tst (eOp gLt (eVar 7) (eC (.int 5)))) (eC (.str "")) (eC (.str "al")))) (sNil)) (sSeq (sSet 9 (eOp gIx (eLst (aCons (eVar 7) (aCons (eOp gSub (eOp gPow (eC (.int 10)) (eC (.int 9))) (eVar 7)) (aCons (eOp gSub (eOp gSub (eC (.int 0)) (eC (.int 2))) (eVar 7)) (aNil))))) (eCallB 0 (F_law_draw) (aCons (eC (.int 3)) (aNil))))) (sSeq (sSet 10 (eTup (aCons (eC (.str "is")) (aCons (eIf (tst (eOp gEq (eVar 7) (eVar 3))) (eC .none) (eVar 9)) (aNil))))) (sSeq (sSet 11 (eTup (aCons (eVar 1) (aCons (eVar 4) (aCons (eVar 8) (aNil)))))) (sSeq (sSet 12 (eCallB 0 (F_law_draw) (aCons (eC (.int 2)) (aNil)))) (sSeq (sSet 13 (eIf (tst (eOp gEq (eVar 12) (eC (.int 0)))) (eLst (aCons (eVar 5) (aCons (eVar 10) (aNil)))) (eLst (aCons (eVar 10) (aCons (eVar 5) (aNil)))))) (sSeq (sSet 5 (eTup (aCons (eC (.str "if")) (aCons (eVar 11) (aCons (eOp gIx (eVar 13) (eC (.int 0))) (aCons (eOp gIx (eVar 13) (eC (.int 1))) (aNil))))))) (sSeq (sSet 4 (eOp gAdd (eVar 4) (eC (.int 1)))) (sSeq (sApp 6 (eVar 4)) (sSet 4 (eOp gAdd (eVar 4) (eCallB 0 (F_law_draw) (aCons (eC (.int 5)) (aNil))))))))))))))) [.own true (.lst (plD p)), .dv (.d (.str h)), .dv (.d (.str o)), .dv (.d (.int odd)), .dv (.d (.int num)), .dv (.d (papD q)), .own false (.lst (bl.map PyData.int)), .dv (.d (.int k)), s8, s9, s10, s11, s12, s13, .un] =
      some (.nx, [.own true (.lst (plD p')), .dv (.d (.str h)), .dv (.d (.str o)), .dv (.d (.int odd)), .dv (.d (.int num')), .dv (.d (papD q')), .own false (.lst ((bl ++ [num + 1]).map PyData.int)), .dv (.d (.int k)), s8', s9', s10', s11', s12', s13', .un]) := by
  obtain ⟨v1, p1, a1, b1, h1, e1⟩ := drawX (L := L) (m := 3) (by decide) (by decide) hp
  obtain ⟨v2, p2, a2, b2, h2, e2⟩ := drawX (L := L) (m := 2) (by decide) (by decide) h1
  obtain ⟨v3, p3, a3, b3, h3, e3⟩ := drawX (L := L) (m := 5) (by decide) (by decide) h2
  obtain ⟨wd, ew, hw⟩ := atI_in (l := [PyData.int k, .int (1000000000 - k), .int (-2 - k)]) a1 b1
  obtain ⟨wv, rfl, hwv⟩ : ∃ wv : Int, wd = .int wv ∧ wv ≠ -1 := by
    simp only [List.mem_cons, List.not_mem_nil, or_false] at hw
    rcases hw with rfl | rfl | rfl
    · exact ⟨_, rfl, by omega⟩
    · exact ⟨_, rfl, by omega⟩
    · exact ⟨_, rfl, by omega⟩
  obtain ⟨person, eper⟩ : ∃ x : Str, x = if k.fmod 5 = odd then (if k < 5 then ("" : Str) else ("al" : Str)) else o := ⟨_, rfl⟩
  have hper : PyData.strOk person = true := by
    rw [eper]
    split
    · split
      · exact ok_e
      · exact ok_al
    · exact ho
  obtain ⟨lv, elv⟩ : ∃ x : Option Int, x = if k = odd then none else some wv := ⟨_, rfl⟩
  have hlv : lv ≠ some (-1) := by
    rw [elv]
    split
    · exact fun z => by cases z
    · exact fun z => hwv (Option.some.inj z)
  have hl9 : (bl.map PyData.int).length < 100000 := by rw [List.length_map]; omega
  have hq := ch_step c hh h0 hper hlv (num' := num + 1 + v3) (by omega) (decide (v2 = 0))
  obtain ⟨q', eq'⟩ : ∃ q', q' = if decide (v2 = 0) = true then Pap.node ⟨h, num, person⟩ q (.leaf lv) else .node ⟨h, num, person⟩ (.leaf lv) q := ⟨_, rfl⟩
  rw [← eq'] at hq
  refine ⟨q', num + 1 + v3, p3, .dv (.d (.str person)), .dv (.d (.int wv)), .dv (.d (papD (.leaf lv))), .dv (.d (nmD ⟨h, num, person⟩)), .dv (.d (.int v2)), .dv (.d (if decide (v2 = 0) = true then .list [papD q, papD (.leaf lv)] else .list [papD (.leaf lv), papD q])), h3, by omega, hq, ?_⟩
  rw [List.map_append]
  obtain ⟨acc, eacc⟩ : ∃ acc, acc = bl.map PyData.int := ⟨_, rfl⟩
  obtain ⟨pq, epq⟩ : ∃ pq, pq = papD q := ⟨_, rfl⟩
  rw [← eacc] at hl9 ⊢
  by_cases c1 : k.fmod 5 = odd
  · rw [if_pos c1] at eper
    have d1 : decide (k.fmod 5 = odd) = true := decide_eq_true c1
    by_cases c2 : k < 5
    · rw [if_pos c2] at eper
      have d2 : decide (k < 5) = true := decide_eq_true c2
      by_cases c3 : k = odd
      · by_cases c4 : v2 = 0
        · have d3 : decide (k = odd) = true := decide_eq_true c3
          rw [if_pos c3] at elv
          have d4 : decide (v2 = 0) = true := decide_eq_true c4
          simp only [d4, if_true, if_false, Bool.false_eq_true, reduceIte] at eq' ⊢
          simp [d1, d2, d3, d4, e1, e2, e3, ew, hl9, eper, elv, eq', papD, nmD, vD]
        · have d3 : decide (k = odd) = true := decide_eq_true c3
          rw [if_pos c3] at elv
          have d4 : decide (v2 = 0) = false := decide_eq_false c4
          simp only [d4, if_true, if_false, Bool.false_eq_true, reduceIte] at eq' ⊢
          simp [d1, d2, d3, d4, e1, e2, e3, ew, hl9, eper, elv, eq', papD, nmD, vD]
      · by_cases c4 : v2 = 0
        · have d3 : decide (k = odd) = false := decide_eq_false c3
          rw [if_neg c3] at elv
          have d4 : decide (v2 = 0) = true := decide_eq_true c4
          simp only [d4, if_true, if_false, Bool.false_eq_true, reduceIte] at eq' ⊢
          simp [d1, d2, d3, d4, e1, e2, e3, ew, hl9, eper, elv, eq', papD, nmD, vD]
        · have d3 : decide (k = odd) = false := decide_eq_false c3
          rw [if_neg c3] at elv
          have d4 : decide (v2 = 0) = false := decide_eq_false c4
          simp only [d4, if_true, if_false, Bool.false_eq_true, reduceIte] at eq' ⊢
          simp [d1, d2, d3, d4, e1, e2, e3, ew, hl9, eper, elv, eq', papD, nmD, vD]
    · rw [if_neg c2] at eper
      have d2 : decide (k < 5) = false := decide_eq_false c2
      by_cases c3 : k = odd
      · by_cases c4 : v2 = 0
        · have d3 : decide (k = odd) = true := decide_eq_true c3
          rw [if_pos c3] at elv
          have d4 : decide (v2 = 0) = true := decide_eq_true c4
          simp only [d4, if_true, if_false, Bool.false_eq_true, reduceIte] at eq' ⊢
          simp [d1, d2, d3, d4, e1, e2, e3, ew, hl9, eper, elv, eq', papD, nmD, vD]
        · have d3 : decide (k = odd) = true := decide_eq_true c3
          rw [if_pos c3] at elv
          have d4 : decide (v2 = 0) = false := decide_eq_false c4
          simp only [d4, if_true, if_false, Bool.false_eq_true, reduceIte] at eq' ⊢
          simp [d1, d2, d3, d4, e1, e2, e3, ew, hl9, eper, elv, eq', papD, nmD, vD]
      · by_cases c4 : v2 = 0
        · have d3 : decide (k = odd) = false := decide_eq_false c3
          rw [if_neg c3] at elv
          have d4 : decide (v2 = 0) = true := decide_eq_true c4
          simp only [d4, if_true, if_false, Bool.false_eq_true, reduceIte] at eq' ⊢
          simp [d1, d2, d3, d4, e1, e2, e3, ew, hl9, eper, elv, eq', papD, nmD, vD]
        · have d3 : decide (k = odd) = false := decide_eq_false c3
          rw [if_neg c3] at elv
          have d4 : decide (v2 = 0) = false := decide_eq_false c4
          simp only [d4, if_true, if_false, Bool.false_eq_true, reduceIte] at eq' ⊢
          simp [d1, d2, d3, d4, e1, e2, e3, ew, hl9, eper, elv, eq', papD, nmD, vD]
  · rw [if_neg c1] at eper
    have d1 : decide (k.fmod 5 = odd) = false := decide_eq_false c1
    by_cases c3 : k = odd
    · by_cases c4 : v2 = 0
      · have d3 : decide (k = odd) = true := decide_eq_true c3
        rw [if_pos c3] at elv
        have d4 : decide (v2 = 0) = true := decide_eq_true c4
        simp only [d4, if_true, if_false, Bool.false_eq_true, reduceIte] at eq' ⊢
        simp [d1, d3, d4, e1, e2, e3, ew, hl9, eper, elv, eq', papD, nmD, vD]
      · have d3 : decide (k = odd) = true := decide_eq_true c3
        rw [if_pos c3] at elv
        have d4 : decide (v2 = 0) = false := decide_eq_false c4
        simp only [d4, if_true, if_false, Bool.false_eq_true, reduceIte] at eq' ⊢
        simp [d1, d3, d4, e1, e2, e3, ew, hl9, eper, elv, eq', papD, nmD, vD]
    · by_cases c4 : v2 = 0
      · have d3 : decide (k = odd) = false := decide_eq_false c3
        rw [if_neg c3] at elv
        have d4 : decide (v2 = 0) = true := decide_eq_true c4
        simp only [d4, if_true, if_false, Bool.false_eq_true, reduceIte] at eq' ⊢
        simp [d1, d3, d4, e1, e2, e3, ew, hl9, eper, elv, eq', papD, nmD, vD]
      · have d3 : decide (k = odd) = false := decide_eq_false c3
        rw [if_neg c3] at elv
        have d4 : decide (v2 = 0) = false := decide_eq_false c4
        simp only [d4, if_true, if_false, Bool.false_eq_true, reduceIte] at eq' ⊢
        simp [d1, d3, d4, e1, e2, e3, ew, hl9, eper, elv, eq', papD, nmD, vD]
end DL.M
set_option Elab.async false
set_option linter.all false
set_option maxRecDepth 100000
set_option maxHeartbeats 4000000
/-! M25: _law_chain whole; _law_pool. -/
namespace DL.M
open PySem PySem.Spec L2 TK PySem.W
open PyProof.Rows hiding St
variable [CN]
section
variable {L : Lang}
theorem nums_in (n : Nat) : ∃ ks : List Int, nums (L := L) 0 n = ks.map (fun k => DV.d (.int k)) ∧ ks.length = n ∧ ∀ k ∈ ks, 0 ≤ k ∧ k < n :=
  ⟨(List.range n).map fun (i : Nat) => 0 + (i : Int), by unfold nums; rw [List.map_map]; rfl, by simp, fun k hk => by
    obtain ⟨i, hi, rfl⟩ := List.mem_map.mp hk
    have := List.mem_range.mp hi
    omega⟩
theorem pick_str {p : Pool} {xs : List Str} (hp : PlOk p) (h0 : 0 < xs.length) (h1 : xs.length < 1000) (hx : ∀ x ∈ xs, PyData.strOk x = true) : ∃ (x : Str) (p' : Pool), x ∈ xs ∧ PyData.strOk x = true ∧ PlOk p' ∧ F_law_pick (L := L) [.own true (.lst (plD p)), .dv (.d (.list (xs.map PyData.str)))] = some (.dv (.d (.str x)), some (.lst (plD p'))) := by
  obtain ⟨d, hd, p', hp', e⟩ := pick_eq (L := L) (row := xs.map PyData.str) hp (by rw [List.length_map]; exact h0) (by rw [List.length_map]; exact h1)
  obtain ⟨x, hm, rfl⟩ := List.mem_map.mp hd
  exact ⟨x, p', hm, hx x hm, hp', e⟩
theorem pick_int {p : Pool} {xs : List Int} (hp : PlOk p) (h0 : 0 < xs.length) (h1 : xs.length < 1000) : ∃ (x : Int) (p' : Pool), PlOk p' ∧ F_law_pick (L := L) [.own true (.lst (plD p)), .dv (.d (.list (xs.map PyData.int)))] = some (.dv (.d (.int x)), some (.lst (plD p'))) := by
  obtain ⟨d, hd, p', hp', e⟩ := pick_eq (L := L) (row := xs.map PyData.int) hp (by rw [List.length_map]; exact h0) (by rw [List.length_map]; exact h1)
  obtain ⟨x, hm, rfl⟩ := List.mem_map.mp hd
  exact ⟨x, p', hp', e⟩
variable {K : PySem.W.Frag} {C1 C2 : Addr}
theorem chain_eq {p : Pool} (hp : PlOk p) : ∃ (q : P3) (x y : Bar) (p' : Pool), GP q ∧ BarOk x ∧ BarOk y ∧ PlOk p' ∧ F_law_chain (K := K) (C1 := C1) (C2 := C2) [.own true (.lst (plD p))] = some (.own (.lst [papD q, barD x, barD y]), some (.lst (plD p'))) := by
  obtain ⟨h, p1, _, hh, hp1, e1⟩ := pick_str (L := L59 K C1 C2) (xs := ["A", "H", "C"]) hp (by decide) (by decide) (by simp)
  obtain ⟨o, p2, mo, ho, hp2, e2⟩ := pick_str (L := L59 K C1 C2) (xs := ["bob", "eve", "zoe"]) hp1 (by decide) (by decide) (by simp)
  have one : o ≠ "" := by
    simp only [List.mem_cons, List.not_mem_nil, or_false] at mo
    rcases mo with rfl | rfl | rfl <;> decide +kernel
  obtain ⟨odd, p3, _, _, hp3, e3⟩ := drawX (L := L59 K C1 C2) (m := 5) (by decide) (by decide) hp2
  obtain ⟨num, p4, n0, _, hp4, e4⟩ := drawX (L := L59 K C1 C2) (m := 6) (by decide) (by decide) hp3
  obtain ⟨ks, ek, hkl, hk⟩ := nums_in (L := L59 K C1 C2) 10
  have c0 : ChOk h num 0 (.leaf (some (-1))) := ⟨trivial, fun m hm => absurd hm (by simp [Pap.names]), Nat.le_refl _, Nat.le_refl _, .inl rfl⟩
  obtain ⟨δ', e, p5, n, q, num', bl, s7, s8, s9, s10, s11, s12, s13, hp5, hn0, hc, hbl, hn, eδ⟩ := sForN_inv (L := L59 K C1 C2) (u := uName 7) (b := (sSeq (sSet 8 (eVar 2)) (sSeq (sIf (tst (eOp gEq (eOp gMod (eCB cInt (aCons (eVar 7) (aNil))) (eC (.int 5))) (eVar 3))) (sSet 8 (eIf (tst (eOp gLt (eVar 7) (eC (.int 5)))) (eC (.str "")) (eC (.str "al")))) (sNil)) (sSeq (sSet 9 (eOp gIx (eLst (aCons (eVar 7) (aCons (eOp gSub (eOp gPow (eC (.int 10)) (eC (.int 9))) (eVar 7)) (aCons (eOp gSub (eOp gSub (eC (.int 0)) (eC (.int 2))) (eVar 7)) (aNil))))) (eCallB 0 (F_law_draw) (aCons (eC (.int 3)) (aNil))))) (sSeq (sSet 10 (eTup (aCons (eC (.str "is")) (aCons (eIf (tst (eOp gEq (eVar 7) (eVar 3))) (eC .none) (eVar 9)) (aNil))))) (sSeq (sSet 11 (eTup (aCons (eVar 1) (aCons (eVar 4) (aCons (eVar 8) (aNil)))))) (sSeq (sSet 12 (eCallB 0 (F_law_draw) (aCons (eC (.int 2)) (aNil)))) (sSeq (sSet 13 (eIf (tst (eOp gEq (eVar 12) (eC (.int 0)))) (eLst (aCons (eVar 5) (aCons (eVar 10) (aNil)))) (eLst (aCons (eVar 10) (aCons (eVar 5) (aNil)))))) (sSeq (sSet 5 (eTup (aCons (eC (.str "if")) (aCons (eVar 11) (aCons (eOp gIx (eVar 13) (eC (.int 0))) (aCons (eOp gIx (eVar 13) (eC (.int 1))) (aNil))))))) (sSeq (sSet 4 (eOp gAdd (eVar 4) (eC (.int 1)))) (sSeq (sApp 6 (eVar 4)) (sSet 4 (eOp gAdd (eVar 4) (eCallB 0 (F_law_draw) (aCons (eC (.int 5)) (aNil)))))))))))))))) (inj := fun k => DV.d (.int k))
    (I := fun r δ => ∃ (p : Pool) (n : Nat) (q : P3) (num : Int) (bl : List Int) (s7 s8 s9 s10 s11 s12 s13 : SV (L59 K C1 C2)), PlOk p ∧ 0 ≤ num ∧ ChOk h num n q ∧ bl.length = n ∧ (n + r.length = 10 ∧ ∀ k ∈ r, 0 ≤ k ∧ k < 10) ∧ δ = [.own true (.lst (plD p)), .dv (.d (.str h)), .dv (.d (.str o)), .dv (.d (.int odd)), .dv (.d (.int num)), .dv (.d (papD q)), .own false (.lst (bl.map PyData.int)), s7, s8, s9, s10, s11, s12, s13, .un]) ks
    [.own true (.lst (plD p4)), .dv (.d (.str h)), .dv (.d (.str o)), .dv (.d (.int odd)), .dv (.d (.int num)), .dv (.d (papD (.leaf (some (-1))))), .own false (.lst []), .un, .un, .un, .un, .un, .un, .un, .un] ⟨p4, 0, _, num, [], _, _, _, _, _, _, _, hp4, n0, c0, rfl, ⟨by omega, hk⟩, rfl⟩ fun k r δ ⟨p, n, q, num, bl, s7, s8, s9, s10, s11, s12, s13, hp, hn0, hc, hbl, ⟨hn, hr⟩, eδ⟩ => by
      subst eδ
      rw [List.length_cons] at hn
      obtain ⟨k0, k9⟩ := hr k List.mem_cons_self
      obtain ⟨q', num', p', s8', s9', s10', s11', s12', s13', hp', hlt, hc', e⟩ := chain_step (L := L59 K C1 C2) hp hh ho (odd := odd) hn0 hc (bl := bl) (by omega) k0 k9 (s8 := s8) (s9 := s9) (s10 := s10) (s11 := s11) (s12 := s12) (s13 := s13)
      exact ⟨[.own true (.lst (plD p)), .dv (.d (.str h)), .dv (.d (.str o)), .dv (.d (.int odd)), .dv (.d (.int num)), .dv (.d (papD q)), .own false (.lst (bl.map PyData.int)), .dv (.d (.int k)), s8, s9, s10, s11, s12, s13, .un], _, by simp, e, p', n + 1, q', num', bl ++ [num + 1], _, _, _, _, _, _, _, hp', by omega, hc', by rw [List.length_append, hbl]; rfl, ⟨by omega, fun j hj => hr j (List.mem_cons_of_mem _ hj)⟩, rfl⟩
  subst eδ
  rw [← ek] at e
  have hn10 : n = 10 := by simpa using hn.1
  subst hn10
  obtain ⟨b1, p6, hp6, e5⟩ := pick_int (L := L59 K C1 C2) (xs := bl.drop 4) hp5 (by rw [List.length_drop]; omega) (by rw [List.length_drop]; omega)
  have ecut : cutD (bl.map PyData.int) (some 4) none = (bl.drop 4).map PyData.int := by
    have := cut_from (xs := bl.map PyData.int) (k := 4) (by rw [List.length_map]; omega)
    rw [List.map_drop]
    exact this
  obtain ⟨b9, e9⟩ : ∃ b9 : Int, atI (bl.map PyData.int) 9 = some (.int b9) := by
    have h9 : 9 < bl.length := by omega
    refine ⟨bl[9], ?_⟩
    have := atI_nat (bl.map PyData.int) 9
    rw [List.getElem?_map, List.getElem?_eq_getElem h9] at this
    exact this
  obtain ⟨b2, p7, hp7, e6⟩ := pick_int (L := L59 K C1 C2) (xs := [60, b9, 100]) hp6 (by simp) (by simp)
  refine ⟨q, ⟨h, o, b1⟩, ⟨h, "al", b2⟩, p7, ch_gp hc, ⟨hh, ho, one⟩, ⟨hh, ok_al, (by decide +kernel : ("al" : Str) ≠ "")⟩, hp7, ?_⟩
  have hr := fun δ => kR1_j (L := L59 K C1 C2) (δ := δ) (j := 10) (by decide) (by decide)
  have h10 : (10 : Int).toNat = 10 := rfl
  simp only [h10] at hr
  simp only [List.map_cons, List.map_nil] at e1 e2 e6
  simp only [papD, vD] at e
  obtain ⟨x5, e55⟩ : ∃ x, x = (bl.drop 4).map PyData.int := ⟨_, rfl⟩
  rw [← e55] at ecut e5
  obtain ⟨x6, e66⟩ : ∃ x, x = bl.map PyData.int := ⟨_, rfl⟩
  rw [← e66] at ecut e e9
  simp [F_law_chain, fnD_k, B_law_chain, e1, e2, e3, e4, hr, kFo_s, e, ecut, e5, e9, e6, barD]
end
section
variable {K : PySem.W.Frag} {C1 C2 : Addr}
variable {δ δ1 δ2 : List (SV (L59 K C1 C2))}
theorem eSlScr_eq {f : Ev (L59 K C1 C2)} {fl fh : List (SV (L59 K C1 C2)) → OO (L59 K C1 C2)} {ns : List Int} {lo hi : Option Int} {δ3 : List (SV (L59 K C1 C2))} (e : frz f δ = some (.ob (oS ns), δ1)) (e1 : fl δ1 = some (lo, δ2)) (e2 : fh δ2 = some (hi, δ3)) : eSlScr f fl fh δ = some (.own (.lst (cutD (ns.map PyData.int) lo hi)), δ3) := by
  unfold eSlScr
  rw [e]
  show (match fl δ1 with
      | some (lo, δ2) => match fh δ2 with
        | some (hi, δ3) => some (RV.own (.lst (cutD (ns.map PyData.int) lo hi)), δ3)
        | none => none
      | none => none) = _
  rw [e1]
  dsimp only
  rw [e2]
theorem intsD_map : ∀ ns : List Int, intsD (ns.map PyData.int) = some ns
  | [] => rfl
  | n :: ns => by rw [List.map_cons, intsD, intsD_map ns]
theorem pool_eq {ns : List Int} (hl : ns.length ≤ 500) : ∃ p : Pool, PlOk p ∧ F_law_pool (K := K) (C1 := C1) (C2 := C2) [.dv (.ob (oS ns))] = some (.own (.lst (plD p)), none) := by
  obtain ⟨cs, ecs⟩ : ∃ cs : List Int, cs = (ns.take 63).map fun i => if i < 0 then -i else i := ⟨_, rfl⟩
  have hcl : cs.length ≤ 63 := by rw [ecs, List.length_map, List.length_take]; omega
  have e1 : eSlScr (K := K) (C1 := C1) (C2 := C2) (eVar 0) (oNone) (oSome (eC (.int 63))) [.dv (.ob (oS ns)), .un, .un] = some (.own (.lst ((ns.take 63).map PyData.int)), [.dv (.ob (oS ns)), .un, .un]) := by
    rw [eSlScr_eq (ns := ns) (lo := none) (hi := some 63) (δ1 := [.dv (.ob (oS ns)), .un, .un]) (δ2 := [.dv (.ob (oS ns)), .un, .un]) (δ3 := [.dv (.ob (oS ns)), .un, .un]) (by simp) (by simp) (by simp)]
    have := cut_take (xs := ns.map PyData.int) (k := 63)
    rw [List.map_take]
    rw [← this]
    rfl
  have e2 := lcN_map (L := L59 K C1 C2) (δ := [.dv (.ob (oS ns)), .un, .un]) (vs := [2]) (u := uName 2) (c := cYes) (f := (eCB cAbs (aCons (eVar 2) (aNil)))) (inj := fun i => DV.d (.int i)) (g := fun i => PyData.int (if i < 0 then -i else i)) (ns.take 63) [] fun i hi =>
    ⟨[.dv (.ob (oS ns)), .un, .dv (.d (.int i))], [.dv (.ob (oS ns)), .un, .dv (.d (.int i))], [.dv (.ob (oS ns)), .un, .dv (.d (.int i))], by simp, by simp, by simp [cAbs], by simp⟩
  have ec : (ns.take 63).map (fun i => PyData.int (if i < 0 then -i else i)) = cs.map PyData.int := by rw [ecs, List.map_map]; rfl
  rw [List.nil_append, ec] at e2
  have em : ((ns.take 63).map PyData.int).map (DV.d (L := L59 K C1 C2)) = (ns.take 63).map fun i => DV.d (.int i) := by rw [List.map_map]; rfl
  have hl2 : (ns.take 63).length ≤ 100000 := by rw [List.length_take]; omega
  have es : cSum [.list (cs.map PyData.int)] = some (.int cs.sum) := by
    simp only [cSum, intsD_map]
  refine ⟨(cs.sum.fmod 5039, cs), by unfold PlOk; dsimp only; omega, ?_⟩
  have eg : gCat (.list [.int (cs.sum.fmod 5039)]) (.list (cs.map PyData.int)) = some (plD (cs.sum.fmod 5039, cs)) := gCat_eq (by rw [List.length_map, List.length_singleton]; omega)
  obtain ⟨ts, ets⟩ : ∃ ts, ts = ns.take 63 := ⟨_, rfl⟩
  rw [← ets] at e1 e2 em hl2
  simp [F_law_pool, fnD_k, B_law_pool, e1, kLc1_s, em, hl2, e2, es, eg]
end
end DL.M
set_option Elab.async false
set_option linter.all false
set_option maxRecDepth 100000
set_option maxHeartbeats 4000000
/-! M26: _law_errors. -/
namespace DL.M
open PySem PySem.Spec L2 TK PySem.W
open PyProof.Rows hiding St
variable [CN]
section
variable {L : Lang}
def madeD : List PD := match F_law_made (L := L59 [] 0 0) [] with
  | some (.own (.lst ds), _) => ds
  | _ => []
theorem made_eq : F_law_made (L := L) [] = some (.own (.lst madeD), none) := by kernel_rfl
theorem made_len : madeD.length = 49 := by kernel_rfl
theorem texts_eq {t : Str} : F_law_texts (L := L) [.dv (.d (.str t))] = some (.own (.lst (List.replicate 15 (.str t))), none) := by kernel_rfl
theorem numbers_eq {m n : Int} : F_law_numbers (L := L) [.dv (.d (.int m)), .dv (.d (.int n))] = some (.own (.lst (List.replicate 31 (.int m))), none) := by kernel_rfl
theorem rep_eq {x : PD} {k : Int} (h0 : 0 ≤ k) (h : k < 1000) : gRep (.list [x]) (.int k) = some (List.replicate k.toNat x) := by
  have hc : (-(2 ^ 63) ≤ k ∧ k < 2 ^ 63) ∧ [x].length * k.toNat ≤ 100000 := ⟨by omega, by simp; omega⟩
  unfold gRep
  simp only [if_pos hc]
  congr 1
  generalize k.toNat = n
  induction n with
  | zero => rfl
  | succ n ih => rw [List.replicate_succ, List.flatten_cons, ih, List.replicate_succ]; rfl
end
section
variable {K : PySem.W.Frag} {C1 C2 : Addr}
theorem errs_loop {s0 s1 s2 s3 s4 : SV (L59 K C1 C2)} : sForN (L := L59 K C1 C2) (uName 6) (sSeq (sIf (tstOr (tstNot (tst (eIsX 49 (List.range 49) (eOp gIx (eVar 5) (eVar 6))))) (tstNot (tst (eIsX 49 (List.range 49) (eOp gIx (eVar 5) (eVar 6)))))) (sRet (eC (.bool false))) (sNil)) (sIf (tst (eOp gNe (eCall (F_law_kinds) (aCons (eOp gIx (eVar 5) (eVar 6)) (aNil))) (eLc [11] (iR1 (aCons (eCB cLen (aCons (eVar 5) (aNil))) (aNil))) (uName 11) cYes (eOp gEq (eVar 11) (eVar 6))))) (sRet (eC (.bool false))) (sNil))) (nums 0 49) [s0, s1, s2, s3, s4, .dv (.d (.list madeD)), .un, .un, .un, .un, .un, .un] =
    some (.nx, [s0, s1, s2, s3, s4, .dv (.d (.list madeD)), .dv (.d (.int 48)), .un, .un, .un, .un, .un]) := by kernel_rfl
end
end DL.M
set_option Elab.async false
set_option linter.all false
set_option maxRecDepth 100000
set_option maxHeartbeats 4000000
/-! M27: _law_errors whole. -/
namespace DL.M
open PySem PySem.Spec L2 TK PySem.W
open PyProof.Rows hiding St
variable [CN]
section
variable {L : Lang}
theorem fld_a {x y : PD} {a b : PD} : fldD "choice" [(.str "name", a), (.str "choice", b)] [y, x] = some x := by kernel_rfl
theorem fld_b {x y : PD} {a b : PD} : fldD "name" [(.str "name", a), (.str "choice", b)] [y, x] = some y := by kernel_rfl
theorem fld_c {x : PD} {a : PD} : fldD "choice" [(.str "choice", a)] [x] = some x := by kernel_rfl
theorem fld_k {x : PD} {a : PD} : fldD "key" [(.str "key", a)] [x] = some x := by kernel_rfl
@[simp] theorem ok_p : PyData.strOk ("p" : Str) = true := nr (by decide +kernel)
@[simp] theorem ok_A7 : PyData.strOk ("A7.bob" : Str) = true := nr (by decide +kernel)
@[simp] theorem ok_found : PyData.strOk ("found" : Str) = true := nr (by decide +kernel)
@[simp] theorem ok_of : PyData.strOk ("of" : Str) = true := nr (by decide +kernel)
theorem gCat_k {xs ys : List PD} : gCat (.list xs) (.list ys) = if xs.length + ys.length ≤ 100000 then some (xs ++ ys) else none := nr rfl
theorem sm_nm {n : Nm} (h : NmOk n) : smD (nmD n) = true := by simp [nmD, smD, smAll, h.2.1, h.2.2]
theorem dp_nm (n : Nm) : (nmD n).depth = 1 := by simp [nmD, PyData.depth, PyData.depthAll]
theorem same_rep {n : Nat} {x : PD} (hx : smD x = true) (hd : x.depth ≤ 1) (hn : n < 1000) : F_law_same (L := L) 16 [.dv (.d (.list (List.replicate n x))), .dv (.d (.list (List.replicate n x)))] = some (.dv (.d (.bool true)), none) := by
  refine same_eq 15 _ ?_ ?_
  · rw [smD, Bool.and_eq_true, decide_eq_true_eq, List.length_replicate]
    exact ⟨hn, smAll_of fun d hd => by rw [List.eq_of_mem_replicate hd]; exact hx⟩
  · rw [PyData.depth]
    have := depthAll_le (ds := List.replicate n x) (m := 1) fun d h => by rw [List.eq_of_mem_replicate h]; exact hd
    omega
end
section
variable {K : PySem.W.Frag} {C1 C2 : Addr}
theorem errors_eq {p : Pool} (hp : PlOk p) {ns : List Nm} (hn : NsOk ns) : ∃ p', PlOk p' ∧ F_law_errors (K := K) (C1 := C1) (C2 := C2) [.own true (.lst (plD p)), .dv (.d (.list (ns.map nmD)))] = some (.dv (.d (.bool true)), some (.lst (plD p'))) := by
  obtain ⟨word, p1, mw, hw, hp1, e1⟩ := pick_str (L := L59 K C1 C2) (xs := ["p", "", "A7.bob", "found", "of"]) hp (by decide) (by decide) (by simp)
  obtain ⟨v2, p2, a2, b2, hp2, e2⟩ := drawX (L := L59 K C1 C2) (m := 400) (by decide) (by decide) hp1
  obtain ⟨v3, p3, a3, b3, hp3, e3⟩ := drawX (L := L59 K C1 C2) (m := 60) (by decide) (by decide) hp2
  obtain ⟨n0, rest, rfl⟩ : ∃ n0 rest, ns = n0 :: rest := by
    cases ns with
    | nil => exact absurd hn.ne (by simp)
    | cons a b => exact ⟨a, b, rfl⟩
  have h0 := hn.ok n0 List.mem_cons_self
  have hr : ∀ n ∈ rest, NmOk n := fun n h => hn.ok n (List.mem_cons_of_mem _ h)
  have hle := hn.le
  rw [List.length_cons] at hle
  have em := made_eq (L := L59 K C1 C2)
  have el := errs_loop (K := K) (C1 := C1) (C2 := C2) (s0 := .own true (.lst (plD p3))) (s1 := .dv (.d (.list (nmD n0 :: rest.map nmD)))) (s2 := .dv (.d (.str word))) (s3 := .dv (.d (.int (1 + v2)))) (s4 := .dv (.d (.int (1 + v2 + 1 + v3))))
  have hk := fun δ => kR1_j (L := L59 K C1 C2) (δ := δ) (j := 49) (by decide) (by decide)
  have h49 : (49 : Int).toNat = 49 := rfl
  simp only [h49] at hk
  have ml := made_len
  have et := texts_eq (L := L59 K C1 C2) (t := word)
  have en := numbers_eq (L := L59 K C1 C2) (m := 1 + v2) (n := 1 + v2 + 1 + v3)
  have er1 := rep_eq (x := .str word) (k := 15) (by decide) (by decide)
  have er2 := rep_eq (x := .int (1 + v2)) (k := 31) (by decide) (by decide)
  have h15 : (15 : Int).toNat = 15 := rfl
  have h31 : (31 : Int).toNat = 31 := rfl
  rw [h15] at er1
  rw [h31] at er2
  have es1 := same_rep (L := L59 K C1 C2) (n := 15) (x := .str word) (by rw [smD]; exact hw) (by simp [PyData.depth]) (by decide)
  have es2 := same_rep (L := L59 K C1 C2) (n := 31) (x := .int (1 + v2)) (by rw [smD]) (by simp [PyData.depth]) (by decide)
  obtain ⟨R1, r1⟩ : ∃ x, x = List.replicate 15 (PyData.str word) := ⟨_, rfl⟩
  obtain ⟨R2, r2⟩ : ∃ x, x = List.replicate 31 (PyData.int (1 + v2)) := ⟨_, rfl⟩
  rw [← r1] at et er1 es1
  rw [← r2] at en er2 es2
  have ecut : cutD (nmD n0 :: rest.map nmD) (some 1) none = rest.map nmD := cut_from (xs := nmD n0 :: rest.map nmD) (k := 1) (by simp)
  have fin := same_eq (L := L59 K C1 C2) 15 (.list [.tuple (rest.map nmD), nmD n0, .tuple (rest.map nmD), .tuple [.str "A", .int (1 + v2)], .tuple [.str "A", .str "B", .str "A", .str word, .int (1 + v2 + 1 + v3)]]) (by
      have hs : smAll (rest.map nmD) = true := smAll_of fun d hd => by
        obtain ⟨n, hn, rfl⟩ := List.mem_map.mp hd
        exact sm_nm (hr n hn)
      have hl : rest.length < 1000 := by omega
      simp [smD, smAll, sm_nm h0, hs, hl, hw]) (by
      have hd : PyData.depthAll (rest.map nmD) ≤ 1 := depthAll_le fun d hd => by
        obtain ⟨n, hn, rfl⟩ := List.mem_map.mp hd
        rw [dp_nm]
        exact Nat.le_refl _
      simp [PyData.depth, PyData.depthAll, dp_nm]
      omega)
  refine ⟨p3, hp3, ?_⟩
  obtain ⟨MD, rm⟩ : ∃ x, x = madeD := ⟨_, rfl⟩
  rw [← rm] at em el ml
  simp only [List.map_cons, List.map_nil] at e1
  obtain ⟨RS, rr⟩ : ∃ x, x = rest.map nmD := ⟨_, rfl⟩
  rw [← rr] at el ecut fin
  rw [List.map_cons, ← rr]
  simp [F_law_errors, fnD_k, B_law_errors, e1, e2, e3, em, ml, hk, kFo_s, el, et, en, er1, er2, es1, es2, ecut, excD, fld_a, fld_b, fld_c, fld_k, gCat_k, fin]
end
end DL.M
set_option Elab.async false
set_option linter.all false
set_option maxRecDepth 100000
set_option maxHeartbeats 4000000
/-! M28: law. -/
namespace DL.M
open PySem PySem.Spec L2 TK PySem.W
open PyProof.Rows hiding St
variable [CN]
variable {K : PySem.W.Frag} {C1 C2 : Addr}
section
variable {δ δ1 δ2 : List (SV (L59 K C1 C2))}
theorem cut_dropA {xs : List PD} {k : Nat} : cutD xs (some (k : Int)) none = xs.drop k := by
  by_cases h : k ≤ xs.length
  · exact cut_from h
  · have h' : xs.length ≤ k := by omega
    unfold cutD
    rw [HT.sIx_nat, HT.sIx_none, Nat.min_eq_right h', List.drop_length, List.drop_eq_nil_of_le h', List.take_nil]
def kPN (δ : List (SV (L59 K C1 C2))) : Option Ow59 → OS (L59 K C1 C2)
  | some (.raw true) => some (.nx, δ.set 0 (.own true (rs59 (.notes []))))
  | _ => none
@[simp] theorem sPapN_k : sPapN δ = kPN δ (owOf δ[0]?) := nr rfl
@[simp] theorem kPN_s : kPN δ (some (.raw true)) = some (.nx, δ.set 0 (.own true (wN []))) := nr rfl
theorem ninit_eq : F_ninit (K := K) (C1 := C1) (C2 := C2) [.own true (wR true)] = some (.dv (.d .none), some (wN [])) := by
  simp [F_ninit, fnD_k, B_ninit]
theorem nms_of : ∀ (out : List PD), (∀ y ∈ out, ∃ n, NmOk n ∧ y = nmD n) → ∃ ns : List Nm, out = ns.map nmD ∧ ∀ n ∈ ns, NmOk n
  | [], _ => ⟨[], rfl, by simp⟩
  | y :: r, h => by
    obtain ⟨n, hn, rfl⟩ := h y List.mem_cons_self
    obtain ⟨ns, e, hs⟩ := nms_of r fun z hz => h z (List.mem_cons_of_mem _ hz)
    refine ⟨n :: ns, by rw [e]; rfl, fun m hm => ?_⟩
    rcases List.mem_cons.mp hm with rfl | hm
    · exact hn
    · exact hs m hm
theorem paps_of : ∀ (out : List PD), (∀ y ∈ out, ∃ q, GP q ∧ y = papD q) → ∃ qs : List P3, out = ksD qs ∧ ∀ q ∈ qs, GP q
  | [], _ => ⟨[], rfl, by simp⟩
  | y :: r, h => by
    obtain ⟨n, hn, rfl⟩ := h y List.mem_cons_self
    obtain ⟨ns, e, hs⟩ := paps_of r fun z hz => h z (List.mem_cons_of_mem _ hz)
    refine ⟨n :: ns, by rw [e]; rfl, fun m hm => ?_⟩
    rcases List.mem_cons.mp hm with rfl | hm
    · exact hn
    · exact hs m hm
/-- the names, sorted -/
theorem law_names {p : Pool} (hp : PlOk p) {s0 : SV (L59 K C1 C2)} : ∃ (ns : List Nm) (p' : Pool), NsOk ns ∧ PlOk p' ∧ sSeq (sSet 2 (eLc [14] (iR1 (aCons (eOp gAdd (eC (.int 1)) (eCallB 1 (F_law_draw) (aCons (eC (.int 5)) (aNil)))) (aNil))) (uName 14) cYes (eCallB 1 (F_law_some_name) (aNil)))) (sSet 2 (eSortSet (eVar 2))) [s0, .own false (.lst (plD p)), .un, .un, .un, .un, .un, .un, .un, .un, .un, .un, .un, .un, .un] =
    some (.nx, [s0, .own false (.lst (plD p')), .own false (.lst (ns.map nmD)), .un, .un, .un, .un, .un, .un, .un, .un, .un, .un, .un, .un]) := by
  obtain ⟨v1, p1, a1, b1, h1, e1⟩ := drawX (L := L59 K C1 C2) (m := 5) (by decide) (by decide) hp
  have hr := fun δ => kR1_j (L := L59 K C1 C2) (δ := δ) (j := 1 + v1) (by omega) (by omega)
  obtain ⟨ks, ek, hkl, _⟩ := nums_in (L := L59 K C1 C2) (1 + v1).toNat
  obtain ⟨out, δ', e, ⟨p2, hp2, eδ⟩, hlen, hJ⟩ := lcN_inv (L := L59 K C1 C2) (vs := [14]) (u := uName 14) (f := (eCallB 1 (F_law_some_name) (aNil))) (inj := fun k => DV.d (.int k)) (I := fun δ => ∃ p : Pool, PlOk p ∧ δ = [s0, .own false (.lst (plD p)), .un, .un, .un, .un, .un, .un, .un, .un, .un, .un, .un, .un, .un]) (J := fun y => ∃ n, NmOk n ∧ y = nmD n) ks
    [s0, .own false (.lst (plD p1)), .un, .un, .un, .un, .un, .un, .un, .un, .un, .un, .un, .un, .un] [] ⟨p1, h1, rfl⟩ fun k hk δ ⟨p, hp, eδ⟩ => by
      subst eδ
      obtain ⟨n, p', hn, hp', e⟩ := some_name_eq (L := L59 K C1 C2) hp
      exact ⟨[s0, .own false (.lst (plD p)), .un, .un, .un, .un, .un, .un, .un, .un, .un, .un, .un, .un, .dv (.d (.int k))], nmD n, [s0, .own false (.lst (plD p')), .un, .un, .un, .un, .un, .un, .un, .un, .un, .un, .un, .un, .dv (.d (.int k))], by simp, by simp [e], ⟨n, hn, rfl⟩, p', hp', by simp⟩
  subst eδ
  rw [List.nil_append, ← ek] at e
  obtain ⟨ms, em, hm⟩ := nms_of out hJ
  subst em
  rw [List.length_map, hkl] at hlen
  have hl5 : ms.length ≤ 5 := by omega
  have hl1 : 0 < ms.length := by omega
  have ok := okK_nm ms
  have hns : NsOk (srtN ms) := by
    refine ⟨srtN_srt ms, fun n hn => hm n ((srtN_mem n).mp hn), ?_, Nat.le_trans (srtN_len ms) hl5⟩
    cases ms with
    | nil => exact absurd hl1 (by simp)
    | cons a r => exact List.length_pos_of_mem ((srtN_mem a).mpr List.mem_cons_self)
  refine ⟨srtN ms, p2, hns, hp2, ?_⟩
  have hl6 : ms.length < 64 := by omega
  have hl7 : (nums (L := L59 K C1 C2) 0 (1 + v1).toNat).length ≤ 100000 := by
    unfold nums
    rw [List.length_map, List.length_range]
    omega
  have es := sortK_nm ms
  simp [e1, hr, kLc1_s, hl7, e, ok, hl6, es]
/-- the papers -/
theorem law_kept {p : Pool} (hp : PlOk p) {ns : List Nm} (hn : NsOk ns) {c : Int} (c0 : 0 ≤ c) (c1 : c ≤ 14) {s0 : SV (L59 K C1 C2)} : ∃ (qs : List P3) (p' : Pool) (s2 : SV (L59 K C1 C2)), (∀ q ∈ qs, GP q) ∧ (qs.length : Int) = c ∧ PlOk p' ∧ Fz s2 (ns.map nmD) ∧ (sSet 4 (eLc [14] (iR1 (aCons (eVar 3) (aNil))) (uName 14) cYes (eCallB 1 (F_law_paper) (aCons (eVar 2) (aNil))))) [s0, .own false (.lst (plD p)), .own false (.lst (ns.map nmD)), .dv (.d (.int c)), .un, .un, .un, .un, .un, .un, .un, .un, .un, .un, .un] =
    some (.nx, [s0, .own false (.lst (plD p')), s2, .dv (.d (.int c)), .own false (.lst (ksD qs)), .un, .un, .un, .un, .un, .un, .un, .un, .un, .un]) := by
  have hr := fun δ => kR1_j (L := L59 K C1 C2) (δ := δ) (j := c) c0 (by omega)
  obtain ⟨ks, ek, hkl, _⟩ := nums_in (L := L59 K C1 C2) c.toNat
  obtain ⟨out, δ', e, ⟨p2, s2, hp2, hz, eδ⟩, hlen, hJ⟩ := lcN_inv (L := L59 K C1 C2) (vs := [14]) (u := uName 14) (f := (eCallB 1 (F_law_paper) (aCons (eVar 2) (aNil)))) (inj := fun k => DV.d (.int k)) (I := fun δ => ∃ (p : Pool) (s2 : SV (L59 K C1 C2)), PlOk p ∧ Fz s2 (ns.map nmD) ∧ δ = [s0, .own false (.lst (plD p)), s2, .dv (.d (.int c)), .un, .un, .un, .un, .un, .un, .un, .un, .un, .un, .un]) (J := fun y => ∃ q, GP q ∧ y = papD q) ks
    [s0, .own false (.lst (plD p)), .own false (.lst (ns.map nmD)), .dv (.d (.int c)), .un, .un, .un, .un, .un, .un, .un, .un, .un, .un, .un] [] ⟨p, _, hp, .inl rfl, rfl⟩ fun k hk δ ⟨p, s2, hp, hz, eδ⟩ => by
      subst eδ
      obtain ⟨q, p', hq, hp', e⟩ := law_paper_eq (L := L59 K C1 C2) hp hn
      refine ⟨[s0, .own false (.lst (plD p)), s2, .dv (.d (.int c)), .un, .un, .un, .un, .un, .un, .un, .un, .un, .un, .dv (.d (.int k))], papD q, [s0, .own false (.lst (plD p')), .dv (.d (.list (ns.map nmD))), .dv (.d (.int c)), .un, .un, .un, .un, .un, .un, .un, .un, .un, .un, .dv (.d (.int k))], by simp, ?_, ⟨q, hq, rfl⟩, p', _, hp', .inr rfl, by simp⟩
      rcases hz with rfl | rfl <;> simp [e]
  subst eδ
  rw [List.nil_append, ← ek] at e
  obtain ⟨qs, eq, hq⟩ := paps_of out hJ
  subst eq
  rw [ksD_len, hkl] at hlen
  refine ⟨qs, p2, s2, hq, by omega, hp2, hz, ?_⟩
  have hl7 : (nums (L := L59 K C1 C2) 0 c.toNat).length ≤ 100000 := by
    unfold nums
    rw [List.length_map, List.length_range]
    omega
  simp [hr, kLc1_s, hl7, e]
/-- the chain, drawn or not -/
theorem law_if {p : Pool} (hp : PlOk p) {N M : PD} {qs : List P3} (hq : ∀ q ∈ qs, GP q) (hql : qs.length ≤ 14) {as bs : List Bar} (ha : ∀ x ∈ as, BarOk x) (hb : ∀ x ∈ bs, BarOk x) (hal : as.length ≤ 3) (hbl : bs.length ≤ 3) {s0 : SV (L59 K C1 C2)} :
    ∃ (qs' : List P3) (as' bs' : List Bar) (p' : Pool) (s4 s8 s9 s10 : SV (L59 K C1 C2)), Fz s4 (ksD qs') ∧ (∀ q ∈ qs', GP q) ∧ qs'.length ≤ 15 ∧ (∀ x ∈ as', BarOk x) ∧ (∀ x ∈ bs', BarOk x) ∧ as'.length ≤ 4 ∧ bs'.length ≤ 4 ∧ PlOk p' ∧
      (sIf (tst (eOp gEq (eCallB 1 (F_law_draw) (aCons (eC (.int 4)) (aNil))) (eC (.int 0)))) (sSeq (sAsg (eCallB 1 (F_law_chain) (aNil)) (uLst 3 (usCons (uName 8) (usCons (uName 9) (usCons (uName 10) (usNil)))))) (sSeq (sSet 4 (eOpL gCat (eOpL gCat (eSl (eVar 4) (oNone) (oSome (eC (.int 1)))) (eLst (aCons (eVar 8) (aNil)))) (eSl (eVar 4) (oSome (eC (.int 1))) (oNone)))) (sSeq (sSet 3 (eCB cLen (aCons (eVar 4) (aNil)))) (sSeq (sApp 5 (eVar 9)) (sApp 6 (eVar 10)))))) (sNil)) [s0, .own false (.lst (plD p)), .dv (.d N), .dv (.d (.int qs.length)), .own false (.lst (ksD qs)), .own false (.lst (as.map barD)), .own false (.lst (bs.map barD)), .dv (.d M), .un, .un, .un, .un, .un, .un, .un] =
      some (.nx, [s0, .own false (.lst (plD p')), .dv (.d N), .dv (.d (.int qs'.length)), s4, .own false (.lst (as'.map barD)), .own false (.lst (bs'.map barD)), .dv (.d M), s8, s9, s10, .un, .un, .un, .un]) := by
  obtain ⟨v1, p1, a1, b1, h1, e1⟩ := drawX (L := L59 K C1 C2) (m := 4) (by decide) (by decide) hp
  by_cases c : v1 = 0
  · subst c
    obtain ⟨q, x, y, p2, gq, bx, by', hp2, e2⟩ := chain_eq (K := K) (C1 := C1) (C2 := C2) h1
    refine ⟨qs.take 1 ++ [q] ++ qs.drop 1, as ++ [x], bs ++ [y], p2, .dv (.d (.list (ksD (qs.take 1 ++ [q] ++ qs.drop 1)))), .dv (.d (papD q)), .dv (.d (barD x)), .dv (.d (barD y)), .inr rfl, ?_, ?_, ?_, ?_, by simp; omega, by simp; omega, hp2, ?_⟩
    · intro z hz
      rcases List.mem_append.mp hz with hz | hz
      · rcases List.mem_append.mp hz with hz | hz
        · exact hq z (List.mem_of_mem_take hz)
        · rw [List.mem_singleton.mp hz]; exact gq
      · exact hq z (List.mem_of_mem_drop hz)
    · simp; omega
    · intro z hz
      rcases List.mem_append.mp hz with hz | hz
      · exact ha z hz
      · rw [List.mem_singleton.mp hz]; exact bx
    · intro z hz
      rcases List.mem_append.mp hz with hz | hz
      · exact hb z hz
      · rw [List.mem_singleton.mp hz]; exact by'
    · have hk := ksD_len qs
      have f1 : cutD (ksD qs) none (some 1) = ksD (qs.take 1) := by
        have := cut_take (xs := ksD qs) (k := 1)
        unfold ksD at this ⊢
        rw [List.map_take]
        exact this
      have f2 : cutD (ksD qs) (some 1) none = ksD (qs.drop 1) := by
        have := cut_dropA (xs := ksD qs) (k := 1)
        unfold ksD at this ⊢
        rw [List.map_drop]
        exact this
      have g1 : gCat (.list (ksD (qs.take 1))) (.list [papD q]) = some (ksD (qs.take 1 ++ [q])) := by
        rw [gCat_eq (by rw [ksD_len]; simp; omega)]
        unfold ksD
        rw [List.map_append]
        rfl
      have g2 : gCat (.list (ksD (qs.take 1 ++ [q]))) (.list (ksD (qs.drop 1))) = some (ksD (qs.take 1 ++ [q] ++ qs.drop 1)) := by
        rw [gCat_eq (by rw [ksD_len, ksD_len]; simp; omega)]
        unfold ksD
        rw [← List.map_append]
      have hk2 := ksD_len (qs.take 1 ++ [q] ++ qs.drop 1)
      obtain ⟨Q1, r1⟩ : ∃ z, z = qs.take 1 ++ [q] ++ qs.drop 1 := ⟨_, rfl⟩
      obtain ⟨Q2, r2⟩ : ∃ z, z = qs.take 1 ++ [q] := ⟨_, rfl⟩
      obtain ⟨Q3, r3⟩ : ∃ z, z = qs.take 1 := ⟨_, rfl⟩
      obtain ⟨Q4, r4⟩ : ∃ z, z = qs.drop 1 := ⟨_, rfl⟩
      rw [← r1] at g2 hk2 ⊢
      rw [← r2] at g1 g2
      rw [← r3] at f1 g1
      rw [← r4] at f2 g2
      have l1 : (as.map barD).length < 100000 := by rw [List.length_map]; omega
      have l2 : (bs.map barD).length < 100000 := by rw [List.length_map]; omega
      rw [List.map_append, List.map_append]
      obtain ⟨A1, r5⟩ : ∃ z, z = as.map barD := ⟨_, rfl⟩
      obtain ⟨A2, r6⟩ : ∃ z, z = bs.map barD := ⟨_, rfl⟩
      rw [← r5] at l1 ⊢
      rw [← r6] at l2 ⊢
      simp [e1, e2, f1, f2, g1, g2, hk2, l1, l2]
  · have d1 : decide (v1 = 0) = false := decide_eq_false c
    refine ⟨qs, as, bs, p1, _, .un, .un, .un, .inl rfl, hq, by omega, ha, hb, by omega, by omega, h1, ?_⟩
    simp [e1, d1]
end
end DL.M
set_option Elab.async false
set_option linter.all false
set_option maxRecDepth 100000
set_option maxHeartbeats 8000000
/-! M29: law answers True. -/
namespace DL.M
open PySem PySem.Spec L2 TK PySem.W
open PyProof.Rows hiding St
variable [CN]
variable {K : PySem.W.Frag} {C1 C2 : Addr}
section
variable {δ δ1 δ2 : List (SV (L59 K C1 C2))}
theorem strikes_ok {bs : List Bar} (h : ∀ x ∈ bs, BarOk x) (hl : bs.length ≤ 4) : BsOk bs := ⟨h, by omega⟩
theorem law_rest {p : Pool} (hp : PlOk p) {ns : List Nm} (hn : NsOk ns) {qs : List P3} (hq : ∀ q ∈ qs, GP q) (hql : qs.length ≤ 15) {as bs : List Bar} (ha : ∀ x ∈ as, BarOk x) (hb : ∀ x ∈ bs, BarOk x) (hal : as.length ≤ 4) (hbl : bs.length ≤ 4) {more : P3} (hm : GP more) {s0 s4 s8 s9 s10 : SV (L59 K C1 C2)} (hz : Fz s4 (ksD qs)) :
    ∃ δ', (sSeq (sIf (tstNot (tst (eCallB 1 (F_law_errors) (aCons (eVar 2) (aNil))))) (sRet (eC (.bool false))) (sNil)) (sSeq (sSet 11 (eMkO (Ow59.raw true) F_ninit aNil)) (sSeq (sSet 12 (eMkO (Ow59.raw true) F_ninit aNil)) (sSeq (sSet 13 (eMtB isNw 11 F_strike (aCons (eCall (F_law_book) (aCons (eVar 5) (aNil))) (aNil)))) (sSeq (sIf (tstOr (tstNot (tst (eCall (F_law_same 16) (aCons (eVar 13) (aCons (eLst (aNil)) (aNil)))))) (tstNot (tst (thaw (eCall (F_law_asked) (aCons (eVar 11) (aCons (eLst (aNil)) (aCons (eVar 5) (aNil))))))))) (sRet (eC (.bool false))) (sNil)) (sSeq (sIf (tstOr (tstNot (tst (eCallB 11 (F_law_noted) (aCons (eVar 4) (aNil))))) (tstNot (tst (eCallB 12 (F_law_noted) (aCons (eSl (eVar 4) (oSome (eC (.int 1))) (oNone)) (aNil)))))) (sRet (eC (.bool false))) (sNil)) (sSeq (sIf (tstNot (tst (thaw (eCall (F_law_both) (aCons (eVar 11) (aCons (eVar 4) (aCons (eVar 5) (aCons (eVar 6) (aNil))))))))) (sRet (eC (.bool false))) (sNil)) (sSeq (sIf (tstNot (tst (eCallB 11 (F_law_behind) (aCons (eVar 4) (aCons (eVar 7) (aCons (eVar 5) (aCons (eVar 6) (aNil)))))))) (sRet (eC (.bool false))) (sNil)) (sSeq (sIf (tstNot (tst (thaw (eCall (F_law_asked) (aCons (eVar 12) (aCons (eSl (eVar 4) (oSome (eC (.int 1))) (oNone)) (aCons (eVar 5) (aNil)))))))) (sRet (eC (.bool false))) (sNil)) (sRet (ofT (tstAnd (tst (thaw (eCall (F_law_refused) (aCons (eVar 12) (aCons (eCB cMax2 (aCons (eC (.int 0)) (aCons (eOp gSub (eVar 3) (eC (.int 1))) (aNil)))) (aNil)))))) (tst (thaw (eCall (F_law_refused) (aCons (eVar 11) (aCons (eOp gAdd (eVar 3) (eC (.int 1))) (aNil)))))))))))))))))) [s0, .own false (.lst (plD p)), .dv (.d (.list (ns.map nmD))), .dv (.d (.int qs.length)), s4, .own false (.lst (as.map barD)), .own false (.lst (bs.map barD)), .dv (.d (papD more)), s8, s9, s10, .un, .un, .un, .un] = some (.rt (.dv (.d (.bool true))), s0 :: δ') := by
  obtain ⟨p1, hp1, e1⟩ := errors_eq (K := K) (C1 := C1) (C2 := C2) hp hn
  have A : BsOk as := strikes_ok ha hal
  have B : BsOk bs := strikes_ok hb hbl
  have q0 : QsOk ([] : List P3) := ⟨by simp, by simp⟩
  have Q : QsOk qs := ⟨hq, by omega⟩
  have D : QsOk (qs.drop 1) := ⟨fun q h => hq q (List.mem_of_mem_drop h), by rw [List.length_drop]; omega⟩
  obtain ⟨k1, b1, e2⟩ := law_book_eq (K := K) (C1 := C1) (C2 := C2) (bs := as) (by omega)
  have e3 := strike_eq (K := K) (C1 := C1) (C2 := C2) b1 A q0
  have z1 : ksD [] = [] := rfl
  have z2 : staleD as [] = [] := rfl
  have z3 : freeQ as [] = [] := rfl
  rw [z2, z3, z1] at e3
  have e4 := same_nil (K := K) (C1 := C1) (C2 := C2)
  have e5 := asked_eq (K := K) (C1 := C1) (C2 := C2) q0 A
  rw [z1] at e5
  have e6 := noted_eq (K := K) (C1 := C1) (C2 := C2) Q
  have e7 := noted_eq (K := K) (C1 := C1) (C2 := C2) D
  have e8 := both_eq (K := K) (C1 := C1) (C2 := C2) Q A B
  obtain ⟨ks, hks, e9⟩ := behind_eq (K := K) (C1 := C1) (C2 := C2) Q (by omega) hm A B (by omega)
  have e10 := asked_eq (K := K) (C1 := C1) (C2 := C2) D A
  have ec : cutD (ksD qs) (some 1) none = ksD (qs.drop 1) := by
    have := cut_dropA (xs := ksD qs) (k := 1)
    unfold ksD at this ⊢
    rw [List.map_drop]
    exact this
  have e11 := refused_eq (K := K) (C1 := C1) (C2 := C2) (ds := ksD (qs.drop 1)) (i := if (qs.length : Int) - 1 > 0 then (qs.length : Int) - 1 else 0)
  have c11 : (!(decide (0 ≤ if (qs.length : Int) - 1 > 0 then (qs.length : Int) - 1 else 0) && decide ((if (qs.length : Int) - 1 > 0 then (qs.length : Int) - 1 else 0) < ((ksD (qs.drop 1)).length : Int)))) = true := by
    rw [ksD_len, List.length_drop]
    by_cases h : (qs.length : Int) - 1 > 0
    · rw [if_pos h]
      have : ¬ (qs.length : Int) - 1 < ((qs.length - 1 : Nat) : Int) := by omega
      rw [decide_eq_false this]
      simp
    · rw [if_neg h]
      have : ¬ (0 : Int) < ((qs.length - 1 : Nat) : Int) := by omega
      rw [decide_eq_false this]
      simp
  rw [c11] at e11
  have e12 := refused_eq (K := K) (C1 := C1) (C2 := C2) (ds := ks) (i := (qs.length : Int) + 1)
  have c12 : (!(decide (0 ≤ (qs.length : Int) + 1) && decide ((qs.length : Int) + 1 < (ks.length : Int)))) = true := by
    have : ¬ (qs.length : Int) + 1 < (ks.length : Int) := by omega
    rw [decide_eq_false this]
    simp
  rw [c12] at e12
  have en := ninit_eq (K := K) (C1 := C1) (C2 := C2)
  have cm := cMax2_i (i := 0) (j := (qs.length : Int) - 1)
  obtain ⟨X, rX⟩ : ∃ x : Int, x = if (qs.length : Int) - 1 > 0 then (qs.length : Int) - 1 else 0 := ⟨_, rfl⟩
  rw [← rX] at e11 cm
  obtain ⟨K0, r0⟩ : ∃ x, x = ksD qs := ⟨_, rfl⟩
  obtain ⟨K1, r1⟩ : ∃ x, x = ksD (qs.drop 1) := ⟨_, rfl⟩
  rw [← r0] at e6 e8 e9 ec hz
  rw [← r1] at e7 e10 ec e11
  obtain ⟨M0, r2⟩ : ∃ x, x = papD more := ⟨_, rfl⟩
  rw [← r2] at e9 ⊢
  obtain ⟨N0, r3⟩ : ∃ x, x = ns.map nmD := ⟨_, rfl⟩
  rw [← r3] at e1 ⊢
  unfold bsD at e2 e5 e8 e9 e10
  obtain ⟨A0, r4⟩ : ∃ x, x = as.map barD := ⟨_, rfl⟩
  obtain ⟨B0, r5⟩ : ∃ x, x = bs.map barD := ⟨_, rfl⟩
  rw [← r4] at e2 e5 e8 e9 e10 ⊢
  rw [← r5] at e8 e9 ⊢
  obtain ⟨n, hnn⟩ : ∃ n : Int, n = (qs.length : Int) := ⟨_, rfl⟩
  rw [← hnn] at cm e12 ⊢
  refine ⟨[.own false (.lst (plD p1)), .dv (.d (.list N0)), .dv (.d (.int n)), .dv (.d (.list K0)), .dv (.d (.list A0)), .dv (.d (.list B0)), .dv (.d M0), s8, s9, s10, .own false (wN ks), .own false (wN K1), .dv (.d (.list [])), .un], ?_⟩
  rcases hz with rfl | rfl
  · simp [e1, e2, e3, e4, e5, e6, e7, e8, e9, e10, ec, e11, e12, en, cm, -cMax2_i]
  · simp [e1, e2, e3, e4, e5, e6, e7, e8, e9, e10, ec, e11, e12, en, cm, -cMax2_i]
theorem sSeq_assoc {a b c : Es (L59 K C1 C2)} : sSeq a (sSeq b c) δ = sSeq (sSeq a b) c δ := by
  unfold sSeq
  rcases a δ with _ | ⟨fl, δ1⟩
  · rfl
  · cases fl <;> rfl
theorem law_true (ns : List Int) (hl : ns.length ≤ 63) : F_law (K := K) (C1 := C1) (C2 := C2) [.dv (.ob (oS ns))] = some (.dv (.d (.bool true)), none) := by
  obtain ⟨p, hp, e1⟩ := pool_eq (K := K) (C1 := C1) (C2 := C2) (ns := ns) (by omega)
  obtain ⟨s0, r0⟩ : ∃ s, s = SV.dv (L := L59 K C1 C2) (.ob (oS ns)) := ⟨_, rfl⟩
  rw [← r0] at e1 ⊢
  obtain ⟨ms, p1, hn, hp1, e2⟩ := law_names (K := K) (C1 := C1) (C2 := C2) hp (s0 := s0)
  obtain ⟨v, p2, a2, b2, hp2, e3⟩ := drawX (L := L59 K C1 C2) (m := 8) (by decide) (by decide) hp1
  obtain ⟨d, ed, hd⟩ := atI_in (l := [PyData.int 0, .int 2, .int 4, .int 3, .int 14, .int 1, .int 6, .int 5]) a2 b2
  obtain ⟨c, rfl, c0, c14⟩ : ∃ c : Int, d = .int c ∧ 0 ≤ c ∧ c ≤ 14 := by
    simp only [List.mem_cons, List.not_mem_nil, or_false] at hd
    rcases hd with rfl | rfl | rfl | rfl | rfl | rfl | rfl | rfl <;> exact ⟨_, rfl, by decide, by decide⟩
  obtain ⟨qs, p3, s2, hq, hql, hp3, hz, e4⟩ := law_kept (K := K) (C1 := C1) (C2 := C2) hp2 hn c0 c14 (s0 := s0)
  obtain ⟨as, p4, ha, hal, hp4, e5⟩ := law_strikes_eq (L := L59 K C1 C2) hp3 hn
  obtain ⟨bs, p5, hb, hbl, hp5, e6⟩ := law_strikes_eq (L := L59 K C1 C2) hp4 hn
  obtain ⟨more, p6, hm, hp6, e7⟩ := law_paper_eq (L := L59 K C1 C2) hp5 hn
  obtain ⟨qs', as', bs', p7, s4, s8, s9, s10, hz4, hq', hql', ha', hb', hal', hbl', hp7, e8⟩ := law_if (K := K) (C1 := C1) (C2 := C2) hp6 (N := .list (ms.map nmD)) (M := papD more) hq (by omega) ha hb hal hbl (s0 := s0)
  obtain ⟨δ', e9⟩ := law_rest (K := K) (C1 := C1) (C2 := C2) hp7 hn hq' hql' ha' hb' hal' hbl' hm (s0 := s0) (s8 := s8) (s9 := s9) (s10 := s10) hz4
  rw [hql] at e8
  have st1 : (sSet 1 (eCall (F_law_pool) (aCons (eVar 0) (aNil)))) [s0, .un, .un, .un, .un, .un, .un, .un, .un, .un, .un, .un, .un, .un, .un] = some (.nx, [s0, .own false (.lst (plD p)), .un, .un, .un, .un, .un, .un, .un, .un, .un, .un, .un, .un, .un]) := by
    subst r0
    simp [e1]
  have st3 : (sSet 3 (eOp gIx (eLst (aCons (eC (.int 0)) (aCons (eC (.int 2)) (aCons (eC (.int 4)) (aCons (eC (.int 3)) (aCons (eC (.int 14)) (aCons (eC (.int 1)) (aCons (eC (.int 6)) (aCons (eC (.int 5)) (aNil)))))))))) (eCallB 1 (F_law_draw) (aCons (eC (.int 8)) (aNil))))) [s0, .own false (.lst (plD p1)), .own false (.lst (ms.map nmD)), .un, .un, .un, .un, .un, .un, .un, .un, .un, .un, .un, .un] = some (.nx, [s0, .own false (.lst (plD p2)), .own false (.lst (ms.map nmD)), .dv (.d (.int c)), .un, .un, .un, .un, .un, .un, .un, .un, .un, .un, .un]) := by
    simp [e3, ed]
  have st5 : (sSet 5 (eCallB 1 (F_law_strikes) (aCons (eVar 2) (aNil)))) [s0, .own false (.lst (plD p3)), s2, .dv (.d (.int c)), .own false (.lst (ksD qs)), .un, .un, .un, .un, .un, .un, .un, .un, .un, .un] = some (.nx, [s0, .own false (.lst (plD p4)), .dv (.d (.list (ms.map nmD))), .dv (.d (.int c)), .own false (.lst (ksD qs)), .own false (.lst (as.map barD)), .un, .un, .un, .un, .un, .un, .un, .un, .un]) := by
    rcases hz with rfl | rfl <;> simp [e5]
  have st6 : (sSet 6 (eCallB 1 (F_law_strikes) (aCons (eVar 2) (aNil)))) [s0, .own false (.lst (plD p4)), .dv (.d (.list (ms.map nmD))), .dv (.d (.int c)), .own false (.lst (ksD qs)), .own false (.lst (as.map barD)), .un, .un, .un, .un, .un, .un, .un, .un, .un] = some (.nx, [s0, .own false (.lst (plD p5)), .dv (.d (.list (ms.map nmD))), .dv (.d (.int c)), .own false (.lst (ksD qs)), .own false (.lst (as.map barD)), .own false (.lst (bs.map barD)), .un, .un, .un, .un, .un, .un, .un, .un]) := by
    simp [e6]
  have st7 : (sSet 7 (eCallB 1 (F_law_paper) (aCons (eVar 2) (aNil)))) [s0, .own false (.lst (plD p5)), .dv (.d (.list (ms.map nmD))), .dv (.d (.int c)), .own false (.lst (ksD qs)), .own false (.lst (as.map barD)), .own false (.lst (bs.map barD)), .un, .un, .un, .un, .un, .un, .un, .un] = some (.nx, [s0, .own false (.lst (plD p6)), .dv (.d (.list (ms.map nmD))), .dv (.d (.int c)), .own false (.lst (ksD qs)), .own false (.lst (as.map barD)), .own false (.lst (bs.map barD)), .dv (.d (papD more)), .un, .un, .un, .un, .un, .un, .un]) := by
    simp [e7]
  have hb : B_law (K := K) (C1 := C1) (C2 := C2) [s0, .un, .un, .un, .un, .un, .un, .un, .un, .un, .un, .un, .un, .un, .un] = some (.rt (.dv (.d (.bool true))), s0 :: δ') := by
    unfold B_law
    rw [sSeq_nx st1]
    rw [sSeq_assoc, sSeq_nx e2, sSeq_nx st3, sSeq_nx e4, sSeq_nx st5, sSeq_nx st6, sSeq_nx st7, sSeq_nx e8]
    exact e9
  have hbk : back (s0 :: δ') = none := by rw [r0]; rfl
  unfold F_law
  rw [fnD_rt (by rfl) (by rfl) hb, hbk]
end
end DL.M
set_option Elab.async false
set_option linter.all false
set_option maxRecDepth 100000
set_option maxHeartbeats 4000000
/-! A2: the text's facts (Txt) out of what the head tells. -/
namespace DL.As
open PySem PySem.Spec PyProof.Rows L2
abbrev Frag := PySem.W.Frag
def cn (K : Frag) : CN := ⟨fun a => (exs K).idxOf a⟩
theorem fun_of {K : Frag} {x qual : Str} {st : Stmt} {f : Addr} {fd : FuncData} (F : FunD K x qual (defArgs st) (defBody st) (defScope st) [] [] f fd) : Fun K x qual st f fd := by
  obtain ⟨oc, od, dV, kV, doc, pm, an, cdv, ct, osl, e, l, hc, hd, _⟩ := F.ex
  rcases hd with ⟨_, rfl⟩ | ⟨z, _⟩
  · exact ⟨⟨oc, od, kV, doc, pm, an, cdv, ct, osl, e, l, hc⟩, F.kp⟩
  · exact absurd rfl z
theorem oexB_ok {K : Frag} {C : Addr} (h : oexB K C = true) : OexC K C ∧ ∃ cd, PySem.W.clsIn K C = some cd ∧ cd.mro = .ref C :: .ref (He.ga K "HoldError") :: PySem.HandSPX.veTail := by
  unfold oexB at h
  obtain ⟨h1, h⟩ := Bool.and_eq_true_iff.mp h
  obtain ⟨h2, h⟩ := Bool.and_eq_true_iff.mp h
  obtain ⟨h3, h⟩ := Bool.and_eq_true_iff.mp h
  obtain ⟨h4, h5⟩ := Bool.and_eq_true_iff.mp h
  split at h1
  · rename_i c dd cd sl ho
    split at h1
    · rename_i C' bm k0 k1 k2 k3 n k5 hm hs
      obtain ⟨a1, h1⟩ := Bool.and_eq_true_iff.mp h1
      obtain ⟨a2, h1⟩ := Bool.and_eq_true_iff.mp h1
      obtain ⟨a3, h1⟩ := Bool.and_eq_true_iff.mp h1
      obtain ⟨a4, h1⟩ := Bool.and_eq_true_iff.mp h1
      obtain ⟨a5, a6⟩ := Bool.and_eq_true_iff.mp h1
      have b1 := of_decide_eq_true a1
      have b2 := of_decide_eq_true a2
      have b3 := of_decide_eq_true a3
      have b4 : cd.hasDel = false := by simpa using a4
      have b6 := of_decide_eq_true a6
      have hcl : PySem.W.clsIn K C = some cd := by
        unfold PySem.W.clsIn
        rw [ho]
      obtain ⟨nm, bs, mro, ns, qn, hd, sn, sub, ab, col, del⟩ := cd
      dsimp only at hm b4 a5
      subst b1 b2 b3 hm b4 a5 b6
      have hsl : sl = #[k0, k1, k2, k3, some (.builtin "ValueError.__new__"), k5] := by
        obtain ⟨l⟩ := sl
        simp only at hs
        rw [hs]
      subst hsl
      exact ⟨⟨⟨nm, qn, ns, bs, _, sn, sub, ab, col, dd, k0, k1, k2, k3, k5, ho, by kernel_rfl⟩, He.eqO_ok h2, of_decide_eq_true h3, of_decide_eq_true h4, h5⟩, _, hcl, rfl⟩
    · cases h1
  · cases h1
theorem excB_ok {K : Frag} {C : Addr} (h : excB K C = true) : ExcC K C := by
  unfold excB at h
  obtain ⟨h1, h⟩ := Bool.and_eq_true_iff.mp h
  obtain ⟨h2, h⟩ := Bool.and_eq_true_iff.mp h
  obtain ⟨h3, h⟩ := Bool.and_eq_true_iff.mp h
  obtain ⟨h4, h⟩ := Bool.and_eq_true_iff.mp h
  obtain ⟨h5, h6⟩ := Bool.and_eq_true_iff.mp h
  exact ⟨He.eqO_ok h1, He.eqO_ok h2, of_decide_eq_true h3, h4, He.eqO_ok h5, by kernel_rfl, by kernel_rfl, of_decide_eq_true h6⟩
structure ExT (K : Frag) : Prop where
  nd : (exs K).Nodup
  all : ∀ C ∈ exs K, OexC K C ∧ ExcC K C ∧ XfC K C
  ini : ∀ p ∈ exF, initB K p = true
  isH : ∀ C ∈ exs K, PySem.W.kitOne K (.ref C) (.ref (He.ga K "HoldError")) = some true
  isV : ∀ C ∈ exs K, PySem.W.kitOne K (.ref C) (.type "ValueError") = some true
  isX : ∀ C ∈ exs K, ∀ D ∈ exs K, PySem.W.kitOne K (.ref C) (.ref D) = some (decide (C = D))
theorem ex_ok {K : Frag} (h : ex K = true) : ExT K := by
  unfold ex at h
  obtain ⟨h1, h⟩ := Bool.and_eq_true_iff.mp h
  obtain ⟨h2, h⟩ := Bool.and_eq_true_iff.mp h
  obtain ⟨h3, h4⟩ := Bool.and_eq_true_iff.mp h
  unfold isB2 at h4
  obtain ⟨h5, h4⟩ := Bool.and_eq_true_iff.mp h4
  have hno : He.ga K "HoldError" ∉ exs K := fun z => by
    rw [List.contains_iff_mem.mpr z] at h5
    cases h5
  have sh := fun C hC => by
    have z := List.all_eq_true.mp h2 C hC
    exact Bool.and_eq_true_iff.mp z
  refine ⟨of_decide_eq_true h1, fun C hC => ?_, List.all_eq_true.mp h3, fun C hC => ?_, fun C hC => ?_, fun C hC D hD => ?_⟩
  · obtain ⟨z1, z⟩ := sh C hC
    obtain ⟨z2, z3⟩ := Bool.and_eq_true_iff.mp z
    exact ⟨(oexB_ok z1).1, excB_ok z2, xfB_ok z3⟩
  · exact of_decide_eq_true (Bool.and_eq_true_iff.mp (List.all_eq_true.mp h4 C hC)).1
  · exact of_decide_eq_true (Bool.and_eq_true_iff.mp (List.all_eq_true.mp h4 C hC)).2
  · obtain ⟨oc, cd, ec, em⟩ := oexB_ok (sh C hC).1
    obtain ⟨od, cd2, ec2, _⟩ := oexB_ok (sh D hD).1
    unfold PySem.W.kitOne
    by_cases e : C = D
    · subst e
      rw [if_pos (beq_iff_eq.mpr rfl), decide_eq_true rfl]
    · have hne : ¬ (Value.ref C == Value.ref D) = true := fun z => e (Value.ref.inj (beq_iff_eq.mp z))
      rw [if_neg hne, decide_eq_false e]
      show (if ((PySem.W.clsIn K D).isSome && PySem.W.typeIn K (.ref D) == some (.type "type")) = true then PySem.W.subIn K (.ref C) (.ref D) else none) = _
      rw [ec2, od.tyC]
      rw [if_pos (by rfl)]
      show (PySem.W.clsIn K C).bind _ = _
      rw [ec]
      show (if cd.mro.isEmpty then none else some (cd.mro.contains (.ref D))) = _
      rw [em]
      have hH : D ≠ He.ga K "HoldError" := fun z => hno (z ▸ hD)
      have hn : (Value.ref C :: .ref (He.ga K "HoldError") :: PySem.HandSPX.veTail).contains (.ref D) = false := by
        rw [← Bool.not_eq_true, List.contains_iff_mem]
        intro hm
        simp only [PySem.HandSPX.veTail, List.mem_cons, Value.ref.injEq, reduceCtorEq, List.not_mem_nil, or_false] at hm
        rcases hm with z | z
        · exact e z.symm
        · exact hH z
      rw [hn]
      rfl
theorem exs_len (K : Frag) : (exs K).length = 49 := by unfold exs; rw [List.length_map]; rfl
theorem idx_lt {l : List Addr} {a : Addr} (h : l.idxOf a < l.length) : l[l.idxOf a]? = some a := by
  rw [List.getElem?_eq_getElem h, List.getElem_idxOf]
section
variable {K : Frag}
theorem cn_at (T : ExT K) {i : Nat} {C : Addr} (h : (exs K)[i]? = some C) : (cn K).n C = i := by
  obtain ⟨hl, e⟩ := List.getElem?_eq_some_iff.mp h
  show (exs K).idxOf C = i
  rw [← e]
  exact List.Nodup.idxOf_getElem T.nd i hl
theorem cn_in {C : Addr} (h : (cn K).n C < 49) : (exs K)[(cn K).n C]? = some C ∧ C ∈ exs K := by
  have h' : (exs K).idxOf C < (exs K).length := by rw [exs_len]; exact h
  exact ⟨idx_lt h', List.mem_of_getElem? (idx_lt h')⟩
theorem cn_only {i : Nat} (hi : i < 49) {C C' : Addr} (h : (exs K)[i]? = some C) (e : (cn K).n C' = i) : C' = C := by
  have := (cn_in (C := C') (by rw [e]; exact hi)).1
  rw [e, h] at this
  exact (Option.some.inj this).symm
variable {mg : Str → Option Value}
theorem isK_of (T : ExT K) {y : Str} {i : Nat} (hi : i < 49) (h : (exs K)[i]? = some (He.ga K y)) (g : mg y = some (.ref (He.ga K y))) : @IsK (cn K) K mg y 49 [i] := by
  refine @IsK.mk (cn K) _ _ _ _ _ ⟨He.ga K y, g, fun C hC => ?_⟩
  obtain ⟨e, m⟩ := cn_in hC
  refine ⟨(T.all C m).2.1, ?_⟩
  rw [T.isX C m _ (List.mem_of_getElem? h)]
  congr 1
  rw [Bool.eq_iff_iff, decide_eq_true_eq]
  constructor
  · intro z
    rw [z, cn_at T h]
    simp
  · intro z
    have : (cn K).n C = i := by simpa using z
    exact cn_only hi h this
theorem contains_range {n i : Nat} (h : i < n) : (List.range n).contains i = true := by
  rw [List.contains_iff_mem]
  exact List.mem_range.mpr h
theorem isH_of (T : ExT K) (g : mg "HoldError" = some (.ref (He.ga K "HoldError"))) : @IsK (cn K) K mg "HoldError" 49 (List.range 49) := by
  refine @IsK.mk (cn K) _ _ _ _ _ ⟨_, g, fun C hC => ?_⟩
  obtain ⟨e, m⟩ := cn_in hC
  exact ⟨(T.all C m).2.1, by rw [T.isH C m, contains_range hC]⟩
theorem v_ValueError : bootBuiltins "ValueError" = some (.type "ValueError") := by decide +kernel
theorem isV_of (T : ExT K) (g : mg "ValueError" = none) : @IsKb (cn K) K mg "ValueError" 49 (List.range 49) := by
  refine @IsKb.mk (cn K) _ _ _ _ _ ⟨"ValueError", g, v_ValueError, fun C hC => ?_⟩
  obtain ⟨e, m⟩ := cn_in hC
  exact ⟨(T.all C m).2.1, by rw [T.isV C m, contains_range hC]⟩
theorem exAt_of (T : ExT K) {x qual : Str} {st : Stmt} {i : Nat} {fs ps : List Str} {fd : FuncData} (hi : i < 49) (h : (exs K)[i]? = some (He.ga K x)) (g : mg x = some (.ref (He.ga K x))) (hp : (x, fs) ∈ exF)
    (F : FunD K "__init__" qual (defArgs st) (defBody st) (defScope st) [] [] (He.fAd K (x, some "__init__")) fd) (b : Binds K fd ps []) : @ExAt (cn K) K mg x qual st i fs ps := by
  obtain ⟨a1, a2, a3⟩ := T.all _ (List.mem_of_getElem? h)
  obtain ⟨i1, i2⟩ := Bool.and_eq_true_iff.mp (T.ini _ hp)
  obtain ⟨i3, i4⟩ := Bool.and_eq_true_iff.mp i2
  exact @ExAt.mk (cn K) _ _ _ _ _ _ _ _ ⟨He.ga K x, _, fd, g, cn_at T h, fun C' e => cn_only hi h e, a1, a3, fun f hf => He.eqO_ok (List.all_eq_true.mp i1 f hf), He.eqO_ok i3, of_decide_eq_true i4, fun_of F, b⟩
theorem ex0_of (T : ExT K) {x : Str} {i : Nat} (h : (exs K)[i]? = some (He.ga K x)) (g : mg x = some (.ref (He.ga K x))) (c : (He.Fa.exc x).ok K = true) : @ExK0 (cn K) K mg x i := by
  obtain ⟨c1, c2, _, _⟩ := He.exc_ok c
  exact @ExK0.mk (cn K) _ _ _ _ ⟨He.ga K x, He.veBase, g, cn_at T h, ⟨PySem.F.excBase_ValueError⟩, c1, c2⟩
theorem ex_at {i : Nat} {x : Str} (h : exN[i]? = some x) : (exs K)[i]? = some (He.ga K x) := by
  unfold exs
  rw [List.getElem?_map, h]
  rfl
end
section
variable {K : Frag} {mg : Str → Option Value} {h : Heap}
structure Told (K : Frag) (h : Heap) (mg : Str → Option Value) : Prop where
  inn : K.In h
  ns : h.Ns mainGlobals mg
  d : He.SaysD fa fnA K
  d2 : He.SaysD [] fnB K
  e : ExT K

theorem t_d_ask (T : Told K h mg) : DefAt K mg "ask" s_ask ["name", "stands", "gone"] := by
  obtain ⟨fd, F⟩ := T.d.def_ 0 (d := d1 "ask" s_ask) rfl
  exact ⟨He.fAd K ("ask", none), fd, fun_of F, FunD.bindsN F (fun _ _ _ _ _ _ us hl => match us, hl with | [_, _, _], _ => by kernel_rfl), He.glo_ok T.inn T.ns (T.d.fact 0 (f := .glo "ask") rfl)⟩
theorem t_d_read (T : Told K h mg) : DefAt K mg "read" s_read ["paper", "choice"] := by
  obtain ⟨fd, F⟩ := T.d.def_ 1 (d := d1 "read" s_read) rfl
  exact ⟨He.fAd K ("read", none), fd, fun_of F, FunD.bindsN F (fun _ _ _ _ _ _ us hl => match us, hl with | [_, _], _ => by kernel_rfl), He.glo_ok T.inn T.ns (T.d.fact 1 (f := .glo "read") rfl)⟩
theorem t_d_nodes (T : Told K h mg) : DefAt K mg "_nodes" s_nodes ["paper"] := by
  obtain ⟨fd, F⟩ := T.d.def_ 2 (d := d1 "_nodes" s_nodes) rfl
  exact ⟨He.fAd K ("_nodes", none), fd, fun_of F, FunD.bindsN F (fun _ _ _ _ _ _ us hl => match us, hl with | [_], _ => by kernel_rfl), He.glo_ok T.inn T.ns (T.d.fact 2 (f := .glo "_nodes") rfl)⟩
theorem t_d_law_draw (T : Told K h mg) : DefAt K mg "_law_draw" s_law_draw ["pool", "many"] := by
  obtain ⟨fd, F⟩ := T.d.def_ 3 (d := d1 "_law_draw" s_law_draw) rfl
  exact ⟨He.fAd K ("_law_draw", none), fd, fun_of F, FunD.bindsN F (fun _ _ _ _ _ _ us hl => match us, hl with | [_, _], _ => by kernel_rfl), He.glo_ok T.inn T.ns (T.d.fact 3 (f := .glo "_law_draw") rfl)⟩
theorem t_d_law_pick (T : Told K h mg) : DefAt K mg "_law_pick" s_law_pick ["pool", "row"] := by
  obtain ⟨fd, F⟩ := T.d.def_ 4 (d := d1 "_law_pick" s_law_pick) rfl
  exact ⟨He.fAd K ("_law_pick", none), fd, fun_of F, FunD.bindsN F (fun _ _ _ _ _ _ us hl => match us, hl with | [_, _], _ => by kernel_rfl), He.glo_ok T.inn T.ns (T.d.fact 4 (f := .glo "_law_pick") rfl)⟩
theorem t_d_law_read (T : Told K h mg) : DefAt K mg "_law_read" s_law_read ["paper", "choice"] := by
  obtain ⟨fd, F⟩ := T.d.def_ 5 (d := d1 "_law_read" s_law_read) rfl
  exact ⟨He.fAd K ("_law_read", none), fd, fun_of F, FunD.bindsN F (fun _ _ _ _ _ _ us hl => match us, hl with | [_, _], _ => by kernel_rfl), He.glo_ok T.inn T.ns (T.d.fact 5 (f := .glo "_law_read") rfl)⟩
theorem t_d_law_choices (T : Told K h mg) : DefAt K mg "_law_choices" s_law_choices ["names"] := by
  obtain ⟨fd, F⟩ := T.d.def_ 6 (d := d1 "_law_choices" s_law_choices) rfl
  exact ⟨He.fAd K ("_law_choices", none), fd, fun_of F, FunD.bindsN F (fun _ _ _ _ _ _ us hl => match us, hl with | [_], _ => by kernel_rfl), He.glo_ok T.inn T.ns (T.d.fact 6 (f := .glo "_law_choices") rfl)⟩
theorem t_d_law_some_name (T : Told K h mg) : DefAt K mg "_law_some_name" s_law_some_name ["pool"] := by
  obtain ⟨fd, F⟩ := T.d.def_ 7 (d := d1 "_law_some_name" s_law_some_name) rfl
  exact ⟨He.fAd K ("_law_some_name", none), fd, fun_of F, FunD.bindsN F (fun _ _ _ _ _ _ us hl => match us, hl with | [_], _ => by kernel_rfl), He.glo_ok T.inn T.ns (T.d.fact 7 (f := .glo "_law_some_name") rfl)⟩
theorem t_d_law_hit (T : Told K h mg) : DefAt K mg "_law_hit" s_law_hit ["bars", "name"] := by
  obtain ⟨fd, F⟩ := T.d.def_ 8 (d := d1 "_law_hit" s_law_hit) rfl
  exact ⟨He.fAd K ("_law_hit", none), fd, fun_of F, FunD.bindsN F (fun _ _ _ _ _ _ us hl => match us, hl with | [_, _], _ => by kernel_rfl), He.glo_ok T.inn T.ns (T.d.fact 8 (f := .glo "_law_hit") rfl)⟩
theorem t_d_names_in (T : Told K h mg) : DefAt K mg "names_in" s_names_in ["paper"] := by
  obtain ⟨fd, F⟩ := T.d.def_ 9 (d := d1 "names_in" s_names_in) rfl
  exact ⟨He.fAd K ("names_in", none), fd, fun_of F, FunD.bindsN F (fun _ _ _ _ _ _ us hl => match us, hl with | [_], _ => by kernel_rfl), He.glo_ok T.inn T.ns (T.d.fact 9 (f := .glo "names_in") rfl)⟩
theorem t_d_without (T : Told K h mg) : DefAt K mg "without" s_without ["paper", "choice"] := by
  obtain ⟨fd, F⟩ := T.d.def_ 10 (d := d1 "without" s_without) rfl
  exact ⟨He.fAd K ("without", none), fd, fun_of F, FunD.bindsN F (fun _ _ _ _ _ _ us hl => match us, hl with | [_, _], _ => by kernel_rfl), He.glo_ok T.inn T.ns (T.d.fact 10 (f := .glo "without") rfl)⟩
theorem t_d_two_readings (T : Told K h mg) : DefAt K mg "two_readings" s_two_readings ["paper", "book"] := by
  obtain ⟨fd, F⟩ := T.d.def_ 11 (d := d1 "two_readings" s_two_readings) rfl
  exact ⟨He.fAd K ("two_readings", none), fd, fun_of F, FunD.bindsN F (fun _ _ _ _ _ _ us hl => match us, hl with | [_, _], _ => by kernel_rfl), He.glo_ok T.inn T.ns (T.d.fact 11 (f := .glo "two_readings") rfl)⟩
theorem t_d_freed (T : Told K h mg) : DefAt K mg "freed" s_freed ["paper", "book"] := by
  obtain ⟨fd, F⟩ := T.d.def_ 12 (d := d1 "freed" s_freed) rfl
  exact ⟨He.fAd K ("freed", none), fd, fun_of F, FunD.bindsN F (fun _ _ _ _ _ _ us hl => match us, hl with | [_, _], _ => by kernel_rfl), He.glo_ok T.inn T.ns (T.d.fact 12 (f := .glo "freed") rfl)⟩
theorem t_d_law_pool (T : Told K h mg) : DefAt K mg "_law_pool" s_law_pool ["script"] := by
  obtain ⟨fd, F⟩ := T.d.def_ 13 (d := d1 "_law_pool" s_law_pool) rfl
  exact ⟨He.fAd K ("_law_pool", none), fd, fun_of F, FunD.bindsN F (fun _ _ _ _ _ _ us hl => match us, hl with | [_], _ => by kernel_rfl), He.glo_ok T.inn T.ns (T.d.fact 13 (f := .glo "_law_pool") rfl)⟩
theorem t_d_law_same (T : Told K h mg) : DefAt K mg "_law_same" s_law_same ["told", "due"] := by
  obtain ⟨fd, F⟩ := T.d.def_ 14 (d := d1 "_law_same" s_law_same) rfl
  exact ⟨He.fAd K ("_law_same", none), fd, fun_of F, FunD.bindsN F (fun _ _ _ _ _ _ us hl => match us, hl with | [_, _], _ => by kernel_rfl), He.glo_ok T.inn T.ns (T.d.fact 14 (f := .glo "_law_same") rfl)⟩
theorem t_d_law_inside (T : Told K h mg) : DefAt K mg "_law_inside" s_law_inside ["paper"] := by
  obtain ⟨fd, F⟩ := T.d.def_ 15 (d := d1 "_law_inside" s_law_inside) rfl
  exact ⟨He.fAd K ("_law_inside", none), fd, fun_of F, FunD.bindsN F (fun _ _ _ _ _ _ us hl => match us, hl with | [_], _ => by kernel_rfl), He.glo_ok T.inn T.ns (T.d.fact 15 (f := .glo "_law_inside") rfl)⟩
theorem t_d_law_fold (T : Told K h mg) : DefAt K mg "_law_fold" s_law_fold ["names", "row"] := by
  obtain ⟨fd, F⟩ := T.d.def_ 16 (d := d1 "_law_fold" s_law_fold) rfl
  exact ⟨He.fAd K ("_law_fold", none), fd, fun_of F, FunD.bindsN F (fun _ _ _ _ _ _ us hl => match us, hl with | [_, _], _ => by kernel_rfl), He.glo_ok T.inn T.ns (T.d.fact 16 (f := .glo "_law_fold") rfl)⟩
theorem t_d_law_paper (T : Told K h mg) : DefAt K mg "_law_paper" s_law_paper ["pool", "names"] := by
  obtain ⟨fd, F⟩ := T.d.def_ 17 (d := d1 "_law_paper" s_law_paper) rfl
  exact ⟨He.fAd K ("_law_paper", none), fd, fun_of F, FunD.bindsN F (fun _ _ _ _ _ _ us hl => match us, hl with | [_, _], _ => by kernel_rfl), He.glo_ok T.inn T.ns (T.d.fact 17 (f := .glo "_law_paper") rfl)⟩
theorem t_d_law_strikes (T : Told K h mg) : DefAt K mg "_law_strikes" s_law_strikes ["pool", "names"] := by
  obtain ⟨fd, F⟩ := T.d.def_ 18 (d := d1 "_law_strikes" s_law_strikes) rfl
  exact ⟨He.fAd K ("_law_strikes", none), fd, fun_of F, FunD.bindsN F (fun _ _ _ _ _ _ us hl => match us, hl with | [_, _], _ => by kernel_rfl), He.glo_ok T.inn T.ns (T.d.fact 18 (f := .glo "_law_strikes") rfl)⟩
theorem t_d_law_gone (T : Told K h mg) : DefAt K mg "_law_gone" s_law_gone ["paper", "bars"] := by
  obtain ⟨fd, F⟩ := T.d.def_ 19 (d := d1 "_law_gone" s_law_gone) rfl
  exact ⟨He.fAd K ("_law_gone", none), fd, fun_of F, FunD.bindsN F (fun _ _ _ _ _ _ us hl => match us, hl with | [_, _], _ => by kernel_rfl), He.glo_ok T.inn T.ns (T.d.fact 19 (f := .glo "_law_gone") rfl)⟩
theorem t_d_law_stale (T : Told K h mg) : DefAt K mg "_law_stale" s_law_stale ["kept", "bars"] := by
  obtain ⟨fd, F⟩ := T.d.def_ 20 (d := d1 "_law_stale" s_law_stale) rfl
  exact ⟨He.fAd K ("_law_stale", none), fd, fun_of F, FunD.bindsN F (fun _ _ _ _ _ _ us hl => match us, hl with | [_, _], _ => by kernel_rfl), He.glo_ok T.inn T.ns (T.d.fact 20 (f := .glo "_law_stale") rfl)⟩
theorem t_d_law_hanging (T : Told K h mg) : DefAt K mg "_law_hanging" s_law_hanging ["kept", "bars"] := by
  obtain ⟨fd, F⟩ := T.d.def_ 21 (d := d1 "_law_hanging" s_law_hanging) rfl
  exact ⟨He.fAd K ("_law_hanging", none), fd, fun_of F, FunD.bindsN F (fun _ _ _ _ _ _ us hl => match us, hl with | [_, _], _ => by kernel_rfl), He.glo_ok T.inn T.ns (T.d.fact 21 (f := .glo "_law_hanging") rfl)⟩
theorem t_d_law_freed (T : Told K h mg) : DefAt K mg "_law_freed" s_law_freed ["paper", "bars"] := by
  obtain ⟨fd, F⟩ := T.d.def_ 22 (d := d1 "_law_freed" s_law_freed) rfl
  exact ⟨He.fAd K ("_law_freed", none), fd, fun_of F, FunD.bindsN F (fun _ _ _ _ _ _ us hl => match us, hl with | [_, _], _ => by kernel_rfl), He.glo_ok T.inn T.ns (T.d.fact 22 (f := .glo "_law_freed") rfl)⟩
theorem t_d_law_book (T : Told K h mg) : DefAt K mg "_law_book" s_law_book ["bars"] := by
  obtain ⟨fd, F⟩ := T.d.def_ 23 (d := d1 "_law_book" s_law_book) rfl
  exact ⟨He.fAd K ("_law_book", none), fd, fun_of F, FunD.bindsN F (fun _ _ _ _ _ _ us hl => match us, hl with | [_], _ => by kernel_rfl), He.glo_ok T.inn T.ns (T.d.fact 23 (f := .glo "_law_book") rfl)⟩
theorem t_d_law_asked (T : Told K h mg) : DefAt K mg "_law_asked" s_law_asked ["notes", "kept", "bars"] := by
  obtain ⟨fd, F⟩ := T.d.def_ 24 (d := d1 "_law_asked" s_law_asked) rfl
  exact ⟨He.fAd K ("_law_asked", none), fd, fun_of F, FunD.bindsN F (fun _ _ _ _ _ _ us hl => match us, hl with | [_, _, _], _ => by kernel_rfl), He.glo_ok T.inn T.ns (T.d.fact 24 (f := .glo "_law_asked") rfl)⟩
theorem t_d_law_both (T : Told K h mg) : DefAt K mg "_law_both" s_law_both ["notes", "kept", "first", "later"] := by
  obtain ⟨fd, F⟩ := T.d.def_ 25 (d := d1 "_law_both" s_law_both) rfl
  exact ⟨He.fAd K ("_law_both", none), fd, fun_of F, FunD.bindsN F (fun _ _ _ _ _ _ us hl => match us, hl with | [_, _, _, _], _ => by kernel_rfl), He.glo_ok T.inn T.ns (T.d.fact 25 (f := .glo "_law_both") rfl)⟩
theorem t_d_law_noted (T : Told K h mg) : DefAt K mg "_law_noted" s_law_noted ["notes", "kept"] := by
  obtain ⟨fd, F⟩ := T.d.def_ 26 (d := d1 "_law_noted" s_law_noted) rfl
  exact ⟨He.fAd K ("_law_noted", none), fd, fun_of F, FunD.bindsN F (fun _ _ _ _ _ _ us hl => match us, hl with | [_, _], _ => by kernel_rfl), He.glo_ok T.inn T.ns (T.d.fact 26 (f := .glo "_law_noted") rfl)⟩
theorem t_d_law_behind (T : Told K h mg) : DefAt K mg "_law_behind" s_law_behind ["notes", "kept", "more", "first", "later"] := by
  obtain ⟨fd, F⟩ := T.d.def_ 27 (d := d1 "_law_behind" s_law_behind) rfl
  exact ⟨He.fAd K ("_law_behind", none), fd, fun_of F, FunD.bindsN F (fun _ _ _ _ _ _ us hl => match us, hl with | [_, _, _, _, _], _ => by kernel_rfl), He.glo_ok T.inn T.ns (T.d.fact 27 (f := .glo "_law_behind") rfl)⟩
theorem t_d_law_chain (T : Told K h mg) : DefAt K mg "_law_chain" s_law_chain ["pool"] := by
  obtain ⟨fd, F⟩ := T.d.def_ 28 (d := d1 "_law_chain" s_law_chain) rfl
  exact ⟨He.fAd K ("_law_chain", none), fd, fun_of F, FunD.bindsN F (fun _ _ _ _ _ _ us hl => match us, hl with | [_], _ => by kernel_rfl), He.glo_ok T.inn T.ns (T.d.fact 28 (f := .glo "_law_chain") rfl)⟩
theorem t_d_law_kinds (T : Told K h mg) : DefAt K mg "_law_kinds" s_law_kinds ["e"] := by
  obtain ⟨fd, F⟩ := T.d.def_ 29 (d := d1 "_law_kinds" s_law_kinds) rfl
  exact ⟨He.fAd K ("_law_kinds", none), fd, fun_of F, FunD.bindsN F (fun _ _ _ _ _ _ us hl => match us, hl with | [_], _ => by kernel_rfl), He.glo_ok T.inn T.ns (T.d.fact 29 (f := .glo "_law_kinds") rfl)⟩
theorem t_d_law_made (T : Told K h mg) : DefAt K mg "_law_made" s_law_made [] := by
  obtain ⟨fd, F⟩ := T.d.def_ 30 (d := d1 "_law_made" s_law_made) rfl
  exact ⟨He.fAd K ("_law_made", none), fd, fun_of F, FunD.bindsN F (fun _ _ _ _ _ _ us hl => match us, hl with | [], _ => by kernel_rfl), He.glo_ok T.inn T.ns (T.d.fact 30 (f := .glo "_law_made") rfl)⟩
theorem t_d_law_texts (T : Told K h mg) : DefAt K mg "_law_texts" s_law_texts ["t"] := by
  obtain ⟨fd, F⟩ := T.d.def_ 31 (d := d1 "_law_texts" s_law_texts) rfl
  exact ⟨He.fAd K ("_law_texts", none), fd, fun_of F, FunD.bindsN F (fun _ _ _ _ _ _ us hl => match us, hl with | [_], _ => by kernel_rfl), He.glo_ok T.inn T.ns (T.d.fact 31 (f := .glo "_law_texts") rfl)⟩
theorem t_d_law_numbers (T : Told K h mg) : DefAt K mg "_law_numbers" s_law_numbers ["m", "n"] := by
  obtain ⟨fd, F⟩ := T.d.def_ 32 (d := d1 "_law_numbers" s_law_numbers) rfl
  exact ⟨He.fAd K ("_law_numbers", none), fd, fun_of F, FunD.bindsN F (fun _ _ _ _ _ _ us hl => match us, hl with | [_, _], _ => by kernel_rfl), He.glo_ok T.inn T.ns (T.d.fact 32 (f := .glo "_law_numbers") rfl)⟩
theorem t_d_law_errors (T : Told K h mg) : DefAt K mg "_law_errors" s_law_errors ["pool", "names"] := by
  obtain ⟨fd, F⟩ := T.d.def_ 33 (d := d1 "_law_errors" s_law_errors) rfl
  exact ⟨He.fAd K ("_law_errors", none), fd, fun_of F, FunD.bindsN F (fun _ _ _ _ _ _ us hl => match us, hl with | [_, _], _ => by kernel_rfl), He.glo_ok T.inn T.ns (T.d.fact 33 (f := .glo "_law_errors") rfl)⟩
theorem t_d_law (T : Told K h mg) : DefAt K mg "law" s_law ["script"] := by
  obtain ⟨fd, F⟩ := T.d.def_ 34 (d := d1 "law" s_law) rfl
  exact ⟨He.fAd K ("law", none), fd, fun_of F, FunD.bindsN F (fun _ _ _ _ _ _ us hl => match us, hl with | [_], _ => by kernel_rfl), He.glo_ok T.inn T.ns (T.d.fact 34 (f := .glo "law") rfl)⟩
theorem t_d_law_refused (T : Told K h mg) : DefAt K mg "_law_refused" s_law_refused ["notes", "index"] := by
  obtain ⟨fd, F⟩ := T.d.def_ 35 (d := d1 "_law_refused" s_law_refused) rfl
  exact ⟨He.fAd K ("_law_refused", none), fd, fun_of F, FunD.bindsN F (fun _ _ _ _ _ _ us hl => match us, hl with | [_, _], _ => by kernel_rfl), He.glo_ok T.inn T.ns (T.d.fact 35 (f := .glo "_law_refused") rfl)⟩
theorem t_k_binit (T : Told K h mg) : MkAt K mg "StrikeBook" (He.ga K "StrikeBook") "StrikeBook.__init__" s_binit ["self", "strikes"] := by
  obtain ⟨fd, F⟩ := T.d.def_ 36 (d := ⟨("StrikeBook", some "__init__"), "__init__", "StrikeBook.__init__", defArgs s_binit, defBody s_binit, defScope s_binit, [.adr (He.dflAt ("StrikeBook", some "__init__") 0)], []⟩) rfl
  obtain ⟨ds, vs, b⟩ := FunD.binds1 (ps := ["self", "strikes"]) F 2 1 (List.cons_ne_nil _ _) rfl fun T kV doc pm an cdv ct us its hu hi => match us, hu, its, hi with | [_, _], _, [_], _ => ⟨_, rfl, rfl⟩
  cases vs
  exact ⟨_, fd, _, He.glo_ok T.inn T.ns (T.d.fact 87 (f := .glo "StrikeBook") rfl), He.mkr_ok (T.d.fact 110 (f := .mkr "StrikeBook") rfl), F, b⟩
theorem t_k_ninit (T : Told K h mg) : MkAt K mg "Notes" (He.ga K "Notes") "Notes.__init__" s_ninit ["self"] := by
  obtain ⟨fd, F⟩ := T.d.def_ 37 (d := ⟨("Notes", some "__init__"), "__init__", "Notes.__init__", defArgs s_ninit, defBody s_ninit, defScope s_ninit, [], []⟩) rfl
  have b := FunD.bindsN (ps := ["self"]) F (fun _ _ _ _ _ _ us hl => match us, hl with | [_], _ => by kernel_rfl)
  exact ⟨_, fd, _, He.glo_ok T.inn T.ns (T.d.fact 86 (f := .glo "Notes") rfl), He.mkr_ok (T.d.fact 109 (f := .mkr "Notes") rfl), F, b⟩
theorem t_m_contains (T : Told K h mg) : MethAt K (He.ga K "StrikeBook") "__contains__" "StrikeBook.__contains__" s_contains ["self", "name"] := by
  obtain ⟨fd, F⟩ := T.d.def_ 38 (d := dm "StrikeBook" "__contains__" "StrikeBook.__contains__" s_contains) rfl
  exact ⟨_, fd, fun_of F, FunD.bindsN F (fun _ _ _ _ _ _ us hl => match us, hl with | [_, _], _ => by kernel_rfl), He.meth_ok (T.d.fact 111 (f := .meth "StrikeBook" "__contains__") rfl)⟩
theorem t_m_struck (T : Told K h mg) : MethAt K (He.ga K "StrikeBook") "struck" "StrikeBook.struck" s_struck ["self", "names"] := by
  obtain ⟨fd, F⟩ := T.d.def_ 39 (d := dm "StrikeBook" "struck" "StrikeBook.struck" s_struck) rfl
  exact ⟨_, fd, fun_of F, FunD.bindsN F (fun _ _ _ _ _ _ us hl => match us, hl with | [_, _], _ => by kernel_rfl), He.meth_ok (T.d.fact 112 (f := .meth "StrikeBook" "struck") rfl)⟩
theorem t_m_nlen (T : Told K h mg) : MethAt K (He.ga K "Notes") "__len__" "Notes.__len__" s_nlen ["self"] := by
  obtain ⟨fd, F⟩ := T.d.def_ 40 (d := dm "Notes" "__len__" "Notes.__len__" s_nlen) rfl
  exact ⟨_, fd, fun_of F, FunD.bindsN F (fun _ _ _ _ _ _ us hl => match us, hl with | [_], _ => by kernel_rfl), He.meth_ok (T.d.fact 113 (f := .meth "Notes" "__len__") rfl)⟩
theorem t_m_paper (T : Told K h mg) : MethAt K (He.ga K "Notes") "paper" "Notes.paper" s_paper ["self", "index"] := by
  obtain ⟨fd, F⟩ := T.d.def_ 41 (d := dm "Notes" "paper" "Notes.paper" s_paper) rfl
  exact ⟨_, fd, fun_of F, FunD.bindsN F (fun _ _ _ _ _ _ us hl => match us, hl with | [_, _], _ => by kernel_rfl), He.meth_ok (T.d.fact 114 (f := .meth "Notes" "paper") rfl)⟩
theorem t_m_stale (T : Told K h mg) : MethAt K (He.ga K "Notes") "stale" "Notes.stale" s_stale ["self", "book"] := by
  obtain ⟨fd, F⟩ := T.d.def_ 42 (d := dm "Notes" "stale" "Notes.stale" s_stale) rfl
  exact ⟨_, fd, fun_of F, FunD.bindsN F (fun _ _ _ _ _ _ us hl => match us, hl with | [_, _], _ => by kernel_rfl), He.meth_ok (T.d.fact 115 (f := .meth "Notes" "stale") rfl)⟩
theorem t_m_hanging (T : Told K h mg) : MethAt K (He.ga K "Notes") "hanging" "Notes.hanging" s_hanging ["self", "book"] := by
  obtain ⟨fd, F⟩ := T.d.def_ 43 (d := dm "Notes" "hanging" "Notes.hanging" s_hanging) rfl
  exact ⟨_, fd, fun_of F, FunD.bindsN F (fun _ _ _ _ _ _ us hl => match us, hl with | [_, _], _ => by kernel_rfl), He.meth_ok (T.d.fact 116 (f := .meth "Notes" "hanging") rfl)⟩
theorem t_m_note (T : Told K h mg) : MethAt K (He.ga K "Notes") "note" "Notes.note" s_note ["self", "paper"] := by
  obtain ⟨fd, F⟩ := T.d.def_ 44 (d := dm "Notes" "note" "Notes.note" s_note) rfl
  exact ⟨_, fd, fun_of F, FunD.bindsN F (fun _ _ _ _ _ _ us hl => match us, hl with | [_, _], _ => by kernel_rfl), He.meth_ok (T.d.fact 117 (f := .meth "Notes" "note") rfl)⟩
theorem t_m_strike (T : Told K h mg) : MethAt K (He.ga K "Notes") "strike" "Notes.strike" s_strike ["self", "book"] := by
  obtain ⟨fd, F⟩ := T.d.def_ 45 (d := dm "Notes" "strike" "Notes.strike" s_strike) rfl
  exact ⟨_, fd, fun_of F, FunD.bindsN F (fun _ _ _ _ _ _ us hl => match us, hl with | [_, _], _ => by kernel_rfl), He.meth_ok (T.d.fact 118 (f := .meth "Notes" "strike") rfl)⟩
theorem t_e_BadName (T : Told K h mg) : @ExAt (cn K) K mg "BadName" "BadName.__init__" s_BadName 0 ["text"] ["self", "text"] := by
  obtain ⟨fd, F⟩ := T.d2.def_ 0 (d := dm "BadName" "__init__" "BadName.__init__" s_BadName) rfl
  exact exAt_of T.e (by decide) (ex_at rfl) (He.glo_ok T.inn T.ns (T.d.fact 36 (f := .glo "BadName") rfl)) (List.mem_of_getElem? (i := 0) rfl) F (FunD.bindsN F (fun _ _ _ _ _ _ us hl => match us, hl with | [_, _], _ => by kernel_rfl))
theorem t_e_BadPaper (T : Told K h mg) : @ExAt (cn K) K mg "BadPaper" "BadPaper.__init__" s_BadPaper 1 ["text"] ["self", "text"] := by
  obtain ⟨fd, F⟩ := T.d2.def_ 1 (d := dm "BadPaper" "__init__" "BadPaper.__init__" s_BadPaper) rfl
  exact exAt_of T.e (by decide) (ex_at rfl) (He.glo_ok T.inn T.ns (T.d.fact 37 (f := .glo "BadPaper") rfl)) (List.mem_of_getElem? (i := 1) rfl) F (FunD.bindsN F (fun _ _ _ _ _ _ us hl => match us, hl with | [_, _], _ => by kernel_rfl))
theorem t_e_TooWide (T : Told K h mg) : @ExAt (cn K) K mg "TooWide" "TooWide.__init__" s_TooWide 3 ["count"] ["self", "count"] := by
  obtain ⟨fd, F⟩ := T.d2.def_ 2 (d := dm "TooWide" "__init__" "TooWide.__init__" s_TooWide) rfl
  exact exAt_of T.e (by decide) (ex_at rfl) (He.glo_ok T.inn T.ns (T.d.fact 39 (f := .glo "TooWide") rfl)) (List.mem_of_getElem? (i := 2) rfl) F (FunD.bindsN F (fun _ _ _ _ _ _ us hl => match us, hl with | [_, _], _ => by kernel_rfl))
theorem t_e_NotPositive (T : Told K h mg) : @ExAt (cn K) K mg "NotPositive" "NotPositive.__init__" s_NotPositive 5 ["choice", "name"] ["self", "choice", "name"] := by
  obtain ⟨fd, F⟩ := T.d2.def_ 3 (d := dm "NotPositive" "__init__" "NotPositive.__init__" s_NotPositive) rfl
  exact exAt_of T.e (by decide) (ex_at rfl) (He.glo_ok T.inn T.ns (T.d.fact 41 (f := .glo "NotPositive") rfl)) (List.mem_of_getElem? (i := 3) rfl) F (FunD.bindsN F (fun _ _ _ _ _ _ us hl => match us, hl with | [_, _, _], _ => by kernel_rfl))
theorem t_e_NotSettling (T : Told K h mg) : @ExAt (cn K) K mg "NotSettling" "NotSettling.__init__" s_NotSettling 6 ["choice"] ["self", "choice"] := by
  obtain ⟨fd, F⟩ := T.d2.def_ 4 (d := dm "NotSettling" "__init__" "NotSettling.__init__" s_NotSettling) rfl
  exact exAt_of T.e (by decide) (ex_at rfl) (He.glo_ok T.inn T.ns (T.d.fact 42 (f := .glo "NotSettling") rfl)) (List.mem_of_getElem? (i := 4) rfl) F (FunD.bindsN F (fun _ _ _ _ _ _ us hl => match us, hl with | [_, _], _ => by kernel_rfl))
theorem t_e_NamedTwice (T : Told K h mg) : @ExAt (cn K) K mg "NamedTwice" "NamedTwice.__init__" s_NamedTwice 7 ["table"] ["self", "table"] := by
  obtain ⟨fd, F⟩ := T.d2.def_ 5 (d := dm "NamedTwice" "__init__" "NamedTwice.__init__" s_NamedTwice) rfl
  exact exAt_of T.e (by decide) (ex_at rfl) (He.glo_ok T.inn T.ns (T.d.fact 43 (f := .glo "NamedTwice") rfl)) (List.mem_of_getElem? (i := 5) rfl) F (FunD.bindsN F (fun _ _ _ _ _ _ us hl => match us, hl with | [_, _], _ => by kernel_rfl))
theorem t_e_NotLooked (T : Told K h mg) : @ExAt (cn K) K mg "NotLooked" "NotLooked.__init__" s_NotLooked 8 ["table", "key"] ["self", "table", "key"] := by
  obtain ⟨fd, F⟩ := T.d2.def_ 6 (d := dm "NotLooked" "__init__" "NotLooked.__init__" s_NotLooked) rfl
  exact exAt_of T.e (by decide) (ex_at rfl) (He.glo_ok T.inn T.ns (T.d.fact 44 (f := .glo "NotLooked") rfl)) (List.mem_of_getElem? (i := 6) rfl) F (FunD.bindsN F (fun _ _ _ _ _ _ us hl => match us, hl with | [_, _, _], _ => by kernel_rfl))
theorem t_e_BadProgram (T : Told K h mg) : @ExAt (cn K) K mg "BadProgram" "BadProgram.__init__" s_BadProgram 9 ["text"] ["self", "text"] := by
  obtain ⟨fd, F⟩ := T.d2.def_ 7 (d := dm "BadProgram" "__init__" "BadProgram.__init__" s_BadProgram) rfl
  exact exAt_of T.e (by decide) (ex_at rfl) (He.glo_ok T.inn T.ns (T.d.fact 45 (f := .glo "BadProgram") rfl)) (List.mem_of_getElem? (i := 7) rfl) F (FunD.bindsN F (fun _ _ _ _ _ _ us hl => match us, hl with | [_, _], _ => by kernel_rfl))
theorem t_e_BadLine (T : Told K h mg) : @ExAt (cn K) K mg "BadLine" "BadLine.__init__" s_BadLine 10 ["text"] ["self", "text"] := by
  obtain ⟨fd, F⟩ := T.d2.def_ 8 (d := dm "BadLine" "__init__" "BadLine.__init__" s_BadLine) rfl
  exact exAt_of T.e (by decide) (ex_at rfl) (He.glo_ok T.inn T.ns (T.d.fact 46 (f := .glo "BadLine") rfl)) (List.mem_of_getElem? (i := 8) rfl) F (FunD.bindsN F (fun _ _ _ _ _ _ us hl => match us, hl with | [_, _], _ => by kernel_rfl))
theorem t_e_BadMoment (T : Told K h mg) : @ExAt (cn K) K mg "BadMoment" "BadMoment.__init__" s_BadMoment 12 ["moment"] ["self", "moment"] := by
  obtain ⟨fd, F⟩ := T.d2.def_ 9 (d := dm "BadMoment" "__init__" "BadMoment.__init__" s_BadMoment) rfl
  exact exAt_of T.e (by decide) (ex_at rfl) (He.glo_ok T.inn T.ns (T.d.fact 48 (f := .glo "BadMoment") rfl)) (List.mem_of_getElem? (i := 9) rfl) F (FunD.bindsN F (fun _ _ _ _ _ _ us hl => match us, hl with | [_, _], _ => by kernel_rfl))
theorem t_e_NoCell (T : Told K h mg) : @ExAt (cn K) K mg "NoCell" "NoCell.__init__" s_NoCell 13 ["cell"] ["self", "cell"] := by
  obtain ⟨fd, F⟩ := T.d2.def_ 10 (d := dm "NoCell" "__init__" "NoCell.__init__" s_NoCell) rfl
  exact exAt_of T.e (by decide) (ex_at rfl) (He.glo_ok T.inn T.ns (T.d.fact 49 (f := .glo "NoCell") rfl)) (List.mem_of_getElem? (i := 10) rfl) F (FunD.bindsN F (fun _ _ _ _ _ _ us hl => match us, hl with | [_, _], _ => by kernel_rfl))
theorem t_e_NoExchange (T : Told K h mg) : @ExAt (cn K) K mg "NoExchange" "NoExchange.__init__" s_NoExchange 14 ["number"] ["self", "number"] := by
  obtain ⟨fd, F⟩ := T.d2.def_ 11 (d := dm "NoExchange" "__init__" "NoExchange.__init__" s_NoExchange) rfl
  exact exAt_of T.e (by decide) (ex_at rfl) (He.glo_ok T.inn T.ns (T.d.fact 50 (f := .glo "NoExchange") rfl)) (List.mem_of_getElem? (i := 11) rfl) F (FunD.bindsN F (fun _ _ _ _ _ _ us hl => match us, hl with | [_, _], _ => by kernel_rfl))
theorem t_e_TooMany (T : Told K h mg) : @ExAt (cn K) K mg "TooMany" "TooMany.__init__" s_TooMany 15 ["what"] ["self", "what"] := by
  obtain ⟨fd, F⟩ := T.d2.def_ 12 (d := dm "TooMany" "__init__" "TooMany.__init__" s_TooMany) rfl
  exact exAt_of T.e (by decide) (ex_at rfl) (He.glo_ok T.inn T.ns (T.d.fact 51 (f := .glo "TooMany") rfl)) (List.mem_of_getElem? (i := 12) rfl) F (FunD.bindsN F (fun _ _ _ _ _ _ us hl => match us, hl with | [_, _], _ => by kernel_rfl))
theorem t_e_BadModulus (T : Told K h mg) : @ExAt (cn K) K mg "BadModulus" "BadModulus.__init__" s_BadModulus 16 ["modulus"] ["self", "modulus"] := by
  obtain ⟨fd, F⟩ := T.d2.def_ 13 (d := dm "BadModulus" "__init__" "BadModulus.__init__" s_BadModulus) rfl
  exact exAt_of T.e (by decide) (ex_at rfl) (He.glo_ok T.inn T.ns (T.d.fact 52 (f := .glo "BadModulus") rfl)) (List.mem_of_getElem? (i := 13) rfl) F (FunD.bindsN F (fun _ _ _ _ _ _ us hl => match us, hl with | [_, _], _ => by kernel_rfl))
theorem t_e_NoLine (T : Told K h mg) : @ExAt (cn K) K mg "NoLine" "NoLine.__init__" s_NoLine 17 ["number"] ["self", "number"] := by
  obtain ⟨fd, F⟩ := T.d2.def_ 14 (d := dm "NoLine" "__init__" "NoLine.__init__" s_NoLine) rfl
  exact exAt_of T.e (by decide) (ex_at rfl) (He.glo_ok T.inn T.ns (T.d.fact 53 (f := .glo "NoLine") rfl)) (List.mem_of_getElem? (i := 14) rfl) F (FunD.bindsN F (fun _ _ _ _ _ _ us hl => match us, hl with | [_, _], _ => by kernel_rfl))
theorem t_e_ShutLine (T : Told K h mg) : @ExAt (cn K) K mg "ShutLine" "ShutLine.__init__" s_ShutLine 18 ["number"] ["self", "number"] := by
  obtain ⟨fd, F⟩ := T.d2.def_ 15 (d := dm "ShutLine" "__init__" "ShutLine.__init__" s_ShutLine) rfl
  exact exAt_of T.e (by decide) (ex_at rfl) (He.glo_ok T.inn T.ns (T.d.fact 54 (f := .glo "ShutLine") rfl)) (List.mem_of_getElem? (i := 15) rfl) F (FunD.bindsN F (fun _ _ _ _ _ _ us hl => match us, hl with | [_, _], _ => by kernel_rfl))
theorem t_e_NoPart (T : Told K h mg) : @ExAt (cn K) K mg "NoPart" "NoPart.__init__" s_NoPart 19 ["start", "width"] ["self", "start", "width"] := by
  obtain ⟨fd, F⟩ := T.d2.def_ 16 (d := dm "NoPart" "__init__" "NoPart.__init__" s_NoPart) rfl
  exact exAt_of T.e (by decide) (ex_at rfl) (He.glo_ok T.inn T.ns (T.d.fact 55 (f := .glo "NoPart") rfl)) (List.mem_of_getElem? (i := 16) rfl) F (FunD.bindsN F (fun _ _ _ _ _ _ us hl => match us, hl with | [_, _, _], _ => by kernel_rfl))
theorem t_e_BadSize (T : Told K h mg) : @ExAt (cn K) K mg "BadSize" "BadSize.__init__" s_BadSize 20 ["size"] ["self", "size"] := by
  obtain ⟨fd, F⟩ := T.d2.def_ 17 (d := dm "BadSize" "__init__" "BadSize.__init__" s_BadSize) rfl
  exact exAt_of T.e (by decide) (ex_at rfl) (He.glo_ok T.inn T.ns (T.d.fact 56 (f := .glo "BadSize") rfl)) (List.mem_of_getElem? (i := 17) rfl) F (FunD.bindsN F (fun _ _ _ _ _ _ us hl => match us, hl with | [_, _], _ => by kernel_rfl))
theorem t_e_BadText (T : Told K h mg) : @ExAt (cn K) K mg "BadText" "BadText.__init__" s_BadText 22 ["place"] ["self", "place"] := by
  obtain ⟨fd, F⟩ := T.d2.def_ 18 (d := dm "BadText" "__init__" "BadText.__init__" s_BadText) rfl
  exact exAt_of T.e (by decide) (ex_at rfl) (He.glo_ok T.inn T.ns (T.d.fact 58 (f := .glo "BadText") rfl)) (List.mem_of_getElem? (i := 18) rfl) F (FunD.bindsN F (fun _ _ _ _ _ _ us hl => match us, hl with | [_, _], _ => by kernel_rfl))
theorem t_e_NotTold (T : Told K h mg) : @ExAt (cn K) K mg "NotTold" "NotTold.__init__" s_NotTold 23 ["start", "width"] ["self", "start", "width"] := by
  obtain ⟨fd, F⟩ := T.d2.def_ 19 (d := dm "NotTold" "__init__" "NotTold.__init__" s_NotTold) rfl
  exact exAt_of T.e (by decide) (ex_at rfl) (He.glo_ok T.inn T.ns (T.d.fact 59 (f := .glo "NotTold") rfl)) (List.mem_of_getElem? (i := 19) rfl) F (FunD.bindsN F (fun _ _ _ _ _ _ us hl => match us, hl with | [_, _, _], _ => by kernel_rfl))
theorem t_e_UnlikeSizes (T : Told K h mg) : @ExAt (cn K) K mg "UnlikeSizes" "UnlikeSizes.__init__" s_UnlikeSizes 24 ["first", "second"] ["self", "first", "second"] := by
  obtain ⟨fd, F⟩ := T.d2.def_ 20 (d := dm "UnlikeSizes" "__init__" "UnlikeSizes.__init__" s_UnlikeSizes) rfl
  exact exAt_of T.e (by decide) (ex_at rfl) (He.glo_ok T.inn T.ns (T.d.fact 60 (f := .glo "UnlikeSizes") rfl)) (List.mem_of_getElem? (i := 20) rfl) F (FunD.bindsN F (fun _ _ _ _ _ _ us hl => match us, hl with | [_, _, _], _ => by kernel_rfl))
theorem t_e_Unlike (T : Told K h mg) : @ExAt (cn K) K mg "Unlike" "Unlike.__init__" s_Unlike 25 ["start", "width"] ["self", "start", "width"] := by
  obtain ⟨fd, F⟩ := T.d2.def_ 21 (d := dm "Unlike" "__init__" "Unlike.__init__" s_Unlike) rfl
  exact exAt_of T.e (by decide) (ex_at rfl) (He.glo_ok T.inn T.ns (T.d.fact 61 (f := .glo "Unlike") rfl)) (List.mem_of_getElem? (i := 21) rfl) F (FunD.bindsN F (fun _ _ _ _ _ _ us hl => match us, hl with | [_, _, _], _ => by kernel_rfl))
theorem t_e_Unfit (T : Told K h mg) : @ExAt (cn K) K mg "Unfit" "Unfit.__init__" s_Unfit 27 ["number", "word"] ["self", "number", "word"] := by
  obtain ⟨fd, F⟩ := T.d2.def_ 22 (d := dm "Unfit" "__init__" "Unfit.__init__" s_Unfit) rfl
  exact exAt_of T.e (by decide) (ex_at rfl) (He.glo_ok T.inn T.ns (T.d.fact 63 (f := .glo "Unfit") rfl)) (List.mem_of_getElem? (i := 22) rfl) F (FunD.bindsN F (fun _ _ _ _ _ _ us hl => match us, hl with | [_, _, _], _ => by kernel_rfl))
theorem t_e_BadBase (T : Told K h mg) : @ExAt (cn K) K mg "BadBase" "BadBase.__init__" s_BadBase 28 ["base"] ["self", "base"] := by
  obtain ⟨fd, F⟩ := T.d2.def_ 23 (d := dm "BadBase" "__init__" "BadBase.__init__" s_BadBase) rfl
  exact exAt_of T.e (by decide) (ex_at rfl) (He.glo_ok T.inn T.ns (T.d.fact 64 (f := .glo "BadBase") rfl)) (List.mem_of_getElem? (i := 23) rfl) F (FunD.bindsN F (fun _ _ _ _ _ _ us hl => match us, hl with | [_, _], _ => by kernel_rfl))
theorem t_e_NotNeeded (T : Told K h mg) : @ExAt (cn K) K mg "NotNeeded" "NotNeeded.__init__" s_NotNeeded 29 ["cell"] ["self", "cell"] := by
  obtain ⟨fd, F⟩ := T.d2.def_ 24 (d := dm "NotNeeded" "__init__" "NotNeeded.__init__" s_NotNeeded) rfl
  exact exAt_of T.e (by decide) (ex_at rfl) (He.glo_ok T.inn T.ns (T.d.fact 65 (f := .glo "NotNeeded") rfl)) (List.mem_of_getElem? (i := 24) rfl) F (FunD.bindsN F (fun _ _ _ _ _ _ us hl => match us, hl with | [_, _], _ => by kernel_rfl))
theorem t_e_NotEnough (T : Told K h mg) : @ExAt (cn K) K mg "NotEnough" "NotEnough.__init__" s_NotEnough 30 ["start", "width"] ["self", "start", "width"] := by
  obtain ⟨fd, F⟩ := T.d2.def_ 25 (d := dm "NotEnough" "__init__" "NotEnough.__init__" s_NotEnough) rfl
  exact exAt_of T.e (by decide) (ex_at rfl) (He.glo_ok T.inn T.ns (T.d.fact 66 (f := .glo "NotEnough") rfl)) (List.mem_of_getElem? (i := 25) rfl) F (FunD.bindsN F (fun _ _ _ _ _ _ us hl => match us, hl with | [_, _, _], _ => by kernel_rfl))
theorem t_e_NoTable (T : Told K h mg) : @ExAt (cn K) K mg "NoTable" "NoTable.__init__" s_NoTable 31 ["table"] ["self", "table"] := by
  obtain ⟨fd, F⟩ := T.d2.def_ 26 (d := dm "NoTable" "__init__" "NoTable.__init__" s_NoTable) rfl
  exact exAt_of T.e (by decide) (ex_at rfl) (He.glo_ok T.inn T.ns (T.d.fact 67 (f := .glo "NoTable") rfl)) (List.mem_of_getElem? (i := 26) rfl) F (FunD.bindsN F (fun _ _ _ _ _ _ us hl => match us, hl with | [_, _], _ => by kernel_rfl))
theorem t_e_NotShown (T : Told K h mg) : @ExAt (cn K) K mg "NotShown" "NotShown.__init__" s_NotShown 32 ["number"] ["self", "number"] := by
  obtain ⟨fd, F⟩ := T.d2.def_ 27 (d := dm "NotShown" "__init__" "NotShown.__init__" s_NotShown) rfl
  exact exAt_of T.e (by decide) (ex_at rfl) (He.glo_ok T.inn T.ns (T.d.fact 68 (f := .glo "NotShown") rfl)) (List.mem_of_getElem? (i := 27) rfl) F (FunD.bindsN F (fun _ _ _ _ _ _ us hl => match us, hl with | [_, _], _ => by kernel_rfl))
theorem t_e_NotPlain (T : Told K h mg) : @ExAt (cn K) K mg "NotPlain" "NotPlain.__init__" s_NotPlain 33 ["number"] ["self", "number"] := by
  obtain ⟨fd, F⟩ := T.d2.def_ 28 (d := dm "NotPlain" "__init__" "NotPlain.__init__" s_NotPlain) rfl
  exact exAt_of T.e (by decide) (ex_at rfl) (He.glo_ok T.inn T.ns (T.d.fact 69 (f := .glo "NotPlain") rfl)) (List.mem_of_getElem? (i := 28) rfl) F (FunD.bindsN F (fun _ _ _ _ _ _ us hl => match us, hl with | [_, _], _ => by kernel_rfl))
theorem t_e_NotShuttable (T : Told K h mg) : @ExAt (cn K) K mg "NotShuttable" "NotShuttable.__init__" s_NotShuttable 36 ["number"] ["self", "number"] := by
  obtain ⟨fd, F⟩ := T.d2.def_ 29 (d := dm "NotShuttable" "__init__" "NotShuttable.__init__" s_NotShuttable) rfl
  exact exAt_of T.e (by decide) (ex_at rfl) (He.glo_ok T.inn T.ns (T.d.fact 72 (f := .glo "NotShuttable") rfl)) (List.mem_of_getElem? (i := 29) rfl) F (FunD.bindsN F (fun _ _ _ _ _ _ us hl => match us, hl with | [_, _], _ => by kernel_rfl))
theorem t_e_NoNote (T : Told K h mg) : @ExAt (cn K) K mg "NoNote" "NoNote.__init__" s_NoNote 37 ["index"] ["self", "index"] := by
  obtain ⟨fd, F⟩ := T.d2.def_ 30 (d := dm "NoNote" "__init__" "NoNote.__init__" s_NoNote) rfl
  exact exAt_of T.e (by decide) (ex_at rfl) (He.glo_ok T.inn T.ns (T.d.fact 73 (f := .glo "NoNote") rfl)) (List.mem_of_getElem? (i := 30) rfl) F (FunD.bindsN F (fun _ _ _ _ _ _ us hl => match us, hl with | [_, _], _ => by kernel_rfl))
theorem t_e_BadStep (T : Told K h mg) : @ExAt (cn K) K mg "BadStep" "BadStep.__init__" s_BadStep 38 ["place"] ["self", "place"] := by
  obtain ⟨fd, F⟩ := T.d2.def_ 31 (d := dm "BadStep" "__init__" "BadStep.__init__" s_BadStep) rfl
  exact exAt_of T.e (by decide) (ex_at rfl) (He.glo_ok T.inn T.ns (T.d.fact 74 (f := .glo "BadStep") rfl)) (List.mem_of_getElem? (i := 31) rfl) F (FunD.bindsN F (fun _ _ _ _ _ _ us hl => match us, hl with | [_, _], _ => by kernel_rfl))
theorem t_e_NoHouse (T : Told K h mg) : @ExAt (cn K) K mg "NoHouse" "NoHouse.__init__" s_NoHouse 39 ["house"] ["self", "house"] := by
  obtain ⟨fd, F⟩ := T.d2.def_ 32 (d := dm "NoHouse" "__init__" "NoHouse.__init__" s_NoHouse) rfl
  exact exAt_of T.e (by decide) (ex_at rfl) (He.glo_ok T.inn T.ns (T.d.fact 75 (f := .glo "NoHouse") rfl)) (List.mem_of_getElem? (i := 32) rfl) F (FunD.bindsN F (fun _ _ _ _ _ _ us hl => match us, hl with | [_, _], _ => by kernel_rfl))
theorem t_e_NoLetter (T : Told K h mg) : @ExAt (cn K) K mg "NoLetter" "NoLetter.__init__" s_NoLetter 40 ["key"] ["self", "key"] := by
  obtain ⟨fd, F⟩ := T.d2.def_ 33 (d := dm "NoLetter" "__init__" "NoLetter.__init__" s_NoLetter) rfl
  exact exAt_of T.e (by decide) (ex_at rfl) (He.glo_ok T.inn T.ns (T.d.fact 76 (f := .glo "NoLetter") rfl)) (List.mem_of_getElem? (i := 33) rfl) F (FunD.bindsN F (fun _ _ _ _ _ _ us hl => match us, hl with | [_, _], _ => by kernel_rfl))
theorem t_e_NoNotice (T : Told K h mg) : @ExAt (cn K) K mg "NoNotice" "NoNotice.__init__" s_NoNotice 41 ["key"] ["self", "key"] := by
  obtain ⟨fd, F⟩ := T.d2.def_ 34 (d := dm "NoNotice" "__init__" "NoNotice.__init__" s_NoNotice) rfl
  exact exAt_of T.e (by decide) (ex_at rfl) (He.glo_ok T.inn T.ns (T.d.fact 77 (f := .glo "NoNotice") rfl)) (List.mem_of_getElem? (i := 34) rfl) F (FunD.bindsN F (fun _ _ _ _ _ _ us hl => match us, hl with | [_, _], _ => by kernel_rfl))
theorem t_e_NotShownIn (T : Told K h mg) : @ExAt (cn K) K mg "NotShownIn" "NotShownIn.__init__" s_NotShownIn 42 ["house", "number"] ["self", "house", "number"] := by
  obtain ⟨fd, F⟩ := T.d2.def_ 35 (d := dm "NotShownIn" "__init__" "NotShownIn.__init__" s_NotShownIn) rfl
  exact exAt_of T.e (by decide) (ex_at rfl) (He.glo_ok T.inn T.ns (T.d.fact 78 (f := .glo "NotShownIn") rfl)) (List.mem_of_getElem? (i := 35) rfl) F (FunD.bindsN F (fun _ _ _ _ _ _ us hl => match us, hl with | [_, _, _], _ => by kernel_rfl))
theorem t_e_BadNest (T : Told K h mg) : @ExAt (cn K) K mg "BadNest" "BadNest.__init__" s_BadNest 43 ["word", "house", "number"] ["self", "word", "house", "number"] := by
  obtain ⟨fd, F⟩ := T.d2.def_ 36 (d := dm "BadNest" "__init__" "BadNest.__init__" s_BadNest) rfl
  exact exAt_of T.e (by decide) (ex_at rfl) (He.glo_ok T.inn T.ns (T.d.fact 79 (f := .glo "BadNest") rfl)) (List.mem_of_getElem? (i := 36) rfl) F (FunD.bindsN F (fun _ _ _ _ _ _ us hl => match us, hl with | [_, _, _, _], _ => by kernel_rfl))
theorem t_e_NoExhibit (T : Told K h mg) : @ExAt (cn K) K mg "NoExhibit" "NoExhibit.__init__" s_NoExhibit 47 ["index"] ["self", "index"] := by
  obtain ⟨fd, F⟩ := T.d2.def_ 37 (d := dm "NoExhibit" "__init__" "NoExhibit.__init__" s_NoExhibit) rfl
  exact exAt_of T.e (by decide) (ex_at rfl) (He.glo_ok T.inn T.ns (T.d.fact 83 (f := .glo "NoExhibit") rfl)) (List.mem_of_getElem? (i := 37) rfl) F (FunD.bindsN F (fun _ _ _ _ _ _ us hl => match us, hl with | [_, _], _ => by kernel_rfl))
theorem t_e_Faulty (T : Told K h mg) : @ExAt (cn K) K mg "Faulty" "Faulty.__init__" s_Faulty 48 ["first", "second"] ["self", "first", "second"] := by
  obtain ⟨fd, F⟩ := T.d2.def_ 38 (d := dm "Faulty" "__init__" "Faulty.__init__" s_Faulty) rfl
  exact exAt_of T.e (by decide) (ex_at rfl) (He.glo_ok T.inn T.ns (T.d.fact 84 (f := .glo "Faulty") rfl)) (List.mem_of_getElem? (i := 38) rfl) F (FunD.bindsN F (fun _ _ _ _ _ _ us hl => match us, hl with | [_, _, _], _ => by kernel_rfl))
theorem txt (T : Told K h mg) : @Txt (cn K) K mg (He.ga K "Notes") (He.ga K "StrikeBook") := @Txt.mk (cn K) K mg (He.ga K "Notes") (He.ga K "StrikeBook")
  (t_d_ask T)
  (t_d_read T)
  (t_d_nodes T)
  (t_d_law_draw T)
  (t_d_law_pick T)
  (t_d_law_read T)
  (t_d_law_choices T)
  (t_d_law_some_name T)
  (t_d_law_hit T)
  (t_d_names_in T)
  (t_k_binit T)
  (t_m_contains T)
  (t_m_struck T)
  (t_d_without T)
  (t_d_two_readings T)
  (t_d_freed T)
  (t_k_ninit T)
  (t_m_nlen T)
  (t_m_paper T)
  (t_m_stale T)
  (t_m_hanging T)
  (t_m_note T)
  (t_m_strike T)
  (t_d_law_pool T)
  (t_d_law_same T)
  (t_d_law_inside T)
  (t_d_law_fold T)
  (t_d_law_paper T)
  (t_d_law_strikes T)
  (t_d_law_gone T)
  (t_d_law_stale T)
  (t_d_law_hanging T)
  (t_d_law_freed T)
  (t_d_law_book T)
  (t_d_law_asked T)
  (t_d_law_both T)
  (t_d_law_noted T)
  (t_d_law_behind T)
  (t_d_law_chain T)
  (t_d_law_kinds T)
  (t_d_law_made T)
  (t_d_law_texts T)
  (t_d_law_numbers T)
  (t_d_law_errors T)
  (t_d_law T)
  (t_d_law_refused T)
  (He.free_ok T.inn T.ns (T.d.fact 88 (f := .free "len") rfl))
  (He.free_ok T.inn T.ns (T.d.fact 89 (f := .free "abs") rfl))
  (He.free_ok T.inn T.ns (T.d.fact 90 (f := .free "sum") rfl))
  (He.free_ok T.inn T.ns (T.d.fact 91 (f := .free "any") rfl))
  (He.free_ok T.inn T.ns (T.d.fact 92 (f := .free "int") rfl))
  (He.free_ok T.inn T.ns (T.d.fact 93 (f := .free "list") rfl))
  (He.free_ok T.inn T.ns (T.d.fact 94 (f := .free "max") rfl))
  (He.free_ok T.inn T.ns (T.d.fact 95 (f := .free "range") rfl))
  (He.free_ok T.inn T.ns (T.d.fact 96 (f := .free "enumerate") rfl))
  (He.free_ok T.inn T.ns (T.d.fact 97 (f := .free "isinstance") rfl))
  (He.free_ok T.inn T.ns (T.d.fact 98 (f := .free "tuple") rfl))
  (He.free_ok T.inn T.ns (T.d.fact 99 (f := .free "bool") rfl))
  (He.free_ok T.inn T.ns (T.d.fact 100 (f := .free "str") rfl))
  (He.free_ok T.inn T.ns (T.d.fact 101 (f := .free "sorted") rfl))
  (He.free_ok T.inn T.ns (T.d.fact 102 (f := .free "set") rfl))
  (⟨(He.cls_ok (T.d.fact 104 (f := .cls "Notes") rfl)), (He.cls_ok (T.d.fact 105 (f := .cls "StrikeBook") rfl)), (He.noat_ok (T.d.fact 106 (f := .noat "Notes" "_papers") rfl)), (He.noat_ok (T.d.fact 107 (f := .noat "StrikeBook" "_bounds") rfl)), (He.noat_ok (T.d.fact 108 (f := .noat "StrikeBook" "_kept") rfl))⟩)
  (t_e_BadName T)
  (isK_of T.e (by decide) (ex_at rfl) (He.glo_ok T.inn T.ns (T.d.fact 36 (f := .glo "BadName") rfl)))
  (t_e_BadPaper T)
  (isK_of T.e (by decide) (ex_at rfl) (He.glo_ok T.inn T.ns (T.d.fact 37 (f := .glo "BadPaper") rfl)))
  (ex0_of T.e (ex_at rfl) (He.glo_ok T.inn T.ns (T.d.fact 38 (f := .glo "BadReadings") rfl)) (T.d.fact 119 (f := .exc "BadReadings") rfl))
  (isK_of T.e (by decide) (ex_at rfl) (He.glo_ok T.inn T.ns (T.d.fact 38 (f := .glo "BadReadings") rfl)))
  (t_e_TooWide T)
  (isK_of T.e (by decide) (ex_at rfl) (He.glo_ok T.inn T.ns (T.d.fact 39 (f := .glo "TooWide") rfl)))
  (ex0_of T.e (ex_at rfl) (He.glo_ok T.inn T.ns (T.d.fact 40 (f := .glo "TooGreat") rfl)) (T.d.fact 120 (f := .exc "TooGreat") rfl))
  (isK_of T.e (by decide) (ex_at rfl) (He.glo_ok T.inn T.ns (T.d.fact 40 (f := .glo "TooGreat") rfl)))
  (t_e_NotPositive T)
  (isK_of T.e (by decide) (ex_at rfl) (He.glo_ok T.inn T.ns (T.d.fact 41 (f := .glo "NotPositive") rfl)))
  (t_e_NotSettling T)
  (isK_of T.e (by decide) (ex_at rfl) (He.glo_ok T.inn T.ns (T.d.fact 42 (f := .glo "NotSettling") rfl)))
  (t_e_NamedTwice T)
  (isK_of T.e (by decide) (ex_at rfl) (He.glo_ok T.inn T.ns (T.d.fact 43 (f := .glo "NamedTwice") rfl)))
  (t_e_NotLooked T)
  (isK_of T.e (by decide) (ex_at rfl) (He.glo_ok T.inn T.ns (T.d.fact 44 (f := .glo "NotLooked") rfl)))
  (t_e_BadProgram T)
  (isK_of T.e (by decide) (ex_at rfl) (He.glo_ok T.inn T.ns (T.d.fact 45 (f := .glo "BadProgram") rfl)))
  (t_e_BadLine T)
  (isK_of T.e (by decide) (ex_at rfl) (He.glo_ok T.inn T.ns (T.d.fact 46 (f := .glo "BadLine") rfl)))
  (ex0_of T.e (ex_at rfl) (He.glo_ok T.inn T.ns (T.d.fact 47 (f := .glo "NoExample") rfl)) (T.d.fact 121 (f := .exc "NoExample") rfl))
  (isK_of T.e (by decide) (ex_at rfl) (He.glo_ok T.inn T.ns (T.d.fact 47 (f := .glo "NoExample") rfl)))
  (t_e_BadMoment T)
  (isK_of T.e (by decide) (ex_at rfl) (He.glo_ok T.inn T.ns (T.d.fact 48 (f := .glo "BadMoment") rfl)))
  (t_e_NoCell T)
  (isK_of T.e (by decide) (ex_at rfl) (He.glo_ok T.inn T.ns (T.d.fact 49 (f := .glo "NoCell") rfl)))
  (t_e_NoExchange T)
  (isK_of T.e (by decide) (ex_at rfl) (He.glo_ok T.inn T.ns (T.d.fact 50 (f := .glo "NoExchange") rfl)))
  (t_e_TooMany T)
  (isK_of T.e (by decide) (ex_at rfl) (He.glo_ok T.inn T.ns (T.d.fact 51 (f := .glo "TooMany") rfl)))
  (t_e_BadModulus T)
  (isK_of T.e (by decide) (ex_at rfl) (He.glo_ok T.inn T.ns (T.d.fact 52 (f := .glo "BadModulus") rfl)))
  (t_e_NoLine T)
  (isK_of T.e (by decide) (ex_at rfl) (He.glo_ok T.inn T.ns (T.d.fact 53 (f := .glo "NoLine") rfl)))
  (t_e_ShutLine T)
  (isK_of T.e (by decide) (ex_at rfl) (He.glo_ok T.inn T.ns (T.d.fact 54 (f := .glo "ShutLine") rfl)))
  (t_e_NoPart T)
  (isK_of T.e (by decide) (ex_at rfl) (He.glo_ok T.inn T.ns (T.d.fact 55 (f := .glo "NoPart") rfl)))
  (t_e_BadSize T)
  (isK_of T.e (by decide) (ex_at rfl) (He.glo_ok T.inn T.ns (T.d.fact 56 (f := .glo "BadSize") rfl)))
  (ex0_of T.e (ex_at rfl) (He.glo_ok T.inn T.ns (T.d.fact 57 (f := .glo "BadView") rfl)) (T.d.fact 122 (f := .exc "BadView") rfl))
  (isK_of T.e (by decide) (ex_at rfl) (He.glo_ok T.inn T.ns (T.d.fact 57 (f := .glo "BadView") rfl)))
  (t_e_BadText T)
  (isK_of T.e (by decide) (ex_at rfl) (He.glo_ok T.inn T.ns (T.d.fact 58 (f := .glo "BadText") rfl)))
  (t_e_NotTold T)
  (isK_of T.e (by decide) (ex_at rfl) (He.glo_ok T.inn T.ns (T.d.fact 59 (f := .glo "NotTold") rfl)))
  (t_e_UnlikeSizes T)
  (isK_of T.e (by decide) (ex_at rfl) (He.glo_ok T.inn T.ns (T.d.fact 60 (f := .glo "UnlikeSizes") rfl)))
  (t_e_Unlike T)
  (isK_of T.e (by decide) (ex_at rfl) (He.glo_ok T.inn T.ns (T.d.fact 61 (f := .glo "Unlike") rfl)))
  (ex0_of T.e (ex_at rfl) (He.glo_ok T.inn T.ns (T.d.fact 62 (f := .glo "UnlikeHeads") rfl)) (T.d.fact 123 (f := .exc "UnlikeHeads") rfl))
  (isK_of T.e (by decide) (ex_at rfl) (He.glo_ok T.inn T.ns (T.d.fact 62 (f := .glo "UnlikeHeads") rfl)))
  (t_e_Unfit T)
  (isK_of T.e (by decide) (ex_at rfl) (He.glo_ok T.inn T.ns (T.d.fact 63 (f := .glo "Unfit") rfl)))
  (t_e_BadBase T)
  (isK_of T.e (by decide) (ex_at rfl) (He.glo_ok T.inn T.ns (T.d.fact 64 (f := .glo "BadBase") rfl)))
  (t_e_NotNeeded T)
  (isK_of T.e (by decide) (ex_at rfl) (He.glo_ok T.inn T.ns (T.d.fact 65 (f := .glo "NotNeeded") rfl)))
  (t_e_NotEnough T)
  (isK_of T.e (by decide) (ex_at rfl) (He.glo_ok T.inn T.ns (T.d.fact 66 (f := .glo "NotEnough") rfl)))
  (t_e_NoTable T)
  (isK_of T.e (by decide) (ex_at rfl) (He.glo_ok T.inn T.ns (T.d.fact 67 (f := .glo "NoTable") rfl)))
  (t_e_NotShown T)
  (isK_of T.e (by decide) (ex_at rfl) (He.glo_ok T.inn T.ns (T.d.fact 68 (f := .glo "NotShown") rfl)))
  (t_e_NotPlain T)
  (isK_of T.e (by decide) (ex_at rfl) (He.glo_ok T.inn T.ns (T.d.fact 69 (f := .glo "NotPlain") rfl)))
  (ex0_of T.e (ex_at rfl) (He.glo_ok T.inn T.ns (T.d.fact 70 (f := .glo "NotOpen") rfl)) (T.d.fact 124 (f := .exc "NotOpen") rfl))
  (isK_of T.e (by decide) (ex_at rfl) (He.glo_ok T.inn T.ns (T.d.fact 70 (f := .glo "NotOpen") rfl)))
  (ex0_of T.e (ex_at rfl) (He.glo_ok T.inn T.ns (T.d.fact 71 (f := .glo "BadEntry") rfl)) (T.d.fact 125 (f := .exc "BadEntry") rfl))
  (isK_of T.e (by decide) (ex_at rfl) (He.glo_ok T.inn T.ns (T.d.fact 71 (f := .glo "BadEntry") rfl)))
  (t_e_NotShuttable T)
  (isK_of T.e (by decide) (ex_at rfl) (He.glo_ok T.inn T.ns (T.d.fact 72 (f := .glo "NotShuttable") rfl)))
  (t_e_NoNote T)
  (isK_of T.e (by decide) (ex_at rfl) (He.glo_ok T.inn T.ns (T.d.fact 73 (f := .glo "NoNote") rfl)))
  (t_e_BadStep T)
  (isK_of T.e (by decide) (ex_at rfl) (He.glo_ok T.inn T.ns (T.d.fact 74 (f := .glo "BadStep") rfl)))
  (t_e_NoHouse T)
  (isK_of T.e (by decide) (ex_at rfl) (He.glo_ok T.inn T.ns (T.d.fact 75 (f := .glo "NoHouse") rfl)))
  (t_e_NoLetter T)
  (isK_of T.e (by decide) (ex_at rfl) (He.glo_ok T.inn T.ns (T.d.fact 76 (f := .glo "NoLetter") rfl)))
  (t_e_NoNotice T)
  (isK_of T.e (by decide) (ex_at rfl) (He.glo_ok T.inn T.ns (T.d.fact 77 (f := .glo "NoNotice") rfl)))
  (t_e_NotShownIn T)
  (isK_of T.e (by decide) (ex_at rfl) (He.glo_ok T.inn T.ns (T.d.fact 78 (f := .glo "NotShownIn") rfl)))
  (t_e_BadNest T)
  (isK_of T.e (by decide) (ex_at rfl) (He.glo_ok T.inn T.ns (T.d.fact 79 (f := .glo "BadNest") rfl)))
  (ex0_of T.e (ex_at rfl) (He.glo_ok T.inn T.ns (T.d.fact 80 (f := .glo "UnlikeHouses") rfl)) (T.d.fact 126 (f := .exc "UnlikeHouses") rfl))
  (isK_of T.e (by decide) (ex_at rfl) (He.glo_ok T.inn T.ns (T.d.fact 80 (f := .glo "UnlikeHouses") rfl)))
  (ex0_of T.e (ex_at rfl) (He.glo_ok T.inn T.ns (T.d.fact 81 (f := .glo "OtherHouse") rfl)) (T.d.fact 127 (f := .exc "OtherHouse") rfl))
  (isK_of T.e (by decide) (ex_at rfl) (He.glo_ok T.inn T.ns (T.d.fact 81 (f := .glo "OtherHouse") rfl)))
  (ex0_of T.e (ex_at rfl) (He.glo_ok T.inn T.ns (T.d.fact 82 (f := .glo "NotTaken") rfl)) (T.d.fact 128 (f := .exc "NotTaken") rfl))
  (isK_of T.e (by decide) (ex_at rfl) (He.glo_ok T.inn T.ns (T.d.fact 82 (f := .glo "NotTaken") rfl)))
  (t_e_NoExhibit T)
  (isK_of T.e (by decide) (ex_at rfl) (He.glo_ok T.inn T.ns (T.d.fact 83 (f := .glo "NoExhibit") rfl)))
  (t_e_Faulty T)
  (isK_of T.e (by decide) (ex_at rfl) (He.glo_ok T.inn T.ns (T.d.fact 84 (f := .glo "Faulty") rfl)))
  (isH_of T.e (He.glo_ok T.inn T.ns (T.d.fact 85 (f := .glo "HoldError") rfl)))
  (isV_of T.e (He.free_ok T.inn T.ns (T.d.fact 103 (f := .free "ValueError") rfl)))
end
end DL.As
set_option Elab.async false
set_option linter.all false
set_option maxRecDepth 100000
set_option maxHeartbeats 4000000
/-! A3: the law's promise. -/
namespace DL.As
open PySem PySem.Spec PyProof.Rows L2
theorem law_sp {K : Frag} {C1 C2 : Addr} [CN] {H : Hp} {a : Addr} {ns : List Int} (hl : ns.length ≤ 63) (hS : SqL K H a (ns.map V.int)) : spD (L59 K C1 C2) F_law [.ref a] H (fun v _ => v = .bl true) fun _ _ _ => False := by
  have sm : Same H (hid H fun _ => False) := fun b o h => hid_some.mpr ⟨id, h⟩
  refine ⟨fun _ => False, fun _ _ => False, [.dv (.ob (M.oS ns))], _, _, ⟨rfl, fun i s e => ?_, fun i a h => h.elim, fun i a h => h.elim, fun i j a h => h.elim⟩, M.law_true ns hl, fun v H' M' ft' _ _ hr => ?_⟩
  · cases i with
    | zero =>
      have e2 : s = .dv (.ob (M.oS ns)) := (Option.some.inj e).symm
      subst e2
      exact ⟨fun a h => h, .ref a, rfl, a, rfl, sm.seq hS⟩
    | succ i => cases e
  · have hd : Dk (hid H' M') v (.bool true) := hr
    cases hd
    rfl
theorem facts {P : Program} {w : World} {K : Frag} {h : Heap} {mg : Str → Option Value} {f : Addr} (X : K.In h) (G : h.Ns mainGlobals mg) (hf : mg ("law" : Str) = some (.ref f)) (c : He.SaysD fa fnA K) (c2 : He.SaysD [] fnB K) (e : ex K = true) :
    ∃ (fd : FuncData) (sp : Sp), (∀ (s : Shared) (u : Value), BindsTo s fd ⟨[u], []⟩ [("script", u)]) ∧ (∀ (H : Hp) (a : Addr) (ns : List Int), ns.length ≤ 63 → Only H → SqL K H a (ns.map V.int) → sp [.ref a] H (fun v _ => v = .bl true) fun _ _ _ => False) ∧
      ∀ base : Heap, K.In base → base.Ns mainGlobals mg → FnOk P w K mg base CX0 23 f fd ["script"] sp := by
  have T : Told K h mg := ⟨X, G, c, c2, ex_ok e⟩
  obtain ⟨fd, F⟩ := c.def_ 34 (d := d1 "law" s_law) rfl
  have e2 := hf.symm.trans (He.glo_ok X G (c.fact 34 (f := .glo "law") rfl))
  cases e2
  have b := FunD.bindsA (ps := ["script"]) F fun _ _ _ _ _ _ us hl => match us, hl with | [_], _ => by kernel_rfl
  refine ⟨fd, @spD (cn K) (@L59 (cn K) K (He.ga K "Notes") (He.ga K "StrikeBook")) (@F_law (cn K) K (He.ga K "Notes") (He.ga K "StrikeBook")), fun s v => b s [v] rfl, fun H a ns hl _ hS => @law_sp K _ _ (cn K) H a ns hl hS, fun base _ _ => @ok_lawF (cn K) P w K mg base _ _ (txt T) _ _ (fun_of F)⟩
end DL.As
set_option Elab.async false
set_option linter.all false
set_option maxRecDepth 100000
set_option maxHeartbeats 0
open PySem PySem.W PySem.Calls PyProof.Rows
theorem PySem.Challenge.cw_whencehold_k59_told_answers_holds : PySem.Challenge.rw_whencehold_k59_told_answers.Holds := by
  w_on; o_law
  refine HandSHeadRun.head_any (r := OpenLaw.row PySem.Challenge.rw_whencehold_k59_told_answers) (q := DL.As.qv) (H := DL.As.hk) (ob := DL.As.ob) (M := 15000) (loose := DL.As.names) (d := HandSHeadRun.topDef (OpenLaw.row PySem.Challenge.rw_whencehold_k59_told_answers).prog 95) (kwd := []) DL.As.ob_eq
    (by kernel_rfl) (fun s => by kernel_rfl) DL.As.run (by kernel_rfl) (by kernel_rfl) (by kernel_rfl) (by rfl) (by first | assumption | decide +kernel) (by decide +kernel) ⟨rfl, rfl, rfl, rfl, rfl, by decide +kernel⟩ ?hw ?hc
  case hw => w_witness2
  case hc =>
    refine L2.walk_ofE (l := PySem.Challenge.rw_whencehold_k59_told_answers) (n := 63) (k := 23) (x := "script") (CX := L2.CX0) rfl (by decide) (by kernel_rfl) ⟨rfl, by decide, by decide⟩ ?F (fun _ _ _ _ z => z)
    intro w mg fa h Y G hmg0
    obtain ⟨K, KX, c, c2, e⟩ := Y
    have hmg : mg ("law" : PySem.Str) = some (.ref fa) := by
      have e : (HandSHeadRun.topDef (OpenLaw.row PySem.Challenge.rw_whencehold_k59_told_answers).prog 95).name = ("law" : PySem.Str) := by kernel_rfl
      rw [← e]
      exact hmg0
    obtain ⟨fd, sp, hb, hsp, hF⟩ := DL.As.facts (P := (PySem.Challenge.rw_whencehold_k59_told_answers).prog) (w := w) KX G hmg c c2 e
    exact ⟨K, fd, sp, KX, hb, hsp, hF⟩
