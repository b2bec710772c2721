import PyProof.Rows.All
import Wide.All
import OpenK.AllK
import Wide.FinOn
import KE.KStateDown
import HandS.Base
import HandS.Call
import HandS.Ends
import HandS.More
import HandS.Words
import HandS.WordsExc
import HandS.Defaults
import HandS.Head0
import HandS.Head1
import HandS.Head2
import HandS.HeadEnd
import HandS.HeadHook1
import HandS.HeadHook2
import HandS.HeadHook3
import HandS.HeadHook4
import PySem.Challenge.RW_wornsteps_k10_errors_made
import HandS.ForMost
import HandS.Walk
import KE.KeyNested
import HandS.Deep
import HandS.TupAny
import HandS.Zip
import HandS.IsInst
import HandS.Conv
import HandS.Style
import KE.KExcInit
import KE.KExcIs
import HandS.Exc
import HandS.ExcInit
import HandS.ExcField
import HandS.ClsMeth
import HandS.TryMany
import HandS.ExcValue
import HandS.MakeKw
import PyProof.ReprReads
import PyProof.ReprRoads
import HandS.Dict
import PyProof.StrBlock2
import HandS.ExcOwn
import HandS.List
import HandS.FStrTup
set_option Elab.async false
set_option linter.all false
set_option maxRecDepth 100000
set_option maxHeartbeats 4000000
namespace Ws
open PySem PySem.Spec PyProof.Rows L2
def refsT (tl : List Value) : List Value → Bool
  | .ref _ :: r => refsT tl r
  | l => l == tl
def clsFn (s : Stmt) (i : Nat) : Stmt := match s with
  | .ClassDef _ _ _ body _ _ _ _ _ _ _ => body.getD i (.Pass ⟨0, 0, 0, 0⟩)
  | _ => .Pass ⟨0, 0, 0, 0⟩
def xclsB (K : PySem.W.Frag) (tl : List Value) (newId : String) (C : Addr) : Bool := match K.lookup C with
  | some ⟨.type "type", _, .cls ⟨_, _, mro, _, _, true, _, _, _, _, false⟩, sl⟩ => (match mro with
    | c :: bm => decide (c = .ref C) && refsT tl bm
    | [] => false) && (match sl.toList with
    | [_, _, _, _, some (.builtin n), _] => decide (n = newId)
    | _ => false)
  | _ => false
def eqW {α : Type} [DecidableEq α] (a b : α) : Bool := decide (a = b)
def xB (K : PySem.W.Frag) (tl : List Value) (newId : String) (C : Addr) : Bool :=
  xclsB K tl newId C && (decide (PySem.W.findIn K (.ref C) "__setattr__" = some (some (.builtin "object.__setattr__"))) && (decide (PySem.W.subIn K (.ref C) (.type "BaseException") = some true) && (decide (PySem.W.typeIn K (.ref C) = some (.type "type")) && PySem.W.keepIn K (.ref C))))
def xmB (K : PySem.W.Frag) (C : Addr) : Bool := decide (PySem.W.findIn K (.ref C) "__init__" = some (some (.ref (He.ma K C "__init__")))) && decide (PySem.W.typeIn K (.ref (He.ma K C "__init__")) = some (.type "function"))
def xiB (K : PySem.W.Frag) (C : Addr) : Bool :=
  (PySem.W.clsIn K C).isSome && (decide (PySem.W.findIn K (.ref C) "__getattribute__" = some (some (.builtin "BaseException.__getattribute__"))) && (decide (PySem.W.findIn K (.ref C) "__getattr__" = some none) && (decide (PySem.W.subIn K (.ref C) (.type "BaseException") = some true) &&
  (decide (PySem.W.findIn K (.ref C) "__class__" = some (some (.builtin "object.__class__"))) && (decide (PySem.W.specialIn K (.builtin "object.__class__") "__get__" = some (some (.builtin "getset_descriptor.__get__"))) && (decide (PySem.W.takesIn K (.builtin "object.__class__") = some true) && decide (PySem.W.mroIn K C (.type "object") = some true)))))))
def xrB (K : PySem.W.Frag) (ii : String) (C : Addr) : Bool := PySem.W.readsIn K C (.type "type") && (decide (PySem.W.specialIn K (.ref C) "__getattribute__" = some (some (.builtin "type.__getattribute__"))) && (match PySem.W.findCls K (.ref C) (.type "type") "__init__" with
  | some (.val v) => decide (v = .builtin ii)
  | _ => false))
def frY (n : Nat) (g : Addr → Option Obj) : PySem.W.Frag := He.frG g (cStatics :: He.asD g n)
def obsY (n : Nat) (fa : List He.Fa) (fn : List He.DefD) (ex : PySem.W.Frag → Bool) (g : Addr → Option Obj) : He.AlD × Bool := (He.obsD fa fn (frY n g), ex (frY n g))
def hookY (n : Nat) (fa : List He.Fa) (fn : List He.DefD) (ex : PySem.W.Frag → Bool) : PySem.W.Hook where
  α := He.AlD × Bool
  obs := fun s => obsY n fa fn ex s.heap.get?
  val := fun _ => (He.valD fn, true)
  says := fun _ h => ∃ K : PySem.W.Frag, K.In h ∧ He.SaysD fa fn K ∧ ex K = true
  of := fun _ s e => ⟨frY n s.heap.get?, He.frG_in, congrArg Prod.fst e, congrArg Prod.snd e⟩
  keeps := fun _ _ _ ⟨K, hK, c⟩ k => ⟨K, PySem.W.Frag.In.keeps hK k, c⟩
theorem obsY_eq {n : Nat} {fa : List He.Fa} {fn : List He.DefD} {ex : PySem.W.Frag → Bool} {g : Addr → Option Obj} {s : Shared} (h : ∀ a, g a = s.heap.get? a) : obsY n fa fn ex g = (hookY n fa fn ex).obs s := by
  have e : g = s.heap.get? := funext h
  rw [e] <;> rfl
end Ws
set_option Elab.async false
set_option linter.all false
set_option maxRecDepth 100000
set_option maxHeartbeats 4000000
namespace K10
open PySem PySem.Spec PyProof.Rows L2 Ws
abbrev P0 : Program := PySem.Challenge.pw_wornsteps_k10_errors_made
def top (i : Nat) : Stmt := P0.main.body.getD i (.Pass ⟨0, 0, 0, 0⟩)
def ns0 : List Str := [("StairError" : Str), ("InvalidSteps" : Str), ("InvalidJumps" : Str), ("InvalidJump" : Str), ("InvalidLengths" : Str), ("InvalidWay" : Str), ("InvalidThing" : Str), ("InvalidScore" : Str), ("InvalidWays" : Str), ("InvalidCount" : Str), ("InvalidFlow" : Str), ("InvalidRun" : Str), ("InvalidMark" : Str), ("InvalidMarks" : Str), ("InvalidPrices" : Str), ("InvalidBounds" : Str), ("InvalidMoves" : Str), ("InvalidEnds" : Str), ("InvalidHabits" : Str), ("InvalidShares" : Str)]
def ns1 : List Str := [("InvalidText" : Str), ("InvalidClaim" : Str), ("InvalidCommand" : Str), ("MissingError" : Str), ("UnknownWay" : Str), ("NoSuch" : Str), ("StateError" : Str), ("OtherSteps" : Str), ("OtherStair" : Str), ("NotTogether" : Str), ("NothingFits" : Str), ("Endless" : Str), ("NotBetween" : Str), ("Unmeeting" : Str), ("NothingToUndo" : Str), ("CommandFailed" : Str), ("LimitError" : Str), ("TooMany" : Str), ("_law_pot" : Str), ("_law_draw" : Str)]
def ns2 : List Str := [("_law_pick" : Str), ("_law_grounds" : Str), ("_law_ground" : Str), ("_law_thing" : Str), ("_law_by_value" : Str), ("_law_by_named_value" : Str), ("_law_by_place" : Str), ("_law_thrown" : Str), ("_law_caught" : Str), ("_law_raised_right" : Str), ("_law_values_right" : Str), ("_law_states_right" : Str), ("_law_limits_right" : Str), ("_law_sorts" : Str), ("_law_stands" : Str), ("_law_apart_right" : Str), ("_law_right" : Str)]
def loose : List Str := ns0 ++ ns1 ++ ns2
def cn0 : List Str := [("StairError" : Str), ("InvalidSteps" : Str), ("InvalidJumps" : Str), ("InvalidJump" : Str), ("InvalidLengths" : Str), ("InvalidWay" : Str), ("InvalidThing" : Str), ("InvalidScore" : Str), ("InvalidWays" : Str), ("InvalidCount" : Str), ("InvalidFlow" : Str), ("InvalidRun" : Str), ("InvalidMark" : Str), ("InvalidMarks" : Str), ("InvalidPrices" : Str), ("InvalidBounds" : Str), ("InvalidMoves" : Str), ("InvalidEnds" : Str), ("InvalidHabits" : Str), ("InvalidShares" : Str)]
def cn1 : List Str := [("InvalidText" : Str), ("InvalidClaim" : Str), ("InvalidCommand" : Str), ("MissingError" : Str), ("UnknownWay" : Str), ("NoSuch" : Str), ("StateError" : Str), ("OtherSteps" : Str), ("OtherStair" : Str), ("NotTogether" : Str), ("NothingFits" : Str), ("Endless" : Str), ("NotBetween" : Str), ("Unmeeting" : Str), ("NothingToUndo" : Str), ("CommandFailed" : Str), ("LimitError" : Str), ("TooMany" : Str)]
def cnames : List Str := cn0 ++ cn1
def clK (K : PySem.W.Frag) (i : Nat) : Addr := He.ga K (cnames.getD i "")
def an0 : List (List Nat) := [[0], [1, 0], [2, 0], [3, 0], [4, 0], [5, 0], [6, 0], [7, 0], [8, 0], [9, 0], [10, 0], [11, 0], [12, 0], [13, 0], [14, 0], [15, 0], [16, 0], [17, 0], [18, 0], [19, 0]]
def an1 : List (List Nat) := [[20, 0], [21, 0], [22, 0], [23], [24, 23], [25, 23], [26], [27, 26], [28, 26], [29, 26], [30, 26], [31, 26], [32, 26], [33, 26], [34, 26], [35, 26], [36], [37, 36]]
def anc : List (List Nat) := an0 ++ an1
def bs0 : List Str := [("ValueError" : Str), ("ValueError" : Str), ("ValueError" : Str), ("ValueError" : Str), ("ValueError" : Str), ("ValueError" : Str), ("ValueError" : Str), ("ValueError" : Str), ("ValueError" : Str), ("ValueError" : Str), ("ValueError" : Str), ("ValueError" : Str), ("ValueError" : Str), ("ValueError" : Str), ("ValueError" : Str), ("ValueError" : Str), ("ValueError" : Str), ("ValueError" : Str), ("ValueError" : Str), ("ValueError" : Str)]
def bs1 : List Str := [("ValueError" : Str), ("ValueError" : Str), ("ValueError" : Str), ("LookupError" : Str), ("LookupError" : Str), ("LookupError" : Str), ("RuntimeError" : Str), ("RuntimeError" : Str), ("RuntimeError" : Str), ("RuntimeError" : Str), ("RuntimeError" : Str), ("RuntimeError" : Str), ("RuntimeError" : Str), ("RuntimeError" : Str), ("RuntimeError" : Str), ("RuntimeError" : Str), ("ArithmeticError" : Str), ("ArithmeticError" : Str)]
def bases : List Str := bs0 ++ bs1
def okC (i : Nat) : Bool := Nat.blt i 38
def gIs (j i : Nat) : Option Bool := if Nat.blt i 38 = true then some ((anc.getD i []).any fun x => Nat.beq x j) else none
def gIsT (x : Str) (i : Nat) : Option Bool := if Nat.blt i 38 = true then some (decide (bases.getD i "" = x)) else none
abbrev s__law_pot : Stmt := top 40
abbrev s__law_draw : Stmt := top 41
abbrev s__law_pick : Stmt := top 42
abbrev s__law_grounds : Stmt := top 43
abbrev s__law_ground : Stmt := top 44
abbrev s__law_thing : Stmt := top 45
abbrev s__law_by_value : Stmt := top 46
abbrev s__law_by_named_value : Stmt := top 47
abbrev s__law_by_place : Stmt := top 48
abbrev s__law_thrown : Stmt := top 49
abbrev s__law_caught : Stmt := top 50
abbrev s__law_raised_right : Stmt := top 51
abbrev s__law_values_right : Stmt := top 52
abbrev s__law_states_right : Stmt := top 53
abbrev s__law_limits_right : Stmt := top 54
abbrev s__law_sorts : Stmt := top 55
abbrev s__law_stands : Stmt := top 56
abbrev s__law_apart_right : Stmt := top 57
abbrev s__law_right : Stmt := top 58
abbrev s_law : Stmt := top 59
def d__law_pot : He.DefD := ⟨(("_law_pot" : Str), none), ("_law_pot" : Str), ("_law_pot" : Str), defArgs s__law_pot, defBody s__law_pot, defScope s__law_pot, [], []⟩
def d__law_draw : He.DefD := ⟨(("_law_draw" : Str), none), ("_law_draw" : Str), ("_law_draw" : Str), defArgs s__law_draw, defBody s__law_draw, defScope s__law_draw, [], []⟩
def d__law_pick : He.DefD := ⟨(("_law_pick" : Str), none), ("_law_pick" : Str), ("_law_pick" : Str), defArgs s__law_pick, defBody s__law_pick, defScope s__law_pick, [], []⟩
def d__law_grounds : He.DefD := ⟨(("_law_grounds" : Str), none), ("_law_grounds" : Str), ("_law_grounds" : Str), defArgs s__law_grounds, defBody s__law_grounds, defScope s__law_grounds, [], []⟩
def d__law_ground : He.DefD := ⟨(("_law_ground" : Str), none), ("_law_ground" : Str), ("_law_ground" : Str), defArgs s__law_ground, defBody s__law_ground, defScope s__law_ground, [], []⟩
def d__law_thing : He.DefD := ⟨(("_law_thing" : Str), none), ("_law_thing" : Str), ("_law_thing" : Str), defArgs s__law_thing, defBody s__law_thing, defScope s__law_thing, [], []⟩
def d__law_by_value : He.DefD := ⟨(("_law_by_value" : Str), none), ("_law_by_value" : Str), ("_law_by_value" : Str), defArgs s__law_by_value, defBody s__law_by_value, defScope s__law_by_value, [], []⟩
def d__law_by_named_value : He.DefD := ⟨(("_law_by_named_value" : Str), none), ("_law_by_named_value" : Str), ("_law_by_named_value" : Str), defArgs s__law_by_named_value, defBody s__law_by_named_value, defScope s__law_by_named_value, [], []⟩
def d__law_by_place : He.DefD := ⟨(("_law_by_place" : Str), none), ("_law_by_place" : Str), ("_law_by_place" : Str), defArgs s__law_by_place, defBody s__law_by_place, defScope s__law_by_place, [], []⟩
def d__law_thrown : He.DefD := ⟨(("_law_thrown" : Str), none), ("_law_thrown" : Str), ("_law_thrown" : Str), defArgs s__law_thrown, defBody s__law_thrown, defScope s__law_thrown, [], []⟩
def d__law_caught : He.DefD := ⟨(("_law_caught" : Str), none), ("_law_caught" : Str), ("_law_caught" : Str), defArgs s__law_caught, defBody s__law_caught, defScope s__law_caught, [], []⟩
def d__law_raised_right : He.DefD := ⟨(("_law_raised_right" : Str), none), ("_law_raised_right" : Str), ("_law_raised_right" : Str), defArgs s__law_raised_right, defBody s__law_raised_right, defScope s__law_raised_right, [], []⟩
def d__law_values_right : He.DefD := ⟨(("_law_values_right" : Str), none), ("_law_values_right" : Str), ("_law_values_right" : Str), defArgs s__law_values_right, defBody s__law_values_right, defScope s__law_values_right, [], []⟩
def d__law_states_right : He.DefD := ⟨(("_law_states_right" : Str), none), ("_law_states_right" : Str), ("_law_states_right" : Str), defArgs s__law_states_right, defBody s__law_states_right, defScope s__law_states_right, [], []⟩
def d__law_limits_right : He.DefD := ⟨(("_law_limits_right" : Str), none), ("_law_limits_right" : Str), ("_law_limits_right" : Str), defArgs s__law_limits_right, defBody s__law_limits_right, defScope s__law_limits_right, [], []⟩
def d__law_sorts : He.DefD := ⟨(("_law_sorts" : Str), none), ("_law_sorts" : Str), ("_law_sorts" : Str), defArgs s__law_sorts, defBody s__law_sorts, defScope s__law_sorts, [], []⟩
def d__law_stands : He.DefD := ⟨(("_law_stands" : Str), none), ("_law_stands" : Str), ("_law_stands" : Str), defArgs s__law_stands, defBody s__law_stands, defScope s__law_stands, [], []⟩
def d__law_apart_right : He.DefD := ⟨(("_law_apart_right" : Str), none), ("_law_apart_right" : Str), ("_law_apart_right" : Str), defArgs s__law_apart_right, defBody s__law_apart_right, defScope s__law_apart_right, [], []⟩
def d__law_right : He.DefD := ⟨(("_law_right" : Str), none), ("_law_right" : Str), ("_law_right" : Str), defArgs s__law_right, defBody s__law_right, defScope s__law_right, [], []⟩
def d_law : He.DefD := ⟨(("law" : Str), none), ("law" : Str), ("law" : Str), defArgs s_law, defBody s_law, defScope s_law, [], []⟩
abbrev s_i_InvalidSteps : Stmt := clsFn (top 2) 0
def d_i_InvalidSteps : He.DefD := ⟨(("InvalidSteps" : Str), some "__init__"), "__init__", ("InvalidSteps.__init__" : Str), defArgs s_i_InvalidSteps, defBody s_i_InvalidSteps, defScope s_i_InvalidSteps, [], []⟩
abbrev s_i_InvalidJumps : Stmt := clsFn (top 3) 0
def d_i_InvalidJumps : He.DefD := ⟨(("InvalidJumps" : Str), some "__init__"), "__init__", ("InvalidJumps.__init__" : Str), defArgs s_i_InvalidJumps, defBody s_i_InvalidJumps, defScope s_i_InvalidJumps, [], []⟩
abbrev s_i_InvalidJump : Stmt := clsFn (top 4) 0
def d_i_InvalidJump : He.DefD := ⟨(("InvalidJump" : Str), some "__init__"), "__init__", ("InvalidJump.__init__" : Str), defArgs s_i_InvalidJump, defBody s_i_InvalidJump, defScope s_i_InvalidJump, [], []⟩
abbrev s_i_InvalidLengths : Stmt := clsFn (top 5) 0
def d_i_InvalidLengths : He.DefD := ⟨(("InvalidLengths" : Str), some "__init__"), "__init__", ("InvalidLengths.__init__" : Str), defArgs s_i_InvalidLengths, defBody s_i_InvalidLengths, defScope s_i_InvalidLengths, [], []⟩
abbrev s_i_InvalidWay : Stmt := clsFn (top 6) 0
def d_i_InvalidWay : He.DefD := ⟨(("InvalidWay" : Str), some "__init__"), "__init__", ("InvalidWay.__init__" : Str), defArgs s_i_InvalidWay, defBody s_i_InvalidWay, defScope s_i_InvalidWay, [], []⟩
abbrev s_i_InvalidThing : Stmt := clsFn (top 7) 0
def d_i_InvalidThing : He.DefD := ⟨(("InvalidThing" : Str), some "__init__"), "__init__", ("InvalidThing.__init__" : Str), defArgs s_i_InvalidThing, defBody s_i_InvalidThing, defScope s_i_InvalidThing, [], []⟩
abbrev s_i_InvalidScore : Stmt := clsFn (top 8) 0
def d_i_InvalidScore : He.DefD := ⟨(("InvalidScore" : Str), some "__init__"), "__init__", ("InvalidScore.__init__" : Str), defArgs s_i_InvalidScore, defBody s_i_InvalidScore, defScope s_i_InvalidScore, [], []⟩
abbrev s_i_InvalidWays : Stmt := clsFn (top 9) 0
def d_i_InvalidWays : He.DefD := ⟨(("InvalidWays" : Str), some "__init__"), "__init__", ("InvalidWays.__init__" : Str), defArgs s_i_InvalidWays, defBody s_i_InvalidWays, defScope s_i_InvalidWays, [], []⟩
abbrev s_i_InvalidCount : Stmt := clsFn (top 10) 0
def d_i_InvalidCount : He.DefD := ⟨(("InvalidCount" : Str), some "__init__"), "__init__", ("InvalidCount.__init__" : Str), defArgs s_i_InvalidCount, defBody s_i_InvalidCount, defScope s_i_InvalidCount, [], []⟩
abbrev s_i_InvalidFlow : Stmt := clsFn (top 11) 0
def d_i_InvalidFlow : He.DefD := ⟨(("InvalidFlow" : Str), some "__init__"), "__init__", ("InvalidFlow.__init__" : Str), defArgs s_i_InvalidFlow, defBody s_i_InvalidFlow, defScope s_i_InvalidFlow, [], []⟩
abbrev s_i_InvalidRun : Stmt := clsFn (top 12) 0
def d_i_InvalidRun : He.DefD := ⟨(("InvalidRun" : Str), some "__init__"), "__init__", ("InvalidRun.__init__" : Str), defArgs s_i_InvalidRun, defBody s_i_InvalidRun, defScope s_i_InvalidRun, [], []⟩
abbrev s_i_InvalidMark : Stmt := clsFn (top 13) 0
def d_i_InvalidMark : He.DefD := ⟨(("InvalidMark" : Str), some "__init__"), "__init__", ("InvalidMark.__init__" : Str), defArgs s_i_InvalidMark, defBody s_i_InvalidMark, defScope s_i_InvalidMark, [], []⟩
abbrev s_i_InvalidMarks : Stmt := clsFn (top 14) 0
def d_i_InvalidMarks : He.DefD := ⟨(("InvalidMarks" : Str), some "__init__"), "__init__", ("InvalidMarks.__init__" : Str), defArgs s_i_InvalidMarks, defBody s_i_InvalidMarks, defScope s_i_InvalidMarks, [], []⟩
abbrev s_i_InvalidPrices : Stmt := clsFn (top 15) 0
def d_i_InvalidPrices : He.DefD := ⟨(("InvalidPrices" : Str), some "__init__"), "__init__", ("InvalidPrices.__init__" : Str), defArgs s_i_InvalidPrices, defBody s_i_InvalidPrices, defScope s_i_InvalidPrices, [], []⟩
abbrev s_i_InvalidBounds : Stmt := clsFn (top 16) 0
def d_i_InvalidBounds : He.DefD := ⟨(("InvalidBounds" : Str), some "__init__"), "__init__", ("InvalidBounds.__init__" : Str), defArgs s_i_InvalidBounds, defBody s_i_InvalidBounds, defScope s_i_InvalidBounds, [], []⟩
abbrev s_i_InvalidMoves : Stmt := clsFn (top 17) 0
def d_i_InvalidMoves : He.DefD := ⟨(("InvalidMoves" : Str), some "__init__"), "__init__", ("InvalidMoves.__init__" : Str), defArgs s_i_InvalidMoves, defBody s_i_InvalidMoves, defScope s_i_InvalidMoves, [], []⟩
abbrev s_i_InvalidEnds : Stmt := clsFn (top 18) 0
def d_i_InvalidEnds : He.DefD := ⟨(("InvalidEnds" : Str), some "__init__"), "__init__", ("InvalidEnds.__init__" : Str), defArgs s_i_InvalidEnds, defBody s_i_InvalidEnds, defScope s_i_InvalidEnds, [], []⟩
abbrev s_i_InvalidHabits : Stmt := clsFn (top 19) 0
def d_i_InvalidHabits : He.DefD := ⟨(("InvalidHabits" : Str), some "__init__"), "__init__", ("InvalidHabits.__init__" : Str), defArgs s_i_InvalidHabits, defBody s_i_InvalidHabits, defScope s_i_InvalidHabits, [], []⟩
abbrev s_i_InvalidShares : Stmt := clsFn (top 20) 0
def d_i_InvalidShares : He.DefD := ⟨(("InvalidShares" : Str), some "__init__"), "__init__", ("InvalidShares.__init__" : Str), defArgs s_i_InvalidShares, defBody s_i_InvalidShares, defScope s_i_InvalidShares, [], []⟩
abbrev s_i_InvalidText : Stmt := clsFn (top 21) 0
def d_i_InvalidText : He.DefD := ⟨(("InvalidText" : Str), some "__init__"), "__init__", ("InvalidText.__init__" : Str), defArgs s_i_InvalidText, defBody s_i_InvalidText, defScope s_i_InvalidText, [], []⟩
abbrev s_i_InvalidClaim : Stmt := clsFn (top 22) 0
def d_i_InvalidClaim : He.DefD := ⟨(("InvalidClaim" : Str), some "__init__"), "__init__", ("InvalidClaim.__init__" : Str), defArgs s_i_InvalidClaim, defBody s_i_InvalidClaim, defScope s_i_InvalidClaim, [], []⟩
abbrev s_i_InvalidCommand : Stmt := clsFn (top 23) 0
def d_i_InvalidCommand : He.DefD := ⟨(("InvalidCommand" : Str), some "__init__"), "__init__", ("InvalidCommand.__init__" : Str), defArgs s_i_InvalidCommand, defBody s_i_InvalidCommand, defScope s_i_InvalidCommand, [], []⟩
abbrev s_i_UnknownWay : Stmt := clsFn (top 25) 0
def d_i_UnknownWay : He.DefD := ⟨(("UnknownWay" : Str), some "__init__"), "__init__", ("UnknownWay.__init__" : Str), defArgs s_i_UnknownWay, defBody s_i_UnknownWay, defScope s_i_UnknownWay, [], []⟩
abbrev s_i_NoSuch : Stmt := clsFn (top 26) 0
def d_i_NoSuch : He.DefD := ⟨(("NoSuch" : Str), some "__init__"), "__init__", ("NoSuch.__init__" : Str), defArgs s_i_NoSuch, defBody s_i_NoSuch, defScope s_i_NoSuch, [], []⟩
abbrev s_i_OtherSteps : Stmt := clsFn (top 28) 0
def d_i_OtherSteps : He.DefD := ⟨(("OtherSteps" : Str), some "__init__"), "__init__", ("OtherSteps.__init__" : Str), defArgs s_i_OtherSteps, defBody s_i_OtherSteps, defScope s_i_OtherSteps, [], []⟩
abbrev s_i_OtherStair : Stmt := clsFn (top 29) 0
def d_i_OtherStair : He.DefD := ⟨(("OtherStair" : Str), some "__init__"), "__init__", ("OtherStair.__init__" : Str), defArgs s_i_OtherStair, defBody s_i_OtherStair, defScope s_i_OtherStair, [], []⟩
abbrev s_i_NotTogether : Stmt := clsFn (top 30) 0
def d_i_NotTogether : He.DefD := ⟨(("NotTogether" : Str), some "__init__"), "__init__", ("NotTogether.__init__" : Str), defArgs s_i_NotTogether, defBody s_i_NotTogether, defScope s_i_NotTogether, [], []⟩
abbrev s_i_NothingFits : Stmt := clsFn (top 31) 0
def d_i_NothingFits : He.DefD := ⟨(("NothingFits" : Str), some "__init__"), "__init__", ("NothingFits.__init__" : Str), defArgs s_i_NothingFits, defBody s_i_NothingFits, defScope s_i_NothingFits, [], []⟩
abbrev s_i_Endless : Stmt := clsFn (top 32) 0
def d_i_Endless : He.DefD := ⟨(("Endless" : Str), some "__init__"), "__init__", ("Endless.__init__" : Str), defArgs s_i_Endless, defBody s_i_Endless, defScope s_i_Endless, [], []⟩
abbrev s_i_NotBetween : Stmt := clsFn (top 33) 0
def d_i_NotBetween : He.DefD := ⟨(("NotBetween" : Str), some "__init__"), "__init__", ("NotBetween.__init__" : Str), defArgs s_i_NotBetween, defBody s_i_NotBetween, defScope s_i_NotBetween, [], []⟩
abbrev s_i_Unmeeting : Stmt := clsFn (top 34) 0
def d_i_Unmeeting : He.DefD := ⟨(("Unmeeting" : Str), some "__init__"), "__init__", ("Unmeeting.__init__" : Str), defArgs s_i_Unmeeting, defBody s_i_Unmeeting, defScope s_i_Unmeeting, [], []⟩
abbrev s_i_NothingToUndo : Stmt := clsFn (top 35) 0
def d_i_NothingToUndo : He.DefD := ⟨(("NothingToUndo" : Str), some "__init__"), "__init__", ("NothingToUndo.__init__" : Str), defArgs s_i_NothingToUndo, defBody s_i_NothingToUndo, defScope s_i_NothingToUndo, [], []⟩
abbrev s_i_CommandFailed : Stmt := clsFn (top 36) 0
def d_i_CommandFailed : He.DefD := ⟨(("CommandFailed" : Str), some "__init__"), "__init__", ("CommandFailed.__init__" : Str), defArgs s_i_CommandFailed, defBody s_i_CommandFailed, defScope s_i_CommandFailed, [], []⟩
abbrev s_i_TooMany : Stmt := clsFn (top 38) 0
def d_i_TooMany : He.DefD := ⟨(("TooMany" : Str), some "__init__"), "__init__", ("TooMany.__init__" : Str), defArgs s_i_TooMany, defBody s_i_TooMany, defScope s_i_TooMany, [], []⟩
def fn0 : List He.DefD := [d__law_pot, d__law_draw, d__law_pick, d__law_grounds, d__law_ground, d__law_thing, d__law_by_value, d__law_by_named_value, d__law_by_place, d__law_thrown, d__law_caught, d__law_raised_right, d__law_values_right, d__law_states_right, d__law_limits_right, d__law_sorts, d__law_stands, d__law_apart_right, d__law_right, d_law]
def fn1 : List He.DefD := [d_i_InvalidSteps, d_i_InvalidJumps, d_i_InvalidJump, d_i_InvalidLengths, d_i_InvalidWay, d_i_InvalidThing, d_i_InvalidScore, d_i_InvalidWays, d_i_InvalidCount, d_i_InvalidFlow, d_i_InvalidRun, d_i_InvalidMark, d_i_InvalidMarks, d_i_InvalidPrices, d_i_InvalidBounds, d_i_InvalidMoves, d_i_InvalidEnds, d_i_InvalidHabits, d_i_InvalidShares, d_i_InvalidText]
def fn2 : List He.DefD := [d_i_InvalidClaim, d_i_InvalidCommand, d_i_UnknownWay, d_i_NoSuch, d_i_OtherSteps, d_i_OtherStair, d_i_NotTogether, d_i_NothingFits, d_i_Endless, d_i_NotBetween, d_i_Unmeeting, d_i_NothingToUndo, d_i_CommandFailed, d_i_TooMany]
def fn : List He.DefD := fn0 ++ fn1 ++ fn2
def fa0 : List He.Fa := [.glo ("StairError" : Str), .glo ("InvalidSteps" : Str), .glo ("InvalidJumps" : Str), .glo ("InvalidJump" : Str), .glo ("InvalidLengths" : Str), .glo ("InvalidWay" : Str), .glo ("InvalidThing" : Str), .glo ("InvalidScore" : Str), .glo ("InvalidWays" : Str), .glo ("InvalidCount" : Str), .glo ("InvalidFlow" : Str), .glo ("InvalidRun" : Str), .glo ("InvalidMark" : Str), .glo ("InvalidMarks" : Str), .glo ("InvalidPrices" : Str), .glo ("InvalidBounds" : Str), .glo ("InvalidMoves" : Str), .glo ("InvalidEnds" : Str), .glo ("InvalidHabits" : Str), .glo ("InvalidShares" : Str)]
def fa1 : List He.Fa := [.glo ("InvalidText" : Str), .glo ("InvalidClaim" : Str), .glo ("InvalidCommand" : Str), .glo ("MissingError" : Str), .glo ("UnknownWay" : Str), .glo ("NoSuch" : Str), .glo ("StateError" : Str), .glo ("OtherSteps" : Str), .glo ("OtherStair" : Str), .glo ("NotTogether" : Str), .glo ("NothingFits" : Str), .glo ("Endless" : Str), .glo ("NotBetween" : Str), .glo ("Unmeeting" : Str), .glo ("NothingToUndo" : Str), .glo ("CommandFailed" : Str), .glo ("LimitError" : Str), .glo ("TooMany" : Str), .glo ("_law_pot" : Str), .glo ("_law_draw" : Str)]
def fa2 : List He.Fa := [.glo ("_law_pick" : Str), .glo ("_law_grounds" : Str), .glo ("_law_ground" : Str), .glo ("_law_thing" : Str), .glo ("_law_by_value" : Str), .glo ("_law_by_named_value" : Str), .glo ("_law_by_place" : Str), .glo ("_law_thrown" : Str), .glo ("_law_caught" : Str), .glo ("_law_raised_right" : Str), .glo ("_law_values_right" : Str), .glo ("_law_states_right" : Str), .glo ("_law_limits_right" : Str), .glo ("_law_sorts" : Str), .glo ("_law_stands" : Str), .glo ("_law_apart_right" : Str), .glo ("_law_right" : Str), .glo ("law" : Str), .free ("ArithmeticError" : Str), .free ("LookupError" : Str)]
def fa3 : List He.Fa := [.free ("RuntimeError" : Str), .free ("ValueError" : Str), .free ("abs" : Str), .free ("all" : Str), .free ("any" : Str), .free ("divmod" : Str), .free ("enumerate" : Str), .free ("int" : Str), .free ("isinstance" : Str), .free ("len" : Str), .free ("max" : Str), .free ("min" : Str), .free ("range" : Str), .free ("repr" : Str)]
def fa : List He.Fa := fa0 ++ fa1 ++ fa2 ++ fa3
abbrev tl_ArithmeticError : List Value := [.type "ArithmeticError", .type "Exception", .type "BaseException", .type "object"]
abbrev tl_LookupError : List Value := [.type "LookupError", .type "Exception", .type "BaseException", .type "object"]
abbrev tl_RuntimeError : List Value := [.type "RuntimeError", .type "Exception", .type "BaseException", .type "object"]
abbrev tl_ValueError : List Value := [.type "ValueError", .type "Exception", .type "BaseException", .type "object"]
def ex1 (K : PySem.W.Frag) : Bool := xB K tl_ValueError "ValueError.__new__" (He.ga K ("StairError" : Str)) && (xB K tl_ValueError "ValueError.__new__" (He.ga K ("InvalidSteps" : Str)) && (xB K tl_ValueError "ValueError.__new__" (He.ga K ("InvalidJumps" : Str)) && (xB K tl_ValueError "ValueError.__new__" (He.ga K ("InvalidJump" : Str)) && (xB K tl_ValueError "ValueError.__new__" (He.ga K ("InvalidLengths" : Str)) && (xB K tl_ValueError "ValueError.__new__" (He.ga K ("InvalidWay" : Str)) && (xB K tl_ValueError "ValueError.__new__" (He.ga K ("InvalidThing" : Str)) && (xB K tl_ValueError "ValueError.__new__" (He.ga K ("InvalidScore" : Str)) && (xB K tl_ValueError "ValueError.__new__" (He.ga K ("InvalidWays" : Str)) && (xB K tl_ValueError "ValueError.__new__" (He.ga K ("InvalidCount" : Str)) && (xB K tl_ValueError "ValueError.__new__" (He.ga K ("InvalidFlow" : Str)) && (xB K tl_ValueError "ValueError.__new__" (He.ga K ("InvalidRun" : Str)) && (xB K tl_ValueError "ValueError.__new__" (He.ga K ("InvalidMark" : Str)) && (xB K tl_ValueError "ValueError.__new__" (He.ga K ("InvalidMarks" : Str)) && (xB K tl_ValueError "ValueError.__new__" (He.ga K ("InvalidPrices" : Str)) && (xB K tl_ValueError "ValueError.__new__" (He.ga K ("InvalidBounds" : Str)) && (xB K tl_ValueError "ValueError.__new__" (He.ga K ("InvalidMoves" : Str)) && (xB K tl_ValueError "ValueError.__new__" (He.ga K ("InvalidEnds" : Str)) && (xB K tl_ValueError "ValueError.__new__" (He.ga K ("InvalidHabits" : Str)) && (xB K tl_ValueError "ValueError.__new__" (He.ga K ("InvalidShares" : Str)) && (xB K tl_ValueError "ValueError.__new__" (He.ga K ("InvalidText" : Str)) && (xB K tl_ValueError "ValueError.__new__" (He.ga K ("InvalidClaim" : Str)) && (xB K tl_ValueError "ValueError.__new__" (He.ga K ("InvalidCommand" : Str)) && (xB K tl_LookupError "LookupError.__new__" (He.ga K ("MissingError" : Str)) && (xB K tl_LookupError "LookupError.__new__" (He.ga K ("UnknownWay" : Str)) && (xB K tl_LookupError "LookupError.__new__" (He.ga K ("NoSuch" : Str)) && (xB K tl_RuntimeError "RuntimeError.__new__" (He.ga K ("StateError" : Str)) && (xB K tl_RuntimeError "RuntimeError.__new__" (He.ga K ("OtherSteps" : Str)) && (xB K tl_RuntimeError "RuntimeError.__new__" (He.ga K ("OtherStair" : Str)) && (xB K tl_RuntimeError "RuntimeError.__new__" (He.ga K ("NotTogether" : Str)) && (xB K tl_RuntimeError "RuntimeError.__new__" (He.ga K ("NothingFits" : Str)) && (xB K tl_RuntimeError "RuntimeError.__new__" (He.ga K ("Endless" : Str)) && (xB K tl_RuntimeError "RuntimeError.__new__" (He.ga K ("NotBetween" : Str)) && (xB K tl_RuntimeError "RuntimeError.__new__" (He.ga K ("Unmeeting" : Str)) && (xB K tl_RuntimeError "RuntimeError.__new__" (He.ga K ("NothingToUndo" : Str)) && (xB K tl_RuntimeError "RuntimeError.__new__" (He.ga K ("CommandFailed" : Str)) && (xB K tl_ArithmeticError "ArithmeticError.__new__" (He.ga K ("LimitError" : Str)) && (xB K tl_ArithmeticError "ArithmeticError.__new__" (He.ga K ("TooMany" : Str)))))))))))))))))))))))))))))))))))))))
def ex2 (K : PySem.W.Frag) : Bool := xmB K (He.ga K ("InvalidSteps" : Str)) && (xmB K (He.ga K ("InvalidJumps" : Str)) && (xmB K (He.ga K ("InvalidJump" : Str)) && (xmB K (He.ga K ("InvalidLengths" : Str)) && (xmB K (He.ga K ("InvalidWay" : Str)) && (xmB K (He.ga K ("InvalidThing" : Str)) && (xmB K (He.ga K ("InvalidScore" : Str)) && (xmB K (He.ga K ("InvalidWays" : Str)) && (xmB K (He.ga K ("InvalidCount" : Str)) && (xmB K (He.ga K ("InvalidFlow" : Str)) && (xmB K (He.ga K ("InvalidRun" : Str)) && (xmB K (He.ga K ("InvalidMark" : Str)) && (xmB K (He.ga K ("InvalidMarks" : Str)) && (xmB K (He.ga K ("InvalidPrices" : Str)) && (xmB K (He.ga K ("InvalidBounds" : Str)) && (xmB K (He.ga K ("InvalidMoves" : Str)) && (xmB K (He.ga K ("InvalidEnds" : Str)) && (xmB K (He.ga K ("InvalidHabits" : Str)) && (xmB K (He.ga K ("InvalidShares" : Str)) && (xmB K (He.ga K ("InvalidText" : Str)) && (xmB K (He.ga K ("InvalidClaim" : Str)) && (xmB K (He.ga K ("InvalidCommand" : Str)) && (xmB K (He.ga K ("UnknownWay" : Str)) && (xmB K (He.ga K ("NoSuch" : Str)) && (xmB K (He.ga K ("OtherSteps" : Str)) && (xmB K (He.ga K ("OtherStair" : Str)) && (xmB K (He.ga K ("NotTogether" : Str)) && (xmB K (He.ga K ("NothingFits" : Str)) && (xmB K (He.ga K ("Endless" : Str)) && (xmB K (He.ga K ("NotBetween" : Str)) && (xmB K (He.ga K ("Unmeeting" : Str)) && (xmB K (He.ga K ("NothingToUndo" : Str)) && (xmB K (He.ga K ("CommandFailed" : Str)) && (xmB K (He.ga K ("TooMany" : Str)))))))))))))))))))))))))))))))))))
def ex3 (K : PySem.W.Frag) : Bool := (List.range 38).all fun i => xiB K (clK K i) && xfB K (clK K i)
def fields : List Str := [("greatest" : Str), ("least" : Str), ("limit" : Str), ("line" : Str), ("one" : Str), ("other" : Str), ("position" : Str), ("value" : Str), ("what" : Str)]
def ex4 (K : PySem.W.Frag) : Bool := (List.range 38).all fun i => fields.all fun f => decide (PySem.W.findIn K (.ref (clK K i)) f = some none)
def tested : List Nat := [0, 1, 2, 3, 4, 5, 6, 7, 8, 9, 10, 11, 12, 13, 14, 15, 16, 17, 18, 19] ++ [20, 21, 22, 23, 24, 25, 26, 27, 28, 29, 30, 31, 32, 33, 34, 35, 36, 37]
def testedT : List (String × Str) := [("ArithmeticError", ("ArithmeticError" : Str)), ("LookupError", ("LookupError" : Str)), ("RuntimeError", ("RuntimeError" : Str)), ("ValueError", ("ValueError" : Str))]
def ex5 (K : PySem.W.Frag) : Bool := (List.range 38).all fun i => (tested.all fun j => decide (PySem.W.kitOne K (.ref (clK K i)) (.ref (clK K j)) = gIs j i)) && testedT.all fun x => decide (PySem.W.kitOne K (.ref (clK K i)) (.type x.1) = gIsT x.2 i)
def caught : List Nat := [0, 23, 26, 32, 36]
def ex6 (K : PySem.W.Frag) : Bool := (List.range 38).all fun i => caught.all fun j => decide (PySem.W.exmOne K (.ref (clK K i)) (.ref (clK K j)) = gIs j i)
def ex7 (K : PySem.W.Frag) : Bool := xrB K "ValueError.__init__" (He.ga K ("StairError" : Str)) && (xrB K "LookupError.__init__" (He.ga K ("MissingError" : Str)) && (xrB K "RuntimeError.__init__" (He.ga K ("StateError" : Str)) && (xrB K "ArithmeticError.__init__" (He.ga K ("LimitError" : Str)))))
def ex (K : PySem.W.Frag) : Bool := ex1 K && (ex2 K && (ex3 K && (ex4 K && (ex5 K && (ex6 K && ex7 K)))))
end K10
set_option Elab.async false
set_option linter.all false
set_option maxRecDepth 100000
set_option maxHeartbeats 0
namespace K10
open PySem PySem.Spec PyProof.Rows L2 Ws
abbrev RR : PySem.W.OpenRow := PySem.W.OpenLaw.row PySem.Challenge.rw_wornsteps_k10_errors_made
abbrev hk : PySem.W.Hook := hookY 4 fa fn ex
def ob (s : PySem.W.SharedT) : He.AlD × Bool := obsY 4 fa fn ex (HandSHeadRun.getT s)
theorem ob_eq (s : PySem.W.SharedT) : ob s = hk.obs s.abs := obsY_eq (HandSHeadRun.getT_eq s)
theorem run (w : World) : HandSHeadRun.RunEq RR (PySem.W.view RR.prog [59]) hk ob 12000 loose w := by
  intro os
  kernel_rfl
end K10
set_option Elab.async false
set_option linter.all false
set_option maxRecDepth 100000
set_option maxHeartbeats 2000000
/-! Ws1: deep data, owned locals, the relation to the layer's heap. -/
namespace Ws
open PySem PySem.Spec PyProof.Rows L2

/-! ### data -/
inductive D where
  | none
  | bool (b : Bool)
  | int (i : Int)
  | str (s : Str)
  | tup (xs : List D)
  | lst (xs : List D)
  | dct (kvs : List (D × D))
  | obj (c : Nat) (fs : List (Str × D))
  | exc (c : Nat) (fs : List (Str × D))
  | scr (ns : List Int)
  deriving Inhabited

mutual
def toKey : D → Option NestedKey
  | .none => some .none
  | .bool b => some (.num (if b = true then 1 else 0))
  | .int i => some (.num i)
  | .str s => some (.text s)
  | .tup xs => (toKeys xs).map .tup
  | .lst _ => Option.none
  | .dct _ => Option.none
  | .obj _ _ => Option.none
  | .exc _ _ => Option.none
  | .scr _ => Option.none
def toKeys : List D → Option (List NestedKey)
  | [] => some []
  | x :: xs => (toKey x).bind fun k => (toKeys xs).map fun ks => k :: ks
end

/-- the object at a is a dict with just these entries -/
def RawD (a : Addr) (es : Array DictEntry) : HO := .ext fun h => ∃ o ep, h.get? a = some o ∧ o.ExactDict ∧ o.data = .dict es ep ∧ es.size ≤ sizeLine ∧ (a == sysModules) = false

/-- the object at a is an exception of the class at C; d: its dict -/
def ExV (a C : Addr) (d : Option Addr) : HO := .ext fun h => ∃ (o : Obj) (vs : Array Value), h.get? a = some o ∧ o.cls = .ref C ∧ o.dict = d ∧ o.data = .fields vs
/-- the exception's dict has just these -/
def XdAt (M : Addr → Prop) (H : Hp) (d : Option Addr) (fs : List (Str × V)) : Prop := (d = Option.none ∧ fs = []) ∨ ∃ dx, d = some dx ∧ H dx = some (.xd fs) ∧ ¬ M dx

/-! ### a value at an abstract heap is a datum; M: what may still change -/
section
variable (w : World) (K : PySem.W.Frag) (cl : Nat → Addr) (M : Addr → Prop) (H : Hp)
mutual
inductive Is : V → D → Prop
  | non : Is .non .none
  | bl (b : Bool) : Is (.bl b) (.bool b)
  | int (i : Int) : Is (.int i) (.int i)
  | str (s : Str) : Is (.str s) (.str s)
  | tup {a : Addr} {xs : List V} {ds : List D} : Rd H a (.tup xs) → ¬ M a → IsL xs ds → Is (.ref a) (.tup ds)
  | tupK {a : Addr} {o : Obj} {its : Array Value} {n : Nat} {xs : List V} {ds : List D} : K.lookup a = some o → o.cls = .type "tuple" → o.data = .seq its n → its.size ≤ sizeLine → Vals xs its.toList → IsL xs ds → Is (.ref a) (.tup ds)
  | lst {a : Addr} {xs : List V} {ds : List D} : H a = some (.lst xs) → ¬ M a → IsL xs ds → Is (.ref a) (.lst ds)
  | scr {a : Addr} {o : Obj} {ns : List Int} : H a = some (.frz o (.lst (ns.map V.int))) → ¬ M a → Is (.ref a) (.scr ns)
  | scrK {a : Addr} {o : Obj} {its : Array Value} {n : Nat} {ns : List Int} : K.lookup a = some o → o.cls = .type "list" → o.dict = none → o.data = .seq its n → its.size ≤ sizeLine → Vals (ns.map V.int) its.toList → Is (.ref a) (.scr ns)
  | dct {a : Addr} {es : Array DictEntry} {kvs : List (D × D)} : H a = some (RawD a es) → ¬ M a → IsE es.toList kvs → Is (.ref a) (.dct kvs)
  | obj {a dx : Addr} {c : Nat} {fs : List (Str × V)} {gs : List (Str × D)} : H a = some (.ins (cl c) dx fs) → ¬ M a → IsF fs gs → Is (.ref a) (.obj c gs)
  | exc {a : Addr} {c : Nat} {d : Option Addr} {fs : List (Str × V)} {gs : List (Str × D)} : H a = some (ExV a (cl c) d) → ¬ M a → XdAt M H d fs → IsF fs gs → Is (.ref a) (.exc c gs)
inductive IsL : List V → List D → Prop
  | nil : IsL [] []
  | cons {v : V} {d : D} {vs : List V} {ds : List D} : Is v d → IsL vs ds → IsL (v :: vs) (d :: ds)
inductive IsF : List (Str × V) → List (Str × D) → Prop
  | nil : IsF [] []
  | cons {f : Str} {v : V} {d : D} {vs : List (Str × V)} {ds : List (Str × D)} : Is v d → IsF vs ds → IsF ((f, v) :: vs) ((f, d) :: ds)
inductive IsE : List DictEntry → List (D × D) → Prop
  | nil : IsE [] []
  | cons {e : DictEntry} {kv vv : V} {dk dv : D} {k : NestedKey} {es : List DictEntry} {kvs : List (D × D)} : RelV kv e.key → Is kv dk → toKey dk = some k → e.hash = k.hash w → RelV vv e.val → Is vv dv → IsE es kvs → IsE (e :: es) ((dk, dv) :: kvs)
end
end

/-- what is not to change stands, and is still not to change -/
def Ext (M : Addr → Prop) (H : Hp) (M' : Addr → Prop) (H' : Hp) : Prop := ∀ b o, H b = some o → ¬ M b → H' b = some o ∧ ¬ M' b
theorem Ext.refl {M : Addr → Prop} {H : Hp} : Ext M H M H := fun _ _ h m => ⟨h, m⟩
theorem Ext.trans {M M1 M2 : Addr → Prop} {H H1 H2 : Hp} (a : Ext M H M1 H1) (b : Ext M1 H1 M2 H2) : Ext M H M2 H2 := fun c o h m => b c o (a c o h m).1 (a c o h m).2
theorem Ext.rd {M M' : Addr → Prop} {H H' : Hp} {a : Addr} {u : HO} (e : Ext M H M' H') (h : Rd H a u) (m : ¬ M a) : Rd H' a u ∧ ¬ M' a := by
  rcases h with h | ⟨o, h⟩
  · exact ⟨.inl (e a _ h m).1, (e a _ h m).2⟩
  · exact ⟨.inr ⟨o, (e a _ h m).1⟩, (e a _ h m).2⟩
theorem Ext.xd {M M' : Addr → Prop} {H H' : Hp} {d : Option Addr} {fs : List (Str × V)} (e : Ext M H M' H') (h : XdAt M H d fs) : XdAt M' H' d fs := by
  rcases h with h | ⟨dx, h1, h2, h3⟩
  · exact .inl h
  · exact .inr ⟨dx, h1, (e dx _ h2 h3).1, (e dx _ h2 h3).2⟩

section
variable {w : World} {K : PySem.W.Frag} {cl : Nat → Addr} {M M' : Addr → Prop} {H H' : Hp}
mutual
theorem Is.stay (e : Ext M H M' H') : ∀ {v : V} {d : D}, Is w K cl M H v d → Is w K cl M' H' v d
  | _, _, .non => .non
  | _, _, .bl b => .bl b
  | _, _, .int i => .int i
  | _, _, .str s => .str s
  | _, _, .tup h m t => .tup (e.rd h m).1 (e.rd h m).2 (IsL.stay e t)
  | _, _, .tupK a b c d f t => .tupK a b c d f (IsL.stay e t)
  | _, _, .lst h m t => .lst (e _ _ h m).1 (e _ _ h m).2 (IsL.stay e t)
  | _, _, .scr h m => .scr (e _ _ h m).1 (e _ _ h m).2
  | _, _, .scrK a b c d f g => .scrK a b c d f g
  | _, _, .dct h m t => .dct (e _ _ h m).1 (e _ _ h m).2 (IsE.stay e t)
  | _, _, .obj h m t => .obj (e _ _ h m).1 (e _ _ h m).2 (IsF.stay e t)
  | _, _, .exc h m x t => .exc (e _ _ h m).1 (e _ _ h m).2 (e.xd x) (IsF.stay e t)
theorem IsL.stay (e : Ext M H M' H') : ∀ {vs : List V} {ds : List D}, IsL w K cl M H vs ds → IsL w K cl M' H' vs ds
  | _, _, .nil => .nil
  | _, _, .cons a t => .cons (Is.stay e a) (IsL.stay e t)
theorem IsF.stay (e : Ext M H M' H') : ∀ {vs : List (Str × V)} {ds : List (Str × D)}, IsF w K cl M H vs ds → IsF w K cl M' H' vs ds
  | _, _, .nil => .nil
  | _, _, .cons a t => .cons (Is.stay e a) (IsF.stay e t)
theorem IsE.stay (e : Ext M H M' H') : ∀ {vs : List DictEntry} {ds : List (D × D)}, IsE w K cl M H vs ds → IsE w K cl M' H' vs ds
  | _, _, .nil => .nil
  | _, _, .cons a b c d f g t => .cons a (Is.stay e b) c d f (Is.stay e g) (IsE.stay e t)
end
theorem IsL.length : ∀ {vs : List V} {ds : List D}, IsL w K cl M H vs ds → vs.length = ds.length
  | _, _, .nil => rfl
  | _, _, .cons _ t => by simp [IsL.length t]
theorem IsL.append : ∀ {vs us : List V} {ds es : List D}, IsL w K cl M H vs ds → IsL w K cl M H us es → IsL w K cl M H (vs ++ us) (ds ++ es)
  | _, _, _, _, .nil, s => s
  | _, _, _, _, .cons a t, s => .cons a (IsL.append t s)
theorem IsL.get : ∀ {vs : List V} {ds : List D} {i : Nat} {d : D}, IsL w K cl M H vs ds → ds[i]? = some d → ∃ v, vs[i]? = some v ∧ Is w K cl M H v d
  | _, _, _, _, .nil, e => by simp at e
  | _, _, 0, _, .cons a _, e => by simp at e; subst e; exact ⟨_, rfl, a⟩
  | _, _, i + 1, _, .cons _ t, e => by
    obtain ⟨v, h1, h2⟩ := IsL.get (i := i) t (by simpa using e)
    exact ⟨v, by simpa using h1, h2⟩
theorem IsL.getV : ∀ {vs : List V} {ds : List D} {i : Nat} {v : V}, IsL w K cl M H vs ds → vs[i]? = some v → ∃ d, ds[i]? = some d ∧ Is w K cl M H v d
  | _, _, _, _, .nil, e => by simp at e
  | _, _, 0, _, .cons a _, e => by simp at e; subst e; exact ⟨_, rfl, a⟩
  | _, _, i + 1, _, .cons _ t, e => by
    obtain ⟨v, h1, h2⟩ := IsL.getV (i := i) t (by simpa using e)
    exact ⟨v, by simpa using h1, h2⟩
theorem IsL.take : ∀ {vs : List V} {ds : List D} (n : Nat), IsL w K cl M H vs ds → IsL w K cl M H (vs.take n) (ds.take n)
  | _, _, 0, _ => .nil
  | _, _, _ + 1, .nil => .nil
  | _, _, n + 1, .cons a t => .cons a (IsL.take n t)
theorem IsL.drop : ∀ {vs : List V} {ds : List D} (n : Nat), IsL w K cl M H vs ds → IsL w K cl M H (vs.drop n) (ds.drop n)
  | _, _, 0, r => r
  | _, _, _ + 1, .nil => .nil
  | _, _, n + 1, .cons _ t => IsL.drop n t
theorem IsL.set {x : V} {d : D} (r : Is w K cl M H x d) : ∀ {vs : List V} {ds : List D} (i : Nat), IsL w K cl M H vs ds → IsL w K cl M H (vs.set i x) (ds.set i d)
  | _, _, _, .nil => .nil
  | _, _, 0, .cons _ t => .cons r t
  | _, _, i + 1, .cons q t => .cons q (IsL.set r i t)
theorem IsL.eraseIdx : ∀ {vs : List V} {ds : List D} (i : Nat), IsL w K cl M H vs ds → IsL w K cl M H (vs.eraseIdx i) (ds.eraseIdx i)
  | _, _, _, .nil => .nil
  | _, _, 0, .cons _ t => t
  | _, _, i + 1, .cons q t => .cons q (IsL.eraseIdx i t)
theorem IsL.dropLast : ∀ {vs : List V} {ds : List D}, IsL w K cl M H vs ds → IsL w K cl M H vs.dropLast ds.dropLast
  | _, _, .nil => .nil
  | _, _, .cons _ .nil => .nil
  | _, _, .cons a (.cons b t) => .cons a (IsL.dropLast (.cons b t))
theorem IsL.reverse {vs : List V} {ds : List D} (h : IsL w K cl M H vs ds) : IsL w K cl M H vs.reverse ds.reverse := by
  induction vs generalizing ds with
  | nil => cases h; exact .nil
  | cons v vs ih =>
    cases h with
    | cons a t =>
      rw [List.reverse_cons, List.reverse_cons]
      exact (ih t).append (.cons a .nil)
end

/-! ### trees that a local owns -/
inductive W where
  | leaf (d : D)
  | lst (ws : List W)
  | dct (kvs : List (D × D))
  | ins (c : Nat) (fs : List (Str × D))
  deriving Inhabited
mutual
def W.toD : W → D
  | .leaf d => d
  | .lst ws => .lst (W.toDs ws)
  | .dct kvs => .dct kvs
  | .ins c fs => .obj c fs
def W.toDs : List W → List D
  | [] => []
  | x :: xs => W.toD x :: W.toDs xs
end
section
variable (w : World) (K : PySem.W.Frag) (cl : Nat → Addr) (M : Addr → Prop) (H : Hp)
mutual
inductive WIs : V → W → List Addr → Prop
  | leaf {v : V} {d : D} : Is w K cl M H v d → WIs v (.leaf d) []
  | lst {l : Addr} {xs : List V} {ws : List W} {fp : List Addr} : H l = some (.lst xs) → WAll xs ws fp → WIs (.ref l) (.lst ws) (l :: fp)
  | dct {l : Addr} {es : Array DictEntry} {kvs : List (D × D)} : H l = some (RawD l es) → IsE w K cl M H es.toList kvs → WIs (.ref l) (.dct kvs) [l]
  | ins {a dx : Addr} {c : Nat} {fs : List (Str × V)} {gs : List (Str × D)} : H a = some (.ins (cl c) dx fs) → IsF w K cl M H fs gs → WIs (.ref a) (.ins c gs) [a]
inductive WAll : List V → List W → List Addr → Prop
  | nil : WAll [] [] []
  | cons {v : V} {x : W} {fp : List Addr} {vs : List V} {xs : List W} {fps : List Addr} : WIs v x fp → WAll vs xs fps → WAll (v :: vs) (x :: xs) (fp ++ fps)
end
end
section
variable {w : World} {K : PySem.W.Frag} {cl : Nat → Addr} {M M' : Addr → Prop} {H H' : Hp}
mutual
theorem WIs.stay (e : Ext M H M' H') : ∀ {v : V} {x : W} {fp : List Addr}, (∀ a ∈ fp, ∀ o, H a = some o → H' a = some o) → WIs w K cl M H v x fp → WIs w K cl M' H' v x fp
  | _, _, _, _, .leaf h => .leaf (h.stay e)
  | _, _, _, k, .lst h t => .lst (k _ (by simp) _ h) (WAll.stay e (fun a ha => k a (by simp [ha])) t)
  | _, _, _, k, .dct h t => .dct (k _ (by simp) _ h) (t.stay e)
  | _, _, _, k, .ins h t => .ins (k _ (by simp) _ h) (t.stay e)
theorem WAll.stay (e : Ext M H M' H') : ∀ {v : List V} {x : List W} {fp : List Addr}, (∀ a ∈ fp, ∀ o, H a = some o → H' a = some o) → WAll w K cl M H v x fp → WAll w K cl M' H' v x fp
  | _, _, _, _, .nil => .nil
  | _, _, _, k, .cons a t => .cons (WIs.stay e (fun b hb => k b (by simp [hb])) a) (WAll.stay e (fun b hb => k b (by simp [hb])) t)
end
mutual
/-- let go: what was owned is from now on not to change -/
theorem WIs.share (e : Ext M H M' H) : ∀ {v : V} {x : W} {fp : List Addr}, (∀ a ∈ fp, ¬ M' a) → WIs w K cl M H v x fp → Is w K cl M' H v x.toD
  | _, _, _, _, .leaf h => h.stay e
  | _, _, _, k, .lst h t => .lst h (k _ (by simp)) (WAll.share e (fun a ha => k a (by simp [ha])) t)
  | _, _, _, k, .dct h t => .dct h (k _ (by simp)) (t.stay e)
  | _, _, _, k, .ins h t => .obj h (k _ (by simp)) (t.stay e)
theorem WAll.share (e : Ext M H M' H) : ∀ {v : List V} {x : List W} {fp : List Addr}, (∀ a ∈ fp, ¬ M' a) → WAll w K cl M H v x fp → IsL w K cl M' H v (W.toDs x)
  | _, _, _, _, .nil => .nil
  | _, _, _, k, .cons a t => .cons (WIs.share e (fun b hb => k b (by simp [hb])) a) (WAll.share e (fun b hb => k b (by simp [hb])) t)
end
end
abbrev noM : Addr → Prop := fun _ => False
theorem ext_noM {M : Addr → Prop} {H : Hp} : Ext M H noM H := fun _ _ h _ => ⟨h, fun z => z⟩
theorem WIs.view {w : World} {K : PySem.W.Frag} {cl : Nat → Addr} {M : Addr → Prop} {H : Hp} {v : V} {x : W} {fp : List Addr} (h : WIs w K cl M H v x fp) : Is w K cl noM H v x.toD := h.share ext_noM fun _ _ z => z
theorem Is.view {w : World} {K : PySem.W.Frag} {cl : Nat → Addr} {M : Addr → Prop} {H : Hp} {v : V} {d : D} (h : Is w K cl M H v d) : Is w K cl noM H v d := h.stay ext_noM
end Ws
set_option Elab.async false
set_option linter.all false
set_option maxRecDepth 100000
set_option maxHeartbeats 2000000
/-! Ws2: states, steps, what an expression denotes. -/
namespace Ws
open PySem PySem.Spec PyProof.Rows L2

abbrev Env := List (Option W)
abbrev Fp := Nat → List Addr
def Trk (M : Addr → Prop) (H : Hp) : Prop := ∀ a, M a → ∃ o, H a = some o

structure RS (w : World) (K : PySem.W.Frag) (cl : Nat → Addr) (M : Addr → Prop) (ρ : Env) (σ : L2.St) (H : Hp) (f : Fp) : Prop where
  slot : ∀ i x, ρ[i]? = some (some x) → ∃ v, σ[i]? = some (some v) ∧ WIs w K cl M H v x (f i)
  none : ∀ i, (∀ x, ρ[i]? ≠ some (some x)) → f i = []
  nd : ∀ i, (f i).Nodup
  dj : ∀ i j a, a ∈ f i → a ∈ f j → i = j
  own : ∀ i a, a ∈ f i → M a
  trk : Trk M H
  len : ρ.length = σ.length

structure Step (M : Addr → Prop) (H : Hp) (f : Fp) (M' : Addr → Prop) (H' : Hp) (f' : Fp) : Prop where
  keep : ∀ b o, H b = some o → (∀ i, b ∉ f i) → H' b = some o
  there : ∀ b o, H b = some o → ∃ o', H' b = some o'
  prot : ∀ b, M b → (∀ i, b ∉ f i) → M' b
  anti : ∀ b, M' b → M b ∨ H b = Option.none
  own : ∀ i b, b ∈ f' i → b ∈ f i ∨ H b = Option.none

inductive Rv where
  | val (x : W)
  | slot (i : Nat)
  deriving Inhabited
abbrev Den (α : Type) := Env → Option (α × Env)

/-- what an expression gave: a tree of its own, laid since H; or a local's name -/
def RvOk (w : World) (K : PySem.W.Frag) (cl : Nat → Addr) (M' : Addr → Prop) (σ : L2.St) (H' : Hp) (f' : Fp) (H : Hp) : Rv → V → List Addr → Prop
  | .val x, v, fw => WIs w K cl M' H' v x fw ∧ fw.Nodup ∧ ∀ a ∈ fw, M' a ∧ (∀ i, a ∉ f' i) ∧ H a = none
  | .slot i, v, fw => fw = [] ∧ σ[i]? = some (some v)

def slotW (ρ : Env) (i : Nat) : Option W := match ρ[i]? with
  | some o => o
  | Option.none => Option.none
theorem slotW_some {ρ : Env} {i : Nat} {x : W} (h : slotW ρ i = some x) : ρ[i]? = some (some x) := by
  unfold slotW at h
  cases e : ρ[i]? with
  | none => rw [e] at h; cases h
  | some o => rw [e] at h; exact congrArg some h
def viewR (ρ : Env) : Rv → Option D
  | .val x => some x.toD
  | .slot i => (slotW ρ i).map W.toD
def shareR (ρ : Env) : Rv → Option (D × Env)
  | .val x => some (x.toD, ρ)
  | .slot i => (slotW ρ i).map fun x => (x.toD, ρ.set i (some (.leaf x.toD)))

section
variable {w : World} {K : PySem.W.Frag} {cl : Nat → Addr} {M M0 M1 M2 : Addr → Prop} {ρ ρ1 ρ2 : Env} {σ σ1 : L2.St} {H H0 H1 H2 : Hp} {f f0 f1 f2 : Fp} {rv : Rv} {v : V} {fw : List Addr}
theorem Step.refl : Step M H f M H f := ⟨fun _ _ h _ => h, fun _ o h => ⟨o, h⟩, fun _ h _ => h, fun _ h => .inl h, fun _ _ h => .inl h⟩
theorem Step.back (a : Step M H f M1 H1 f1) {c : Addr} (z : H1 c = Option.none) : H c = Option.none := by
  cases q : H c with
  | none => rfl
  | some o =>
    obtain ⟨o1, h1⟩ := a.there c o q
    rw [z] at h1; cases h1
theorem Step.trans (t : Trk M H) (a : Step M H f M1 H1 f1) (b : Step M1 H1 f1 M2 H2 f2) : Step M H f M2 H2 f2 where
  keep := fun c o h n => b.keep c o (a.keep c o h n) fun i hi => by
    rcases a.own i c hi with z | z
    · exact n i z
    · rw [h] at z; cases z
  there := fun c o h => by
    obtain ⟨o1, h1⟩ := a.there c o h
    exact b.there c o1 h1
  prot := fun c m n => by
    refine b.prot c (a.prot c m n) fun i hi => ?_
    rcases a.own i c hi with z | z
    · exact n i z
    · obtain ⟨o, h⟩ := t c m
      rw [h] at z; cases z
  anti := fun c m => by
    rcases b.anti c m with z | z
    · exact a.anti c z
    · exact .inr (a.back z)
  own := fun i c hi => by
    rcases b.own i c hi with z | z
    · exact a.own i c z
    · exact .inr (a.back z)
theorem RS.ext (r : RS w K cl M ρ σ H f) (s : Step M H f M1 H1 f1) : Ext M H M1 H1 := fun b o h m => by
  refine ⟨s.keep b o h fun i hi => m (r.own i b hi), fun z => ?_⟩
  rcases s.anti b z with q | q
  · exact m q
  · rw [h] at q; cases q
/-- what an expression gave is there behind further steps -/
theorem RvOk.carry (r1 : RS w K cl M1 ρ1 σ H1 f1) (s : Step M1 H1 f1 M2 H2 f2) (k : RvOk w K cl M1 σ H1 f1 H rv v fw) : RvOk w K cl M2 σ H2 f2 H rv v fw := by
  cases rv with
  | slot i => exact k
  | val x =>
    obtain ⟨h, nd, q⟩ := k
    refine ⟨h.stay (r1.ext s) (fun a ha o e => s.keep a o e (q a ha).2.1), nd, fun a ha => ?_⟩
    obtain ⟨m, n, z⟩ := q a ha
    refine ⟨s.prot a m n, fun i hi => ?_, z⟩
    rcases s.own i a hi with y | y
    · exact n i y
    · obtain ⟨o, e⟩ := r1.trk a m
      rw [e] at y; cases y
theorem RvOk.base (s : ∀ c, H c = Option.none → H0 c = Option.none) (k : RvOk w K cl M1 σ H1 f1 H rv v fw) : RvOk w K cl M1 σ H1 f1 H0 rv v fw := by
  cases rv with
  | slot i => exact k
  | val x =>
    obtain ⟨h, nd, q⟩ := k
    exact ⟨h, nd, fun a ha => ⟨(q a ha).1, (q a ha).2.1, s a (q a ha).2.2⟩⟩
theorem RvOk.view {d : D} (r : RS w K cl M ρ σ H f) (k : RvOk w K cl M σ H f H0 rv v fw) (e : viewR ρ rv = some d) : Is w K cl noM H v d := by
  cases rv with
  | val x =>
    cases (show some x.toD = some d from e)
    exact k.1.view
  | slot i =>
    obtain ⟨x, hx, e⟩ := Option.map_eq_some_iff.mp (show (slotW ρ i).map W.toD = some d from e)
    cases e
    obtain ⟨u, hu, hw⟩ := r.slot i x (slotW_some hx)
    have e2 := k.2
    rw [hu] at e2
    cases e2
    exact hw.view
theorem set_get {α : Type} {l : List α} {i j : Nat} {x y : α} (h : (l.set i x)[j]? = some y) : (i = j ∧ y = x) ∨ (i ≠ j ∧ l[j]? = some y) := by
  rw [List.getElem?_set] at h
  by_cases e : i = j
  · subst e
    rw [if_pos rfl] at h
    split at h
    · exact .inl ⟨rfl, (Option.some.inj h).symm⟩
    · cases h
  · rw [if_neg e] at h
    exact .inr ⟨e, h⟩
def fpSet (f : Fp) (i : Nat) (l : List Addr) : Fp := fun j => if j = i then l else f j
theorem fpSet_same {f : Fp} {i : Nat} {l : List Addr} : fpSet f i l i = l := by unfold fpSet; rw [if_pos rfl]
theorem fpSet_ne {f : Fp} {i j : Nat} {l : List Addr} (h : j ≠ i) : fpSet f i l j = f j := by unfold fpSet; rw [if_neg h]
/-- let go of what an expression gave: from now on it is not to change -/
theorem RvOk.share {d : D} (r : RS w K cl M1 ρ1 σ H1 f1) (k : RvOk w K cl M1 σ H1 f1 H rv v fw) (st : Step M H f M1 H1 f1) (t : Trk M H) (e : shareR ρ1 rv = some (d, ρ2)) :
    ∃ M' f', RS w K cl M' ρ2 σ H1 f' ∧ Is w K cl M' H1 v d ∧ Step M H f M' H1 f' := by
  cases rv with
  | val x =>
    cases (show some (x.toD, ρ1) = some (d, ρ2) from e)
    obtain ⟨h, nd, q⟩ := k
    have ex : Ext M1 H1 (fun a => M1 a ∧ a ∉ fw) H1 := fun b o hb m => ⟨hb, fun z => m z.1⟩
    refine ⟨fun a => M1 a ∧ a ∉ fw, f1, ⟨fun i y hy => ?_, r.none, r.nd, r.dj, fun i a ha => ⟨r.own i a ha, fun z => (q a z).2.1 i ha⟩, fun a ha => r.trk a ha.1, r.len⟩, h.share ex fun a ha z => z.2 ha, ⟨st.keep, st.there, fun b m n => ⟨st.prot b m n, fun z => ?_⟩, fun b z => st.anti b z.1, st.own⟩⟩
    · obtain ⟨u, hu, hw⟩ := r.slot i y hy
      exact ⟨u, hu, hw.stay ex fun _ _ _ z => z⟩
    · obtain ⟨o, ho⟩ := t b m
      rw [(q b z).2.2] at ho
      cases ho
  | slot i =>
    obtain ⟨x, hx0, e⟩ := Option.map_eq_some_iff.mp (show (slotW ρ1 i).map (fun x => (x.toD, ρ1.set i (some (W.leaf x.toD)))) = some (d, ρ2) from e)
    have hx := slotW_some hx0
    cases e
    obtain ⟨u, hu, hw⟩ := r.slot i x hx
    have e2 := k.2
    rw [hu] at e2
    cases e2
    have ex : Ext M1 H1 (fun a => M1 a ∧ a ∉ f1 i) H1 := fun b o hb m => ⟨hb, fun z => m z.1⟩
    have hs : Is w K cl (fun a => M1 a ∧ a ∉ f1 i) H1 v x.toD := hw.share ex fun a ha z => z.2 ha
    have sub : ∀ j a, a ∈ fpSet f1 i [] j → j ≠ i ∧ a ∈ f1 j := fun j a ha => by
      by_cases q : j = i
      · subst q
        rw [fpSet_same] at ha
        cases ha
      · rw [fpSet_ne q] at ha
        exact ⟨q, ha⟩
    refine ⟨fun a => M1 a ∧ a ∉ f1 i, fpSet f1 i [], ⟨fun j y hy => ?_, fun j hj => ?_, fun j => ?_, fun j k a ha hb => r.dj j k a (sub j a ha).2 (sub k a hb).2, fun j a ha => ⟨r.own j a (sub j a ha).2, fun z => (sub j a ha).1 (r.dj j i a (sub j a ha).2 z)⟩, fun a ha => r.trk a ha.1, by simpa using r.len⟩, hs, ⟨st.keep, st.there, fun b m n => ⟨st.prot b m n, fun z => ?_⟩, fun b z => st.anti b z.1, fun j b hb => st.own j b (sub j b hb).2⟩⟩
    · rcases set_get hy with ⟨e1, e2⟩ | ⟨e1, e2⟩
      · subst e1
        cases e2
        refine ⟨v, hu, ?_⟩
        rw [fpSet_same]
        exact .leaf hs
      · obtain ⟨u', hu', hw'⟩ := r.slot j y e2
        refine ⟨u', hu', ?_⟩
        rw [fpSet_ne (Ne.symm e1)]
        exact hw'.stay ex fun _ _ _ z => z
    · by_cases q : j = i
      · rw [q, fpSet_same]
      · rw [fpSet_ne q]
        refine r.none j fun y hy => hj y ?_
        rw [List.getElem?_set_ne (Ne.symm q)]
        exact hy
    · by_cases q : j = i
      · rw [q, fpSet_same]
        exact List.nodup_nil
      · rw [fpSet_ne q]
        exact r.nd j
    · rcases st.own i b z with y | y
      · exact n i y
      · obtain ⟨o, ho⟩ := t b m
        rw [y] at ho
        cases ho
end

/-! ### judgements -/
def tD (w : World) (K : PySem.W.Frag) (cl : Nat → Addr) (den : Den Rv) : TE := fun σ H Q => ∃ M ρ f rv ρ', RS w K cl M ρ σ H f ∧ den ρ = some (rv, ρ') ∧
  ∀ v M' H' f' fw, RS w K cl M' ρ' σ H' f' → RvOk w K cl M' σ H' f' H rv v fw → Step M H f M' H' f' → Q v H'
/-- .. let go at once -/
def tS (w : World) (K : PySem.W.Frag) (cl : Nat → Addr) (den : Den D) : TE := fun σ H Q => ∃ M ρ f d ρ', RS w K cl M ρ σ H f ∧ den ρ = some (d, ρ') ∧
  ∀ v M' H' f', RS w K cl M' ρ' σ H' f' → Is w K cl M' H' v d → Step M H f M' H' f' → Q v H'
def tDT (w : World) (K : PySem.W.Frag) (cl : Nat → Addr) (den : Den Bool) : TT := fun σ H Q => ∃ M ρ f b ρ', RS w K cl M ρ σ H f ∧ den ρ = some (b, ρ') ∧
  ∀ M' H' f', RS w K cl M' ρ' σ H' f' → Step M H f M' H' f' → Q b H'
def tSA (w : World) (K : PySem.W.Frag) (cl : Nat → Addr) (den : Den (List D)) : TA := fun σ H Q => ∃ M ρ f ds ρ', RS w K cl M ρ σ H f ∧ den ρ = some (ds, ρ') ∧
  ∀ vs M' H' f', RS w K cl M' ρ' σ H' f' → IsL w K cl M' H' vs ds → Step M H f M' H' f' → Q vs H'
abbrev DE (cl : Nat → Addr) (X : Cx) (e : Expr) (den : Den Rv) : Prop := PE X e (tD X.w X.K cl den)
abbrev DSh (cl : Nat → Addr) (X : Cx) (e : Expr) (den : Den D) : Prop := PE X e (tS X.w X.K cl den)
abbrev DT (cl : Nat → Addr) (X : Cx) (e : Expr) (den : Den Bool) : Prop := PT X e (tDT X.w X.K cl den)
abbrev DA (cl : Nat → Addr) (X : Cx) (es : List Expr) (den : Den (List D)) : Prop := PA X es (tSA X.w X.K cl den)

theorem pe_imp {X : Cx} {e : Expr} {t t' : TE} (h : PE X e t) (i : ∀ σ H Q, t' σ H Q → t σ H Q) : PE X e t' := ⟨fun pins s σ H Q I k => h.run pins s σ H Q I (i σ H Q k)⟩
theorem pt_imp {X : Cx} {e : Expr} {t t' : TT} (h : PT X e t) (i : ∀ σ H Q, t' σ H Q → t σ H Q) : PT X e t' := ⟨fun pins s σ H Q I k => h.run pins s σ H Q I (i σ H Q k)⟩
theorem pa_imp {X : Cx} {e : List Expr} {t t' : TA} (h : PA X e t) (i : ∀ σ H Q, t' σ H Q → t σ H Q) : PA X e t' := ⟨fun pos pins s σ H Q I k => h.run pos pins s σ H Q I (i σ H Q k)⟩

def dSh (d : Den Rv) : Den D := fun ρ => (d ρ).bind fun r => shareR r.2 r.1
section
variable {cl : Nat → Addr} {X : Cx} {e : Expr} {a b c : Expr} {pos : Pos}
theorem de_sh {d : Den Rv} (h : DE cl X e d) : DSh cl X e (dSh d) := pe_imp h fun σ H Q ⟨M, ρ, f, dd, ρ', rs, hd, k⟩ => by
  obtain ⟨⟨rv, ρ1⟩, h1, h2⟩ := Option.bind_eq_some_iff.mp hd
  refine ⟨M, ρ, f, rv, ρ1, rs, h1, fun v M' H' f' fw rs' ok st => ?_⟩
  obtain ⟨M2, f2, rs2, is2, st2⟩ := ok.share rs' st rs.trk h2
  exact k v M2 H' f2 rs2 is2 st2
/-- a value that owns nothing -/
def dVal (d : Den D) : Den Rv := fun ρ => (d ρ).map fun r => (.val (.leaf r.1), r.2)
theorem ds_de {d : Den D} (h : DSh cl X e d) : DE cl X e (dVal d) := pe_imp h fun σ H Q ⟨M, ρ, f, rv, ρ', rs, hd, k⟩ => by
  obtain ⟨⟨dd, ρ1⟩, h1, h2⟩ := Option.map_eq_some_iff.mp hd
  cases h2
  exact ⟨M, ρ, f, dd, ρ1, rs, h1, fun v M' H' f' rs' is st => k v M' H' f' [] rs' ⟨.leaf is, List.nodup_nil, fun a ha => nomatch ha⟩ st⟩

/-! ### names, constants -/
def dVar (i : Nat) : Den Rv := fun ρ => match ρ[i]? with
  | some (some (.leaf d)) => some (.val (.leaf d), ρ)
  | some (some _) => some (.slot i, ρ)
  | _ => none
theorem de_var {i : Nat} {x : Str} (hN : X.N[i]? = some x) (hv : Vis X.env.scope x) (hd : (x == ("__debug__" : Str)) = false := by decide) (hcd : (x == ("__classdict__" : Str)) = false := by decide) : DE cl X (.Name x pos) (dVar i) :=
  pe_imp (pe_var hN hv hd hcd) fun σ H Q ⟨M, ρ, f, rv, ρ', rs, hd, k⟩ => by
    unfold dVar at hd
    split at hd
    · rename_i d hx
      cases hd
      obtain ⟨v, hv, hw⟩ := rs.slot i _ hx
      have fi : ∃ l, l = f i := ⟨_, rfl⟩
      obtain ⟨l, hl⟩ := fi
      rw [← hl] at hw
      cases hw with
      | leaf is => exact ⟨v, hv, k v M H f [] rs ⟨.leaf is, List.nodup_nil, fun a ha => nomatch ha⟩ Step.refl⟩
    · rename_i x' hx
      cases hd
      obtain ⟨v, hv, hw⟩ := rs.slot i _ hx
      exact ⟨v, hv, k v M H f [] rs ⟨rfl, hv⟩ Step.refl⟩
    · cases hd
def dC (d : D) : Den Rv := fun ρ => some (.val (.leaf d), ρ)
theorem de_c {v : V} {d : D} (h : PE X e (tC v)) (is : ∀ (w : World) (K : PySem.W.Frag) (M : Addr → Prop) (H : Hp), Is w K cl M H v d) : DE cl X e (dC d) := pe_imp h fun σ H Q ⟨M, ρ, f, rv, ρ', rs, hd, k⟩ => by
  cases hd
  exact k v M H f [] rs ⟨.leaf (is _ _ _ _), List.nodup_nil, fun a ha => nomatch ha⟩ Step.refl
theorem de_int {i : Int} {j : Nat} : DE cl X (.Constant (.int i) j pos) (dC (.int i)) := de_c pe_int fun _ _ _ _ => .int i
theorem de_bl {i : Bool} {j : Nat} : DE cl X (.Constant (.bool i) j pos) (dC (.bool i)) := de_c pe_bl fun _ _ _ _ => .bl i
theorem de_non {j : Nat} : DE cl X (.Constant .none j pos) (dC .none) := de_c pe_non fun _ _ _ _ => .non
theorem de_str {i : Str} {j : Nat} : DE cl X (.Constant (.str i) j pos) (dC (.str i)) := de_c pe_str fun _ _ _ _ => .str i

/-! ### two-place operations whose answer is a number, a text, a truth, None -/
def sv : D → Option V
  | .none => some .non
  | .bool b => some (.bl b)
  | .int i => some (.int i)
  | .str s => some (.str s)
  | _ => none
theorem is_sv {w : World} {K : PySem.W.Frag} {M : Addr → Prop} {H : Hp} {d : D} {v : V} (h : sv d = some v) : Is w K cl M H v d := by
  cases d <;> simp [sv] at h
  all_goals subst h; constructor
theorem sv_is {w : World} {K : PySem.W.Frag} {M : Addr → Prop} {H : Hp} {d : D} {v u : V} (h : sv d = some v) (i : Is w K cl M H u d) : u = v := by
  cases i <;> simp [sv] at h <;> exact h
/-- both operands as they are read -/
def rV2 (w : World) (K : PySem.W.Frag) (cl : Nat → Addr) (g : D → D → Option D) : R2 := fun x y H Q => ∃ dx dy r v, Is w K cl noM H x dx ∧ Is w K cl noM H y dy ∧ g dx dy = some r ∧ sv r = some v ∧ Q v H
def dBin (g : D → D → Option D) (da db : Den Rv) : Den Rv := fun ρ => (da ρ).bind fun x => (db x.2).bind fun y => (viewR y.2 x.1).bind fun dx => (viewR y.2 y.1).bind fun dy => (g dx dy).bind fun r => (sv r).bind fun _ => some (.val (.leaf r), y.2)
theorem dBin_imp {g : D → D → Option D} {da db : Den Rv} {σ : L2.St} {H : Hp} {Q : VK} (h : tD X.w X.K cl (dBin g da db) σ H Q) : tOp (rV2 X.w X.K cl g) (tD X.w X.K cl da) (tD X.w X.K cl db) σ H Q := by
  obtain ⟨M, ρ, f, rv, ρ', rs, hd, k⟩ := h
  obtain ⟨⟨x, ρ1⟩, h1, hd⟩ := Option.bind_eq_some_iff.mp hd
  obtain ⟨⟨y, ρ2⟩, h2, hd⟩ := Option.bind_eq_some_iff.mp hd
  obtain ⟨dx, h3, hd⟩ := Option.bind_eq_some_iff.mp hd
  obtain ⟨dy, h4, hd⟩ := Option.bind_eq_some_iff.mp hd
  obtain ⟨r, h5, hd⟩ := Option.bind_eq_some_iff.mp hd
  obtain ⟨v, h6, hd⟩ := Option.bind_eq_some_iff.mp hd
  cases hd
  refine ⟨M, ρ, f, x, ρ1, rs, h1, fun v1 M1 H1 f1 fw1 rs1 ok1 st1 => ⟨M1, ρ1, f1, y, ρ2, rs1, h2, fun v2 M2 H2 f2 fw2 rs2 ok2 st2 => ?_⟩⟩
  exact ⟨dx, dy, r, v, (ok1.carry rs1 st2).view rs2 h3, ok2.view rs2 h4, h5, h6, k v M2 H2 f2 [] rs2 ⟨.leaf (is_sv h6), List.nodup_nil, fun a ha => nomatch ha⟩ (st1.trans rs.trk st2)⟩
theorem de_bin {op : Operator} {g : D → D → Option D} {da db : Den Rv} (ho : OpR X (binaryOp op) (rV2 X.w X.K cl g)) (ha : DE cl X a da) (hb : DE cl X b db) : DE cl X (.BinOp a op b pos) (dBin g da db) := pe_imp (pe_op ho ha hb) fun _ _ _ => dBin_imp
theorem de_cmp {op : CmpOp} {g : D → D → Option D} {da db : Den Rv} (ho : OpR X (compareOp op) (rV2 X.w X.K cl g)) (ha : DE cl X a da) (hb : DE cl X b db) (hm : behindInMarks op b = false) : DE cl X (.Compare a [op] [b] pos) (dBin g da db) := pe_imp (pe_cmpR ho ha hb hm) fun _ _ _ => dBin_imp
end
end Ws
set_option Elab.async false
set_option linter.all false
set_option maxRecDepth 100000
set_option maxHeartbeats 2000000
/-! Ws3: operators, displays, tests. -/
namespace Ws
open PySem PySem.Spec PyProof.Rows L2

section
variable {w : World} {K : PySem.W.Frag} {cl : Nat → Addr} {M : Addr → Prop} {H : Hp}
theorem is_int {v : V} {i : Int} (h : Is w K cl M H v (.int i)) : v = .int i := by cases h; rfl
theorem is_bool {v : V} {i : Bool} (h : Is w K cl M H v (.bool i)) : v = .bl i := by cases h; rfl
theorem is_str {v : V} {i : Str} (h : Is w K cl M H v (.str i)) : v = .str i := by cases h; rfl
theorem is_none {v : V} (h : Is w K cl M H v .none) : v = .non := by cases h; rfl
def isNone : D → Bool
  | .none => true
  | _ => false
theorem is_none_iff {v : V} {d : D} (h : Is w K cl M H v d) : decide (v = .non) = isNone d := by
  cases h <;> simp [isNone]
theorem is_lst {v : V} {ds : List D} (h : Is w K cl M H v (.lst ds)) : ∃ a xs, v = .ref a ∧ H a = some (.lst xs) ∧ IsL w K cl M H xs ds := by
  cases h with
  | lst h1 h2 h3 => exact ⟨_, _, rfl, h1, h3⟩
theorem is_tup {v : V} {ds : List D} (h : Is w K cl M H v (.tup ds)) : ∃ a xs, v = .ref a ∧ SqT K H a xs ∧ IsL w K cl M H xs ds := by
  cases h with
  | tup h1 h2 h3 => exact ⟨_, _, rfl, .inl h1, h3⟩
  | tupK h1 h2 h3 h4 h5 h6 => exact ⟨_, _, rfl, .inr ⟨_, _, _, h1, h2, h3, h4, h5⟩, h6⟩
end

/-! ### data without dicts and objects, as the library's == takes it -/
mutual
def toPy : D → Option PyData
  | .none => some .none
  | .bool b => some (.bool b)
  | .int i => some (.int i)
  | .str s => some (.str s)
  | .tup xs => (toPys xs).map .tuple
  | .lst xs => (toPys xs).map .list
  | .dct _ => Option.none
  | .obj _ _ => Option.none
  | .exc _ _ => Option.none
  | .scr _ => Option.none
def toPys : List D → Option (List PyData)
  | [] => some []
  | x :: xs => (toPy x).bind fun p => (toPys xs).map fun ps => p :: ps
end
section
variable {w : World} {K : PySem.W.Frag} {cl : Nat → Addr} {M : Addr → Prop} {H : Hp}
mutual
theorem is_dp : ∀ {v : V} {d : D} {p : PyData}, Is w K cl M H v d → toPy d = some p → Dp K H v p
  | _, _, p, .non, e => by simp only [toPy, Option.some.injEq] at e; subst e; exact .non
  | _, _, p, .bl b, e => by simp only [toPy, Option.some.injEq] at e; subst e; exact .bl b
  | _, _, p, .int i, e => by simp only [toPy, Option.some.injEq] at e; subst e; exact .int i
  | _, _, p, .str s, e => by simp only [toPy, Option.some.injEq] at e; subst e; exact .str s
  | _, _, p, .tup h m t, e => by
    simp only [toPy] at e
    obtain ⟨ps, e1, e2⟩ := Option.map_eq_some_iff.mp e
    subst e2
    exact .tup (.inl h) (isL_dp t e1)
  | _, _, p, .tupK a b c d f t, e => by
    simp only [toPy] at e
    obtain ⟨ps, e1, e2⟩ := Option.map_eq_some_iff.mp e
    subst e2
    exact .tup (.inr ⟨_, _, _, a, b, c, d, f⟩) (isL_dp t e1)
  | _, _, p, .lst h m t, e => by
    simp only [toPy] at e
    obtain ⟨ps, e1, e2⟩ := Option.map_eq_some_iff.mp e
    subst e2
    exact .lst (.inl (.inl h)) (isL_dp t e1)
  | _, _, p, .dct h m t, e => by simp only [toPy] at e; cases e
  | _, _, p, .obj h m t, e => by simp only [toPy] at e; cases e
  | _, _, p, .scr h m, e => by simp only [toPy] at e; cases e
  | _, _, p, .scrK _ _ _ _ _ _, e => by simp only [toPy] at e; cases e
theorem isL_dp : ∀ {vs : List V} {ds : List D} {ps : List PyData}, IsL w K cl M H vs ds → toPys ds = some ps → DpAll K H vs ps
  | _, _, p, .nil, e => by simp only [toPys, Option.some.injEq] at e; subst e; exact .nil
  | _, _, p, .cons a t, e => by
    simp only [toPys] at e
    obtain ⟨p1, e1, e2⟩ := Option.bind_eq_some_iff.mp e
    obtain ⟨p2, e3, e4⟩ := Option.map_eq_some_iff.mp e2
    subst e4
    exact .cons (is_dp a e1) (isL_dp t e3)
end
end

theorem opr_imp {X : Cx} {f : Value → Value → Sem Value} {r r' : R2} (h : OpR X f r) (i : ∀ x y H Q, r' x y H Q → r x y H Q) : OpR X f r' := fun pins s σ H x y v u Q I rx ry q => h pins s σ H x y v u Q I rx ry (i x y H Q q)

/-! ### whole numbers -/
def gI (C : Int → Int → Bool) (g : Int → Int → D) : D → D → Option D
  | .int i, .int j => if C i j = true then some (g i j) else Option.none
  | _, _ => Option.none
theorem gI_some {C : Int → Int → Bool} {g : Int → Int → D} {x y r : D} (h : gI C g x y = some r) : ∃ i j, x = .int i ∧ y = .int j ∧ C i j = true ∧ r = g i j := by
  cases x <;> cases y <;> simp only [gI] at h <;> try cases h
  rename_i i j
  by_cases c : C i j = true
  · rw [if_pos c] at h
    exact ⟨i, j, rfl, rfl, c, (Option.some.inj h).symm⟩
  · rw [if_neg c] at h
    cases h
section
variable {cl : Nat → Addr} {X : Cx}
theorem op_gI {f : Value → Value → Sem Value} {C : Int → Int → Prop} {g : Int → Int → V} {Cb : Int → Int → Bool} {gd : Int → Int → D} (h : OpR X f (rI C g)) (hc : ∀ i j, Cb i j = true → C i j) (hg : ∀ i j, sv (gd i j) = some (g i j)) : OpR X f (rV2 X.w X.K cl (gI Cb gd)) :=
  opr_imp h fun x y H Q ⟨dx, dy, r, v, hx, hy, e, s, q⟩ => by
    obtain ⟨i, j, rfl, rfl, c, rfl⟩ := gI_some e
    rw [hg] at s
    cases s
    exact ⟨i, j, is_int hx, is_int hy, hc i j c, q⟩
theorem op_gI0 {f : Value → Value → Sem Value} {g : Int → Int → V} {gd : Int → Int → D} (h : OpR X f (rI0 g)) (hg : ∀ i j, sv (gd i j) = some (g i j)) : OpR X f (rV2 X.w X.K cl (gI (fun _ _ => true) gd)) :=
  opr_imp h fun x y H Q ⟨dx, dy, r, v, hx, hy, e, s, q⟩ => by
    obtain ⟨i, j, rfl, rfl, c, rfl⟩ := gI_some e
    rw [hg] at s
    cases s
    exact ⟨i, j, is_int hx, is_int hy, q⟩
def gSub := gI (fun _ _ => true) fun i j => .int (i - j)
def gMod := gI (fun _ j => decide (0 < j)) fun i j => .int (i % j)
def gDiv := gI (fun _ j => decide (0 < j ∧ j < 1073741824)) fun i j => .int (i / j)
def gPow := gI (fun i j => decide (0 ≤ j ∧ j ≤ 1000000 ∧ i.natAbs < 2 ^ 64)) fun i j => .int (i ^ j.toNat)
def gMulI := gI (fun i j => decide ((-(2 ^ 64) < i ∧ i < 2 ^ 64) ∨ (-(2 ^ 64) < j ∧ j < 2 ^ 64))) fun i j => .int (i * j)
def gLt := gI (fun _ _ => true) fun i j => .bool (decide (i < j))
def gLe := gI (fun _ _ => true) fun i j => .bool (decide (i ≤ j))
def gGt := gI (fun _ _ => true) fun i j => .bool (decide (j < i))
def gGe := gI (fun _ _ => true) fun i j => .bool (decide (j ≤ i))
theorem o_sub : OpR X (binaryOp .Sub) (rV2 X.w X.K cl gSub) := op_gI0 op_sub fun _ _ => rfl
theorem o_mod : OpR X (binaryOp .Mod) (rV2 X.w X.K cl gMod) := op_gI op_mod (fun _ _ h => of_decide_eq_true h) fun _ _ => rfl
theorem o_div : OpR X (binaryOp .FloorDiv) (rV2 X.w X.K cl gDiv) := op_gI op_fdiv (fun i j h => of_decide_eq_true (p := 0 < j ∧ j < 1073741824) h) fun _ _ => rfl
theorem o_pow : OpR X (binaryOp .Pow) (rV2 X.w X.K cl gPow) := op_gI op_pow (fun i j h => of_decide_eq_true (p := 0 ≤ j ∧ j ≤ 1000000 ∧ i.natAbs < 2 ^ 64) h) fun _ _ => rfl
theorem o_mulI : OpR X (binaryOp .Mult) (rV2 X.w X.K cl gMulI) := op_gI op_mul (fun i j h => of_decide_eq_true (p := (-(2 ^ 64) < i ∧ i < 2 ^ 64) ∨ (-(2 ^ 64) < j ∧ j < 2 ^ 64)) h) fun _ _ => rfl
theorem o_lt : OpR X (compareOp .Lt) (rV2 X.w X.K cl gLt) := op_gI0 op_lt fun _ _ => rfl
theorem o_le : OpR X (compareOp .LtE) (rV2 X.w X.K cl gLe) := op_gI0 op_le fun _ _ => rfl
theorem o_gt : OpR X (compareOp .Gt) (rV2 X.w X.K cl gGt) := op_gI0 op_gt fun _ _ => rfl
theorem o_ge : OpR X (compareOp .GtE) (rV2 X.w X.K cl gGe) := op_gI0 op_ge fun _ _ => rfl

/-! ### ==, in, is None over data -/
def gEqv0 (neg : Bool) : D → D → Option D := fun x y => (toPy x).bind fun p => (toPy y).bind fun q => if SeqAt.shaped p = true ∧ SeqAt.shaped q = true then some (.bool (if neg then !PyData.eqv p q else PyData.eqv p q)) else Option.none
theorem gEqv_some {neg : Bool} {x y r : D} (h : gEqv0 neg x y = some r) : ∃ p q, toPy x = some p ∧ toPy y = some q ∧ SeqAt.shaped p = true ∧ SeqAt.shaped q = true ∧ r = .bool (if neg then !PyData.eqv p q else PyData.eqv p q) := by
  obtain ⟨p, h1, h⟩ := Option.bind_eq_some_iff.mp h
  obtain ⟨q, h2, h⟩ := Option.bind_eq_some_iff.mp h
  by_cases c : SeqAt.shaped p = true ∧ SeqAt.shaped q = true
  · rw [if_pos c] at h
    exact ⟨p, q, h1, h2, c.1, c.2, (Option.some.inj h).symm⟩
  · rw [if_neg c] at h
    cases h
def gEqv (neg : Bool) : D → D → Option D := fun x y => match x, y with
  | .str s, .str t => some (.bool (if neg = true then !decide (s = t) else decide (s = t)))
  | x, y => gEqv0 neg x y
theorem dec_strV {s t : Str} : decide (V.str s = V.str t) = decide (s = t) := by
  by_cases e : s = t
  · subst e
    rw [decide_eq_true rfl, decide_eq_true rfl]
  · rw [decide_eq_false e, decide_eq_false (fun z => e (V.str.inj z))]
theorem o_eq (hu : X.A.units + 64 < cLine) : OpR X (compareOp .Eq) (rV2 X.w X.K cl (gEqv false)) :=
  opr_imp (op_eq.or (op_eqD hu)) fun x y H Q ⟨dx, dy, r, v, hx, hy, e, s, q⟩ => by
    unfold gEqv at e
    split at e
    · cases e
      cases s
      have e1 := is_str hx
      have e2 := is_str hy
      subst e1
      subst e2
      refine .inl ⟨rfl, ?_⟩
      rw [dec_strV]
      exact q
    · obtain ⟨p, p', e1, e2, s1, s2, rfl⟩ := gEqv_some e
      cases s
      exact .inr ⟨p, p', is_dp hx e1, is_dp hy e2, s1, s2, q⟩
theorem o_ne (hu : X.A.units + 64 < cLine) : OpR X (compareOp .NotEq) (rV2 X.w X.K cl (gEqv true)) :=
  opr_imp (op_ne.or (op_neD hu)) fun x y H Q ⟨dx, dy, r, v, hx, hy, e, s, q⟩ => by
    unfold gEqv at e
    split at e
    · cases e
      cases s
      have e1 := is_str hx
      have e2 := is_str hy
      subst e1
      subst e2
      refine .inl ⟨rfl, ?_⟩
      rw [dec_strV]
      exact q
    · obtain ⟨p, p', e1, e2, s1, s2, rfl⟩ := gEqv_some e
      cases s
      exact .inr ⟨p, p', is_dp hx e1, is_dp hy e2, s1, s2, q⟩
def gIsN (neg : Bool) : D → D → Option D := fun x y => match y with
  | .none => some (.bool (if neg = true then !isNone x else isNone x))
  | _ => Option.none
theorem o_isN : OpR X (compareOp .Is) (rV2 X.w X.K cl (gIsN false)) :=
  opr_imp op_isN fun x y H Q ⟨dx, dy, r, v, hx, hy, e, s, q⟩ => by
    cases dy <;> simp only [gIsN] at e <;> try cases e
    cases s
    refine ⟨is_none hy, ?_⟩
    rw [is_none_iff hx]
    exact q
theorem o_notN : OpR X (compareOp .IsNot) (rV2 X.w X.K cl (gIsN true)) :=
  opr_imp op_notN fun x y H Q ⟨dx, dy, r, v, hx, hy, e, s, q⟩ => by
    cases dy <;> simp only [gIsN] at e <;> try cases e
    cases s
    refine ⟨is_none hy, ?_⟩
    rw [is_none_iff hx]
    exact q

/-! ### tests -/
def dTest (d : Den Rv) : Den Bool := fun ρ => (d ρ).bind fun r => match r.1 with
  | .val (.leaf (.bool b)) => some (b, r.2)
  | _ => Option.none
theorem dTest_imp {w : World} {K : PySem.W.Frag} {d : Den Rv} {σ : L2.St} {H : Hp} {Q : Bool → Hp → Prop} (h : tDT w K cl (dTest d) σ H Q) : tD w K cl d σ H fun x H1 => ∃ k, x = .bl k ∧ Q k H1 := by
  obtain ⟨M, ρ, f, b, ρ', rs, hd, k⟩ := h
  obtain ⟨⟨rv, ρ1⟩, h1, hd⟩ := Option.bind_eq_some_iff.mp hd
  refine ⟨M, ρ, f, rv, ρ1, rs, h1, fun v M' H' f' fw rs' ok st => ?_⟩
  split at hd
  · rename_i b' e
    cases hd
    have e' : rv = .val (.leaf (.bool b)) := e
    subst e'
    obtain ⟨hw, _, _⟩ := ok
    cases hw with
    | leaf is => exact ⟨b, is_bool is, k M' H' f' rs' st⟩
  · cases hd
section
variable {e a b c : Expr} {rest : List Expr} {pos : Pos}
theorem dt_cmp {op : CmpOp} {g : D → D → Option D} {da db : Den Rv} (ho : OpR X (compareOp op) (rV2 X.w X.K cl g)) (ha : DE cl X a da) (hb : DE cl X b db) (hm : behindInMarks op b = false) : DT cl X (.Compare a [op] [b] pos) (dTest (dBin g da db)) :=
  pt_imp (pt_cmpR ho ha hb hm) fun σ H Q h => dBin_imp (dTest_imp h)
theorem dt_val {d : Den Rv} (h : DE cl X e d) (he : ∀ whole, isTrue e X.env whole = (do let v ← whole; standAt e.pos; holding [v] (truthy v)) := by intro _; rfl) : DT cl X e (dTest d) := pt_imp (pt_val h he) fun σ H Q h => dTest_imp h
abbrev DW (cl : Nat → Addr) (X : Cx) (e : Expr) (den : Den Bool) : Prop := PW X e (tDT X.w X.K cl den)
theorem pw_imp {t t' : TT} (h : PW X e t) (i : ∀ σ H Q, t' σ H Q → t σ H Q) : PW X e t' := ⟨fun wh pins s σ H Q I k => h.run wh pins s σ H Q I (i σ H Q k)⟩
theorem dt_w {d : Den Bool} (h : DW cl X e d) : DT cl X e d := h.pt
theorem dw_and1 {d : Den Bool} (h : DT cl X a d) : DW cl X (.BoolOp .And [a] pos) d := pw_and1 h
theorem dw_or1 {d : Den Bool} (h : DT cl X a d) : DW cl X (.BoolOp .Or [a] pos) d := pw_or1 h
def dAnd (da db : Den Bool) : Den Bool := fun ρ => (da ρ).bind fun r => if r.1 = true then db r.2 else some (false, r.2)
def dOr (da db : Den Bool) : Den Bool := fun ρ => (da ρ).bind fun r => if r.1 = true then some (true, r.2) else db r.2
theorem dAnd_imp {w : World} {K : PySem.W.Frag} {da db : Den Bool} {σ : L2.St} {H : Hp} {Q : Bool → Hp → Prop} (h : tDT w K cl (dAnd da db) σ H Q) : tAnd (tDT w K cl da) (tDT w K cl db) σ H Q := by
  obtain ⟨M, ρ, f, r, ρ', rs, hd, k⟩ := h
  obtain ⟨⟨x, ρ1⟩, h1, hd⟩ := Option.bind_eq_some_iff.mp hd
  refine ⟨M, ρ, f, x, ρ1, rs, h1, fun M' H' f' rs' st => ?_⟩
  cases x with
  | true =>
    rw [if_pos rfl] at hd ⊢
    exact ⟨M', ρ1, f', r, ρ', rs', hd, fun M2 H2 f2 rs2 st2 => k M2 H2 f2 rs2 (st.trans rs.trk st2)⟩
  | false =>
    rw [if_neg (by simp)] at hd ⊢
    cases hd
    exact k M' H' f' rs' st
theorem dOr_imp {w : World} {K : PySem.W.Frag} {da db : Den Bool} {σ : L2.St} {H : Hp} {Q : Bool → Hp → Prop} (h : tDT w K cl (dOr da db) σ H Q) : tOr (tDT w K cl da) (tDT w K cl db) σ H Q := by
  obtain ⟨M, ρ, f, r, ρ', rs, hd, k⟩ := h
  obtain ⟨⟨x, ρ1⟩, h1, hd⟩ := Option.bind_eq_some_iff.mp hd
  refine ⟨M, ρ, f, x, ρ1, rs, h1, fun M' H' f' rs' st => ?_⟩
  cases x with
  | true =>
    rw [if_pos rfl] at hd ⊢
    cases hd
    exact k M' H' f' rs' st
  | false =>
    rw [if_neg (by simp)] at hd ⊢
    exact ⟨M', ρ1, f', r, ρ', rs', hd, fun M2 H2 f2 rs2 st2 => k M2 H2 f2 rs2 (st.trans rs.trk st2)⟩
theorem dw_and {da db : Den Bool} (ha : DT cl X a da) (hb : DW cl X (.BoolOp .And (b :: rest) pos) db) : DW cl X (.BoolOp .And (a :: b :: rest) pos) (dAnd da db) := pw_imp (pw_and ha hb) fun _ _ _ => dAnd_imp
theorem dw_or {da db : Den Bool} (ha : DT cl X a da) (hb : DW cl X (.BoolOp .Or (b :: rest) pos) db) : DW cl X (.BoolOp .Or (a :: b :: rest) pos) (dOr da db) := pw_imp (pw_or ha hb) fun _ _ _ => dOr_imp
def dNot (d : Den Bool) : Den Bool := fun ρ => (d ρ).map fun r => (!r.1, r.2)
theorem dt_not {d : Den Bool} (h : DT cl X a d) : DT cl X (.UnaryOp .Not a pos) (dNot d) := pt_imp (pt_not h) fun σ H Q ⟨M, ρ, f, b, ρ', rs, hd, k⟩ => by
  obtain ⟨⟨x, ρ1⟩, h1, hd⟩ := Option.map_eq_some_iff.mp hd
  cases hd
  exact ⟨M, ρ, f, x, ρ1, rs, h1, fun M' H' f' rs' st => k M' H' f' rs' st⟩

/-! ### .. as values -/
def dOfT (d : Den Bool) : Den Rv := fun ρ => (d ρ).map fun r => (.val (.leaf (.bool r.1)), r.2)
def dOne (d : Den Rv) : Den Rv := fun ρ => (d ρ).bind fun r => match r.1 with
  | .val (.leaf (.bool b)) => some (.val (.leaf (.bool b)), r.2)
  | _ => Option.none
theorem de_one {op : BoolOp} {d : Den Rv} (h : DE cl X a d) : DE cl X (.BoolOp op [a] pos) d := pe_one h
def dAndV (da db : Den Rv) : Den Rv := fun ρ => (dTest da ρ).bind fun r => if r.1 = true then db r.2 else some (.val (.leaf (.bool false)), r.2)
def dOrV (da db : Den Rv) : Den Rv := fun ρ => (dTest da ρ).bind fun r => if r.1 = true then some (.val (.leaf (.bool true)), r.2) else db r.2
def ldB (b : Bool) : Rv := .val (.leaf (.bool b))
theorem rvB {w : World} {K : PySem.W.Frag} {M : Addr → Prop} {σ : L2.St} {H H0 : Hp} {f : Fp} {d : D} {v : V} (h : Is w K cl M H v d) : RvOk w K cl M σ H f H0 (.val (.leaf d)) v [] := ⟨.leaf h, List.nodup_nil, fun _ ha => nomatch ha⟩
theorem rv_base {w : World} {K : PySem.W.Frag} {M M' : Addr → Prop} {σ : L2.St} {H H' H2 : Hp} {f f' f2 : Fp} {M2 : Addr → Prop} {rv : Rv} {v : V} {fw : List Addr} (s : Step M H f M' H' f') (k : RvOk w K cl M2 σ H2 f2 H' rv v fw) : RvOk w K cl M2 σ H2 f2 H rv v fw := k.base fun _ z => s.back z
theorem de_and {da db : Den Rv} (ha : DE cl X a da) (hb : DE cl X (.BoolOp .And (b :: rest) pos) db) : DE cl X (.BoolOp .And (a :: b :: rest) pos) (dAndV da db) := pe_imp (pe_and ha hb) fun σ H Q ⟨M, ρ, f, rv, ρ', rs, hd, k⟩ => by
  obtain ⟨⟨x, ρ1⟩, h1, hd⟩ := Option.bind_eq_some_iff.mp hd
  refine dTest_imp ⟨M, ρ, f, x, ρ1, rs, h1, fun M' H' f' rs' st => ?_⟩
  cases x with
  | true =>
    rw [if_pos rfl] at hd ⊢
    exact ⟨M', ρ1, f', rv, ρ', rs', hd, fun v M2 H2 f2 fw rs2 ok st2 => k v M2 H2 f2 fw rs2 (rv_base st ok) (st.trans rs.trk st2)⟩
  | false =>
    rw [if_neg (by simp)] at hd ⊢
    cases hd
    exact k _ M' H' f' [] rs' (rvB (.bl false)) st
theorem de_or {da db : Den Rv} (ha : DE cl X a da) (hb : DE cl X (.BoolOp .Or (b :: rest) pos) db) : DE cl X (.BoolOp .Or (a :: b :: rest) pos) (dOrV da db) := pe_imp (pe_or ha hb) fun σ H Q ⟨M, ρ, f, rv, ρ', rs, hd, k⟩ => by
  obtain ⟨⟨x, ρ1⟩, h1, hd⟩ := Option.bind_eq_some_iff.mp hd
  refine dTest_imp ⟨M, ρ, f, x, ρ1, rs, h1, fun M' H' f' rs' st => ?_⟩
  cases x with
  | true =>
    rw [if_pos rfl] at hd ⊢
    cases hd
    exact k _ M' H' f' [] rs' (rvB (.bl true)) st
  | false =>
    rw [if_neg (by simp)] at hd ⊢
    exact ⟨M', ρ1, f', rv, ρ', rs', hd, fun v M2 H2 f2 fw rs2 ok st2 => k v M2 H2 f2 fw rs2 (rv_base st ok) (st.trans rs.trk st2)⟩
def dNotV (d : Den Rv) : Den Rv := fun ρ => (dTest d ρ).map fun r => (.val (.leaf (.bool (!r.1))), r.2)
theorem de_not {d : Den Rv} (h : DE cl X a d) : DE cl X (.UnaryOp .Not a pos) (dNotV d) := pe_imp (pe_not h) fun σ H Q ⟨M, ρ, f, rv, ρ', rs, hd, k⟩ => by
  obtain ⟨⟨x, ρ1⟩, h1, hd⟩ := Option.map_eq_some_iff.mp hd
  cases hd
  exact dTest_imp ⟨M, ρ, f, x, ρ1, rs, h1, fun M' H' f' rs' st => k _ M' H' f' [] rs' (rvB (.bl (!x))) st⟩
def dIf (t : Den Bool) (da db : Den Rv) : Den Rv := fun ρ => (t ρ).bind fun r => if r.1 = true then da r.2 else db r.2
theorem de_if {t : Den Bool} {da db : Den Rv} (hc : DT cl X c t) (ha : DE cl X a da) (hb : DE cl X b db) : DE cl X (.IfExp c a b pos) (dIf t da db) := pe_imp (pe_ifExp hc ha hb) fun σ H Q ⟨M, ρ, f, rv, ρ', rs, hd, k⟩ => by
  obtain ⟨⟨x, ρ1⟩, h1, hd⟩ := Option.bind_eq_some_iff.mp hd
  refine ⟨M, ρ, f, x, ρ1, rs, h1, fun M' H' f' rs' st => ?_⟩
  cases x with
  | true =>
    rw [if_pos rfl] at hd ⊢
    exact ⟨M', ρ1, f', rv, ρ', rs', hd, fun v M2 H2 f2 fw rs2 ok st2 => k v M2 H2 f2 fw rs2 (rv_base st ok) (st.trans rs.trk st2)⟩
  | false =>
    rw [if_neg (by simp)] at hd ⊢
    exact ⟨M', ρ1, f', rv, ρ', rs', hd, fun v M2 H2 f2 fw rs2 ok st2 => k v M2 H2 f2 fw rs2 (rv_base st ok) (st.trans rs.trk st2)⟩
/-! ### a < b < c -/
def dChain (g g' : D → D → Option D) (da db dc : Den Rv) : Den Rv := fun ρ => (da ρ).bind fun x => (db x.2).bind fun y => (viewR y.2 x.1).bind fun dx => (viewR y.2 y.1).bind fun dy => (g dx dy).bind fun r => match r with
  | .bool true => (dc y.2).bind fun z => (viewR z.2 y.1).bind fun dy => (viewR z.2 z.1).bind fun dz => (g' dy dz).bind fun r' => (sv r').bind fun _ => some (.val (.leaf r'), z.2)
  | .bool false => some (.val (.leaf (.bool false)), y.2)
  | _ => Option.none
theorem dChain_imp {w : World} {K : PySem.W.Frag} {g g' : D → D → Option D} {da db dc : Den Rv} {σ : L2.St} {H : Hp} {Q : VK} (h : tD w K cl (dChain g g' da db dc) σ H Q) : tChain (rV2 w K cl g) (rV2 w K cl g') (tD w K cl da) (tD w K cl db) (tD w K cl dc) σ H Q := by
  obtain ⟨M, ρ, f, rv, ρ', rs, hd, k⟩ := h
  obtain ⟨⟨x, ρ1⟩, h1, hd⟩ := Option.bind_eq_some_iff.mp hd
  obtain ⟨⟨y, ρ2⟩, h2, hd⟩ := Option.bind_eq_some_iff.mp hd
  obtain ⟨dx, h3, hd⟩ := Option.bind_eq_some_iff.mp hd
  obtain ⟨dy, h4, hd⟩ := Option.bind_eq_some_iff.mp hd
  obtain ⟨r, h5, hd⟩ := Option.bind_eq_some_iff.mp hd
  refine ⟨M, ρ, f, x, ρ1, rs, h1, fun v1 M1 H1 f1 fw1 rs1 ok1 st1 => ⟨M1, ρ1, f1, y, ρ2, rs1, h2, fun v2 M2 H2 f2 fw2 rs2 ok2 st2 => ?_⟩⟩
  have st12 := st1.trans rs.trk st2
  split at hd
  · obtain ⟨⟨z, ρ3⟩, h6, hd⟩ := Option.bind_eq_some_iff.mp hd
    obtain ⟨dy', h7, hd⟩ := Option.bind_eq_some_iff.mp hd
    obtain ⟨dz, h8, hd⟩ := Option.bind_eq_some_iff.mp hd
    obtain ⟨r', h9, hd⟩ := Option.bind_eq_some_iff.mp hd
    obtain ⟨v, h10, hd⟩ := Option.bind_eq_some_iff.mp hd
    cases hd
    refine ⟨dx, dy, .bool true, .bl true, (ok1.carry rs1 st2).view rs2 h3, ok2.view rs2 h4, h5, rfl, true, rfl, ?_⟩
    rw [if_pos rfl]
    refine ⟨M2, ρ2, f2, z, ρ3, rs2, h6, fun v3 M3 H3 f3 fw3 rs3 ok3 st3 => ?_⟩
    exact ⟨dy', dz, r', v, (ok2.carry rs2 st3).view rs3 h7, ok3.view rs3 h8, h9, h10, k v M3 H3 f3 [] rs3 (rvB (is_sv h10)) (st12.trans rs.trk st3)⟩
  · cases hd
    refine ⟨dx, dy, .bool false, .bl false, (ok1.carry rs1 st2).view rs2 h3, ok2.view rs2 h4, h5, rfl, false, rfl, ?_⟩
    rw [if_neg (by simp)]
    exact k _ M2 H2 f2 [] rs2 (rvB (.bl false)) st12
  · cases hd
theorem de_chain {op op' : CmpOp} {g g' : D → D → Option D} {da db dc : Den Rv} (ho : OpR X (compareOp op) (rV2 X.w X.K cl g)) (ho' : OpR X (compareOp op') (rV2 X.w X.K cl g')) (ha : DE cl X a da) (hb : DE cl X b db) (hc : DE cl X c dc)
    (hm : lastMarks [op, op'] [b, c] = false := by with_unfolding_all rfl) : DE cl X (.Compare a [op, op'] [b, c] pos) (dChain g g' da db dc) := pe_imp (pe_chain ho ho' ha hb hc hm) fun _ _ _ => dChain_imp
theorem dt_chain {op op' : CmpOp} {g g' : D → D → Option D} {da db dc : Den Rv} (ho : OpR X (compareOp op) (rV2 X.w X.K cl g)) (ho' : OpR X (compareOp op') (rV2 X.w X.K cl g')) (ha : DE cl X a da) (hb : DE cl X b db) (hc : DE cl X c dc)
    (hm : lastMarks [op, op'] [b, c] = false := by with_unfolding_all rfl) : DT cl X (.Compare a [op, op'] [b, c] pos) (dTest (dChain g g' da db dc)) := pt_imp (pt_chain ho ho' ha hb hc hm) fun _ _ _ h => dChain_imp (dTest_imp h)
end

/-! ### new objects -/
section
variable {w : World} {K : PySem.W.Frag} {M M0 : Addr → Prop} {ρ : Env} {σ : L2.St} {H H0 : Hp} {f f0 : Fp} {p : Addr} {o : HO}
theorem ext_new (n : H p = Option.none) (t : Trk M H) : Ext M H M (upd H p o) := fun b u h m => ⟨by rw [upd_ne (ne_of_none h n)]; exact h, m⟩
theorem ext_newM (n : H p = Option.none) (t : Trk M H) : Ext M H (fun a => M a ∨ a = p) (upd H p o) := fun b u h m => ⟨by rw [upd_ne (ne_of_none h n)]; exact h, fun z => z.elim m fun e => ne_of_none h n e⟩
theorem notM_new (n : H p = Option.none) (t : Trk M H) : ¬ M p := fun m => by
  obtain ⟨o, h⟩ := t p m
  rw [n] at h
  cases h
theorem upd_there {H : Hp} {p b : Addr} {o u : HO} (h : H b = some u) : ∃ u', upd H p o b = some u' := by
  by_cases e : b = p
  · subst e
    exact ⟨o, upd_same⟩
  · exact ⟨u, by rw [upd_ne e]; exact h⟩
/-- a new object that is not to change -/
theorem RS.new (r : RS w K cl M ρ σ H f) (n : H p = Option.none) (o : HO) : RS w K cl M ρ σ (upd H p o) f ∧ Step M H f M (upd H p o) f := by
  have ex := ext_new (o := o) n r.trk
  refine ⟨⟨fun i x hx => ?_, r.none, r.nd, r.dj, r.own, fun a ha => ?_, r.len⟩, ⟨fun b u h _ => by rw [upd_ne (ne_of_none h n)]; exact h, fun b u h => upd_there h, fun _ m _ => m, fun _ m => .inl m, fun _ _ h => .inl h⟩⟩
  · obtain ⟨v, hv, hw⟩ := r.slot i x hx
    exact ⟨v, hv, hw.stay ex fun a _ u h => by rw [upd_ne (ne_of_none h n)]; exact h⟩
  · obtain ⟨u, h⟩ := r.trk a ha
    exact upd_there h
/-- a new object of one's own -/
theorem RS.newM (r : RS w K cl M ρ σ H f) (n : H p = Option.none) (o : HO) : RS w K cl (fun a => M a ∨ a = p) ρ σ (upd H p o) f ∧ Step M H f (fun a => M a ∨ a = p) (upd H p o) f := by
  have ex := ext_newM (o := o) n r.trk
  refine ⟨⟨fun i x hx => ?_, r.none, r.nd, r.dj, fun i a ha => .inl (r.own i a ha), fun a ha => ?_, r.len⟩, ⟨fun b u h _ => by rw [upd_ne (ne_of_none h n)]; exact h, fun b u h => upd_there h, fun _ m _ => .inl m, fun b m => m.elim .inl fun e => .inr (e ▸ n), fun _ _ h => .inl h⟩⟩
  · obtain ⟨v, hv, hw⟩ := r.slot i x hx
    exact ⟨v, hv, hw.stay ex fun a _ u h => by rw [upd_ne (ne_of_none h n)]; exact h⟩
  · rcases ha with ha | ha
    · obtain ⟨u, h⟩ := r.trk a ha
      exact upd_there h
    · rw [ha]
      exact ⟨o, upd_same⟩
theorem RS.not_in (r : RS w K cl M ρ σ H f) (n : H p = Option.none) (i : Nat) : p ∉ f i := fun z => notM_new n r.trk (r.own i p z)
end
section
variable {w : World} {K : PySem.W.Frag} {M : Addr → Prop} {H : Hp} {fw : List Addr}
def leaves : List D → List W := fun ds => ds.map W.leaf
theorem wall_leaves : ∀ {vs : List V} {ds : List D}, IsL w K cl M H vs ds → WAll w K cl M H vs (leaves ds) []
  | _, _, .nil => .nil
  | _, _, .cons a t => WAll.cons (fp := []) (fps := []) (.leaf a) (wall_leaves t)
end
/-- a new list, a new tuple as an answer -/
def ownL (ds : List D) : Rv := .val (.lst (leaves ds))
section
variable {w : World} {K : PySem.W.Frag} {M : Addr → Prop} {ρ : Env} {σ : L2.St} {H H0 : Hp} {f : Fp} {p : Addr} {xs : List V} {ds : List D}
theorem fin_lst (r : RS w K cl M ρ σ H f) (n : H p = Option.none) (hb : H0 p = Option.none) (h : IsL w K cl M H xs ds) :
    RS w K cl (fun a => M a ∨ a = p) ρ σ (upd H p (.lst xs)) f ∧ RvOk w K cl (fun a => M a ∨ a = p) σ (upd H p (.lst xs)) f H0 (ownL ds) (.ref p) [p] ∧ Step M H f (fun a => M a ∨ a = p) (upd H p (.lst xs)) f :=
  ⟨(r.newM n _).1, ⟨.lst upd_same (wall_leaves (h.stay (ext_newM n r.trk))), by simp, fun a ha => by
    have e : a = p := by simpa using ha
    subst e
    exact ⟨.inr rfl, r.not_in n, hb⟩⟩, (r.newM n _).2⟩
theorem fin_tup (r : RS w K cl M ρ σ H f) (n : H p = Option.none) (h : IsL w K cl M H xs ds) :
    RS w K cl M ρ σ (upd H p (.tup xs)) f ∧ Is w K cl M (upd H p (.tup xs)) (.ref p) (.tup ds) ∧ Step M H f M (upd H p (.tup xs)) f :=
  ⟨(r.new n _).1, .tup (.inl upd_same) (notM_new n r.trk) (h.stay (ext_new n r.trk)), (r.new n _).2⟩
end
section
variable {e a b c : Expr} {es : List Expr} {pos : Pos}
theorem da_nil : DA cl X [] (fun ρ => some ([], ρ)) := pa_imp pa_nil fun σ H Q ⟨M, ρ, f, ds, ρ', rs, hd, k⟩ => by
  cases hd
  exact k [] M H f rs .nil Step.refl
def dNil : Den (List D) := fun ρ => some ([], ρ)
def dCons (d : Den Rv) (r : Den (List D)) : Den (List D) := fun ρ => (dSh d ρ).bind fun x => (r x.2).map fun y => (x.1 :: y.1, y.2)
theorem da_cons {d : Den Rv} {r : Den (List D)} (ha : DE cl X e d) (hr : DA cl X es r) (hs : starEach (e :: es) X.env = (false, eval e X.env) :: starEach es X.env := by rfl) : DA cl X (e :: es) (dCons d r) := pa_imp (pa_cons (de_sh ha) hr hs) fun σ H Q ⟨M, ρ, f, ds, ρ', rs, hd, k⟩ => by
  obtain ⟨⟨x, ρ1⟩, h1, hd⟩ := Option.bind_eq_some_iff.mp hd
  obtain ⟨⟨y, ρ2⟩, h2, hd⟩ := Option.map_eq_some_iff.mp hd
  cases hd
  refine ⟨M, ρ, f, x, ρ1, rs, h1, fun v M1 H1 f1 rs1 is1 st1 => ⟨M1, ρ1, f1, y, ρ2, rs1, h2, fun vs M2 H2 f2 rs2 is2 st2 => ?_⟩⟩
  exact k (v :: vs) M2 H2 f2 rs2 (.cons (is1.stay (rs1.ext st2)) is2) (st1.trans rs.trk st2)
def dLst (d : Den (List D)) : Den Rv := fun ρ => (d ρ).bind fun r => if r.1.length ≤ sizeLine then some (ownL r.1, r.2) else Option.none
theorem de_lst {d : Den (List D)} (h : DA cl X es d) : DE cl X (.List es pos) (dLst d) := pe_imp (pe_lst h) fun σ H Q ⟨M, ρ, f, rv, ρ', rs, hd, k⟩ => by
  obtain ⟨⟨ds, ρ1⟩, h1, hd⟩ := Option.bind_eq_some_iff.mp hd
  by_cases c : ds.length ≤ sizeLine
  · rw [if_pos c] at hd
    cases hd
    refine ⟨M, ρ, f, ds, ρ1, rs, h1, fun vs M1 H1 f1 rs1 is1 st1 => ⟨by rw [is1.length]; exact c, fun p np => ?_⟩⟩
    obtain ⟨r2, ok, st2⟩ := fin_lst rs1 np (st1.back np) is1
    exact k _ _ _ _ _ r2 ok (st1.trans rs.trk st2)
  · rw [if_neg c] at hd
    cases hd
def dTup (d : Den (List D)) : Den Rv := fun ρ => (d ρ).bind fun r => if r.1.length ≤ sizeLine then some (.val (.leaf (.tup r.1)), r.2) else Option.none
theorem de_tup {k1} {d : Den (List D)} (h : DA cl X es d) : DE cl X (.Tuple es k1 pos) (dTup d) := pe_imp (pe_tup h) fun σ H Q ⟨M, ρ, f, rv, ρ', rs, hd, k⟩ => by
  obtain ⟨⟨ds, ρ1⟩, h1, hd⟩ := Option.bind_eq_some_iff.mp hd
  by_cases c : ds.length ≤ sizeLine
  · rw [if_pos c] at hd
    cases hd
    refine ⟨M, ρ, f, ds, ρ1, rs, h1, fun vs M1 H1 f1 rs1 is1 st1 => ⟨by rw [is1.length]; exact c, fun p np => ?_⟩⟩
    obtain ⟨r2, is2, st2⟩ := fin_tup rs1 np is1
    exact k _ _ _ _ [] r2 (rvB is2) (st1.trans rs.trk st2)
  · rw [if_neg c] at hd
    cases hd
end
end
end Ws
set_option Elab.async false
set_option linter.all false
set_option maxRecDepth 100000
set_option maxHeartbeats 2000000
/-! Ws4: statements, defs, calls. -/
namespace Ws
open PySem PySem.Spec PyProof.Rows L2

inductive Out where
  | next
  | brk
  | cont
  | ret (rv : Rv)
  deriving Inhabited
def OutOk (w : World) (K : PySem.W.Frag) (cl : Nat → Addr) (E : Ends) (M' : Addr → Prop) (σ' : L2.St) (H' : Hp) (f' : Fp) (H : Hp) : Out → Prop
  | .next => E.nx σ' H'
  | .brk => E.bk σ' H'
  | .cont => E.ct σ' H'
  | .ret rv => ∀ v fw, RvOk w K cl M' σ' H' f' H rv v fw → E.rt v H'
def Par (np : Nat) (σ σ' : L2.St) : Prop := ∀ i, i < np → σ'[i]? = σ[i]?
theorem Par.refl {np : Nat} {σ : L2.St} : Par np σ σ := fun _ _ => rfl
theorem Par.trans {np : Nat} {σ σ1 σ2 : L2.St} (a : Par np σ σ1) (b : Par np σ1 σ2) : Par np σ σ2 := fun i h => (b i h).trans (a i h)
def tDS (w : World) (K : PySem.W.Frag) (cl : Nat → Addr) (np : Nat) (den : Den Out) : TS := fun E σ H => ∃ M ρ f o ρ', RS w K cl M ρ σ H f ∧ den ρ = some (o, ρ') ∧
  ∀ σ' M' H' f', RS w K cl M' ρ' σ' H' f' → Step M H f M' H' f' → Par np σ σ' → OutOk w K cl E M' σ' H' f' H o
abbrev DS (cl : Nat → Addr) (np : Nat) (X : Cx) (st : Stmt) (den : Den Out) : Prop := PS X st (tDS X.w X.K cl np den)
abbrev DSs (cl : Nat → Addr) (np : Nat) (X : Cx) (st : List Stmt) (den : Den Out) : Prop := PSs X st (tDS X.w X.K cl np den)
theorem ps_imp {X : Cx} {e : Stmt} {t t' : TS} (h : PS X e t) (i : ∀ E σ H, t' E σ H → t E σ H) : PS X e t' := ⟨fun pins s σ H D I k => h.run pins s σ H D I (i D σ H k)⟩
theorem pss_imp {X : Cx} {e : List Stmt} {t t' : TS} (h : PSs X e t) (i : ∀ E σ H, t' E σ H → t E σ H) : PSs X e t' := ⟨fun pins s σ H D I k => h.run pins s σ H D I (i D σ H k)⟩

section
variable {cl : Nat → Addr} {np : Nat} {X : Cx} {e : Expr} {a b : List Stmt} {st : Stmt} {rest : List Stmt} {pos : Pos}
theorem out_base {w : World} {K : PySem.W.Frag} {E : Ends} {M M1 M' : Addr → Prop} {σ' : L2.St} {H H1 H' : Hp} {f f1 f' : Fp} {o : Out} (s : Step M H f M1 H1 f1) (h : OutOk w K cl E M' σ' H' f' H o) : OutOk w K cl E M' σ' H' f' H1 o := by
  cases o with
  | next => exact h
  | brk => exact h
  | cont => exact h
  | ret rv => exact fun v fw k => h v fw (rv_base s k)
def dSeq (d1 d2 : Den Out) : Den Out := fun ρ => (d1 ρ).bind fun r => match r.1 with
  | .next => d2 r.2
  | o => some (o, r.2)
theorem dSeq_imp {w : World} {K : PySem.W.Frag} {d1 d2 : Den Out} {E : Ends} {σ : L2.St} {H : Hp} (h : tDS w K cl np (dSeq d1 d2) E σ H) : tSeq (tDS w K cl np d1) (tDS w K cl np d2) E σ H := by
  obtain ⟨M, ρ, f, o, ρ', rs, hd, k⟩ := h
  obtain ⟨⟨o1, ρ1⟩, h1, hd⟩ := Option.bind_eq_some_iff.mp hd
  refine ⟨M, ρ, f, o1, ρ1, rs, h1, fun σ1 M1 H1 f1 rs1 st1 p1 => ?_⟩
  cases o1 with
  | next => exact ⟨M1, ρ1, f1, o, ρ', rs1, hd, fun σ2 M2 H2 f2 rs2 st2 p2 => out_base st1 (k σ2 M2 H2 f2 rs2 (st1.trans rs.trk st2) (p1.trans p2))⟩
  | brk => cases hd; exact k σ1 M1 H1 f1 rs1 st1 p1
  | cont => cases hd; exact k σ1 M1 H1 f1 rs1 st1 p1
  | ret rv => cases hd; exact k σ1 M1 H1 f1 rs1 st1 p1
theorem dss_cons {d1 d2 : Den Out} (h1 : DS cl np X st d1) (h2 : DSs cl np X rest d2) : DSs cl np X (st :: rest) (dSeq d1 d2) := pss_imp (pss_cons h1 h2) fun _ _ _ => dSeq_imp
theorem dss_one {d : Den Out} (h : DS cl np X st d) : DSs cl np X [st] d := pss_one h
def dNext : Den Out := fun ρ => some (.next, ρ)
theorem dss_nil : DSs cl np X [] dNext := pss_imp pss_nil fun E σ H ⟨M, ρ, f, o, ρ', rs, hd, k⟩ => by
  cases hd
  exact k σ M H f rs Step.refl Par.refl
theorem ds_pass : DS cl np X (.Pass pos) dNext := ps_imp ps_pass fun E σ H ⟨M, ρ, f, o, ρ', rs, hd, k⟩ => by
  cases hd
  exact k σ M H f rs Step.refl Par.refl
def dBrk : Den Out := fun ρ => some (.brk, ρ)
theorem ds_break : DS cl np X (.Break pos) dBrk := ps_imp ps_break fun E σ H ⟨M, ρ, f, o, ρ', rs, hd, k⟩ => by
  cases hd
  exact k σ M H f rs Step.refl Par.refl
def dCont : Den Out := fun ρ => some (.cont, ρ)
theorem ds_continue : DS cl np X (.Continue pos) dCont := ps_imp ps_continue fun E σ H ⟨M, ρ, f, o, ρ', rs, hd, k⟩ => by
  cases hd
  exact k σ M H f rs Step.refl Par.refl
def dRet (d : Den Rv) : Den Out := fun ρ => (d ρ).map fun r => (.ret r.1, r.2)
theorem ds_ret {d : Den Rv} (h : DE cl X e d) : DS cl np X (.Return (some e) pos) (dRet d) := ps_imp (ps_ret h) fun E σ H ⟨M, ρ, f, o, ρ', rs, hd, k⟩ => by
  obtain ⟨⟨rv, ρ1⟩, h1, hd⟩ := Option.map_eq_some_iff.mp hd
  cases hd
  exact ⟨M, ρ, f, rv, ρ1, rs, h1, fun v M1 H1 f1 fw rs1 ok st1 => k σ M1 H1 f1 rs1 st1 Par.refl v fw ok⟩
def dRetN : Den Out := fun ρ => some (.ret (.val (.leaf .none)), ρ)
theorem ds_retN : DS cl np X (.Return none pos) dRetN := ps_imp ps_retN fun E σ H ⟨M, ρ, f, o, ρ', rs, hd, k⟩ => by
  cases hd
  exact k σ M H f rs Step.refl Par.refl .non [] (rvB .non)
def dDrop (d : Den Rv) : Den Out := fun ρ => (d ρ).map fun r => (.next, r.2)
theorem ds_expr {d : Den Rv} (h : DE cl X e d) (hs : swapsWith e none pos.line X.env = pure false := by rfl) : DS cl np X (.Expr e pos) (dDrop d) := ps_imp (ps_expr h hs) fun E σ H ⟨M, ρ, f, o, ρ', rs, hd, k⟩ => by
  obtain ⟨⟨rv, ρ1⟩, h1, hd⟩ := Option.map_eq_some_iff.mp hd
  cases hd
  exact ⟨M, ρ, f, rv, ρ1, rs, h1, fun v M1 H1 f1 fw rs1 ok st1 => k σ M1 H1 f1 rs1 st1 Par.refl⟩
def dIfS (t : Den Bool) (d1 d2 : Den Out) : Den Out := fun ρ => (t ρ).bind fun r => if r.1 = true then d1 r.2 else d2 r.2
theorem ds_if {t : Den Bool} {d1 d2 : Den Out} {c : Expr} (hc : DT cl X c t) (ha : DSs cl np X a d1) (hb : DSs cl np X b d2) : DS cl np X (.If c a b pos) (dIfS t d1 d2) := ps_imp (ps_if hc ha hb) fun E σ H ⟨M, ρ, f, o, ρ', rs, hd, k⟩ => by
  obtain ⟨⟨x, ρ1⟩, h1, hd⟩ := Option.bind_eq_some_iff.mp hd
  refine ⟨M, ρ, f, x, ρ1, rs, h1, fun M1 H1 f1 rs1 st1 => ?_⟩
  cases x with
  | true =>
    rw [if_pos rfl] at hd ⊢
    exact ⟨M1, ρ1, f1, o, ρ', rs1, hd, fun σ2 M2 H2 f2 rs2 st2 p2 => out_base st1 (k σ2 M2 H2 f2 rs2 (st1.trans rs.trk st2) p2)⟩
  | false =>
    rw [if_neg (by simp)] at hd ⊢
    exact ⟨M1, ρ1, f1, o, ρ', rs1, hd, fun σ2 M2 H2 f2 rs2 st2 p2 => out_base st1 (k σ2 M2 H2 f2 rs2 (st1.trans rs.trk st2) p2)⟩
/-- a statement that is never reached -/
def dNever : Den Out := fun _ => Option.none
theorem ds_never : DS cl np X st dNever := ⟨fun _ _ _ _ _ _ ⟨_, _, _, _, _, _, hd, _⟩ => nomatch hd⟩

/-! ### stores to names -/
section
variable {w : World} {K : PySem.W.Frag} {M M0 : Addr → Prop} {ρ : Env} {σ : L2.St} {H H0 : Hp} {f f0 : Fp} {v : V} {x : W} {fw : List Addr} {i : Nat}
theorem RS.store (r : RS w K cl M ρ σ H f) (hi : i < ρ.length) (h : WIs w K cl M H v x fw) (nd : fw.Nodup) (q : ∀ a ∈ fw, M a ∧ ∀ j, a ∉ f j) : RS w K cl M (ρ.set i (some x)) (σ.set i (some v)) H (fpSet f i fw) := by
  refine ⟨fun j y hy => ?_, fun j hj => ?_, fun j => ?_, fun j k a ha hb => ?_, fun j a ha => ?_, r.trk, by simpa using r.len⟩
  · rcases set_get hy with ⟨e1, e2⟩ | ⟨e1, e2⟩
    · subst e1
      cases e2
      refine ⟨v, ?_, by rw [fpSet_same]; exact h⟩
      rw [List.getElem?_set_self (by rw [← r.len]; exact hi)]
    · obtain ⟨u, hu, hw⟩ := r.slot j y e2
      refine ⟨u, by rw [List.getElem?_set_ne e1]; exact hu, by rw [fpSet_ne (Ne.symm e1)]; exact hw⟩
  · by_cases e : j = i
    · subst e
      exact absurd (List.getElem?_set_self hi) (hj x)
    · rw [fpSet_ne e]
      refine r.none j fun y hy => hj y ?_
      rw [List.getElem?_set_ne (Ne.symm e)]
      exact hy
  · by_cases e : j = i
    · rw [e, fpSet_same]; exact nd
    · rw [fpSet_ne e]; exact r.nd j
  · by_cases e1 : j = i
    · by_cases e2 : k = i
      · rw [e1, e2]
      · rw [e1, fpSet_same] at ha
        rw [fpSet_ne e2] at hb
        exact absurd hb ((q a ha).2 k)
    · rw [fpSet_ne e1] at ha
      by_cases e2 : k = i
      · rw [e2, fpSet_same] at hb
        exact absurd ha ((q a hb).2 j)
      · rw [fpSet_ne e2] at hb
        exact r.dj j k a ha hb
  · by_cases e : j = i
    · rw [e, fpSet_same] at ha; exact (q a ha).1
    · rw [fpSet_ne e] at ha; exact r.own j a ha
theorem Step.store {M1 : Addr → Prop} {H1 : Hp} {f1 : Fp} (s : Step M0 H0 f0 M1 H1 f1) (q : ∀ a ∈ fw, H0 a = Option.none) : Step M0 H0 f0 M1 H1 (fpSet f1 i fw) := ⟨s.keep, s.there, s.prot, s.anti, fun j b hb => by
  by_cases e : j = i
  · rw [e, fpSet_same] at hb; exact .inr (q b hb)
  · rw [fpSet_ne e] at hb; exact s.own j b hb⟩
end
def putR (i : Nat) (r : Rv × Env) : Option Env := match r.1 with
  | .val x => if i < r.2.length then some (r.2.set i (some x)) else Option.none
  | .slot j => (shareR r.2 (.slot j)).bind fun y => if i < y.2.length then some (y.2.set i (some (.leaf y.1))) else Option.none
theorem putR_ok {w : World} {K : PySem.W.Frag} {M0 M : Addr → Prop} {ρ ρ' : Env} {σ : L2.St} {H0 H : Hp} {f0 f : Fp} {v : V} {rv : Rv} {fw : List Addr} {i : Nat} (r : RS w K cl M ρ σ H f) (ok : RvOk w K cl M σ H f H0 rv v fw) (st : Step M0 H0 f0 M H f) (t : Trk M0 H0) (e : putR i (rv, ρ) = some ρ') :
    ∃ M' f', RS w K cl M' ρ' (σ.set i (some v)) H f' ∧ Step M0 H0 f0 M' H f' := by
  cases rv with
  | val x =>
    have e' : (if i < ρ.length then some (ρ.set i (some x)) else Option.none) = some ρ' := e
    by_cases c : i < ρ.length
    · rw [if_pos c] at e'
      cases e'
      obtain ⟨h, nd, q⟩ := ok
      exact ⟨M, _, r.store c h nd fun a ha => ⟨(q a ha).1, (q a ha).2.1⟩, st.store fun a ha => (q a ha).2.2⟩
    · rw [if_neg c] at e'
      cases e'
  | slot j =>
    obtain ⟨⟨d, ρ1⟩, h1, e⟩ := Option.bind_eq_some_iff.mp (show (shareR ρ (.slot j)).bind (fun y => if i < y.2.length then some (y.2.set i (some (W.leaf y.1))) else Option.none) = some ρ' from e)
    by_cases c : i < ρ1.length
    · have e' : (if i < ρ1.length then some (ρ1.set i (some (W.leaf d))) else Option.none) = some ρ' := e
      rw [if_pos c] at e'
      cases e'
      obtain ⟨M2, f2, rs2, is2, st2⟩ := ok.share r st t h1
      exact ⟨M2, _, rs2.store c (.leaf is2) List.nodup_nil (fun a ha => nomatch ha), st2.store fun a ha => nomatch ha⟩
    · have e' : (if i < ρ1.length then some (ρ1.set i (some (W.leaf d))) else Option.none) = some ρ' := e
      rw [if_neg c] at e'
      cases e'
def dSet (i : Nat) (d : Den Rv) : Den Out := fun ρ => (d ρ).bind fun r => (putR i r).map fun ρ' => (.next, ρ')
theorem par_set {σ : L2.St} {i : Nat} {v : V} (h : np ≤ i) : Par np σ (σ.set i (some v)) := fun j hj => List.getElem?_set_ne (by omega)
theorem ds_set {i : Nat} {x : Str} {d : Den Rv} {xpos : Pos} (hN : X.N.Nodup) (hi : X.N[i]? = some x) (hx : Loc X.env.scope x) (hp : np ≤ i) (h : DE cl X e d) (hs : swapsWithSole [.Name x xpos] e pos.line X.env = pure false := by rfl) (hw : swappedStores [.Name x xpos] e X.env = pure none := by rfl)
    (hf : X.fn x = true ∨ X.env.scope.names.lookup x = some .local := by first | exact .inl rfl | exact .inr rfl | assumption) : DS cl np X (.Assign [.Name x xpos] e pos) (dSet i d) := ps_imp (ps_asg h (pg_name hN hi hx hf) hs hw) fun E σ H ⟨M, ρ, f, o, ρ', rs, hd, k⟩ => by
  obtain ⟨⟨rv, ρ1⟩, h1, hd⟩ := Option.bind_eq_some_iff.mp hd
  obtain ⟨ρ2, h2, hd⟩ := Option.map_eq_some_iff.mp hd
  cases hd
  refine ⟨M, ρ, f, rv, ρ1, rs, h1, fun v M1 H1 f1 fw rs1 ok st1 => ?_⟩
  obtain ⟨M2, f2, rs2, st2⟩ := putR_ok rs1 ok st1 rs.trk h2
  exact k _ M2 H1 f2 rs2 st2 (par_set hp)
end

/-! ### what a def promises -/
def ArgRS (w : World) (K : PySem.W.Frag) (cl : Nat → Addr) (M : Addr → Prop) (ws : List W) (vs : List V) (H : Hp) (f : Fp) : Prop := RS w K cl M (ws.map some) (vs.map some) H f
def spW (w : World) (K : PySem.W.Frag) (cl : Nat → Addr) (den : List W → Option (W × List W)) : Sp := fun vs H Q _ => ∃ M ws f r ws', ArgRS w K cl M ws vs H f ∧ den ws = some (r, ws') ∧
  ∀ v M' H' f' fw, ArgRS w K cl M' ws' vs H' f' → Step M H f M' H' f' → RvOk w K cl M' [] H' f' H (.val r) v fw → Q v H'
def allSome {α : Type} : List (Option α) → Option (List α)
  | [] => some []
  | some x :: r => (allSome r).map (x :: ·)
  | Option.none :: _ => Option.none
theorem allSome_map {α : Type} : ∀ {l : List (Option α)} {r : List α}, allSome l = some r → l = r.map some
  | [], _, h => by cases h; rfl
  | some x :: l, r, h => by
    obtain ⟨r', h1, h2⟩ := Option.map_eq_some_iff.mp (show (allSome l).map (x :: ·) = some r from h)
    subst h2
    rw [allSome_map h1]
    rfl
  | Option.none :: _, _, h => nomatch h
def dOut (np : Nat) : Out × Env → Option (W × List W)
  | (.next, ρ) => (allSome (ρ.take np)).map fun ws => (.leaf .none, ws)
  | (.ret (.val x), ρ) => (allSome (ρ.take np)).map fun ws => (x, ws)
  | (.ret (.slot i), ρ) => if i < np then (shareR ρ (.slot i)).bind fun y => (allSome (y.2.take np)).map fun ws => (.leaf y.1, ws) else (slotW ρ i).bind fun x => (allSome (ρ.take np)).map fun ws => (x, ws)
  | _ => Option.none
def dFn (np n : Nat) (body : Den Out) : List W → Option (W × List W) := fun ws => if ws.length = np then (body (ws.map some ++ List.replicate (n - np) Option.none)).bind (dOut np) else Option.none
section
variable {w : World} {K : PySem.W.Frag} {cl : Nat → Addr} {M M' : Addr → Prop} {ws : List W} {vs : List V} {H H' : Hp} {f f' : Fp} {np n : Nat}
theorem ArgRS.len (a : ArgRS w K cl M ws vs H f) : ws.length = vs.length := by simpa using RS.len a
theorem ArgRS.start (a : ArgRS w K cl M ws vs H f) (N : List Str) (hn : N.length = n) (hw : ws.length = np) : RS w K cl M (ws.map some ++ List.replicate (n - np) Option.none) (L2.start N vs) H f := by
  have hl := a.len
  have hv : vs.length = np := by omega
  refine ⟨fun i x hx => ?_, fun i hi => RS.none a i fun x hx => hi x ?_, RS.nd a, RS.dj a, RS.own a, RS.trk a, ?_⟩
  · rw [List.getElem?_append] at hx
    split at hx
    · obtain ⟨v, h1, h2⟩ := RS.slot a i x hx
      refine ⟨v, ?_, h2⟩
      unfold L2.start
      rw [List.getElem?_append_left (by have := (List.getElem?_eq_some_iff.mp h1).1; exact this)]
      exact h1
    · rw [List.getElem?_replicate] at hx
      split at hx <;> cases hx
  · rw [List.getElem?_append_left (by have := (List.getElem?_eq_some_iff.mp hx).1; exact this)]
    exact hx
  · unfold L2.start
    simp only [List.length_append, List.length_map, List.length_replicate, hl, hn, hv]
/-- at a def's end: its arguments again -/
theorem args_end {ρ' : Env} {σ' : L2.St} {ws' : List W} (r : RS w K cl M' ρ' σ' H' f') (hs : ∀ i, i < vs.length → σ'[i]? = (vs.map some)[i]?) (e : ρ'.take vs.length = ws'.map some) (hl : vs.length ≤ ρ'.length) :
    ArgRS w K cl M' ws' vs H' (fun i => if i < vs.length then f' i else []) := by
  have hw : ws'.length = vs.length := by
    have := congrArg List.length e
    rw [List.length_take, List.length_map] at this
    omega
  have sub : ∀ i a, a ∈ (if i < vs.length then f' i else []) → i < vs.length ∧ a ∈ f' i := fun i a ha => by
    by_cases c : i < vs.length
    · rw [if_pos c] at ha; exact ⟨c, ha⟩
    · rw [if_neg c] at ha; cases ha
  refine ⟨fun i x hx => ?_, fun i hi => ?_, fun i => ?_, fun i j a ha hb => r.dj i j a (sub i a ha).2 (sub j a hb).2, fun i a ha => r.own i a (sub i a ha).2, r.trk, by simpa using hw⟩
  · have c : i < vs.length := by
      have := (List.getElem?_eq_some_iff.mp hx).1
      rw [List.length_map] at this
      omega
    have hx' : ρ'[i]? = some (some x) := by
      rw [← e, List.getElem?_take_of_lt c] at hx
      exact hx
    obtain ⟨v, h1, h2⟩ := r.slot i x hx'
    refine ⟨v, by rw [← hs i c]; exact h1, ?_⟩
    show WIs w K cl M' H' v x (if i < vs.length then f' i else [])
    rw [if_pos c]
    exact h2
  · show (if i < vs.length then f' i else []) = []
    by_cases c : i < vs.length
    · rw [if_pos c]
      refine r.none i fun x hx => hi x ?_
      rw [← e, List.getElem?_take_of_lt c]
      exact hx
    · rw [if_neg c]
  · show (if i < vs.length then f' i else []).Nodup
    split
    · exact r.nd i
    · exact List.nodup_nil
theorem step_args (s : Step M H f M' H' f') (k : Nat) : Step M H f M' H' (fun i => if i < k then f' i else []) := ⟨s.keep, s.there, s.prot, s.anti, fun i b hb => by
  by_cases c : i < k
  · have hb' : b ∈ (if i < k then f' i else []) := hb
    rw [if_pos c] at hb'
    exact s.own i b hb'
  · have hb' : b ∈ (if i < k then f' i else []) := hb
    rw [if_neg c] at hb'
    cases hb'⟩
/-- from a body's end to the promise -/
theorem fn_end {N : List Str} {den : Den Out} {Q : VK} {E : XK} (hN : N.length = n) (h : spW w K cl (dFn np n den) vs H Q E) : tDS w K cl np den { nx := fun _ H' => Q .non H', rt := Q } (L2.start N vs) H := by
  obtain ⟨M, ws, f, r, ws', a, hd, k⟩ := h
  have hw : ws.length = np := by
    by_cases c : ws.length = np
    · exact c
    · unfold dFn at hd
      rw [if_neg c] at hd
      cases hd
  unfold dFn at hd
  rw [if_pos hw] at hd
  obtain ⟨⟨o, ρ'⟩, h1, hd⟩ := Option.bind_eq_some_iff.mp hd
  have hl := a.len
  have hv : vs.length = np := by omega
  refine ⟨M, _, f, o, ρ', a.start N hN hw, h1, fun σ' M' H' f' rs st par => ?_⟩
  have hs : ∀ i, i < vs.length → σ'[i]? = (vs.map some)[i]? := fun i c => by
    rw [par i (by omega)]
    unfold L2.start
    rw [List.getElem?_append_left (by simpa using c)]
  have fin : ∀ (M2 : Addr → Prop) (ρ2 : Env) (f2 : Fp) (wr : W) (v : V) (fw : List Addr), RS w K cl M2 ρ2 σ' H' f2 → Step M H f M2 H' f2 → (allSome (ρ2.take np)) = some ws' → wr = r →
      WIs w K cl M2 H' v wr fw → fw.Nodup → (∀ b ∈ fw, M2 b ∧ (∀ i, i < np → b ∉ f2 i) ∧ H b = Option.none) → Q v H' := fun M2 ρ2 f2 wr v fw r2 s2 e er hw2 nd q => by
    subst er
    have e' := allSome_map e
    rw [← hv] at e'
    have hlen : vs.length ≤ ρ2.length := by
      by_cases c : vs.length ≤ ρ2.length
      · exact c
      · have e1 := r2.len
        have c2 : ρ2.length < vs.length := by omega
        have e3 := hs ρ2.length c2
        rw [List.getElem?_eq_none (by omega)] at e3
        have e4 : (vs.map some)[ρ2.length]? ≠ Option.none := by
          intro z
          have := List.getElem?_eq_none_iff.mp z
          rw [List.length_map] at this
          omega
        exact absurd e3.symm e4
    have a2 := args_end (vs := vs) r2 hs e' hlen
    refine k v M2 H' _ fw a2 (step_args s2 _) ⟨hw2, nd, fun b hb => ⟨(q b hb).1, fun i hi => ?_, (q b hb).2.2⟩⟩
    have hi' : b ∈ (if i < vs.length then f2 i else []) := hi
    by_cases c : i < vs.length
    · rw [if_pos c] at hi'
      exact (q b hb).2.1 i (by omega) hi'
    · rw [if_neg c] at hi'
      cases hi'
  cases o with
  | brk => cases hd
  | cont => cases hd
  | next =>
    obtain ⟨ws2, e1, e2⟩ := Option.map_eq_some_iff.mp (show (allSome (ρ'.take np)).map (fun ws => ((W.leaf .none : W), ws)) = some (r, ws') from hd)
    cases e2
    exact fin M' ρ' f' _ .non [] rs st e1 rfl (.leaf .non) List.nodup_nil fun b hb => nomatch hb
  | ret rv =>
    intro v fw ok
    cases rv with
    | val x =>
      obtain ⟨ws2, e1, e2⟩ := Option.map_eq_some_iff.mp (show (allSome (ρ'.take np)).map (fun ws => (x, ws)) = some (r, ws') from hd)
      cases e2
      exact fin M' ρ' f' _ v fw rs st e1 rfl ok.1 ok.2.1 fun b hb => ⟨(ok.2.2 b hb).1, fun i _ => (ok.2.2 b hb).2.1 i, (ok.2.2 b hb).2.2⟩
    | slot i =>
      have hd' : (if i < np then (shareR ρ' (.slot i)).bind (fun y => (allSome (y.2.take np)).map fun ws => (W.leaf y.1, ws)) else (slotW ρ' i).bind fun x => (allSome (ρ'.take np)).map fun ws => (x, ws)) = some (r, ws') := hd
      by_cases c : i < np
      · rw [if_pos c] at hd'
        obtain ⟨⟨d, ρ2⟩, e1, hd'⟩ := Option.bind_eq_some_iff.mp hd'
        obtain ⟨ws2, e2, e3⟩ := Option.map_eq_some_iff.mp hd'
        cases e3
        obtain ⟨M2, f2, rs2, is2, st2⟩ := ok.share rs st (RS.trk a) e1
        exact fin M2 ρ2 f2 _ v [] rs2 st2 e2 rfl (.leaf is2) List.nodup_nil fun b hb => nomatch hb
      · rw [if_neg c] at hd'
        obtain ⟨x, e1, hd'⟩ := Option.bind_eq_some_iff.mp hd'
        obtain ⟨ws2, e2, e3⟩ := Option.map_eq_some_iff.mp hd'
        cases e3
        obtain ⟨u, hu, hw2⟩ := rs.slot i _ (slotW_some e1)
        have e4 := ok.2
        rw [hu] at e4
        cases e4
        refine fin M' ρ' f' _ v (f' i) rs st e2 rfl hw2 (rs.nd i) fun b hb => ⟨rs.own i b hb, fun j hj z => ?_, ?_⟩
        · have := rs.dj i j b hb z
          omega
        · rcases st.own i b hb with y | y
          · have z := RS.none a i fun x' hx' => by
              have := (List.getElem?_eq_some_iff.mp hx').1
              rw [List.length_map] at this
              omega
            rw [z] at y
            cases y
          · exact y
end
end Ws
set_option Elab.async false
set_option linter.all false
set_option maxRecDepth 100000
set_option maxHeartbeats 2000000
/-! Ws5: calls. -/
namespace Ws
open PySem PySem.Spec PyProof.Rows L2

section
variable (w : World) (K : PySem.W.Frag) (cl : Nat → Addr) (M' : Addr → Prop) (σ : L2.St) (H' : Hp) (f' : Fp) (H : Hp)
inductive RvsOk : List Rv → List V → List (List Addr) → Prop
  | nil : RvsOk [] [] []
  | cons {rv : Rv} {v : V} {fw : List Addr} {rvs : List Rv} {vs : List V} {fws : List (List Addr)} : RvOk w K cl M' σ H' f' H rv v fw → RvsOk rvs vs fws → (∀ a ∈ fw, ∀ l ∈ fws, a ∉ l) → RvsOk (rv :: rvs) (v :: vs) (fw :: fws)
end
def tRA (w : World) (K : PySem.W.Frag) (cl : Nat → Addr) (den : Den (List Rv)) : TA := fun σ H Q => ∃ M ρ f rvs ρ', RS w K cl M ρ σ H f ∧ den ρ = some (rvs, ρ') ∧
  ∀ vs M' H' f' fws, RS w K cl M' ρ' σ H' f' → RvsOk w K cl M' σ H' f' H rvs vs fws → Step M H f M' H' f' → Q vs H'
abbrev DR (cl : Nat → Addr) (X : Cx) (es : List Expr) (den : Den (List Rv)) : Prop := PA X es (tRA X.w X.K cl den)
section
variable {w : World} {K : PySem.W.Frag} {cl : Nat → Addr} {M M1 M2 M0 : Addr → Prop} {ρ ρ1 : Env} {σ : L2.St} {H H0 H1 H2 : Hp} {f f0 f1 f2 : Fp}
theorem RvOk.fresh {rv : Rv} {v : V} {fw : List Addr} (k : RvOk w K cl M σ H f H0 rv v fw) : ∀ a ∈ fw, H0 a = Option.none := fun a ha => by
  cases rv with
  | slot i => rw [k.1] at ha; cases ha
  | val x => exact (k.2.2 a ha).2.2
theorem RvOk.inM {rv : Rv} {v : V} {fw : List Addr} (k : RvOk w K cl M σ H f H0 rv v fw) : ∀ a ∈ fw, M a ∧ ∀ i, a ∉ f i := fun a ha => by
  cases rv with
  | slot i => rw [k.1] at ha; cases ha
  | val x => exact ⟨(k.2.2 a ha).1, (k.2.2 a ha).2.1⟩
theorem RvsOk.fresh : ∀ {rvs : List Rv} {vs : List V} {fws : List (List Addr)}, RvsOk w K cl M σ H f H0 rvs vs fws → ∀ l ∈ fws, ∀ a ∈ l, H0 a = Option.none
  | _, _, _, .nil, _, h, _, _ => nomatch h
  | _, _, _, .cons k t _, l, h, a, ha => by
    rcases List.mem_cons.mp h with e | h
    · subst e; exact k.fresh a ha
    · exact RvsOk.fresh t l h a ha
theorem RvsOk.base : ∀ {rvs : List Rv} {vs : List V} {fws : List (List Addr)}, (∀ c, H0 c = Option.none → H1 c = Option.none) → RvsOk w K cl M σ H f H0 rvs vs fws → RvsOk w K cl M σ H f H1 rvs vs fws
  | _, _, _, _, .nil => .nil
  | _, _, _, s, .cons k t d => .cons (k.base s) (RvsOk.base s t) d
theorem dr_nil {X : Cx} : DR cl X [] (fun ρ => some ([], ρ)) := pa_imp pa_nil fun σ H Q ⟨M, ρ, f, ds, ρ', rs, hd, k⟩ => by
  cases hd
  exact k [] M H f [] rs .nil Step.refl
def dRCons (d : Den Rv) (r : Den (List Rv)) : Den (List Rv) := fun ρ => (d ρ).bind fun x => (r x.2).map fun y => (x.1 :: y.1, y.2)
def dRNil : Den (List Rv) := fun ρ => some ([], ρ)
theorem dRCons_imp {d : Den Rv} {r : Den (List Rv)} {Q : List V → Hp → Prop} (h : tRA w K cl (dRCons d r) σ H Q) : tCons (tD w K cl d) (tRA w K cl r) σ H Q := by
  obtain ⟨M, ρ, f, ds, ρ', rs, hd, k⟩ := h
  obtain ⟨⟨x, ρ1⟩, h1, hd⟩ := Option.bind_eq_some_iff.mp hd
  obtain ⟨⟨y, ρ2⟩, h2, hd⟩ := Option.map_eq_some_iff.mp hd
  cases hd
  refine ⟨M, ρ, f, x, ρ1, rs, h1, fun v M1 H1 f1 fw rs1 ok1 st1 => ⟨M1, ρ1, f1, y, ρ2, rs1, h2, fun vs M2 H2 f2 fws rs2 ok2 st2 => ?_⟩⟩
  refine k (v :: vs) M2 H2 f2 (fw :: fws) rs2 (.cons (ok1.carry rs1 st2) (ok2.base fun c z => st1.back z) fun a ha l hl z => ?_) (st1.trans rs.trk st2)
  obtain ⟨o, ho⟩ := rs1.trk a (ok1.inM a ha).1
  rw [ok2.fresh l hl a z] at ho
  cases ho
theorem dr_cons {X : Cx} {e : Expr} {es : List Expr} {d : Den Rv} {r : Den (List Rv)} (ha : DE cl X e d) (hr : DR cl X es r) (hs : starEach (e :: es) X.env = (false, eval e X.env) :: starEach es X.env := by rfl) : DR cl X (e :: es) (dRCons d r) := pa_imp (pa_cons ha hr hs) fun _ _ _ => dRCons_imp

/-! ### the arguments' own trees -/
def argW (ρ : Env) : List Rv → Option (List W)
  | [] => some []
  | .val x :: r => (argW ρ r).map (x :: ·)
  | .slot i :: r => (slotW ρ i).bind fun x => (argW ρ r).map (x :: ·)
def slotsOf : List Rv → List Nat
  | [] => []
  | .val _ :: r => slotsOf r
  | .slot i :: r => i :: slotsOf r
def clearAll : List Rv → Env → Env
  | [], ρ => ρ
  | .val _ :: r, ρ => clearAll r ρ
  | .slot i :: r, ρ => clearAll r (ρ.set i Option.none)
def putBack : List Rv → List W → Env → Env
  | .slot i :: r, x :: xs, ρ => putBack r xs (ρ.set i (some x))
  | .val _ :: r, _ :: xs, ρ => putBack r xs ρ
  | _, _, ρ => ρ
def fpsOf (f : Fp) : List Rv → List (List Addr) → List (List Addr)
  | .slot i :: r, _ :: fs => f i :: fpsOf f r fs
  | .val _ :: r, fw :: fs => fw :: fpsOf f r fs
  | _, _ => []
def fpG (ls : List (List Addr)) : Fp := fun k => match ls[k]? with
  | some l => l
  | Option.none => []
theorem fpG_zero {l : List Addr} {ls : List (List Addr)} : fpG (l :: ls) 0 = l := rfl
theorem fpG_succ {l : List Addr} {ls : List (List Addr)} {k : Nat} : fpG (l :: ls) (k + 1) = fpG ls k := rfl
theorem fpG_mem {ls : List (List Addr)} {k : Nat} {a : Addr} (h : a ∈ fpG ls k) : ∃ l ∈ ls, a ∈ l := by
  unfold fpG at h
  split at h
  · rename_i l e
    exact ⟨l, List.mem_of_getElem? e, h⟩
  · cases h
theorem argW_len {ρ : Env} : ∀ {rvs : List Rv} {ws : List W}, argW ρ rvs = some ws → ws.length = rvs.length
  | [], _, h => by cases h; rfl
  | .val x :: r, _, h => by
    obtain ⟨ws, h1, h2⟩ := Option.map_eq_some_iff.mp (show (argW ρ r).map (x :: ·) = some _ from h)
    subst h2
    simp [argW_len h1]
  | .slot i :: r, _, h => by
    obtain ⟨x, h0, h⟩ := Option.bind_eq_some_iff.mp (show (slotW ρ i).bind (fun x => (argW ρ r).map (x :: ·)) = some _ from h)
    obtain ⟨ws, h1, h2⟩ := Option.map_eq_some_iff.mp h
    subst h2
    simp [argW_len h1]
theorem RvsOk.lens : ∀ {rvs : List Rv} {vs : List V} {fws : List (List Addr)}, RvsOk w K cl M σ H f H0 rvs vs fws → vs.length = rvs.length ∧ (fpsOf f rvs fws).length = rvs.length
  | _, _, _, .nil => ⟨rfl, rfl⟩
  | .slot _ :: _, _, _, .cons _ t _ => ⟨by simp [(RvsOk.lens t).1], by simp [fpsOf, (RvsOk.lens t).2]⟩
  | .val _ :: _, _, _, .cons _ t _ => ⟨by simp [(RvsOk.lens t).1], by simp [fpsOf, (RvsOk.lens t).2]⟩
/-- each place of the arguments' trees: a slot's, or laid since H0 -/
theorem fps_mem (t : RvsOk w K cl M σ H f H0 rvs vs fws) : ∀ l ∈ fpsOf f rvs fws, ∀ a ∈ l, (∃ i, i ∈ slotsOf rvs ∧ a ∈ f i) ∨ (∃ l ∈ fws, a ∈ l) := by
  induction t with
  | nil => intro l h; cases h
  | @cons rv v fw rvs vs fws k t d ih =>
    intro l h a ha
    cases rv with
    | slot i =>
      rcases List.mem_cons.mp (show l ∈ f i :: fpsOf f rvs fws from h) with e | h
      · subst e; exact .inl ⟨i, List.mem_cons_self, ha⟩
      · rcases ih l h a ha with ⟨j, h1, h2⟩ | ⟨l', h1, h2⟩
        · exact .inl ⟨j, List.mem_cons_of_mem _ h1, h2⟩
        · exact .inr ⟨l', List.mem_cons_of_mem _ h1, h2⟩
    | val x =>
      rcases List.mem_cons.mp (show l ∈ fw :: fpsOf f rvs fws from h) with e | h
      · subst e; exact .inr ⟨l, List.mem_cons_self, ha⟩
      · rcases ih l h a ha with ⟨j, h1, h2⟩ | ⟨l', h1, h2⟩
        · exact .inl ⟨j, h1, h2⟩
        · exact .inr ⟨l', List.mem_cons_of_mem _ h1, h2⟩
theorem RvsOk.inM (t : RvsOk w K cl M σ H f H0 rvs vs fws) : ∀ l ∈ fws, ∀ a ∈ l, M a ∧ ∀ i, a ∉ f i := by
  induction t with
  | nil => intro l h; cases h
  | @cons rv v fw rvs vs fws k t d ih =>
    intro l h a ha
    rcases List.mem_cons.mp h with e | h
    · subst e; exact k.inM a ha
    · exact ih l h a ha
/-- the arguments as a callee takes them -/
theorem args_rs (r : RS w K cl M ρ σ H f) (t : RvsOk w K cl M σ H f H0 rvs vs fws) : ∀ {ws : List W}, argW ρ rvs = some ws → (slotsOf rvs).Nodup → ArgRS w K cl M ws vs H (fpG (fpsOf f rvs fws)) := by
  induction t with
  | nil =>
    intro ws e _
    cases e
    exact ⟨(fun i x h => by simp at h), (fun i _ => rfl), (fun i => List.nodup_nil), (fun i j a ha => nomatch ha), (fun i a ha => nomatch ha), r.trk, rfl⟩
  | @cons rv v fw rvs vs fws k t d ih =>
    intro ws e nd
    -- the head's tree
    have hd : ∃ x ws', ws = x :: ws' ∧ argW ρ rvs = some ws' ∧ (slotsOf rvs).Nodup ∧ ∃ l, fpsOf f (rv :: rvs) (fw :: fws) = l :: fpsOf f rvs fws ∧ WIs w K cl M H v x l ∧ l.Nodup ∧ (∀ a ∈ l, M a) ∧ (∀ l' ∈ fpsOf f rvs fws, ∀ a ∈ l, a ∉ l') := by
      cases rv with
      | val x =>
        obtain ⟨ws', h1, h2⟩ := Option.map_eq_some_iff.mp (show (argW ρ rvs).map (x :: ·) = some ws from e)
        refine ⟨x, ws', h2.symm, h1, nd, fw, rfl, k.1, k.2.1, fun a ha => (k.2.2 a ha).1, fun l' hl a ha z => ?_⟩
        rcases fps_mem t l' hl a z with ⟨i, _, h⟩ | ⟨l2, h3, h4⟩
        · exact (k.2.2 a ha).2.1 i h
        · exact d a ha l2 h3 h4
      | slot i =>
        obtain ⟨x, h0, e⟩ := Option.bind_eq_some_iff.mp (show (slotW ρ i).bind (fun x => (argW ρ rvs).map (x :: ·)) = some ws from e)
        obtain ⟨ws', h1, h2⟩ := Option.map_eq_some_iff.mp e
        obtain ⟨u, hu, hw⟩ := r.slot i x (slotW_some h0)
        have e2 := k.2
        rw [hu] at e2
        cases e2
        have nd' := List.nodup_cons.mp (show (i :: slotsOf rvs).Nodup from nd)
        refine ⟨x, ws', h2.symm, h1, nd'.2, f i, rfl, hw, r.nd i, r.own i, fun l' hl a ha z => ?_⟩
        rcases fps_mem t l' hl a z with ⟨j, hj, h⟩ | ⟨l2, h3, h4⟩
        · have := r.dj i j a ha h
          subst this
          exact nd'.1 hj
        · exact (t.inM l2 h3 a h4).2 i ha
    obtain ⟨x, ws', rfl, h1, nd', l, hl, hw, hn, hm, dj⟩ := hd
    have A := ih h1 nd'
    have g0 : fpG (fpsOf f (rv :: rvs) (fw :: fws)) 0 = l := by rw [hl]; rfl
    have gs : ∀ k, fpG (fpsOf f (rv :: rvs) (fw :: fws)) (k + 1) = fpG (fpsOf f rvs fws) k := fun k => by rw [hl]; rfl
    have gm : ∀ k a, a ∈ fpG (fpsOf f rvs fws) k → ∃ l' ∈ fpsOf f rvs fws, a ∈ l' := fun k a ha => fpG_mem ha
    refine ⟨fun i y hy => ?_, fun i hi => ?_, fun i => ?_, fun i j a ha hb => ?_, fun i a ha => ?_, r.trk, ?_⟩
    · cases i with
      | zero =>
        have e3 : x = y := by simpa using hy
        subst e3
        exact ⟨v, by simp, by rw [g0]; exact hw⟩
      | succ i =>
        obtain ⟨u, h3, h4⟩ := RS.slot A i y (by simpa using hy)
        exact ⟨u, by simpa using h3, by rw [gs]; exact h4⟩
    · cases i with
      | zero => exact absurd (by simp) (hi x)
      | succ i =>
        rw [gs]
        exact RS.none A i fun y hy => hi y (by simpa using hy)
    · cases i with
      | zero => rw [g0]; exact hn
      | succ i => rw [gs]; exact RS.nd A i
    · cases i with
      | zero =>
        cases j with
        | zero => rfl
        | succ j =>
          rw [g0] at ha
          rw [gs] at hb
          obtain ⟨l', h3, h4⟩ := gm j a hb
          exact absurd h4 (dj l' h3 a ha)
      | succ i =>
        cases j with
        | zero =>
          rw [gs] at ha
          rw [g0] at hb
          obtain ⟨l', h3, h4⟩ := gm i a ha
          exact absurd h4 (dj l' h3 a hb)
        | succ j =>
          rw [gs] at ha hb
          exact congrArg (· + 1) (RS.dj A i j a ha hb)
    · cases i with
      | zero => rw [g0] at ha; exact hm a ha
      | succ i => rw [gs] at ha; exact RS.own A i a ha
    · simpa using RS.len A
/-- the slots whose trees are handed over stand empty meanwhile -/
theorem RS.clear (r : RS w K cl M ρ σ H f) (i : Nat) : RS w K cl M (ρ.set i Option.none) σ H (fpSet f i []) := by
  have sub : ∀ j a, a ∈ fpSet f i [] j → j ≠ i ∧ a ∈ f j := fun j a ha => by
    by_cases q : j = i
    · subst q; rw [fpSet_same] at ha; cases ha
    · rw [fpSet_ne q] at ha; exact ⟨q, ha⟩
  refine ⟨fun j y hy => ?_, fun j hj => ?_, fun j => ?_, fun j k a ha hb => r.dj j k a (sub j a ha).2 (sub k a hb).2, fun j a ha => r.own j a (sub j a ha).2, r.trk, by simpa using r.len⟩
  · rcases set_get hy with ⟨e1, e2⟩ | ⟨e1, e2⟩
    · cases e2
    · obtain ⟨u, hu, hw⟩ := r.slot j y e2
      exact ⟨u, hu, by rw [fpSet_ne (Ne.symm e1)]; exact hw⟩
  · by_cases q : j = i
    · rw [q, fpSet_same]
    · rw [fpSet_ne q]
      refine r.none j fun y hy => hj y ?_
      rw [List.getElem?_set_ne (Ne.symm q)]
      exact hy
  · by_cases q : j = i
    · rw [q, fpSet_same]; exact List.nodup_nil
    · rw [fpSet_ne q]; exact r.nd j
def clearF : List Rv → Fp → Fp
  | [], f => f
  | .val _ :: r, f => clearF r f
  | .slot i :: r, f => clearF r (fpSet f i [])
theorem clearF_sub : ∀ (rvs : List Rv) (f : Fp) (j : Nat) (a : Addr), a ∈ clearF rvs f j → a ∈ f j ∧ j ∉ slotsOf rvs
  | [], _, _, _, h => ⟨h, fun z => nomatch z⟩
  | .val _ :: r, f, j, a, h => clearF_sub r f j a h
  | .slot i :: r, f, j, a, h => by
    obtain ⟨h1, h2⟩ := clearF_sub r (fpSet f i []) j a h
    by_cases q : j = i
    · subst q; rw [fpSet_same] at h1; cases h1
    · rw [fpSet_ne q] at h1
      exact ⟨h1, fun z => (List.mem_cons.mp z).elim q h2⟩
theorem RS.clears : ∀ (rvs : List Rv) {ρ : Env} {f : Fp}, RS w K cl M ρ σ H f → RS w K cl M (clearAll rvs ρ) σ H (clearF rvs f)
  | [], _, _, r => r
  | .val _ :: rs, _, _, r => RS.clears rs r
  | .slot i :: rs, _, _, r => RS.clears rs (r.clear i)
theorem set_self {σ : L2.St} {i : Nat} {v : V} (h : σ[i]? = some (some v)) : σ.set i (some v) = σ := by
  refine List.ext_getElem? fun j => ?_
  by_cases e : i = j
  · subst e
    rw [List.getElem?_set_self (List.getElem?_eq_some_iff.mp h).1, h]
  · rw [List.getElem?_set_ne e]
/-- .. and are filled again -/
theorem RS.putBacks : ∀ {rvs : List Rv} {vs : List V} {fws : List (List Addr)} {ws' : List W} {ρ : Env} {f g : Fp}, RvsOk w K cl M1 σ H1 f1 H0 rvs vs fws → RS w K cl M ρ σ H f →
    (∀ j x, ws'[j]? = some x → ∃ v, vs[j]? = some v ∧ WIs w K cl M H v x (g j)) → (∀ j, (g j).Nodup) → (∀ j k a, a ∈ g j → a ∈ g k → j = k) → (∀ j a, a ∈ g j → M a) → (∀ i a j, a ∈ f i → a ∉ g j) →
    ∃ f', RS w K cl M (putBack rvs ws' ρ) σ H f' ∧ ∀ i b, b ∈ f' i → b ∈ f i ∨ ∃ j, rvs[j]? = some (.slot i) ∧ b ∈ g j
  | [], _, _, _, _, f, _, _, r, _, _, _, _, _ => ⟨f, by unfold putBack; exact r, fun _ _ h => .inl h⟩
  | .val _ :: rvs, _, _, [], _, f, _, _, r, _, _, _, _, _ => ⟨f, by unfold putBack; exact r, fun _ _ h => .inl h⟩
  | .slot _ :: rvs, _, _, [], _, f, _, _, r, _, _, _, _, _ => ⟨f, by unfold putBack; exact r, fun _ _ h => .inl h⟩
  | .val y :: rvs, _, _, x :: xs, ρ, f, g, .cons k t d, r, hw, nd, dj, own, dis => by
    obtain ⟨f', r', q⟩ := RS.putBacks (g := fun j => g (j + 1)) (ws' := xs) t r (fun j z hz => by simpa using hw (j + 1) z (by simpa using hz)) (fun j => nd _) (fun j k a ha hb => Nat.succ.inj (dj _ _ a ha hb)) (fun j a => own _ a) fun i a j => dis i a _
    refine ⟨f', r', fun i b hb => ?_⟩
    rcases q i b hb with h | ⟨j, h1, h2⟩
    · exact .inl h
    · exact .inr ⟨j + 1, by simpa using h1, h2⟩
  | .slot i0 :: rvs, _, _, x :: xs, ρ, f, g, .cons (v := v0) k t d, r, hw, nd, dj, own, dis => by
    obtain ⟨v, hv, hwx⟩ := hw 0 x (by simp)
    have ev : v0 = v := by simpa using hv
    subst ev
    have hσ : σ[i0]? = some (some v0) := k.2
    have hi : i0 < ρ.length := by rw [r.len]; exact (List.getElem?_eq_some_iff.mp hσ).1
    have r2 := r.store hi hwx (nd 0) fun a ha => ⟨own 0 a ha, fun j z => dis j a 0 z ha⟩
    rw [set_self hσ] at r2
    obtain ⟨f', r', q⟩ := RS.putBacks (g := fun j => g (j + 1)) (ws' := xs) t r2 (fun j z hz => by simpa using hw (j + 1) z (by simpa using hz)) (fun j => nd _) (fun j k a ha hb => Nat.succ.inj (dj _ _ a ha hb)) (fun j a => own _ a) fun i a j ha z => by
      by_cases e : i = i0
      · rw [e, fpSet_same] at ha
        exact absurd (dj 0 (j + 1) a ha z) (by omega)
      · rw [fpSet_ne e] at ha
        exact dis i a (j + 1) ha z
    refine ⟨f', r', fun i b hb => ?_⟩
    rcases q i b hb with h | ⟨j, h1, h2⟩
    · by_cases e : i = i0
      · rw [e, fpSet_same] at h
        exact .inr ⟨0, by simp [e], h⟩
      · rw [fpSet_ne e] at h
        exact .inl h
    · exact .inr ⟨j + 1, by simpa using h1, h2⟩
/-- a promise's call: from the arguments to what follows. dvs: what the defaults add -/
theorem call_back2 {den : List W → Option (W × List W)} {rvs : List Rv} {vs : List V} {fws : List (List Addr)} {ws ws' : List W} {wr : W} {Q : VK} {E : XK} (t0 : Trk M0 H0) (st : Step M0 H0 f0 M1 H1 f1) (r : RS w K cl M1 ρ1 σ H1 f1) (t : RvsOk w K cl M1 σ H1 f1 H0 rvs vs fws)
    (ha : argW ρ1 rvs = some ws) (hn : (slotsOf rvs).Nodup) (hd : den ws = some (wr, ws'))
    (k : ∀ v M2 H2 f2 fw, RS w K cl M2 (putBack rvs ws' (clearAll rvs ρ1)) σ H2 f2 → RvOk w K cl M2 σ H2 f2 H0 (.val wr) v fw → Step M0 H0 f0 M2 H2 f2 →
      (∀ (j : Nat) (y x : W), rvs[j]? = some (Rv.val y) → ws'[j]? = some x → ∃ u fx, vs[j]? = some u ∧ RvOk w K cl M2 σ H2 f2 H0 (.val x) u fx) → Q v H2) : spW w K cl den vs H1 Q E := by
  have A := args_rs r t ha hn
  refine ⟨M1, ws, _, wr, ws', A, hd, fun v M2 H2 g fw A2 s2 ok => ?_⟩
  have fm : ∀ k a, a ∈ fpG (fpsOf f1 rvs fws) k → (∃ i, i ∈ slotsOf rvs ∧ a ∈ f1 i) ∨ ∃ l ∈ fws, a ∈ l := fun k a ha => by
    obtain ⟨l, hl, h⟩ := fpG_mem ha
    exact fps_mem t l hl a h
  have rc := RS.clears rvs r
  have off : ∀ i a k, a ∈ clearF rvs f1 i → a ∉ fpG (fpsOf f1 rvs fws) k := fun i a k ha z => by
    obtain ⟨h1, h2⟩ := clearF_sub rvs f1 i a ha
    rcases fm k a z with ⟨j, hj, h⟩ | ⟨l, hl, h⟩
    · have := r.dj i j a h1 h
      subst this
      exact h2 hj
    · exact (t.inM l hl a h).2 i h1
  have ex : Ext M1 H1 M2 H2 := RS.ext A s2
  have rc2 : RS w K cl M2 (clearAll rvs ρ1) σ H2 (clearF rvs f1) := by
    refine ⟨fun i x hx => ?_, rc.none, rc.nd, rc.dj, fun i a ha => s2.prot a (rc.own i a ha) fun k => off i a k ha, RS.trk A2, rc.len⟩
    obtain ⟨u, hu, hw⟩ := rc.slot i x hx
    exact ⟨u, hu, hw.stay ex fun a ha o e => s2.keep a o e fun k => off i a k ha⟩
  have gsub : ∀ j a, a ∈ g j → a ∈ fpG (fpsOf f1 rvs fws) j ∨ H1 a = Option.none := s2.own
  obtain ⟨f2, r2, q2⟩ := RS.putBacks (g := g) (ws' := ws') t rc2 (fun j x hx => by
      obtain ⟨u, h1, h2⟩ := RS.slot A2 j x (by simpa using hx)
      exact ⟨u, by simpa using h1, h2⟩) (RS.nd A2) (RS.dj A2) (RS.own A2) fun i a j ha z => by
    rcases gsub j a z with h | h
    · exact off i a j ha h
    · obtain ⟨o, ho⟩ := rc.trk a (rc.own i a ha)
      rw [h] at ho; cases ho
  have own2 : ∀ i b, b ∈ f2 i → b ∈ f1 i ∨ H1 b = Option.none := fun i b hb => by
    rcases q2 i b hb with h | ⟨j, h1, h2⟩
    · exact .inl (clearF_sub rvs f1 i b h).1
    · rcases gsub j b h2 with h | h
      · have e : fpG (fpsOf f1 rvs fws) j = f1 i := fps_slot rvs fws j i h1 t
        rw [e] at h
        exact .inl h
      · exact .inr h
  obtain ⟨hw, hnd, hq⟩ := ok
  have vals : ∀ (j : Nat) (y x : W), rvs[j]? = some (Rv.val y) → ws'[j]? = some x → ∃ u fx, vs[j]? = some u ∧ RvOk w K cl M2 σ H2 f2 H0 (.val x) u fx := fun j y x hj hx => by
    obtain ⟨u, h1, h2⟩ := RS.slot A2 j x (by simpa using hx)
    refine ⟨u, g j, by simpa using h1, h2, RS.nd A2 j, fun a ha => ⟨RS.own A2 j a ha, fun i z => ?_, ?_⟩⟩
    · rcases q2 i a z with h | ⟨j', e, h⟩
      · rcases gsub j a ha with h' | h'
        · exact off i a j h h'
        · obtain ⟨o, ho⟩ := rc.trk a (rc.own i a h)
          rw [h'] at ho; cases ho
      · have := RS.dj A2 j j' a ha h
        subst this
        rw [hj] at e; cases e
    · rcases gsub j a ha with h' | h'
      · obtain ⟨fw', e1, e2⟩ := fps_val rvs fws j y hj t
        rw [e1] at h'
        exact t.fresh _ e2 a h'
      · exact st.back h'
  refine k v M2 H2 f2 fw r2 ⟨hw, hnd, fun a ha => ⟨(hq a ha).1, fun i z => ?_, st.back (hq a ha).2.2⟩⟩ ⟨fun b o h n => ?_, fun b o h => ?_, fun b m n => ?_, fun b m => ?_, fun i b hb => ?_⟩ vals
  · rcases q2 i a z with h | ⟨j, _, h⟩
    · obtain ⟨o, ho⟩ := rc.trk a (rc.own i a h)
      rw [(hq a ha).2.2] at ho; cases ho
    · exact (hq a ha).2.1 j h
  · refine s2.keep b o (st.keep b o h n) fun k z => ?_
    rcases fm k b z with ⟨i, _, hi⟩ | ⟨l, hl, hb⟩
    · rcases st.own i b hi with y | y
      · exact n i y
      · rw [h] at y; cases y
    · rw [t.fresh l hl b hb] at h; cases h
  · obtain ⟨o1, h1⟩ := st.there b o h
    exact s2.there b o1 h1
  · refine s2.prot b (st.prot b m n) fun k z => ?_
    rcases fm k b z with ⟨i, _, hi⟩ | ⟨l, hl, hb⟩
    · rcases st.own i b hi with y | y
      · exact n i y
      · obtain ⟨o, ho⟩ := t0 b m
        rw [y] at ho; cases ho
    · obtain ⟨o, ho⟩ := t0 b m
      rw [t.fresh l hl b hb] at ho; cases ho
  · rcases s2.anti b m with y | y
    · exact st.anti b y
    · exact .inr (st.back y)
  · rcases own2 i b hb with y | y
    · exact st.own i b y
    · exact .inr (st.back y)
where
  fps_slot : ∀ (rvs : List Rv) (fws : List (List Addr)) (j i : Nat), rvs[j]? = some (.slot i) → ∀ {vs : List V} {M : Addr → Prop} {σ : L2.St} {H H0 : Hp} {f : Fp}, RvsOk w K cl M σ H f H0 rvs vs fws → fpG (fpsOf f rvs fws) j = f i
    | [], _, _, _, h, _, _, _, _, _, _, _ => by simp at h
    | .slot i0 :: rvs, _, 0, i, h, _, _, _, _, _, f, .cons _ _ _ => by
      have e : i0 = i := by simpa using h
      subst e
      rfl
    | .val x :: rvs, _, 0, i, h, _, _, _, _, _, f, .cons _ _ _ => by simp at h
    | .slot i0 :: rvs, _, j + 1, i, h, _, _, _, _, _, f, .cons _ t _ => by
      have := fps_slot rvs _ j i (by simpa using h) t
      exact this
    | .val x :: rvs, _, j + 1, i, h, _, _, _, _, _, f, .cons _ t _ => by
      have := fps_slot rvs _ j i (by simpa using h) t
      exact this
  fps_val : ∀ (rvs : List Rv) (fws : List (List Addr)) (j : Nat) (y : W), rvs[j]? = some (.val y) → ∀ {vs : List V} {M : Addr → Prop} {σ : L2.St} {H H0 : Hp} {f : Fp}, RvsOk w K cl M σ H f H0 rvs vs fws → ∃ l, fpG (fpsOf f rvs fws) j = l ∧ l ∈ fws
    | [], _, _, _, h, _, _, _, _, _, _, _ => by simp at h
    | .val x :: rvs, fw :: fws, 0, y, h, _, _, _, _, _, f, .cons _ _ _ => ⟨fw, rfl, List.mem_cons_self⟩
    | .slot i0 :: rvs, _, 0, i, h, _, _, _, _, _, f, .cons _ _ _ => by simp at h
    | .slot i0 :: rvs, _, j + 1, i, h, _, _, _, _, _, f, .cons _ t _ => by
      obtain ⟨l, h1, h2⟩ := fps_val rvs _ j i (by simpa using h) t
      exact ⟨l, h1, List.mem_cons_of_mem _ h2⟩
    | .val x :: rvs, _, j + 1, i, h, _, _, _, _, _, f, .cons _ t _ => by
      obtain ⟨l, h1, h2⟩ := fps_val rvs _ j i (by simpa using h) t
      exact ⟨l, h1, List.mem_cons_of_mem _ h2⟩
theorem call_back {den : List W → Option (W × List W)} {rvs : List Rv} {vs : List V} {fws : List (List Addr)} {ws ws' : List W} {wr : W} {Q : VK} {E : XK} (t0 : Trk M0 H0) (st : Step M0 H0 f0 M1 H1 f1) (r : RS w K cl M1 ρ1 σ H1 f1) (t : RvsOk w K cl M1 σ H1 f1 H0 rvs vs fws)
    (ha : argW ρ1 rvs = some ws) (hn : (slotsOf rvs).Nodup) (hd : den ws = some (wr, ws'))
    (k : ∀ v M2 H2 f2 fw, RS w K cl M2 (putBack rvs ws' (clearAll rvs ρ1)) σ H2 f2 → RvOk w K cl M2 σ H2 f2 H0 (.val wr) v fw → Step M0 H0 f0 M2 H2 f2 → Q v H2) : spW w K cl den vs H1 Q E :=
  call_back2 t0 st r t ha hn hd fun v M2 H2 f2 fw a b c _ => k v M2 H2 f2 fw a b c
theorem RvsOk.carry {rvs : List Rv} {vs : List V} {fws : List (List Addr)} (r1 : RS w K cl M1 ρ1 σ H1 f1) (s : Step M1 H1 f1 M2 H2 f2) (k : RvsOk w K cl M1 σ H1 f1 H rvs vs fws) : RvsOk w K cl M2 σ H2 f2 H rvs vs fws := by
  induction k with
  | nil => exact .nil
  | cons k t d ih => exact .cons (k.carry r1 s) ih d
end
end Ws
set_option Elab.async false
set_option linter.all false
set_option maxRecDepth 100000
set_option maxHeartbeats 2000000
/-! Ws6: calls of defs, methods, classes; what is walked; for; comprehensions. -/
namespace Ws
open PySem PySem.Spec PyProof.Rows L2

/-! ### calls -/
def leafR : List D → List Rv := fun ds => ds.map fun d => .val (.leaf d)
def dCall (den : List W → Option (W × List W)) (dr : Den (List Rv)) (dds : List D) : Den Rv := fun ρ => (dr ρ).bind fun r => if (slotsOf (r.1 ++ leafR dds)).Nodup then (argW r.2 (r.1 ++ leafR dds)).bind fun ws => (den ws).map fun y => (.val y.1, putBack (r.1 ++ leafR dds) y.2 (clearAll (r.1 ++ leafR dds) r.2)) else Option.none
section
variable {w : World} {K : PySem.W.Frag} {cl : Nat → Addr} {M M1 M2 M0 : Addr → Prop} {ρ ρ1 : Env} {σ : L2.St} {H H0 H1 H2 : Hp} {f f0 f1 f2 : Fp}
theorem RvsOk.leafs : ∀ {vs : List V} {ds : List D}, IsL w K cl M H vs ds → ∃ fws, RvsOk w K cl M σ H f H0 (leafR ds) vs fws ∧ ∀ l ∈ fws, l = []
  | _, _, .nil => ⟨[], .nil, fun _ h => nomatch h⟩
  | _, _, .cons a t => by
    obtain ⟨fws, h1, h2⟩ := RvsOk.leafs t
    exact ⟨[] :: fws, .cons (rvB a) h1 (fun _ h => nomatch h), fun l hl => (List.mem_cons.mp hl).elim id (h2 l)⟩
theorem RvsOk.append : ∀ {rvs : List Rv} {vs : List V} {fws : List (List Addr)} {rvs2 : List Rv} {vs2 : List V} {fws2 : List (List Addr)}, RvsOk w K cl M σ H f H0 rvs vs fws → RvsOk w K cl M σ H f H0 rvs2 vs2 fws2 → (∀ l ∈ fws2, l = []) → RvsOk w K cl M σ H f H0 (rvs ++ rvs2) (vs ++ vs2) (fws ++ fws2)
  | _, _, _, _, _, _, .nil, s, _ => s
  | _, _, _, _, _, _, .cons k t d, s, e => .cons k (RvsOk.append t s e) fun a ha l hl z => by
    rcases List.mem_append.mp hl with h | h
    · exact d a ha l h z
    · rw [e l h] at z; cases z
theorem dCall_imp {den : List W → Option (W × List W)} {dr : Den (List Rv)} {dvs : List V} {dds : List D} {Q : VK} {E : XK} (hdd : ∀ (M : Addr → Prop) (H : Hp), IsL w K cl M H dvs dds) (h : tD w K cl (dCall den dr dds) σ H Q) : tCall (spW w K cl den) dvs E (tRA w K cl dr) σ H Q := by
  obtain ⟨M, ρ, f, rv, ρ', rs, hd, k⟩ := h
  obtain ⟨⟨rvs, ρ1⟩, h1, hd⟩ := Option.bind_eq_some_iff.mp hd
  have hd' : (if (slotsOf (rvs ++ leafR dds)).Nodup then (argW ρ1 (rvs ++ leafR dds)).bind (fun ws => (den ws).map fun y => (Rv.val y.1, putBack (rvs ++ leafR dds) y.2 (clearAll (rvs ++ leafR dds) ρ1))) else Option.none) = some (rv, ρ') := hd
  by_cases c : (slotsOf (rvs ++ leafR dds)).Nodup
  · rw [if_pos c] at hd'
    obtain ⟨ws, h2, hd'⟩ := Option.bind_eq_some_iff.mp hd'
    obtain ⟨⟨wr, ws'⟩, h3, hd'⟩ := Option.map_eq_some_iff.mp hd'
    cases hd'
    refine ⟨M, ρ, f, rvs, ρ1, rs, h1, fun vs M1 H1 f1 fws rs1 ok1 st1 => ?_⟩
    obtain ⟨fws2, l1, l2⟩ := RvsOk.leafs (σ := σ) (f := f1) (H0 := H) (hdd M1 H1)
    exact call_back rs.trk st1 rs1 (ok1.append l1 l2) h2 c h3 k
  · rw [if_neg c] at hd'
    cases hd'
end
section
variable {cl : Nat → Addr} {X : Cx} {k : Nat} {f C : Addr} {c : Nat} {fd : FuncData} {ps : List Str} {den : List W → Option (W × List W)} {dvs : List V} {dds : List D} {ds : List Value} {x m : Str} {p pos apos : Pos} {e o : Expr} {es : List Expr} {dr : Den (List Rv)} {d : Den Rv}
theorem de_call (F : FnOk X.prog X.w X.K X.mg X.base CX0 k f fd ps (spW X.w X.K cl den)) (hr : Room k X.A) (hg : Gl X x) (hm : X.mg x = some (.ref f)) (hk : PySem.W.keepIn X.K (.ref f) = true) (hb : Binds X.K fd ps ds) (hd : Vals dvs ds) (hdd : ∀ (M : Addr → Prop) (H : Hp), IsL X.w X.K cl M H dvs dds)
    (ha : DR cl X (e :: es) dr) (hdb : (x == ("__debug__" : Str)) = false := by decide) (he : starEach (e :: es) X.env = (false, eval e X.env) :: starEach es X.env := by rfl) (hpl : (backTo pos (starEach es X.env)).any (·.1) = false := by rfl) :
    DE cl X (.Call (.Name x p) (e :: es) [] pos) (dCall den dr dds) := pe_imp (pe_call F hr hg hm hk hb hd pass0 ha hdb he hpl) fun _ _ _ => dCall_imp hdd
theorem de_call0 (F : FnOk X.prog X.w X.K X.mg X.base CX0 k f fd ps (spW X.w X.K cl den)) (hr : Room k X.A) (hg : Gl X x) (hm : X.mg x = some (.ref f)) (hk : PySem.W.keepIn X.K (.ref f) = true) (hb : Binds X.K fd ps ds) (hd : Vals dvs ds) (hdd : ∀ (M : Addr → Prop) (H : Hp), IsL X.w X.K cl M H dvs dds)
    (hdb : (x == ("__debug__" : Str)) = false := by decide) : DE cl X (.Call (.Name x p) [] [] pos) (dCall den dRNil dds) := pe_imp (pe_call0 F hr hg hm hk hb hd pass0 hdb) fun σ H Q h => by
  obtain ⟨M, ρ, f, rvs, ρ', rs, hd, k⟩ := dCall_imp (E := E0) hdd h
  cases hd
  exact k [] M H f [] rs .nil Step.refl

/-! ### methods of instances that are not to change, or of one's own -/
def dRecv (c : Nat) (m : Str) (d : Den Rv) : Den Rv := fun ρ => (d ρ).bind fun r => (viewR r.2 r.1).bind fun y => match y with
  | .obj c' gs => if c' = c ∧ gs.lookup m = Option.none then some r else Option.none
  | _ => Option.none
theorem isF_lookup {w : World} {K : PySem.W.Frag} {M : Addr → Prop} {H : Hp} {m : Str} : ∀ {fs : List (Str × V)} {gs : List (Str × D)}, IsF w K cl M H fs gs → gs.lookup m = Option.none → fs.lookup m = Option.none
  | _, _, .nil, _ => rfl
  | _, _, .cons (f := g) a t, h => by
    cases e : (m == g) with
    | true => simp [List.lookup_cons, e] at h
    | false =>
      simp only [List.lookup_cons, e] at h ⊢
      exact isF_lookup t h
theorem isF_get {w : World} {K : PySem.W.Frag} {M : Addr → Prop} {H : Hp} {m : Str} {d : D} : ∀ {fs : List (Str × V)} {gs : List (Str × D)}, IsF w K cl M H fs gs → gs.lookup m = some d → ∃ v, fs.lookup m = some v ∧ Is w K cl M H v d
  | _, _, .nil, h => nomatch h
  | _, _, .cons (f := g) (v := v) a t, h => by
    cases e : (m == g) with
    | true =>
      simp only [List.lookup_cons, e, Option.some.injEq] at h
      subst h
      exact ⟨v, by simp only [List.lookup_cons, e], a⟩
    | false =>
      simp only [List.lookup_cons, e] at h
      obtain ⟨u, h1, h2⟩ := isF_get t h
      exact ⟨u, by simp only [List.lookup_cons, e]; exact h1, h2⟩
theorem dMeth_imp {w : World} {K : PySem.W.Frag} {E : XK} {σ : L2.St} {H : Hp} {Q : VK} {dr : Den (List Rv)} (hC : cl c = C) (hdd : ∀ (M : Addr → Prop) (H : Hp), IsL w K cl M H dvs dds) (h : tD w K cl (dCall den (dRCons (dRecv c m d) dr) dds) σ H Q) : tMeth C m (spW w K cl den) dvs E (tD w K cl d) (tRA w K cl dr) σ H Q := by
  obtain ⟨M, ρ, f, rvs0, ρ', rs, hd, k⟩ := dCall_imp (E := E) hdd h
  obtain ⟨⟨x, ρ1⟩, h1, hd⟩ := Option.bind_eq_some_iff.mp hd
  obtain ⟨⟨y, ρ2⟩, h2, hd⟩ := Option.map_eq_some_iff.mp hd
  cases hd
  obtain ⟨⟨x', ρ1'⟩, h3, h1⟩ := Option.bind_eq_some_iff.mp h1
  obtain ⟨yv, h4, h1⟩ := Option.bind_eq_some_iff.mp h1
  split at h1
  · rename_i c' gs
    by_cases q : c' = c ∧ gs.lookup m = Option.none
    · rw [if_pos q] at h1
      cases h1
      refine ⟨M, ρ, f, x, ρ1, rs, h3, fun v M1 H1 f1 fw rs1 ok1 st1 => ?_⟩
      have iv := ok1.view rs1 h4
      cases iv with
      | obj e1 e2 e3 =>
        refine ⟨_, _, _, rfl, by rw [← hC, ← q.1]; exact e1, isF_lookup e3 q.2, M1, ρ1, f1, y, ρ2, rs1, h2, fun vs M2 H2 f2 fws rs2 ok2 st2 => ?_⟩
        refine k (_ :: vs) M2 H2 f2 (fw :: fws) rs2 (.cons (ok1.carry rs1 st2) (ok2.base fun c z => st1.back z) fun a ha l hl z => ?_) (st1.trans rs.trk st2)
        obtain ⟨o, ho⟩ := rs1.trk a (ok1.inM a ha).1
        rw [ok2.fresh l hl a z] at ho
        cases ho
    · rw [if_neg q] at h1
      cases h1
  · cases h1
theorem meth0_imp {w : World} {K : PySem.W.Frag} {sp : Sp} {E : XK} {σ : L2.St} {H : Hp} {Q : VK} (h : tMeth C m sp dvs E (tD w K cl d) (tRA w K cl dRNil) σ H Q) : tMeth C m sp dvs E (tD w K cl d) tNil σ H Q := by
  obtain ⟨M, ρ, f, rv, ρ', rs, hd, k⟩ := h
  refine ⟨M, ρ, f, rv, ρ', rs, hd, fun v M1 H1 f1 fw rs1 ok1 st1 => ?_⟩
  obtain ⟨a, dx, fs, e1, e2, e3, M2, ρ2, f2, rvs, ρ3, rs2, hd2, k2⟩ := k v M1 H1 f1 fw rs1 ok1 st1
  refine ⟨a, dx, fs, e1, e2, e3, ?_⟩
  cases hd2
  exact k2 [] M2 H1 f2 [] rs2 .nil Step.refl
theorem de_meth {pl : Sem Bool} (hC : cl c = C) (he : DE cl X o d) (hc : Cls X.K C) (hm : Meth X.K C m f) (F : FnOk X.prog X.w X.K X.mg X.base CX0 k f fd ps (spW X.w X.K cl den)) (hr : Room k X.A) (hb : Binds X.K fd ps ds) (hd : Vals dvs ds) (hdd : ∀ (M : Addr → Prop) (H : Hp), IsL X.w X.K cl M H dvs dds) (ha : DR cl X (e :: es) dr)
    (hst : starEach (e :: es) X.env = (false, eval e X.env) :: starEach es X.env := by rfl) (hpl : (backTo pos (starEach es X.env)).any (·.1) = false := by rfl)
    (ht : eval (.Call (.Attribute o m apos) (e :: es) [] pos) X.env = (do
      let ov ← eval o X.env
      standAt apos.atName
      let (f, first) ← holding [ov] (getMethod ov m pl)
      callWith pos f first (backTo pos (starEach (e :: es) X.env)) (backToKw pos (keywordEach [] X.env))) := by rfl) :
    DE cl X (.Call (.Attribute o m apos) (e :: es) [] pos) (dCall den (dRCons (dRecv c m d) dr) dds) := pe_imp (pe_meth he hc hm F hr hb hd pass0 ha hst hpl ht) fun _ _ _ => dMeth_imp hC hdd
theorem de_meth0 {pl : Sem Bool} (hC : cl c = C) (he : DE cl X o d) (hc : Cls X.K C) (hm : Meth X.K C m f) (F : FnOk X.prog X.w X.K X.mg X.base CX0 k f fd ps (spW X.w X.K cl den)) (hr : Room k X.A) (hb : Binds X.K fd ps ds) (hd : Vals dvs ds) (hdd : ∀ (M : Addr → Prop) (H : Hp), IsL X.w X.K cl M H dvs dds)
    (ht : eval (.Call (.Attribute o m apos) [] [] pos) X.env = (do
      let ov ← eval o X.env
      standAt apos.atName
      let (f, first) ← holding [ov] (getMethod ov m pl)
      callWith pos f first (backTo pos (starEach [] X.env)) (backToKw pos (keywordEach [] X.env))) := by rfl) :
    DE cl X (.Call (.Attribute o m apos) [] [] pos) (dCall den (dRCons (dRecv c m d) dRNil) dds) := pe_imp (pe_meth0 he hc hm F hr hb hd pass0 ht) fun σ H Q h => meth0_imp (dMeth_imp hC hdd h)
end
end Ws
set_option Elab.async false
set_option linter.all false
set_option maxRecDepth 100000
set_option maxHeartbeats 2000000
/-! Ws7: targets, what is walked, for, comprehensions, while. -/
namespace Ws
open PySem PySem.Spec PyProof.Rows L2

/-! ### targets -/
abbrev DenG := D → Env → Option Env
def Off (ts : List Nat) (σ σ' : L2.St) : Prop := (∀ i, i ∉ ts → σ'[i]? = σ[i]?) ∧ σ'.length = σ.length
def tDG (w : World) (K : PySem.W.Frag) (cl : Nat → Addr) (ts : List Nat) (den : DenG) : TG := fun v σ H Q => ∃ M ρ f d ρ', RS w K cl M ρ σ H f ∧ Is w K cl M H v d ∧ den d ρ = some ρ' ∧
  ∀ σ' M' H' f', RS w K cl M' ρ' σ' H' f' → Step M H f M' H' f' → Off ts σ σ' → Q σ' H'
abbrev DG (cl : Nat → Addr) (X : Cx) (tg : Expr) (ts : List Nat) (den : DenG) : Prop := PG X tg (tDG X.w X.K cl ts den)
theorem pg_imp {X : Cx} {e : Expr} {t t' : TG} (h : PG X e t) (i : ∀ v σ H Q, t' v σ H Q → t v σ H Q) : PG X e t' := ⟨fun pins s σ H v u Q I r k => h.run pins s σ H v u Q I r (i v σ H Q k)⟩
theorem pgs_imp {X : Cx} {e : List Expr} {t t' : TGs} (h : PGs X e t) (i : ∀ v σ H Q, t' v σ H Q → t v σ H Q) : PGs X e t' := ⟨fun pins s σ H v u Q I r k => h.run pins s σ H v u Q I r (i v σ H Q k)⟩
def tDGs (w : World) (K : PySem.W.Frag) (cl : Nat → Addr) (ts : List Nat) (den : List D → Env → Option Env) : TGs := fun vs σ H Q => ∃ M ρ f ds ρ', RS w K cl M ρ σ H f ∧ IsL w K cl M H vs ds ∧ den ds ρ = some ρ' ∧
  ∀ σ' M' H' f', RS w K cl M' ρ' σ' H' f' → Step M H f M' H' f' → Off ts σ σ' → Q σ' H'
abbrev DGs (cl : Nat → Addr) (X : Cx) (tg : List Expr) (ts : List Nat) (den : List D → Env → Option Env) : Prop := PGs X tg (tDGs X.w X.K cl ts den)
theorem Off.refl {ts : List Nat} {σ : L2.St} : Off ts σ σ := ⟨fun _ _ => rfl, rfl⟩
theorem Off.trans {ts us : List Nat} {σ σ1 σ2 : L2.St} (a : Off ts σ σ1) (b : Off us σ1 σ2) : Off (ts ++ us) σ σ2 :=
  ⟨fun i h => (b.1 i fun z => h (List.mem_append_right _ z)).trans (a.1 i fun z => h (List.mem_append_left _ z)), b.2.trans a.2⟩
theorem Off.par {ts : List Nat} {σ σ' : L2.St} {np : Nat} (a : Off ts σ σ') (h : ts.all (fun i => decide (np ≤ i)) = true) : Par np σ σ' := fun i hi => a.1 i fun z => by
  have := List.all_eq_true.mp h i z
  have := of_decide_eq_true this
  omega
section
variable {cl : Nat → Addr} {X : Cx} {pos : Pos}
def gNm (i : Nat) : DenG := fun d ρ => if i < ρ.length then some (ρ.set i (some (.leaf d))) else Option.none
theorem dg_name {i : Nat} {x : Str} (hN : X.N.Nodup) (hi : X.N[i]? = some x) (hx : Loc X.env.scope x) (hf : X.fn x = true ∨ X.env.scope.names.lookup x = some .local := by first | exact .inl rfl | exact .inr rfl | assumption) : DG cl X (.Name x pos) [i] (gNm i) :=
  pg_imp (pg_name hN hi hx hf) fun v σ H Q ⟨M, ρ, f, d, ρ', rs, is, hd, k⟩ => by
    unfold gNm at hd
    by_cases c : i < ρ.length
    · rw [if_pos c] at hd
      cases hd
      refine k _ M H _ (rs.store c (.leaf is) List.nodup_nil fun a ha => nomatch ha) (Step.store Step.refl fun a ha => nomatch ha) ⟨fun j hj => List.getElem?_set_ne fun e => hj (by simp [e]), by simp⟩
    · rw [if_neg c] at hd
      cases hd
def gsNil : List D → Env → Option Env := fun ds ρ => match ds with
  | [] => some ρ
  | _ => Option.none
def gsCons (g : DenG) (r : List D → Env → Option Env) : List D → Env → Option Env := fun ds ρ => match ds with
  | d :: ds => (g d ρ).bind fun ρ1 => r ds ρ1
  | [] => Option.none
theorem dgs_nil : DGs cl X [] [] gsNil := pgs_imp pgs_nil fun vs σ H Q ⟨M, ρ, f, ds, ρ', rs, is, hd, k⟩ => by
  cases is with
  | nil =>
    cases hd
    exact ⟨rfl, k σ M H f rs Step.refl Off.refl⟩
  | cons a t => cases hd
theorem dgs_cons {e : Expr} {es : List Expr} {ts us : List Nat} {g : DenG} {r : List D → Env → Option Env} (h1 : DG cl X e ts g) (h2 : DGs cl X es us r) (hs : (assignEach (e :: es) X.env).map (·.2) = assign e X.env :: (assignEach es X.env).map (·.2) := by rfl) : DGs cl X (e :: es) (ts ++ us) (gsCons g r) := pgs_imp (pgs_cons h1 h2 hs) fun vs σ H Q ⟨M, ρ, f, ds, ρ', rs, is, hd, k⟩ => by
  cases is with
  | nil => cases hd
  | cons a t =>
    obtain ⟨ρ1, h3, h4⟩ := Option.bind_eq_some_iff.mp hd
    refine ⟨_, _, rfl, M, ρ, f, _, ρ1, rs, a, h3, fun σ1 M1 H1 f1 rs1 st1 o1 => ⟨M1, ρ1, f1, _, ρ', rs1, t.stay (rs.ext st1), h4, fun σ2 M2 H2 f2 rs2 st2 o2 => k σ2 M2 H2 f2 rs2 (st1.trans rs.trk st2) (o1.trans o2)⟩⟩
def gTp (r : List D → Env → Option Env) : DenG := fun d ρ => match d with
  | .tup ds => r ds ρ
  | _ => Option.none
theorem tup_len {n : Nat} {us : List Nat} : True := trivial
theorem dg_tup {es : List Expr} {k1 : Nat} {ts : List Nat} {r : List D → Env → Option Env} (hc : X.calm = true) (h : DGs cl X es ts r) (hl : ∀ ds ρ ρ', r ds ρ = some ρ' → ds.length = es.length) (h2 : (assignEach es X.env).length = es.length := by rfl) (h3 : (assignEach es X.env).findIdx? (·.1) = none := by rfl) : DG cl X (.Tuple es k1 pos) ts (gTp r) :=
  pg_imp (pg_tup (n := es.length) hc h h2 h3) fun v σ H Q ⟨M, ρ, f, d, ρ', rs, is, hd, k⟩ => by
    cases d <;> try cases hd
    rename_i ds
    obtain ⟨a, xs, e, hs, hl'⟩ := is_tup is
    exact ⟨a, xs, e, hs, by rw [hl'.length]; exact hl ds ρ ρ' hd, M, ρ, f, ds, ρ', rs, hl', hd, k⟩
theorem gsl_nil : ∀ ds ρ ρ', gsNil ds ρ = some ρ' → ds.length = ([] : List Expr).length := fun ds ρ ρ' h => by
  cases ds with
  | nil => rfl
  | cons _ _ => cases h
theorem gsl_cons {g : DenG} {r : List D → Env → Option Env} {e : Expr} {es : List Expr} (h : ∀ ds ρ ρ', r ds ρ = some ρ' → ds.length = es.length) : ∀ ds ρ ρ', gsCons g r ds ρ = some ρ' → ds.length = (e :: es).length := fun ds ρ ρ' q => by
  cases ds with
  | nil => cases q
  | cons d ds =>
    obtain ⟨ρ1, _, h4⟩ := Option.bind_eq_some_iff.mp q
    simp [h ds ρ1 ρ' h4]
/-- a general assignment: what is assigned is let go first -/
def dAsg (d : Den Rv) (g : DenG) : Den Out := fun ρ => (dSh d ρ).bind fun r => (g r.1 r.2).map fun ρ' => (.next, ρ')
theorem ds_asg {np : Nat} {tg e : Expr} {ts : List Nat} {d : Den Rv} {g : DenG} (he : DE cl X e d) (hg : DG cl X tg ts g) (hp : ts.all (fun i => decide (np ≤ i)) = true) (hs : swapsWithSole [tg] e pos.line X.env = pure false := by rfl) (hw : swappedStores [tg] e X.env = pure none := by rfl) (ht : List.map (·.2) (assignEach [tg] X.env) = [assign tg X.env] := by rfl) : DS cl np X (.Assign [tg] e pos) (dAsg d g) :=
  ps_imp (ps_asg (de_sh he) hg hs hw ht) fun E σ H ⟨M, ρ, f, o, ρ', rs, hd, k⟩ => by
    obtain ⟨⟨x, ρ1⟩, h1, hd⟩ := Option.bind_eq_some_iff.mp hd
    obtain ⟨ρ2, h2, hd⟩ := Option.map_eq_some_iff.mp hd
    cases hd
    exact ⟨M, ρ, f, x, ρ1, rs, h1, fun v M1 H1 f1 rs1 is1 st1 => ⟨M1, ρ1, f1, x, _, rs1, is1, h2, fun σ' M' H' f' rs' st' o' => k σ' M' H' f' rs' (st1.trans rs.trk st') (o'.par hp)⟩⟩
end

/-! ### what is walked -/
def IterOk (w : World) (K : PySem.W.Frag) (cl : Nat → Addr) (M1 : Addr → Prop) (H1 : Hp) (J : It) (ds : List D) : Prop := ∃ (G : Hp → Prop) (Y : Nat → Hp → V → Hp → Prop), Walk J ds.length G Y ∧ (∀ M H, Ext M1 H1 M H → G H) ∧
  ∀ M H i x H', Ext M1 H1 M H → Trk M H → i < ds.length → Y i H x H' → (∀ b o, H b = some o → H' b = some o) ∧ ∃ d, ds[i]? = some d ∧ Is w K cl M H' x d
def tDI (w : World) (K : PySem.W.Frag) (cl : Nat → Addr) (den : Den (List D)) : TI := fun σ H R => ∃ M ρ f ds ρ', RS w K cl M ρ σ H f ∧ den ρ = some (ds, ρ') ∧
  ∀ J M' H' f', RS w K cl M' ρ' σ H' f' → Step M H f M' H' f' → IterOk w K cl M' H' J ds → R J H'
abbrev DI (cl : Nat → Addr) (X : Cx) (tg iter : Expr) (den : Den (List D)) : Prop := PI X tg iter (tDI X.w X.K cl den)
theorem pi_imp {X : Cx} {tg e : Expr} {t t' : TI} (h : PI X tg e t) (i : ∀ σ H Q, t' σ H Q → t σ H Q) : PI X tg e t' := ⟨fun pins s σ H Q I k => h.run pins s σ H Q I (i σ H Q k)⟩
theorem pi_or {X : Cx} {tg e : Expr} {t t' : TI} (h : PI X tg e t) (h' : PI X tg e t') : PI X tg e (fun σ H Q => t σ H Q ∨ t' σ H Q) := ⟨fun pins s σ H Q I k => k.elim (h.run pins s σ H Q I) (h'.run pins s σ H Q I)⟩
theorem pe_orr {X : Cx} {e : Expr} {t t' : TE} (h : PE X e t) (h' : PE X e t') : PE X e (fun σ H Q => t σ H Q ∨ t' σ H Q) := ⟨fun pins s σ H Q I k => k.elim (h.run pins s σ H Q I) (h'.run pins s σ H Q I)⟩
section
variable {w : World} {K : PySem.W.Frag} {cl : Nat → Addr} {M M1 M2 M0 : Addr → Prop} {ρ ρ1 : Env} {σ : L2.St} {H H0 H1 H2 H' : Hp} {f f0 f1 f2 : Fp}
/-- the heap grows -/
theorem RS.grow (r : RS w K cl M ρ σ H f) (g : ∀ b o, H b = some o → H' b = some o) : RS w K cl M ρ σ H' f ∧ Step M H f M H' f := by
  have ex : Ext M H M H' := fun b o h m => ⟨g b o h, m⟩
  refine ⟨⟨fun i x hx => ?_, r.none, r.nd, r.dj, r.own, fun a ha => ?_, r.len⟩, ⟨fun b o h _ => g b o h, fun b o h => ⟨o, g b o h⟩, fun _ m _ => m, fun _ m => .inl m, fun _ _ h => .inl h⟩⟩
  · obtain ⟨v, hv, hw⟩ := r.slot i x hx
    exact ⟨v, hv, hw.stay ex fun a _ o h => g a o h⟩
  · obtain ⟨o, h⟩ := r.trk a ha
    exact ⟨o, g a o h⟩
theorem iter_lst {a : Addr} {xs : List V} {ds : List D} (h : H1 a = some (.lst xs)) (m : ¬ M1 a) (t : IsL w K cl M1 H1 xs ds) : IterOk w K cl M1 H1 (Itl K a) ds := by
  have hl := t.length
  refine ⟨fun H => SqL K H a xs, YAt xs, by rw [← hl]; exact walk_list, fun M H e => .inl (.inl (e _ _ h m).1), fun M H i x H' e _ hi y => ?_⟩
  obtain ⟨rfl, y⟩ := y
  refine ⟨fun _ _ h => h, ?_⟩
  obtain ⟨d, h1, h2⟩ := t.getV y
  exact ⟨d, h1, h2.stay e⟩
theorem sqt_of_is {v : V} {ds : List D} (h : Is w K cl M1 H1 v (.tup ds)) : ∃ a xs, v = .ref a ∧ IsL w K cl M1 H1 xs ds ∧ ∀ M H, Ext M1 H1 M H → SqT K H a xs := by
  cases h with
  | tup h1 h2 h3 => exact ⟨_, _, rfl, h3, fun M H e => .inl (e.rd h1 h2).1⟩
  | tupK h1 h2 h3 h4 h5 h6 => exact ⟨_, _, rfl, h6, fun M H e => .inr ⟨_, _, _, h1, h2, h3, h4, h5⟩⟩
theorem iter_tup {a : Addr} {xs : List V} {ds : List D} (h : ∀ M H, Ext M1 H1 M H → SqT K H a xs) (t : IsL w K cl M1 H1 xs ds) : IterOk w K cl M1 H1 (Itt K a) ds := by
  have hl := t.length
  refine ⟨fun H => SqT K H a xs, YAt xs, by rw [← hl]; exact walk_tup, h, fun M H i x H' e _ hi y => ?_⟩
  obtain ⟨rfl, y⟩ := y
  refine ⟨fun _ _ h => h, ?_⟩
  obtain ⟨d, h1, h2⟩ := t.getV y
  exact ⟨d, h1, h2.stay e⟩
def rangeD (lo : Int) (n : Nat) : List D := (List.range n).map fun (i : Nat) => .int (lo + (i : Int))
theorem iter_range {lo : Int} {n : Nat} : IterOk w K cl M1 H1 (Itr lo n) (rangeD lo n) := by
  have hl : (rangeD lo n).length = n := by simp [rangeD]
  refine ⟨fun _ => True, YFn fun i => .int (lo + i), by rw [hl]; exact walk_range, fun _ _ _ => trivial, fun M H i x H' e _ hi y => ?_⟩
  obtain ⟨rfl, rfl⟩ := y
  rw [hl] at hi
  exact ⟨fun _ _ h => h, .int (lo + i), by simp [rangeD, hi], .int _⟩
def rangeDC (lo c : Int) (n : Nat) : List D := (List.range n).map fun (i : Nat) => .int (lo + (i : Int) * c)
theorem iter_rangeC {lo c : Int} {n : Nat} : IterOk w K cl M1 H1 (Itc lo c n) (rangeDC lo c n) := by
  have hl : (rangeDC lo c n).length = n := by simp [rangeDC]
  refine ⟨fun _ => True, YFn fun i => .int (lo + (i : Nat) * c), by rw [hl]; exact walk_rangeC, fun _ _ _ => trivial, fun M H i x H' e _ hi y => ?_⟩
  obtain ⟨rfl, rfl⟩ := y
  rw [hl] at hi
  exact ⟨fun _ _ h => h, .int (lo + (i : Nat) * c), by simp [rangeDC, hi], .int _⟩
theorem pair_is {T : Addr} {x y : V} {a b : D} (t : Trk M H) (n : H T = Option.none) (h1 : Is w K cl M H x a) (h2 : Is w K cl M H y b) : (∀ c o, H c = some o → (upd H T (.tup [x, y])) c = some o) ∧ Is w K cl M (upd H T (.tup [x, y])) (.ref T) (.tup [a, b]) :=
  ⟨fun c o h => by rw [upd_ne (ne_of_none h n)]; exact h, .tup (.inl upd_same) (notM_new n t) (.cons (h1.stay (ext_new n t)) (.cons (h2.stay (ext_new n t)) .nil))⟩
def enumD (ds : List D) : List D := (List.range ds.length).map fun (i : Nat) => .tup [.int (i : Int), ds.getD i .none]
theorem iter_enum {a : Addr} {xs : List V} {ds : List D} (h : H1 a = some (.lst xs)) (m : ¬ M1 a) (t : IsL w K cl M1 H1 xs ds) : IterOk w K cl M1 H1 (Ite K a) (enumD ds) := by
  have hl : (enumD ds).length = xs.length := by simp [enumD, t.length]
  refine ⟨fun H => SqL K H a xs, _, by rw [hl]; exact walk_enum, fun M H e => .inl (.inl (e _ _ h m).1), fun M H i x H' e tr hi y => ?_⟩
  obtain ⟨T, x1, x2, rfl, n, rfl, e1, e2⟩ := y
  cases e1
  obtain ⟨d, h1, h2⟩ := t.getV e2
  obtain ⟨q1, q2⟩ := pair_is tr n (Is.int (i : Int)) (h2.stay e)
  refine ⟨q1, _, ?_, q2⟩
  have hi' : i < ds.length := (List.getElem?_eq_some_iff.mp h1).1
  have e3 : ds.getD i .none = d := by rw [List.getD, h1]; rfl
  simp [enumD, hi']
  exact (List.getElem?_eq_some_iff.mp h1).2
def zipD (ds es : List D) : List D := (List.range (min ds.length es.length)).map fun (i : Nat) => .tup [ds.getD i .none, es.getD i .none]
theorem iter_pairs {J : It} {G : Hp → Prop} {xs ys : List V} {ds es : List D} {n : Nat} (hn : n = min xs.length ys.length) (wk : Walk J n G (YPair (fun i => xs[i]?) (fun i => ys[i]?))) (hG : ∀ M H, Ext M1 H1 M H → G H) (t : IsL w K cl M1 H1 xs ds) (u : IsL w K cl M1 H1 ys es) : IterOk w K cl M1 H1 J (zipD ds es) := by
  have hl : (zipD ds es).length = n := by simp [zipD, hn, t.length, u.length]
  refine ⟨G, _, by rw [hl]; exact wk, hG, fun M H i x H' e tr hi y => ?_⟩
  obtain ⟨T, x1, x2, rfl, n', rfl, e1, e2⟩ := y
  obtain ⟨d, h1, h2⟩ := t.getV e1
  obtain ⟨d', h3, h4⟩ := u.getV e2
  obtain ⟨q1, q2⟩ := pair_is tr n' (h2.stay e) (h4.stay e)
  refine ⟨q1, _, ?_, q2⟩
  have hi1 : i < ds.length := (List.getElem?_eq_some_iff.mp h1).1
  have hi2 : i < es.length := (List.getElem?_eq_some_iff.mp h3).1
  have e3 : ds.getD i .none = d := by rw [List.getD, h1]; rfl
  have e4 : es.getD i .none = d' := by rw [List.getD, h3]; rfl
  simp [zipD, hi1, hi2, Nat.lt_min]
  exact ⟨(List.getElem?_eq_some_iff.mp h1).2, (List.getElem?_eq_some_iff.mp h3).2⟩
theorem walk_zipT {a b : Addr} {xs ys : List V} {n : Nat} (hn : n = min xs.length ys.length) : Walk (RZ.ItzT K a b) n (fun H => SqT K H a xs ∧ SqT K H b ys) (YPair (fun i => xs[i]?) (fun i => ys[i]?)) := by
  subst hn
  refine ⟨fun i _ hi q => ?_, fun _ q => ⟨xs, ys, q.1, q.2, by omega⟩, fun i H v H' _ q y => ?_⟩
  · have h1 : i < xs.length := by omega
    have h2 : i < ys.length := by omega
    exact ⟨xs, ys, xs[i], ys[i], q.1, q.2, by simp [h1], by simp [h2]⟩
  · obtain ⟨T, x, z, h1, h2, h3, h4, h5⟩ := y
    exact ⟨T, x, z, h1, h2, h3, h4 xs q.1, h5 ys q.2⟩
end
section
variable {cl : Nat → Addr} {X : Cx} {pos p tpos : Pos} {tg e e2 e3 : Expr} {elts : List Expr} {kk : Nat}
/-- a list or a tuple, let go -/
def dISeq (d : Den Rv) : Den (List D) := fun ρ => (dSh d ρ).bind fun r => match r.1 with
  | .lst ds => some (ds, r.2)
  | .tup ds => some (ds, r.2)
  | _ => Option.none
theorem di_seq {d : Den Rv} (h : DE cl X e d) : DI cl X tg e (dISeq d) := pi_imp (pi_or (pi_list (de_sh h)) (pi_tup (de_sh h))) fun σ H R ⟨M, ρ, f, ds, ρ', rs, hd, k⟩ => by
  obtain ⟨⟨x, ρ1⟩, h1, hd⟩ := Option.bind_eq_some_iff.mp hd
  cases x <;> try cases hd
  · refine .inr ⟨M, ρ, f, _, _, rs, h1, fun v M1 H1 f1 rs1 is1 st1 => ?_⟩
    obtain ⟨a, xs, e, t, hs⟩ := sqt_of_is is1
    exact ⟨a, e, ⟨xs, hs M1 H1 Ext.refl⟩, k _ M1 H1 f1 rs1 st1 (iter_tup hs t)⟩
  · refine .inl ⟨M, ρ, f, _, _, rs, h1, fun v M1 H1 f1 rs1 is1 st1 => ?_⟩
    cases is1 with
    | lst h2 h3 h4 => exact ⟨_, rfl, ⟨_, .inl (.inl h2)⟩, k _ M1 H1 f1 rs1 st1 (iter_lst h2 h3 h4)⟩
def small62 (i : Int) : Bool := decide (-(2 ^ 62) ≤ i ∧ i < 2 ^ 62)
def dIRange1 (d : Den (List D)) : Den (List D) := fun ρ => (d ρ).bind fun r => match r.1 with
  | [.int j] => if small62 j = true then some (rangeD 0 j.toNat, r.2) else Option.none
  | _ => Option.none
theorem isL_int1 {w : World} {K : PySem.W.Frag} {M : Addr → Prop} {H : Hp} {vs : List V} {i : Int} (h : IsL w K cl M H vs [.int i]) : vs = [.int i] := by
  cases h with
  | cons a t => cases t; rw [is_int a]
theorem isL_int2 {w : World} {K : PySem.W.Frag} {M : Addr → Prop} {H : Hp} {vs : List V} {i j : Int} (h : IsL w K cl M H vs [.int i, .int j]) : vs = [.int i, .int j] := by
  cases h with
  | cons a t => rw [is_int a, isL_int1 t]
theorem isL_int3 {w : World} {K : PySem.W.Frag} {M : Addr → Prop} {H : Hp} {vs : List V} {i j l : Int} (h : IsL w K cl M H vs [.int i, .int j, .int l]) : vs = [.int i, .int j, .int l] := by
  cases h with
  | cons a t => rw [is_int a, isL_int2 t]
theorem di_range1 {a : Expr} {d : Den (List D)} (hg : Gl X "range") (hm : X.mg "range" = none) (ha : DA cl X [a] d) (hs : starEach [a] X.env = [(false, eval a X.env)] := by rfl) : DI cl X tg (.Call (.Name "range" p) [a] [] pos) (dIRange1 d) := pi_imp (pi_range1 hg hm ha hs) fun σ H R ⟨M, ρ, f, ds, ρ', rs, hd, k⟩ => by
  obtain ⟨⟨x, ρ1⟩, h1, hd⟩ := Option.bind_eq_some_iff.mp hd
  split at hd
  · rename_i j ej
    have ej' : x = [.int j] := ej
    subst ej'
    split at hd
    · rename_i c
      cases hd
      have c' := of_decide_eq_true c
      exact ⟨M, ρ, f, _, ρ1, rs, h1, fun vs M1 H1 f1 rs1 is1 st1 => ⟨j, isL_int1 is1, c'.1, c'.2, k _ M1 H1 f1 rs1 st1 iter_range⟩⟩
    · cases hd
  · cases hd
def dIRange2 (d : Den (List D)) : Den (List D) := fun ρ => (d ρ).bind fun r => match r.1 with
  | [.int i, .int j] => if (small62 i && small62 j) = true then some (rangeD i (j - i).toNat, r.2) else Option.none
  | _ => Option.none
theorem di_range2 {a b : Expr} {d : Den (List D)} (hg : Gl X "range") (hm : X.mg "range" = none) (ha : DA cl X [a, b] d) (hs : starEach [a, b] X.env = [(false, eval a X.env), (false, eval b X.env)] := by rfl) (hs2 : starEach [b] X.env = [(false, eval b X.env)] := by rfl) : DI cl X tg (.Call (.Name "range" p) [a, b] [] pos) (dIRange2 d) := pi_imp (pi_range2 hg hm ha hs hs2) fun σ H R ⟨M, ρ, f, ds, ρ', rs, hd, k⟩ => by
  obtain ⟨⟨x, ρ1⟩, h1, hd⟩ := Option.bind_eq_some_iff.mp hd
  split at hd
  · rename_i i j ej
    have ej' : x = [.int i, .int j] := ej
    subst ej'
    split at hd
    · rename_i c
      cases hd
      have c' := Bool.and_eq_true_iff.mp c
      have c1 := of_decide_eq_true c'.1
      have c2 := of_decide_eq_true c'.2
      exact ⟨M, ρ, f, _, ρ1, rs, h1, fun vs M1 H1 f1 rs1 is1 st1 => ⟨i, j, isL_int2 is1, ⟨c1.1, c1.2, c2.1, c2.2⟩, k _ M1 H1 f1 rs1 st1 iter_range⟩⟩
    · cases hd
  · cases hd
/-- range(a, b, -1) -/
def dIRange3 (d : Den (List D)) : Den (List D) := fun ρ => (d ρ).bind fun r => match r.1 with
  | [.int i, .int j, .int l] => if (small62 i && small62 j && decide (l = -1)) = true then some (rangeDC i (-1) (i - j).toNat, r.2) else Option.none
  | _ => Option.none
theorem di_range3 {a b c : Expr} {d : Den (List D)} (hg : Gl X "range") (hm : X.mg "range" = none) (ha : DA cl X [a, b, c] d)
    (hs : starEach [a, b, c] X.env = (false, eval a X.env) :: starEach [b, c] X.env := by rfl) (hpl : (backTo pos (starEach [b, c] X.env)).any (·.1) = false := by rfl) : DI cl X tg (.Call (.Name "range" p) [a, b, c] [] pos) (dIRange3 d) := pi_imp (pi_range3 hg hm ha hs hpl) fun σ H R ⟨M, ρ, f, ds, ρ', rs, hd, k⟩ => by
  obtain ⟨⟨x, ρ1⟩, h1, hd⟩ := Option.bind_eq_some_iff.mp hd
  split at hd
  · rename_i i j l ej
    have ej' : x = [.int i, .int j, .int l] := ej
    subst ej'
    split at hd
    · rename_i c
      cases hd
      have c' := Bool.and_eq_true_iff.mp c
      have c0 := Bool.and_eq_true_iff.mp c'.1
      have c1 := of_decide_eq_true c0.1
      have c2 := of_decide_eq_true c0.2
      have c3 := of_decide_eq_true c'.2
      subst c3
      exact ⟨M, ρ, f, _, ρ1, rs, h1, fun vs M1 H1 f1 rs1 is1 st1 => ⟨i, j, -1, _, isL_int3 is1, RgC.neg c1.1 c1.2 c2.1 c2.2, k _ M1 H1 f1 rs1 st1 iter_rangeC⟩⟩
    · cases hd
  · cases hd
def dIEnum (d : Den (List D)) : Den (List D) := fun ρ => (d ρ).bind fun r => match r.1 with
  | [.lst ds] => some (enumD ds, r.2)
  | _ => Option.none
theorem di_enum {d : Den (List D)} (hg : Gl X "enumerate") (hm : X.mg "enumerate" = none) (ha : DA cl X [e] d) (hs : starEach [e] X.env = [(false, eval e X.env)] := by rfl) : DI cl X (.Tuple elts kk tpos) (.Call (.Name "enumerate" p) [e] [] pos) (dIEnum d) := pi_imp (pi_enum hg hm ha hs) fun σ H R ⟨M, ρ, f, ds, ρ', rs, hd, k⟩ => by
  obtain ⟨⟨x, ρ1⟩, h1, hd⟩ := Option.bind_eq_some_iff.mp hd
  split at hd
  · rename_i l ej
    have ej' : x = [.lst l] := ej
    subst ej'
    cases hd
    refine ⟨M, ρ, f, _, ρ1, rs, h1, fun vs M1 H1 f1 rs1 is1 st1 => ?_⟩
    cases is1 with
    | cons a t =>
      cases t
      cases a with
      | lst h2 h3 h4 => exact ⟨_, _, rfl, .inl (.inl h2), k _ M1 H1 f1 rs1 st1 (iter_enum h2 h3 h4)⟩
  · cases hd
def dIZip (d : Den (List D)) : Den (List D) := fun ρ => (d ρ).bind fun r => match r.1 with
  | [.lst ds, .lst es] => some (zipD ds es, r.2)
  | [.tup ds, .tup es] => some (zipD ds es, r.2)
  | _ => Option.none
theorem di_zip {d : Den (List D)} (hg : Gl X "zip") (hm : X.mg "zip" = none) (ha : DA cl X [e, e2] d) (hs : starEach [e, e2] X.env = (false, eval e X.env) :: starEach [e2] X.env := by rfl) (hpl : (backTo pos (starEach [e2] X.env)).any (·.1) = false := by rfl) :
    DI cl X (.Tuple elts kk tpos) (.Call (.Name "zip" p) [e, e2] [] pos) (dIZip d) := pi_imp (RZ.pi_zipA hg hm ha hs hpl) fun σ H R ⟨M, ρ, f, ds, ρ', rs, hd, k⟩ => by
  obtain ⟨⟨x, ρ1⟩, h1, hd⟩ := Option.bind_eq_some_iff.mp hd
  split at hd
  · rename_i l l2 ej
    have ej' : x = [.lst l, .lst l2] := ej
    subst ej'
    cases hd
    refine ⟨M, ρ, f, _, ρ1, rs, h1, fun vs M1 H1 f1 rs1 is1 st1 => ?_⟩
    cases is1 with
    | cons a t =>
      cases t with
      | cons b t =>
        cases t
        cases a with
        | lst h2 h3 h4 =>
          cases b with
          | lst h5 h6 h7 => exact ⟨_, _, _, _, rfl, .inl ⟨.inl (.inl h2), .inl (.inl h5), k _ M1 H1 f1 rs1 st1 (iter_pairs rfl (walk_zip rfl) (fun M H e => ⟨.inl (.inl (e _ _ h2 h3).1), .inl (.inl (e _ _ h5 h6).1)⟩) h4 h7)⟩⟩
  · rename_i l l2 ej
    have ej' : x = [.tup l, .tup l2] := ej
    subst ej'
    cases hd
    refine ⟨M, ρ, f, _, ρ1, rs, h1, fun vs M1 H1 f1 rs1 is1 st1 => ?_⟩
    cases is1 with
    | cons a t =>
      cases t with
      | cons b t =>
        cases t
        obtain ⟨a1, xs, e1, t1, hs1⟩ := sqt_of_is a
        obtain ⟨a2, ys, e2, t2, hs2⟩ := sqt_of_is b
        subst e1 e2
        exact ⟨_, _, _, _, rfl, .inr ⟨hs1 _ _ Ext.refl, hs2 _ _ Ext.refl, k _ M1 H1 f1 rs1 st1 (iter_pairs rfl (walk_zipT rfl) (fun M H e => ⟨hs1 M H e, hs2 M H e⟩) t1 t2)⟩⟩
  · cases hd
end
end Ws
set_option Elab.async false
set_option linter.all false
set_option maxRecDepth 100000
set_option maxHeartbeats 2000000
/-! Ws8: for, comprehensions, while, instances. -/
namespace Ws
open PySem PySem.Spec PyProof.Rows L2

/-! ### for -/
def forLoop (g : DenG) (body : Den Out) : List D → Den Out
  | [] => fun ρ => some (.next, ρ)
  | d :: ds => fun ρ => (g d ρ).bind fun ρ1 => (body ρ1).bind fun r => match r.1 with
    | .next => forLoop g body ds r.2
    | .cont => forLoop g body ds r.2
    | .brk => some (.next, r.2)
    | .ret rv => some (.ret rv, r.2)
def dFor (di : Den (List D)) (g : DenG) (body : Den Out) : Den Out := fun ρ => (di ρ).bind fun r => forLoop g body r.1 r.2
section
variable {cl : Nat → Addr} {np : Nat} {X : Cx} {pos : Pos} {tg iter : Expr} {body : List Stmt} {ts : List Nat}
theorem ds_for {di : Den (List D)} {g : DenG} {db : Den Out} (hp : PassesOwn (model X.prog X.w) X.A X.env X.xe) (hc : X.calm = true) (hi : DI cl X tg iter di) (hg : DG cl X tg ts g) (hb : DSs cl np X body db) (ht : ts.all (fun i => decide (np ≤ i)) = true)
    (hs : ∀ x, foldedSetIterable iter X.env x = pure x := by intro _; rfl) : DS cl np X (.For tg iter body [] pos) (dFor di g db) := ps_imp (ps_for hp hc hi hg hb hs) fun E σ H ⟨M, ρ, f, o, ρ', rs, hd, k⟩ => by
  obtain ⟨⟨ds, ρ1⟩, h1, hd⟩ := Option.bind_eq_some_iff.mp hd
  refine ⟨M, ρ, f, ds, ρ1, rs, h1, fun J M1 H1 f1 rs1 st1 io => ?_⟩
  obtain ⟨G, Y, wk, hG, hY⟩ := io
  have hd' : forLoop g db ds ρ1 = some (o, ρ') := hd
  refine for_it wk (fun i σi Hi => ∃ Mi ρi fi, RS X.w X.K cl Mi ρi σi Hi fi ∧ Step M1 H1 f1 Mi Hi fi ∧ Par np σ σi ∧ forLoop g db (ds.drop i) ρi = some (o, ρ')) ⟨M1, ρ1, f1, rs1, Step.refl, Par.refl, by simpa using hd'⟩
    (fun i σi Hi _ ⟨Mi, ρi, fi, ri, si, pi, _⟩ => hG Mi Hi (rs1.ext si)) (fun i x σi Hi Hi' hi ⟨Mi, ρi, fi, ri, si, pi, ei⟩ y => ?_) (fun σi Hi ⟨Mi, ρi, fi, ri, si, pi, ei⟩ => ?_)
  · obtain ⟨gr, d, e1, e2⟩ := hY Mi Hi i x Hi' (rs1.ext si) ri.trk hi y
    obtain ⟨ri', si'⟩ := ri.grow gr
    have hdrop : ds.drop i = d :: ds.drop (i + 1) := by
      rw [List.drop_eq_getElem_cons hi, (List.getElem?_eq_some_iff.mp e1).2]
    rw [hdrop] at ei
    obtain ⟨ρ2, h3, ei⟩ := Option.bind_eq_some_iff.mp (show (g d ρi).bind (fun ρ1 => (db ρ1).bind fun r => match r.1 with
      | .next => forLoop g db (ds.drop (i + 1)) r.2
      | .cont => forLoop g db (ds.drop (i + 1)) r.2
      | .brk => some (.next, r.2)
      | .ret rv => some (.ret rv, r.2)) = some (o, ρ') from ei)
    obtain ⟨⟨o2, ρ3⟩, h4, ei⟩ := Option.bind_eq_some_iff.mp ei
    have s0 := si.trans rs1.trk si'
    refine ⟨Mi, ρi, fi, d, ρ2, ri', e2, h3, fun σ2 M2 H2 f2 r2 s2 o2' => ⟨M2, ρ2, f2, o2, ρ3, r2, h4, fun σ3 M3 H3 f3 r3 s3 p3 => ?_⟩⟩
    have s03 := (s0.trans rs1.trk s2).trans rs1.trk s3
    have p03 : Par np σ σ3 := (pi.trans (o2'.par ht)).trans p3
    cases o2 with
    | next => exact ⟨M3, ρ3, f3, r3, s03, p03, ei⟩
    | cont => exact ⟨M3, ρ3, f3, r3, s03, p03, ei⟩
    | brk =>
      cases ei
      exact k σ3 M3 H3 f3 r3 (st1.trans rs.trk s03) p03
    | ret rv =>
      cases ei
      exact fun v fw ok => k σ3 M3 H3 f3 r3 (st1.trans rs.trk s03) p03 v fw (rv_base (st1.trans rs.trk (s0.trans rs1.trk s2)) ok)
  · rw [List.drop_length] at ei
    cases ei
    exact k σi Mi Hi fi ri (st1.trans rs.trk si) pi

/-! ### while -/
def whileLoop (t : Den Bool) (body : Den Out) : Nat → Den Out
  | 0 => fun _ => Option.none
  | n + 1 => fun ρ => (t ρ).bind fun r => if r.1 = true then (body r.2).bind fun q => match q.1 with
      | .next => whileLoop t body n q.2
      | .cont => whileLoop t body n q.2
      | .brk => some (.next, q.2)
      | .ret rv => some (.ret rv, q.2)
    else some (.next, r.2)
theorem ds_while {c : Expr} {t : Den Bool} {db : Den Out} (n : Nat) (hp : PassesOwn (model X.prog X.w) X.A X.env X.xe) (hc : DT cl X c t) (hb : DSs cl np X body db) : DS cl np X (.While c body [] pos) (whileLoop t db n) := ps_imp (ps_while hp hc hb) fun E σ H ⟨M, ρ, f, o, ρ', rs, hd, k⟩ => by
  refine ⟨fun m σi Hi => ∃ Mi ρi fi, RS X.w X.K cl Mi ρi σi Hi fi ∧ Step M H f Mi Hi fi ∧ Par np σ σi ∧ whileLoop t db m ρi = some (o, ρ'), ⟨n, M, ρ, f, rs, Step.refl, Par.refl, hd⟩, ?_⟩
  rintro m σi Hi ⟨Mi, ρi, fi, ri, si, pi, ei⟩
  cases m with
  | zero => cases ei
  | succ m =>
    obtain ⟨⟨b, ρ2⟩, h1, ei⟩ := Option.bind_eq_some_iff.mp (show (t ρi).bind (fun r => if r.1 = true then (db r.2).bind fun q => match q.1 with
      | .next => whileLoop t db m q.2
      | .cont => whileLoop t db m q.2
      | .brk => some (.next, q.2)
      | .ret rv => some (.ret rv, q.2)
    else some (.next, r.2)) = some (o, ρ') from ei)
    refine ⟨Mi, ρi, fi, b, ρ2, ri, h1, fun M2 H2 f2 r2 s2 => ?_⟩
    have s02 := si.trans rs.trk s2
    cases b with
    | false =>
      rw [if_neg (by simp)] at ei
      refine L2.iteF ?_
      cases ei
      exact k σi M2 H2 f2 r2 s02 pi
    | true =>
      rw [if_pos rfl] at ei
      refine L2.iteT ?_
      obtain ⟨⟨o2, ρ3⟩, h4, ei⟩ := Option.bind_eq_some_iff.mp ei
      refine ⟨fun σ' H' => ∃ Mi ρi fi, RS X.w X.K cl Mi ρi σ' H' fi ∧ Step M H f Mi H' fi ∧ Par np σ σ' ∧ whileLoop t db m ρi = some (o, ρ'), fun σ' H' h => ⟨m, Nat.lt_succ_self _, h⟩, M2, ρ2, f2, o2, ρ3, r2, h4, fun σ3 M3 H3 f3 r3 s3 p3 => ?_⟩
      have s03 := s02.trans rs.trk s3
      have p03 := pi.trans p3
      cases o2 with
      | next => exact ⟨M3, ρ3, f3, r3, s03, p03, ei⟩
      | cont => exact ⟨M3, ρ3, f3, r3, s03, p03, ei⟩
      | brk =>
        cases ei
        exact k σ3 M3 H3 f3 r3 s03 p03
      | ret rv =>
        cases ei
        exact fun v fw ok => k σ3 M3 H3 f3 r3 s03 p03 v fw (rv_base s02 ok)
end

/-! ### list comprehensions -/
def wipeE (ρ : Env) : List Nat → Env
  | [] => ρ
  | v :: vs => (wipeE ρ vs).set v Option.none
def wipeF (f : Fp) : List Nat → Fp
  | [] => f
  | v :: vs => fpSet (wipeF f vs) v []
theorem wipeF_sub {f : Fp} : ∀ {vs : List Nat} {j : Nat} {a : Addr}, a ∈ wipeF f vs j → a ∈ f j
  | [], _, _, h => h
  | v :: vs, j, a, h => by
    have h' : a ∈ fpSet (wipeF f vs) v [] j := h
    by_cases e : j = v
    · rw [e, fpSet_same] at h'; cases h'
    · rw [fpSet_ne e] at h'; exact wipeF_sub h'
section
variable {w : World} {K : PySem.W.Frag} {cl : Nat → Addr} {M M1 M2 M0 : Addr → Prop} {ρ ρ1 : Env} {σ : L2.St} {H H0 H1 H2 H' : Hp} {f f0 f1 f2 : Fp}
theorem RS.clear2 (r : RS w K cl M ρ σ H f) (i : Nat) : RS w K cl M (ρ.set i Option.none) (σ.set i Option.none) H (fpSet f i []) := by
  have rc := r.clear i
  refine ⟨fun j y hy => ?_, rc.none, rc.nd, rc.dj, rc.own, rc.trk, by simpa using r.len⟩
  obtain ⟨u, hu, hw⟩ := rc.slot j y hy
  rcases set_get hy with ⟨_, e2⟩ | ⟨e1, e2⟩
  · cases e2
  · exact ⟨u, by rw [List.getElem?_set_ne e1]; exact hu, hw⟩
theorem RS.wipe (r : RS w K cl M ρ σ H f) : ∀ vs : List Nat, RS w K cl M (wipeE ρ vs) (L2.wipe σ vs) H (wipeF f vs)
  | [] => r
  | v :: vs => (RS.wipe r vs).clear2 v
theorem Step.wipe {vs : List Nat} (s : Step M0 H0 f0 M H f) : Step M0 H0 f0 M H (wipeF f vs) := ⟨s.keep, s.there, s.prot, s.anti, fun i b hb => s.own i b (wipeF_sub hb)⟩
theorem wipe_at {σ : L2.St} : ∀ {vs : List Nat} {i : Nat}, i ∉ vs → (L2.wipe σ vs)[i]? = σ[i]?
  | [], _, _ => rfl
  | v :: vs, i, h => by
    show ((L2.wipe σ vs).set v Option.none)[i]? = σ[i]?
    rw [List.getElem?_set_ne (fun e => h (by simp [e]))]
    exact wipe_at fun z => h (List.mem_cons_of_mem _ z)
theorem wipe_in {σ : L2.St} : ∀ {vs : List Nat} {i : Nat}, i ∈ vs → (L2.wipe σ vs)[i]? = if i < σ.length then some Option.none else Option.none
  | v :: vs, i, h => by
    show ((L2.wipe σ vs).set v Option.none)[i]? = _
    by_cases e : v = i
    · subst e
      rw [List.getElem?_set, if_pos rfl, L2.wipe_length]
    · rw [List.getElem?_set_ne e]
      rcases List.mem_cons.mp h with z | z
      · exact absurd z.symm e
      · exact wipe_in z
theorem wipe_off {σ σ' : L2.St} {ts vs : List Nat} (o : Off ts (L2.wipe σ vs) σ') (h : ∀ i ∈ ts, i ∈ vs) : L2.wipe σ' vs = L2.wipe σ vs := by
  refine List.ext_getElem? fun i => ?_
  have hl : σ'.length = σ.length := by rw [o.2, L2.wipe_length]
  by_cases e : i ∈ vs
  · rw [wipe_in e, wipe_in e, hl]
  · rw [wipe_at e, o.1 i fun z => e (h i z)]
theorem wipe_wipe {σ : L2.St} {vs : List Nat} : L2.wipe (L2.wipe σ vs) vs = L2.wipe σ vs := wipe_off (ts := []) Off.refl fun _ h => nomatch h
/-- an object of one's own that no local holds changes -/
theorem RS.poke {D : Addr} (r : RS w K cl M ρ σ H f) (m : M D) (n : ∀ i, D ∉ f i) (o : HO) : RS w K cl M ρ σ (upd H D o) f := by
  have ex : Ext M H M (upd H D o) := fun b u h hm => ⟨by rw [upd_ne (fun e => hm (by rw [e]; exact m))]; exact h, hm⟩
  refine ⟨fun i x hx => ?_, r.none, r.nd, r.dj, r.own, fun a ha => ?_, r.len⟩
  · obtain ⟨v, hv, hw⟩ := r.slot i x hx
    exact ⟨v, hv, hw.stay ex fun a ha u h => by rw [upd_ne (fun e => n i (by rw [← e]; exact ha))]; exact h⟩
  · obtain ⟨u, h⟩ := r.trk a ha
    exact upd_there h
theorem ext_poke {D : Addr} {o : HO} (m : M D) : Ext M H M (upd H D o) := fun b u h hm => ⟨by rw [upd_ne (fun e => hm (by rw [e]; exact m))]; exact h, hm⟩
theorem Step.poke {D : Addr} {o : HO} (s : Step M0 H0 f0 M H f) (n : H0 D = Option.none) : Step M0 H0 f0 M (upd H D o) f :=
  ⟨fun b u h q => by rw [upd_ne (ne_of_none h n)]; exact s.keep b u h q, fun b u h => by
    obtain ⟨u', h'⟩ := s.there b u h
    exact upd_there h', s.prot, s.anti, s.own⟩
end
/-- the locals that a comprehension's names cover are as before it, where they held data -/
def restE (ρ0 ρ : Env) : List Nat → Env
  | [] => ρ
  | v :: vs => (restE ρ0 ρ vs).set v (match slotW ρ0 v with
    | some (.leaf d) => some (.leaf d)
    | _ => Option.none)
def lcLoop (g : DenG) (tt : Den Bool) (te : Den D) (vs : List Nat) : List D → List D → Env → Option (List D × Env)
  | [], acc, ρ => some (acc, ρ)
  | d :: ds, acc, ρ => (g d ρ).bind fun ρ1 => (tt ρ1).bind fun r => if r.1 = true then (te r.2).bind fun q => if acc.length < sizeLine then lcLoop g tt te vs ds (acc ++ [q.1]) (wipeE q.2 vs) else Option.none else lcLoop g tt te vs ds acc (wipeE r.2 vs)
def dLc (di : Den (List D)) (g : DenG) (tt : Den Bool) (te : Den D) (vs : List Nat) : Den Rv := fun ρ => (di ρ).bind fun r => (lcLoop g tt te vs r.1 [] (wipeE r.2 vs)).map fun q => (ownL q.1, restE r.2 q.2 vs)
def dYes : Den Bool := fun ρ => some (true, ρ)
section
variable {w : World} {K : PySem.W.Frag} {cl : Nat → Addr} {M M1 M2 M0 : Addr → Prop} {ρ ρ1 : Env} {σ : L2.St} {H H0 H1 H2 H' : Hp} {f f0 f1 f2 : Fp}
theorem restE_len {ρ0 ρ : Env} : ∀ vs : List Nat, (restE ρ0 ρ vs).length = ρ.length
  | [] => rfl
  | v :: vs => by
    show ((restE ρ0 ρ vs).set v _).length = _
    rw [List.length_set, restE_len vs]
theorem restE_at {ρ0 ρ : Env} : ∀ {vs : List Nat} {i : Nat}, i ∉ vs → (restE ρ0 ρ vs)[i]? = ρ[i]?
  | [], _, _ => rfl
  | v :: vs, i, h => by
    show ((restE ρ0 ρ vs).set v _)[i]? = _
    rw [List.getElem?_set_ne (fun e => h (by simp [e]))]
    exact restE_at fun z => h (List.mem_cons_of_mem _ z)
theorem restE_in {ρ0 ρ : Env} {x : W} : ∀ {vs : List Nat} {i : Nat}, i ∈ vs → (restE ρ0 ρ vs)[i]? = some (some x) → ∃ d, x = .leaf d ∧ ρ0[i]? = some (some (.leaf d))
  | v :: vs, i, h, e => by
    have e' : ((restE ρ0 ρ vs).set v (match slotW ρ0 v with
      | some (.leaf d) => some (.leaf d)
      | _ => Option.none))[i]? = some (some x) := e
    by_cases q : v = i
    · subst q
      rcases set_get e' with ⟨_, e2⟩ | ⟨e1, _⟩
      · split at e2
        · rename_i d hd
          cases e2
          exact ⟨d, rfl, slotW_some hd⟩
        · cases e2
      · exact absurd rfl e1
    · rw [List.getElem?_set_ne q] at e'
      rcases List.mem_cons.mp h with z | z
      · exact absurd z.symm q
      · exact restE_in z e'
theorem RS.restore {ρ0 : Env} {f0 : Fp} {vs : List Nat} (r0 : RS w K cl M0 ρ0 σ H0 f0) (ex : Ext M0 H0 M H) (r : RS w K cl M ρ (L2.wipe σ vs) H f) : RS w K cl M (restE ρ0 ρ vs) σ H f := by
  have nov : ∀ i, i ∈ vs → f i = [] := fun i hi => r.none i fun x hx => by
    obtain ⟨v, hv, _⟩ := r.slot i x hx
    rw [wipe_in hi] at hv
    split at hv <;> cases hv
  refine ⟨fun i x hx => ?_, fun i hi => ?_, r.nd, r.dj, r.own, r.trk, ?_⟩
  · by_cases e : i ∈ vs
    · obtain ⟨d, rfl, h0⟩ := restE_in e hx
      obtain ⟨v, hv, hw⟩ := r0.slot i _ h0
      have : ∃ l, l = f0 i := ⟨_, rfl⟩
      obtain ⟨l, hl⟩ := this
      rw [← hl] at hw
      cases hw with
      | leaf is => exact ⟨v, hv, by rw [nov i e]; exact .leaf (is.stay ex)⟩
    · rw [restE_at e] at hx
      obtain ⟨v, hv, hw⟩ := r.slot i x hx
      rw [wipe_at e] at hv
      exact ⟨v, hv, hw⟩
  · by_cases e : i ∈ vs
    · exact nov i e
    · refine r.none i fun x hx => hi x ?_
      rw [restE_at e]
      exact hx
  · rw [restE_len, r.len, L2.wipe_length]
/-- the loop of a comprehension -/
theorem lc_run {di : Den (List D)} {g : DenG} {tt : Den Bool} {te : Den D} {ts vs : List Nat} {Q : VK} (hts : ∀ i ∈ ts, i ∈ vs) (h : tD w K cl (dLc di g tt te vs) σ H Q) :
    tLc (tDI w K cl di) (tDG w K cl ts g) (tDT w K cl tt) (tS w K cl te) vs σ H Q := by
  obtain ⟨M, ρ, f, rv, ρ', rs, hd, k⟩ := h
  obtain ⟨⟨ds, ρ1⟩, h1, hd⟩ := Option.bind_eq_some_iff.mp hd
  obtain ⟨⟨res, ρ2⟩, h2, hd⟩ := Option.map_eq_some_iff.mp hd
  cases hd
  refine ⟨M, ρ, f, ds, ρ1, rs, h1, fun J M1 H1 f1 rs1 st1 io D nD => ?_⟩
  obtain ⟨G, Y, wk, hG, hY⟩ := io
  obtain ⟨rD, sD⟩ := rs1.newM nD (.lst [])
  have r0 := rD.wipe vs
  have s0 : Step M1 H1 f1 (fun a => M1 a ∨ a = D) (upd H1 D (.lst [])) (wipeF f1 vs) := sD.wipe
  refine lc_it wk (fun i Hi => ∃ Mi ρi fi acc xs, RS w K cl Mi ρi (L2.wipe σ vs) Hi fi ∧ Step M1 H1 f1 Mi Hi fi ∧ lcLoop g tt te vs (ds.drop i) acc ρi = some (res, ρ2) ∧ Hi D = some (.lst xs) ∧ IsL w K cl Mi Hi xs acc ∧ Mi D ∧ ∀ j, D ∉ fi j)
    ⟨_, _, _, [], [], r0, s0, by simpa using h2, upd_same, .nil, .inr rfl, fun j z => rs1.not_in nD j (wipeF_sub z)⟩
    (fun i Hi _ ⟨Mi, ρi, fi, acc, xs, ri, si, _⟩ => hG Mi Hi (rs1.ext si)) (fun i x Hi Hi' hi ⟨Mi, ρi, fi, acc, xs, ri, si, ei, hD, ia, mD, nf⟩ y => ?_) (fun Hi ⟨Mi, ρi, fi, acc, xs, ri, si, ei, hD, ia, mD, nf⟩ => ?_)
  · obtain ⟨gr, d, e1, e2⟩ := hY Mi Hi i x Hi' (rs1.ext si) ri.trk hi y
    obtain ⟨ri', si'⟩ := ri.grow gr
    have hdrop : ds.drop i = d :: ds.drop (i + 1) := by rw [List.drop_eq_getElem_cons hi, (List.getElem?_eq_some_iff.mp e1).2]
    rw [hdrop] at ei
    obtain ⟨ρ3, h3, ei⟩ := Option.bind_eq_some_iff.mp (show (g d ρi).bind (fun ρ1 => (tt ρ1).bind fun r => if r.1 = true then (te r.2).bind fun q => if acc.length < sizeLine then lcLoop g tt te vs (ds.drop (i + 1)) (acc ++ [q.1]) (wipeE q.2 vs) else Option.none else lcLoop g tt te vs (ds.drop (i + 1)) acc (wipeE r.2 vs)) = some (res, ρ2) from ei)
    obtain ⟨⟨b, ρ4⟩, h4, ei⟩ := Option.bind_eq_some_iff.mp ei
    have si1 := si.trans rs1.trk si'
    refine ⟨Mi, ρi, fi, d, ρ3, ri', e2, h3, fun σ2 M2 H2 f2 r2 s2 o2 => ⟨?_, M2, ρ3, f2, b, ρ4, r2, h4, fun M3 H3 f3 r3 s3 => ?_⟩⟩
    · rw [wipe_off o2 hts]
    have hw2 : L2.wipe σ2 vs = L2.wipe σ vs := wipe_off o2 hts
    have si3 := (si1.trans rs1.trk s2).trans rs1.trk s3
    have s13 := (si'.trans ri.trk s2).trans ri.trk s3
    have hD3 : H3 D = some (.lst xs) := s13.keep D _ hD nf
    have mD3 : M3 D := s13.prot D mD nf
    have nf3 : ∀ j, D ∉ f3 j := fun j z => by
      rcases s13.own j D z with q | q
      · exact nf j q
      · rw [hD] at q; cases q
    have ia3 := ia.stay (ri.ext s13)
    cases b with
    | false =>
      rw [if_neg (by simp)] at ei
      refine L2.iteF ?_
      have r3' := r3.wipe vs
      rw [hw2] at r3'
      exact ⟨M3, _, _, acc, xs, r3', si3.wipe, ei, hD3, ia3, mD3, fun j z => nf3 j (wipeF_sub z)⟩
    | true =>
      rw [if_pos rfl] at ei
      refine L2.iteT ?_
      obtain ⟨⟨e, ρ5⟩, h5, ei⟩ := Option.bind_eq_some_iff.mp ei
      refine ⟨M3, ρ4, f3, e, ρ5, r3, h5, fun v M4 H4 f4 r4 is4 s4 => ?_⟩
      have hD4 : H4 D = some (.lst xs) := s4.keep D _ hD3 nf3
      have mD4 : M4 D := s4.prot D mD3 nf3
      have nf4 : ∀ j, D ∉ f4 j := fun j z => by
        rcases s4.own j D z with q | q
        · exact nf3 j q
        · rw [hD3] at q; cases q
      have ia4 := ia3.stay (r3.ext s4)
      have ei' : (if acc.length < sizeLine then lcLoop g tt te vs (ds.drop (i + 1)) (acc ++ [e]) (wipeE ρ5 vs) else Option.none) = some (res, ρ2) := ei
      by_cases c : acc.length < sizeLine
      · rw [if_pos c] at ei'
        refine ⟨xs, hD4, by rw [ia4.length]; exact c, M4, wipeE ρ5 vs, wipeF f4 vs, acc ++ [e], xs ++ [v], ?_, ((si3.trans rs1.trk s4).poke nD).wipe, ei', upd_same, ?_, mD4, fun j z => nf4 j (wipeF_sub z)⟩
        · have r4' := (r4.poke mD4 nf4 (.lst (xs ++ [v]))).wipe vs
          rw [hw2] at r4'
          exact r4'
        · exact (ia4.stay (ext_poke mD4)).append (.cons (is4.stay (ext_poke mD4)) .nil)
      · rw [if_neg c] at ei'
        cases ei'
  · rw [List.drop_length] at ei
    cases ei
    have ex : Ext M1 H1 Mi Hi := rs1.ext si
    refine k (.ref D) Mi Hi fi [D] (RS.restore rs1 ex ri) ⟨.lst hD (wall_leaves ia), by simp, fun a ha => ?_⟩ (st1.trans rs.trk si)
    have e : a = D := by simpa using ha
    subst e
    exact ⟨mD, nf, st1.back nD⟩
end
section
variable {cl : Nat → Addr} {np : Nat} {X : Cx} {pos spos py : Pos} {elt tg iter c : Expr} {ifs : List Expr} {scope : Scope} {own : List (Str × Nat)} {ts : List Nat} {di : Den (List D)} {g : DenG} {tt : Den Bool} {te : Den Rv}
abbrev DTs (cl : Nat → Addr) (X : Cx) (ifs : List Expr) (tt : Den Bool) : Prop := PTs X ifs (tDT X.w X.K cl tt)
theorem dts_nil : DTs cl X [] dYes := ⟨fun pins s σ H Q I ⟨M, ρ, f, b, ρ', rs, hd, k⟩ => by
  cases hd
  exact pts_nil.run pins s σ H Q I (k M H f rs Step.refl)⟩
theorem dts_one (h : DT cl X c tt) : DTs cl X [c] tt := pts_one h
theorem de_lc (hc : X.calm = true) (hN : X.N.Nodup) (hi : DI cl X tg iter di) (ok : BlkOk X.N X.env.scope scope own) (hts : ∀ i ∈ ts, i ∈ own.map (·.2))
    (hg : ∀ (s : Shared) (H : Hp) (C : Addr) (cl' : List (Str × Addr)) (fp : List Addr), DG cl (X.blk s H scope (compEnvC scope cl' C X.env) fp) tg ts g) (ht : ∀ (s : Shared) (H : Hp) (C : Addr) (cl' : List (Str × Addr)) (fp : List Addr), DTs cl (X.blk s H scope (compEnvC scope cl' C X.env) fp) ifs tt)
    (he : ∀ (s : Shared) (H : Hp) (C : Addr) (cl' : List (Str × Addr)) (fp : List Addr), DE cl (X.blk s H scope (compEnvC scope cl' C X.env) fp) elt te) (hs : ∀ x, foldedSetIterable iter X.env x = pure x := by intro _; rfl) :
    DE cl X (.ListComp elt [⟨tg, iter, ifs, 0⟩] scope pos) (dLc di g tt (dSh te) (own.map (·.2))) := pe_imp (pe_lc hc hN hi ok hg ht (fun s H C cl' fp => de_sh (he s H C cl' fp)) hs) fun _ _ _ h => lc_run hts h
/-- name = [..] on one line -/
theorem ds_setLc {i : Nat} {y : Str} (hc : X.calm = true) (hN : X.N.Nodup) (hy : X.N[i]? = some y) (hyl : X.env.scope.names.lookup y = some .local) (hp : np ≤ i)
    (hsw : swapsWith (.ListComp elt [⟨tg, iter, ifs, 0⟩] scope pos) (some (.Name y py)) spos.line X.env = pure true) (hi : DI cl X tg iter di) (ok : BlkOk X.N X.env.scope scope own) (hts : ∀ i ∈ ts, i ∈ own.map (·.2))
    (hg : ∀ (s : Shared) (H : Hp) (C : Addr) (cl' : List (Str × Addr)) (fp : List Addr), DG cl (X.blk s H scope (compEnvC scope cl' C X.env) fp) tg ts g) (ht : ∀ (s : Shared) (H : Hp) (C : Addr) (cl' : List (Str × Addr)) (fp : List Addr), DTs cl (X.blk s H scope (compEnvC scope cl' C X.env) fp) ifs tt)
    (he : ∀ (s : Shared) (H : Hp) (C : Addr) (cl' : List (Str × Addr)) (fp : List Addr), DE cl (X.blk s H scope (compEnvC scope cl' C X.env) fp) elt te) (hs : ∀ x, foldedSetIterable iter X.env x = pure x := by intro _; rfl) :
    DS cl np X (.Assign [.Name y py] (.ListComp elt [⟨tg, iter, ifs, 0⟩] scope pos) spos) (dSet i (dLc di g tt (dSh te) (own.map (·.2)))) :=
  ps_imp (ps_setLc hc hN hy hyl hsw hi ok hg ht (fun s H C cl' fp => de_sh (he s H C cl' fp)) hs) fun E σ H ⟨M, ρ, f, o, ρ', rs, hd, k⟩ => by
    obtain ⟨⟨rv, ρ1⟩, h1, hd⟩ := Option.bind_eq_some_iff.mp hd
    obtain ⟨ρ2, h2, hd⟩ := Option.map_eq_some_iff.mp hd
    cases hd
    refine lc_run hts ⟨M, ρ, f, rv, ρ1, rs, h1, fun v M1 H1 f1 fw rs1 ok1 st1 => ?_⟩
    obtain ⟨M2, f2, rs2, st2⟩ := putR_ok rs1 ok1 st1 rs.trk h2
    exact k _ M2 H1 f2 rs2 st2 (par_set hp)
end
end Ws
set_option Elab.async false
set_option linter.all false
set_option maxRecDepth 100000
set_option maxHeartbeats 2000000
/-! Ws9: items, slices, lists and tuples built from others, lists of one's own changed. -/
namespace Ws
open PySem PySem.Spec PyProof.Rows L2

/-! ### the items of a list or a tuple -/
def flatW : List W → Option (List D)
  | [] => some []
  | .leaf d :: r => (flatW r).map (d :: ·)
  | _ :: _ => Option.none
theorem flatW_leaves : ∀ {ds : List D}, flatW (leaves ds) = some ds
  | [] => rfl
  | d :: ds => by
    show (flatW (leaves ds)).map (d :: ·) = _
    rw [flatW_leaves]
    rfl
/-- a list (true) or a tuple (false) whose items are let go -/
def itemsW : W → Option (Bool × List D)
  | .leaf (.lst ds) => some (true, ds)
  | .leaf (.tup ds) => some (false, ds)
  | .lst ws => (flatW ws).map fun ds => (true, ds)
  | _ => Option.none
def rvW (ρ : Env) : Rv → Option W
  | .val x => some x
  | .slot i => slotW ρ i
def itemsR (ρ : Env) (r : Rv) : Option (Bool × List D) := (rvW ρ r).bind itemsW
section
variable {w : World} {K : PySem.W.Frag} {cl : Nat → Addr} {M M1 M2 M0 : Addr → Prop} {ρ ρ1 : Env} {σ : L2.St} {H H0 H1 H2 H' : Hp} {f f0 f1 f2 : Fp} {rv : Rv} {v : V} {fw : List Addr}
theorem wall_flat : ∀ {xs : List V} {ws : List W} {fp : List Addr} {ds : List D}, WAll w K cl M H xs ws fp → flatW ws = some ds → IsL w K cl M H xs ds ∧ fp = [] ∧ ws = leaves ds
  | _, _, _, _, .nil, e => by cases e; exact ⟨.nil, rfl, rfl⟩
  | _, _, _, ds, .cons (x := .leaf d) (xs := ws) (.leaf h) t, e => by
    obtain ⟨ds', h1, h2⟩ := Option.map_eq_some_iff.mp (show (flatW ws).map (d :: ·) = some ds from e)
    subst h2
    obtain ⟨a, b, c⟩ := wall_flat t h1
    exact ⟨.cons h a, by rw [b]; rfl, by rw [c]; rfl⟩
  | _, _, _, _, .cons (x := .lst _) _ _, e => nomatch e
  | _, _, _, _, .cons (x := .dct _) _ _, e => nomatch e
  | _, _, _, _, .cons (x := .ins _ _) _ _, e => nomatch e
/-- what stands behind an answer -/
theorem RvOk.tree {x : W} (r : RS w K cl M ρ σ H f) (k : RvOk w K cl M σ H f H0 rv v fw) (e : rvW ρ rv = some x) : ∃ fp, WIs w K cl M H v x fp := by
  cases rv with
  | val y =>
    cases (show some y = some x from e)
    exact ⟨fw, k.1⟩
  | slot i =>
    obtain ⟨u, hu, hw⟩ := r.slot i x (slotW_some e)
    have e2 := k.2
    rw [hu] at e2
    cases e2
    exact ⟨_, hw⟩
theorem tree_items {x : W} {b : Bool} {ds : List D} {fp : List Addr} (h : WIs w K cl M H v x fp) (e : itemsW x = some (b, ds)) : ∃ a xs, v = .ref a ∧ (if b = true then SqL K H a xs else SqT K H a xs) ∧ IsL w K cl M H xs ds := by
  cases h with
  | leaf is =>
    cases is <;> try cases e
    · rename_i h1 h2 h3
      exact ⟨_, _, rfl, .inl h1, h3⟩
    · rename_i h1 h2 h3 h4 h5 h6
      exact ⟨_, _, rfl, .inr ⟨_, _, _, h1, h2, h3, h4, h5⟩, h6⟩
    · rename_i h1 h2 h3
      exact ⟨_, _, rfl, .inl (.inl h1), h3⟩
  | lst h1 h2 =>
    obtain ⟨ds', h3, h4⟩ := Option.map_eq_some_iff.mp e
    cases h4
    obtain ⟨a, _, _⟩ := wall_flat h2 h3
    exact ⟨_, _, rfl, .inl (.inl h1), a⟩
  | dct _ _ => cases e
  | ins _ _ => cases e
theorem RvOk.items {b : Bool} {ds : List D} (r : RS w K cl M ρ σ H f) (k : RvOk w K cl M σ H f H0 rv v fw) (e : itemsR ρ rv = some (b, ds)) : ∃ a xs, v = .ref a ∧ (if b = true then SqL K H a xs else SqT K H a xs) ∧ IsL w K cl M H xs ds := by
  obtain ⟨x, e1, e2⟩ := Option.bind_eq_some_iff.mp e
  obtain ⟨fp, h⟩ := k.tree r e1
  exact tree_items h e2
end

/-! ### x[i] -/
def strAt (s : Str) (i : Int) : Option D := if s.length ≤ sizeLine then (atI s.cps.toList i).map fun c => .str ⟨#[c]⟩ else Option.none
def dIx (da di : Den Rv) : Den Rv := fun ρ => (da ρ).bind fun x => (di x.2).bind fun y => (viewR y.2 y.1).bind fun dy => match dy with
  | .int i => match itemsR y.2 x.1 with
    | some q => (atI q.2 i).map fun d => (.val (.leaf d), y.2)
    | Option.none => (viewR y.2 x.1).bind fun dx => match dx with
      | .str s => (strAt s i).map fun d => (.val (.leaf d), y.2)
      | .scr ns => (atI ns i).map fun n => (.val (.leaf (.int n)), y.2)
      | _ => Option.none
  | _ => Option.none
theorem sq_scr {w : World} {K : PySem.W.Frag} {cl : Nat → Addr} {M : Addr → Prop} {H : Hp} {v : V} {ns : List Int} (h : Is w K cl M H v (.scr ns)) : ∃ a, v = .ref a ∧ SqL K H a (ns.map V.int) := by
  cases h with
  | scr h1 h2 => exact ⟨_, rfl, .inl (.inr ⟨_, h1⟩)⟩
  | scrK a b c d e f => exact ⟨_, rfl, .inr ⟨_, _, _, a, b, c, d, e, f⟩⟩
theorem atI_ints {ns : List Int} {i n : Int} (h : atI ns i = some n) : atI (ns.map V.int) i = some (.int n) := by
  unfold atI at h ⊢
  rw [List.length_map]
  obtain ⟨j, h1, h2⟩ := Option.bind_eq_some_iff.mp h
  rw [h1]
  show (ns.map V.int)[j]? = _
  rw [List.getElem?_map, h2]
  rfl
theorem atI_map {w : World} {K : PySem.W.Frag} {cl : Nat → Addr} {M : Addr → Prop} {H : Hp} {xs : List V} {ds : List D} {i : Int} {d : D} (t : IsL w K cl M H xs ds) (h : atI ds i = some d) : ∃ v, atI xs i = some v ∧ Is w K cl M H v d := by
  unfold atI at h ⊢
  rw [t.length]
  obtain ⟨j, h1, h2⟩ := Option.bind_eq_some_iff.mp h
  obtain ⟨v, h3, h4⟩ := t.get h2
  exact ⟨v, by rw [h1]; exact h3, h4⟩
section
variable {cl : Nat → Addr} {X : Cx} {np : Nat} {a b e : Expr} {es : List Expr} {pos p : Pos} {da db di d : Den Rv}
theorem de_ix (ha : DE cl X a da) (hb : DE cl X b di) (hs : PlainIx b) : DE cl X (.Subscript a b pos) (dIx da di) := pe_imp (pe_ix ix_seq ha hb hs) fun σ H Q ⟨M, ρ, f, rv, ρ', rs, hd, k⟩ => by
  obtain ⟨⟨x, ρ1⟩, h1, hd⟩ := Option.bind_eq_some_iff.mp hd
  obtain ⟨⟨y, ρ2⟩, h2, hd⟩ := Option.bind_eq_some_iff.mp hd
  obtain ⟨dy, h3, hd⟩ := Option.bind_eq_some_iff.mp hd
  refine ⟨M, ρ, f, x, ρ1, rs, h1, fun v1 M1 H1 f1 fw1 rs1 ok1 st1 => ⟨M1, ρ1, f1, y, ρ2, rs1, h2, fun v2 M2 H2 f2 fw2 rs2 ok2 st2 => ?_⟩⟩
  have ok1' := ok1.carry rs1 st2
  have st := st1.trans rs.trk st2
  cases dy <;> try cases hd
  rename_i i
  have ei := is_int (ok2.view rs2 h3)
  have hd' : (match itemsR ρ2 x with
    | some q => (atI q.2 i).map fun d => (Rv.val (.leaf d), ρ2)
    | Option.none => (viewR ρ2 x).bind fun dx => match dx with
      | .str s => (strAt s i).map fun d => (Rv.val (.leaf d), ρ2)
      | .scr ns => (atI ns i).map fun n => (Rv.val (.leaf (.int n)), ρ2)
      | _ => Option.none) = some (rv, ρ') := hd
  cases hq : itemsR ρ2 x with
  | some q =>
    obtain ⟨bb, ds⟩ := q
    rw [hq] at hd'
    obtain ⟨d, h4, h5⟩ := Option.map_eq_some_iff.mp (show (atI ds i).map (fun d => (Rv.val (.leaf d), ρ2)) = some (rv, ρ') from hd')
    cases h5
    obtain ⟨p, xs, e1, e2, e3⟩ := ok1'.items rs2 hq
    obtain ⟨u, h6, h7⟩ := atI_map e3 h4
    cases bb with
    | true => exact .inl ⟨p, xs, i, u, e1, ei, e2, h6, k u M2 H2 f2 [] rs2 (rvB h7) st⟩
    | false => exact .inr (.inl ⟨p, xs, i, u, e1, ei, e2, h6, k u M2 H2 f2 [] rs2 (rvB h7) st⟩)
  | none =>
    rw [hq] at hd'
    obtain ⟨dx, h4, hd'⟩ := Option.bind_eq_some_iff.mp hd'
    cases dx <;> try cases hd'
    rotate_left
    · rename_i ns
      obtain ⟨n, h5, h6⟩ := Option.map_eq_some_iff.mp (show (atI ns i).map (fun n => (Rv.val (.leaf (.int n)), ρ2)) = some (rv, ρ') from hd')
      cases h6
      obtain ⟨a, e1, e2⟩ := sq_scr (ok1'.view rs2 h4)
      exact .inl ⟨a, _, i, _, e1, ei, e2, atI_ints h5, k _ M2 H2 f2 [] rs2 (rvB (.int n)) st⟩
    rename_i s
    obtain ⟨d, h5, h6⟩ := Option.map_eq_some_iff.mp (show (strAt s i).map (fun d => (Rv.val (.leaf d), ρ2)) = some (rv, ρ') from hd')
    cases h6
    unfold strAt at h5
    by_cases c : s.length ≤ sizeLine
    · rw [if_pos c] at h5
      obtain ⟨z, h7, h8⟩ := Option.map_eq_some_iff.mp h5
      subst h8
      exact .inr (.inr ⟨s, i, z, is_str (ok1'.view rs2 h4), ei, c, h7, k _ M2 H2 f2 [] rs2 (rvB (.str _)) st⟩)
    · rw [if_neg c] at h5
      cases h5

/-! ### x[a:b] -/
abbrev DenO := Den (Option Int)
def tDO (w : World) (K : PySem.W.Frag) (cl : Nat → Addr) (den : DenO) : TO := fun σ H Q => ∃ M ρ f o ρ', RS w K cl M ρ σ H f ∧ den ρ = some (o, ρ') ∧ ∀ M' H' f', RS w K cl M' ρ' σ H' f' → Step M H f M' H' f' → Q o H'
abbrev DO (cl : Nat → Addr) (X : Cx) (e : Option Expr) (den : DenO) : Prop := PO X e (tDO X.w X.K cl den)
theorem po_imp {X : Cx} {e : Option Expr} {t t' : TO} (h : PO X e t) (i : ∀ σ H Q, t' σ H Q → t σ H Q) : PO X e t' := ⟨fun pins s σ H Q I k => h.run pins s σ H Q I (i σ H Q k)⟩
def dNoPart : DenO := fun ρ => some (Option.none, ρ)
theorem do_none : DO cl X none dNoPart := po_imp po_none fun σ H Q ⟨M, ρ, f, o, ρ', rs, hd, k⟩ => by
  cases hd
  exact k M H f rs Step.refl
def dPart (d : Den Rv) : DenO := fun ρ => (d ρ).bind fun r => (viewR r.2 r.1).bind fun x => match x with
  | .int i => some (some i, r.2)
  | _ => Option.none
theorem do_some (h : DE cl X e d) : DO cl X (some e) (dPart d) := po_imp (po_some h) fun σ H Q ⟨M, ρ, f, o, ρ', rs, hd, k⟩ => by
  obtain ⟨⟨x, ρ1⟩, h1, hd⟩ := Option.bind_eq_some_iff.mp hd
  obtain ⟨dx, h2, hd⟩ := Option.bind_eq_some_iff.mp hd
  cases dx with
  | int i =>
    cases hd
    exact ⟨M, ρ, f, x, _, rs, h1, fun v M1 H1 f1 fw rs1 ok1 st1 => ⟨i, is_int (ok1.view rs1 h2), k M1 H1 f1 rs1 st1⟩⟩
  | _ => cases hd
def cutD (xs : List D) (lo hi : Option Int) : List D := (xs.drop (HT.sIx xs.length 0 lo)).take (HT.sIx xs.length xs.length hi - HT.sIx xs.length 0 lo)
theorem cut_is {w : World} {K : PySem.W.Frag} {M : Addr → Prop} {H : Hp} {xs : List V} {ds : List D} {lo hi : Option Int} (t : IsL w K cl M H xs ds) : IsL w K cl M H (cutV xs lo hi) (cutD ds lo hi) := by
  unfold cutV cutD
  rw [t.length]
  exact (t.drop _).take _
def isWhole (n : Nat) (lo hi : Option Int) : Bool := decide (HT.sIx n 0 lo = 0 ∧ HT.sIx n n hi = n)
def dSlice (d : Den Rv) (dl dh : DenO) : Den Rv := fun ρ => (d ρ).bind fun x => (dl x.2).bind fun l => (dh l.2).bind fun h => (itemsR h.2 x.1).bind fun q =>
  if q.1 = true then some (ownL (cutD q.2 l.1 h.1), h.2)
  else if isWhole q.2.length l.1 h.1 = true then Option.none else some (.val (.leaf (.tup (cutD q.2 l.1 h.1))), h.2)
theorem slr_or {r r' : V → Option Int → Option Int → Hp → VK → Prop} (h : SlR X r) (h' : SlR X r') : SlR X (fun x lo hi H Q => r x lo hi H Q ∨ r' x lo hi H Q) := h.or h'
theorem de_slice {lo hi : Option Expr} {dl dh : DenO} {p2 : Pos} (he : DE cl X e d) (hl : DO cl X lo dl) (hu : DO cl X hi dh) : DE cl X (.Subscript e (.Slice lo hi none p2) pos) (dSlice d dl dh) := pe_imp (pe_slice (sl_list.or sl_tup) he hl hu) fun σ H Q ⟨M, ρ, f, rv, ρ', rs, hd, k⟩ => by
  obtain ⟨⟨x, ρ1⟩, h1, hd⟩ := Option.bind_eq_some_iff.mp hd
  obtain ⟨⟨l, ρ2⟩, h2, hd⟩ := Option.bind_eq_some_iff.mp hd
  obtain ⟨⟨h, ρ3⟩, h3, hd⟩ := Option.bind_eq_some_iff.mp hd
  obtain ⟨⟨b, ds⟩, h4, hd⟩ := Option.bind_eq_some_iff.mp hd
  refine ⟨M, ρ, f, x, ρ1, rs, h1, fun v1 M1 H1 f1 fw1 rs1 ok1 st1 => ⟨M1, ρ1, f1, l, ρ2, rs1, h2, fun M2 H2 f2 rs2 st2 => ⟨M2, ρ2, f2, h, ρ3, rs2, h3, fun M3 H3 f3 rs3 st3 => ?_⟩⟩⟩
  have ok := (ok1.carry rs1 st2).carry rs2 st3
  have st := (st1.trans rs.trk st2).trans rs.trk st3
  obtain ⟨p, xs, e1, e2, e3⟩ := ok.items rs3 h4
  have hd' : (if b = true then some (ownL (cutD ds l h), ρ3) else if isWhole ds.length l h = true then Option.none else some (Rv.val (.leaf (.tup (cutD ds l h))), ρ3)) = some (rv, ρ') := hd
  cases b with
  | true =>
    rw [if_pos rfl] at hd'
    cases hd'
    refine .inl ⟨p, xs, e1, e2, fun q nq => ?_⟩
    obtain ⟨r4, ok4, s4⟩ := fin_lst rs3 nq (st.back nq) (cut_is (lo := l) (hi := h) e3)
    exact k _ _ _ _ _ r4 ok4 (st.trans rs.trk s4)
  | false =>
    rw [if_neg (by simp)] at hd'
    by_cases c : isWhole ds.length l h = true
    · rw [if_pos c] at hd'
      cases hd'
    · rw [if_neg c] at hd'
      cases hd'
      refine .inr ⟨p, xs, e1, e2, fun z => c (decide_eq_true (by rw [← e3.length]; exact z)), fun q nq => ?_⟩
      obtain ⟨r4, is4, s4⟩ := fin_tup rs3 nq (cut_is (lo := l) (hi := h) e3)
      exact k _ _ _ _ [] r4 (rvB is4) (st.trans rs.trk s4)
/-- x[::-1] of a list -/
def dRev (d : Den Rv) : Den Rv := fun ρ => (d ρ).bind fun x => (itemsR x.2 x.1).bind fun q => if q.1 = true then some (ownL q.2.reverse, x.2) else Option.none
theorem de_rev {k1 : Nat} {p1 p2 p3 : Pos} (he : DE cl X e d) : DE cl X (.Subscript e (.Slice none none (some (.UnaryOp .USub (.Constant (.int 1) k1 p1) p2)) p3) pos) (dRev d) := pe_imp (pe_revL he) fun σ H Q ⟨M, ρ, f, rv, ρ', rs, hd, k⟩ => by
  obtain ⟨⟨x, ρ1⟩, h1, hd⟩ := Option.bind_eq_some_iff.mp hd
  obtain ⟨⟨b, ds⟩, h2, hd⟩ := Option.bind_eq_some_iff.mp hd
  have hd' : (if b = true then some (ownL ds.reverse, ρ1) else Option.none) = some (rv, ρ') := hd
  cases b with
  | false => cases hd'
  | true =>
    rw [if_pos rfl] at hd'
    cases hd'
    refine ⟨M, ρ, f, x, _, rs, h1, fun v1 M1 H1 f1 fw1 rs1 ok1 st1 => ?_⟩
    obtain ⟨p, xs, e1, e2, e3⟩ := ok1.items rs1 h2
    refine ⟨p, xs, e1, e2, fun q nq => ?_⟩
    obtain ⟨r4, ok4, s4⟩ := fin_lst rs1 nq (st1.back nq) e3.reverse
    exact k _ _ _ _ _ r4 ok4 (st1.trans rs.trk s4)

/-! ### a + b, a * b -/
end
section
variable {w : World} {K : PySem.W.Frag} {cl : Nat → Addr} {M : Addr → Prop} {H : Hp} {v : V}
theorem tree_rd {x : W} {ds : List D} {fp : List Addr} (h : WIs w K cl M H v x fp) (e : itemsW x = some (true, ds)) : ∃ a xs, v = .ref a ∧ H a = some (.lst xs) ∧ IsL w K cl M H xs ds := by
  cases h with
  | leaf is =>
    cases is <;> try cases e
    rename_i h1 h2 h3
    exact ⟨_, _, rfl, h1, h3⟩
  | lst h1 h2 =>
    obtain ⟨ds', h3, h4⟩ := Option.map_eq_some_iff.mp e
    cases h4
    obtain ⟨a, _, _⟩ := wall_flat h2 h3
    exact ⟨_, _, rfl, h1, a⟩
  | dct _ _ => cases e
  | ins _ _ => cases e
end
section
variable {cl : Nat → Addr} {X : Cx} {np : Nat} {a b e : Expr} {es : List Expr} {pos p : Pos} {da db di d : Den Rv}
theorem rv_rd {w : World} {K : PySem.W.Frag} {M : Addr → Prop} {ρ : Env} {σ : L2.St} {H H0 : Hp} {f : Fp} {rv : Rv} {v : V} {fw : List Addr} {ds : List D} (r : RS w K cl M ρ σ H f) (k : RvOk w K cl M σ H f H0 rv v fw) (e : itemsR ρ rv = some (true, ds)) : ∃ a xs, v = .ref a ∧ H a = some (.lst xs) ∧ IsL w K cl M H xs ds := by
  obtain ⟨x, e1, e2⟩ := Option.bind_eq_some_iff.mp e
  obtain ⟨fp, h⟩ := k.tree r e1
  exact tree_rd h e2
def dAddK (ρ : Env) (x y : Rv) : Option (Rv × Env) := match itemsR ρ x, itemsR ρ y with
  | some (true, xs), some (true, ys) => if xs.length + ys.length ≤ sizeLine then some (ownL (xs ++ ys), ρ) else Option.none
  | some (false, xs), some (false, ys) => if xs.length + ys.length ≤ sizeLine then some (.val (.leaf (.tup (xs ++ ys))), ρ) else Option.none
  | _, _ => match viewR ρ x, viewR ρ y with
    | some (.int i), some (.int j) => some (.val (.leaf (.int (i + j))), ρ)
    | some (.str s), some (.str t) => if s.length + t.length ≤ sizeLine then some (.val (.leaf (.str (s ++ t))), ρ) else Option.none
    | _, _ => Option.none
end
end Ws
set_option Elab.async false
set_option linter.all false
set_option maxRecDepth 100000
set_option maxHeartbeats 2000000
/-! Ws10: +, *, built-in calls, lists of one's own changed, instances. -/
namespace Ws
open PySem PySem.Spec PyProof.Rows L2

section
variable {cl : Nat → Addr} {X : Cx} {np : Nat} {a b e : Expr} {es : List Expr} {pos p : Pos} {da db di d : Den Rv}
def dAdd (da db : Den Rv) : Den Rv := fun ρ => (da ρ).bind fun x => (db x.2).bind fun y => dAddK y.2 x.1 y.1
theorem rv_tup {w : World} {K : PySem.W.Frag} {M : Addr → Prop} {ρ : Env} {σ : L2.St} {H H0 : Hp} {f : Fp} {rv : Rv} {v : V} {fw : List Addr} {ds : List D} (r : RS w K cl M ρ σ H f) (k : RvOk w K cl M σ H f H0 rv v fw) (e : itemsR ρ rv = some (false, ds)) : Is w K cl M H v (.tup ds) := by
  obtain ⟨x, e1, e2⟩ := Option.bind_eq_some_iff.mp e
  obtain ⟨fp, h⟩ := k.tree r e1
  cases h with
  | leaf is =>
    cases is <;> try cases e2
    · rename_i h1 h2 h3; exact .tup h1 h2 h3
    · rename_i h1 h2 h3 h4 h5 h6; exact .tupK h1 h2 h3 h4 h5 h6
  | lst h1 h2 =>
    obtain ⟨ds', h3, h4⟩ := Option.map_eq_some_iff.mp e2
    cases h4
  | dct _ _ => cases e2
  | ins _ _ => cases e2
theorem de_add (ha : DE cl X a da) (hb : DE cl X b db) : DE cl X (.BinOp a .Add b pos) (dAdd da db) := pe_imp (pe_op ((op_add.or op_add_str).or (op_cat.or op_catA)) ha hb) fun σ H Q ⟨M, ρ, f, rv, ρ', rs, hd, k⟩ => by
  obtain ⟨⟨x, ρ1⟩, h1, hd⟩ := Option.bind_eq_some_iff.mp hd
  obtain ⟨⟨y, ρ2⟩, h2, hd⟩ := Option.bind_eq_some_iff.mp hd
  refine ⟨M, ρ, f, x, ρ1, rs, h1, fun v1 M1 H1 f1 fw1 rs1 ok1 st1 => ⟨M1, ρ1, f1, y, ρ2, rs1, h2, fun v2 M2 H2 f2 fw2 rs2 ok2 st2 => ?_⟩⟩
  have ok1' := ok1.carry rs1 st2
  have st := st1.trans rs.trk st2
  have hd' : dAddK ρ2 x y = some (rv, ρ') := hd
  unfold dAddK at hd'
  split at hd'
  · rename_i xs ys e1 e2
    split at hd'
    · rename_i c
      cases hd'
      obtain ⟨p, us, q1, q2, q3⟩ := rv_rd rs2 ok1' e1
      obtain ⟨p', us', q1', q2', q3'⟩ := rv_rd rs2 ok2 e2
      refine .inr (.inl ⟨p, p', us, us', q1, q1', q2, q2', by rw [q3.length, q3'.length]; exact c, fun l nl => ?_⟩)
      obtain ⟨r4, ok4, s4⟩ := fin_lst rs2 nl (st.back nl) (q3.append q3')
      exact k _ _ _ _ _ r4 ok4 (st.trans rs.trk s4)
    · cases hd'
  · rename_i xs ys e1 e2
    split at hd'
    · rename_i c
      cases hd'
      have i1 := rv_tup rs2 ok1' e1
      have i2 := rv_tup rs2 ok2 e2
      obtain ⟨p, us, q1, q3, q2⟩ := sqt_of_is i1
      obtain ⟨p', us', q1', q3', q2'⟩ := sqt_of_is i2
      refine .inr (.inr ⟨p, p', us, us', q1, q1', q2 _ _ Ext.refl, q2' _ _ Ext.refl, by rw [q3.length, q3'.length]; exact c, fun z => ?_, fun _ z => ?_, fun _ _ l nl => ?_⟩)
      · subst z
        cases q3
        rw [← q1']
        exact k _ M2 H2 f2 [] rs2 (rvB i2) st
      · subst z
        cases q3'
        rw [← q1]
        rw [List.append_nil] at k
        exact k _ M2 H2 f2 [] rs2 (rvB i1) st
      · obtain ⟨r4, is4, s4⟩ := fin_tup rs2 nl (q3.append q3')
        exact k _ _ _ _ [] r4 (rvB is4) (st.trans rs.trk s4)
    · cases hd'
  · split at hd'
    · rename_i i j e1 e2
      cases hd'
      exact .inl (.inl ⟨i, j, is_int (ok1'.view rs2 e1), is_int (ok2.view rs2 e2), k _ M2 H2 f2 [] rs2 (rvB (.int _)) st⟩)
    · rename_i s t e1 e2
      split at hd'
      · rename_i c
        cases hd'
        exact .inl (.inr ⟨s, t, is_str (ok1'.view rs2 e1), is_str (ok2.view rs2 e2), c, k _ M2 H2 f2 [] rs2 (rvB (.str _)) st⟩)
      · cases hd'
    · cases hd'
/-- xs * k, i * j -/
def rRepR : R2 := fun x y H Q => ∃ l k xs, x = .ref l ∧ y = .int k ∧ H l = some (.lst xs) ∧ -(2 ^ 63) ≤ k ∧ k < 2 ^ 63 ∧ xs.length * k.toNat ≤ sizeLine ∧ ∀ p, H p = none → Q (.ref p) (upd H p (.lst (List.replicate k.toNat xs).flatten))
def repD (xs : List D) (k : Nat) : List D := (List.replicate k xs).flatten
theorem rep_is {w : World} {K : PySem.W.Frag} {M : Addr → Prop} {H : Hp} {xs : List V} {ds : List D} (t : IsL w K cl M H xs ds) : ∀ k : Nat, IsL w K cl M H (List.replicate k xs).flatten (repD ds k)
  | 0 => .nil
  | k + 1 => by
    unfold repD
    rw [List.replicate_succ, List.replicate_succ, List.flatten_cons, List.flatten_cons]
    exact t.append (rep_is t k)
def dMul (da db : Den Rv) : Den Rv := fun ρ => (da ρ).bind fun x => (db x.2).bind fun y => (viewR y.2 y.1).bind fun dy => match dy with
  | .int j => match x.1 with
    | .val (.lst ws) => (flatW ws).bind fun xs => if xs.length * j.toNat ≤ sizeLine ∧ -(2 ^ 63) ≤ j ∧ j < 2 ^ 63 then some (ownL (repD xs j.toNat), y.2) else Option.none
    | r => (viewR y.2 r).bind fun dx => match dx with
      | .int i => (gMulI (.int i) (.int j)).map fun z => (.val (.leaf z), y.2)
      | _ => Option.none
  | _ => Option.none
theorem de_mul (ha : DE cl X a da) (hb : DE cl X b db) : DE cl X (.BinOp a .Mult b pos) (dMul da db) := pe_imp (pe_op (op_mul.or op_rep) ha hb) fun σ H Q ⟨M, ρ, f, rv, ρ', rs, hd, k⟩ => by
  obtain ⟨⟨x, ρ1⟩, h1, hd⟩ := Option.bind_eq_some_iff.mp hd
  obtain ⟨⟨y, ρ2⟩, h2, hd⟩ := Option.bind_eq_some_iff.mp hd
  obtain ⟨dy, h3, hd⟩ := Option.bind_eq_some_iff.mp hd
  refine ⟨M, ρ, f, x, ρ1, rs, h1, fun v1 M1 H1 f1 fw1 rs1 ok1 st1 => ⟨M1, ρ1, f1, y, ρ2, rs1, h2, fun v2 M2 H2 f2 fw2 rs2 ok2 st2 => ?_⟩⟩
  have ok1' := ok1.carry rs1 st2
  have st := st1.trans rs.trk st2
  cases dy with
  | int j =>
    have ej := is_int (ok2.view rs2 h3)
    have num : (viewR ρ2 x).bind (fun dx => match dx with
      | .int i => (gMulI (.int i) (.int j)).map fun z => (Rv.val (.leaf z), ρ2)
      | _ => Option.none) = some (rv, ρ') → (rI CMul (fun i j => .int (i * j)) v1 v2 H2 Q ∨ rRep v1 v2 H2 Q) := fun hd => by
      obtain ⟨dx, h4, hd⟩ := Option.bind_eq_some_iff.mp hd
      cases dx with
      | int i =>
        obtain ⟨z, h5, h6⟩ := Option.map_eq_some_iff.mp (show (gMulI (.int i) (.int j)).map (fun z => (Rv.val (.leaf z), ρ2)) = some (rv, ρ') from hd)
        cases h6
        obtain ⟨i', j', e1, e2, c, rfl⟩ := gI_some h5
        cases e1
        cases e2
        exact .inl ⟨i, j, is_int (ok1'.view rs2 h4), ej, of_decide_eq_true (p := (-(2 ^ 64) < i ∧ i < 2 ^ 64) ∨ (-(2 ^ 64) < j ∧ j < 2 ^ 64)) c, k _ M2 H2 f2 [] rs2 (rvB (.int _)) st⟩
      | _ => cases hd
    cases x with
    | slot i => exact num hd
    | val wx =>
      cases wx with
      | leaf d => exact num hd
      | dct _ => exact num hd
      | ins _ _ => exact num hd
      | lst ws =>
        obtain ⟨xs, h4, hd⟩ := Option.bind_eq_some_iff.mp (show (flatW ws).bind (fun xs => if xs.length * j.toNat ≤ sizeLine ∧ -(2 ^ 63) ≤ j ∧ j < 2 ^ 63 then some (ownL (repD xs j.toNat), ρ2) else Option.none) = some (rv, ρ') from hd)
        split at hd
        · rename_i c
          cases hd
          obtain ⟨hw, _, _⟩ := ok1'
          cases hw with
          | lst e1 e2 =>
            obtain ⟨t, _, _⟩ := wall_flat e2 h4
            refine .inr ⟨_, j, _, rfl, ej, e1, c.2.1, c.2.2, by rw [t.length]; exact c.1, fun q nq => ?_⟩
            obtain ⟨r4, ok4, s4⟩ := fin_lst rs2 nq (st.back nq) (rep_is t j.toNat)
            exact k _ _ _ _ _ r4 ok4 (st.trans rs.trk s4)
        · cases hd
  | _ => cases hd

/-! ### built-in functions of one and two values whose answer is a number, a text, a truth -/
def rC1 (w : World) (K : PySem.W.Frag) (cl : Nat → Addr) (g : D → Option D) : List V → Hp → VK → Prop := fun vs H Q => ∃ x d r v, vs = [x] ∧ Is w K cl noM H x d ∧ g d = some r ∧ sv r = some v ∧ Q v H
def rC2 (w : World) (K : PySem.W.Frag) (cl : Nat → Addr) (g : D → D → Option D) : List V → Hp → VK → Prop := fun vs H Q => ∃ x y d d' r v, vs = [x, y] ∧ Is w K cl noM H x d ∧ Is w K cl noM H y d' ∧ g d d' = some r ∧ sv r = some v ∧ Q v H
def dUn (g : D → Option D) (d : Den Rv) : Den Rv := fun ρ => (d ρ).bind fun x => (viewR x.2 x.1).bind fun dx => (g dx).bind fun r => (sv r).bind fun _ => some (.val (.leaf r), x.2)
theorem dUn_imp {g : D → Option D} {σ : L2.St} {H : Hp} {Q : VK} (h : tD X.w X.K cl (dUn g d) σ H Q) : tCB (rC1 X.w X.K cl g) (tCons (tD X.w X.K cl d) tNil) σ H Q := by
  obtain ⟨M, ρ, f, rv, ρ', rs, hd, k⟩ := h
  obtain ⟨⟨x, ρ1⟩, h1, hd⟩ := Option.bind_eq_some_iff.mp hd
  obtain ⟨dx, h2, hd⟩ := Option.bind_eq_some_iff.mp hd
  obtain ⟨r, h3, hd⟩ := Option.bind_eq_some_iff.mp hd
  obtain ⟨v, h4, hd⟩ := Option.bind_eq_some_iff.mp hd
  cases hd
  exact ⟨M, ρ, f, x, _, rs, h1, fun u M1 H1 f1 fw rs1 ok1 st1 => ⟨u, dx, r, v, rfl, ok1.view rs1 h2, h3, h4, k v M1 H1 f1 [] rs1 (rvB (is_sv h4)) st1⟩⟩
theorem de_cb {x : Str} {id : String} {g : D → Option D} (hc : CallR X (.builtin id) (rC1 X.w X.K cl g)) (hg : Gl X x) (hm : X.mg x = none) (hv : bootBuiltins x = some (.builtin id)) (ha : DE cl X e d) (hn : x ≠ "__name__" := by decide) (hdb : (x == ("__debug__" : Str)) = false := by decide)
    (he : starEach [e] X.env = (false, eval e X.env) :: starEach [] X.env := by rfl) (hpl : (backTo pos (starEach [] X.env)).any (·.1) = false := by rfl) : DE cl X (.Call (.Name x p) [e] [] pos) (dUn g d) := pe_imp (pe_callB hc hg hm hv (pa_cons ha pa_nil he) hn hdb he hpl) fun _ _ _ => dUn_imp
theorem de_ct {x : Str} {T : String} {g : D → Option D} (hc : CallR X (.type T) (rC1 X.w X.K cl g)) (hg : Gl X x) (hm : X.mg x = none) (hv : bootBuiltins x = some (.type T)) (ha : DE cl X e d) (hn : x ≠ "__name__" := by decide) (hdb : (x == ("__debug__" : Str)) = false := by decide)
    (he : starEach [e] X.env = (false, eval e X.env) :: starEach [] X.env := by rfl) (hpl : (backTo pos (starEach [] X.env)).any (·.1) = false := by rfl) : DE cl X (.Call (.Name x p) [e] [] pos) (dUn g d) := pe_imp (pe_callTy hc hg hm hv (pa_cons ha pa_nil he) hn hdb he hpl) fun _ _ _ => dUn_imp
theorem dBin_tcb {g : D → D → Option D} {σ : L2.St} {H : Hp} {Q : VK} (h : tD X.w X.K cl (dBin g da db) σ H Q) : tCB (rC2 X.w X.K cl g) (tCons (tD X.w X.K cl da) (tCons (tD X.w X.K cl db) tNil)) σ H Q := by
  obtain ⟨M, ρ, f, rv, ρ', rs, hd, k⟩ := h
  obtain ⟨⟨x, ρ1⟩, h1, hd⟩ := Option.bind_eq_some_iff.mp hd
  obtain ⟨⟨y, ρ2⟩, h2, hd⟩ := Option.bind_eq_some_iff.mp hd
  obtain ⟨dx, h3, hd⟩ := Option.bind_eq_some_iff.mp hd
  obtain ⟨dy, h4, hd⟩ := Option.bind_eq_some_iff.mp hd
  obtain ⟨r, h5, hd⟩ := Option.bind_eq_some_iff.mp hd
  obtain ⟨v, h6, hd⟩ := Option.bind_eq_some_iff.mp hd
  cases hd
  exact ⟨M, ρ, f, x, ρ1, rs, h1, fun v1 M1 H1 f1 fw1 rs1 ok1 st1 => ⟨M1, ρ1, f1, y, _, rs1, h2, fun v2 M2 H2 f2 fw2 rs2 ok2 st2 => ⟨v1, v2, dx, dy, r, v, rfl, (ok1.carry rs1 st2).view rs2 h3, ok2.view rs2 h4, h5, h6, k v M2 H2 f2 [] rs2 (rvB (is_sv h6)) (st1.trans rs.trk st2)⟩⟩⟩
theorem de_cb2 {x : Str} {id : String} {g : D → D → Option D} (hc : CallR X (.builtin id) (rC2 X.w X.K cl g)) (hg : Gl X x) (hm : X.mg x = none) (hv : bootBuiltins x = some (.builtin id)) (ha : DE cl X a da) (hb : DE cl X b db) (hn : x ≠ "__name__" := by decide) (hdb : (x == ("__debug__" : Str)) = false := by decide)
    (he : starEach [a, b] X.env = (false, eval a X.env) :: starEach [b] X.env := by rfl) (he2 : starEach [b] X.env = (false, eval b X.env) :: starEach [] X.env := by rfl) (hpl : (backTo pos (starEach [b] X.env)).any (·.1) = false := by rfl) : DE cl X (.Call (.Name x p) [a, b] [] pos) (dBin g da db) := pe_imp (pe_callB hc hg hm hv (pa_cons ha (pa_cons hb pa_nil he2) he) hn hdb he hpl) fun _ _ _ => dBin_tcb
def CallR.impl {f : Value} {r r' : List V → Hp → VK → Prop} (h : CallR X f r) (i : ∀ xs H Q, r' xs H Q → r xs H Q) : CallR X f r' := fun pins s σ H xs us Q I rv q => h pins s σ H xs us Q I rv (i xs H Q q)
def gLen : D → Option D
  | .lst ds => some (.int ds.length)
  | .tup ds => some (.int ds.length)
  | .str s => if s.length ≤ sizeLine then some (.int s.length) else Option.none
  | .scr ns => some (.int ns.length)
  | _ => Option.none
theorem c_len : CallR X (.builtin "len") (rC1 X.w X.K cl gLen) := CallR.impl (call_len_seq.or call_len_str) fun xs H Q ⟨x, d, r, v, e, is, hg, hs, q⟩ => by
  subst e
  cases d with
  | lst ds =>
    cases hg
    cases hs
    obtain ⟨a, us, e, h1, h2⟩ := is_lst is
    exact .inl ⟨a, us, by rw [e], .inl (.inl (.inl h1)), by rw [h2.length]; exact q⟩
  | scr ns =>
    cases hg
    cases hs
    obtain ⟨a, e, h1⟩ := sq_scr is
    exact .inl ⟨a, _, by rw [e], .inl h1, by rw [List.length_map]; exact q⟩
  | tup ds =>
    cases hg
    cases hs
    obtain ⟨a, us, e, h1, h2⟩ := is_tup is
    exact .inl ⟨a, us, by rw [e], .inr h1, by rw [h2.length]; exact q⟩
  | str s =>
    have hg' : (if s.length ≤ sizeLine then some (D.int s.length) else Option.none) = some r := hg
    by_cases c : s.length ≤ sizeLine
    · rw [if_pos c] at hg'
      cases hg'
      cases hs
      exact .inr ⟨s, by rw [is_str is], c, q⟩
    · rw [if_neg c] at hg'
      cases hg'
  | _ => cases hg
def gInt1 : D → Option D
  | .int i => some (.int i)
  | .bool b => some (.int (if b then 1 else 0))
  | _ => Option.none
theorem c_int : CallR X (.type "int") (rC1 X.w X.K cl gInt1) := CallR.impl call_int1 fun xs H Q ⟨x, d, r, v, e, is, hg, hs, q⟩ => by
  subst e
  cases d with
  | int i => cases hg; cases hs; exact .inl ⟨i, by rw [is_int is], q⟩
  | bool b => cases hg; cases hs; exact .inr ⟨b, by rw [is_bool is], q⟩
  | _ => cases hg
def gAbs : D → Option D
  | .int i => some (.int (if i < 0 then -i else i))
  | _ => Option.none
theorem c_abs : CallR X (.builtin "abs") (rC1 X.w X.K cl gAbs) := CallR.impl call_abs fun xs H Q ⟨x, d, r, v, e, is, hg, hs, q⟩ => by
  subst e
  cases d with
  | int i => cases hg; cases hs; exact ⟨i, by rw [is_int is], q⟩
  | _ => cases hg
def gMax2 : D → D → Option D := gI (fun _ _ => true) fun i j => .int (if j > i then j else i)
def gMin2 : D → D → Option D := gI (fun _ _ => true) fun i j => .int (if j < i then j else i)
theorem c_max2 (hc : X.calm = true) : CallR X (.builtin "max") (rC2 X.w X.K cl gMax2) := CallR.impl (call_max2 hc) fun xs H Q ⟨x, y, d, d', r, v, e, is, is', hg, hs, q⟩ => by
  subst e
  obtain ⟨i, j, rfl, rfl, _, rfl⟩ := gI_some hg
  cases hs
  exact ⟨i, j, by rw [is_int is, is_int is'], q⟩
theorem c_min2 (hc : X.calm = true) : CallR X (.builtin "min") (rC2 X.w X.K cl gMin2) := CallR.impl (call_min2 hc) fun xs H Q ⟨x, y, d, d', r, v, e, is, is', hg, hs, q⟩ => by
  subst e
  obtain ⟨i, j, rfl, rfl, _, rfl⟩ := gI_some hg
  cases hs
  exact ⟨i, j, by rw [is_int is, is_int is'], q⟩
/-- lists of truths, of whole numbers -/
def asBools : List D → Option (List Bool)
  | [] => some []
  | .bool b :: r => (asBools r).map (b :: ·)
  | _ :: _ => Option.none
def asInts : List D → Option (List Int)
  | [] => some []
  | .int b :: r => (asInts r).map (b :: ·)
  | _ :: _ => Option.none
theorem bools_is {w : World} {K : PySem.W.Frag} {M : Addr → Prop} {H : Hp} : ∀ {vs : List V} {ds : List D} {bs : List Bool}, IsL w K cl M H vs ds → asBools ds = some bs → vs = bs.map V.bl
  | _, _, _, .nil, e => by cases e; rfl
  | _, _, bs, .cons (d := .bool b) (ds := ds) a t, e => by
    obtain ⟨bs', h1, h2⟩ := Option.map_eq_some_iff.mp (show (asBools ds).map (b :: ·) = some bs from e)
    subst h2
    rw [is_bool a, bools_is t h1]
    rfl
  | _, _, _, .cons (d := .none) _ _, e => nomatch e
  | _, _, _, .cons (d := .int _) _ _, e => nomatch e
  | _, _, _, .cons (d := .str _) _ _, e => nomatch e
  | _, _, _, .cons (d := .tup _) _ _, e => nomatch e
  | _, _, _, .cons (d := .lst _) _ _, e => nomatch e
  | _, _, _, .cons (d := .dct _) _ _, e => nomatch e
  | _, _, _, .cons (d := .obj _ _) _ _, e => nomatch e
  | _, _, _, .cons (d := .scr _) _ _, e => nomatch e
theorem ints_is {w : World} {K : PySem.W.Frag} {M : Addr → Prop} {H : Hp} : ∀ {vs : List V} {ds : List D} {bs : List Int}, IsL w K cl M H vs ds → asInts ds = some bs → vs = bs.map V.int
  | _, _, _, .nil, e => by cases e; rfl
  | _, _, bs, .cons (d := .int b) (ds := ds) a t, e => by
    obtain ⟨bs', h1, h2⟩ := Option.map_eq_some_iff.mp (show (asInts ds).map (b :: ·) = some bs from e)
    subst h2
    rw [is_int a, ints_is t h1]
    rfl
  | _, _, _, .cons (d := .none) _ _, e => nomatch e
  | _, _, _, .cons (d := .bool _) _ _, e => nomatch e
  | _, _, _, .cons (d := .str _) _ _, e => nomatch e
  | _, _, _, .cons (d := .tup _) _ _, e => nomatch e
  | _, _, _, .cons (d := .lst _) _ _, e => nomatch e
  | _, _, _, .cons (d := .dct _) _ _, e => nomatch e
  | _, _, _, .cons (d := .obj _ _) _ _, e => nomatch e
  | _, _, _, .cons (d := .scr _) _ _, e => nomatch e
def gAll : D → Option D
  | .lst ds => (asBools ds).map fun bs => .bool (bs.all id)
  | _ => Option.none
def gAny : D → Option D
  | .lst ds => (asBools ds).map fun bs => .bool (bs.any id)
  | _ => Option.none
def gSum : D → Option D
  | .lst ds => (asInts ds).map fun bs => .int bs.sum
  | _ => Option.none
theorem c_all (hc : X.calm = true) : CallR X (.builtin "all") (rC1 X.w X.K cl gAll) := CallR.impl (cr_all hc) fun xs H Q ⟨x, d, r, v, e, is, hg, hs, q⟩ => by
  subst e
  cases d with
  | lst ds =>
    obtain ⟨bs, h1, h2⟩ := Option.map_eq_some_iff.mp (show (asBools ds).map (fun bs => D.bool (bs.all id)) = some r from hg)
    subst h2
    cases hs
    obtain ⟨a, us, e, h3, h4⟩ := is_lst is
    exact ⟨a, bs, by rw [e], .inl (.inl (by rw [← bools_is h4 h1]; exact h3)), q⟩
  | _ => cases hg
theorem c_any (hc : X.calm = true) : CallR X (.builtin "any") (rC1 X.w X.K cl gAny) := CallR.impl (cr_any hc) fun xs H Q ⟨x, d, r, v, e, is, hg, hs, q⟩ => by
  subst e
  cases d with
  | lst ds =>
    obtain ⟨bs, h1, h2⟩ := Option.map_eq_some_iff.mp (show (asBools ds).map (fun bs => D.bool (bs.any id)) = some r from hg)
    subst h2
    cases hs
    obtain ⟨a, us, e, h3, h4⟩ := is_lst is
    exact ⟨a, bs, by rw [e], .inl (.inl (by rw [← bools_is h4 h1]; exact h3)), q⟩
  | _ => cases hg
theorem c_sum (hc : X.calm = true) : CallR X (.builtin "sum") (rC1 X.w X.K cl gSum) := CallR.impl (cr_sum hc) fun xs H Q ⟨x, d, r, v, e, is, hg, hs, q⟩ => by
  subst e
  cases d with
  | lst ds =>
    obtain ⟨bs, h1, h2⟩ := Option.map_eq_some_iff.mp (show (asInts ds).map (fun bs => D.int bs.sum) = some r from hg)
    subst h2
    cases hs
    obtain ⟨a, us, e, h3, h4⟩ := is_lst is
    exact ⟨a, bs, by rw [e], .inl (.inl (by rw [← ints_is h4 h1]; exact h3)), q⟩
  | _ => cases hg
end
end Ws
set_option Elab.async false
set_option linter.all false
set_option maxRecDepth 100000
set_option maxHeartbeats 2000000
/-! Ws11: lists of one's own changed, new lists from others, divmod, in, isinstance. -/
namespace Ws
open PySem PySem.Spec PyProof.Rows L2

section
variable {w : World} {K : PySem.W.Frag} {cl : Nat → Addr} {M M1 M2 M0 : Addr → Prop} {ρ ρ1 : Env} {σ : L2.St} {H H0 H1 H2 H' : Hp} {f f0 f1 f2 : Fp} {rv : Rv} {v : V} {fw : List Addr}
theorem WAll.poke {l : Addr} {o : HO} : ∀ {xs : List V} {ws : List W} {fp : List Addr}, WAll w K cl M H xs ws fp → M l → l ∉ fp → WAll w K cl M (upd H l o) xs ws fp := fun h m n => h.stay (ext_poke m) fun a ha u e => by
  rw [upd_ne (fun z => n (by rw [← z]; exact ha))]
  exact e
theorem fp_head {l : Addr} {fp : List Addr} (h : (l :: fp).Nodup) : l ∉ fp := (List.nodup_cons.mp h).1
/-- a slot that holds a list of its own -/
theorem RS.ownLst {i : Nat} {ws : List W} (r : RS w K cl M ρ σ H f) (e : slotW ρ i = some (.lst ws)) : ∃ l xs fp, σ[i]? = some (some (.ref l)) ∧ H l = some (.lst xs) ∧ WAll w K cl M H xs ws fp ∧ f i = l :: fp ∧ M l ∧ l ∉ fp := by
  obtain ⟨u, hu, hw⟩ := r.slot i _ (slotW_some e)
  have : ∃ q, q = f i := ⟨_, rfl⟩
  obtain ⟨q, hq⟩ := this
  rw [← hq] at hw
  cases hw with
  | lst h1 h2 =>
    have nd := r.nd i
    rw [← hq] at nd
    exact ⟨_, _, _, hu, h1, h2, hq.symm, r.own i _ (by rw [← hq]; exact List.mem_cons_self), fp_head nd⟩
/-- .. is changed -/
theorem RS.putLst {i : Nat} {ws ws' : List W} {l : Addr} {xs' : List V} {fp : List Addr} (r : RS w K cl M ρ σ H f) (hσ : σ[i]? = some (some (.ref l))) (hf : f i = l :: fp) (hn : WAll w K cl M (upd H l (.lst xs')) xs' ws' fp) :
    RS w K cl M (ρ.set i (some (.lst ws'))) σ (upd H l (.lst xs')) f ∧ Step M H f M (upd H l (.lst xs')) f := by
  have ml : M l := r.own i l (by rw [hf]; exact List.mem_cons_self)
  refine ⟨⟨fun j y hy => ?_, fun j hj => ?_, r.nd, r.dj, r.own, fun a ha => ?_, by simpa using r.len⟩, ⟨fun b o h n => ?_, fun b o h => upd_there h, fun _ m _ => m, fun _ m => .inl m, fun _ _ h => .inl h⟩⟩
  · rcases set_get hy with ⟨e1, e2⟩ | ⟨e1, e2⟩
    · subst e1
      cases e2
      exact ⟨_, hσ, by rw [hf]; exact .lst upd_same hn⟩
    · obtain ⟨u, hu, hw⟩ := r.slot j y e2
      refine ⟨u, hu, hw.stay (ext_poke ml) fun a ha o h => ?_⟩
      rw [upd_ne (fun z => e1 (r.dj i j l (by rw [hf]; exact List.mem_cons_self) (by rw [← z]; exact ha)))]
      exact h
  · by_cases e : j = i
    · subst e
      exact absurd (List.getElem?_set_self (by rw [r.len]; exact (List.getElem?_eq_some_iff.mp hσ).1)) (hj _)
    · refine r.none j fun y hy => hj y ?_
      rw [List.getElem?_set_ne (Ne.symm e)]
      exact hy
  · obtain ⟨o, h⟩ := r.trk a ha
    exact upd_there h
  · rw [upd_ne (fun z => n i (by rw [hf, z]; exact List.mem_cons_self))]
    exact h
theorem WAll.snoc {y : V} {d : D} : ∀ {xs : List V} {ws : List W} {fp : List Addr}, WAll w K cl M H xs ws fp → Is w K cl M H y d → WAll w K cl M H (xs ++ [y]) (ws ++ [.leaf d]) fp
  | _, _, _, .nil, i => by
    have := WAll.cons (w := w) (K := K) (cl := cl) (M := M) (H := H) (WIs.leaf i) .nil
    simpa using this
  | _, _, _, .cons a t, i => .cons a (WAll.snoc t i)
theorem WAll.len : ∀ {xs : List V} {ws : List W} {fp : List Addr}, WAll w K cl M H xs ws fp → xs.length = ws.length
  | _, _, _, .nil => rfl
  | _, _, _, .cons _ t => by simp [WAll.len t]
end

section
variable {cl : Nat → Addr} {X : Cx} {np : Nat} {a b e : Expr} {es : List Expr} {pos p apos cpos xpos : Pos} {da db di d : Den Rv} {i : Nat} {x : Str}
def isLst : W → Bool
  | .lst _ => true
  | _ => false
def ownAt (ρ : Env) (i : Nat) : Option (List W) := match slotW ρ i with
  | some (.lst ws) => some ws
  | _ => Option.none
theorem ownAt_some {ρ : Env} {ws : List W} (h : ownAt ρ i = some ws) : slotW ρ i = some (.lst ws) := by
  unfold ownAt at h
  split at h
  · rename_i ws' e
    cases h
    exact e
  · cases h
theorem ty_list {K : PySem.W.Frag} {H : Hp} {l : Addr} {xs : List V} (h : H l = some (.lst xs)) : tyV K "list" (.ref l) H := .inl ⟨rfl, _, .inl (.inl h)⟩
/-- name.append(e) -/
def dAppend (i : Nat) (d : Den Rv) : Den Rv := fun ρ => (ownAt ρ i).bind fun _ => (dSh d ρ).bind fun r => (ownAt r.2 i).bind fun ws => if ws.length < sizeLine then some (.val (.leaf .none), r.2.set i (some (.lst (ws ++ [.leaf r.1])))) else Option.none
theorem de_append (hN : X.N[i]? = some x) (hv : Vis X.env.scope x) (hd : (x == ("__debug__" : Str)) = false) (hcd : (x == ("__classdict__" : Str)) = false) (he : DE cl X e d) (hs : starEach [e] X.env = (false, eval e X.env) :: starEach [] X.env := by rfl)
    (hbase : attributeBase (.Name x xpos) "append" X.env (eval (.Name x xpos) X.env) = eval (.Name x xpos) X.env := by rfl)
    (hfew : ((backTo cpos (starEach [e] X.env)).all (fun x => !x.1) && (backToKw cpos (keywordEach [] X.env)).all (fun x => x.1.isSome) && decide ([e].length + ([] : List Keyword).length + (if ([] : List Keyword).isEmpty then 0 else 1) < 30)) = true := by rfl)
    (hline : (apos.endLine == cpos.line) = true := by rfl) (hplain : (backTo cpos (starEach [] X.env)).any (·.1) = false := by rfl) : DE cl X (.Call (.Attribute (.Name x xpos) "append" apos) [e] [] cpos) (dAppend i d) :=
  pe_imp (pe_bm PySem.F.plainAttrs_list PySem.F.slot_list_append PySem.F.type_list_append mt_append (pe_var hN hv hd hcd) (pa_cons (de_sh he) pa_nil hs) hbase hfew hline hs hplain) fun σ H Q ⟨M, ρ, f, rv, ρ', rs, hd, k⟩ => by
    obtain ⟨ws0, h0, hd⟩ := Option.bind_eq_some_iff.mp hd
    obtain ⟨⟨dd, ρ1⟩, h1, hd⟩ := Option.bind_eq_some_iff.mp hd
    obtain ⟨ws, h2, hd⟩ := Option.bind_eq_some_iff.mp hd
    obtain ⟨l, xs, fp, q1, q2, q3, q4, q5, q6⟩ := rs.ownLst (ownAt_some h0)
    refine ⟨_, q1, ty_list q2, M, ρ, f, dd, ρ1, rs, h1, fun v M1 H1 f1 rs1 is1 st1 => ?_⟩
    obtain ⟨l', xs', fp', p1, p2, p3, p4, p5, p6⟩ := rs1.ownLst (ownAt_some h2)
    rw [q1] at p1
    cases p1
    have hd' : (if ws.length < sizeLine then some (Rv.val (.leaf .none), ρ1.set i (some (.lst (ws ++ [W.leaf dd])))) else Option.none) = some (rv, ρ') := hd
    by_cases c : ws.length < sizeLine
    · rw [if_pos c] at hd'
      cases hd'
      refine ⟨_, _, v, rfl, rfl, p2, by rw [p3.len]; exact c, ?_⟩
      obtain ⟨r2, s2⟩ := rs1.putLst (ws := ws) (ws' := ws ++ [.leaf dd]) (xs' := xs' ++ [v]) q1 p4 ((p3.poke p5 p6).snoc (is1.stay (ext_poke p5)))
      exact k .non M1 _ f1 [] r2 (rvB .non) (st1.trans rs.trk s2)
    · rw [if_neg c] at hd'
      cases hd'
/-- name.extend(e), e a list -/
def dExtend (i : Nat) (d : Den Rv) : Den Rv := fun ρ => (ownAt ρ i).bind fun _ => (dSh d ρ).bind fun r => (ownAt r.2 i).bind fun ws => (flatW ws).bind fun ds => match r.1 with
  | .lst es => if ds.length + es.length ≤ sizeLine then some (.val (.leaf .none), r.2.set i (some (.lst (leaves (ds ++ es))))) else Option.none
  | _ => Option.none
theorem de_extend (hN : X.N[i]? = some x) (hv : Vis X.env.scope x) (hd : (x == ("__debug__" : Str)) = false) (hcd : (x == ("__classdict__" : Str)) = false) (he : DE cl X e d) (hs : starEach [e] X.env = (false, eval e X.env) :: starEach [] X.env := by rfl)
    (hbase : attributeBase (.Name x xpos) "extend" X.env (eval (.Name x xpos) X.env) = eval (.Name x xpos) X.env := by rfl)
    (hfew : ((backTo cpos (starEach [e] X.env)).all (fun x => !x.1) && (backToKw cpos (keywordEach [] X.env)).all (fun x => x.1.isSome) && decide ([e].length + ([] : List Keyword).length + (if ([] : List Keyword).isEmpty then 0 else 1) < 30)) = true := by rfl)
    (hline : (apos.endLine == cpos.line) = true := by rfl) (hplain : (backTo cpos (starEach [] X.env)).any (·.1) = false := by rfl) : DE cl X (.Call (.Attribute (.Name x xpos) "extend" apos) [e] [] cpos) (dExtend i d) :=
  pe_imp (pe_bm PySem.F.plainAttrs_list PySem.F.slot_list_extend PySem.F.type_list_extend mt_extend (pe_var hN hv hd hcd) (pa_cons (de_sh he) pa_nil hs) hbase hfew hline hs hplain) fun σ H Q ⟨M, ρ, f, rv, ρ', rs, hd, k⟩ => by
    obtain ⟨ws0, h0, hd⟩ := Option.bind_eq_some_iff.mp hd
    obtain ⟨⟨dd, ρ1⟩, h1, hd⟩ := Option.bind_eq_some_iff.mp hd
    obtain ⟨ws, h2, hd⟩ := Option.bind_eq_some_iff.mp hd
    obtain ⟨ds, h3, hd⟩ := Option.bind_eq_some_iff.mp hd
    obtain ⟨l, xs, fp, q1, q2, q3, q4, q5, q6⟩ := rs.ownLst (ownAt_some h0)
    refine ⟨_, q1, ty_list q2, M, ρ, f, dd, ρ1, rs, h1, fun v M1 H1 f1 rs1 is1 st1 => ?_⟩
    obtain ⟨l', xs', fp', p1, p2, p3, p4, p5, p6⟩ := rs1.ownLst (ownAt_some h2)
    rw [q1] at p1
    cases p1
    obtain ⟨t1, t2, t3⟩ := wall_flat p3 h3
    cases dd with
    | lst es =>
      have hd' : (if ds.length + es.length ≤ sizeLine then some (Rv.val (.leaf .none), ρ1.set i (some (.lst (leaves (ds ++ es))))) else Option.none) = some (rv, ρ') := hd
      by_cases c : ds.length + es.length ≤ sizeLine
      · rw [if_pos c] at hd'
        cases hd'
        cases is1 with
        | lst e1 e2 e3 =>
          refine ⟨_, _, _, _, rfl, rfl, p2, e1, by rw [t1.length, e3.length]; exact c, ?_⟩
          obtain ⟨r2, s2⟩ := rs1.putLst (ws := ws) (ws' := leaves (ds ++ es)) (xs' := xs' ++ _) q1 p4 (by rw [t2]; exact wall_leaves ((t1.stay (ext_poke p5)).append (e3.stay (ext_poke p5))))
          exact k .non M1 _ f1 [] r2 (rvB .non) (st1.trans rs.trk s2)
      · rw [if_neg c] at hd'
        cases hd'
    | _ => cases hd
/-- name.pop(e) -/
def dPopAt (i : Nat) (d : Den Rv) : Den Rv := fun ρ => (ownAt ρ i).bind fun _ => (dSh d ρ).bind fun r => (ownAt r.2 i).bind fun ws => (flatW ws).bind fun ds => match r.1 with
  | .int j => if -(2 ^ 63) ≤ j ∧ j < 2 ^ 63 then (seqIndex? j ds.length).bind fun q => (ds[q]?).map fun z => (.val (.leaf z), r.2.set i (some (.lst (leaves (ds.eraseIdx q))))) else Option.none
  | _ => Option.none
theorem de_popAt (hN : X.N[i]? = some x) (hv : Vis X.env.scope x) (hd : (x == ("__debug__" : Str)) = false) (hcd : (x == ("__classdict__" : Str)) = false) (he : DE cl X e d) (hs : starEach [e] X.env = (false, eval e X.env) :: starEach [] X.env := by rfl)
    (hbase : attributeBase (.Name x xpos) "pop" X.env (eval (.Name x xpos) X.env) = eval (.Name x xpos) X.env := by rfl)
    (hfew : ((backTo cpos (starEach [e] X.env)).all (fun x => !x.1) && (backToKw cpos (keywordEach [] X.env)).all (fun x => x.1.isSome) && decide ([e].length + ([] : List Keyword).length + (if ([] : List Keyword).isEmpty then 0 else 1) < 30)) = true := by rfl)
    (hline : (apos.endLine == cpos.line) = true := by rfl) (hplain : (backTo cpos (starEach [] X.env)).any (·.1) = false := by rfl) : DE cl X (.Call (.Attribute (.Name x xpos) "pop" apos) [e] [] cpos) (dPopAt i d) :=
  pe_imp (pe_bm PySem.F.plainAttrs_list PySem.F.slot_list_pop PySem.F.type_list_pop mt_popAt (pe_var hN hv hd hcd) (pa_cons (de_sh he) pa_nil hs) hbase hfew hline hs hplain) fun σ H Q ⟨M, ρ, f, rv, ρ', rs, hd, k⟩ => by
    obtain ⟨ws0, h0, hd⟩ := Option.bind_eq_some_iff.mp hd
    obtain ⟨⟨dd, ρ1⟩, h1, hd⟩ := Option.bind_eq_some_iff.mp hd
    obtain ⟨ws, h2, hd⟩ := Option.bind_eq_some_iff.mp hd
    obtain ⟨ds, h3, hd⟩ := Option.bind_eq_some_iff.mp hd
    obtain ⟨l, xs, fp, q1, q2, q3, q4, q5, q6⟩ := rs.ownLst (ownAt_some h0)
    refine ⟨_, q1, ty_list q2, M, ρ, f, dd, ρ1, rs, h1, fun v M1 H1 f1 rs1 is1 st1 => ?_⟩
    obtain ⟨l', xs', fp', p1, p2, p3, p4, p5, p6⟩ := rs1.ownLst (ownAt_some h2)
    rw [q1] at p1
    cases p1
    obtain ⟨t1, t2, t3⟩ := wall_flat p3 h3
    cases dd with
    | int j =>
      have hd' : (if -(2 ^ 63) ≤ j ∧ j < 2 ^ 63 then (seqIndex? j ds.length).bind (fun q => (ds[q]?).map fun z => (Rv.val (.leaf z), ρ1.set i (some (.lst (leaves (ds.eraseIdx q)))))) else Option.none) = some (rv, ρ') := hd
      by_cases c : -(2 ^ 63) ≤ j ∧ j < 2 ^ 63
      · rw [if_pos c] at hd'
        obtain ⟨q, g1, hd'⟩ := Option.bind_eq_some_iff.mp hd'
        obtain ⟨z, g2, hd'⟩ := Option.map_eq_some_iff.mp hd'
        cases hd'
        obtain ⟨u, g3, g4⟩ := t1.get g2
        refine ⟨_, _, j, q, u, rfl, by rw [is_int is1], p2, c.1, c.2, by rw [t1.length]; exact g1, g3, ?_⟩
        obtain ⟨r2, s2⟩ := rs1.putLst (ws := ws) (ws' := leaves (ds.eraseIdx q)) (xs' := xs'.eraseIdx q) q1 p4 (by rw [t2]; exact wall_leaves ((t1.stay (ext_poke p5)).eraseIdx q))
        exact k u M1 _ f1 [] r2 (rvB (g4.stay (rs1.ext s2))) (st1.trans rs.trk s2)
      · rw [if_neg c] at hd'
        cases hd'
    | _ => cases hd
/-- name.pop() -/
def dPop (i : Nat) : Den Rv := fun ρ => (ownAt ρ i).bind fun ws => (flatW ws).bind fun ds => (ds[ds.length - 1]?).map fun z => (.val (.leaf z), ρ.set i (some (.lst (leaves ds.dropLast))))
theorem de_pop (hN : X.N[i]? = some x) (hv : Vis X.env.scope x) (hd : (x == ("__debug__" : Str)) = false) (hcd : (x == ("__classdict__" : Str)) = false)
    (hbase : attributeBase (.Name x xpos) "pop" X.env (eval (.Name x xpos) X.env) = eval (.Name x xpos) X.env := by rfl) (hline : (apos.endLine == cpos.line) = true := by rfl) : DE cl X (.Call (.Attribute (.Name x xpos) "pop" apos) [] [] cpos) (dPop i) :=
  pe_imp (pe_bm0 PySem.F.plainAttrs_list PySem.F.slot_list_pop PySem.F.type_list_pop mt_pop (pe_var hN hv hd hcd) hbase hline) fun σ H Q ⟨M, ρ, f, rv, ρ', rs, hd, k⟩ => by
    obtain ⟨ws, h0, hd⟩ := Option.bind_eq_some_iff.mp hd
    obtain ⟨ds, h3, hd⟩ := Option.bind_eq_some_iff.mp hd
    obtain ⟨z, g2, hd⟩ := Option.map_eq_some_iff.mp hd
    cases hd
    obtain ⟨l, xs, fp, q1, q2, q3, q4, q5, q6⟩ := rs.ownLst (ownAt_some h0)
    obtain ⟨t1, t2, t3⟩ := wall_flat q3 h3
    obtain ⟨u, g3, g4⟩ := t1.get g2
    obtain ⟨r2, s2⟩ := rs.putLst (ws := ws) (ws' := leaves ds.dropLast) (xs' := xs.dropLast) q1 q4 (by rw [t2]; exact wall_leaves ((t1.stay (ext_poke q5)).dropLast))
    exact ⟨_, q1, ty_list q2, l, xs, u, rfl, rfl, q2, by rw [t1.length]; exact g3, k u M _ f [] r2 (rvB (g4.stay (rs.ext s2))) s2⟩
/-- name[e] = .. of a list of one's own -/
def gIx (i : Nat) (di : Den Rv) : DenG := fun d ρ => (ownAt ρ i).bind fun _ => (dSh di ρ).bind fun r => (ownAt r.2 i).bind fun ws => (flatW ws).bind fun ds => match r.1 with
  | .int j => (ixN ds.length j).map fun q => r.2.set i (some (.lst (leaves (ds.set q d))))
  | _ => Option.none
theorem dg_ix (hN : X.N[i]? = some x) (hv : Vis X.env.scope x) (hd : (x == ("__debug__" : Str)) = false) (hcd : (x == ("__classdict__" : Str)) = false) (he : DE cl X e di)
    (hA : ∀ new, assign (.Subscript (.Name x xpos) e pos) X.env new = (do
      let ov ← holding [new] (eval (.Name x xpos) X.env)
      let iv ← holding [new, ov] (eval e X.env)
      standAt pos
      holding [new, ov, iv] (setItem ov iv new)
      release [new, ov, iv] []) := by intro _; rfl) : DG cl X (.Subscript (.Name x xpos) e pos) [] (gIx i di) :=
  pg_imp (pg_sub (pe_var hN hv hd hcd) (de_sh he) set_list hA) fun v σ H Q ⟨M, ρ, f, d, ρ', rs, is, hd, k⟩ => by
    obtain ⟨ws0, h0, hd⟩ := Option.bind_eq_some_iff.mp hd
    obtain ⟨⟨dd, ρ1⟩, h1, hd⟩ := Option.bind_eq_some_iff.mp hd
    obtain ⟨ws, h2, hd⟩ := Option.bind_eq_some_iff.mp hd
    obtain ⟨ds, h3, hd⟩ := Option.bind_eq_some_iff.mp hd
    obtain ⟨l, xs, fp, q1, q2, q3, q4, q5, q6⟩ := rs.ownLst (ownAt_some h0)
    refine ⟨_, q1, M, ρ, f, dd, ρ1, rs, h1, fun u M1 H1 f1 rs1 is1 st1 => ?_⟩
    obtain ⟨l', xs', fp', p1, p2, p3, p4, p5, p6⟩ := rs1.ownLst (ownAt_some h2)
    rw [q1] at p1
    cases p1
    obtain ⟨t1, t2, t3⟩ := wall_flat p3 h3
    have is' := is.stay (rs.ext st1)
    cases dd with
    | int j =>
      obtain ⟨q, g1, hd⟩ := Option.map_eq_some_iff.mp (show (ixN ds.length j).map (fun q => ρ1.set i (some (.lst (leaves (ds.set q d))))) = some ρ' from hd)
      subst hd
      refine ⟨_, _, j, q, rfl, is_int is1, p2, by rw [t1.length]; exact g1, ?_⟩
      obtain ⟨r2, s2⟩ := rs1.putLst (ws := ws) (ws' := leaves (ds.set q d)) (xs' := xs'.set q v) q1 p4 (by rw [t2]; exact wall_leaves (IsL.set (is'.stay (ext_poke p5)) q (t1.stay (ext_poke p5))))
      exact k σ M1 _ f1 r2 (st1.trans rs.trk s2) Off.refl
    | _ => cases hd

/-! ### new lists and tuples from others -/
def dList (d : Den Rv) : Den Rv := fun ρ => (d ρ).bind fun x => (itemsR x.2 x.1).map fun q => (ownL q.2, x.2)
theorem de_list (hg : Gl X "list") (hm : X.mg "list" = none) (ha : DE cl X e d) (he : starEach [e] X.env = (false, eval e X.env) :: starEach [] X.env := by rfl) (hpl : (backTo pos (starEach [] X.env)).any (·.1) = false := by rfl) : DE cl X (.Call (.Name "list" p) [e] [] pos) (dList d) :=
  pe_imp (pe_callTy call_list_of hg hm (by decide +kernel) (pa_cons ha pa_nil he) (by decide) (by decide) he hpl) fun σ H Q ⟨M, ρ, f, rv, ρ', rs, hd, k⟩ => by
    obtain ⟨⟨x, ρ1⟩, h1, hd⟩ := Option.bind_eq_some_iff.mp hd
    obtain ⟨⟨b, ds⟩, h2, hd⟩ := Option.map_eq_some_iff.mp hd
    cases hd
    refine ⟨M, ρ, f, x, _, rs, h1, fun v M1 H1 f1 fw rs1 ok1 st1 => ?_⟩
    obtain ⟨a, xs, e1, e2, e3⟩ := ok1.items rs1 h2
    refine ⟨a, xs, by rw [e1], ?_, fun l nl => ?_⟩
    · cases b
      · exact .inr e2
      · exact .inl e2
    · obtain ⟨r4, ok4, s4⟩ := fin_lst rs1 nl (st1.back nl) e3
      exact k _ _ _ _ _ r4 ok4 (st1.trans rs.trk s4)
def dTuple (d : Den Rv) : Den Rv := fun ρ => (d ρ).bind fun x => (itemsR x.2 x.1).map fun q => (.val (.leaf (.tup q.2)), x.2)
theorem de_tuple (hg : Gl X "tuple") (hm : X.mg "tuple" = none) (ha : DE cl X e d) (he : starEach [e] X.env = (false, eval e X.env) :: starEach [] X.env := by rfl) (hpl : (backTo pos (starEach [] X.env)).any (·.1) = false := by rfl) : DE cl X (.Call (.Name "tuple" p) [e] [] pos) (dTuple d) :=
  pe_imp (pe_callTy call_tuple_of hg hm (by decide +kernel) (pa_cons ha pa_nil he) (by decide) (by decide) he hpl) fun σ H Q ⟨M, ρ, f, rv, ρ', rs, hd, k⟩ => by
    obtain ⟨⟨x, ρ1⟩, h1, hd⟩ := Option.bind_eq_some_iff.mp hd
    obtain ⟨⟨b, ds⟩, h2, hd⟩ := Option.map_eq_some_iff.mp hd
    cases hd
    refine ⟨M, ρ, f, x, _, rs, h1, fun v M1 H1 f1 fw rs1 ok1 st1 => ?_⟩
    cases b with
    | true =>
      obtain ⟨a, xs, e1, e2, e3⟩ := ok1.items rs1 h2
      refine ⟨a, xs, by rw [e1], .inl ⟨e2, fun l nl => ?_⟩⟩
      obtain ⟨r4, is4, s4⟩ := fin_tup rs1 nl e3
      exact k _ _ _ _ [] r4 (rvB is4) (st1.trans rs.trk s4)
    | false =>
      have it := rv_tup rs1 ok1 h2
      obtain ⟨a, xs, e1, e3, e2⟩ := sqt_of_is it
      subst e1
      exact ⟨a, xs, rfl, .inr ⟨e2 _ _ Ext.refl, k _ M1 H1 f1 [] rs1 (rvB it) st1⟩⟩
/-- divmod by a positive divisor -/
def dDivmod (da db : Den Rv) : Den Rv := fun ρ => (da ρ).bind fun x => (db x.2).bind fun y => (viewR y.2 x.1).bind fun dx => (viewR y.2 y.1).bind fun dy => match dx, dy with
  | .int i, .int j => if 0 < j ∧ j < 1073741824 then some (.val (.leaf (.tup [.int (i / j), .int (i % j)])), y.2) else Option.none
  | _, _ => Option.none
theorem de_divmod (hg : Gl X "divmod") (hm : X.mg "divmod" = none) (ha : DE cl X a da) (hb : DE cl X b db)
    (he : starEach [a, b] X.env = (false, eval a X.env) :: starEach [b] X.env := by rfl) (he2 : starEach [b] X.env = (false, eval b X.env) :: starEach [] X.env := by rfl) (hpl : (backTo pos (starEach [b] X.env)).any (·.1) = false := by rfl) : DE cl X (.Call (.Name "divmod" p) [a, b] [] pos) (dDivmod da db) :=
  pe_imp (pe_callB call_divmod hg hm (by decide +kernel) (pa_cons ha (pa_cons hb pa_nil he2) he) (by decide) (by decide) he hpl) fun σ H Q ⟨M, ρ, f, rv, ρ', rs, hd, k⟩ => by
    obtain ⟨⟨x, ρ1⟩, h1, hd⟩ := Option.bind_eq_some_iff.mp hd
    obtain ⟨⟨y, ρ2⟩, h2, hd⟩ := Option.bind_eq_some_iff.mp hd
    obtain ⟨dx, h3, hd⟩ := Option.bind_eq_some_iff.mp hd
    obtain ⟨dy, h4, hd⟩ := Option.bind_eq_some_iff.mp hd
    refine ⟨M, ρ, f, x, ρ1, rs, h1, fun v1 M1 H1 f1 fw1 rs1 ok1 st1 => ⟨M1, ρ1, f1, y, ρ2, rs1, h2, fun v2 M2 H2 f2 fw2 rs2 ok2 st2 => ?_⟩⟩
    have i1 := (ok1.carry rs1 st2).view rs2 h3
    have i2 := ok2.view rs2 h4
    cases dx with
    | int i =>
      cases dy with
      | int j =>
        have hd' : (if 0 < j ∧ j < 1073741824 then some (Rv.val (.leaf (.tup [.int (i / j), .int (i % j)])), ρ2) else Option.none) = some (rv, ρ') := hd
        by_cases c : 0 < j ∧ j < 1073741824
        · rw [if_pos c] at hd'
          cases hd'
          refine ⟨i, j, by rw [is_int i1, is_int i2], ⟨c.1, c.2⟩, fun q nq => ?_⟩
          obtain ⟨r4, is4, s4⟩ := fin_tup rs2 nq (IsL.cons (Is.int (i / j)) (IsL.cons (Is.int (i % j)) IsL.nil))
          exact k _ _ _ _ [] r4 (rvB is4) ((st1.trans rs.trk st2).trans rs.trk s4)
        · rw [if_neg c] at hd'
          cases hd'
      | _ => cases hd
    | _ => cases hd

/-! ### x in xs -/
def gInL (neg : Bool) : D → D → Option D := fun x y => match y with
  | .lst ds => (toPy x).bind fun p => (toPys ds).bind fun qs => if SeqAt.shaped p = true ∧ SeqAt.shaped (.list qs) = true then some (.bool (if neg = true then !(qs.any fun z => PyData.eqv z p) else qs.any fun z => PyData.eqv z p)) else Option.none
  | _ => Option.none
theorem gInL_some {neg : Bool} {x y r : D} (h : gInL neg x y = some r) : ∃ ds p qs, y = .lst ds ∧ toPy x = some p ∧ toPys ds = some qs ∧ SeqAt.shaped p = true ∧ SeqAt.shaped (.list qs) = true ∧ r = .bool (if neg = true then !(qs.any fun z => PyData.eqv z p) else qs.any fun z => PyData.eqv z p) := by
  cases y with
  | lst ds =>
    obtain ⟨p, h1, h⟩ := Option.bind_eq_some_iff.mp h
    obtain ⟨qs, h2, h⟩ := Option.bind_eq_some_iff.mp h
    by_cases c : SeqAt.shaped p = true ∧ SeqAt.shaped (.list qs) = true
    · rw [if_pos c] at h
      exact ⟨ds, p, qs, rfl, h1, h2, c.1, c.2, (Option.some.inj h).symm⟩
    · rw [if_neg c] at h
      cases h
  | _ => cases h
theorem o_in (hu : X.A.units + 65 < cLine) : OpR X (compareOp .In) (rV2 X.w X.K cl (gInL false)) :=
  opr_imp (op_inD hu) fun x y H Q ⟨dx, dy, r, v, hx, hy, e, s, q⟩ => by
    obtain ⟨ds, p, qs, rfl, e1, e2, s1, s2, rfl⟩ := gInL_some e
    cases s
    exact ⟨p, qs, is_dp hx e1, is_dp hy (by rw [toPy, e2]; rfl), s1, s2, q⟩
theorem o_notin (hu : X.A.units + 65 < cLine) : OpR X (compareOp .NotIn) (rV2 X.w X.K cl (gInL true)) :=
  opr_imp (op_notInD hu) fun x y H Q ⟨dx, dy, r, v, hx, hy, e, s, q⟩ => by
    obtain ⟨ds, p, qs, rfl, e1, e2, s1, s2, rfl⟩ := gInL_some e
    cases s
    exact ⟨p, qs, is_dp hx e1, is_dp hy (by rw [toPy, e2]; rfl), s1, s2, q⟩
end
end Ws
set_option Elab.async false
set_option linter.all false
set_option maxRecDepth 100000
set_option maxHeartbeats 4000000
/-! Ws12: exceptions of own classes over any built-in base: made, held, read, asked. -/
namespace PySem
namespace XKW
open Builtin Builtin.ObjectAttr PySem.HandSPX
section
variable {M : Model} {A : Around} {E : Value → Shared → Prop} {h : Heap} {g : Array GenState} {d : Drawn} {t : Nat} {os : OsState}
variable {nm q : Str} {C N : Addr} {bs bm bmB : List Value} {hdct : Bool} {sn : List Str} {sub : List Value} {ab : Bool} {col : Option Bool} {dd : Option Addr} {k0 k1 k2 k3 k5 : Option Value} {B newId initId : String} {kw : List (Str × Value)}
theorem check_new_kw (F : ExcBaseFacts B newId initId bmB) (hT : ∀ X : String, bm.contains (.type X) = bmB.contains (.type X)) {rest : List Value} {Q : Unit → Shared → Prop}
    (hC : h.get? C = some (excClassObj nm q C N bs bm hdct sn sub ab col dd k0 k1 k2 k3 k5 newId)) (hq : Q () ⟨h, g, d, t, os⟩) : wpAny M A (checkBuiltinCall newId ⟨.ref C :: rest, kw⟩) Q E ⟨h, g, d, t, os⟩ := by
  have hcont : (Value.ref C :: bm).contains (.type B) = true := by rw [List.contains_cons, hT, F.hasB, Bool.or_true]
  have hstar := F.noStar
  simp only [checkBuiltinCall, F.newKind, F.newSplit, F.newRow]
  repeat (first | refine wpAny_loadPart_at hC ?_ | (refine wpAny_isSubtype_exc hC ?_; rw [hcont]) | refine wpAny_staticBase_exc hC ?_ | refine wpAny_madeBy_exc hC ?_ | simp only [bne_self_eq_false, Bool.false_eq_true, if_false] | wp_step)
  exact hq
end
section
variable {prog : Program} {w : World} {A : Around} {E : Value → Shared → Prop} {R : Result → Shared → Prop} {h : Heap} {g : Array GenState} {d : Drawn} {t : Nat} {os : OsState}
variable {nm q : Str} {C N : Addr} {bs bm bmB : List Value} {hdct : Bool} {sn : List Str} {sub : List Value} {ab : Bool} {col : Option Bool} {dd : Option Addr} {k0 k1 k2 k3 k5 : Option Value} {B newId initId : String} {kw : List (Str × Value)}

theorem new_kw (F : ExcBaseFacts B newId initId bmB) (hT : ∀ X : String, bm.contains (.type X) = bmB.contains (.type X)) {rest : List Value}
    (hC : h.get? C = some (excClassObj nm q C N bs bm hdct sn sub ab col dd k0 k1 k2 k3 k5 newId))
    (hq : R (.ok (.ret (.ref (h.objs.size + 1)))) ⟨(h.push { cls := .type "tuple", data := .seq rest.toArray }).push
      { cls := .ref C, data := .fields #[.ref h.objs.size, .none, .none, .none, .bool false, .none] }, g, d, t, os⟩) (hrest : rest.length ≤ sizeLine) :
    codeAny (model prog w) A (.builtin newId ⟨.ref C :: rest, kw⟩) R ⟨h, g, d, t, os⟩ := by
  have hends := F.ends
  have hcB : (Value.ref C :: bm).contains (.type B) = true := by rw [List.contains_cons, hT, F.hasB, Bool.or_true]
  have hcA : (Value.ref C :: bm).contains (.type "AttributeError") = false := by rw [List.contains_cons, hT, F.noAttr]; rfl
  have hcN : (Value.ref C :: bm).contains (.type "NameError") = false := by rw [List.contains_cons, hT, F.noName]; rfl
  refine codeAny_builtinAt F.entry ?_
  unfold Builtin.«BaseException.__new__»
  refine wpAt_bind ?_
  show wpAt _ _ _ (stack >>= _) _ _ _
  refine wpAt_bind (wpAt_stack fun p below => wpAt_of_wpAny ?_)
  wp_walk
  refine wpAt_of_wpAny ?_
  rw [F.owner]
  repeat (first | with_reducible refine wpAny_madeHere_exc F.canon hC ?_ | with_reducible refine wpAny_loadPart_at hC ?_ | (with_reducible refine wpAny_isSubtype_exc hC ?_; first | rw [hcB] | rw [hcA] | rw [hcN]) | wp_step)
  show R _ _
  rw [Heap.size_push]
  exact hq

theorem type_call_kw (F : ExcBaseFacts B newId initId bmB) (hT : ∀ X : String, bm.contains (.type X) = bmB.contains (.type X)) {rest : List Value} {fI : Addr} {Q : Fin → Shared → Prop}
    (hC : h.get? C = some (excClassObj nm q C N bs bm hdct sn sub ab col dd k0 k1 k2 k3 k5 newId))
    (hi : W.Looks (model prog w) h (typeLookup (.ref C) "__init__") (some (.ref fI))) (hb : ∀ self, W.Looks (model prog w) h (bindSpecial (.ref fI) self) (.ref fI, [self])) (hrest : rest.length ≤ sizeLine)
    (hq : codeAny (model prog w) A (.call (.ref fI) ⟨.ref (h.objs.size + 1) :: rest, kw⟩)
      (fun r s' => match r with | .ok (.ret v) => v = .none ∧ Q (.done (.ret (.ref (h.objs.size + 1)))) s' | .ok _ => False | .error e => E e s')
      ⟨(h.push (W.kdv_tup rest)).push (excO C h.objs.size), g, d, t, os⟩) :
    wpAny (model prog w) A (Builtin.«type.__call__» ⟨.ref C :: rest, kw⟩) Q E ⟨h, g, d, t, os⟩ := by
  repeat (first | with_reducible refine wpAny_loadPart_at hC ?_ | with_reducible refine wpAny_madeBy_exc hC ?_ | wp_step)
  refine codeAny_call_builtin_code (Code.quiet_builtin _ F.quiet) (check_new_kw F hT hC ?_)
  refine new_kw F hT hC ?_ hrest
  show wpAny _ _ _ _ _ _
  have k : ∀ b o, h.get? b = some o → ((h.push (W.kdv_tup rest)).push (excO C h.objs.size)).get? b = some o := fun b o e => Heap.get?_push_of_some _ (Heap.get?_push_of_some _ e)
  have hC₁ := k _ _ hC
  have hget : ((h.push (W.kdv_tup rest)).push (excO C h.objs.size)).get? (h.objs.size + 1) = some (excO C h.objs.size) := by heap_get
  have hcC : (Value.ref C :: bm).contains (.ref C) = true := by simp
  have i1 := hi.keeps k
  have b1 := (hb (.ref (h.objs.size + 1))).keeps k
  unfold isInstance
  repeat (first | with_reducible refine wpAny_loadPart_at hget ?_ | (with_reducible refine wpAny_isSubtype_exc hC₁ ?_; rw [hcC]) | wp_step)
  show wpAny _ _ (typeLookup (.ref C) _) _ _ _
  refine i1.at ?_
  refine wpAny_holding (wpAny_bind (b1.at ?_))
  refine wpAny_bind (wpAny_call (codeAny_mono hq fun r s' z => ?_))
  rcases r with e | (v | _ | _ | _) <;> first | exact z | exact z.elim | skip
  obtain ⟨rfl, z⟩ := z
  first
    | exact wpAny_pure (wpAny_pure z)
    | (wp_walk; exact z)
theorem check_tc_kw {M : Model} {A : Around} {E : Value → Shared → Prop} {h : Heap} {g : Array GenState} {d : Drawn} {t : Nat} {os : OsState} {rest : List Value} {Q : Unit → Shared → Prop} (hC : h.get? C = some (excClassObj nm q C N bs bm hdct sn sub ab col dd k0 k1 k2 k3 k5 newId))
    (hq : Q () ⟨h, g, d, t, os⟩) : wpAny M A (checkBuiltinCall "type.__call__" ⟨.ref C :: rest, kw⟩) Q E ⟨h, g, d, t, os⟩ := by
  have f3 := tc_sub
  have hT : (⟨h, g, d, t, os⟩ : Shared).TypeIs (.ref C) "type" := ⟨_, hC, rfl⟩
  simp only [checkBuiltinCall, tc_kind, tc_split]
  repeat (any_goals (first | assumption | with_reducible refine wpAny_loadPart_at hC ?_ | with_reducible refine wpAny_onRaise ?_ | with_reducible refine wpAny_map ?_ | wp_step))
theorem call_kw (F : ExcBaseFacts B newId initId bmB) (hT : ∀ X : String, bm.contains (.type X) = bmB.contains (.type X)) {rest : List Value} {fI : Addr}
    (hC : h.get? C = some (excClassObj nm q C N bs bm hdct sn sub ab col dd k0 k1 k2 k3 k5 newId))
    (hi : W.Looks (model prog w) h (typeLookup (.ref C) "__init__") (some (.ref fI))) (hb : ∀ self, W.Looks (model prog w) h (bindSpecial (.ref fI) self) (.ref fI, [self])) (hrest : rest.length ≤ sizeLine)
    (hq : codeAny (model prog w) (A.under (.builtin "type.__call__" ⟨.ref C :: rest, kw⟩)) (.call (.ref fI) ⟨.ref (h.objs.size + 1) :: rest, kw⟩) (W.InitBack (h.objs.size + 1) R)
      ⟨(h.push (W.kdv_tup rest)).push (excO C h.objs.size), g, d, t, os⟩) :
    codeAny (model prog w) A (.call (.ref C) ⟨rest, kw⟩) R ⟨h, g, d, t, os⟩ := by
  have f1 := tc_lookup
  have f2 := tc_bind (.ref C)
  have hTy : (⟨h, g, d, t, os⟩ : Shared).TypeIs (.ref C) "type" := ⟨_, hC, rfl⟩
  refine codeAny_of_tree ?_
  show wpAny _ _ (callAny (.ref C) _) _ _ _
  repeat (any_goals (first | assumption | with_reducible refine wpAny_loadPart_at hC ?_ | wp_step))
  refine ⟨rfl, ?_⟩
  refine codeAny_call_builtin_at (Code.quiet_builtin _ (by decide +kernel)) entry_typeCall (check_tc_kw hC (type_call_kw F hT hC hi hb hrest ?_))
  refine codeAny_mono hq fun r s' z => ?_
  rcases r with e | (v | _ | _ | _) <;> exact z
end
end XKW
end PySem


namespace Ws
open PySem PySem.Spec PyProof.Rows L2 Builtin Builtin.ObjectAttr

/-! ### a class's line: own classes, then a built-in line -/
theorem refsT_cases {tl : List Value} : ∀ l : List Value, refsT tl l = true → (∃ c r, l = .ref c :: r ∧ refsT tl r = true) ∨ l = tl
  | [], e => .inr (beq_iff_eq.mp e)
  | .ref c :: r, e => .inl ⟨c, r, rfl, e⟩
  | .none :: _, e => .inr (beq_iff_eq.mp e)
  | .ellipsis :: _, e => .inr (beq_iff_eq.mp e)
  | .notImplemented :: _, e => .inr (beq_iff_eq.mp e)
  | .bool _ :: _, e => .inr (beq_iff_eq.mp e)
  | .int _ _ :: _, e => .inr (beq_iff_eq.mp e)
  | .float _ _ :: _, e => .inr (beq_iff_eq.mp e)
  | .str _ _ :: _, e => .inr (beq_iff_eq.mp e)
  | .bytes _ _ :: _, e => .inr (beq_iff_eq.mp e)
  | .type _ :: _, e => .inr (beq_iff_eq.mp e)
  | .builtin _ :: _, e => .inr (beq_iff_eq.mp e)
/-- what is asked of a built-in base -/
structure XBase (B newId initId : String) (tl : List Value) : Prop where
  F : ExcBaseFacts B newId initId tl
  pass : ∀ self, refuseLoop self "__setattr__" tl = pure ()
  obj : tl.contains (.type "object") = true
  ne : tl.isEmpty = false
theorem xb_VE : XBase "ValueError" "ValueError.__new__" "ValueError.__init__" [.type "ValueError", .type "Exception", .type "BaseException", .type "object"] := ⟨F.excBase_ValueError, F.store_ValueError.passes, by decide +kernel, rfl⟩
theorem xb_LE : XBase "LookupError" "LookupError.__new__" "LookupError.__init__" [.type "LookupError", .type "Exception", .type "BaseException", .type "object"] := ⟨F.excBase_LookupError, F.store_LookupError.passes, by decide +kernel, rfl⟩
theorem xb_RE : XBase "RuntimeError" "RuntimeError.__new__" "RuntimeError.__init__" [.type "RuntimeError", .type "Exception", .type "BaseException", .type "object"] := ⟨F.excBase_RuntimeError, F.store_RuntimeError.passes, by decide +kernel, rfl⟩
theorem xb_AE : XBase "ArithmeticError" "ArithmeticError.__new__" "ArithmeticError.__init__" [.type "ArithmeticError", .type "Exception", .type "BaseException", .type "object"] := ⟨F.excBase_ArithmeticError, F.store_ArithmeticError.passes, by decide +kernel, rfl⟩
section
variable {B newId initId : String} {tl : List Value}
theorem refsT_pass (XB : XBase B newId initId tl) (self : Value) : ∀ l : List Value, refsT tl l = true → refuseLoop self "__setattr__" l = pure () := by
  intro l
  induction l with
  | nil =>
    intro e
    rcases refsT_cases [] e with ⟨c, r', q, h⟩ | q
    · cases q
    · rw [q]; exact XB.pass self
  | cons a r ih =>
    intro e
    rcases refsT_cases (a :: r) e with ⟨c, r', q, h⟩ | q
    · obtain ⟨rfl, rfl⟩ := List.cons.inj q
      rw [refuseLoop_ref]; exact ih h
    · rw [q]; exact XB.pass self
theorem refsT_contains (X : String) : ∀ l : List Value, refsT tl l = true → l.contains (.type X) = tl.contains (.type X) := by
  intro l
  induction l with
  | nil =>
    intro e
    rcases refsT_cases [] e with ⟨c, r', q, h⟩ | q
    · cases q
    · rw [q]
  | cons a r ih =>
    intro e
    rcases refsT_cases (a :: r) e with ⟨c, r', q, h⟩ | q
    · obtain ⟨rfl, rfl⟩ := List.cons.inj q
      rw [List.contains_cons, ih h]; rfl
    · rw [q]
theorem refsT_ne (XB : XBase B newId initId tl) {l : List Value} (e : refsT tl l = true) : l.isEmpty = false := by
  cases l with
  | nil =>
    rcases refsT_cases [] e with ⟨c, r', q, h⟩ | q
    · cases q
    · rw [q]; exact XB.ne
  | cons _ _ => rfl
end

section
open PySem.W PySem.Calls PySem.HandSPX
variable {prog : Program} {w : World} {A : Around} {E : Value → Shared → Prop} {R : Result → Shared → Prop} {hp : Heap} {g : Array GenState} {d : Drawn} {t : Nat} {os : OsState} {B newId initId : String} {tl : List Value}
theorem osa_oldT (XB : XBase B newId initId tl) {K : PySem.W.Frag} {name : Str} {tk : Tok} {v : Value} {x C dx : Addr} {fv : Array Value} {cd : ClassData} {m0 : Str → Option Value} {nl : List Str}
    (X : K.In hp) (hx : hp.get? x = some { cls := .ref C, dict := some dx, data := .fields fv }) (hns : hp.Ns1 dx m0) (hw : Within m0 nl) (hz : nl.length ≤ 1000) (hcd : PySem.W.clsIn K C = some cd) (hm : refsT tl cd.mro = true) (hh : cd.hasDict = true)
    (ha : PySem.W.findIn K (.ref C) name = some none)
    (hq : ∀ h' tk', (∀ b o, b ≠ dx → hp.get? b = some o → h'.get? b = some o) → h'.Ns1 dx (fun y => if y = name then some v else m0 y) → R (.ok (.ret .none)) ⟨h', g, d, tk', os⟩) :
    codeAny (model prog w) A (.call (.builtin "object.__setattr__") ⟨[.ref x, .str name tk, v], []⟩) R ⟨hp, g, d, t, os⟩ := by
  obtain ⟨oD, esD, epD, hoD, hdD, _⟩ := hns.count hw
  have I : PySem.W.InstAt hp x { cls := .ref C, dict := some dx, data := .fields fv } C (some oD) := ⟨hx, rfl, rfl, hoD⟩
  have SF := PySem.F.store_object
  have ne := refsT_ne XB hm
  have hob : cd.mro.contains (.type "object") = true := (refsT_contains "object" _ hm).trans XB.obj
  have sub : PySem.W.Looks (model prog w) hp (isInstance (.ref x) (.type "object")) true := I.type.andThen (PySem.W.looks_mroIn X (by unfold PySem.W.mroIn; rw [hcd, Option.bind_some, if_neg (by rw [ne]; decide), hob]))
  refine codeAny_call_builtin SF.slot.plain SF.entry (@PySem.W.check_slot (model prog w) _ _ ⟨hp, g, d, t, os⟩ "object.__setattr__" "object" "__setattr__" (.ref x) [.str name tk, v] [] _ SF.kind SF.split sub (SF.args (.ref x) (.str name tk) v) ?_)
  have hmr : PySem.W.Looks (model prog w) hp (mroOf (.ref C)) cd.mro := (PySem.W.looks_clsIn X hcd).andThen .now
  have L3 : PySem.W.Looks (model prog w) hp (storeTaker? none) none := .now
  have hcls : PySem.W.Looks (model prog w) hp (classData C) cd := PySem.W.looks_clsIn X hcd
  rw [PySem.W.osa_eq, refuse_eq]
  refine wpAny_bind (wpAny_bind (I.type.at (wpAny_bind (hmr.at ?_))))
  rw [refsT_pass XB _ _ hm]
  refine wpAny_pure (wpAny_bind (I.type.at (wpAny_bind ((PySem.W.looks_findIn X ha).at (wpAny_bind (L3.at ?_))))))
  show wpAny _ _ (storeInOwnDict (.ref x) (.ref C) (.str name tk) name v false) _ _ _
  obtain ⟨nm, bs, mro, ns, qn, hd, sn, sb, ab, col, del⟩ := cd
  dsimp only at hh
  subst hh
  unfold storeInOwnDict ownDictForStores
  repeat (first | with_reducible refine PySem.OEX.store_in_old hns hw hz ?_ | with_reducible refine wpAny_loadPart_at hx ?_ | with_reducible refine hcls.at ?_ | wp_step)
  intro h' tk' hn' hs
  exact hq h' tk' (fun b o hb ho => (hs.2 b hb).trans ho) hn'
theorem exc_osaT (XB : XBase B newId initId tl) {K : PySem.W.Frag} {name : Str} {tk : Tok} {v : Value} {x C : Addr} {fv : Array Value} {cd : ClassData}
    (X : K.In hp) (hx : hp.get? x = some { cls := .ref C, data := .fields fv }) (hcd : PySem.W.clsIn K C = some cd) (hm : refsT tl cd.mro = true) (hh : cd.hasDict = true) (ha : PySem.W.findIn K (.ref C) name = some none)
    (hq : ∀ h' tk' dx, (∀ b o, b ≠ x → hp.get? b = some o → h'.get? b = some o) → hp.objs.size ≤ dx → dx ≠ x → h'.get? x = some { cls := .ref C, dict := some dx, data := .fields fv } →
      h'.Ns1 dx (fun y => if y = name then some v else none) → R (.ok (.ret .none)) ⟨h', g, d, tk', os⟩) :
    codeAny (model prog w) A (.call (.builtin "object.__setattr__") ⟨[.ref x, .str name tk, v], []⟩) R ⟨hp, g, d, t, os⟩ := by
  have I : PySem.W.InstAt hp x { cls := .ref C, data := .fields fv } C none := ⟨hx, rfl, rfl, trivial⟩
  have SF := PySem.F.store_object
  have ne := refsT_ne XB hm
  have hob : cd.mro.contains (.type "object") = true := (refsT_contains "object" _ hm).trans XB.obj
  have hxs : x ≠ hp.objs.size := Nat.ne_of_lt (Heap.lt_size hx)
  have sub : PySem.W.Looks (model prog w) hp (isInstance (.ref x) (.type "object")) true := I.type.andThen (PySem.W.looks_mroIn X (by unfold PySem.W.mroIn; rw [hcd, Option.bind_some, if_neg (by rw [ne]; decide), hob]))
  refine codeAny_call_builtin SF.slot.plain SF.entry (@PySem.W.check_slot (model prog w) _ _ ⟨hp, g, d, t, os⟩ "object.__setattr__" "object" "__setattr__" (.ref x) [.str name tk, v] [] _ SF.kind SF.split sub (SF.args (.ref x) (.str name tk) v) ?_)
  have hmr : PySem.W.Looks (model prog w) hp (mroOf (.ref C)) cd.mro := (PySem.W.looks_clsIn X hcd).andThen .now
  have L3 : PySem.W.Looks (model prog w) hp (storeTaker? none) none := .now
  have hcls : PySem.W.Looks (model prog w) hp (classData C) cd := PySem.W.looks_clsIn X hcd
  rw [PySem.W.osa_eq, refuse_eq]
  refine wpAny_bind (wpAny_bind (I.type.at (wpAny_bind (hmr.at ?_))))
  rw [refsT_pass XB _ _ hm]
  refine wpAny_pure (wpAny_bind (I.type.at (wpAny_bind ((PySem.W.looks_findIn X ha).at (wpAny_bind (L3.at ?_))))))
  show wpAny _ _ (storeInOwnDict (.ref x) (.ref C) (.str name tk) name v false) _ _ _
  obtain ⟨nm, bs, mro, ns, qn, hd, sn, sb, ab, col, del⟩ := cd
  dsimp only at hh
  subst hh
  unfold storeInOwnDict ownDictForStores
  repeat (first | with_reducible refine store_in_new ?_ ?_ | with_reducible refine wpAny_loadPart_at hx ?_ | with_reducible refine hcls.at ?_ | wp_step)
  · exact ⟨_, #[], _, (Heap.get?_update_ne _ _ _ _ hxs.symm).trans (Heap.get?_push_at rfl rfl), rfl, fun e he => absurd he (by simp), fun _ => rfl⟩
  · intro h' tk' hn' hs
    have hx₁ : (hp.push { cls := .type "dict", data := .dict #[] }).get? x = some { cls := .ref C, data := .fields fv } := Heap.get?_push_of_some _ hx
    refine hq h' tk' hp.objs.size (fun b o hb ho => ?_) (Nat.le_refl _) hxs.symm ?_ hn'
    · exact (hs.2 b (Nat.ne_of_lt (Heap.lt_size ho))).trans ((Heap.get?_update_ne _ _ _ _ hb).trans (Heap.get?_push_of_some _ ho))
    · exact (hs.2 x hxs).trans (Heap.get?_update_self _ hx₁ rfl)
end

/-! ### an exception that is being made -/
/-- what the written part says of the class -/
structure XCls (B newId initId : String) (tl : List Value) (K : PySem.W.Frag) (C : Addr) : Prop where
  xb : XBase B newId initId tl
  cls : ∃ nm q N bs bm sn sub ab col dd k0 k1 k2 k3 k5, K.lookup C = some (excClassObj nm q C N bs bm true sn sub ab col dd k0 k1 k2 k3 k5 newId) ∧ refsT tl bm = true
  sa : PySem.W.findIn K (.ref C) "__setattr__" = some (some (.builtin "object.__setattr__"))
  exC : PySem.W.subIn K (.ref C) (.type "BaseException") = some true
  tyC : PySem.W.typeIn K (.ref C) = some (.type "type")
  kC : PySem.W.keepIn K (.ref C) = true
/-- .. for some base -/
def XC (K : PySem.W.Frag) (C : Addr) : Prop := ∃ B newId initId tl, XCls B newId initId tl K C
section
variable {X : Cx} {pins : List (Addr × Obj)} {σ : L2.St} {H : Hp} {s : Shared} {a C dx : Addr} {f : Str} {y : V} {u : Value} {fs : List (Str × V)} {Q : Unit → Shared → Prop} {E : Value → Shared → Prop} {A : Around} {B newId initId : String} {tl : List Value}
theorem xst_new (T : XCls B newId initId tl X.K C) (I : Inv X pins σ H s) (e : H a = some (exo a C none)) (hno : PySem.W.findIn X.K (.ref C) f = some none) (ry : RelV y u)
    (h : ∀ dx s', H dx = none → dx ≠ a → Inv X pins σ (upd (upd H dx (exd dx [(f, y)])) a (exo a C (some dx))) s' → Q () s') : wpAny (model X.prog X.w) A (setAttr (.ref a) f u) Q E s := by
  obtain ⟨nm, q, N, bs, bm, sn, sub, ab, col, dd, k0, k1, k2, k3, k5, hC, hbm⟩ := T.cls
  have hcl : PySem.W.clsIn X.K C = some { name := nm, bases := bs, mro := .ref C :: bm, ns := N, qualname := q, hasDict := true, slotNames := sn, subclasses := sub, abstract := ab, collection := col, hasDel := false } := by unfold PySem.W.clsIn; rw [hC] <;> rfl
  obtain ⟨t1, ho⟩ := exo_at I.hok e
  obtain ⟨hp, g, d, t, os⟩ := s
  refine PySem.W.set_plain I.kIn (ox := { cls := .ref C, dict := none, data := .fields #[.ref t1, .none, .none, .none, .bool false, .none] }) (od := none) ⟨ho, rfl, rfl, trivial⟩ T.sa ?_
  refine exc_osaT T.xb I.kIn ho hcl (show refsT tl (.ref C :: bm) = true from hbm) rfl hno (fun h' tk' dx k dn dne hx hn => ?_)
  have hnd : H dx = none := I.hok.fresh dn
  have nd : ∀ {b : Addr} {o : Obj}, hp.get? b = some o → b ≠ dx := fun {b o} q => Nat.ne_of_lt (Nat.lt_of_lt_of_le (Heap.lt_size q) dn)
  have na : ∀ {b : Addr}, H b = none → b ≠ a := fun {b} n z => by
    rw [z, e] at n
    cases n
  have Un1 : Un X.fs [] H (upd (upd H dx (exd dx [(f, y)])) a (exo a C (some dx))) hp h' := {
    keep := fun b o q n _ _ => k b o (na n) q
    slot := fun b o q n _ _ => ⟨o.slots, k b o (na n) q⟩
    free := fun b o q n _ => by rw [upd_ne (na n), upd_ne (nd q)]; exact n
    there := fun b o q _ => by
      by_cases hb : b = a
      · exact ⟨_, by rw [hb]; exact hx⟩
      · exact ⟨o, k b o hb q⟩
    tups := fun b xs q => by rw [upd_ne (at_ne e q exo_tup), upd_ne (ne_of_none q hnd)]; exact q
    frzs := fun b o v q => by rw [upd_ne (at_ne e q exo_frz), upd_ne (ne_of_none q hnd)]; exact q
    tbls := fun b ps q => ⟨#[], by rw [upd_ne (at_ne e q exo_tbl), upd_ne (ne_of_none q hnd), q]; simp⟩ }
  refine h dx _ hnd dne (I.un (t' := tk') Un1 fun b o q => ?_)
  by_cases hb : b = a
  · subst hb
    rw [upd_same] at q
    cases q
    exact exo_ok hx
  · rw [upd_ne hb] at q
    by_cases hd : b = dx
    · subst hd
      rw [upd_same] at q
      cases q
      exact exd_ok hn (relO_put (fs := []) ry fun g => True.intro)
    · rw [upd_ne hd] at q
      exact (I.hok b o q).stay (fun c v hc z => k c v (by
          rcases hc with hc | hc
          · rw [hc]
            exact hb
          · exact at_ne e hc exo_own) z)
        (fun c hc => by rw [upd_ne (at_ne e hc exo_own), upd_ne (ne_of_none hc hnd)]; exact hc) (fun c xs hc => by rw [upd_ne (at_ne e hc exo_tup), upd_ne (ne_of_none hc hnd)]; exact hc)
theorem xst_old (T : XCls B newId initId tl X.K C) (I : Inv X pins σ H s) (e : H a = some (exo a C (some dx))) (ed : H dx = some (exd dx fs)) (hl : fs.length ≤ 900) (hno : PySem.W.findIn X.K (.ref C) f = some none) (ry : RelV y u)
    (h : ∀ s', Inv X pins σ (upd H dx (exd dx ((f, y) :: fs))) s' → Q () s') : wpAny (model X.prog X.w) A (setAttr (.ref a) f u) Q E s := by
  obtain ⟨nm, q, N, bs, bm, sn, sub, ab, col, dd, k0, k1, k2, k3, k5, hC, hbm⟩ := T.cls
  have hcl : PySem.W.clsIn X.K C = some { name := nm, bases := bs, mro := .ref C :: bm, ns := N, qualname := q, hasDict := true, slotNames := sn, subclasses := sub, abstract := ab, collection := col, hasDel := false } := by unfold PySem.W.clsIn; rw [hC] <;> rfl
  obtain ⟨t1, ho⟩ := exo_at I.hok e
  obtain ⟨mA, hns, rel⟩ := exd_at I.hok ed
  have hw := within_of rel
  obtain ⟨hp, g, d, t, os⟩ := s
  obtain ⟨oD, _, _, hoD, _, _⟩ := hns.count hw
  refine PySem.W.set_plain I.kIn (ox := { cls := .ref C, dict := some dx, data := .fields #[.ref t1, .none, .none, .none, .bool false, .none] }) (od := some oD) ⟨ho, rfl, rfl, hoD⟩ T.sa ?_
  refine osa_oldT T.xb I.kIn ho hns hw (by rw [List.length_map]; omega) hcl (show refsT tl (.ref C :: bm) = true from hbm) rfl hno (fun h' tk' k hn => ?_)
  have hd : ∃ o, h'.get? dx = some o := by
    obtain ⟨o, _, _, e', _⟩ := hn
    exact ⟨o, e'⟩
  exact h _ (I.write (t' := tk') (x := dx) (e := dx) (o := exd dx ((f, y) :: fs)) (by rw [ed]; exact True.intro) (.inl rfl) k hd (exd_ok hn (relO_put ry rel)))
theorem xinit_ok {us : List Value} {Q : Value → Shared → Prop} (T : XCls B newId initId tl X.K C) (I : Inv X pins σ H s) (e : H a = some (exo a C none)) (hl : us.length ≤ sizeLine) (h : ∀ s', Inv X pins σ H s' → Q .none s') :
    wpAny (model X.prog X.w) A (call (.builtin initId) (.ref a :: us)) Q E s := by
  obtain ⟨nm, q, N, bs, bm, sn, sub, ab, col, dd, k0, k1, k2, k3, k5, hC, hbm⟩ := T.cls
  obtain ⟨t1, ho⟩ := exo_at I.hok e
  obtain ⟨hp, g, d, t, os⟩ := s
  refine wpAny_call (PySem.HandSPX.init_base T.xb.F (fun Y => refsT_contains Y bm hbm) (I.kIn _ _ hC) ho hl fun h' t2 k hx => ?_)
  have J := I.write (t' := t) (x := a) (e := a) (o := exo a C none) (by rw [e]; exact True.intro) (.inl rfl) k ⟨_, hx⟩ (exo_ok hx)
  have eu : upd H a (exo a C none) = H := by
    funext b
    by_cases hb : b = a
    · rw [hb, upd_same, e]
    · rw [upd_ne hb]
  rw [eu] at J
  exact h _ J
end

/-! ### readings and rules of such an __init__ -/
/-- Base.__init__(self, ..) -/
def tXI (K : PySem.W.Frag) (initId : String) (ta : TA) : TE := fun σ H Q => ta σ H fun vs H1 => ∃ (a C : Addr) (ws : List V) (B newId : String) (tl : List Value), vs = .ref a :: ws ∧ ws.length ≤ 1000 ∧ XCls B newId initId tl K C ∧ H1 a = some (exo a C none) ∧ Q .non H1
/-- self.f = e -/
def tXst (K : PySem.W.Frag) (f : Str) (to te : TE) : TS := fun D σ H => te σ H fun y H1 => to σ H1 fun x H2 => ∃ (a C : Addr), x = .ref a ∧ XC K C ∧ PySem.W.findIn K (.ref C) f = some none ∧
  ((H2 a = some (exo a C none) ∧ ∀ dx, H2 dx = none → dx ≠ a → D.nx σ (upd (upd H2 dx (exd dx [(f, y)])) a (exo a C (some dx)))) ∨
    ∃ (dx : Addr) (fs : List (Str × V)), H2 a = some (exo a C (some dx)) ∧ H2 dx = some (exd dx fs) ∧ fs.length ≤ 900 ∧ D.nx σ (upd H2 dx (exd dx ((f, y) :: fs))))
/-- what is behind such a call -/
def xPost (C a : Addr) (Q : VK) : VK := fun v H2 => v = .non ∧ ((H2 a = some (exo a C none) ∧ Q (.ref a) (upd H2 a (ExV a C none))) ∨
    ∃ (d : Addr) (fs : List (Str × V)), d ≠ a ∧ H2 a = some (exo a C (some d)) ∧ H2 d = some (exd d fs) ∧ Q (.ref a) (upd (upd H2 a (ExV a C (some d))) d (.xd fs)))
/-- C(e, ..) held; p: the values in the parameters' order -/
def tXm (C : Addr) (sp : Sp) (p : List V → List V) (ta : TA) : TE := fun σ H Q => ta σ H fun vs H1 => (p vs).length = vs.length ∧ vs.length ≤ 1000 ∧ ∀ a, H1 a = none → sp (.ref a :: p vs) (upd H1 a (exo a C none)) (xPost C a Q) (fun _ _ _ => False)
section
variable {X : Cx} {o e : Expr} {es : List Expr} {to te : TE} {ta : TA} {f x : Str} {p p' p1 p2 pos : Pos} {C0 : Addr} {initId : String}
theorem pe_xinit {mc : Value} {pl : Sem Bool} (hg : Gl X x) (hm : X.mg x = some (.ref C0)) (r : ClX.CRead X.K C0 mc) (vV : PySem.W.findCls X.K (.ref C0) mc "__init__" = some (.val (.builtin initId))) (ha : PA X (e :: es) ta)
    (hh : PySem.W.handedIn (.builtin initId) = true) (hdb : (x == ("__debug__" : Str)) = false := by decide)
    (hc : eval (.Call (.Attribute (.Name x p1) "__init__" p2) (e :: es) [] pos) X.env = (do
      let ov ← eval (.Name x p1) X.env
      standAt p2.atName
      let (f, first) ← holding [ov] (getMethod ov "__init__" pl)
      callWith pos f first (backTo pos (starEach (e :: es) X.env)) (backToKw pos (keywordEach [] X.env))) := by rfl)
    (he : starEach (e :: es) X.env = (false, eval e X.env) :: starEach es X.env := by rfl) (hpl : (backTo pos (starEach es X.env)).any (·.1) = false := by rfl) :
    PE X (.Call (.Attribute (.Name x p1) "__init__" p2) (e :: es) [] pos) (tXI X.K initId ta) := by
  refine ⟨fun pins s σ H Q I h => ?_⟩
  refine PySem.W.methodCall_KW (ld_glob I hg hm ?_ hdb) hc
  refine PySem.W.method_cls I.kIn r.ga (PySem.W.cls_value I.kIn r.rd vV hh ?_)
  show wpAny _ _ (callWith pos (Value.builtin initId) [] (backTo pos (starEach (e :: es) X.env)) []) _ _ _
  refine PyProof.Rows.callWith_method1 (thn (ha.run pos pins _ σ H _ (I.tok _) h) fun us s1 ⟨vs, H1, I1, r1, a, C, ws, B, newId, tl, ev, hl, T, ea, q⟩ => ?_) he hpl
  subst ev
  cases r1 with
  | @cons _ u0 _ ur ra rw' =>
    obtain rfl : u0 = Value.ref a := ra
    have hlen : ur.length ≤ sizeLine := by
      rw [← Paired.length rw', sizeLine_eq]
      omega
    exact xinit_ok T I1 ea hlen fun s' J => ⟨.non, H1, J, rfl, q⟩
theorem ps_xst (ho : PE X o to) (he : PE X e te) (hs : swapsWith e (some (.Attribute o f p')) pos.line X.env = pure false := by rfl) : PS X (.Assign [.Attribute o f p'] e pos) (tXst X.K f to te) := by
  refine ⟨fun pins s σ H D I h => ?_⟩
  refine plainObj_wpAny_Assign_Attribute (thn (he.run pins s σ H _ I h) fun v s1 ⟨y, H1, I1, r1, q1⟩ => thn (ho.run pins s1 σ H1 _ I1 q1) fun u s2 ⟨x, H2, I2, r2, a, C, ex, ⟨B, ni, ii, tl, T⟩, hno, q⟩ => ?_) hs
  subst ex
  obtain rfl : u = Value.ref a := r2
  rcases q with ⟨ea, q⟩ | ⟨dx, fs, ea, ed, hl, q⟩
  · exact xst_new T I2 ea hno r1 fun dx s' n ne J => ⟨σ, _, J, q dx n ne⟩
  · exact xst_old T I2 ea ed hl hno r1 fun s' J => ⟨σ, _, J, q⟩
theorem exV_ok {P : Program} {w : World} {H : Hp} {h : Heap} {a C : Addr} {d : Option Addr} {o : Obj} {vs : Array Value} (e : h.get? a = some o) (h1 : o.cls = .ref C) (h2 : o.dict = d) (h3 : o.data = .fields vs) : ObjOk P w H h a (ExV a C d) :=
  ⟨⟨o, vs, e, h1, h2, h3⟩, ⟨o, e⟩, fun _ _ ⟨o, v, q, r⟩ k => ⟨o, v, k o q, r⟩⟩
section
variable {CX : CXT} {x : Str} {C fI : Addr} {k n : Nat} {fd : FuncData} {ps ks : List Str} {sp : Sp} {B newId initId : String} {tl : List Value} {g : List Value → List Value → List Value} {gV : List V → List V → List V} {kws : List Keyword} {tk : TA}
theorem run_xmk {pins : List (Addr × Obj)} {σ : L2.St} {H1 : Hp} {s : Shared} {Q : VK} {us ws : List Value} {vs zs : List V} (T : XCls B newId initId tl X.K C) (iC : PySem.W.findIn X.K (.ref C) "__init__" = some (some (.ref fI))) (tI : PySem.W.typeIn X.K (.ref fI) = some (.type "function"))
    (F1 : FnOk X.prog X.w X.K X.mg X.base CX k fI fd ps sp) (hr : Room (k + 1) X.A) (hb : KBn X.K fd ps (n + 1) ks g gV) (hx : Passes CX X (fun _ _ _ => False)) (I1 : Inv X pins σ H1 s) (r1 : Vals vs us) (rz : Vals zs ws) (l1 : vs.length = n) (l2 : zs.length = ks.length) (l3 : us.length ≤ 1000)
    (q1 : ∀ a, H1 a = none → sp (gV (.ref a :: vs) zs) (upd H1 a (exo a C none)) (xPost C a Q) (fun _ _ _ => False)) :
    wpAny (model X.prog X.w) X.A (call (.ref C) us (ks.zip ws)) (EP X pins σ Q) X.xe s := by
  obtain ⟨nm, q, N, bs, bm, sn, sub, ab, col, dd, k0, k1, k2, k3, k5, hC, hbm⟩ := T.cls
  obtain ⟨hp, g', dr, tk, os⟩ := s
  have hsz : hp.objs.size ≤ hp.objs.size + 1 := Nat.le_succ _
  have hn : H1 (hp.objs.size + 1) = none := I1.hok.fresh hsz
  have hq := q1 (hp.objs.size + 1) hn
  have kk : ∀ b o, hp.get? b = some o → ((hp.push (PySem.W.kdv_tup us)).push (PySem.HandSPX.excO C hp.objs.size)).get? b = some o := fun b o e => Heap.get?_push_of_some _ (Heap.get?_push_of_some _ e)
  have hget : ((hp.push (PySem.W.kdv_tup us)).push (PySem.HandSPX.excO C hp.objs.size)).get? (hp.objs.size + 1) = some (PySem.HandSPX.excO C hp.objs.size) := by heap_get
  have I2 : Inv X pins σ (upd H1 (hp.objs.size + 1) (exo (hp.objs.size + 1) C none)) ⟨(hp.push (PySem.W.kdv_tup us)).push (PySem.HandSPX.excO C hp.objs.size), g', dr, tk, os⟩ :=
    I1.laid (t' := tk) (a := hp.objs.size + 1) (o := exo (hp.objs.size + 1) C none) (h' := (hp.push (PySem.W.kdv_tup us)).push (PySem.HandSPX.excO C hp.objs.size)) kk hsz (exo_ok hget)
  have r0 : Vals (V.ref (hp.objs.size + 1) :: vs) (Value.ref (hp.objs.size + 1) :: us) := .cons rfl r1
  have r2 := hb.rel r0 rz
  have e1 : (Value.ref (hp.objs.size + 1) :: us).length = n + 1 := r0.length.symm.trans (congrArg Nat.succ l1)
  have e2 : ws.length = ks.length := rz.length.symm.trans l2
  have hus : us.length ≤ sizeLine := by
    rw [sizeLine_eq]
    omega
  refine wpAny_call (PySem.XKW.call_kw T.xb.F (fun Y => refsT_contains Y bm hbm) (I1.kIn _ _ hC) (PySem.W.looks_findIn I1.kIn iC) (fun self => PySem.W.bind_fn I1.kIn self tI) hus
    (codeAny_mono (F1.run _ X.stack _ _ ⟨Value.ref (hp.objs.size + 1) :: us, ks.zip ws⟩ (g (Value.ref (hp.objs.size + 1) :: us) ws) _ _ (fun _ _ _ => False) (hr.make C us (ks.zip ws)) (I2.env0.make C us (ks.zip ws)) (hb.to _ (Value.ref (hp.objs.size + 1) :: us) ws I2.kIn e1 e2) r2 hq) fun r s' hq' => ?_))
  cases r with
  | error er => exact hx pins σ _ _ er s' I2 hq'
  | ok fl =>
    cases fl with
    | ret u =>
      obtain ⟨v, H2, os2, bare2, un2, hok2, rv, ev, q2⟩ := hq'
      subst ev
      obtain ⟨h2, g2, d2, t2, os'⟩ := s'
      have J : Inv X pins σ H2 ⟨h2, g2, d2, t2, os'⟩ := I2.call' (ch := []) os2 un2 hok2 bare2 (fun b z => absurd z (by simp))
      rcases q2 with ⟨ea, q2⟩ | ⟨d, fs, hda, ea, ed, q2⟩
      · obtain ⟨t0, ho⟩ := exo_at hok2 ea
        have J2 := J.write (t' := t2) (x := hp.objs.size + 1) (e := hp.objs.size + 1) (o := ExV (hp.objs.size + 1) C none) (h' := h2) (by rw [ea]; exact True.intro) (.inl rfl) (fun b u _ z => z) ⟨_, ho⟩ (exV_ok ho rfl rfl rfl)
        exact ⟨rv, .ref (hp.objs.size + 1), _, J2, rfl, q2⟩
      · obtain ⟨t0, ho⟩ := exo_at hok2 ea
        obtain ⟨mA, hns, rel⟩ := exd_at hok2 ed
        have J2 := J.write (t' := t2) (x := hp.objs.size + 1) (e := hp.objs.size + 1) (o := ExV (hp.objs.size + 1) C (some d)) (h' := h2) (by rw [ea]; exact True.intro) (.inl rfl) (fun b u _ z => z) ⟨_, ho⟩ (exV_ok ho rfl rfl rfl)
        have hd : ∃ o, h2.get? d = some o := by
          obtain ⟨o, _, _, e', _⟩ := hns
          exact ⟨o, e'⟩
        have J3 := J2.write (t' := t2) (x := d) (e := d) (o := .xd fs) (h' := h2) (by rw [upd_ne hda, ed]; exact True.intro) (.inl rfl) (fun b u _ z => z) hd ⟨mA, hns, rel⟩
        exact ⟨rv, .ref (hp.objs.size + 1), _, J3, rfl, q2⟩
    | next => exact False.elim hq'
    | brk => exact False.elim hq'
    | cont => exact False.elim hq'
/-- C(e, ..) -/
theorem pe_xm (T : XCls B newId initId tl X.K C) (iC : PySem.W.findIn X.K (.ref C) "__init__" = some (some (.ref fI))) (tI : PySem.W.typeIn X.K (.ref fI) = some (.type "function"))
    (F1 : FnOk X.prog X.w X.K X.mg X.base CX k fI fd ps sp) (hr : Room (k + 1) X.A) (hb : Binds X.K fd ps []) (hx : Passes CX X (fun _ _ _ => False)) (hg : Gl X x) (hm : X.mg x = some (.ref C)) (ha : PA X (e :: es) ta)
    (hdb : (x == ("__debug__" : Str)) = false := by decide) (he : starEach (e :: es) X.env = (false, eval e X.env) :: starEach es X.env := by rfl) (hpl : (backTo pos (starEach es X.env)).any (·.1) = false := by rfl) :
    PE X (.Call (.Name x p) (e :: es) [] pos) (tXm C sp id ta) := by
  refine ⟨fun pins s σ H Q I h => ?_⟩
  refine wpAny_Call_Name_kw (ld_glob I hg hm ?_ hdb)
  refine PySem.W.callWith_K (h₀ := X.base) I.ok.mod.kin T.kC (thn (ha.run pos pins s σ H _ I h) fun us s1 ⟨vs, H1, I1, r1, _, hz, q1⟩ => ⟨I1.kIn, ?_⟩) he hpl
  have hl : ps.length = vs.length + 1 := by
    have := F1.len _ _ _ _ (q1 s1.heap.objs.size (I1.hok.fresh (Nat.le_refl _)))
    simpa using this.symm
  refine run_xmk (n := vs.length) (ks := []) (ws := []) (zs := []) (g := fun us _ => us) (gV := fun vs _ => vs) T iC tI F1 hr ⟨fun s us ws X l1 l2 => ?_, fun r _ => r⟩ hx I1 r1 .nil rfl rfl (by show us.length ≤ 1000; rw [← r1.length]; exact hz) q1
  have := hb s us X (by rw [List.append_nil, l1, hl])
  rw [List.append_nil] at this
  exact this
/-- C(k = v, ..) or C() -/
theorem pe_xmK {p' : List V → List V} {q' : List Value → List Value} (T : XCls B newId initId tl X.K C) (iC : PySem.W.findIn X.K (.ref C) "__init__" = some (some (.ref fI))) (tI : PySem.W.typeIn X.K (.ref fI) = some (.type "function"))
    (F1 : FnOk X.prog X.w X.K X.mg X.base CX k fI fd ps sp) (hr : Room (k + 1) X.A) (hb : KBn X.K fd ps 1 ks (fun us ws => us ++ q' ws) (fun vs zs => vs ++ p' zs)) (hx : Passes CX X (fun _ _ _ => False)) (hg : Gl X x) (hm : X.mg x = some (.ref C)) (hkw : PK X kws tk) (hps : ps.length = ks.length + 1)
    (hall : (backToKw pos (keywordEach kws X.env)).all (·.1.isSome) = true := by rfl) (hks : (backToKw pos (keywordEach kws X.env)).filterMap (·.1) = ks := by rfl) (hdb : (x == ("__debug__" : Str)) = false := by decide)
    (hpl : ((backTo pos (starEach [] X.env)).any (·.1) || (backToKw pos (keywordEach kws X.env)).any (·.1.isNone)) = false := by rfl) :
    PE X (.Call (.Name x p) [] kws pos) (tXm C sp p' tk) := by
  refine ⟨fun pins s σ H Q I h => ?_⟩
  refine wpAny_Call_Name_kw (ld_glob I hg hm ?_ hdb)
  refine PySem.W.callWith_KW0 (h₀ := X.base) I.ok.mod.kin T.kC hall ?_ hpl
  refine thn (hkw.run pos pins s σ H _ I h) fun ws s2 ⟨zs, H2, I2, rz, l2, hz, q2⟩ => ⟨I2.kIn, ?_⟩
  rw [hks]
  have hl : ks.length = zs.length := by
    have := F1.len _ _ _ _ (q2 s2.heap.objs.size (I2.hok.fresh (Nat.le_refl _)))
    rw [List.length_cons, l2] at this
    omega
  exact run_xmk (n := 0) (us := []) (vs := []) T iC tI F1 hr hb hx I2 .nil rz rfl hl.symm (by decide) q2
end
end
end Ws
set_option Elab.async false
set_option linter.all false
set_option maxRecDepth 100000
set_option maxHeartbeats 2000000
/-! Ws13: exceptions as data: made, read, asked for their class. -/
namespace Ws
open PySem PySem.Spec PyProof.Rows L2

def mkF {α : Type} (names : List Str) (ys : List α) : Option (List (Str × α)) := if ys.length = names.length then some ((names.zip ys).reverse) else none
def spInit (C : Addr) (names : List Str) : Sp := fun vs H Q _ => ∃ (a : Addr) (ys : List V) (fs : List (Str × V)), vs = .ref a :: ys ∧ H a = some (exo a C none) ∧ mkF names ys = some fs ∧
  ((fs = [] ∧ Q .non H) ∨ (fs ≠ [] ∧ ∀ dx, H dx = none → dx ≠ a → Q .non (upd (upd H dx (exd dx fs)) a (exo a C (some dx)))))
def revIf {α : Type} (rev : Bool) (l : List α) : List α := if rev = true then l.reverse else l
theorem revIf_length {α : Type} {rev : Bool} {l : List α} : (revIf rev l).length = l.length := by
  unfold revIf
  split <;> simp
def dXm (c : Nat) (names : List Str) (rev : Bool) (d : Den (List D)) : Den Rv := fun ρ => (d ρ).bind fun r => (mkF names (revIf rev r.1)).map fun gs => (.val (.leaf (.exc c gs)), r.2)
section
variable {w : World} {K : PySem.W.Frag} {cl : Nat → Addr} {M : Addr → Prop} {H : Hp}
theorem isF_snoc {fs : List (Str × V)} {gs : List (Str × D)} {f : Str} {v : V} {d : D} (h : IsF w K cl M H fs gs) (i : Is w K cl M H v d) : IsF w K cl M H (fs ++ [(f, v)]) (gs ++ [(f, d)]) := by
  induction fs generalizing gs with
  | nil =>
    cases h
    exact .cons i .nil
  | cons p fs ih =>
    cases h with
    | cons a t => exact .cons a (ih t)
theorem isF_rev {fs : List (Str × V)} {gs : List (Str × D)} (h : IsF w K cl M H fs gs) : IsF w K cl M H fs.reverse gs.reverse := by
  induction fs generalizing gs with
  | nil =>
    cases h
    exact .nil
  | cons p fs ih =>
    cases h with
    | cons a t =>
      rw [List.reverse_cons, List.reverse_cons]
      exact isF_snoc (ih t) a
theorem isF_zip : ∀ {names : List Str} {vs : List V} {ds : List D}, IsL w K cl M H vs ds → IsF w K cl M H (names.zip vs) (names.zip ds)
  | [], _, _, _ => by simp only [List.zip_nil_left]; exact .nil
  | _ :: _, _, _, .nil => by simp only [List.zip_nil_right]; exact .nil
  | n :: names, _, _, .cons a t => by simp only [List.zip_cons_cons]; exact .cons a (isF_zip t)
theorem mkF_is {names : List Str} {vs : List V} {ds : List D} {gs : List (Str × D)} (h : IsL w K cl M H vs ds) (e : mkF names ds = some gs) : ∃ fs, mkF names vs = some fs ∧ IsF w K cl M H fs gs := by
  unfold mkF at e ⊢
  by_cases c : ds.length = names.length
  · rw [if_pos c] at e
    cases e
    refine ⟨_, if_pos (by rw [h.length]; exact c), isF_rev (isF_zip h)⟩
  · rw [if_neg c] at e
    cases e
theorem isL_revIf {vs : List V} {ds : List D} {rev : Bool} (h : IsL w K cl M H vs ds) : IsL w K cl M H (revIf rev vs) (revIf rev ds) := by
  unfold revIf
  split
  · exact h.reverse
  · exact h
end
theorem upd_upd {H : Hp} {a : Addr} {o o' : HO} : upd (upd H a o) a o' = upd H a o' := by
  funext b
  by_cases e : b = a
  · rw [e, upd_same, upd_same]
  · rw [upd_ne e, upd_ne e, upd_ne e]
theorem upd_five {H : Hp} {a b : Addr} {o1 o2 o3 o4 o5 : HO} (h : b ≠ a) : upd (upd (upd (upd (upd H a o1) b o2) a o3) a o4) b o5 = upd (upd H b o5) a o4 := by
  funext c
  by_cases e : c = a
  · subst e
    rw [upd_ne (Ne.symm h), upd_same, upd_same]
  · by_cases e2 : c = b
    · subst e2
      rw [upd_same, upd_ne e, upd_same]
    · rw [upd_ne e2, upd_ne e, upd_ne e, upd_ne e2, upd_ne e, upd_ne e, upd_ne e2]
theorem dXm_imp {w : World} {K : PySem.W.Frag} {cl : Nat → Addr} {c : Nat} {C : Addr} {names : List Str} {rev : Bool} {d : Den (List D)} {σ : L2.St} {H : Hp} {Q : VK} (hC : cl c = C) (hn : names.length ≤ 1000) (h : tD w K cl (dXm c names rev d) σ H Q) : tXm C (spInit C names) (revIf rev) (tSA w K cl d) σ H Q := by
  obtain ⟨M, ρ, f, rv, ρ', rs, hd, k⟩ := h
  obtain ⟨⟨ds, ρ1⟩, h1, hd⟩ := Option.bind_eq_some_iff.mp hd
  obtain ⟨gs, h2, hd⟩ := Option.map_eq_some_iff.mp hd
  cases hd
  refine ⟨M, ρ, f, ds, ρ1, rs, h1, fun vs M1 H1 f1 rs1 is1 st1 => ?_⟩
  obtain ⟨fs, h3, if3⟩ := mkF_is (isL_revIf (rev := rev) is1) h2
  have hl : vs.length = names.length := by
    unfold mkF at h3
    by_cases c : (revIf rev vs).length = names.length
    · rw [← c, revIf_length]
    · rw [if_neg c] at h3
      cases h3
  refine ⟨revIf_length, by omega, fun a na => ⟨a, _, fs, rfl, upd_same, h3, ?_⟩⟩
  subst hC
  by_cases e : fs = []
  · refine .inl ⟨e, rfl, .inl ⟨upd_same, ?_⟩⟩
    rw [upd_upd]
    have r2 := rs1.new na (ExV a (cl c) none)
    exact k _ _ _ _ [] r2.1 (rvB (.exc upd_same (notM_new na rs1.trk) (.inl ⟨rfl, e⟩) (if3.stay (ext_new na rs1.trk)))) (st1.trans rs.trk r2.2)
  · refine .inr ⟨e, fun dx n0 ne => ⟨rfl, .inr ⟨dx, fs, ne, upd_same, by rw [upd_ne ne, upd_same], ?_⟩⟩⟩
    rw [upd_five ne]
    have nd : H1 dx = none := by rw [upd_ne ne] at n0; exact n0
    have r2 := rs1.new nd (.xd fs)
    have na2 : upd H1 dx (.xd fs) a = none := by rw [upd_ne (Ne.symm ne)]; exact na
    have r3 := r2.1.new na2 (ExV a (cl c) (some dx))
    have x1 := ext_new (o := HO.xd fs) nd rs1.trk
    have x2 := ext_new (o := ExV a (cl c) (some dx)) na2 r2.1.trk
    exact k _ _ _ _ [] r3.1 (rvB (.exc upd_same (notM_new na2 r2.1.trk) (.inr ⟨dx, rfl, by rw [upd_ne ne, upd_same], notM_new nd rs1.trk⟩) ((if3.stay x1).stay x2))) ((st1.trans rs.trk r2.2).trans rs.trk r3.2)
section
variable {cl : Nat → Addr} {X : Cx} {k : Nat} {fI C : Addr} {c : Nat} {fd : FuncData} {ps ks names : List Str} {x m : Str} {p pos apos kpos : Pos} {e o : Expr} {es : List Expr} {kws : List Keyword} {dr : Den (List D)} {d : Den Rv} {nm : Option Str}
theorem dk_nil : PK X [] (tSA X.w X.K cl dNil) := ⟨fun pos pins s σ H Q I h => pk_nil.run pos pins s σ H Q I (by
  obtain ⟨M, ρ, f, ds, ρ', rs, hd, k⟩ := h
  cases hd
  exact k [] M H f rs .nil Step.refl)⟩
theorem dk_cons {r : Den (List D)} (ha : DE cl X e d) (hr : PK X kws (tSA X.w X.K cl r)) : PK X (⟨nm, e, kpos⟩ :: kws) (tSA X.w X.K cl (dCons d r)) := ⟨fun pos pins s σ H Q I h => (pk_cons (nm := nm) (kpos := kpos) (de_sh ha) hr).run pos pins s σ H Q I (by
  obtain ⟨M, ρ, f, ds, ρ', rs, hd, k⟩ := h
  obtain ⟨⟨x, ρ1⟩, h1, hd⟩ := Option.bind_eq_some_iff.mp hd
  obtain ⟨⟨y, ρ2⟩, h2, hd⟩ := Option.map_eq_some_iff.mp hd
  cases hd
  refine ⟨M, ρ, f, x, ρ1, rs, h1, fun v M1 H1 f1 rs1 is1 st1 => ⟨M1, ρ1, f1, y, ρ2, rs1, h2, fun vs M2 H2 f2 rs2 is2 st2 => ?_⟩⟩
  exact k (v :: vs) M2 H2 f2 rs2 (.cons (is1.stay (rs1.ext st2)) is2) (st1.trans rs.trk st2))⟩
/-- all that is asked of a class of exceptions, so that its calls can be made -/
structure XMk (K : PySem.W.Frag) (C : Addr) (fI : Addr) : Prop where
  t : XC K C
  iC : PySem.W.findIn K (.ref C) "__init__" = some (some (.ref fI))
  tI : PySem.W.typeIn K (.ref fI) = some (.type "function")
theorem de_xm (hC : cl c = C) (hn : names.length ≤ 1000) (T : XMk X.K C fI) (F1 : FnOk X.prog X.w X.K X.mg X.base CX0 k fI fd ps (spInit C names)) (hr : Room (k + 1) X.A) (hb : Binds X.K fd ps []) (hg : Gl X x) (hm : X.mg x = some (.ref C)) (ha : DA cl X (e :: es) dr)
    (hdb : (x == ("__debug__" : Str)) = false := by decide) (he : starEach (e :: es) X.env = (false, eval e X.env) :: starEach es X.env := by rfl) (hpl : (backTo pos (starEach es X.env)).any (·.1) = false := by rfl) :
    DE cl X (.Call (.Name x p) (e :: es) [] pos) (dXm c names false dr) := by
  obtain ⟨B, ni, ii, tl, T1⟩ := T.t
  exact pe_imp (pe_xm T1 T.iC T.tI F1 hr hb pass0 hg hm ha hdb he hpl) fun σ H Q h => dXm_imp (rev := false) hC hn h
theorem de_xmK {rev : Bool} (hC : cl c = C) (hn : names.length ≤ 1000) (T : XMk X.K C fI) (F1 : FnOk X.prog X.w X.K X.mg X.base CX0 k fI fd ps (spInit C names)) (hr : Room (k + 1) X.A) (hb : KBn X.K fd ps 1 ks (fun us ws => us ++ revIf rev ws) (fun vs zs => vs ++ revIf rev zs)) (hg : Gl X x) (hm : X.mg x = some (.ref C)) (hkw : PK X kws (tSA X.w X.K cl dr)) (hps : ps.length = ks.length + 1)
    (hall : (backToKw pos (keywordEach kws X.env)).all (·.1.isSome) = true := by rfl) (hks : (backToKw pos (keywordEach kws X.env)).filterMap (·.1) = ks := by rfl) (hdb : (x == ("__debug__" : Str)) = false := by decide)
    (hpl : ((backTo pos (starEach [] X.env)).any (·.1) || (backToKw pos (keywordEach kws X.env)).any (·.1.isNone)) = false := by rfl) :
    DE cl X (.Call (.Name x p) [] kws pos) (dXm c names rev dr) := by
  obtain ⟨B, ni, ii, tl, T1⟩ := T.t
  exact pe_imp (pe_xmK (p' := revIf rev) (q' := revIf rev) T1 T.iC T.tI F1 hr hb pass0 hg hm hkw hps hall hks hdb hpl) fun σ H Q h => dXm_imp hC hn h

end

/-! ### reading a field of an exception -/
theorem exV_at {P : Program} {w : World} {H : Hp} {h : Heap} {a C : Addr} {d : Option Addr} (hok : HOk P w H h) (he : H a = some (ExV a C d)) : ∃ (o : Obj) (vs : Array Value), h.get? a = some o ∧ o.cls = .ref C ∧ o.dict = d ∧ o.data = .fields vs := by
  obtain ⟨h1, _, _⟩ := hok a _ he
  exact h1
def tXfV (K : PySem.W.Frag) (n : Str) (te : TE) : TE := fun σ H Q => te σ H fun x H1 => ∃ (a C dd : Addr) (fs : List (Str × V)) (v : V), x = .ref a ∧ H1 a = some (ExV a C (some dd)) ∧ XfC K C ∧ PySem.W.findIn K (.ref C) n = some none ∧ H1 dd = some (.xd fs) ∧ fs.lookup n = some v ∧ Q v H1
section
variable {cl : Nat → Addr} {X : Cx} {e o : Expr} {te : TE} {n : Str} {pos p : Pos} {d : Den Rv}
theorem pe_xfV (he : PE X e te) (hb : attributeBase e n X.env (eval e X.env) = eval e X.env := by rfl) : PE X (.Attribute e n pos) (tXfV X.K n te) := by
  refine ⟨fun pins s σ H Q I h => ?_⟩
  refine attr_of hb (thn (he.run pins s σ H _ I h) fun u s1 hh => ?_)
  obtain ⟨x, H1, I1, rx, a, C, dd, fs, v, ex, ea, T, hno, ed, l, q⟩ := hh
  subst ex
  obtain rfl : u = Value.ref a := rx
  obtain ⟨oe, vs, ha, h1, h2, hd⟩ := exV_at I1.hok ea
  have hx : ObjOk X.prog X.w H1 s1.heap dd (.xd fs) := I1.hok dd _ ed
  obtain ⟨mA, hns, hr⟩ := hx
  obtain ⟨od, ho, hl⟩ := lookIn_ns hns
  obtain ⟨u, hu, ru⟩ := RelO.some_of (v := v) (o := mA n) (by rw [← l]; exact hr n)
  have J : PySem.W.InstAt s1.heap a oe C (some od) := ⟨ha, h1, by unfold PySem.W.notCls; rw [hd] <;> rfl, by rw [h2]; exact ho⟩
  exact PySem.HandSPX.exc_get I1.kIn J T.ga T.gg T.exC (PySem.W.findObj_own T.hdC hno rfl (by rw [hl, hu])) (handed_of ru) ⟨v, H1, I1.tok _, ru, q⟩
def dXf (f : Str) (ok : Nat → Bool) (d : Den Rv) : Den Rv := fun ρ => (d ρ).bind fun r => match r.1 with
  | .val (.leaf (.exc c gs)) => if ok c = true then (gs.lookup f).map fun x => (.val (.leaf x), r.2) else Option.none
  | _ => Option.none
/-- e.f; ok c: the class c has no f of its own -/
theorem de_xf {ok : Nat → Bool} (hok : ∀ c, ok c = true → XfC X.K (cl c) ∧ PySem.W.findIn X.K (.ref (cl c)) n = some none) (he : DE cl X e d) (hb : attributeBase e n X.env (eval e X.env) = eval e X.env := by rfl) : DE cl X (.Attribute e n pos) (dXf n ok d) := pe_imp (pe_xfV he hb) fun σ H Q ⟨M, ρ, f, rv, ρ', rs, hd, k⟩ => by
  obtain ⟨⟨r, ρ1⟩, h1, hd⟩ := Option.bind_eq_some_iff.mp hd
  dsimp only at hd
  split at hd
  · rename_i c gs
    by_cases q : ok c = true
    · rw [if_pos q] at hd
      obtain ⟨x, h2, hd⟩ := Option.map_eq_some_iff.mp hd
      cases hd
      refine ⟨M, ρ, f, _, _, rs, h1, fun v M1 H1 f1 fw rs1 ok1 st1 => ?_⟩
      obtain ⟨wi, nd, qq⟩ := ok1
      cases wi with
      | leaf is =>
        cases is with
        | exc e1 e2 e3 e4 =>
          obtain ⟨v, l, iv⟩ := isF_get e4 h2
          rcases e3 with ⟨_, z⟩ | ⟨dx, z1, z2, z3⟩
          · subst z
            cases l
          · subst z1
            exact ⟨_, _, dx, _, v, rfl, e1, (hok c q).1, (hok c q).2, z2, l, k v M1 H1 f1 [] rs1 (rvB iv) st1⟩
    · rw [if_neg q] at hd
      cases hd
  · cases hd

/-! ### isinstance of exceptions -/
/-- what isinstance asks -/
structure XIs (K : PySem.W.Frag) (C : Addr) : Prop where
  cl : (PySem.W.clsIn K C).isSome = true
  ga : PySem.W.findIn K (.ref C) "__getattribute__" = some (some (.builtin "BaseException.__getattribute__"))
  gg : PySem.W.findIn K (.ref C) "__getattr__" = some none
  ex : PySem.W.subIn K (.ref C) (.type "BaseException") = some true
  ca : PySem.W.findIn K (.ref C) "__class__" = some (some (.builtin "object.__class__"))
  cg : PySem.W.specialIn K (.builtin "object.__class__") "__get__" = some (some (.builtin "getset_descriptor.__get__"))
  ct : PySem.W.takesIn K (.builtin "object.__class__") = some true
  mo : PySem.W.mroIn K C (.type "object") = some true
def rIsX (w : World) (K : PySem.W.Frag) (cl : Nat → Addr) (cv : Value) (g : Nat → Option Bool) : List V → Hp → VK → Prop := fun xs H Q => ∃ (x c : V) (i : Nat) (gs : List (Str × D)) (b : Bool), xs = [x, c] ∧ Is w K cl noM H x (.exc i gs) ∧ (∀ u, RelV c u → u = cv) ∧ g i = some b ∧ Q (.bl b) H
theorem call_isX {cv : Value} {g : Nat → Option Bool} (hg : ∀ i b, g i = some b → XIs X.K (cl i) ∧ PySem.W.kitOne X.K (.ref (cl i)) cv = some b) : CallR X (.builtin "isinstance") (rIsX X.w X.K cl cv g) := by
  intro pins s σ H xs us Q I r h
  obtain ⟨x, c, i, gs, b, rfl, is, hcv, e, q⟩ := h
  cases r with
  | cons rx rr =>
    cases rr with
    | cons rt rr =>
      cases rr
      cases is with
      | @exc a _ _ _ _ e1 e2 e3 e4 =>
        cases rx
        have ec := hcv _ rt
        subst ec
        obtain ⟨T, hk⟩ := hg i b e
        obtain ⟨oe, vs, ha, h1, h2, hd⟩ := exV_at I.hok e1
        have hno : PySem.W.notCls oe = true := by unfold PySem.W.notCls; rw [hd] <;> rfl
        have J : ∃ od, PySem.W.InstAt s.heap a oe (cl i) od := by
          rcases e3 with ⟨z, _⟩ | ⟨dx, z1, z2, z3⟩
          · exact ⟨none, ha, h1, hno, by rw [h2, z]; trivial⟩
          · obtain ⟨mA, hns, hr⟩ : ObjOk X.prog X.w H s.heap dx (.xd _) := I.hok dx _ z2
            obtain ⟨od, ho, hl⟩ := lookIn_ns hns
            exact ⟨some od, ha, h1, hno, by rw [h2, z1]; exact ho⟩
        obtain ⟨od, J⟩ := J
        exact PySem.W.kia_one (PySem.W.kitx_exc (x := a) (ox := oe) (od := od) T.cl T.ga T.gg T.ex T.ca T.cg T.ct T.mo) I.kIn J hk (fun z => nomatch z) fun tk => ⟨.bl b, H, I.kept (t' := tk) fun _ _ z => z, rfl, q⟩
def dIsX (g : Nat → Option Bool) (d : Den Rv) : Den Rv := fun ρ => (d ρ).bind fun r => (viewR r.2 r.1).bind fun y => match y with
  | .exc c _ => (g c).map fun b => (.val (.leaf (.bool b)), r.2)
  | _ => Option.none
theorem dIsX_imp {w : World} {K : PySem.W.Frag} {cv : Value} {vc : V} {g : Nat → Option Bool} {σ : L2.St} {H : Hp} {Q : VK} (hcv : ∀ u, RelV vc u → u = cv) (h : tD w K cl (dIsX g d) σ H Q) : tCB (rIsX w K cl cv g) (tCons (tD w K cl d) (tCons (tC vc) tNil)) σ H Q := by
  obtain ⟨M, ρ, f, rv, ρ', rs, hd, k⟩ := h
  obtain ⟨⟨r, ρ1⟩, h1, hd⟩ := Option.bind_eq_some_iff.mp hd
  obtain ⟨y, h2, hd⟩ := Option.bind_eq_some_iff.mp hd
  dsimp only at hd
  split at hd
  · rename_i c gs
    obtain ⟨b, h3, hd⟩ := Option.map_eq_some_iff.mp hd
    cases hd
    exact ⟨M, ρ, f, _, _, rs, h1, fun v M1 H1 f1 fw rs1 ok1 st1 => ⟨v, vc, c, gs, b, rfl, ok1.view rs1 h2, hcv, h3, k (.bl b) M1 H1 f1 [] rs1 (rvB (.bl b)) st1⟩⟩
  · cases hd
/-- isinstance(e, C), C an own class -/
theorem de_isX {x : Str} {C : Addr} {p1 p2 : Pos} {g : Nat → Option Bool} (hg : ∀ i b, g i = some b → XIs X.K (cl i) ∧ PySem.W.kitOne X.K (.ref (cl i)) (.ref C) = some b) (hI : Gl X "isinstance") (hmI : X.mg "isinstance" = none) (hx : Gl X x) (hmx : X.mg x = some (.ref C)) (he : DE cl X e d)
    (hdx : (x == ("__debug__" : Str)) = false := by decide)
    (s1 : starEach [e, .Name x p2] X.env = (false, eval e X.env) :: starEach [.Name x p2] X.env := by rfl) (s2 : starEach [.Name x p2] X.env = (false, eval (.Name x p2) X.env) :: starEach [] X.env := by rfl) (hpl : (backTo pos (starEach [.Name x p2] X.env)).any (·.1) = false := by rfl) :
    DE cl X (.Call (.Name "isinstance" p1) [e, .Name x p2] [] pos) (dIsX g d) :=
  pe_imp (pe_callB (call_isX hg) hI hmI PyProof.Rows.Boot.«isinstance» (pa_cons he (pa_cons (pe_glob (v := .ref C) hx hmx rfl hdx) pa_nil s2) s1) (by decide) (by decide) s1 hpl) fun σ H Q h => dIsX_imp (fun u r => r) h
/-- isinstance(e, T), T built in -/
theorem de_isXT {x : Str} {T : String} {p1 p2 : Pos} {g : Nat → Option Bool} (hg : ∀ i b, g i = some b → XIs X.K (cl i) ∧ PySem.W.kitOne X.K (.ref (cl i)) (.type T) = some b) (hI : Gl X "isinstance") (hmI : X.mg "isinstance" = none) (hx : Gl X x) (hmx : X.mg x = none) (hb : bootBuiltins x = some (.type T)) (he : DE cl X e d)
    (hn : x ≠ "__name__" := by decide) (hdx : (x == ("__debug__" : Str)) = false := by decide)
    (s1 : starEach [e, .Name x p2] X.env = (false, eval e X.env) :: starEach [.Name x p2] X.env := by rfl) (s2 : starEach [.Name x p2] X.env = (false, eval (.Name x p2) X.env) :: starEach [] X.env := by rfl) (hpl : (backTo pos (starEach [.Name x p2] X.env)).any (·.1) = false := by rfl) :
    DE cl X (.Call (.Name "isinstance" p1) [e, .Name x p2] [] pos) (dIsX g d) :=
  pe_imp (pe_callB (call_isX hg) hI hmI PyProof.Rows.Boot.«isinstance» (pa_cons he (pa_cons (pe_bltn (v := .ty T) hx hmx hb rfl hn hdx) pa_nil s2) s1) (by decide) (by decide) s1 hpl) fun σ H Q h => dIsX_imp (fun u r => r) h
end
end Ws
set_option Elab.async false
set_option linter.all false
set_option maxRecDepth 100000
set_option maxHeartbeats 2000000
/-! Ws14: defs that are called where no repr is under way. -/
namespace Ws
open PySem PySem.Spec PyProof.Rows L2
/-- .. where no repr is under way; c: nothing is handled -/
structure RoomG (c : Bool) (k : Nat) (A : Around) : Prop where
  hd : c = true → A.handled = none
  dp : A.depth + 3 * k + 5 < recursionLimit
  un : A.units + 16 * k + 200 < cLine
  g : A.guards = some []
theorem RoomG.mono {c : Bool} {j k : Nat} {A : Around} (h : RoomG c k A) (l : j ≤ k) : RoomG c j A := ⟨h.hd, by have := h.dp; omega, by have := h.un; omega, h.g⟩
theorem RoomG.deeper {c : Bool} {k : Nat} {A : Around} (h : RoomG c (k + 1) A) (env : PySem.Env) : RoomG c k (A.deeper env) :=
  ⟨h.hd, by have := h.dp; show A.depth + 1 + 3 * k + 5 < _; omega, by have := h.un; show A.units + 3 + 16 * k + 200 < _; omega, by
  have := h.g
  simpa [Around.deeper, Around.under] using this⟩
theorem RoomG.off {c : Bool} {k : Nat} {A : Around} (h : RoomG c k A) : RoomG false k A := ⟨fun z => absurd z Bool.false_ne_true, h.dp, h.un, h.g⟩
theorem RoomG.mark {c : Bool} {k : Nat} {A : Around} (h : RoomG c k A) (e : Option Value) : RoomG false k (A.mark e) := ⟨fun z => absurd z Bool.false_ne_true, h.dp, h.un, h.g⟩
theorem RoomG.depth {c : Bool} {k : Nat} {A : Around} (r : RoomG c k A) : A.depth < recursionLimit := by have := r.dp; omega
theorem RoomG.r {k : Nat} {A : Around} (h : RoomG true k A) : Room k A := ⟨h.hd rfl, h.dp, h.un⟩
theorem roomG_of {k : Nat} {A : Around} (h : Room k A) (g : A.guards = some []) : RoomG true k A := ⟨fun _ => h.hd, h.dp, h.un, g⟩
/-- a def's context, c: nothing is handled -/
abbrev cxC (c : Bool) (CX : CXT) (P : Program) (w : World) (K : PySem.W.Frag) (mg : Str → Option Value) (base : Heap) (N : List Str) (qual : Str) (scope : Scope) (f : Addr) (cd : Value) (A : Around) (outer : List PySem.Env) (s : Shared) (H : Hp) (E : XK) : Cx :=
  { cxOf CX P w K mg base N qual scope f cd A outer s H E with calm := c }
theorem inv_startC {c : Bool} {CX : CXT} {P : Program} {w : World} {K : PySem.W.Frag} {mg : Str → Option Value} {base : Heap} {N ps : List Str} {qual : Str} {scope : Scope} {f : Addr} {cd : Value} {A : Around} {outer : List PySem.Env} {s s1 : Shared} {H : Hp} {E : XK} {us : List Value} {vs : List V}
    (S : FnScope N ps scope) (hd : c = true → A.handled = none) (e0 : Env0 P w K mg base A outer s H) (hl : vs.length = ps.length) (r : Vals vs us)
    (x : InCallC s s.heap.objs.size (bindL (envOfC qual scope s.heap.objs.size f cd).kindOf (ps.zip us) fun _ => none) (cellsFrom (s.heap.objs.size + 1) scope.names []) (bindC (envOfC qual scope s.heap.objs.size f cd).kindOf (ps.zip us) fun _ => none) s1) :
    Inv (cxC c CX P w K mg base N qual scope f cd A outer s H E) [] (start N vs) H s1 := by
  have hpl : ps.length ≤ N.length := by have := congrArg List.length S.pre; rw [List.length_take] at this; omega
  obtain ⟨h1, tk, rfl, hk⟩ := x.done
  have noA : ∀ b : Addr, b ∉ (cxC c CX P w K mg base N qual scope f cd A outer s H E).ex := fun b z => absurd (show b ∈ ([] : List Addr) from z) (by simp)
  refine ⟨⟨e0.mod, S.kind, rfl, rfl, Nat.le_refl _, fun y z c h1 h2 => ?_, fun y hy => ?_, fun y c _ h => ?_, hd, Around.frames_deeper e0.frames, .inr ⟨rfl, rfl⟩, fun b z => absurd z (noA b), e0.bs, e0.bsz, fun b _ _ => noA b, fun b z => absurd z (noA b), e0.funs, e0.frf⟩,
    rfl, e0.bare, Un.kept hk, ⟨_, x.toInCall.ns, fun i y v h1 h2 h3 => ?_⟩, fun y c h => ⟨_, x.cell y c h⟩, e0.hok.fresh (Nat.le_refl _), fun y c h => ?_, fun p hp => absurd (show p ∈ ([] : List (Addr × Obj)) from hp) (by simp), e0.hok.kept hk, ?_⟩
  · exact name_of_addr x.apart (PySem.mem_of_lookup h1) (PySem.mem_of_lookup h2)
  · have hy : scope.names.lookup y = some .cell ∨ scope.names.lookup y = some .free := hy
    rcases hy with hy | hy
    · exact cell_has hy
    · exact absurd rfl (S.nofree _ (PySem.mem_of_lookup hy))
  · exact Nat.le_of_lt (x.above y c (PySem.mem_of_lookup h))
  · have hi : i < vs.length := by
      unfold L2.start at h2
      by_cases hi : i < vs.length
      · exact hi
      · rw [List.getElem?_append_right (by simpa using hi)] at h2
        rw [List.getElem?_replicate] at h2
        split at h2 <;> cases h2
    have ha : vs[i]? = some v := by
      unfold L2.start at h2
      rw [List.getElem?_append_left (by simpa using hi), List.getElem?_map] at h2
      cases e : vs[i]? with
      | none => rw [e] at h2; cases h2
      | some a => rw [e] at h2; cases h2; rfl
    obtain ⟨u, hu, rv⟩ := r.get ha
    have hp : ps[i]? = some y := by
      rw [← S.pre, List.getElem?_take_of_lt (by omega)]; exact h1
    have ndP : ps.Nodup := by rw [← S.pre]; exact S.nd.sublist (List.take_sublist _ _)
    refine ⟨u, rv, ?_⟩
    rcases S.par y (List.mem_of_getElem? hp) with k | k
    · exact .inl ⟨k, bindL_get ndP hp hu k⟩
    · obtain ⟨c, e⟩ := cell_has (n := s.heap.objs.size + 1) k
      refine .inr ⟨.inl k, c, e, ?_⟩
      have q := x.cell y c e
      rw [bindC_get ndP hp hu (by show scope.names.lookup y ≠ _; rw [k]; decide)] at q
      exact q
  · exact e0.hok.fresh (Nat.le_of_lt (x.above y c (PySem.mem_of_lookup h)))
  · unfold L2.start
    show _ = N.length
    rw [List.length_append, List.length_map, List.length_replicate]
    omega


structure FnOkG (c : Bool) (P : Program) (w : World) (K : PySem.W.Frag) (mg : Str → Option Value) (base : Heap) (CX : CXT) (k : Nat) (f : Addr) (fd : FuncData) (ps : List Str) (sp : Sp) : Prop where
  len : ∀ vs H Q E, sp vs H Q E → vs.length = ps.length
  run : ∀ (A : Around) (outer : List PySem.Env) (s : Shared) (H : Hp) (args : Args) (us : List Value) (vs : List V) (Q : VK) (E : XK), RoomG c k A → Env0 P w K mg base A outer s H → BindsTo s fd args (ps.zip us) → Vals vs us → sp vs H Q E →
    codeAny (model P w) A (.call (.ref f) args) (CR CX outer P w H s Q E) s
theorem FnOkG.of {c : Bool} {P : Program} {w : World} {K : PySem.W.Frag} {mg : Str → Option Value} {base : Heap} {CX : CXT} {k : Nat} {f : Addr} {fd : FuncData} {ps : List Str} {sp : Sp} (F : FnOk P w K mg base CX k f fd ps sp) : FnOkG true P w K mg base CX k f fd ps sp :=
  ⟨F.len, fun A outer s H args us vs Q E hr => F.run A outer s H args us vs Q E hr.r⟩
theorem FnOkG.on {c : Bool} {P : Program} {w : World} {K : PySem.W.Frag} {mg : Str → Option Value} {base : Heap} {CX : CXT} {k : Nat} {f : Addr} {fd : FuncData} {ps : List Str} {sp : Sp} (F : FnOkG false P w K mg base CX k f fd ps sp) : FnOkG c P w K mg base CX k f fd ps sp :=
  ⟨F.len, fun A outer s H args us vs Q E hr => F.run A outer s H args us vs Q E hr.off⟩
theorem FnOkG.mono {c : Bool} {P : Program} {w : World} {K : PySem.W.Frag} {mg : Str → Option Value} {base : Heap} {CX : CXT} {j k : Nat} {f : Addr} {fd : FuncData} {ps : List Str} {sp : Sp} (F : FnOkG c P w K mg base CX j f fd ps sp) (h : j ≤ k) :
    FnOkG c P w K mg base CX k f fd ps sp := ⟨F.len, fun A outer s H args us vs Q E hr => F.run A outer s H args us vs Q E (hr.mono h)⟩
theorem fn_ofG {c : Bool} {CX : CXT} {P : Program} {w : World} {K : PySem.W.Frag} {mg : Str → Option Value} {base : Heap} {k : Nat} {f : Addr} {name qual : Str} {params : Arguments} {body : List Stmt} {scope : Scope} {dV kV doc pm cdv ct oc : Value} {an od : Option Addr}
    {osl : Array (Option Value)} {N ps : List Str} {sp : Sp} (lk : K.lookup f = some ⟨oc, od, .func (PySem.W.fnOf name qual params body scope dV kV doc pm an cdv ct), osl⟩) (hcd : PySem.W.codeIn K cdv qual = true) (S : FnScope N ps scope)
    (len : ∀ vs H Q E, sp vs H Q E → vs.length = ps.length)
    (hbody : ∀ (A : Around) (outer : List PySem.Env) (s : Shared) (H : Hp) (vs : List V) (Q : VK) (E : XK), RoomG c k (A.deeper (envOfC qual scope s.heap.objs.size f cdv)) → sp vs H Q E →
      ∃ t, PSs (cxC c CX P w K mg base N qual scope f cdv A outer s H E) body t ∧ t { nx := fun _ H' => Q .non H', rt := Q } (start N vs) H) :
    FnOkG c P w K mg base CX (k + 1) f (PySem.W.fnOf name qual params body scope dV kV doc pm an cdv ct) ps sp := by
  refine ⟨len, fun A outer s H args us vs Q E hr e0 hb r hsp => ?_⟩
  have hl := len _ _ _ _ hsp
  have KX : K.In s.heap := e0.mod.kin.keeps fun b o e => (e0.bs b o e).1
  have lim : s.heap.NoLimit := e0.mod.nolimit.keeps fun b o e => (e0.bs b o e).1
  have hkind : ∀ y ∈ ps.zip us, scope.names.lookup y.1 = some .local ∨ (scope.names.lookup y.1 = some .cell ∧ ((cellsFrom (s.heap.objs.size + 1) scope.names []).lookup y.1).isSome = true) := fun ⟨n, v⟩ hy => by
    rcases S.par n (List.of_mem_zip hy).1 with q | q
    · exact .inl q
    · exact .inr ⟨q, PySem.W.cellsFrom_some _ _ _ (.inl q)⟩
  refine codeAny_call_function hr.depth (KX _ _ lk) rfl S.co S.gen rfl (PySem.W.codeRec_of KX hcd) (hb _ _ _ _ ?_)
  refine wpAny_newFunctionEnv_cells S.kind hkind fun env he s1 x => ?_
  subst he
  refine ⟨lim.keeps x.toInCall.keep, codeAny_func ?_⟩
  obtain ⟨t, ht, hq⟩ := hbody A outer s H vs Q E (hr.deeper _) hsp
  have I : Inv (cxC c CX P w K mg base N qual scope f cdv A outer s H E) [] (start N vs) H s1 := inv_startC S hr.hd e0 hl r x
  refine wpAny_mono (ht.run [] s1 (start N vs) H _ I hq) (fun fl s' hs => ?_) fun e s' hs => hs
  have fin : ∀ {σ' : L2.St} {H' : Hp} {v : V} {u : Value}, Inv (cxC c CX P w K mg base N qual scope f cdv A outer s H E) [] σ' H' s' → RelV v u → Q v H' → CE outer P w H s Q u s' :=
    fun {σ' H' v u} J rv q => ⟨v, H', J.os, J.bare, J.base, J.hok, rv, q⟩
  cases fl with
  | ret u =>
    obtain ⟨v, σ', H', J, rv, q⟩ := hs
    exact fin J rv q
  | next =>
    obtain ⟨σ', H', J, q⟩ := hs
    exact fin (v := V.non) (u := Value.none) J rfl q
  | brk =>
    obtain ⟨_, _, _, q⟩ := hs
    exact False.elim q
  | cont =>
    obtain ⟨_, _, _, q⟩ := hs
    exact False.elim q

section
variable {P : Program} {w : World} {K : PySem.W.Frag} {mg : Str → Option Value} {base : Heap} {x qual : Str} {params : Arguments} {body : List Stmt} {scope : Scope} {dvs : List V} {kws : List (Str × V)} {f : Addr} {fd : FuncData}
theorem okG {c : Bool} {CX : CXT} {N ps : List Str} {k : Nat} {sp : Sp} (F : FunD K x qual params body scope dvs kws f fd) (S : FnScope N ps scope) (len : ∀ vs H Q E, sp vs H Q E → vs.length = ps.length)
    (hbody : ∀ (cdv : Value) (A : Around) (outer : List PySem.Env) (s : Shared) (H : Hp) (vs : List V) (Q : VK) (E : XK), RoomG c k (A.deeper (envOfC qual scope s.heap.objs.size f cdv)) → sp vs H Q E →
      ∃ t, PSs (cxC c CX P w K mg base N qual scope f cdv A outer s H E) body t ∧ t { nx := fun _ H' => Q .non H', rt := Q } (start N vs) H) : FnOkG c P w K mg base CX (k + 1) f fd ps sp := by
  obtain ⟨oc, od, dV, kV, doc, pm, an, cdv, ct, osl, rfl, lk, hcd, _, _⟩ := F.ex
  exact fn_ofG lk hcd S len fun A outer s H vs Q E hr hsp => hbody cdv A outer s H vs Q E hr hsp
end
section
variable {c : Bool} {X : Cx} {CX : CXT} {k : Nat} {f : Addr} {fd : FuncData} {ps : List Str} {sp : Sp} {E : XK} {ds : List Value} {dvs : List V} {x : Str} {p pos : Pos} {e : Expr} {es : List Expr} {t : TA}
theorem run_fnG {pins : List (Addr × Obj)} {σ : L2.St} {H : Hp} {s : Shared} {Q : VK} {us : List Value} {vs : List V} (F : FnOkG c X.prog X.w X.K X.mg X.base CX k f fd ps sp) (hr : RoomG c k X.A) (hb : Binds X.K fd ps ds) (hd : Vals dvs ds) (hx : Passes CX X E)
    (I : Inv X pins σ H s) (r : Vals vs us) (h : sp (vs ++ dvs) H Q E) : wpAny (model X.prog X.w) X.A (call (.ref f) us) (EP X pins σ Q) X.xe s := by
  have r2 : Vals (vs ++ dvs) (us ++ ds) := r.append hd
  have hl : (us ++ ds).length = ps.length := by rw [← r2.length]; exact F.len _ _ _ _ h
  refine wpAny_call (codeAny_mono (F.run X.A X.stack s H ⟨us, []⟩ (us ++ ds) (vs ++ dvs) Q E hr I.env0 (hb s us I.kIn hl) r2 h) fun r s' hq => ?_)
  cases r with
  | error e => exact hx pins σ H s e s' I hq
  | ok fl =>
    cases fl with
    | ret u => exact I.after hq
    | next => exact False.elim hq
    | brk => exact False.elim hq
    | cont => exact False.elim hq
theorem pe_callG (F : FnOkG c X.prog X.w X.K X.mg X.base CX k f fd ps sp) (hr : RoomG c k X.A) (hg : Gl X x) (hm : X.mg x = some (.ref f)) (hk : PySem.W.keepIn X.K (.ref f) = true) (hb : Binds X.K fd ps ds) (hd : Vals dvs ds) (hx : Passes CX X E)
    (ha : PA X (e :: es) t) (hdb : (x == ("__debug__" : Str)) = false := by decide) (he : starEach (e :: es) X.env = (false, eval e X.env) :: starEach es X.env := by rfl) (hpl : (backTo pos (starEach es X.env)).any (·.1) = false := by rfl) :
    PE X (.Call (.Name x p) (e :: es) [] pos) (tCall sp dvs E t) := by
  refine ⟨fun pins s σ H Q I h => ?_⟩
  refine wpAny_Call_Name_kw (ld_glob I hg hm ?_ hdb)
  refine PySem.W.callWith_K (h₀ := X.base) I.ok.mod.kin hk (thn (ha.run pos pins s σ H _ I h) fun us s1 ⟨vs, H1, I1, r, q⟩ => ⟨I1.kIn, ?_⟩) he hpl
  exact run_fnG F hr hb hd hx I1 r q
theorem pe_callG0 (F : FnOkG c X.prog X.w X.K X.mg X.base CX k f fd ps sp) (hr : RoomG c k X.A) (hg : Gl X x) (hm : X.mg x = some (.ref f)) (hk : PySem.W.keepIn X.K (.ref f) = true) (hb : Binds X.K fd ps ds) (hd : Vals dvs ds) (hx : Passes CX X E)
    (hdb : (x == ("__debug__" : Str)) = false := by decide) : PE X (.Call (.Name x p) [] [] pos) (tCall sp dvs E tNil) := by
  refine ⟨fun pins s σ H Q I h => ?_⟩
  refine wpAny_Call_Name_kw (ld_glob I hg hm ?_ hdb)
  exact PySem.W.callWith_K0 I.kIn hk (run_fnG (us := []) F hr hb hd hx I .nil h)
end
section
variable {c : Bool} {cl : Nat → Addr} {X : Cx} {k : Nat} {f : Addr} {fd : FuncData} {ps : List Str} {den : List W → Option (W × List W)} {x : Str} {p pos : Pos} {e : Expr} {es : List Expr} {dr : Den (List Rv)}
/-- f(e, ..), no defaults -/
theorem dg_call (F : FnOkG c X.prog X.w X.K X.mg X.base CX0 k f fd ps (spW X.w X.K cl den)) (hr : RoomG c k X.A) (hg : Gl X x) (hm : X.mg x = some (.ref f)) (hk : PySem.W.keepIn X.K (.ref f) = true) (hb : Binds X.K fd ps [])
    (ha : DR cl X (e :: es) dr) (hdb : (x == ("__debug__" : Str)) = false := by decide) (he : starEach (e :: es) X.env = (false, eval e X.env) :: starEach es X.env := by rfl) (hpl : (backTo pos (starEach es X.env)).any (·.1) = false := by rfl) :
    DE cl X (.Call (.Name x p) (e :: es) [] pos) (dCall den dr []) := pe_imp (pe_callG F hr hg hm hk hb .nil pass0 ha hdb he hpl) fun _ _ _ => dCall_imp (fun _ _ => .nil)
theorem dg_call0 (F : FnOkG c X.prog X.w X.K X.mg X.base CX0 k f fd ps (spW X.w X.K cl den)) (hr : RoomG c k X.A) (hg : Gl X x) (hm : X.mg x = some (.ref f)) (hk : PySem.W.keepIn X.K (.ref f) = true) (hb : Binds X.K fd ps [])
    (hdb : (x == ("__debug__" : Str)) = false := by decide) : DE cl X (.Call (.Name x p) [] [] pos) (dCall den dRNil []) := pe_imp (pe_callG0 F hr hg hm hk hb .nil pass0 hdb) fun σ H Q h => by
  obtain ⟨M, ρ, f, rvs, ρ', rs, hd, k⟩ := dCall_imp (E := E0) (dvs := []) (fun _ _ => .nil) h
  cases hd
  exact k [] M H f [] rs .nil Step.refl
end
theorem law_callG {P : Program} {w : World} {K : PySem.W.Frag} {mg mb : Str → Option Value} {CX : CXT} {k : Nat} {fa a : Addr} {fd : FuncData} {x : Str} {sp : Sp} {s₁ : Shared} {vs : List Value} {ns : List Int}
    (KX : K.In s₁.heap) (hns : s₁.heap.Ns mainGlobals mg) (hb : s₁.heap.Ns builtinsNs mb) (hbb : ∀ x : Str, x ≠ "__name__" → mb x = bootBuiltins x) (hlim : s₁.heap.NoLimit) (hg : s₁.gens = #[])
    (ha : s₁.heap.get? a = some { cls := .type "list", data := .seq vs.toArray }) (hi : IntsAre vs ns) (hl : ns.length ≤ sizeLine) (hr : RoomG true k callerA)
    (F : ∀ base : Heap, K.In base → base.Ns mainGlobals mg → FnOkG true P w K mg base CX k fa fd [x] sp) (hbind : ∀ (s : Shared) (u : Value), BindsTo s fd ⟨[u], []⟩ [(x, u)])
    (hsp : ∀ H : Hp, Only H → SqL K H a (ns.map V.int) → sp [.ref a] H (fun v _ => v = .bl true) fun _ _ _ => False)
    (hCX : ∀ H e s', CX [] H s₁ (fun _ _ _ => False) e s' → False) :
    codeAny (model P w) callerA (.call (.ref fa) ⟨[.ref a], []⟩) (fun r s' => r = .ok (.ret (.bool true)) ∧ OldK s₁.heap s'.heap ∧ s'.os = s₁.os ∧ AllBare s'.gens) s₁ := by
  have rv := vals_ints hi
  have lenV := hi.length
  -- from an abstract heap in which nothing but the script may be tracked
  have core : ∀ H : Hp, Only H → SqL K H a (ns.map V.int) → HOk P w H s₁.heap → (∀ b, H b ≠ none → b = a) → (H a ≠ none → K.lookup a = none) →
      codeAny (model P w) callerA (.call (.ref fa) ⟨[.ref a], []⟩) (fun r s' => r = .ok (.ret (.bool true)) ∧ OldK s₁.heap s'.heap ∧ s'.os = s₁.os ∧ AllBare s'.gens) s₁ := by
    intro H hO hS hok hA hK
    have base_of : ∀ {b : Addr} {o : Obj}, s₁.heap.get? b = some o → H b = none → (hidT s₁.heap H).get? b = some o := fun e n => hidT_get e n
    have noA : ∀ {b : Addr} {o : Obj} {es : Array DictEntry} {ep : Nat}, s₁.heap.get? b = some o → o.data = .dict es ep → H b = none := fun {b o es ep} e d => by
      cases q : H b with
      | none => rfl
      | some u =>
        have e' : b = a := hA b (by rw [q]; simp)
        subst e'
        rw [ha] at e; cases e
        have d' : Data.seq vs.toArray _ = Data.dict es ep := d
        cases d'
    have nsK : ∀ {b : Addr} {m : Str → Option Value}, s₁.heap.Ns b m → (hidT s₁.heap H).Ns b m := fun {b m} ⟨o, es, ep, e, d, r⟩ => ⟨o, es, ep, base_of e (noA e d), d, r⟩
    have hKb : K.In (hidT s₁.heap H) := fun b o e => base_of (KX b o e) (by
      cases q : H b with
      | none => rfl
      | some u =>
        have e' : b = a := hA b (by rw [q]; simp)
        subst e'
        rw [hK (by rw [q]; simp)] at e; cases e)
    have hM : Mod K mg (hidT s₁.heap H) := ⟨hKb, nsK hns, ⟨mb, nsK hb, hbb⟩, let ⟨mc, h1, h2⟩ := hlim; ⟨mc, nsK h1, h2⟩⟩
    have e0 : Env0 P w K mg (hidT s₁.heap H) callerA [] s₁ H := ⟨rfl, hM, fun b o e => of_hidT e, Nat.le_of_eq (hidT_size _ _), trivial, fun b hb => absurd (show b ∈ ([] : List Addr) from hb) (by simp), hok, .of_eq hg⟩
    refine codeAny_mono ((F _ hKb (nsK hns)).run callerA [] s₁ H ⟨[.ref a], []⟩ [.ref a] [.ref a] _ _ hr e0 (hbind s₁ (.ref a)) (.cons rfl .nil) (hsp H hO hS)) fun r s' h => ?_
    cases r with
    | error e => exact (hCX H e s' h).elim
    | ok fl =>
      cases fl with
      | next => exact False.elim h
      | brk => exact False.elim h
      | cont => exact False.elim h
      | ret u =>
        obtain ⟨v, H', os, bare, un, hok', r', q⟩ := h
        have q' : v = .bl true := q
        subst q'
        obtain rfl : u = Value.bool true := r'
        refine ⟨rfl, OldK.of_keep fun b o e => ?_, os, bare⟩
        cases q : H b with
        | none => exact un.keep b o e q (by intro z; exact absurd (show b ∈ ([] : List Addr) from z) (by simp)) (by simp)
        | some u =>
          rcases hO b with z | ⟨ob, xs, z⟩
          · rw [q] at z; cases z
          · have z2 := un.frzs b ob _ z
            obtain ⟨e1, _⟩ := hok b _ z
            obtain ⟨e2, _⟩ := hok' b _ z2
            rw [e] at e1; cases e1
            exact e2
  cases hk : K.lookup a with
  | some o =>
    -- the script is one of the module's own objects
    have e := KX a o hk
    rw [ha] at e
    cases e
    refine core (fun _ => none) (fun _ => .inl rfl) (.inr ⟨_, vs.toArray, _, hk, rfl, rfl, rfl, by rw [List.size_toArray, lenV]; exact hl, by simpa using rv⟩) (fun b u z => by have z' : (none : Option HO) = some u := z; cases z') (fun b z => absurd rfl z) fun z => absurd rfl z
  | none =>
    refine core (fun b => if b = a then some (.frz { cls := .type "list", data := .seq vs.toArray } (.lst (ns.map V.int))) else none) (fun b => ?_) (.inl (.inr ⟨{ cls := .type "list", data := .seq vs.toArray }, if_pos rfl⟩)) (fun b u z => ?_) (fun b z => ?_) fun _ => hk
    · by_cases hb : b = a
      · exact .inr ⟨_, _, if_pos hb⟩
      · exact .inl (if_neg hb)
    · by_cases hb : b = a
      · have z' := (if_pos hb).symm.trans z
        cases z'
        subst hb
        exact ⟨ha, by rw [List.length_map]; exact hl, vs, _, rv, ha⟩
      · have z' := (if_neg hb).symm.trans z
        cases z'
    · by_cases hb : b = a
      · exact hb
      · exact absurd (if_neg hb) z

theorem walk_ofG {l : PySem.W.OpenLaw} {n k : Nat} {q : Program} {loose : List Str} {XP : (Str → Option Value) → Heap → Prop} {YP : World → Heap → Prop} {d : DefRec} {CX : CXT} {x : Str}
    (hn : l.most = some n) (hn2 : n ≤ sizeLine) (hdf : d.params.defaults = []) (hr : RoomG true k callerA)
    (F : ∀ (w : World) (mg : Str → Option Value) (fa : Addr) (h : Heap), YP w h → h.Ns mainGlobals mg → mg d.name = some (.ref fa) →
      ∃ (K : PySem.W.Frag) (fd : FuncData) (sp : Sp), K.In h ∧ (∀ (s : Shared) (u : Value), BindsTo s fd ⟨[u], []⟩ [(x, u)]) ∧
        (∀ (H : Hp) (a : Addr) (ns : List Int), ns.length ≤ n → Only H → SqL K H a (ns.map V.int) → sp [.ref a] H (fun v _ => v = .bl true) fun _ _ _ => False) ∧
        ∀ base : Heap, K.In base → base.Ns mainGlobals mg → FnOkG true l.prog w K mg base CX k fa fd [x] sp)
    (hCX : ∀ (H : Hp) (s : Shared) (e : Value) (s' : Shared), CX [] H s (fun _ _ _ => False) e s' → False) :
    PySem.W.WalkO q loose XP YP l.row.toRowW d [] (fun f vs => PySem.call f vs) := by
  refine Att.attach_call hn hdf fun w s₀ s₁ mg mb fa o pm cd doc a vs ns G Y ho hd hcd hmg hobj hints hlen hg => ?_
  obtain ⟨K, fd, sp, KX, hb, hsp, hF⟩ := F w mg fa _ Y G.T.g hmg
  exact law_callG KX G.T.g G.T.b G.T.builtins G.T.nolimit hg hobj hints (Nat.le_trans hlen hn2) hr hF hb (fun H hO hS => hsp H a ns hlen hO hS) fun H e s' => hCX H s₁ e s'

end Ws
set_option Elab.async false
set_option linter.all false
set_option maxRecDepth 100000
set_option maxHeartbeats 4000000
/-! Ws15: repr of deep data. -/
namespace PySem
namespace WsR
open PyData
section
variable {prog : Program} {w : World} {h₀ : Heap}
mutual

theorem reprK_reads : ∀ {v : Value} {d : PyData} {as : List Addr}, Reads h₀ v d as → d.showable = true → (∀ b o, b ∈ as → h₀.get? b = some o → o.cls = .type "dict" → (b == sysModules) = false) → d.shown.length ≤ sizeLine → ∃ bs, ReadAtMost h₀ d.depth bs ∧ ReprK prog w bs h₀ d.depth v d.shown
  | _, _, _, .none, _, _, _ => ⟨[], (fun _ h => nomatch h), by simp only [PyData.shown]; exact .of_is ReprIs.none _ _ _⟩
  | _, _, _, .bool b, _, _, _ => ⟨[], (fun _ h => nomatch h), by simp only [PyData.shown]; exact .of_is (ReprIs.bool b) _ _ _⟩
  | _, _, _, .int i t, hs, _, _ => ⟨[], (fun _ h => nomatch h), by simp only [PyData.shown]; exact .of_is (ReprIs.int t (by simpa [PyData.showable] using hs)) _ _ _⟩
  | _, _, _, .str x t, _, _, hz => ⟨[], (fun _ h => nomatch h), by simp only [PyData.shown]; exact .of_is (ReprIs.str x t (by simpa only [PyData.shown] using hz)) _ _ _⟩
  | _, _, _, .list (a := a) (vs := vs) (xs := xs) h1 h2 h3 h4, hs, hsm, hz => by
    have hz' : (listText (PyData.shownAll xs)).length ≤ sizeLine := by simpa only [PyData.shown] using hz
    obtain ⟨bs, hb, hk⟩ := reprAllK_reads h4 (by simpa [PyData.showable] using hs) (fun b o hm => hsm b o (List.mem_cons_of_mem _ hm)) (fun t ht => Nat.le_trans (listText_mem_le ht) hz')
    have r : Reads h₀ (.ref a) (.list xs) _ := .list h1 h2 h3 h4
    have hna : a ∉ bs := not_mem_of_deeper r (by simp only [PyData.depth]; omega) hb
    refine ⟨a :: bs, ReadAtMost.cons r (by simp only [PyData.depth]; omega) hb, ?_⟩
    simp only [PyData.depth, PyData.shown]
    obtain ⟨l⟩ := vs
    cases l with
    | nil =>
      have h4' : ReadsAll h₀ [] xs _ := h4
      cases h4'
      simp only [PyData.shownAll, listText_nil]
      exact ReprK.listEmpty h1 h2 h3
    | cons x l => exact ReprK.list h1 h2 h3 hna (by simpa using hk.length_eq) (fun i y e => hk.item i y (by simpa using e))
  | _, _, _, .tuple (a := a) (xs := xs) h1 h2 h3 h4, hs, hsm, hz => by
    have hz' : (tupleText (PyData.shownAll xs)).length ≤ sizeLine := by simpa only [PyData.shown] using hz
    obtain ⟨bs, hb, hk⟩ := reprAllK_reads h4 (by simpa [PyData.showable] using hs) (fun b o hm => hsm b o hm) (fun t ht => Nat.le_trans (tupleText_mem_le ht) hz')
    have r : Reads h₀ (.ref a) (.tuple xs) _ := .tuple h1 h2 h3 h4
    have hna : a ∉ bs := not_mem_of_deeper r (by simp only [PyData.depth]; omega) hb
    refine ⟨a :: bs, ReadAtMost.cons r (by simp only [PyData.depth]; omega) hb, ?_⟩
    simp only [PyData.depth, PyData.shown]
    exact ReprK.tuple h1 h2 h3 hna hk
  | _, _, _, .dict (a := a) (es := es) (kvs := kvs) (as := as₁) (bs := bs₁) h1 h2 h3 h4 h5, hs, hsm, hz => by
    have hz' : (dictText (PyData.shownKv kvs)).length ≤ sizeLine := by simpa only [PyData.shown] using hz
    obtain ⟨hs1, hs2⟩ := PyData.showableKv_split kvs (by simpa [PyData.showable] using hs)
    obtain ⟨b1, hb1, k1⟩ := reprAllK_reads h4 hs1 (fun b o hm => hsm b o (List.mem_cons_of_mem _ (List.mem_append_left _ hm))) (fun t ht => let ⟨p, hp, hl⟩ := PyData.shownKv_key_le kvs t ht; Nat.le_trans hl (Nat.le_trans (dictText_mem_le hp) hz'))
    obtain ⟨b2, hb2, k2⟩ := reprAllK_reads h5 hs2 (fun b o hm => hsm b o (List.mem_cons_of_mem _ (List.mem_append_right _ hm))) (fun t ht => let ⟨p, hp, hl⟩ := PyData.shownKv_val_le kvs t ht; Nat.le_trans hl (Nat.le_trans (dictText_mem_le hp) hz'))
    have r : Reads h₀ (.ref a) (.dict kvs) _ := .dict h1 h2 h3 h4 h5
    have hb : ReadAtMost h₀ (PyData.depthKv kvs) (b1 ++ b2) := (hb1.mono (PyData.depthAll_keys_le kvs)).append (hb2.mono (PyData.depthAll_vals_le kvs))
    have hna : a ∉ b1 ++ b2 := not_mem_of_deeper r (by simp only [PyData.depth]; omega) hb
    have hsys : (a == sysModules) = false := hsm a _ (List.mem_cons_self ..) h1 h2
    refine ⟨a :: (b1 ++ b2), ReadAtMost.cons r (by simp only [PyData.depth]; omega) hb, ?_⟩
    simp only [PyData.depth, PyData.shown, PyData.shownKv_eq]
    exact ReprK.dict h1 h2 h3 hsys hna (ReprEntriesK.of_two es.toList _ _
      (k1.more_le (fun b hb => List.mem_append_left _ hb) (PyData.depthAll_keys_le kvs)) (k2.more_le (fun b hb => List.mem_append_right _ hb) (PyData.depthAll_vals_le kvs)))
theorem reprAllK_reads : ∀ {vs : List Value} {ds : List PyData} {as : List Addr}, ReadsAll h₀ vs ds as → PyData.showableAll ds = true → (∀ b o, b ∈ as → h₀.get? b = some o → o.cls = .type "dict" → (b == sysModules) = false) → (∀ t ∈ PyData.shownAll ds, t.length ≤ sizeLine) →
    ∃ bs, ReadAtMost h₀ (PyData.depthAll ds) bs ∧ ReprAllK prog w bs h₀ (PyData.depthAll ds) vs (PyData.shownAll ds)
  | _, _, _, .nil, _, _, _ => ⟨[], (fun _ h => nomatch h), by simp only [PyData.shownAll]; exact .nil⟩
  | _, _, _, .cons (d := d) (ds := ds) r rs, hs, hsm, hz => by
    have hs' : d.showable = true ∧ PyData.showableAll ds = true := by simpa [PyData.showableAll] using hs
    obtain ⟨b1, hb1, k1⟩ := reprK_reads r hs'.1 (fun b o hm => hsm b o (List.mem_append_left _ hm)) (hz _ (by simp only [PyData.shownAll]; exact List.mem_cons_self ..))
    obtain ⟨b2, hb2, k2⟩ := reprAllK_reads rs hs'.2 (fun b o hm => hsm b o (List.mem_append_right _ hm)) (fun t ht => hz t (by simp only [PyData.shownAll]; exact List.mem_cons_of_mem _ ht))
    refine ⟨b1 ++ b2, ?_, ?_⟩
    · intro b hm
      simp only [PyData.depthAll]
      rcases List.mem_append.mp hm with hm | hm
      · obtain ⟨d', as', r', hd'⟩ := hb1 b hm
        exact ⟨d', as', r', Nat.le_trans hd' (Nat.le_max_left _ _)⟩
      · obtain ⟨d', as', r', hd'⟩ := hb2 b hm
        exact ⟨d', as', r', Nat.le_trans hd' (Nat.le_max_right _ _)⟩
    · simp only [PyData.depthAll, PyData.shownAll]
      exact .cons ((k1.more fun b hb => List.mem_append_left _ hb).level_le (Nat.le_max_left _ _)) (k2.more_le (fun b hb => List.mem_append_right _ hb) (Nat.le_max_right _ _))
end

end
section
variable {prog : Program} {w : World} {h₀ : Heap} {a : Addr} {d : PyData} {as : List Addr}
theorem showsBy_reads (r : Reads h₀ (.ref a) d as) (hs : d.showable = true) (hsm : ∀ b o, b ∈ as → h₀.get? b = some o → o.cls = .type "dict" → (b == sysModules) = false)
    (hsz : d.shown.length ≤ sizeLine := by size_fits) : ∃ T idr, ShowsBy prog w h₀ a d T idr := by
  cases r with
  | list h1 h2 h3 h4 =>
    rename_i o vs n xs bs₀
    have hz' : (listText (PyData.shownAll xs)).length ≤ sizeLine := by simpa only [PyData.shown] using hsz
    obtain ⟨bs, hb, hk⟩ := reprAllK_reads (prog := prog) (w := w) h4 (by simpa [PyData.showable] using hs) (fun b o hm => hsm b o (List.mem_cons_of_mem _ hm)) (fun t ht => Nat.le_trans (listText_mem_le ht) hz')
    have hna : a ∉ bs := not_mem_of_deeper (.list h1 h2 h3 h4) (by simp only [PyData.depth]; omega) hb
    refine ⟨"list", "list.__repr__", F.slot_list_repr.toG, F.slot_list_str, F.slot_list_format, fun s hk0 => ⟨o, hk0 _ _ h1, h2⟩, fun A E s Q hg hu hk0 hQ => ?_⟩
    simp only [PyData.depth] at hu
    simp only [PyData.shown] at hQ
    obtain ⟨l⟩ := vs
    cases l with
    | nil =>
      have h4' : ReadsAll h₀ [] xs _ := h4
      cases h4'
      simp only [PyData.shownAll, listText_nil] at hQ
      exact call_list_repr_empty ⟨o, hk0 _ _ h1, h2⟩ (hk0 _ _ h1) h3 (hQ s.heap _ _ fun _ _ e => e)
    | cons x l =>
      exact call_list_reprK h1 h2 h3 hna (by simpa using hk.length_eq) (fun i y e => hk.item i y (by simpa using e)) hg (fun b _ => Clear.nil b) hu hk0 hQ hz'
  | tuple h1 h2 h3 h4 =>
    rename_i o vs n xs
    have hz' : (tupleText (PyData.shownAll xs)).length ≤ sizeLine := by simpa only [PyData.shown] using hsz
    obtain ⟨bs, hb, hk⟩ := reprAllK_reads (prog := prog) (w := w) h4 (by simpa [PyData.showable] using hs) (fun b o hm => hsm b o hm) (fun t ht => Nat.le_trans (tupleText_mem_le ht) hz')
    have hna : a ∉ bs := not_mem_of_deeper (.tuple h1 h2 h3 h4) (by simp only [PyData.depth]; omega) hb
    refine ⟨"tuple", "tuple.__repr__", F.slot_tuple_repr, F.slot_tuple_str, F.slot_tuple_format, fun s hk0 => ⟨o, hk0 _ _ h1, h2⟩, fun A E s Q hg hu hk0 hQ => ?_⟩
    simp only [PyData.depth] at hu
    simp only [PyData.shown] at hQ
    exact call_tuple_reprK h1 h2 h3 hna hk hg (fun b _ => Clear.nil b) hu hk0 hQ hz'
  | dict h1 h2 h3 h4 h5 =>
    rename_i o es n kvs as₁ bs₁
    have hz' : (dictText (PyData.shownKv kvs)).length ≤ sizeLine := by simpa only [PyData.shown] using hsz
    obtain ⟨hs1, hs2⟩ := PyData.showableKv_split kvs (by simpa [PyData.showable] using hs)
    obtain ⟨b1, hb1, k1⟩ := reprAllK_reads (prog := prog) (w := w) h4 hs1 (fun b o hm => hsm b o (List.mem_cons_of_mem _ (List.mem_append_left _ hm))) (fun t ht => let ⟨p, hp, hl⟩ := PyData.shownKv_key_le kvs t ht; Nat.le_trans hl (Nat.le_trans (dictText_mem_le hp) hz'))
    obtain ⟨b2, hb2, k2⟩ := reprAllK_reads (prog := prog) (w := w) h5 hs2 (fun b o hm => hsm b o (List.mem_cons_of_mem _ (List.mem_append_right _ hm))) (fun t ht => let ⟨p, hp, hl⟩ := PyData.shownKv_val_le kvs t ht; Nat.le_trans hl (Nat.le_trans (dictText_mem_le hp) hz'))
    have hb : ReadAtMost h₀ (PyData.depthKv kvs) (b1 ++ b2) := (hb1.mono (PyData.depthAll_keys_le kvs)).append (hb2.mono (PyData.depthAll_vals_le kvs))
    have hna : a ∉ b1 ++ b2 := not_mem_of_deeper (.dict h1 h2 h3 h4 h5) (by simp only [PyData.depth]; omega) hb
    have hsys : (a == sysModules) = false := hsm a _ (List.mem_cons_self ..) h1 h2
    refine ⟨"dict", "dict.__repr__", F.slot_dict_repr, F.slot_dict_str, F.slot_dict_format, fun s hk0 => ⟨o, hk0 _ _ h1, h2⟩, fun A E s Q hg hu hk0 hQ => ?_⟩
    simp only [PyData.depth] at hu
    simp only [PyData.shown, PyData.shownKv_eq] at hQ
    exact call_dict_reprK h1 h2 h3 hsys hna (ReprEntriesK.of_two es.toList _ _
      (k1.more_le (fun b hb => List.mem_append_left _ hb) (PyData.depthAll_keys_le kvs)) (k2.more_le (fun b hb => List.mem_append_right _ hb) (PyData.depthAll_vals_le kvs))) hg (fun b _ => Clear.nil b) hu hk0 hQ (by rw [← PyData.shownKv_eq]; exact hz')


variable {A : Around} {E : Value → Shared → Prop} {s : Shared} {Q : Value → Shared → Prop}
theorem repr_reads (r : Reads h₀ (.ref a) d as) (hs : d.showable = true) (hsm : ∀ b o, b ∈ as → h₀.get? b = some o → o.cls = .type "dict" → (b == sysModules) = false) (hg : A.guards = some []) (hu : A.units + (d.depth + 1) < cLine) (hk0 : ∀ b o, h₀.get? b = some o → s.heap.get? b = some o)
    (hQ : ∀ h' u tk, (∀ b o, s.heap.get? b = some o → h'.get? b = some o) → Q (.str d.shown u) { s with heap := h', toks := tk })
    (hsz : d.shown.length ≤ sizeLine) : wpAny (model prog w) A (call (.builtin "repr") [.ref a]) Q E s := by
  obtain ⟨T, idr, S⟩ := showsBy_reads (prog := prog) (w := w) r hs hsm hsz
  exact call_repr_slot (by omega) (S.typeIs s hk0) S.slotRepr (S.call A.in1 E s _ hg (by show A.units + 1 + d.depth < cLine; omega) hk0 fun h' u tk hk => ⟨_, _, rfl, hQ h' u tk hk⟩)
end
end WsR
end PySem

namespace Ws
open PySem PySem.Spec PyProof.Rows L2
mutual
/-- .. as the library's repr takes it -/
def toR : D → Option PyData
  | .none => some .none
  | .bool b => some (.bool b)
  | .int i => some (.int i)
  | .str s => some (.str s)
  | .tup xs => (toRs xs).map .tuple
  | .lst xs => (toRs xs).map .list
  | .dct kvs => (toRk kvs).map .dict
  | .obj _ _ => Option.none
  | .exc _ _ => Option.none
  | .scr _ => Option.none
def toRs : List D → Option (List PyData)
  | [] => some []
  | x :: xs => (toR x).bind fun p => (toRs xs).map fun ps => p :: ps
def toRk : List (D × D) → Option (List (PyData × PyData))
  | [] => some []
  | x :: xs => (toR x.1).bind fun p => (toR x.2).bind fun q => (toRk xs).map fun ps => (p, q) :: ps
end
def DOk (h : Heap) (as : List Addr) : Prop := ∀ b o, b ∈ as → h.get? b = some o → o.cls = .type "dict" → (b == sysModules) = false
theorem DOk.app {h : Heap} {as bs : List Addr} (a : DOk h as) (b : DOk h bs) : DOk h (as ++ bs) := fun c o m e k => by
  rcases List.mem_append.mp m with m | m
  · exact a c o m e k
  · exact b c o m e k
section
variable {P : Program} {w : World} {K : PySem.W.Frag} {cl : Nat → Addr} {M : Addr → Prop} {H : Hp} {h : Heap}
mutual
theorem is_reads (hok : HOk P w H h) (hK : K.In h) : ∀ {v : V} {d : D} {p : PyData} {u : Value}, Is w K cl M H v d → toR d = some p → RelV v u → ∃ as, Reads h u p as ∧ DOk h as
  | _, _, p, u, .non, e, r => by
    simp only [toR, Option.some.injEq] at e; subst e
    obtain rfl : u = Value.none := r
    exact ⟨[], .none, fun _ _ m => nomatch m⟩
  | _, _, p, u, .bl b, e, r => by
    simp only [toR, Option.some.injEq] at e; subst e
    obtain rfl : u = Value.bool b := r
    exact ⟨[], .bool b, fun _ _ m => nomatch m⟩
  | _, _, p, u, .int i, e, r => by
    simp only [toR, Option.some.injEq] at e; subst e
    obtain ⟨t, rfl⟩ : ∃ t, u = Value.int i t := r
    exact ⟨[], .int i t, fun _ _ m => nomatch m⟩
  | _, _, p, u, .str s, e, r => by
    simp only [toR, Option.some.injEq] at e; subst e
    obtain ⟨t, rfl⟩ : ∃ t, u = Value.str s t := r
    exact ⟨[], .str s t, fun _ _ m => nomatch m⟩
  | _, _, p, u, .tup (a := a) (xs := xs) hh m t, e, r => by
    simp only [toR] at e
    obtain ⟨ps, e1, e2⟩ := Option.map_eq_some_iff.mp e
    subst e2
    obtain rfl : u = Value.ref a := r
    have ht : ∃ its : List Value, Vals xs its ∧ IsTup h a its.toArray := by
      rcases hh with hh | ⟨o, hh⟩
      · exact (hok a _ hh).2
      · exact (hok a _ hh).2.2
    obtain ⟨its, rv, ht⟩ := ht
    obtain ⟨as, ra, da⟩ := isL_reads hok hK t e1 rv
    obtain ⟨o, h1, h2, n, h3⟩ := ht
    exact ⟨as, .tuple h1 h2 h3 (by simpa using ra), da⟩
  | _, _, p, u, .tupK (a := a) h1 h2 h3 h4 h5 t, e, r => by
    simp only [toR] at e
    obtain ⟨ps, e1, e2⟩ := Option.map_eq_some_iff.mp e
    subst e2
    obtain rfl : u = Value.ref a := r
    obtain ⟨as, ra, da⟩ := isL_reads hok hK t e1 h5
    exact ⟨as, .tuple (hK _ _ h1) h2 h3 ra, da⟩
  | _, _, p, u, .lst (a := a) hh m t, e, r => by
    simp only [toR] at e
    obtain ⟨ps, e1, e2⟩ := Option.map_eq_some_iff.mp e
    subst e2
    obtain rfl : u = Value.ref a := r
    obtain ⟨_, its, n, rv, ho⟩ := hok a _ hh
    obtain ⟨as, ra, da⟩ := isL_reads hok hK t e1 rv
    refine ⟨a :: as, .list ho rfl rfl (by simpa using ra), fun b o m e k => ?_⟩
    rcases List.mem_cons.mp m with m | m
    · subst m
      rw [ho] at e
      cases e
      exact absurd (show Value.type "list" = Value.type "dict" from k) (by decide)
    · exact da b o m e k
  | _, _, p, u, .scr _ _, e, r => by simp [toR] at e
  | _, _, p, u, .scrK _ _ _ _ _ _, e, r => by simp [toR] at e
  | _, _, p, u, .obj _ _ _, e, r => by simp [toR] at e
  | _, _, p, u, .exc _ _ _ _, e, r => by simp [toR] at e
  | _, _, p, u, .dct (a := a) (es := es) hh m t, e, r => by
    simp only [toR] at e
    obtain ⟨ps, e1, e2⟩ := Option.map_eq_some_iff.mp e
    subst e2
    obtain rfl : u = Value.ref a := r
    obtain ⟨⟨o, ep, ho, hx, hd, hl, hs⟩, _, _⟩ := hok a _ hh
    obtain ⟨as, bs, ra, rb, da, db⟩ := isE_reads hok hK t e1
    refine ⟨a :: as ++ bs, .dict ho hx.1 hd ra rb, fun b o' m e k => ?_⟩
    rcases List.mem_append.mp m with m | m
    · rcases List.mem_cons.mp m with m | m
      · subst m
        exact hs
      · exact da b o' m e k
    · exact db b o' m e k
theorem isL_reads (hok : HOk P w H h) (hK : K.In h) : ∀ {vs : List V} {ds : List D} {ps : List PyData} {us : List Value}, IsL w K cl M H vs ds → toRs ds = some ps → Vals vs us → ∃ as, ReadsAll h us ps as ∧ DOk h as
  | _, _, ps, us, .nil, e, r => by
    simp only [toRs, Option.some.injEq] at e; subst e
    cases r
    exact ⟨[], .nil, fun _ _ m => nomatch m⟩
  | _, _, ps, us, .cons a t, e, r => by
    simp only [toRs] at e
    obtain ⟨p, e1, e⟩ := Option.bind_eq_some_iff.mp e
    obtain ⟨qs, e2, e⟩ := Option.map_eq_some_iff.mp e
    subst e
    cases r with
    | cons ra rr =>
      obtain ⟨as, x1, x2⟩ := is_reads hok hK a e1 ra
      obtain ⟨bs, y1, y2⟩ := isL_reads hok hK t e2 rr
      exact ⟨as ++ bs, .cons x1 y1, x2.app y2⟩
theorem isE_reads (hok : HOk P w H h) (hK : K.In h) : ∀ {es : List DictEntry} {kvs : List (D × D)} {ps : List (PyData × PyData)}, IsE w K cl M H es kvs → toRk kvs = some ps →
    ∃ as bs, ReadsAll h (es.map (·.key)) (ps.map (·.1)) as ∧ ReadsAll h (es.map (·.val)) (ps.map (·.2)) bs ∧ DOk h as ∧ DOk h bs
  | _, _, ps, .nil, e => by
    simp only [toRk, Option.some.injEq] at e; subst e
    exact ⟨[], [], .nil, .nil, (fun _ _ m => nomatch m), (fun _ _ m => nomatch m)⟩
  | _, _, ps, .cons rk ik _ _ rv iv t, e => by
    simp only [toRk] at e
    obtain ⟨p, e1, e⟩ := Option.bind_eq_some_iff.mp e
    obtain ⟨q, e2, e⟩ := Option.bind_eq_some_iff.mp e
    obtain ⟨qs, e3, e⟩ := Option.map_eq_some_iff.mp e
    subst e
    obtain ⟨as, x1, x2⟩ := is_reads hok hK ik e1 rk
    obtain ⟨bs, y1, y2⟩ := is_reads hok hK iv e2 rv
    obtain ⟨as', bs', z1, z2, z3, z4⟩ := isE_reads hok hK t e3
    exact ⟨as ++ as', bs ++ bs', .cons x1 z1, .cons y1 z2, x2.app z3, y2.app z4⟩
end
end
/-- repr(d) -/
def gRepr (d : D) : Option D := (toR d).bind fun p => if p.showable = true ∧ p.shown.length ≤ sizeLine ∧ p.depth ≤ 60 then some (.str p.shown) else Option.none
section
variable {cl : Nat → Addr} {X : Cx} {k : Nat}
theorem c_repr {c : Bool} (hr : RoomG c k X.A) : CallR X (.builtin "repr") (rC1 X.w X.K cl gRepr) := by
  intro pins s σ H xs us Q I r h
  obtain ⟨x, d, rr, v, rfl, is, hg, hv, q⟩ := h
  obtain ⟨p, e1, hg⟩ := Option.bind_eq_some_iff.mp hg
  by_cases c : p.showable = true ∧ p.shown.length ≤ sizeLine ∧ p.depth ≤ 60
  · rw [if_pos c] at hg
    cases hg
    cases hv
    cases r with
    | @cons _ u0 _ _ r0 rn =>
      cases rn
      obtain ⟨as, ra, da⟩ := is_reads I.hok I.kIn is e1 r0
      have un := hr.un
      have big : ∀ a, u0 = Value.ref a → wpAny (model X.prog X.w) X.A (call (.builtin "repr") [.ref a]) (EP X pins σ Q) X.xe s := fun a ea => by
        subst ea
        exact PySem.WsR.repr_reads (h₀ := s.heap) ra c.1 da hr.g (by omega) (fun _ _ z => z) (fun h' u tk kk => ⟨.str p.shown, H, I.kept (t' := tk) kk, ⟨u, rfl⟩, q⟩) c.2.1
      cases ra with
      | none => exact PySem.P.repr_of_none ⟨.str _, H, I.tok _, ⟨_, rfl⟩, q⟩
      | bool b => exact PySem.P.repr_of_bool ⟨.str _, H, I.tok _, ⟨_, rfl⟩, q⟩
      | int i t => exact PySem.P.repr_of_int (by simpa [PyData.showable] using c.1) ⟨.str _, H, I.tok _, ⟨_, rfl⟩, q⟩
      | str y t => exact PySem.P.repr_of_str ⟨.str _, H, I.tok _, ⟨_, rfl⟩, q⟩ (by simpa only [PyData.shown] using c.2.1)
      | list => exact big _ rfl
      | tuple => exact big _ rfl
      | dict => exact big _ rfl
  · rw [if_neg c] at hg
    cases hg
theorem de_repr {c : Bool} {e : Expr} {p pos : Pos} {d : Den Rv} (hr : RoomG c k X.A) (hg : Gl X "repr") (hm : X.mg "repr" = none) (ha : DE cl X e d) (he : starEach [e] X.env = (false, eval e X.env) :: starEach [] X.env := by rfl) (hpl : (backTo pos (starEach [] X.env)).any (·.1) = false := by rfl) :
    DE cl X (.Call (.Name "repr" p) [e] [] pos) (dUn gRepr d) := de_cb (c_repr hr) hg hm PyProof.Rows.Boot.«repr» ha (by decide) (by decide) he hpl
end
end Ws
set_option Elab.async false
set_option linter.all false
set_option maxRecDepth 100000
set_option maxHeartbeats 2000000
/-! Ws16: small things: text * int, -int, two names at once, a dict of one pair. -/
namespace Ws
open PySem PySem.Spec PyProof.Rows L2
instance (x : Str) (n : Int) : Decidable (MulOk x n) := by unfold MulOk; infer_instance
/-- text * int -/
def gSMul : D → D → Option D
  | .str s, .int i => if MulOk s i then some (.str (Txt.mul s i)) else Option.none
  | _, _ => Option.none
def gNeg : D → Option D
  | .int i => some (.int (-i))
  | _ => Option.none
section
variable {cl : Nat → Addr} {X : Cx} {a b : Expr} {pos : Pos} {da db : Den Rv}
theorem o_smul : OpR X (binaryOp .Mult) (rV2 X.w X.K cl gSMul) := by
  intro pins s σ H x y u v Q I rx ry h
  obtain ⟨dx, dy, r, rv, ix, iy, hg, hs, q⟩ := h
  unfold gSMul at hg
  split at hg
  · rename_i st i
    by_cases c : MulOk st i
    · rw [if_pos c] at hg
      cases hg
      cases hs
      have ex := is_str ix
      have ey := is_int iy
      subst ex
      subst ey
      obtain ⟨t, rfl⟩ := rx
      obtain ⟨t', rfl⟩ := ry
      exact PySem.SB.mul c fun t2 k => ⟨.str _, H, I.tok _, ⟨t2, rfl⟩, q⟩
    · rw [if_neg c] at hg
      cases hg
  · cases hg
theorem de_smul (ha : DE cl X a da) (hb : DE cl X b db) : DE cl X (.BinOp a .Mult b pos) (dBin gSMul da db) := de_bin o_smul ha hb
theorem de_neg (ha : DE cl X a da) : DE cl X (.UnaryOp .USub a pos) (dUn gNeg da) := pe_imp (pe_un un_neg ha) fun σ H Q ⟨M, ρ, f, rv, ρ', rs, hd, k⟩ => by
  obtain ⟨⟨x, ρ1⟩, h1, hd⟩ := Option.bind_eq_some_iff.mp hd
  obtain ⟨dx, h2, hd⟩ := Option.bind_eq_some_iff.mp hd
  obtain ⟨r, h3, hd⟩ := Option.bind_eq_some_iff.mp hd
  obtain ⟨v, h4, hd⟩ := Option.bind_eq_some_iff.mp hd
  cases hd
  refine ⟨M, ρ, f, x, ρ1, rs, h1, fun v1 M1 H1 f1 fw1 rs1 ok1 st1 => ?_⟩
  have iv := ok1.view rs1 h2
  unfold gNeg at h3
  split at h3
  · cases h3
    cases h4
    exact ⟨_, is_int iv, k _ M1 H1 f1 [] rs1 (rvB (.int _)) st1⟩
  · cases h3

/-! ### two names at once -/
def dPar (i j : Nat) (dr : Den (List Rv)) : Den Out := fun ρ => (dr ρ).bind fun r => match r.1 with
  | [.val x, .val y] => if i < r.2.length ∧ j < r.2.length ∧ i ≠ j then some (.next, (r.2.set i (some x)).set j (some y)) else Option.none
  | _ => Option.none
theorem ds_par {np i j : Nat} {x y : Str} {dr : Den (List Rv)} {px py pt : Pos} {kt k2 pt2} (hc : X.calm = true) (hN : X.N.Nodup) (hi : X.N[i]? = some x) (hj : X.N[j]? = some y) (hij : i ≠ j)
    (hx : X.env.scope.names.lookup x = some .local) (hy : X.env.scope.names.lookup y = some .local) (hpi : np ≤ i) (hpj : np ≤ j) (ha : DR cl X [a, b] dr)
    (hw : swappedStores [.Tuple [.Name x px, .Name y py] kt pt] (.Tuple [a, b] k2 pt2) X.env = pure (some [x, y]) := by rfl)
    (hs : swapsWithSole [.Tuple [.Name x px, .Name y py] kt pt] (.Tuple [a, b] k2 pt2) pos.line X.env = pure false := by rfl) :
    DS cl np X (.Assign [.Tuple [.Name x px, .Name y py] kt pt] (.Tuple [a, b] k2 pt2) pos) (dPar i j dr) := ps_imp (ps_par hc hN hi hj hij hx hy ha hw hs) fun E σ H ⟨M, ρ, f, o, ρ', rs, hd, k⟩ => by
  obtain ⟨⟨rvs, ρ1⟩, h1, hd⟩ := Option.bind_eq_some_iff.mp hd
  dsimp only at hd
  split at hd
  · rename_i x y
    split at hd
    · rename_i c
      cases hd
      refine ⟨M, ρ, f, _, ρ1, rs, h1, fun vs M1 H1 f1 fws rs1 ok1 st1 => ?_⟩
      cases ok1 with
      | @cons _ v fw _ _ _ ok1 okr dj =>
        cases okr with
        | @cons _ v2 fw2 _ _ _ ok2 okr2 _ =>
          cases okr2
          refine ⟨v, v2, rfl, ?_⟩
          obtain ⟨w1, n1, q1⟩ := ok1
          obtain ⟨w2, n2, q2⟩ := ok2
          have r2 := rs1.store c.1 w1 n1 fun a ha => ⟨(q1 a ha).1, (q1 a ha).2.1⟩
          have r3 := r2.store (i := j) (x := y) (fw := fw2) (by simpa using c.2.1) w2 n2 fun a ha => ⟨(q2 a ha).1, fun kk hk => by
            by_cases e : kk = i
            · rw [e, fpSet_same] at hk
              exact dj a hk fw2 (by simp) ha
            · rw [fpSet_ne e] at hk
              exact (q2 a ha).2.1 kk hk⟩
          refine k _ M1 H1 _ r3 ((st1.store fun a ha => (q1 a ha).2.2).store fun a ha => (q2 a ha).2.2) ?_
          intro jj hjj
          show ((σ.set i (some v)).set j (some v2))[jj]? = σ[jj]?
          rw [List.getElem?_set_ne (by omega), List.getElem?_set_ne (by omega)]
    · cases hd
  · cases hd

/-! ### a dict of no pair, of one pair with an int as its key -/
def dDict0 : Den Rv := fun ρ => some (.val (.dct []), ρ)
def dDict1 (dk dv : Den Rv) : Den Rv := fun ρ => (dk ρ).bind fun x => (viewR x.2 x.1).bind fun y => match y with
  | .int i => (dSh dv x.2).map fun z => (.val (.dct [(.int i, z.1)]), z.2)
  | _ => Option.none
/-- a dict's description, its entries told one by one -/
theorem dk_raw {P : Program} {w : World} {H : Hp} {h : Heap} {p : Addr} {kvs : List (Key × V)} (hok : HOk P w H h) (e : H p = some (.dK kvs)) :
    ∃ (o : Obj) (es : Array DictEntry) (ep : Nat), h.get? p = some o ∧ o.ExactDict ∧ o.data = .dict es ep ∧ es.size ≤ sizeLine ∧ (p == sysModules) = false ∧
      Paired (fun (en : DictEntry) (kv : Key × V) => RelV (kV kv.1) en.key ∧ en.hash = keyH w kv.1 ∧ RelV kv.2 en.val) es.toList kvs := by
  obtain ⟨hl, hs, vs, rk, o, es, ep, ho, hx, hd, hK, hP, hn⟩ := dk_of hok e
  have key : ∀ {l : List DictEntry} {vs : List (Key × Value)} {kvs : List (Key × V)}, (∀ en ∈ l, en ∈ es.toList) → Pairs (mixKind P w) l vs → KV kvs vs → Paired (fun (en : DictEntry) (kv : Key × V) => RelV (kV kv.1) en.key ∧ en.hash = keyH w kv.1 ∧ RelV kv.2 en.val) l kvs := by
    intro l
    induction l with
    | nil =>
      intro vs kvs _ p r
      cases p
      cases r
      exact .nil
    | cons en l ih =>
      intro vs kvs sub p r
      cases p with
      | cons p1 p2 p3 =>
        cases r with
        | cons r1 r2 =>
          refine .cons ?_ (ih (fun x hx => sub x (List.mem_cons_of_mem _ hx)) p3 r2)
          obtain ⟨k', hk1, hk2⟩ := hK en (by simpa using sub en List.mem_cons_self)
          obtain ⟨e1, e2⟩ := r1
          have e3 := (mixKind P w).inj en.key _ _ hk1 p1
          refine ⟨?_, by rw [hk2, e3, e1]; rfl, by rw [p2]; exact e2⟩
          rw [e1]
          rcases keyIs_shape p1 with ⟨i, t, q1, q2⟩ | ⟨x, t, q1, q2⟩
          · rw [q1, q2]; exact ⟨t, rfl⟩
          · rw [q1, q2]; exact ⟨t, rfl⟩
  have r := key (fun _ h => h) hP rk
  refine ⟨o, es, ep, ho, hx, hd, ?_, hs, r⟩
  have := Paired.length r
  simp only [Array.length_toList] at this
  omega
theorem raw_ok {P : Program} {w : World} {H : Hp} {h : Heap} {p : Addr} {o : Obj} {es : Array DictEntry} {ep : Nat} (ho : h.get? p = some o) (hx : o.ExactDict) (hd : o.data = .dict es ep) (hl : es.size ≤ sizeLine) (hs : (p == sysModules) = false) : ObjOk P w H h p (RawD p es) :=
  ⟨⟨o, ep, ho, hx, hd, hl, hs⟩, ⟨o, ho⟩, fun _ _ ⟨o, ep, q, r⟩ k => ⟨o, ep, k o q, r⟩⟩
theorem inv_raw {X : Cx} {pins : List (Addr × Obj)} {σ : L2.St} {H : Hp} {s : Shared} {p : Addr} {kvs : List (Key × V)} (I : Inv X pins σ (upd H p (.dK kvs)) s) :
    ∃ es : Array DictEntry, Paired (fun (en : DictEntry) (kv : Key × V) => RelV (kV kv.1) en.key ∧ en.hash = keyH X.w kv.1 ∧ RelV kv.2 en.val) es.toList kvs ∧ Inv X pins σ (upd H p (RawD p es)) s := by
  obtain ⟨o, es, ep, ho, hx, hd, hl, hs, r⟩ := dk_raw I.hok upd_same
  refine ⟨es, r, ?_⟩
  have J := I.write (t' := s.toks) (x := p) (e := p) (o := RawD p es) (h' := s.heap) (by rw [upd_same]; exact True.intro) (.inl rfl) (fun _ _ _ z => z) ⟨o, ho⟩ (raw_ok ho hx hd hl hs)
  rw [upd_upd] at J
  exact J
theorem toKey_hash {w : World} {k : Key} : ∀ {d : D} {M : Addr → Prop} {H : Hp} {K : PySem.W.Frag} {cl : Nat → Addr}, Is w K cl M H (kV k) d → ∃ n, toKey d = some n ∧ keyH w k = n.hash w := by
  intro d M H K cl h
  cases k with
  | inl i =>
    cases h
    exact ⟨.num i, rfl, rfl⟩
  | inr x =>
    cases h
    exact ⟨.text x, rfl, rfl⟩
theorem de_dict0 : DE cl X (.Dict [] [] pos) dDict0 := ⟨fun pins s σ H Q I ⟨M, ρ, f, rv, ρ', rs, hd, k⟩ => by
  refine wpAny_mono (pe_dnewK.run pins s σ H (fun v H' => ∃ p, H p = none ∧ v = .ref p ∧ H' = upd H p (.dK [])) I fun p np => ⟨p, np, rfl, rfl⟩) (fun u s' z => ?_) fun _ _ z => z
  obtain ⟨v, H', I', rv', p, np, ev, eH⟩ := z
  subst ev
  subst eH
  cases hd
  obtain ⟨es, r, J⟩ := inv_raw I'
  have e0 : es.toList = [] := by
    cases q : es.toList with
    | nil => rfl
    | cons a l => rw [q] at r; cases r
  obtain ⟨r2, s2⟩ := rs.newM np (RawD p es)
  exact ⟨.ref p, _, J, rv', k (.ref p) _ _ _ [p] r2 ⟨.dct upd_same (by rw [e0]; exact .nil), (by simp), fun a ha => by
    have e : a = p := by simpa using ha
    subst e
    exact ⟨.inr rfl, rs.not_in np, np⟩⟩ s2⟩⟩
theorem de_dict1 (hk : DE cl X a da) (hv : DE cl X b db) : DE cl X (.Dict [some a] [b] pos) (dDict1 da db) := ⟨fun pins s σ H Q I ⟨M, ρ, f, rv, ρ', rs, hd, k⟩ => by
  obtain ⟨⟨x, ρ1⟩, h1, hd⟩ := Option.bind_eq_some_iff.mp hd
  obtain ⟨dx, h2, hd⟩ := Option.bind_eq_some_iff.mp hd
  dsimp only at hd
  split at hd
  · rename_i i
    obtain ⟨⟨z, ρ2⟩, h3, hd⟩ := Option.map_eq_some_iff.mp hd
    cases hd
    refine wpAny_mono ((pe_disp (X := X) (pos := pos) (pps_cons hk (de_sh hv) pps_nil) rfl rfl (by simp) (by simp)).run pins s σ H (fun v H' => ∃ (p : Addr) (H2 : Hp) (vv : V), v = .ref p ∧ H' = upd H2 p (.dK [(.inl i, vv)]) ∧
      ∀ es : Array DictEntry, Paired (fun (en : DictEntry) (kv : Key × V) => RelV (kV kv.1) en.key ∧ en.hash = keyH X.w kv.1 ∧ RelV kv.2 en.val) es.toList [(Sum.inl i, vv)] → Q (.ref p) (upd H2 p (RawD p es))) I fun p np => ?_) (fun u s' z => ?_) fun _ _ z => z
    · obtain ⟨r2, s2⟩ := rs.newM np (.dK [])
      refine ⟨_, ρ, f, x, _, r2, h1, fun v1 M1 H1 f1 fw1 rs1 ok1 st1 => ⟨M1, _, f1, z, _, rs1, h3, fun v2 M2 H2 f2 rs2 is2 st2 => ?_⟩⟩
      have e1 : v1 = V.int i := is_int (ok1.view rs1 h2)
      subst e1
      have n0 : ∀ k, p ∉ f k := rs.not_in np
      have n1 : ∀ k, p ∉ f1 k := fun k hk => by
        rcases st1.own k p hk with y | y
        · exact n0 k y
        · rw [upd_same] at y; cases y
      have p1 : H1 p = some (.dK []) := st1.keep p _ upd_same n0
      have n2 : ∀ k, p ∉ f2 k := fun k hk => by
        rcases st2.own k p hk with y | y
        · exact n1 k y
        · rw [p1] at y; cases y
      have p2 : H2 p = some (.dK []) := st2.keep p _ p1 n1
      have m2 : M2 p := st2.prot p (st1.prot p (.inr rfl) n0) n1
      refine ⟨p2, [(.inl i, v2)], rfl, by simp, p, H2, v2, rfl, rfl, fun es r => ?_⟩
      have st : Step M H f M2 H2 f2 := (s2.trans rs.trk st1).trans rs.trk st2
      refine k (.ref p) M2 _ f2 [p] (rs2.poke m2 n2 (RawD p es)) ⟨.dct upd_same ?_, by simp, fun a ha => ?_⟩ (st.poke np)
      · cases q : es.toList with
        | nil => rw [q] at r; cases r
        | cons en l =>
          rw [q] at r
          cases r with
          | cons r1 r2 =>
            cases r2
            exact .cons r1.1 (.int i) rfl r1.2.1 r1.2.2 (is2.stay (ext_poke m2)) .nil
      · have e : a = p := by simpa using ha
        subst e
        exact ⟨m2, n2, np⟩
    · obtain ⟨v, H', I', rv', p, H2, vv, ev, eH, kk⟩ := z
      subst ev
      subst eH
      obtain ⟨es, r, J⟩ := inv_raw I'
      exact ⟨.ref p, _, J, rv', kk es r⟩
  · cases hd⟩
end
end Ws
set_option Elab.async false
set_option linter.all false
set_option maxRecDepth 100000
set_option maxHeartbeats 4000000
/-! Ws17: exceptions raised and caught. -/
namespace Ws
open PySem PySem.Spec PyProof.Rows L2

/-! ### raised: C(e, ..) is let go -/
def tXr (C : Addr) (sp : Sp) (ta : TA) : L2.St → Hp → XK → Prop := fun σ H Q => ta σ H fun vs H1 => vs.length ≤ 1000 ∧ ∀ a, H1 a = none → sp (.ref a :: vs) (upd H1 a (exo a C none))
  (fun v H2 => v = .non ∧ ((H2 a = some (exo a C none) ∧ Q (.ref C) none (del H2 a)) ∨ ∃ (d : Addr) (fs : List (Str × V)), H2 a = some (exo a C (some d)) ∧ H2 d = some (exd d fs) ∧ H1 d = none ∧ Q (.ref C) (some d) (upd (del H2 a) d (.xd fs)))) (fun _ _ _ => False)
theorem mk_endN {X : Cx} {pins : List (Addr × Obj)} {σ : L2.St} {H1 H2 : Hp} {Q : XK} {hp hp2 h2 : Heap} {g1 g2 : Array GenState} {d1 d2 : Drawn} {t1 t2 : Nat} {os1 os2 : OsState} {a C : Addr} (T : Raises X (.ref C)) (I1 : Inv X pins σ H1 ⟨hp, g1, d1, t1, os1⟩)
    (ha : hp.objs.size ≤ a) (k : ∀ b o, hp.get? b = some o → hp2.get? b = some o) (un : Un (frs X.stack) [] (upd H1 a (exo a C none)) H2 hp2 h2) (hok : HOk X.prog X.w H2 h2) (ho : os2 = os1) (hb : AllBare g2)
    (ea : H2 a = some (exo a C none)) (q : Q (.ref C) none (del H2 a)) : MkP X pins σ Q (.ref a) ⟨h2, g2, d2, t2, os2⟩ := by
  obtain ⟨t0, hoe⟩ := exo_at hok ea
  have hn : H1 a = none := I1.hok.fresh ha
  obtain ⟨G, g1', g2'⟩ := restrict h2 fun b => decide (b ≠ a)
  have gk : ∀ b, b ≠ a → G.get? b = h2.get? b := fun b hb => g1' b (decide_eq_true hb)
  have ge : G.get? a = none := g2' a (by simp)
  have nha : ∀ {b : Addr} {o : Obj}, hp.get? b = some o → b ≠ a := fun {b o} z => Nat.ne_of_lt (Nat.lt_of_lt_of_le (Heap.lt_size z) ha)
  have up : ∀ {b : Addr}, b ≠ a → H1 b = none → upd H1 a (exo a C none) b = none := fun {b} hb n => by rw [upd_ne hb]; exact n
  have U : Un (frs X.stack) [] H1 (del H2 a) hp G := {
    keep := fun b o z n hf hx => by
      rw [gk b (nha z)]
      exact un.keep b o (k b o z) (up (nha z) n) hf hx
    slot := fun b o z n hf hx => by
      rw [gk b (nha z)]
      exact un.slot b o (k b o z) (up (nha z) n) hf hx
    free := fun b o z n hx => by
      rw [del_ne (nha z)]
      exact un.free b o (k b o z) (up (nha z) n) hx
    there := fun b o z hx => by
      rw [gk b (nha z)]
      exact un.there b o (k b o z) hx
    tups := fun b xs z => by
      rw [del_ne (ne_of_none z hn)]
      exact un.tups b xs (by rw [upd_ne (ne_of_none z hn)]; exact z)
    frzs := fun b o v z => by
      rw [del_ne (ne_of_none z hn)]
      exact un.frzs b o v (by rw [upd_ne (ne_of_none z hn)]; exact z)
    tbls := fun b ps z => by
      rw [del_ne (ne_of_none z hn)]
      exact un.tbls b ps (by rw [upd_ne (ne_of_none z hn)]; exact z) }
  have hok3 : HOk X.prog X.w (del H2 a) G := fun b o z => by
    have hba : b ≠ a := fun e => by
      rw [e, del_same] at z
      cases z
    rw [del_ne hba] at z
    have noa : ∀ {c : Addr}, H2 c = some (.own b) → c ≠ a := fun {c} hc => at_ne ea hc exo_own
    exact (hok b o z).stay (fun c v hc y => by
        have hca : c ≠ a := by
          rcases hc with hc | hc
          · rw [hc]
            exact hba
          · exact noa hc
        rw [gk c hca]
        exact y)
      (fun c hc => by rw [del_ne (noa hc)]; exact hc) (fun c xs hc => by rw [del_ne (at_ne ea hc exo_tup)]; exact hc)
  have J : Inv X pins σ (del H2 a) ⟨G, g2, d2, t2, os2⟩ := I1.call' (ch := []) ho U hok3 hb (fun b z => absurd z (by simp))
  exact ⟨a, _, _, ⟨G, g2, d2, t2, os2⟩, _, .ref C, none, rfl, J, fun b o z => by
    by_cases hba : b = a
    · rw [hba, ge] at z
      cases z
    · exact (gk b hba).symm.trans z, ge, hoe, ⟨rfl, rfl⟩, rfl, rfl, del_same, rfl, hb, T, q⟩
section
variable {X : Cx} {x : Str} {e : Expr} {es : List Expr} {ta : TA} {p pos : Pos} {C fI : Addr} {k : Nat} {fd : FuncData} {ps : List Str} {sp : Sp} {CX : CXT}
theorem run_xr {pins : List (Addr × Obj)} {σ : L2.St} {H1 : Hp} {s : Shared} {Q : XK} {us : List Value} {vs : List V} (T : XC X.K C) (iC : PySem.W.findIn X.K (.ref C) "__init__" = some (some (.ref fI))) (tI : PySem.W.typeIn X.K (.ref fI) = some (.type "function"))
    (F1 : FnOk X.prog X.w X.K X.mg X.base CX k fI fd ps sp) (hr : Room (k + 1) X.A) (hb : Binds X.K fd ps []) (hx : Passes CX X (fun _ _ _ => False)) (I1 : Inv X pins σ H1 s) (r1 : Vals vs us) (l3 : vs.length ≤ 1000)
    (q1 : ∀ a, H1 a = none → sp (.ref a :: vs) (upd H1 a (exo a C none)) (fun v H2 => v = .non ∧ ((H2 a = some (exo a C none) ∧ Q (.ref C) none (del H2 a)) ∨ ∃ (d : Addr) (fs : List (Str × V)), H2 a = some (exo a C (some d)) ∧ H2 d = some (exd d fs) ∧ H1 d = none ∧ Q (.ref C) (some d) (upd (del H2 a) d (.xd fs)))) (fun _ _ _ => False)) :
    wpAny (model X.prog X.w) X.A (call (.ref C) us) (MkP X pins σ Q) X.xe s := by
  obtain ⟨B, ni, ii, tl, T⟩ := T
  obtain ⟨nm, q, N, bs, bm, sn, sub, ab, col, dd, k0, k1, k2, k3, k5, hC, hbm⟩ := T.cls
  obtain ⟨hp, g', dr, tk, os⟩ := s
  have hsz : hp.objs.size ≤ hp.objs.size + 1 := Nat.le_succ _
  have hn : H1 (hp.objs.size + 1) = none := I1.hok.fresh hsz
  have hq := q1 (hp.objs.size + 1) hn
  have kk : ∀ b o, hp.get? b = some o → ((hp.push (PySem.W.kdv_tup us)).push (PySem.HandSPX.excO C hp.objs.size)).get? b = some o := fun b o e => Heap.get?_push_of_some _ (Heap.get?_push_of_some _ e)
  have hget : ((hp.push (PySem.W.kdv_tup us)).push (PySem.HandSPX.excO C hp.objs.size)).get? (hp.objs.size + 1) = some (PySem.HandSPX.excO C hp.objs.size) := by heap_get
  have I2 : Inv X pins σ (upd H1 (hp.objs.size + 1) (exo (hp.objs.size + 1) C none)) ⟨(hp.push (PySem.W.kdv_tup us)).push (PySem.HandSPX.excO C hp.objs.size), g', dr, tk, os⟩ :=
    I1.laid (t' := tk) (a := hp.objs.size + 1) (o := exo (hp.objs.size + 1) C none) (h' := (hp.push (PySem.W.kdv_tup us)).push (PySem.HandSPX.excO C hp.objs.size)) kk hsz (exo_ok hget)
  have r2 : Vals (V.ref (hp.objs.size + 1) :: vs) (Value.ref (hp.objs.size + 1) :: us) := .cons rfl r1
  have hl : (Value.ref (hp.objs.size + 1) :: us ++ []).length = ps.length := by
    have e := r2.length
    rw [F1.len _ _ _ _ hq] at e
    rw [List.append_nil]
    exact e.symm
  have hus : us.length ≤ sizeLine := by
    rw [← Paired.length r1, sizeLine_eq]
    omega
  refine wpAny_call (PySem.HandSPX.call_own T.xb.F (fun Y => refsT_contains Y bm hbm) (I1.kIn _ _ hC) (PySem.W.looks_findIn I1.kIn iC) (fun self => PySem.W.bind_fn I1.kIn self tI) hus
    (codeAny_mono (F1.run _ X.stack _ _ ⟨Value.ref (hp.objs.size + 1) :: us, []⟩ (Value.ref (hp.objs.size + 1) :: us) _ _ (fun _ _ _ => False) (hr.make C us []) (I2.env0.make C us []) (by have := hb _ (Value.ref (hp.objs.size + 1) :: us) I2.kIn hl; rw [List.append_nil] at this; exact this) r2 hq) fun r s' hq' => ?_))
  cases r with
  | error er => exact hx pins σ _ _ er s' I2 hq'
  | ok fl =>
    cases fl with
    | ret u =>
      obtain ⟨v, H2, os2, bare2, un2, hok2, rv, ev, q2⟩ := hq'
      subst ev
      obtain ⟨h2, g2, d2, t2, os'⟩ := s'
      rcases q2 with ⟨ea, q2⟩ | ⟨d, fs, ea, ed, hd1, q2⟩
      · exact ⟨rv, mk_endN (raises_own T.exC T.tyC) I1 hsz kk un2 hok2 os2 bare2 ea q2⟩
      · exact ⟨rv, mk_end (raises_own T.exC T.tyC) I1 hsz kk un2 hok2 os2 bare2 ea ed hd1 q2⟩
    | next => exact False.elim hq'
    | brk => exact False.elim hq'
    | cont => exact False.elim hq'
theorem pmk_xr (T : XC X.K C) (iC : PySem.W.findIn X.K (.ref C) "__init__" = some (some (.ref fI))) (tI : PySem.W.typeIn X.K (.ref fI) = some (.type "function"))
    (F1 : FnOk X.prog X.w X.K X.mg X.base CX k fI fd ps sp) (hr : Room (k + 1) X.A) (hb : Binds X.K fd ps []) (hx : Passes CX X (fun _ _ _ => False)) (hg : Gl X x) (hm : X.mg x = some (.ref C)) (ha : PA X (e :: es) ta)
    (hdb : (x == ("__debug__" : Str)) = false := by decide) (he : starEach (e :: es) X.env = (false, eval e X.env) :: starEach es X.env := by rfl) (hpl : (backTo pos (starEach es X.env)).any (·.1) = false := by rfl) :
    PMk X (.Call (.Name x p) (e :: es) [] pos) (tXr C sp ta) := by
  intro pins s σ H Q I h
  have kC : PySem.W.keepIn X.K (.ref C) = true := by obtain ⟨B, ni, ii, tl, T⟩ := T; exact T.kC
  refine wpAny_Call_Name_kw (ld_glob I hg hm ?_ hdb)
  exact PySem.W.callWith_K (h₀ := X.base) I.ok.mod.kin kC (thn (ha.run pos pins s σ H _ I h) fun us s1 ⟨vs, H1, I1, r1, hz, q1⟩ => ⟨I1.kIn, run_xr T iC tI F1 hr hb hx I1 r1 hz q1⟩) he hpl
theorem pmk_xr0 (T : XC X.K C) (iC : PySem.W.findIn X.K (.ref C) "__init__" = some (some (.ref fI))) (tI : PySem.W.typeIn X.K (.ref fI) = some (.type "function"))
    (F1 : FnOk X.prog X.w X.K X.mg X.base CX k fI fd ps sp) (hr : Room (k + 1) X.A) (hb : Binds X.K fd ps []) (hx : Passes CX X (fun _ _ _ => False)) (hg : Gl X x) (hm : X.mg x = some (.ref C))
    (hdb : (x == ("__debug__" : Str)) = false := by decide) : PMk X (.Call (.Name x p) [] [] pos) (tXr C sp tNil) := by
  intro pins s σ H Q I h
  have kC : PySem.W.keepIn X.K (.ref C) = true := by obtain ⟨B, ni, ii, tl, T⟩ := T; exact T.kC
  refine wpAny_Call_Name_kw (ld_glob I hg hm ?_ hdb)
  exact PySem.W.callWith_K0 I.kIn kC (run_xr (us := []) (vs := []) T iC tI F1 hr hb hx I .nil (by simp) h.2)
end

/-! ### try .. except C as n: .., the caught exception told in the abstract heap -/
theorem Inv_track {X : Cx} {pins : List (Addr × Obj)} {σ : L2.St} {H : Hp} {s : Shared} {a : Addr} {o : HO} (I : Inv X pins σ H s) (na : H a = none) (n0 : X.s_0.heap.get? a = none) (nL : a ≠ X.env.locals) (nC : ∀ x c, X.env.cells.lookup x = some c → c ≠ a)
    (np : ∀ p ∈ X.pn ++ pins, p.1 ≠ a) (new : ObjOk X.prog X.w (upd H a o) s.heap a o) : Inv X pins σ (upd H a o) s := by
  refine ⟨I.ok, I.os, I.bare, ⟨I.base.keep, I.base.slot, fun b ob e n hx => ?_, I.base.there, fun b xs e => ?_, fun b ob u e => ?_, fun b ps e => ?_⟩, I.loc, I.cell, by rw [upd_ne (Ne.symm nL)]; exact I.free, fun x c e => by rw [upd_ne (nC x c e)]; exact I.freeC x c e,
    fun p hp => ?_, fun b ob e => ?_, I.len⟩
  · have hb : b ≠ a := fun z => by rw [z, n0] at e; cases e
    rw [upd_ne hb]
    exact I.base.free b ob e n hx
  · have q := I.base.tups b xs e
    rw [upd_ne (ne_of_none q na)]
    exact q
  · have q := I.base.frzs b ob u e
    rw [upd_ne (ne_of_none q na)]
    exact q
  · obtain ⟨m, q⟩ := I.base.tbls b ps e
    exact ⟨m, by rw [upd_ne (ne_of_none q na)]; exact q⟩
  · obtain ⟨h1, h2, h3, h4, h5⟩ := I.pin p hp
    exact ⟨h1, by rw [upd_ne (np p hp)]; exact h2, h3, h4, h5⟩
  · by_cases hb : b = a
    · subst hb
      rw [upd_same] at e
      cases e
      exact new
    · rw [upd_ne hb] at e
      exact (I.hok b ob e).stay (fun _ _ _ z => z) (fun c hc => by rw [upd_ne (ne_of_none hc na)]; exact hc) (fun c xs hc => by rw [upd_ne (ne_of_none hc na)]; exact hc)
theorem Inv_suite {X : Cx} {pins : List (Addr × Obj)} {σ : L2.St} {H : Hp} {s : Shared} (I : Inv X pins σ H s) (a : Addr) : Inv (X.suite a (X.pn ++ pins)) [] σ H s :=
  ⟨I.ok.suite _ _, I.os, I.bare, I.base, I.loc, I.cell, I.free, I.freeC, fun p hp => I.pin p (by rw [List.append_nil] at hp; exact hp), I.hok, I.len⟩
theorem Inv_unsuite {X : Cx} {pins pn' : List (Addr × Obj)} {σ : L2.St} {H : Hp} {s : Shared} {a : Addr} (I : Inv (X.suite a (X.pn ++ pins)) pn' σ H s) (ok : X.Ok) : Inv X pins σ H s :=
  ⟨ok, I.os, I.bare, I.base, I.loc, I.cell, I.free, I.freeC, fun p hp => I.pin p (List.mem_append_left _ hp), I.hok, I.len⟩
def offE (D : Ends) (i : Nat) : Ends := { nx := fun σ' H' => D.nx (σ'.set i none) H', rt := D.rt, bk := fun σ' H' => D.bk (σ'.set i none) H', ct := fun σ' H' => D.ct (σ'.set i none) H' }
/-- what the clauses wish of an exception of the body -/
def wCatch (K : PySem.W.Frag) (Wout : WX) (D : Ends) : List (Value × Nat × TS) → WX
  | [] => Wout
  | (c, i, ts) :: r => fun cls d σ H => ∃ b, PySem.W.exmOne K cls c = some b ∧ (b = true → ∃ C, cls = .ref C ∧ ∀ a, H a = none → ts (offE D i) (σ.set i (some (.ref a))) (upd H a (ExV a C d))) ∧ (b = false → wCatch K Wout D r cls d σ H)
inductive HdsV (X : Cx) : List ExceptHandler → List (Value × Nat × TS) → Prop
  | nil : HdsV X [] []
  | cons {x n : Str} {c : Value} {i : Nat} {ts : TS} {b₀ : Stmt} {suite : List Stmt} {np pos' : Pos} {hds : List ExceptHandler} {l : List (Value × Nat × TS)} (hc : Names X x c) (hi : X.N[i]? = some n) (hln : X.env.kindOf n = some .local)
      (hsu : ∀ (a : Addr) (pn : List (Addr × Obj)), PSs (X.suite a pn) (b₀ :: suite) ts) (r : HdsV X hds l) :
      HdsV X (.ExceptHandler (some (.Name x np)) (some n) (b₀ :: suite) pos' :: hds) ((c, i, ts) :: l)
section
variable {X : Cx} {body : List Stmt} {h₀ : ExceptHandler} {hds : List ExceptHandler} {l : List (Value × Nat × TS)} {pos : Pos} {tb : WX → TS} {Wout : WX}
theorem ps_tryV (hs : X.stack = X.env :: X.outer) (hf : X.env.frame = some X.env.locals) (hex : X.ex = []) (hN : X.N.Nodup) (tk : Takes X Wout)
    (hb : ∀ (W : WX) (pn : List (Addr × Obj)) (xe : Value → Shared → Prop), Takes (X.tr pn xe) W → PassesOwn (model X.prog X.w) X.A X.env xe → PSs (X.tr pn xe) body (tb W))
    (hh : HdsV X (h₀ :: hds) l) : PS X (.Try body (h₀ :: hds) [] [] pos) (fun D σ H => tb (wCatch X.K Wout D l) D σ H) := by
  refine ⟨fun pins s σ H D I h => ?_⟩
  have ok := I.ok
  have hfr : X.A.frames = some (X.env :: X.outer) := by rw [ok.frames, hs]
  refine wpAny_Try_except ?_
  refine wpAny_mono ((hb (wCatch X.K Wout D l) (X.pn ++ pins) (fun e s₁ => wpAny (model X.prog X.w) X.A (noteFrame e X.env) (fun _ s₂ => wpAny (model X.prog X.w) X.A (setFlight e none) (fun _ s₃ =>
    wpAny (model X.prog X.w) X.A (handleBy e X.env (h₀ :: hds)) (SP X pins D) X.xe s₃) X.xe s₂) X.xe s₁) (fun u s' xx => ?_) PassesOwn.looking).run [] s σ H D (I.toTry _) h) (fun f s1 hsp => ?_) (fun e s1 he => he)
  · obtain ⟨a, B, sI, pins', σ', H', cls, d, rfl, J', nb, up, sky, na, os, ag, w⟩ := xx
    have J : Inv X pins σ' H' sI := J'.ofTry ok
    have sky' : Sky B (X.env :: X.outer) a (Zc cls d) X.env.locals s'.heap := by rw [← hs]; exact sky
    show wpAny (model X.prog X.w) X.A (noteFrame (.ref a) X.env) _ _ _
    refine Sky.land Zc.steady hfr hf sky' fun h3 fl3 up3 => ?_
    have J3 : Inv X pins σ' H' { s' with heap := h3 } := J.landed nb fl3.1 (up.trans up3) os ag
    obtain ⟨oe3, vs3, he3, hz3, hd3⟩ := fl3.there
    have notFr : ∀ {h : Heap} {o : Obj} {vs : Array Value}, h.FunFrames B (X.env :: X.outer) → h.get? a = some o → o.data = .fields vs → a ∉ frs (X.env :: X.outer) := fun {h o vs} ff e dd hm => by
      obtain ⟨_, o', e', hnf⟩ := ff.mem hm
      rw [e] at e'; cases e'
      exact hnf _ dd
    have nfr := notFr fl3.2.2.1 he3 hd3
    have nL : a ≠ X.env.locals := fun z => nfr (List.mem_filterMap.mpr ⟨X.env, List.mem_cons_self, by rw [hf, z]⟩)
    have nI : sI.heap.get? a = none := by
      cases q : sI.heap.get? a with
      | none => rfl
      | some o =>
        have z := nb a o q (by rw [hs]; exact nfr)
        rw [fl3.2.1] at z
        cases z
    have n0 : X.s_0.heap.get? a = none := by
      cases q : X.s_0.heap.get? a with
      | none => rfl
      | some o =>
        obtain ⟨o', z⟩ := J.base.there a o q (by rw [hex]; simp)
        rw [nI] at z
        cases z
    have nC : ∀ x c, X.env.cells.lookup x = some c → c ≠ a := fun x c hc z => by
      obtain ⟨v, q⟩ := J.cell x c hc
      subst z
      obtain ⟨o, q1, _⟩ := q
      rw [nI] at q1
      cases q1
    have npn : ∀ p ∈ X.pn ++ pins, p.1 ≠ a := fun p hp z => by
      have q := (J.pin p hp).1
      rw [z, nI] at q
      cases q
    have go : ∀ {hds' : List ExceptHandler} {l' : List (Value × Nat × TS)}, HdsV X hds' l' → wCatch X.K Wout D l' cls d σ' H' →
        wpAny (model X.prog X.w) X.A (handleBy (.ref a) X.env hds') (SP X pins D) X.xe { s' with heap := h3 } := by
      intro hds' l' hk
      induction hk with
      | nil =>
        intro w
        refine wpAny_handleBy_nil ?_
        obtain ⟨k1, k2, k3, oe, vs, T, oT, ts', he, hz, hd, h1, hr⟩ := id fl3
        unfold PySem.passOn
        refine wpAny_bind (wpAny_field he hd h1 ?_)
        rw [if_neg (show ¬ ((Value.ref T == Value.none) = true) from by simp)]
        have fin : wpAny (model X.prog X.w) X.A (setFlight (.ref a) X.env.frame) (fun _ s4 => wpAny (model X.prog X.w) X.A (throw (.ref a) : Sem Flow) (SP X pins D) X.xe s4) X.xe { s' with heap := h3 } := by
          rw [hf]
          refine HandSPX.setFlight_upZ fl3 fun h4 hh4 up4 => wpAny_throw (tk _ _ ?_)
          exact ⟨a, B, sI, pins, σ', H', cls, d, rfl, J, nb, (up.trans up3).trans up4, .inr (.inr (by rw [hs]; exact hh4)), na, os, ag, w⟩
        first
          | exact wpAny_bind (wpAny_pure (wpAny_bind fin))
          | exact wpAny_bind fin
      | @cons x n c i ts b₀ suite np pos' hds2 l2 hc hi hln hsu r ih =>
        intro w
        obtain ⟨b, hb1, hyes, hno⟩ := w
        have hloc : Loc X.env.scope n := .inl hln
        refine wpAny_handleBy_cons (codeAny_handlers_test ?_) (by intro q; cases q)
        have LT : PySem.W.Looks (model X.prog X.w) h3 (typeOf (.ref a)) cls := fun A Q E s k q => wpAny_typeOf_ref (k _ _ he3) (by rw [hz3.1]; exact q)
        have LM := PySem.W.exm_one (M := model X.prog X.w) (J3.kIn) LT hb1
        have S3 := Inv_suite J3 a
        have test : ∀ {Q : Value → Shared → Prop} {E : Value → Shared → Prop}, Q c { s' with heap := h3 } → wpAny (model X.prog X.w) (X.A.mark (some (.ref a))) (eval (.Name x np) X.env) Q E { s' with heap := h3 } := fun {Q E} q => by
          obtain ⟨hg, hdbg, hm | ⟨hm, hv, hnn⟩⟩ := hc
          · exact ld_glob (X := X.suite a (X.pn ++ pins)) S3 hg hm q hdbg
          · exact ld_blt (X := X.suite a (X.pn ++ pins)) S3 hg hm hv q hnn hdbg
        refine test (LM.here ?_)
        cases b with
        | true =>
          refine codeAny_handlers_suite_as ?_
          refine HandSPX.lands_againZ fl3 fun h4 fl4 up4 => ?_
          have J4 : Inv X pins σ' H' { s' with heap := h4 } := J.landed nb fl4.1 ((up.trans up3).trans up4) os ag
          obtain ⟨oe4, vs4, he4, hz4, hd4⟩ := fl4.there
          obtain ⟨C, hC, q⟩ := hyes rfl
          have J5 := Inv_track J4 na n0 nL nC npn (exV_ok (C := C) (d := d) he4 (hz4.1.trans hC) hz4.2 hd4)
          have S4 := Inv_suite J5 a
          refine store_ok (X := X.suite a (X.pn ++ pins)) (v := .ref a) S4 hN hi hloc rfl (fun s5 S5 => ?_) (.inr hln)
          refine wpAny_mono ((hsu a (X.pn ++ pins)).run [] s5 _ _ _ S5 (q a na)) (fun f s6 hsp => ?_) (fun _ _ z => False.elim z)
          have end_ : ∀ {σ6 : L2.St} {H6 : Hp} {Q : Shared → Prop}, Inv (X.suite a (X.pn ++ pins)) [] σ6 H6 s6 → (∀ s7, Inv X pins (σ6.set i none) H6 s7 → Q s7) →
              wpAny (model X.prog X.w) X.A (do bindName X.env n .none; unbindBehindTheSuite X.env n pos') (fun _ s7 => Q s7) X.xe s6 := fun {σ6 H6 Q} S6 hq => gone_ok (Inv_unsuite S6 ok) hN hi hln hq
          cases f with
          | next =>
            obtain ⟨σ6, H6, S6, q6⟩ := hsp
            exact end_ S6 fun s7 J7 => ⟨_, _, J7, q6⟩
          | brk =>
            obtain ⟨σ6, H6, S6, q6⟩ := hsp
            exact end_ S6 fun s7 J7 => ⟨_, _, J7, q6⟩
          | cont =>
            obtain ⟨σ6, H6, S6, q6⟩ := hsp
            exact end_ S6 fun s7 J7 => ⟨_, _, J7, q6⟩
          | ret u =>
            obtain ⟨v6, σ6, H6, S6, r6, q6⟩ := hsp
            exact end_ S6 fun s7 J7 => ⟨_, _, _, J7, r6, q6⟩
        | false =>
          show wpAny _ X.A (handleBy (.ref a) X.env hds2) _ _ _
          exact ih (hno rfl)
    exact go hh w
  · cases f with
    | next =>
      obtain ⟨σ', H', J', q⟩ := hsp
      exact wpAny_execs_nil ⟨σ', H', J'.ofTry ok, q⟩
    | brk =>
      obtain ⟨σ', H', J', q⟩ := hsp
      exact ⟨σ', H', J'.ofTry ok, q⟩
    | cont =>
      obtain ⟨σ', H', J', q⟩ := hsp
      exact ⟨σ', H', J'.ofTry ok, q⟩
    | ret u =>
      obtain ⟨v, σ', H', J', r, q⟩ := hsp
      exact ⟨v, σ', H', J'.ofTry ok, r, q⟩
end
end Ws
set_option Elab.async false
set_option linter.all false
set_option maxRecDepth 100000
set_option maxHeartbeats 4000000
/-! Ws18: exceptions raised and caught, as data. -/
namespace Ws
open PySem PySem.Spec PyProof.Rows L2
abbrev Exn := Nat × List (Str × D)
/-- statements that raise -/
def tDX (w : World) (K : PySem.W.Frag) (cl : Nat → Addr) (np : Nat) (W : WX) (den : Den Exn) : TS := fun _ σ H => ∃ M ρ f x ρ', RS w K cl M ρ σ H f ∧ den ρ = some (x, ρ') ∧
  ∀ σ' fs d M' H' f', RS w K cl M' ρ' σ' H' f' → Step M H f M' H' f' → Par np σ σ' → XdAt M' H' d fs → IsF w K cl M' H' fs x.2 → W (.ref (cl x.1)) d σ' H'
abbrev DXs (cl : Nat → Addr) (np : Nat) (X : Cx) (W : WX) (sts : List Stmt) (den : Den Exn) : Prop := PSs X sts (tDX X.w X.K cl np W den)
abbrev DX (cl : Nat → Addr) (np : Nat) (X : Cx) (W : WX) (st : Stmt) (den : Den Exn) : Prop := PS X st (tDX X.w X.K cl np W den)
def dXr (c : Nat) (names : List Str) (d : Den (List D)) : Den Exn := fun ρ => (d ρ).bind fun r => (mkF names r.1).map fun gs => ((c, gs), r.2)
theorem del_upd {H : Hp} {a : Addr} {o : HO} (n : H a = none) : del (upd H a o) a = H := by
  funext b
  by_cases e : b = a
  · rw [e, del_same, n]
  · rw [del_ne e, upd_ne e]
theorem del_five {H : Hp} {a b : Addr} {o1 o2 o3 o5 : HO} (n : H a = none) (h : b ≠ a) : upd (del (upd (upd (upd H a o1) b o2) a o3) a) b o5 = upd H b o5 := by
  funext c
  by_cases e : c = b
  · subst e
    rw [upd_same, upd_same]
  · by_cases e2 : c = a
    · subst e2
      rw [upd_ne e, del_same, upd_ne e, n]
    · rw [upd_ne e, del_ne e2, upd_ne e2, upd_ne e, upd_ne e2, upd_ne e]
section
variable {cl : Nat → Addr} {np : Nat} {X : Cx} {W : WX} {k : Nat} {fI C : Addr} {c : Nat} {fd : FuncData} {ps names : List Str} {x : Str} {p pos rpos : Pos} {e : Expr} {es : List Expr} {dr : Den (List D)}
theorem dXr_imp {d : Den (List D)} {D : Ends} {σ : L2.St} {H : Hp} (hC : cl c = C) (hn : names.length ≤ 1000) (h : tDX X.w X.K cl np W (dXr c names d) D σ H) : tXr C (spInit C names) (tSA X.w X.K cl d) σ H fun cls d' H' => W cls d' σ H' := by
  obtain ⟨M, ρ, f, rv, ρ', rs, hd, k⟩ := h
  obtain ⟨⟨ds, ρ1⟩, h1, hd⟩ := Option.bind_eq_some_iff.mp hd
  obtain ⟨gs, h2, hd⟩ := Option.map_eq_some_iff.mp hd
  cases hd
  refine ⟨M, ρ, f, ds, ρ1, rs, h1, fun vs M1 H1 f1 rs1 is1 st1 => ?_⟩
  obtain ⟨fs, h3, if3⟩ := mkF_is is1 h2
  have hl : vs.length = names.length := by
    unfold mkF at h3
    by_cases c : vs.length = names.length
    · exact c
    · rw [if_neg c] at h3
      cases h3
  subst hC
  refine ⟨by omega, fun a na => ⟨a, vs, fs, rfl, upd_same, h3, ?_⟩⟩
  by_cases e : fs = []
  · refine .inl ⟨e, rfl, .inl ⟨upd_same, ?_⟩⟩
    rw [del_upd na]
    exact k σ fs none M1 H1 f1 rs1 st1 Par.refl (.inl ⟨rfl, e⟩) if3
  · refine .inr ⟨e, fun dx n0 ne => ⟨rfl, .inr ⟨dx, fs, upd_same, by rw [upd_ne ne, upd_same], by rw [upd_ne ne] at n0; exact n0, ?_⟩⟩⟩
    rw [del_five na ne]
    have nd : H1 dx = none := by rw [upd_ne ne] at n0; exact n0
    have r2 := rs1.new nd (.xd fs)
    exact k σ fs (some dx) M1 _ f1 r2.1 (st1.trans rs.trk r2.2) Par.refl (.inr ⟨dx, rfl, upd_same, notM_new nd rs1.trk⟩) (if3.stay (ext_new nd rs1.trk))
theorem dx_raise (hc : X.calm = true) (tk : Takes X W) (hC : cl c = C) (hn : names.length ≤ 1000) (T : XMk X.K C fI) (F1 : FnOk X.prog X.w X.K X.mg X.base CX0 k fI fd ps (spInit C names)) (hr : Room (k + 1) X.A) (hb : Binds X.K fd ps []) (hg : Gl X x) (hm : X.mg x = some (.ref C)) (ha : DA cl X (e :: es) dr)
    (hdb : (x == ("__debug__" : Str)) = false := by decide) (he : starEach (e :: es) X.env = (false, eval e X.env) :: starEach es X.env := by rfl) (hpl : (backTo pos (starEach es X.env)).any (·.1) = false := by rfl) :
    DX cl np X W (.Raise (some (.Call (.Name x p) (e :: es) [] pos)) none rpos) (dXr c names dr) :=
  ps_imp (ps_raise hc tk (pmk_xr T.t T.iC T.tI F1 hr hb pass0 hg hm ha hdb he hpl)) fun D σ H h => dXr_imp hC hn h
theorem dx_raise0 (hc : X.calm = true) (tk : Takes X W) (hC : cl c = C) (T : XMk X.K C fI) (F1 : FnOk X.prog X.w X.K X.mg X.base CX0 k fI fd ps (spInit C [])) (hr : Room (k + 1) X.A) (hb : Binds X.K fd ps []) (hg : Gl X x) (hm : X.mg x = some (.ref C))
    (hdb : (x == ("__debug__" : Str)) = false := by decide) :
    DX cl np X W (.Raise (some (.Call (.Name x p) [] [] pos)) none rpos) (dXr c [] dNil) :=
  ps_imp (ps_raise hc tk (pmk_xr0 T.t T.iC T.tI F1 hr hb pass0 hg hm hdb)) fun D σ H h => by
    have q := dXr_imp (names := []) hC (by decide) h
    obtain ⟨M, ρ, f, ds, ρ', rs, hd, k⟩ := q
    cases hd
    exact k [] M H f rs .nil Step.refl
theorem dxs_one {st : Stmt} {d : Den Exn} (h : DX cl np X W st d) : DXs cl np X W [st] d := pss_one h
/-- if c: .. raises; what is behind it raises -/
def dXif (t : Den Bool) (d1 d2 : Den Exn) : Den Exn := fun ρ => (t ρ).bind fun r => if r.1 = true then d1 r.2 else d2 r.2
theorem xd_step {w : World} {K : PySem.W.Frag} {den : Den Exn} {W : WX} {D' : Ends} {M M1 : Addr → Prop} {σ : L2.St} {H H1 : Hp} {f f1 : Fp} {ρ1 ρ' : Env} {x : Exn} (t0 : Trk M H) (st1 : Step M H f M1 H1 f1) (rs1 : RS w K cl M1 ρ1 σ H1 f1) (hd : den ρ1 = some (x, ρ'))
    (k : ∀ σ' fs d M' H' f', RS w K cl M' ρ' σ' H' f' → Step M H f M' H' f' → Par np σ σ' → XdAt M' H' d fs → IsF w K cl M' H' fs x.2 → W (.ref (cl x.1)) d σ' H') : tDX w K cl np W den D' σ H1 :=
  ⟨M1, ρ1, f1, x, ρ', rs1, hd, fun σ' fs d M' H' f' rs' st' par xd isf => k σ' fs d M' H' f' rs' (st1.trans t0 st') par xd isf⟩
theorem dxs_if {cnd : Expr} {a rest : List Stmt} {t : Den Bool} {d1 d2 : Den Exn} {ipos : Pos} (hc : DT cl X cnd t) (ha : DXs cl np X W a d1) (hb : DXs cl np X W rest d2) : DXs cl np X W (.If cnd a [] ipos :: rest) (dXif t d1 d2) :=
  pss_imp (pss_cons (ps_if hc ha pss_nil) hb) fun D σ H ⟨M, ρ, f, x, ρ', rs, hd, k⟩ => by
    obtain ⟨⟨b, ρ1⟩, h1, hd⟩ := Option.bind_eq_some_iff.mp hd
    refine ⟨M, ρ, f, b, ρ1, rs, h1, fun M1 H1 f1 rs1 st1 => ?_⟩
    cases b with
    | true =>
      rw [if_pos rfl] at hd ⊢
      exact xd_step (D' := D) rs.trk st1 rs1 hd k
    | false =>
      rw [if_neg (by simp)] at hd ⊢
      exact xd_step (D' := D) rs.trk st1 rs1 hd k
end

/-! ### a def that raises, at plain data -/
def spXX (w : World) (K : PySem.W.Frag) (cl : Nat → Addr) (den : List D → Option Exn) : Sp := fun vs H _ E => ∃ M ds x, IsL w K cl M H vs ds ∧ Trk M H ∧ den ds = some x ∧
  ∀ fs d M' H', Trk M' H' → XdAt M' H' d fs → IsF w K cl M' H' fs x.2 → Step M H (fun _ => []) M' H' (fun _ => []) → E (.ref (cl x.1)) d H'
def dFnX (np n : Nat) (body : Den Exn) : List D → Option Exn := fun ds => if ds.length = np then (body (ds.map (fun d => some (.leaf d)) ++ List.replicate (n - np) Option.none)).map (·.1) else Option.none
theorem leaf_args {w : World} {K : PySem.W.Frag} {cl : Nat → Addr} {M : Addr → Prop} {H : Hp} {vs : List V} {ds : List D} (h : IsL w K cl M H vs ds) (t : Trk M H) : ArgRS w K cl M (ds.map W.leaf) vs H (fun _ => []) := by
  refine ⟨fun i x hx => ?_, fun _ _ => rfl, fun _ => List.nodup_nil, (fun _ _ _ ha => nomatch ha), (fun _ _ ha => nomatch ha), t, by simpa using h.length.symm⟩
  rw [List.getElem?_map, List.getElem?_map] at hx
  cases e : ds[i]? with
  | none => rw [e] at hx; cases hx
  | some d =>
    rw [e] at hx
    cases hx
    obtain ⟨v, h1, h2⟩ := h.get e
    refine ⟨v, by rw [List.getElem?_map, h1]; rfl, .leaf h2⟩
theorem step_off {M M' : Addr → Prop} {H H' : Hp} {f' : Fp} (s : Step M H (fun _ => []) M' H' f') : Step M H (fun _ => []) M' H' (fun _ => []) := ⟨s.keep, s.there, s.prot, s.anti, fun _ _ h => nomatch h⟩
theorem fn_endX {w : World} {K : PySem.W.Frag} {cl : Nat → Addr} {np n : Nat} {vs : List V} {H : Hp} {N : List Str} {den : Den Exn} {Q : VK} {E : XK} {D' : Ends} (hN : N.length = n) (h : spXX w K cl (dFnX np n den) vs H Q E) : tDX w K cl np (fun cls d _ H' => E cls d H') den D' (L2.start N vs) H := by
  obtain ⟨M, ds, x, is, t, hd, k⟩ := h
  unfold dFnX at hd
  by_cases c : ds.length = np
  · rw [if_pos c] at hd
    obtain ⟨⟨x', ρ'⟩, h1, hd⟩ := Option.map_eq_some_iff.mp hd
    cases hd
    have a := leaf_args is t
    have r := a.start (np := np) (n := n) N hN (by simpa using c)
    rw [List.map_map] at r
    refine ⟨M, _, _, x', ρ', r, h1, fun σ' fs d M' H' f' rs' st' par xd isf => k fs d M' H' rs'.trk xd isf (step_off st')⟩
  · rw [if_neg c] at hd
    cases hd
section
variable {w : World} {K : PySem.W.Frag} {cl : Nat → Addr} {M M' : Addr → Prop} {ρ : Env} {σ : L2.St} {H H' : Hp} {f : Fp}
theorem RS.over (r : RS w K cl M ρ σ H f) (s : Step M H (fun _ => []) M' H' (fun _ => [])) (t : Trk M' H') : RS w K cl M' ρ σ H' f ∧ Step M H f M' H' f := by
  have kp : ∀ b o, H b = some o → H' b = some o := fun b o e => s.keep b o e fun _ h => nomatch h
  have ex : Ext M H M' H' := fun b o h m => ⟨kp b o h, fun z => by
    rcases s.anti b z with q | q
    · exact m q
    · rw [h] at q; cases q⟩
  refine ⟨⟨fun i x hx => ?_, r.none, r.nd, r.dj, fun i a ha => s.prot a (r.own i a ha) fun _ h => (nomatch h), t, r.len⟩, ⟨fun b o h _ => kp b o h, s.there, fun b m _ => s.prot b m fun _ h => (nomatch h), s.anti, fun _ _ h => .inl h⟩⟩
  obtain ⟨v, h1, h2⟩ := r.slot i x hx
  exact ⟨v, h1, h2.stay ex fun a _ o e => kp a o e⟩
theorem RS.drop {i : Nat} (r : RS w K cl M ρ σ H f) : RS w K cl M (ρ.set i Option.none) (σ.set i Option.none) H (fpSet f i []) ∧ Step M H f M H (fpSet f i []) := by
  have sub : ∀ j a, a ∈ fpSet f i [] j → j ≠ i ∧ a ∈ f j := fun j a ha => by
    by_cases q : j = i
    · subst q
      rw [fpSet_same] at ha
      cases ha
    · rw [fpSet_ne q] at ha
      exact ⟨q, ha⟩
  refine ⟨⟨fun j y hy => ?_, fun j hj => ?_, fun j => ?_, fun j k a ha hb => r.dj j k a (sub j a ha).2 (sub k a hb).2, fun j a ha => r.own j a (sub j a ha).2, r.trk, by simpa using r.len⟩, ⟨fun b o h _ => h, fun b o h => ⟨o, h⟩, fun _ m _ => m, fun _ m => .inl m, fun j b hb => .inl (sub j b hb).2⟩⟩
  · rcases set_get hy with ⟨e1, e2⟩ | ⟨e1, e2⟩
    · cases e2
    · obtain ⟨v, h1, h2⟩ := r.slot j y e2
      exact ⟨v, by rw [List.getElem?_set_ne e1]; exact h1, by rw [fpSet_ne (Ne.symm e1)]; exact h2⟩
  · by_cases q : j = i
    · rw [q, fpSet_same]
    · rw [fpSet_ne q]
      refine r.none j fun y hy => hj y ?_
      rw [List.getElem?_set_ne (Ne.symm q)]
      exact hy
  · by_cases q : j = i
    · rw [q, fpSet_same]
      exact List.nodup_nil
    · rw [fpSet_ne q]
      exact r.nd j
end

/-! ### a call that raises -/
/-- all plain, nothing of one's own -/
def leafsR : List Rv → Option (List D)
  | [] => some []
  | .val (.leaf d) :: r => (leafsR r).map (d :: ·)
  | _ => Option.none
def dCallX (den : List D → Option Exn) (dr : Den (List Rv)) : Den Exn := fun ρ => (dr ρ).bind fun r => (leafsR r.1).bind fun ds => (den ds).map fun x => (x, r.2)
theorem leafs_is {w : World} {K : PySem.W.Frag} {cl : Nat → Addr} {M : Addr → Prop} {σ : L2.St} {H H0 : Hp} {f : Fp} : ∀ {rvs : List Rv} {vs : List V} {fws : List (List Addr)} {ds : List D}, RvsOk w K cl M σ H f H0 rvs vs fws → leafsR rvs = some ds → IsL w K cl M H vs ds
  | _, _, _, ds, .nil, e => by
    cases e
    exact .nil
  | rv :: rvs, _, _, ds, .cons a t _, e => by
    unfold leafsR at e
    split at e
    · rename_i h1
      cases h1
    · rename_i d r h1
      cases h1
      obtain ⟨ds', e1, e2⟩ := Option.map_eq_some_iff.mp e
      subst e2
      obtain ⟨wi, _, _⟩ := a
      cases wi with
      | leaf is => exact .cons is (leafs_is t e1)
    · cases e
section
variable {cl : Nat → Addr} {np : Nat} {X : Cx} {W : WX} {c : Bool} {k : Nat} {f : Addr} {fd : FuncData} {ps : List Str} {sp : Sp} {E : L2.St → XK} {x : Str} {p pos epos : Pos} {e : Expr} {es : List Expr} {t : TA} {den : List D → Option Exn} {dr : Den (List Rv)}
theorem run_fnSG {pins : List (Addr × Obj)} {σ : L2.St} {H : Hp} {s : Shared} {Q : VK} {us : List Value} {vs : List V} {CX : CXT} (F : FnOkG c X.prog X.w X.K X.mg X.base CX k f fd ps sp) (hr : RoomG c k X.A) (hb : Binds X.K fd ps []) (hx : PassesAt CX X σ (E σ))
    (I : Inv X pins σ H s) (r : Vals vs us) (h : sp vs H Q (E σ)) : wpAny (model X.prog X.w) X.A (call (.ref f) us) (EP X pins σ Q) X.xe s := by
  have hl : us.length = ps.length := by rw [← r.length]; exact F.len _ _ _ _ h
  have b := hb s us I.kIn (by rw [List.append_nil]; exact hl)
  rw [List.append_nil] at b
  refine wpAny_call (codeAny_mono (F.run X.A X.stack s H ⟨us, []⟩ us vs Q (E σ) hr I.env0 b r h) fun r s' hq => ?_)
  cases r with
  | error e => exact hx pins H s e s' I hq
  | ok fl =>
    cases fl with
    | ret u => exact I.after hq
    | next => exact False.elim hq
    | brk => exact False.elim hq
    | cont => exact False.elim hq
theorem pe_callSG {CX : CXT} (F : FnOkG c X.prog X.w X.K X.mg X.base CX k f fd ps sp) (hr : RoomG c k X.A) (hg : Gl X x) (hm : X.mg x = some (.ref f)) (hk : PySem.W.keepIn X.K (.ref f) = true) (hb : Binds X.K fd ps []) (hx : ∀ σ, PassesAt CX X σ (E σ))
    (ha : PA X (e :: es) t) (hdb : (x == ("__debug__" : Str)) = false := by decide) (he : starEach (e :: es) X.env = (false, eval e X.env) :: starEach es X.env := by rfl) (hpl : (backTo pos (starEach es X.env)).any (·.1) = false := by rfl) :
    PE X (.Call (.Name x p) (e :: es) [] pos) (tCallS sp E t) := by
  refine ⟨fun pins s σ H Q I h => ?_⟩
  refine wpAny_Call_Name_kw (ld_glob I hg hm ?_ hdb)
  refine PySem.W.callWith_K (h₀ := X.base) I.ok.mod.kin hk (thn (ha.run pos pins s σ H _ I h) fun us s1 ⟨vs, H1, I1, r, q⟩ => ⟨I1.kIn, ?_⟩) he hpl
  exact run_fnSG F hr hb (hx σ) I1 r q
/-- f(e, ..) as a statement, f raises -/
theorem dx_call (tk : Takes X W) (F : FnOkG c X.prog X.w X.K X.mg X.base (L2.CX X.prog X.w) k f fd ps (spXX X.w X.K cl den)) (hr : RoomG c k X.A) (hg : Gl X x) (hm : X.mg x = some (.ref f)) (hk : PySem.W.keepIn X.K (.ref f) = true) (hb : Binds X.K fd ps [])
    (ha : DR cl X (e :: es) dr) (hdb : (x == ("__debug__" : Str)) = false := by decide) (he : starEach (e :: es) X.env = (false, eval e X.env) :: starEach es X.env := by rfl) (hpl : (backTo pos (starEach es X.env)).any (·.1) = false := by rfl)
    (hs : swapsWith (.Call (.Name x p) (e :: es) [] pos) none epos.line X.env = pure false := by rfl) :
    DX cl np X W (.Expr (.Call (.Name x p) (e :: es) [] pos) epos) (dCallX den dr) :=
  ps_imp (ps_expr (pe_callSG (E := WE W) F hr hg hm hk hb (passAt tk) ha hdb he hpl) hs) fun D σ H ⟨M, ρ, f, x, ρ', rs, hd, kk⟩ => by
    obtain ⟨⟨rvs, ρ1⟩, h1, hd⟩ := Option.bind_eq_some_iff.mp hd
    obtain ⟨ds, h2, hd⟩ := Option.bind_eq_some_iff.mp hd
    obtain ⟨x', h3, hd⟩ := Option.map_eq_some_iff.mp hd
    cases hd
    refine ⟨M, ρ, f, rvs, ρ1, rs, h1, fun vs M1 H1 f1 fws rs1 ok1 st1 => ⟨M1, ds, _, leafs_is ok1 h2, rs1.trk, h3, fun fs d M' H' t' xd isf s' => ?_⟩⟩
    obtain ⟨r2, s2⟩ := rs1.over s' t'
    exact kk σ fs d M' H' f1 r2 (st1.trans rs.trk s2) Par.refl xd isf
end

/-! ### try -/
def catchD : List ((Nat → Option Bool) × Nat × Den Out) → Exn → Env → Option (Out × Env)
  | [], _, _ => Option.none
  | (m, i, d) :: r, x, ρ => (m x.1).bind fun b => if b = true then (if i < ρ.length then (d (ρ.set i (some (.leaf (.exc x.1 x.2))))).bind fun q => match q.1 with
      | .next => some (.next, q.2.set i Option.none)
      | _ => Option.none
    else Option.none) else catchD r x ρ
def dTry (db : Den Exn) (hs : List ((Nat → Option Bool) × Nat × Den Out)) : Den Out := fun ρ => (db ρ).bind fun q => catchD hs q.1 q.2
inductive HdsD (cl : Nat → Addr) (np : Nat) (X : Cx) : List ExceptHandler → List ((Nat → Option Bool) × Nat × Den Out) → List (Value × Nat × TS) → Prop
  | nil : HdsD cl np X [] [] []
  | cons {x n : Str} {c : Value} {m : Nat → Option Bool} {i : Nat} {d : Den Out} {b₀ : Stmt} {suite : List Stmt} {ep pos' : Pos} {hds : List ExceptHandler} {ls : List ((Nat → Option Bool) × Nat × Den Out)} {l : List (Value × Nat × TS)} (hc : Names X x c) (hi : X.N[i]? = some n) (hln : X.env.kindOf n = some .local) (hpi : np ≤ i)
      (hm : ∀ j b, m j = some b → PySem.W.exmOne X.K (.ref (cl j)) c = some b) (hsu : ∀ (a : Addr) (pn : List (Addr × Obj)), DSs cl np (X.suite a pn) (b₀ :: suite) d) (r : HdsD cl np X hds ls l) :
      HdsD cl np X (.ExceptHandler (some (.Name x ep)) (some n) (b₀ :: suite) pos' :: hds) ((m, i, d) :: ls) ((c, i, tDS X.w X.K cl np d) :: l)
section
variable {cl : Nat → Addr} {np : Nat} {X : Cx} {Wout : WX} {body : List Stmt} {h₀ : ExceptHandler} {hds : List ExceptHandler} {ls : List ((Nat → Option Bool) × Nat × Den Out)} {l : List (Value × Nat × TS)} {pos : Pos} {db : Den Exn}
theorem HdsD.raw (h : HdsD cl np X hds ls l) : HdsV X hds l := by
  induction h with
  | nil => exact .nil
  | cons hc hi hln _ _ hsu _ ih => exact .cons hc hi hln hsu ih
theorem catch_imp {D : Ends} {M1 : Addr → Prop} {ρ1 ρ' : Env} {σ1 : L2.St} {H1 : Hp} {f1 : Fp} {x : Exn} {o : Out} {fs : List (Str × V)} {d : Option Addr} (h : HdsD cl np X hds ls l) (hd : catchD ls x ρ1 = some (o, ρ')) (rs : RS X.w X.K cl M1 ρ1 σ1 H1 f1) (xd : XdAt M1 H1 d fs) (isf : IsF X.w X.K cl M1 H1 fs x.2)
    (k : ∀ σ' M' H' f', RS X.w X.K cl M' ρ' σ' H' f' → Step M1 H1 f1 M' H' f' → Par np σ1 σ' → OutOk X.w X.K cl D M' σ' H' f' H1 o) : wCatch X.K Wout D l (.ref (cl x.1)) d σ1 H1 := by
  induction h with
  | nil => cases hd
  | @cons xn n c m i dd b₀ suite ep pos' hds ls l hc hi hln hpi hm hsu r ih =>
    obtain ⟨b, h1, hd⟩ := Option.bind_eq_some_iff.mp hd
    refine ⟨b, hm _ _ h1, fun hb => ?_, fun hb => ?_⟩
    · subst hb
      rw [if_pos rfl] at hd
      by_cases ci : i < ρ1.length
      · rw [if_pos ci] at hd
        obtain ⟨⟨o2, ρ2⟩, h2, hd⟩ := Option.bind_eq_some_iff.mp hd
        cases o2 with
        | next =>
          cases hd
          refine ⟨cl x.1, rfl, fun a na => ?_⟩
          have r2 := rs.new na (ExV a (cl x.1) d)
          have ex := ext_new (o := ExV a (cl x.1) d) na rs.trk
          have is : Is X.w X.K cl M1 (upd H1 a (ExV a (cl x.1) d)) (.ref a) (.exc x.1 x.2) := .exc upd_same (notM_new na rs.trk) (ex.xd xd) (isf.stay ex)
          have r3 := r2.1.store ci (.leaf is) List.nodup_nil fun _ h => nomatch h
          refine ⟨M1, _, _, .next, ρ2, r3, h2, fun σ2 M2 H2 f2 rs2 st2 p2 => ?_⟩
          have r4 := rs2.drop (i := i)
          have s1 : Step M1 H1 f1 M1 (upd H1 a (ExV a (cl x.1) d)) (fpSet f1 i []) := r2.2.store fun _ h => nomatch h
          refine k _ M2 H2 _ r4.1 ((s1.trans rs.trk st2).trans rs.trk r4.2) ?_
          intro j hj
          show (σ2.set i Option.none)[j]? = σ1[j]?
          rw [List.getElem?_set_ne (by omega), p2 j hj]
          exact List.getElem?_set_ne (by omega)
        | brk => cases hd
        | cont => cases hd
        | ret rv => cases hd
      · rw [if_neg ci] at hd
        cases hd
    · subst hb
      rw [if_neg (by simp)] at hd
      exact ih hd
theorem ds_try (hs : X.stack = X.env :: X.outer) (hf : X.env.frame = some X.env.locals) (hex : X.ex = []) (hN : X.N.Nodup) (tk : Takes X Wout)
    (hb : ∀ (W : WX) (pn : List (Addr × Obj)) (xe : Value → Shared → Prop), Takes (X.tr pn xe) W → DXs cl np (X.tr pn xe) W body db)
    (hh : HdsD cl np X (h₀ :: hds) ls l) : DS cl np X (.Try body (h₀ :: hds) [] [] pos) (dTry db ls) :=
  ps_imp (ps_tryV (tb := fun W => tDX X.w X.K cl np W db) hs hf hex hN tk (fun W pn xe t _ => hb W pn xe t) hh.raw) fun D σ H ⟨M, ρ, f, o, ρ', rs, hd, k⟩ => by
    obtain ⟨⟨x, ρ1⟩, h1, hd⟩ := Option.bind_eq_some_iff.mp hd
    refine ⟨M, ρ, f, x, ρ1, rs, h1, fun σ1 fs d M1 H1 f1 rs1 st1 p1 xd isf => catch_imp hh hd rs1 xd isf fun σ2 M2 H2 f2 rs2 st2 p2 => ?_⟩
    exact out_base st1 (k σ2 M2 H2 f2 rs2 (st1.trans rs.trk st2) (p1.trans p2))
end
end Ws
set_option Elab.async false
set_option linter.all false
set_option maxRecDepth 100000
set_option maxHeartbeats 4000000
/-! Ws19: the __init__ of exceptions: Base.__init__(self, text), then self.f = f for each parameter. -/
namespace Ws
open PySem PySem.Spec PyProof.Rows L2
section
variable {K : PySem.W.Frag} {C : Addr} {B ni ii : String} {tl : List Value} {vs : List V} {H : Hp} {Q : VK} {E : XK} {N : List Str} {msg f g : Str}
theorem initLen (names : List Str) : ∀ vs H Q E, spInit C names vs H Q E → vs.length = names.length + 1 := by
  intro vs H Q E ⟨a, ys, fs, e, _, hm, _⟩
  unfold mkF at hm
  by_cases c : ys.length = names.length
  · rw [e, List.length_cons, c]
  · rw [if_neg c] at hm
    cases hm
theorem pureI0 (T : XCls B ni ii tl K C) (h : spInit C [] vs H Q E) : tDrop (tXI K ii (tCons (tVar 0) (tCons (tC (.str msg)) tNil))) { nx := fun _ H' => Q .non H', rt := Q } (L2.start N vs) H := by
  obtain ⟨a, ys, fs, rfl, ha, hm, hq⟩ := h
  have e : ys = [] := by
    cases ys with
    | nil => rfl
    | cons y ys => cases (show (none : Option (List (Str × V))) = some fs from hm)
  subst e
  cases (show some ([] : List (Str × V)) = some fs from hm)
  refine ⟨.ref a, rfl, a, C, [.str msg], B, ni, tl, rfl, (by simp), T, ha, ?_⟩
  rcases hq with ⟨_, q⟩ | ⟨n, _⟩
  · exact q
  · exact absurd rfl n
theorem pureI1 (T : XCls B ni ii tl K C) (hno : PySem.W.findIn K (.ref C) f = some none) (h : spInit C [f] vs H Q E) :
    tSeq (tDrop (tXI K ii (tCons (tVar 0) (tCons (tC (.str msg)) tNil)))) (tXst K f (tVar 0) (tVar 1)) { nx := fun _ H' => Q .non H', rt := Q } (L2.start N vs) H := by
  obtain ⟨a, ys, fs, rfl, ha, hm, hq⟩ := h
  obtain ⟨y, rfl⟩ : ∃ y, ys = [y] := by
    match ys, hm with
    | [y], _ => exact ⟨y, rfl⟩
    | [], hm => cases (show (none : Option (List (Str × V))) = some fs from hm)
    | _ :: _ :: _, hm => exact absurd hm (by simp [mkF])
  cases (show some [(f, y)] = some fs from hm)
  refine ⟨.ref a, rfl, a, C, [.str msg], B, ni, tl, rfl, (by simp), T, ha, ?_⟩
  refine ⟨y, rfl, .ref a, rfl, a, C, rfl, ⟨B, ni, ii, tl, T⟩, hno, .inl ⟨ha, fun dx n ne => ?_⟩⟩
  rcases hq with ⟨n, _⟩ | ⟨_, q⟩
  · cases n
  · exact q dx n ne
theorem pureI2 (T : XCls B ni ii tl K C) (hf : PySem.W.findIn K (.ref C) f = some none) (hg : PySem.W.findIn K (.ref C) g = some none) (h : spInit C [f, g] vs H Q E) :
    tSeq (tDrop (tXI K ii (tCons (tVar 0) (tCons (tC (.str msg)) tNil)))) (tSeq (tXst K f (tVar 0) (tVar 1)) (tXst K g (tVar 0) (tVar 2))) { nx := fun _ H' => Q .non H', rt := Q } (L2.start N vs) H := by
  obtain ⟨a, ys, fs, rfl, ha, hm, hq⟩ := h
  obtain ⟨y, z, rfl⟩ : ∃ y z, ys = [y, z] := by
    match ys, hm with
    | [y, z], _ => exact ⟨y, z, rfl⟩
    | [], hm => cases (show (none : Option (List (Str × V))) = some fs from hm)
    | [_], hm => exact absurd hm (by simp [mkF])
    | _ :: _ :: _ :: _, hm => exact absurd hm (by simp [mkF])
  cases (show some [(g, z), (f, y)] = some fs from hm)
  refine ⟨.ref a, rfl, a, C, [.str msg], B, ni, tl, rfl, (by simp), T, ha, ?_⟩
  refine ⟨y, rfl, .ref a, rfl, a, C, rfl, ⟨B, ni, ii, tl, T⟩, hf, .inl ⟨ha, fun dx n ne => ?_⟩⟩
  refine ⟨z, rfl, .ref a, rfl, a, C, rfl, ⟨B, ni, ii, tl, T⟩, hg, .inr ⟨dx, [(f, y)], upd_same, by rw [upd_ne ne, upd_same], (by simp), ?_⟩⟩
  have e : upd (upd (upd H dx (exd dx [(f, y)])) a (exo a C (some dx))) dx (exd dx [(g, z), (f, y)]) = upd (upd H dx (exd dx [(g, z), (f, y)])) a (exo a C (some dx)) := by
    funext b
    by_cases e1 : b = dx
    · subst e1
      rw [upd_same, upd_ne ne, upd_same]
    · by_cases e2 : b = a
      · subst e2
        rw [upd_ne e1, upd_same, upd_same]
      · rw [upd_ne e1, upd_ne e2, upd_ne e1, upd_ne e2, upd_ne e1]
  rw [e]
  rcases hq with ⟨n, _⟩ | ⟨_, q⟩
  · cases n
  · exact q dx n ne
end
/-- keywords for parameters without defaults, in the parameters' order or against it -/
theorem kb_init {K : PySem.W.Frag} {x qual : Str} {params : Arguments} {body : List Stmt} {scope : Scope} {kws : List (Str × V)} {f : Addr} {fd : FuncData} {ps ks : List Str} {rev : Bool} (F : FunD K x qual params body scope [] kws f fd)
    (h : ∀ (kV doc pm : Value) (an : Option Addr) (cdv ct : Value) (u : Value) (ws : List Value), ws.length = ks.length → bindArgs (PySem.W.fnOf x qual params body scope .none kV doc pm an cdv ct) ⟨[u], ks.zip ws⟩ = pure (ps.zip ([u] ++ revIf rev ws))) :
    KBn K fd ps 1 ks (fun us ws => us ++ revIf rev ws) (fun vs zs => vs ++ revIf rev zs) := by
  obtain ⟨oc, od, dV, kV, doc, pm, an, cdv, ct, osl, rfl, lk, hcd, hD, hK⟩ := F.ex
  rcases hD with ⟨_, rfl⟩ | ⟨e, _⟩
  · refine ⟨fun s us ws X l1 l2 => ?_, fun r1 r2 => ?_⟩
    · match us, l1 with
      | [u], _ => exact .of_eq (h kV doc pm an cdv ct u ws l2)
    · refine r1.append ?_
      unfold revIf
      split
      · exact r2.reverse
      · exact r2
  · exact absurd rfl e
end Ws
set_option Elab.async false
set_option linter.all false
set_option maxRecDepth 100000
set_option maxHeartbeats 4000000
/-! Ws20: what is asked of the written part, as a truth that can be run. -/
namespace Ws
open PySem PySem.Spec PyProof.Rows L2
theorem RoomG.u64 {c : Bool} {k : Nat} {A : Around} (h : RoomG c k A) : A.units + 64 < cLine := by have := h.un; omega
theorem RoomG.u65 {c : Bool} {k : Nat} {A : Around} (h : RoomG c k A) : A.units + 65 < cLine := by have := h.un; omega
theorem xclsB_ok {K : PySem.W.Frag} {tl : List Value} {newId : String} {C : Addr} (h : xclsB K tl newId C = true) :
    ∃ nm q N bs bm sn sub ab col dd k0 k1 k2 k3 k5, K.lookup C = some (excClassObj nm q C N bs bm true sn sub ab col dd k0 k1 k2 k3 k5 newId) ∧ refsT tl bm = true := by
  unfold xclsB at h
  split at h
  · rename_i dd nm bs mro ns qn sn sb ab col sl e
    obtain ⟨h1, h2⟩ := Bool.and_eq_true_iff.mp h
    split at h1
    · rename_i c bm
      obtain ⟨h3, h4⟩ := Bool.and_eq_true_iff.mp h1
      have h3 := of_decide_eq_true h3
      subst h3
      split at h2
      · rename_i k0 k1 k2 k3 n k5 e2
        have h2 := of_decide_eq_true h2
        subst h2
        obtain ⟨sl⟩ := sl
        have e2 : sl = _ := e2
        subst e2
        exact ⟨nm, qn, ns, bs, bm, sn, sb, ab, col, dd, k0, k1, k2, k3, k5, e, h4⟩
      · cases h2
    · cases h1
  · cases h
/-- a class of exceptions over the base tl -/
theorem xB_ok {B ni ii : String} {K : PySem.W.Frag} {tl : List Value} {C : Addr} (xb : XBase B ni ii tl) (h : xB K tl ni C = true) : XCls B ni ii tl K C := by
  obtain ⟨h1, h⟩ := Bool.and_eq_true_iff.mp h
  obtain ⟨h2, h⟩ := Bool.and_eq_true_iff.mp h
  obtain ⟨h3, h⟩ := Bool.and_eq_true_iff.mp h
  obtain ⟨h4, h5⟩ := Bool.and_eq_true_iff.mp h
  exact ⟨xb, xclsB_ok h1, of_decide_eq_true h2, of_decide_eq_true h3, of_decide_eq_true h4, h5⟩
/-- its __init__ -/
theorem xmB_ok {K : PySem.W.Frag} {C : Addr} (t : XC K C) (h : xmB K C = true) : XMk K C (He.ma K C "__init__") := by
  obtain ⟨h1, h2⟩ := Bool.and_eq_true_iff.mp h
  exact ⟨t, of_decide_eq_true h1, of_decide_eq_true h2⟩
/-- isinstance of its instances -/
theorem xiB_ok {K : PySem.W.Frag} {C : Addr} (h : xiB K C = true) : XIs K C := by
  obtain ⟨h1, h⟩ := Bool.and_eq_true_iff.mp h
  obtain ⟨h2, h⟩ := Bool.and_eq_true_iff.mp h
  obtain ⟨h3, h⟩ := Bool.and_eq_true_iff.mp h
  obtain ⟨h4, h⟩ := Bool.and_eq_true_iff.mp h
  obtain ⟨h5, h⟩ := Bool.and_eq_true_iff.mp h
  obtain ⟨h6, h⟩ := Bool.and_eq_true_iff.mp h
  obtain ⟨h7, h8⟩ := Bool.and_eq_true_iff.mp h
  exact ⟨h1, of_decide_eq_true h2, of_decide_eq_true h3, of_decide_eq_true h4, of_decide_eq_true h5, of_decide_eq_true h6, of_decide_eq_true h7, of_decide_eq_true h8⟩
/-- C.__init__ read from the class -/
theorem xrB_ok {K : PySem.W.Frag} {ii : String} {C : Addr} (h : xrB K ii C = true) : ClX.CRead K C (.type "type") ∧ PySem.W.findCls K (.ref C) (.type "type") "__init__" = some (.val (.builtin ii)) := by
  obtain ⟨h1, h⟩ := Bool.and_eq_true_iff.mp h
  obtain ⟨h2, h3⟩ := Bool.and_eq_true_iff.mp h
  refine ⟨⟨h1, of_decide_eq_true h2⟩, ?_⟩
  split at h3
  · rename_i v e
    have h3 := of_decide_eq_true h3
    subst h3
    exact e
  · cases h3
end Ws
set_option Elab.async false
set_option linter.all false
set_option maxRecDepth 100000
set_option maxHeartbeats 4000000
/-! Ws21: promises of defs and classes in bundles. -/
namespace Ws
open PySem PySem.Spec PyProof.Rows L2
/-- f keeps den -/
def FunOk (c : Bool) (P : Program) (w : World) (K : PySem.W.Frag) (mg : Str → Option Value) (base : Heap) (cl : Nat → Addr) (k : Nat) (f : Addr) (den : List W → Option (W × List W)) : Prop :=
  ∃ fd ps, FnOkG c P w K mg base CX0 k f fd ps (spW w K cl den) ∧ Binds K fd ps [] ∧ PySem.W.keepIn K (.ref f) = true
/-- f raises as den says -/
def FunX (c : Bool) (P : Program) (w : World) (K : PySem.W.Frag) (mg : Str → Option Value) (base : Heap) (cl : Nat → Addr) (k : Nat) (f : Addr) (den : List D → Option Exn) : Prop :=
  ∃ fd ps, FnOkG c P w K mg base (L2.CX P w) k f fd ps (spXX w K cl den) ∧ Binds K fd ps [] ∧ PySem.W.keepIn K (.ref f) = true
/-- the class at C, its __init__ keeping the fields' names -/
def InitOk (P : Program) (w : World) (K : PySem.W.Frag) (mg : Str → Option Value) (base : Heap) (C : Addr) (names : List Str) : Prop :=
  ∃ fI fd ps, XMk K C fI ∧ FnOk P w K mg base CX0 1 fI fd ps (spInit C names) ∧ Binds K fd ps [] ∧ names.length ≤ 1000
def InitKw (P : Program) (w : World) (K : PySem.W.Frag) (mg : Str → Option Value) (base : Heap) (C : Addr) (names ks : List Str) (rev : Bool) : Prop :=
  ∃ fI fd ps, XMk K C fI ∧ FnOk P w K mg base CX0 1 fI fd ps (spInit C names) ∧ KBn K fd ps 1 ks (fun us ws => us ++ revIf rev ws) (fun vs zs => vs ++ revIf rev zs) ∧ names.length ≤ 1000 ∧ ps.length = ks.length + 1
theorem spW_len {w : World} {K : PySem.W.Frag} {cl : Nat → Addr} {np n : Nat} {den : Den Out} : ∀ vs H Q E, spW w K cl (dFn np n den) vs H Q E → vs.length = np := by
  intro vs H Q E ⟨M, ws, f, r, ws', a, hd, _⟩
  have hl := a.len
  unfold dFn at hd
  by_cases c : ws.length = np
  · omega
  · rw [if_neg c] at hd
    cases hd
theorem spXX_len {w : World} {K : PySem.W.Frag} {cl : Nat → Addr} {np n : Nat} {den : Den Exn} : ∀ vs H Q E, spXX w K cl (dFnX np n den) vs H Q E → vs.length = np := by
  intro vs H Q E ⟨M, ds, x, is, _, hd, _⟩
  have hl := is.length
  unfold dFnX at hd
  by_cases c : ds.length = np
  · omega
  · rw [if_neg c] at hd
    cases hd
section
variable {c : Bool} {cl : Nat → Addr} {np : Nat} {X : Cx} {k k' : Nat} {f C : Addr} {j : Nat} {den : List W → Option (W × List W)} {denX : List D → Option Exn} {names ks : List Str} {rev : Bool} {x : Str} {p pos epos : Pos} {e : Expr} {es : List Expr} {kws : List Keyword} {dr : Den (List Rv)} {da : Den (List D)} {W : WX}
theorem de_f (F : FunOk c X.prog X.w X.K X.mg X.base cl k f den) (hr : RoomG c k' X.A) (hk : k ≤ k') (hg : Gl X x) (hm : X.mg x = some (.ref f))
    (ha : DR cl X (e :: es) dr) (hdb : (x == ("__debug__" : Str)) = false := by decide) (he : starEach (e :: es) X.env = (false, eval e X.env) :: starEach es X.env := by rfl) (hpl : (backTo pos (starEach es X.env)).any (·.1) = false := by rfl) :
    DE cl X (.Call (.Name x p) (e :: es) [] pos) (dCall den dr []) := by
  obtain ⟨fd, ps, F, b, kp⟩ := F
  exact dg_call (F.mono hk) hr hg hm kp b ha hdb he hpl
theorem de_f0 (F : FunOk c X.prog X.w X.K X.mg X.base cl k f den) (hr : RoomG c k' X.A) (hk : k ≤ k') (hg : Gl X x) (hm : X.mg x = some (.ref f))
    (hdb : (x == ("__debug__" : Str)) = false := by decide) : DE cl X (.Call (.Name x p) [] [] pos) (dCall den dRNil []) := by
  obtain ⟨fd, ps, F, b, kp⟩ := F
  exact dg_call0 (F.mono hk) hr hg hm kp b hdb
theorem dx_f (tk : Takes X W) (F : FunX c X.prog X.w X.K X.mg X.base cl k f denX) (hr : RoomG c k' X.A) (hk : k ≤ k') (hg : Gl X x) (hm : X.mg x = some (.ref f))
    (ha : DR cl X (e :: es) dr) (hdb : (x == ("__debug__" : Str)) = false := by decide) (he : starEach (e :: es) X.env = (false, eval e X.env) :: starEach es X.env := by rfl) (hpl : (backTo pos (starEach es X.env)).any (·.1) = false := by rfl)
    (hs : swapsWith (.Call (.Name x p) (e :: es) [] pos) none epos.line X.env = pure false := by rfl) :
    DX cl np X W (.Expr (.Call (.Name x p) (e :: es) [] pos) epos) (dCallX denX dr) := by
  obtain ⟨fd, ps, F, b, kp⟩ := F
  exact dx_call tk (F.mono hk) hr hg hm kp b ha hdb he hpl hs
theorem de_new (I : InitOk X.prog X.w X.K X.mg X.base C names) (hC : cl j = C) (hr : RoomG true k X.A) (hk : 2 ≤ k) (hg : Gl X x) (hm : X.mg x = some (.ref C)) (ha : DA cl X (e :: es) da)
    (hdb : (x == ("__debug__" : Str)) = false := by decide) (he : starEach (e :: es) X.env = (false, eval e X.env) :: starEach es X.env := by rfl) (hpl : (backTo pos (starEach es X.env)).any (·.1) = false := by rfl) :
    DE cl X (.Call (.Name x p) (e :: es) [] pos) (dXm j names false da) := by
  obtain ⟨fI, fd, ps, T, F, b, hn⟩ := I
  exact de_xm hC hn T F (hr.r.mono hk) b hg hm ha hdb he hpl
theorem de_newK (I : InitKw X.prog X.w X.K X.mg X.base C names ks rev) (hC : cl j = C) (hr : RoomG true k X.A) (hk : 2 ≤ k) (hg : Gl X x) (hm : X.mg x = some (.ref C)) (hkw : PK X kws (tSA X.w X.K cl da))
    (hall : (backToKw pos (keywordEach kws X.env)).all (·.1.isSome) = true := by rfl) (hks : (backToKw pos (keywordEach kws X.env)).filterMap (·.1) = ks := by rfl) (hdb : (x == ("__debug__" : Str)) = false := by decide)
    (hpl : ((backTo pos (starEach [] X.env)).any (·.1) || (backToKw pos (keywordEach kws X.env)).any (·.1.isNone)) = false := by rfl) :
    DE cl X (.Call (.Name x p) [] kws pos) (dXm j names rev da) := by
  obtain ⟨fI, fd, ps, T, F, b, hn, hp⟩ := I
  exact de_xmK hC hn T F (hr.r.mono hk) b hg hm hkw hp hall hks hdb hpl
theorem dx_new (hc : X.calm = true) (tk : Takes X W) (I : InitOk X.prog X.w X.K X.mg X.base C names) (hC : cl j = C) (hr : RoomG true k X.A) (hk : 2 ≤ k) (hg : Gl X x) (hm : X.mg x = some (.ref C)) (ha : DA cl X (e :: es) da)
    (hdb : (x == ("__debug__" : Str)) = false := by decide) (he : starEach (e :: es) X.env = (false, eval e X.env) :: starEach es X.env := by rfl) (hpl : (backTo pos (starEach es X.env)).any (·.1) = false := by rfl) :
    DX cl np X W (.Raise (some (.Call (.Name x p) (e :: es) [] pos)) none epos) (dXr j names da) := by
  obtain ⟨fI, fd, ps, T, F, b, hn⟩ := I
  exact dx_raise hc tk hC hn T F (hr.r.mono hk) b hg hm ha hdb he hpl
theorem dx_new0 (hc : X.calm = true) (tk : Takes X W) (I : InitOk X.prog X.w X.K X.mg X.base C []) (hC : cl j = C) (hr : RoomG true k X.A) (hk : 2 ≤ k) (hg : Gl X x) (hm : X.mg x = some (.ref C))
    (hdb : (x == ("__debug__" : Str)) = false := by decide) :
    DX cl np X W (.Raise (some (.Call (.Name x p) [] [] pos)) none epos) (dXr j [] dNil) := by
  obtain ⟨fI, fd, ps, T, F, b, hn⟩ := I
  exact dx_raise0 hc tk hC T F (hr.r.mono hk) b hg hm hdb
theorem kb_nil {K : PySem.W.Frag} {fd : FuncData} {ps : List Str} (b : Binds K fd ps []) (hp : ps.length = 1) : KBn K fd ps 1 [] (fun us ws => us ++ revIf false ws) (fun vs zs => vs ++ revIf false zs) :=
  ⟨fun s us ws X l1 l2 => by
    have e : ws = [] := List.eq_nil_of_length_eq_zero l2
    subst e
    have := b s us X (by rw [List.append_nil, l1, hp])
    exact this, fun r1 r2 => r1.append (by show Vals (revIf false _) (revIf false _); unfold revIf; simpa using r2)⟩
/-- C() -/
theorem de_new0 (I : InitOk X.prog X.w X.K X.mg X.base C []) (hC : cl j = C) (hr : RoomG true k X.A) (hk : 2 ≤ k) (hg : Gl X x) (hm : X.mg x = some (.ref C)) (hdb : (x == ("__debug__" : Str)) = false := by decide) :
    DE cl X (.Call (.Name x p) [] [] pos) (dXm j [] false dNil) := by
  obtain ⟨fI, fd, ps, T, F, b, hn⟩ := I
  have hp : ps.length = 1 := by
    have := F.len [.ref 0] (upd (fun _ => none) 0 (exo 0 C none)) (fun _ _ => True) (fun _ _ _ => False) ⟨0, [], [], rfl, upd_same, rfl, .inl ⟨rfl, trivial⟩⟩
    exact this.symm
  exact de_xmK hC hn T F (hr.r.mono hk) (kb_nil b hp) hg hm dk_nil (by rw [hp]; rfl) rfl rfl hdb rfl
end
end Ws
set_option Elab.async false
set_option linter.all false
set_option maxRecDepth 100000
set_option maxHeartbeats 4000000
/-! Ws22: what is looked at behind the top: what the module's names reach, and the statics; and the law's end. -/
namespace Ws
open PySem PySem.Spec PyProof.Rows L2
/-- the script, as it comes -/
theorem is_script {w : World} {K : PySem.W.Frag} {cl : Nat → Addr} {H : Hp} {a : Addr} {ns : List Int} (o : Only H) (h : SqL K H a (ns.map V.int)) : Is w K cl noM H (.ref a) (.scr ns) := by
  rcases h with h | ⟨ob, its, n, h1, h2, h3, h4, h5, h6⟩
  · rcases h with h | ⟨ob, h⟩
    · rcases o a with z | ⟨_, _, z⟩
      · rw [h] at z; cases z
      · rw [h] at z; cases z
    · exact .scr h fun z => z
  · exact .scrK h1 h2 h3 h4 h5 h6
/-- from what the law's def computes to the promise -/
theorem law_end {w : World} {K : PySem.W.Frag} {cl : Nat → Addr} {den : List W → Option (W × List W)} {H : Hp} {a : Addr} {ns : List Int} {ws' : List W} {E : XK} (o : Only H) (h : SqL K H a (ns.map V.int)) (e : den [.leaf (.scr ns)] = some (.leaf (.bool true), ws')) :
    spW w K cl den [.ref a] H (fun v _ => v = .bl true) E := by
  refine ⟨noM, [.leaf (.scr ns)], fun _ => [], .leaf (.bool true), ws', leaf_args (.cons (is_script o h) .nil) (fun _ z => z.elim), e, fun v M' H' f' fw _ _ k => ?_⟩
  obtain ⟨wi, _, _⟩ := k
  cases wi with
  | leaf is => exact is_bool is
end Ws
set_option Elab.async false
set_option linter.all false
set_option maxRecDepth 100000
set_option maxHeartbeats 4000000
namespace K10
open PySem PySem.Spec PyProof.Rows L2 Ws
/-- what the head says -/
structure Kn (K : PySem.W.Frag) (mg : Str → Option Value) : Prop where
  x : ∃ h : Heap, K.In h ∧ h.Ns mainGlobals mg
  s : He.SaysD fa fn K
  e : ex K = true
section
variable {K : PySem.W.Frag} {mg : Str → Option Value}
theorem Kn.glo_StairError (kn : Kn K mg) : mg ("StairError" : Str) = some (.ref (He.ga K ("StairError" : Str))) := let ⟨_, X, G⟩ := kn.x; He.glo_ok X G (kn.s.fact 0 (f := .glo ("StairError" : Str)) rfl)
theorem Kn.glo_InvalidSteps (kn : Kn K mg) : mg ("InvalidSteps" : Str) = some (.ref (He.ga K ("InvalidSteps" : Str))) := let ⟨_, X, G⟩ := kn.x; He.glo_ok X G (kn.s.fact 1 (f := .glo ("InvalidSteps" : Str)) rfl)
theorem Kn.glo_InvalidJumps (kn : Kn K mg) : mg ("InvalidJumps" : Str) = some (.ref (He.ga K ("InvalidJumps" : Str))) := let ⟨_, X, G⟩ := kn.x; He.glo_ok X G (kn.s.fact 2 (f := .glo ("InvalidJumps" : Str)) rfl)
theorem Kn.glo_InvalidJump (kn : Kn K mg) : mg ("InvalidJump" : Str) = some (.ref (He.ga K ("InvalidJump" : Str))) := let ⟨_, X, G⟩ := kn.x; He.glo_ok X G (kn.s.fact 3 (f := .glo ("InvalidJump" : Str)) rfl)
theorem Kn.glo_InvalidLengths (kn : Kn K mg) : mg ("InvalidLengths" : Str) = some (.ref (He.ga K ("InvalidLengths" : Str))) := let ⟨_, X, G⟩ := kn.x; He.glo_ok X G (kn.s.fact 4 (f := .glo ("InvalidLengths" : Str)) rfl)
theorem Kn.glo_InvalidWay (kn : Kn K mg) : mg ("InvalidWay" : Str) = some (.ref (He.ga K ("InvalidWay" : Str))) := let ⟨_, X, G⟩ := kn.x; He.glo_ok X G (kn.s.fact 5 (f := .glo ("InvalidWay" : Str)) rfl)
theorem Kn.glo_InvalidThing (kn : Kn K mg) : mg ("InvalidThing" : Str) = some (.ref (He.ga K ("InvalidThing" : Str))) := let ⟨_, X, G⟩ := kn.x; He.glo_ok X G (kn.s.fact 6 (f := .glo ("InvalidThing" : Str)) rfl)
theorem Kn.glo_InvalidScore (kn : Kn K mg) : mg ("InvalidScore" : Str) = some (.ref (He.ga K ("InvalidScore" : Str))) := let ⟨_, X, G⟩ := kn.x; He.glo_ok X G (kn.s.fact 7 (f := .glo ("InvalidScore" : Str)) rfl)
theorem Kn.glo_InvalidWays (kn : Kn K mg) : mg ("InvalidWays" : Str) = some (.ref (He.ga K ("InvalidWays" : Str))) := let ⟨_, X, G⟩ := kn.x; He.glo_ok X G (kn.s.fact 8 (f := .glo ("InvalidWays" : Str)) rfl)
theorem Kn.glo_InvalidCount (kn : Kn K mg) : mg ("InvalidCount" : Str) = some (.ref (He.ga K ("InvalidCount" : Str))) := let ⟨_, X, G⟩ := kn.x; He.glo_ok X G (kn.s.fact 9 (f := .glo ("InvalidCount" : Str)) rfl)
theorem Kn.glo_InvalidFlow (kn : Kn K mg) : mg ("InvalidFlow" : Str) = some (.ref (He.ga K ("InvalidFlow" : Str))) := let ⟨_, X, G⟩ := kn.x; He.glo_ok X G (kn.s.fact 10 (f := .glo ("InvalidFlow" : Str)) rfl)
theorem Kn.glo_InvalidRun (kn : Kn K mg) : mg ("InvalidRun" : Str) = some (.ref (He.ga K ("InvalidRun" : Str))) := let ⟨_, X, G⟩ := kn.x; He.glo_ok X G (kn.s.fact 11 (f := .glo ("InvalidRun" : Str)) rfl)
theorem Kn.glo_InvalidMark (kn : Kn K mg) : mg ("InvalidMark" : Str) = some (.ref (He.ga K ("InvalidMark" : Str))) := let ⟨_, X, G⟩ := kn.x; He.glo_ok X G (kn.s.fact 12 (f := .glo ("InvalidMark" : Str)) rfl)
theorem Kn.glo_InvalidMarks (kn : Kn K mg) : mg ("InvalidMarks" : Str) = some (.ref (He.ga K ("InvalidMarks" : Str))) := let ⟨_, X, G⟩ := kn.x; He.glo_ok X G (kn.s.fact 13 (f := .glo ("InvalidMarks" : Str)) rfl)
theorem Kn.glo_InvalidPrices (kn : Kn K mg) : mg ("InvalidPrices" : Str) = some (.ref (He.ga K ("InvalidPrices" : Str))) := let ⟨_, X, G⟩ := kn.x; He.glo_ok X G (kn.s.fact 14 (f := .glo ("InvalidPrices" : Str)) rfl)
theorem Kn.glo_InvalidBounds (kn : Kn K mg) : mg ("InvalidBounds" : Str) = some (.ref (He.ga K ("InvalidBounds" : Str))) := let ⟨_, X, G⟩ := kn.x; He.glo_ok X G (kn.s.fact 15 (f := .glo ("InvalidBounds" : Str)) rfl)
theorem Kn.glo_InvalidMoves (kn : Kn K mg) : mg ("InvalidMoves" : Str) = some (.ref (He.ga K ("InvalidMoves" : Str))) := let ⟨_, X, G⟩ := kn.x; He.glo_ok X G (kn.s.fact 16 (f := .glo ("InvalidMoves" : Str)) rfl)
theorem Kn.glo_InvalidEnds (kn : Kn K mg) : mg ("InvalidEnds" : Str) = some (.ref (He.ga K ("InvalidEnds" : Str))) := let ⟨_, X, G⟩ := kn.x; He.glo_ok X G (kn.s.fact 17 (f := .glo ("InvalidEnds" : Str)) rfl)
theorem Kn.glo_InvalidHabits (kn : Kn K mg) : mg ("InvalidHabits" : Str) = some (.ref (He.ga K ("InvalidHabits" : Str))) := let ⟨_, X, G⟩ := kn.x; He.glo_ok X G (kn.s.fact 18 (f := .glo ("InvalidHabits" : Str)) rfl)
theorem Kn.glo_InvalidShares (kn : Kn K mg) : mg ("InvalidShares" : Str) = some (.ref (He.ga K ("InvalidShares" : Str))) := let ⟨_, X, G⟩ := kn.x; He.glo_ok X G (kn.s.fact 19 (f := .glo ("InvalidShares" : Str)) rfl)
theorem Kn.glo_InvalidText (kn : Kn K mg) : mg ("InvalidText" : Str) = some (.ref (He.ga K ("InvalidText" : Str))) := let ⟨_, X, G⟩ := kn.x; He.glo_ok X G (kn.s.fact 20 (f := .glo ("InvalidText" : Str)) rfl)
theorem Kn.glo_InvalidClaim (kn : Kn K mg) : mg ("InvalidClaim" : Str) = some (.ref (He.ga K ("InvalidClaim" : Str))) := let ⟨_, X, G⟩ := kn.x; He.glo_ok X G (kn.s.fact 21 (f := .glo ("InvalidClaim" : Str)) rfl)
theorem Kn.glo_InvalidCommand (kn : Kn K mg) : mg ("InvalidCommand" : Str) = some (.ref (He.ga K ("InvalidCommand" : Str))) := let ⟨_, X, G⟩ := kn.x; He.glo_ok X G (kn.s.fact 22 (f := .glo ("InvalidCommand" : Str)) rfl)
theorem Kn.glo_MissingError (kn : Kn K mg) : mg ("MissingError" : Str) = some (.ref (He.ga K ("MissingError" : Str))) := let ⟨_, X, G⟩ := kn.x; He.glo_ok X G (kn.s.fact 23 (f := .glo ("MissingError" : Str)) rfl)
theorem Kn.glo_UnknownWay (kn : Kn K mg) : mg ("UnknownWay" : Str) = some (.ref (He.ga K ("UnknownWay" : Str))) := let ⟨_, X, G⟩ := kn.x; He.glo_ok X G (kn.s.fact 24 (f := .glo ("UnknownWay" : Str)) rfl)
theorem Kn.glo_NoSuch (kn : Kn K mg) : mg ("NoSuch" : Str) = some (.ref (He.ga K ("NoSuch" : Str))) := let ⟨_, X, G⟩ := kn.x; He.glo_ok X G (kn.s.fact 25 (f := .glo ("NoSuch" : Str)) rfl)
theorem Kn.glo_StateError (kn : Kn K mg) : mg ("StateError" : Str) = some (.ref (He.ga K ("StateError" : Str))) := let ⟨_, X, G⟩ := kn.x; He.glo_ok X G (kn.s.fact 26 (f := .glo ("StateError" : Str)) rfl)
theorem Kn.glo_OtherSteps (kn : Kn K mg) : mg ("OtherSteps" : Str) = some (.ref (He.ga K ("OtherSteps" : Str))) := let ⟨_, X, G⟩ := kn.x; He.glo_ok X G (kn.s.fact 27 (f := .glo ("OtherSteps" : Str)) rfl)
theorem Kn.glo_OtherStair (kn : Kn K mg) : mg ("OtherStair" : Str) = some (.ref (He.ga K ("OtherStair" : Str))) := let ⟨_, X, G⟩ := kn.x; He.glo_ok X G (kn.s.fact 28 (f := .glo ("OtherStair" : Str)) rfl)
theorem Kn.glo_NotTogether (kn : Kn K mg) : mg ("NotTogether" : Str) = some (.ref (He.ga K ("NotTogether" : Str))) := let ⟨_, X, G⟩ := kn.x; He.glo_ok X G (kn.s.fact 29 (f := .glo ("NotTogether" : Str)) rfl)
theorem Kn.glo_NothingFits (kn : Kn K mg) : mg ("NothingFits" : Str) = some (.ref (He.ga K ("NothingFits" : Str))) := let ⟨_, X, G⟩ := kn.x; He.glo_ok X G (kn.s.fact 30 (f := .glo ("NothingFits" : Str)) rfl)
theorem Kn.glo_Endless (kn : Kn K mg) : mg ("Endless" : Str) = some (.ref (He.ga K ("Endless" : Str))) := let ⟨_, X, G⟩ := kn.x; He.glo_ok X G (kn.s.fact 31 (f := .glo ("Endless" : Str)) rfl)
theorem Kn.glo_NotBetween (kn : Kn K mg) : mg ("NotBetween" : Str) = some (.ref (He.ga K ("NotBetween" : Str))) := let ⟨_, X, G⟩ := kn.x; He.glo_ok X G (kn.s.fact 32 (f := .glo ("NotBetween" : Str)) rfl)
theorem Kn.glo_Unmeeting (kn : Kn K mg) : mg ("Unmeeting" : Str) = some (.ref (He.ga K ("Unmeeting" : Str))) := let ⟨_, X, G⟩ := kn.x; He.glo_ok X G (kn.s.fact 33 (f := .glo ("Unmeeting" : Str)) rfl)
theorem Kn.glo_NothingToUndo (kn : Kn K mg) : mg ("NothingToUndo" : Str) = some (.ref (He.ga K ("NothingToUndo" : Str))) := let ⟨_, X, G⟩ := kn.x; He.glo_ok X G (kn.s.fact 34 (f := .glo ("NothingToUndo" : Str)) rfl)
theorem Kn.glo_CommandFailed (kn : Kn K mg) : mg ("CommandFailed" : Str) = some (.ref (He.ga K ("CommandFailed" : Str))) := let ⟨_, X, G⟩ := kn.x; He.glo_ok X G (kn.s.fact 35 (f := .glo ("CommandFailed" : Str)) rfl)
theorem Kn.glo_LimitError (kn : Kn K mg) : mg ("LimitError" : Str) = some (.ref (He.ga K ("LimitError" : Str))) := let ⟨_, X, G⟩ := kn.x; He.glo_ok X G (kn.s.fact 36 (f := .glo ("LimitError" : Str)) rfl)
theorem Kn.glo_TooMany (kn : Kn K mg) : mg ("TooMany" : Str) = some (.ref (He.ga K ("TooMany" : Str))) := let ⟨_, X, G⟩ := kn.x; He.glo_ok X G (kn.s.fact 37 (f := .glo ("TooMany" : Str)) rfl)
theorem Kn.glo__law_pot (kn : Kn K mg) : mg ("_law_pot" : Str) = some (.ref (He.ga K ("_law_pot" : Str))) := let ⟨_, X, G⟩ := kn.x; He.glo_ok X G (kn.s.fact 38 (f := .glo ("_law_pot" : Str)) rfl)
theorem Kn.glo__law_draw (kn : Kn K mg) : mg ("_law_draw" : Str) = some (.ref (He.ga K ("_law_draw" : Str))) := let ⟨_, X, G⟩ := kn.x; He.glo_ok X G (kn.s.fact 39 (f := .glo ("_law_draw" : Str)) rfl)
theorem Kn.glo__law_pick (kn : Kn K mg) : mg ("_law_pick" : Str) = some (.ref (He.ga K ("_law_pick" : Str))) := let ⟨_, X, G⟩ := kn.x; He.glo_ok X G (kn.s.fact 40 (f := .glo ("_law_pick" : Str)) rfl)
theorem Kn.glo__law_grounds (kn : Kn K mg) : mg ("_law_grounds" : Str) = some (.ref (He.ga K ("_law_grounds" : Str))) := let ⟨_, X, G⟩ := kn.x; He.glo_ok X G (kn.s.fact 41 (f := .glo ("_law_grounds" : Str)) rfl)
theorem Kn.glo__law_ground (kn : Kn K mg) : mg ("_law_ground" : Str) = some (.ref (He.ga K ("_law_ground" : Str))) := let ⟨_, X, G⟩ := kn.x; He.glo_ok X G (kn.s.fact 42 (f := .glo ("_law_ground" : Str)) rfl)
theorem Kn.glo__law_thing (kn : Kn K mg) : mg ("_law_thing" : Str) = some (.ref (He.ga K ("_law_thing" : Str))) := let ⟨_, X, G⟩ := kn.x; He.glo_ok X G (kn.s.fact 43 (f := .glo ("_law_thing" : Str)) rfl)
theorem Kn.glo__law_by_value (kn : Kn K mg) : mg ("_law_by_value" : Str) = some (.ref (He.ga K ("_law_by_value" : Str))) := let ⟨_, X, G⟩ := kn.x; He.glo_ok X G (kn.s.fact 44 (f := .glo ("_law_by_value" : Str)) rfl)
theorem Kn.glo__law_by_named_value (kn : Kn K mg) : mg ("_law_by_named_value" : Str) = some (.ref (He.ga K ("_law_by_named_value" : Str))) := let ⟨_, X, G⟩ := kn.x; He.glo_ok X G (kn.s.fact 45 (f := .glo ("_law_by_named_value" : Str)) rfl)
theorem Kn.glo__law_by_place (kn : Kn K mg) : mg ("_law_by_place" : Str) = some (.ref (He.ga K ("_law_by_place" : Str))) := let ⟨_, X, G⟩ := kn.x; He.glo_ok X G (kn.s.fact 46 (f := .glo ("_law_by_place" : Str)) rfl)
theorem Kn.glo__law_thrown (kn : Kn K mg) : mg ("_law_thrown" : Str) = some (.ref (He.ga K ("_law_thrown" : Str))) := let ⟨_, X, G⟩ := kn.x; He.glo_ok X G (kn.s.fact 47 (f := .glo ("_law_thrown" : Str)) rfl)
theorem Kn.glo__law_caught (kn : Kn K mg) : mg ("_law_caught" : Str) = some (.ref (He.ga K ("_law_caught" : Str))) := let ⟨_, X, G⟩ := kn.x; He.glo_ok X G (kn.s.fact 48 (f := .glo ("_law_caught" : Str)) rfl)
theorem Kn.glo__law_raised_right (kn : Kn K mg) : mg ("_law_raised_right" : Str) = some (.ref (He.ga K ("_law_raised_right" : Str))) := let ⟨_, X, G⟩ := kn.x; He.glo_ok X G (kn.s.fact 49 (f := .glo ("_law_raised_right" : Str)) rfl)
theorem Kn.glo__law_values_right (kn : Kn K mg) : mg ("_law_values_right" : Str) = some (.ref (He.ga K ("_law_values_right" : Str))) := let ⟨_, X, G⟩ := kn.x; He.glo_ok X G (kn.s.fact 50 (f := .glo ("_law_values_right" : Str)) rfl)
theorem Kn.glo__law_states_right (kn : Kn K mg) : mg ("_law_states_right" : Str) = some (.ref (He.ga K ("_law_states_right" : Str))) := let ⟨_, X, G⟩ := kn.x; He.glo_ok X G (kn.s.fact 51 (f := .glo ("_law_states_right" : Str)) rfl)
theorem Kn.glo__law_limits_right (kn : Kn K mg) : mg ("_law_limits_right" : Str) = some (.ref (He.ga K ("_law_limits_right" : Str))) := let ⟨_, X, G⟩ := kn.x; He.glo_ok X G (kn.s.fact 52 (f := .glo ("_law_limits_right" : Str)) rfl)
theorem Kn.glo__law_sorts (kn : Kn K mg) : mg ("_law_sorts" : Str) = some (.ref (He.ga K ("_law_sorts" : Str))) := let ⟨_, X, G⟩ := kn.x; He.glo_ok X G (kn.s.fact 53 (f := .glo ("_law_sorts" : Str)) rfl)
theorem Kn.glo__law_stands (kn : Kn K mg) : mg ("_law_stands" : Str) = some (.ref (He.ga K ("_law_stands" : Str))) := let ⟨_, X, G⟩ := kn.x; He.glo_ok X G (kn.s.fact 54 (f := .glo ("_law_stands" : Str)) rfl)
theorem Kn.glo__law_apart_right (kn : Kn K mg) : mg ("_law_apart_right" : Str) = some (.ref (He.ga K ("_law_apart_right" : Str))) := let ⟨_, X, G⟩ := kn.x; He.glo_ok X G (kn.s.fact 55 (f := .glo ("_law_apart_right" : Str)) rfl)
theorem Kn.glo__law_right (kn : Kn K mg) : mg ("_law_right" : Str) = some (.ref (He.ga K ("_law_right" : Str))) := let ⟨_, X, G⟩ := kn.x; He.glo_ok X G (kn.s.fact 56 (f := .glo ("_law_right" : Str)) rfl)
theorem Kn.glo_law (kn : Kn K mg) : mg ("law" : Str) = some (.ref (He.ga K ("law" : Str))) := let ⟨_, X, G⟩ := kn.x; He.glo_ok X G (kn.s.fact 57 (f := .glo ("law" : Str)) rfl)
theorem Kn.free_ArithmeticError (kn : Kn K mg) : mg ("ArithmeticError" : Str) = none := let ⟨_, X, G⟩ := kn.x; He.free_ok X G (kn.s.fact 58 (f := .free ("ArithmeticError" : Str)) rfl)
theorem Kn.free_LookupError (kn : Kn K mg) : mg ("LookupError" : Str) = none := let ⟨_, X, G⟩ := kn.x; He.free_ok X G (kn.s.fact 59 (f := .free ("LookupError" : Str)) rfl)
theorem Kn.free_RuntimeError (kn : Kn K mg) : mg ("RuntimeError" : Str) = none := let ⟨_, X, G⟩ := kn.x; He.free_ok X G (kn.s.fact 60 (f := .free ("RuntimeError" : Str)) rfl)
theorem Kn.free_ValueError (kn : Kn K mg) : mg ("ValueError" : Str) = none := let ⟨_, X, G⟩ := kn.x; He.free_ok X G (kn.s.fact 61 (f := .free ("ValueError" : Str)) rfl)
theorem Kn.free_abs (kn : Kn K mg) : mg ("abs" : Str) = none := let ⟨_, X, G⟩ := kn.x; He.free_ok X G (kn.s.fact 62 (f := .free ("abs" : Str)) rfl)
theorem Kn.free_all (kn : Kn K mg) : mg ("all" : Str) = none := let ⟨_, X, G⟩ := kn.x; He.free_ok X G (kn.s.fact 63 (f := .free ("all" : Str)) rfl)
theorem Kn.free_any (kn : Kn K mg) : mg ("any" : Str) = none := let ⟨_, X, G⟩ := kn.x; He.free_ok X G (kn.s.fact 64 (f := .free ("any" : Str)) rfl)
theorem Kn.free_divmod (kn : Kn K mg) : mg ("divmod" : Str) = none := let ⟨_, X, G⟩ := kn.x; He.free_ok X G (kn.s.fact 65 (f := .free ("divmod" : Str)) rfl)
theorem Kn.free_enumerate (kn : Kn K mg) : mg ("enumerate" : Str) = none := let ⟨_, X, G⟩ := kn.x; He.free_ok X G (kn.s.fact 66 (f := .free ("enumerate" : Str)) rfl)
theorem Kn.free_int (kn : Kn K mg) : mg ("int" : Str) = none := let ⟨_, X, G⟩ := kn.x; He.free_ok X G (kn.s.fact 67 (f := .free ("int" : Str)) rfl)
theorem Kn.free_isinstance (kn : Kn K mg) : mg ("isinstance" : Str) = none := let ⟨_, X, G⟩ := kn.x; He.free_ok X G (kn.s.fact 68 (f := .free ("isinstance" : Str)) rfl)
theorem Kn.free_len (kn : Kn K mg) : mg ("len" : Str) = none := let ⟨_, X, G⟩ := kn.x; He.free_ok X G (kn.s.fact 69 (f := .free ("len" : Str)) rfl)
theorem Kn.free_max (kn : Kn K mg) : mg ("max" : Str) = none := let ⟨_, X, G⟩ := kn.x; He.free_ok X G (kn.s.fact 70 (f := .free ("max" : Str)) rfl)
theorem Kn.free_min (kn : Kn K mg) : mg ("min" : Str) = none := let ⟨_, X, G⟩ := kn.x; He.free_ok X G (kn.s.fact 71 (f := .free ("min" : Str)) rfl)
theorem Kn.free_range (kn : Kn K mg) : mg ("range" : Str) = none := let ⟨_, X, G⟩ := kn.x; He.free_ok X G (kn.s.fact 72 (f := .free ("range" : Str)) rfl)
theorem Kn.free_repr (kn : Kn K mg) : mg ("repr" : Str) = none := let ⟨_, X, G⟩ := kn.x; He.free_ok X G (kn.s.fact 73 (f := .free ("repr" : Str)) rfl)
theorem Kn.e1 (kn : Kn K mg) : ex1 K = true := (Bool.and_eq_true_iff.mp kn.e).1
theorem Kn.r1 (kn : Kn K mg) : (ex2 K && (ex3 K && (ex4 K && (ex5 K && (ex6 K && ex7 K))))) = true := (Bool.and_eq_true_iff.mp kn.e).2
theorem Kn.e2 (kn : Kn K mg) : ex2 K = true := (Bool.and_eq_true_iff.mp kn.r1).1
theorem Kn.r2 (kn : Kn K mg) : (ex3 K && (ex4 K && (ex5 K && (ex6 K && (ex7 K))))) = true := (Bool.and_eq_true_iff.mp kn.r1).2
theorem Kn.e3 (kn : Kn K mg) : ex3 K = true := (Bool.and_eq_true_iff.mp kn.r2).1
theorem Kn.r3 (kn : Kn K mg) : (ex4 K && (ex5 K && (ex6 K && (ex7 K)))) = true := (Bool.and_eq_true_iff.mp kn.r2).2
theorem Kn.e4 (kn : Kn K mg) : ex4 K = true := (Bool.and_eq_true_iff.mp kn.r3).1
theorem Kn.r4 (kn : Kn K mg) : (ex5 K && (ex6 K && (ex7 K))) = true := (Bool.and_eq_true_iff.mp kn.r3).2
theorem Kn.e5 (kn : Kn K mg) : ex5 K = true := (Bool.and_eq_true_iff.mp kn.r4).1
theorem Kn.r5 (kn : Kn K mg) : (ex6 K && (ex7 K)) = true := (Bool.and_eq_true_iff.mp kn.r4).2
theorem Kn.e6 (kn : Kn K mg) : ex6 K = true := (Bool.and_eq_true_iff.mp kn.r5).1
theorem Kn.e7 (kn : Kn K mg) : ex7 K = true := (Bool.and_eq_true_iff.mp kn.r5).2
theorem Kn.xc_StairError (kn : Kn K mg) : XCls "ValueError" "ValueError.__new__" "ValueError.__init__" tl_ValueError K (He.ga K ("StairError" : Str)) := xB_ok xb_VE ((Bool.and_eq_true_iff.mp kn.e1).1)
theorem Kn.xc_InvalidSteps (kn : Kn K mg) : XCls "ValueError" "ValueError.__new__" "ValueError.__init__" tl_ValueError K (He.ga K ("InvalidSteps" : Str)) := xB_ok xb_VE ((Bool.and_eq_true_iff.mp (Bool.and_eq_true_iff.mp kn.e1).2).1)
theorem Kn.xc_InvalidJumps (kn : Kn K mg) : XCls "ValueError" "ValueError.__new__" "ValueError.__init__" tl_ValueError K (He.ga K ("InvalidJumps" : Str)) := xB_ok xb_VE ((Bool.and_eq_true_iff.mp (Bool.and_eq_true_iff.mp (Bool.and_eq_true_iff.mp kn.e1).2).2).1)
theorem Kn.xc_InvalidJump (kn : Kn K mg) : XCls "ValueError" "ValueError.__new__" "ValueError.__init__" tl_ValueError K (He.ga K ("InvalidJump" : Str)) := xB_ok xb_VE ((Bool.and_eq_true_iff.mp (Bool.and_eq_true_iff.mp (Bool.and_eq_true_iff.mp (Bool.and_eq_true_iff.mp kn.e1).2).2).2).1)
theorem Kn.xc_InvalidLengths (kn : Kn K mg) : XCls "ValueError" "ValueError.__new__" "ValueError.__init__" tl_ValueError K (He.ga K ("InvalidLengths" : Str)) := xB_ok xb_VE ((Bool.and_eq_true_iff.mp (Bool.and_eq_true_iff.mp (Bool.and_eq_true_iff.mp (Bool.and_eq_true_iff.mp (Bool.and_eq_true_iff.mp kn.e1).2).2).2).2).1)
theorem Kn.xc_InvalidWay (kn : Kn K mg) : XCls "ValueError" "ValueError.__new__" "ValueError.__init__" tl_ValueError K (He.ga K ("InvalidWay" : Str)) := xB_ok xb_VE ((Bool.and_eq_true_iff.mp (Bool.and_eq_true_iff.mp (Bool.and_eq_true_iff.mp (Bool.and_eq_true_iff.mp (Bool.and_eq_true_iff.mp (Bool.and_eq_true_iff.mp kn.e1).2).2).2).2).2).1)
theorem Kn.xc_InvalidThing (kn : Kn K mg) : XCls "ValueError" "ValueError.__new__" "ValueError.__init__" tl_ValueError K (He.ga K ("InvalidThing" : Str)) := xB_ok xb_VE ((Bool.and_eq_true_iff.mp (Bool.and_eq_true_iff.mp (Bool.and_eq_true_iff.mp (Bool.and_eq_true_iff.mp (Bool.and_eq_true_iff.mp (Bool.and_eq_true_iff.mp (Bool.and_eq_true_iff.mp kn.e1).2).2).2).2).2).2).1)
theorem Kn.xc_InvalidScore (kn : Kn K mg) : XCls "ValueError" "ValueError.__new__" "ValueError.__init__" tl_ValueError K (He.ga K ("InvalidScore" : Str)) := xB_ok xb_VE ((Bool.and_eq_true_iff.mp (Bool.and_eq_true_iff.mp (Bool.and_eq_true_iff.mp (Bool.and_eq_true_iff.mp (Bool.and_eq_true_iff.mp (Bool.and_eq_true_iff.mp (Bool.and_eq_true_iff.mp (Bool.and_eq_true_iff.mp kn.e1).2).2).2).2).2).2).2).1)
theorem Kn.xc_InvalidWays (kn : Kn K mg) : XCls "ValueError" "ValueError.__new__" "ValueError.__init__" tl_ValueError K (He.ga K ("InvalidWays" : Str)) := xB_ok xb_VE ((Bool.and_eq_true_iff.mp (Bool.and_eq_true_iff.mp (Bool.and_eq_true_iff.mp (Bool.and_eq_true_iff.mp (Bool.and_eq_true_iff.mp (Bool.and_eq_true_iff.mp (Bool.and_eq_true_iff.mp (Bool.and_eq_true_iff.mp (Bool.and_eq_true_iff.mp kn.e1).2).2).2).2).2).2).2).2).1)
theorem Kn.xc_InvalidCount (kn : Kn K mg) : XCls "ValueError" "ValueError.__new__" "ValueError.__init__" tl_ValueError K (He.ga K ("InvalidCount" : Str)) := xB_ok xb_VE ((Bool.and_eq_true_iff.mp (Bool.and_eq_true_iff.mp (Bool.and_eq_true_iff.mp (Bool.and_eq_true_iff.mp (Bool.and_eq_true_iff.mp (Bool.and_eq_true_iff.mp (Bool.and_eq_true_iff.mp (Bool.and_eq_true_iff.mp (Bool.and_eq_true_iff.mp (Bool.and_eq_true_iff.mp kn.e1).2).2).2).2).2).2).2).2).2).1)
theorem Kn.xc_InvalidFlow (kn : Kn K mg) : XCls "ValueError" "ValueError.__new__" "ValueError.__init__" tl_ValueError K (He.ga K ("InvalidFlow" : Str)) := xB_ok xb_VE ((Bool.and_eq_true_iff.mp (Bool.and_eq_true_iff.mp (Bool.and_eq_true_iff.mp (Bool.and_eq_true_iff.mp (Bool.and_eq_true_iff.mp (Bool.and_eq_true_iff.mp (Bool.and_eq_true_iff.mp (Bool.and_eq_true_iff.mp (Bool.and_eq_true_iff.mp (Bool.and_eq_true_iff.mp (Bool.and_eq_true_iff.mp kn.e1).2).2).2).2).2).2).2).2).2).2).1)
theorem Kn.xc_InvalidRun (kn : Kn K mg) : XCls "ValueError" "ValueError.__new__" "ValueError.__init__" tl_ValueError K (He.ga K ("InvalidRun" : Str)) := xB_ok xb_VE ((Bool.and_eq_true_iff.mp (Bool.and_eq_true_iff.mp (Bool.and_eq_true_iff.mp (Bool.and_eq_true_iff.mp (Bool.and_eq_true_iff.mp (Bool.and_eq_true_iff.mp (Bool.and_eq_true_iff.mp (Bool.and_eq_true_iff.mp (Bool.and_eq_true_iff.mp (Bool.and_eq_true_iff.mp (Bool.and_eq_true_iff.mp (Bool.and_eq_true_iff.mp kn.e1).2).2).2).2).2).2).2).2).2).2).2).1)
theorem Kn.xc_InvalidMark (kn : Kn K mg) : XCls "ValueError" "ValueError.__new__" "ValueError.__init__" tl_ValueError K (He.ga K ("InvalidMark" : Str)) := xB_ok xb_VE ((Bool.and_eq_true_iff.mp (Bool.and_eq_true_iff.mp (Bool.and_eq_true_iff.mp (Bool.and_eq_true_iff.mp (Bool.and_eq_true_iff.mp (Bool.and_eq_true_iff.mp (Bool.and_eq_true_iff.mp (Bool.and_eq_true_iff.mp (Bool.and_eq_true_iff.mp (Bool.and_eq_true_iff.mp (Bool.and_eq_true_iff.mp (Bool.and_eq_true_iff.mp (Bool.and_eq_true_iff.mp kn.e1).2).2).2).2).2).2).2).2).2).2).2).2).1)
theorem Kn.xc_InvalidMarks (kn : Kn K mg) : XCls "ValueError" "ValueError.__new__" "ValueError.__init__" tl_ValueError K (He.ga K ("InvalidMarks" : Str)) := xB_ok xb_VE ((Bool.and_eq_true_iff.mp (Bool.and_eq_true_iff.mp (Bool.and_eq_true_iff.mp (Bool.and_eq_true_iff.mp (Bool.and_eq_true_iff.mp (Bool.and_eq_true_iff.mp (Bool.and_eq_true_iff.mp (Bool.and_eq_true_iff.mp (Bool.and_eq_true_iff.mp (Bool.and_eq_true_iff.mp (Bool.and_eq_true_iff.mp (Bool.and_eq_true_iff.mp (Bool.and_eq_true_iff.mp (Bool.and_eq_true_iff.mp kn.e1).2).2).2).2).2).2).2).2).2).2).2).2).2).1)
theorem Kn.xc_InvalidPrices (kn : Kn K mg) : XCls "ValueError" "ValueError.__new__" "ValueError.__init__" tl_ValueError K (He.ga K ("InvalidPrices" : Str)) := xB_ok xb_VE ((Bool.and_eq_true_iff.mp (Bool.and_eq_true_iff.mp (Bool.and_eq_true_iff.mp (Bool.and_eq_true_iff.mp (Bool.and_eq_true_iff.mp (Bool.and_eq_true_iff.mp (Bool.and_eq_true_iff.mp (Bool.and_eq_true_iff.mp (Bool.and_eq_true_iff.mp (Bool.and_eq_true_iff.mp (Bool.and_eq_true_iff.mp (Bool.and_eq_true_iff.mp (Bool.and_eq_true_iff.mp (Bool.and_eq_true_iff.mp (Bool.and_eq_true_iff.mp kn.e1).2).2).2).2).2).2).2).2).2).2).2).2).2).2).1)
theorem Kn.xc_InvalidBounds (kn : Kn K mg) : XCls "ValueError" "ValueError.__new__" "ValueError.__init__" tl_ValueError K (He.ga K ("InvalidBounds" : Str)) := xB_ok xb_VE ((Bool.and_eq_true_iff.mp (Bool.and_eq_true_iff.mp (Bool.and_eq_true_iff.mp (Bool.and_eq_true_iff.mp (Bool.and_eq_true_iff.mp (Bool.and_eq_true_iff.mp (Bool.and_eq_true_iff.mp (Bool.and_eq_true_iff.mp (Bool.and_eq_true_iff.mp (Bool.and_eq_true_iff.mp (Bool.and_eq_true_iff.mp (Bool.and_eq_true_iff.mp (Bool.and_eq_true_iff.mp (Bool.and_eq_true_iff.mp (Bool.and_eq_true_iff.mp (Bool.and_eq_true_iff.mp kn.e1).2).2).2).2).2).2).2).2).2).2).2).2).2).2).2).1)
theorem Kn.xc_InvalidMoves (kn : Kn K mg) : XCls "ValueError" "ValueError.__new__" "ValueError.__init__" tl_ValueError K (He.ga K ("InvalidMoves" : Str)) := xB_ok xb_VE ((Bool.and_eq_true_iff.mp (Bool.and_eq_true_iff.mp (Bool.and_eq_true_iff.mp (Bool.and_eq_true_iff.mp (Bool.and_eq_true_iff.mp (Bool.and_eq_true_iff.mp (Bool.and_eq_true_iff.mp (Bool.and_eq_true_iff.mp (Bool.and_eq_true_iff.mp (Bool.and_eq_true_iff.mp (Bool.and_eq_true_iff.mp (Bool.and_eq_true_iff.mp (Bool.and_eq_true_iff.mp (Bool.and_eq_true_iff.mp (Bool.and_eq_true_iff.mp (Bool.and_eq_true_iff.mp (Bool.and_eq_true_iff.mp kn.e1).2).2).2).2).2).2).2).2).2).2).2).2).2).2).2).2).1)
theorem Kn.xc_InvalidEnds (kn : Kn K mg) : XCls "ValueError" "ValueError.__new__" "ValueError.__init__" tl_ValueError K (He.ga K ("InvalidEnds" : Str)) := xB_ok xb_VE ((Bool.and_eq_true_iff.mp (Bool.and_eq_true_iff.mp (Bool.and_eq_true_iff.mp (Bool.and_eq_true_iff.mp (Bool.and_eq_true_iff.mp (Bool.and_eq_true_iff.mp (Bool.and_eq_true_iff.mp (Bool.and_eq_true_iff.mp (Bool.and_eq_true_iff.mp (Bool.and_eq_true_iff.mp (Bool.and_eq_true_iff.mp (Bool.and_eq_true_iff.mp (Bool.and_eq_true_iff.mp (Bool.and_eq_true_iff.mp (Bool.and_eq_true_iff.mp (Bool.and_eq_true_iff.mp (Bool.and_eq_true_iff.mp (Bool.and_eq_true_iff.mp kn.e1).2).2).2).2).2).2).2).2).2).2).2).2).2).2).2).2).2).1)
theorem Kn.xc_InvalidHabits (kn : Kn K mg) : XCls "ValueError" "ValueError.__new__" "ValueError.__init__" tl_ValueError K (He.ga K ("InvalidHabits" : Str)) := xB_ok xb_VE ((Bool.and_eq_true_iff.mp (Bool.and_eq_true_iff.mp (Bool.and_eq_true_iff.mp (Bool.and_eq_true_iff.mp (Bool.and_eq_true_iff.mp (Bool.and_eq_true_iff.mp (Bool.and_eq_true_iff.mp (Bool.and_eq_true_iff.mp (Bool.and_eq_true_iff.mp (Bool.and_eq_true_iff.mp (Bool.and_eq_true_iff.mp (Bool.and_eq_true_iff.mp (Bool.and_eq_true_iff.mp (Bool.and_eq_true_iff.mp (Bool.and_eq_true_iff.mp (Bool.and_eq_true_iff.mp (Bool.and_eq_true_iff.mp (Bool.and_eq_true_iff.mp (Bool.and_eq_true_iff.mp kn.e1).2).2).2).2).2).2).2).2).2).2).2).2).2).2).2).2).2).2).1)
theorem Kn.xc_InvalidShares (kn : Kn K mg) : XCls "ValueError" "ValueError.__new__" "ValueError.__init__" tl_ValueError K (He.ga K ("InvalidShares" : Str)) := xB_ok xb_VE ((Bool.and_eq_true_iff.mp (Bool.and_eq_true_iff.mp (Bool.and_eq_true_iff.mp (Bool.and_eq_true_iff.mp (Bool.and_eq_true_iff.mp (Bool.and_eq_true_iff.mp (Bool.and_eq_true_iff.mp (Bool.and_eq_true_iff.mp (Bool.and_eq_true_iff.mp (Bool.and_eq_true_iff.mp (Bool.and_eq_true_iff.mp (Bool.and_eq_true_iff.mp (Bool.and_eq_true_iff.mp (Bool.and_eq_true_iff.mp (Bool.and_eq_true_iff.mp (Bool.and_eq_true_iff.mp (Bool.and_eq_true_iff.mp (Bool.and_eq_true_iff.mp (Bool.and_eq_true_iff.mp (Bool.and_eq_true_iff.mp kn.e1).2).2).2).2).2).2).2).2).2).2).2).2).2).2).2).2).2).2).2).1)
theorem Kn.xc_InvalidText (kn : Kn K mg) : XCls "ValueError" "ValueError.__new__" "ValueError.__init__" tl_ValueError K (He.ga K ("InvalidText" : Str)) := xB_ok xb_VE ((Bool.and_eq_true_iff.mp (Bool.and_eq_true_iff.mp (Bool.and_eq_true_iff.mp (Bool.and_eq_true_iff.mp (Bool.and_eq_true_iff.mp (Bool.and_eq_true_iff.mp (Bool.and_eq_true_iff.mp (Bool.and_eq_true_iff.mp (Bool.and_eq_true_iff.mp (Bool.and_eq_true_iff.mp (Bool.and_eq_true_iff.mp (Bool.and_eq_true_iff.mp (Bool.and_eq_true_iff.mp (Bool.and_eq_true_iff.mp (Bool.and_eq_true_iff.mp (Bool.and_eq_true_iff.mp (Bool.and_eq_true_iff.mp (Bool.and_eq_true_iff.mp (Bool.and_eq_true_iff.mp (Bool.and_eq_true_iff.mp (Bool.and_eq_true_iff.mp kn.e1).2).2).2).2).2).2).2).2).2).2).2).2).2).2).2).2).2).2).2).2).1)
theorem Kn.xc_InvalidClaim (kn : Kn K mg) : XCls "ValueError" "ValueError.__new__" "ValueError.__init__" tl_ValueError K (He.ga K ("InvalidClaim" : Str)) := xB_ok xb_VE ((Bool.and_eq_true_iff.mp (Bool.and_eq_true_iff.mp (Bool.and_eq_true_iff.mp (Bool.and_eq_true_iff.mp (Bool.and_eq_true_iff.mp (Bool.and_eq_true_iff.mp (Bool.and_eq_true_iff.mp (Bool.and_eq_true_iff.mp (Bool.and_eq_true_iff.mp (Bool.and_eq_true_iff.mp (Bool.and_eq_true_iff.mp (Bool.and_eq_true_iff.mp (Bool.and_eq_true_iff.mp (Bool.and_eq_true_iff.mp (Bool.and_eq_true_iff.mp (Bool.and_eq_true_iff.mp (Bool.and_eq_true_iff.mp (Bool.and_eq_true_iff.mp (Bool.and_eq_true_iff.mp (Bool.and_eq_true_iff.mp (Bool.and_eq_true_iff.mp (Bool.and_eq_true_iff.mp kn.e1).2).2).2).2).2).2).2).2).2).2).2).2).2).2).2).2).2).2).2).2).2).1)
theorem Kn.xc_InvalidCommand (kn : Kn K mg) : XCls "ValueError" "ValueError.__new__" "ValueError.__init__" tl_ValueError K (He.ga K ("InvalidCommand" : Str)) := xB_ok xb_VE ((Bool.and_eq_true_iff.mp (Bool.and_eq_true_iff.mp (Bool.and_eq_true_iff.mp (Bool.and_eq_true_iff.mp (Bool.and_eq_true_iff.mp (Bool.and_eq_true_iff.mp (Bool.and_eq_true_iff.mp (Bool.and_eq_true_iff.mp (Bool.and_eq_true_iff.mp (Bool.and_eq_true_iff.mp (Bool.and_eq_true_iff.mp (Bool.and_eq_true_iff.mp (Bool.and_eq_true_iff.mp (Bool.and_eq_true_iff.mp (Bool.and_eq_true_iff.mp (Bool.and_eq_true_iff.mp (Bool.and_eq_true_iff.mp (Bool.and_eq_true_iff.mp (Bool.and_eq_true_iff.mp (Bool.and_eq_true_iff.mp (Bool.and_eq_true_iff.mp (Bool.and_eq_true_iff.mp (Bool.and_eq_true_iff.mp kn.e1).2).2).2).2).2).2).2).2).2).2).2).2).2).2).2).2).2).2).2).2).2).2).1)
theorem Kn.xc_MissingError (kn : Kn K mg) : XCls "LookupError" "LookupError.__new__" "LookupError.__init__" tl_LookupError K (He.ga K ("MissingError" : Str)) := xB_ok xb_LE ((Bool.and_eq_true_iff.mp (Bool.and_eq_true_iff.mp (Bool.and_eq_true_iff.mp (Bool.and_eq_true_iff.mp (Bool.and_eq_true_iff.mp (Bool.and_eq_true_iff.mp (Bool.and_eq_true_iff.mp (Bool.and_eq_true_iff.mp (Bool.and_eq_true_iff.mp (Bool.and_eq_true_iff.mp (Bool.and_eq_true_iff.mp (Bool.and_eq_true_iff.mp (Bool.and_eq_true_iff.mp (Bool.and_eq_true_iff.mp (Bool.and_eq_true_iff.mp (Bool.and_eq_true_iff.mp (Bool.and_eq_true_iff.mp (Bool.and_eq_true_iff.mp (Bool.and_eq_true_iff.mp (Bool.and_eq_true_iff.mp (Bool.and_eq_true_iff.mp (Bool.and_eq_true_iff.mp (Bool.and_eq_true_iff.mp (Bool.and_eq_true_iff.mp kn.e1).2).2).2).2).2).2).2).2).2).2).2).2).2).2).2).2).2).2).2).2).2).2).2).1)
theorem Kn.xc_UnknownWay (kn : Kn K mg) : XCls "LookupError" "LookupError.__new__" "LookupError.__init__" tl_LookupError K (He.ga K ("UnknownWay" : Str)) := xB_ok xb_LE ((Bool.and_eq_true_iff.mp (Bool.and_eq_true_iff.mp (Bool.and_eq_true_iff.mp (Bool.and_eq_true_iff.mp (Bool.and_eq_true_iff.mp (Bool.and_eq_true_iff.mp (Bool.and_eq_true_iff.mp (Bool.and_eq_true_iff.mp (Bool.and_eq_true_iff.mp (Bool.and_eq_true_iff.mp (Bool.and_eq_true_iff.mp (Bool.and_eq_true_iff.mp (Bool.and_eq_true_iff.mp (Bool.and_eq_true_iff.mp (Bool.and_eq_true_iff.mp (Bool.and_eq_true_iff.mp (Bool.and_eq_true_iff.mp (Bool.and_eq_true_iff.mp (Bool.and_eq_true_iff.mp (Bool.and_eq_true_iff.mp (Bool.and_eq_true_iff.mp (Bool.and_eq_true_iff.mp (Bool.and_eq_true_iff.mp (Bool.and_eq_true_iff.mp (Bool.and_eq_true_iff.mp kn.e1).2).2).2).2).2).2).2).2).2).2).2).2).2).2).2).2).2).2).2).2).2).2).2).2).1)
theorem Kn.xc_NoSuch (kn : Kn K mg) : XCls "LookupError" "LookupError.__new__" "LookupError.__init__" tl_LookupError K (He.ga K ("NoSuch" : Str)) := xB_ok xb_LE ((Bool.and_eq_true_iff.mp (Bool.and_eq_true_iff.mp (Bool.and_eq_true_iff.mp (Bool.and_eq_true_iff.mp (Bool.and_eq_true_iff.mp (Bool.and_eq_true_iff.mp (Bool.and_eq_true_iff.mp (Bool.and_eq_true_iff.mp (Bool.and_eq_true_iff.mp (Bool.and_eq_true_iff.mp (Bool.and_eq_true_iff.mp (Bool.and_eq_true_iff.mp (Bool.and_eq_true_iff.mp (Bool.and_eq_true_iff.mp (Bool.and_eq_true_iff.mp (Bool.and_eq_true_iff.mp (Bool.and_eq_true_iff.mp (Bool.and_eq_true_iff.mp (Bool.and_eq_true_iff.mp (Bool.and_eq_true_iff.mp (Bool.and_eq_true_iff.mp (Bool.and_eq_true_iff.mp (Bool.and_eq_true_iff.mp (Bool.and_eq_true_iff.mp (Bool.and_eq_true_iff.mp (Bool.and_eq_true_iff.mp kn.e1).2).2).2).2).2).2).2).2).2).2).2).2).2).2).2).2).2).2).2).2).2).2).2).2).2).1)
theorem Kn.xc_StateError (kn : Kn K mg) : XCls "RuntimeError" "RuntimeError.__new__" "RuntimeError.__init__" tl_RuntimeError K (He.ga K ("StateError" : Str)) := xB_ok xb_RE ((Bool.and_eq_true_iff.mp (Bool.and_eq_true_iff.mp (Bool.and_eq_true_iff.mp (Bool.and_eq_true_iff.mp (Bool.and_eq_true_iff.mp (Bool.and_eq_true_iff.mp (Bool.and_eq_true_iff.mp (Bool.and_eq_true_iff.mp (Bool.and_eq_true_iff.mp (Bool.and_eq_true_iff.mp (Bool.and_eq_true_iff.mp (Bool.and_eq_true_iff.mp (Bool.and_eq_true_iff.mp (Bool.and_eq_true_iff.mp (Bool.and_eq_true_iff.mp (Bool.and_eq_true_iff.mp (Bool.and_eq_true_iff.mp (Bool.and_eq_true_iff.mp (Bool.and_eq_true_iff.mp (Bool.and_eq_true_iff.mp (Bool.and_eq_true_iff.mp (Bool.and_eq_true_iff.mp (Bool.and_eq_true_iff.mp (Bool.and_eq_true_iff.mp (Bool.and_eq_true_iff.mp (Bool.and_eq_true_iff.mp (Bool.and_eq_true_iff.mp kn.e1).2).2).2).2).2).2).2).2).2).2).2).2).2).2).2).2).2).2).2).2).2).2).2).2).2).2).1)
theorem Kn.xc_OtherSteps (kn : Kn K mg) : XCls "RuntimeError" "RuntimeError.__new__" "RuntimeError.__init__" tl_RuntimeError K (He.ga K ("OtherSteps" : Str)) := xB_ok xb_RE ((Bool.and_eq_true_iff.mp (Bool.and_eq_true_iff.mp (Bool.and_eq_true_iff.mp (Bool.and_eq_true_iff.mp (Bool.and_eq_true_iff.mp (Bool.and_eq_true_iff.mp (Bool.and_eq_true_iff.mp (Bool.and_eq_true_iff.mp (Bool.and_eq_true_iff.mp (Bool.and_eq_true_iff.mp (Bool.and_eq_true_iff.mp (Bool.and_eq_true_iff.mp (Bool.and_eq_true_iff.mp (Bool.and_eq_true_iff.mp (Bool.and_eq_true_iff.mp (Bool.and_eq_true_iff.mp (Bool.and_eq_true_iff.mp (Bool.and_eq_true_iff.mp (Bool.and_eq_true_iff.mp (Bool.and_eq_true_iff.mp (Bool.and_eq_true_iff.mp (Bool.and_eq_true_iff.mp (Bool.and_eq_true_iff.mp (Bool.and_eq_true_iff.mp (Bool.and_eq_true_iff.mp (Bool.and_eq_true_iff.mp (Bool.and_eq_true_iff.mp (Bool.and_eq_true_iff.mp kn.e1).2).2).2).2).2).2).2).2).2).2).2).2).2).2).2).2).2).2).2).2).2).2).2).2).2).2).2).1)
theorem Kn.xc_OtherStair (kn : Kn K mg) : XCls "RuntimeError" "RuntimeError.__new__" "RuntimeError.__init__" tl_RuntimeError K (He.ga K ("OtherStair" : Str)) := xB_ok xb_RE ((Bool.and_eq_true_iff.mp (Bool.and_eq_true_iff.mp (Bool.and_eq_true_iff.mp (Bool.and_eq_true_iff.mp (Bool.and_eq_true_iff.mp (Bool.and_eq_true_iff.mp (Bool.and_eq_true_iff.mp (Bool.and_eq_true_iff.mp (Bool.and_eq_true_iff.mp (Bool.and_eq_true_iff.mp (Bool.and_eq_true_iff.mp (Bool.and_eq_true_iff.mp (Bool.and_eq_true_iff.mp (Bool.and_eq_true_iff.mp (Bool.and_eq_true_iff.mp (Bool.and_eq_true_iff.mp (Bool.and_eq_true_iff.mp (Bool.and_eq_true_iff.mp (Bool.and_eq_true_iff.mp (Bool.and_eq_true_iff.mp (Bool.and_eq_true_iff.mp (Bool.and_eq_true_iff.mp (Bool.and_eq_true_iff.mp (Bool.and_eq_true_iff.mp (Bool.and_eq_true_iff.mp (Bool.and_eq_true_iff.mp (Bool.and_eq_true_iff.mp (Bool.and_eq_true_iff.mp (Bool.and_eq_true_iff.mp kn.e1).2).2).2).2).2).2).2).2).2).2).2).2).2).2).2).2).2).2).2).2).2).2).2).2).2).2).2).2).1)
theorem Kn.xc_NotTogether (kn : Kn K mg) : XCls "RuntimeError" "RuntimeError.__new__" "RuntimeError.__init__" tl_RuntimeError K (He.ga K ("NotTogether" : Str)) := xB_ok xb_RE ((Bool.and_eq_true_iff.mp (Bool.and_eq_true_iff.mp (Bool.and_eq_true_iff.mp (Bool.and_eq_true_iff.mp (Bool.and_eq_true_iff.mp (Bool.and_eq_true_iff.mp (Bool.and_eq_true_iff.mp (Bool.and_eq_true_iff.mp (Bool.and_eq_true_iff.mp (Bool.and_eq_true_iff.mp (Bool.and_eq_true_iff.mp (Bool.and_eq_true_iff.mp (Bool.and_eq_true_iff.mp (Bool.and_eq_true_iff.mp (Bool.and_eq_true_iff.mp (Bool.and_eq_true_iff.mp (Bool.and_eq_true_iff.mp (Bool.and_eq_true_iff.mp (Bool.and_eq_true_iff.mp (Bool.and_eq_true_iff.mp (Bool.and_eq_true_iff.mp (Bool.and_eq_true_iff.mp (Bool.and_eq_true_iff.mp (Bool.and_eq_true_iff.mp (Bool.and_eq_true_iff.mp (Bool.and_eq_true_iff.mp (Bool.and_eq_true_iff.mp (Bool.and_eq_true_iff.mp (Bool.and_eq_true_iff.mp (Bool.and_eq_true_iff.mp kn.e1).2).2).2).2).2).2).2).2).2).2).2).2).2).2).2).2).2).2).2).2).2).2).2).2).2).2).2).2).2).1)
theorem Kn.xc_NothingFits (kn : Kn K mg) : XCls "RuntimeError" "RuntimeError.__new__" "RuntimeError.__init__" tl_RuntimeError K (He.ga K ("NothingFits" : Str)) := xB_ok xb_RE ((Bool.and_eq_true_iff.mp (Bool.and_eq_true_iff.mp (Bool.and_eq_true_iff.mp (Bool.and_eq_true_iff.mp (Bool.and_eq_true_iff.mp (Bool.and_eq_true_iff.mp (Bool.and_eq_true_iff.mp (Bool.and_eq_true_iff.mp (Bool.and_eq_true_iff.mp (Bool.and_eq_true_iff.mp (Bool.and_eq_true_iff.mp (Bool.and_eq_true_iff.mp (Bool.and_eq_true_iff.mp (Bool.and_eq_true_iff.mp (Bool.and_eq_true_iff.mp (Bool.and_eq_true_iff.mp (Bool.and_eq_true_iff.mp (Bool.and_eq_true_iff.mp (Bool.and_eq_true_iff.mp (Bool.and_eq_true_iff.mp (Bool.and_eq_true_iff.mp (Bool.and_eq_true_iff.mp (Bool.and_eq_true_iff.mp (Bool.and_eq_true_iff.mp (Bool.and_eq_true_iff.mp (Bool.and_eq_true_iff.mp (Bool.and_eq_true_iff.mp (Bool.and_eq_true_iff.mp (Bool.and_eq_true_iff.mp (Bool.and_eq_true_iff.mp (Bool.and_eq_true_iff.mp kn.e1).2).2).2).2).2).2).2).2).2).2).2).2).2).2).2).2).2).2).2).2).2).2).2).2).2).2).2).2).2).2).1)
theorem Kn.xc_Endless (kn : Kn K mg) : XCls "RuntimeError" "RuntimeError.__new__" "RuntimeError.__init__" tl_RuntimeError K (He.ga K ("Endless" : Str)) := xB_ok xb_RE ((Bool.and_eq_true_iff.mp (Bool.and_eq_true_iff.mp (Bool.and_eq_true_iff.mp (Bool.and_eq_true_iff.mp (Bool.and_eq_true_iff.mp (Bool.and_eq_true_iff.mp (Bool.and_eq_true_iff.mp (Bool.and_eq_true_iff.mp (Bool.and_eq_true_iff.mp (Bool.and_eq_true_iff.mp (Bool.and_eq_true_iff.mp (Bool.and_eq_true_iff.mp (Bool.and_eq_true_iff.mp (Bool.and_eq_true_iff.mp (Bool.and_eq_true_iff.mp (Bool.and_eq_true_iff.mp (Bool.and_eq_true_iff.mp (Bool.and_eq_true_iff.mp (Bool.and_eq_true_iff.mp (Bool.and_eq_true_iff.mp (Bool.and_eq_true_iff.mp (Bool.and_eq_true_iff.mp (Bool.and_eq_true_iff.mp (Bool.and_eq_true_iff.mp (Bool.and_eq_true_iff.mp (Bool.and_eq_true_iff.mp (Bool.and_eq_true_iff.mp (Bool.and_eq_true_iff.mp (Bool.and_eq_true_iff.mp (Bool.and_eq_true_iff.mp (Bool.and_eq_true_iff.mp (Bool.and_eq_true_iff.mp kn.e1).2).2).2).2).2).2).2).2).2).2).2).2).2).2).2).2).2).2).2).2).2).2).2).2).2).2).2).2).2).2).2).1)
theorem Kn.xc_NotBetween (kn : Kn K mg) : XCls "RuntimeError" "RuntimeError.__new__" "RuntimeError.__init__" tl_RuntimeError K (He.ga K ("NotBetween" : Str)) := xB_ok xb_RE ((Bool.and_eq_true_iff.mp (Bool.and_eq_true_iff.mp (Bool.and_eq_true_iff.mp (Bool.and_eq_true_iff.mp (Bool.and_eq_true_iff.mp (Bool.and_eq_true_iff.mp (Bool.and_eq_true_iff.mp (Bool.and_eq_true_iff.mp (Bool.and_eq_true_iff.mp (Bool.and_eq_true_iff.mp (Bool.and_eq_true_iff.mp (Bool.and_eq_true_iff.mp (Bool.and_eq_true_iff.mp (Bool.and_eq_true_iff.mp (Bool.and_eq_true_iff.mp (Bool.and_eq_true_iff.mp (Bool.and_eq_true_iff.mp (Bool.and_eq_true_iff.mp (Bool.and_eq_true_iff.mp (Bool.and_eq_true_iff.mp (Bool.and_eq_true_iff.mp (Bool.and_eq_true_iff.mp (Bool.and_eq_true_iff.mp (Bool.and_eq_true_iff.mp (Bool.and_eq_true_iff.mp (Bool.and_eq_true_iff.mp (Bool.and_eq_true_iff.mp (Bool.and_eq_true_iff.mp (Bool.and_eq_true_iff.mp (Bool.and_eq_true_iff.mp (Bool.and_eq_true_iff.mp (Bool.and_eq_true_iff.mp (Bool.and_eq_true_iff.mp kn.e1).2).2).2).2).2).2).2).2).2).2).2).2).2).2).2).2).2).2).2).2).2).2).2).2).2).2).2).2).2).2).2).2).1)
theorem Kn.xc_Unmeeting (kn : Kn K mg) : XCls "RuntimeError" "RuntimeError.__new__" "RuntimeError.__init__" tl_RuntimeError K (He.ga K ("Unmeeting" : Str)) := xB_ok xb_RE ((Bool.and_eq_true_iff.mp (Bool.and_eq_true_iff.mp (Bool.and_eq_true_iff.mp (Bool.and_eq_true_iff.mp (Bool.and_eq_true_iff.mp (Bool.and_eq_true_iff.mp (Bool.and_eq_true_iff.mp (Bool.and_eq_true_iff.mp (Bool.and_eq_true_iff.mp (Bool.and_eq_true_iff.mp (Bool.and_eq_true_iff.mp (Bool.and_eq_true_iff.mp (Bool.and_eq_true_iff.mp (Bool.and_eq_true_iff.mp (Bool.and_eq_true_iff.mp (Bool.and_eq_true_iff.mp (Bool.and_eq_true_iff.mp (Bool.and_eq_true_iff.mp (Bool.and_eq_true_iff.mp (Bool.and_eq_true_iff.mp (Bool.and_eq_true_iff.mp (Bool.and_eq_true_iff.mp (Bool.and_eq_true_iff.mp (Bool.and_eq_true_iff.mp (Bool.and_eq_true_iff.mp (Bool.and_eq_true_iff.mp (Bool.and_eq_true_iff.mp (Bool.and_eq_true_iff.mp (Bool.and_eq_true_iff.mp (Bool.and_eq_true_iff.mp (Bool.and_eq_true_iff.mp (Bool.and_eq_true_iff.mp (Bool.and_eq_true_iff.mp (Bool.and_eq_true_iff.mp kn.e1).2).2).2).2).2).2).2).2).2).2).2).2).2).2).2).2).2).2).2).2).2).2).2).2).2).2).2).2).2).2).2).2).2).1)
theorem Kn.xc_NothingToUndo (kn : Kn K mg) : XCls "RuntimeError" "RuntimeError.__new__" "RuntimeError.__init__" tl_RuntimeError K (He.ga K ("NothingToUndo" : Str)) := xB_ok xb_RE ((Bool.and_eq_true_iff.mp (Bool.and_eq_true_iff.mp (Bool.and_eq_true_iff.mp (Bool.and_eq_true_iff.mp (Bool.and_eq_true_iff.mp (Bool.and_eq_true_iff.mp (Bool.and_eq_true_iff.mp (Bool.and_eq_true_iff.mp (Bool.and_eq_true_iff.mp (Bool.and_eq_true_iff.mp (Bool.and_eq_true_iff.mp (Bool.and_eq_true_iff.mp (Bool.and_eq_true_iff.mp (Bool.and_eq_true_iff.mp (Bool.and_eq_true_iff.mp (Bool.and_eq_true_iff.mp (Bool.and_eq_true_iff.mp (Bool.and_eq_true_iff.mp (Bool.and_eq_true_iff.mp (Bool.and_eq_true_iff.mp (Bool.and_eq_true_iff.mp (Bool.and_eq_true_iff.mp (Bool.and_eq_true_iff.mp (Bool.and_eq_true_iff.mp (Bool.and_eq_true_iff.mp (Bool.and_eq_true_iff.mp (Bool.and_eq_true_iff.mp (Bool.and_eq_true_iff.mp (Bool.and_eq_true_iff.mp (Bool.and_eq_true_iff.mp (Bool.and_eq_true_iff.mp (Bool.and_eq_true_iff.mp (Bool.and_eq_true_iff.mp (Bool.and_eq_true_iff.mp (Bool.and_eq_true_iff.mp kn.e1).2).2).2).2).2).2).2).2).2).2).2).2).2).2).2).2).2).2).2).2).2).2).2).2).2).2).2).2).2).2).2).2).2).2).1)
theorem Kn.xc_CommandFailed (kn : Kn K mg) : XCls "RuntimeError" "RuntimeError.__new__" "RuntimeError.__init__" tl_RuntimeError K (He.ga K ("CommandFailed" : Str)) := xB_ok xb_RE ((Bool.and_eq_true_iff.mp (Bool.and_eq_true_iff.mp (Bool.and_eq_true_iff.mp (Bool.and_eq_true_iff.mp (Bool.and_eq_true_iff.mp (Bool.and_eq_true_iff.mp (Bool.and_eq_true_iff.mp (Bool.and_eq_true_iff.mp (Bool.and_eq_true_iff.mp (Bool.and_eq_true_iff.mp (Bool.and_eq_true_iff.mp (Bool.and_eq_true_iff.mp (Bool.and_eq_true_iff.mp (Bool.and_eq_true_iff.mp (Bool.and_eq_true_iff.mp (Bool.and_eq_true_iff.mp (Bool.and_eq_true_iff.mp (Bool.and_eq_true_iff.mp (Bool.and_eq_true_iff.mp (Bool.and_eq_true_iff.mp (Bool.and_eq_true_iff.mp (Bool.and_eq_true_iff.mp (Bool.and_eq_true_iff.mp (Bool.and_eq_true_iff.mp (Bool.and_eq_true_iff.mp (Bool.and_eq_true_iff.mp (Bool.and_eq_true_iff.mp (Bool.and_eq_true_iff.mp (Bool.and_eq_true_iff.mp (Bool.and_eq_true_iff.mp (Bool.and_eq_true_iff.mp (Bool.and_eq_true_iff.mp (Bool.and_eq_true_iff.mp (Bool.and_eq_true_iff.mp (Bool.and_eq_true_iff.mp (Bool.and_eq_true_iff.mp kn.e1).2).2).2).2).2).2).2).2).2).2).2).2).2).2).2).2).2).2).2).2).2).2).2).2).2).2).2).2).2).2).2).2).2).2).2).1)
theorem Kn.xc_LimitError (kn : Kn K mg) : XCls "ArithmeticError" "ArithmeticError.__new__" "ArithmeticError.__init__" tl_ArithmeticError K (He.ga K ("LimitError" : Str)) := xB_ok xb_AE ((Bool.and_eq_true_iff.mp (Bool.and_eq_true_iff.mp (Bool.and_eq_true_iff.mp (Bool.and_eq_true_iff.mp (Bool.and_eq_true_iff.mp (Bool.and_eq_true_iff.mp (Bool.and_eq_true_iff.mp (Bool.and_eq_true_iff.mp (Bool.and_eq_true_iff.mp (Bool.and_eq_true_iff.mp (Bool.and_eq_true_iff.mp (Bool.and_eq_true_iff.mp (Bool.and_eq_true_iff.mp (Bool.and_eq_true_iff.mp (Bool.and_eq_true_iff.mp (Bool.and_eq_true_iff.mp (Bool.and_eq_true_iff.mp (Bool.and_eq_true_iff.mp (Bool.and_eq_true_iff.mp (Bool.and_eq_true_iff.mp (Bool.and_eq_true_iff.mp (Bool.and_eq_true_iff.mp (Bool.and_eq_true_iff.mp (Bool.and_eq_true_iff.mp (Bool.and_eq_true_iff.mp (Bool.and_eq_true_iff.mp (Bool.and_eq_true_iff.mp (Bool.and_eq_true_iff.mp (Bool.and_eq_true_iff.mp (Bool.and_eq_true_iff.mp (Bool.and_eq_true_iff.mp (Bool.and_eq_true_iff.mp (Bool.and_eq_true_iff.mp (Bool.and_eq_true_iff.mp (Bool.and_eq_true_iff.mp (Bool.and_eq_true_iff.mp (Bool.and_eq_true_iff.mp kn.e1).2).2).2).2).2).2).2).2).2).2).2).2).2).2).2).2).2).2).2).2).2).2).2).2).2).2).2).2).2).2).2).2).2).2).2).2).1)
theorem Kn.xc_TooMany (kn : Kn K mg) : XCls "ArithmeticError" "ArithmeticError.__new__" "ArithmeticError.__init__" tl_ArithmeticError K (He.ga K ("TooMany" : Str)) := xB_ok xb_AE ((Bool.and_eq_true_iff.mp (Bool.and_eq_true_iff.mp (Bool.and_eq_true_iff.mp (Bool.and_eq_true_iff.mp (Bool.and_eq_true_iff.mp (Bool.and_eq_true_iff.mp (Bool.and_eq_true_iff.mp (Bool.and_eq_true_iff.mp (Bool.and_eq_true_iff.mp (Bool.and_eq_true_iff.mp (Bool.and_eq_true_iff.mp (Bool.and_eq_true_iff.mp (Bool.and_eq_true_iff.mp (Bool.and_eq_true_iff.mp (Bool.and_eq_true_iff.mp (Bool.and_eq_true_iff.mp (Bool.and_eq_true_iff.mp (Bool.and_eq_true_iff.mp (Bool.and_eq_true_iff.mp (Bool.and_eq_true_iff.mp (Bool.and_eq_true_iff.mp (Bool.and_eq_true_iff.mp (Bool.and_eq_true_iff.mp (Bool.and_eq_true_iff.mp (Bool.and_eq_true_iff.mp (Bool.and_eq_true_iff.mp (Bool.and_eq_true_iff.mp (Bool.and_eq_true_iff.mp (Bool.and_eq_true_iff.mp (Bool.and_eq_true_iff.mp (Bool.and_eq_true_iff.mp (Bool.and_eq_true_iff.mp (Bool.and_eq_true_iff.mp (Bool.and_eq_true_iff.mp (Bool.and_eq_true_iff.mp (Bool.and_eq_true_iff.mp (Bool.and_eq_true_iff.mp kn.e1).2).2).2).2).2).2).2).2).2).2).2).2).2).2).2).2).2).2).2).2).2).2).2).2).2).2).2).2).2).2).2).2).2).2).2).2).2)
theorem Kn.xm_InvalidSteps (kn : Kn K mg) : XMk K (He.ga K ("InvalidSteps" : Str)) (He.ma K (He.ga K ("InvalidSteps" : Str)) "__init__") := xmB_ok ⟨_, _, _, _, kn.xc_InvalidSteps⟩ ((Bool.and_eq_true_iff.mp kn.e2).1)
theorem Kn.xm_InvalidJumps (kn : Kn K mg) : XMk K (He.ga K ("InvalidJumps" : Str)) (He.ma K (He.ga K ("InvalidJumps" : Str)) "__init__") := xmB_ok ⟨_, _, _, _, kn.xc_InvalidJumps⟩ ((Bool.and_eq_true_iff.mp (Bool.and_eq_true_iff.mp kn.e2).2).1)
theorem Kn.xm_InvalidJump (kn : Kn K mg) : XMk K (He.ga K ("InvalidJump" : Str)) (He.ma K (He.ga K ("InvalidJump" : Str)) "__init__") := xmB_ok ⟨_, _, _, _, kn.xc_InvalidJump⟩ ((Bool.and_eq_true_iff.mp (Bool.and_eq_true_iff.mp (Bool.and_eq_true_iff.mp kn.e2).2).2).1)
theorem Kn.xm_InvalidLengths (kn : Kn K mg) : XMk K (He.ga K ("InvalidLengths" : Str)) (He.ma K (He.ga K ("InvalidLengths" : Str)) "__init__") := xmB_ok ⟨_, _, _, _, kn.xc_InvalidLengths⟩ ((Bool.and_eq_true_iff.mp (Bool.and_eq_true_iff.mp (Bool.and_eq_true_iff.mp (Bool.and_eq_true_iff.mp kn.e2).2).2).2).1)
theorem Kn.xm_InvalidWay (kn : Kn K mg) : XMk K (He.ga K ("InvalidWay" : Str)) (He.ma K (He.ga K ("InvalidWay" : Str)) "__init__") := xmB_ok ⟨_, _, _, _, kn.xc_InvalidWay⟩ ((Bool.and_eq_true_iff.mp (Bool.and_eq_true_iff.mp (Bool.and_eq_true_iff.mp (Bool.and_eq_true_iff.mp (Bool.and_eq_true_iff.mp kn.e2).2).2).2).2).1)
theorem Kn.xm_InvalidThing (kn : Kn K mg) : XMk K (He.ga K ("InvalidThing" : Str)) (He.ma K (He.ga K ("InvalidThing" : Str)) "__init__") := xmB_ok ⟨_, _, _, _, kn.xc_InvalidThing⟩ ((Bool.and_eq_true_iff.mp (Bool.and_eq_true_iff.mp (Bool.and_eq_true_iff.mp (Bool.and_eq_true_iff.mp (Bool.and_eq_true_iff.mp (Bool.and_eq_true_iff.mp kn.e2).2).2).2).2).2).1)
theorem Kn.xm_InvalidScore (kn : Kn K mg) : XMk K (He.ga K ("InvalidScore" : Str)) (He.ma K (He.ga K ("InvalidScore" : Str)) "__init__") := xmB_ok ⟨_, _, _, _, kn.xc_InvalidScore⟩ ((Bool.and_eq_true_iff.mp (Bool.and_eq_true_iff.mp (Bool.and_eq_true_iff.mp (Bool.and_eq_true_iff.mp (Bool.and_eq_true_iff.mp (Bool.and_eq_true_iff.mp (Bool.and_eq_true_iff.mp kn.e2).2).2).2).2).2).2).1)
theorem Kn.xm_InvalidWays (kn : Kn K mg) : XMk K (He.ga K ("InvalidWays" : Str)) (He.ma K (He.ga K ("InvalidWays" : Str)) "__init__") := xmB_ok ⟨_, _, _, _, kn.xc_InvalidWays⟩ ((Bool.and_eq_true_iff.mp (Bool.and_eq_true_iff.mp (Bool.and_eq_true_iff.mp (Bool.and_eq_true_iff.mp (Bool.and_eq_true_iff.mp (Bool.and_eq_true_iff.mp (Bool.and_eq_true_iff.mp (Bool.and_eq_true_iff.mp kn.e2).2).2).2).2).2).2).2).1)
theorem Kn.xm_InvalidCount (kn : Kn K mg) : XMk K (He.ga K ("InvalidCount" : Str)) (He.ma K (He.ga K ("InvalidCount" : Str)) "__init__") := xmB_ok ⟨_, _, _, _, kn.xc_InvalidCount⟩ ((Bool.and_eq_true_iff.mp (Bool.and_eq_true_iff.mp (Bool.and_eq_true_iff.mp (Bool.and_eq_true_iff.mp (Bool.and_eq_true_iff.mp (Bool.and_eq_true_iff.mp (Bool.and_eq_true_iff.mp (Bool.and_eq_true_iff.mp (Bool.and_eq_true_iff.mp kn.e2).2).2).2).2).2).2).2).2).1)
theorem Kn.xm_InvalidFlow (kn : Kn K mg) : XMk K (He.ga K ("InvalidFlow" : Str)) (He.ma K (He.ga K ("InvalidFlow" : Str)) "__init__") := xmB_ok ⟨_, _, _, _, kn.xc_InvalidFlow⟩ ((Bool.and_eq_true_iff.mp (Bool.and_eq_true_iff.mp (Bool.and_eq_true_iff.mp (Bool.and_eq_true_iff.mp (Bool.and_eq_true_iff.mp (Bool.and_eq_true_iff.mp (Bool.and_eq_true_iff.mp (Bool.and_eq_true_iff.mp (Bool.and_eq_true_iff.mp (Bool.and_eq_true_iff.mp kn.e2).2).2).2).2).2).2).2).2).2).1)
theorem Kn.xm_InvalidRun (kn : Kn K mg) : XMk K (He.ga K ("InvalidRun" : Str)) (He.ma K (He.ga K ("InvalidRun" : Str)) "__init__") := xmB_ok ⟨_, _, _, _, kn.xc_InvalidRun⟩ ((Bool.and_eq_true_iff.mp (Bool.and_eq_true_iff.mp (Bool.and_eq_true_iff.mp (Bool.and_eq_true_iff.mp (Bool.and_eq_true_iff.mp (Bool.and_eq_true_iff.mp (Bool.and_eq_true_iff.mp (Bool.and_eq_true_iff.mp (Bool.and_eq_true_iff.mp (Bool.and_eq_true_iff.mp (Bool.and_eq_true_iff.mp kn.e2).2).2).2).2).2).2).2).2).2).2).1)
theorem Kn.xm_InvalidMark (kn : Kn K mg) : XMk K (He.ga K ("InvalidMark" : Str)) (He.ma K (He.ga K ("InvalidMark" : Str)) "__init__") := xmB_ok ⟨_, _, _, _, kn.xc_InvalidMark⟩ ((Bool.and_eq_true_iff.mp (Bool.and_eq_true_iff.mp (Bool.and_eq_true_iff.mp (Bool.and_eq_true_iff.mp (Bool.and_eq_true_iff.mp (Bool.and_eq_true_iff.mp (Bool.and_eq_true_iff.mp (Bool.and_eq_true_iff.mp (Bool.and_eq_true_iff.mp (Bool.and_eq_true_iff.mp (Bool.and_eq_true_iff.mp (Bool.and_eq_true_iff.mp kn.e2).2).2).2).2).2).2).2).2).2).2).2).1)
theorem Kn.xm_InvalidMarks (kn : Kn K mg) : XMk K (He.ga K ("InvalidMarks" : Str)) (He.ma K (He.ga K ("InvalidMarks" : Str)) "__init__") := xmB_ok ⟨_, _, _, _, kn.xc_InvalidMarks⟩ ((Bool.and_eq_true_iff.mp (Bool.and_eq_true_iff.mp (Bool.and_eq_true_iff.mp (Bool.and_eq_true_iff.mp (Bool.and_eq_true_iff.mp (Bool.and_eq_true_iff.mp (Bool.and_eq_true_iff.mp (Bool.and_eq_true_iff.mp (Bool.and_eq_true_iff.mp (Bool.and_eq_true_iff.mp (Bool.and_eq_true_iff.mp (Bool.and_eq_true_iff.mp (Bool.and_eq_true_iff.mp kn.e2).2).2).2).2).2).2).2).2).2).2).2).2).1)
theorem Kn.xm_InvalidPrices (kn : Kn K mg) : XMk K (He.ga K ("InvalidPrices" : Str)) (He.ma K (He.ga K ("InvalidPrices" : Str)) "__init__") := xmB_ok ⟨_, _, _, _, kn.xc_InvalidPrices⟩ ((Bool.and_eq_true_iff.mp (Bool.and_eq_true_iff.mp (Bool.and_eq_true_iff.mp (Bool.and_eq_true_iff.mp (Bool.and_eq_true_iff.mp (Bool.and_eq_true_iff.mp (Bool.and_eq_true_iff.mp (Bool.and_eq_true_iff.mp (Bool.and_eq_true_iff.mp (Bool.and_eq_true_iff.mp (Bool.and_eq_true_iff.mp (Bool.and_eq_true_iff.mp (Bool.and_eq_true_iff.mp (Bool.and_eq_true_iff.mp kn.e2).2).2).2).2).2).2).2).2).2).2).2).2).2).1)
theorem Kn.xm_InvalidBounds (kn : Kn K mg) : XMk K (He.ga K ("InvalidBounds" : Str)) (He.ma K (He.ga K ("InvalidBounds" : Str)) "__init__") := xmB_ok ⟨_, _, _, _, kn.xc_InvalidBounds⟩ ((Bool.and_eq_true_iff.mp (Bool.and_eq_true_iff.mp (Bool.and_eq_true_iff.mp (Bool.and_eq_true_iff.mp (Bool.and_eq_true_iff.mp (Bool.and_eq_true_iff.mp (Bool.and_eq_true_iff.mp (Bool.and_eq_true_iff.mp (Bool.and_eq_true_iff.mp (Bool.and_eq_true_iff.mp (Bool.and_eq_true_iff.mp (Bool.and_eq_true_iff.mp (Bool.and_eq_true_iff.mp (Bool.and_eq_true_iff.mp (Bool.and_eq_true_iff.mp kn.e2).2).2).2).2).2).2).2).2).2).2).2).2).2).2).1)
theorem Kn.xm_InvalidMoves (kn : Kn K mg) : XMk K (He.ga K ("InvalidMoves" : Str)) (He.ma K (He.ga K ("InvalidMoves" : Str)) "__init__") := xmB_ok ⟨_, _, _, _, kn.xc_InvalidMoves⟩ ((Bool.and_eq_true_iff.mp (Bool.and_eq_true_iff.mp (Bool.and_eq_true_iff.mp (Bool.and_eq_true_iff.mp (Bool.and_eq_true_iff.mp (Bool.and_eq_true_iff.mp (Bool.and_eq_true_iff.mp (Bool.and_eq_true_iff.mp (Bool.and_eq_true_iff.mp (Bool.and_eq_true_iff.mp (Bool.and_eq_true_iff.mp (Bool.and_eq_true_iff.mp (Bool.and_eq_true_iff.mp (Bool.and_eq_true_iff.mp (Bool.and_eq_true_iff.mp (Bool.and_eq_true_iff.mp kn.e2).2).2).2).2).2).2).2).2).2).2).2).2).2).2).2).1)
theorem Kn.xm_InvalidEnds (kn : Kn K mg) : XMk K (He.ga K ("InvalidEnds" : Str)) (He.ma K (He.ga K ("InvalidEnds" : Str)) "__init__") := xmB_ok ⟨_, _, _, _, kn.xc_InvalidEnds⟩ ((Bool.and_eq_true_iff.mp (Bool.and_eq_true_iff.mp (Bool.and_eq_true_iff.mp (Bool.and_eq_true_iff.mp (Bool.and_eq_true_iff.mp (Bool.and_eq_true_iff.mp (Bool.and_eq_true_iff.mp (Bool.and_eq_true_iff.mp (Bool.and_eq_true_iff.mp (Bool.and_eq_true_iff.mp (Bool.and_eq_true_iff.mp (Bool.and_eq_true_iff.mp (Bool.and_eq_true_iff.mp (Bool.and_eq_true_iff.mp (Bool.and_eq_true_iff.mp (Bool.and_eq_true_iff.mp (Bool.and_eq_true_iff.mp kn.e2).2).2).2).2).2).2).2).2).2).2).2).2).2).2).2).2).1)
theorem Kn.xm_InvalidHabits (kn : Kn K mg) : XMk K (He.ga K ("InvalidHabits" : Str)) (He.ma K (He.ga K ("InvalidHabits" : Str)) "__init__") := xmB_ok ⟨_, _, _, _, kn.xc_InvalidHabits⟩ ((Bool.and_eq_true_iff.mp (Bool.and_eq_true_iff.mp (Bool.and_eq_true_iff.mp (Bool.and_eq_true_iff.mp (Bool.and_eq_true_iff.mp (Bool.and_eq_true_iff.mp (Bool.and_eq_true_iff.mp (Bool.and_eq_true_iff.mp (Bool.and_eq_true_iff.mp (Bool.and_eq_true_iff.mp (Bool.and_eq_true_iff.mp (Bool.and_eq_true_iff.mp (Bool.and_eq_true_iff.mp (Bool.and_eq_true_iff.mp (Bool.and_eq_true_iff.mp (Bool.and_eq_true_iff.mp (Bool.and_eq_true_iff.mp (Bool.and_eq_true_iff.mp kn.e2).2).2).2).2).2).2).2).2).2).2).2).2).2).2).2).2).2).1)
theorem Kn.xm_InvalidShares (kn : Kn K mg) : XMk K (He.ga K ("InvalidShares" : Str)) (He.ma K (He.ga K ("InvalidShares" : Str)) "__init__") := xmB_ok ⟨_, _, _, _, kn.xc_InvalidShares⟩ ((Bool.and_eq_true_iff.mp (Bool.and_eq_true_iff.mp (Bool.and_eq_true_iff.mp (Bool.and_eq_true_iff.mp (Bool.and_eq_true_iff.mp (Bool.and_eq_true_iff.mp (Bool.and_eq_true_iff.mp (Bool.and_eq_true_iff.mp (Bool.and_eq_true_iff.mp (Bool.and_eq_true_iff.mp (Bool.and_eq_true_iff.mp (Bool.and_eq_true_iff.mp (Bool.and_eq_true_iff.mp (Bool.and_eq_true_iff.mp (Bool.and_eq_true_iff.mp (Bool.and_eq_true_iff.mp (Bool.and_eq_true_iff.mp (Bool.and_eq_true_iff.mp (Bool.and_eq_true_iff.mp kn.e2).2).2).2).2).2).2).2).2).2).2).2).2).2).2).2).2).2).2).1)
theorem Kn.xm_InvalidText (kn : Kn K mg) : XMk K (He.ga K ("InvalidText" : Str)) (He.ma K (He.ga K ("InvalidText" : Str)) "__init__") := xmB_ok ⟨_, _, _, _, kn.xc_InvalidText⟩ ((Bool.and_eq_true_iff.mp (Bool.and_eq_true_iff.mp (Bool.and_eq_true_iff.mp (Bool.and_eq_true_iff.mp (Bool.and_eq_true_iff.mp (Bool.and_eq_true_iff.mp (Bool.and_eq_true_iff.mp (Bool.and_eq_true_iff.mp (Bool.and_eq_true_iff.mp (Bool.and_eq_true_iff.mp (Bool.and_eq_true_iff.mp (Bool.and_eq_true_iff.mp (Bool.and_eq_true_iff.mp (Bool.and_eq_true_iff.mp (Bool.and_eq_true_iff.mp (Bool.and_eq_true_iff.mp (Bool.and_eq_true_iff.mp (Bool.and_eq_true_iff.mp (Bool.and_eq_true_iff.mp (Bool.and_eq_true_iff.mp kn.e2).2).2).2).2).2).2).2).2).2).2).2).2).2).2).2).2).2).2).2).1)
theorem Kn.xm_InvalidClaim (kn : Kn K mg) : XMk K (He.ga K ("InvalidClaim" : Str)) (He.ma K (He.ga K ("InvalidClaim" : Str)) "__init__") := xmB_ok ⟨_, _, _, _, kn.xc_InvalidClaim⟩ ((Bool.and_eq_true_iff.mp (Bool.and_eq_true_iff.mp (Bool.and_eq_true_iff.mp (Bool.and_eq_true_iff.mp (Bool.and_eq_true_iff.mp (Bool.and_eq_true_iff.mp (Bool.and_eq_true_iff.mp (Bool.and_eq_true_iff.mp (Bool.and_eq_true_iff.mp (Bool.and_eq_true_iff.mp (Bool.and_eq_true_iff.mp (Bool.and_eq_true_iff.mp (Bool.and_eq_true_iff.mp (Bool.and_eq_true_iff.mp (Bool.and_eq_true_iff.mp (Bool.and_eq_true_iff.mp (Bool.and_eq_true_iff.mp (Bool.and_eq_true_iff.mp (Bool.and_eq_true_iff.mp (Bool.and_eq_true_iff.mp (Bool.and_eq_true_iff.mp kn.e2).2).2).2).2).2).2).2).2).2).2).2).2).2).2).2).2).2).2).2).2).1)
theorem Kn.xm_InvalidCommand (kn : Kn K mg) : XMk K (He.ga K ("InvalidCommand" : Str)) (He.ma K (He.ga K ("InvalidCommand" : Str)) "__init__") := xmB_ok ⟨_, _, _, _, kn.xc_InvalidCommand⟩ ((Bool.and_eq_true_iff.mp (Bool.and_eq_true_iff.mp (Bool.and_eq_true_iff.mp (Bool.and_eq_true_iff.mp (Bool.and_eq_true_iff.mp (Bool.and_eq_true_iff.mp (Bool.and_eq_true_iff.mp (Bool.and_eq_true_iff.mp (Bool.and_eq_true_iff.mp (Bool.and_eq_true_iff.mp (Bool.and_eq_true_iff.mp (Bool.and_eq_true_iff.mp (Bool.and_eq_true_iff.mp (Bool.and_eq_true_iff.mp (Bool.and_eq_true_iff.mp (Bool.and_eq_true_iff.mp (Bool.and_eq_true_iff.mp (Bool.and_eq_true_iff.mp (Bool.and_eq_true_iff.mp (Bool.and_eq_true_iff.mp (Bool.and_eq_true_iff.mp (Bool.and_eq_true_iff.mp kn.e2).2).2).2).2).2).2).2).2).2).2).2).2).2).2).2).2).2).2).2).2).2).1)
theorem Kn.xm_UnknownWay (kn : Kn K mg) : XMk K (He.ga K ("UnknownWay" : Str)) (He.ma K (He.ga K ("UnknownWay" : Str)) "__init__") := xmB_ok ⟨_, _, _, _, kn.xc_UnknownWay⟩ ((Bool.and_eq_true_iff.mp (Bool.and_eq_true_iff.mp (Bool.and_eq_true_iff.mp (Bool.and_eq_true_iff.mp (Bool.and_eq_true_iff.mp (Bool.and_eq_true_iff.mp (Bool.and_eq_true_iff.mp (Bool.and_eq_true_iff.mp (Bool.and_eq_true_iff.mp (Bool.and_eq_true_iff.mp (Bool.and_eq_true_iff.mp (Bool.and_eq_true_iff.mp (Bool.and_eq_true_iff.mp (Bool.and_eq_true_iff.mp (Bool.and_eq_true_iff.mp (Bool.and_eq_true_iff.mp (Bool.and_eq_true_iff.mp (Bool.and_eq_true_iff.mp (Bool.and_eq_true_iff.mp (Bool.and_eq_true_iff.mp (Bool.and_eq_true_iff.mp (Bool.and_eq_true_iff.mp (Bool.and_eq_true_iff.mp kn.e2).2).2).2).2).2).2).2).2).2).2).2).2).2).2).2).2).2).2).2).2).2).2).1)
theorem Kn.xm_NoSuch (kn : Kn K mg) : XMk K (He.ga K ("NoSuch" : Str)) (He.ma K (He.ga K ("NoSuch" : Str)) "__init__") := xmB_ok ⟨_, _, _, _, kn.xc_NoSuch⟩ ((Bool.and_eq_true_iff.mp (Bool.and_eq_true_iff.mp (Bool.and_eq_true_iff.mp (Bool.and_eq_true_iff.mp (Bool.and_eq_true_iff.mp (Bool.and_eq_true_iff.mp (Bool.and_eq_true_iff.mp (Bool.and_eq_true_iff.mp (Bool.and_eq_true_iff.mp (Bool.and_eq_true_iff.mp (Bool.and_eq_true_iff.mp (Bool.and_eq_true_iff.mp (Bool.and_eq_true_iff.mp (Bool.and_eq_true_iff.mp (Bool.and_eq_true_iff.mp (Bool.and_eq_true_iff.mp (Bool.and_eq_true_iff.mp (Bool.and_eq_true_iff.mp (Bool.and_eq_true_iff.mp (Bool.and_eq_true_iff.mp (Bool.and_eq_true_iff.mp (Bool.and_eq_true_iff.mp (Bool.and_eq_true_iff.mp (Bool.and_eq_true_iff.mp kn.e2).2).2).2).2).2).2).2).2).2).2).2).2).2).2).2).2).2).2).2).2).2).2).2).1)
theorem Kn.xm_OtherSteps (kn : Kn K mg) : XMk K (He.ga K ("OtherSteps" : Str)) (He.ma K (He.ga K ("OtherSteps" : Str)) "__init__") := xmB_ok ⟨_, _, _, _, kn.xc_OtherSteps⟩ ((Bool.and_eq_true_iff.mp (Bool.and_eq_true_iff.mp (Bool.and_eq_true_iff.mp (Bool.and_eq_true_iff.mp (Bool.and_eq_true_iff.mp (Bool.and_eq_true_iff.mp (Bool.and_eq_true_iff.mp (Bool.and_eq_true_iff.mp (Bool.and_eq_true_iff.mp (Bool.and_eq_true_iff.mp (Bool.and_eq_true_iff.mp (Bool.and_eq_true_iff.mp (Bool.and_eq_true_iff.mp (Bool.and_eq_true_iff.mp (Bool.and_eq_true_iff.mp (Bool.and_eq_true_iff.mp (Bool.and_eq_true_iff.mp (Bool.and_eq_true_iff.mp (Bool.and_eq_true_iff.mp (Bool.and_eq_true_iff.mp (Bool.and_eq_true_iff.mp (Bool.and_eq_true_iff.mp (Bool.and_eq_true_iff.mp (Bool.and_eq_true_iff.mp (Bool.and_eq_true_iff.mp kn.e2).2).2).2).2).2).2).2).2).2).2).2).2).2).2).2).2).2).2).2).2).2).2).2).2).1)
theorem Kn.xm_OtherStair (kn : Kn K mg) : XMk K (He.ga K ("OtherStair" : Str)) (He.ma K (He.ga K ("OtherStair" : Str)) "__init__") := xmB_ok ⟨_, _, _, _, kn.xc_OtherStair⟩ ((Bool.and_eq_true_iff.mp (Bool.and_eq_true_iff.mp (Bool.and_eq_true_iff.mp (Bool.and_eq_true_iff.mp (Bool.and_eq_true_iff.mp (Bool.and_eq_true_iff.mp (Bool.and_eq_true_iff.mp (Bool.and_eq_true_iff.mp (Bool.and_eq_true_iff.mp (Bool.and_eq_true_iff.mp (Bool.and_eq_true_iff.mp (Bool.and_eq_true_iff.mp (Bool.and_eq_true_iff.mp (Bool.and_eq_true_iff.mp (Bool.and_eq_true_iff.mp (Bool.and_eq_true_iff.mp (Bool.and_eq_true_iff.mp (Bool.and_eq_true_iff.mp (Bool.and_eq_true_iff.mp (Bool.and_eq_true_iff.mp (Bool.and_eq_true_iff.mp (Bool.and_eq_true_iff.mp (Bool.and_eq_true_iff.mp (Bool.and_eq_true_iff.mp (Bool.and_eq_true_iff.mp (Bool.and_eq_true_iff.mp kn.e2).2).2).2).2).2).2).2).2).2).2).2).2).2).2).2).2).2).2).2).2).2).2).2).2).2).1)
theorem Kn.xm_NotTogether (kn : Kn K mg) : XMk K (He.ga K ("NotTogether" : Str)) (He.ma K (He.ga K ("NotTogether" : Str)) "__init__") := xmB_ok ⟨_, _, _, _, kn.xc_NotTogether⟩ ((Bool.and_eq_true_iff.mp (Bool.and_eq_true_iff.mp (Bool.and_eq_true_iff.mp (Bool.and_eq_true_iff.mp (Bool.and_eq_true_iff.mp (Bool.and_eq_true_iff.mp (Bool.and_eq_true_iff.mp (Bool.and_eq_true_iff.mp (Bool.and_eq_true_iff.mp (Bool.and_eq_true_iff.mp (Bool.and_eq_true_iff.mp (Bool.and_eq_true_iff.mp (Bool.and_eq_true_iff.mp (Bool.and_eq_true_iff.mp (Bool.and_eq_true_iff.mp (Bool.and_eq_true_iff.mp (Bool.and_eq_true_iff.mp (Bool.and_eq_true_iff.mp (Bool.and_eq_true_iff.mp (Bool.and_eq_true_iff.mp (Bool.and_eq_true_iff.mp (Bool.and_eq_true_iff.mp (Bool.and_eq_true_iff.mp (Bool.and_eq_true_iff.mp (Bool.and_eq_true_iff.mp (Bool.and_eq_true_iff.mp (Bool.and_eq_true_iff.mp kn.e2).2).2).2).2).2).2).2).2).2).2).2).2).2).2).2).2).2).2).2).2).2).2).2).2).2).2).1)
theorem Kn.xm_NothingFits (kn : Kn K mg) : XMk K (He.ga K ("NothingFits" : Str)) (He.ma K (He.ga K ("NothingFits" : Str)) "__init__") := xmB_ok ⟨_, _, _, _, kn.xc_NothingFits⟩ ((Bool.and_eq_true_iff.mp (Bool.and_eq_true_iff.mp (Bool.and_eq_true_iff.mp (Bool.and_eq_true_iff.mp (Bool.and_eq_true_iff.mp (Bool.and_eq_true_iff.mp (Bool.and_eq_true_iff.mp (Bool.and_eq_true_iff.mp (Bool.and_eq_true_iff.mp (Bool.and_eq_true_iff.mp (Bool.and_eq_true_iff.mp (Bool.and_eq_true_iff.mp (Bool.and_eq_true_iff.mp (Bool.and_eq_true_iff.mp (Bool.and_eq_true_iff.mp (Bool.and_eq_true_iff.mp (Bool.and_eq_true_iff.mp (Bool.and_eq_true_iff.mp (Bool.and_eq_true_iff.mp (Bool.and_eq_true_iff.mp (Bool.and_eq_true_iff.mp (Bool.and_eq_true_iff.mp (Bool.and_eq_true_iff.mp (Bool.and_eq_true_iff.mp (Bool.and_eq_true_iff.mp (Bool.and_eq_true_iff.mp (Bool.and_eq_true_iff.mp (Bool.and_eq_true_iff.mp kn.e2).2).2).2).2).2).2).2).2).2).2).2).2).2).2).2).2).2).2).2).2).2).2).2).2).2).2).2).1)
theorem Kn.xm_Endless (kn : Kn K mg) : XMk K (He.ga K ("Endless" : Str)) (He.ma K (He.ga K ("Endless" : Str)) "__init__") := xmB_ok ⟨_, _, _, _, kn.xc_Endless⟩ ((Bool.and_eq_true_iff.mp (Bool.and_eq_true_iff.mp (Bool.and_eq_true_iff.mp (Bool.and_eq_true_iff.mp (Bool.and_eq_true_iff.mp (Bool.and_eq_true_iff.mp (Bool.and_eq_true_iff.mp (Bool.and_eq_true_iff.mp (Bool.and_eq_true_iff.mp (Bool.and_eq_true_iff.mp (Bool.and_eq_true_iff.mp (Bool.and_eq_true_iff.mp (Bool.and_eq_true_iff.mp (Bool.and_eq_true_iff.mp (Bool.and_eq_true_iff.mp (Bool.and_eq_true_iff.mp (Bool.and_eq_true_iff.mp (Bool.and_eq_true_iff.mp (Bool.and_eq_true_iff.mp (Bool.and_eq_true_iff.mp (Bool.and_eq_true_iff.mp (Bool.and_eq_true_iff.mp (Bool.and_eq_true_iff.mp (Bool.and_eq_true_iff.mp (Bool.and_eq_true_iff.mp (Bool.and_eq_true_iff.mp (Bool.and_eq_true_iff.mp (Bool.and_eq_true_iff.mp (Bool.and_eq_true_iff.mp kn.e2).2).2).2).2).2).2).2).2).2).2).2).2).2).2).2).2).2).2).2).2).2).2).2).2).2).2).2).2).1)
theorem Kn.xm_NotBetween (kn : Kn K mg) : XMk K (He.ga K ("NotBetween" : Str)) (He.ma K (He.ga K ("NotBetween" : Str)) "__init__") := xmB_ok ⟨_, _, _, _, kn.xc_NotBetween⟩ ((Bool.and_eq_true_iff.mp (Bool.and_eq_true_iff.mp (Bool.and_eq_true_iff.mp (Bool.and_eq_true_iff.mp (Bool.and_eq_true_iff.mp (Bool.and_eq_true_iff.mp (Bool.and_eq_true_iff.mp (Bool.and_eq_true_iff.mp (Bool.and_eq_true_iff.mp (Bool.and_eq_true_iff.mp (Bool.and_eq_true_iff.mp (Bool.and_eq_true_iff.mp (Bool.and_eq_true_iff.mp (Bool.and_eq_true_iff.mp (Bool.and_eq_true_iff.mp (Bool.and_eq_true_iff.mp (Bool.and_eq_true_iff.mp (Bool.and_eq_true_iff.mp (Bool.and_eq_true_iff.mp (Bool.and_eq_true_iff.mp (Bool.and_eq_true_iff.mp (Bool.and_eq_true_iff.mp (Bool.and_eq_true_iff.mp (Bool.and_eq_true_iff.mp (Bool.and_eq_true_iff.mp (Bool.and_eq_true_iff.mp (Bool.and_eq_true_iff.mp (Bool.and_eq_true_iff.mp (Bool.and_eq_true_iff.mp (Bool.and_eq_true_iff.mp kn.e2).2).2).2).2).2).2).2).2).2).2).2).2).2).2).2).2).2).2).2).2).2).2).2).2).2).2).2).2).2).1)
theorem Kn.xm_Unmeeting (kn : Kn K mg) : XMk K (He.ga K ("Unmeeting" : Str)) (He.ma K (He.ga K ("Unmeeting" : Str)) "__init__") := xmB_ok ⟨_, _, _, _, kn.xc_Unmeeting⟩ ((Bool.and_eq_true_iff.mp (Bool.and_eq_true_iff.mp (Bool.and_eq_true_iff.mp (Bool.and_eq_true_iff.mp (Bool.and_eq_true_iff.mp (Bool.and_eq_true_iff.mp (Bool.and_eq_true_iff.mp (Bool.and_eq_true_iff.mp (Bool.and_eq_true_iff.mp (Bool.and_eq_true_iff.mp (Bool.and_eq_true_iff.mp (Bool.and_eq_true_iff.mp (Bool.and_eq_true_iff.mp (Bool.and_eq_true_iff.mp (Bool.and_eq_true_iff.mp (Bool.and_eq_true_iff.mp (Bool.and_eq_true_iff.mp (Bool.and_eq_true_iff.mp (Bool.and_eq_true_iff.mp (Bool.and_eq_true_iff.mp (Bool.and_eq_true_iff.mp (Bool.and_eq_true_iff.mp (Bool.and_eq_true_iff.mp (Bool.and_eq_true_iff.mp (Bool.and_eq_true_iff.mp (Bool.and_eq_true_iff.mp (Bool.and_eq_true_iff.mp (Bool.and_eq_true_iff.mp (Bool.and_eq_true_iff.mp (Bool.and_eq_true_iff.mp (Bool.and_eq_true_iff.mp kn.e2).2).2).2).2).2).2).2).2).2).2).2).2).2).2).2).2).2).2).2).2).2).2).2).2).2).2).2).2).2).2).1)
theorem Kn.xm_NothingToUndo (kn : Kn K mg) : XMk K (He.ga K ("NothingToUndo" : Str)) (He.ma K (He.ga K ("NothingToUndo" : Str)) "__init__") := xmB_ok ⟨_, _, _, _, kn.xc_NothingToUndo⟩ ((Bool.and_eq_true_iff.mp (Bool.and_eq_true_iff.mp (Bool.and_eq_true_iff.mp (Bool.and_eq_true_iff.mp (Bool.and_eq_true_iff.mp (Bool.and_eq_true_iff.mp (Bool.and_eq_true_iff.mp (Bool.and_eq_true_iff.mp (Bool.and_eq_true_iff.mp (Bool.and_eq_true_iff.mp (Bool.and_eq_true_iff.mp (Bool.and_eq_true_iff.mp (Bool.and_eq_true_iff.mp (Bool.and_eq_true_iff.mp (Bool.and_eq_true_iff.mp (Bool.and_eq_true_iff.mp (Bool.and_eq_true_iff.mp (Bool.and_eq_true_iff.mp (Bool.and_eq_true_iff.mp (Bool.and_eq_true_iff.mp (Bool.and_eq_true_iff.mp (Bool.and_eq_true_iff.mp (Bool.and_eq_true_iff.mp (Bool.and_eq_true_iff.mp (Bool.and_eq_true_iff.mp (Bool.and_eq_true_iff.mp (Bool.and_eq_true_iff.mp (Bool.and_eq_true_iff.mp (Bool.and_eq_true_iff.mp (Bool.and_eq_true_iff.mp (Bool.and_eq_true_iff.mp (Bool.and_eq_true_iff.mp kn.e2).2).2).2).2).2).2).2).2).2).2).2).2).2).2).2).2).2).2).2).2).2).2).2).2).2).2).2).2).2).2).2).1)
theorem Kn.xm_CommandFailed (kn : Kn K mg) : XMk K (He.ga K ("CommandFailed" : Str)) (He.ma K (He.ga K ("CommandFailed" : Str)) "__init__") := xmB_ok ⟨_, _, _, _, kn.xc_CommandFailed⟩ ((Bool.and_eq_true_iff.mp (Bool.and_eq_true_iff.mp (Bool.and_eq_true_iff.mp (Bool.and_eq_true_iff.mp (Bool.and_eq_true_iff.mp (Bool.and_eq_true_iff.mp (Bool.and_eq_true_iff.mp (Bool.and_eq_true_iff.mp (Bool.and_eq_true_iff.mp (Bool.and_eq_true_iff.mp (Bool.and_eq_true_iff.mp (Bool.and_eq_true_iff.mp (Bool.and_eq_true_iff.mp (Bool.and_eq_true_iff.mp (Bool.and_eq_true_iff.mp (Bool.and_eq_true_iff.mp (Bool.and_eq_true_iff.mp (Bool.and_eq_true_iff.mp (Bool.and_eq_true_iff.mp (Bool.and_eq_true_iff.mp (Bool.and_eq_true_iff.mp (Bool.and_eq_true_iff.mp (Bool.and_eq_true_iff.mp (Bool.and_eq_true_iff.mp (Bool.and_eq_true_iff.mp (Bool.and_eq_true_iff.mp (Bool.and_eq_true_iff.mp (Bool.and_eq_true_iff.mp (Bool.and_eq_true_iff.mp (Bool.and_eq_true_iff.mp (Bool.and_eq_true_iff.mp (Bool.and_eq_true_iff.mp (Bool.and_eq_true_iff.mp kn.e2).2).2).2).2).2).2).2).2).2).2).2).2).2).2).2).2).2).2).2).2).2).2).2).2).2).2).2).2).2).2).2).2).1)
theorem Kn.xm_TooMany (kn : Kn K mg) : XMk K (He.ga K ("TooMany" : Str)) (He.ma K (He.ga K ("TooMany" : Str)) "__init__") := xmB_ok ⟨_, _, _, _, kn.xc_TooMany⟩ ((Bool.and_eq_true_iff.mp (Bool.and_eq_true_iff.mp (Bool.and_eq_true_iff.mp (Bool.and_eq_true_iff.mp (Bool.and_eq_true_iff.mp (Bool.and_eq_true_iff.mp (Bool.and_eq_true_iff.mp (Bool.and_eq_true_iff.mp (Bool.and_eq_true_iff.mp (Bool.and_eq_true_iff.mp (Bool.and_eq_true_iff.mp (Bool.and_eq_true_iff.mp (Bool.and_eq_true_iff.mp (Bool.and_eq_true_iff.mp (Bool.and_eq_true_iff.mp (Bool.and_eq_true_iff.mp (Bool.and_eq_true_iff.mp (Bool.and_eq_true_iff.mp (Bool.and_eq_true_iff.mp (Bool.and_eq_true_iff.mp (Bool.and_eq_true_iff.mp (Bool.and_eq_true_iff.mp (Bool.and_eq_true_iff.mp (Bool.and_eq_true_iff.mp (Bool.and_eq_true_iff.mp (Bool.and_eq_true_iff.mp (Bool.and_eq_true_iff.mp (Bool.and_eq_true_iff.mp (Bool.and_eq_true_iff.mp (Bool.and_eq_true_iff.mp (Bool.and_eq_true_iff.mp (Bool.and_eq_true_iff.mp (Bool.and_eq_true_iff.mp kn.e2).2).2).2).2).2).2).2).2).2).2).2).2).2).2).2).2).2).2).2).2).2).2).2).2).2).2).2).2).2).2).2).2).2)
theorem Kn.xr_StairError (kn : Kn K mg) : ClX.CRead K (He.ga K ("StairError" : Str)) (.type "type") ∧ PySem.W.findCls K (.ref (He.ga K ("StairError" : Str))) (.type "type") "__init__" = some (.val (.builtin "ValueError.__init__")) := xrB_ok ((Bool.and_eq_true_iff.mp kn.e7).1)
theorem Kn.xr_MissingError (kn : Kn K mg) : ClX.CRead K (He.ga K ("MissingError" : Str)) (.type "type") ∧ PySem.W.findCls K (.ref (He.ga K ("MissingError" : Str))) (.type "type") "__init__" = some (.val (.builtin "LookupError.__init__")) := xrB_ok ((Bool.and_eq_true_iff.mp (Bool.and_eq_true_iff.mp kn.e7).2).1)
theorem Kn.xr_StateError (kn : Kn K mg) : ClX.CRead K (He.ga K ("StateError" : Str)) (.type "type") ∧ PySem.W.findCls K (.ref (He.ga K ("StateError" : Str))) (.type "type") "__init__" = some (.val (.builtin "RuntimeError.__init__")) := xrB_ok ((Bool.and_eq_true_iff.mp (Bool.and_eq_true_iff.mp (Bool.and_eq_true_iff.mp kn.e7).2).2).1)
theorem Kn.xr_LimitError (kn : Kn K mg) : ClX.CRead K (He.ga K ("LimitError" : Str)) (.type "type") ∧ PySem.W.findCls K (.ref (He.ga K ("LimitError" : Str))) (.type "type") "__init__" = some (.val (.builtin "ArithmeticError.__init__")) := xrB_ok ((Bool.and_eq_true_iff.mp (Bool.and_eq_true_iff.mp (Bool.and_eq_true_iff.mp kn.e7).2).2).2)
theorem okC_lt {i : Nat} (h : okC i = true) : i ∈ List.range 38 := List.mem_range.mpr (Nat.le_of_ble_eq_true h)
theorem gIs_ok {j i : Nat} {b : Bool} (h : gIs j i = some b) : okC i = true := by
  unfold gIs at h
  split at h
  · assumption
  · cases h
theorem gIsT_ok {x : Str} {i : Nat} {b : Bool} (h : gIsT x i = some b) : okC i = true := by
  unfold gIsT at h
  split at h
  · assumption
  · cases h
theorem Kn.xi (kn : Kn K mg) {i : Nat} (h : okC i = true) : XIs K (clK K i) := xiB_ok (Bool.and_eq_true_iff.mp (List.all_eq_true.mp kn.e3 i (okC_lt h))).1
theorem Kn.xf (kn : Kn K mg) {i : Nat} (h : okC i = true) : XfC K (clK K i) := xfB_ok (Bool.and_eq_true_iff.mp (List.all_eq_true.mp kn.e3 i (okC_lt h))).2
theorem Kn.no (kn : Kn K mg) {i : Nat} (h : okC i = true) {f : Str} (hf : f ∈ fields) : PySem.W.findIn K (.ref (clK K i)) f = some none := of_decide_eq_true (List.all_eq_true.mp (List.all_eq_true.mp kn.e4 i (okC_lt h)) f hf)
theorem Kn.xf_greatest (kn : Kn K mg) : ∀ i, okC i = true → XfC K (clK K i) ∧ PySem.W.findIn K (.ref (clK K i)) ("greatest" : Str) = some none := fun i h => ⟨kn.xf h, kn.no h (by decide)⟩
theorem Kn.xf_least (kn : Kn K mg) : ∀ i, okC i = true → XfC K (clK K i) ∧ PySem.W.findIn K (.ref (clK K i)) ("least" : Str) = some none := fun i h => ⟨kn.xf h, kn.no h (by decide)⟩
theorem Kn.xf_limit (kn : Kn K mg) : ∀ i, okC i = true → XfC K (clK K i) ∧ PySem.W.findIn K (.ref (clK K i)) ("limit" : Str) = some none := fun i h => ⟨kn.xf h, kn.no h (by decide)⟩
theorem Kn.xf_line (kn : Kn K mg) : ∀ i, okC i = true → XfC K (clK K i) ∧ PySem.W.findIn K (.ref (clK K i)) ("line" : Str) = some none := fun i h => ⟨kn.xf h, kn.no h (by decide)⟩
theorem Kn.xf_one (kn : Kn K mg) : ∀ i, okC i = true → XfC K (clK K i) ∧ PySem.W.findIn K (.ref (clK K i)) ("one" : Str) = some none := fun i h => ⟨kn.xf h, kn.no h (by decide)⟩
theorem Kn.xf_other (kn : Kn K mg) : ∀ i, okC i = true → XfC K (clK K i) ∧ PySem.W.findIn K (.ref (clK K i)) ("other" : Str) = some none := fun i h => ⟨kn.xf h, kn.no h (by decide)⟩
theorem Kn.xf_position (kn : Kn K mg) : ∀ i, okC i = true → XfC K (clK K i) ∧ PySem.W.findIn K (.ref (clK K i)) ("position" : Str) = some none := fun i h => ⟨kn.xf h, kn.no h (by decide)⟩
theorem Kn.xf_value (kn : Kn K mg) : ∀ i, okC i = true → XfC K (clK K i) ∧ PySem.W.findIn K (.ref (clK K i)) ("value" : Str) = some none := fun i h => ⟨kn.xf h, kn.no h (by decide)⟩
theorem Kn.xf_what (kn : Kn K mg) : ∀ i, okC i = true → XfC K (clK K i) ∧ PySem.W.findIn K (.ref (clK K i)) ("what" : Str) = some none := fun i h => ⟨kn.xf h, kn.no h (by decide)⟩
theorem Kn.is (kn : Kn K mg) {j : Nat} (hj : j ∈ tested) : ∀ i b, gIs j i = some b → XIs K (clK K i) ∧ PySem.W.kitOne K (.ref (clK K i)) (.ref (clK K j)) = some b := fun i b h => ⟨kn.xi (gIs_ok h), by
  rw [← h]
  exact of_decide_eq_true (List.all_eq_true.mp (Bool.and_eq_true_iff.mp (List.all_eq_true.mp kn.e5 i (okC_lt (gIs_ok h)))).1 j hj)⟩
theorem Kn.isT (kn : Kn K mg) {x : String × Str} (hx : x ∈ testedT) : ∀ i b, gIsT x.2 i = some b → XIs K (clK K i) ∧ PySem.W.kitOne K (.ref (clK K i)) (.type x.1) = some b := fun i b h => ⟨kn.xi (gIsT_ok h), by
  rw [← h]
  exact of_decide_eq_true (List.all_eq_true.mp (Bool.and_eq_true_iff.mp (List.all_eq_true.mp kn.e5 i (okC_lt (gIsT_ok h)))).2 x hx)⟩
theorem Kn.is_StairError (kn : Kn K mg) : ∀ i b, gIs 0 i = some b → XIs K (clK K i) ∧ PySem.W.kitOne K (.ref (clK K i)) (.ref (He.ga K ("StairError" : Str))) = some b := kn.is (j := 0) (by decide)
theorem Kn.is_InvalidSteps (kn : Kn K mg) : ∀ i b, gIs 1 i = some b → XIs K (clK K i) ∧ PySem.W.kitOne K (.ref (clK K i)) (.ref (He.ga K ("InvalidSteps" : Str))) = some b := kn.is (j := 1) (by decide)
theorem Kn.is_InvalidJumps (kn : Kn K mg) : ∀ i b, gIs 2 i = some b → XIs K (clK K i) ∧ PySem.W.kitOne K (.ref (clK K i)) (.ref (He.ga K ("InvalidJumps" : Str))) = some b := kn.is (j := 2) (by decide)
theorem Kn.is_InvalidJump (kn : Kn K mg) : ∀ i b, gIs 3 i = some b → XIs K (clK K i) ∧ PySem.W.kitOne K (.ref (clK K i)) (.ref (He.ga K ("InvalidJump" : Str))) = some b := kn.is (j := 3) (by decide)
theorem Kn.is_InvalidLengths (kn : Kn K mg) : ∀ i b, gIs 4 i = some b → XIs K (clK K i) ∧ PySem.W.kitOne K (.ref (clK K i)) (.ref (He.ga K ("InvalidLengths" : Str))) = some b := kn.is (j := 4) (by decide)
theorem Kn.is_InvalidWay (kn : Kn K mg) : ∀ i b, gIs 5 i = some b → XIs K (clK K i) ∧ PySem.W.kitOne K (.ref (clK K i)) (.ref (He.ga K ("InvalidWay" : Str))) = some b := kn.is (j := 5) (by decide)
theorem Kn.is_InvalidThing (kn : Kn K mg) : ∀ i b, gIs 6 i = some b → XIs K (clK K i) ∧ PySem.W.kitOne K (.ref (clK K i)) (.ref (He.ga K ("InvalidThing" : Str))) = some b := kn.is (j := 6) (by decide)
theorem Kn.is_InvalidScore (kn : Kn K mg) : ∀ i b, gIs 7 i = some b → XIs K (clK K i) ∧ PySem.W.kitOne K (.ref (clK K i)) (.ref (He.ga K ("InvalidScore" : Str))) = some b := kn.is (j := 7) (by decide)
theorem Kn.is_InvalidWays (kn : Kn K mg) : ∀ i b, gIs 8 i = some b → XIs K (clK K i) ∧ PySem.W.kitOne K (.ref (clK K i)) (.ref (He.ga K ("InvalidWays" : Str))) = some b := kn.is (j := 8) (by decide)
theorem Kn.is_InvalidCount (kn : Kn K mg) : ∀ i b, gIs 9 i = some b → XIs K (clK K i) ∧ PySem.W.kitOne K (.ref (clK K i)) (.ref (He.ga K ("InvalidCount" : Str))) = some b := kn.is (j := 9) (by decide)
theorem Kn.is_InvalidFlow (kn : Kn K mg) : ∀ i b, gIs 10 i = some b → XIs K (clK K i) ∧ PySem.W.kitOne K (.ref (clK K i)) (.ref (He.ga K ("InvalidFlow" : Str))) = some b := kn.is (j := 10) (by decide)
theorem Kn.is_InvalidRun (kn : Kn K mg) : ∀ i b, gIs 11 i = some b → XIs K (clK K i) ∧ PySem.W.kitOne K (.ref (clK K i)) (.ref (He.ga K ("InvalidRun" : Str))) = some b := kn.is (j := 11) (by decide)
theorem Kn.is_InvalidMark (kn : Kn K mg) : ∀ i b, gIs 12 i = some b → XIs K (clK K i) ∧ PySem.W.kitOne K (.ref (clK K i)) (.ref (He.ga K ("InvalidMark" : Str))) = some b := kn.is (j := 12) (by decide)
theorem Kn.is_InvalidMarks (kn : Kn K mg) : ∀ i b, gIs 13 i = some b → XIs K (clK K i) ∧ PySem.W.kitOne K (.ref (clK K i)) (.ref (He.ga K ("InvalidMarks" : Str))) = some b := kn.is (j := 13) (by decide)
theorem Kn.is_InvalidPrices (kn : Kn K mg) : ∀ i b, gIs 14 i = some b → XIs K (clK K i) ∧ PySem.W.kitOne K (.ref (clK K i)) (.ref (He.ga K ("InvalidPrices" : Str))) = some b := kn.is (j := 14) (by decide)
theorem Kn.is_InvalidBounds (kn : Kn K mg) : ∀ i b, gIs 15 i = some b → XIs K (clK K i) ∧ PySem.W.kitOne K (.ref (clK K i)) (.ref (He.ga K ("InvalidBounds" : Str))) = some b := kn.is (j := 15) (by decide)
theorem Kn.is_InvalidMoves (kn : Kn K mg) : ∀ i b, gIs 16 i = some b → XIs K (clK K i) ∧ PySem.W.kitOne K (.ref (clK K i)) (.ref (He.ga K ("InvalidMoves" : Str))) = some b := kn.is (j := 16) (by decide)
theorem Kn.is_InvalidEnds (kn : Kn K mg) : ∀ i b, gIs 17 i = some b → XIs K (clK K i) ∧ PySem.W.kitOne K (.ref (clK K i)) (.ref (He.ga K ("InvalidEnds" : Str))) = some b := kn.is (j := 17) (by decide)
theorem Kn.is_InvalidHabits (kn : Kn K mg) : ∀ i b, gIs 18 i = some b → XIs K (clK K i) ∧ PySem.W.kitOne K (.ref (clK K i)) (.ref (He.ga K ("InvalidHabits" : Str))) = some b := kn.is (j := 18) (by decide)
theorem Kn.is_InvalidShares (kn : Kn K mg) : ∀ i b, gIs 19 i = some b → XIs K (clK K i) ∧ PySem.W.kitOne K (.ref (clK K i)) (.ref (He.ga K ("InvalidShares" : Str))) = some b := kn.is (j := 19) (by decide)
theorem Kn.is_InvalidText (kn : Kn K mg) : ∀ i b, gIs 20 i = some b → XIs K (clK K i) ∧ PySem.W.kitOne K (.ref (clK K i)) (.ref (He.ga K ("InvalidText" : Str))) = some b := kn.is (j := 20) (by decide)
theorem Kn.is_InvalidClaim (kn : Kn K mg) : ∀ i b, gIs 21 i = some b → XIs K (clK K i) ∧ PySem.W.kitOne K (.ref (clK K i)) (.ref (He.ga K ("InvalidClaim" : Str))) = some b := kn.is (j := 21) (by decide)
theorem Kn.is_InvalidCommand (kn : Kn K mg) : ∀ i b, gIs 22 i = some b → XIs K (clK K i) ∧ PySem.W.kitOne K (.ref (clK K i)) (.ref (He.ga K ("InvalidCommand" : Str))) = some b := kn.is (j := 22) (by decide)
theorem Kn.is_MissingError (kn : Kn K mg) : ∀ i b, gIs 23 i = some b → XIs K (clK K i) ∧ PySem.W.kitOne K (.ref (clK K i)) (.ref (He.ga K ("MissingError" : Str))) = some b := kn.is (j := 23) (by decide)
theorem Kn.is_UnknownWay (kn : Kn K mg) : ∀ i b, gIs 24 i = some b → XIs K (clK K i) ∧ PySem.W.kitOne K (.ref (clK K i)) (.ref (He.ga K ("UnknownWay" : Str))) = some b := kn.is (j := 24) (by decide)
theorem Kn.is_NoSuch (kn : Kn K mg) : ∀ i b, gIs 25 i = some b → XIs K (clK K i) ∧ PySem.W.kitOne K (.ref (clK K i)) (.ref (He.ga K ("NoSuch" : Str))) = some b := kn.is (j := 25) (by decide)
theorem Kn.is_StateError (kn : Kn K mg) : ∀ i b, gIs 26 i = some b → XIs K (clK K i) ∧ PySem.W.kitOne K (.ref (clK K i)) (.ref (He.ga K ("StateError" : Str))) = some b := kn.is (j := 26) (by decide)
theorem Kn.is_OtherSteps (kn : Kn K mg) : ∀ i b, gIs 27 i = some b → XIs K (clK K i) ∧ PySem.W.kitOne K (.ref (clK K i)) (.ref (He.ga K ("OtherSteps" : Str))) = some b := kn.is (j := 27) (by decide)
theorem Kn.is_OtherStair (kn : Kn K mg) : ∀ i b, gIs 28 i = some b → XIs K (clK K i) ∧ PySem.W.kitOne K (.ref (clK K i)) (.ref (He.ga K ("OtherStair" : Str))) = some b := kn.is (j := 28) (by decide)
theorem Kn.is_NotTogether (kn : Kn K mg) : ∀ i b, gIs 29 i = some b → XIs K (clK K i) ∧ PySem.W.kitOne K (.ref (clK K i)) (.ref (He.ga K ("NotTogether" : Str))) = some b := kn.is (j := 29) (by decide)
theorem Kn.is_NothingFits (kn : Kn K mg) : ∀ i b, gIs 30 i = some b → XIs K (clK K i) ∧ PySem.W.kitOne K (.ref (clK K i)) (.ref (He.ga K ("NothingFits" : Str))) = some b := kn.is (j := 30) (by decide)
theorem Kn.is_Endless (kn : Kn K mg) : ∀ i b, gIs 31 i = some b → XIs K (clK K i) ∧ PySem.W.kitOne K (.ref (clK K i)) (.ref (He.ga K ("Endless" : Str))) = some b := kn.is (j := 31) (by decide)
theorem Kn.is_NotBetween (kn : Kn K mg) : ∀ i b, gIs 32 i = some b → XIs K (clK K i) ∧ PySem.W.kitOne K (.ref (clK K i)) (.ref (He.ga K ("NotBetween" : Str))) = some b := kn.is (j := 32) (by decide)
theorem Kn.is_Unmeeting (kn : Kn K mg) : ∀ i b, gIs 33 i = some b → XIs K (clK K i) ∧ PySem.W.kitOne K (.ref (clK K i)) (.ref (He.ga K ("Unmeeting" : Str))) = some b := kn.is (j := 33) (by decide)
theorem Kn.is_NothingToUndo (kn : Kn K mg) : ∀ i b, gIs 34 i = some b → XIs K (clK K i) ∧ PySem.W.kitOne K (.ref (clK K i)) (.ref (He.ga K ("NothingToUndo" : Str))) = some b := kn.is (j := 34) (by decide)
theorem Kn.is_CommandFailed (kn : Kn K mg) : ∀ i b, gIs 35 i = some b → XIs K (clK K i) ∧ PySem.W.kitOne K (.ref (clK K i)) (.ref (He.ga K ("CommandFailed" : Str))) = some b := kn.is (j := 35) (by decide)
theorem Kn.is_LimitError (kn : Kn K mg) : ∀ i b, gIs 36 i = some b → XIs K (clK K i) ∧ PySem.W.kitOne K (.ref (clK K i)) (.ref (He.ga K ("LimitError" : Str))) = some b := kn.is (j := 36) (by decide)
theorem Kn.is_TooMany (kn : Kn K mg) : ∀ i b, gIs 37 i = some b → XIs K (clK K i) ∧ PySem.W.kitOne K (.ref (clK K i)) (.ref (He.ga K ("TooMany" : Str))) = some b := kn.is (j := 37) (by decide)
theorem Kn.is_ArithmeticError (kn : Kn K mg) : ∀ i b, gIsT ("ArithmeticError" : Str) i = some b → XIs K (clK K i) ∧ PySem.W.kitOne K (.ref (clK K i)) (.type "ArithmeticError") = some b := kn.isT (x := ("ArithmeticError", ("ArithmeticError" : Str))) (by decide)
theorem Kn.is_LookupError (kn : Kn K mg) : ∀ i b, gIsT ("LookupError" : Str) i = some b → XIs K (clK K i) ∧ PySem.W.kitOne K (.ref (clK K i)) (.type "LookupError") = some b := kn.isT (x := ("LookupError", ("LookupError" : Str))) (by decide)
theorem Kn.is_RuntimeError (kn : Kn K mg) : ∀ i b, gIsT ("RuntimeError" : Str) i = some b → XIs K (clK K i) ∧ PySem.W.kitOne K (.ref (clK K i)) (.type "RuntimeError") = some b := kn.isT (x := ("RuntimeError", ("RuntimeError" : Str))) (by decide)
theorem Kn.is_ValueError (kn : Kn K mg) : ∀ i b, gIsT ("ValueError" : Str) i = some b → XIs K (clK K i) ∧ PySem.W.kitOne K (.ref (clK K i)) (.type "ValueError") = some b := kn.isT (x := ("ValueError", ("ValueError" : Str))) (by decide)
theorem Kn.ex (kn : Kn K mg) {j : Nat} (hj : j ∈ caught) : ∀ i b, gIs j i = some b → PySem.W.exmOne K (.ref (clK K i)) (.ref (clK K j)) = some b := fun i b h => by
  rw [← h]
  exact of_decide_eq_true (List.all_eq_true.mp (List.all_eq_true.mp kn.e6 i (okC_lt (gIs_ok h))) j hj)
theorem Kn.ex_StairError (kn : Kn K mg) : ∀ i b, gIs 0 i = some b → PySem.W.exmOne K (.ref (clK K i)) (.ref (He.ga K ("StairError" : Str))) = some b := kn.ex (j := 0) (by decide)
theorem Kn.ex_MissingError (kn : Kn K mg) : ∀ i b, gIs 23 i = some b → PySem.W.exmOne K (.ref (clK K i)) (.ref (He.ga K ("MissingError" : Str))) = some b := kn.ex (j := 23) (by decide)
theorem Kn.ex_StateError (kn : Kn K mg) : ∀ i b, gIs 26 i = some b → PySem.W.exmOne K (.ref (clK K i)) (.ref (He.ga K ("StateError" : Str))) = some b := kn.ex (j := 26) (by decide)
theorem Kn.ex_NotBetween (kn : Kn K mg) : ∀ i b, gIs 32 i = some b → PySem.W.exmOne K (.ref (clK K i)) (.ref (He.ga K ("NotBetween" : Str))) = some b := kn.ex (j := 32) (by decide)
theorem Kn.ex_LimitError (kn : Kn K mg) : ∀ i b, gIs 36 i = some b → PySem.W.exmOne K (.ref (clK K i)) (.ref (He.ga K ("LimitError" : Str))) = some b := kn.ex (j := 36) (by decide)
end
section
variable {P : Program} {w : World} {K : PySem.W.Frag} {mg : Str → Option Value} {base : Heap}
theorem sci_InvalidSteps : FnScope [("self" : Str), ("value" : Str)] [("self" : Str), ("value" : Str)] (defScope s_i_InvalidSteps) := ⟨rfl, rfl, rfl, by decide +kernel, rfl, by decide +kernel, by decide +kernel⟩
theorem fi_InvalidSteps (kn : Kn K mg) : ∃ fd, FunD K "__init__" ("InvalidSteps.__init__" : Str) (defArgs s_i_InvalidSteps) (defBody s_i_InvalidSteps) (defScope s_i_InvalidSteps) [] [] (He.ma K (He.ga K ("InvalidSteps" : Str)) "__init__") fd ∧ FnOk P w K mg base CX0 1 (He.ma K (He.ga K ("InvalidSteps" : Str)) "__init__") fd [("self" : Str), ("value" : Str)] (spInit (He.ga K ("InvalidSteps" : Str)) [("value" : Str)]) := by
  obtain ⟨fd, F⟩ := kn.s.def_ 20 (d := d_i_InvalidSteps) rfl
  exact ⟨fd, F, FunD.ok (k := 0) F sci_InvalidSteps (initLen _) (fun cdv A outer s H vs Q E hr h => ⟨_, (pss_cons (ps_expr (pe_xinit rfl kn.glo_StairError kn.xr_StairError.1 kn.xr_StairError.2 (pa_cons (pe_var (i := 0) rfl (.inl rfl)) (pa_cons pe_str pa_nil)) rfl)) (pss_one (ps_xst (pe_var (i := 0) rfl (.inl rfl)) (pe_var (i := 1) rfl (.inl rfl))))), pureI1 kn.xc_InvalidSteps (kn.no (i := 1) rfl (by decide)) h⟩)⟩
theorem in_InvalidSteps (kn : Kn K mg) : InitOk P w K mg base (He.ga K ("InvalidSteps" : Str)) [("value" : Str)] := by
  obtain ⟨fd, F, O⟩ := fi_InvalidSteps (P := P) (w := w) (base := base) kn
  exact ⟨_, fd, [("self" : Str), ("value" : Str)], kn.xm_InvalidSteps, O, F.bindsN (fun _ _ _ _ _ _ us hl => match us, hl with | [_, _], _ => rfl), by decide⟩
theorem kw_InvalidSteps_s (kn : Kn K mg) : InitKw P w K mg base (He.ga K ("InvalidSteps" : Str)) [("value" : Str)] [("value" : Str)] false := by
  obtain ⟨fd, F, O⟩ := fi_InvalidSteps (P := P) (w := w) (base := base) kn
  exact ⟨_, fd, [("self" : Str), ("value" : Str)], kn.xm_InvalidSteps, O, kb_init F (fun _ _ _ _ _ _ u ws hl => match ws, hl with | [_], _ => rfl), by decide, rfl⟩
theorem sci_InvalidJumps : FnScope [("self" : Str), ("position" : Str)] [("self" : Str), ("position" : Str)] (defScope s_i_InvalidJumps) := ⟨rfl, rfl, rfl, by decide +kernel, rfl, by decide +kernel, by decide +kernel⟩
theorem fi_InvalidJumps (kn : Kn K mg) : ∃ fd, FunD K "__init__" ("InvalidJumps.__init__" : Str) (defArgs s_i_InvalidJumps) (defBody s_i_InvalidJumps) (defScope s_i_InvalidJumps) [] [] (He.ma K (He.ga K ("InvalidJumps" : Str)) "__init__") fd ∧ FnOk P w K mg base CX0 1 (He.ma K (He.ga K ("InvalidJumps" : Str)) "__init__") fd [("self" : Str), ("position" : Str)] (spInit (He.ga K ("InvalidJumps" : Str)) [("position" : Str)]) := by
  obtain ⟨fd, F⟩ := kn.s.def_ 21 (d := d_i_InvalidJumps) rfl
  exact ⟨fd, F, FunD.ok (k := 0) F sci_InvalidJumps (initLen _) (fun cdv A outer s H vs Q E hr h => ⟨_, (pss_cons (ps_expr (pe_xinit rfl kn.glo_StairError kn.xr_StairError.1 kn.xr_StairError.2 (pa_cons (pe_var (i := 0) rfl (.inl rfl)) (pa_cons pe_str pa_nil)) rfl)) (pss_one (ps_xst (pe_var (i := 0) rfl (.inl rfl)) (pe_var (i := 1) rfl (.inl rfl))))), pureI1 kn.xc_InvalidJumps (kn.no (i := 2) rfl (by decide)) h⟩)⟩
theorem in_InvalidJumps (kn : Kn K mg) : InitOk P w K mg base (He.ga K ("InvalidJumps" : Str)) [("position" : Str)] := by
  obtain ⟨fd, F, O⟩ := fi_InvalidJumps (P := P) (w := w) (base := base) kn
  exact ⟨_, fd, [("self" : Str), ("position" : Str)], kn.xm_InvalidJumps, O, F.bindsN (fun _ _ _ _ _ _ us hl => match us, hl with | [_, _], _ => rfl), by decide⟩
theorem kw_InvalidJumps_s (kn : Kn K mg) : InitKw P w K mg base (He.ga K ("InvalidJumps" : Str)) [("position" : Str)] [("position" : Str)] false := by
  obtain ⟨fd, F, O⟩ := fi_InvalidJumps (P := P) (w := w) (base := base) kn
  exact ⟨_, fd, [("self" : Str), ("position" : Str)], kn.xm_InvalidJumps, O, kb_init F (fun _ _ _ _ _ _ u ws hl => match ws, hl with | [_], _ => rfl), by decide, rfl⟩
theorem sci_InvalidJump : FnScope [("self" : Str), ("value" : Str)] [("self" : Str), ("value" : Str)] (defScope s_i_InvalidJump) := ⟨rfl, rfl, rfl, by decide +kernel, rfl, by decide +kernel, by decide +kernel⟩
theorem fi_InvalidJump (kn : Kn K mg) : ∃ fd, FunD K "__init__" ("InvalidJump.__init__" : Str) (defArgs s_i_InvalidJump) (defBody s_i_InvalidJump) (defScope s_i_InvalidJump) [] [] (He.ma K (He.ga K ("InvalidJump" : Str)) "__init__") fd ∧ FnOk P w K mg base CX0 1 (He.ma K (He.ga K ("InvalidJump" : Str)) "__init__") fd [("self" : Str), ("value" : Str)] (spInit (He.ga K ("InvalidJump" : Str)) [("value" : Str)]) := by
  obtain ⟨fd, F⟩ := kn.s.def_ 22 (d := d_i_InvalidJump) rfl
  exact ⟨fd, F, FunD.ok (k := 0) F sci_InvalidJump (initLen _) (fun cdv A outer s H vs Q E hr h => ⟨_, (pss_cons (ps_expr (pe_xinit rfl kn.glo_StairError kn.xr_StairError.1 kn.xr_StairError.2 (pa_cons (pe_var (i := 0) rfl (.inl rfl)) (pa_cons pe_str pa_nil)) rfl)) (pss_one (ps_xst (pe_var (i := 0) rfl (.inl rfl)) (pe_var (i := 1) rfl (.inl rfl))))), pureI1 kn.xc_InvalidJump (kn.no (i := 3) rfl (by decide)) h⟩)⟩
theorem in_InvalidJump (kn : Kn K mg) : InitOk P w K mg base (He.ga K ("InvalidJump" : Str)) [("value" : Str)] := by
  obtain ⟨fd, F, O⟩ := fi_InvalidJump (P := P) (w := w) (base := base) kn
  exact ⟨_, fd, [("self" : Str), ("value" : Str)], kn.xm_InvalidJump, O, F.bindsN (fun _ _ _ _ _ _ us hl => match us, hl with | [_, _], _ => rfl), by decide⟩
theorem kw_InvalidJump_s (kn : Kn K mg) : InitKw P w K mg base (He.ga K ("InvalidJump" : Str)) [("value" : Str)] [("value" : Str)] false := by
  obtain ⟨fd, F, O⟩ := fi_InvalidJump (P := P) (w := w) (base := base) kn
  exact ⟨_, fd, [("self" : Str), ("value" : Str)], kn.xm_InvalidJump, O, kb_init F (fun _ _ _ _ _ _ u ws hl => match ws, hl with | [_], _ => rfl), by decide, rfl⟩
theorem sci_InvalidLengths : FnScope [("self" : Str), ("position" : Str)] [("self" : Str), ("position" : Str)] (defScope s_i_InvalidLengths) := ⟨rfl, rfl, rfl, by decide +kernel, rfl, by decide +kernel, by decide +kernel⟩
theorem fi_InvalidLengths (kn : Kn K mg) : ∃ fd, FunD K "__init__" ("InvalidLengths.__init__" : Str) (defArgs s_i_InvalidLengths) (defBody s_i_InvalidLengths) (defScope s_i_InvalidLengths) [] [] (He.ma K (He.ga K ("InvalidLengths" : Str)) "__init__") fd ∧ FnOk P w K mg base CX0 1 (He.ma K (He.ga K ("InvalidLengths" : Str)) "__init__") fd [("self" : Str), ("position" : Str)] (spInit (He.ga K ("InvalidLengths" : Str)) [("position" : Str)]) := by
  obtain ⟨fd, F⟩ := kn.s.def_ 23 (d := d_i_InvalidLengths) rfl
  exact ⟨fd, F, FunD.ok (k := 0) F sci_InvalidLengths (initLen _) (fun cdv A outer s H vs Q E hr h => ⟨_, (pss_cons (ps_expr (pe_xinit rfl kn.glo_StairError kn.xr_StairError.1 kn.xr_StairError.2 (pa_cons (pe_var (i := 0) rfl (.inl rfl)) (pa_cons pe_str pa_nil)) rfl)) (pss_one (ps_xst (pe_var (i := 0) rfl (.inl rfl)) (pe_var (i := 1) rfl (.inl rfl))))), pureI1 kn.xc_InvalidLengths (kn.no (i := 4) rfl (by decide)) h⟩)⟩
theorem in_InvalidLengths (kn : Kn K mg) : InitOk P w K mg base (He.ga K ("InvalidLengths" : Str)) [("position" : Str)] := by
  obtain ⟨fd, F, O⟩ := fi_InvalidLengths (P := P) (w := w) (base := base) kn
  exact ⟨_, fd, [("self" : Str), ("position" : Str)], kn.xm_InvalidLengths, O, F.bindsN (fun _ _ _ _ _ _ us hl => match us, hl with | [_, _], _ => rfl), by decide⟩
theorem kw_InvalidLengths_s (kn : Kn K mg) : InitKw P w K mg base (He.ga K ("InvalidLengths" : Str)) [("position" : Str)] [("position" : Str)] false := by
  obtain ⟨fd, F, O⟩ := fi_InvalidLengths (P := P) (w := w) (base := base) kn
  exact ⟨_, fd, [("self" : Str), ("position" : Str)], kn.xm_InvalidLengths, O, kb_init F (fun _ _ _ _ _ _ u ws hl => match ws, hl with | [_], _ => rfl), by decide, rfl⟩
theorem sci_InvalidWay : FnScope [("self" : Str), ("value" : Str)] [("self" : Str), ("value" : Str)] (defScope s_i_InvalidWay) := ⟨rfl, rfl, rfl, by decide +kernel, rfl, by decide +kernel, by decide +kernel⟩
theorem fi_InvalidWay (kn : Kn K mg) : ∃ fd, FunD K "__init__" ("InvalidWay.__init__" : Str) (defArgs s_i_InvalidWay) (defBody s_i_InvalidWay) (defScope s_i_InvalidWay) [] [] (He.ma K (He.ga K ("InvalidWay" : Str)) "__init__") fd ∧ FnOk P w K mg base CX0 1 (He.ma K (He.ga K ("InvalidWay" : Str)) "__init__") fd [("self" : Str), ("value" : Str)] (spInit (He.ga K ("InvalidWay" : Str)) [("value" : Str)]) := by
  obtain ⟨fd, F⟩ := kn.s.def_ 24 (d := d_i_InvalidWay) rfl
  exact ⟨fd, F, FunD.ok (k := 0) F sci_InvalidWay (initLen _) (fun cdv A outer s H vs Q E hr h => ⟨_, (pss_cons (ps_expr (pe_xinit rfl kn.glo_StairError kn.xr_StairError.1 kn.xr_StairError.2 (pa_cons (pe_var (i := 0) rfl (.inl rfl)) (pa_cons pe_str pa_nil)) rfl)) (pss_one (ps_xst (pe_var (i := 0) rfl (.inl rfl)) (pe_var (i := 1) rfl (.inl rfl))))), pureI1 kn.xc_InvalidWay (kn.no (i := 5) rfl (by decide)) h⟩)⟩
theorem in_InvalidWay (kn : Kn K mg) : InitOk P w K mg base (He.ga K ("InvalidWay" : Str)) [("value" : Str)] := by
  obtain ⟨fd, F, O⟩ := fi_InvalidWay (P := P) (w := w) (base := base) kn
  exact ⟨_, fd, [("self" : Str), ("value" : Str)], kn.xm_InvalidWay, O, F.bindsN (fun _ _ _ _ _ _ us hl => match us, hl with | [_, _], _ => rfl), by decide⟩
theorem kw_InvalidWay_s (kn : Kn K mg) : InitKw P w K mg base (He.ga K ("InvalidWay" : Str)) [("value" : Str)] [("value" : Str)] false := by
  obtain ⟨fd, F, O⟩ := fi_InvalidWay (P := P) (w := w) (base := base) kn
  exact ⟨_, fd, [("self" : Str), ("value" : Str)], kn.xm_InvalidWay, O, kb_init F (fun _ _ _ _ _ _ u ws hl => match ws, hl with | [_], _ => rfl), by decide, rfl⟩
theorem sci_InvalidThing : FnScope [("self" : Str), ("value" : Str)] [("self" : Str), ("value" : Str)] (defScope s_i_InvalidThing) := ⟨rfl, rfl, rfl, by decide +kernel, rfl, by decide +kernel, by decide +kernel⟩
theorem fi_InvalidThing (kn : Kn K mg) : ∃ fd, FunD K "__init__" ("InvalidThing.__init__" : Str) (defArgs s_i_InvalidThing) (defBody s_i_InvalidThing) (defScope s_i_InvalidThing) [] [] (He.ma K (He.ga K ("InvalidThing" : Str)) "__init__") fd ∧ FnOk P w K mg base CX0 1 (He.ma K (He.ga K ("InvalidThing" : Str)) "__init__") fd [("self" : Str), ("value" : Str)] (spInit (He.ga K ("InvalidThing" : Str)) [("value" : Str)]) := by
  obtain ⟨fd, F⟩ := kn.s.def_ 25 (d := d_i_InvalidThing) rfl
  exact ⟨fd, F, FunD.ok (k := 0) F sci_InvalidThing (initLen _) (fun cdv A outer s H vs Q E hr h => ⟨_, (pss_cons (ps_expr (pe_xinit rfl kn.glo_StairError kn.xr_StairError.1 kn.xr_StairError.2 (pa_cons (pe_var (i := 0) rfl (.inl rfl)) (pa_cons pe_str pa_nil)) rfl)) (pss_one (ps_xst (pe_var (i := 0) rfl (.inl rfl)) (pe_var (i := 1) rfl (.inl rfl))))), pureI1 kn.xc_InvalidThing (kn.no (i := 6) rfl (by decide)) h⟩)⟩
theorem in_InvalidThing (kn : Kn K mg) : InitOk P w K mg base (He.ga K ("InvalidThing" : Str)) [("value" : Str)] := by
  obtain ⟨fd, F, O⟩ := fi_InvalidThing (P := P) (w := w) (base := base) kn
  exact ⟨_, fd, [("self" : Str), ("value" : Str)], kn.xm_InvalidThing, O, F.bindsN (fun _ _ _ _ _ _ us hl => match us, hl with | [_, _], _ => rfl), by decide⟩
theorem kw_InvalidThing_s (kn : Kn K mg) : InitKw P w K mg base (He.ga K ("InvalidThing" : Str)) [("value" : Str)] [("value" : Str)] false := by
  obtain ⟨fd, F, O⟩ := fi_InvalidThing (P := P) (w := w) (base := base) kn
  exact ⟨_, fd, [("self" : Str), ("value" : Str)], kn.xm_InvalidThing, O, kb_init F (fun _ _ _ _ _ _ u ws hl => match ws, hl with | [_], _ => rfl), by decide, rfl⟩
theorem sci_InvalidScore : FnScope [("self" : Str), ("value" : Str)] [("self" : Str), ("value" : Str)] (defScope s_i_InvalidScore) := ⟨rfl, rfl, rfl, by decide +kernel, rfl, by decide +kernel, by decide +kernel⟩
theorem fi_InvalidScore (kn : Kn K mg) : ∃ fd, FunD K "__init__" ("InvalidScore.__init__" : Str) (defArgs s_i_InvalidScore) (defBody s_i_InvalidScore) (defScope s_i_InvalidScore) [] [] (He.ma K (He.ga K ("InvalidScore" : Str)) "__init__") fd ∧ FnOk P w K mg base CX0 1 (He.ma K (He.ga K ("InvalidScore" : Str)) "__init__") fd [("self" : Str), ("value" : Str)] (spInit (He.ga K ("InvalidScore" : Str)) [("value" : Str)]) := by
  obtain ⟨fd, F⟩ := kn.s.def_ 26 (d := d_i_InvalidScore) rfl
  exact ⟨fd, F, FunD.ok (k := 0) F sci_InvalidScore (initLen _) (fun cdv A outer s H vs Q E hr h => ⟨_, (pss_cons (ps_expr (pe_xinit rfl kn.glo_StairError kn.xr_StairError.1 kn.xr_StairError.2 (pa_cons (pe_var (i := 0) rfl (.inl rfl)) (pa_cons pe_str pa_nil)) rfl)) (pss_one (ps_xst (pe_var (i := 0) rfl (.inl rfl)) (pe_var (i := 1) rfl (.inl rfl))))), pureI1 kn.xc_InvalidScore (kn.no (i := 7) rfl (by decide)) h⟩)⟩
theorem in_InvalidScore (kn : Kn K mg) : InitOk P w K mg base (He.ga K ("InvalidScore" : Str)) [("value" : Str)] := by
  obtain ⟨fd, F, O⟩ := fi_InvalidScore (P := P) (w := w) (base := base) kn
  exact ⟨_, fd, [("self" : Str), ("value" : Str)], kn.xm_InvalidScore, O, F.bindsN (fun _ _ _ _ _ _ us hl => match us, hl with | [_, _], _ => rfl), by decide⟩
theorem kw_InvalidScore_s (kn : Kn K mg) : InitKw P w K mg base (He.ga K ("InvalidScore" : Str)) [("value" : Str)] [("value" : Str)] false := by
  obtain ⟨fd, F, O⟩ := fi_InvalidScore (P := P) (w := w) (base := base) kn
  exact ⟨_, fd, [("self" : Str), ("value" : Str)], kn.xm_InvalidScore, O, kb_init F (fun _ _ _ _ _ _ u ws hl => match ws, hl with | [_], _ => rfl), by decide, rfl⟩
theorem sci_InvalidWays : FnScope [("self" : Str), ("value" : Str)] [("self" : Str), ("value" : Str)] (defScope s_i_InvalidWays) := ⟨rfl, rfl, rfl, by decide +kernel, rfl, by decide +kernel, by decide +kernel⟩
theorem fi_InvalidWays (kn : Kn K mg) : ∃ fd, FunD K "__init__" ("InvalidWays.__init__" : Str) (defArgs s_i_InvalidWays) (defBody s_i_InvalidWays) (defScope s_i_InvalidWays) [] [] (He.ma K (He.ga K ("InvalidWays" : Str)) "__init__") fd ∧ FnOk P w K mg base CX0 1 (He.ma K (He.ga K ("InvalidWays" : Str)) "__init__") fd [("self" : Str), ("value" : Str)] (spInit (He.ga K ("InvalidWays" : Str)) [("value" : Str)]) := by
  obtain ⟨fd, F⟩ := kn.s.def_ 27 (d := d_i_InvalidWays) rfl
  exact ⟨fd, F, FunD.ok (k := 0) F sci_InvalidWays (initLen _) (fun cdv A outer s H vs Q E hr h => ⟨_, (pss_cons (ps_expr (pe_xinit rfl kn.glo_StairError kn.xr_StairError.1 kn.xr_StairError.2 (pa_cons (pe_var (i := 0) rfl (.inl rfl)) (pa_cons pe_str pa_nil)) rfl)) (pss_one (ps_xst (pe_var (i := 0) rfl (.inl rfl)) (pe_var (i := 1) rfl (.inl rfl))))), pureI1 kn.xc_InvalidWays (kn.no (i := 8) rfl (by decide)) h⟩)⟩
theorem in_InvalidWays (kn : Kn K mg) : InitOk P w K mg base (He.ga K ("InvalidWays" : Str)) [("value" : Str)] := by
  obtain ⟨fd, F, O⟩ := fi_InvalidWays (P := P) (w := w) (base := base) kn
  exact ⟨_, fd, [("self" : Str), ("value" : Str)], kn.xm_InvalidWays, O, F.bindsN (fun _ _ _ _ _ _ us hl => match us, hl with | [_, _], _ => rfl), by decide⟩
theorem kw_InvalidWays_s (kn : Kn K mg) : InitKw P w K mg base (He.ga K ("InvalidWays" : Str)) [("value" : Str)] [("value" : Str)] false := by
  obtain ⟨fd, F, O⟩ := fi_InvalidWays (P := P) (w := w) (base := base) kn
  exact ⟨_, fd, [("self" : Str), ("value" : Str)], kn.xm_InvalidWays, O, kb_init F (fun _ _ _ _ _ _ u ws hl => match ws, hl with | [_], _ => rfl), by decide, rfl⟩
theorem sci_InvalidCount : FnScope [("self" : Str), ("value" : Str)] [("self" : Str), ("value" : Str)] (defScope s_i_InvalidCount) := ⟨rfl, rfl, rfl, by decide +kernel, rfl, by decide +kernel, by decide +kernel⟩
theorem fi_InvalidCount (kn : Kn K mg) : ∃ fd, FunD K "__init__" ("InvalidCount.__init__" : Str) (defArgs s_i_InvalidCount) (defBody s_i_InvalidCount) (defScope s_i_InvalidCount) [] [] (He.ma K (He.ga K ("InvalidCount" : Str)) "__init__") fd ∧ FnOk P w K mg base CX0 1 (He.ma K (He.ga K ("InvalidCount" : Str)) "__init__") fd [("self" : Str), ("value" : Str)] (spInit (He.ga K ("InvalidCount" : Str)) [("value" : Str)]) := by
  obtain ⟨fd, F⟩ := kn.s.def_ 28 (d := d_i_InvalidCount) rfl
  exact ⟨fd, F, FunD.ok (k := 0) F sci_InvalidCount (initLen _) (fun cdv A outer s H vs Q E hr h => ⟨_, (pss_cons (ps_expr (pe_xinit rfl kn.glo_StairError kn.xr_StairError.1 kn.xr_StairError.2 (pa_cons (pe_var (i := 0) rfl (.inl rfl)) (pa_cons pe_str pa_nil)) rfl)) (pss_one (ps_xst (pe_var (i := 0) rfl (.inl rfl)) (pe_var (i := 1) rfl (.inl rfl))))), pureI1 kn.xc_InvalidCount (kn.no (i := 9) rfl (by decide)) h⟩)⟩
theorem in_InvalidCount (kn : Kn K mg) : InitOk P w K mg base (He.ga K ("InvalidCount" : Str)) [("value" : Str)] := by
  obtain ⟨fd, F, O⟩ := fi_InvalidCount (P := P) (w := w) (base := base) kn
  exact ⟨_, fd, [("self" : Str), ("value" : Str)], kn.xm_InvalidCount, O, F.bindsN (fun _ _ _ _ _ _ us hl => match us, hl with | [_, _], _ => rfl), by decide⟩
theorem kw_InvalidCount_s (kn : Kn K mg) : InitKw P w K mg base (He.ga K ("InvalidCount" : Str)) [("value" : Str)] [("value" : Str)] false := by
  obtain ⟨fd, F, O⟩ := fi_InvalidCount (P := P) (w := w) (base := base) kn
  exact ⟨_, fd, [("self" : Str), ("value" : Str)], kn.xm_InvalidCount, O, kb_init F (fun _ _ _ _ _ _ u ws hl => match ws, hl with | [_], _ => rfl), by decide, rfl⟩
theorem sci_InvalidFlow : FnScope [("self" : Str), ("value" : Str)] [("self" : Str), ("value" : Str)] (defScope s_i_InvalidFlow) := ⟨rfl, rfl, rfl, by decide +kernel, rfl, by decide +kernel, by decide +kernel⟩
theorem fi_InvalidFlow (kn : Kn K mg) : ∃ fd, FunD K "__init__" ("InvalidFlow.__init__" : Str) (defArgs s_i_InvalidFlow) (defBody s_i_InvalidFlow) (defScope s_i_InvalidFlow) [] [] (He.ma K (He.ga K ("InvalidFlow" : Str)) "__init__") fd ∧ FnOk P w K mg base CX0 1 (He.ma K (He.ga K ("InvalidFlow" : Str)) "__init__") fd [("self" : Str), ("value" : Str)] (spInit (He.ga K ("InvalidFlow" : Str)) [("value" : Str)]) := by
  obtain ⟨fd, F⟩ := kn.s.def_ 29 (d := d_i_InvalidFlow) rfl
  exact ⟨fd, F, FunD.ok (k := 0) F sci_InvalidFlow (initLen _) (fun cdv A outer s H vs Q E hr h => ⟨_, (pss_cons (ps_expr (pe_xinit rfl kn.glo_StairError kn.xr_StairError.1 kn.xr_StairError.2 (pa_cons (pe_var (i := 0) rfl (.inl rfl)) (pa_cons pe_str pa_nil)) rfl)) (pss_one (ps_xst (pe_var (i := 0) rfl (.inl rfl)) (pe_var (i := 1) rfl (.inl rfl))))), pureI1 kn.xc_InvalidFlow (kn.no (i := 10) rfl (by decide)) h⟩)⟩
theorem in_InvalidFlow (kn : Kn K mg) : InitOk P w K mg base (He.ga K ("InvalidFlow" : Str)) [("value" : Str)] := by
  obtain ⟨fd, F, O⟩ := fi_InvalidFlow (P := P) (w := w) (base := base) kn
  exact ⟨_, fd, [("self" : Str), ("value" : Str)], kn.xm_InvalidFlow, O, F.bindsN (fun _ _ _ _ _ _ us hl => match us, hl with | [_, _], _ => rfl), by decide⟩
theorem kw_InvalidFlow_s (kn : Kn K mg) : InitKw P w K mg base (He.ga K ("InvalidFlow" : Str)) [("value" : Str)] [("value" : Str)] false := by
  obtain ⟨fd, F, O⟩ := fi_InvalidFlow (P := P) (w := w) (base := base) kn
  exact ⟨_, fd, [("self" : Str), ("value" : Str)], kn.xm_InvalidFlow, O, kb_init F (fun _ _ _ _ _ _ u ws hl => match ws, hl with | [_], _ => rfl), by decide, rfl⟩
theorem sci_InvalidRun : FnScope [("self" : Str), ("value" : Str)] [("self" : Str), ("value" : Str)] (defScope s_i_InvalidRun) := ⟨rfl, rfl, rfl, by decide +kernel, rfl, by decide +kernel, by decide +kernel⟩
theorem fi_InvalidRun (kn : Kn K mg) : ∃ fd, FunD K "__init__" ("InvalidRun.__init__" : Str) (defArgs s_i_InvalidRun) (defBody s_i_InvalidRun) (defScope s_i_InvalidRun) [] [] (He.ma K (He.ga K ("InvalidRun" : Str)) "__init__") fd ∧ FnOk P w K mg base CX0 1 (He.ma K (He.ga K ("InvalidRun" : Str)) "__init__") fd [("self" : Str), ("value" : Str)] (spInit (He.ga K ("InvalidRun" : Str)) [("value" : Str)]) := by
  obtain ⟨fd, F⟩ := kn.s.def_ 30 (d := d_i_InvalidRun) rfl
  exact ⟨fd, F, FunD.ok (k := 0) F sci_InvalidRun (initLen _) (fun cdv A outer s H vs Q E hr h => ⟨_, (pss_cons (ps_expr (pe_xinit rfl kn.glo_StairError kn.xr_StairError.1 kn.xr_StairError.2 (pa_cons (pe_var (i := 0) rfl (.inl rfl)) (pa_cons pe_str pa_nil)) rfl)) (pss_one (ps_xst (pe_var (i := 0) rfl (.inl rfl)) (pe_var (i := 1) rfl (.inl rfl))))), pureI1 kn.xc_InvalidRun (kn.no (i := 11) rfl (by decide)) h⟩)⟩
theorem in_InvalidRun (kn : Kn K mg) : InitOk P w K mg base (He.ga K ("InvalidRun" : Str)) [("value" : Str)] := by
  obtain ⟨fd, F, O⟩ := fi_InvalidRun (P := P) (w := w) (base := base) kn
  exact ⟨_, fd, [("self" : Str), ("value" : Str)], kn.xm_InvalidRun, O, F.bindsN (fun _ _ _ _ _ _ us hl => match us, hl with | [_, _], _ => rfl), by decide⟩
theorem kw_InvalidRun_s (kn : Kn K mg) : InitKw P w K mg base (He.ga K ("InvalidRun" : Str)) [("value" : Str)] [("value" : Str)] false := by
  obtain ⟨fd, F, O⟩ := fi_InvalidRun (P := P) (w := w) (base := base) kn
  exact ⟨_, fd, [("self" : Str), ("value" : Str)], kn.xm_InvalidRun, O, kb_init F (fun _ _ _ _ _ _ u ws hl => match ws, hl with | [_], _ => rfl), by decide, rfl⟩
theorem sci_InvalidMark : FnScope [("self" : Str), ("value" : Str)] [("self" : Str), ("value" : Str)] (defScope s_i_InvalidMark) := ⟨rfl, rfl, rfl, by decide +kernel, rfl, by decide +kernel, by decide +kernel⟩
theorem fi_InvalidMark (kn : Kn K mg) : ∃ fd, FunD K "__init__" ("InvalidMark.__init__" : Str) (defArgs s_i_InvalidMark) (defBody s_i_InvalidMark) (defScope s_i_InvalidMark) [] [] (He.ma K (He.ga K ("InvalidMark" : Str)) "__init__") fd ∧ FnOk P w K mg base CX0 1 (He.ma K (He.ga K ("InvalidMark" : Str)) "__init__") fd [("self" : Str), ("value" : Str)] (spInit (He.ga K ("InvalidMark" : Str)) [("value" : Str)]) := by
  obtain ⟨fd, F⟩ := kn.s.def_ 31 (d := d_i_InvalidMark) rfl
  exact ⟨fd, F, FunD.ok (k := 0) F sci_InvalidMark (initLen _) (fun cdv A outer s H vs Q E hr h => ⟨_, (pss_cons (ps_expr (pe_xinit rfl kn.glo_StairError kn.xr_StairError.1 kn.xr_StairError.2 (pa_cons (pe_var (i := 0) rfl (.inl rfl)) (pa_cons pe_str pa_nil)) rfl)) (pss_one (ps_xst (pe_var (i := 0) rfl (.inl rfl)) (pe_var (i := 1) rfl (.inl rfl))))), pureI1 kn.xc_InvalidMark (kn.no (i := 12) rfl (by decide)) h⟩)⟩
theorem in_InvalidMark (kn : Kn K mg) : InitOk P w K mg base (He.ga K ("InvalidMark" : Str)) [("value" : Str)] := by
  obtain ⟨fd, F, O⟩ := fi_InvalidMark (P := P) (w := w) (base := base) kn
  exact ⟨_, fd, [("self" : Str), ("value" : Str)], kn.xm_InvalidMark, O, F.bindsN (fun _ _ _ _ _ _ us hl => match us, hl with | [_, _], _ => rfl), by decide⟩
theorem kw_InvalidMark_s (kn : Kn K mg) : InitKw P w K mg base (He.ga K ("InvalidMark" : Str)) [("value" : Str)] [("value" : Str)] false := by
  obtain ⟨fd, F, O⟩ := fi_InvalidMark (P := P) (w := w) (base := base) kn
  exact ⟨_, fd, [("self" : Str), ("value" : Str)], kn.xm_InvalidMark, O, kb_init F (fun _ _ _ _ _ _ u ws hl => match ws, hl with | [_], _ => rfl), by decide, rfl⟩
theorem sci_InvalidMarks : FnScope [("self" : Str), ("value" : Str)] [("self" : Str), ("value" : Str)] (defScope s_i_InvalidMarks) := ⟨rfl, rfl, rfl, by decide +kernel, rfl, by decide +kernel, by decide +kernel⟩
theorem fi_InvalidMarks (kn : Kn K mg) : ∃ fd, FunD K "__init__" ("InvalidMarks.__init__" : Str) (defArgs s_i_InvalidMarks) (defBody s_i_InvalidMarks) (defScope s_i_InvalidMarks) [] [] (He.ma K (He.ga K ("InvalidMarks" : Str)) "__init__") fd ∧ FnOk P w K mg base CX0 1 (He.ma K (He.ga K ("InvalidMarks" : Str)) "__init__") fd [("self" : Str), ("value" : Str)] (spInit (He.ga K ("InvalidMarks" : Str)) [("value" : Str)]) := by
  obtain ⟨fd, F⟩ := kn.s.def_ 32 (d := d_i_InvalidMarks) rfl
  exact ⟨fd, F, FunD.ok (k := 0) F sci_InvalidMarks (initLen _) (fun cdv A outer s H vs Q E hr h => ⟨_, (pss_cons (ps_expr (pe_xinit rfl kn.glo_StairError kn.xr_StairError.1 kn.xr_StairError.2 (pa_cons (pe_var (i := 0) rfl (.inl rfl)) (pa_cons pe_str pa_nil)) rfl)) (pss_one (ps_xst (pe_var (i := 0) rfl (.inl rfl)) (pe_var (i := 1) rfl (.inl rfl))))), pureI1 kn.xc_InvalidMarks (kn.no (i := 13) rfl (by decide)) h⟩)⟩
theorem in_InvalidMarks (kn : Kn K mg) : InitOk P w K mg base (He.ga K ("InvalidMarks" : Str)) [("value" : Str)] := by
  obtain ⟨fd, F, O⟩ := fi_InvalidMarks (P := P) (w := w) (base := base) kn
  exact ⟨_, fd, [("self" : Str), ("value" : Str)], kn.xm_InvalidMarks, O, F.bindsN (fun _ _ _ _ _ _ us hl => match us, hl with | [_, _], _ => rfl), by decide⟩
theorem kw_InvalidMarks_s (kn : Kn K mg) : InitKw P w K mg base (He.ga K ("InvalidMarks" : Str)) [("value" : Str)] [("value" : Str)] false := by
  obtain ⟨fd, F, O⟩ := fi_InvalidMarks (P := P) (w := w) (base := base) kn
  exact ⟨_, fd, [("self" : Str), ("value" : Str)], kn.xm_InvalidMarks, O, kb_init F (fun _ _ _ _ _ _ u ws hl => match ws, hl with | [_], _ => rfl), by decide, rfl⟩
theorem sci_InvalidPrices : FnScope [("self" : Str), ("value" : Str)] [("self" : Str), ("value" : Str)] (defScope s_i_InvalidPrices) := ⟨rfl, rfl, rfl, by decide +kernel, rfl, by decide +kernel, by decide +kernel⟩
theorem fi_InvalidPrices (kn : Kn K mg) : ∃ fd, FunD K "__init__" ("InvalidPrices.__init__" : Str) (defArgs s_i_InvalidPrices) (defBody s_i_InvalidPrices) (defScope s_i_InvalidPrices) [] [] (He.ma K (He.ga K ("InvalidPrices" : Str)) "__init__") fd ∧ FnOk P w K mg base CX0 1 (He.ma K (He.ga K ("InvalidPrices" : Str)) "__init__") fd [("self" : Str), ("value" : Str)] (spInit (He.ga K ("InvalidPrices" : Str)) [("value" : Str)]) := by
  obtain ⟨fd, F⟩ := kn.s.def_ 33 (d := d_i_InvalidPrices) rfl
  exact ⟨fd, F, FunD.ok (k := 0) F sci_InvalidPrices (initLen _) (fun cdv A outer s H vs Q E hr h => ⟨_, (pss_cons (ps_expr (pe_xinit rfl kn.glo_StairError kn.xr_StairError.1 kn.xr_StairError.2 (pa_cons (pe_var (i := 0) rfl (.inl rfl)) (pa_cons pe_str pa_nil)) rfl)) (pss_one (ps_xst (pe_var (i := 0) rfl (.inl rfl)) (pe_var (i := 1) rfl (.inl rfl))))), pureI1 kn.xc_InvalidPrices (kn.no (i := 14) rfl (by decide)) h⟩)⟩
theorem in_InvalidPrices (kn : Kn K mg) : InitOk P w K mg base (He.ga K ("InvalidPrices" : Str)) [("value" : Str)] := by
  obtain ⟨fd, F, O⟩ := fi_InvalidPrices (P := P) (w := w) (base := base) kn
  exact ⟨_, fd, [("self" : Str), ("value" : Str)], kn.xm_InvalidPrices, O, F.bindsN (fun _ _ _ _ _ _ us hl => match us, hl with | [_, _], _ => rfl), by decide⟩
theorem kw_InvalidPrices_s (kn : Kn K mg) : InitKw P w K mg base (He.ga K ("InvalidPrices" : Str)) [("value" : Str)] [("value" : Str)] false := by
  obtain ⟨fd, F, O⟩ := fi_InvalidPrices (P := P) (w := w) (base := base) kn
  exact ⟨_, fd, [("self" : Str), ("value" : Str)], kn.xm_InvalidPrices, O, kb_init F (fun _ _ _ _ _ _ u ws hl => match ws, hl with | [_], _ => rfl), by decide, rfl⟩
theorem sci_InvalidBounds : FnScope [("self" : Str), ("position" : Str)] [("self" : Str), ("position" : Str)] (defScope s_i_InvalidBounds) := ⟨rfl, rfl, rfl, by decide +kernel, rfl, by decide +kernel, by decide +kernel⟩
theorem fi_InvalidBounds (kn : Kn K mg) : ∃ fd, FunD K "__init__" ("InvalidBounds.__init__" : Str) (defArgs s_i_InvalidBounds) (defBody s_i_InvalidBounds) (defScope s_i_InvalidBounds) [] [] (He.ma K (He.ga K ("InvalidBounds" : Str)) "__init__") fd ∧ FnOk P w K mg base CX0 1 (He.ma K (He.ga K ("InvalidBounds" : Str)) "__init__") fd [("self" : Str), ("position" : Str)] (spInit (He.ga K ("InvalidBounds" : Str)) [("position" : Str)]) := by
  obtain ⟨fd, F⟩ := kn.s.def_ 34 (d := d_i_InvalidBounds) rfl
  exact ⟨fd, F, FunD.ok (k := 0) F sci_InvalidBounds (initLen _) (fun cdv A outer s H vs Q E hr h => ⟨_, (pss_cons (ps_expr (pe_xinit rfl kn.glo_StairError kn.xr_StairError.1 kn.xr_StairError.2 (pa_cons (pe_var (i := 0) rfl (.inl rfl)) (pa_cons pe_str pa_nil)) rfl)) (pss_one (ps_xst (pe_var (i := 0) rfl (.inl rfl)) (pe_var (i := 1) rfl (.inl rfl))))), pureI1 kn.xc_InvalidBounds (kn.no (i := 15) rfl (by decide)) h⟩)⟩
theorem in_InvalidBounds (kn : Kn K mg) : InitOk P w K mg base (He.ga K ("InvalidBounds" : Str)) [("position" : Str)] := by
  obtain ⟨fd, F, O⟩ := fi_InvalidBounds (P := P) (w := w) (base := base) kn
  exact ⟨_, fd, [("self" : Str), ("position" : Str)], kn.xm_InvalidBounds, O, F.bindsN (fun _ _ _ _ _ _ us hl => match us, hl with | [_, _], _ => rfl), by decide⟩
theorem kw_InvalidBounds_s (kn : Kn K mg) : InitKw P w K mg base (He.ga K ("InvalidBounds" : Str)) [("position" : Str)] [("position" : Str)] false := by
  obtain ⟨fd, F, O⟩ := fi_InvalidBounds (P := P) (w := w) (base := base) kn
  exact ⟨_, fd, [("self" : Str), ("position" : Str)], kn.xm_InvalidBounds, O, kb_init F (fun _ _ _ _ _ _ u ws hl => match ws, hl with | [_], _ => rfl), by decide, rfl⟩
theorem sci_InvalidMoves : FnScope [("self" : Str), ("value" : Str)] [("self" : Str), ("value" : Str)] (defScope s_i_InvalidMoves) := ⟨rfl, rfl, rfl, by decide +kernel, rfl, by decide +kernel, by decide +kernel⟩
theorem fi_InvalidMoves (kn : Kn K mg) : ∃ fd, FunD K "__init__" ("InvalidMoves.__init__" : Str) (defArgs s_i_InvalidMoves) (defBody s_i_InvalidMoves) (defScope s_i_InvalidMoves) [] [] (He.ma K (He.ga K ("InvalidMoves" : Str)) "__init__") fd ∧ FnOk P w K mg base CX0 1 (He.ma K (He.ga K ("InvalidMoves" : Str)) "__init__") fd [("self" : Str), ("value" : Str)] (spInit (He.ga K ("InvalidMoves" : Str)) [("value" : Str)]) := by
  obtain ⟨fd, F⟩ := kn.s.def_ 35 (d := d_i_InvalidMoves) rfl
  exact ⟨fd, F, FunD.ok (k := 0) F sci_InvalidMoves (initLen _) (fun cdv A outer s H vs Q E hr h => ⟨_, (pss_cons (ps_expr (pe_xinit rfl kn.glo_StairError kn.xr_StairError.1 kn.xr_StairError.2 (pa_cons (pe_var (i := 0) rfl (.inl rfl)) (pa_cons pe_str pa_nil)) rfl)) (pss_one (ps_xst (pe_var (i := 0) rfl (.inl rfl)) (pe_var (i := 1) rfl (.inl rfl))))), pureI1 kn.xc_InvalidMoves (kn.no (i := 16) rfl (by decide)) h⟩)⟩
theorem in_InvalidMoves (kn : Kn K mg) : InitOk P w K mg base (He.ga K ("InvalidMoves" : Str)) [("value" : Str)] := by
  obtain ⟨fd, F, O⟩ := fi_InvalidMoves (P := P) (w := w) (base := base) kn
  exact ⟨_, fd, [("self" : Str), ("value" : Str)], kn.xm_InvalidMoves, O, F.bindsN (fun _ _ _ _ _ _ us hl => match us, hl with | [_, _], _ => rfl), by decide⟩
theorem kw_InvalidMoves_s (kn : Kn K mg) : InitKw P w K mg base (He.ga K ("InvalidMoves" : Str)) [("value" : Str)] [("value" : Str)] false := by
  obtain ⟨fd, F, O⟩ := fi_InvalidMoves (P := P) (w := w) (base := base) kn
  exact ⟨_, fd, [("self" : Str), ("value" : Str)], kn.xm_InvalidMoves, O, kb_init F (fun _ _ _ _ _ _ u ws hl => match ws, hl with | [_], _ => rfl), by decide, rfl⟩
theorem sci_InvalidEnds : FnScope [("self" : Str), ("position" : Str)] [("self" : Str), ("position" : Str)] (defScope s_i_InvalidEnds) := ⟨rfl, rfl, rfl, by decide +kernel, rfl, by decide +kernel, by decide +kernel⟩
theorem fi_InvalidEnds (kn : Kn K mg) : ∃ fd, FunD K "__init__" ("InvalidEnds.__init__" : Str) (defArgs s_i_InvalidEnds) (defBody s_i_InvalidEnds) (defScope s_i_InvalidEnds) [] [] (He.ma K (He.ga K ("InvalidEnds" : Str)) "__init__") fd ∧ FnOk P w K mg base CX0 1 (He.ma K (He.ga K ("InvalidEnds" : Str)) "__init__") fd [("self" : Str), ("position" : Str)] (spInit (He.ga K ("InvalidEnds" : Str)) [("position" : Str)]) := by
  obtain ⟨fd, F⟩ := kn.s.def_ 36 (d := d_i_InvalidEnds) rfl
  exact ⟨fd, F, FunD.ok (k := 0) F sci_InvalidEnds (initLen _) (fun cdv A outer s H vs Q E hr h => ⟨_, (pss_cons (ps_expr (pe_xinit rfl kn.glo_StairError kn.xr_StairError.1 kn.xr_StairError.2 (pa_cons (pe_var (i := 0) rfl (.inl rfl)) (pa_cons pe_str pa_nil)) rfl)) (pss_one (ps_xst (pe_var (i := 0) rfl (.inl rfl)) (pe_var (i := 1) rfl (.inl rfl))))), pureI1 kn.xc_InvalidEnds (kn.no (i := 17) rfl (by decide)) h⟩)⟩
theorem in_InvalidEnds (kn : Kn K mg) : InitOk P w K mg base (He.ga K ("InvalidEnds" : Str)) [("position" : Str)] := by
  obtain ⟨fd, F, O⟩ := fi_InvalidEnds (P := P) (w := w) (base := base) kn
  exact ⟨_, fd, [("self" : Str), ("position" : Str)], kn.xm_InvalidEnds, O, F.bindsN (fun _ _ _ _ _ _ us hl => match us, hl with | [_, _], _ => rfl), by decide⟩
theorem kw_InvalidEnds_s (kn : Kn K mg) : InitKw P w K mg base (He.ga K ("InvalidEnds" : Str)) [("position" : Str)] [("position" : Str)] false := by
  obtain ⟨fd, F, O⟩ := fi_InvalidEnds (P := P) (w := w) (base := base) kn
  exact ⟨_, fd, [("self" : Str), ("position" : Str)], kn.xm_InvalidEnds, O, kb_init F (fun _ _ _ _ _ _ u ws hl => match ws, hl with | [_], _ => rfl), by decide, rfl⟩
theorem sci_InvalidHabits : FnScope [("self" : Str), ("value" : Str)] [("self" : Str), ("value" : Str)] (defScope s_i_InvalidHabits) := ⟨rfl, rfl, rfl, by decide +kernel, rfl, by decide +kernel, by decide +kernel⟩
theorem fi_InvalidHabits (kn : Kn K mg) : ∃ fd, FunD K "__init__" ("InvalidHabits.__init__" : Str) (defArgs s_i_InvalidHabits) (defBody s_i_InvalidHabits) (defScope s_i_InvalidHabits) [] [] (He.ma K (He.ga K ("InvalidHabits" : Str)) "__init__") fd ∧ FnOk P w K mg base CX0 1 (He.ma K (He.ga K ("InvalidHabits" : Str)) "__init__") fd [("self" : Str), ("value" : Str)] (spInit (He.ga K ("InvalidHabits" : Str)) [("value" : Str)]) := by
  obtain ⟨fd, F⟩ := kn.s.def_ 37 (d := d_i_InvalidHabits) rfl
  exact ⟨fd, F, FunD.ok (k := 0) F sci_InvalidHabits (initLen _) (fun cdv A outer s H vs Q E hr h => ⟨_, (pss_cons (ps_expr (pe_xinit rfl kn.glo_StairError kn.xr_StairError.1 kn.xr_StairError.2 (pa_cons (pe_var (i := 0) rfl (.inl rfl)) (pa_cons pe_str pa_nil)) rfl)) (pss_one (ps_xst (pe_var (i := 0) rfl (.inl rfl)) (pe_var (i := 1) rfl (.inl rfl))))), pureI1 kn.xc_InvalidHabits (kn.no (i := 18) rfl (by decide)) h⟩)⟩
theorem in_InvalidHabits (kn : Kn K mg) : InitOk P w K mg base (He.ga K ("InvalidHabits" : Str)) [("value" : Str)] := by
  obtain ⟨fd, F, O⟩ := fi_InvalidHabits (P := P) (w := w) (base := base) kn
  exact ⟨_, fd, [("self" : Str), ("value" : Str)], kn.xm_InvalidHabits, O, F.bindsN (fun _ _ _ _ _ _ us hl => match us, hl with | [_, _], _ => rfl), by decide⟩
theorem kw_InvalidHabits_s (kn : Kn K mg) : InitKw P w K mg base (He.ga K ("InvalidHabits" : Str)) [("value" : Str)] [("value" : Str)] false := by
  obtain ⟨fd, F, O⟩ := fi_InvalidHabits (P := P) (w := w) (base := base) kn
  exact ⟨_, fd, [("self" : Str), ("value" : Str)], kn.xm_InvalidHabits, O, kb_init F (fun _ _ _ _ _ _ u ws hl => match ws, hl with | [_], _ => rfl), by decide, rfl⟩
theorem sci_InvalidShares : FnScope [("self" : Str), ("value" : Str)] [("self" : Str), ("value" : Str)] (defScope s_i_InvalidShares) := ⟨rfl, rfl, rfl, by decide +kernel, rfl, by decide +kernel, by decide +kernel⟩
theorem fi_InvalidShares (kn : Kn K mg) : ∃ fd, FunD K "__init__" ("InvalidShares.__init__" : Str) (defArgs s_i_InvalidShares) (defBody s_i_InvalidShares) (defScope s_i_InvalidShares) [] [] (He.ma K (He.ga K ("InvalidShares" : Str)) "__init__") fd ∧ FnOk P w K mg base CX0 1 (He.ma K (He.ga K ("InvalidShares" : Str)) "__init__") fd [("self" : Str), ("value" : Str)] (spInit (He.ga K ("InvalidShares" : Str)) [("value" : Str)]) := by
  obtain ⟨fd, F⟩ := kn.s.def_ 38 (d := d_i_InvalidShares) rfl
  exact ⟨fd, F, FunD.ok (k := 0) F sci_InvalidShares (initLen _) (fun cdv A outer s H vs Q E hr h => ⟨_, (pss_cons (ps_expr (pe_xinit rfl kn.glo_StairError kn.xr_StairError.1 kn.xr_StairError.2 (pa_cons (pe_var (i := 0) rfl (.inl rfl)) (pa_cons pe_str pa_nil)) rfl)) (pss_one (ps_xst (pe_var (i := 0) rfl (.inl rfl)) (pe_var (i := 1) rfl (.inl rfl))))), pureI1 kn.xc_InvalidShares (kn.no (i := 19) rfl (by decide)) h⟩)⟩
theorem in_InvalidShares (kn : Kn K mg) : InitOk P w K mg base (He.ga K ("InvalidShares" : Str)) [("value" : Str)] := by
  obtain ⟨fd, F, O⟩ := fi_InvalidShares (P := P) (w := w) (base := base) kn
  exact ⟨_, fd, [("self" : Str), ("value" : Str)], kn.xm_InvalidShares, O, F.bindsN (fun _ _ _ _ _ _ us hl => match us, hl with | [_, _], _ => rfl), by decide⟩
theorem kw_InvalidShares_s (kn : Kn K mg) : InitKw P w K mg base (He.ga K ("InvalidShares" : Str)) [("value" : Str)] [("value" : Str)] false := by
  obtain ⟨fd, F, O⟩ := fi_InvalidShares (P := P) (w := w) (base := base) kn
  exact ⟨_, fd, [("self" : Str), ("value" : Str)], kn.xm_InvalidShares, O, kb_init F (fun _ _ _ _ _ _ u ws hl => match ws, hl with | [_], _ => rfl), by decide, rfl⟩
theorem sci_InvalidText : FnScope [("self" : Str), ("line" : Str)] [("self" : Str), ("line" : Str)] (defScope s_i_InvalidText) := ⟨rfl, rfl, rfl, by decide +kernel, rfl, by decide +kernel, by decide +kernel⟩
theorem fi_InvalidText (kn : Kn K mg) : ∃ fd, FunD K "__init__" ("InvalidText.__init__" : Str) (defArgs s_i_InvalidText) (defBody s_i_InvalidText) (defScope s_i_InvalidText) [] [] (He.ma K (He.ga K ("InvalidText" : Str)) "__init__") fd ∧ FnOk P w K mg base CX0 1 (He.ma K (He.ga K ("InvalidText" : Str)) "__init__") fd [("self" : Str), ("line" : Str)] (spInit (He.ga K ("InvalidText" : Str)) [("line" : Str)]) := by
  obtain ⟨fd, F⟩ := kn.s.def_ 39 (d := d_i_InvalidText) rfl
  exact ⟨fd, F, FunD.ok (k := 0) F sci_InvalidText (initLen _) (fun cdv A outer s H vs Q E hr h => ⟨_, (pss_cons (ps_expr (pe_xinit rfl kn.glo_StairError kn.xr_StairError.1 kn.xr_StairError.2 (pa_cons (pe_var (i := 0) rfl (.inl rfl)) (pa_cons pe_str pa_nil)) rfl)) (pss_one (ps_xst (pe_var (i := 0) rfl (.inl rfl)) (pe_var (i := 1) rfl (.inl rfl))))), pureI1 kn.xc_InvalidText (kn.no (i := 20) rfl (by decide)) h⟩)⟩
theorem in_InvalidText (kn : Kn K mg) : InitOk P w K mg base (He.ga K ("InvalidText" : Str)) [("line" : Str)] := by
  obtain ⟨fd, F, O⟩ := fi_InvalidText (P := P) (w := w) (base := base) kn
  exact ⟨_, fd, [("self" : Str), ("line" : Str)], kn.xm_InvalidText, O, F.bindsN (fun _ _ _ _ _ _ us hl => match us, hl with | [_, _], _ => rfl), by decide⟩
theorem kw_InvalidText_s (kn : Kn K mg) : InitKw P w K mg base (He.ga K ("InvalidText" : Str)) [("line" : Str)] [("line" : Str)] false := by
  obtain ⟨fd, F, O⟩ := fi_InvalidText (P := P) (w := w) (base := base) kn
  exact ⟨_, fd, [("self" : Str), ("line" : Str)], kn.xm_InvalidText, O, kb_init F (fun _ _ _ _ _ _ u ws hl => match ws, hl with | [_], _ => rfl), by decide, rfl⟩
theorem sci_InvalidClaim : FnScope [("self" : Str), ("value" : Str)] [("self" : Str), ("value" : Str)] (defScope s_i_InvalidClaim) := ⟨rfl, rfl, rfl, by decide +kernel, rfl, by decide +kernel, by decide +kernel⟩
theorem fi_InvalidClaim (kn : Kn K mg) : ∃ fd, FunD K "__init__" ("InvalidClaim.__init__" : Str) (defArgs s_i_InvalidClaim) (defBody s_i_InvalidClaim) (defScope s_i_InvalidClaim) [] [] (He.ma K (He.ga K ("InvalidClaim" : Str)) "__init__") fd ∧ FnOk P w K mg base CX0 1 (He.ma K (He.ga K ("InvalidClaim" : Str)) "__init__") fd [("self" : Str), ("value" : Str)] (spInit (He.ga K ("InvalidClaim" : Str)) [("value" : Str)]) := by
  obtain ⟨fd, F⟩ := kn.s.def_ 40 (d := d_i_InvalidClaim) rfl
  exact ⟨fd, F, FunD.ok (k := 0) F sci_InvalidClaim (initLen _) (fun cdv A outer s H vs Q E hr h => ⟨_, (pss_cons (ps_expr (pe_xinit rfl kn.glo_StairError kn.xr_StairError.1 kn.xr_StairError.2 (pa_cons (pe_var (i := 0) rfl (.inl rfl)) (pa_cons pe_str pa_nil)) rfl)) (pss_one (ps_xst (pe_var (i := 0) rfl (.inl rfl)) (pe_var (i := 1) rfl (.inl rfl))))), pureI1 kn.xc_InvalidClaim (kn.no (i := 21) rfl (by decide)) h⟩)⟩
theorem in_InvalidClaim (kn : Kn K mg) : InitOk P w K mg base (He.ga K ("InvalidClaim" : Str)) [("value" : Str)] := by
  obtain ⟨fd, F, O⟩ := fi_InvalidClaim (P := P) (w := w) (base := base) kn
  exact ⟨_, fd, [("self" : Str), ("value" : Str)], kn.xm_InvalidClaim, O, F.bindsN (fun _ _ _ _ _ _ us hl => match us, hl with | [_, _], _ => rfl), by decide⟩
theorem kw_InvalidClaim_s (kn : Kn K mg) : InitKw P w K mg base (He.ga K ("InvalidClaim" : Str)) [("value" : Str)] [("value" : Str)] false := by
  obtain ⟨fd, F, O⟩ := fi_InvalidClaim (P := P) (w := w) (base := base) kn
  exact ⟨_, fd, [("self" : Str), ("value" : Str)], kn.xm_InvalidClaim, O, kb_init F (fun _ _ _ _ _ _ u ws hl => match ws, hl with | [_], _ => rfl), by decide, rfl⟩
theorem sci_InvalidCommand : FnScope [("self" : Str), ("value" : Str)] [("self" : Str), ("value" : Str)] (defScope s_i_InvalidCommand) := ⟨rfl, rfl, rfl, by decide +kernel, rfl, by decide +kernel, by decide +kernel⟩
theorem fi_InvalidCommand (kn : Kn K mg) : ∃ fd, FunD K "__init__" ("InvalidCommand.__init__" : Str) (defArgs s_i_InvalidCommand) (defBody s_i_InvalidCommand) (defScope s_i_InvalidCommand) [] [] (He.ma K (He.ga K ("InvalidCommand" : Str)) "__init__") fd ∧ FnOk P w K mg base CX0 1 (He.ma K (He.ga K ("InvalidCommand" : Str)) "__init__") fd [("self" : Str), ("value" : Str)] (spInit (He.ga K ("InvalidCommand" : Str)) [("value" : Str)]) := by
  obtain ⟨fd, F⟩ := kn.s.def_ 41 (d := d_i_InvalidCommand) rfl
  exact ⟨fd, F, FunD.ok (k := 0) F sci_InvalidCommand (initLen _) (fun cdv A outer s H vs Q E hr h => ⟨_, (pss_cons (ps_expr (pe_xinit rfl kn.glo_StairError kn.xr_StairError.1 kn.xr_StairError.2 (pa_cons (pe_var (i := 0) rfl (.inl rfl)) (pa_cons pe_str pa_nil)) rfl)) (pss_one (ps_xst (pe_var (i := 0) rfl (.inl rfl)) (pe_var (i := 1) rfl (.inl rfl))))), pureI1 kn.xc_InvalidCommand (kn.no (i := 22) rfl (by decide)) h⟩)⟩
theorem in_InvalidCommand (kn : Kn K mg) : InitOk P w K mg base (He.ga K ("InvalidCommand" : Str)) [("value" : Str)] := by
  obtain ⟨fd, F, O⟩ := fi_InvalidCommand (P := P) (w := w) (base := base) kn
  exact ⟨_, fd, [("self" : Str), ("value" : Str)], kn.xm_InvalidCommand, O, F.bindsN (fun _ _ _ _ _ _ us hl => match us, hl with | [_, _], _ => rfl), by decide⟩
theorem kw_InvalidCommand_s (kn : Kn K mg) : InitKw P w K mg base (He.ga K ("InvalidCommand" : Str)) [("value" : Str)] [("value" : Str)] false := by
  obtain ⟨fd, F, O⟩ := fi_InvalidCommand (P := P) (w := w) (base := base) kn
  exact ⟨_, fd, [("self" : Str), ("value" : Str)], kn.xm_InvalidCommand, O, kb_init F (fun _ _ _ _ _ _ u ws hl => match ws, hl with | [_], _ => rfl), by decide, rfl⟩
theorem sci_UnknownWay : FnScope [("self" : Str), ("value" : Str)] [("self" : Str), ("value" : Str)] (defScope s_i_UnknownWay) := ⟨rfl, rfl, rfl, by decide +kernel, rfl, by decide +kernel, by decide +kernel⟩
theorem fi_UnknownWay (kn : Kn K mg) : ∃ fd, FunD K "__init__" ("UnknownWay.__init__" : Str) (defArgs s_i_UnknownWay) (defBody s_i_UnknownWay) (defScope s_i_UnknownWay) [] [] (He.ma K (He.ga K ("UnknownWay" : Str)) "__init__") fd ∧ FnOk P w K mg base CX0 1 (He.ma K (He.ga K ("UnknownWay" : Str)) "__init__") fd [("self" : Str), ("value" : Str)] (spInit (He.ga K ("UnknownWay" : Str)) [("value" : Str)]) := by
  obtain ⟨fd, F⟩ := kn.s.def_ 42 (d := d_i_UnknownWay) rfl
  exact ⟨fd, F, FunD.ok (k := 0) F sci_UnknownWay (initLen _) (fun cdv A outer s H vs Q E hr h => ⟨_, (pss_cons (ps_expr (pe_xinit rfl kn.glo_MissingError kn.xr_MissingError.1 kn.xr_MissingError.2 (pa_cons (pe_var (i := 0) rfl (.inl rfl)) (pa_cons pe_str pa_nil)) rfl)) (pss_one (ps_xst (pe_var (i := 0) rfl (.inl rfl)) (pe_var (i := 1) rfl (.inl rfl))))), pureI1 kn.xc_UnknownWay (kn.no (i := 24) rfl (by decide)) h⟩)⟩
theorem in_UnknownWay (kn : Kn K mg) : InitOk P w K mg base (He.ga K ("UnknownWay" : Str)) [("value" : Str)] := by
  obtain ⟨fd, F, O⟩ := fi_UnknownWay (P := P) (w := w) (base := base) kn
  exact ⟨_, fd, [("self" : Str), ("value" : Str)], kn.xm_UnknownWay, O, F.bindsN (fun _ _ _ _ _ _ us hl => match us, hl with | [_, _], _ => rfl), by decide⟩
theorem kw_UnknownWay_s (kn : Kn K mg) : InitKw P w K mg base (He.ga K ("UnknownWay" : Str)) [("value" : Str)] [("value" : Str)] false := by
  obtain ⟨fd, F, O⟩ := fi_UnknownWay (P := P) (w := w) (base := base) kn
  exact ⟨_, fd, [("self" : Str), ("value" : Str)], kn.xm_UnknownWay, O, kb_init F (fun _ _ _ _ _ _ u ws hl => match ws, hl with | [_], _ => rfl), by decide, rfl⟩
theorem sci_NoSuch : FnScope [("self" : Str), ("value" : Str)] [("self" : Str), ("value" : Str)] (defScope s_i_NoSuch) := ⟨rfl, rfl, rfl, by decide +kernel, rfl, by decide +kernel, by decide +kernel⟩
theorem fi_NoSuch (kn : Kn K mg) : ∃ fd, FunD K "__init__" ("NoSuch.__init__" : Str) (defArgs s_i_NoSuch) (defBody s_i_NoSuch) (defScope s_i_NoSuch) [] [] (He.ma K (He.ga K ("NoSuch" : Str)) "__init__") fd ∧ FnOk P w K mg base CX0 1 (He.ma K (He.ga K ("NoSuch" : Str)) "__init__") fd [("self" : Str), ("value" : Str)] (spInit (He.ga K ("NoSuch" : Str)) [("value" : Str)]) := by
  obtain ⟨fd, F⟩ := kn.s.def_ 43 (d := d_i_NoSuch) rfl
  exact ⟨fd, F, FunD.ok (k := 0) F sci_NoSuch (initLen _) (fun cdv A outer s H vs Q E hr h => ⟨_, (pss_cons (ps_expr (pe_xinit rfl kn.glo_MissingError kn.xr_MissingError.1 kn.xr_MissingError.2 (pa_cons (pe_var (i := 0) rfl (.inl rfl)) (pa_cons pe_str pa_nil)) rfl)) (pss_one (ps_xst (pe_var (i := 0) rfl (.inl rfl)) (pe_var (i := 1) rfl (.inl rfl))))), pureI1 kn.xc_NoSuch (kn.no (i := 25) rfl (by decide)) h⟩)⟩
theorem in_NoSuch (kn : Kn K mg) : InitOk P w K mg base (He.ga K ("NoSuch" : Str)) [("value" : Str)] := by
  obtain ⟨fd, F, O⟩ := fi_NoSuch (P := P) (w := w) (base := base) kn
  exact ⟨_, fd, [("self" : Str), ("value" : Str)], kn.xm_NoSuch, O, F.bindsN (fun _ _ _ _ _ _ us hl => match us, hl with | [_, _], _ => rfl), by decide⟩
theorem kw_NoSuch_s (kn : Kn K mg) : InitKw P w K mg base (He.ga K ("NoSuch" : Str)) [("value" : Str)] [("value" : Str)] false := by
  obtain ⟨fd, F, O⟩ := fi_NoSuch (P := P) (w := w) (base := base) kn
  exact ⟨_, fd, [("self" : Str), ("value" : Str)], kn.xm_NoSuch, O, kb_init F (fun _ _ _ _ _ _ u ws hl => match ws, hl with | [_], _ => rfl), by decide, rfl⟩
theorem sci_OtherSteps : FnScope [("self" : Str), ("one" : Str), ("other" : Str)] [("self" : Str), ("one" : Str), ("other" : Str)] (defScope s_i_OtherSteps) := ⟨rfl, rfl, rfl, by decide +kernel, rfl, by decide +kernel, by decide +kernel⟩
theorem fi_OtherSteps (kn : Kn K mg) : ∃ fd, FunD K "__init__" ("OtherSteps.__init__" : Str) (defArgs s_i_OtherSteps) (defBody s_i_OtherSteps) (defScope s_i_OtherSteps) [] [] (He.ma K (He.ga K ("OtherSteps" : Str)) "__init__") fd ∧ FnOk P w K mg base CX0 1 (He.ma K (He.ga K ("OtherSteps" : Str)) "__init__") fd [("self" : Str), ("one" : Str), ("other" : Str)] (spInit (He.ga K ("OtherSteps" : Str)) [("one" : Str), ("other" : Str)]) := by
  obtain ⟨fd, F⟩ := kn.s.def_ 44 (d := d_i_OtherSteps) rfl
  exact ⟨fd, F, FunD.ok (k := 0) F sci_OtherSteps (initLen _) (fun cdv A outer s H vs Q E hr h => ⟨_, (pss_cons (ps_expr (pe_xinit rfl kn.glo_StateError kn.xr_StateError.1 kn.xr_StateError.2 (pa_cons (pe_var (i := 0) rfl (.inl rfl)) (pa_cons pe_str pa_nil)) rfl)) (pss_cons (ps_xst (pe_var (i := 0) rfl (.inl rfl)) (pe_var (i := 1) rfl (.inl rfl))) (pss_one (ps_xst (pe_var (i := 0) rfl (.inl rfl)) (pe_var (i := 2) rfl (.inl rfl)))))), pureI2 kn.xc_OtherSteps (kn.no (i := 27) rfl (by decide)) (kn.no (i := 27) rfl (by decide)) h⟩)⟩
theorem in_OtherSteps (kn : Kn K mg) : InitOk P w K mg base (He.ga K ("OtherSteps" : Str)) [("one" : Str), ("other" : Str)] := by
  obtain ⟨fd, F, O⟩ := fi_OtherSteps (P := P) (w := w) (base := base) kn
  exact ⟨_, fd, [("self" : Str), ("one" : Str), ("other" : Str)], kn.xm_OtherSteps, O, F.bindsN (fun _ _ _ _ _ _ us hl => match us, hl with | [_, _, _], _ => rfl), by decide⟩
theorem kw_OtherSteps_r (kn : Kn K mg) : InitKw P w K mg base (He.ga K ("OtherSteps" : Str)) [("one" : Str), ("other" : Str)] [("other" : Str), ("one" : Str)] true := by
  obtain ⟨fd, F, O⟩ := fi_OtherSteps (P := P) (w := w) (base := base) kn
  exact ⟨_, fd, [("self" : Str), ("one" : Str), ("other" : Str)], kn.xm_OtherSteps, O, kb_init F (fun _ _ _ _ _ _ u ws hl => match ws, hl with | [_, _], _ => rfl), by decide, rfl⟩
theorem sci_OtherStair : FnScope [("self" : Str), ("one" : Str), ("other" : Str)] [("self" : Str), ("one" : Str), ("other" : Str)] (defScope s_i_OtherStair) := ⟨rfl, rfl, rfl, by decide +kernel, rfl, by decide +kernel, by decide +kernel⟩
theorem fi_OtherStair (kn : Kn K mg) : ∃ fd, FunD K "__init__" ("OtherStair.__init__" : Str) (defArgs s_i_OtherStair) (defBody s_i_OtherStair) (defScope s_i_OtherStair) [] [] (He.ma K (He.ga K ("OtherStair" : Str)) "__init__") fd ∧ FnOk P w K mg base CX0 1 (He.ma K (He.ga K ("OtherStair" : Str)) "__init__") fd [("self" : Str), ("one" : Str), ("other" : Str)] (spInit (He.ga K ("OtherStair" : Str)) [("one" : Str), ("other" : Str)]) := by
  obtain ⟨fd, F⟩ := kn.s.def_ 45 (d := d_i_OtherStair) rfl
  exact ⟨fd, F, FunD.ok (k := 0) F sci_OtherStair (initLen _) (fun cdv A outer s H vs Q E hr h => ⟨_, (pss_cons (ps_expr (pe_xinit rfl kn.glo_StateError kn.xr_StateError.1 kn.xr_StateError.2 (pa_cons (pe_var (i := 0) rfl (.inl rfl)) (pa_cons pe_str pa_nil)) rfl)) (pss_cons (ps_xst (pe_var (i := 0) rfl (.inl rfl)) (pe_var (i := 1) rfl (.inl rfl))) (pss_one (ps_xst (pe_var (i := 0) rfl (.inl rfl)) (pe_var (i := 2) rfl (.inl rfl)))))), pureI2 kn.xc_OtherStair (kn.no (i := 28) rfl (by decide)) (kn.no (i := 28) rfl (by decide)) h⟩)⟩
theorem in_OtherStair (kn : Kn K mg) : InitOk P w K mg base (He.ga K ("OtherStair" : Str)) [("one" : Str), ("other" : Str)] := by
  obtain ⟨fd, F, O⟩ := fi_OtherStair (P := P) (w := w) (base := base) kn
  exact ⟨_, fd, [("self" : Str), ("one" : Str), ("other" : Str)], kn.xm_OtherStair, O, F.bindsN (fun _ _ _ _ _ _ us hl => match us, hl with | [_, _, _], _ => rfl), by decide⟩
theorem kw_OtherStair_r (kn : Kn K mg) : InitKw P w K mg base (He.ga K ("OtherStair" : Str)) [("one" : Str), ("other" : Str)] [("other" : Str), ("one" : Str)] true := by
  obtain ⟨fd, F, O⟩ := fi_OtherStair (P := P) (w := w) (base := base) kn
  exact ⟨_, fd, [("self" : Str), ("one" : Str), ("other" : Str)], kn.xm_OtherStair, O, kb_init F (fun _ _ _ _ _ _ u ws hl => match ws, hl with | [_, _], _ => rfl), by decide, rfl⟩
theorem sci_NotTogether : FnScope [("self" : Str), ("value" : Str)] [("self" : Str), ("value" : Str)] (defScope s_i_NotTogether) := ⟨rfl, rfl, rfl, by decide +kernel, rfl, by decide +kernel, by decide +kernel⟩
theorem fi_NotTogether (kn : Kn K mg) : ∃ fd, FunD K "__init__" ("NotTogether.__init__" : Str) (defArgs s_i_NotTogether) (defBody s_i_NotTogether) (defScope s_i_NotTogether) [] [] (He.ma K (He.ga K ("NotTogether" : Str)) "__init__") fd ∧ FnOk P w K mg base CX0 1 (He.ma K (He.ga K ("NotTogether" : Str)) "__init__") fd [("self" : Str), ("value" : Str)] (spInit (He.ga K ("NotTogether" : Str)) [("value" : Str)]) := by
  obtain ⟨fd, F⟩ := kn.s.def_ 46 (d := d_i_NotTogether) rfl
  exact ⟨fd, F, FunD.ok (k := 0) F sci_NotTogether (initLen _) (fun cdv A outer s H vs Q E hr h => ⟨_, (pss_cons (ps_expr (pe_xinit rfl kn.glo_StateError kn.xr_StateError.1 kn.xr_StateError.2 (pa_cons (pe_var (i := 0) rfl (.inl rfl)) (pa_cons pe_str pa_nil)) rfl)) (pss_one (ps_xst (pe_var (i := 0) rfl (.inl rfl)) (pe_var (i := 1) rfl (.inl rfl))))), pureI1 kn.xc_NotTogether (kn.no (i := 29) rfl (by decide)) h⟩)⟩
theorem in_NotTogether (kn : Kn K mg) : InitOk P w K mg base (He.ga K ("NotTogether" : Str)) [("value" : Str)] := by
  obtain ⟨fd, F, O⟩ := fi_NotTogether (P := P) (w := w) (base := base) kn
  exact ⟨_, fd, [("self" : Str), ("value" : Str)], kn.xm_NotTogether, O, F.bindsN (fun _ _ _ _ _ _ us hl => match us, hl with | [_, _], _ => rfl), by decide⟩
theorem kw_NotTogether_s (kn : Kn K mg) : InitKw P w K mg base (He.ga K ("NotTogether" : Str)) [("value" : Str)] [("value" : Str)] false := by
  obtain ⟨fd, F, O⟩ := fi_NotTogether (P := P) (w := w) (base := base) kn
  exact ⟨_, fd, [("self" : Str), ("value" : Str)], kn.xm_NotTogether, O, kb_init F (fun _ _ _ _ _ _ u ws hl => match ws, hl with | [_], _ => rfl), by decide, rfl⟩
theorem sci_NothingFits : FnScope [("self" : Str)] [("self" : Str)] (defScope s_i_NothingFits) := ⟨rfl, rfl, rfl, by decide +kernel, rfl, by decide +kernel, by decide +kernel⟩
theorem fi_NothingFits (kn : Kn K mg) : ∃ fd, FunD K "__init__" ("NothingFits.__init__" : Str) (defArgs s_i_NothingFits) (defBody s_i_NothingFits) (defScope s_i_NothingFits) [] [] (He.ma K (He.ga K ("NothingFits" : Str)) "__init__") fd ∧ FnOk P w K mg base CX0 1 (He.ma K (He.ga K ("NothingFits" : Str)) "__init__") fd [("self" : Str)] (spInit (He.ga K ("NothingFits" : Str)) []) := by
  obtain ⟨fd, F⟩ := kn.s.def_ 47 (d := d_i_NothingFits) rfl
  exact ⟨fd, F, FunD.ok (k := 0) F sci_NothingFits (initLen _) (fun cdv A outer s H vs Q E hr h => ⟨_, (pss_one (ps_expr (pe_xinit rfl kn.glo_StateError kn.xr_StateError.1 kn.xr_StateError.2 (pa_cons (pe_var (i := 0) rfl (.inl rfl)) (pa_cons pe_str pa_nil)) rfl))), pureI0 kn.xc_NothingFits h⟩)⟩
theorem in_NothingFits (kn : Kn K mg) : InitOk P w K mg base (He.ga K ("NothingFits" : Str)) [] := by
  obtain ⟨fd, F, O⟩ := fi_NothingFits (P := P) (w := w) (base := base) kn
  exact ⟨_, fd, [("self" : Str)], kn.xm_NothingFits, O, F.bindsN (fun _ _ _ _ _ _ us hl => match us, hl with | [_], _ => rfl), by decide⟩
theorem sci_Endless : FnScope [("self" : Str)] [("self" : Str)] (defScope s_i_Endless) := ⟨rfl, rfl, rfl, by decide +kernel, rfl, by decide +kernel, by decide +kernel⟩
theorem fi_Endless (kn : Kn K mg) : ∃ fd, FunD K "__init__" ("Endless.__init__" : Str) (defArgs s_i_Endless) (defBody s_i_Endless) (defScope s_i_Endless) [] [] (He.ma K (He.ga K ("Endless" : Str)) "__init__") fd ∧ FnOk P w K mg base CX0 1 (He.ma K (He.ga K ("Endless" : Str)) "__init__") fd [("self" : Str)] (spInit (He.ga K ("Endless" : Str)) []) := by
  obtain ⟨fd, F⟩ := kn.s.def_ 48 (d := d_i_Endless) rfl
  exact ⟨fd, F, FunD.ok (k := 0) F sci_Endless (initLen _) (fun cdv A outer s H vs Q E hr h => ⟨_, (pss_one (ps_expr (pe_xinit rfl kn.glo_StateError kn.xr_StateError.1 kn.xr_StateError.2 (pa_cons (pe_var (i := 0) rfl (.inl rfl)) (pa_cons pe_str pa_nil)) rfl))), pureI0 kn.xc_Endless h⟩)⟩
theorem in_Endless (kn : Kn K mg) : InitOk P w K mg base (He.ga K ("Endless" : Str)) [] := by
  obtain ⟨fd, F, O⟩ := fi_Endless (P := P) (w := w) (base := base) kn
  exact ⟨_, fd, [("self" : Str)], kn.xm_Endless, O, F.bindsN (fun _ _ _ _ _ _ us hl => match us, hl with | [_], _ => rfl), by decide⟩
theorem sci_NotBetween : FnScope [("self" : Str), ("least" : Str), ("greatest" : Str)] [("self" : Str), ("least" : Str), ("greatest" : Str)] (defScope s_i_NotBetween) := ⟨rfl, rfl, rfl, by decide +kernel, rfl, by decide +kernel, by decide +kernel⟩
theorem fi_NotBetween (kn : Kn K mg) : ∃ fd, FunD K "__init__" ("NotBetween.__init__" : Str) (defArgs s_i_NotBetween) (defBody s_i_NotBetween) (defScope s_i_NotBetween) [] [] (He.ma K (He.ga K ("NotBetween" : Str)) "__init__") fd ∧ FnOk P w K mg base CX0 1 (He.ma K (He.ga K ("NotBetween" : Str)) "__init__") fd [("self" : Str), ("least" : Str), ("greatest" : Str)] (spInit (He.ga K ("NotBetween" : Str)) [("least" : Str), ("greatest" : Str)]) := by
  obtain ⟨fd, F⟩ := kn.s.def_ 49 (d := d_i_NotBetween) rfl
  exact ⟨fd, F, FunD.ok (k := 0) F sci_NotBetween (initLen _) (fun cdv A outer s H vs Q E hr h => ⟨_, (pss_cons (ps_expr (pe_xinit rfl kn.glo_StateError kn.xr_StateError.1 kn.xr_StateError.2 (pa_cons (pe_var (i := 0) rfl (.inl rfl)) (pa_cons pe_str pa_nil)) rfl)) (pss_cons (ps_xst (pe_var (i := 0) rfl (.inl rfl)) (pe_var (i := 1) rfl (.inl rfl))) (pss_one (ps_xst (pe_var (i := 0) rfl (.inl rfl)) (pe_var (i := 2) rfl (.inl rfl)))))), pureI2 kn.xc_NotBetween (kn.no (i := 32) rfl (by decide)) (kn.no (i := 32) rfl (by decide)) h⟩)⟩
theorem in_NotBetween (kn : Kn K mg) : InitOk P w K mg base (He.ga K ("NotBetween" : Str)) [("least" : Str), ("greatest" : Str)] := by
  obtain ⟨fd, F, O⟩ := fi_NotBetween (P := P) (w := w) (base := base) kn
  exact ⟨_, fd, [("self" : Str), ("least" : Str), ("greatest" : Str)], kn.xm_NotBetween, O, F.bindsN (fun _ _ _ _ _ _ us hl => match us, hl with | [_, _, _], _ => rfl), by decide⟩
theorem kw_NotBetween_r (kn : Kn K mg) : InitKw P w K mg base (He.ga K ("NotBetween" : Str)) [("least" : Str), ("greatest" : Str)] [("greatest" : Str), ("least" : Str)] true := by
  obtain ⟨fd, F, O⟩ := fi_NotBetween (P := P) (w := w) (base := base) kn
  exact ⟨_, fd, [("self" : Str), ("least" : Str), ("greatest" : Str)], kn.xm_NotBetween, O, kb_init F (fun _ _ _ _ _ _ u ws hl => match ws, hl with | [_, _], _ => rfl), by decide, rfl⟩
theorem sci_Unmeeting : FnScope [("self" : Str), ("value" : Str)] [("self" : Str), ("value" : Str)] (defScope s_i_Unmeeting) := ⟨rfl, rfl, rfl, by decide +kernel, rfl, by decide +kernel, by decide +kernel⟩
theorem fi_Unmeeting (kn : Kn K mg) : ∃ fd, FunD K "__init__" ("Unmeeting.__init__" : Str) (defArgs s_i_Unmeeting) (defBody s_i_Unmeeting) (defScope s_i_Unmeeting) [] [] (He.ma K (He.ga K ("Unmeeting" : Str)) "__init__") fd ∧ FnOk P w K mg base CX0 1 (He.ma K (He.ga K ("Unmeeting" : Str)) "__init__") fd [("self" : Str), ("value" : Str)] (spInit (He.ga K ("Unmeeting" : Str)) [("value" : Str)]) := by
  obtain ⟨fd, F⟩ := kn.s.def_ 50 (d := d_i_Unmeeting) rfl
  exact ⟨fd, F, FunD.ok (k := 0) F sci_Unmeeting (initLen _) (fun cdv A outer s H vs Q E hr h => ⟨_, (pss_cons (ps_expr (pe_xinit rfl kn.glo_StateError kn.xr_StateError.1 kn.xr_StateError.2 (pa_cons (pe_var (i := 0) rfl (.inl rfl)) (pa_cons pe_str pa_nil)) rfl)) (pss_one (ps_xst (pe_var (i := 0) rfl (.inl rfl)) (pe_var (i := 1) rfl (.inl rfl))))), pureI1 kn.xc_Unmeeting (kn.no (i := 33) rfl (by decide)) h⟩)⟩
theorem in_Unmeeting (kn : Kn K mg) : InitOk P w K mg base (He.ga K ("Unmeeting" : Str)) [("value" : Str)] := by
  obtain ⟨fd, F, O⟩ := fi_Unmeeting (P := P) (w := w) (base := base) kn
  exact ⟨_, fd, [("self" : Str), ("value" : Str)], kn.xm_Unmeeting, O, F.bindsN (fun _ _ _ _ _ _ us hl => match us, hl with | [_, _], _ => rfl), by decide⟩
theorem kw_Unmeeting_s (kn : Kn K mg) : InitKw P w K mg base (He.ga K ("Unmeeting" : Str)) [("value" : Str)] [("value" : Str)] false := by
  obtain ⟨fd, F, O⟩ := fi_Unmeeting (P := P) (w := w) (base := base) kn
  exact ⟨_, fd, [("self" : Str), ("value" : Str)], kn.xm_Unmeeting, O, kb_init F (fun _ _ _ _ _ _ u ws hl => match ws, hl with | [_], _ => rfl), by decide, rfl⟩
theorem sci_NothingToUndo : FnScope [("self" : Str)] [("self" : Str)] (defScope s_i_NothingToUndo) := ⟨rfl, rfl, rfl, by decide +kernel, rfl, by decide +kernel, by decide +kernel⟩
theorem fi_NothingToUndo (kn : Kn K mg) : ∃ fd, FunD K "__init__" ("NothingToUndo.__init__" : Str) (defArgs s_i_NothingToUndo) (defBody s_i_NothingToUndo) (defScope s_i_NothingToUndo) [] [] (He.ma K (He.ga K ("NothingToUndo" : Str)) "__init__") fd ∧ FnOk P w K mg base CX0 1 (He.ma K (He.ga K ("NothingToUndo" : Str)) "__init__") fd [("self" : Str)] (spInit (He.ga K ("NothingToUndo" : Str)) []) := by
  obtain ⟨fd, F⟩ := kn.s.def_ 51 (d := d_i_NothingToUndo) rfl
  exact ⟨fd, F, FunD.ok (k := 0) F sci_NothingToUndo (initLen _) (fun cdv A outer s H vs Q E hr h => ⟨_, (pss_one (ps_expr (pe_xinit rfl kn.glo_StateError kn.xr_StateError.1 kn.xr_StateError.2 (pa_cons (pe_var (i := 0) rfl (.inl rfl)) (pa_cons pe_str pa_nil)) rfl))), pureI0 kn.xc_NothingToUndo h⟩)⟩
theorem in_NothingToUndo (kn : Kn K mg) : InitOk P w K mg base (He.ga K ("NothingToUndo" : Str)) [] := by
  obtain ⟨fd, F, O⟩ := fi_NothingToUndo (P := P) (w := w) (base := base) kn
  exact ⟨_, fd, [("self" : Str)], kn.xm_NothingToUndo, O, F.bindsN (fun _ _ _ _ _ _ us hl => match us, hl with | [_], _ => rfl), by decide⟩
theorem sci_CommandFailed : FnScope [("self" : Str), ("position" : Str)] [("self" : Str), ("position" : Str)] (defScope s_i_CommandFailed) := ⟨rfl, rfl, rfl, by decide +kernel, rfl, by decide +kernel, by decide +kernel⟩
theorem fi_CommandFailed (kn : Kn K mg) : ∃ fd, FunD K "__init__" ("CommandFailed.__init__" : Str) (defArgs s_i_CommandFailed) (defBody s_i_CommandFailed) (defScope s_i_CommandFailed) [] [] (He.ma K (He.ga K ("CommandFailed" : Str)) "__init__") fd ∧ FnOk P w K mg base CX0 1 (He.ma K (He.ga K ("CommandFailed" : Str)) "__init__") fd [("self" : Str), ("position" : Str)] (spInit (He.ga K ("CommandFailed" : Str)) [("position" : Str)]) := by
  obtain ⟨fd, F⟩ := kn.s.def_ 52 (d := d_i_CommandFailed) rfl
  exact ⟨fd, F, FunD.ok (k := 0) F sci_CommandFailed (initLen _) (fun cdv A outer s H vs Q E hr h => ⟨_, (pss_cons (ps_expr (pe_xinit rfl kn.glo_StateError kn.xr_StateError.1 kn.xr_StateError.2 (pa_cons (pe_var (i := 0) rfl (.inl rfl)) (pa_cons pe_str pa_nil)) rfl)) (pss_one (ps_xst (pe_var (i := 0) rfl (.inl rfl)) (pe_var (i := 1) rfl (.inl rfl))))), pureI1 kn.xc_CommandFailed (kn.no (i := 35) rfl (by decide)) h⟩)⟩
theorem in_CommandFailed (kn : Kn K mg) : InitOk P w K mg base (He.ga K ("CommandFailed" : Str)) [("position" : Str)] := by
  obtain ⟨fd, F, O⟩ := fi_CommandFailed (P := P) (w := w) (base := base) kn
  exact ⟨_, fd, [("self" : Str), ("position" : Str)], kn.xm_CommandFailed, O, F.bindsN (fun _ _ _ _ _ _ us hl => match us, hl with | [_, _], _ => rfl), by decide⟩
theorem kw_CommandFailed_s (kn : Kn K mg) : InitKw P w K mg base (He.ga K ("CommandFailed" : Str)) [("position" : Str)] [("position" : Str)] false := by
  obtain ⟨fd, F, O⟩ := fi_CommandFailed (P := P) (w := w) (base := base) kn
  exact ⟨_, fd, [("self" : Str), ("position" : Str)], kn.xm_CommandFailed, O, kb_init F (fun _ _ _ _ _ _ u ws hl => match ws, hl with | [_], _ => rfl), by decide, rfl⟩
theorem sci_TooMany : FnScope [("self" : Str), ("what" : Str), ("limit" : Str)] [("self" : Str), ("what" : Str), ("limit" : Str)] (defScope s_i_TooMany) := ⟨rfl, rfl, rfl, by decide +kernel, rfl, by decide +kernel, by decide +kernel⟩
theorem fi_TooMany (kn : Kn K mg) : ∃ fd, FunD K "__init__" ("TooMany.__init__" : Str) (defArgs s_i_TooMany) (defBody s_i_TooMany) (defScope s_i_TooMany) [] [] (He.ma K (He.ga K ("TooMany" : Str)) "__init__") fd ∧ FnOk P w K mg base CX0 1 (He.ma K (He.ga K ("TooMany" : Str)) "__init__") fd [("self" : Str), ("what" : Str), ("limit" : Str)] (spInit (He.ga K ("TooMany" : Str)) [("what" : Str), ("limit" : Str)]) := by
  obtain ⟨fd, F⟩ := kn.s.def_ 53 (d := d_i_TooMany) rfl
  exact ⟨fd, F, FunD.ok (k := 0) F sci_TooMany (initLen _) (fun cdv A outer s H vs Q E hr h => ⟨_, (pss_cons (ps_expr (pe_xinit rfl kn.glo_LimitError kn.xr_LimitError.1 kn.xr_LimitError.2 (pa_cons (pe_var (i := 0) rfl (.inl rfl)) (pa_cons pe_str pa_nil)) rfl)) (pss_cons (ps_xst (pe_var (i := 0) rfl (.inl rfl)) (pe_var (i := 1) rfl (.inl rfl))) (pss_one (ps_xst (pe_var (i := 0) rfl (.inl rfl)) (pe_var (i := 2) rfl (.inl rfl)))))), pureI2 kn.xc_TooMany (kn.no (i := 37) rfl (by decide)) (kn.no (i := 37) rfl (by decide)) h⟩)⟩
theorem in_TooMany (kn : Kn K mg) : InitOk P w K mg base (He.ga K ("TooMany" : Str)) [("what" : Str), ("limit" : Str)] := by
  obtain ⟨fd, F, O⟩ := fi_TooMany (P := P) (w := w) (base := base) kn
  exact ⟨_, fd, [("self" : Str), ("what" : Str), ("limit" : Str)], kn.xm_TooMany, O, F.bindsN (fun _ _ _ _ _ _ us hl => match us, hl with | [_, _, _], _ => rfl), by decide⟩
theorem kw_TooMany_r (kn : Kn K mg) : InitKw P w K mg base (He.ga K ("TooMany" : Str)) [("what" : Str), ("limit" : Str)] [("limit" : Str), ("what" : Str)] true := by
  obtain ⟨fd, F, O⟩ := fi_TooMany (P := P) (w := w) (base := base) kn
  exact ⟨_, fd, [("self" : Str), ("what" : Str), ("limit" : Str)], kn.xm_TooMany, O, kb_init F (fun _ _ _ _ _ _ u ws hl => match ws, hl with | [_, _], _ => rfl), by decide, rfl⟩
end
end K10
set_option Elab.async false
set_option linter.all false
set_option maxRecDepth 100000
set_option maxHeartbeats 4000000
namespace K10
open PySem PySem.Spec PyProof.Rows L2 Ws
theorem sc__law_pot : FnScope [("_law_script" : Str), ("_law_k" : Str), ("_law_cell" : Str)] [("_law_script" : Str), ("_law_k" : Str)] (defScope s__law_pot) := ⟨rfl, rfl, rfl, by decide +kernel, rfl, by decide +kernel, by decide +kernel⟩
def den__law_pot_1 : Den Out := (dRet (dLst (dCons (dBin gMax2 (dC (.int 0)) (dBin gSub (dVar 2) (dBin gPow (dC (.int 10)) (dC (.int 18))))) (dCons (dAdd (dBin gMod (dUn gInt1 (dAdd (dAdd (dMul (dBin gMod (dUn gInt1 (dVar 2)) (dC (.int 2147483549))) (dC (.int 47019))) (dMul (dC (.int 5597)) (dVar 1))) (dC (.int 31)))) (dC (.int 2147483579))) (dC (.int 1))) dNil))))
def den__law_pot : Den Out := (dSeq (dSet 2 (dIf (dTest (dBin gLt (dVar 1) (dUn gLen (dVar 0)))) (dUn gAbs (dIx (dVar 0) (dVar 1))) (dAdd (dMul (dC (.int 47)) (dVar 1)) (dC (.int 31))))) den__law_pot_1)
def f__law_pot : List W → Option (W × List W) := dFn 2 3 den__law_pot
theorem ok__law_pot {P : Program} {w : World} {K : PySem.W.Frag} {mg : Str → Option Value} {base : Heap} (kn : Kn K mg) : FunOk true P w K mg base (clK K) 2 (He.ga K ("_law_pot" : Str)) f__law_pot := by
  obtain ⟨fd, F⟩ := kn.s.def_ 0 (d := d__law_pot) rfl
  refine ⟨fd, [("_law_script" : Str), ("_law_k" : Str)], okG (c := true) (k := 1) F sc__law_pot spW_len (fun cdv A outer s H vs Q E hr h => ⟨_, ?_, fn_end rfl h⟩), F.bindsN (fun _ _ _ _ _ _ us hl => match us, hl with | [_, _], _ => rfl), F.kp⟩
  exact (dss_cons (ds_set (i := 2) sc__law_pot.nd rfl (.inl rfl) (by decide) (de_if (dt_cmp o_lt (de_var (i := 1) rfl (.inl rfl)) (de_cb c_len rfl kn.free_len PyProof.Rows.Boot.«len» (de_var (i := 0) rfl (.inl rfl))) (nomark _)) (de_cb c_abs rfl kn.free_abs PyProof.Rows.Boot.«abs» (de_ix (de_var (i := 0) rfl (.inl rfl)) (de_var (i := 1) rfl (.inl rfl)) (fun _ _ => rfl))) (de_add (de_mul de_int (de_var (i := 1) rfl (.inl rfl))) de_int)))
  (dss_one (ds_ret (de_lst (da_cons (de_cb2 (c_max2 rfl) rfl kn.free_max PyProof.Rows.Boot.«max» de_int (de_bin o_sub (de_var (i := 2) rfl (.inl rfl)) (de_bin o_pow de_int de_int))) (da_cons (de_add (de_bin o_mod (de_ct c_int rfl kn.free_int PyProof.Rows.Boot.«int» (de_add (de_add (de_mul (de_bin o_mod (de_ct c_int rfl kn.free_int PyProof.Rows.Boot.«int» (de_var (i := 2) rfl (.inl rfl))) de_int) de_int) (de_mul de_int (de_var (i := 1) rfl (.inl rfl)))) de_int)) de_int) de_int) da_nil))))))
theorem sc__law_draw : FnScope [("_law_pot_here" : Str), ("_law_sides" : Str), ("_law_digit" : Str)] [("_law_pot_here" : Str), ("_law_sides" : Str)] (defScope s__law_draw) := ⟨rfl, rfl, rfl, by decide +kernel, rfl, by decide +kernel, by decide +kernel⟩
def den__law_draw_2 : Den Out := (dRet (dBin gMod (dUn gInt1 (dBin gDiv (dBin gMod (dUn gInt1 (dMul (dIx (dVar 0) (dC (.int 1))) (dIx (dVar 0) (dC (.int 1))))) (dC (.int 2147483543))) (dC (.int 17)))) (dVar 1)))
def den__law_draw_1 : Den Out := (dSeq (dAsg (dBin gMod (dUn gInt1 (dAdd (dMul (dIx (dVar 0) (dC (.int 1))) (dC (.int 39971))) (dC (.int 11031)))) (dC (.int 2147483563))) (gIx 0 (dC (.int 1)))) den__law_draw_2)
def den__law_draw : Den Out := (dSeq (dIfS (dTest (dBin gGt (dIx (dVar 0) (dC (.int 0))) (dC (.int 0)))) (dSeq (dAsg (dDivmod (dIx (dVar 0) (dC (.int 0))) (dVar 1)) (gTp (gsCons (gIx 0 (dC (.int 0))) (gsCons (gNm 2) gsNil))))
  (dRet (dVar 2))) dNext) den__law_draw_1)
def f__law_draw : List W → Option (W × List W) := dFn 2 3 den__law_draw
theorem ok__law_draw {P : Program} {w : World} {K : PySem.W.Frag} {mg : Str → Option Value} {base : Heap} (kn : Kn K mg) : FunOk true P w K mg base (clK K) 2 (He.ga K ("_law_draw" : Str)) f__law_draw := by
  obtain ⟨fd, F⟩ := kn.s.def_ 1 (d := d__law_draw) rfl
  refine ⟨fd, [("_law_pot_here" : Str), ("_law_sides" : Str)], okG (c := true) (k := 1) F sc__law_draw spW_len (fun cdv A outer s H vs Q E hr h => ⟨_, ?_, fn_end rfl h⟩), F.bindsN (fun _ _ _ _ _ _ us hl => match us, hl with | [_, _], _ => rfl), F.kp⟩
  exact (dss_cons (ds_if (dt_cmp o_gt (de_ix (de_var (i := 0) rfl (.inl rfl)) de_int (fun _ _ => rfl)) de_int (nomark _)) (dss_cons (ds_asg (de_divmod rfl kn.free_divmod (de_ix (de_var (i := 0) rfl (.inl rfl)) de_int (fun _ _ => rfl)) (de_var (i := 1) rfl (.inl rfl))) (dg_tup rfl (dgs_cons (dg_ix (i := 0) rfl (.inl rfl) (by decide) (by decide) de_int) (dgs_cons (dg_name sc__law_draw.nd rfl (.inl rfl)) dgs_nil)) (gsl_cons (gsl_cons gsl_nil))) (by decide))
  (dss_one (ds_ret (de_var (i := 2) rfl (.inl rfl))))) dss_nil)
  (dss_cons (ds_asg (de_bin o_mod (de_ct c_int rfl kn.free_int PyProof.Rows.Boot.«int» (de_add (de_mul (de_ix (de_var (i := 0) rfl (.inl rfl)) de_int (fun _ _ => rfl)) de_int) de_int)) de_int) (dg_ix (i := 0) rfl (.inl rfl) (by decide) (by decide) de_int) (by decide))
  (dss_one (ds_ret (de_bin o_mod (de_ct c_int rfl kn.free_int PyProof.Rows.Boot.«int» (de_bin o_div (de_bin o_mod (de_ct c_int rfl kn.free_int PyProof.Rows.Boot.«int» (de_mul (de_ix (de_var (i := 0) rfl (.inl rfl)) de_int (fun _ _ => rfl)) (de_ix (de_var (i := 0) rfl (.inl rfl)) de_int (fun _ _ => rfl)))) de_int) de_int)) (de_var (i := 1) rfl (.inl rfl)))))))
theorem sc__law_pick : FnScope [("_law_pot_here" : Str), ("_law_some" : Str)] [("_law_pot_here" : Str), ("_law_some" : Str)] (defScope s__law_pick) := ⟨rfl, rfl, rfl, by decide +kernel, rfl, by decide +kernel, by decide +kernel⟩
def den__law_pick : Den Out := (dRet (dIx (dVar 1) (dCall f__law_draw (dRCons (dVar 0) (dRCons (dUn gLen (dVar 1)) dRNil)) [])))
def f__law_pick : List W → Option (W × List W) := dFn 2 2 den__law_pick
theorem ok__law_pick {P : Program} {w : World} {K : PySem.W.Frag} {mg : Str → Option Value} {base : Heap} (kn : Kn K mg) : FunOk true P w K mg base (clK K) 3 (He.ga K ("_law_pick" : Str)) f__law_pick := by
  obtain ⟨fd, F⟩ := kn.s.def_ 2 (d := d__law_pick) rfl
  refine ⟨fd, [("_law_pot_here" : Str), ("_law_some" : Str)], okG (c := true) (k := 2) F sc__law_pick spW_len (fun cdv A outer s H vs Q E hr h => ⟨_, ?_, fn_end rfl h⟩), F.bindsN (fun _ _ _ _ _ _ us hl => match us, hl with | [_, _], _ => rfl), F.kp⟩
  exact (dss_one (ds_ret (de_ix (de_var (i := 1) rfl (.inl rfl)) (de_f (ok__law_draw kn) hr (by decide) rfl kn.glo__law_draw (dr_cons (de_var (i := 0) rfl (.inl rfl)) (dr_cons (de_cb c_len rfl kn.free_len PyProof.Rows.Boot.«len» (de_var (i := 1) rfl (.inl rfl))) dr_nil))) (fun _ _ => rfl))))
theorem sc__law_grounds : FnScope [("_law_e" : Str), ("_law_found" : Str)] [("_law_e" : Str)] (defScope s__law_grounds) := ⟨rfl, rfl, rfl, by decide +kernel, rfl, by decide +kernel, by decide +kernel⟩
def den__law_grounds_2 : Den Out := (dRet (dAdd (dVar 1) (dLst (dCons (dIsX (gIsT ("RuntimeError" : Str)) (dVar 0)) (dCons (dIsX (gIsT ("ArithmeticError" : Str)) (dVar 0)) dNil)))))
def den__law_grounds_1 : Den Out := (dSeq (dSet 1 (dAdd (dVar 1) (dLst (dCons (dIsX (gIs 36) (dVar 0)) (dCons (dIsX (gIsT ("ValueError" : Str)) (dVar 0)) (dCons (dIsX (gIsT ("LookupError" : Str)) (dVar 0)) dNil)))))) den__law_grounds_2)
def den__law_grounds : Den Out := (dSeq (dSet 1 (dLst (dCons (dIsX (gIs 0) (dVar 0)) (dCons (dIsX (gIs 23) (dVar 0)) (dCons (dIsX (gIs 26) (dVar 0)) dNil))))) den__law_grounds_1)
def f__law_grounds : List W → Option (W × List W) := dFn 1 2 den__law_grounds
theorem ok__law_grounds {P : Program} {w : World} {K : PySem.W.Frag} {mg : Str → Option Value} {base : Heap} (kn : Kn K mg) : FunOk false P w K mg base (clK K) 2 (He.ga K ("_law_grounds" : Str)) f__law_grounds := by
  obtain ⟨fd, F⟩ := kn.s.def_ 3 (d := d__law_grounds) rfl
  refine ⟨fd, [("_law_e" : Str)], okG (c := false) (k := 1) F sc__law_grounds spW_len (fun cdv A outer s H vs Q E hr h => ⟨_, ?_, fn_end rfl h⟩), F.bindsN (fun _ _ _ _ _ _ us hl => match us, hl with | [_], _ => rfl), F.kp⟩
  exact (dss_cons (ds_set (i := 1) sc__law_grounds.nd rfl (.inl rfl) (by decide) (de_lst (da_cons (de_isX (g := gIs 0) (kn.is_StairError) rfl kn.free_isinstance rfl kn.glo_StairError (de_var (i := 0) rfl (.inl rfl))) (da_cons (de_isX (g := gIs 23) (kn.is_MissingError) rfl kn.free_isinstance rfl kn.glo_MissingError (de_var (i := 0) rfl (.inl rfl))) (da_cons (de_isX (g := gIs 26) (kn.is_StateError) rfl kn.free_isinstance rfl kn.glo_StateError (de_var (i := 0) rfl (.inl rfl))) da_nil)))))
  (dss_cons (ds_set (i := 1) sc__law_grounds.nd rfl (.inl rfl) (by decide) (de_add (de_var (i := 1) rfl (.inl rfl)) (de_lst (da_cons (de_isX (g := gIs 36) (kn.is_LimitError) rfl kn.free_isinstance rfl kn.glo_LimitError (de_var (i := 0) rfl (.inl rfl))) (da_cons (de_isXT (g := gIsT ("ValueError" : Str)) (kn.is_ValueError) rfl kn.free_isinstance rfl kn.free_ValueError PyProof.Rows.Boot.«ValueError» (de_var (i := 0) rfl (.inl rfl))) (da_cons (de_isXT (g := gIsT ("LookupError" : Str)) (kn.is_LookupError) rfl kn.free_isinstance rfl kn.free_LookupError PyProof.Rows.Boot.«LookupError» (de_var (i := 0) rfl (.inl rfl))) da_nil))))))
  (dss_one (ds_ret (de_add (de_var (i := 1) rfl (.inl rfl)) (de_lst (da_cons (de_isXT (g := gIsT ("RuntimeError" : Str)) (kn.is_RuntimeError) rfl kn.free_isinstance rfl kn.free_RuntimeError PyProof.Rows.Boot.«RuntimeError» (de_var (i := 0) rfl (.inl rfl))) (da_cons (de_isXT (g := gIsT ("ArithmeticError" : Str)) (kn.is_ArithmeticError) rfl kn.free_isinstance rfl kn.free_ArithmeticError PyProof.Rows.Boot.«ArithmeticError» (de_var (i := 0) rfl (.inl rfl))) da_nil))))))))
theorem sc__law_ground : FnScope [("_law_way" : Str), ("_law_spot" : Str)] [("_law_way" : Str)] (defScope s__law_ground) := ⟨rfl, rfl, rfl, by decide +kernel, rfl, by decide +kernel, by decide +kernel⟩
def den__law_ground : Den Out := (dRet (dMul (dLc (dIRange1 (dCons (dC (.int 4)) dNil)) (gNm 1) dYes (dSh (dBin (gEqv false) (dVar 1) (dVar 0))) [1]) (dC (.int 2))))
def f__law_ground : List W → Option (W × List W) := dFn 1 2 den__law_ground
theorem ok__law_ground {P : Program} {w : World} {K : PySem.W.Frag} {mg : Str → Option Value} {base : Heap} (kn : Kn K mg) : FunOk true P w K mg base (clK K) 2 (He.ga K ("_law_ground" : Str)) f__law_ground := by
  obtain ⟨fd, F⟩ := kn.s.def_ 4 (d := d__law_ground) rfl
  refine ⟨fd, [("_law_way" : Str)], okG (c := true) (k := 1) F sc__law_ground spW_len (fun cdv A outer s H vs Q E hr h => ⟨_, ?_, fn_end rfl h⟩), F.bindsN (fun _ _ _ _ _ _ us hl => match us, hl with | [_], _ => rfl), F.kp⟩
  exact (dss_one (ds_ret (de_mul (de_lc (own := [(("_law_spot" : Str), 1)]) rfl sc__law_ground.nd (di_range1 rfl kn.free_range (da_cons de_int da_nil)) (show BlkOk [("_law_way" : Str), ("_law_spot" : Str)] (defScope s__law_ground) _ _ from ⟨rfl, by decide +kernel, by decide +kernel, by decide +kernel, by decide +kernel⟩) (by decide) (fun _ _ _ _ _ => (dg_name sc__law_ground.nd rfl (.inl rfl))) (fun _ _ _ _ _ => dts_nil) (fun _ _ _ _ _ => (de_cmp (o_eq hr.u64) (de_var (i := 1) rfl (.inl rfl)) (de_var (i := 0) rfl (.inr (.inl rfl))) (nomark _)))) de_int)))
theorem sc__law_thing : FnScope [("_law_pot_here" : Str), ("_law_turn" : Str)] [("_law_pot_here" : Str), ("_law_turn" : Str)] (defScope s__law_thing) := ⟨rfl, rfl, rfl, by decide +kernel, rfl, by decide +kernel, by decide +kernel⟩
def den__law_thing : Den Out := (dRet (dCall f__law_pick (dRCons (dVar 0) (dRCons (dLst (dCons (dC .none) (dCons (dVar 1) (dCons (dBin gSMul (dC (.str ("w" : Str))) (dVar 1)) (dCons (dLst (dCons (dVar 1) (dCons (dLst dNil) dNil))) (dCons (dTup (dCons (dVar 1) (dCons (dTup dNil) dNil))) (dCons (dDict1 (dVar 1) dDict0) (dCons (dC (.bool true)) (dCons (dUn gNeg (dVar 1)) (dCons (dBin gPow (dC (.int 10)) (dC (.int 20))) dNil)))))))))) dRNil)) []))
def f__law_thing : List W → Option (W × List W) := dFn 2 2 den__law_thing
theorem ok__law_thing {P : Program} {w : World} {K : PySem.W.Frag} {mg : Str → Option Value} {base : Heap} (kn : Kn K mg) : FunOk true P w K mg base (clK K) 4 (He.ga K ("_law_thing" : Str)) f__law_thing := by
  obtain ⟨fd, F⟩ := kn.s.def_ 5 (d := d__law_thing) rfl
  refine ⟨fd, [("_law_pot_here" : Str), ("_law_turn" : Str)], okG (c := true) (k := 3) F sc__law_thing spW_len (fun cdv A outer s H vs Q E hr h => ⟨_, ?_, fn_end rfl h⟩), F.bindsN (fun _ _ _ _ _ _ us hl => match us, hl with | [_, _], _ => rfl), F.kp⟩
  exact (dss_one (ds_ret (de_f (ok__law_pick kn) hr (by decide) rfl kn.glo__law_pick (dr_cons (de_var (i := 0) rfl (.inl rfl)) (dr_cons (de_lst (da_cons de_non (da_cons (de_var (i := 1) rfl (.inl rfl)) (da_cons (de_smul de_str (de_var (i := 1) rfl (.inl rfl))) (da_cons (de_lst (da_cons (de_var (i := 1) rfl (.inl rfl)) (da_cons (de_lst da_nil) da_nil))) (da_cons (de_tup (da_cons (de_var (i := 1) rfl (.inl rfl)) (da_cons (de_tup da_nil) da_nil))) (da_cons (de_dict1 (de_var (i := 1) rfl (.inl rfl)) de_dict0) (da_cons de_bl (da_cons (de_neg (de_var (i := 1) rfl (.inl rfl))) (da_cons (de_bin o_pow de_int de_int) da_nil)))))))))) dr_nil)))))
theorem sc__law_by_value : FnScope [("_law_odd" : Str), ("_law_found" : Str)] [("_law_odd" : Str)] (defScope s__law_by_value) := ⟨rfl, rfl, rfl, by decide +kernel, rfl, by decide +kernel, by decide +kernel⟩
def den__law_by_value_5 : Den Out := (dRet (dVar 1))
def den__law_by_value_4 : Den Out := (dSeq (dSet 1 (dAdd (dVar 1) (dLst (dCons (dXm 22 [("value" : Str)] false (dCons (dVar 0) dNil)) dNil)))) den__law_by_value_5)
def den__law_by_value_3 : Den Out := (dSeq (dSet 1 (dAdd (dVar 1) (dLst (dCons (dXm 16 [("value" : Str)] false (dCons (dVar 0) dNil)) (dCons (dXm 18 [("value" : Str)] false (dCons (dVar 0) dNil)) (dCons (dXm 19 [("value" : Str)] false (dCons (dVar 0) dNil)) (dCons (dXm 21 [("value" : Str)] false (dCons (dVar 0) dNil)) dNil))))))) den__law_by_value_4)
def den__law_by_value_2 : Den Out := (dSeq (dSet 1 (dAdd (dVar 1) (dLst (dCons (dXm 11 [("value" : Str)] false (dCons (dVar 0) dNil)) (dCons (dXm 12 [("value" : Str)] false (dCons (dVar 0) dNil)) (dCons (dXm 13 [("value" : Str)] false (dCons (dVar 0) dNil)) (dCons (dXm 14 [("value" : Str)] false (dCons (dVar 0) dNil)) dNil))))))) den__law_by_value_3)
def den__law_by_value_1 : Den Out := (dSeq (dSet 1 (dAdd (dVar 1) (dLst (dCons (dXm 7 [("value" : Str)] false (dCons (dVar 0) dNil)) (dCons (dXm 8 [("value" : Str)] false (dCons (dVar 0) dNil)) (dCons (dXm 9 [("value" : Str)] false (dCons (dVar 0) dNil)) (dCons (dXm 10 [("value" : Str)] false (dCons (dVar 0) dNil)) dNil))))))) den__law_by_value_2)
def den__law_by_value : Den Out := (dSeq (dSet 1 (dLst (dCons (dXm 1 [("value" : Str)] false (dCons (dVar 0) dNil)) (dCons (dXm 3 [("value" : Str)] false (dCons (dVar 0) dNil)) (dCons (dXm 5 [("value" : Str)] false (dCons (dVar 0) dNil)) (dCons (dXm 6 [("value" : Str)] false (dCons (dVar 0) dNil)) dNil)))))) den__law_by_value_1)
def f__law_by_value : List W → Option (W × List W) := dFn 1 2 den__law_by_value
theorem ok__law_by_value {P : Program} {w : World} {K : PySem.W.Frag} {mg : Str → Option Value} {base : Heap} (kn : Kn K mg) : FunOk true P w K mg base (clK K) 3 (He.ga K ("_law_by_value" : Str)) f__law_by_value := by
  obtain ⟨fd, F⟩ := kn.s.def_ 6 (d := d__law_by_value) rfl
  refine ⟨fd, [("_law_odd" : Str)], okG (c := true) (k := 2) F sc__law_by_value spW_len (fun cdv A outer s H vs Q E hr h => ⟨_, ?_, fn_end rfl h⟩), F.bindsN (fun _ _ _ _ _ _ us hl => match us, hl with | [_], _ => rfl), F.kp⟩
  exact (dss_cons (ds_set (i := 1) sc__law_by_value.nd rfl (.inl rfl) (by decide) (de_lst (da_cons (de_new (j := 1) (in_InvalidSteps kn) rfl hr (by decide) rfl kn.glo_InvalidSteps (da_cons (de_var (i := 0) rfl (.inl rfl)) da_nil)) (da_cons (de_new (j := 3) (in_InvalidJump kn) rfl hr (by decide) rfl kn.glo_InvalidJump (da_cons (de_var (i := 0) rfl (.inl rfl)) da_nil)) (da_cons (de_new (j := 5) (in_InvalidWay kn) rfl hr (by decide) rfl kn.glo_InvalidWay (da_cons (de_var (i := 0) rfl (.inl rfl)) da_nil)) (da_cons (de_new (j := 6) (in_InvalidThing kn) rfl hr (by decide) rfl kn.glo_InvalidThing (da_cons (de_var (i := 0) rfl (.inl rfl)) da_nil)) da_nil))))))
  (dss_cons (ds_set (i := 1) sc__law_by_value.nd rfl (.inl rfl) (by decide) (de_add (de_var (i := 1) rfl (.inl rfl)) (de_lst (da_cons (de_new (j := 7) (in_InvalidScore kn) rfl hr (by decide) rfl kn.glo_InvalidScore (da_cons (de_var (i := 0) rfl (.inl rfl)) da_nil)) (da_cons (de_new (j := 8) (in_InvalidWays kn) rfl hr (by decide) rfl kn.glo_InvalidWays (da_cons (de_var (i := 0) rfl (.inl rfl)) da_nil)) (da_cons (de_new (j := 9) (in_InvalidCount kn) rfl hr (by decide) rfl kn.glo_InvalidCount (da_cons (de_var (i := 0) rfl (.inl rfl)) da_nil)) (da_cons (de_new (j := 10) (in_InvalidFlow kn) rfl hr (by decide) rfl kn.glo_InvalidFlow (da_cons (de_var (i := 0) rfl (.inl rfl)) da_nil)) da_nil)))))))
  (dss_cons (ds_set (i := 1) sc__law_by_value.nd rfl (.inl rfl) (by decide) (de_add (de_var (i := 1) rfl (.inl rfl)) (de_lst (da_cons (de_new (j := 11) (in_InvalidRun kn) rfl hr (by decide) rfl kn.glo_InvalidRun (da_cons (de_var (i := 0) rfl (.inl rfl)) da_nil)) (da_cons (de_new (j := 12) (in_InvalidMark kn) rfl hr (by decide) rfl kn.glo_InvalidMark (da_cons (de_var (i := 0) rfl (.inl rfl)) da_nil)) (da_cons (de_new (j := 13) (in_InvalidMarks kn) rfl hr (by decide) rfl kn.glo_InvalidMarks (da_cons (de_var (i := 0) rfl (.inl rfl)) da_nil)) (da_cons (de_new (j := 14) (in_InvalidPrices kn) rfl hr (by decide) rfl kn.glo_InvalidPrices (da_cons (de_var (i := 0) rfl (.inl rfl)) da_nil)) da_nil)))))))
  (dss_cons (ds_set (i := 1) sc__law_by_value.nd rfl (.inl rfl) (by decide) (de_add (de_var (i := 1) rfl (.inl rfl)) (de_lst (da_cons (de_new (j := 16) (in_InvalidMoves kn) rfl hr (by decide) rfl kn.glo_InvalidMoves (da_cons (de_var (i := 0) rfl (.inl rfl)) da_nil)) (da_cons (de_new (j := 18) (in_InvalidHabits kn) rfl hr (by decide) rfl kn.glo_InvalidHabits (da_cons (de_var (i := 0) rfl (.inl rfl)) da_nil)) (da_cons (de_new (j := 19) (in_InvalidShares kn) rfl hr (by decide) rfl kn.glo_InvalidShares (da_cons (de_var (i := 0) rfl (.inl rfl)) da_nil)) (da_cons (de_new (j := 21) (in_InvalidClaim kn) rfl hr (by decide) rfl kn.glo_InvalidClaim (da_cons (de_var (i := 0) rfl (.inl rfl)) da_nil)) da_nil)))))))
  (dss_cons (ds_set (i := 1) sc__law_by_value.nd rfl (.inl rfl) (by decide) (de_add (de_var (i := 1) rfl (.inl rfl)) (de_lst (da_cons (de_new (j := 22) (in_InvalidCommand kn) rfl hr (by decide) rfl kn.glo_InvalidCommand (da_cons (de_var (i := 0) rfl (.inl rfl)) da_nil)) da_nil))))
  (dss_one (ds_ret (de_var (i := 1) rfl (.inl rfl)))))))))
theorem sc__law_by_named_value : FnScope [("_law_odd" : Str), ("_law_found" : Str)] [("_law_odd" : Str)] (defScope s__law_by_named_value) := ⟨rfl, rfl, rfl, by decide +kernel, rfl, by decide +kernel, by decide +kernel⟩
def den__law_by_named_value_6 : Den Out := (dRet (dVar 1))
def den__law_by_named_value_5 : Den Out := (dSeq (dSet 1 (dAdd (dVar 1) (dLst (dCons (dXm 21 [("value" : Str)] false (dCons (dVar 0) dNil)) (dCons (dXm 22 [("value" : Str)] false (dCons (dVar 0) dNil)) dNil))))) den__law_by_named_value_6)
def den__law_by_named_value_4 : Den Out := (dSeq (dSet 1 (dAdd (dVar 1) (dLst (dCons (dXm 16 [("value" : Str)] false (dCons (dVar 0) dNil)) (dCons (dXm 18 [("value" : Str)] false (dCons (dVar 0) dNil)) (dCons (dXm 19 [("value" : Str)] false (dCons (dVar 0) dNil)) dNil)))))) den__law_by_named_value_5)
def den__law_by_named_value_3 : Den Out := (dSeq (dSet 1 (dAdd (dVar 1) (dLst (dCons (dXm 12 [("value" : Str)] false (dCons (dVar 0) dNil)) (dCons (dXm 13 [("value" : Str)] false (dCons (dVar 0) dNil)) (dCons (dXm 14 [("value" : Str)] false (dCons (dVar 0) dNil)) dNil)))))) den__law_by_named_value_4)
def den__law_by_named_value_2 : Den Out := (dSeq (dSet 1 (dAdd (dVar 1) (dLst (dCons (dXm 9 [("value" : Str)] false (dCons (dVar 0) dNil)) (dCons (dXm 10 [("value" : Str)] false (dCons (dVar 0) dNil)) (dCons (dXm 11 [("value" : Str)] false (dCons (dVar 0) dNil)) dNil)))))) den__law_by_named_value_3)
def den__law_by_named_value_1 : Den Out := (dSeq (dSet 1 (dAdd (dVar 1) (dLst (dCons (dXm 6 [("value" : Str)] false (dCons (dVar 0) dNil)) (dCons (dXm 7 [("value" : Str)] false (dCons (dVar 0) dNil)) (dCons (dXm 8 [("value" : Str)] false (dCons (dVar 0) dNil)) dNil)))))) den__law_by_named_value_2)
def den__law_by_named_value : Den Out := (dSeq (dSet 1 (dLst (dCons (dXm 1 [("value" : Str)] false (dCons (dVar 0) dNil)) (dCons (dXm 3 [("value" : Str)] false (dCons (dVar 0) dNil)) (dCons (dXm 5 [("value" : Str)] false (dCons (dVar 0) dNil)) dNil))))) den__law_by_named_value_1)
def f__law_by_named_value : List W → Option (W × List W) := dFn 1 2 den__law_by_named_value
theorem ok__law_by_named_value {P : Program} {w : World} {K : PySem.W.Frag} {mg : Str → Option Value} {base : Heap} (kn : Kn K mg) : FunOk true P w K mg base (clK K) 3 (He.ga K ("_law_by_named_value" : Str)) f__law_by_named_value := by
  obtain ⟨fd, F⟩ := kn.s.def_ 7 (d := d__law_by_named_value) rfl
  refine ⟨fd, [("_law_odd" : Str)], okG (c := true) (k := 2) F sc__law_by_named_value spW_len (fun cdv A outer s H vs Q E hr h => ⟨_, ?_, fn_end rfl h⟩), F.bindsN (fun _ _ _ _ _ _ us hl => match us, hl with | [_], _ => rfl), F.kp⟩
  exact (dss_cons (ds_set (i := 1) sc__law_by_named_value.nd rfl (.inl rfl) (by decide) (de_lst (da_cons (de_newK (j := 1) (kw_InvalidSteps_s kn) rfl hr (by decide) rfl kn.glo_InvalidSteps (dk_cons (de_var (i := 0) rfl (.inl rfl)) dk_nil)) (da_cons (de_newK (j := 3) (kw_InvalidJump_s kn) rfl hr (by decide) rfl kn.glo_InvalidJump (dk_cons (de_var (i := 0) rfl (.inl rfl)) dk_nil)) (da_cons (de_newK (j := 5) (kw_InvalidWay_s kn) rfl hr (by decide) rfl kn.glo_InvalidWay (dk_cons (de_var (i := 0) rfl (.inl rfl)) dk_nil)) da_nil)))))
  (dss_cons (ds_set (i := 1) sc__law_by_named_value.nd rfl (.inl rfl) (by decide) (de_add (de_var (i := 1) rfl (.inl rfl)) (de_lst (da_cons (de_newK (j := 6) (kw_InvalidThing_s kn) rfl hr (by decide) rfl kn.glo_InvalidThing (dk_cons (de_var (i := 0) rfl (.inl rfl)) dk_nil)) (da_cons (de_newK (j := 7) (kw_InvalidScore_s kn) rfl hr (by decide) rfl kn.glo_InvalidScore (dk_cons (de_var (i := 0) rfl (.inl rfl)) dk_nil)) (da_cons (de_newK (j := 8) (kw_InvalidWays_s kn) rfl hr (by decide) rfl kn.glo_InvalidWays (dk_cons (de_var (i := 0) rfl (.inl rfl)) dk_nil)) da_nil))))))
  (dss_cons (ds_set (i := 1) sc__law_by_named_value.nd rfl (.inl rfl) (by decide) (de_add (de_var (i := 1) rfl (.inl rfl)) (de_lst (da_cons (de_newK (j := 9) (kw_InvalidCount_s kn) rfl hr (by decide) rfl kn.glo_InvalidCount (dk_cons (de_var (i := 0) rfl (.inl rfl)) dk_nil)) (da_cons (de_newK (j := 10) (kw_InvalidFlow_s kn) rfl hr (by decide) rfl kn.glo_InvalidFlow (dk_cons (de_var (i := 0) rfl (.inl rfl)) dk_nil)) (da_cons (de_newK (j := 11) (kw_InvalidRun_s kn) rfl hr (by decide) rfl kn.glo_InvalidRun (dk_cons (de_var (i := 0) rfl (.inl rfl)) dk_nil)) da_nil))))))
  (dss_cons (ds_set (i := 1) sc__law_by_named_value.nd rfl (.inl rfl) (by decide) (de_add (de_var (i := 1) rfl (.inl rfl)) (de_lst (da_cons (de_newK (j := 12) (kw_InvalidMark_s kn) rfl hr (by decide) rfl kn.glo_InvalidMark (dk_cons (de_var (i := 0) rfl (.inl rfl)) dk_nil)) (da_cons (de_newK (j := 13) (kw_InvalidMarks_s kn) rfl hr (by decide) rfl kn.glo_InvalidMarks (dk_cons (de_var (i := 0) rfl (.inl rfl)) dk_nil)) (da_cons (de_newK (j := 14) (kw_InvalidPrices_s kn) rfl hr (by decide) rfl kn.glo_InvalidPrices (dk_cons (de_var (i := 0) rfl (.inl rfl)) dk_nil)) da_nil))))))
  (dss_cons (ds_set (i := 1) sc__law_by_named_value.nd rfl (.inl rfl) (by decide) (de_add (de_var (i := 1) rfl (.inl rfl)) (de_lst (da_cons (de_newK (j := 16) (kw_InvalidMoves_s kn) rfl hr (by decide) rfl kn.glo_InvalidMoves (dk_cons (de_var (i := 0) rfl (.inl rfl)) dk_nil)) (da_cons (de_newK (j := 18) (kw_InvalidHabits_s kn) rfl hr (by decide) rfl kn.glo_InvalidHabits (dk_cons (de_var (i := 0) rfl (.inl rfl)) dk_nil)) (da_cons (de_newK (j := 19) (kw_InvalidShares_s kn) rfl hr (by decide) rfl kn.glo_InvalidShares (dk_cons (de_var (i := 0) rfl (.inl rfl)) dk_nil)) da_nil))))))
  (dss_cons (ds_set (i := 1) sc__law_by_named_value.nd rfl (.inl rfl) (by decide) (de_add (de_var (i := 1) rfl (.inl rfl)) (de_lst (da_cons (de_newK (j := 21) (kw_InvalidClaim_s kn) rfl hr (by decide) rfl kn.glo_InvalidClaim (dk_cons (de_var (i := 0) rfl (.inl rfl)) dk_nil)) (da_cons (de_newK (j := 22) (kw_InvalidCommand_s kn) rfl hr (by decide) rfl kn.glo_InvalidCommand (dk_cons (de_var (i := 0) rfl (.inl rfl)) dk_nil)) da_nil)))))
  (dss_one (ds_ret (de_var (i := 1) rfl (.inl rfl))))))))))
theorem sc__law_by_place : FnScope [("_law_odd" : Str), ("_law_found" : Str)] [("_law_odd" : Str)] (defScope s__law_by_place) := ⟨rfl, rfl, rfl, by decide +kernel, rfl, by decide +kernel, by decide +kernel⟩
def den__law_by_place_3 : Den Out := (dRet (dVar 1))
def den__law_by_place_2 : Den Out := (dSeq (dSet 1 (dAdd (dVar 1) (dLst (dCons (dXm 17 [("position" : Str)] false (dCons (dVar 0) dNil)) dNil)))) den__law_by_place_3)
def den__law_by_place_1 : Den Out := (dSeq (dSet 1 (dAdd (dVar 1) (dLst (dCons (dXm 2 [("position" : Str)] false (dCons (dVar 0) dNil)) (dCons (dXm 4 [("position" : Str)] false (dCons (dVar 0) dNil)) (dCons (dXm 15 [("position" : Str)] false (dCons (dVar 0) dNil)) dNil)))))) den__law_by_place_2)
def den__law_by_place : Den Out := (dSeq (dSet 1 (dLst (dCons (dXm 2 [("position" : Str)] false (dCons (dVar 0) dNil)) (dCons (dXm 4 [("position" : Str)] false (dCons (dVar 0) dNil)) (dCons (dXm 15 [("position" : Str)] false (dCons (dVar 0) dNil)) (dCons (dXm 17 [("position" : Str)] false (dCons (dVar 0) dNil)) dNil)))))) den__law_by_place_1)
def f__law_by_place : List W → Option (W × List W) := dFn 1 2 den__law_by_place
theorem ok__law_by_place {P : Program} {w : World} {K : PySem.W.Frag} {mg : Str → Option Value} {base : Heap} (kn : Kn K mg) : FunOk true P w K mg base (clK K) 3 (He.ga K ("_law_by_place" : Str)) f__law_by_place := by
  obtain ⟨fd, F⟩ := kn.s.def_ 8 (d := d__law_by_place) rfl
  refine ⟨fd, [("_law_odd" : Str)], okG (c := true) (k := 2) F sc__law_by_place spW_len (fun cdv A outer s H vs Q E hr h => ⟨_, ?_, fn_end rfl h⟩), F.bindsN (fun _ _ _ _ _ _ us hl => match us, hl with | [_], _ => rfl), F.kp⟩
  exact (dss_cons (ds_set (i := 1) sc__law_by_place.nd rfl (.inl rfl) (by decide) (de_lst (da_cons (de_new (j := 2) (in_InvalidJumps kn) rfl hr (by decide) rfl kn.glo_InvalidJumps (da_cons (de_var (i := 0) rfl (.inl rfl)) da_nil)) (da_cons (de_new (j := 4) (in_InvalidLengths kn) rfl hr (by decide) rfl kn.glo_InvalidLengths (da_cons (de_var (i := 0) rfl (.inl rfl)) da_nil)) (da_cons (de_new (j := 15) (in_InvalidBounds kn) rfl hr (by decide) rfl kn.glo_InvalidBounds (da_cons (de_var (i := 0) rfl (.inl rfl)) da_nil)) (da_cons (de_new (j := 17) (in_InvalidEnds kn) rfl hr (by decide) rfl kn.glo_InvalidEnds (da_cons (de_var (i := 0) rfl (.inl rfl)) da_nil)) da_nil))))))
  (dss_cons (ds_set (i := 1) sc__law_by_place.nd rfl (.inl rfl) (by decide) (de_add (de_var (i := 1) rfl (.inl rfl)) (de_lst (da_cons (de_newK (j := 2) (kw_InvalidJumps_s kn) rfl hr (by decide) rfl kn.glo_InvalidJumps (dk_cons (de_var (i := 0) rfl (.inl rfl)) dk_nil)) (da_cons (de_newK (j := 4) (kw_InvalidLengths_s kn) rfl hr (by decide) rfl kn.glo_InvalidLengths (dk_cons (de_var (i := 0) rfl (.inl rfl)) dk_nil)) (da_cons (de_newK (j := 15) (kw_InvalidBounds_s kn) rfl hr (by decide) rfl kn.glo_InvalidBounds (dk_cons (de_var (i := 0) rfl (.inl rfl)) dk_nil)) da_nil))))))
  (dss_cons (ds_set (i := 1) sc__law_by_place.nd rfl (.inl rfl) (by decide) (de_add (de_var (i := 1) rfl (.inl rfl)) (de_lst (da_cons (de_newK (j := 17) (kw_InvalidEnds_s kn) rfl hr (by decide) rfl kn.glo_InvalidEnds (dk_cons (de_var (i := 0) rfl (.inl rfl)) dk_nil)) da_nil))))
  (dss_one (ds_ret (de_var (i := 1) rfl (.inl rfl)))))))
theorem sc__law_thrown : FnScope [("_law_way" : Str), ("_law_odd" : Str)] [("_law_way" : Str), ("_law_odd" : Str)] (defScope s__law_thrown) := ⟨rfl, rfl, rfl, by decide +kernel, rfl, by decide +kernel, by decide +kernel⟩
def den__law_thrown : Den Exn := (dXif (dTest (dBin (gEqv false) (dVar 0) (dC (.int 0)))) (dXr 2 [("position" : Str)] (dCons (dVar 1) dNil))
  (dXif (dTest (dBin (gEqv false) (dVar 0) (dC (.int 1)))) (dXr 5 [("value" : Str)] (dCons (dVar 1) dNil))
  (dXif (dTest (dBin (gEqv false) (dVar 0) (dC (.int 2)))) (dXr 20 [("line" : Str)] (dCons (dVar 1) dNil))
  (dXif (dTest (dBin (gEqv false) (dVar 0) (dC (.int 3)))) (dXr 24 [("value" : Str)] (dCons (dVar 1) dNil))
  (dXif (dTest (dBin (gEqv false) (dVar 0) (dC (.int 4)))) (dXr 30 [] dNil)
  (dXif (dTest (dBin (gEqv false) (dVar 0) (dC (.int 5)))) (dXr 32 [("least" : Str), ("greatest" : Str)] (dCons (dVar 1) (dCons (dVar 0) dNil)))
  (dXr 37 [("what" : Str), ("limit" : Str)] (dCons (dVar 0) (dCons (dVar 1) dNil)))))))))
def f__law_thrown : List D → Option Exn := dFnX 2 2 den__law_thrown
theorem ok__law_thrown {P : Program} {w : World} {K : PySem.W.Frag} {mg : Str → Option Value} {base : Heap} (kn : Kn K mg) : FunX true P w K mg base (clK K) 3 (He.ga K ("_law_thrown" : Str)) f__law_thrown := by
  obtain ⟨fd, F⟩ := kn.s.def_ 9 (d := d__law_thrown) rfl
  refine ⟨fd, [("_law_way" : Str), ("_law_odd" : Str)], okG (c := true) (k := 2) F sc__law_thrown spXX_len (fun cdv A outer s H vs Q E hr h => ⟨_, ?_, fn_endX (D' := _) rfl h⟩), F.bindsN (fun _ _ _ _ _ _ us hl => match us, hl with | [_, _], _ => rfl), F.kp⟩
  exact (dxs_if (dt_cmp (o_eq hr.u64) (de_var (i := 0) rfl (.inl rfl)) de_int (nomark _)) (dxs_one (dx_new (j := 2) rfl (takes_of rfl rfl rfl rfl) (in_InvalidJumps kn) rfl hr (by decide) rfl kn.glo_InvalidJumps (da_cons (de_var (i := 1) rfl (.inl rfl)) da_nil)))
  (dxs_if (dt_cmp (o_eq hr.u64) (de_var (i := 0) rfl (.inl rfl)) de_int (nomark _)) (dxs_one (dx_new (j := 5) rfl (takes_of rfl rfl rfl rfl) (in_InvalidWay kn) rfl hr (by decide) rfl kn.glo_InvalidWay (da_cons (de_var (i := 1) rfl (.inl rfl)) da_nil)))
  (dxs_if (dt_cmp (o_eq hr.u64) (de_var (i := 0) rfl (.inl rfl)) de_int (nomark _)) (dxs_one (dx_new (j := 20) rfl (takes_of rfl rfl rfl rfl) (in_InvalidText kn) rfl hr (by decide) rfl kn.glo_InvalidText (da_cons (de_var (i := 1) rfl (.inl rfl)) da_nil)))
  (dxs_if (dt_cmp (o_eq hr.u64) (de_var (i := 0) rfl (.inl rfl)) de_int (nomark _)) (dxs_one (dx_new (j := 24) rfl (takes_of rfl rfl rfl rfl) (in_UnknownWay kn) rfl hr (by decide) rfl kn.glo_UnknownWay (da_cons (de_var (i := 1) rfl (.inl rfl)) da_nil)))
  (dxs_if (dt_cmp (o_eq hr.u64) (de_var (i := 0) rfl (.inl rfl)) de_int (nomark _)) (dxs_one (dx_new0 (j := 30) rfl (takes_of rfl rfl rfl rfl) (in_NothingFits kn) rfl hr (by decide) rfl kn.glo_NothingFits))
  (dxs_if (dt_cmp (o_eq hr.u64) (de_var (i := 0) rfl (.inl rfl)) de_int (nomark _)) (dxs_one (dx_new (j := 32) rfl (takes_of rfl rfl rfl rfl) (in_NotBetween kn) rfl hr (by decide) rfl kn.glo_NotBetween (da_cons (de_var (i := 1) rfl (.inl rfl)) (da_cons (de_var (i := 0) rfl (.inl rfl)) da_nil))))
  (dxs_one (dx_new (j := 37) rfl (takes_of rfl rfl rfl rfl) (in_TooMany kn) rfl hr (by decide) rfl kn.glo_TooMany (da_cons (de_var (i := 0) rfl (.inl rfl)) (da_cons (de_var (i := 1) rfl (.inl rfl)) da_nil))))))))))
theorem sc__law_caught : FnScope [("_law_way" : Str), ("_law_odd" : Str), ("_law_told" : Str), ("_law_e" : Str)] [("_law_way" : Str), ("_law_odd" : Str)] (defScope s__law_caught) := ⟨rfl, rfl, rfl, by decide +kernel, rfl, by decide +kernel, by decide +kernel⟩
def den__law_caught_2 : Den Out := (dRet (dVar 2))
def den__law_caught_1 : Den Out := (dSeq (dTry (dCallX f__law_thrown (dRCons (dVar 0) (dRCons (dVar 1) dRNil))) ((gIs 0, 3, (dSet 2 (dAdd (dLst (dCons (dC (.str ("value" : Str))) dNil)) (dCall f__law_grounds (dRCons (dVar 3) dRNil) [])))) :: ((gIs 23, 3, (dSet 2 (dAdd (dLst (dCons (dC (.str ("lacks" : Str))) dNil)) (dCall f__law_grounds (dRCons (dVar 3) dRNil) [])))) :: ((gIs 26, 3, (dSet 2 (dAdd (dLst (dCons (dC (.str ("state" : Str))) dNil)) (dCall f__law_grounds (dRCons (dVar 3) dRNil) [])))) :: ((gIs 36, 3, (dSet 2 (dAdd (dLst (dCons (dC (.str ("limit" : Str))) (dCons (dXf ("limit" : Str) okC (dVar 3)) (dCons (dXf ("what" : Str) okC (dVar 3)) dNil)))) (dCall f__law_grounds (dRCons (dVar 3) dRNil) [])))) :: []))))) den__law_caught_2)
def den__law_caught : Den Out := (dSeq (dSet 2 (dLst dNil)) den__law_caught_1)
def f__law_caught : List W → Option (W × List W) := dFn 2 4 den__law_caught
theorem ok__law_caught {P : Program} {w : World} {K : PySem.W.Frag} {mg : Str → Option Value} {base : Heap} (kn : Kn K mg) : FunOk true P w K mg base (clK K) 4 (He.ga K ("_law_caught" : Str)) f__law_caught := by
  obtain ⟨fd, F⟩ := kn.s.def_ 10 (d := d__law_caught) rfl
  refine ⟨fd, [("_law_way" : Str), ("_law_odd" : Str)], okG (c := true) (k := 3) F sc__law_caught spW_len (fun cdv A outer s H vs Q E hr h => ⟨_, ?_, fn_end rfl h⟩), F.bindsN (fun _ _ _ _ _ _ us hl => match us, hl with | [_, _], _ => rfl), F.kp⟩
  exact (dss_cons (ds_set (i := 2) sc__law_caught.nd rfl (.inl rfl) (by decide) (de_lst da_nil))
  (dss_cons (ds_try rfl rfl rfl sc__law_caught.nd takes0 (fun _ _ _ t => (dxs_one (dx_f t (ok__law_thrown kn) hr (by decide) rfl kn.glo__law_thrown (dr_cons (de_var (i := 0) rfl (.inl rfl)) (dr_cons (de_var (i := 1) rfl (.inl rfl)) dr_nil))))) (HdsD.cons (m := gIs 0) (i := 3) ⟨rfl, by decide, .inl kn.glo_StairError⟩ rfl rfl (by decide) kn.ex_StairError (fun _ _ => (dss_one (ds_set (i := 2) sc__law_caught.nd rfl (.inl rfl) (by decide) (de_add (de_lst (da_cons de_str da_nil)) (de_f (ok__law_grounds kn) (hr.mark _) (by decide) rfl kn.glo__law_grounds (dr_cons (de_var (i := 3) rfl (.inl rfl)) dr_nil)))))) (HdsD.cons (m := gIs 23) (i := 3) ⟨rfl, by decide, .inl kn.glo_MissingError⟩ rfl rfl (by decide) kn.ex_MissingError (fun _ _ => (dss_one (ds_set (i := 2) sc__law_caught.nd rfl (.inl rfl) (by decide) (de_add (de_lst (da_cons de_str da_nil)) (de_f (ok__law_grounds kn) (hr.mark _) (by decide) rfl kn.glo__law_grounds (dr_cons (de_var (i := 3) rfl (.inl rfl)) dr_nil)))))) (HdsD.cons (m := gIs 26) (i := 3) ⟨rfl, by decide, .inl kn.glo_StateError⟩ rfl rfl (by decide) kn.ex_StateError (fun _ _ => (dss_one (ds_set (i := 2) sc__law_caught.nd rfl (.inl rfl) (by decide) (de_add (de_lst (da_cons de_str da_nil)) (de_f (ok__law_grounds kn) (hr.mark _) (by decide) rfl kn.glo__law_grounds (dr_cons (de_var (i := 3) rfl (.inl rfl)) dr_nil)))))) (HdsD.cons (m := gIs 36) (i := 3) ⟨rfl, by decide, .inl kn.glo_LimitError⟩ rfl rfl (by decide) kn.ex_LimitError (fun _ _ => (dss_one (ds_set (i := 2) sc__law_caught.nd rfl (.inl rfl) (by decide) (de_add (de_lst (da_cons de_str (da_cons (de_xf (ok := okC) (kn.xf_limit) (de_var (i := 3) rfl (.inl rfl))) (da_cons (de_xf (ok := okC) (kn.xf_what) (de_var (i := 3) rfl (.inl rfl))) da_nil)))) (de_f (ok__law_grounds kn) (hr.mark _) (by decide) rfl kn.glo__law_grounds (dr_cons (de_var (i := 3) rfl (.inl rfl)) dr_nil)))))) HdsD.nil)))))
  (dss_one (ds_ret (de_var (i := 2) rfl (.inl rfl))))))
theorem sc__law_raised_right : FnScope [("_law_odd" : Str), ("_law_dues" : Str), ("_law_way" : Str), ("_law_due" : Str), ("_law_told" : Str), ("_law_e" : Str)] [("_law_odd" : Str)] (defScope s__law_raised_right) := ⟨rfl, rfl, rfl, by decide +kernel, rfl, by decide +kernel, by decide +kernel⟩
def den__law_raised_right_5 : Den Out := (dRet (dBin (gEqv false) (dUn gRepr (dVar 4)) (dUn gRepr (dLst (dCons (dVar 0) (dCons (dC (.int 5)) dNil))))))
def den__law_raised_right_4 : Den Out := (dSeq (dTry (dCallX f__law_thrown (dRCons (dC (.int 5)) (dRCons (dVar 0) dRNil))) ((gIs 32, 5, (dSet 4 (dLst (dCons (dXf ("least" : Str) okC (dVar 5)) (dCons (dXf ("greatest" : Str) okC (dVar 5)) dNil))))) :: [])) den__law_raised_right_5)
def den__law_raised_right_3 : Den Out := (dSeq (dSet 4 (dLst dNil)) den__law_raised_right_4)
def den__law_raised_right_2 : Den Out := (dSeq (dFor (dIEnum (dCons (dVar 1) dNil)) (gTp (gsCons (gNm 2) (gsCons (gNm 3) gsNil))) (dIfS (dTest (dBin (gEqv true) (dUn gRepr (dCall f__law_caught (dRCons (dVar 2) (dRCons (dVar 0) dRNil)) [])) (dUn gRepr (dVar 3)))) (dRet (dC (.bool false))) dNext)) den__law_raised_right_3)
def den__law_raised_right_1 : Den Out := (dSeq (dSet 1 (dAdd (dVar 1) (dLst (dCons (dAdd (dLst (dCons (dC (.str ("limit" : Str))) (dCons (dVar 0) (dCons (dC (.int 6)) dNil)))) (dCall f__law_ground (dRCons (dC (.int 3)) dRNil) [])) dNil)))) den__law_raised_right_2)
def den__law_raised_right : Den Out := (dSeq (dSet 1 (dAdd (dAdd (dMul (dLst (dCons (dAdd (dLst (dCons (dC (.str ("value" : Str))) dNil)) (dCall f__law_ground (dRCons (dC (.int 0)) dRNil) [])) dNil)) (dC (.int 3))) (dLst (dCons (dAdd (dLst (dCons (dC (.str ("lacks" : Str))) dNil)) (dCall f__law_ground (dRCons (dC (.int 1)) dRNil) [])) dNil))) (dMul (dLst (dCons (dAdd (dLst (dCons (dC (.str ("state" : Str))) dNil)) (dCall f__law_ground (dRCons (dC (.int 2)) dRNil) [])) dNil)) (dC (.int 2))))) den__law_raised_right_1)
def f__law_raised_right : List W → Option (W × List W) := dFn 1 6 den__law_raised_right
theorem ok__law_raised_right {P : Program} {w : World} {K : PySem.W.Frag} {mg : Str → Option Value} {base : Heap} (kn : Kn K mg) : FunOk true P w K mg base (clK K) 5 (He.ga K ("_law_raised_right" : Str)) f__law_raised_right := by
  obtain ⟨fd, F⟩ := kn.s.def_ 11 (d := d__law_raised_right) rfl
  refine ⟨fd, [("_law_odd" : Str)], okG (c := true) (k := 4) F sc__law_raised_right spW_len (fun cdv A outer s H vs Q E hr h => ⟨_, ?_, fn_end rfl h⟩), F.bindsN (fun _ _ _ _ _ _ us hl => match us, hl with | [_], _ => rfl), F.kp⟩
  exact (dss_cons (ds_set (i := 1) sc__law_raised_right.nd rfl (.inl rfl) (by decide) (de_add (de_add (de_mul (de_lst (da_cons (de_add (de_lst (da_cons de_str da_nil)) (de_f (ok__law_ground kn) hr (by decide) rfl kn.glo__law_ground (dr_cons de_int dr_nil))) da_nil)) de_int) (de_lst (da_cons (de_add (de_lst (da_cons de_str da_nil)) (de_f (ok__law_ground kn) hr (by decide) rfl kn.glo__law_ground (dr_cons de_int dr_nil))) da_nil))) (de_mul (de_lst (da_cons (de_add (de_lst (da_cons de_str da_nil)) (de_f (ok__law_ground kn) hr (by decide) rfl kn.glo__law_ground (dr_cons de_int dr_nil))) da_nil)) de_int)))
  (dss_cons (ds_set (i := 1) sc__law_raised_right.nd rfl (.inl rfl) (by decide) (de_add (de_var (i := 1) rfl (.inl rfl)) (de_lst (da_cons (de_add (de_lst (da_cons de_str (da_cons (de_var (i := 0) rfl (.inl rfl)) (da_cons de_int da_nil)))) (de_f (ok__law_ground kn) hr (by decide) rfl kn.glo__law_ground (dr_cons de_int dr_nil))) da_nil))))
  (dss_cons (ds_for (passes_of rfl) rfl (di_enum rfl kn.free_enumerate (da_cons (de_var (i := 1) rfl (.inl rfl)) da_nil)) (dg_tup rfl (dgs_cons (dg_name sc__law_raised_right.nd rfl (.inl rfl)) (dgs_cons (dg_name sc__law_raised_right.nd rfl (.inl rfl)) dgs_nil)) (gsl_cons (gsl_cons gsl_nil))) (dss_one (ds_if (dt_cmp (o_ne hr.u64) (de_repr hr rfl kn.free_repr (de_f (ok__law_caught kn) hr (by decide) rfl kn.glo__law_caught (dr_cons (de_var (i := 2) rfl (.inl rfl)) (dr_cons (de_var (i := 0) rfl (.inl rfl)) dr_nil)))) (de_repr hr rfl kn.free_repr (de_var (i := 3) rfl (.inl rfl))) (nomark _)) (dss_one (ds_ret de_bl)) dss_nil)) (by decide))
  (dss_cons (ds_set (i := 4) sc__law_raised_right.nd rfl (.inl rfl) (by decide) (de_lst da_nil))
  (dss_cons (ds_try rfl rfl rfl sc__law_raised_right.nd takes0 (fun _ _ _ t => (dxs_one (dx_f t (ok__law_thrown kn) hr (by decide) rfl kn.glo__law_thrown (dr_cons de_int (dr_cons (de_var (i := 0) rfl (.inl rfl)) dr_nil))))) (HdsD.cons (m := gIs 32) (i := 5) ⟨rfl, by decide, .inl kn.glo_NotBetween⟩ rfl rfl (by decide) kn.ex_NotBetween (fun _ _ => (dss_one (ds_set (i := 4) sc__law_raised_right.nd rfl (.inl rfl) (by decide) (de_lst (da_cons (de_xf (ok := okC) (kn.xf_least) (de_var (i := 5) rfl (.inl rfl))) (da_cons (de_xf (ok := okC) (kn.xf_greatest) (de_var (i := 5) rfl (.inl rfl))) da_nil)))))) HdsD.nil))
  (dss_one (ds_ret (de_cmp (o_eq hr.u64) (de_repr hr rfl kn.free_repr (de_var (i := 4) rfl (.inl rfl))) (de_repr hr rfl kn.free_repr (de_lst (da_cons (de_var (i := 0) rfl (.inl rfl)) (da_cons de_int da_nil)))) (nomark _)))))))))
theorem sc__law_values_right : FnScope [("_law_pot_here" : Str), ("_law_odd" : Str), ("_law_far" : Str), ("_law_some" : Str), ("_law_others" : Str), ("_law_places" : Str), ("_law_lines" : Str), ("_law_lost" : Str), ("_law_e" : Str)] [("_law_pot_here" : Str)] (defScope s__law_values_right) := ⟨rfl, rfl, rfl, by decide +kernel, rfl, by decide +kernel, by decide +kernel⟩
def den__law_values_right_9 : Den Out := (dRet (dUn gAll (dLc (dISeq (dVar 7)) (gNm 8) dYes (dSh (dBin (gEqv false) (dCall f__law_grounds (dRCons (dVar 8) dRNil) []) (dCall f__law_ground (dRCons (dC (.int 1)) dRNil) []))) [8])))
def den__law_values_right_8 : Den Out := (dSeq (dIfS (dTest (dBin (gEqv true) (dUn gRepr (dLc (dISeq (dVar 7)) (gNm 8) dYes (dSh (dXf ("value" : Str) okC (dVar 8))) [8])) (dUn gRepr (dLst (dCons (dVar 1) (dCons (dVar 1) (dCons (dVar 2) (dCons (dVar 2) dNil)))))))) (dRet (dC (.bool false))) dNext) den__law_values_right_9)
def den__law_values_right_7 : Den Out := (dSeq (dSet 7 (dLst (dCons (dXm 24 [("value" : Str)] false (dCons (dVar 1) dNil)) (dCons (dXm 25 [("value" : Str)] false (dCons (dVar 1) dNil)) (dCons (dXm 24 [("value" : Str)] false (dCons (dVar 2) dNil)) (dCons (dXm 25 [("value" : Str)] false (dCons (dVar 2) dNil)) dNil)))))) den__law_values_right_8)
def den__law_values_right_6 : Den Out := (dSeq (dIfS (dNot (dTest (dUn gAll (dLc (dISeq (dAdd (dAdd (dVar 3) (dVar 5)) (dVar 6))) (gNm 8) dYes (dSh (dBin (gEqv false) (dCall f__law_grounds (dRCons (dVar 8) dRNil) []) (dCall f__law_ground (dRCons (dC (.int 0)) dRNil) []))) [8])))) (dRet (dC (.bool false))) dNext) den__law_values_right_7)
def den__law_values_right_5 : Den Out := (dSeq (dIfS (dTest (dBin (gEqv true) (dUn gRepr (dLc (dISeq (dVar 4)) (gNm 8) dYes (dSh (dXf ("value" : Str) okC (dVar 8))) [8])) (dUn gRepr (dMul (dLst (dCons (dVar 2) dNil)) (dC (.int 17)))))) (dRet (dC (.bool false))) dNext) den__law_values_right_6)
def den__law_values_right_4 : Den Out := (dSeq (dIfS (dOr (dTest (dBin (gEqv true) (dUn gRepr (dLc (dISeq (dVar 5)) (gNm 8) dYes (dSh (dXf ("position" : Str) okC (dVar 8))) [8])) (dUn gRepr (dMul (dLst (dCons (dVar 1) dNil)) (dC (.int 8)))))) (dTest (dBin (gEqv true) (dUn gRepr (dLc (dISeq (dVar 6)) (gNm 8) dYes (dSh (dXf ("line" : Str) okC (dVar 8))) [8])) (dUn gRepr (dMul (dLst (dCons (dVar 1) dNil)) (dC (.int 2))))))) (dRet (dC (.bool false))) dNext) den__law_values_right_5)
def den__law_values_right_3 : Den Out := (dSeq (dIfS (dTest (dBin (gEqv true) (dUn gRepr (dLc (dISeq (dVar 3)) (gNm 8) dYes (dSh (dXf ("value" : Str) okC (dVar 8))) [8])) (dUn gRepr (dMul (dLst (dCons (dVar 1) dNil)) (dC (.int 34)))))) (dRet (dC (.bool false))) dNext) den__law_values_right_4)
def den__law_values_right_2 : Den Out := (dSeq (dPar 5 6 (dRCons (dCall f__law_by_place (dRCons (dVar 1) dRNil) []) (dRCons (dLst (dCons (dXm 20 [("line" : Str)] false (dCons (dVar 1) dNil)) (dCons (dXm 20 [("line" : Str)] false (dCons (dVar 1) dNil)) dNil))) dRNil))) den__law_values_right_3)
def den__law_values_right_1 : Den Out := (dSeq (dPar 3 4 (dRCons (dAdd (dCall f__law_by_value (dRCons (dVar 1) dRNil) []) (dCall f__law_by_named_value (dRCons (dVar 1) dRNil) [])) (dRCons (dCall f__law_by_value (dRCons (dVar 2) dRNil) []) dRNil))) den__law_values_right_2)
def den__law_values_right : Den Out := (dSeq (dPar 1 2 (dRCons (dCall f__law_thing (dRCons (dVar 0) (dRCons (dC (.int 3)) dRNil)) []) (dRCons (dCall f__law_thing (dRCons (dVar 0) (dRCons (dC (.int 4)) dRNil)) []) dRNil))) den__law_values_right_1)
def f__law_values_right : List W → Option (W × List W) := dFn 1 9 den__law_values_right
theorem ok__law_values_right {P : Program} {w : World} {K : PySem.W.Frag} {mg : Str → Option Value} {base : Heap} (kn : Kn K mg) : FunOk true P w K mg base (clK K) 5 (He.ga K ("_law_values_right" : Str)) f__law_values_right := by
  obtain ⟨fd, F⟩ := kn.s.def_ 12 (d := d__law_values_right) rfl
  refine ⟨fd, [("_law_pot_here" : Str)], okG (c := true) (k := 4) F sc__law_values_right spW_len (fun cdv A outer s H vs Q E hr h => ⟨_, ?_, fn_end rfl h⟩), F.bindsN (fun _ _ _ _ _ _ us hl => match us, hl with | [_], _ => rfl), F.kp⟩
  exact (dss_cons (ds_par (i := 1) (j := 2) rfl sc__law_values_right.nd rfl rfl (by decide) rfl rfl (by decide) (by decide) (dr_cons (de_f (ok__law_thing kn) hr (by decide) rfl kn.glo__law_thing (dr_cons (de_var (i := 0) rfl (.inl rfl)) (dr_cons de_int dr_nil))) (dr_cons (de_f (ok__law_thing kn) hr (by decide) rfl kn.glo__law_thing (dr_cons (de_var (i := 0) rfl (.inl rfl)) (dr_cons de_int dr_nil))) dr_nil)))
  (dss_cons (ds_par (i := 3) (j := 4) rfl sc__law_values_right.nd rfl rfl (by decide) rfl rfl (by decide) (by decide) (dr_cons (de_add (de_f (ok__law_by_value kn) hr (by decide) rfl kn.glo__law_by_value (dr_cons (de_var (i := 1) rfl (.inl rfl)) dr_nil)) (de_f (ok__law_by_named_value kn) hr (by decide) rfl kn.glo__law_by_named_value (dr_cons (de_var (i := 1) rfl (.inl rfl)) dr_nil))) (dr_cons (de_f (ok__law_by_value kn) hr (by decide) rfl kn.glo__law_by_value (dr_cons (de_var (i := 2) rfl (.inl rfl)) dr_nil)) dr_nil)))
  (dss_cons (ds_par (i := 5) (j := 6) rfl sc__law_values_right.nd rfl rfl (by decide) rfl rfl (by decide) (by decide) (dr_cons (de_f (ok__law_by_place kn) hr (by decide) rfl kn.glo__law_by_place (dr_cons (de_var (i := 1) rfl (.inl rfl)) dr_nil)) (dr_cons (de_lst (da_cons (de_new (j := 20) (in_InvalidText kn) rfl hr (by decide) rfl kn.glo_InvalidText (da_cons (de_var (i := 1) rfl (.inl rfl)) da_nil)) (da_cons (de_newK (j := 20) (kw_InvalidText_s kn) rfl hr (by decide) rfl kn.glo_InvalidText (dk_cons (de_var (i := 1) rfl (.inl rfl)) dk_nil)) da_nil))) dr_nil)))
  (dss_cons (ds_if (dt_cmp (o_ne hr.u64) (de_repr hr rfl kn.free_repr (de_lc (own := [(("_law_e" : Str), 8)]) rfl sc__law_values_right.nd (di_seq (de_var (i := 3) rfl (.inl rfl))) (show BlkOk [("_law_pot_here" : Str), ("_law_odd" : Str), ("_law_far" : Str), ("_law_some" : Str), ("_law_others" : Str), ("_law_places" : Str), ("_law_lines" : Str), ("_law_lost" : Str), ("_law_e" : Str)] (defScope s__law_values_right) _ _ from ⟨rfl, by decide +kernel, by decide +kernel, by decide +kernel, by decide +kernel⟩) (by decide) (fun _ _ _ _ _ => (dg_name sc__law_values_right.nd rfl (.inl rfl))) (fun _ _ _ _ _ => dts_nil) (fun _ _ _ _ _ => (de_xf (ok := okC) (kn.xf_value) (de_var (i := 8) rfl (.inl rfl)))))) (de_repr hr rfl kn.free_repr (de_mul (de_lst (da_cons (de_var (i := 1) rfl (.inl rfl)) da_nil)) de_int)) (nomark _)) (dss_one (ds_ret de_bl)) dss_nil)
  (dss_cons (ds_if (dt_w (dw_or (dt_cmp (o_ne hr.u64) (de_repr hr rfl kn.free_repr (de_lc (own := [(("_law_e" : Str), 8)]) rfl sc__law_values_right.nd (di_seq (de_var (i := 5) rfl (.inl rfl))) (show BlkOk [("_law_pot_here" : Str), ("_law_odd" : Str), ("_law_far" : Str), ("_law_some" : Str), ("_law_others" : Str), ("_law_places" : Str), ("_law_lines" : Str), ("_law_lost" : Str), ("_law_e" : Str)] (defScope s__law_values_right) _ _ from ⟨rfl, by decide +kernel, by decide +kernel, by decide +kernel, by decide +kernel⟩) (by decide) (fun _ _ _ _ _ => (dg_name sc__law_values_right.nd rfl (.inl rfl))) (fun _ _ _ _ _ => dts_nil) (fun _ _ _ _ _ => (de_xf (ok := okC) (kn.xf_position) (de_var (i := 8) rfl (.inl rfl)))))) (de_repr hr rfl kn.free_repr (de_mul (de_lst (da_cons (de_var (i := 1) rfl (.inl rfl)) da_nil)) de_int)) (nomark _)) (dw_or1 (dt_cmp (o_ne hr.u64) (de_repr hr rfl kn.free_repr (de_lc (own := [(("_law_e" : Str), 8)]) rfl sc__law_values_right.nd (di_seq (de_var (i := 6) rfl (.inl rfl))) (show BlkOk [("_law_pot_here" : Str), ("_law_odd" : Str), ("_law_far" : Str), ("_law_some" : Str), ("_law_others" : Str), ("_law_places" : Str), ("_law_lines" : Str), ("_law_lost" : Str), ("_law_e" : Str)] (defScope s__law_values_right) _ _ from ⟨rfl, by decide +kernel, by decide +kernel, by decide +kernel, by decide +kernel⟩) (by decide) (fun _ _ _ _ _ => (dg_name sc__law_values_right.nd rfl (.inl rfl))) (fun _ _ _ _ _ => dts_nil) (fun _ _ _ _ _ => (de_xf (ok := okC) (kn.xf_line) (de_var (i := 8) rfl (.inl rfl)))))) (de_repr hr rfl kn.free_repr (de_mul (de_lst (da_cons (de_var (i := 1) rfl (.inl rfl)) da_nil)) de_int)) (nomark _))))) (dss_one (ds_ret de_bl)) dss_nil)
  (dss_cons (ds_if (dt_cmp (o_ne hr.u64) (de_repr hr rfl kn.free_repr (de_lc (own := [(("_law_e" : Str), 8)]) rfl sc__law_values_right.nd (di_seq (de_var (i := 4) rfl (.inl rfl))) (show BlkOk [("_law_pot_here" : Str), ("_law_odd" : Str), ("_law_far" : Str), ("_law_some" : Str), ("_law_others" : Str), ("_law_places" : Str), ("_law_lines" : Str), ("_law_lost" : Str), ("_law_e" : Str)] (defScope s__law_values_right) _ _ from ⟨rfl, by decide +kernel, by decide +kernel, by decide +kernel, by decide +kernel⟩) (by decide) (fun _ _ _ _ _ => (dg_name sc__law_values_right.nd rfl (.inl rfl))) (fun _ _ _ _ _ => dts_nil) (fun _ _ _ _ _ => (de_xf (ok := okC) (kn.xf_value) (de_var (i := 8) rfl (.inl rfl)))))) (de_repr hr rfl kn.free_repr (de_mul (de_lst (da_cons (de_var (i := 2) rfl (.inl rfl)) da_nil)) de_int)) (nomark _)) (dss_one (ds_ret de_bl)) dss_nil)
  (dss_cons (ds_if (dt_not (dt_val (de_cb (c_all rfl) rfl kn.free_all PyProof.Rows.Boot.«all» (de_lc (own := [(("_law_e" : Str), 8)]) rfl sc__law_values_right.nd (di_seq (de_add (de_add (de_var (i := 3) rfl (.inl rfl)) (de_var (i := 5) rfl (.inl rfl))) (de_var (i := 6) rfl (.inl rfl)))) (show BlkOk [("_law_pot_here" : Str), ("_law_odd" : Str), ("_law_far" : Str), ("_law_some" : Str), ("_law_others" : Str), ("_law_places" : Str), ("_law_lines" : Str), ("_law_lost" : Str), ("_law_e" : Str)] (defScope s__law_values_right) _ _ from ⟨rfl, by decide +kernel, by decide +kernel, by decide +kernel, by decide +kernel⟩) (by decide) (fun _ _ _ _ _ => (dg_name sc__law_values_right.nd rfl (.inl rfl))) (fun _ _ _ _ _ => dts_nil) (fun _ _ _ _ _ => (de_cmp (o_eq hr.u64) (de_f (ok__law_grounds kn) hr.off (by decide) rfl kn.glo__law_grounds (dr_cons (de_var (i := 8) rfl (.inl rfl)) dr_nil)) (de_f (ok__law_ground kn) hr (by decide) rfl kn.glo__law_ground (dr_cons de_int dr_nil)) (nomark _))))))) (dss_one (ds_ret de_bl)) dss_nil)
  (dss_cons (ds_set (i := 7) sc__law_values_right.nd rfl (.inl rfl) (by decide) (de_lst (da_cons (de_new (j := 24) (in_UnknownWay kn) rfl hr (by decide) rfl kn.glo_UnknownWay (da_cons (de_var (i := 1) rfl (.inl rfl)) da_nil)) (da_cons (de_new (j := 25) (in_NoSuch kn) rfl hr (by decide) rfl kn.glo_NoSuch (da_cons (de_var (i := 1) rfl (.inl rfl)) da_nil)) (da_cons (de_newK (j := 24) (kw_UnknownWay_s kn) rfl hr (by decide) rfl kn.glo_UnknownWay (dk_cons (de_var (i := 2) rfl (.inl rfl)) dk_nil)) (da_cons (de_newK (j := 25) (kw_NoSuch_s kn) rfl hr (by decide) rfl kn.glo_NoSuch (dk_cons (de_var (i := 2) rfl (.inl rfl)) dk_nil)) da_nil))))))
  (dss_cons (ds_if (dt_cmp (o_ne hr.u64) (de_repr hr rfl kn.free_repr (de_lc (own := [(("_law_e" : Str), 8)]) rfl sc__law_values_right.nd (di_seq (de_var (i := 7) rfl (.inl rfl))) (show BlkOk [("_law_pot_here" : Str), ("_law_odd" : Str), ("_law_far" : Str), ("_law_some" : Str), ("_law_others" : Str), ("_law_places" : Str), ("_law_lines" : Str), ("_law_lost" : Str), ("_law_e" : Str)] (defScope s__law_values_right) _ _ from ⟨rfl, by decide +kernel, by decide +kernel, by decide +kernel, by decide +kernel⟩) (by decide) (fun _ _ _ _ _ => (dg_name sc__law_values_right.nd rfl (.inl rfl))) (fun _ _ _ _ _ => dts_nil) (fun _ _ _ _ _ => (de_xf (ok := okC) (kn.xf_value) (de_var (i := 8) rfl (.inl rfl)))))) (de_repr hr rfl kn.free_repr (de_lst (da_cons (de_var (i := 1) rfl (.inl rfl)) (da_cons (de_var (i := 1) rfl (.inl rfl)) (da_cons (de_var (i := 2) rfl (.inl rfl)) (da_cons (de_var (i := 2) rfl (.inl rfl)) da_nil)))))) (nomark _)) (dss_one (ds_ret de_bl)) dss_nil)
  (dss_one (ds_ret (de_cb (c_all rfl) rfl kn.free_all PyProof.Rows.Boot.«all» (de_lc (own := [(("_law_e" : Str), 8)]) rfl sc__law_values_right.nd (di_seq (de_var (i := 7) rfl (.inl rfl))) (show BlkOk [("_law_pot_here" : Str), ("_law_odd" : Str), ("_law_far" : Str), ("_law_some" : Str), ("_law_others" : Str), ("_law_places" : Str), ("_law_lines" : Str), ("_law_lost" : Str), ("_law_e" : Str)] (defScope s__law_values_right) _ _ from ⟨rfl, by decide +kernel, by decide +kernel, by decide +kernel, by decide +kernel⟩) (by decide) (fun _ _ _ _ _ => (dg_name sc__law_values_right.nd rfl (.inl rfl))) (fun _ _ _ _ _ => dts_nil) (fun _ _ _ _ _ => (de_cmp (o_eq hr.u64) (de_f (ok__law_grounds kn) hr.off (by decide) rfl kn.glo__law_grounds (dr_cons (de_var (i := 8) rfl (.inl rfl)) dr_nil)) (de_f (ok__law_ground kn) hr (by decide) rfl kn.glo__law_ground (dr_cons de_int dr_nil)) (nomark _))))))))))))))))
theorem sc__law_states_right : FnScope [("_law_pot_here" : Str), ("_law_odd" : Str), ("_law_far" : Str), ("_law_pairs" : Str), ("_law_between" : Str), ("_law_some" : Str), ("_law_plain" : Str), ("_law_e" : Str)] [("_law_pot_here" : Str)] (defScope s__law_states_right) := ⟨rfl, rfl, rfl, by decide +kernel, rfl, by decide +kernel, by decide +kernel⟩
def den__law_states_right_9 : Den Out := (dRet (dUn gAll (dLc (dISeq (dAdd (dAdd (dAdd (dVar 3) (dVar 4)) (dVar 5)) (dVar 6))) (gNm 7) dYes (dSh (dBin (gEqv false) (dCall f__law_grounds (dRCons (dVar 7) dRNil) []) (dCall f__law_ground (dRCons (dC (.int 2)) dRNil) []))) [7])))
def den__law_states_right_8 : Den Out := (dSeq (dIfS (dTest (dBin (gEqv true) (dUn gRepr (dLst (dCons (dXf ("position" : Str) okC (dIx (dVar 6) (dC (.int 3)))) (dCons (dXf ("position" : Str) okC (dIx (dVar 6) (dC (.int 4)))) dNil)))) (dUn gRepr (dLst (dCons (dVar 1) (dCons (dVar 2) dNil)))))) (dRet (dC (.bool false))) dNext) den__law_states_right_9)
def den__law_states_right_7 : Den Out := (dSeq (dSet 6 (dLst (dCons (dXm 30 [] false dNil) (dCons (dXm 31 [] false dNil) (dCons (dXm 34 [] false dNil) (dCons (dXm 35 [("position" : Str)] false (dCons (dVar 1) dNil)) (dCons (dXm 35 [("position" : Str)] false (dCons (dVar 2) dNil)) dNil))))))) den__law_states_right_8)
def den__law_states_right_6 : Den Out := (dSeq (dIfS (dTest (dBin (gEqv true) (dUn gRepr (dLc (dISeq (dVar 5)) (gNm 7) dYes (dSh (dXf ("value" : Str) okC (dVar 7))) [7])) (dUn gRepr (dLst (dCons (dVar 1) (dCons (dVar 1) (dCons (dVar 2) (dCons (dVar 2) dNil)))))))) (dRet (dC (.bool false))) dNext) den__law_states_right_7)
def den__law_states_right_5 : Den Out := (dSeq (dSet 5 (dLst (dCons (dXm 29 [("value" : Str)] false (dCons (dVar 1) dNil)) (dCons (dXm 33 [("value" : Str)] false (dCons (dVar 1) dNil)) (dCons (dXm 29 [("value" : Str)] false (dCons (dVar 2) dNil)) (dCons (dXm 33 [("value" : Str)] false (dCons (dVar 2) dNil)) dNil)))))) den__law_states_right_6)
def den__law_states_right_4 : Den Out := (dSeq (dIfS (dTest (dBin (gEqv true) (dUn gRepr (dLc (dISeq (dVar 4)) (gNm 7) dYes (dSh (dTup (dCons (dXf ("least" : Str) okC (dVar 7)) (dCons (dXf ("greatest" : Str) okC (dVar 7)) dNil)))) [7])) (dUn gRepr (dMul (dLst (dCons (dTup (dCons (dVar 1) (dCons (dVar 2) dNil))) dNil)) (dC (.int 2)))))) (dRet (dC (.bool false))) dNext) den__law_states_right_5)
def den__law_states_right_3 : Den Out := (dSeq (dSet 4 (dLst (dCons (dXm 32 [("least" : Str), ("greatest" : Str)] false (dCons (dVar 1) (dCons (dVar 2) dNil))) (dCons (dXm 32 [("least" : Str), ("greatest" : Str)] true (dCons (dVar 2) (dCons (dVar 1) dNil))) dNil)))) den__law_states_right_4)
def den__law_states_right_2 : Den Out := (dSeq (dIfS (dTest (dBin (gEqv true) (dUn gRepr (dLc (dISeq (dVar 3)) (gNm 7) dYes (dSh (dTup (dCons (dXf ("one" : Str) okC (dVar 7)) (dCons (dXf ("other" : Str) okC (dVar 7)) dNil)))) [7])) (dUn gRepr (dMul (dLst (dCons (dTup (dCons (dVar 1) (dCons (dVar 2) dNil))) dNil)) (dC (.int 4)))))) (dRet (dC (.bool false))) dNext) den__law_states_right_3)
def den__law_states_right_1 : Den Out := (dSeq (dSet 3 (dLst (dCons (dXm 27 [("one" : Str), ("other" : Str)] false (dCons (dVar 1) (dCons (dVar 2) dNil))) (dCons (dXm 28 [("one" : Str), ("other" : Str)] false (dCons (dVar 1) (dCons (dVar 2) dNil))) (dCons (dXm 27 [("one" : Str), ("other" : Str)] true (dCons (dVar 2) (dCons (dVar 1) dNil))) (dCons (dXm 28 [("one" : Str), ("other" : Str)] true (dCons (dVar 2) (dCons (dVar 1) dNil))) dNil)))))) den__law_states_right_2)
def den__law_states_right : Den Out := (dSeq (dPar 1 2 (dRCons (dCall f__law_thing (dRCons (dVar 0) (dRCons (dC (.int 5)) dRNil)) []) (dRCons (dCall f__law_thing (dRCons (dVar 0) (dRCons (dC (.int 6)) dRNil)) []) dRNil))) den__law_states_right_1)
def f__law_states_right : List W → Option (W × List W) := dFn 1 8 den__law_states_right
theorem ok__law_states_right {P : Program} {w : World} {K : PySem.W.Frag} {mg : Str → Option Value} {base : Heap} (kn : Kn K mg) : FunOk true P w K mg base (clK K) 5 (He.ga K ("_law_states_right" : Str)) f__law_states_right := by
  obtain ⟨fd, F⟩ := kn.s.def_ 13 (d := d__law_states_right) rfl
  refine ⟨fd, [("_law_pot_here" : Str)], okG (c := true) (k := 4) F sc__law_states_right spW_len (fun cdv A outer s H vs Q E hr h => ⟨_, ?_, fn_end rfl h⟩), F.bindsN (fun _ _ _ _ _ _ us hl => match us, hl with | [_], _ => rfl), F.kp⟩
  exact (dss_cons (ds_par (i := 1) (j := 2) rfl sc__law_states_right.nd rfl rfl (by decide) rfl rfl (by decide) (by decide) (dr_cons (de_f (ok__law_thing kn) hr (by decide) rfl kn.glo__law_thing (dr_cons (de_var (i := 0) rfl (.inl rfl)) (dr_cons de_int dr_nil))) (dr_cons (de_f (ok__law_thing kn) hr (by decide) rfl kn.glo__law_thing (dr_cons (de_var (i := 0) rfl (.inl rfl)) (dr_cons de_int dr_nil))) dr_nil)))
  (dss_cons (ds_set (i := 3) sc__law_states_right.nd rfl (.inl rfl) (by decide) (de_lst (da_cons (de_new (j := 27) (in_OtherSteps kn) rfl hr (by decide) rfl kn.glo_OtherSteps (da_cons (de_var (i := 1) rfl (.inl rfl)) (da_cons (de_var (i := 2) rfl (.inl rfl)) da_nil))) (da_cons (de_new (j := 28) (in_OtherStair kn) rfl hr (by decide) rfl kn.glo_OtherStair (da_cons (de_var (i := 1) rfl (.inl rfl)) (da_cons (de_var (i := 2) rfl (.inl rfl)) da_nil))) (da_cons (de_newK (j := 27) (kw_OtherSteps_r kn) rfl hr (by decide) rfl kn.glo_OtherSteps (dk_cons (de_var (i := 2) rfl (.inl rfl)) (dk_cons (de_var (i := 1) rfl (.inl rfl)) dk_nil))) (da_cons (de_newK (j := 28) (kw_OtherStair_r kn) rfl hr (by decide) rfl kn.glo_OtherStair (dk_cons (de_var (i := 2) rfl (.inl rfl)) (dk_cons (de_var (i := 1) rfl (.inl rfl)) dk_nil))) da_nil))))))
  (dss_cons (ds_if (dt_cmp (o_ne hr.u64) (de_repr hr rfl kn.free_repr (de_lc (own := [(("_law_e" : Str), 7)]) rfl sc__law_states_right.nd (di_seq (de_var (i := 3) rfl (.inl rfl))) (show BlkOk [("_law_pot_here" : Str), ("_law_odd" : Str), ("_law_far" : Str), ("_law_pairs" : Str), ("_law_between" : Str), ("_law_some" : Str), ("_law_plain" : Str), ("_law_e" : Str)] (defScope s__law_states_right) _ _ from ⟨rfl, by decide +kernel, by decide +kernel, by decide +kernel, by decide +kernel⟩) (by decide) (fun _ _ _ _ _ => (dg_name sc__law_states_right.nd rfl (.inl rfl))) (fun _ _ _ _ _ => dts_nil) (fun _ _ _ _ _ => (de_tup (da_cons (de_xf (ok := okC) (kn.xf_one) (de_var (i := 7) rfl (.inl rfl))) (da_cons (de_xf (ok := okC) (kn.xf_other) (de_var (i := 7) rfl (.inl rfl))) da_nil)))))) (de_repr hr rfl kn.free_repr (de_mul (de_lst (da_cons (de_tup (da_cons (de_var (i := 1) rfl (.inl rfl)) (da_cons (de_var (i := 2) rfl (.inl rfl)) da_nil))) da_nil)) de_int)) (nomark _)) (dss_one (ds_ret de_bl)) dss_nil)
  (dss_cons (ds_set (i := 4) sc__law_states_right.nd rfl (.inl rfl) (by decide) (de_lst (da_cons (de_new (j := 32) (in_NotBetween kn) rfl hr (by decide) rfl kn.glo_NotBetween (da_cons (de_var (i := 1) rfl (.inl rfl)) (da_cons (de_var (i := 2) rfl (.inl rfl)) da_nil))) (da_cons (de_newK (j := 32) (kw_NotBetween_r kn) rfl hr (by decide) rfl kn.glo_NotBetween (dk_cons (de_var (i := 2) rfl (.inl rfl)) (dk_cons (de_var (i := 1) rfl (.inl rfl)) dk_nil))) da_nil))))
  (dss_cons (ds_if (dt_cmp (o_ne hr.u64) (de_repr hr rfl kn.free_repr (de_lc (own := [(("_law_e" : Str), 7)]) rfl sc__law_states_right.nd (di_seq (de_var (i := 4) rfl (.inl rfl))) (show BlkOk [("_law_pot_here" : Str), ("_law_odd" : Str), ("_law_far" : Str), ("_law_pairs" : Str), ("_law_between" : Str), ("_law_some" : Str), ("_law_plain" : Str), ("_law_e" : Str)] (defScope s__law_states_right) _ _ from ⟨rfl, by decide +kernel, by decide +kernel, by decide +kernel, by decide +kernel⟩) (by decide) (fun _ _ _ _ _ => (dg_name sc__law_states_right.nd rfl (.inl rfl))) (fun _ _ _ _ _ => dts_nil) (fun _ _ _ _ _ => (de_tup (da_cons (de_xf (ok := okC) (kn.xf_least) (de_var (i := 7) rfl (.inl rfl))) (da_cons (de_xf (ok := okC) (kn.xf_greatest) (de_var (i := 7) rfl (.inl rfl))) da_nil)))))) (de_repr hr rfl kn.free_repr (de_mul (de_lst (da_cons (de_tup (da_cons (de_var (i := 1) rfl (.inl rfl)) (da_cons (de_var (i := 2) rfl (.inl rfl)) da_nil))) da_nil)) de_int)) (nomark _)) (dss_one (ds_ret de_bl)) dss_nil)
  (dss_cons (ds_set (i := 5) sc__law_states_right.nd rfl (.inl rfl) (by decide) (de_lst (da_cons (de_new (j := 29) (in_NotTogether kn) rfl hr (by decide) rfl kn.glo_NotTogether (da_cons (de_var (i := 1) rfl (.inl rfl)) da_nil)) (da_cons (de_new (j := 33) (in_Unmeeting kn) rfl hr (by decide) rfl kn.glo_Unmeeting (da_cons (de_var (i := 1) rfl (.inl rfl)) da_nil)) (da_cons (de_newK (j := 29) (kw_NotTogether_s kn) rfl hr (by decide) rfl kn.glo_NotTogether (dk_cons (de_var (i := 2) rfl (.inl rfl)) dk_nil)) (da_cons (de_newK (j := 33) (kw_Unmeeting_s kn) rfl hr (by decide) rfl kn.glo_Unmeeting (dk_cons (de_var (i := 2) rfl (.inl rfl)) dk_nil)) da_nil))))))
  (dss_cons (ds_if (dt_cmp (o_ne hr.u64) (de_repr hr rfl kn.free_repr (de_lc (own := [(("_law_e" : Str), 7)]) rfl sc__law_states_right.nd (di_seq (de_var (i := 5) rfl (.inl rfl))) (show BlkOk [("_law_pot_here" : Str), ("_law_odd" : Str), ("_law_far" : Str), ("_law_pairs" : Str), ("_law_between" : Str), ("_law_some" : Str), ("_law_plain" : Str), ("_law_e" : Str)] (defScope s__law_states_right) _ _ from ⟨rfl, by decide +kernel, by decide +kernel, by decide +kernel, by decide +kernel⟩) (by decide) (fun _ _ _ _ _ => (dg_name sc__law_states_right.nd rfl (.inl rfl))) (fun _ _ _ _ _ => dts_nil) (fun _ _ _ _ _ => (de_xf (ok := okC) (kn.xf_value) (de_var (i := 7) rfl (.inl rfl)))))) (de_repr hr rfl kn.free_repr (de_lst (da_cons (de_var (i := 1) rfl (.inl rfl)) (da_cons (de_var (i := 1) rfl (.inl rfl)) (da_cons (de_var (i := 2) rfl (.inl rfl)) (da_cons (de_var (i := 2) rfl (.inl rfl)) da_nil)))))) (nomark _)) (dss_one (ds_ret de_bl)) dss_nil)
  (dss_cons (ds_set (i := 6) sc__law_states_right.nd rfl (.inl rfl) (by decide) (de_lst (da_cons (de_new0 (j := 30) (in_NothingFits kn) rfl hr (by decide) rfl kn.glo_NothingFits) (da_cons (de_new0 (j := 31) (in_Endless kn) rfl hr (by decide) rfl kn.glo_Endless) (da_cons (de_new0 (j := 34) (in_NothingToUndo kn) rfl hr (by decide) rfl kn.glo_NothingToUndo) (da_cons (de_new (j := 35) (in_CommandFailed kn) rfl hr (by decide) rfl kn.glo_CommandFailed (da_cons (de_var (i := 1) rfl (.inl rfl)) da_nil)) (da_cons (de_newK (j := 35) (kw_CommandFailed_s kn) rfl hr (by decide) rfl kn.glo_CommandFailed (dk_cons (de_var (i := 2) rfl (.inl rfl)) dk_nil)) da_nil)))))))
  (dss_cons (ds_if (dt_cmp (o_ne hr.u64) (de_repr hr rfl kn.free_repr (de_lst (da_cons (de_xf (ok := okC) (kn.xf_position) (de_ix (de_var (i := 6) rfl (.inl rfl)) de_int (fun _ _ => rfl))) (da_cons (de_xf (ok := okC) (kn.xf_position) (de_ix (de_var (i := 6) rfl (.inl rfl)) de_int (fun _ _ => rfl))) da_nil)))) (de_repr hr rfl kn.free_repr (de_lst (da_cons (de_var (i := 1) rfl (.inl rfl)) (da_cons (de_var (i := 2) rfl (.inl rfl)) da_nil)))) (nomark _)) (dss_one (ds_ret de_bl)) dss_nil)
  (dss_one (ds_ret (de_cb (c_all rfl) rfl kn.free_all PyProof.Rows.Boot.«all» (de_lc (own := [(("_law_e" : Str), 7)]) rfl sc__law_states_right.nd (di_seq (de_add (de_add (de_add (de_var (i := 3) rfl (.inl rfl)) (de_var (i := 4) rfl (.inl rfl))) (de_var (i := 5) rfl (.inl rfl))) (de_var (i := 6) rfl (.inl rfl)))) (show BlkOk [("_law_pot_here" : Str), ("_law_odd" : Str), ("_law_far" : Str), ("_law_pairs" : Str), ("_law_between" : Str), ("_law_some" : Str), ("_law_plain" : Str), ("_law_e" : Str)] (defScope s__law_states_right) _ _ from ⟨rfl, by decide +kernel, by decide +kernel, by decide +kernel, by decide +kernel⟩) (by decide) (fun _ _ _ _ _ => (dg_name sc__law_states_right.nd rfl (.inl rfl))) (fun _ _ _ _ _ => dts_nil) (fun _ _ _ _ _ => (de_cmp (o_eq hr.u64) (de_f (ok__law_grounds kn) hr.off (by decide) rfl kn.glo__law_grounds (dr_cons (de_var (i := 7) rfl (.inl rfl)) dr_nil)) (de_f (ok__law_ground kn) hr (by decide) rfl kn.glo__law_ground (dr_cons de_int dr_nil)) (nomark _))))))))))))))))
theorem sc__law_limits_right : FnScope [("_law_pot_here" : Str), ("_law_odd" : Str), ("_law_far" : Str), ("_law_some" : Str), ("_law_e" : Str)] [("_law_pot_here" : Str)] (defScope s__law_limits_right) := ⟨rfl, rfl, rfl, by decide +kernel, rfl, by decide +kernel, by decide +kernel⟩
def den__law_limits_right_3 : Den Out := (dRet (dUn gAll (dLc (dISeq (dVar 3)) (gNm 4) dYes (dSh (dBin (gEqv false) (dCall f__law_grounds (dRCons (dVar 4) dRNil) []) (dCall f__law_ground (dRCons (dC (.int 3)) dRNil) []))) [4])))
def den__law_limits_right_2 : Den Out := (dSeq (dIfS (dTest (dBin (gEqv true) (dUn gRepr (dLc (dISeq (dVar 3)) (gNm 4) dYes (dSh (dTup (dCons (dXf ("what" : Str) okC (dVar 4)) (dCons (dXf ("limit" : Str) okC (dVar 4)) dNil)))) [4])) (dUn gRepr (dLst (dCons (dTup (dCons (dVar 1) (dCons (dVar 2) dNil))) (dCons (dTup (dCons (dVar 2) (dCons (dVar 1) dNil))) dNil)))))) (dRet (dC (.bool false))) dNext) den__law_limits_right_3)
def den__law_limits_right_1 : Den Out := (dSeq (dSet 3 (dLst (dCons (dXm 37 [("what" : Str), ("limit" : Str)] false (dCons (dVar 1) (dCons (dVar 2) dNil))) (dCons (dXm 37 [("what" : Str), ("limit" : Str)] true (dCons (dVar 1) (dCons (dVar 2) dNil))) dNil)))) den__law_limits_right_2)
def den__law_limits_right : Den Out := (dSeq (dPar 1 2 (dRCons (dCall f__law_thing (dRCons (dVar 0) (dRCons (dC (.int 7)) dRNil)) []) (dRCons (dCall f__law_thing (dRCons (dVar 0) (dRCons (dC (.int 8)) dRNil)) []) dRNil))) den__law_limits_right_1)
def f__law_limits_right : List W → Option (W × List W) := dFn 1 5 den__law_limits_right
theorem ok__law_limits_right {P : Program} {w : World} {K : PySem.W.Frag} {mg : Str → Option Value} {base : Heap} (kn : Kn K mg) : FunOk true P w K mg base (clK K) 5 (He.ga K ("_law_limits_right" : Str)) f__law_limits_right := by
  obtain ⟨fd, F⟩ := kn.s.def_ 14 (d := d__law_limits_right) rfl
  refine ⟨fd, [("_law_pot_here" : Str)], okG (c := true) (k := 4) F sc__law_limits_right spW_len (fun cdv A outer s H vs Q E hr h => ⟨_, ?_, fn_end rfl h⟩), F.bindsN (fun _ _ _ _ _ _ us hl => match us, hl with | [_], _ => rfl), F.kp⟩
  exact (dss_cons (ds_par (i := 1) (j := 2) rfl sc__law_limits_right.nd rfl rfl (by decide) rfl rfl (by decide) (by decide) (dr_cons (de_f (ok__law_thing kn) hr (by decide) rfl kn.glo__law_thing (dr_cons (de_var (i := 0) rfl (.inl rfl)) (dr_cons de_int dr_nil))) (dr_cons (de_f (ok__law_thing kn) hr (by decide) rfl kn.glo__law_thing (dr_cons (de_var (i := 0) rfl (.inl rfl)) (dr_cons de_int dr_nil))) dr_nil)))
  (dss_cons (ds_set (i := 3) sc__law_limits_right.nd rfl (.inl rfl) (by decide) (de_lst (da_cons (de_new (j := 37) (in_TooMany kn) rfl hr (by decide) rfl kn.glo_TooMany (da_cons (de_var (i := 1) rfl (.inl rfl)) (da_cons (de_var (i := 2) rfl (.inl rfl)) da_nil))) (da_cons (de_newK (j := 37) (kw_TooMany_r kn) rfl hr (by decide) rfl kn.glo_TooMany (dk_cons (de_var (i := 1) rfl (.inl rfl)) (dk_cons (de_var (i := 2) rfl (.inl rfl)) dk_nil))) da_nil))))
  (dss_cons (ds_if (dt_cmp (o_ne hr.u64) (de_repr hr rfl kn.free_repr (de_lc (own := [(("_law_e" : Str), 4)]) rfl sc__law_limits_right.nd (di_seq (de_var (i := 3) rfl (.inl rfl))) (show BlkOk [("_law_pot_here" : Str), ("_law_odd" : Str), ("_law_far" : Str), ("_law_some" : Str), ("_law_e" : Str)] (defScope s__law_limits_right) _ _ from ⟨rfl, by decide +kernel, by decide +kernel, by decide +kernel, by decide +kernel⟩) (by decide) (fun _ _ _ _ _ => (dg_name sc__law_limits_right.nd rfl (.inl rfl))) (fun _ _ _ _ _ => dts_nil) (fun _ _ _ _ _ => (de_tup (da_cons (de_xf (ok := okC) (kn.xf_what) (de_var (i := 4) rfl (.inl rfl))) (da_cons (de_xf (ok := okC) (kn.xf_limit) (de_var (i := 4) rfl (.inl rfl))) da_nil)))))) (de_repr hr rfl kn.free_repr (de_lst (da_cons (de_tup (da_cons (de_var (i := 1) rfl (.inl rfl)) (da_cons (de_var (i := 2) rfl (.inl rfl)) da_nil))) (da_cons (de_tup (da_cons (de_var (i := 2) rfl (.inl rfl)) (da_cons (de_var (i := 1) rfl (.inl rfl)) da_nil))) da_nil)))) (nomark _)) (dss_one (ds_ret de_bl)) dss_nil)
  (dss_one (ds_ret (de_cb (c_all rfl) rfl kn.free_all PyProof.Rows.Boot.«all» (de_lc (own := [(("_law_e" : Str), 4)]) rfl sc__law_limits_right.nd (di_seq (de_var (i := 3) rfl (.inl rfl))) (show BlkOk [("_law_pot_here" : Str), ("_law_odd" : Str), ("_law_far" : Str), ("_law_some" : Str), ("_law_e" : Str)] (defScope s__law_limits_right) _ _ from ⟨rfl, by decide +kernel, by decide +kernel, by decide +kernel, by decide +kernel⟩) (by decide) (fun _ _ _ _ _ => (dg_name sc__law_limits_right.nd rfl (.inl rfl))) (fun _ _ _ _ _ => dts_nil) (fun _ _ _ _ _ => (de_cmp (o_eq hr.u64) (de_f (ok__law_grounds kn) hr.off (by decide) rfl kn.glo__law_grounds (dr_cons (de_var (i := 4) rfl (.inl rfl)) dr_nil)) (de_f (ok__law_ground kn) hr (by decide) rfl kn.glo__law_ground (dr_cons de_int dr_nil)) (nomark _))))))))))
theorem sc__law_sorts : FnScope [("_law_e" : Str), ("_law_found" : Str)] [("_law_e" : Str)] (defScope s__law_sorts) := ⟨rfl, rfl, rfl, by decide +kernel, rfl, by decide +kernel, by decide +kernel⟩
def den__law_sorts_9 : Den Out := (dRet (dVar 1))
def den__law_sorts_8 : Den Out := (dSeq (dSet 1 (dAdd (dVar 1) (dLst (dCons (dIsX (gIs 17) (dVar 0)) (dCons (dIsX (gIs 20) (dVar 0)) dNil))))) den__law_sorts_9)
def den__law_sorts_7 : Den Out := (dSeq (dSet 1 (dAdd (dVar 1) (dLst (dCons (dIsX (gIs 4) (dVar 0)) (dCons (dIsX (gIs 15) (dVar 0)) dNil))))) den__law_sorts_8)
def den__law_sorts_6 : Den Out := (dSeq (dSet 1 (dAdd (dVar 1) (dLst (dCons (dIsX (gIs 22) (dVar 0)) (dCons (dIsX (gIs 2) (dVar 0)) dNil))))) den__law_sorts_7)
def den__law_sorts_5 : Den Out := (dSeq (dSet 1 (dAdd (dVar 1) (dLst (dCons (dIsX (gIs 19) (dVar 0)) (dCons (dIsX (gIs 21) (dVar 0)) dNil))))) den__law_sorts_6)
def den__law_sorts_4 : Den Out := (dSeq (dSet 1 (dAdd (dVar 1) (dLst (dCons (dIsX (gIs 16) (dVar 0)) (dCons (dIsX (gIs 18) (dVar 0)) dNil))))) den__law_sorts_5)
def den__law_sorts_3 : Den Out := (dSeq (dSet 1 (dAdd (dVar 1) (dLst (dCons (dIsX (gIs 12) (dVar 0)) (dCons (dIsX (gIs 13) (dVar 0)) (dCons (dIsX (gIs 14) (dVar 0)) dNil)))))) den__law_sorts_4)
def den__law_sorts_2 : Den Out := (dSeq (dSet 1 (dAdd (dVar 1) (dLst (dCons (dIsX (gIs 9) (dVar 0)) (dCons (dIsX (gIs 10) (dVar 0)) (dCons (dIsX (gIs 11) (dVar 0)) dNil)))))) den__law_sorts_3)
def den__law_sorts_1 : Den Out := (dSeq (dSet 1 (dAdd (dVar 1) (dLst (dCons (dIsX (gIs 6) (dVar 0)) (dCons (dIsX (gIs 7) (dVar 0)) (dCons (dIsX (gIs 8) (dVar 0)) dNil)))))) den__law_sorts_2)
def den__law_sorts : Den Out := (dSeq (dSet 1 (dLst (dCons (dIsX (gIs 1) (dVar 0)) (dCons (dIsX (gIs 3) (dVar 0)) (dCons (dIsX (gIs 5) (dVar 0)) dNil))))) den__law_sorts_1)
def f__law_sorts : List W → Option (W × List W) := dFn 1 2 den__law_sorts
theorem ok__law_sorts {P : Program} {w : World} {K : PySem.W.Frag} {mg : Str → Option Value} {base : Heap} (kn : Kn K mg) : FunOk true P w K mg base (clK K) 2 (He.ga K ("_law_sorts" : Str)) f__law_sorts := by
  obtain ⟨fd, F⟩ := kn.s.def_ 15 (d := d__law_sorts) rfl
  refine ⟨fd, [("_law_e" : Str)], okG (c := true) (k := 1) F sc__law_sorts spW_len (fun cdv A outer s H vs Q E hr h => ⟨_, ?_, fn_end rfl h⟩), F.bindsN (fun _ _ _ _ _ _ us hl => match us, hl with | [_], _ => rfl), F.kp⟩
  exact (dss_cons (ds_set (i := 1) sc__law_sorts.nd rfl (.inl rfl) (by decide) (de_lst (da_cons (de_isX (g := gIs 1) (kn.is_InvalidSteps) rfl kn.free_isinstance rfl kn.glo_InvalidSteps (de_var (i := 0) rfl (.inl rfl))) (da_cons (de_isX (g := gIs 3) (kn.is_InvalidJump) rfl kn.free_isinstance rfl kn.glo_InvalidJump (de_var (i := 0) rfl (.inl rfl))) (da_cons (de_isX (g := gIs 5) (kn.is_InvalidWay) rfl kn.free_isinstance rfl kn.glo_InvalidWay (de_var (i := 0) rfl (.inl rfl))) da_nil)))))
  (dss_cons (ds_set (i := 1) sc__law_sorts.nd rfl (.inl rfl) (by decide) (de_add (de_var (i := 1) rfl (.inl rfl)) (de_lst (da_cons (de_isX (g := gIs 6) (kn.is_InvalidThing) rfl kn.free_isinstance rfl kn.glo_InvalidThing (de_var (i := 0) rfl (.inl rfl))) (da_cons (de_isX (g := gIs 7) (kn.is_InvalidScore) rfl kn.free_isinstance rfl kn.glo_InvalidScore (de_var (i := 0) rfl (.inl rfl))) (da_cons (de_isX (g := gIs 8) (kn.is_InvalidWays) rfl kn.free_isinstance rfl kn.glo_InvalidWays (de_var (i := 0) rfl (.inl rfl))) da_nil))))))
  (dss_cons (ds_set (i := 1) sc__law_sorts.nd rfl (.inl rfl) (by decide) (de_add (de_var (i := 1) rfl (.inl rfl)) (de_lst (da_cons (de_isX (g := gIs 9) (kn.is_InvalidCount) rfl kn.free_isinstance rfl kn.glo_InvalidCount (de_var (i := 0) rfl (.inl rfl))) (da_cons (de_isX (g := gIs 10) (kn.is_InvalidFlow) rfl kn.free_isinstance rfl kn.glo_InvalidFlow (de_var (i := 0) rfl (.inl rfl))) (da_cons (de_isX (g := gIs 11) (kn.is_InvalidRun) rfl kn.free_isinstance rfl kn.glo_InvalidRun (de_var (i := 0) rfl (.inl rfl))) da_nil))))))
  (dss_cons (ds_set (i := 1) sc__law_sorts.nd rfl (.inl rfl) (by decide) (de_add (de_var (i := 1) rfl (.inl rfl)) (de_lst (da_cons (de_isX (g := gIs 12) (kn.is_InvalidMark) rfl kn.free_isinstance rfl kn.glo_InvalidMark (de_var (i := 0) rfl (.inl rfl))) (da_cons (de_isX (g := gIs 13) (kn.is_InvalidMarks) rfl kn.free_isinstance rfl kn.glo_InvalidMarks (de_var (i := 0) rfl (.inl rfl))) (da_cons (de_isX (g := gIs 14) (kn.is_InvalidPrices) rfl kn.free_isinstance rfl kn.glo_InvalidPrices (de_var (i := 0) rfl (.inl rfl))) da_nil))))))
  (dss_cons (ds_set (i := 1) sc__law_sorts.nd rfl (.inl rfl) (by decide) (de_add (de_var (i := 1) rfl (.inl rfl)) (de_lst (da_cons (de_isX (g := gIs 16) (kn.is_InvalidMoves) rfl kn.free_isinstance rfl kn.glo_InvalidMoves (de_var (i := 0) rfl (.inl rfl))) (da_cons (de_isX (g := gIs 18) (kn.is_InvalidHabits) rfl kn.free_isinstance rfl kn.glo_InvalidHabits (de_var (i := 0) rfl (.inl rfl))) da_nil)))))
  (dss_cons (ds_set (i := 1) sc__law_sorts.nd rfl (.inl rfl) (by decide) (de_add (de_var (i := 1) rfl (.inl rfl)) (de_lst (da_cons (de_isX (g := gIs 19) (kn.is_InvalidShares) rfl kn.free_isinstance rfl kn.glo_InvalidShares (de_var (i := 0) rfl (.inl rfl))) (da_cons (de_isX (g := gIs 21) (kn.is_InvalidClaim) rfl kn.free_isinstance rfl kn.glo_InvalidClaim (de_var (i := 0) rfl (.inl rfl))) da_nil)))))
  (dss_cons (ds_set (i := 1) sc__law_sorts.nd rfl (.inl rfl) (by decide) (de_add (de_var (i := 1) rfl (.inl rfl)) (de_lst (da_cons (de_isX (g := gIs 22) (kn.is_InvalidCommand) rfl kn.free_isinstance rfl kn.glo_InvalidCommand (de_var (i := 0) rfl (.inl rfl))) (da_cons (de_isX (g := gIs 2) (kn.is_InvalidJumps) rfl kn.free_isinstance rfl kn.glo_InvalidJumps (de_var (i := 0) rfl (.inl rfl))) da_nil)))))
  (dss_cons (ds_set (i := 1) sc__law_sorts.nd rfl (.inl rfl) (by decide) (de_add (de_var (i := 1) rfl (.inl rfl)) (de_lst (da_cons (de_isX (g := gIs 4) (kn.is_InvalidLengths) rfl kn.free_isinstance rfl kn.glo_InvalidLengths (de_var (i := 0) rfl (.inl rfl))) (da_cons (de_isX (g := gIs 15) (kn.is_InvalidBounds) rfl kn.free_isinstance rfl kn.glo_InvalidBounds (de_var (i := 0) rfl (.inl rfl))) da_nil)))))
  (dss_cons (ds_set (i := 1) sc__law_sorts.nd rfl (.inl rfl) (by decide) (de_add (de_var (i := 1) rfl (.inl rfl)) (de_lst (da_cons (de_isX (g := gIs 17) (kn.is_InvalidEnds) rfl kn.free_isinstance rfl kn.glo_InvalidEnds (de_var (i := 0) rfl (.inl rfl))) (da_cons (de_isX (g := gIs 20) (kn.is_InvalidText) rfl kn.free_isinstance rfl kn.glo_InvalidText (de_var (i := 0) rfl (.inl rfl))) da_nil)))))
  (dss_one (ds_ret (de_var (i := 1) rfl (.inl rfl)))))))))))))
theorem sc__law_stands : FnScope [("_law_e" : Str), ("_law_found" : Str)] [("_law_e" : Str)] (defScope s__law_stands) := ⟨rfl, rfl, rfl, by decide +kernel, rfl, by decide +kernel, by decide +kernel⟩
def den__law_stands_4 : Den Out := (dRet (dVar 1))
def den__law_stands_3 : Den Out := (dSeq (dSet 1 (dAdd (dVar 1) (dLst (dCons (dIsX (gIs 24) (dVar 0)) (dCons (dIsX (gIs 25) (dVar 0)) (dCons (dIsX (gIs 37) (dVar 0)) dNil)))))) den__law_stands_4)
def den__law_stands_2 : Den Out := (dSeq (dSet 1 (dAdd (dVar 1) (dLst (dCons (dIsX (gIs 33) (dVar 0)) (dCons (dIsX (gIs 34) (dVar 0)) (dCons (dIsX (gIs 35) (dVar 0)) dNil)))))) den__law_stands_3)
def den__law_stands_1 : Den Out := (dSeq (dSet 1 (dAdd (dVar 1) (dLst (dCons (dIsX (gIs 30) (dVar 0)) (dCons (dIsX (gIs 31) (dVar 0)) (dCons (dIsX (gIs 32) (dVar 0)) dNil)))))) den__law_stands_2)
def den__law_stands : Den Out := (dSeq (dSet 1 (dLst (dCons (dIsX (gIs 27) (dVar 0)) (dCons (dIsX (gIs 28) (dVar 0)) (dCons (dIsX (gIs 29) (dVar 0)) dNil))))) den__law_stands_1)
def f__law_stands : List W → Option (W × List W) := dFn 1 2 den__law_stands
theorem ok__law_stands {P : Program} {w : World} {K : PySem.W.Frag} {mg : Str → Option Value} {base : Heap} (kn : Kn K mg) : FunOk true P w K mg base (clK K) 2 (He.ga K ("_law_stands" : Str)) f__law_stands := by
  obtain ⟨fd, F⟩ := kn.s.def_ 16 (d := d__law_stands) rfl
  refine ⟨fd, [("_law_e" : Str)], okG (c := true) (k := 1) F sc__law_stands spW_len (fun cdv A outer s H vs Q E hr h => ⟨_, ?_, fn_end rfl h⟩), F.bindsN (fun _ _ _ _ _ _ us hl => match us, hl with | [_], _ => rfl), F.kp⟩
  exact (dss_cons (ds_set (i := 1) sc__law_stands.nd rfl (.inl rfl) (by decide) (de_lst (da_cons (de_isX (g := gIs 27) (kn.is_OtherSteps) rfl kn.free_isinstance rfl kn.glo_OtherSteps (de_var (i := 0) rfl (.inl rfl))) (da_cons (de_isX (g := gIs 28) (kn.is_OtherStair) rfl kn.free_isinstance rfl kn.glo_OtherStair (de_var (i := 0) rfl (.inl rfl))) (da_cons (de_isX (g := gIs 29) (kn.is_NotTogether) rfl kn.free_isinstance rfl kn.glo_NotTogether (de_var (i := 0) rfl (.inl rfl))) da_nil)))))
  (dss_cons (ds_set (i := 1) sc__law_stands.nd rfl (.inl rfl) (by decide) (de_add (de_var (i := 1) rfl (.inl rfl)) (de_lst (da_cons (de_isX (g := gIs 30) (kn.is_NothingFits) rfl kn.free_isinstance rfl kn.glo_NothingFits (de_var (i := 0) rfl (.inl rfl))) (da_cons (de_isX (g := gIs 31) (kn.is_Endless) rfl kn.free_isinstance rfl kn.glo_Endless (de_var (i := 0) rfl (.inl rfl))) (da_cons (de_isX (g := gIs 32) (kn.is_NotBetween) rfl kn.free_isinstance rfl kn.glo_NotBetween (de_var (i := 0) rfl (.inl rfl))) da_nil))))))
  (dss_cons (ds_set (i := 1) sc__law_stands.nd rfl (.inl rfl) (by decide) (de_add (de_var (i := 1) rfl (.inl rfl)) (de_lst (da_cons (de_isX (g := gIs 33) (kn.is_Unmeeting) rfl kn.free_isinstance rfl kn.glo_Unmeeting (de_var (i := 0) rfl (.inl rfl))) (da_cons (de_isX (g := gIs 34) (kn.is_NothingToUndo) rfl kn.free_isinstance rfl kn.glo_NothingToUndo (de_var (i := 0) rfl (.inl rfl))) (da_cons (de_isX (g := gIs 35) (kn.is_CommandFailed) rfl kn.free_isinstance rfl kn.glo_CommandFailed (de_var (i := 0) rfl (.inl rfl))) da_nil))))))
  (dss_cons (ds_set (i := 1) sc__law_stands.nd rfl (.inl rfl) (by decide) (de_add (de_var (i := 1) rfl (.inl rfl)) (de_lst (da_cons (de_isX (g := gIs 24) (kn.is_UnknownWay) rfl kn.free_isinstance rfl kn.glo_UnknownWay (de_var (i := 0) rfl (.inl rfl))) (da_cons (de_isX (g := gIs 25) (kn.is_NoSuch) rfl kn.free_isinstance rfl kn.glo_NoSuch (de_var (i := 0) rfl (.inl rfl))) (da_cons (de_isX (g := gIs 37) (kn.is_TooMany) rfl kn.free_isinstance rfl kn.glo_TooMany (de_var (i := 0) rfl (.inl rfl))) da_nil))))))
  (dss_one (ds_ret (de_var (i := 1) rfl (.inl rfl))))))))
theorem sc__law_apart_right : FnScope [("_law_some" : Str), ("_law_spot" : Str), ("_law_e" : Str), ("_law_far" : Str), ("_law_k" : Str), ("_law_near" : Str)] [] (defScope s__law_apart_right) := ⟨rfl, rfl, rfl, by decide +kernel, rfl, by decide +kernel, by decide +kernel⟩
def den__law_apart_right_5 : Den Out := (dRet (dC (.bool true)))
def den__law_apart_right_4 : Den Out := (dSeq (dFor (dIEnum (dCons (dVar 3) dNil)) (gTp (gsCons (gNm 1) (gsCons (gNm 2) gsNil))) (dIfS (dOr (dTest (dBin (gEqv true) (dLc (dIEnum (dCons (dCall f__law_stands (dRCons (dVar 2) dRNil) []) dNil)) (gTp (gsCons (gNm 4) (gsCons (gNm 5) gsNil))) (dTest (dVar 5)) (dSh (dVar 4)) [4, 5]) (dLst (dCons (dVar 1) dNil)))) (dTest (dUn gAny (dCall f__law_sorts (dRCons (dVar 2) dRNil) [])))) (dRet (dC (.bool false))) dNext)) den__law_apart_right_5)
def den__law_apart_right_3 : Den Out := (dSeq (dSet 3 (dAdd (dVar 3) (dLst (dCons (dXm 34 [] false dNil) (dCons (dXm 35 [("position" : Str)] false (dCons (dC (.int 1)) dNil)) (dCons (dXm 24 [("value" : Str)] false (dCons (dC (.int 1)) dNil)) (dCons (dXm 25 [("value" : Str)] false (dCons (dC (.int 1)) dNil)) (dCons (dXm 37 [("what" : Str), ("limit" : Str)] false (dCons (dC (.int 1)) (dCons (dC (.int 2)) dNil))) dNil)))))))) den__law_apart_right_4)
def den__law_apart_right_2 : Den Out := (dSeq (dSet 3 (dLst (dCons (dXm 27 [("one" : Str), ("other" : Str)] false (dCons (dC (.int 1)) (dCons (dC (.int 2)) dNil))) (dCons (dXm 28 [("one" : Str), ("other" : Str)] false (dCons (dC (.int 1)) (dCons (dC (.int 2)) dNil))) (dCons (dXm 29 [("value" : Str)] false (dCons (dC (.int 1)) dNil)) (dCons (dXm 30 [] false dNil) (dCons (dXm 31 [] false dNil) (dCons (dXm 32 [("least" : Str), ("greatest" : Str)] false (dCons (dC (.int 1)) (dCons (dC (.int 2)) dNil))) (dCons (dXm 33 [("value" : Str)] false (dCons (dC (.int 1)) dNil)) dNil))))))))) den__law_apart_right_3)
def den__law_apart_right_1 : Den Out := (dSeq (dFor (dIEnum (dCons (dVar 0) dNil)) (gTp (gsCons (gNm 1) (gsCons (gNm 2) gsNil))) (dIfS (dOr (dTest (dBin (gEqv true) (dLc (dIEnum (dCons (dCall f__law_sorts (dRCons (dVar 2) dRNil) []) dNil)) (gTp (gsCons (gNm 4) (gsCons (gNm 5) gsNil))) (dTest (dVar 5)) (dSh (dVar 4)) [4, 5]) (dLst (dCons (dVar 1) dNil)))) (dTest (dUn gAny (dCall f__law_stands (dRCons (dVar 2) dRNil) [])))) (dRet (dC (.bool false))) dNext)) den__law_apart_right_2)
def den__law_apart_right : Den Out := (dSeq (dSet 0 (dAdd (dAdd (dCall f__law_by_value (dRCons (dC (.int 1)) dRNil) []) (dSlice (dCall f__law_by_place (dRCons (dC (.int 1)) dRNil) []) dNoPart (dPart (dC (.int 4))))) (dLst (dCons (dXm 20 [("line" : Str)] false (dCons (dC (.int 1)) dNil)) dNil)))) den__law_apart_right_1)
def f__law_apart_right : List W → Option (W × List W) := dFn 0 6 den__law_apart_right
theorem ok__law_apart_right {P : Program} {w : World} {K : PySem.W.Frag} {mg : Str → Option Value} {base : Heap} (kn : Kn K mg) : FunOk true P w K mg base (clK K) 4 (He.ga K ("_law_apart_right" : Str)) f__law_apart_right := by
  obtain ⟨fd, F⟩ := kn.s.def_ 17 (d := d__law_apart_right) rfl
  refine ⟨fd, [], okG (c := true) (k := 3) F sc__law_apart_right spW_len (fun cdv A outer s H vs Q E hr h => ⟨_, ?_, fn_end rfl h⟩), F.bindsN (fun _ _ _ _ _ _ us hl => match us, hl with | [], _ => rfl), F.kp⟩
  exact (dss_cons (ds_set (i := 0) sc__law_apart_right.nd rfl (.inl rfl) (by decide) (de_add (de_add (de_f (ok__law_by_value kn) hr (by decide) rfl kn.glo__law_by_value (dr_cons de_int dr_nil)) (de_slice (de_f (ok__law_by_place kn) hr (by decide) rfl kn.glo__law_by_place (dr_cons de_int dr_nil)) do_none (do_some de_int))) (de_lst (da_cons (de_new (j := 20) (in_InvalidText kn) rfl hr (by decide) rfl kn.glo_InvalidText (da_cons de_int da_nil)) da_nil))))
  (dss_cons (ds_for (passes_of rfl) rfl (di_enum rfl kn.free_enumerate (da_cons (de_var (i := 0) rfl (.inl rfl)) da_nil)) (dg_tup rfl (dgs_cons (dg_name sc__law_apart_right.nd rfl (.inl rfl)) (dgs_cons (dg_name sc__law_apart_right.nd rfl (.inl rfl)) dgs_nil)) (gsl_cons (gsl_cons gsl_nil))) (dss_one (ds_if (dt_w (dw_or (dt_cmp (o_ne hr.u64) (de_lc (own := [(("_law_k" : Str), 4), (("_law_near" : Str), 5)]) rfl sc__law_apart_right.nd (di_enum rfl kn.free_enumerate (da_cons (de_f (ok__law_sorts kn) hr (by decide) rfl kn.glo__law_sorts (dr_cons (de_var (i := 2) rfl (.inl rfl)) dr_nil)) da_nil)) (show BlkOk [("_law_some" : Str), ("_law_spot" : Str), ("_law_e" : Str), ("_law_far" : Str), ("_law_k" : Str), ("_law_near" : Str)] (defScope s__law_apart_right) _ _ from ⟨rfl, by decide +kernel, by decide +kernel, by decide +kernel, by decide +kernel⟩) (by decide) (fun _ _ _ _ _ => (dg_tup rfl (dgs_cons (dg_name sc__law_apart_right.nd rfl (.inl rfl)) (dgs_cons (dg_name sc__law_apart_right.nd rfl (.inl rfl)) dgs_nil)) (gsl_cons (gsl_cons gsl_nil)))) (fun _ _ _ _ _ => (dts_one (dt_val (de_var (i := 5) rfl (.inl rfl))))) (fun _ _ _ _ _ => (de_var (i := 4) rfl (.inl rfl)))) (de_lst (da_cons (de_var (i := 1) rfl (.inl rfl)) da_nil)) (nomark _)) (dw_or1 (dt_val (de_cb (c_any rfl) rfl kn.free_any PyProof.Rows.Boot.«any» (de_f (ok__law_stands kn) hr (by decide) rfl kn.glo__law_stands (dr_cons (de_var (i := 2) rfl (.inl rfl)) dr_nil))))))) (dss_one (ds_ret de_bl)) dss_nil)) (by decide))
  (dss_cons (ds_set (i := 3) sc__law_apart_right.nd rfl (.inl rfl) (by decide) (de_lst (da_cons (de_new (j := 27) (in_OtherSteps kn) rfl hr (by decide) rfl kn.glo_OtherSteps (da_cons de_int (da_cons de_int da_nil))) (da_cons (de_new (j := 28) (in_OtherStair kn) rfl hr (by decide) rfl kn.glo_OtherStair (da_cons de_int (da_cons de_int da_nil))) (da_cons (de_new (j := 29) (in_NotTogether kn) rfl hr (by decide) rfl kn.glo_NotTogether (da_cons de_int da_nil)) (da_cons (de_new0 (j := 30) (in_NothingFits kn) rfl hr (by decide) rfl kn.glo_NothingFits) (da_cons (de_new0 (j := 31) (in_Endless kn) rfl hr (by decide) rfl kn.glo_Endless) (da_cons (de_new (j := 32) (in_NotBetween kn) rfl hr (by decide) rfl kn.glo_NotBetween (da_cons de_int (da_cons de_int da_nil))) (da_cons (de_new (j := 33) (in_Unmeeting kn) rfl hr (by decide) rfl kn.glo_Unmeeting (da_cons de_int da_nil)) da_nil)))))))))
  (dss_cons (ds_set (i := 3) sc__law_apart_right.nd rfl (.inl rfl) (by decide) (de_add (de_var (i := 3) rfl (.inl rfl)) (de_lst (da_cons (de_new0 (j := 34) (in_NothingToUndo kn) rfl hr (by decide) rfl kn.glo_NothingToUndo) (da_cons (de_new (j := 35) (in_CommandFailed kn) rfl hr (by decide) rfl kn.glo_CommandFailed (da_cons de_int da_nil)) (da_cons (de_new (j := 24) (in_UnknownWay kn) rfl hr (by decide) rfl kn.glo_UnknownWay (da_cons de_int da_nil)) (da_cons (de_new (j := 25) (in_NoSuch kn) rfl hr (by decide) rfl kn.glo_NoSuch (da_cons de_int da_nil)) (da_cons (de_new (j := 37) (in_TooMany kn) rfl hr (by decide) rfl kn.glo_TooMany (da_cons de_int (da_cons de_int da_nil))) da_nil))))))))
  (dss_cons (ds_for (passes_of rfl) rfl (di_enum rfl kn.free_enumerate (da_cons (de_var (i := 3) rfl (.inl rfl)) da_nil)) (dg_tup rfl (dgs_cons (dg_name sc__law_apart_right.nd rfl (.inl rfl)) (dgs_cons (dg_name sc__law_apart_right.nd rfl (.inl rfl)) dgs_nil)) (gsl_cons (gsl_cons gsl_nil))) (dss_one (ds_if (dt_w (dw_or (dt_cmp (o_ne hr.u64) (de_lc (own := [(("_law_k" : Str), 4), (("_law_near" : Str), 5)]) rfl sc__law_apart_right.nd (di_enum rfl kn.free_enumerate (da_cons (de_f (ok__law_stands kn) hr (by decide) rfl kn.glo__law_stands (dr_cons (de_var (i := 2) rfl (.inl rfl)) dr_nil)) da_nil)) (show BlkOk [("_law_some" : Str), ("_law_spot" : Str), ("_law_e" : Str), ("_law_far" : Str), ("_law_k" : Str), ("_law_near" : Str)] (defScope s__law_apart_right) _ _ from ⟨rfl, by decide +kernel, by decide +kernel, by decide +kernel, by decide +kernel⟩) (by decide) (fun _ _ _ _ _ => (dg_tup rfl (dgs_cons (dg_name sc__law_apart_right.nd rfl (.inl rfl)) (dgs_cons (dg_name sc__law_apart_right.nd rfl (.inl rfl)) dgs_nil)) (gsl_cons (gsl_cons gsl_nil)))) (fun _ _ _ _ _ => (dts_one (dt_val (de_var (i := 5) rfl (.inl rfl))))) (fun _ _ _ _ _ => (de_var (i := 4) rfl (.inl rfl)))) (de_lst (da_cons (de_var (i := 1) rfl (.inl rfl)) da_nil)) (nomark _)) (dw_or1 (dt_val (de_cb (c_any rfl) rfl kn.free_any PyProof.Rows.Boot.«any» (de_f (ok__law_sorts kn) hr (by decide) rfl kn.glo__law_sorts (dr_cons (de_var (i := 2) rfl (.inl rfl)) dr_nil))))))) (dss_one (ds_ret de_bl)) dss_nil)) (by decide))
  (dss_one (ds_ret de_bl)))))))
theorem sc__law_right : FnScope [("_law_pot_here" : Str)] [("_law_pot_here" : Str)] (defScope s__law_right) := ⟨rfl, rfl, rfl, by decide +kernel, rfl, by decide +kernel, by decide +kernel⟩
def den__law_right_1 : Den Out := (dRet (dAndV (dCall f__law_raised_right (dRCons (dCall f__law_thing (dRCons (dVar 0) (dRCons (dC (.int 9)) dRNil)) []) dRNil) []) (dCall f__law_apart_right dRNil [])))
def den__law_right : Den Out := (dSeq (dIfS (dOr (dNot (dTest (dCall f__law_values_right (dRCons (dVar 0) dRNil) []))) (dOr (dNot (dTest (dCall f__law_states_right (dRCons (dVar 0) dRNil) []))) (dNot (dTest (dCall f__law_limits_right (dRCons (dVar 0) dRNil) []))))) (dRet (dC (.bool false))) dNext) den__law_right_1)
def f__law_right : List W → Option (W × List W) := dFn 1 1 den__law_right
theorem ok__law_right {P : Program} {w : World} {K : PySem.W.Frag} {mg : Str → Option Value} {base : Heap} (kn : Kn K mg) : FunOk true P w K mg base (clK K) 6 (He.ga K ("_law_right" : Str)) f__law_right := by
  obtain ⟨fd, F⟩ := kn.s.def_ 18 (d := d__law_right) rfl
  refine ⟨fd, [("_law_pot_here" : Str)], okG (c := true) (k := 5) F sc__law_right spW_len (fun cdv A outer s H vs Q E hr h => ⟨_, ?_, fn_end rfl h⟩), F.bindsN (fun _ _ _ _ _ _ us hl => match us, hl with | [_], _ => rfl), F.kp⟩
  exact (dss_cons (ds_if (dt_w (dw_or (dt_not (dt_val (de_f (ok__law_values_right kn) hr (by decide) rfl kn.glo__law_values_right (dr_cons (de_var (i := 0) rfl (.inl rfl)) dr_nil)))) (dw_or (dt_not (dt_val (de_f (ok__law_states_right kn) hr (by decide) rfl kn.glo__law_states_right (dr_cons (de_var (i := 0) rfl (.inl rfl)) dr_nil)))) (dw_or1 (dt_not (dt_val (de_f (ok__law_limits_right kn) hr (by decide) rfl kn.glo__law_limits_right (dr_cons (de_var (i := 0) rfl (.inl rfl)) dr_nil)))))))) (dss_one (ds_ret de_bl)) dss_nil)
  (dss_one (ds_ret (de_and (de_f (ok__law_raised_right kn) hr (by decide) rfl kn.glo__law_raised_right (dr_cons (de_f (ok__law_thing kn) hr (by decide) rfl kn.glo__law_thing (dr_cons (de_var (i := 0) rfl (.inl rfl)) (dr_cons de_int dr_nil))) dr_nil)) (de_one (de_f0 (ok__law_apart_right kn) hr (by decide) rfl kn.glo__law_apart_right))))))
theorem sc_law : FnScope [("_law_script" : Str), ("_law_k" : Str)] [("_law_script" : Str)] (defScope s_law) := ⟨rfl, rfl, rfl, by decide +kernel, rfl, by decide +kernel, by decide +kernel⟩
def den_law : Den Out := (dRet (dUn gAll (dLc (dIRange1 (dCons (dBin gMax2 (dC (.int 1)) (dBin gMin2 (dC (.int 3)) (dUn gLen (dVar 0)))) dNil)) (gNm 1) dYes (dSh (dCall f__law_right (dRCons (dCall f__law_pot (dRCons (dVar 0) (dRCons (dVar 1) dRNil)) []) dRNil) [])) [1])))
def f_law : List W → Option (W × List W) := dFn 1 2 den_law
theorem okL {P : Program} {w : World} {K : PySem.W.Frag} {mg : Str → Option Value} {base : Heap} {fd : FuncData} (kn : Kn K mg) (F : FunD K ("law" : Str) ("law" : Str) (defArgs s_law) (defBody s_law) (defScope s_law) [] [] (He.fAd K (("law" : Str), none)) fd) : FnOkG true P w K mg base CX0 7 (He.ga K ("law" : Str)) fd [("_law_script" : Str)] (spW w K (clK K) f_law) := by
  refine okG (c := true) (k := 6) F sc_law spW_len (fun cdv A outer s H vs Q E hr h => ⟨_, ?_, fn_end rfl h⟩)
  exact (dss_one (ds_ret (de_cb (c_all rfl) rfl kn.free_all PyProof.Rows.Boot.«all» (de_lc (own := [(("_law_k" : Str), 1)]) rfl sc_law.nd (di_range1 rfl kn.free_range (da_cons (de_cb2 (c_max2 rfl) rfl kn.free_max PyProof.Rows.Boot.«max» de_int (de_cb2 (c_min2 rfl) rfl kn.free_min PyProof.Rows.Boot.«min» de_int (de_cb c_len rfl kn.free_len PyProof.Rows.Boot.«len» (de_var (i := 0) rfl (.inr (.inl rfl)))))) da_nil)) (show BlkOk [("_law_script" : Str), ("_law_k" : Str)] (defScope s_law) _ _ from ⟨rfl, by decide +kernel, by decide +kernel, by decide +kernel, by decide +kernel⟩) (by decide) (fun _ _ _ _ _ => (dg_name sc_law.nd rfl (.inl rfl))) (fun _ _ _ _ _ => dts_nil) (fun _ _ _ _ _ => (de_f (ok__law_right kn) hr (by decide) rfl kn.glo__law_right (dr_cons (de_f (ok__law_pot kn) hr (by decide) rfl kn.glo__law_pot (dr_cons (de_var (i := 0) rfl (.inr (.inl rfl))) (dr_cons (de_var (i := 1) rfl (.inl rfl)) dr_nil))) dr_nil)))))))
end K10
set_option Elab.async false
set_option linter.all false
set_option maxRecDepth 100000
set_option maxHeartbeats 0
/-! The plain law of k10: what the defs compute answers True. -/
namespace K10
open PySem PySem.Spec PyProof.Rows L2 Ws
/-! ### texts of data -/
def goodD (k n : Nat) (o : D) : Prop := ∃ p, toR o = some p ∧ p.showable = true ∧ p.depth ≤ k ∧ p.shown.length ≤ n
abbrev good (n : Nat) (o : D) : Prop := goodD 11 n o
def goodB (n : Nat) (o : D) : Bool := match toR o with
  | some p => p.showable && (decide (p.depth ≤ 8) && decide (p.shown.length ≤ n))
  | none => false
theorem good_of {n : Nat} {o : D} (h : goodB n o = true) : goodD 8 n o := by
  unfold goodB at h
  split at h
  · rename_i p e
    obtain ⟨h1, h⟩ := Bool.and_eq_true_iff.mp h
    obtain ⟨h2, h3⟩ := Bool.and_eq_true_iff.mp h
    exact ⟨p, e, h1, of_decide_eq_true h2, of_decide_eq_true h3⟩
  · cases h
theorem good_mono {k j n m : Nat} {o : D} (h : goodD k n o) (hk : k ≤ j) (l : n ≤ m) : goodD j m o := by
  obtain ⟨p, a, b, c, d⟩ := h
  exact ⟨p, a, b, by omega, by omega⟩
theorem goods {k n : Nat} : ∀ {l : List D}, (∀ x ∈ l, goodD k n x) → ∃ ps, toRs l = some ps ∧ PyData.showableAll ps = true ∧ PyData.depthAll ps ≤ k ∧ piled (PyData.shownAll ps) ≤ l.length * (n + 2)
  | [], _ => ⟨[], rfl, rfl, by simp [PyData.depthAll], by simp [PyData.shownAll, piled]⟩
  | x :: l, h => by
    obtain ⟨p, h1, h2, h3, h4⟩ := h x List.mem_cons_self
    obtain ⟨ps, q1, q2, q3, q4⟩ := goods (l := l) fun y hy => h y (List.mem_cons_of_mem _ hy)
    refine ⟨p :: ps, by simp [toRs, h1, q1], by simp [PyData.showableAll, h2, q2], by simp only [PyData.depthAll]; omega, ?_⟩
    simp only [PyData.shownAll, piled_cons, List.length_cons]
    have : (l.length + 1) * (n + 2) = l.length * (n + 2) + (n + 2) := Nat.succ_mul _ _
    omega
theorem textFrom_le : ∀ (ts : List Str) (k : Nat) (acc : Str), (textFrom k acc ts).length ≤ acc.length + piled ts
  | [], k, acc => by simp [textFrom, piled]
  | t :: ts, k, acc => by
    have ih := textFrom_le ts (k + 1) (acc ++ (if k > 0 then ", " else "" : String) ++ t)
    have e : ((if k > 0 then ", " else "" : String) : Str).length ≤ 2 := by split <;> decide
    rw [strLen_append, strLen_append] at ih
    rw [piled_cons]
    show (textFrom (k + 1) _ ts).length ≤ _
    omega
theorem listText_le (ts : List Str) : (listText ts).length ≤ piled ts + 2 := by
  have := textFrom_le ts 0 "["
  have e1 : (("[" : String) : Str).length = 1 := rfl
  have e2 : (("]" : String) : Str).length = 1 := rfl
  unfold listText
  rw [strLen_append, e2]
  omega
theorem repr_good {n : Nat} {l : List D} (h : ∀ x ∈ l, good n x) (hl : l.length * (n + 2) ≤ 1000000) : ∃ s, gRepr (.lst l) = some (.str s) := by
  obtain ⟨ps, q1, q2, q3, q4⟩ := goods h
  refine ⟨(PyData.list ps).shown, ?_⟩
  unfold gRepr
  have e : toR (.lst l) = some (.list ps) := by simp [toR, q1]
  rw [e]
  have c : (PyData.list ps).showable = true ∧ (PyData.list ps).shown.length ≤ sizeLine ∧ (PyData.list ps).depth ≤ 60 := by
    refine ⟨by simpa [PyData.showable] using q2, ?_, by simp only [PyData.depth]; omega⟩
    have := listText_le (PyData.shownAll ps)
    simp only [PyData.shown]
    rw [sizeLine_eq]
    omega
  show (if _ then some (D.str (PyData.list ps).shown) else none) = _
  rw [if_pos c]
theorem good_pair {k n : Nat} {a b : D} (ha : goodD k n a) (hb : goodD k n b) : goodD (k + 1) (2 * n + 10) (.tup [a, b]) := by
  obtain ⟨ps, q1, q2, q3, q4⟩ := goods (k := k) (n := n) (l := [a, b]) fun x hx => by
    rcases List.mem_cons.mp hx with e | hx
    · rw [e]; exact ha
    · rcases List.mem_cons.mp hx with e | hx
      · rw [e]; exact hb
      · cases hx
  refine ⟨.tuple ps, by simp [toR, q1], by simpa [PyData.showable] using q2, by simp only [PyData.depth]; omega, ?_⟩
  simp only [PyData.shown]
  have := PySem.fmt_text (PyData.shownAll ps)
  simp only [List.length_cons, List.length_nil] at q4
  omega
/-! ### small steps -/
theorem seq_next {s t : Den Out} {ρ ρ' : Ws.Env} (h : s ρ = some (.next, ρ')) : dSeq s t ρ = t ρ' := by
  unfold dSeq
  rw [h]
  rfl
theorem ne_repr {A B : Den Rv} {ρ ρ1 ρ2 : Ws.Env} {a b : Rv} {v : D} (hA : A ρ = some (a, ρ1)) (ha : viewR ρ1 a = some v) (hB : B ρ1 = some (b, ρ2)) (hb : viewR ρ2 b = some v) (hr : ∃ s, gRepr v = some (.str s)) : dTest (dBin (gEqv true) (dUn gRepr A) (dUn gRepr B)) ρ = some (false, ρ2) := by
  obtain ⟨s, hs⟩ := hr
  have e : decide (s = s) = true := decide_eq_true rfl
  have g1 : gEqv true (.str s) (.str s) = some (.bool false) := by
    show some (D.bool (!decide (s = s))) = _
    rw [e]
    rfl
  have a1 : dUn gRepr A ρ = some (.val (.leaf (.str s)), ρ1) := by
    unfold dUn
    rw [hA]
    show (viewR ρ1 a).bind _ = _
    rw [ha]
    show (gRepr v).bind _ = _
    rw [hs]
    rfl
  have b1 : dUn gRepr B ρ1 = some (.val (.leaf (.str s)), ρ2) := by
    unfold dUn
    rw [hB]
    show (viewR ρ2 b).bind _ = _
    rw [hb]
    show (gRepr v).bind _ = _
    rw [hs]
    rfl
  unfold dTest dBin
  simp only [a1, b1, Option.bind_some, viewR, W.toD, g1, sv]
theorem if_skip {t : Den Bool} {d : Den Out} {ρ ρ' : Ws.Env} (h : t ρ = some (false, ρ')) : dIfS t d dNext ρ = some (.next, ρ') := by
  unfold dIfS
  rw [h]
  rfl
theorem or_ff {a b : Den Bool} {ρ ρ1 ρ2 : Ws.Env} (ha : a ρ = some (false, ρ1)) (hb : b ρ1 = some (false, ρ2)) : dOr a b ρ = some (false, ρ2) := by
  unfold dOr
  rw [ha]
  exact hb
end K10
set_option Elab.async false
set_option linter.all false
set_option maxRecDepth 100000
set_option maxHeartbeats 0
/-! The plain law of k10, def by def. -/
namespace K10
open PySem PySem.Spec PyProof.Rows L2 Ws
def P (x y : Int) : W := .lst [.leaf (.int x), .leaf (.int y)]
def xs1 (cs : List Nat) (n : Str) (o : D) : List D := cs.map fun c => .exc c [(n, o)]
def xs2 (cs : List Nat) (n m : Str) (o f : D) : List D := cs.map fun c => .exc c [(m, f), (n, o)]
def ow (l : List D) : W := .lst (l.map .leaf)
def sh (l : List D) : W := .leaf (.lst l)
def cv : List Nat := [1, 3, 5, 6, 7, 8, 9, 10, 11, 12, 13, 14, 16, 18, 19, 21, 22]
def cp : List Nat := [2, 4, 15, 17]
abbrev T1 : Rv := .val (.leaf (.bool true))
def rep (n : Nat) (o : D) : List D := List.replicate n o
theorem rep_good {m n : Nat} {o : D} (h : good n o) : ∀ x ∈ rep m o, good n x := fun x hx => by
  rw [(List.mem_replicate.mp hx).2]
  exact h
theorem up {n : Nat} {o : D} (h : goodD 8 n o) : good n o := good_mono h (by decide) (Nat.le_refl _)
theorem two_good {n : Nat} {o f : D} (ho : good n o) (hf : good n f) {l : List D} (h : ∀ x ∈ l, x = o ∨ x = f) : ∀ x ∈ l, good n x := fun x hx => by
  rcases h x hx with e | e
  · rw [e]; exact ho
  · rw [e]; exact hf

def eV0 (x y : Int) (o f : D) : Ws.Env := [some (P x y), some (.leaf o), some (.leaf f), none, none, none, none, none, none]
def eV1 (x y : Int) (o f : D) : Ws.Env := [some (P x y), some (.leaf o), some (.leaf f), some (ow (xs1 (cv ++ cv) "value" o)), some (ow (xs1 cv "value" f)), none, none, none, none]
def eV2 (x y : Int) (o f : D) : Ws.Env := [some (P x y), some (.leaf o), some (.leaf f), some (ow (xs1 (cv ++ cv) "value" o)), some (ow (xs1 cv "value" f)), some (ow (xs1 (cp ++ cp) "position" o)), some (ow (xs1 [20, 20] "line" o)), none, none]
def eV3 (x y : Int) (o f : D) : Ws.Env := [some (P x y), some (.leaf o), some (.leaf f), some (sh (xs1 (cv ++ cv) "value" o)), some (ow (xs1 cv "value" f)), some (ow (xs1 (cp ++ cp) "position" o)), some (ow (xs1 [20, 20] "line" o)), none, none]
def eV4 (x y : Int) (o f : D) : Ws.Env := [some (P x y), some (.leaf o), some (.leaf f), some (sh (xs1 (cv ++ cv) "value" o)), some (ow (xs1 cv "value" f)), some (sh (xs1 (cp ++ cp) "position" o)), some (ow (xs1 [20, 20] "line" o)), none, none]
def eV5 (x y : Int) (o f : D) : Ws.Env := [some (P x y), some (.leaf o), some (.leaf f), some (sh (xs1 (cv ++ cv) "value" o)), some (ow (xs1 cv "value" f)), some (sh (xs1 (cp ++ cp) "position" o)), some (sh (xs1 [20, 20] "line" o)), none, none]
def eV6 (x y : Int) (o f : D) : Ws.Env := [some (P x y), some (.leaf o), some (.leaf f), some (sh (xs1 (cv ++ cv) "value" o)), some (sh (xs1 cv "value" f)), some (sh (xs1 (cp ++ cp) "position" o)), some (sh (xs1 [20, 20] "line" o)), none, none]
def eV7 (x y : Int) (o f : D) : Ws.Env := [some (P x y), some (.leaf o), some (.leaf f), some (sh (xs1 (cv ++ cv) "value" o)), some (sh (xs1 cv "value" f)), some (sh (xs1 (cp ++ cp) "position" o)), some (sh (xs1 [20, 20] "line" o)), some (ow ([.exc 24 [("value", o)], .exc 25 [("value", o)], .exc 24 [("value", f)], .exc 25 [("value", f)]])), none]
def eV8 (x y : Int) (o f : D) : Ws.Env := [some (P x y), some (.leaf o), some (.leaf f), some (sh (xs1 (cv ++ cv) "value" o)), some (sh (xs1 cv "value" f)), some (sh (xs1 (cp ++ cp) "position" o)), some (sh (xs1 [20, 20] "line" o)), some (sh ([.exc 24 [("value", o)], .exc 25 [("value", o)], .exc 24 [("value", f)], .exc 25 [("value", f)]])), none]
theorem values_rest (x y : Int) {o f : D} (ho : goodD 8 1000 o) (hf : goodD 8 1000 f) : den__law_values_right_1 (eV0 x y o f) = some (.ret T1, eV8 x y o f) := by
  refine (seq_next (ρ' := (eV1 x y o f)) ?_).trans ?_
  · kernel_rfl
  refine (seq_next (ρ' := (eV2 x y o f)) ?_).trans ?_
  · kernel_rfl
  refine (seq_next (ρ' := (eV3 x y o f)) (if_skip (ne_repr (a := ownL (rep 34 o)) (b := ownL (rep 34 o)) (ρ1 := (eV3 x y o f)) (v := .lst (rep 34 o)) ?_ ?_ ?_ ?_ (repr_good (n := 1000) (rep_good (up ho)) (by unfold rep; simp only [List.length_replicate]; decide))))).trans ?_
  · kernel_rfl
  · kernel_rfl
  · kernel_rfl
  · kernel_rfl
  refine (seq_next (ρ' := (eV5 x y o f)) (if_skip (or_ff (ρ1 := (eV4 x y o f)) (ne_repr (a := ownL (rep 8 o)) (b := ownL (rep 8 o)) (ρ1 := (eV4 x y o f)) (v := .lst (rep 8 o)) ?_ ?_ ?_ ?_ (repr_good (n := 1000) (rep_good (up ho)) (by unfold rep; simp only [List.length_replicate]; decide)))
    (ne_repr (a := ownL (rep 2 o)) (b := ownL (rep 2 o)) (ρ1 := (eV5 x y o f)) (v := .lst (rep 2 o)) ?_ ?_ ?_ ?_ (repr_good (n := 1000) (rep_good (up ho)) (by unfold rep; simp only [List.length_replicate]; decide)))))).trans ?_
  · kernel_rfl
  · kernel_rfl
  · kernel_rfl
  · kernel_rfl
  · kernel_rfl
  · kernel_rfl
  · kernel_rfl
  · kernel_rfl
  refine (seq_next (ρ' := (eV6 x y o f)) (if_skip (ne_repr (a := ownL (rep 17 f)) (b := ownL (rep 17 f)) (ρ1 := (eV6 x y o f)) (v := .lst (rep 17 f)) ?_ ?_ ?_ ?_ (repr_good (n := 1000) (rep_good (up hf)) (by unfold rep; simp only [List.length_replicate]; decide))))).trans ?_
  · kernel_rfl
  · kernel_rfl
  · kernel_rfl
  · kernel_rfl
  refine (seq_next (ρ' := (eV6 x y o f)) (if_skip ?_)).trans ?_
  · kernel_rfl
  refine (seq_next (ρ' := (eV7 x y o f)) ?_).trans ?_
  · kernel_rfl
  refine (seq_next (ρ' := (eV8 x y o f)) (if_skip (ne_repr (a := ownL [o, o, f, f]) (b := ownL [o, o, f, f]) (ρ1 := (eV8 x y o f)) (v := .lst [o, o, f, f]) ?_ ?_ ?_ ?_ (repr_good (n := 1000) (two_good (up ho) (up hf) (by simp)) (by simp))))).trans ?_
  · kernel_rfl
  · kernel_rfl
  · kernel_rfl
  · kernel_rfl
  kernel_rfl
def eS0 (x y : Int) (o f : D) : Ws.Env := [some (P x y), some (.leaf o), some (.leaf f), none, none, none, none, none]
def eS1 (x y : Int) (o f : D) : Ws.Env := [some (P x y), some (.leaf o), some (.leaf f), some (ow ([.exc 27 [("other", f), ("one", o)], .exc 28 [("other", f), ("one", o)], .exc 27 [("other", f), ("one", o)], .exc 28 [("other", f), ("one", o)]])), none, none, none, none]
def eS2 (x y : Int) (o f : D) : Ws.Env := [some (P x y), some (.leaf o), some (.leaf f), some (sh ([.exc 27 [("other", f), ("one", o)], .exc 28 [("other", f), ("one", o)], .exc 27 [("other", f), ("one", o)], .exc 28 [("other", f), ("one", o)]])), none, none, none, none]
def eS3 (x y : Int) (o f : D) : Ws.Env := [some (P x y), some (.leaf o), some (.leaf f), some (sh ([.exc 27 [("other", f), ("one", o)], .exc 28 [("other", f), ("one", o)], .exc 27 [("other", f), ("one", o)], .exc 28 [("other", f), ("one", o)]])), some (ow ([.exc 32 [("greatest", f), ("least", o)], .exc 32 [("greatest", f), ("least", o)]])), none, none, none]
def eS4 (x y : Int) (o f : D) : Ws.Env := [some (P x y), some (.leaf o), some (.leaf f), some (sh ([.exc 27 [("other", f), ("one", o)], .exc 28 [("other", f), ("one", o)], .exc 27 [("other", f), ("one", o)], .exc 28 [("other", f), ("one", o)]])), some (sh ([.exc 32 [("greatest", f), ("least", o)], .exc 32 [("greatest", f), ("least", o)]])), none, none, none]
def eS5 (x y : Int) (o f : D) : Ws.Env := [some (P x y), some (.leaf o), some (.leaf f), some (sh ([.exc 27 [("other", f), ("one", o)], .exc 28 [("other", f), ("one", o)], .exc 27 [("other", f), ("one", o)], .exc 28 [("other", f), ("one", o)]])), some (sh ([.exc 32 [("greatest", f), ("least", o)], .exc 32 [("greatest", f), ("least", o)]])), some (ow ([.exc 29 [("value", o)], .exc 33 [("value", o)], .exc 29 [("value", f)], .exc 33 [("value", f)]])), none, none]
def eS6 (x y : Int) (o f : D) : Ws.Env := [some (P x y), some (.leaf o), some (.leaf f), some (sh ([.exc 27 [("other", f), ("one", o)], .exc 28 [("other", f), ("one", o)], .exc 27 [("other", f), ("one", o)], .exc 28 [("other", f), ("one", o)]])), some (sh ([.exc 32 [("greatest", f), ("least", o)], .exc 32 [("greatest", f), ("least", o)]])), some (sh ([.exc 29 [("value", o)], .exc 33 [("value", o)], .exc 29 [("value", f)], .exc 33 [("value", f)]])), none, none]
def eS7 (x y : Int) (o f : D) : Ws.Env := [some (P x y), some (.leaf o), some (.leaf f), some (sh ([.exc 27 [("other", f), ("one", o)], .exc 28 [("other", f), ("one", o)], .exc 27 [("other", f), ("one", o)], .exc 28 [("other", f), ("one", o)]])), some (sh ([.exc 32 [("greatest", f), ("least", o)], .exc 32 [("greatest", f), ("least", o)]])), some (sh ([.exc 29 [("value", o)], .exc 33 [("value", o)], .exc 29 [("value", f)], .exc 33 [("value", f)]])), some (ow ([.exc 30 [], .exc 31 [], .exc 34 [], .exc 35 [("position", o)], .exc 35 [("position", f)]])), none]
theorem good_pair2 {o f : D} (ho : goodD 8 1000 o) (hf : goodD 8 1000 f) : good 2010 (.tup [o, f]) := good_mono (good_pair ho hf) (by decide) (by decide)
theorem states_rest (x y : Int) {o f : D} (ho : goodD 8 1000 o) (hf : goodD 8 1000 f) : den__law_states_right_1 (eS0 x y o f) = some (.ret T1, eS7 x y o f) := by
  refine (seq_next (ρ' := (eS1 x y o f)) ?_).trans ?_
  · kernel_rfl
  refine (seq_next (ρ' := (eS2 x y o f)) (if_skip (ne_repr (a := ownL (rep 4 (.tup [o, f]))) (b := ownL (rep 4 (.tup [o, f]))) (ρ1 := (eS2 x y o f)) (v := .lst (rep 4 (.tup [o, f]))) ?_ ?_ ?_ ?_ (repr_good (n := 2010) (rep_good (good_pair2 ho hf)) (by unfold rep; simp only [List.length_replicate]; decide))))).trans ?_
  · kernel_rfl
  · kernel_rfl
  · kernel_rfl
  · kernel_rfl
  refine (seq_next (ρ' := (eS3 x y o f)) ?_).trans ?_
  · kernel_rfl
  refine (seq_next (ρ' := (eS4 x y o f)) (if_skip (ne_repr (a := ownL (rep 2 (.tup [o, f]))) (b := ownL (rep 2 (.tup [o, f]))) (ρ1 := (eS4 x y o f)) (v := .lst (rep 2 (.tup [o, f]))) ?_ ?_ ?_ ?_ (repr_good (n := 2010) (rep_good (good_pair2 ho hf)) (by unfold rep; simp only [List.length_replicate]; decide))))).trans ?_
  · kernel_rfl
  · kernel_rfl
  · kernel_rfl
  · kernel_rfl
  refine (seq_next (ρ' := (eS5 x y o f)) ?_).trans ?_
  · kernel_rfl
  refine (seq_next (ρ' := (eS6 x y o f)) (if_skip (ne_repr (a := ownL [o, o, f, f]) (b := ownL [o, o, f, f]) (ρ1 := (eS6 x y o f)) (v := .lst [o, o, f, f]) ?_ ?_ ?_ ?_ (repr_good (n := 1000) (two_good (up ho) (up hf) (by simp)) (by simp))))).trans ?_
  · kernel_rfl
  · kernel_rfl
  · kernel_rfl
  · kernel_rfl
  refine (seq_next (ρ' := (eS7 x y o f)) ?_).trans ?_
  · kernel_rfl
  refine (seq_next (ρ' := (eS7 x y o f)) (if_skip (ne_repr (a := ownL [o, f]) (b := ownL [o, f]) (ρ1 := (eS7 x y o f)) (v := .lst [o, f]) ?_ ?_ ?_ ?_ (repr_good (n := 1000) (two_good (up ho) (up hf) (by simp)) (by simp))))).trans ?_
  · kernel_rfl
  · kernel_rfl
  · kernel_rfl
  · kernel_rfl
  kernel_rfl
def eL0 (x y : Int) (o f : D) : Ws.Env := [some (P x y), some (.leaf o), some (.leaf f), none, none]
def eL1 (x y : Int) (o f : D) : Ws.Env := [some (P x y), some (.leaf o), some (.leaf f), some (ow ([.exc 37 [("limit", f), ("what", o)], .exc 37 [("limit", o), ("what", f)]])), none]
def eL2 (x y : Int) (o f : D) : Ws.Env := [some (P x y), some (.leaf o), some (.leaf f), some (sh ([.exc 37 [("limit", f), ("what", o)], .exc 37 [("limit", o), ("what", f)]])), none]
theorem limits_rest (x y : Int) {o f : D} (ho : goodD 8 1000 o) (hf : goodD 8 1000 f) : den__law_limits_right_1 (eL0 x y o f) = some (.ret T1, eL2 x y o f) := by
  refine (seq_next (ρ' := (eL1 x y o f)) ?_).trans ?_
  · kernel_rfl
  refine (seq_next (ρ' := (eL2 x y o f)) (if_skip (ne_repr (a := ownL [.tup [o, f], .tup [f, o]]) (b := ownL [.tup [o, f], .tup [f, o]]) (ρ1 := (eL2 x y o f)) (v := .lst [.tup [o, f], .tup [f, o]]) ?_ ?_ ?_ ?_ (repr_good (n := 2010) (two_good (good_pair2 ho hf) (good_pair2 hf ho) (by simp)) (by simp))))).trans ?_
  · kernel_rfl
  · kernel_rfl
  · kernel_rfl
  · kernel_rfl
  kernel_rfl
end K10
set_option Elab.async false
set_option linter.all false
set_option maxRecDepth 100000
set_option maxHeartbeats 0
/-! The plain law of k10: pots, draws, things. -/
namespace K10
open PySem PySem.Spec PyProof.Rows L2 Ws
theorem mulI_some {i j : Int} (h : (-(2 ^ 64) < i ∧ i < 2 ^ 64) ∨ (-(2 ^ 64) < j ∧ j < 2 ^ 64)) : gMulI (.int i) (.int j) = some (.int (i * j)) := by
  show (if decide ((-(2 ^ 64) < i ∧ i < 2 ^ 64) ∨ (-(2 ^ 64) < j ∧ j < 2 ^ 64)) = true then some (D.int (i * j)) else none) = _
  rw [decide_eq_true h]
  rfl
theorem mul_int {a b : Den Rv} {ρ ρ1 ρ2 : Ws.Env} {i j : Int} (ha : a ρ = some (.val (.leaf (.int i)), ρ1)) (hb : b ρ1 = some (.val (.leaf (.int j)), ρ2)) (h : (-(2 ^ 64) < i ∧ i < 2 ^ 64) ∨ (-(2 ^ 64) < j ∧ j < 2 ^ 64)) :
    dMul a b ρ = some (.val (.leaf (.int (i * j))), ρ2) := by
  unfold dMul
  rw [ha]
  show (b ρ1).bind _ = _
  rw [hb]
  show (gMulI (.int i) (.int j)).map _ = _
  rw [mulI_some h]
  rfl
theorem add_int {a b : Den Rv} {ρ ρ1 ρ2 : Ws.Env} {i j : Int} (ha : a ρ = some (.val (.leaf (.int i)), ρ1)) (hb : b ρ1 = some (.val (.leaf (.int j)), ρ2)) : dAdd a b ρ = some (.val (.leaf (.int (i + j))), ρ2) := by
  unfold dAdd
  rw [ha]
  show (b ρ1).bind _ = _
  rw [hb]
  rfl
theorem bin_int {g : D → D → Option D} {a b : Den Rv} {ρ ρ1 ρ2 : Ws.Env} {i j : Int} {r : D} (ha : a ρ = some (.val (.leaf (.int i)), ρ1)) (hb : b ρ1 = some (.val (.leaf (.int j)), ρ2)) (h : g (.int i) (.int j) = some r) (hs : (sv r).isSome = true) :
    dBin g a b ρ = some (.val (.leaf r), ρ2) := by
  unfold dBin
  rw [ha]
  show (b ρ1).bind _ = _
  rw [hb]
  show (g (.int i) (.int j)).bind _ = _
  rw [h]
  show (sv r).bind _ = _
  obtain ⟨v, e⟩ := Option.isSome_iff_exists.mp hs
  rw [e]
  rfl
theorem un_int {g : D → Option D} {a : Den Rv} {ρ ρ1 : Ws.Env} {d r : D} (ha : a ρ = some (.val (.leaf d), ρ1)) (h : g d = some r) (hs : (sv r).isSome = true) : dUn g a ρ = some (.val (.leaf r), ρ1) := by
  unfold dUn
  rw [ha]
  show (g d).bind _ = _
  rw [h]
  show (sv r).bind _ = _
  obtain ⟨v, e⟩ := Option.isSome_iff_exists.mp hs
  rw [e]
  rfl
theorem mod_some {i j : Int} (h : 0 < j) : gMod (.int i) (.int j) = some (.int (i % j)) := by
  show (if decide (0 < j) = true then some (D.int (i % j)) else none) = _
  rw [decide_eq_true h]
  rfl
theorem div_some {i j : Int} (h : 0 < j ∧ j < 1073741824) : gDiv (.int i) (.int j) = some (.int (i / j)) := by
  show (if decide (0 < j ∧ j < 1073741824) = true then some (D.int (i / j)) else none) = _
  rw [decide_eq_true h]
  rfl
theorem asg_val {d : Den Rv} {g : DenG} {ρ ρ1 ρ2 : Ws.Env} {v : D} (h : d ρ = some (.val (.leaf v), ρ1)) (hg : g v ρ1 = some ρ2) : dAsg d g ρ = some (.next, ρ2) := by
  unfold dAsg dSh
  rw [h]
  show (g v ρ1).map _ = _
  rw [hg]
  rfl
theorem ret_val {d : Den Rv} {ρ ρ1 : Ws.Env} {r : Rv} (h : d ρ = some (r, ρ1)) : dRet d ρ = some (.ret r, ρ1) := by
  unfold dRet
  rw [h]
  rfl
theorem test_val {d : Den Rv} {ρ ρ1 : Ws.Env} {b : Bool} (h : d ρ = some (.val (.leaf (.bool b)), ρ1)) : dTest d ρ = some (b, ρ1) := by
  unfold dTest
  rw [h]
  rfl
theorem seq_ret {s t : Den Out} {ρ ρ' : Ws.Env} {r : Rv} (h : s ρ = some (.ret r, ρ')) : dSeq s t ρ = some (.ret r, ρ') := by
  unfold dSeq
  rw [h]
  rfl
theorem if_true {t : Den Bool} {d1 d2 : Den Out} {ρ ρ1 : Ws.Env} (h : t ρ = some (true, ρ1)) : dIfS t d1 d2 ρ = d1 ρ1 := by
  unfold dIfS
  rw [h]
  rfl
theorem fn_ret {np n : Nat} {den : Den Out} {ws : List W} {ρ' : Ws.Env} {x : W} {ws' : List W} (hl : ws.length = np) (h : den (ws.map some ++ List.replicate (n - np) Option.none) = some (.ret (.val x), ρ')) (ha : allSome (ρ'.take np) = some ws') : dFn np n den ws = some (x, ws') := by
  unfold dFn
  rw [if_pos hl, h]
  show (allSome (ρ'.take np)).map _ = _
  rw [ha]
  rfl
/-! ### a draw -/
def PotOk (y : Int) : Prop := 0 ≤ y ∧ y ≤ 2147483579
theorem draw_ok (x y n : Int) (hy : PotOk y) (hn : 0 < n ∧ n < 1073741824) : ∃ d x' y', f__law_draw [P x y, .leaf (.int n)] = some (.leaf (.int d), [P x' y', .leaf (.int n)]) ∧ 0 ≤ d ∧ d < n ∧ PotOk y' := by
  have c1 : dTest (dBin gGt (dIx (dVar 0) (dC (.int 0))) (dC (.int 0))) [some (P x y), some (.leaf (.int n)), none] = some (decide (0 < x), [some (P x y), some (.leaf (.int n)), none]) := by kernel_rfl
  by_cases hx : 0 < x
  · refine ⟨x % n, x / n, y, ?_, Int.emod_nonneg _ (by omega), Int.emod_lt_of_pos _ hn.1, hy⟩
    rw [decide_eq_true hx] at c1
    refine fn_ret (ρ' := [some (P (x / n) y), some (.leaf (.int n)), some (.leaf (.int (x % n)))]) rfl ?_ rfl
    refine (seq_ret (ρ' := [some (P (x / n) y), some (.leaf (.int n)), some (.leaf (.int (x % n)))]) (r := .val (.leaf (.int (x % n)))) ?_)
    refine (if_true c1).trans ?_
    refine (seq_next (ρ' := [some (P (x / n) y), some (.leaf (.int n)), some (.leaf (.int (x % n)))]) (asg_val (ρ1 := [some (P x y), some (.leaf (.int n)), none]) (v := .tup [.int (x / n), .int (x % n)]) ?_ ?_)).trans ?_
    · show (if 0 < n ∧ n < 1073741824 then some (Rv.val (W.leaf (.tup [.int (x / n), .int (x % n)])), [some (P x y), some (W.leaf (.int n)), none]) else none) = _
      rw [if_pos hn]
    · kernel_rfl
    · kernel_rfl
  · rw [decide_eq_false hx] at c1
    obtain ⟨y1, ey1⟩ : ∃ y1, y1 = (y * 39971 + 11031) % 2147483563 := ⟨_, rfl⟩
    have b1 : 0 ≤ y1 ∧ y1 < 2147483563 := by rw [ey1]; exact ⟨Int.emod_nonneg _ (by decide), Int.emod_lt_of_pos _ (by decide)⟩
    refine ⟨(y1 * y1) % 2147483543 / 17 % n, x, y1, ?_, Int.emod_nonneg _ (by omega), Int.emod_lt_of_pos _ hn.1, ⟨b1.1, by omega⟩⟩
    refine fn_ret (ρ' := [some (P x y1), some (.leaf (.int n)), none]) rfl ?_ rfl
    refine (seq_next (ρ' := [some (P x y), some (.leaf (.int n)), none]) (if_skip c1)).trans ?_
    refine (seq_next (ρ' := [some (P x y1), some (.leaf (.int n)), none]) (asg_val (ρ1 := [some (P x y), some (.leaf (.int n)), none]) (v := .int y1) ?_ ?_)).trans ?_
    · refine (bin_int (i := y * 39971 + 11031) (j := 2147483563) (ρ1 := [some (P x y), some (.leaf (.int n)), none]) (un_int (d := .int (y * 39971 + 11031)) (add_int (i := y * 39971) (j := 11031) (ρ1 := [some (P x y), some (.leaf (.int n)), none]) (mul_int (i := y) (j := 39971) (ρ1 := [some (P x y), some (.leaf (.int n)), none]) ?_ ?_ (.inr ⟨by decide, by decide⟩)) ?_) ?_ ?_) ?_ ?_ rfl)
      · kernel_rfl
      · kernel_rfl
      · kernel_rfl
      · kernel_rfl
      · rfl
      · kernel_rfl
      · rw [ey1]
        exact mod_some (by decide)
    · kernel_rfl
    · refine ret_val (bin_int (i := (y1 * y1) % 2147483543 / 17) (j := n) (ρ1 := [some (P x y1), some (.leaf (.int n)), none]) (un_int (d := .int ((y1 * y1) % 2147483543 / 17)) (bin_int (i := (y1 * y1) % 2147483543) (j := 17) (ρ1 := [some (P x y1), some (.leaf (.int n)), none]) (bin_int (i := y1 * y1) (j := 2147483543) (ρ1 := [some (P x y1), some (.leaf (.int n)), none])
        (un_int (d := .int (y1 * y1)) (mul_int (i := y1) (j := y1) (ρ1 := [some (P x y1), some (.leaf (.int n)), none]) ?_ ?_ (.inl ⟨by omega, by omega⟩)) ?_ ?_) ?_ (mod_some (by decide)) rfl) ?_ (div_some (by decide)) rfl) ?_ ?_) ?_ (mod_some hn.1) rfl)
      · kernel_rfl
      · kernel_rfl
      · kernel_rfl
      · rfl
      · kernel_rfl
      · kernel_rfl
      · kernel_rfl
      · rfl
      · kernel_rfl
end K10
set_option Elab.async false
set_option linter.all false
set_option maxRecDepth 100000
set_option maxHeartbeats 0
/-! The plain law of k10: things, the parts of a cell. -/
namespace K10
open PySem PySem.Spec PyProof.Rows L2 Ws
theorem call_eq {den : List W → Option (W × List W)} {dr : Den (List Rv)} {ρ ρ1 ρ2 : Ws.Env} {rvs : List Rv} {ws ws' : List W} {r : W} (h1 : dr ρ = some (rvs, ρ1)) (h2 : (slotsOf (rvs ++ leafR [])).Nodup) (h3 : argW ρ1 (rvs ++ leafR []) = some ws) (h4 : den ws = some (r, ws'))
    (h5 : putBack (rvs ++ leafR []) ws' (clearAll (rvs ++ leafR []) ρ1) = ρ2) : dCall den dr [] ρ = some (.val r, ρ2) := by
  unfold dCall
  rw [h1]
  show (if (slotsOf (rvs ++ leafR [])).Nodup then (argW ρ1 (rvs ++ leafR [])).bind _ else none) = _
  rw [if_pos h2, h3]
  show (den ws).map _ = _
  rw [h4, ← h5]
  rfl
def things (t : Int) : List D := [.none, .int t, .str (Txt.mul "w" t), .lst [.int t, .lst []], .tup [.int t, .tup []], .dct [(.int t, .dct [])], .bool true, .int (-t), .int (10 ^ 20)]
theorem ix_slot1 {di : Den Rv} {p : W} {l : List D} {ρ2 : Ws.Env} {d : Int} {o : D} (h : di [some p, some (ow l)] = some (.val (.leaf (.int d)), ρ2)) (hi : itemsR ρ2 (.slot 1) = some (true, l)) (ha : atI l d = some o) : dIx (dVar 1) di [some p, some (ow l)] = some (.val (.leaf o), ρ2) := by
  unfold dIx
  show (di [some p, some (ow l)]).bind _ = _
  rw [h]
  show (match itemsR ρ2 (.slot 1) with
    | some q => (atI q.2 d).map fun d => (Rv.val (.leaf d), ρ2)
    | Option.none => _) = _
  rw [hi]
  show (atI l d).map _ = _
  rw [ha]
  rfl
theorem pick_ok (x y : Int) (hy : PotOk y) {a0 a1 a2 a3 a4 a5 a6 a7 a8 : D} : ∃ o x' y', f__law_pick [P x y, ow [a0, a1, a2, a3, a4, a5, a6, a7, a8]] = some (.leaf o, [P x' y', ow [a0, a1, a2, a3, a4, a5, a6, a7, a8]]) ∧ o ∈ [a0, a1, a2, a3, a4, a5, a6, a7, a8] ∧ PotOk y' := by
  obtain ⟨d, x', y', e, h0, h9, hy'⟩ := draw_ok x y 9 hy (by decide)
  have c : dCall f__law_draw (dRCons (dVar 0) (dRCons (dUn gLen (dVar 1)) dRNil)) [] [some (P x y), some (ow [a0, a1, a2, a3, a4, a5, a6, a7, a8])] = some (.val (.leaf (.int d)), [some (P x' y'), some (ow [a0, a1, a2, a3, a4, a5, a6, a7, a8])]) :=
    call_eq (rvs := [.slot 0, .val (.leaf (.int 9))]) (ρ1 := [some (P x y), some (ow [a0, a1, a2, a3, a4, a5, a6, a7, a8])]) (by kernel_rfl) (by decide) (by kernel_rfl) e (by kernel_rfl)
  have key : ∀ o, atI [a0, a1, a2, a3, a4, a5, a6, a7, a8] d = some o → f__law_pick [P x y, ow [a0, a1, a2, a3, a4, a5, a6, a7, a8]] = some (.leaf o, [P x' y', ow [a0, a1, a2, a3, a4, a5, a6, a7, a8]]) := fun o ho =>
    fn_ret (ρ' := [some (P x' y'), some (ow [a0, a1, a2, a3, a4, a5, a6, a7, a8])]) rfl (ret_val (ix_slot1 c (by kernel_rfl) ho)) (by kernel_rfl)
  have hd : d = 0 ∨ d = 1 ∨ d = 2 ∨ d = 3 ∨ d = 4 ∨ d = 5 ∨ d = 6 ∨ d = 7 ∨ d = 8 := by omega
  rcases hd with hd | hd | hd | hd | hd | hd | hd | hd | hd <;> subst hd
  · exact ⟨a0, x', y', key _ (by kernel_rfl), by simp, hy'⟩
  · exact ⟨a1, x', y', key _ (by kernel_rfl), by simp, hy'⟩
  · exact ⟨a2, x', y', key _ (by kernel_rfl), by simp, hy'⟩
  · exact ⟨a3, x', y', key _ (by kernel_rfl), by simp, hy'⟩
  · exact ⟨a4, x', y', key _ (by kernel_rfl), by simp, hy'⟩
  · exact ⟨a5, x', y', key _ (by kernel_rfl), by simp, hy'⟩
  · exact ⟨a6, x', y', key _ (by kernel_rfl), by simp, hy'⟩
  · exact ⟨a7, x', y', key _ (by kernel_rfl), by simp, hy'⟩
  · exact ⟨a8, x', y', key _ (by kernel_rfl), by simp, hy'⟩
theorem thing_of (x y t : Int) (hy : PotOk y) (hd : (dRCons (dVar 0) (dRCons (dLst (dCons (dC .none) (dCons (dVar 1) (dCons (dBin gSMul (dC (.str ("w" : Str))) (dVar 1)) (dCons (dLst (dCons (dVar 1) (dCons (dLst dNil) dNil))) (dCons (dTup (dCons (dVar 1) (dCons (dTup dNil) dNil))) (dCons (dDict1 (dVar 1) dDict0) (dCons (dC (.bool true)) (dCons (dUn gNeg (dVar 1)) (dCons (dBin gPow (dC (.int 10)) (dC (.int 20))) dNil)))))))))) dRNil)) [some (P x y), some (.leaf (.int t))] =
      some ([.slot 0, .val (ow (things t))], [some (P x y), some (.leaf (.int t))])) (hg : (things t).all (goodB 1000) = true) :
    ∃ o x' y', f__law_thing [P x y, .leaf (.int t)] = some (.leaf o, [P x' y', .leaf (.int t)]) ∧ goodD 8 1000 o ∧ PotOk y' := by
  obtain ⟨o, x', y', e, ho, hy'⟩ := pick_ok x y hy (a0 := .none) (a1 := .int t) (a2 := .str (Txt.mul "w" t)) (a3 := .lst [.int t, .lst []]) (a4 := .tup [.int t, .tup []]) (a5 := .dct [(.int t, .dct [])]) (a6 := .bool true) (a7 := .int (-t)) (a8 := .int (10 ^ 20))
  refine ⟨o, x', y', fn_ret (ρ' := [some (P x' y'), some (.leaf (.int t))]) rfl (ret_val (call_eq (rvs := [.slot 0, .val (ow (things t))]) hd (show ([0] : List Nat).Nodup by decide) (by kernel_rfl) e (by kernel_rfl))) (by kernel_rfl), ?_, hy'⟩
  exact good_of (List.all_eq_true.mp hg o ho)
theorem thing_ok (x y : Int) (hy : PotOk y) (t : Int) (ht : t = 3 ∨ t = 4 ∨ t = 5 ∨ t = 6 ∨ t = 7 ∨ t = 8 ∨ t = 9) : ∃ o x' y', f__law_thing [P x y, .leaf (.int t)] = some (.leaf o, [P x' y', .leaf (.int t)]) ∧ goodD 8 1000 o ∧ PotOk y' := by
  rcases ht with h | h | h | h | h | h | h <;> subst h
  · exact thing_of x y 3 hy (by kernel_rfl) (by decide +kernel)
  · exact thing_of x y 4 hy (by kernel_rfl) (by decide +kernel)
  · exact thing_of x y 5 hy (by kernel_rfl) (by decide +kernel)
  · exact thing_of x y 6 hy (by kernel_rfl) (by decide +kernel)
  · exact thing_of x y 7 hy (by kernel_rfl) (by decide +kernel)
  · exact thing_of x y 8 hy (by kernel_rfl) (by decide +kernel)
  · exact thing_of x y 9 hy (by kernel_rfl) (by decide +kernel)
end K10
set_option Elab.async false
set_option linter.all false
set_option maxRecDepth 100000
set_option maxHeartbeats 0
/-! The plain law of k10: what is raised and caught; the whole. -/
namespace K10
open PySem PySem.Spec PyProof.Rows L2 Ws
theorem for_next {g : DenG} {body : Den Out} {d : D} {ds : List D} {ρ ρ1 ρ2 : Ws.Env} (hg : g d ρ = some ρ1) (hb : body ρ1 = some (.next, ρ2)) : forLoop g body (d :: ds) ρ = forLoop g body ds ρ2 := by
  show (g d ρ).bind _ = _
  rw [hg]
  show (body ρ1).bind _ = _
  rw [hb]
  rfl
theorem for_start {di : Den (List D)} {g : DenG} {body : Den Out} {ρ ρ1 ρ2 : Ws.Env} {l : List D} (h : di ρ = some (l, ρ1)) (hl : forLoop g body l ρ1 = some (.next, ρ2)) : dFor di g body ρ = some (.next, ρ2) := by
  unfold dFor
  rw [h]
  exact hl
theorem eq_repr {A B : Den Rv} {ρ ρ1 ρ2 : Ws.Env} {a b : Rv} {v : D} (hA : A ρ = some (a, ρ1)) (ha : viewR ρ1 a = some v) (hB : B ρ1 = some (b, ρ2)) (hb : viewR ρ2 b = some v) (hr : ∃ s, gRepr v = some (.str s)) : dBin (gEqv false) (dUn gRepr A) (dUn gRepr B) ρ = some (.val (.leaf (.bool true)), ρ2) := by
  obtain ⟨s, hs⟩ := hr
  have e : decide (s = s) = true := decide_eq_true rfl
  have g1 : gEqv false (.str s) (.str s) = some (.bool true) := by
    show some (D.bool (decide (s = s))) = _
    rw [e]
  have a1 : dUn gRepr A ρ = some (.val (.leaf (.str s)), ρ1) := by
    unfold dUn
    rw [hA]
    show (viewR ρ1 a).bind _ = _
    rw [ha]
    show (gRepr v).bind _ = _
    rw [hs]
    rfl
  have b1 : dUn gRepr B ρ1 = some (.val (.leaf (.str s)), ρ2) := by
    unfold dUn
    rw [hB]
    show (viewR ρ2 b).bind _ = _
    rw [hb]
    show (gRepr v).bind _ = _
    rw [hs]
    rfl
  unfold dBin
  simp only [a1, b1, Option.bind_some, viewR, W.toD, g1, sv]
def gr (k : Nat) : List D := [.bool (Nat.beq k 0), .bool (Nat.beq k 1), .bool (Nat.beq k 2), .bool (Nat.beq k 3), .bool (Nat.beq k 0), .bool (Nat.beq k 1), .bool (Nat.beq k 2), .bool (Nat.beq k 3)]
theorem all_good {l : List D} (h : l.all (goodB 1000) = true) : ∀ x ∈ l, good 1000 x := fun x hx => up (good_of (List.all_eq_true.mp h x hx))
def due (i : Nat) (o : D) : List D := match i with
  | 0 => .str "value" :: gr 0
  | 1 => .str "value" :: gr 0
  | 2 => .str "value" :: gr 0
  | 3 => .str "lacks" :: gr 1
  | 4 => .str "state" :: gr 2
  | 5 => .str "state" :: gr 2
  | _ => .str "limit" :: o :: .int 6 :: gr 3
def dues6 (o : D) : List D := [.lst (due 0 o), .lst (due 1 o), .lst (due 2 o), .lst (due 3 o), .lst (due 4 o), .lst (due 5 o)]
def dues (o : D) : List D := [.lst (due 0 o), .lst (due 1 o), .lst (due 2 o), .lst (due 3 o), .lst (due 4 o), .lst (due 5 o), .lst (due 6 o)]
theorem due_good {o : D} (ho : goodD 8 1000 o) : ∀ i, i < 7 → ∀ x ∈ due i o, good 1000 x := fun i hi => by
  match i, hi with
  | 0, _ => exact all_good (l := .str "value" :: gr 0) (by decide +kernel)
  | 1, _ => exact all_good (l := .str "value" :: gr 0) (by decide +kernel)
  | 2, _ => exact all_good (l := .str "value" :: gr 0) (by decide +kernel)
  | 3, _ => exact all_good (l := .str "lacks" :: gr 1) (by decide +kernel)
  | 4, _ => exact all_good (l := .str "state" :: gr 2) (by decide +kernel)
  | 5, _ => exact all_good (l := .str "state" :: gr 2) (by decide +kernel)
  | 6, _ =>
    intro x hx
    rcases List.mem_cons.mp hx with e | hx
    · rw [e]; exact all_good (l := [.str "limit"]) (by decide +kernel) _ List.mem_cons_self
    · rcases List.mem_cons.mp hx with e | hx
      · rw [e]; exact up ho
      · exact all_good (l := .int 6 :: gr 3) (by decide +kernel) _ hx
def eR (o : D) (d : Option W) (i : Option W) (u : Option W) (t : Option W) : Ws.Env := [some (.leaf o), d, i, u, t, none]
theorem raised_ok {o : D} (ho : goodD 8 1000 o) : ∃ ws', f__law_raised_right [.leaf o] = some (.leaf (.bool true), ws') := by
  refine ⟨[.leaf o], fn_ret (ρ' := eR o (some (sh (dues o))) (some (.leaf (.int 6))) (some (.leaf (.lst (due 6 o)))) (some (ow [o, .int 5]))) rfl ?_ rfl⟩
  refine (seq_next (ρ' := eR o (some (ow (dues6 o))) none none none) ?_).trans ?_
  · kernel_rfl
  refine (seq_next (ρ' := eR o (some (ow (dues o))) none none none) ?_).trans ?_
  · kernel_rfl
  refine (seq_next (ρ' := eR o (some (sh (dues o))) (some (.leaf (.int 6))) (some (.leaf (.lst (due 6 o)))) none) (for_start (ρ1 := eR o (some (sh (dues o))) none none none) (l := enumD (dues o)) ?_ ?_)).trans ?_
  · kernel_rfl
  · refine (for_next (ρ1 := eR o (some (sh (dues o))) (some (.leaf (.int 0))) (some (.leaf (.lst (due 0 o)))) none) (ρ2 := eR o (some (sh (dues o))) (some (.leaf (.int 0))) (some (.leaf (.lst (due 0 o)))) none) ?_ (if_skip (ne_repr (a := ownL (due 0 o)) (b := .val (.leaf (.lst (due 0 o)))) (ρ1 := eR o (some (sh (dues o))) (some (.leaf (.int 0))) (some (.leaf (.lst (due 0 o)))) none) (v := .lst (due 0 o)) ?_ ?_ ?_ ?_ (repr_good (n := 1000) (due_good ho 0 (by decide)) (by simp [due, gr]))))).trans ?_
    · kernel_rfl
    · kernel_rfl
    · kernel_rfl
    · kernel_rfl
    · kernel_rfl
    refine (for_next (ρ1 := eR o (some (sh (dues o))) (some (.leaf (.int 1))) (some (.leaf (.lst (due 1 o)))) none) (ρ2 := eR o (some (sh (dues o))) (some (.leaf (.int 1))) (some (.leaf (.lst (due 1 o)))) none) ?_ (if_skip (ne_repr (a := ownL (due 1 o)) (b := .val (.leaf (.lst (due 1 o)))) (ρ1 := eR o (some (sh (dues o))) (some (.leaf (.int 1))) (some (.leaf (.lst (due 1 o)))) none) (v := .lst (due 1 o)) ?_ ?_ ?_ ?_ (repr_good (n := 1000) (due_good ho 1 (by decide)) (by simp [due, gr]))))).trans ?_
    · kernel_rfl
    · kernel_rfl
    · kernel_rfl
    · kernel_rfl
    · kernel_rfl
    refine (for_next (ρ1 := eR o (some (sh (dues o))) (some (.leaf (.int 2))) (some (.leaf (.lst (due 2 o)))) none) (ρ2 := eR o (some (sh (dues o))) (some (.leaf (.int 2))) (some (.leaf (.lst (due 2 o)))) none) ?_ (if_skip (ne_repr (a := ownL (due 2 o)) (b := .val (.leaf (.lst (due 2 o)))) (ρ1 := eR o (some (sh (dues o))) (some (.leaf (.int 2))) (some (.leaf (.lst (due 2 o)))) none) (v := .lst (due 2 o)) ?_ ?_ ?_ ?_ (repr_good (n := 1000) (due_good ho 2 (by decide)) (by simp [due, gr]))))).trans ?_
    · kernel_rfl
    · kernel_rfl
    · kernel_rfl
    · kernel_rfl
    · kernel_rfl
    refine (for_next (ρ1 := eR o (some (sh (dues o))) (some (.leaf (.int 3))) (some (.leaf (.lst (due 3 o)))) none) (ρ2 := eR o (some (sh (dues o))) (some (.leaf (.int 3))) (some (.leaf (.lst (due 3 o)))) none) ?_ (if_skip (ne_repr (a := ownL (due 3 o)) (b := .val (.leaf (.lst (due 3 o)))) (ρ1 := eR o (some (sh (dues o))) (some (.leaf (.int 3))) (some (.leaf (.lst (due 3 o)))) none) (v := .lst (due 3 o)) ?_ ?_ ?_ ?_ (repr_good (n := 1000) (due_good ho 3 (by decide)) (by simp [due, gr]))))).trans ?_
    · kernel_rfl
    · kernel_rfl
    · kernel_rfl
    · kernel_rfl
    · kernel_rfl
    refine (for_next (ρ1 := eR o (some (sh (dues o))) (some (.leaf (.int 4))) (some (.leaf (.lst (due 4 o)))) none) (ρ2 := eR o (some (sh (dues o))) (some (.leaf (.int 4))) (some (.leaf (.lst (due 4 o)))) none) ?_ (if_skip (ne_repr (a := ownL (due 4 o)) (b := .val (.leaf (.lst (due 4 o)))) (ρ1 := eR o (some (sh (dues o))) (some (.leaf (.int 4))) (some (.leaf (.lst (due 4 o)))) none) (v := .lst (due 4 o)) ?_ ?_ ?_ ?_ (repr_good (n := 1000) (due_good ho 4 (by decide)) (by simp [due, gr]))))).trans ?_
    · kernel_rfl
    · kernel_rfl
    · kernel_rfl
    · kernel_rfl
    · kernel_rfl
    refine (for_next (ρ1 := eR o (some (sh (dues o))) (some (.leaf (.int 5))) (some (.leaf (.lst (due 5 o)))) none) (ρ2 := eR o (some (sh (dues o))) (some (.leaf (.int 5))) (some (.leaf (.lst (due 5 o)))) none) ?_ (if_skip (ne_repr (a := ownL (due 5 o)) (b := .val (.leaf (.lst (due 5 o)))) (ρ1 := eR o (some (sh (dues o))) (some (.leaf (.int 5))) (some (.leaf (.lst (due 5 o)))) none) (v := .lst (due 5 o)) ?_ ?_ ?_ ?_ (repr_good (n := 1000) (due_good ho 5 (by decide)) (by simp [due, gr]))))).trans ?_
    · kernel_rfl
    · kernel_rfl
    · kernel_rfl
    · kernel_rfl
    · kernel_rfl
    refine (for_next (ρ1 := eR o (some (sh (dues o))) (some (.leaf (.int 6))) (some (.leaf (.lst (due 6 o)))) none) (ρ2 := eR o (some (sh (dues o))) (some (.leaf (.int 6))) (some (.leaf (.lst (due 6 o)))) none) ?_ (if_skip (ne_repr (a := ownL (due 6 o)) (b := .val (.leaf (.lst (due 6 o)))) (ρ1 := eR o (some (sh (dues o))) (some (.leaf (.int 6))) (some (.leaf (.lst (due 6 o)))) none) (v := .lst (due 6 o)) ?_ ?_ ?_ ?_ (repr_good (n := 1000) (due_good ho 6 (by decide)) (by simp [due, gr]))))).trans ?_
    · kernel_rfl
    · kernel_rfl
    · kernel_rfl
    · kernel_rfl
    · kernel_rfl
    kernel_rfl
  refine (seq_next (ρ' := eR o (some (sh (dues o))) (some (.leaf (.int 6))) (some (.leaf (.lst (due 6 o)))) (some (ow []))) ?_).trans ?_
  · kernel_rfl
  refine (seq_next (ρ' := eR o (some (sh (dues o))) (some (.leaf (.int 6))) (some (.leaf (.lst (due 6 o)))) (some (ow [o, .int 5]))) ?_).trans ?_
  · kernel_rfl
  refine ret_val (eq_repr (a := .slot 4) (b := ownL [o, .int 5]) (ρ1 := eR o (some (sh (dues o))) (some (.leaf (.int 6))) (some (.leaf (.lst (due 6 o)))) (some (ow [o, .int 5]))) (v := .lst [o, .int 5]) ?_ ?_ ?_ ?_ (repr_good (n := 1000) (fun x hx => ?_) (by simp)))
  · kernel_rfl
  · kernel_rfl
  · kernel_rfl
  · kernel_rfl
  · rcases List.mem_cons.mp hx with e | hx
    · rw [e]; exact up ho
    · exact all_good (l := [.int 5]) (by decide +kernel) _ hx
def isT (r : Option (W × List W)) : Bool := match r with
  | some (.leaf (.bool true), _) => true
  | _ => false
theorem isT_of {r : Option (W × List W)} (h : isT r = true) : ∃ ws', r = some (.leaf (.bool true), ws') := by
  unfold isT at h
  split at h
  · exact ⟨_, rfl⟩
  · cases h
theorem apart_ok : ∃ ws', f__law_apart_right [] = some (.leaf (.bool true), ws') := isT_of (by decide +kernel)
theorem par_val {i j : Nat} {a b : Den Rv} {ρ ρ1 ρ2 ρ3 : Ws.Env} {u v : W} (h1 : a ρ = some (.val u, ρ1)) (h2 : b ρ1 = some (.val v, ρ2)) (hl : i < ρ2.length ∧ j < ρ2.length ∧ i ≠ j) (h3 : (ρ2.set i (some u)).set j (some v) = ρ3) : dPar i j (dRCons a (dRCons b dRNil)) ρ = some (.next, ρ3) := by
  unfold dPar dRCons
  rw [h1]
  show Option.bind (Option.map _ ((b ρ1).bind _)) _ = _
  rw [h2]
  show (if i < ρ2.length ∧ j < ρ2.length ∧ i ≠ j then some (Out.next, (ρ2.set i (some u)).set j (some v)) else none) = _
  rw [if_pos hl, h3]
theorem thing_call {x y x' y' t : Int} {o : D} (r : Ws.Env) (e : f__law_thing [P x y, .leaf (.int t)] = some (.leaf o, [P x' y', .leaf (.int t)])) : dCall f__law_thing (dRCons (dVar 0) (dRCons (dC (.int t)) dRNil)) [] (some (P x y) :: r) = some (.val (.leaf o), some (P x' y') :: r) :=
  call_eq (rvs := [.slot 0, .val (.leaf (.int t))]) (ρ1 := some (P x y) :: r) (by kernel_rfl) (show ([0] : List Nat).Nodup by decide) (by kernel_rfl) e (by kernel_rfl)
theorem values_ok (x y : Int) (hy : PotOk y) : ∃ x' y', f__law_values_right [P x y] = some (.leaf (.bool true), [P x' y']) ∧ PotOk y' := by
  obtain ⟨o, x1, y1, e1, ho, hy1⟩ := thing_ok x y hy 3 (by decide)
  obtain ⟨f, x2, y2, e2, hf, hy2⟩ := thing_ok x1 y1 hy1 4 (by decide)
  refine ⟨x2, y2, fn_ret (ρ' := eV8 x2 y2 o f) rfl ?_ rfl, hy2⟩
  refine (seq_next (ρ' := eV0 x2 y2 o f) (par_val (thing_call _ e1) (thing_call _ e2) ?_ ?_)).trans (values_rest x2 y2 ho hf)
  · exact (by decide : 1 < 9 ∧ 2 < 9 ∧ 1 ≠ 2)
  · rfl
theorem states_ok (x y : Int) (hy : PotOk y) : ∃ x' y', f__law_states_right [P x y] = some (.leaf (.bool true), [P x' y']) ∧ PotOk y' := by
  obtain ⟨o, x1, y1, e1, ho, hy1⟩ := thing_ok x y hy 5 (by decide)
  obtain ⟨f, x2, y2, e2, hf, hy2⟩ := thing_ok x1 y1 hy1 6 (by decide)
  refine ⟨x2, y2, fn_ret (ρ' := eS7 x2 y2 o f) rfl ?_ rfl, hy2⟩
  refine (seq_next (ρ' := eS0 x2 y2 o f) (par_val (thing_call _ e1) (thing_call _ e2) ?_ ?_)).trans (states_rest x2 y2 ho hf)
  · exact (by decide : 1 < 8 ∧ 2 < 8 ∧ 1 ≠ 2)
  · rfl
theorem limits_ok (x y : Int) (hy : PotOk y) : ∃ x' y', f__law_limits_right [P x y] = some (.leaf (.bool true), [P x' y']) ∧ PotOk y' := by
  obtain ⟨o, x1, y1, e1, ho, hy1⟩ := thing_ok x y hy 7 (by decide)
  obtain ⟨f, x2, y2, e2, hf, hy2⟩ := thing_ok x1 y1 hy1 8 (by decide)
  refine ⟨x2, y2, fn_ret (ρ' := eL2 x2 y2 o f) rfl ?_ rfl, hy2⟩
  refine (seq_next (ρ' := eL0 x2 y2 o f) (par_val (thing_call _ e1) (thing_call _ e2) ?_ ?_)).trans (limits_rest x2 y2 ho hf)
  · exact (by decide : 1 < 5 ∧ 2 < 5 ∧ 1 ≠ 2)
  · rfl
theorem not_call {f : List W → Option (W × List W)} {x y x' y' : Int} (e : f [P x y] = some (.leaf (.bool true), [P x' y'])) : dNot (dTest (dCall f (dRCons (dVar 0) dRNil) [])) [some (P x y)] = some (false, [some (P x' y')]) := by
  have c : dCall f (dRCons (dVar 0) dRNil) [] [some (P x y)] = some (.val (.leaf (.bool true)), [some (P x' y')]) := call_eq (rvs := [.slot 0]) (ρ1 := [some (P x y)]) (by kernel_rfl) (by decide) (by kernel_rfl) e (by kernel_rfl)
  unfold dNot
  rw [test_val c]
  rfl
theorem dr_one {d : Den Rv} {ρ ρ1 : Ws.Env} {r : Rv} (h : d ρ = some (r, ρ1)) : dRCons d dRNil ρ = some ([r], ρ1) := by
  unfold dRCons
  rw [h]
  rfl
theorem andV_true {a b : Den Rv} {ρ ρ1 : Ws.Env} (h : dTest a ρ = some (true, ρ1)) : dAndV a b ρ = b ρ1 := by
  unfold dAndV
  rw [h]
  rfl
theorem put_vals {rvs : List Rv} {ws' : List W} {ρ : Ws.Env} (h : slotsOf (rvs ++ leafR []) = []) : putBack (rvs ++ leafR []) ws' (clearAll (rvs ++ leafR []) ρ) = ρ := by
  have clr : ∀ (l : List Rv) (ρ : Ws.Env), slotsOf l = [] → clearAll l ρ = ρ := by
    intro l
    induction l with
    | nil => intro ρ _; rfl
    | cons r l ih =>
      intro ρ h
      cases r with
      | val x => exact ih ρ h
      | slot i => cases h
  have put : ∀ (l : List Rv) (ws : List W) (ρ : Ws.Env), slotsOf l = [] → putBack l ws ρ = ρ := by
    intro l
    induction l with
    | nil => intro ws ρ _; cases ws <;> rfl
    | cons r l ih =>
      intro ws ρ h
      cases r with
      | val x =>
        cases ws with
        | nil => rfl
        | cons w ws => exact ih ws ρ h
      | slot i => cases h
  rw [clr _ _ h, put _ _ _ h]
theorem right_ok (x y : Int) (hy : PotOk y) : ∃ x' y', f__law_right [P x y] = some (.leaf (.bool true), [P x' y']) := by
  obtain ⟨x1, y1, e1, hy1⟩ := values_ok x y hy
  obtain ⟨x2, y2, e2, hy2⟩ := states_ok x1 y1 hy1
  obtain ⟨x3, y3, e3, hy3⟩ := limits_ok x2 y2 hy2
  obtain ⟨o, x4, y4, e4, ho, hy4⟩ := thing_ok x3 y3 hy3 9 (by decide)
  obtain ⟨w5, e5⟩ := raised_ok ho
  obtain ⟨w6, e6⟩ := apart_ok
  refine ⟨x4, y4, fn_ret (ρ' := [some (P x4 y4)]) rfl ?_ rfl⟩
  refine (seq_next (ρ' := [some (P x3 y3)]) (if_skip (or_ff (not_call e1) (or_ff (not_call e2) (not_call e3))))).trans ?_
  refine ret_val ?_
  have c4 := thing_call [] e4
  have c5 : dCall f__law_raised_right (dRCons (dCall f__law_thing (dRCons (dVar 0) (dRCons (dC (.int 9)) dRNil)) []) dRNil) [] [some (P x3 y3)] = some (.val (.leaf (.bool true)), [some (P x4 y4)]) := by
    refine call_eq (rvs := [.val (.leaf o)]) (ρ1 := [some (P x4 y4)]) ?_ (show ([] : List Nat).Nodup by decide) (by kernel_rfl) e5 ?_
    · exact dr_one c4
    · exact put_vals rfl
  have c6 : dCall f__law_apart_right dRNil [] [some (P x4 y4)] = some (.val (.leaf (.bool true)), [some (P x4 y4)]) := call_eq (rvs := []) (ρ1 := [some (P x4 y4)]) (by kernel_rfl) (by decide) (by kernel_rfl) e6 (put_vals rfl)
  exact (andV_true (test_val c5)).trans c6
end K10
set_option Elab.async false
set_option linter.all false
set_option maxRecDepth 100000
set_option maxHeartbeats 0
/-! The plain law of k10: the cells. -/
namespace K10
open PySem PySem.Spec PyProof.Rows L2 Ws
theorem if_t {t : Den Bool} {a b : Den Rv} {ρ ρ1 : Ws.Env} (h : t ρ = some (true, ρ1)) : dIf t a b ρ = a ρ1 := by
  unfold dIf
  rw [h]
  rfl
theorem if_f {t : Den Bool} {a b : Den Rv} {ρ ρ1 : Ws.Env} (h : t ρ = some (false, ρ1)) : dIf t a b ρ = b ρ1 := by
  unfold dIf
  rw [h]
  rfl
theorem set_val {i : Nat} {d : Den Rv} {ρ ρ1 ρ2 : Ws.Env} {v : W} (h : d ρ = some (.val v, ρ1)) (hl : i < ρ1.length) (e : ρ1.set i (some v) = ρ2) : dSet i d ρ = some (.next, ρ2) := by
  unfold dSet
  rw [h]
  show (if i < ρ1.length then some (ρ1.set i (some v)) else none).map _ = _
  rw [if_pos hl, e]
  rfl
theorem sh_val {d : Den Rv} {ρ ρ1 : Ws.Env} {v : D} (h : d ρ = some (.val (.leaf v), ρ1)) : dSh d ρ = some (v, ρ1) := by
  unfold dSh
  rw [h]
  rfl
theorem cons_val {d : Den Rv} {r : Den (List D)} {ρ ρ1 ρ2 : Ws.Env} {v : D} {l : List D} (h : d ρ = some (.val (.leaf v), ρ1)) (hr : r ρ1 = some (l, ρ2)) : dCons d r ρ = some (v :: l, ρ2) := by
  unfold dCons
  rw [sh_val h]
  show (r ρ1).map _ = _
  rw [hr]
  rfl
theorem lst_val {d : Den (List D)} {ρ ρ1 : Ws.Env} {l : List D} (h : d ρ = some (l, ρ1)) (hl : l.length ≤ sizeLine) : dLst d ρ = some (ownL l, ρ1) := by
  unfold dLst
  rw [h]
  show (if l.length ≤ sizeLine then some (ownL l, ρ1) else none) = _
  rw [if_pos hl]
def potX (c : Int) : Int := if c - 10 ^ 18 > 0 then c - 10 ^ 18 else 0
def potY (c k : Int) : Int := (c % 2147483549 * 47019 + 5597 * k + 31) % 2147483579 + 1
theorem potY_ok (c k : Int) : PotOk (potY c k) := by
  have h1 := Int.emod_nonneg (c % 2147483549 * 47019 + 5597 * k + 31) (b := 2147483579) (by decide)
  have h2 := Int.emod_lt_of_pos (c % 2147483549 * 47019 + 5597 * k + 31) (b := 2147483579) (by decide)
  unfold PotOk potY
  omega
theorem pot_ok (ns : List Int) (k : Int) (hk : 0 ≤ k ∧ k ≤ 2) : ∃ x y, f__law_pot [.leaf (.scr ns), .leaf (.int k)] = some (P x y, [.leaf (.scr ns), .leaf (.int k)]) ∧ PotOk y := by
  have cell : ∃ c : Int, dIf (dTest (dBin gLt (dVar 1) (dUn gLen (dVar 0)))) (dUn gAbs (dIx (dVar 0) (dVar 1))) (dAdd (dMul (dC (.int 47)) (dVar 1)) (dC (.int 31))) [some (.leaf (.scr ns)), some (.leaf (.int k)), none] = some (.val (.leaf (.int c)), [some (.leaf (.scr ns)), some (.leaf (.int k)), none]) := by
    have t : dTest (dBin gLt (dVar 1) (dUn gLen (dVar 0))) [some (.leaf (.scr ns)), some (.leaf (.int k)), none] = some (decide (k < (ns.length : Int)), [some (.leaf (.scr ns)), some (.leaf (.int k)), none]) := by kernel_rfl
    by_cases h : k < (ns.length : Int)
    · rw [decide_eq_true h] at t
      have hi : k.toNat < ns.length := by omega
      refine ⟨if ns[k.toNat] < 0 then -ns[k.toNat] else ns[k.toNat], (if_t t).trans (un_int (d := .int ns[k.toNat]) ?_ rfl rfl)⟩
      show (atI ns k).map (fun n => (Rv.val (W.leaf (.int n)), ([some (.leaf (.scr ns)), some (.leaf (.int k)), none] : Ws.Env))) = _
      have e : atI ns k = some ns[k.toNat] := by
        unfold atI
        have e2 : ixN ns.length k = some k.toNat := by
          unfold ixN
          rw [if_pos hk.1, if_pos h]
        rw [e2]
        exact List.getElem?_eq_getElem hi
      rw [e]
      rfl
    · rw [decide_eq_false h] at t
      refine ⟨47 * k + 31, (if_f t).trans (add_int (i := 47 * k) (j := 31) (ρ1 := [some (.leaf (.scr ns)), some (.leaf (.int k)), none]) (mul_int (i := 47) (j := k) (ρ1 := [some (.leaf (.scr ns)), some (.leaf (.int k)), none]) ?_ ?_ (.inl ⟨by decide, by decide⟩)) ?_)⟩
      · kernel_rfl
      · kernel_rfl
      · kernel_rfl
  obtain ⟨c, hc⟩ := cell
  refine ⟨potX c, potY c k, fn_ret (ρ' := [some (.leaf (.scr ns)), some (.leaf (.int k)), some (.leaf (.int c))]) rfl ?_ rfl, potY_ok c k⟩
  refine (seq_next (ρ' := [some (.leaf (.scr ns)), some (.leaf (.int k)), some (.leaf (.int c))]) (set_val hc (show 2 < 3 by decide) rfl)).trans ?_
  refine ret_val (lst_val (l := [.int (potX c), .int (potY c k)]) (cons_val (ρ1 := [some (.leaf (.scr ns)), some (.leaf (.int k)), some (.leaf (.int c))]) (bin_int (i := 0) (j := c - 10 ^ 18) (ρ1 := [some (.leaf (.scr ns)), some (.leaf (.int k)), some (.leaf (.int c))]) ?_ (bin_int (i := c) (j := 10 ^ 18) (ρ1 := [some (.leaf (.scr ns)), some (.leaf (.int k)), some (.leaf (.int c))]) ?_ ?_ rfl rfl) rfl rfl)
    (cons_val (ρ1 := [some (.leaf (.scr ns)), some (.leaf (.int k)), some (.leaf (.int c))]) (add_int (i := (c % 2147483549 * 47019 + 5597 * k + 31) % 2147483579) (j := 1) (ρ1 := [some (.leaf (.scr ns)), some (.leaf (.int k)), some (.leaf (.int c))])
      (bin_int (i := c % 2147483549 * 47019 + 5597 * k + 31) (j := 2147483579) (ρ1 := [some (.leaf (.scr ns)), some (.leaf (.int k)), some (.leaf (.int c))]) (un_int (d := .int (c % 2147483549 * 47019 + 5597 * k + 31)) (add_int (i := c % 2147483549 * 47019 + 5597 * k) (j := 31) (ρ1 := [some (.leaf (.scr ns)), some (.leaf (.int k)), some (.leaf (.int c))])
        (add_int (i := c % 2147483549 * 47019) (j := 5597 * k) (ρ1 := [some (.leaf (.scr ns)), some (.leaf (.int k)), some (.leaf (.int c))]) (mul_int (i := c % 2147483549) (j := 47019) (ρ1 := [some (.leaf (.scr ns)), some (.leaf (.int k)), some (.leaf (.int c))]) (bin_int (i := c) (j := 2147483549) (ρ1 := [some (.leaf (.scr ns)), some (.leaf (.int k)), some (.leaf (.int c))]) (un_int (d := .int c) ?_ rfl rfl) ?_ (mod_some (by decide)) rfl) ?_ (.inr ⟨by decide, by decide⟩))
          (mul_int (i := 5597) (j := k) (ρ1 := [some (.leaf (.scr ns)), some (.leaf (.int k)), some (.leaf (.int c))]) ?_ ?_ (.inl ⟨by decide, by decide⟩))) ?_) rfl rfl) ?_ (mod_some (by decide)) rfl) ?_) ?_)) ?_)
  all_goals first | kernel_rfl | (show 2 ≤ sizeLine; decide)
end K10
set_option Elab.async false
set_option linter.all false
set_option maxRecDepth 100000
set_option maxHeartbeats 0
/-! The plain law of k10: the law. -/
namespace K10
open PySem PySem.Spec PyProof.Rows L2 Ws
abbrev te : Den D := dSh (dCall f__law_right (dRCons (dCall f__law_pot (dRCons (dVar 0) (dRCons (dVar 1) dRNil)) []) dRNil) [])
theorem te_ok (ns : List Int) (k : Int) (hk : 0 ≤ k ∧ k ≤ 2) : te [some (.leaf (.scr ns)), some (.leaf (.int k))] = some (.bool true, [some (.leaf (.scr ns)), some (.leaf (.int k))]) := by
  obtain ⟨x, y, e1, hy⟩ := pot_ok ns k hk
  obtain ⟨x', y', e2⟩ := right_ok x y hy
  have c1 : dCall f__law_pot (dRCons (dVar 0) (dRCons (dVar 1) dRNil)) [] [some (.leaf (.scr ns)), some (.leaf (.int k))] = some (.val (P x y), [some (.leaf (.scr ns)), some (.leaf (.int k))]) :=
    call_eq (rvs := [.val (.leaf (.scr ns)), .val (.leaf (.int k))]) (ρ1 := [some (.leaf (.scr ns)), some (.leaf (.int k))]) (by kernel_rfl) (show ([] : List Nat).Nodup by decide) (by kernel_rfl) e1 (put_vals rfl)
  have c2 : dCall f__law_right (dRCons (dCall f__law_pot (dRCons (dVar 0) (dRCons (dVar 1) dRNil)) []) dRNil) [] [some (.leaf (.scr ns)), some (.leaf (.int k))] = some (.val (.leaf (.bool true)), [some (.leaf (.scr ns)), some (.leaf (.int k))]) :=
    call_eq (rvs := [.val (P x y)]) (ρ1 := [some (.leaf (.scr ns)), some (.leaf (.int k))]) (dr_one c1) (show ([] : List Nat).Nodup by decide) (by kernel_rfl) e2 (put_vals rfl)
  exact sh_val c2
theorem lc_step {g : DenG} {t : Den D} {vs : List Nat} {d v : D} {ds acc : List D} {ρ ρ1 ρ2 ρ3 : Ws.Env} (hg : g d ρ = some ρ1) (ht : t ρ1 = some (v, ρ2)) (hl : acc.length < sizeLine) (hw : wipeE ρ2 vs = ρ3) : lcLoop g dYes t vs (d :: ds) acc ρ = lcLoop g dYes t vs ds (acc ++ [v]) ρ3 := by
  show (g d ρ).bind _ = _
  rw [hg]
  show Option.bind (t ρ1) _ = _
  rw [ht]
  show (if acc.length < sizeLine then lcLoop g dYes t vs ds (acc ++ [v]) (wipeE ρ2 vs) else none) = _
  rw [if_pos hl, hw]
theorem one (ns : List Int) (k : Int) (hk : 0 ≤ k ∧ k ≤ 2) (ds acc : List D) (hl : acc.length < sizeLine) : lcLoop (gNm 1) dYes te [1] (.int k :: ds) acc [some (.leaf (.scr ns)), none] = lcLoop (gNm 1) dYes te [1] ds (acc ++ [.bool true]) [some (.leaf (.scr ns)), none] :=
  lc_step (ρ1 := [some (.leaf (.scr ns)), some (.leaf (.int k))]) (by kernel_rfl) (te_ok ns k hk) hl (by kernel_rfl)
def top3 (n : Nat) : Int := if (n : Int) < 3 then n else 3
def most1 (n : Nat) : Int := if top3 n > 1 then top3 n else 1
theorem lc_end {di : Den (List D)} {g : DenG} {t : Den D} {vs : List Nat} {ρ ρ1 ρ2 ρ3 : Ws.Env} {l r : List D} (h : di ρ = some (l, ρ1)) (hl : lcLoop g dYes t vs l [] (wipeE ρ1 vs) = some (r, ρ2)) (hr : restE ρ1 ρ2 vs = ρ3) : dLc di g dYes t vs ρ = some (ownL r, ρ3) := by
  unfold dLc
  rw [h]
  show (lcLoop g dYes t vs l [] (wipeE ρ1 vs)).map _ = _
  rw [hl, ← hr]
  rfl
theorem range_val {d : Den (List D)} {ρ ρ1 : Ws.Env} {j : Int} (h : d ρ = some ([.int j], ρ1)) (hs : small62 j = true) : dIRange1 d ρ = some (rangeD 0 j.toNat, ρ1) := by
  unfold dIRange1
  rw [h]
  show (if small62 j = true then some (rangeD 0 j.toNat, ρ1) else none) = _
  rw [if_pos hs]
theorem un_lst {g : D → Option D} {a : Den Rv} {ρ ρ1 : Ws.Env} {l : List D} {r : D} (ha : a ρ = some (ownL l, ρ1)) (hv : viewR ρ1 (ownL l) = some (.lst l)) (h : g (.lst l) = some r) (hs : (sv r).isSome = true) : dUn g a ρ = some (.val (.leaf r), ρ1) := by
  obtain ⟨v, e⟩ := Option.isSome_iff_exists.mp hs
  unfold dUn
  rw [ha]
  simp only [Option.bind_some, hv, h, e]
theorem law_ok (ns : List Int) : ∃ ws', f_law [.leaf (.scr ns)] = some (.leaf (.bool true), ws') := by
  have hn : ∀ n : Nat, most1 n = 1 ∨ most1 n = 2 ∨ most1 n = 3 := fun n => by
    unfold most1 top3
    split <;> split <;> omega
  have di : ∀ j, most1 ns.length = j → small62 j = true → dIRange1 (dCons (dBin gMax2 (dC (.int 1)) (dBin gMin2 (dC (.int 3)) (dUn gLen (dVar 0)))) dNil) [some (.leaf (.scr ns)), none] = some (rangeD 0 j.toNat, [some (.leaf (.scr ns)), none]) := fun j hj hs => by
    refine range_val (cons_val (ρ1 := [some (.leaf (.scr ns)), none]) (v := .int j) ?_ rfl) hs
    refine (bin_int (i := 1) (j := top3 ns.length) (ρ1 := [some (.leaf (.scr ns)), none]) (r := .int j) ?_ (bin_int (i := 3) (j := ns.length) (ρ1 := [some (.leaf (.scr ns)), none]) ?_ ?_ rfl rfl) ?_ rfl)
    · kernel_rfl
    · kernel_rfl
    · kernel_rfl
    · rw [← hj]
      rfl
  have fin : ∀ l : List D, ∀ r : List D, (∃ j, most1 ns.length = j ∧ small62 j = true ∧ rangeD 0 j.toNat = l) → lcLoop (gNm 1) dYes te [1] l [] [some (.leaf (.scr ns)), none] = some (r, [some (.leaf (.scr ns)), none]) → gAll (.lst r) = some (.bool true) → viewR [some (.leaf (.scr ns)), none] (ownL r) = some (.lst r) → ∃ ws', f_law [.leaf (.scr ns)] = some (.leaf (.bool true), ws') := fun l r ⟨j, h1, h2, h3⟩ hl hg hv => by
    refine ⟨[.leaf (.scr ns)], fn_ret (ρ' := [some (.leaf (.scr ns)), none]) rfl ?_ rfl⟩
    refine ret_val (un_lst (l := r) (lc_end (l := l) (ρ1 := [some (.leaf (.scr ns)), none]) (ρ2 := [some (.leaf (.scr ns)), none]) ?_ hl ?_) hv hg rfl)
    · rw [← h3]
      exact di j h1 h2
    · kernel_rfl
  rcases hn ns.length with h | h | h
  · refine fin [.int 0] [.bool true] ⟨1, h, by decide, rfl⟩ ?_ rfl rfl
    exact one ns 0 (by decide) [] [] (by decide)
  · refine fin [.int 0, .int 1] [.bool true, .bool true] ⟨2, h, by decide, rfl⟩ ?_ rfl rfl
    exact (one ns 0 (by decide) [.int 1] [] (by decide)).trans (one ns 1 (by decide) [] [.bool true] (show 1 < sizeLine by decide))
  · refine fin [.int 0, .int 1, .int 2] [.bool true, .bool true, .bool true] ⟨3, h, by decide, rfl⟩ ?_ rfl rfl
    exact (one ns 0 (by decide) [.int 1, .int 2] [] (by decide)).trans ((one ns 1 (by decide) [.int 2] [.bool true] (show 1 < sizeLine by decide)).trans (one ns 2 (by decide) [] [.bool true, .bool true] (show 2 < sizeLine by decide)))
end K10
set_option Elab.async false
set_option linter.all false
set_option maxRecDepth 100000
set_option maxHeartbeats 0
namespace K10
open PySem PySem.Spec PyProof.Rows L2 Ws
theorem facts {P : Program} {w : World} {K : PySem.W.Frag} {h : Heap} {mg : Str → Option Value} {f : Addr} (X : K.In h) (G : h.Ns mainGlobals mg) (hfa : mg ("law" : Str) = some (.ref f)) (c : He.SaysD fa fn K ∧ ex K = true) :
    ∃ fd : FuncData, (∀ (s : Shared) (v : Value), BindsTo s fd ⟨[v], []⟩ [("_law_script", v)]) ∧ ∀ base : Heap, K.In base → base.Ns mainGlobals mg → FnOkG true P w K mg base CX0 7 f fd ["_law_script"] (spW w K (clK K) f_law) := by
  have kn : Kn K mg := ⟨⟨h, X, G⟩, c.1, c.2⟩
  obtain ⟨fd, F⟩ := kn.s.def_ 19 (d := d_law) rfl
  have e := hfa.symm.trans kn.glo_law
  cases e
  have b := FunD.bindsA (ps := ["_law_script"]) F fun _ _ _ _ _ _ us hl => match us, hl with | [_], _ => rfl
  exact ⟨fd, fun s v => b s [v] rfl, fun base _ _ => okL kn F⟩
end K10
open PySem PySem.W PySem.Calls PyProof.Rows
theorem PySem.Challenge.cw_wornsteps_k10_errors_made_holds : PySem.Challenge.rw_wornsteps_k10_errors_made.Holds := by
  w_on; o_law
  refine HandSHeadRun.head_any (r := OpenLaw.row PySem.Challenge.rw_wornsteps_k10_errors_made) (q := view (OpenLaw.row PySem.Challenge.rw_wornsteps_k10_errors_made).prog [59]) (H := K10.hk) (ob := K10.ob) (M := 12000) (loose := K10.loose) (d := HandSHeadRun.topDef (OpenLaw.row PySem.Challenge.rw_wornsteps_k10_errors_made).prog 59) (kwd := []) K10.ob_eq
    (by kernel_rfl) (fun s => by kernel_rfl) K10.run (by kernel_rfl) (by kernel_rfl) (by kernel_rfl) (by rfl) (by first | assumption | decide +kernel) (by decide +kernel) ⟨rfl, rfl, rfl, rfl, rfl, by decide +kernel⟩ ?hw ?hc
  case hw => w_witness2
  case hc =>
    refine Ws.walk_ofG (l := PySem.Challenge.rw_wornsteps_k10_errors_made) (n := 63) (k := 7) (x := "_law_script") (CX := L2.CX0) rfl (by decide) (by kernel_rfl) ⟨fun _ => rfl, by decide, by decide, rfl⟩ ?F (fun _ _ _ _ z => z)
    intro w mg fa h Y G hmg0
    obtain ⟨K, KX, c⟩ := Y
    have hmg : mg ("law" : PySem.Str) = some (.ref fa) := by
      have e : (HandSHeadRun.topDef (OpenLaw.row PySem.Challenge.rw_wornsteps_k10_errors_made).prog 59).name = ("law" : PySem.Str) := by kernel_rfl
      rw [← e]
      exact hmg0
    obtain ⟨fd, hb, hF⟩ := K10.facts (P := (PySem.Challenge.rw_wornsteps_k10_errors_made).prog) (w := w) KX G hmg c
    refine ⟨K, fd, Ws.spW w K (K10.clK K) K10.f_law, KX, hb, fun H a ns hl hO hS => ?_, hF⟩
    obtain ⟨ws', e⟩ := K10.law_ok ns
    exact Ws.law_end hO hS e
