import PyProof.Rows.All
import Wide.All
import OpenK.AllK
import Wide.FinOn
import KE.KStateDown
import HandS.ForMost
import HandS.Exc
import HandS.ExcOwn
import HandS.TryOnly
import HandS.WordsExc
import HandS.CallSlots
import HandS.Wide
import HandS.WideBits
import HandS.IsInst
import HandS.Flow
import HandS.TupAny
import HandS.Style
import HandS.Deep
import HandS.Zip
import HandS.Comp
import HandS.Lambda
import KE.KNestM
import HandS.HeadHook1
import HandS.Defaults
import HandS.Head0
import HandS.Head1
import HandS.Head2
import HandS.HeadEnd
import HandS.HeadHook2
import PyProof.ReprRoads
import HandS.Dict
import PyProof.SliceList
import HandS.TupMul
import HandS.Zip0
import KE.KIsAll
import KE.KTryMore
import HandS.ExcIs
import HandS.ExcField
import KE.KExcIs
import HandS.EndTab
import HandS.Finally
import PyProof.DictUpdate
import PyProof.FactsAll.dict_3
import PyProof.FactsAll.dict_4
import KE.KDictZip
import HandS.ExcInit
import HandS.ClsMeth
import HandS.NoneIn
import HandS.HeadHook3
import HandS.More
import HandS.Strs
import HandS.Text
import HandS.Iter
import HandS.SortInts
import HandS.RevRange
import HandS.Conv
import PyProof.StrLawsRepr
import PyProof.Rows.Digits
import OpenK.KOwn
import KE.GoesMore
import KE.GoesEnum
import KE.KTurns
import HandS.MapObj
import HandS.RevTup
import PyProof.P3In
import KE.KEqDict
import KE.KxIndex
import PyProof.Rows.StrOr
import PyProof.ReprLen
import KE.KIntText
import HandS.Replace
import PyProof.ListStr
import PyProof.Rows.ChunkLeaf
import PySem.Challenge.RW_roundsure_k51_programs_by_turns
set_option Elab.async false
set_option linter.all false
set_option maxRecDepth 100000
set_option maxHeartbeats 4000000
set_option autoImplicit false
namespace Rk
open PySem PySem.Spec L2 PyProof.Rows
abbrev Da := PyData
/-- a def of the top as data; a tuple that is known to be a plain one -/
def fnD (x : Str) : Da := .dict [(.none, .str x)]
mutual
def cB (K : PySem.W.Frag) : Da → Value → Bool
  | .none, .none => true
  | .bool b, .bool c => b == c
  | .int i, .int j _ => decide (i = j)
  | .str x, .str y _ => decide (x = y)
  | .tuple ds, .ref a => match K.lookup a with
    | some ⟨.type c, _, .seq its _, _⟩ => decide (c = "tuple") && (decide (its.size ≤ sizeLine) && cBs K ds its.toList)
    | _ => false
  | _, _ => false
def cBs (K : PySem.W.Frag) : List Da → List Value → Bool
  | [], [] => true
  | d :: ds, u :: us => cB K d u && cBs K ds us
  | _, _ => false
end
def gB (K : PySem.W.Frag) (x : Str) (d : Da) : Bool := match PySem.W.nsIn K mainGlobals x with
  | some (some u) => cB K d u
  | _ => false
abbrev AlR : Type := He.AlD × Bool
/-- what the module's names reach in n steps, step by step, nothing struck out -/
def stepN (g : Addr → Option Obj) (as : List Addr) : List Addr := as.flatMap fun a => match g a with
  | some o => He.refsD o
  | none => []
def asN (g : Addr → Option Obj) : Nat → List Addr → List Addr
  | 0, as => as
  | n + 1, as => as ++ asN g n (stepN g as)
def obsR (n : Nat) (fa : List He.Fa) (fn : List He.DefD) (ex : PySem.W.Frag → Bool) (g : Addr → Option Obj) : AlR := (He.obsD fa fn (He.frG g (asN g n [mainGlobals] ++ [cStatics])), ex (He.frG g (asN g n [mainGlobals] ++ [cStatics])))
def SaysR (fa : List He.Fa) (fn : List He.DefD) (ex : PySem.W.Frag → Bool) (K : PySem.W.Frag) : Prop := He.SaysD fa fn K ∧ ex K = true
def valD (kds : List (Key × Da)) (k : Key) : Option Da := (kds.find? fun kv => decide (kv.1 = k)).map (·.2)
def clsAt (K : PySem.W.Frag) (c : Str) : Option Addr := match PySem.W.nsIn K mainGlobals c with
  | some (some (.ref C)) => some C
  | _ => none
def oexB (K : PySem.W.Frag) (C : Addr) : Bool := (match K.lookup C with
  | some ⟨.type t, _, .cls cd, sl⟩ => (match cd.mro, sl.toList with
    | .ref C' :: bm, [_, _, _, _, some (.builtin n), _] => t == "type" && (C' == C && (n == "ValueError.__new__" && (!cd.hasDel && (cd.hasDict && PySem.HandSPX.refsVE bm))))
    | _, _ => false)
  | _ => false) && (decide (PySem.W.findIn K (.ref C) "__setattr__" = some (some (.builtin "object.__setattr__"))) && (decide (PySem.W.subIn K (.ref C) (.type "BaseException") = some true) && (decide (PySem.W.typeIn K (.ref C) = some (.type "type")) && PySem.W.keepIn K (.ref C))))
/-- the class c, its __init__, its field f, its base r -/
def iniB (K : PySem.W.Frag) (c f r : Str) : Bool := match clsAt K c, clsAt K r with
  | some C, some R => oexB K C && (decide (PySem.W.findIn K (.ref C) "__init__" = some (some (.ref (He.fAd K (c, some "__init__"))))) && (decide (PySem.W.typeIn K (.ref (He.fAd K (c, some "__init__"))) = some (.type "function")) && (decide (PySem.W.findIn K (.ref C) f = some none) &&
      (PySem.W.readsIn K R (.type "type") && (decide (PySem.W.specialIn K (.ref R) "__getattribute__" = some (some (.builtin "type.__getattribute__"))) && (match PySem.W.findCls K (.ref R) (.type "type") "__init__" with
        | some (.val (.builtin n)) => n == "ValueError.__init__"
        | _ => false))))))
  | _, _ => false
/-- a def in a class's body -/
def inS (s : Stmt) (k : Nat) : Stmt := match s with
  | .ClassDef _ _ _ body _ _ _ _ _ _ _ => body.getD k (.Pass ⟨0, 0, 0, 0⟩)
  | _ => .Pass ⟨0, 0, 0, 0⟩
def kvB (K : PySem.W.Frag) : List (Str × Da) → List DictEntry → Bool
  | [], [] => true
  | (k, d) :: r, e :: es => (match e.key with | .str x _ => decide (x = k) | _ => false) && (cB K d e.val && kvB K r es)
  | _, _ => false
def kdB (K : PySem.W.Frag) (x : Str) (kds : List (Str × Da)) : Bool := match PySem.W.nsIn K mainGlobals x with
  | some (some (.ref a)) => (match K.lookup a with
    | some ⟨_, _, .dict es _, _⟩ => kvB K kds es.toList
    | _ => false)
  | _ => false
def dicN (K : PySem.W.Frag) (x : Str) : Option (List (Option (Str × Int))) := match PySem.W.nsIn K mainGlobals x with
  | some (some (.ref a)) => He.dicW K a
  | _ => none
abbrev AlW : Type := AlR × List (Option (List (Option (Str × Int))))
def TabsW (tn : List (Str × List Str)) (w : World) (K : PySem.W.Frag) : Prop := tn.map (fun t => dicN K t.1) = tn.map fun t => some (He.keysIn w.params t.2)
def obsRW (n : Nat) (tn : List (Str × List Str)) (fa : List He.Fa) (fn : List He.DefD) (ex : PySem.W.Frag → Bool) (g : Addr → Option Obj) : AlW :=
  (obsR n fa fn ex g, tn.map fun t => dicN (He.frG g (asN g n [mainGlobals] ++ [cStatics])) t.1)
def valRW (tn : List (Str × List Str)) (fn : List He.DefD) (w : World) : AlW := ((He.valD fn, true), tn.map fun t => some (He.keysIn w.params t.2))
def hookRW (n : Nat) (tn : List (Str × List Str)) (fa : List He.Fa) (fn : List He.DefD) (ex : PySem.W.Frag → Bool) : PySem.W.Hook where
  α := AlW
  obs := fun s => obsRW n tn fa fn ex s.heap.get?
  val := fun w => valRW tn fn w
  says := fun w h => ∃ K : PySem.W.Frag, K.In h ∧ SaysR fa fn ex K ∧ TabsW tn w K
  of := fun _ _ e => ⟨_, He.frG_in, ⟨congrArg (fun z : AlW => z.1.1) e, congrArg (fun z : AlW => z.1.2) e⟩, congrArg (fun z : AlW => z.2) e⟩
  keeps := fun _ _ _ ⟨K, hK, c⟩ k => ⟨K, PySem.W.Frag.In.keeps hK k, c⟩
theorem obsRW_eq {n : Nat} {tn : List (Str × List Str)} {fa : List He.Fa} {fn : List He.DefD} {ex : PySem.W.Frag → Bool} {g : Addr → Option Obj} {s : Shared} (h : ∀ a, g a = s.heap.get? a) : obsRW n tn fa fn ex g = (hookRW n tn fa fn ex).obs s := by
  have e : g = s.heap.get? := funext h
  rw [e] <;> rfl
def ftN : String := "special-get-raises"
def setFT (w : World) (b : Bool) : World := { w with params := { w.params with followText := fun s => bif decide (s = ftN) then b else w.params.followText s } }
theorem setFT_eq (w : World) : setFT w (w.params.followText ftN) = w := by
  have e : (fun s => bif decide (s = ftN) then w.params.followText ftN else w.params.followText s) = w.params.followText := by
    funext s
    by_cases h : s = ftN
    · rw [h]
      simp
    · simp [h]
  unfold setFT
  rw [e]
theorem by_ft {P : World → Prop} (ht : ∀ w, P (setFT w true)) (hf : ∀ w, P (setFT w false)) (w : World) : P w := by
  rw [← setFT_eq w]
  cases w.params.followText ftN with
  | true => exact ht w
  | false => exact hf w
def digB (K : PySem.W.Frag) : Bool := PySem.W.nsOkIn K cStatics && (match PySem.W.nsIn K cStatics "sys.int_max_str_digits" with
  | some none => true
  | _ => false)
def cB2 (K : PySem.W.Frag) : Da → Value → Bool
  | .dict [(.none, .str x)], .ref a => decide (a = He.ga K x)
  | d, u => cB K d u
def kvB2 (K : PySem.W.Frag) : List (Str × Da) → List DictEntry → Bool
  | [], [] => true
  | (k, d) :: r, e :: es => (match e.key with | .str x _ => decide (x = k) | _ => false) && (cB2 K d e.val && kvB2 K r es)
  | _, _ => false
def kdB2 (K : PySem.W.Frag) (x : Str) (kds : List (Str × Da)) : Bool := match PySem.W.nsIn K mainGlobals x with
  | some (some (.ref a)) => (match K.lookup a with
    | some ⟨_, _, .dict es _, _⟩ => kvB2 K kds es.toList
    | _ => false)
  | _ => false
end Rk
namespace Lw
open PySem PySem.Spec L2 Rk
def topS (i : Nat) : Stmt := PySem.Challenge.pw_roundsure_k51_programs_by_turns.main.body.getD i (.Pass ⟨0, 0, 0, 0⟩)
abbrev s_i_BadProgram : Stmt := inS (topS 2) 0
abbrev s_i_BadTurn : Stmt := inS (topS 3) 0
abbrev s_is_whole : Stmt := topS 6
abbrev s_shared : Stmt := topS 7
abbrev s_is_fraction : Stmt := topS 8
abbrev s_is_great : Stmt := topS 9
abbrev s_is_name : Stmt := topS 16
abbrev s_is_work : Stmt := topS 17
abbrev s_are_ins : Stmt := topS 18
abbrev s_is_row : Stmt := topS 19
abbrev s_wrong_row : Stmt := topS 20
abbrev s_need_program : Stmt := topS 21
abbrev s_asked : Stmt := topS 22
abbrev s_needed : Stmt := topS 23
abbrev s_pruned : Stmt := topS 24
abbrev s_work_at : Stmt := topS 30
abbrev s_new_names : Stmt := topS 31
abbrev s_swapped : Stmt := topS 32
abbrev s_put_apart : Stmt := topS 33
abbrev s_put_back : Stmt := topS 34
abbrev s_to_the_left : Stmt := topS 35
abbrev s_to_the_right : Stmt := topS 36
abbrev s_spread_out : Stmt := topS 37
abbrev s_gathered : Stmt := topS 38
abbrev s_taken_twice : Stmt := topS 39
abbrev s_taken_once : Stmt := topS 40
abbrev s_made_by : Stmt := topS 42
abbrev s_is_turn : Stmt := topS 43
abbrev s_turned_by : Stmt := topS 44
abbrev s__law_cell_at : Stmt := topS 46
abbrev s__law_mixed : Stmt := topS 47
abbrev s__law_state : Stmt := topS 48
abbrev s__law_draw : Stmt := topS 49
abbrev s__law_fraction : Stmt := topS 50
abbrev s__law_names : Stmt := topS 51
abbrev s__law_number : Stmt := topS 52
abbrev s__law_any_work : Stmt := topS 53
abbrev s__law_any_program : Stmt := topS 54
abbrev s__law_work_at : Stmt := topS 55
abbrev s__law_made : Stmt := topS 56
abbrev s__law_fresh : Stmt := topS 57
abbrev s__law_all_turns : Stmt := topS 58
abbrev s__law_turned : Stmt := topS 59
abbrev s__law_right : Stmt := topS 60
abbrev s__law_lettered : Stmt := topS 61
abbrev s_law : Stmt := topS 62
def c_GREATEST : Da := (.int ((10 ^ 600)))
def c_LETTERS_programs : Da := (.str "abcdefghijklmnopqrstuvwxyz")
def c_LETTERS_turns : Da := (.str "abcdefghijklmnopqrstuvwxyz")
def c_MOST_INS : Da := (.int 6)
def c_MOST_LETTERS : Da := (.int 6)
def c_MOST_ROWS_programs : Da := (.int 40)
def c_MOST_ROWS_turns : Da := (.int 40)
def c_TURN_WORDS : Da := (.tuple [(.str "swap"), (.str "apart"), (.str "back"), (.str "left"), (.str "right"), (.str "spread"), (.str "gather"), (.str "twice"), (.str "once")])
def c_TWO : Da := (.tuple [(.str "number"), (.tuple [(.int 2), (.int 1)])])
def d_MAKERS : List (Str × Da) := [("swap", (fnD "swapped")), ("apart", (fnD "put_apart")), ("back", (fnD "put_back")), ("left", (fnD "to_the_left")), ("right", (fnD "to_the_right")), ("spread", (fnD "spread_out")), ("gather", (fnD "gathered")), ("twice", (fnD "taken_twice")), ("once", (fnD "taken_once"))]
def d_WANTS : List (Str × Da) := [("plus", (.int 2)), ("less", (.int 2)), ("times", (.int 2)), ("over", (.int 2)), ("turned", (.int 1)), ("size", (.int 1)), ("least", (.int 2)), ("most", (.int 2)), ("pick", (.int 4))]
def d_is_whole : He.DefD := ⟨("is_whole", none), "is_whole", "is_whole", defArgs s_is_whole, defBody s_is_whole, defScope s_is_whole, [], []⟩
def d_shared : He.DefD := ⟨("shared", none), "shared", "shared", defArgs s_shared, defBody s_shared, defScope s_shared, [], []⟩
def d_is_fraction : He.DefD := ⟨("is_fraction", none), "is_fraction", "is_fraction", defArgs s_is_fraction, defBody s_is_fraction, defScope s_is_fraction, [], []⟩
def d_is_great : He.DefD := ⟨("is_great", none), "is_great", "is_great", defArgs s_is_great, defBody s_is_great, defScope s_is_great, [], []⟩
def d_is_name : He.DefD := ⟨("is_name", none), "is_name", "is_name", defArgs s_is_name, defBody s_is_name, defScope s_is_name, [], []⟩
def d_is_work : He.DefD := ⟨("is_work", none), "is_work", "is_work", defArgs s_is_work, defBody s_is_work, defScope s_is_work, [], []⟩
def d_are_ins : He.DefD := ⟨("are_ins", none), "are_ins", "are_ins", defArgs s_are_ins, defBody s_are_ins, defScope s_are_ins, [], []⟩
def d_is_row : He.DefD := ⟨("is_row", none), "is_row", "is_row", defArgs s_is_row, defBody s_is_row, defScope s_is_row, [], []⟩
def d_wrong_row : He.DefD := ⟨("wrong_row", none), "wrong_row", "wrong_row", defArgs s_wrong_row, defBody s_wrong_row, defScope s_wrong_row, [], []⟩
def d_need_program : He.DefD := ⟨("need_program", none), "need_program", "need_program", defArgs s_need_program, defBody s_need_program, defScope s_need_program, [], []⟩
def d_asked : He.DefD := ⟨("asked", none), "asked", "asked", defArgs s_asked, defBody s_asked, defScope s_asked, [], []⟩
def d_needed : He.DefD := ⟨("needed", none), "needed", "needed", defArgs s_needed, defBody s_needed, defScope s_needed, [], []⟩
def d_pruned : He.DefD := ⟨("pruned", none), "pruned", "pruned", defArgs s_pruned, defBody s_pruned, defScope s_pruned, [], []⟩
def d_work_at : He.DefD := ⟨("work_at", none), "work_at", "work_at", defArgs s_work_at, defBody s_work_at, defScope s_work_at, [], []⟩
def d_new_names : He.DefD := ⟨("new_names", none), "new_names", "new_names", defArgs s_new_names, defBody s_new_names, defScope s_new_names, [], []⟩
def d_swapped : He.DefD := ⟨("swapped", none), "swapped", "swapped", defArgs s_swapped, defBody s_swapped, defScope s_swapped, [], []⟩
def d_put_apart : He.DefD := ⟨("put_apart", none), "put_apart", "put_apart", defArgs s_put_apart, defBody s_put_apart, defScope s_put_apart, [], []⟩
def d_put_back : He.DefD := ⟨("put_back", none), "put_back", "put_back", defArgs s_put_back, defBody s_put_back, defScope s_put_back, [], []⟩
def d_to_the_left : He.DefD := ⟨("to_the_left", none), "to_the_left", "to_the_left", defArgs s_to_the_left, defBody s_to_the_left, defScope s_to_the_left, [], []⟩
def d_to_the_right : He.DefD := ⟨("to_the_right", none), "to_the_right", "to_the_right", defArgs s_to_the_right, defBody s_to_the_right, defScope s_to_the_right, [], []⟩
def d_spread_out : He.DefD := ⟨("spread_out", none), "spread_out", "spread_out", defArgs s_spread_out, defBody s_spread_out, defScope s_spread_out, [], []⟩
def d_gathered : He.DefD := ⟨("gathered", none), "gathered", "gathered", defArgs s_gathered, defBody s_gathered, defScope s_gathered, [], []⟩
def d_taken_twice : He.DefD := ⟨("taken_twice", none), "taken_twice", "taken_twice", defArgs s_taken_twice, defBody s_taken_twice, defScope s_taken_twice, [], []⟩
def d_taken_once : He.DefD := ⟨("taken_once", none), "taken_once", "taken_once", defArgs s_taken_once, defBody s_taken_once, defScope s_taken_once, [], []⟩
def d_made_by : He.DefD := ⟨("made_by", none), "made_by", "made_by", defArgs s_made_by, defBody s_made_by, defScope s_made_by, [], []⟩
def d_is_turn : He.DefD := ⟨("is_turn", none), "is_turn", "is_turn", defArgs s_is_turn, defBody s_is_turn, defScope s_is_turn, [], []⟩
def d_turned_by : He.DefD := ⟨("turned_by", none), "turned_by", "turned_by", defArgs s_turned_by, defBody s_turned_by, defScope s_turned_by, [], []⟩
def d__law_cell_at : He.DefD := ⟨("_law_cell_at", none), "_law_cell_at", "_law_cell_at", defArgs s__law_cell_at, defBody s__law_cell_at, defScope s__law_cell_at, [], []⟩
def d__law_mixed : He.DefD := ⟨("_law_mixed", none), "_law_mixed", "_law_mixed", defArgs s__law_mixed, defBody s__law_mixed, defScope s__law_mixed, [], []⟩
def d__law_state : He.DefD := ⟨("_law_state", none), "_law_state", "_law_state", defArgs s__law_state, defBody s__law_state, defScope s__law_state, [], []⟩
def d__law_draw : He.DefD := ⟨("_law_draw", none), "_law_draw", "_law_draw", defArgs s__law_draw, defBody s__law_draw, defScope s__law_draw, [], []⟩
def d__law_fraction : He.DefD := ⟨("_law_fraction", none), "_law_fraction", "_law_fraction", defArgs s__law_fraction, defBody s__law_fraction, defScope s__law_fraction, [], []⟩
def d__law_names : He.DefD := ⟨("_law_names", none), "_law_names", "_law_names", defArgs s__law_names, defBody s__law_names, defScope s__law_names, [], []⟩
def d__law_number : He.DefD := ⟨("_law_number", none), "_law_number", "_law_number", defArgs s__law_number, defBody s__law_number, defScope s__law_number, [], []⟩
def d__law_any_work : He.DefD := ⟨("_law_any_work", none), "_law_any_work", "_law_any_work", defArgs s__law_any_work, defBody s__law_any_work, defScope s__law_any_work, [], []⟩
def d__law_any_program : He.DefD := ⟨("_law_any_program", none), "_law_any_program", "_law_any_program", defArgs s__law_any_program, defBody s__law_any_program, defScope s__law_any_program, [], []⟩
def d__law_work_at : He.DefD := ⟨("_law_work_at", none), "_law_work_at", "_law_work_at", defArgs s__law_work_at, defBody s__law_work_at, defScope s__law_work_at, [], []⟩
def d__law_made : He.DefD := ⟨("_law_made", none), "_law_made", "_law_made", defArgs s__law_made, defBody s__law_made, defScope s__law_made, [], []⟩
def d__law_fresh : He.DefD := ⟨("_law_fresh", none), "_law_fresh", "_law_fresh", defArgs s__law_fresh, defBody s__law_fresh, defScope s__law_fresh, [], []⟩
def d__law_all_turns : He.DefD := ⟨("_law_all_turns", none), "_law_all_turns", "_law_all_turns", defArgs s__law_all_turns, defBody s__law_all_turns, defScope s__law_all_turns, [], []⟩
def d__law_turned : He.DefD := ⟨("_law_turned", none), "_law_turned", "_law_turned", defArgs s__law_turned, defBody s__law_turned, defScope s__law_turned, [], []⟩
def d__law_right : He.DefD := ⟨("_law_right", none), "_law_right", "_law_right", defArgs s__law_right, defBody s__law_right, defScope s__law_right, [], []⟩
def d__law_lettered : He.DefD := ⟨("_law_lettered", none), "_law_lettered", "_law_lettered", defArgs s__law_lettered, defBody s__law_lettered, defScope s__law_lettered, [], []⟩
def d_law : He.DefD := ⟨("law", none), "law", "law", defArgs s_law, defBody s_law, defScope s_law, [], []⟩
def d_i_BadProgram : He.DefD := ⟨("BadProgram", some "__init__"), "__init__", "BadProgram.__init__", defArgs s_i_BadProgram, defBody s_i_BadProgram, defScope s_i_BadProgram, [], []⟩
def d_i_BadTurn : He.DefD := ⟨("BadTurn", some "__init__"), "__init__", "BadTurn.__init__", defArgs s_i_BadTurn, defBody s_i_BadTurn, defScope s_i_BadTurn, [], []⟩
def fn : List He.DefD := [d_is_whole, d_shared, d_is_fraction, d_is_great, d_is_name, d_is_work, d_are_ins, d_is_row, d_wrong_row, d_need_program, d_asked, d_needed, d_pruned, d_work_at, d_new_names, d_swapped, d_put_apart, d_put_back, d_to_the_left, d_to_the_right, d_spread_out, d_gathered, d_taken_twice, d_taken_once, d_made_by, d_is_turn, d_turned_by, d__law_cell_at, d__law_mixed, d__law_state, d__law_draw, d__law_fraction, d__law_names, d__law_number, d__law_any_work, d__law_any_program, d__law_work_at, d__law_made, d__law_fresh, d__law_all_turns, d__law_turned, d__law_right, d__law_lettered, d_law, d_i_BadProgram, d_i_BadTurn]
def fa : List He.Fa := [.glo "is_whole", .glo "shared", .glo "is_fraction", .glo "is_great", .glo "is_name", .glo "is_work", .glo "are_ins", .glo "is_row", .glo "wrong_row", .glo "need_program", .glo "asked", .glo "needed", .glo "pruned", .glo "work_at", .glo "new_names", .glo "swapped", .glo "put_apart", .glo "put_back", .glo "to_the_left", .glo "to_the_right", .glo "spread_out", .glo "gathered", .glo "taken_twice", .glo "taken_once", .glo "made_by", .glo "is_turn", .glo "turned_by", .glo "_law_cell_at", .glo "_law_mixed", .glo "_law_state", .glo "_law_draw", .glo "_law_fraction", .glo "_law_names", .glo "_law_number", .glo "_law_any_work", .glo "_law_any_program", .glo "_law_work_at", .glo "_law_made", .glo "_law_fresh", .glo "_law_all_turns", .glo "_law_turned", .glo "_law_right", .glo "_law_lettered", .glo "law", .free "abs", .free "all", .free "bool", .free "dict", .free "enumerate", .free "int", .free "isinstance", .free "len", .free "list", .free "max", .free "min", .free "range", .free "repr", .free "reversed", .free "set", .free "str", .free "tuple", .free "zip"]
def ex (K : PySem.W.Frag) : Bool := (gB K "GREATEST" c_GREATEST) && (gB K "LETTERS_programs" c_LETTERS_programs) && (gB K "LETTERS_turns" c_LETTERS_turns) && (gB K "MOST_INS" c_MOST_INS) && (gB K "MOST_LETTERS" c_MOST_LETTERS) && (gB K "MOST_ROWS_programs" c_MOST_ROWS_programs) && (gB K "MOST_ROWS_turns" c_MOST_ROWS_turns) && (gB K "TURN_WORDS" c_TURN_WORDS) && (gB K "TWO" c_TWO) && (digB K) && (iniB K "BadProgram" "row" "RoundError") && (iniB K "BadTurn" "place" "RoundError") && (kdB2 K "MAKERS" d_MAKERS) && (kdB K "WANTS" d_WANTS)
abbrev R : PySem.W.OpenRow := PySem.W.OpenLaw.row PySem.Challenge.rw_roundsure_k51_programs_by_turns
def tn : List (Str × List Str) := [("MAKERS", d_MAKERS.map (·.1)), ("WANTS", d_WANTS.map (·.1))]
abbrev hk : PySem.W.Hook := hookRW 5 tn fa fn ex
def ob (s : PySem.W.SharedT) : AlW := obsRW 5 tn fa fn ex (HandSHeadRun.getT s)
theorem ob_eq (s : PySem.W.SharedT) : ob s = hk.obs s.abs := obsRW_eq (HandSHeadRun.getT_eq s)
def loose : List Str := (["RoundError", "BadProgram", "BadTurn", "GREATEST", "is_whole", "shared", "is_fraction", "is_great", "LETTERS_programs", "MOST_LETTERS", "MOST_INS", "MOST_ROWS_programs", "WANTS", "is_name", "is_work", "are_ins", "is_row", "wrong_row", "need_program", "asked", "needed", "pruned", "MOST_ROWS_turns", "TURN_WORDS", "LETTERS_turns", "TWO", "work_at", "new_names", "swapped", "put_apart"] : List Str) ++ (["put_back", "to_the_left", "to_the_right", "spread_out", "gathered", "taken_twice", "taken_once", "MAKERS", "made_by", "is_turn", "turned_by", "_law_cell_at", "_law_mixed", "_law_state", "_law_draw", "_law_fraction", "_law_names", "_law_number", "_law_any_work", "_law_any_program", "_law_work_at", "_law_made", "_law_fresh", "_law_all_turns", "_law_turned", "_law_right", "_law_lettered"] : List Str)
theorem run_t (w : World) : HandSHeadRun.RunEq R (PySem.W.view R.prog [62]) hk ob 40000 loose (setFT w true) := by
  intro os
  kernel_rfl
theorem run_f (w : World) : HandSHeadRun.RunEq R (PySem.W.view R.prog [62]) hk ob 40000 loose (setFT w false) := by
  intro os
  kernel_rfl
theorem run (w : World) : HandSHeadRun.RunEq R (PySem.W.view R.prog [62]) hk ob 40000 loose w := by_ft (P := fun w => HandSHeadRun.RunEq R (PySem.W.view R.prog [62]) hk ob 40000 loose w) run_t run_f w

end Lw
section
open PySem PySem.W PySem.Calls PyProof.Rows
theorem Lw.early (hc : WalkO (view (OpenLaw.row PySem.Challenge.rw_roundsure_k51_programs_by_turns).prog [62]) Lw.loose (XL (view (OpenLaw.row PySem.Challenge.rw_roundsure_k51_programs_by_turns).prog [62]) []) (PySem.W.Hook.says Lw.hk) (OpenLaw.row PySem.Challenge.rw_roundsure_k51_programs_by_turns).toRowW (HandSHeadRun.topDef (OpenLaw.row PySem.Challenge.rw_roundsure_k51_programs_by_turns).prog 62) [] fun f vs => PySem.call f vs) : PySem.Challenge.rw_roundsure_k51_programs_by_turns.Holds := by
  w_on; o_law
  refine HandSHeadRun.head_any (r := OpenLaw.row PySem.Challenge.rw_roundsure_k51_programs_by_turns) (q := view (OpenLaw.row PySem.Challenge.rw_roundsure_k51_programs_by_turns).prog [62]) (H := Lw.hk) (ob := Lw.ob) (M := 40000) (loose := Lw.loose) (d := HandSHeadRun.topDef (OpenLaw.row PySem.Challenge.rw_roundsure_k51_programs_by_turns).prog 62) (kwd := []) Lw.ob_eq
    (by kernel_rfl) (fun s => by kernel_rfl) Lw.run (by kernel_rfl) (by kernel_rfl) (by kernel_rfl) (by rfl) (by first | assumption | decide +kernel) (by decide +kernel) ⟨rfl, rfl, rfl, rfl, rfl, by decide +kernel⟩ ?hw hc
  case hw => w_witness2
end
/-! Rk0: pure data, an abstract heap of lists and dicts by number, outcomes; what stands for what. -/
namespace Rk
open PySem PySem.Spec L2

/-- an object that changes, by its number -/
inductive Ob where
  | lst (xs : List Da)
  | dct (kvs : List (Key × Da))
  | tbl (x : Str)
  | rl (ns : List Nat)
/-- what a function object has kept of its maker's slots -/
inductive Vl0 where
  | d (x : Da)
  | r (n : Nat)
/-- a function object made by a lambda: its address, its code object, that one's name, its maker's slots as they were -/
structure Dd where
  f : Addr
  c : Addr
  q : Str
  σ : List (Option V)
  ρ : List (Option Vl0)
/-- a value: data, an object by its number, an error that was caught -/
inductive Vl where
  | d (x : Da)
  | r (n : Nat)
  | x (c : Str) (fs : List (Str × Da))
  | f (a : Dd)
abbrev Hh := List (Option Ob)
inductive Out (α : Type) where
  | ok (a : α) (h : Hh)
  | ex (c : Str) (fs : List (Str × Da)) (h : Hh)
  | no
abbrev En := List (Option Vl)
inductive So where
  | nx (ρ : En) (h : Hh)
  | rt (v : Vl) (h : Hh)
  | bk (ρ : En) (h : Hh)
  | ct (ρ : En) (h : Hh)
  | ex (c : Str) (fs : List (Str × Da)) (ρ : En) (h : Hh)
  | no
def Out.bind {α β : Type} : Out α → (α → Hh → Out β) → Out β
  | .ok a h, f => f a h
  | .ex c fs h, _ => .ex c fs h
  | .no, _ => .no
theorem Out.bind_ok {α β : Type} (a : α) (h : Hh) (f : α → Hh → Out β) : (Out.ok a h).bind f = f a h := rfl
theorem Out.bind_ex {α β : Type} (c : Str) (fs : List (Str × Da)) (h : Hh) (f : α → Hh → Out β) : (Out.ex c fs h).bind f = .ex c fs h := rfl
abbrev Ev := En → Hh → Out Vl
abbrev Tv := En → Hh → Out Bool
abbrev Av := En → Hh → Out (List Vl)
abbrev Sv := En → Hh → So
abbrev Fn := List Vl → Hh → Out Vl

/-! ### what stands for what -/
def KT (K : PySem.W.Frag) (a : Addr) (xs : List V) : Prop :=
  ∃ (o : Obj) (its : Array Value) (n : Nat), K.lookup a = some o ∧ o.cls = .type "tuple" ∧ o.data = .seq its n ∧ its.size ≤ sizeLine ∧ Vals xs its.toList
def KL (K : PySem.W.Frag) (a : Addr) (xs : List V) : Prop :=
  ∃ (o : Obj) (its : Array Value) (n : Nat), K.lookup a = some o ∧ o.cls = .type "list" ∧ o.dict = none ∧ o.data = .seq its n ∧ its.size ≤ sizeLine ∧ Vals xs its.toList
/-- a key as data -/
def kD : Key → Da
  | .inl i => .int i
  | .inr x => .str x
mutual
inductive Rep (K : PySem.W.Frag) (H : Hp) (M : Addr → Prop) : V → Da → Prop
  | non : Rep K H M .non .none
  | bl (b : Bool) : Rep K H M (.bl b) (.bool b)
  | int (i : Int) : Rep K H M (.int i) (.int i)
  | str (x : Str) : Rep K H M (.str x) (.str x)
  | tup {a : Addr} {xs : List V} {ds : List Da} : Rd H a (.tup xs) → ¬ M a → Reps K H M xs ds → Rep K H M (.ref a) (.tuple ds)
  | tupK {a : Addr} {xs : List V} {ds : List Da} : KT K a xs → Reps K H M xs ds → Rep K H M (.ref a) (.tuple ds)
  | lst {a : Addr} {xs : List V} {ds : List Da} : Rd H a (.lst xs) → ¬ M a → Reps K H M xs ds → Rep K H M (.ref a) (.list ds)
  | lstK {a : Addr} {xs : List V} {ds : List Da} : KL K a xs → Reps K H M xs ds → Rep K H M (.ref a) (.list ds)
  | dct0 {a : Addr} : H a = some (.dT []) → ¬ M a → Rep K H M (.ref a) (.dict [])
  | dct {a : Addr} {kvs : List (Key × V)} {ds : List Da} {kds : List (Da × Da)} : H a = some (.dK kvs) → ¬ M a → kvs ≠ [] → Reps K H M (kvs.map (·.2)) ds → kds = ((kvs.map (·.1)).zip ds).map (fun p => (kD p.1, p.2)) → Rep K H M (.ref a) (.dict kds)
  | fn (x : Str) : Rep K H M (.ref (He.ga K x)) (.dict [(.none, .str x)])
  | plt {a : Addr} {o : Obj} {xs : List V} {ds : List Da} : H a = some (.frz o (.tup xs)) → o.dict = none → ¬ M a → Reps K H M xs ds → Rep K H M (.ref a) (.dict [(.none, .tuple ds)])
inductive Reps (K : PySem.W.Frag) (H : Hp) (M : Addr → Prop) : List V → List Da → Prop
  | nil : Reps K H M [] []
  | cons {v : V} {vs : List V} {d : Da} {ds : List Da} : Rep K H M v d → Reps K H M vs ds → Reps K H M (v :: vs) (d :: ds)
end
/-- no table of code objects -/
abbrev Nt (o : HO) : Prop := ∀ ps, o ≠ .tbl ps
/-- what is not M stands still -/
def Stay (H : Hp) (M : Addr → Prop) (H' : Hp) (M' : Addr → Prop) : Prop := ∀ a o, H a = some o → Nt o → ¬ M a → H' a = some o ∧ ¬ M' a
inductive Seq' : HO → Prop
  | l (xs) : Seq' (.lst xs)
  | t (xs) : Seq' (.tup xs)
theorem Seq'.nt {u : HO} (s : Seq' u) : Nt u := fun ps z => by cases s <;> cases z
theorem Stay.rd {H H' : Hp} {M M' : Addr → Prop} (s : Stay H M H' M') {a : Addr} {u : HO} (w : Seq' u) (h : Rd H a u) (n : ¬ M a) : Rd H' a u ∧ ¬ M' a := by
  rcases h with h | ⟨o, h⟩
  · exact ⟨.inl (s a _ h w.nt n).1, (s a _ h w.nt n).2⟩
  · exact ⟨.inr ⟨o, (s a _ h nofun n).1⟩, (s a _ h nofun n).2⟩
mutual
theorem Rep.stay {K : PySem.W.Frag} {H H' : Hp} {M M' : Addr → Prop} (s : Stay H M H' M') : ∀ {v : V} {d : Da}, Rep K H M v d → Rep K H' M' v d
  | _, _, .non => .non
  | _, _, .bl b => .bl b
  | _, _, .int i => .int i
  | _, _, .str x => .str x
  | _, _, .tup h n r => .tup (s.rd (.t _) h n).1 (s.rd (.t _) h n).2 (Reps.stay s r)
  | _, _, .tupK h r => .tupK h (Reps.stay s r)
  | _, _, .lst h n r => .lst (s.rd (.l _) h n).1 (s.rd (.l _) h n).2 (Reps.stay s r)
  | _, _, .lstK h r => .lstK h (Reps.stay s r)
  | _, _, .dct0 h n => .dct0 (s _ _ h nofun n).1 (s _ _ h nofun n).2
  | _, _, .dct h n ne r e => .dct (s _ _ h nofun n).1 (s _ _ h nofun n).2 ne (Reps.stay s r) e
  | _, _, .fn x => .fn x
  | _, _, .plt h e n r => .plt (s _ _ h nofun n).1 e (s _ _ h nofun n).2 (Reps.stay s r)
theorem Reps.stay {K : PySem.W.Frag} {H H' : Hp} {M M' : Addr → Prop} (s : Stay H M H' M') : ∀ {v : List V} {d : List Da}, Reps K H M v d → Reps K H' M' v d
  | _, _, .nil => .nil
  | _, _, .cons r t => .cons (Rep.stay s r) (Reps.stay s t)
end
theorem Stay.refl (H : Hp) (M : Addr → Prop) : Stay H M H M := fun _ _ h _ n => ⟨h, n⟩
theorem Stay.trans {H H1 H2 : Hp} {M M1 M2 : Addr → Prop} (a : Stay H M H1 M1) (b : Stay H1 M1 H2 M2) : Stay H M H2 M2 := fun x o h w n => b x o (a x o h w n).1 w (a x o h w n).2
section
variable {K : PySem.W.Frag} {H : Hp} {M : Addr → Prop}
theorem Reps.length : ∀ {vs : List V} {ds : List Da}, Reps K H M vs ds → vs.length = ds.length
  | _, _, .nil => rfl
  | _, _, .cons _ t => by rw [List.length_cons, List.length_cons, Reps.length t]
theorem Reps.get : ∀ {vs : List V} {ds : List Da} {i : Nat} {d : Da}, Reps K H M vs ds → ds[i]? = some d → ∃ v, vs[i]? = some v ∧ Rep K H M v d
  | _, _, _, _, .nil, h => by simp at h
  | _, _, 0, _, .cons r _, h => by
    have e := Option.some.inj h
    subst e
    exact ⟨_, rfl, r⟩
  | _, _, i + 1, _, .cons _ t, h => by
    obtain ⟨v, e, r⟩ := Reps.get (i := i) t h
    exact ⟨v, e, r⟩
theorem Reps.append : ∀ {vs ws : List V} {ds es : List Da}, Reps K H M vs ds → Reps K H M ws es → Reps K H M (vs ++ ws) (ds ++ es)
  | _, _, _, _, .nil, s => s
  | _, _, _, _, .cons r t, s => .cons r (Reps.append t s)
theorem Reps.take : ∀ {vs : List V} {ds : List Da} (n : Nat), Reps K H M vs ds → Reps K H M (vs.take n) (ds.take n)
  | _, _, 0, _ => .nil
  | _, _, _ + 1, .nil => .nil
  | _, _, n + 1, .cons r t => .cons r (Reps.take n t)
theorem Reps.drop : ∀ {vs : List V} {ds : List Da} (n : Nat), Reps K H M vs ds → Reps K H M (vs.drop n) (ds.drop n)
  | _, _, 0, s => s
  | _, _, _ + 1, .nil => .nil
  | _, _, n + 1, .cons _ t => Reps.drop n t
theorem Reps.set {v : V} {d : Da} (r : Rep K H M v d) : ∀ {vs : List V} {ds : List Da} (i : Nat), Reps K H M vs ds → Reps K H M (vs.set i v) (ds.set i d)
  | _, _, _, .nil => .nil
  | _, _, 0, .cons _ t => .cons r t
  | _, _, i + 1, .cons q t => .cons q (Reps.set r i t)
theorem Rep.sqT {a : Addr} {ds : List Da} (r : Rep K H M (.ref a) (.tuple ds)) : ∃ xs, SqT K H a xs ∧ Reps K H M xs ds := by
  cases r with
  | tup h _ r => exact ⟨_, .inl h, r⟩
  | tupK h r => exact ⟨_, .inr h, r⟩
theorem Rep.sqL {a : Addr} {ds : List Da} (r : Rep K H M (.ref a) (.list ds)) : ∃ xs, SqL K H a xs ∧ Reps K H M xs ds := by
  cases r with
  | lst h _ r => exact ⟨_, .inl h, r⟩
  | lstK h r => exact ⟨_, .inr h, r⟩
end
def ptD (ds : List Da) : Da := .dict [(.none, .tuple ds)]
/-- the constants of the top: the same whatever the heap -/
def KRep (K : PySem.W.Frag) (v : V) (d : Da) : Prop := ∀ H M, Rep K H M v d

/-! ### the abstract heap's objects, where they stand -/
def Live (φ : List Addr) (h : Hh) (a : Addr) : Prop := ∃ (i : Nat) (o : Ob), φ[i]? = some a ∧ h[i]? = some (some o)
inductive KvRep (K : PySem.W.Frag) (H : Hp) (M : Addr → Prop) : List (Key × V) → List (Key × Da) → Prop
  | nil : KvRep K H M [] []
  | cons {k : Key} {v : V} {vs : List (Key × V)} {d : Da} {ds : List (Key × Da)} : Rep K H M v d → KvRep K H M vs ds → KvRep K H M ((k, v) :: vs) ((k, d) :: ds)
theorem KvRep.stay {K : PySem.W.Frag} {H H' : Hp} {M M' : Addr → Prop} (s : Stay H M H' M') : ∀ {vs : List (Key × V)} {ds : List (Key × Da)}, KvRep K H M vs ds → KvRep K H' M' vs ds
  | _, _, .nil => .nil
  | _, _, .cons r t => .cons (r.stay s) (KvRep.stay s t)
def ORep (K : PySem.W.Frag) (H : Hp) (M : Addr → Prop) (a : Addr) : Ob → Prop
  | .lst ds => ∃ xs, H a = some (.lst xs) ∧ Reps K H M xs ds
  | .dct kds => ∃ kvs, H a = some (.dK kvs) ∧ KvRep K H M kvs kds
  | .tbl x => ∃ (c : Addr) (ps : Array Value), PySem.W.tabIn K x = some (c, a) ∧ H a = some (.tbl ps) ∧ TriplesOk ps.toList ∧ ∀ (pos : Pos) (cv : Value), codeAmong pos ps.toList = some cv → ∃ c', cv = .ref c' ∧ H c' = some (LamX.CodeO c' (x ++ ".<locals>." ++ "<lambda>"))
  | .rl _ => ∃ xs, H a = some (.lst xs)
structure Sim (K : PySem.W.Frag) (φ : List Addr) (h : Hh) (H : Hp) : Prop where
  len : φ.length = h.length
  inj : ∀ (i j : Nat) (a : Addr) (o o' : Ob), φ[i]? = some a → φ[j]? = some a → h[i]? = some (some o) → h[j]? = some (some o') → i = j
  ob : ∀ (i : Nat) (o : Ob), h[i]? = some (some o) → ∃ a, φ[i]? = some a ∧ ORep K H (Live φ h) a o
  rf : ∀ (i : Nat) (ns : List Nat), h[i]? = some (some (.rl ns)) → ∃ (a : Addr) (as : List Addr), φ[i]? = some a ∧ H a = some (.lst (as.map V.ref)) ∧ as.length = ns.length ∧ ∀ (k n : Nat), ns[k]? = some n → n < i ∧ φ[n]? = as[k]?
structure Step (φ : List Addr) (h : Hh) (H : Hp) (φ' : List Addr) (h' : Hh) (H' : Hp) : Prop where
  pre : φ <+: φ'
  st : Stay H (Live φ h) H' (Live φ' h')
theorem Step.refl (φ : List Addr) (h : Hh) (H : Hp) : Step φ h H φ h H := ⟨List.prefix_refl φ, Stay.refl _ _⟩
theorem Step.trans {φ φ1 φ2 : List Addr} {h h1 h2 : Hh} {H H1 H2 : Hp} (a : Step φ h H φ1 h1 H1) (b : Step φ1 h1 H1 φ2 h2 H2) : Step φ h H φ2 h2 H2 := ⟨a.pre.trans b.pre, a.st.trans b.st⟩
theorem pre_get {φ φ' : List Addr} (p : φ <+: φ') {n : Nat} {a : Addr} (e : φ[n]? = some a) : φ'[n]? = some a := by
  obtain ⟨t, rfl⟩ := p
  rw [List.getElem?_append_left (List.getElem?_eq_some_iff.mp e).1]
  exact e
/-- the own dict of a caught error, its fields -/
inductive FsRep (K : PySem.W.Frag) (H : Hp) (M : Addr → Prop) : List (Str × V) → List (Str × Da) → Prop
  | nil : FsRep K H M [] []
  | cons {k : Str} {v : V} {vs : List (Str × V)} {d : Da} {ds : List (Str × Da)} : Rep K H M v d → FsRep K H M vs ds → FsRep K H M ((k, v) :: vs) ((k, d) :: ds)
theorem FsRep.stay {K : PySem.W.Frag} {H H' : Hp} {M M' : Addr → Prop} (s : Stay H M H' M') : ∀ {vs : List (Str × V)} {ds : List (Str × Da)}, FsRep K H M vs ds → FsRep K H' M' vs ds
  | _, _, .nil => .nil
  | _, _, .cons r t => .cons (r.stay s) (FsRep.stay s t)
/-- an error in the air: its class by its name, its fields -/
structure XRep (K : PySem.W.Frag) (mg : Str → Option Value) (H : Hp) (M : Addr → Prop) (c : Str) (fs : List (Str × Da)) (cls : Value) (dd : Option Addr) : Prop where
  cl : mg c = some cls
  no : fs = [] → dd = none
  yes : fs ≠ [] → ∃ a vs, dd = some a ∧ H a = some (.xd vs) ∧ ¬ M a ∧ FsRep K H M vs fs
/-- a value of the def's -/
def exO (a : Addr) (cls : Value) (dd : Option Addr) : HO := .ext fun h => ∃ (oe : Obj) (vs : Array Value), h.get? a = some oe ∧ Zc cls dd oe ∧ oe.data = .fields vs
theorem XRep.stay {K : PySem.W.Frag} {mg : Str → Option Value} {H H' : Hp} {M M' : Addr → Prop} {c : Str} {fs : List (Str × Da)} {cls : Value} {dd : Option Addr} (s : Stay H M H' M') (x : XRep K mg H M c fs cls dd) : XRep K mg H' M' c fs cls dd :=
  ⟨x.cl, x.no, fun z => by
    obtain ⟨a, vs, e1, e2, e3, e4⟩ := x.yes z
    obtain ⟨f1, f2⟩ := s a _ e2 nofun e3
    exact ⟨a, vs, e1, f1, f2, e4.stay s⟩⟩
def VRep0 (K : PySem.W.Frag) (φ : List Addr) (h : Hh) (H : Hp) (v : V) : Vl0 → Prop
  | .d x => Rep K H (Live φ h) v x
  | .r n => ∃ a, φ[n]? = some a ∧ v = .ref a
theorem exO_nt {a : Addr} {cls : Value} {dd : Option Addr} : Nt (exO a cls dd) := fun ps z => by
  unfold exO at z
  cases z
theorem VRep0.step {K : PySem.W.Frag} {φ φ' : List Addr} {h h' : Hh} {H H' : Hp} {v : V} {x : Vl0} (s : Step φ h H φ' h' H') (r : VRep0 K φ h H v x) : VRep0 K φ' h' H' v x := by
  cases x with
  | d x => exact Rep.stay s.st r
  | r n =>
    obtain ⟨a, e, rfl⟩ := r
    exact ⟨a, pre_get s.pre e, rfl⟩
def VRep (K : PySem.W.Frag) (mg : Str → Option Value) (φ : List Addr) (h : Hh) (H : Hp) (v : V) : Vl → Prop
  | .d x => Rep K H (Live φ h) v x
  | .r n => ∃ a, φ[n]? = some a ∧ v = .ref a
  | .x c fs => ∃ (a : Addr) (cls : Value) (dd : Option Addr), v = .ref a ∧ H a = some (exO a cls dd) ∧ ¬ Live φ h a ∧ XRep K mg H (Live φ h) c fs cls dd
  | .f D => v = .ref D.f ∧ H D.c = some (LamX.CodeO D.c D.q) ∧ ¬ Live φ h D.c ∧ D.σ.length = D.ρ.length ∧ ∀ (i : Nat) (w : Vl0), D.ρ[i]? = some (some w) → ∃ x, D.σ[i]? = some (some x) ∧ VRep0 K φ h H x w
variable {mg : Str → Option Value}
theorem VRep.step {K : PySem.W.Frag} {φ φ' : List Addr} {h h' : Hh} {H H' : Hp} {v : V} {x : Vl} (s : Step φ h H φ' h' H') (r : VRep K mg φ h H v x) : VRep K mg φ' h' H' v x := by
  cases x with
  | d x => exact Rep.stay s.st r
  | r n =>
    obtain ⟨a, e, rfl⟩ := r
    exact ⟨a, pre_get s.pre e, rfl⟩
  | x c fs =>
    obtain ⟨a, cls, dd, rfl, e1, e2, xr⟩ := r
    obtain ⟨f1, f2⟩ := s.st a _ e1 exO_nt e2
    exact ⟨a, cls, dd, rfl, f1, f2, xr.stay s.st⟩
  | f D =>
    obtain ⟨e1, e2, e3, e4, e5⟩ := r
    obtain ⟨f1, f2⟩ := s.st _ _ e2 LamX.codeO_ne e3
    exact ⟨e1, f1, f2, e4, fun i w z => (e5 i w z).imp fun x q => ⟨q.1, q.2.step s⟩⟩
inductive VReps (K : PySem.W.Frag) (mg : Str → Option Value) (φ : List Addr) (h : Hh) (H : Hp) : List V → List Vl → Prop
  | nil : VReps K mg φ h H [] []
  | cons {v : V} {vs : List V} {x : Vl} {xs : List Vl} : VRep K mg φ h H v x → VReps K mg φ h H vs xs → VReps K mg φ h H (v :: vs) (x :: xs)
theorem VReps.step {K : PySem.W.Frag} {φ φ' : List Addr} {h h' : Hh} {H H' : Hp} (s : Step φ h H φ' h' H') : ∀ {vs : List V} {xs : List Vl}, VReps K mg φ h H vs xs → VReps K mg φ' h' H' vs xs
  | _, _, .nil => .nil
  | _, _, .cons r t => .cons (r.step s) (VReps.step s t)
theorem VReps.length {K : PySem.W.Frag} {φ : List Addr} {h : Hh} {H : Hp} : ∀ {vs : List V} {xs : List Vl}, VReps K mg φ h H vs xs → vs.length = xs.length
  | _, _, .nil => rfl
  | _, _, .cons _ t => by rw [List.length_cons, List.length_cons, VReps.length t]
/-- the slots -/
structure ERep (K : PySem.W.Frag) (mg : Str → Option Value) (φ : List Addr) (h : Hh) (H : Hp) (σ : St) (ρ : En) : Prop where
  len : σ.length = ρ.length
  at_ : ∀ (i : Nat) (v : Vl), ρ[i]? = some (some v) → ∃ x, σ[i]? = some (some x) ∧ VRep K mg φ h H x v
theorem ERep.step {K : PySem.W.Frag} {φ φ' : List Addr} {h h' : Hh} {H H' : Hp} {σ : St} {ρ : En} (s : Step φ h H φ' h' H') (r : ERep K mg φ h H σ ρ) : ERep K mg φ' h' H' σ ρ :=
  ⟨r.len, fun i v e => let ⟨x, e1, q⟩ := r.at_ i v e; ⟨x, e1, q.step s⟩⟩
theorem ERep.set {K : PySem.W.Frag} {φ : List Addr} {h : Hh} {H : Hp} {σ : St} {ρ : En} {i : Nat} {x : V} {v : Vl} (r : ERep K mg φ h H σ ρ) (q : VRep K mg φ h H x v) : ERep K mg φ h H (σ.set i (some x)) (ρ.set i (some v)) := by
  refine ⟨by rw [List.length_set, List.length_set, r.len], fun j w e => ?_⟩
  by_cases hj : i = j
  · subst hj
    have hl : i < ρ.length := by
      have := (List.getElem?_eq_some_iff.mp e).1
      rw [List.length_set] at this
      exact this
    rw [List.getElem?_set_self hl] at e
    have e' := Option.some.inj (Option.some.inj e)
    subst e'
    exact ⟨x, by rw [List.getElem?_set_self (by rw [r.len]; exact hl)], q⟩
  · rw [List.getElem?_set_ne hj] at e
    obtain ⟨y, e1, q1⟩ := r.at_ j w e
    exact ⟨y, by rw [List.getElem?_set_ne hj]; exact e1, q1⟩

/-! ### readings made of outcomes -/
section
variable (K : PySem.W.Frag) (mg : Str → Option Value)
/-- behind an outcome: Q of a value -/
def PoV (φ : List Addr) (h : Hh) (H : Hp) (o : Out Vl) (Q : VK) : Prop := match o with
  | .ok v h' => ∀ x H' φ', Step φ h H φ' h' H' → Sim K φ' h' H' → VRep K mg φ' h' H' x v → Q x H'
  | _ => False
def PoX (φ : List Addr) (h : Hh) (H : Hp) (o : Out Vl) (Q : VK) (E : XK) : Prop := match o with
  | .ok v h' => ∀ x H' φ', Step φ h H φ' h' H' → Sim K φ' h' H' → VRep K mg φ' h' H' x v → Q x H'
  | .ex c fs h' => ∀ cls dd H' φ', Step φ h H φ' h' H' → Sim K φ' h' H' → XRep K mg H' (Live φ' h') c fs cls dd → E cls dd H'
  | .no => False
def PoT (φ : List Addr) (h : Hh) (H : Hp) (o : Out Bool) (Q : Bool → Hp → Prop) (E : XK) : Prop := match o with
  | .ok b h' => ∀ H' φ', Step φ h H φ' h' H' → Sim K φ' h' H' → Q b H'
  | .ex c fs h' => ∀ cls dd H' φ', Step φ h H φ' h' H' → Sim K φ' h' H' → XRep K mg H' (Live φ' h') c fs cls dd → E cls dd H'
  | .no => False
def PoA (φ : List Addr) (h : Hh) (H : Hp) (o : Out (List Vl)) (Q : List V → Hp → Prop) (E : XK) : Prop := match o with
  | .ok vs h' => ∀ xs H' φ', Step φ h H φ' h' H' → Sim K φ' h' H' → VReps K mg φ' h' H' xs vs → Q xs H'
  | .ex c fs h' => ∀ cls dd H' φ', Step φ h H φ' h' H' → Sim K φ' h' H' → XRep K mg H' (Live φ' h') c fs cls dd → E cls dd H'
  | .no => False
def PoS (φ : List Addr) (h : Hh) (H : Hp) (o : So) (D : Ends) (W : WX) : Prop := match o with
  | .nx ρ h' => ∀ σ' H' φ', Step φ h H φ' h' H' → Sim K φ' h' H' → ERep K mg φ' h' H' σ' ρ → D.nx σ' H'
  | .bk ρ h' => ∀ σ' H' φ', Step φ h H φ' h' H' → Sim K φ' h' H' → ERep K mg φ' h' H' σ' ρ → D.bk σ' H'
  | .ct ρ h' => ∀ σ' H' φ', Step φ h H φ' h' H' → Sim K φ' h' H' → ERep K mg φ' h' H' σ' ρ → D.ct σ' H'
  | .rt v h' => ∀ x H' φ', Step φ h H φ' h' H' → Sim K φ' h' H' → VRep K mg φ' h' H' x v → D.rt x H'
  | .ex c fs ρ h' => ∀ cls dd σ' H' φ', Step φ h H φ' h' H' → Sim K φ' h' H' → ERep K mg φ' h' H' σ' ρ → XRep K mg H' (Live φ' h') c fs cls dd → W cls dd σ' H'
  | .no => False
def tE (W : WX) (f : Ev) : TE := fun σ H Q => ∃ φ h ρ, Sim K φ h H ∧ ERep K mg φ h H σ ρ ∧ PoX K mg φ h H (f ρ h) Q (WE W σ)
def tT (W : WX) (f : Tv) : TT := fun σ H Q => ∃ φ h ρ, Sim K φ h H ∧ ERep K mg φ h H σ ρ ∧ PoT K mg φ h H (f ρ h) Q (WE W σ)
def tA (W : WX) (f : Av) : TA := fun σ H Q => ∃ φ h ρ, Sim K φ h H ∧ ERep K mg φ h H σ ρ ∧ PoA K mg φ h H (f ρ h) Q (WE W σ)
def tS (W : WX) (f : Sv) : TS := fun D σ H => ∃ φ h ρ, Sim K φ h H ∧ ERep K mg φ h H σ ρ ∧ PoS K mg φ h H (f ρ h) D W
end
/-- the judgements: X's code e means f; W: what is wished of errors -/
def EE (X : Cx) (W : WX) (e : Expr) (f : Ev) : Prop := PE X e (tE X.K X.mg W f)
def ET (X : Cx) (W : WX) (e : Expr) (f : Tv) : Prop := PT X e (tT X.K X.mg W f)
def EA (X : Cx) (W : WX) (es : List Expr) (f : Av) : Prop := PA X es (tA X.K X.mg W f)
def ES (X : Cx) (W : WX) (st : Stmt) (f : Sv) : Prop := PS X st (tS X.K X.mg W f)
def ESs (X : Cx) (W : WX) (st : List Stmt) (f : Sv) : Prop := PSs X st (tS X.K X.mg W f)

theorem PE.of {X : Cx} {e : Expr} {t t' : TE} (h : PE X e t) (i : ∀ σ H Q, t' σ H Q → t σ H Q) : PE X e t' := ⟨fun pins s σ H Q I w => h.run pins s σ H Q I (i σ H Q w)⟩
theorem PT.of {X : Cx} {e : Expr} {t t' : TT} (h : PT X e t) (i : ∀ σ H Q, t' σ H Q → t σ H Q) : PT X e t' := ⟨fun pins s σ H Q I w => h.run pins s σ H Q I (i σ H Q w)⟩
theorem PW.of {X : Cx} {e : Expr} {t t' : TT} (h : PW X e t) (i : ∀ σ H Q, t' σ H Q → t σ H Q) : PW X e t' := ⟨fun wh pins s σ H Q I w => h.run wh pins s σ H Q I (i σ H Q w)⟩
theorem PA.of {X : Cx} {e : List Expr} {t t' : TA} (h : PA X e t) (i : ∀ σ H Q, t' σ H Q → t σ H Q) : PA X e t' := ⟨fun pos pins s σ H Q I w => h.run pos pins s σ H Q I (i σ H Q w)⟩
theorem PS.of {X : Cx} {e : Stmt} {t t' : TS} (h : PS X e t) (i : ∀ D σ H, t' D σ H → t D σ H) : PS X e t' := ⟨fun pins s σ H Q I w => h.run pins s σ H Q I (i Q σ H w)⟩
theorem PSs.of {X : Cx} {e : List Stmt} {t t' : TS} (h : PSs X e t) (i : ∀ D σ H, t' D σ H → t D σ H) : PSs X e t' := ⟨fun pins s σ H Q I w => h.run pins s σ H Q I (i Q σ H w)⟩
end Rk

/-! Rk1: the abstract heap grows, changes, is frozen; readings in a row. -/
namespace Rk
open PySem PySem.Spec L2
variable {mg : Str → Option Value}
section
variable {K : PySem.W.Frag} {mg : Str → Option Value} {φ φ' φ1 : List Addr} {h h' h1 : Hh} {H H' H1 : Hp} {a p : Addr} {n : Nat}

theorem Sim.live (s : Sim K φ h H) {a : Addr} (l : Live φ h a) : ∃ o, H a = some o := by
  obtain ⟨i, o, e1, e2⟩ := l
  obtain ⟨b, e3, r⟩ := s.ob i o e2
  rw [e1] at e3
  have e4 := Option.some.inj e3
  subst e4
  cases o with
  | lst xs => obtain ⟨xs, e, _⟩ := r; exact ⟨_, e⟩
  | dct kvs => obtain ⟨xs, e, _⟩ := r; exact ⟨_, e⟩
  | tbl x => obtain ⟨c, ps, _, e, _⟩ := r; exact ⟨_, e⟩
  | rl ns => obtain ⟨xs, e⟩ := r; exact ⟨_, e⟩
/-- what stands where a live object is -/
theorem Sim.kind (s : Sim K φ h H) {a : Addr} (l : Live φ h a) : (∃ xs, H a = some (.lst xs)) ∨ (∃ kvs, H a = some (.dK kvs)) ∨ ∃ ps, H a = some (.tbl ps) := by
  obtain ⟨i, o, e1, e2⟩ := l
  obtain ⟨b, e3, r⟩ := s.ob i o e2
  rw [e1] at e3
  have e4 := Option.some.inj e3
  subst e4
  cases o with
  | lst xs => obtain ⟨xs, e, _⟩ := r; exact .inl ⟨_, e⟩
  | dct kvs => obtain ⟨xs, e, _⟩ := r; exact .inr (.inl ⟨_, e⟩)
  | tbl x => obtain ⟨c, ps, _, e, _⟩ := r; exact .inr (.inr ⟨_, e⟩)
  | rl ns => obtain ⟨xs, e⟩ := r; exact .inl ⟨_, e⟩
theorem Sim.notCode (s : Sim K φ h H) {a c : Addr} {q : Str} (e : H a = some (LamX.CodeO c q)) : ¬ Live φ h a := fun l => by
  rcases s.kind l with ⟨xs, z⟩ | ⟨kvs, z⟩ | ⟨ps, z⟩ <;> rw [e] at z <;> unfold LamX.CodeO at z <;> cases z
theorem Sim.fresh (s : Sim K φ h H) (e : H p = none) : ¬ Live φ h p := fun l => by
  obtain ⟨o, q⟩ := s.live l
  rw [e] at q
  cases q
theorem ORep.stay {M M' : Addr → Prop} {o : Ob} (st : Stay H M H' M') (k : ∀ u, H a = some u → H' a = some u) (nc : ∀ (c : Addr) (q : Str), H c = some (LamX.CodeO c q) → ¬ M c) (r : ORep K H M a o) : ORep K H' M' a o := by
  cases o with
  | lst xs => obtain ⟨xs, e, q⟩ := r; exact ⟨xs, k _ e, q.stay st⟩
  | dct kvs => obtain ⟨xs, e, q⟩ := r; exact ⟨xs, k _ e, q.stay st⟩
  | tbl x =>
    obtain ⟨c, ps, e1, e2, e3, e4⟩ := r
    exact ⟨c, ps, e1, k _ e2, e3, fun pos cv z => (e4 pos cv z).imp fun c' w => ⟨w.1, (st _ _ w.2 LamX.codeO_ne (nc _ _ w.2)).1⟩⟩
  | rl ns => obtain ⟨xs, e⟩ := r; exact ⟨xs, k _ e⟩
/-- a new object that is not numbered -/
theorem Sim.grow (s : Sim K φ h H) {o : HO} (e : H p = none) : Step φ h H φ h (upd H p o) ∧ Sim K φ h (upd H p o) := by
  have k : ∀ b u, H b = some u → upd H p o b = some u := fun b u q => by rw [upd_ne (ne_of_none q e)]; exact q
  have st : Stay H (Live φ h) (upd H p o) (Live φ h) := fun b u q _ n => ⟨k b u q, n⟩
  refine ⟨⟨List.prefix_refl φ, st⟩, s.len, s.inj, fun i ob e2 => ?_, fun i ns e2 => ?_⟩
  · obtain ⟨b, e3, r⟩ := s.ob i ob e2
    exact ⟨b, e3, r.stay st (k b) fun _ _ z => s.notCode z⟩
  · obtain ⟨b, as, e3, e4, e5, e6⟩ := s.rf i ns e2
    exact ⟨b, as, e3, k b _ e4, e5, e6⟩
theorem live_new {o : Ob} (hl : φ.length = h.length) {b : Addr} : Live (φ ++ [p]) (h ++ [some o]) b ↔ Live φ h b ∨ b = p := by
  constructor
  · rintro ⟨i, u, e1, e2⟩
    by_cases hi : i < φ.length
    · rw [List.getElem?_append_left hi] at e1
      rw [List.getElem?_append_left (by omega)] at e2
      exact .inl ⟨i, u, e1, e2⟩
    · rw [List.getElem?_append_right (by omega)] at e1
      have : i - φ.length = 0 := by
        have := (List.getElem?_eq_some_iff.mp e1).1
        simp at this
        omega
      rw [this] at e1
      exact .inr (Option.some.inj e1).symm
  · rintro (⟨i, u, e1, e2⟩ | rfl)
    · exact ⟨i, u, by rw [List.getElem?_append_left (List.getElem?_eq_some_iff.mp e1).1]; exact e1, by rw [List.getElem?_append_left (List.getElem?_eq_some_iff.mp e2).1]; exact e2⟩
    · exact ⟨φ.length, o, by simp, by rw [hl]; simp⟩
/-- a new object that is numbered -/
theorem Sim.new (s : Sim K φ h H) {o : HO} {ob : Ob} (e : H p = none) (r : ∀ M, Stay H (Live φ h) (upd H p o) M → ORep K (upd H p o) M p ob) (nr : ∀ ns, ob ≠ .rl ns := by intro _ z; cases z) :
    Step φ h H (φ ++ [p]) (h ++ [some ob]) (upd H p o) ∧ Sim K (φ ++ [p]) (h ++ [some ob]) (upd H p o) ∧ VRep K mg (φ ++ [p]) (h ++ [some ob]) (upd H p o) (.ref p) (.r h.length) := by
  have k : ∀ b u, H b = some u → upd H p o b = some u := fun b u q => by rw [upd_ne (ne_of_none q e)]; exact q
  have st : Stay H (Live φ h) (upd H p o) (Live (φ ++ [p]) (h ++ [some ob])) := fun b u q _ n => ⟨k b u q, fun l => by
    rcases (live_new s.len).mp l with l | rfl
    · exact n l
    · rw [e] at q; cases q⟩
  have nl := s.fresh e
  have hgt : ∀ (i : Nat) (b : Addr) (u : Ob), (φ ++ [p])[i]? = some b → (h ++ [some ob])[i]? = some (some u) → (i < φ.length ∧ φ[i]? = some b ∧ h[i]? = some (some u)) ∨ (i = φ.length ∧ b = p ∧ u = ob) := fun i b u e1 e2 => by
    by_cases hi : i < φ.length
    · rw [List.getElem?_append_left hi] at e1
      rw [List.getElem?_append_left (by rw [← s.len]; exact hi)] at e2
      exact .inl ⟨hi, e1, e2⟩
    · have hz : i = φ.length := by
        have := (List.getElem?_eq_some_iff.mp e1).1
        simp at this
        omega
      subst hz
      rw [List.getElem?_append_right (by omega)] at e1
      rw [s.len, List.getElem?_append_right (by omega)] at e2
      simp at e1 e2
      exact .inr ⟨rfl, e1.symm, e2.symm⟩
  refine ⟨⟨List.prefix_append φ [p], st⟩, ⟨by simp [s.len], fun i j b u u' e1 e2 e3 e4 => ?_, fun i u e2 => ?_, fun i ns e2 => ?_⟩, ?_⟩
  · rcases hgt i b u e1 e3 with ⟨h1, h2, h3⟩ | ⟨h1, h2, h3⟩ <;> rcases hgt j b u' e2 e4 with ⟨g1, g2, g3⟩ | ⟨g1, g2, g3⟩
    · exact s.inj i j b u u' h2 g2 h3 g3
    · subst g2; exact absurd ⟨i, u, h2, h3⟩ nl
    · subst h2; exact absurd ⟨j, u', g2, g3⟩ nl
    · omega
  · by_cases hi : i < φ.length
    · have e2' : h[i]? = some (some u) := by
        rw [List.getElem?_append_left (by rw [← s.len]; exact hi)] at e2
        exact e2
      obtain ⟨b, e3, q⟩ := s.ob i u e2'
      exact ⟨b, by rw [List.getElem?_append_left hi]; exact e3, q.stay st (k b) fun _ _ z => s.notCode z⟩
    · have hz : i = h.length := by
        have := (List.getElem?_eq_some_iff.mp e2).1
        have := s.len
        simp at *
        omega
      subst hz
      rw [List.getElem?_append_right (by omega)] at e2
      simp at e2
      subst e2
      exact ⟨p, by rw [← s.len]; simp, r _ st⟩
  · by_cases hi : i < φ.length
    · have e2' : h[i]? = some (some (.rl ns)) := by
        rw [List.getElem?_append_left (by rw [← s.len]; exact hi)] at e2
        exact e2
      obtain ⟨b, as, e3, e4, e5, e6⟩ := s.rf i ns e2'
      refine ⟨b, as, by rw [List.getElem?_append_left hi]; exact e3, k b _ e4, e5, fun k0 n0 z => ?_⟩
      obtain ⟨z1, z2⟩ := e6 k0 n0 z
      exact ⟨z1, by rw [List.getElem?_append_left (by omega)]; exact z2⟩
    · have hz : i = h.length := by
        have := (List.getElem?_eq_some_iff.mp e2).1
        have := s.len
        simp at *
        omega
      subst hz
      rw [List.getElem?_append_right (by omega)] at e2
      simp at e2
      exact absurd e2 (nr ns)
  · exact ⟨p, by rw [← s.len]; simp, rfl⟩
theorem live_set {o ob : Ob} (e : h[n]? = some (some o)) {b : Addr} : Live φ (h.set n (some ob)) b ↔ Live φ h b := by
  have hl := (List.getElem?_eq_some_iff.mp e).1
  constructor
  · rintro ⟨i, u, e1, e2⟩
    by_cases hi : n = i
    · subst hi; exact ⟨n, o, e1, e⟩
    · rw [List.getElem?_set_ne hi] at e2; exact ⟨i, u, e1, e2⟩
  · rintro ⟨i, u, e1, e2⟩
    by_cases hi : n = i
    · subst hi; exact ⟨n, ob, e1, by rw [List.getElem?_set_self hl]⟩
    · exact ⟨i, u, e1, by rw [List.getElem?_set_ne hi]; exact e2⟩
/-- an object changes -/
theorem Sim.write (s : Sim K φ h H) {o ob : Ob} {u : HO} (e : h[n]? = some (some o)) (ea : φ[n]? = some a) (r : ∀ M, Stay H (Live φ h) (upd H a u) M → ORep K (upd H a u) M a ob) (nr : ∀ ns, ob ≠ .rl ns := by intro _ z; cases z) :
    Step φ h H φ (h.set n (some ob)) (upd H a u) ∧ Sim K φ (h.set n (some ob)) (upd H a u) := by
  have la : Live φ h a := ⟨n, o, ea, e⟩
  have hl := (List.getElem?_eq_some_iff.mp e).1
  have st : Stay H (Live φ h) (upd H a u) (Live φ (h.set n (some ob))) := fun b v q _ nb => ⟨by rw [upd_ne (fun z => nb (by rw [z]; exact la))]; exact q, fun l => nb ((live_set e).mp l)⟩
  have back : ∀ (i : Nat) (v : Ob), (h.set n (some ob))[i]? = some (some v) → ∃ v', h[i]? = some (some v') := fun i v e2 => by
    by_cases hi : n = i
    · subst hi; exact ⟨o, e⟩
    · rw [List.getElem?_set_ne hi] at e2; exact ⟨v, e2⟩
  refine ⟨⟨List.prefix_refl φ, st⟩, ⟨by rw [List.length_set]; exact s.len, fun i j b v v' e1 e2 e3 e4 => ?_, fun i v e2 => ?_, fun i ns e2 => ?_⟩⟩
  · obtain ⟨w, f3⟩ := back i v e3
    obtain ⟨w', f4⟩ := back j v' e4
    exact s.inj i j b w w' e1 e2 f3 f4
  · by_cases hi : n = i
    · subst hi
      rw [List.getElem?_set_self hl] at e2
      have e3 := Option.some.inj (Option.some.inj e2)
      subst e3
      exact ⟨a, ea, r _ st⟩
    · rw [List.getElem?_set_ne hi] at e2
      obtain ⟨b, e3, q⟩ := s.ob i v e2
      refine ⟨b, e3, q.stay st (fun w hw => ?_) fun _ _ z => s.notCode z⟩
      rw [upd_ne (fun z => hi (s.inj n i a o v ea (by rw [← z]; exact e3) e e2))]
      exact hw
  · by_cases hi : n = i
    · subst hi
      rw [List.getElem?_set_self hl] at e2
      exact absurd (Option.some.inj (Option.some.inj e2)) (nr ns)
    · rw [List.getElem?_set_ne hi] at e2
      obtain ⟨b, as, e3, e4, e5, e6⟩ := s.rf i ns e2
      refine ⟨b, as, e3, ?_, e5, e6⟩
      rw [upd_ne (fun z => hi (s.inj n i a o _ ea (by rw [← z]; exact e3) e e2))]
      exact e4
/-- an object is frozen: it never changes from now on -/
theorem Sim.freeze (s : Sim K φ h H) {o : Ob} (e : h[n]? = some (some o)) (ea : φ[n]? = some a) : Step φ h H φ (h.set n none) H ∧ Sim K φ (h.set n none) H ∧ ¬ Live φ (h.set n none) a := by
  have hl := (List.getElem?_eq_some_iff.mp e).1
  have less : ∀ b, Live φ (h.set n none) b → Live φ h b := fun b ⟨i, u, e1, e2⟩ => by
    by_cases hi : n = i
    · subst hi; rw [List.getElem?_set_self hl] at e2; cases e2
    · rw [List.getElem?_set_ne hi] at e2; exact ⟨i, u, e1, e2⟩
  have st : Stay H (Live φ h) H (Live φ (h.set n none)) := fun b v q _ nb => ⟨q, fun l => nb (less b l)⟩
  have back : ∀ (i : Nat) (v : Ob), (h.set n none)[i]? = some (some v) → h[i]? = some (some v) ∧ n ≠ i := fun i v e2 => by
    by_cases hi : n = i
    · subst hi; rw [List.getElem?_set_self hl] at e2; cases e2
    · rw [List.getElem?_set_ne hi] at e2; exact ⟨e2, hi⟩
  refine ⟨⟨List.prefix_refl φ, st⟩, ⟨by rw [List.length_set]; exact s.len, fun i j b v v' e1 e2 e3 e4 => s.inj i j b v v' e1 e2 (back i v e3).1 (back j v' e4).1, fun i v e2 => ?_, fun i ns e2 => s.rf i ns (back i _ e2).1⟩, ?_⟩
  · obtain ⟨b, e3, q⟩ := s.ob i v (back i v e2).1
    exact ⟨b, e3, q.stay st (fun _ hw => hw) fun _ _ z => s.notCode z⟩
  · rintro ⟨i, v, e1, e2⟩
    have q := back i v e2
    exact q.2 (s.inj n i a o v ea e1 e q.1)

/-! ### readings in a row -/
theorem PoX.pull {o : Out Vl} {Q : VK} {E : XK} (s : Step φ h H φ1 h1 H1) (q : PoX K mg φ h H o Q E) : PoX K mg φ1 h1 H1 o Q E := by
  cases o with
  | ok v h2 => exact fun x H' φ' st => q x H' φ' (s.trans st)
  | ex c fs h2 => exact fun cls dd H' φ' st => q cls dd H' φ' (s.trans st)
  | no => exact q
theorem PoT.pull {o : Out Bool} {Q : Bool → Hp → Prop} {E : XK} (s : Step φ h H φ1 h1 H1) (q : PoT K mg φ h H o Q E) : PoT K mg φ1 h1 H1 o Q E := by
  cases o with
  | ok v h2 => exact fun H' φ' st => q H' φ' (s.trans st)
  | ex c fs h2 => exact fun cls dd H' φ' st => q cls dd H' φ' (s.trans st)
  | no => exact q
theorem PoA.pull {o : Out (List Vl)} {Q : List V → Hp → Prop} {E : XK} (s : Step φ h H φ1 h1 H1) (q : PoA K mg φ h H o Q E) : PoA K mg φ1 h1 H1 o Q E := by
  cases o with
  | ok v h2 => exact fun x H' φ' st => q x H' φ' (s.trans st)
  | ex c fs h2 => exact fun cls dd H' φ' st => q cls dd H' φ' (s.trans st)
  | no => exact q
theorem PoS.pull {o : So} {D : Ends} {W : WX} (s : Step φ h H φ1 h1 H1) (q : PoS K mg φ h H o D W) : PoS K mg φ1 h1 H1 o D W := by
  cases o with
  | nx ρ h2 => exact fun x H' φ' st => q x H' φ' (s.trans st)
  | rt v h2 => exact fun x H' φ' st => q x H' φ' (s.trans st)
  | bk ρ h2 => exact fun x H' φ' st => q x H' φ' (s.trans st)
  | ct ρ h2 => exact fun x H' φ' st => q x H' φ' (s.trans st)
  | ex c fs ρ h2 => exact fun cls dd x H' φ' st => q cls dd x H' φ' (s.trans st)
  | no => exact q
/-- the outcome's own end, at once -/
theorem PoX.now {v : Vl} {x : V} {Q : VK} {E : XK} (q : PoX K mg φ h H (.ok v h) Q E) (s : Sim K φ h H) (r : VRep K mg φ h H x v) : Q x H := q x H φ (Step.refl _ _ _) s r
variable {E : XK}
theorem PoX.goE {o : Out Vl} {k : Vl → Hh → Out Vl} {Q : VK} {Q1 : VK} (q : PoX K mg φ h H (o.bind k) Q E)
    (hk : ∀ (x : V) (v : Vl) (h1 : Hh) (H1 : Hp) (φ1 : List Addr), Step φ h H φ1 h1 H1 → Sim K φ1 h1 H1 → VRep K mg φ1 h1 H1 x v → PoX K mg φ1 h1 H1 (k v h1) Q E → Q1 x H1) : PoX K mg φ h H o Q1 E := by
  cases o with
  | ok v h1 => exact fun x H' φ' st sm' rv => hk x v h1 H' φ' st sm' rv (PoX.pull st q)
  | ex c fs h1 => exact q
  | no => exact q
theorem PoX.goT {o : Out Bool} {k : Bool → Hh → Out Vl} {Q : VK} {Q1 : (Bool → Hp → Prop)} (q : PoX K mg φ h H (o.bind k) Q E)
    (hk : ∀ (v : Bool) (h1 : Hh) (H1 : Hp) (φ1 : List Addr), Step φ h H φ1 h1 H1 → Sim K φ1 h1 H1 → PoX K mg φ1 h1 H1 (k v h1) Q E → Q1 v H1) : PoT K mg φ h H o Q1 E := by
  cases o with
  | ok v h1 => exact fun H' φ' st sm' => hk v h1 H' φ' st sm' (PoX.pull st q)
  | ex c fs h1 => exact q
  | no => exact q
theorem PoX.goA {o : Out (List Vl)} {k : (List Vl) → Hh → Out Vl} {Q : VK} {Q1 : (List V → Hp → Prop)} (q : PoX K mg φ h H (o.bind k) Q E)
    (hk : ∀ (x : List V) (v : List Vl) (h1 : Hh) (H1 : Hp) (φ1 : List Addr), Step φ h H φ1 h1 H1 → Sim K φ1 h1 H1 → VReps K mg φ1 h1 H1 x v → PoX K mg φ1 h1 H1 (k v h1) Q E → Q1 x H1) : PoA K mg φ h H o Q1 E := by
  cases o with
  | ok v h1 => exact fun x H' φ' st sm' rv => hk x v h1 H' φ' st sm' rv (PoX.pull st q)
  | ex c fs h1 => exact q
  | no => exact q
theorem PoT.goE {o : Out Vl} {k : Vl → Hh → Out Bool} {Q : (Bool → Hp → Prop)} {Q1 : VK} (q : PoT K mg φ h H (o.bind k) Q E)
    (hk : ∀ (x : V) (v : Vl) (h1 : Hh) (H1 : Hp) (φ1 : List Addr), Step φ h H φ1 h1 H1 → Sim K φ1 h1 H1 → VRep K mg φ1 h1 H1 x v → PoT K mg φ1 h1 H1 (k v h1) Q E → Q1 x H1) : PoX K mg φ h H o Q1 E := by
  cases o with
  | ok v h1 => exact fun x H' φ' st sm' rv => hk x v h1 H' φ' st sm' rv (PoT.pull st q)
  | ex c fs h1 => exact q
  | no => exact q
theorem PoT.goT {o : Out Bool} {k : Bool → Hh → Out Bool} {Q : (Bool → Hp → Prop)} {Q1 : (Bool → Hp → Prop)} (q : PoT K mg φ h H (o.bind k) Q E)
    (hk : ∀ (v : Bool) (h1 : Hh) (H1 : Hp) (φ1 : List Addr), Step φ h H φ1 h1 H1 → Sim K φ1 h1 H1 → PoT K mg φ1 h1 H1 (k v h1) Q E → Q1 v H1) : PoT K mg φ h H o Q1 E := by
  cases o with
  | ok v h1 => exact fun H' φ' st sm' => hk v h1 H' φ' st sm' (PoT.pull st q)
  | ex c fs h1 => exact q
  | no => exact q
theorem PoT.goA {o : Out (List Vl)} {k : (List Vl) → Hh → Out Bool} {Q : (Bool → Hp → Prop)} {Q1 : (List V → Hp → Prop)} (q : PoT K mg φ h H (o.bind k) Q E)
    (hk : ∀ (x : List V) (v : List Vl) (h1 : Hh) (H1 : Hp) (φ1 : List Addr), Step φ h H φ1 h1 H1 → Sim K φ1 h1 H1 → VReps K mg φ1 h1 H1 x v → PoT K mg φ1 h1 H1 (k v h1) Q E → Q1 x H1) : PoA K mg φ h H o Q1 E := by
  cases o with
  | ok v h1 => exact fun x H' φ' st sm' rv => hk x v h1 H' φ' st sm' rv (PoT.pull st q)
  | ex c fs h1 => exact q
  | no => exact q
theorem PoA.goE {o : Out Vl} {k : Vl → Hh → Out (List Vl)} {Q : (List V → Hp → Prop)} {Q1 : VK} (q : PoA K mg φ h H (o.bind k) Q E)
    (hk : ∀ (x : V) (v : Vl) (h1 : Hh) (H1 : Hp) (φ1 : List Addr), Step φ h H φ1 h1 H1 → Sim K φ1 h1 H1 → VRep K mg φ1 h1 H1 x v → PoA K mg φ1 h1 H1 (k v h1) Q E → Q1 x H1) : PoX K mg φ h H o Q1 E := by
  cases o with
  | ok v h1 => exact fun x H' φ' st sm' rv => hk x v h1 H' φ' st sm' rv (PoA.pull st q)
  | ex c fs h1 => exact q
  | no => exact q
theorem PoA.goT {o : Out Bool} {k : Bool → Hh → Out (List Vl)} {Q : (List V → Hp → Prop)} {Q1 : (Bool → Hp → Prop)} (q : PoA K mg φ h H (o.bind k) Q E)
    (hk : ∀ (v : Bool) (h1 : Hh) (H1 : Hp) (φ1 : List Addr), Step φ h H φ1 h1 H1 → Sim K φ1 h1 H1 → PoA K mg φ1 h1 H1 (k v h1) Q E → Q1 v H1) : PoT K mg φ h H o Q1 E := by
  cases o with
  | ok v h1 => exact fun H' φ' st sm' => hk v h1 H' φ' st sm' (PoA.pull st q)
  | ex c fs h1 => exact q
  | no => exact q
theorem PoA.goA {o : Out (List Vl)} {k : (List Vl) → Hh → Out (List Vl)} {Q : (List V → Hp → Prop)} {Q1 : (List V → Hp → Prop)} (q : PoA K mg φ h H (o.bind k) Q E)
    (hk : ∀ (x : List V) (v : List Vl) (h1 : Hh) (H1 : Hp) (φ1 : List Addr), Step φ h H φ1 h1 H1 → Sim K φ1 h1 H1 → VReps K mg φ1 h1 H1 x v → PoA K mg φ1 h1 H1 (k v h1) Q E → Q1 x H1) : PoA K mg φ h H o Q1 E := by
  cases o with
  | ok v h1 => exact fun x H' φ' st sm' rv => hk x v h1 H' φ' st sm' rv (PoA.pull st q)
  | ex c fs h1 => exact q
  | no => exact q
/-- outcome of an expression, then a statement's end -/
def Out.then {α : Type} (ρ : En) : Out α → (α → Hh → So) → So
  | .ok a h, f => f a h
  | .ex c fs h, _ => .ex c fs ρ h
  | .no, _ => .no
theorem Out.then_ok {α : Type} (ρ : En) (a : α) (h : Hh) (f : α → Hh → So) : Out.then ρ (Out.ok a h) f = f a h := rfl
theorem Out.then_ex {α : Type} (ρ : En) (c : Str) (fs : List (Str × Da)) (h : Hh) (f : α → Hh → So) : Out.then ρ (Out.ex c fs h) f = .ex c fs ρ h := rfl
variable {W : WX} {σ : L2.St} {ρ : En} {D : Ends}
theorem PoS.goE {o : Out Vl} {k : Vl → Hh → So} {Q1 : VK} (er : ERep K mg φ h H σ ρ) (q : PoS K mg φ h H (Out.then ρ o k) D W)
    (hk : ∀ (x : V) (v : Vl) (h1 : Hh) (H1 : Hp) (φ1 : List Addr), Step φ h H φ1 h1 H1 → Sim K φ1 h1 H1 → ERep K mg φ1 h1 H1 σ ρ → VRep K mg φ1 h1 H1 x v → PoS K mg φ1 h1 H1 (k v h1) D W → Q1 x H1) : PoX K mg φ h H o Q1 (WE W σ) := by
  cases o with
  | ok v h1 => exact fun x H' φ' st sm' rv => hk x v h1 H' φ' st sm' (er.step st) rv (PoS.pull st q)
  | ex c fs h1 => exact fun cls dd H' φ' st sm' xr => q cls dd σ H' φ' st sm' (er.step st) xr
  | no => exact q
theorem PoS.goT {o : Out Bool} {k : Bool → Hh → So} {Q1 : (Bool → Hp → Prop)} (er : ERep K mg φ h H σ ρ) (q : PoS K mg φ h H (Out.then ρ o k) D W)
    (hk : ∀ (v : Bool) (h1 : Hh) (H1 : Hp) (φ1 : List Addr), Step φ h H φ1 h1 H1 → Sim K φ1 h1 H1 → ERep K mg φ1 h1 H1 σ ρ → PoS K mg φ1 h1 H1 (k v h1) D W → Q1 v H1) : PoT K mg φ h H o Q1 (WE W σ) := by
  cases o with
  | ok v h1 => exact fun H' φ' st sm' => hk v h1 H' φ' st sm' (er.step st) (PoS.pull st q)
  | ex c fs h1 => exact fun cls dd H' φ' st sm' xr => q cls dd σ H' φ' st sm' (er.step st) xr
  | no => exact q
theorem PoS.goA {o : Out (List Vl)} {k : (List Vl) → Hh → So} {Q1 : (List V → Hp → Prop)} (er : ERep K mg φ h H σ ρ) (q : PoS K mg φ h H (Out.then ρ o k) D W)
    (hk : ∀ (x : List V) (v : List Vl) (h1 : Hh) (H1 : Hp) (φ1 : List Addr), Step φ h H φ1 h1 H1 → Sim K φ1 h1 H1 → ERep K mg φ1 h1 H1 σ ρ → VReps K mg φ1 h1 H1 x v → PoS K mg φ1 h1 H1 (k v h1) D W → Q1 x H1) : PoA K mg φ h H o Q1 (WE W σ) := by
  cases o with
  | ok v h1 => exact fun x H' φ' st sm' rv => hk x v h1 H' φ' st sm' (er.step st) rv (PoS.pull st q)
  | ex c fs h1 => exact fun cls dd H' φ' st sm' xr => q cls dd σ H' φ' st sm' (er.step st) xr
  | no => exact q
end
end Rk

/-! Rk2: expressions. -/
namespace Rk
open PySem PySem.Spec L2
variable {mg : Str → Option Value}
/-! ### data out of values -/
def fitB (n : Nat) : Bool := decide (n ≤ 16777216)
theorem fitB_ok {n : Nat} (h : n ≤ 16777216) : fitB n = true := decide_eq_true h
theorem fitB_le {n : Nat} (h : fitB n = true) : n ≤ sizeLine := by
  rw [sizeLine_eq]
  exact of_decide_eq_true h
/-- a list that is read -/
def asL : Vl → Hh → Option (List Da)
  | .d (.list xs), _ => some xs
  | .r n, h => match h[n]? with
    | some (some (.lst xs)) => some xs
    | _ => none
  | _, _ => none
/-- the data of a value, as it stands now -/
def asD : Vl → Hh → Option Da
  | .d x, _ => some x
  | .r n, h => match h[n]? with
    | some (some (.lst xs)) => some (.list xs)
    | _ => none
  | _, _ => none
/-- data for ever: an object is frozen -/
def fz : Vl → Hh → Option (Da × Hh)
  | .d x, h => some (x, h)
  | .r n, h => match h[n]? with
    | some (some (.lst xs)) => some (.list xs, h.set n none)
    | _ => none
  | _, _ => none
def fzs : List Vl → Hh → Option (List Da × Hh)
  | [], h => some ([], h)
  | v :: vs, h => (fz v h).bind fun p => (fzs vs p.2).map fun q => (p.1 :: q.1, q.2)
section
variable {K : PySem.W.Frag} {φ : List Addr} {h h' : Hh} {H : Hp} {x : V} {v : Vl}
theorem Sim.at_ (s : Sim K φ h H) {n : Nat} {o : Ob} {a : Addr} (e : h[n]? = some (some o)) (ea : φ[n]? = some a) : ORep K H (Live φ h) a o := by
  obtain ⟨b, e1, r⟩ := s.ob n o e
  rw [ea] at e1
  have := Option.some.inj e1
  subst this
  exact r
theorem asL_ok {ds : List Da} (s : Sim K φ h H) (r : VRep K mg φ h H x v) (e : asL v h = some ds) : ∃ a xs, x = .ref a ∧ SqL K H a xs ∧ Reps K H (Live φ h) xs ds := by
  unfold asL at e
  split at e
  · cases e
    cases r with
    | lst h1 n r => exact ⟨_, _, rfl, .inl h1, r⟩
    | lstK h1 r => exact ⟨_, _, rfl, .inr h1, r⟩
  · split at e
    · cases e
      obtain ⟨a, ea, rfl⟩ := r
      obtain ⟨xs, e2, q⟩ := s.at_ (by assumption) ea
      exact ⟨a, xs, rfl, .of e2, q⟩
    · cases e
  · cases e
mutual
theorem Rep.dp {M : Addr → Prop} : ∀ {v : V} {d : Da}, Rep K H M v d → d.hasDict = false → Dp K H v d
  | _, _, .non, _ => .non
  | _, _, .bl b, _ => .bl b
  | _, _, .int i, _ => .int i
  | _, _, .str x, _ => .str x
  | _, _, .tup h n r, e => .tup (.inl h) (Reps.dp r (by unfold PyData.hasDict at e; exact e))
  | _, _, .tupK h r, e => .tup (.inr h) (Reps.dp r (by unfold PyData.hasDict at e; exact e))
  | _, _, .lst h n r, e => .lst (.inl h) (Reps.dp r (by unfold PyData.hasDict at e; exact e))
  | _, _, .lstK h r, e => .lst (.inr h) (Reps.dp r (by unfold PyData.hasDict at e; exact e))
  | _, _, .dct0 h n, e => by
    unfold PyData.hasDict at e
    cases e
  | _, _, .dct _ _ _ _ _, e => by
    unfold PyData.hasDict at e
    cases e
  | _, _, .fn _, e => by
    unfold PyData.hasDict at e
    cases e
  | _, _, .plt _ _ _ _, e => by
    unfold PyData.hasDict at e
    cases e
theorem Reps.dp {M : Addr → Prop} : ∀ {vs : List V} {ds : List Da}, Reps K H M vs ds → PyData.hasDictAll ds = false → DpAll K H vs ds
  | _, _, .nil, _ => .nil
  | _, _, .cons r t, e => by
    unfold PyData.hasDictAll at e
    rw [Bool.or_eq_false_iff] at e
    exact .cons (Rep.dp r e.1) (Reps.dp t e.2)
end
theorem asD_ok {d : Da} (s : Sim K φ h H) (r : VRep K mg φ h H x v) (e : asD v h = some d) (nd : d.hasDict = false) : Dp K H x d := by
  unfold asD at e
  split at e
  · cases e
    exact Rep.dp r nd
  · split at e
    · cases e
      obtain ⟨a, ea, rfl⟩ := r
      obtain ⟨xs, e2, q⟩ := s.at_ (by assumption) ea
      exact .lst (.of e2) (Reps.dp q (by unfold PyData.hasDict at nd; exact nd))
    · cases e
  · cases e
theorem fz_ok {d : Da} (s : Sim K φ h H) (r : VRep K mg φ h H x v) (e : fz v h = some (d, h')) : Step φ h H φ h' H ∧ Sim K φ h' H ∧ Rep K H (Live φ h') x d := by
  unfold fz at e
  split at e
  · cases e
    exact ⟨Step.refl _ _ _, s, r⟩
  · split at e
    · cases e
      obtain ⟨a, ea, rfl⟩ := r
      rename_i hn
      obtain ⟨xs, e2, q⟩ := s.at_ hn ea
      obtain ⟨s1, s2, s3⟩ := s.freeze hn ea
      exact ⟨s1, s2, .lst (.inl e2) s3 (q.stay s1.st)⟩
    · cases e
  · cases e
theorem fzs_ok : ∀ {vs : List Vl} {xs : List V} {ds : List Da} {h h' : Hh}, Sim K φ h H → VReps K mg φ h H xs vs → fzs vs h = some (ds, h') → Step φ h H φ h' H ∧ Sim K φ h' H ∧ Reps K H (Live φ h') xs ds
  | [], _, _, _, _, s, .nil, e => by
    cases e
    exact ⟨Step.refl _ _ _, s, .nil⟩
  | v :: vs, _, ds, h, h', s, .cons r t, e => by
    unfold fzs at e
    cases e1 : fz v h with
    | none => rw [e1] at e; cases e
    | some p =>
      obtain ⟨d, h1⟩ := p
      rw [e1] at e
      dsimp only [Option.bind_some] at e
      obtain ⟨s1, s2, s3⟩ := fz_ok s r e1
      cases e2 : fzs vs h1 with
      | none => rw [e2] at e; cases e
      | some q =>
        obtain ⟨es, h2⟩ := q
        rw [e2] at e
        cases e
        obtain ⟨t1, t2, t3⟩ := fzs_ok s2 (t.step s1) e2
        exact ⟨s1.trans t1, t2, .cons (s3.stay t1.st) t3⟩
end

/-! ### names, constants -/
def eVar (i : Nat) : Ev := fun ρ h => match ρ[i]? with
  | some (some v) => .ok v h
  | _ => .no
def eD (d : Da) : Ev := fun _ h => .ok (.d d) h
section
variable {X : Cx} {W : WX}
theorem ee_var (i : Nat) {x : Str} {pos : Pos} (hN : X.N[i]? = some x := by rfl) (hv : Vis X.env.scope x := by first | exact Or.inl rfl | exact Or.inr (Or.inl rfl) | exact Or.inr (Or.inr rfl)) (hd : (x == ("__debug__" : Str)) = false := by decide)
    (hcd : (x == ("__classdict__" : Str)) = false := by decide) : EE X W (.Name x pos) (eVar i) :=
  PE.of (pe_var hN hv hd hcd) fun σ H Q ⟨φ, h, ρ, sm, er, q⟩ => by
    unfold eVar at q
    split at q
    · rename_i v e
      obtain ⟨y, e1, r⟩ := er.at_ i v e
      exact ⟨y, e1, q.now sm r⟩
    · exact q.elim
theorem ee_c {e : Expr} {v : V} {d : Da} (p : PE X e (tC v)) (k : KRep X.K v d) : EE X W e (eD d) :=
  PE.of p fun σ H Q ⟨φ, h, ρ, sm, er, q⟩ => PoX.now (v := .d d) q sm (k _ _)
theorem ee_int {i : Int} {j : Nat} {pos : Pos} : EE X W (.Constant (.int i) j pos) (eD (.int i)) := ee_c pe_int fun _ _ => .int i
theorem ee_bl {b : Bool} {j : Nat} {pos : Pos} : EE X W (.Constant (.bool b) j pos) (eD (.bool b)) := ee_c pe_bl fun _ _ => .bl b
theorem ee_non {j : Nat} {pos : Pos} : EE X W (.Constant .none j pos) (eD .none) := ee_c pe_non fun _ _ => .non
theorem ee_str {x : Str} {j : Nat} {pos : Pos} : EE X W (.Constant (.str x) j pos) (eD (.str x)) := ee_c pe_str fun _ _ => .str x
theorem ee_glob {x : Str} {v : V} {u : Value} {d : Da} {pos : Pos} (hg : Gl X x) (hm : X.mg x = some u) (r : RelV v u) (k : KRep X.K v d) (hd : (x == ("__debug__" : Str)) = false := by decide) : EE X W (.Name x pos) (eD d) := ee_c (pe_glob hg hm r hd) k
end

/-! ### operators -/
def ofO : Option (Vl × Hh) → Out Vl
  | some p => .ok p.1 p.2
  | none => .no
theorem ofO_some (v : Vl) (h : Hh) : ofO (some (v, h)) = .ok v h := rfl
abbrev G2 := Vl → Vl → Hh → Option (Vl × Hh)
def eOp (g : G2) (a b : Ev) : Ev := fun ρ h => (a ρ h).bind fun x h1 => (b ρ h1).bind fun y h2 => ofO (g x y h2)
def Ok2 (K : PySem.W.Frag) (mg : Str → Option Value) (r : R2) (g : G2) : Prop := ∀ (φ : List Addr) (h : Hh) (H : Hp) (x y : V) (a b : Vl) (Q : VK) (v : Vl) (h' : Hh), Sim K φ h H → VRep K mg φ h H x a → VRep K mg φ h H y b → g a b h = some (v, h') →
  (∀ z H' φ', Step φ h H φ' h' H' → Sim K φ' h' H' → VRep K mg φ' h' H' z v → Q z H') → r x y H Q
theorem PoX.ofO {K : PySem.W.Frag} {mg : Str → Option Value} {φ : List Addr} {h : Hh} {H : Hp} {o : Option (Vl × Hh)} {Q : VK} {E : XK} (q : PoX K mg φ h H (Rk.ofO o) Q E) :
    ∃ v h', o = some (v, h') ∧ ∀ z H' φ', Step φ h H φ' h' H' → Sim K φ' h' H' → VRep K mg φ' h' H' z v → Q z H' := by
  cases o with
  | none => exact q.elim
  | some p => exact ⟨p.1, p.2, rfl, q⟩
section
variable {X : Cx} {W : WX} {a b c : Expr} {fa fb fc : Ev} {pos : Pos} {r r' : R2} {g g' : G2}
theorem tOp_ok {σ : L2.St} {H : Hp} {Q : VK} (ok : Ok2 X.K X.mg r g) (hf : tE X.K X.mg W (eOp g fa fb) σ H Q) : tOp r (tE X.K X.mg W fa) (tE X.K X.mg W fb) σ H Q := by
  obtain ⟨φ, h, ρ, sm, er, q⟩ := hf
  refine ⟨φ, h, ρ, sm, er, PoX.goE q fun x v h1 H1 φ1 st sm1 rv q1 => ⟨φ1, h1, ρ, sm1, er.step st, PoX.goE q1 fun y w h2 H2 φ2 st2 sm2 rw q2 => ?_⟩⟩
  obtain ⟨z, h3, e, k⟩ := PoX.ofO q2
  exact ok φ2 h2 H2 x y v w Q z h3 sm2 (rv.step st2) rw e k
theorem ee_op {op : Operator} (ho : OpR X (binaryOp op) r) (ok : Ok2 X.K X.mg r g) (ha : EE X W a fa) (hb : EE X W b fb) : EE X W (.BinOp a op b pos) (eOp g fa fb) :=
  PE.of (pe_op ho ha hb) fun σ H Q hf => tOp_ok ok hf
theorem ee_cmp {op : CmpOp} (ho : OpR X (compareOp op) r) (ok : Ok2 X.K X.mg r g) (ha : EE X W a fa) (hb : EE X W b fb) (hm : behindInMarks op b = false) : EE X W (.Compare a [op] [b] pos) (eOp g fa fb) :=
  PE.of (pe_cmpR ho ha hb hm) fun σ H Q hf => tOp_ok ok hf
/-- a value that is a truth -/
def truO : Vl → Hh → Out Bool
  | .d (.bool b), h => .ok b h
  | _, _ => .no
def eT (f : Ev) : Tv := fun ρ h => (f ρ h).bind truO
theorem VRep.bl {K : PySem.W.Frag} {φ : List Addr} {h : Hh} {H : Hp} {x : V} {c : Bool} (r : VRep K mg φ h H x (.d (.bool c))) : x = .bl c := by
  cases r
  rfl
theorem PoT.bl {K : PySem.W.Frag} {mg : Str → Option Value} {φ : List Addr} {h : Hh} {H : Hp} {v : Vl} {x : V} {Q : Bool → Hp → Prop} {E : XK} (sm : Sim K φ h H) (rv : VRep K mg φ h H x v)
    (q : PoT K mg φ h H (truO v h) Q E) : ∃ k, x = .bl k ∧ Q k H := by
  unfold truO at q
  split at q
  · exact ⟨_, VRep.bl rv, q H φ (Step.refl _ _ _) sm⟩
  · exact q.elim
theorem tTest_ok {f : Ev} {t : TE} {σ : L2.St} {H : Hp} {Q : Bool → Hp → Prop} (i : ∀ Q, tE X.K X.mg W f σ H Q → t σ H Q) (hf : tT X.K X.mg W (eT f) σ H Q) : tTest t σ H Q := by
  obtain ⟨φ, h, ρ, sm, er, q⟩ := hf
  exact i _ ⟨φ, h, ρ, sm, er, PoT.goE q fun x v h1 H1 φ1 st sm1 rv q1 => PoT.bl sm1 rv q1⟩
theorem et_cmp {op : CmpOp} (ho : OpR X (compareOp op) r) (ok : Ok2 X.K X.mg r g) (ha : EE X W a fa) (hb : EE X W b fb) (hm : behindInMarks op b = false) : ET X W (.Compare a [op] [b] pos) (eT (eOp g fa fb)) :=
  PT.of (pt_cmpR ho ha hb hm) fun σ H Q hf => tTest_ok (fun Q hf => tOp_ok ok hf) hf
theorem et_val (ha : EE X W a fa) (he : ∀ whole, isTrue a X.env whole = (do let v ← whole; standAt a.pos; holding [v] (truthy v)) := by intro _; rfl) : ET X W a (eT fa) :=
  PT.of (pt_val ha he) fun σ H Q hf => tTest_ok (t := tE X.K X.mg W fa) (fun Q hf => hf) hf
/-- a op b op' c -/
def eChain (g g' : G2) (a b c : Ev) : Ev := fun ρ h => (a ρ h).bind fun x h1 => (b ρ h1).bind fun y h2 => (ofO (g x y h2)).bind fun z h3 => match z with
  | .d (.bool true) => (c ρ h3).bind fun w h4 => ofO (g' y w h4)
  | .d (.bool false) => .ok (.d (.bool false)) h3
  | _ => .no
theorem tChain_ok {σ : L2.St} {H : Hp} {Q : VK} (ok : Ok2 X.K X.mg r g) (ok' : Ok2 X.K X.mg r' g') (hf : tE X.K X.mg W (eChain g g' fa fb fc) σ H Q) : tChain r r' (tE X.K X.mg W fa) (tE X.K X.mg W fb) (tE X.K X.mg W fc) σ H Q := by
  obtain ⟨φ, h, ρ, sm, er, q⟩ := hf
  refine ⟨φ, h, ρ, sm, er, PoX.goE q fun x v h1 H1 φ1 st sm1 rv q1 => ⟨φ1, h1, ρ, sm1, er.step st, PoX.goE q1 fun y w h2 H2 φ2 st2 sm2 rw q2 => ?_⟩⟩
  have q3 := PoX.goE (Q1 := fun z H3 => ∃ k, z = .bl k ∧ if k = true then tE X.K X.mg W fc σ H3 (fun zz H4 => r' y zz H4 Q) else Q (.bl false) H3) q2 fun z u h3 H3 φ3 st3 sm3 ru q3 => by
    split at q3
    · refine ⟨true, VRep.bl ru, ?_⟩
      rw [if_pos rfl]
      refine ⟨φ3, h3, ρ, sm3, (er.step (st.trans st2)).step st3, PoX.goE q3 fun zz ww h4 H4 φ4 st4 sm4 rw4 q4 => ?_⟩
      obtain ⟨z5, h5, e5, k5⟩ := PoX.ofO q4
      exact ok' φ4 h4 H4 y zz w ww Q z5 h5 sm4 (rw.step (st3.trans st4)) rw4 e5 k5
    · refine ⟨false, VRep.bl ru, ?_⟩
      rw [if_neg Bool.false_ne_true]
      exact PoX.now (v := .d (.bool false)) q3 sm3 (Rep.bl false)
    · exact q3.elim
  obtain ⟨z, h3, e, k⟩ := PoX.ofO q3
  exact ok φ2 h2 H2 x y v w _ z h3 sm2 (rv.step st2) rw e k
theorem ee_chain {op op' : CmpOp} (ho : OpR X (compareOp op) r) (ho' : OpR X (compareOp op') r') (ok : Ok2 X.K X.mg r g) (ok' : Ok2 X.K X.mg r' g') (ha : EE X W a fa) (hb : EE X W b fb) (hc : EE X W c fc)
    (hm : lastMarks [op, op'] [b, c] = false := by with_unfolding_all rfl) : EE X W (.Compare a [op, op'] [b, c] pos) (eChain g g' fa fb fc) :=
  PE.of (pe_chain ho ho' ha hb hc hm) fun σ H Q hf => tChain_ok ok ok' hf
theorem et_chain {op op' : CmpOp} (ho : OpR X (compareOp op) r) (ho' : OpR X (compareOp op') r') (ok : Ok2 X.K X.mg r g) (ok' : Ok2 X.K X.mg r' g') (ha : EE X W a fa) (hb : EE X W b fb) (hc : EE X W c fc)
    (hm : lastMarks [op, op'] [b, c] = false := by with_unfolding_all rfl) : ET X W (.Compare a [op, op'] [b, c] pos) (eT (eChain g g' fa fb fc)) :=
  PT.of (pt_chain ho ho' ha hb hc hm) fun σ H Q hf => tTest_ok (fun Q hf => tChain_ok ok ok' hf) hf
end
end Rk

/-! Rk3: the operators themselves. -/
namespace Rk
open PySem PySem.Spec L2
variable {mg : Str → Option Value}
/-! ### ints -/
def gInt (f : Int → Int → Option Da) : G2 := fun x y h => match x, y with
  | .d (.int a), .d (.int b) => (f a b).map fun z => (.d z, h)
  | _, _ => none
section
variable {K : PySem.W.Frag}
theorem VRep.int {φ : List Addr} {h : Hh} {H : Hp} {x : V} {c : Int} (r : VRep K mg φ h H x (.d (.int c))) : x = .int c := by
  cases r
  rfl
theorem VRep.str {φ : List Addr} {h : Hh} {H : Hp} {x : V} {c : Str} (r : VRep K mg φ h H x (.d (.str c))) : x = .str c := by
  cases r
  rfl
theorem VRep.non {φ : List Addr} {h : Hh} {H : Hp} {x : V} (r : VRep K mg φ h H x (.d .none)) : x = .non := by
  cases r
  rfl
theorem gInt_ok {f : Int → Int → Option Da} {r : R2} (hr : ∀ (a b : Int) (d : Da) (H : Hp) (Q : VK), f a b = some d → (∀ z, (∀ M, Rep K H M z d) → Q z H) → r (.int a) (.int b) H Q) : Ok2 K mg r (gInt f) := by
  intro φ h H x y a b Q v h' sm rx ry e k
  unfold gInt at e
  split at e
  · rw [VRep.int rx, VRep.int ry]
    rename_i a b
    cases e1 : f a b with
    | none => rw [e1] at e; cases e
    | some d =>
      rw [e1] at e
      cases e
      exact hr a b d H Q e1 fun z hz => k z H φ (Step.refl _ _ _) sm (hz _)
  · cases e
instance (a b : Int) : Decidable (IntMulOk a b) := by unfold IntMulOk; infer_instance
def fAdd (a b : Int) : Option Da := some (.int (a + b))
def fSub (a b : Int) : Option Da := some (.int (a - b))
def fMul (a b : Int) : Option Da := if IntMulOk a b then some (.int (a * b)) else none
def fDiv (a b : Int) : Option Da := if b ≠ 0 ∧ Builtin.divisionGoesByPylong a b = false then some (.int (a.fdiv b)) else none
def fMod (a b : Int) : Option Da := if b ≠ 0 then some (.int (a.fmod b)) else none
def fPow (a b : Int) : Option Da := if 0 ≤ b ∧ b ≤ 1000000 ∧ a.natAbs < 2 ^ 64 then some (.int (a ^ b.toNat)) else none
def fLt (a b : Int) : Option Da := some (.bool (decide (a < b)))
def fLe (a b : Int) : Option Da := some (.bool (decide (a ≤ b)))
def fGt (a b : Int) : Option Da := some (.bool (decide (b < a)))
def fGe (a b : Int) : Option Da := some (.bool (decide (b ≤ a)))
theorem ok_sub : Ok2 K mg (rI0 fun i j => .int (i - j)) (gInt fSub) := gInt_ok fun a b d H Q e k => by
  cases e
  exact ⟨a, b, rfl, rfl, k _ fun _ => .int _⟩
theorem ok_mod : Ok2 K mg (rI (fun _ j => j ≠ 0) fun i j => .int (i.fmod j)) (gInt fMod) := gInt_ok fun a b d H Q e k => by
  unfold fMod at e
  split at e
  · cases e
    exact ⟨a, b, rfl, rfl, by assumption, k _ fun _ => .int _⟩
  · cases e
/-- // where C divides -/
def CDivC (i j : Int) : Prop := j ≠ 0 ∧ Builtin.divisionGoesByPylong i j = false
theorem op_fdivC {X : Cx} : OpR X (binaryOp .FloorDiv) (rI CDivC fun i j => .int (i.fdiv j)) := opI fun i j _ _ _ _ _ hc q => PyProof.Rows.floordiv_int hc.1 q (.inl hc.2)
theorem ok_div : Ok2 K mg (rI CDivC fun i j => .int (i.fdiv j)) (gInt fDiv) := gInt_ok fun a b d H Q e k => by
  unfold fDiv at e
  split at e
  · cases e
    exact ⟨a, b, rfl, rfl, by assumption, k _ fun _ => .int _⟩
  · cases e
theorem op_mulC {X : Cx} : OpR X (binaryOp .Mult) (rI IntMulOk fun i j => .int (i * j)) := opI fun _ _ _ _ _ _ _ hc q => PyProof.Rows.mul_int q hc
theorem ok_mul : Ok2 K mg (rI IntMulOk fun i j => .int (i * j)) (gInt fMul) := gInt_ok fun a b d H Q e k => by
  unfold fMul at e
  split at e
  · cases e
    exact ⟨a, b, rfl, rfl, by assumption, k _ fun _ => .int _⟩
  · cases e
theorem ok_pow : Ok2 K mg (rI CPow fun i j => .int (i ^ j.toNat)) (gInt fPow) := gInt_ok fun a b d H Q e k => by
  unfold fPow at e
  split at e
  · cases e
    exact ⟨a, b, rfl, rfl, by assumption, k _ fun _ => .int _⟩
  · cases e
theorem ok_lt : Ok2 K mg (rI0 fun i j => .bl (decide (i < j))) (gInt fLt) := gInt_ok fun a b d H Q e k => by
  cases e
  exact ⟨a, b, rfl, rfl, k _ fun _ => .bl _⟩
theorem ok_le : Ok2 K mg (rI0 fun i j => .bl (decide (i ≤ j))) (gInt fLe) := gInt_ok fun a b d H Q e k => by
  cases e
  exact ⟨a, b, rfl, rfl, k _ fun _ => .bl _⟩
theorem ok_gt : Ok2 K mg (rI0 fun i j => .bl (decide (j < i))) (gInt fGt) := gInt_ok fun a b d H Q e k => by
  cases e
  exact ⟨a, b, rfl, rfl, k _ fun _ => .bl _⟩
theorem ok_ge : Ok2 K mg (rI0 fun i j => .bl (decide (j ≤ i))) (gInt fGe) := gInt_ok fun a b d H Q e k => by
  cases e
  exact ⟨a, b, rfl, rfl, k _ fun _ => .bl _⟩
end
/-! ### + -/
def gAdd : G2 := fun x y h => match x, y with
  | .d (.int a), .d (.int b) => some (.d (.int (a + b)), h)
  | .d (.str a), .d (.str b) => if fitB (a.length + b.length) then some (.d (.str (a ++ b)), h) else none
  | .d (.tuple a), .d (.tuple b) => if fitB (a.length + b.length) then some (.d (.tuple (a ++ b)), h) else none
  | x, y => match asL x h, asL y h with
    | some a, some b => if fitB (a.length + b.length) then some (.r h.length, h ++ [some (.lst (a ++ b))]) else none
    | _, _ => none
def rCatL (K : PySem.W.Frag) : R2 := fun x y H Q => ∃ a b xs ys, x = .ref a ∧ y = .ref b ∧ SqL K H a xs ∧ SqL K H b ys ∧ xs.length + ys.length ≤ sizeLine ∧ ∀ p, H p = none → Q (.ref p) (upd H p (.lst (xs ++ ys)))
def rAddA (K : PySem.W.Frag) : R2 := fun x y H Q => (∃ i j, x = .int i ∧ y = .int j ∧ Q (.int (i + j)) H) ∨ (∃ i j, x = .str i ∧ y = .str j ∧ i.length + j.length ≤ sizeLine ∧ Q (.str (i ++ j)) H) ∨ rCatA K x y H Q ∨ rCatL K x y H Q
section
variable {X : Cx}
theorem op_catL : OpR X (binaryOp .Add) (rCatL X.K) := by
  intro pins s σ H x y v u Q I rx ry h
  obtain ⟨a, b, xs, ys, rfl, rfl, ha, hb, hz, q⟩ := h
  cases rx
  cases ry
  obtain ⟨its, r1, ⟨⟨c1, dd1, da1, sl1⟩, n1, e1, f1, g1, k1⟩, z1⟩ := I.list ha
  obtain ⟨its2, r2, ⟨⟨c2, dd2, da2, sl2⟩, n2, e2, f2, g2, k2⟩, z2⟩ := I.list hb
  simp only at f1 g1 k1 f2 g2 k2
  subst f1 g1 k1 f2 g2 k2
  have e : its.toArray ++ its2.toArray = (its ++ its2).toArray := by simp
  have l1 := r1.length
  have l2 := r2.length
  refine PySem.concat_meets ⟨_, e1, rfl⟩ ⟨_, e2, rfl⟩ PySem.noFill_list_add PySem.seq_list_add PySem.F.slot_list_add PySem.F.entry_list_add (PySem.F.args_list_add_2 _ _) (PyProof.Rows.list_addW a b its.toArray its2.toArray n1 n2 none none sl1 sl2 (by simp; omega)) ⟨e1, e2, ?_⟩
  rw [e]
  exact ⟨.ref _, _, I.lnew (t' := s.toks) (r1.append r2) (by rw [List.length_append]; omega), rfl, q _ I.fresh⟩
theorem op_addA : OpR X (binaryOp .Add) (rAddA X.K) := op_add.or (op_add_str.or (op_catA.or op_catL))
end
section
variable {K : PySem.W.Frag}
/-- a new list of data -/
theorem new_list {φ : List Addr} {h : Hh} {H : Hp} {p : Addr} {xs : List V} {ds : List Da} (sm : Sim K φ h H) (r : Reps K H (Live φ h) xs ds) (hp : H p = none) :
    Step φ h H (φ ++ [p]) (h ++ [some (.lst ds)]) (upd H p (.lst xs)) ∧ Sim K (φ ++ [p]) (h ++ [some (.lst ds)]) (upd H p (.lst xs)) ∧ VRep K mg (φ ++ [p]) (h ++ [some (.lst ds)]) (upd H p (.lst xs)) (.ref p) (.r h.length) :=
  sm.new hp fun M st => ⟨xs, upd_same, r.stay st⟩
theorem new_tup {φ : List Addr} {h : Hh} {H : Hp} {p : Addr} {xs : List V} {ds : List Da} (sm : Sim K φ h H) (r : Reps K H (Live φ h) xs ds) (hp : H p = none) :
    Step φ h H φ h (upd H p (.tup xs)) ∧ Sim K φ h (upd H p (.tup xs)) ∧ VRep K mg φ h (upd H p (.tup xs)) (.ref p) (.d (.tuple ds)) := by
  obtain ⟨s1, s2⟩ := sm.grow (o := .tup xs) hp
  exact ⟨s1, s2, Rep.tup (.inl upd_same) (sm.fresh hp) (r.stay s1.st)⟩
theorem VRep.tup {φ : List Addr} {h : Hh} {H : Hp} {x : V} {ds : List Da} (r : VRep K mg φ h H x (.d (.tuple ds))) : ∃ a xs, x = .ref a ∧ SqT K H a xs ∧ Reps K H (Live φ h) xs ds := by
  cases r with
  | tup h n r => exact ⟨_, _, rfl, .inl h, r⟩
  | tupK h r => exact ⟨_, _, rfl, .inr h, r⟩
theorem Reps.ne {H : Hp} {M : Addr → Prop} {xs : List V} {ds : List Da} (r : Reps K H M xs ds) : xs = [] ↔ ds = [] := by
  cases r with
  | nil => simp
  | cons _ _ => simp
theorem ok_add : Ok2 K mg (rAddA K) gAdd := by
  intro φ h H x y a b Q v h' sm rx ry e k
  unfold gAdd at e
  split at e
  · cases e
    exact .inl ⟨_, _, VRep.int rx, VRep.int ry, k _ H φ (Step.refl _ _ _) sm (Rep.int _)⟩
  · split at e
    · cases e
      exact .inr (.inl ⟨_, _, VRep.str rx, VRep.str ry, fitB_le (by assumption), k _ H φ (Step.refl _ _ _) sm (Rep.str _)⟩)
    · cases e
  · split at e
    · rename_i da db hz
      cases e
      obtain ⟨pa, xs, rfl, sa, ra⟩ := VRep.tup rx
      obtain ⟨pb, ys, rfl, sb, rb⟩ := VRep.tup ry
      refine .inr (.inr (.inl ⟨pa, pb, xs, ys, rfl, rfl, sa, sb, by rw [ra.length, rb.length]; exact fitB_le hz, fun z => ?_, fun _ z => ?_, fun _ _ p hp => ?_⟩))
      · have : da = [] := ra.ne.mp z
        subst this
        exact k _ H φ (Step.refl _ _ _) sm ry
      · have : db = [] := rb.ne.mp z
        subst this
        rw [List.append_nil] at k
        exact k _ H φ (Step.refl _ _ _) sm rx
      · obtain ⟨s1, s2, s3⟩ := new_tup sm (ra.append rb) hp
        exact k _ _ _ s1 s2 s3
    · cases e
  · split at e
    · rename_i la lb ea eb
      split at e
      · rename_i hz
        cases e
        obtain ⟨pa, xs, rfl, sa, ra⟩ := asL_ok sm rx ea
        obtain ⟨pb, ys, rfl, sb, rb⟩ := asL_ok sm ry eb
        refine .inr (.inr (.inr ⟨pa, pb, xs, ys, rfl, rfl, sa, sb, by rw [ra.length, rb.length]; exact fitB_le hz, fun p hp => ?_⟩))
        obtain ⟨s1, s2, s3⟩ := new_list sm (ra.append rb) hp
        exact k _ _ _ s1 s2 s3
      · cases e
    · cases e
/-! ### ==, !=, is, in -/
/-- told by == and !=, no dict within -/
def sh (d : Da) : Bool := SeqAt.shaped d && !d.hasDict
theorem sh_parts {d : Da} (e : sh d = true) : SeqAt.shaped d = true ∧ d.hasDict = false := by
  unfold sh at e
  rw [Bool.and_eq_true] at e
  exact ⟨e.1, by simpa using e.2⟩
def eqvB (a b : Da) : Option Bool := if sh a && sh b then some (PyData.eqv a b) else none
def gEq : G2 := fun x y h => match x, y with
  | .d (.str a), .d (.str b) => some (.d (.bool (decide (a = b))), h)
  | x, y => match asD x h, asD y h with
    | some a, some b => (eqvB a b).map fun z => (.d (.bool z), h)
    | _, _ => none
def gNe : G2 := fun x y h => match x, y with
  | .d (.str a), .d (.str b) => some (.d (.bool (!decide (a = b))), h)
  | x, y => match asD x h, asD y h with
    | some a, some b => (eqvB a b).map fun z => (.d (.bool (!z)), h)
    | _, _ => none
theorem ok_eq : Ok2 K mg (fun x y H Q => rEq x y H Q ∨ rEqD K x y H Q) gEq := by
  intro φ h H x y a b Q v h' sm rx ry e k
  unfold gEq at e
  split at e
  · rename_i p q
    cases e
    rw [VRep.str rx, VRep.str ry]
    have d : decide (V.str p = V.str q) = decide (p = q) := decide_eq_decide.mpr ⟨fun z => by injection z, fun z => by rw [z]⟩
    exact .inl ⟨rfl, by rw [d]; exact k _ H φ (Step.refl _ _ _) sm (Rep.bl _)⟩
  · split at e
    · rename_i da db ea eb
      unfold eqvB at e
      split at e
      · rename_i hs
        rw [Bool.and_eq_true] at hs
        cases e
        have h1 := sh_parts hs.1
        have h2 := sh_parts hs.2
        exact .inr ⟨da, db, asD_ok sm rx ea h1.2, asD_ok sm ry eb h2.2, h1.1, h2.1, k _ H φ (Step.refl _ _ _) sm (Rep.bl _)⟩
      · cases e
    · cases e
theorem ok_ne : Ok2 K mg (fun x y H Q => rNe x y H Q ∨ rNeD K x y H Q) gNe := by
  intro φ h H x y a b Q v h' sm rx ry e k
  unfold gNe at e
  split at e
  · rename_i p q
    cases e
    rw [VRep.str rx, VRep.str ry]
    have d : decide (V.str p = V.str q) = decide (p = q) := decide_eq_decide.mpr ⟨fun z => by injection z, fun z => by rw [z]⟩
    exact .inl ⟨rfl, by rw [d]; exact k _ H φ (Step.refl _ _ _) sm (Rep.bl _)⟩
  · split at e
    · rename_i da db ea eb
      unfold eqvB at e
      split at e
      · rename_i hs
        rw [Bool.and_eq_true] at hs
        cases e
        have h1 := sh_parts hs.1
        have h2 := sh_parts hs.2
        exact .inr ⟨da, db, asD_ok sm rx ea h1.2, asD_ok sm ry eb h2.2, h1.1, h2.1, k _ H φ (Step.refl _ _ _) sm (Rep.bl _)⟩
      · cases e
    · cases e
def isN : Vl → Bool
  | .d .none => true
  | _ => false
def gIsN : G2 := fun x y h => match y with
  | .d .none => some (.d (.bool (isN x)), h)
  | _ => none
def gNotN : G2 := fun x y h => match y with
  | .d .none => some (.d (.bool (!isN x)), h)
  | _ => none
theorem isN_ok {φ : List Addr} {h : Hh} {H : Hp} {x : V} {v : Vl} (r : VRep K mg φ h H x v) : decide (x = .non) = isN v := by
  cases v with
  | d z =>
    cases r <;> first | rfl | exact decide_eq_false (fun q => nomatch q)
  | r n =>
    obtain ⟨a, _, rfl⟩ := r
    exact decide_eq_false (fun q => nomatch q)
  | x c fs =>
    obtain ⟨a, _, _, rfl, _⟩ := r
    exact decide_eq_false (fun q => nomatch q)
  | f D =>
    obtain ⟨rfl, _⟩ := r
    exact decide_eq_false (fun q => nomatch q)
theorem ok_isN : Ok2 K mg (fun x y H Q => y = .non ∧ Q (.bl (decide (x = .non))) H) gIsN := by
  intro φ h H x y a b Q v h' sm rx ry e k
  unfold gIsN at e
  split at e
  · cases e
    refine ⟨VRep.non ry, ?_⟩
    rw [isN_ok rx]
    exact k _ H φ (Step.refl _ _ _) sm (Rep.bl _)
  · cases e
theorem ok_notN : Ok2 K mg (fun x y H Q => y = .non ∧ Q (.bl (!decide (x = .non))) H) gNotN := by
  intro φ h H x y a b Q v h' sm rx ry e k
  unfold gNotN at e
  split at e
  · cases e
    refine ⟨VRep.non ry, ?_⟩
    rw [isN_ok rx]
    exact k _ H φ (Step.refl _ _ _) sm (Rep.bl _)
  · cases e
/-- is, is not of two truths -/
def gIsB : G2 := fun x y h => match x, y with
  | .d (.bool a), .d (.bool b) => some (.d (.bool (decide (a = b))), h)
  | _, _ => none
def gNotB : G2 := fun x y h => match x, y with
  | .d (.bool a), .d (.bool b) => some (.d (.bool (!decide (a = b))), h)
  | _, _ => none
/-- in, not in, of a list or a tuple of flat data -/
def flatD : Da → Bool
  | .none => true
  | .bool _ => true
  | .int _ => true
  | .str _ => true
  | _ => false
def eqF : Da → Da → Bool
  | .none, .none => true
  | .bool a, .bool b => a == b
  | .bool a, .int b => (if a then 1 else 0) == b
  | .int a, .bool b => a == (if b then 1 else 0)
  | .int a, .int b => a == b
  | .str a, .str b => a == b
  | _, _ => false
def inF (x : Da) (xs : List Da) : Bool := xs.any fun y => eqF y x
def asQ : Vl → Hh → Option (List Da)
  | .d (.tuple xs), _ => some xs
  | v, h => asL v h
def gIn (neg : Bool) : G2 := fun x y h => match x, asQ y h with
  | .d a, some bs => if flatD a && bs.all flatD then some (.d (.bool (if neg then !inF a bs else inF a bs)), h) else none
  | _, _ => none
theorem flat_ok {H : Hp} {M : Addr → Prop} {x : V} {d : Da} (r : Rep K H M x d) (f : flatD d = true) : flatV x = true := by
  cases r <;> first | rfl | cases f
theorem flats_ok {H : Hp} {M : Addr → Prop} : ∀ {xs : List V} {ds : List Da}, Reps K H M xs ds → ds.all flatD = true → xs.all flatV = true
  | _, _, .nil, _ => rfl
  | _, _, .cons r t, f => by
    rw [List.all_cons, Bool.and_eq_true] at f
    rw [List.all_cons, flat_ok r f.1, flats_ok t f.2]
    rfl
theorem eqF_ok {H H' : Hp} {M M' : Addr → Prop} {x y : V} {d e : Da} (r : Rep K H M x d) (q : Rep K H' M' y e) (f : flatD d = true) (g : flatD e = true) : eqV x y = eqF d e := by
  cases r <;> first | (cases f; done) | (cases q <;> first | rfl | (cases g; done))
theorem inF_ok {H : Hp} {M : Addr → Prop} {x : V} {d : Da} (r : Rep K H M x d) (f : flatD d = true) : ∀ {xs : List V} {ds : List Da}, Reps K H M xs ds → ds.all flatD = true → inV x xs = inF d ds
  | _, _, .nil, _ => rfl
  | _, _, .cons q t, g => by
    rw [List.all_cons, Bool.and_eq_true] at g
    have ih := inF_ok r f t g.2
    unfold inV inF at *
    rw [List.any_cons, List.any_cons, eqF_ok q r g.1 f, ih]
theorem asQ_ok {φ : List Addr} {h : Hh} {H : Hp} {x : V} {v : Vl} {ds : List Da} (s : Sim K φ h H) (r : VRep K mg φ h H x v) (e : asQ v h = some ds) : ∃ a xs, x = .ref a ∧ (SqL K H a xs ∨ SqT K H a xs) ∧ Reps K H (Live φ h) xs ds := by
  unfold asQ at e
  split at e
  · cases e
    obtain ⟨a, xs, rfl, q, z⟩ := VRep.tup r
    exact ⟨a, xs, rfl, .inr q, z⟩
  · obtain ⟨a, xs, rfl, q, z⟩ := asL_ok s r e
    exact ⟨a, xs, rfl, .inl q, z⟩
theorem ok_in (neg : Bool) : Ok2 K mg (rIn K neg) (gIn neg) := by
  intro φ h H x y a b Q v h' sm rx ry e k
  unfold gIn at e
  split at e
  · rename_i da bs eb
    split at e
    · rename_i hf
      rw [Bool.and_eq_true] at hf
      cases e
      obtain ⟨p, xs, rfl, sq, rs⟩ := asQ_ok sm ry eb
      refine ⟨p, xs, rfl, sq, flat_ok rx hf.1, flats_ok rs hf.2, ?_⟩
      rw [inF_ok rx hf.1 rs hf.2]
      exact k _ H φ (Step.refl _ _ _) sm (Rep.bl _)
    · cases e
  · cases e
end
/-! ### and, or, not, if .. else -/
def tvAnd (a b : Tv) : Tv := fun ρ h => (a ρ h).bind fun c h1 => if c then b ρ h1 else .ok false h1
def tvOr (a b : Tv) : Tv := fun ρ h => (a ρ h).bind fun c h1 => if c then .ok true h1 else b ρ h1
def tvNot (a : Tv) : Tv := fun ρ h => (a ρ h).bind fun c h1 => .ok (!c) h1
def eAnd (a b : Ev) : Ev := fun ρ h => (eT a ρ h).bind fun c h1 => if c then b ρ h1 else .ok (.d (.bool false)) h1
def eOr (a b : Ev) : Ev := fun ρ h => (eT a ρ h).bind fun c h1 => if c then .ok (.d (.bool true)) h1 else b ρ h1
def eNot (a : Ev) : Ev := fun ρ h => (eT a ρ h).bind fun c h1 => .ok (.d (.bool (!c))) h1
def eIf (c : Tv) (a b : Ev) : Ev := fun ρ h => (c ρ h).bind fun k h1 => if k then a ρ h1 else b ρ h1
def EW (X : Cx) (W : WX) (e : Expr) (f : Tv) : Prop := PW X e (tT X.K X.mg W f)
section
variable {X : Cx} {W : WX} {a b c : Expr} {fa fb : Ev} {ta tb tc : Tv} {pos : Pos} {rest : List Expr}
theorem EW.et (h : EW X W a ta) : ET X W a ta := PW.pt h
theorem ew_and1 (ha : ET X W a ta) : EW X W (.BoolOp .And [a] pos) ta := pw_and1 ha
theorem ew_or1 (ha : ET X W a ta) : EW X W (.BoolOp .Or [a] pos) ta := pw_or1 ha
theorem PoT.now {K : PySem.W.Frag} {mg : Str → Option Value} {φ : List Addr} {h : Hh} {H : Hp} {v : Bool} {Q : Bool → Hp → Prop} {E : XK} (q : PoT K mg φ h H (.ok v h) Q E) (s : Sim K φ h H) : Q v H := q H φ (Step.refl _ _ _) s
theorem ew_and (ha : ET X W a ta) (hb : EW X W (.BoolOp .And (b :: rest) pos) tb) : EW X W (.BoolOp .And (a :: b :: rest) pos) (tvAnd ta tb) :=
  PW.of (pw_and ha hb) fun σ H Q ⟨φ, h, ρ, sm, er, q⟩ => ⟨φ, h, ρ, sm, er, PoT.goT q fun v h1 H1 φ1 st sm1 q1 => by
    cases v with
    | true => exact iteT ⟨φ1, h1, ρ, sm1, er.step st, q1⟩
    | false => exact iteF (PoT.now q1 sm1)⟩
theorem ew_or (ha : ET X W a ta) (hb : EW X W (.BoolOp .Or (b :: rest) pos) tb) : EW X W (.BoolOp .Or (a :: b :: rest) pos) (tvOr ta tb) :=
  PW.of (pw_or ha hb) fun σ H Q ⟨φ, h, ρ, sm, er, q⟩ => ⟨φ, h, ρ, sm, er, PoT.goT q fun v h1 H1 φ1 st sm1 q1 => by
    cases v with
    | true => exact iteT (PoT.now q1 sm1)
    | false => exact iteF ⟨φ1, h1, ρ, sm1, er.step st, q1⟩⟩
theorem et_not (ha : ET X W a ta) : ET X W (.UnaryOp .Not a pos) (tvNot ta) :=
  PT.of (pt_not ha) fun σ H Q ⟨φ, h, ρ, sm, er, q⟩ => ⟨φ, h, ρ, sm, er, PoT.goT q fun v h1 H1 φ1 st sm1 q1 => PoT.now q1 sm1⟩
theorem ee_ifExp (hc : ET X W c tc) (ha : EE X W a fa) (hb : EE X W b fb) : EE X W (.IfExp c a b pos) (eIf tc fa fb) :=
  PE.of (pe_ifExp hc ha hb) fun σ H Q ⟨φ, h, ρ, sm, er, q⟩ => ⟨φ, h, ρ, sm, er, PoX.goT q fun v h1 H1 φ1 st sm1 q1 => by
    cases v with
    | true => exact iteT ⟨φ1, h1, ρ, sm1, er.step st, q1⟩
    | false => exact iteF ⟨φ1, h1, ρ, sm1, er.step st, q1⟩⟩
theorem ee_one {op : BoolOp} (ha : EE X W a fa) : EE X W (.BoolOp op [a] pos) fa := pe_one ha
theorem PoX.goV {K : PySem.W.Frag} {mg : Str → Option Value} {φ : List Addr} {h : Hh} {H : Hp} {E : XK} {o : Out Vl} {k : Bool → Hh → Out Vl} {Q : VK} {Q1 : VK} (q : PoX K mg φ h H ((o.bind truO).bind k) Q E)
    (hk : ∀ (c : Bool) (h1 : Hh) (H1 : Hp) (φ1 : List Addr), Step φ h H φ1 h1 H1 → Sim K φ1 h1 H1 → PoX K mg φ1 h1 H1 (k c h1) Q E → Q1 (.bl c) H1) : PoX K mg φ h H o Q1 E := by
  cases o with
  | ok v h1 =>
    intro x H1 φ1 st sm1 rv
    have q2 : PoX K mg φ h H ((truO v h1).bind k) Q E := q
    unfold truO at q2
    split at q2
    · rw [VRep.bl rv]
      exact hk _ _ _ φ1 st sm1 (PoX.pull st q2)
    · exact q2.elim
  | ex c fs h1 => exact q
  | no => exact q
theorem ee_and (ha : EE X W a fa) (hb : EE X W (.BoolOp .And (b :: rest) pos) fb) : EE X W (.BoolOp .And (a :: b :: rest) pos) (eAnd fa fb) :=
  PE.of (pe_and ha hb) fun σ H Q ⟨φ, h, ρ, sm, er, q⟩ => ⟨φ, h, ρ, sm, er, PoX.goV q fun v h1 H1 φ1 st sm1 q1 => ⟨v, rfl, by
    cases v with
    | true => exact iteT ⟨φ1, h1, ρ, sm1, er.step st, q1⟩
    | false => exact iteF (PoX.now (v := .d (.bool false)) q1 sm1 (Rep.bl false))⟩⟩
theorem ee_or (ha : EE X W a fa) (hb : EE X W (.BoolOp .Or (b :: rest) pos) fb) : EE X W (.BoolOp .Or (a :: b :: rest) pos) (eOr fa fb) :=
  PE.of (pe_or ha hb) fun σ H Q ⟨φ, h, ρ, sm, er, q⟩ => ⟨φ, h, ρ, sm, er, PoX.goV q fun v h1 H1 φ1 st sm1 q1 => ⟨v, rfl, by
    cases v with
    | true => exact iteT (PoX.now (v := .d (.bool true)) q1 sm1 (Rep.bl true))
    | false => exact iteF ⟨φ1, h1, ρ, sm1, er.step st, q1⟩⟩⟩
theorem ee_not (ha : EE X W a fa) : EE X W (.UnaryOp .Not a pos) (eNot fa) :=
  PE.of (pe_not ha) fun σ H Q ⟨φ, h, ρ, sm, er, q⟩ => ⟨φ, h, ρ, sm, er, PoX.goV q fun v h1 H1 φ1 st sm1 q1 => ⟨v, rfl, PoX.now (v := .d (.bool (!v))) q1 sm1 (Rep.bl (!v))⟩⟩
/-- - n -/
def eNeg (a : Ev) : Ev := fun ρ h => (a ρ h).bind fun x h1 => match x with
  | .d (.int i) => .ok (.d (.int (-i))) h1
  | _ => .no
theorem ee_neg (ha : EE X W a fa) : EE X W (.UnaryOp .USub a pos) (eNeg fa) :=
  PE.of (pe_un un_neg ha) fun σ H Q ⟨φ, h, ρ, sm, er, q⟩ => ⟨φ, h, ρ, sm, er, PoX.goE q fun x v h1 H1 φ1 st sm1 rv q1 => by
    cases v with
    | d z =>
      cases z with
      | int i => exact ⟨i, VRep.int rv, PoX.now (v := .d (.int (-i))) q1 sm1 (Rep.int _)⟩
      | _ => exact q1.elim
    | r n => exact q1.elim
    | x c fs => exact q1.elim
    | f D => exact q1.elim⟩
end
/-! ### argument lists, displays, calls -/
def aNil : Av := fun _ h => .ok [] h
def aCons (a : Ev) (r : Av) : Av := fun ρ h => (a ρ h).bind fun x h1 => (r ρ h1).bind fun xs h2 => .ok (x :: xs) h2
def eTup (as : Av) : Ev := fun ρ h => (as ρ h).bind fun vs h1 => match fzs vs h1 with
  | some (ds, h2) => if fitB ds.length then .ok (.d (.tuple ds)) h2 else .no
  | none => .no
def eLst (as : Av) : Ev := fun ρ h => (as ρ h).bind fun vs h1 => match fzs vs h1 with
  | some (ds, h2) => if fitB ds.length then .ok (.r h2.length) (h2 ++ [some (.lst ds)]) else .no
  | none => .no
def spF (K : PySem.W.Frag) (mg : Str → Option Value) (m : Fn) : Sp := fun vs H Q E => ∃ φ h as, Sim K φ h H ∧ VReps K mg φ h H vs as ∧ PoX K mg φ h H (m as h) Q E
def eCall (m : Fn) (as : Av) : Ev := fun ρ h => (as ρ h).bind m
abbrev GC := List Vl → Hh → Option (Vl × Hh)
def eBlt (g : GC) (as : Av) : Ev := fun ρ h => (as ρ h).bind fun vs h1 => ofO (g vs h1)
def OkC (K : PySem.W.Frag) (mg : Str → Option Value) (r : List V → Hp → VK → Prop) (g : GC) : Prop := ∀ (φ : List Addr) (h : Hh) (H : Hp) (xs : List V) (as : List Vl) (Q : VK) (v : Vl) (h' : Hh), Sim K φ h H → VReps K mg φ h H xs as → g as h = some (v, h') →
  (∀ z H' φ', Step φ h H φ' h' H' → Sim K φ' h' H' → VRep K mg φ' h' H' z v → Q z H') → r xs H Q
section
variable {X : Cx} {W : WX} {e : Expr} {es : List Expr} {fe : Ev} {fs : Av} {pos : Pos}
theorem ea_nil : EA X W [] aNil := PA.of pa_nil fun σ H Q ⟨φ, h, ρ, sm, er, q⟩ => q [] H φ (Step.refl _ _ _) sm .nil
theorem ea_cons (ha : EE X W e fe) (hr : EA X W es fs) (hs : starEach (e :: es) X.env = (false, eval e X.env) :: starEach es X.env := by rfl) : EA X W (e :: es) (aCons fe fs) :=
  PA.of (pa_cons ha hr hs) fun σ H Q ⟨φ, h, ρ, sm, er, q⟩ => ⟨φ, h, ρ, sm, er, PoA.goE q fun x v h1 H1 φ1 st sm1 rv q1 => ⟨φ1, h1, ρ, sm1, er.step st, PoA.goA q1 fun xs vs h2 H2 φ2 st2 sm2 rvs q2 =>
    q2 (x :: xs) H2 φ2 (Step.refl _ _ _) sm2 (.cons (rv.step st2) rvs)⟩⟩
theorem ee_tup {k : Nat} (ha : EA X W es fs) : EE X W (.Tuple es k pos) (eTup fs) :=
  PE.of (pe_tup ha) fun σ H Q ⟨φ, h, ρ, sm, er, q⟩ => ⟨φ, h, ρ, sm, er, PoX.goA q fun xs vs h1 H1 φ1 st sm1 rvs q1 => by
    cases e : fzs vs h1 with
    | none => rw [e] at q1; exact q1.elim
    | some p =>
      obtain ⟨ds, h2⟩ := p
      rw [e] at q1
      dsimp only at q1
      split at q1
      · obtain ⟨s1, s2, s3⟩ := fzs_ok sm1 rvs e
        refine ⟨by rw [s3.length]; exact fitB_le (by assumption), fun p hp => ?_⟩
        obtain ⟨t1, t2, t3⟩ := new_tup s2 s3 hp
        exact q1 _ _ _ (s1.trans t1) t2 t3
      · exact q1.elim⟩
theorem ee_lst (ha : EA X W es fs) : EE X W (.List es pos) (eLst fs) :=
  PE.of (pe_lst ha) fun σ H Q ⟨φ, h, ρ, sm, er, q⟩ => ⟨φ, h, ρ, sm, er, PoX.goA q fun xs vs h1 H1 φ1 st sm1 rvs q1 => by
    cases e : fzs vs h1 with
    | none => rw [e] at q1; exact q1.elim
    | some p =>
      obtain ⟨ds, h2⟩ := p
      rw [e] at q1
      dsimp only at q1
      split at q1
      · obtain ⟨s1, s2, s3⟩ := fzs_ok sm1 rvs e
        refine ⟨by rw [s3.length]; exact fitB_le (by assumption), fun p hp => ?_⟩
        obtain ⟨t1, t2, t3⟩ := new_list s2 s3 hp
        exact q1 _ _ _ (s1.trans t1) t2 t3
      · exact q1.elim⟩
theorem ee_blt {x : Str} {id : String} {p : Pos} {r : List V → Hp → VK → Prop} {g : GC} (hc : CallR X (.builtin id) r) (ok : OkC X.K X.mg r g) (hg : Gl X x) (hm : X.mg x = none) (hv : bootBuiltins x = some (.builtin id)) (ha : EA X W (e :: es) fs) (hn : x ≠ "__name__" := by decide) (hdb : (x == ("__debug__" : Str)) = false := by decide)
    (he : starEach (e :: es) X.env = (false, eval e X.env) :: starEach es X.env := by rfl) (hpl : (backTo pos (starEach es X.env)).any (·.1) = false := by rfl) : EE X W (.Call (.Name x p) (e :: es) [] pos) (eBlt g fs) :=
  PE.of (pe_callB hc hg hm hv ha hn hdb he hpl) fun σ H Q ⟨φ, h, ρ, sm, er, q⟩ => ⟨φ, h, ρ, sm, er, PoX.goA q fun xs vs h1 H1 φ1 st sm1 rvs q1 => by
    obtain ⟨z, h2, e2, k⟩ := PoX.ofO q1
    exact ok φ1 h1 H1 xs vs Q z h2 sm1 rvs e2 k⟩
theorem ee_bltT {x : Str} {T : String} {p : Pos} {r : List V → Hp → VK → Prop} {g : GC} (hc : CallR X (.type T) r) (ok : OkC X.K X.mg r g) (hg : Gl X x) (hm : X.mg x = none) (hv : bootBuiltins x = some (.type T)) (ha : EA X W (e :: es) fs) (hn : x ≠ "__name__" := by decide) (hdb : (x == ("__debug__" : Str)) = false := by decide)
    (he : starEach (e :: es) X.env = (false, eval e X.env) :: starEach es X.env := by rfl) (hpl : (backTo pos (starEach es X.env)).any (·.1) = false := by rfl) : EE X W (.Call (.Name x p) (e :: es) [] pos) (eBlt g fs) :=
  PE.of (pe_callTy hc hg hm hv ha hn hdb he hpl) fun σ H Q ⟨φ, h, ρ, sm, er, q⟩ => ⟨φ, h, ρ, sm, er, PoX.goA q fun xs vs h1 H1 φ1 st sm1 rvs q1 => by
    obtain ⟨z, h2, e2, k⟩ := PoX.ofO q1
    exact ok φ1 h1 H1 xs vs Q z h2 sm1 rvs e2 k⟩
end
end Rk

/-! Rk4: subscripts, slices, built-in functions. -/
namespace Rk
open PySem PySem.Spec L2
variable {mg : Str → Option Value}
section
variable {K : PySem.W.Frag}
theorem Reps.atI {H : Hp} {M : Addr → Prop} {xs : List V} {ds : List Da} {i : Int} {d : Da} (r : Reps K H M xs ds) (e : atI ds i = some d) : ∃ v, L2.atI xs i = some v ∧ Rep K H M v d := by
  unfold L2.atI at *
  rw [r.length]
  cases q : ixN ds.length i with
  | none => rw [q] at e; cases e
  | some j =>
    rw [q] at e
    exact Reps.get r e
def gIx : G2 := fun x y h => match x, y with
  | .d (.tuple xs), .d (.int i) => (atI xs i).map fun d => (.d d, h)
  | .d (.str z), .d (.int i) => if fitB z.length then (atI z.cps.toList i).map fun c => (.d (.str ⟨#[c]⟩), h) else none
  | x, .d (.int i) => match asL x h with
    | some xs => (atI xs i).map fun d => (.d d, h)
    | none => none
  | _, _ => none
theorem ok_ix : Ok2 K mg (rIx K) gIx := by
  intro φ h H x y a b Q v h' sm rx ry e k
  unfold gIx at e
  split at e
  · rename_i xs i
    cases q : atI xs i with
    | none => rw [q] at e; cases e
    | some d =>
      rw [q] at e
      cases e
      obtain ⟨p, zs, rfl, sq, rs⟩ := VRep.tup rx
      obtain ⟨z, e1, rz⟩ := rs.atI q
      exact .inr (.inl ⟨p, zs, i, z, rfl, VRep.int ry, sq, e1, k z H φ (Step.refl _ _ _) sm rz⟩)
  · rename_i z i
    split at e
    · cases q : atI z.cps.toList i with
      | none => rw [q] at e; cases e
      | some c =>
        rw [q] at e
        cases e
        exact .inr (.inr ⟨z, i, c, VRep.str rx, VRep.int ry, fitB_le (by assumption), q, k _ H φ (Step.refl _ _ _) sm (Rep.str _)⟩)
    · cases e
  · rename_i i _ _
    split at e
    · rename_i xs ex
      cases q : atI xs i with
      | none => rw [q] at e; cases e
      | some d =>
        rw [q] at e
        cases e
        obtain ⟨p, zs, rfl, sq, rs⟩ := asL_ok sm rx ex
        obtain ⟨z, e1, rz⟩ := rs.atI q
        exact .inl ⟨p, zs, i, z, rfl, VRep.int ry, sq, e1, k z H φ (Step.refl _ _ _) sm rz⟩
    · cases e
  · cases e
end
section
variable {X : Cx} {W : WX} {a b : Expr} {fa fb : Ev} {pos : Pos}
theorem ee_ix (ha : EE X W a fa) (hb : EE X W b fb) (hs : PlainIx b := by exact fun _ _ => rfl) : EE X W (.Subscript a b pos) (eOp gIx fa fb) :=
  PE.of (pe_ix ix_seq ha hb hs) fun σ H Q hf => tOp_ok ok_ix hf
end
/-! ### slices -/
def cutD {α : Type} (xs : List α) (lo hi : Option Int) : List α := (xs.drop (HT.sIx xs.length 0 lo)).take (HT.sIx xs.length xs.length hi - HT.sIx xs.length 0 lo)
abbrev Ov := En → Hh → Out (Option Int)
def oNone : Ov := fun _ h => .ok none h
def oInt : Vl → Hh → Out (Option Int)
  | .d (.int i), h => .ok (some i) h
  | _, _ => .no
def oSome (f : Ev) : Ov := fun ρ h => (f ρ h).bind oInt
def gSl (x : Vl) (lo hi : Option Int) (h : Hh) : Option (Vl × Hh) := match x with
  | .d (.tuple xs) => some (.d (.tuple (cutD xs lo hi)), h)
  | .d (.str z) => if fitB z.length then some (.d (.str (cutS z lo hi)), h) else none
  | x => match asL x h with
    | some xs => some (.r h.length, h ++ [some (.lst (cutD xs lo hi))])
    | none => none
def eSl (f : Ev) (lo hi : Ov) : Ev := fun ρ h => (f ρ h).bind fun x h1 => (lo ρ h1).bind fun l h2 => (hi ρ h2).bind fun u h3 => ofO (gSl x l u h3)
def PoO (K : PySem.W.Frag) (mg : Str → Option Value) (φ : List Addr) (h : Hh) (H : Hp) (o : Out (Option Int)) (Q : Option Int → Hp → Prop) (E : XK) : Prop := match o with
  | .ok v h' => ∀ H' φ', Step φ h H φ' h' H' → Sim K φ' h' H' → Q v H'
  | .ex c fs h' => ∀ cls dd H' φ', Step φ h H φ' h' H' → Sim K φ' h' H' → XRep K mg H' (Live φ' h') c fs cls dd → E cls dd H'
  | .no => False
def tO (K : PySem.W.Frag) (mg : Str → Option Value) (W : WX) (f : Ov) : TO := fun σ H Q => ∃ φ h ρ, Sim K φ h H ∧ ERep K mg φ h H σ ρ ∧ PoO K mg φ h H (f ρ h) Q (WE W σ)
def EO (X : Cx) (W : WX) (e : Option Expr) (f : Ov) : Prop := PO X e (tO X.K X.mg W f)
theorem PO.of {X : Cx} {e : Option Expr} {t t' : TO} (h : PO X e t) (i : ∀ σ H Q, t' σ H Q → t σ H Q) : PO X e t' := ⟨fun pins s σ H Q I w => h.run pins s σ H Q I (i σ H Q w)⟩
section
variable {K : PySem.W.Frag} {mg : Str → Option Value} {φ : List Addr} {h : Hh} {H : Hp} {E : XK}
theorem PoX.goO {o : Out (Option Int)} {k : Option Int → Hh → Out Vl} {Q : VK} {Q1 : Option Int → Hp → Prop} (q : PoX K mg φ h H (o.bind k) Q E)
    (hk : ∀ (v : Option Int) (h1 : Hh) (H1 : Hp) (φ1 : List Addr), Step φ h H φ1 h1 H1 → Sim K φ1 h1 H1 → PoX K mg φ1 h1 H1 (k v h1) Q E → Q1 v H1) : PoO K mg φ h H o Q1 E := by
  cases o with
  | ok v h1 => exact fun H' φ' st sm' => hk v h1 H' φ' st sm' (PoX.pull st q)
  | ex c fs h1 => exact q
  | no => exact q
theorem PoO.goE {o : Out Vl} {Q : Option Int → Hp → Prop} {Q1 : VK} (q : PoO K mg φ h H (o.bind oInt) Q E)
    (hk : ∀ (i : Int) (H1 : Hp), Q (some i) H1 → Q1 (.int i) H1) : PoX K mg φ h H o Q1 E := by
  cases o with
  | ok v h1 =>
    intro x H' φ' st sm' rv
    have q2 : PoO K mg φ h H (oInt v h1) Q E := q
    unfold oInt at q2
    split at q2
    · rw [VRep.int rv]
      exact hk _ _ (q2 H' φ' st sm')
    · exact q2.elim
  | ex c fs h1 => exact q
  | no => exact q
theorem Reps.cut {H : Hp} {M : Addr → Prop} {xs : List V} {ds : List Da} (lo hi : Option Int) (r : Reps K H M xs ds) : Reps K H M (cutV xs lo hi) (cutD ds lo hi) := by
  unfold cutV cutD
  rw [r.length]
  exact (r.drop _).take _
def rSlAll (K : PySem.W.Frag) : V → Option Int → Option Int → Hp → VK → Prop := fun x lo hi H Q => rSlA K x lo hi H Q ∨ rSlS x lo hi H Q ∨ rSlL K x lo hi H Q
theorem sl_all {X : Cx} : SlR X (rSlAll X.K) := sl_tupA.or (sl_str.or sl_list)
theorem cutD_all {α : Type} {xs : List α} {lo hi : Option Int} (h : HT.sIx xs.length 0 lo = 0 ∧ HT.sIx xs.length xs.length hi = xs.length) : cutD xs lo hi = xs := by
  unfold cutD
  rw [h.1, h.2]
  simp
theorem gSl_ok {x : V} {v : Vl} {lo hi : Option Int} {Q : VK} {w : Vl} {h' : Hh} (sm : Sim K φ h H) (rx : VRep K mg φ h H x v) (e : gSl v lo hi h = some (w, h'))
    (k : ∀ z H' φ', Step φ h H φ' h' H' → Sim K φ' h' H' → VRep K mg φ' h' H' z w → Q z H') : rSlAll K x lo hi H Q := by
  unfold gSl at e
  split at e
  · cases e
    obtain ⟨p, zs, rfl, sq, rs⟩ := VRep.tup rx
    refine .inl ⟨p, zs, rfl, sq, fun hw => ?_, fun _ q hq => ?_⟩
    · rw [rs.length] at hw
      rw [cutD_all hw] at k
      exact k _ H φ (Step.refl _ _ _) sm rx
    · obtain ⟨s1, s2, s3⟩ := new_tup sm (rs.cut lo hi) hq
      exact k _ _ _ s1 s2 s3
  · split at e
    · cases e
      exact .inr (.inl ⟨_, VRep.str rx, fitB_le (by assumption), k _ H φ (Step.refl _ _ _) sm (Rep.str _)⟩)
    · cases e
  · split at e
    · rename_i xs ex
      cases e
      obtain ⟨p, zs, rfl, sq, rs⟩ := asL_ok sm rx ex
      refine .inr (.inr ⟨p, zs, rfl, sq, fun q hq => ?_⟩)
      obtain ⟨s1, s2, s3⟩ := new_list sm (rs.cut lo hi) hq
      exact k _ _ _ s1 s2 s3
    · cases e
end
section
variable {X : Cx} {W : WX} {a : Expr} {fa : Ev} {pos p2 : Pos} {lo hi : Option Expr} {fl fh : Ov}
theorem eo_none : EO X W none oNone := PO.of po_none fun σ H Q ⟨φ, h, ρ, sm, er, q⟩ => q H φ (Step.refl _ _ _) sm
theorem eo_some (ha : EE X W a fa) : EO X W (some a) (oSome fa) := PO.of (po_some ha) fun σ H Q ⟨φ, h, ρ, sm, er, q⟩ => ⟨φ, h, ρ, sm, er, PoO.goE q fun i H1 z => ⟨i, rfl, z⟩⟩
theorem ee_slice (ha : EE X W a fa) (hl : EO X W lo fl) (hh : EO X W hi fh) : EE X W (.Subscript a (.Slice lo hi none p2) pos) (eSl fa fl fh) :=
  PE.of (pe_slice sl_all ha hl hh) fun σ H Q ⟨φ, h, ρ, sm, er, q⟩ => ⟨φ, h, ρ, sm, er, PoX.goE q fun x v h1 H1 φ1 st sm1 rv q1 => ⟨φ1, h1, ρ, sm1, er.step st, PoX.goO q1 fun l h2 H2 φ2 st2 sm2 q2 =>
    ⟨φ2, h2, ρ, sm2, (er.step st).step st2, PoX.goO q2 fun u h3 H3 φ3 st3 sm3 q3 => by
      obtain ⟨z, h4, e4, k4⟩ := PoX.ofO q3
      exact gSl_ok sm3 (rv.step (st2.trans st3)) e4 k4⟩⟩⟩
end
/-! ### built-in functions -/
section
variable {K : PySem.W.Frag}
def gLen : GC := fun as h => match as with
  | [.d (.tuple xs)] => some (.d (.int xs.length), h)
  | [.d (.str z)] => if fitB z.length then some (.d (.int z.length), h) else none
  | [x] => match asL x h with
    | some xs => some (.d (.int xs.length), h)
    | none => none
  | _ => none
theorem VReps.one {φ : List Addr} {h : Hh} {H : Hp} {xs : List V} {v : Vl} (r : VReps K mg φ h H xs [v]) : ∃ x, xs = [x] ∧ VRep K mg φ h H x v := by
  cases r with
  | cons r t =>
    cases t
    exact ⟨_, rfl, r⟩
theorem VReps.two {φ : List Addr} {h : Hh} {H : Hp} {xs : List V} {v w : Vl} (r : VReps K mg φ h H xs [v, w]) : ∃ x y, xs = [x, y] ∧ VRep K mg φ h H x v ∧ VRep K mg φ h H y w := by
  cases r with
  | cons r t =>
    obtain ⟨y, e, q⟩ := VReps.one t
    subst e
    exact ⟨_, _, rfl, r, q⟩
theorem ok_len : OkC K mg (fun xs H Q => ∃ x n, xs = [x] ∧ LenV K x H n ∧ Q (.int n) H) gLen := by
  intro φ h H xs as Q v h' sm rs e k
  unfold gLen at e
  split at e
  · cases e
    obtain ⟨x, rfl, r⟩ := rs.one
    obtain ⟨p, zs, rfl, sq, rr⟩ := VRep.tup r
    refine ⟨_, zs.length, rfl, .inr ⟨zs, sq, rfl⟩, ?_⟩
    rw [rr.length]
    exact k _ H φ (Step.refl _ _ _) sm (Rep.int _)
  · split at e
    · cases e
      obtain ⟨x, rfl, r⟩ := rs.one
      rw [VRep.str r]
      exact ⟨_, _, rfl, ⟨fitB_le (by assumption), rfl⟩, k _ H φ (Step.refl _ _ _) sm (Rep.int _)⟩
    · cases e
  · split at e
    · rename_i ys ey
      cases e
      obtain ⟨x, rfl, r⟩ := rs.one
      obtain ⟨p, zs, rfl, sq, rr⟩ := asL_ok sm r ey
      refine ⟨_, zs.length, rfl, .inl ⟨zs, sq, rfl⟩, ?_⟩
      rw [rr.length]
      exact k _ H φ (Step.refl _ _ _) sm (Rep.int _)
    · cases e
  · cases e
def gAbs : GC := fun as h => match as with
  | [.d (.int i)] => some (.d (.int (if i < 0 then -i else i)), h)
  | _ => none
theorem ok_abs : OkC K mg (fun xs H Q => ∃ i, xs = [.int i] ∧ Q (.int (if i < 0 then -i else i)) H) gAbs := by
  intro φ h H xs as Q v h' sm rs e k
  unfold gAbs at e
  split at e
  · cases e
    obtain ⟨x, rfl, r⟩ := rs.one
    rw [VRep.int r]
    exact ⟨_, rfl, k _ H φ (Step.refl _ _ _) sm (Rep.int _)⟩
  · cases e
def gMax : GC := fun as h => match as with
  | [.d (.int i), .d (.int j)] => some (.d (.int (if j > i then j else i)), h)
  | _ => none
theorem ok_max : OkC K mg (fun xs H Q => ∃ i j, xs = [.int i, .int j] ∧ Q (.int (if j > i then j else i)) H) gMax := by
  intro φ h H xs as Q v h' sm rs e k
  unfold gMax at e
  split at e
  · cases e
    obtain ⟨x, y, rfl, r, r2⟩ := rs.two
    rw [VRep.int r, VRep.int r2]
    exact ⟨_, _, rfl, k _ H φ (Step.refl _ _ _) sm (Rep.int _)⟩
  · cases e
def gMin : GC := fun as h => match as with
  | [.d (.int i), .d (.int j)] => some (.d (.int (if j < i then j else i)), h)
  | _ => none
theorem ok_min : OkC K mg (fun xs H Q => ∃ i j, xs = [.int i, .int j] ∧ Q (.int (if j < i then j else i)) H) gMin := by
  intro φ h H xs as Q v h' sm rs e k
  unfold gMin at e
  split at e
  · cases e
    obtain ⟨x, y, rfl, r, r2⟩ := rs.two
    rw [VRep.int r, VRep.int r2]
    exact ⟨_, _, rfl, k _ H φ (Step.refl _ _ _) sm (Rep.int _)⟩
  · cases e
def gInt1 : GC := fun as h => match as with
  | [.d (.int i)] => some (.d (.int i), h)
  | [.d (.bool b)] => some (.d (.int (if b then 1 else 0)), h)
  | _ => none
theorem ok_int1 : OkC K mg (fun xs H Q => (∃ i, xs = [.int i] ∧ Q (.int i) H) ∨ ∃ k, xs = [.bl k] ∧ Q (.int (if k then 1 else 0)) H) gInt1 := by
  intro φ h H xs as Q v h' sm rs e k
  unfold gInt1 at e
  split at e
  · cases e
    obtain ⟨x, rfl, r⟩ := rs.one
    rw [VRep.int r]
    exact .inl ⟨_, rfl, k _ H φ (Step.refl _ _ _) sm (Rep.int _)⟩
  · cases e
    obtain ⟨x, rfl, r⟩ := rs.one
    rw [VRep.bl r]
    exact .inr ⟨_, rfl, k _ H φ (Step.refl _ _ _) sm (Rep.int _)⟩
  · cases e
/-- list(x), tuple(x) -/
def gList : GC := fun as h => match as with
  | [x] => match asQ x h with
    | some xs => some (.r h.length, h ++ [some (.lst xs)])
    | none => none
  | _ => none
def gTuple : GC := fun as h => match as with
  | [x] => match asQ x h with
    | some xs => some (.d (.tuple xs), h)
    | none => none
  | _ => none
theorem ok_list : OkC K mg (fun xs H Q => ∃ p ys, xs = [.ref p] ∧ (SqL K H p ys ∨ SqT K H p ys) ∧ ∀ l, H l = none → Q (.ref l) (upd H l (.lst ys))) gList := by
  intro φ h H xs as Q v h' sm rs e k
  unfold gList at e
  split at e
  · split at e
    · rename_i ys ey
      cases e
      obtain ⟨x, rfl, r⟩ := rs.one
      obtain ⟨p, zs, rfl, sq, rr⟩ := asQ_ok sm r ey
      refine ⟨p, zs, rfl, sq, fun l hl => ?_⟩
      obtain ⟨s1, s2, s3⟩ := new_list sm rr hl
      exact k _ _ _ s1 s2 s3
    · cases e
  · cases e
theorem ok_tuple : OkC K mg (fun xs H Q => ∃ p ys, xs = [.ref p] ∧ ((SqL K H p ys ∧ ∀ l, H l = none → Q (.ref l) (upd H l (.tup ys))) ∨ (SqT K H p ys ∧ Q (.ref p) H))) gTuple := by
  intro φ h H xs as Q v h' sm rs e k
  unfold gTuple at e
  split at e
  · split at e
    · rename_i w ys ey
      cases e
      obtain ⟨x, rfl, r⟩ := rs.one
      unfold asQ at ey
      split at ey
      · cases ey
        obtain ⟨p, zs, rfl, sq, rr⟩ := VRep.tup r
        exact ⟨p, zs, rfl, .inr ⟨sq, k _ H φ (Step.refl _ _ _) sm r⟩⟩
      · obtain ⟨p, zs, rfl, sq, rr⟩ := asL_ok sm r ey
        refine ⟨p, zs, rfl, .inl ⟨sq, fun l hl => ?_⟩⟩
        obtain ⟨s1, s2, s3⟩ := new_tup sm rr hl
        exact k _ _ _ s1 s2 s3
    · cases e
  · cases e
/-! ### isinstance with a built-in class -/
inductive Ty where
  | int | bool | str | tuple | list | dict
def Ty.name : Ty → String
  | .int => "int" | .bool => "bool" | .str => "str" | .tuple => "tuple" | .list => "list" | .dict => "dict"
def isTyD : Ty → Da → Option Bool
  | .int, .int _ => some true
  | .int, .bool _ => some true
  | .bool, .bool _ => some true
  | .str, .str _ => some true
  | .tuple, .tuple _ => some true
  | .list, .list _ => some true
  | .dict, .dict [] => some true
  | _, .dict [] => some false
  | _, .dict _ => none
  | _, _ => some false
def isTy (T : Ty) (v : Vl) (h : Hh) : Option Bool := match v with
  | .d x => isTyD T x
  | .r n => match h[n]? with
    | some (some (.lst xs)) => isTyD T (.list xs)
    | some (some (.dct _)) => some (match T with | .dict => true | _ => false)
    | _ => none
  | .x _ _ => none
  | .f _ => none
def eIsi (T : Ty) (a : Ev) : Ev := fun ρ h => (a ρ h).bind fun v h1 => match isTy T v h1 with
  | some b => .ok (.d (.bool b)) h1
  | none => .no
theorem kt_nn (T : Ty) : kitB "NoneType" T.name = some false := by cases T <;> decide +kernel
theorem kt_bl (T : Ty) : kitB "bool" T.name = some (match T with | .int => true | .bool => true | _ => false) := by cases T <;> decide +kernel
theorem kt_int (T : Ty) : kitB "int" T.name = some (match T with | .int => true | _ => false) := by cases T <;> decide +kernel
theorem kt_str (T : Ty) : kitB "str" T.name = some (match T with | .str => true | _ => false) := by cases T <;> decide +kernel
theorem kt_tup (T : Ty) : kitB "tuple" T.name = some (match T with | .tuple => true | _ => false) := by cases T <;> decide +kernel
theorem kt_lst (T : Ty) : kitB "list" T.name = some (match T with | .list => true | _ => false) := by cases T <;> decide +kernel
theorem kt_dct (T : Ty) : kitB "dict" T.name = some (match T with | .dict => true | _ => false) := by cases T <;> decide +kernel
theorem isTyD_ok {H : Hp} {M : Addr → Prop} {x : V} {d : Da} {T : Ty} {b : Bool} (r : Rep K H M x d) (e : isTyD T d = some b) : ∃ t, TyX K H x (.type t) ∧ kitB t T.name = some b := by
  cases r with
  | non => exact ⟨_, .base .non, by rw [kt_nn]; cases T <;> cases e <;> rfl⟩
  | bl c => exact ⟨_, .base (.bl c), by rw [kt_bl]; cases T <;> cases e <;> rfl⟩
  | int c => exact ⟨_, .base (.int c), by rw [kt_int]; cases T <;> cases e <;> rfl⟩
  | str c => exact ⟨_, .base (.str c), by rw [kt_str]; cases T <;> cases e <;> rfl⟩
  | tup h n r =>
    rcases h with h | ⟨o, h⟩
    · exact ⟨_, .base (.tup h), by rw [kt_tup]; cases T <;> cases e <;> rfl⟩
    · exact ⟨_, .fTuple h, by rw [kt_tup]; cases T <;> cases e <;> rfl⟩
  | tupK h r =>
    obtain ⟨o, its, n, h1, h2, _⟩ := h
    exact ⟨_, .kTuple h1 h2, by rw [kt_tup]; cases T <;> cases e <;> rfl⟩
  | lst h n r =>
    rcases h with h | ⟨o, h⟩
    · exact ⟨_, .base (.lst h), by rw [kt_lst]; cases T <;> cases e <;> rfl⟩
    · exact ⟨_, .base (.frz h), by rw [kt_lst]; cases T <;> cases e <;> rfl⟩
  | lstK h r =>
    obtain ⟨o, its, n, h1, h2, _⟩ := h
    exact ⟨_, .kList h1 h2, by rw [kt_lst]; cases T <;> cases e <;> rfl⟩
  | dct0 h n =>
    exact ⟨_, .base (.dT h), by rw [kt_dct]; cases T <;> cases e <;> rfl⟩
  | @dct a kvs ds kds h n ne r e2 =>
    refine ⟨_, .base (.dK h), ?_⟩
    rw [kt_dct]
    clear e2
    cases kds with
    | nil => cases T <;> cases e <;> rfl
    | cons p t => cases T <;> cases e
  | fn x => cases T <;> cases e
  | plt _ _ _ _ => cases T <;> cases e
theorem isTy_ok {φ : List Addr} {h : Hh} {H : Hp} {x : V} {v : Vl} {T : Ty} {b : Bool} (sm : Sim K φ h H) (r : VRep K mg φ h H x v) (e : isTy T v h = some b) : ∃ t, TyX K H x (.type t) ∧ kitB t T.name = some b := by
  cases v with
  | d d => exact isTyD_ok (show Rep K H (Live φ h) x d from r) e
  | r n =>
    obtain ⟨a, ea, rfl⟩ := r
    unfold isTy at e
    dsimp only at e
    split at e
    · rename_i xs ex
      obtain ⟨zs, e2, q⟩ := sm.at_ ex ea
      exact ⟨_, .base (.lst e2), by rw [kt_lst]; cases T <;> cases e <;> rfl⟩
    · rename_i kvs ex
      obtain ⟨zs, e2, q⟩ := sm.at_ ex ea
      exact ⟨_, .base (.dK e2), by rw [kt_dct]; cases T <;> cases e <;> rfl⟩
    · cases e
  | x c fs =>
    unfold isTy at e
    cases e
  | f D =>
    unfold isTy at e
    cases e
end
section
variable {X : Cx} {W : WX} {a : Expr} {fa : Ev} {pos p q : Pos}
theorem ee_isi {x : Str} (T : Ty) (hg : Gl X "isinstance") (hm : X.mg "isinstance" = none) (hg2 : Gl X x) (hm2 : X.mg x = none) (hv2 : bootBuiltins x = some (.type T.name)) (hn2 : x ≠ "__name__" := by decide) (hd2 : (x == ("__debug__" : Str)) = false := by decide)
    (ha : EE X W a fa) (he : starEach [a, .Name x q] X.env = (false, eval a X.env) :: starEach [.Name x q] X.env := by rfl) (he2 : starEach [.Name x q] X.env = (false, eval (.Name x q) X.env) :: starEach [] X.env := by rfl) (hpl : (backTo pos (starEach [.Name x q] X.env)).any (·.1) = false := by rfl) :
    EE X W (.Call (.Name "isinstance" p) [a, .Name x q] [] pos) (eIsi T fa) :=
  PE.of (pe_callB call_isi hg hm PyProof.Rows.boot_isinstance (pa_cons ha (pa_cons (pe_bltn (v := .ty T.name) hg2 hm2 hv2 rfl hn2 hd2) pa_nil he2) he) (by decide) (by decide) he hpl) fun σ H Q ⟨φ, h, ρ, sm, er, qq⟩ => ⟨φ, h, ρ, sm, er, PoX.goE qq fun x v h1 H1 φ1 st sm1 rv q1 => by
    cases e : isTy T v h1 with
    | none => rw [e] at q1; exact q1.elim
    | some b =>
      rw [e] at q1
      obtain ⟨t, ty, kt⟩ := isTy_ok sm1 rv e
      exact ⟨x, .ty T.name, .type t, .type T.name, b, rfl, .ty _, ty, kit_ty kt, PoX.now (v := .d (.bool b)) q1 sm1 (Rep.bl b)⟩⟩
end
end Rk

/-! Rk5: targets, statements, loops, a def. -/
namespace Rk
open PySem PySem.Spec L2
variable {mg : Str → Option Value}
/-! ### targets -/
abbrev Gv := Vl → En → Hh → Option (En × Hh)
abbrev Gs := List Vl → En → Hh → Option (En × Hh)
def tG (K : PySem.W.Frag) (mg : Str → Option Value) (g : Gv) : TG := fun x σ H Q => ∃ φ h ρ v ρ' h', Sim K φ h H ∧ ERep K mg φ h H σ ρ ∧ VRep K mg φ h H x v ∧ g v ρ h = some (ρ', h') ∧ ∀ σ' H' φ', Step φ h H φ' h' H' → Sim K φ' h' H' → ERep K mg φ' h' H' σ' ρ' → Q σ' H'
def tGs (K : PySem.W.Frag) (mg : Str → Option Value) (g : Gs) : TGs := fun xs σ H Q => ∃ φ h ρ vs ρ' h', Sim K φ h H ∧ ERep K mg φ h H σ ρ ∧ VReps K mg φ h H xs vs ∧ g vs ρ h = some (ρ', h') ∧ ∀ σ' H' φ', Step φ h H φ' h' H' → Sim K φ' h' H' → ERep K mg φ' h' H' σ' ρ' → Q σ' H'
def EG (X : Cx) (tg : Expr) (g : Gv) : Prop := PG X tg (tG X.K X.mg g)
def EGs (X : Cx) (tg : List Expr) (g : Gs) : Prop := PGs X tg (tGs X.K X.mg g)
theorem PG.of {X : Cx} {e : Expr} {t t' : TG} (h : PG X e t) (i : ∀ x σ H Q, t' x σ H Q → t x σ H Q) : PG X e t' := ⟨fun pins s σ H v u Q I r w => h.run pins s σ H v u Q I r (i v σ H Q w)⟩
theorem PGs.of {X : Cx} {e : List Expr} {t t' : TGs} (h : PGs X e t) (i : ∀ x σ H Q, t' x σ H Q → t x σ H Q) : PGs X e t' := ⟨fun pins s σ H v u Q I r w => h.run pins s σ H v u Q I r (i v σ H Q w)⟩
def gN (i : Nat) : Gv := fun v ρ h => some (ρ.set i (some v), h)
def gsNil : Gs := fun vs ρ h => match vs with
  | [] => some (ρ, h)
  | _ => none
def gsCons (g : Gv) (r : Gs) : Gs := fun vs ρ h => match vs with
  | v :: t => (g v ρ h).bind fun p => r t p.1 p.2
  | [] => none
/-- a tuple, or a list, of n -/
def gTupT (n : Nat) (g : Gs) : Gv := fun v ρ h => match v with
  | .d (.tuple ds) => if ds.length = n then g (ds.map Vl.d) ρ h else none
  | _ => none
theorem Reps.vreps {K : PySem.W.Frag} {φ : List Addr} {h : Hh} {H : Hp} : ∀ {xs : List V} {ds : List Da}, Reps K H (Live φ h) xs ds → VReps K mg φ h H xs (ds.map Vl.d)
  | _, _, .nil => .nil
  | _, _, .cons r t => .cons r (Reps.vreps t)
section
variable {X : Cx} {pos : Pos}
theorem eg_name {i : Nat} {x : Str} (hN : X.N.Nodup) (hi : X.N[i]? = some x := by rfl) (hx : Loc X.env.scope x := by first | exact .inl rfl | exact .inr rfl) (hf : X.fn x = true ∨ X.env.scope.names.lookup x = some .local := by first | exact .inl rfl | exact .inr rfl | assumption) : EG X (.Name x pos) (gN i) :=
  PG.of (pg_name (i := i) hN hi hx hf) fun x σ H Q ⟨φ, h, ρ, v, ρ', h', sm, er, rv, e, k⟩ => by
    cases e
    exact k _ H φ (Step.refl _ _ _) sm (er.set rv)
theorem egs_nil : EGs X [] gsNil := PGs.of pgs_nil fun xs σ H Q ⟨φ, h, ρ, vs, ρ', h', sm, er, rv, e, k⟩ => by
  cases rv with
  | nil =>
    cases e
    exact ⟨rfl, k _ H φ (Step.refl _ _ _) sm er⟩
  | cons _ _ => cases e
theorem egs_cons {e : Expr} {es : List Expr} {g : Gv} {gs : Gs} (h1 : EG X e g) (h2 : EGs X es gs)
    (hs : (assignEach (e :: es) X.env).map (·.2) = assign e X.env :: (assignEach es X.env).map (·.2) := by rfl) : EGs X (e :: es) (gsCons g gs) :=
  PGs.of (pgs_cons h1 h2 hs) fun xs σ H Q ⟨φ, h, ρ, vs, ρ', h', sm, er, rv, e, k⟩ => by
    cases rv with
    | nil => cases e
    | @cons x xs v vs r t =>
      have e' : ((g v ρ h).bind fun p => gs vs p.1 p.2) = some (ρ', h') := e
      cases q : g v ρ h with
      | none => rw [q] at e'; cases e'
      | some p =>
        obtain ⟨ρ1, h1⟩ := p
        rw [q] at e'
        exact ⟨x, xs, rfl, φ, h, ρ, v, ρ1, h1, sm, er, r, q, fun σ1 H1 φ1 st sm1 er1 => ⟨φ1, h1, ρ1, vs, ρ', h', sm1, er1, t.step st, e', fun σ2 H2 φ2 st2 => k σ2 H2 φ2 (st.trans st2)⟩⟩
theorem eg_tup {es : List Expr} {k n : Nat} {gs : Gs} (hc : X.calm = true) (h : EGs X es gs) (hn : (assignEach es X.env).length = n := by rfl) (hst : (assignEach es X.env).findIdx? (·.1) = none := by rfl) : EG X (.Tuple es k pos) (gTupT n gs) :=
  PG.of (pg_tup hc h hn hst) fun x σ H Q ⟨φ, h, ρ, v, ρ', h', sm, er, rv, e, k⟩ => by
    unfold gTupT at e
    split at e
    · rename_i ds
      split at e
      · obtain ⟨a, xs, rfl, sq, rs⟩ := VRep.tup rv
        exact ⟨a, xs, rfl, sq, by rw [rs.length]; assumption, φ, h, ρ, _, ρ', h', sm, er, rs.vreps, e, k⟩
      · cases e
    · cases e
end
/-! ### statements -/
def ofG : Option (En × Hh) → So
  | some p => .nx p.1 p.2
  | none => .no
def sAsg (g : Gv) (f : Ev) : Sv := fun ρ h => Out.then ρ (f ρ h) fun v h1 => ofG (g v ρ h1)
def sSet (i : Nat) (f : Ev) : Sv := fun ρ h => Out.then ρ (f ρ h) fun v h1 => .nx (ρ.set i (some v)) h1
def sRet (f : Ev) : Sv := fun ρ h => Out.then ρ (f ρ h) fun v h1 => .rt v h1
def sRetN : Sv := fun _ h => .rt (.d .none) h
def sExpr (f : Ev) : Sv := fun ρ h => Out.then ρ (f ρ h) fun _ h1 => .nx ρ h1
def sIf (c : Tv) (a b : Sv) : Sv := fun ρ h => Out.then ρ (c ρ h) fun k h1 => if k then a ρ h1 else b ρ h1
def So.then : So → Sv → So
  | .nx ρ h, f => f ρ h
  | r, _ => r
def sSeq (a b : Sv) : Sv := fun ρ h => (a ρ h).then b
def sNil : Sv := fun ρ h => .nx ρ h
def sBrk : Sv := fun ρ h => .bk ρ h
def sCont : Sv := fun ρ h => .ct ρ h
def sPar (i j : Nat) (as : Av) : Sv := fun ρ h => Out.then ρ (as ρ h) fun vs h1 => match vs with
  | [v, w] => .nx ((ρ.set i (some v)).set j (some w)) h1
  | _ => .no
section
variable {X : Cx} {W : WX} {e : Expr} {fe : Ev} {pos : Pos}
theorem PoS.nxNow {K : PySem.W.Frag} {mg : Str → Option Value} {φ : List Addr} {h : Hh} {H : Hp} {ρ : En} {σ : L2.St} {D : Ends} {W : WX} (q : PoS K mg φ h H (.nx ρ h) D W) (sm : Sim K φ h H) (er : ERep K mg φ h H σ ρ) : D.nx σ H := q σ H φ (Step.refl _ _ _) sm er
theorem es_asg {tg : Expr} {g : Gv} (he : EE X W e fe) (hg : EG X tg g) (hs : swapsWithSole [tg] e pos.line X.env = pure false := by rfl) (hw : swappedStores [tg] e X.env = pure none := by rfl)
    (h1 : (assignEach [tg] X.env).map (·.2) = [assign tg X.env] := by rfl) : ES X W (.Assign [tg] e pos) (sAsg g fe) :=
  PS.of (ps_asg he hg hs hw h1) fun D σ H ⟨φ, h, ρ, sm, er, q⟩ => ⟨φ, h, ρ, sm, er, PoS.goE er q fun x v h1 H1 φ1 st sm1 er1 rv q1 => by
    cases e : g v ρ h1 with
    | none => rw [e] at q1; exact q1.elim
    | some p =>
      rw [e] at q1
      exact ⟨φ1, h1, ρ, v, p.1, p.2, sm1, er1, rv, e, q1⟩⟩
theorem es_set {i : Nat} {x : Str} {pos' : Pos} (hN : X.N.Nodup) (he : EE X W e fe) (hi : X.N[i]? = some x := by rfl) (hx : Loc X.env.scope x := by first | exact .inl rfl | exact .inr rfl) (hs : swapsWith e (some (.Name x pos')) pos.line X.env = pure false := by rfl) (hf : X.fn x = true ∨ X.env.scope.names.lookup x = some .local := by first | exact .inl rfl | exact .inr rfl | assumption) :
    ES X W (.Assign [.Name x pos'] e pos) (sSet i fe) :=
  PS.of (ps_set hN hi hx he hs hf) fun D σ H ⟨φ, h, ρ, sm, er, q⟩ => ⟨φ, h, ρ, sm, er, PoS.goE er q fun x v h1 H1 φ1 st sm1 er1 rv q1 => PoS.nxNow q1 sm1 (er1.set rv)⟩
theorem es_ret (he : EE X W e fe) : ES X W (.Return (some e) pos) (sRet fe) :=
  PS.of (ps_ret he) fun D σ H ⟨φ, h, ρ, sm, er, q⟩ => ⟨φ, h, ρ, sm, er, PoS.goE er q fun x v h1 H1 φ1 st sm1 er1 rv q1 => q1 x H1 φ1 (Step.refl _ _ _) sm1 rv⟩
theorem es_expr (he : EE X W e fe) (hs : swapsWith e none pos.line X.env = pure false := by rfl) : ES X W (.Expr e pos) (sExpr fe) :=
  PS.of (ps_expr he hs) fun D σ H ⟨φ, h, ρ, sm, er, q⟩ => ⟨φ, h, ρ, sm, er, PoS.goE er q fun x v h1 H1 φ1 st sm1 er1 rv q1 => PoS.nxNow q1 sm1 er1⟩
theorem es_if {c : Expr} {a b : List Stmt} {tc : Tv} {fa fb : Sv} (hc : ET X W c tc) (ha : ESs X W a fa) (hb : ESs X W b fb) : ES X W (.If c a b pos) (sIf tc fa fb) :=
  PS.of (ps_if hc ha hb) fun D σ H ⟨φ, h, ρ, sm, er, q⟩ => ⟨φ, h, ρ, sm, er, PoS.goT er q fun v h1 H1 φ1 st sm1 er1 q1 => by
    cases v with
    | true => exact iteT ⟨φ1, h1, ρ, sm1, er1, q1⟩
    | false => exact iteF ⟨φ1, h1, ρ, sm1, er1, q1⟩⟩
theorem ess_nil : ESs X W [] sNil := PSs.of pss_nil fun D σ H ⟨φ, h, ρ, sm, er, q⟩ => PoS.nxNow q sm er
theorem ess_one {st : Stmt} {f : Sv} (h : ES X W st f) : ESs X W [st] f := pss_one h
theorem ess_cons {st : Stmt} {rest : List Stmt} {f g : Sv} (h1 : ES X W st f) (h2 : ESs X W rest g) : ESs X W (st :: rest) (sSeq f g) :=
  PSs.of (pss_cons h1 h2) fun D σ H ⟨φ, h, ρ, sm, er, q⟩ => ⟨φ, h, ρ, sm, er, by
    unfold sSeq at q
    revert q
    cases f ρ h with
    | nx ρ1 h1 => exact fun q σ1 H1 φ1 st sm1 er1 => ⟨φ1, h1, ρ1, sm1, er1, PoS.pull st q⟩
    | rt v h1 => exact fun q => q
    | bk ρ1 h1 => exact fun q => q
    | ct ρ1 h1 => exact fun q => q
    | ex c fs ρ1 h1 => exact fun q => q
    | no => exact fun q => q⟩
theorem es_par {i j : Nat} {x y : Str} {a b : Expr} {fs : Av} {px py pt : Pos} {kt k2 : Nat} {pt2 : Pos} (hc : X.calm = true) (hN : X.N.Nodup) (ha : EA X W [a, b] fs) (hi : X.N[i]? = some x := by rfl) (hj : X.N[j]? = some y := by rfl) (hij : i ≠ j := by decide)
    (hx : X.env.scope.names.lookup x = some .local := by rfl) (hy : X.env.scope.names.lookup y = some .local := by rfl)
    (hw : swappedStores [.Tuple [.Name x px, .Name y py] kt pt] (.Tuple [a, b] k2 pt2) X.env = pure (some [x, y]) := by rfl)
    (hs : swapsWithSole [.Tuple [.Name x px, .Name y py] kt pt] (.Tuple [a, b] k2 pt2) pos.line X.env = pure false := by rfl) :
    ES X W (.Assign [.Tuple [.Name x px, .Name y py] kt pt] (.Tuple [a, b] k2 pt2) pos) (sPar i j fs) :=
  PS.of (ps_par hc hN hi hj hij hx hy ha hw hs) fun D σ H ⟨φ, h, ρ, sm, er, q⟩ => ⟨φ, h, ρ, sm, er, PoS.goA er q fun xs vs h1 H1 φ1 st sm1 er1 rv q1 => by
    split at q1
    · obtain ⟨x, y, rfl, r1, r2⟩ := rv.two
      exact ⟨x, y, rfl, PoS.nxNow q1 sm1 ((er1.set r1).set r2)⟩
    · exact q1.elim⟩
/-- name op= e -/
def sAug (i : Nat) (g : G2) (f : Ev) : Sv := fun ρ h => Out.then ρ (eVar i ρ h) fun x h0 => Out.then ρ (f ρ h0) fun y h1 => Out.then ρ (ofO (g x y h1)) fun z h2 => .nx (ρ.set i (some z)) h2
/-- o[i] = e, o a list -/
def okO : Out Vl → Option (Vl × Hh)
  | .ok v h => some (v, h)
  | _ => none
def setL (o i v : Vl) (h : Hh) : Option Hh := match o, i, fz v h with
  | .r n, .d (.int k), some (d, h1) => match h1[n]? with
    | some (some (.lst xs)) => (ixN xs.length k).map fun j => h1.set n (some (.lst (xs.set j d)))
    | _ => none
  | _, _, _ => none
def gSetL (o ix : Ev) : Gv := fun v ρ h => (okO (o ρ h)).bind fun p => (okO (ix ρ p.2)).bind fun q => (setL p.1 q.1 v q.2).map fun h' => (ρ, h')
theorem okO_some {o : Out Vl} {v : Vl} {h : Hh} (e : okO o = some (v, h)) : o = .ok v h := by
  cases o <;> cases e
  rfl
theorem setL_ok {K : PySem.W.Frag} {φ : List Addr} {h h' : Hh} {H : Hp} {x y z : V} {o i v : Vl} {Q : Hp → Prop} (sm : Sim K φ h H) (rx : VRep K mg φ h H x o) (ry : VRep K mg φ h H y i) (rz : VRep K mg φ h H z v) (e : setL o i v h = some h')
    (k : ∀ H' φ', Step φ h H φ' h' H' → Sim K φ' h' H' → Q H') : rSetL x y z H Q := by
  unfold setL at e
  split at e
  · rename_i n kk d h1 ef
    obtain ⟨s1, s2, s3⟩ := fz_ok sm rz ef
    split at e
    · rename_i xs en
      obtain ⟨a, ea, rfl⟩ := rx
      cases q : ixN xs.length kk with
      | none => rw [q] at e; cases e
      | some j =>
        rw [q] at e
        cases e
        obtain ⟨ys, eh, rs⟩ := s2.at_ en ea
        obtain ⟨t1, t2⟩ := s2.write (ob := .lst (xs.set j d)) (u := .lst (ys.set j z)) en ea fun M st => ⟨_, upd_same, Reps.set (s3.stay st) j (rs.stay st)⟩
        exact ⟨a, ys, kk, j, rfl, VRep.int ry, eh, by rw [rs.length]; exact q, k _ _ (s1.trans t1) t2⟩
    · cases e
  · cases e
theorem eg_setL {o ix : Expr} {fo fi : Ev} (ho : EE X W o fo) (hi : EE X W ix fi)
    (ha : ∀ v, assign (.Subscript o ix pos) X.env v = (do
      let ov ← holding [v] (eval o X.env)
      let iv ← holding [v, ov] (eval ix X.env)
      standAt pos
      holding [v, ov, iv] (setItem ov iv v)
      release [v, ov, iv] []) := by intro _; rfl) : EG X (.Subscript o ix pos) (gSetL fo fi) :=
  PG.of (pg_sub ho hi set_list ha) fun x σ H Q ⟨φ, h, ρ, v, ρ', h', sm, er, rv, e, k⟩ => by
    unfold gSetL at e
    cases e1 : okO (fo ρ h) with
    | none => rw [e1] at e; cases e
    | some p =>
      obtain ⟨ov, h1⟩ := p
      rw [e1] at e
      dsimp only [Option.bind_some] at e
      cases e2 : okO (fi ρ h1) with
      | none => rw [e2] at e; cases e
      | some p2 =>
        obtain ⟨iv, h2⟩ := p2
        rw [e2] at e
        dsimp only [Option.bind_some] at e
        cases e3 : setL ov iv v h2 with
        | none => rw [e3] at e; cases e
        | some h3 =>
          rw [e3] at e
          cases e
          refine ⟨φ, h, ρ, sm, er, ?_⟩
          rw [okO_some e1]
          intro y H1 φ1 st1 sm1 ry
          refine ⟨φ1, h1, ρ, sm1, er.step st1, ?_⟩
          rw [okO_some e2]
          intro z H2 φ2 st2 sm2 rz
          exact setL_ok sm2 (ry.step st2) rz (rv.step (st1.trans st2)) e3 fun H3 φ3 st3 sm3 => k σ H3 φ3 ((st1.trans st2).trans st3) sm3 (er.step ((st1.trans st2).trans st3))
end
end Rk

/-! Rk6: loops, defs. -/
namespace Rk
open PySem PySem.Spec L2
variable {mg : Str → Option Value}
/-! ### what is walked -/
/-- a list that must stand still -/
def gdOk (gd : Option (Nat × List Da)) (h : Hh) : Prop := match gd with
  | none => True
  | some (n, xs) => h[n]? = some (some (.lst xs))
structure Itm where
  ds : List Da
  gd : Option (Nat × List Da)
abbrev Iv := En → Hh → Out Itm
structure ItOk (K : PySem.W.Frag) (J : It) (m : Itm) (G : List Addr → Hh → Hp → Prop) : Prop where
  go : ∀ (φ : List Addr) (h : Hh) (H : Hp) (i : Nat), Sim K φ h H → G φ h H → gdOk m.gd h → i < m.ds.length → J.go i H
  yld : ∀ (φ : List Addr) (h : Hh) (H : Hp) (i : Nat) (x : V) (H' : Hp) (d : Da), Sim K φ h H → G φ h H → gdOk m.gd h → m.ds[i]? = some d → J.yld i H x H' → Step φ h H φ h H' ∧ Sim K φ h H' ∧ Rep K H' (Live φ h) x d
  stop : ∀ (φ : List Addr) (h : Hh) (H : Hp) (i : Nat), Sim K φ h H → G φ h H → gdOk m.gd h → m.ds.length ≤ i → J.stop i H
  keep : ∀ (φ : List Addr) (h : Hh) (H : Hp) (φ' : List Addr) (h' : Hh) (H' : Hp), G φ h H → Step φ h H φ' h' H' → G φ' h' H'
def PoI (K : PySem.W.Frag) (mg : Str → Option Value) (φ : List Addr) (h : Hh) (H : Hp) (o : Out Itm) (R : It → Hp → Prop) (E : XK) : Prop := match o with
  | .ok m h' => ∀ J H' φ' G, Step φ h H φ' h' H' → Sim K φ' h' H' → ItOk K J m G → G φ' h' H' → R J H'
  | .ex c fs h' => ∀ cls dd H' φ', Step φ h H φ' h' H' → Sim K φ' h' H' → XRep K mg H' (Live φ' h') c fs cls dd → E cls dd H'
  | .no => False
def tI (K : PySem.W.Frag) (mg : Str → Option Value) (W : WX) (f : Iv) : TI := fun σ H R => ∃ φ h ρ, Sim K φ h H ∧ ERep K mg φ h H σ ρ ∧ PoI K mg φ h H (f ρ h) R (WE W σ)
def EI (X : Cx) (W : WX) (tg iter : Expr) (f : Iv) : Prop := PI X tg iter (tI X.K X.mg W f)
theorem PI.of {X : Cx} {tg e : Expr} {t t' : TI} (h : PI X tg e t) (i : ∀ σ H Q, t' σ H Q → t σ H Q) : PI X tg e t' := ⟨fun pins s σ H Q I w => h.run pins s σ H Q I (i σ H Q w)⟩
section
variable {K : PySem.W.Frag} {mg : Str → Option Value} {φ φ1 : List Addr} {h h1 : Hh} {H H1 : Hp} {E : XK}
theorem PoI.pull {o : Out Itm} {Q : It → Hp → Prop} (s : Step φ h H φ1 h1 H1) (q : PoI K mg φ h H o Q E) : PoI K mg φ1 h1 H1 o Q E := by
  cases o with
  | ok v h2 => exact fun J H' φ' G st => q J H' φ' G (s.trans st)
  | ex c fs h2 => exact fun cls dd H' φ' st => q cls dd H' φ' (s.trans st)
  | no => exact q
theorem PoI.goE {o : Out Vl} {k : Vl → Hh → Out Itm} {Q : It → Hp → Prop} {Q1 : VK} (q : PoI K mg φ h H (o.bind k) Q E)
    (hk : ∀ (x : V) (v : Vl) (h1 : Hh) (H1 : Hp) (φ1 : List Addr), Step φ h H φ1 h1 H1 → Sim K φ1 h1 H1 → VRep K mg φ1 h1 H1 x v → PoI K mg φ1 h1 H1 (k v h1) Q E → Q1 x H1) : PoX K mg φ h H o Q1 E := by
  cases o with
  | ok v h1 => exact fun x H' φ' st sm' rv => hk x v h1 H' φ' st sm' rv (PoI.pull st q)
  | ex c fs h1 => exact q
  | no => exact q
theorem PoI.goA {o : Out (List Vl)} {k : List Vl → Hh → Out Itm} {Q : It → Hp → Prop} {Q1 : List V → Hp → Prop} (q : PoI K mg φ h H (o.bind k) Q E)
    (hk : ∀ (x : List V) (v : List Vl) (h1 : Hh) (H1 : Hp) (φ1 : List Addr), Step φ h H φ1 h1 H1 → Sim K φ1 h1 H1 → VReps K mg φ1 h1 H1 x v → PoI K mg φ1 h1 H1 (k v h1) Q E → Q1 x H1) : PoA K mg φ h H o Q1 E := by
  cases o with
  | ok v h1 => exact fun x H' φ' st sm' rv => hk x v h1 H' φ' st sm' rv (PoI.pull st q)
  | ex c fs h1 => exact q
  | no => exact q
end
/-- a list: data, or an object that must stand still -/
def itL : Vl → Hh → Out Itm
  | .d (.list ds), h => .ok ⟨ds, none⟩ h
  | .r n, h => match h[n]? with
    | some (some (.lst ds)) => .ok ⟨ds, some (n, ds)⟩ h
    | _ => .no
  | _, _ => .no
def itT : Vl → Hh → Out Itm
  | .d (.tuple ds), h => .ok ⟨ds, none⟩ h
  | _, _ => .no
def itQ : Vl → Hh → Out Itm
  | .d (.tuple ds), h => .ok ⟨ds, none⟩ h
  | v, h => itL v h
def iv (it : Vl → Hh → Out Itm) (f : Ev) : Iv := fun ρ h => (f ρ h).bind it
def iSeq (K : PySem.W.Frag) (tl : TE) : TI := fun σ H R => tl σ H fun x H1 => ∃ a, x = .ref a ∧ (((∃ xs, SqL K H1 a xs) ∧ R (Itl K a) H1) ∨ ((∃ xs, SqT K H1 a xs) ∧ R (Itt K a) H1))
theorem pi_seq {X : Cx} {tg l : Expr} {tl : TE} (hl : PE X l tl) : PI X tg l (iSeq X.K tl) := by
  refine ⟨fun pins s σ H R I h => ?_⟩
  refine thn (hl.run pins s σ H _ I h) fun v s1 ⟨x, H1, I1, r1, q1⟩ => ?_
  obtain ⟨a, e, q⟩ := q1
  subst e
  cases r1
  have nf : ∀ b : Addr, b ∈ [s1.heap.objs.size] → FpOk X pins H1 b := fun b hb => by
    have e : b = s1.heap.objs.size := by simpa using hb
    subst e
    exact I1.fpOk (Nat.le_refl _) (I1.hok.fresh (Nat.le_refl _))
  rcases q with ⟨⟨xs, hq⟩, q⟩ | ⟨⟨xs, hq⟩, q⟩
  · obtain ⟨its, rv, p, hz⟩ := I1.list hq
    exact wpAny_pyIter_list p.isList ⟨s1.heap.objs.size, [s1.heap.objs.size], _, _, H1, rfl, I1.kept (t' := s1.toks) fun b o e => Heap.get?_push_of_some _ e, turn_list a _, ⟨_, Heap.get?_push_size _ rfl, rfl, rfl⟩, nf, q⟩
  · obtain ⟨its, rv, p, hz⟩ := I1.tuple hq
    exact wpAny_pyIter_tuple (show s1.heap.IsTuple a its.toArray from p) ⟨s1.heap.objs.size, [s1.heap.objs.size], _, _, H1, rfl, I1.kept (t' := s1.toks) fun b o e => Heap.get?_push_of_some _ e, turn_tuple a _, ⟨_, Heap.get?_push_size _ rfl, rfl, rfl⟩, nf, q⟩
section
variable {K : PySem.W.Frag}
/-- how a list stands, for a walk -/
structure LOk (K : PySem.W.Frag) (a : Addr) (m : Itm) (G : List Addr → Hh → Hp → Prop) : Prop where
  sq : ∀ (φ : List Addr) (h : Hh) (H : Hp), Sim K φ h H → G φ h H → gdOk m.gd h → ∃ xs, SqL K H a xs ∧ Reps K H (Live φ h) xs m.ds
  keep : ∀ (φ : List Addr) (h : Hh) (H : Hp) (φ' : List Addr) (h' : Hh) (H' : Hp), G φ h H → Step φ h H φ' h' H' → G φ' h' H'
theorem itL_lok {φ : List Addr} {h h' : Hh} {H : Hp} {x : V} {v : Vl} {m : Itm} (sm : Sim K φ h H) (r : VRep K mg φ h H x v) (e : itL v h = .ok m h') : h' = h ∧ gdOk m.gd h ∧ ∃ a G, x = .ref a ∧ LOk K a m G ∧ G φ h H := by
  unfold itL at e
  split at e
  · cases e
    rename_i ds
    have r' : Rep K H (Live φ h) x (.list ds) := r
    cases r' with
    | @lst a xs _ h1 n r1 =>
      exact ⟨rfl, trivial, a, fun φ h H => Rep K H (Live φ h) (.ref a) (.list ds), rfl, ⟨fun φ h H _ g _ => Rep.sqL g, fun φ h H φ' h' H' g st => Rep.stay st.st g⟩, r⟩
    | @lstK a xs _ h1 r1 =>
      exact ⟨rfl, trivial, a, fun φ h H => Rep K H (Live φ h) (.ref a) (.list ds), rfl, ⟨fun φ h H _ g _ => Rep.sqL g, fun φ h H φ' h' H' g st => Rep.stay st.st g⟩, r⟩
  · split at e
    · rename_i n _ ds en
      cases e
      obtain ⟨a, ea, rfl⟩ := r
      refine ⟨rfl, en, a, fun (φ : List Addr) (h : Hh) (H : Hp) => φ[n]? = some a, rfl, ⟨fun φ h H sm g gd => ?_, fun φ h H φ' h' H' g st => pre_get st.pre g⟩, ea⟩
      obtain ⟨xs, e2, q⟩ := sm.at_ gd g
      exact ⟨xs, .of e2, q⟩
    · cases e
  · cases e
theorem LOk.it {a : Addr} {m : Itm} {G : List Addr → Hh → Hp → Prop} (L : LOk K a m G) : ItOk K (Itl K a) m G where
  go := fun φ h H i sm g gd hi => by
    obtain ⟨xs, sq, rs⟩ := L.sq φ h H sm g gd
    obtain ⟨y, e, _⟩ := rs.get (List.getElem?_eq_getElem hi)
    exact ⟨xs, y, sq, e⟩
  yld := fun φ h H i x H' d sm g gd ed ⟨e, q⟩ => by
    subst e
    obtain ⟨xs, sq, rs⟩ := L.sq φ h H' sm g gd
    obtain ⟨y, ey, ry⟩ := rs.get ed
    have e2 := q xs sq
    rw [ey] at e2
    cases e2
    exact ⟨Step.refl _ _ _, sm, ry⟩
  stop := fun φ h H i sm g gd hi => by
    obtain ⟨xs, sq, rs⟩ := L.sq φ h H sm g gd
    exact ⟨xs, sq, by rw [rs.length]; exact hi⟩
  keep := L.keep
theorem tup_it {a : Addr} {ds : List Da} : ItOk K (Itt K a) ⟨ds, none⟩ (fun φ h H => Rep K H (Live φ h) (.ref a) (.tuple ds)) where
  go := fun φ h H i sm g gd hi => by
    obtain ⟨xs, sq, rs⟩ := Rep.sqT g
    obtain ⟨y, e, _⟩ := rs.get (List.getElem?_eq_getElem hi)
    exact ⟨xs, y, sq, e⟩
  yld := fun φ h H i x H' d sm g gd ed ⟨e, q⟩ => by
    subst e
    obtain ⟨xs, sq, rs⟩ := Rep.sqT g
    obtain ⟨y, ey, ry⟩ := rs.get ed
    have e2 := q xs sq
    rw [ey] at e2
    cases e2
    exact ⟨Step.refl _ _ _, sm, ry⟩
  stop := fun φ h H i sm g gd hi => by
    obtain ⟨xs, sq, rs⟩ := Rep.sqT g
    exact ⟨xs, sq, by rw [rs.length]; exact hi⟩
  keep := fun φ h H φ' h' H' g st => Rep.stay st.st g
theorem enum_it {a : Addr} {m : Itm} {G : List Addr → Hh → Hp → Prop} (L : LOk K a m G) : ItOk K (Ite K a) ⟨m.ds.mapIdx fun i d => .tuple [.int (i : Nat), d], m.gd⟩ G where
  go := fun φ h H i sm g gd hi => by
    obtain ⟨xs, sq, rs⟩ := L.sq φ h H sm g gd
    obtain ⟨y, e, _⟩ := rs.get (List.getElem?_eq_getElem (show i < m.ds.length by simpa using hi))
    exact ⟨xs, y, sq, e⟩
  yld := fun φ h H i x H' d sm g gd ed ⟨T, y, ex, hT, e, q⟩ => by
    subst ex e
    obtain ⟨xs, sq, rs⟩ := L.sq φ h H sm g gd
    rw [List.getElem?_mapIdx] at ed
    cases e3 : m.ds[i]? with
    | none => rw [e3] at ed; cases ed
    | some d0 =>
      rw [e3] at ed
      cases ed
      obtain ⟨y2, ey, ry⟩ := rs.get e3
      have e2 := q xs sq
      rw [ey] at e2
      cases e2
      obtain ⟨s1, s2, s3⟩ := new_tup (mg := fun _ => none) sm (ds := [.int (i : Nat), d0]) (.cons (.int _) (.cons ry .nil)) hT
      exact ⟨s1, s2, s3⟩
  stop := fun φ h H i sm g gd hi => by
    obtain ⟨xs, sq, rs⟩ := L.sq φ h H sm g gd
    exact ⟨xs, sq, by rw [rs.length]; simpa using hi⟩
  keep := L.keep
def rngD (lo : Int) (n : Nat) : List Da := (List.range n).map fun k => .int (lo + (k : Nat))
theorem range_it {lo : Int} {n : Nat} : ItOk K (Itr lo n) ⟨rngD lo n, none⟩ (fun _ _ _ => True) where
  go := fun φ h H i sm g gd hi => by
    show i < n
    simpa [rngD] using hi
  yld := fun φ h H i x H' d sm g gd ed ⟨e, q⟩ => by
    subst e q
    unfold rngD at ed
    rw [List.getElem?_map] at ed
    cases e3 : (List.range n)[i]? with
    | none => rw [e3] at ed; cases ed
    | some k =>
      rw [e3] at ed
      have e4 := (List.getElem?_eq_some_iff.mp e3)
      obtain ⟨h1, h2⟩ := e4
      rw [List.getElem_range] at h2
      subst h2
      cases ed
      exact ⟨Step.refl _ _ _, sm, .int _⟩
  stop := fun φ h H i sm g gd hi => by
    show n ≤ i
    simpa [rngD] using hi
  keep := fun _ _ _ _ _ _ _ _ => trivial
end
def rgB (j : Int) : Bool := decide (-1000000000000 ≤ j) && decide (j ≤ 1000000000000)
theorem rgB_ok {j : Int} (h : rgB j = true) : -(2 ^ 62) ≤ j ∧ j < 2 ^ 62 := by
  unfold rgB at h
  rw [Bool.and_eq_true] at h
  exact ⟨Int.le_trans (by decide) (of_decide_eq_true h.1), Int.lt_of_le_of_lt (of_decide_eq_true h.2) (by decide)⟩
def iRange1 (as : Av) : Iv := fun ρ h => (as ρ h).bind fun vs h1 => match vs with
  | [.d (.int j)] => if rgB j then .ok ⟨rngD 0 j.toNat, none⟩ h1 else .no
  | _ => .no
def iRange2 (as : Av) : Iv := fun ρ h => (as ρ h).bind fun vs h1 => match vs with
  | [.d (.int i), .d (.int j)] => if rgB i && rgB j then .ok ⟨rngD i (j - i).toNat, none⟩ h1 else .no
  | _ => .no
def enumI (o : Out Itm) : Out Itm := o.bind fun m h => .ok ⟨m.ds.mapIdx fun i d => .tuple [.int (i : Nat), d], m.gd⟩ h
def iEnumL (as : Av) : Iv := fun ρ h => (as ρ h).bind fun vs h1 => match vs with
  | [v] => enumI (itL v h1)
  | _ => .no
section
variable {X : Cx} {W : WX} {tg e : Expr} {fe : Ev} {pos p : Pos} {fs : Av}
theorem ei_seq (he : EE X W e fe) : EI X W tg e (iv itQ fe) :=
  PI.of (pi_seq he) fun σ H R ⟨φ, h, ρ, sm, er, q⟩ => ⟨φ, h, ρ, sm, er, PoI.goE q fun x v h1 H1 φ1 st sm1 rv q1 => by
    unfold itQ at q1
    split at q1
    · obtain ⟨a, xs, rfl, sq, rs⟩ := VRep.tup rv
      exact ⟨a, rfl, .inr ⟨⟨xs, sq⟩, q1 _ H1 φ1 _ (Step.refl _ _ _) sm1 tup_it rv⟩⟩
    · cases e : itL v h1 with
      | ok m h2 =>
        rw [e] at q1
        obtain ⟨rfl, gd, a, G, rfl, L, g⟩ := itL_lok sm1 rv e
        obtain ⟨xs, sq, _⟩ := L.sq _ _ _ sm1 g gd
        exact ⟨a, rfl, .inl ⟨⟨xs, sq⟩, q1 _ H1 φ1 _ (Step.refl _ _ _) sm1 L.it g⟩⟩
      | ex c fs h2 =>
        unfold itL at e
        split at e
        · cases e
        · split at e <;> cases e
        · cases e
      | no => rw [e] at q1; exact q1.elim⟩
theorem ei_range1 {a : Expr} (hg : Gl X "range") (hm : X.mg "range" = none) (ha : EA X W [a] fs) (hs : starEach [a] X.env = [(false, eval a X.env)] := by rfl) : EI X W tg (.Call (.Name "range" p) [a] [] pos) (iRange1 fs) :=
  PI.of (pi_range1 hg hm ha hs) fun σ H R ⟨φ, h, ρ, sm, er, q⟩ => ⟨φ, h, ρ, sm, er, PoI.goA q fun xs vs h1 H1 φ1 st sm1 rv q1 => by
    split at q1
    · obtain ⟨x, rfl, r⟩ := rv.one
      split at q1
      · rename_i j hj
        rw [VRep.int r]
        exact ⟨j, rfl, (rgB_ok hj).1, (rgB_ok hj).2, q1 _ H1 φ1 _ (Step.refl _ _ _) sm1 range_it trivial⟩
      · exact q1.elim
    · exact q1.elim⟩
end
/-! ### for -/
open Classical in
noncomputable def forL (gd : Option (Nat × List Da)) (g : Gv) (body : Sv) : List Da → En → Hh → So
  | [], ρ, h => if gdOk gd h then .nx ρ h else .no
  | d :: ds, ρ, h => if gdOk gd h then (match g (.d d) ρ h with
      | none => .no
      | some p => match body p.1 p.2 with
        | .nx ρ' h' => forL gd g body ds ρ' h'
        | .ct ρ' h' => forL gd g body ds ρ' h'
        | .bk ρ' h' => .nx ρ' h'
        | r => r) else .no
noncomputable def sFor (i : Iv) (g : Gv) (body : Sv) : Sv := fun ρ h => Out.then ρ (i ρ h) fun m h1 => forL m.gd g body m.ds ρ h1
section
variable {X : Cx} {W : WX} {tg iter : Expr} {fi : Iv} {g : Gv} {body : List Stmt} {fb : Sv} {pos : Pos}
theorem for_ok {K : PySem.W.Frag} {mg : Str → Option Value} {W : WX} {D : Ends} {J : It} {m : Itm} {G : List Addr → Hh → Hp → Prop} (ok : ItOk K J m G) {φ : List Addr} {h : Hh} {H : Hp} {σ : L2.St} {ρ : En} (sm : Sim K φ h H) (er : ERep K mg φ h H σ ρ) (gg : G φ h H)
    (q : PoS K mg φ h H (forL m.gd g fb m.ds ρ h) D W) : ∃ W' : Nat → Nat → L2.St → Hp → Prop, (∃ n, W' 0 n σ H) ∧ ∀ i n σ H, W' i n σ H →
      (J.stop i H ∧ D.nx σ H) ∨ (J.go i H ∧ ∃ N : L2.St → Hp → Prop, (∀ σ' H', N σ' H' → ∃ m', m' < n ∧ W' (i + 1) m' σ' H') ∧ ∀ x H', J.yld i H x H' → tG K mg g x σ H' fun σ2 H2 => tS K mg W fb { D with nx := N, ct := N, bk := D.nx } σ2 H2) := by
  refine ⟨fun i n σ H => n = m.ds.length - i ∧ ∃ φ h ρ, Sim K φ h H ∧ ERep K mg φ h H σ ρ ∧ G φ h H ∧ PoS K mg φ h H (forL m.gd g fb (m.ds.drop i) ρ h) D W, ⟨_, rfl, φ, h, ρ, sm, er, gg, by rw [List.drop_zero]; exact q⟩, ?_⟩
  rintro i n σ H ⟨rfl, φ, h, ρ, sm, er, gg, q⟩
  cases ed : m.ds.drop i with
  | nil =>
    rw [ed] at q
    unfold forL at q
    split at q
    · rename_i gd
      exact .inl ⟨ok.stop φ h H i sm gg gd (List.drop_eq_nil_iff.mp ed), PoS.nxNow q sm er⟩
    · exact q.elim
  | cons d ds =>
    have hi : i < m.ds.length := by
      rcases Nat.lt_or_ge i m.ds.length with z | z
      · exact z
      · rw [List.drop_eq_nil_of_le z] at ed; cases ed
    have e1 : m.ds[i]? = some d := by
      have := List.getElem?_drop (xs := m.ds) (i := i) (j := 0)
      rw [ed] at this
      simpa using this.symm
    have e2 : m.ds.drop (i + 1) = ds := by
      have := List.drop_drop (i := 1) (j := i) (l := m.ds)
      rw [ed] at this
      simpa using this.symm
    rw [ed] at q
    unfold forL at q
    split at q
    · rename_i gd
      refine .inr ⟨ok.go φ h H i sm gg gd hi, fun σ' H' => ∃ φ h ρ, Sim K φ h H' ∧ ERep K mg φ h H' σ' ρ ∧ G φ h H' ∧ PoS K mg φ h H' (forL m.gd g fb ds ρ h) D W, fun σ' H' hN => ?_, fun x H' hy => ?_⟩
      · obtain ⟨φ', h', ρ', a1, a2, a3, a4⟩ := hN
        exact ⟨m.ds.length - (i + 1), by omega, rfl, φ', h', ρ', a1, a2, a3, by rw [e2]; exact a4⟩
      · obtain ⟨s1, s2, s3⟩ := ok.yld φ h H i x H' d sm gg gd e1 hy
        have q' := PoS.pull s1 q
        have gg' := ok.keep _ _ _ _ _ _ gg s1
        cases eg : g (.d d) ρ h with
        | none => rw [eg] at q'; exact q'.elim
        | some p =>
          obtain ⟨ρ1, h1⟩ := p
          rw [eg] at q'
          refine ⟨φ, h, ρ, .d d, ρ1, h1, s2, er.step s1, s3, eg, fun σ2 H2 φ2 st2 sm2 er2 => ⟨φ2, h1, ρ1, sm2, er2, ?_⟩⟩
          have q2 := PoS.pull st2 q'
          have gg2 := ok.keep _ _ _ _ _ _ gg' st2
          dsimp only at q2
          revert q2
          cases fb ρ1 h1 with
          | nx ρ3 h3 => exact fun q2 σ3 H3 φ3 st3 sm3 er3 => ⟨φ3, h3, ρ3, sm3, er3, ok.keep _ _ _ _ _ _ gg2 st3, PoS.pull st3 q2⟩
          | ct ρ3 h3 => exact fun q2 σ3 H3 φ3 st3 sm3 er3 => ⟨φ3, h3, ρ3, sm3, er3, ok.keep _ _ _ _ _ _ gg2 st3, PoS.pull st3 q2⟩
          | bk ρ3 h3 => exact fun q2 => q2
          | rt v h3 => exact fun q2 => q2
          | ex c fs ρ3 h3 => exact fun q2 => q2
          | no => exact fun q2 => q2
    · exact q.elim
theorem es_for (hp : PassesOwn (model X.prog X.w) X.A X.env X.xe) (hc : X.calm = true) (hi : EI X W tg iter fi) (hg : EG X tg g) (hb : ESs X W body fb) (hs : ∀ x, foldedSetIterable iter X.env x = pure x := by intro _; rfl) : ES X W (.For tg iter body [] pos) (sFor fi g fb) :=
  PS.of (ps_for hp hc hi hg hb hs) fun D σ H ⟨φ, h, ρ, sm, er, q⟩ => ⟨φ, h, ρ, sm, er, by
    unfold sFor at q
    revert q
    cases fi ρ h with
    | ok m h1 => exact fun q J H1 φ1 G st sm1 ok gg => for_ok ok sm1 (er.step st) gg (PoS.pull st q)
    | ex c fs h1 => exact fun q cls dd H' φ' st sm' xr => q cls dd σ H' φ' st sm' (er.step st) xr
    | no => exact fun q => q⟩
end
/-! ### while -/
def whileN (c : Tv) (b : Sv) : Nat → En → Hh → Option So
  | 0, _, _ => none
  | n + 1, ρ, h => match c ρ h with
    | .no => some .no
    | .ex k fs h1 => some (.ex k fs ρ h1)
    | .ok false h1 => some (.nx ρ h1)
    | .ok true h1 => match b ρ h1 with
      | .nx ρ' h' => whileN c b n ρ' h'
      | .ct ρ' h' => whileN c b n ρ' h'
      | .bk ρ' h' => some (.nx ρ' h')
      | r => some r
theorem whileN_mono (c : Tv) (b : Sv) : ∀ (n : Nat) (ρ : En) (h : Hh) (r : So), whileN c b n ρ h = some r → whileN c b (n + 1) ρ h = some r
  | 0, _, _, _, e => by cases e
  | n + 1, ρ, h, r, e => by
    unfold whileN at e ⊢
    split at e <;> try exact e
    split at e
    · exact whileN_mono c b n _ _ r e
    · exact whileN_mono c b n _ _ r e
    · exact e
    · exact e
theorem whileN_le (c : Tv) (b : Sv) {n m : Nat} (hl : n ≤ m) {ρ : En} {h : Hh} {r : So} (e : whileN c b n ρ h = some r) : whileN c b m ρ h = some r := by
  induction hl with
  | refl => exact e
  | step _ ih => exact whileN_mono c b _ ρ h r ih
theorem whileN_det (c : Tv) (b : Sv) {n m : Nat} {ρ : En} {h : Hh} {r r' : So} (e : whileN c b n ρ h = some r) (e' : whileN c b m ρ h = some r') : r = r' := by
  have a := whileN_le c b (Nat.le_max_left n m) e
  have b' := whileN_le c b (Nat.le_max_right n m) e'
  rw [a] at b'
  exact Option.some.inj b'
open Classical in
noncomputable def sWhile (c : Tv) (b : Sv) : Sv := fun ρ h => if H : ∃ r, ∃ n, whileN c b n ρ h = some r then Classical.choose H else .no
theorem sWhile_of {c : Tv} {b : Sv} {n : Nat} {ρ : En} {h : Hh} {r : So} (e : whileN c b n ρ h = some r) : sWhile c b ρ h = r := by
  have H : ∃ r, ∃ n, whileN c b n ρ h = some r := ⟨r, n, e⟩
  unfold sWhile
  rw [dif_pos H]
  obtain ⟨m, e'⟩ := Classical.choose_spec H
  exact whileN_det c b e' e
theorem sWhile_none {c : Tv} {b : Sv} {ρ : En} {h : Hh} (e : ∀ n, whileN c b n ρ h = none) : sWhile c b ρ h = .no := by
  unfold sWhile
  rw [dif_neg]
  rintro ⟨r, n, q⟩
  rw [e n] at q
  cases q
/-- one turn -/
theorem sWhile_eq (c : Tv) (b : Sv) (ρ : En) (h : Hh) : sWhile c b ρ h = Out.then ρ (c ρ h) fun k h1 => if k then (match b ρ h1 with
      | .nx ρ' h' => sWhile c b ρ' h'
      | .ct ρ' h' => sWhile c b ρ' h'
      | .bk ρ' h' => .nx ρ' h'
      | r => r) else .nx ρ h1 := by
  have step : ∀ n, whileN c b (n + 1) ρ h = match c ρ h with
    | .no => some .no
    | .ex k fs h1 => some (.ex k fs ρ h1)
    | .ok false h1 => some (.nx ρ h1)
    | .ok true h1 => match b ρ h1 with
      | .nx ρ' h' => whileN c b n ρ' h'
      | .ct ρ' h' => whileN c b n ρ' h'
      | .bk ρ' h' => some (.nx ρ' h')
      | r => some r := fun n => rfl
  cases ec : c ρ h with
  | no => exact sWhile_of (n := 1) (by rw [step, ec]; rfl)
  | ex k fs h1 => exact sWhile_of (n := 1) (by rw [step, ec]; rfl)
  | ok k h1 =>
    cases k with
    | false => exact sWhile_of (n := 1) (by rw [step, ec]; rfl)
    | true =>
      show sWhile c b ρ h = match b ρ h1 with
        | .nx ρ' h' => sWhile c b ρ' h'
        | .ct ρ' h' => sWhile c b ρ' h'
        | .bk ρ' h' => .nx ρ' h'
        | r => r
      have again : ∀ ρ' h', (∀ n, whileN c b (n + 1) ρ h = whileN c b n ρ' h') → sWhile c b ρ h = sWhile c b ρ' h' := fun ρ' h' z => by
        by_cases q : ∃ r, ∃ n, whileN c b n ρ' h' = some r
        · obtain ⟨r, n, e⟩ := q
          rw [sWhile_of e]
          exact sWhile_of (n := n + 1) (by rw [z]; exact e)
        · have n1 : ∀ n, whileN c b n ρ' h' = none := fun n => by
            cases e : whileN c b n ρ' h' with
            | none => rfl
            | some r => exact absurd ⟨r, n, e⟩ q
          rw [sWhile_none n1]
          refine sWhile_none fun n => ?_
          cases n with
          | zero => rfl
          | succ n => rw [z]; exact n1 n
      cases eb : b ρ h1 with
      | nx ρ' h' => exact again ρ' h' fun n => by rw [step, ec]; dsimp only; rw [eb]
      | ct ρ' h' => exact again ρ' h' fun n => by rw [step, ec]; dsimp only; rw [eb]
      | bk ρ' h' => exact sWhile_of (n := 1) (by rw [step, ec]; dsimp only; rw [eb])
      | rt v h' => exact sWhile_of (n := 1) (by rw [step, ec]; dsimp only; rw [eb])
      | ex k fs ρ' h' => exact sWhile_of (n := 1) (by rw [step, ec]; dsimp only; rw [eb])
      | no => exact sWhile_of (n := 1) (by rw [step, ec]; dsimp only; rw [eb])
section
variable {X : Cx} {W : WX} {c : Expr} {tc : Tv} {body : List Stmt} {fb : Sv} {pos : Pos}
theorem es_while (hp : PassesOwn (model X.prog X.w) X.A X.env X.xe) (hc : ET X W c tc) (hb : ESs X W body fb) : ES X W (.While c body [] pos) (sWhile tc fb) :=
  PS.of (ps_while hp hc hb) fun D σ H ⟨φ, h, ρ, sm, er, q⟩ => by
    by_cases ex : ∃ r, ∃ n, whileN tc fb n ρ h = some r
    · obtain ⟨r, n, e⟩ := ex
      rw [sWhile_of e] at q
      refine ⟨fun m σ H => ∃ φ h ρ r, Sim X.K φ h H ∧ ERep X.K X.mg φ h H σ ρ ∧ whileN tc fb m ρ h = some r ∧ PoS X.K X.mg φ h H r D W, ⟨n, φ, h, ρ, r, sm, er, e, q⟩, ?_⟩
      rintro m σ H ⟨φ, h, ρ, r, sm, er, e, q⟩
      refine ⟨φ, h, ρ, sm, er, ?_⟩
      cases m with
      | zero => cases e
      | succ m =>
        unfold whileN at e
        revert e
        cases tc ρ h with
        | no => intro e; cases e; exact q
        | ex k fs h1 => intro e; cases e; exact fun cls dd H' φ' st sm' xr => q cls dd σ H' φ' st sm' (er.step st) xr
        | ok k h1 =>
          cases k with
          | false =>
            intro e
            cases e
            intro H1 φ1 st sm1
            exact iteF (q σ H1 φ1 st sm1 (er.step st))
          | true =>
            intro e
            intro H1 φ1 st sm1
            refine iteT ⟨fun σ' H' => ∃ φ h ρ r, Sim X.K φ h H' ∧ ERep X.K X.mg φ h H' σ' ρ ∧ whileN tc fb m ρ h = some r ∧ PoS X.K X.mg φ h H' r D W, fun σ' H' z => ⟨m, Nat.lt_succ_self m, z⟩, φ1, h1, ρ, sm1, er.step st, ?_⟩
            dsimp only at e
            revert e
            cases fb ρ h1 with
            | nx ρ' h' => exact fun e σ2 H2 φ2 st2 sm2 er2 => ⟨φ2, h', ρ', r, sm2, er2, e, PoS.pull (st.trans st2) q⟩
            | ct ρ' h' => exact fun e σ2 H2 φ2 st2 sm2 er2 => ⟨φ2, h', ρ', r, sm2, er2, e, PoS.pull (st.trans st2) q⟩
            | bk ρ' h' => intro e; cases e; exact PoS.pull st q
            | rt v h' => intro e; cases e; exact PoS.pull st q
            | ex k fs ρ' h' => intro e; cases e; exact PoS.pull st q
            | no => intro e; cases e; exact PoS.pull st q
    · have n1 : ∀ n, whileN tc fb n ρ h = none := fun n => by
        cases e : whileN tc fb n ρ h with
        | none => rfl
        | some r => exact absurd ⟨r, n, e⟩ ex
      rw [sWhile_none n1] at q
      exact q.elim
end
/-! ### a def -/
def trunc (n : Nat) (v : Vl) (h : Hh) : Out Vl := match v with
  | .r i => if i < n then .ok (.r i) (h.take n) else match h[i]? with
    | some (some (.rl _)) => .no
    | some (some o) => .ok (.r n) (h.take n ++ [some o])
    | _ => .no
  | .f _ => .no
  | v => .ok v (h.take n)
def retF (n : Nat) : So → Out Vl
  | .rt v h => trunc n v h
  | .nx _ h => trunc n (.d .none) h
  | .ex c fs _ h => .ex c fs (h.take n)
  | _ => .no
def enter (N : Nat) (as : List Vl) : En := as.map some ++ List.replicate (N - as.length) none
def mkF (k N : Nat) (body : Sv) : Fn := fun as h => if as.length = k then retF h.length (body (enter N as) h) else .no
section
variable {K : PySem.W.Frag} {mg : Str → Option Value}
theorem enter_ok {φ : List Addr} {h : Hh} {H : Hp} {vs : List V} {as : List Vl} (N : List Str) (r : VReps K mg φ h H vs as) : ERep K mg φ h H (start N vs) (enter N.length as) := by
  have hl := r.length
  refine ⟨by unfold L2.start enter; simp [hl], fun i v e => ?_⟩
  unfold enter at e
  unfold L2.start
  by_cases hi : i < as.length
  · rw [List.getElem?_append_left (by simpa using hi), List.getElem?_map] at e
    rw [List.getElem?_append_left (by simp; omega), List.getElem?_map]
    have get : ∀ {vs : List V} {as : List Vl} {i : Nat} {v : Vl}, VReps K mg φ h H vs as → as[i]? = some v → ∃ x, vs[i]? = some x ∧ VRep K mg φ h H x v := by
      intro vs as i v r
      induction r generalizing i with
      | nil => intro e; simp at e
      | cons q t ih =>
        cases i with
        | zero => intro e; simp at e; subst e; exact ⟨_, rfl, q⟩
        | succ i => intro e; exact ih (by simpa using e)
    cases e2 : as[i]? with
    | none => rw [e2] at e; cases e
    | some w =>
      rw [e2] at e
      cases e
      obtain ⟨x, e3, q⟩ := get r e2
      exact ⟨x, by rw [e3]; rfl, q⟩
  · rw [List.getElem?_append_right (by simpa using Nat.le_of_not_lt hi)] at e
    rw [List.getElem?_replicate] at e
    split at e <;> cases e
/-- the numbers above n are forgotten -/
theorem Sim.cut {φ φ' : List Addr} {h' : Hh} {H' : Hp} {n : Nat} (sm : Sim K φ' h' H') (pre : φ <+: φ') (hn : φ.length = n) :
    Sim K φ (h'.take n) H' ∧ (∀ a, Live φ (h'.take n) a → Live φ' h' a) := by
  have le : n ≤ h'.length := by rw [← sm.len, ← hn]; exact pre.length_le
  have back : ∀ (i : Nat) (o : Option Ob), (h'.take n)[i]? = some o → h'[i]? = some o ∧ i < n := fun i o e => by
    rw [List.getElem?_take] at e
    split at e
    · exact ⟨e, by assumption⟩
    · cases e
  have less : ∀ a, Live φ (h'.take n) a → Live φ' h' a := fun a ⟨i, o, e1, e2⟩ => ⟨i, o, pre_get pre e1, (back i _ e2).1⟩
  have st : Stay H' (Live φ' h') H' (Live φ (h'.take n)) := fun a u q _ nl => ⟨q, fun l => nl (less a l)⟩
  refine ⟨⟨by rw [List.length_take, hn]; omega, fun i j a o o' e1 e2 e3 e4 => sm.inj i j a o o' (pre_get pre e1) (pre_get pre e2) (back i _ e3).1 (back j _ e4).1, fun i o e => ?_, fun i ns e => ?_⟩, less⟩
  · obtain ⟨e1, hi⟩ := back i _ e
    obtain ⟨a, e2, r⟩ := sm.ob i o e1
    obtain ⟨t, rfl⟩ := pre
    rw [List.getElem?_append_left (by omega)] at e2
    exact ⟨a, e2, r.stay st (fun _ z => z) fun _ _ z => sm.notCode z⟩
  · obtain ⟨e1, hi⟩ := back i _ e
    obtain ⟨a, as, e2, e3, e4, e5⟩ := sm.rf i ns e1
    obtain ⟨t, rfl⟩ := pre
    rw [List.getElem?_append_left (by omega)] at e2
    refine ⟨a, as, e2, e3, e4, fun k m z => ?_⟩
    obtain ⟨z1, z2⟩ := e5 k m z
    rw [List.getElem?_append_left (by omega)] at z2
    exact ⟨z1, z2⟩
theorem trunc_ok {φ φ' : List Addr} {h h' : Hh} {H H' : Hp} {v : Vl} {x : V} {Q : VK} {E : XK} (sm : Sim K φ h H) (st : Step φ h H φ' h' H') (sm' : Sim K φ' h' H') (rv : VRep K mg φ' h' H' x v)
    (q : PoX K mg φ h H (trunc h.length v h') Q E) : Q x H' := by
  obtain ⟨c1, c2⟩ := sm'.cut st.pre sm.len
  have st2 : Stay H' (Live φ' h') H' (Live φ (h'.take h.length)) := fun a u q _ nl => ⟨q, fun l => nl (c2 a l)⟩
  have st1 : Step φ h H φ (h'.take h.length) H' := ⟨List.prefix_refl _, st.st.trans st2⟩
  cases v with
  | d z => exact q x H' φ st1 c1 (Rep.stay st2 rv)
  | x c fs =>
    obtain ⟨a, cls, dd, rfl, e1, e2, xr⟩ := rv
    exact q _ H' φ st1 c1 ⟨a, cls, dd, rfl, e1, fun l => e2 (c2 a l), xr.stay st2⟩
  | f D => exact q.elim
  | r i =>
    obtain ⟨a, ea, rfl⟩ := rv
    unfold trunc at q
    dsimp only at q
    split at q
    · rename_i hi
      have hi' : i < φ.length := by rw [sm.len]; exact hi
      obtain ⟨t, rfl⟩ := st.pre
      rw [List.getElem?_append_left hi'] at ea
      exact q _ H' φ st1 c1 ⟨a, ea, rfl⟩
    · rename_i hi
      split at q
      · exact q.elim
      · rename_i o nrl eo
        -- the object i becomes the object n
        have hl : h.length ≤ h'.length := by rw [← sm'.len, ← sm.len]; exact st.pre.length_le
        have lk : (h'.take h.length).length = h.length := by rw [List.length_take]; omega
        have nl : ¬ Live φ (h'.take h.length) a := fun ⟨j, u, e1, e2⟩ => by
          rw [List.getElem?_take] at e2
          split at e2
          · have := sm'.inj i j a o u ea (pre_get st.pre e1) eo e2
            omega
          · cases e2
        have lv : ∀ b, Live (φ ++ [a]) (h'.take h.length ++ [some o]) b ↔ Live φ (h'.take h.length) b ∨ b = a := fun b => live_new (by rw [lk, sm.len])
        have less : ∀ b, Live (φ ++ [a]) (h'.take h.length ++ [some o]) b → Live φ' h' b := fun b l => by
          rcases (lv b).mp l with l | rfl
          · exact c2 b l
          · exact ⟨i, o, ea, eo⟩
        have st3 : Stay H' (Live φ' h') H' (Live (φ ++ [a]) (h'.take h.length ++ [some o])) := fun b u q _ nb => ⟨q, fun l => nb (less b l)⟩
        have ora := sm'.at_ eo ea
        refine q _ H' (φ ++ [a]) ⟨List.prefix_append _ _, st.st.trans st3⟩ ⟨by simp [lk, sm.len], fun i1 j1 b u u' e1 e2 e3 e4 => ?_, fun i1 u e => ?_, fun i1 ns e => ?_⟩ ⟨a, by rw [← sm.len]; simp, rfl⟩
        · have hgt : ∀ (k : Nat) (u : Ob), (φ ++ [a])[k]? = some b → (h'.take h.length ++ [some o])[k]? = some (some u) → (k < φ.length ∧ φ[k]? = some b ∧ (h'.take h.length)[k]? = some (some u)) ∨ (k = φ.length ∧ b = a) := fun k u e1 e2 => by
            by_cases hk : k < φ.length
            · rw [List.getElem?_append_left hk] at e1
              rw [List.getElem?_append_left (by rw [lk, ← sm.len]; exact hk)] at e2
              exact .inl ⟨hk, e1, e2⟩
            · have : k = φ.length := by
                have := (List.getElem?_eq_some_iff.mp e1).1
                simp at this
                omega
              subst this
              simp at e1
              exact .inr ⟨rfl, e1.symm⟩
          rcases hgt i1 u e1 e3 with ⟨a1, a2, a3⟩ | ⟨a1, a2⟩ <;> rcases hgt j1 u' e2 e4 with ⟨b1, b2, b3⟩ | ⟨b1, b2⟩
          · exact c1.inj i1 j1 b u u' a2 b2 a3 b3
          · subst b2; exact absurd ⟨i1, u, a2, a3⟩ nl
          · subst a2; exact absurd ⟨j1, u', b2, b3⟩ nl
          · omega
        · by_cases hk : i1 < h.length
          · rw [List.getElem?_append_left (by rw [lk]; exact hk)] at e
            obtain ⟨b, e2, r2⟩ := sm'.ob i1 u (by rw [List.getElem?_take, if_pos hk] at e; exact e)
            obtain ⟨t, et⟩ := st.pre
            rw [← et, List.getElem?_append_left (by rw [sm.len]; exact hk)] at e2
            exact ⟨b, by rw [List.getElem?_append_left (by rw [sm.len]; exact hk)]; exact e2, r2.stay st3 (fun _ z => z) fun _ _ z => sm'.notCode z⟩
          · have e0 : i1 = h.length := by
              have := (List.getElem?_eq_some_iff.mp e).1
              simp [lk] at this
              omega
            subst e0
            rw [List.getElem?_append_right (by rw [lk]; omega), lk] at e
            simp at e
            subst e
            exact ⟨a, by rw [← sm.len]; simp, ora.stay st3 (fun _ z => z) fun _ _ z => sm'.notCode z⟩
        · by_cases hk : i1 < h.length
          · rw [List.getElem?_append_left (by rw [lk]; exact hk)] at e
            obtain ⟨b, as, f1, f2, f3, f4⟩ := c1.rf i1 ns e
            refine ⟨b, as, by rw [List.getElem?_append_left (by rw [sm.len]; exact hk)]; exact f1, f2, f3, fun k m z => ?_⟩
            obtain ⟨z1, z2⟩ := f4 k m z
            exact ⟨z1, by rw [List.getElem?_append_left (by rw [sm.len]; omega)]; exact z2⟩
          · have hz : i1 = h.length := by
              have := (List.getElem?_eq_some_iff.mp e).1
              rw [List.length_append, lk] at this
              simp at this
              omega
            subst hz
            rw [List.getElem?_append_right (by omega), lk] at e
            simp at e
            subst e
            exact absurd rfl (nrl ns)
      · exact q.elim
end
end Rk

/-! Rk7: defs of the text, constants of the top, the head. -/
namespace Rk
open PySem PySem.Spec L2
variable {mg : Str → Option Value}
abbrev FnP (K : PySem.W.Frag) (x : Str) (st : Stmt) (f : Addr) (fd : FuncData) : Prop := FunD K x x (defArgs st) (defBody st) (defScope st) [] [] f fd
/-! ### room: no guard stands -/
structure RoomG (k : Nat) (A : Around) : Prop where
  r : Room k A
  g : A.guards = some []
theorem RoomG.mono {j k : Nat} {A : Around} (h : RoomG k A) (hl : j ≤ k) : RoomG j A := ⟨h.r.mono hl, h.g⟩
theorem RoomG.units {k : Nat} {A : Around} (h : RoomG k A) : A.units + 64 < cLine := h.r.units
theorem RoomG.deeper {k : Nat} {A : Around} (h : RoomG (k + 1) A) (env : Env) : RoomG k (A.deeper env) := ⟨h.r.deeper env, h.g⟩
/-- what a function object keeps, where no guard stands -/
structure FnG (P : Program) (w : World) (K : PySem.W.Frag) (mg : Str → Option Value) (base : Heap) (k : Nat) (f : Addr) (fd : FuncData) (ps : List Str) (sp : Sp) : Prop where
  len : ∀ vs H Q E, sp vs H Q E → vs.length = ps.length
  run : ∀ (A : Around) (outer : List Env) (s : Shared) (H : Hp) (args : Args) (us : List Value) (vs : List V) (Q : VK) (E : XK),
    RoomG k A → Env0 P w K mg base A outer s H → BindsTo s fd args (ps.zip us) → Vals vs us → sp vs H Q E → codeAny (model P w) A (.call (.ref f) args) (CR (L2.CX P w) outer P w H s Q E) s
/-- a def by its name: what it means -/
def Df (P : Program) (w : World) (K : PySem.W.Frag) (mg : Str → Option Value) (base : Heap) (k : Nat) (x : Str) (ps : List Str) (m : Fn) : Prop :=
  ∃ f fd, mg x = some (.ref f) ∧ PySem.W.keepIn K (.ref f) = true ∧ Binds K fd ps [] ∧ FnG P w K mg base k f fd ps (spF K mg m)
abbrev WOf (E : XK) : WX := fun cls d _ H => E cls d H
/-- a function object's code -/
def CodeAt (K : PySem.W.Frag) (f : Addr) (cdv : Value) : Prop := ∃ (oc : Value) (od : Option Addr) (fd : FuncData) (osl : Array (Option Value)), K.lookup f = some ⟨oc, od, .func fd, osl⟩ ∧ fd.code = cdv
section
variable {P : Program} {w : World} {K : PySem.W.Frag} {mg : Str → Option Value} {base : Heap} {x : Str} {st : Stmt} {f : Addr} {fd : FuncData} {N ps : List Str} {k : Nat}
/-- a def of the text runs -/
theorem run_def (F : FnP K x st f fd) (S : FnScope N ps (defScope st)) {A : Around} {outer : List Env} {s : Shared} {H : Hp} {args : Args} {us : List Value} {vs : List V} {Q : VK} {E : XK} (len : vs.length = ps.length) (hr : RoomG (k + 1) A)
    (e0 : Env0 P w K mg base A outer s H) (hbd : BindsTo s fd args (ps.zip us)) (r : Vals vs us)
    (hb : ∀ cdv : Value, CodeAt K f cdv → RoomG k (A.deeper (PyProof.Rows.envOfC x (defScope st) s.heap.objs.size f cdv)) →
      ∃ t, PSs (cxOf (L2.CX P w) P w K mg base N x (defScope st) f cdv A outer s H E) (defBody st) t ∧ t { nx := fun _ H' => Q .non H', rt := Q } (start N vs) H) :
    codeAny (model P w) A (.call (.ref f) args) (CR (L2.CX P w) outer P w H s Q E) s := by
  obtain ⟨oc, od, dV, kV, doc, pm, an, cdv, ct, osl, rfl, lk, hcd, -, -⟩ := F.ex
  have old : ∀ b o, base.get? b = some o → s.heap.get? b = some o := fun b o e => (e0.bs b o e).1
  have KX : K.In s.heap := e0.mod.kin.keeps old
  have kinds : ∀ y ∈ ps.zip us, (defScope st).names.lookup y.1 = some .local ∨ ((defScope st).names.lookup y.1 = some .cell ∧ ((cellsFrom (s.heap.objs.size + 1) (defScope st).names []).lookup y.1).isSome = true) := by
    rintro ⟨n, v⟩ hy
    exact (S.par n (List.of_mem_zip hy).1).imp id fun q => ⟨q, PySem.W.cellsFrom_some _ _ _ (.inl q)⟩
  refine codeAny_call_function hr.r.depth (KX _ _ lk) rfl S.co S.gen rfl (PySem.W.codeRec_of KX hcd) (hbd _ _ _ _ (wpAny_newFunctionEnv_cells S.kind kinds ?_))
  rintro env rfl s1 x1
  refine ⟨(e0.mod.nolimit.keeps old).keeps x1.toInCall.keep, codeAny_func ?_⟩
  obtain ⟨t, ht, hq⟩ := hb cdv ⟨_, _, _, _, lk, rfl⟩ (hr.deeper _)
  have I := inv_start (CX := L2.CX P w) (E := E) S hr.r.hd e0 len r x1
  refine wpAny_mono (ht.run [] s1 (start N vs) H _ I hq) ?_ fun _ _ z => z
  intro fl s' hs
  cases fl with
  | ret u =>
    obtain ⟨v, σ', H', J, rv, q⟩ := hs
    exact ⟨v, H', J.os, J.bare, J.base, J.hok, rv, q⟩
  | next =>
    obtain ⟨σ', H', J, q⟩ := hs
    exact ⟨.non, H', J.os, J.bare, J.base, J.hok, rfl, q⟩
  | brk => exact hs.elim fun _ z => z.elim fun _ z => z.2.elim
  | cont => exact hs.elim fun _ z => z.elim fun _ z => z.2.elim
theorem spF_len {vs : List V} {H : Hp} {Q : VK} {E : XK} {n N : Nat} {body : Sv} (h : spF K mg (mkF n N body) vs H Q E) : vs.length = n := by
  obtain ⟨φ, h, as, sm, rv, q⟩ := h
  unfold mkF at q
  split at q
  · rename_i hl
    rw [rv.length]
    exact hl
  · exact q.elim
/-- a def's body, entered -/
theorem enter_body {cdv : Value} {A : Around} {outer : List Env} {s : Shared} {H : Hp} {vs : List V} {Q : VK} {E : XK} {n : Nat} {body : Sv} (hE : ESs (cxOf (L2.CX P w) P w K mg base N x (defScope st) f cdv A outer s H E) (WOf E) (defBody st) body) (h : spF K mg (mkF n N.length body) vs H Q E) :
    ∃ t, PSs (cxOf (L2.CX P w) P w K mg base N x (defScope st) f cdv A outer s H E) (defBody st) t ∧ t { nx := fun _ H' => Q .non H', rt := Q } (start N vs) H := by
  obtain ⟨φ, h, as, sm, rv, q⟩ := h
  refine ⟨_, hE, φ, h, enter N.length as, sm, enter_ok N rv, ?_⟩
  unfold mkF at q
  split at q
  · revert q
    show PoX K mg φ h H (retF h.length (body (enter N.length as) h)) Q E → _
    cases body (enter N.length as) h with
    | rt v h' => exact fun q x H' φ' st sm' rv => trunc_ok sm st sm' rv q
    | nx ρ' h' => exact fun q σ' H' φ' st sm' er => trunc_ok (v := .d .none) sm st sm' Rep.non q
    | ex c fs ρ' h' =>
      intro q cls dd σ' H' φ' st sm' er xr
      obtain ⟨c1, c2⟩ := sm'.cut st.pre sm.len
      have st2 : Stay H' (Live φ' h') H' (Live φ (h'.take h.length)) := fun a u q _ nl => ⟨q, fun l => nl (c2 a l)⟩
      exact q cls dd H' φ ⟨List.prefix_refl _, st.st.trans st2⟩ c1 ⟨xr.cl, xr.no, fun z => by
        obtain ⟨a, vs, e1, e2, e3, e4⟩ := xr.yes z
        exact ⟨a, vs, e1, e2, fun l => e3 (c2 a l), e4.stay st2⟩⟩
    | bk ρ' h' => exact fun q => q.elim
    | ct ρ' h' => exact fun q => q.elim
    | no => exact fun q => q.elim
  · exact q.elim
theorem fnOk_of {body : Sv} (F : FnP K x st f fd) (S : FnScope N ps (defScope st))
    (hb : ∀ (cdv : Value) (A : Around) (outer : List Env) (s : Shared) (H : Hp) (E : XK), CodeAt K f cdv → RoomG k (A.deeper (PyProof.Rows.envOfC x (defScope st) s.heap.objs.size f cdv)) → ESs (cxOf (L2.CX P w) P w K mg base N x (defScope st) f cdv A outer s H E) (WOf E) (defBody st) body) :
    FnG P w K mg base (k + 1) f fd ps (spF K mg (mkF ps.length N.length body)) :=
  ⟨fun _ _ _ _ h => spF_len h, fun A outer s H args us vs Q E hr e0 hbd r h => run_def F S (spF_len h) hr e0 hbd r fun cdv hc hr' => enter_body (hb cdv A outer s H E hc hr') h⟩
end
theorem cx_no {P : Program} {w : World} {outer : List Env} (H : Hp) (s : Shared) (e : Value) (s' : Shared) (h : L2.CX P w outer H s (fun _ _ _ => False) e s') : False := by
  obtain ⟨_, _, _, _, _, _, _, _, _, _, _, _, z⟩ := h
  exact z
theorem df_of {P : Program} {w : World} {K : PySem.W.Frag} {mg : Str → Option Value} {base : Heap} {x : Str} {st : Stmt} {f : Addr} {fd : FuncData} {N ps : List Str} {k kk NN : Nat} {body : Sv} (F : FnP K x st f fd) (g : mg x = some (.ref f)) (S : FnScope N ps (defScope st)) (e1 : ps.length = kk) (e2 : N.length = NN)
    (b : ∀ (dV kV doc pm : Value) (an : Option Addr) (cdv ct : Value) (us : List Value), us.length = ps.length → bindArgs (PySem.W.fnOf x x (defArgs st) (defBody st) (defScope st) .none kV doc pm an cdv ct) ⟨us, []⟩ = pure (ps.zip us))
    (hb : ∀ (cdv : Value) (A : Around) (outer : List Env) (s : Shared) (H : Hp) (E : XK), RoomG k (A.deeper (PyProof.Rows.envOfC x (defScope st) s.heap.objs.size f cdv)) → ESs (cxOf (L2.CX P w) P w K mg base N x (defScope st) f cdv A outer s H E) (WOf E) (defBody st) body) :
    Df P w K mg base (k + 1) x ps (mkF kk NN body) := by
  subst e1 e2
  exact ⟨f, fd, g, F.kp, FunD.bindsN F fun kV doc pm an cdv ct us hl => b .none kV doc pm an cdv ct us hl, fnOk_of F S fun cdv A outer s H E _ => hb cdv A outer s H E⟩
theorem law_of {P : Program} {w : World} {K : PySem.W.Frag} {mg : Str → Option Value} {base : Heap} {x : Str} {st : Stmt} {f : Addr} {fd : FuncData} {N ps : List Str} {k kk NN : Nat} {body : Sv} (F : FnP K x st f fd) (S : FnScope N ps (defScope st)) (e1 : ps.length = kk) (e2 : N.length = NN)
    (hb : ∀ (cdv : Value) (A : Around) (outer : List Env) (s : Shared) (H : Hp) (E : XK), RoomG k (A.deeper (PyProof.Rows.envOfC x (defScope st) s.heap.objs.size f cdv)) → ESs (cxOf (L2.CX P w) P w K mg base N x (defScope st) f cdv A outer s H E) (WOf E) (defBody st) body) :
    FnG P w K mg base (k + 1) f fd ps (spF K mg (mkF kk NN body)) := by
  subst e1 e2
  exact fnOk_of F S fun cdv A outer s H E _ => hb cdv A outer s H E
/-- the maker of lambdas: where its code object and that one's table stand -/
structure LamT (K : PySem.W.Frag) (mg : Str → Option Value) (base : Heap) (x : Str) (c P : Addr) : Prop where
  at_ : PySem.W.tabIn K x = some (c, P)
  tb : LamX.TabB base mg c P
  cd : ∀ f cdv, mg x = some (.ref f) → CodeAt K f cdv → cdv = .ref c
/-! ### in a def's body -/
section
variable {P : Program} {w : World} {K : PySem.W.Frag} {mg : Str → Option Value} {base : Heap} {N : List Str} {x : Str} {sc : Scope} {f : Addr} {cdv : Value} {A : Around} {outer : List Env} {s : Shared} {H : Hp} {E : XK}
theorem tk_of : Takes (cxOf (L2.CX P w) P w K mg base N x sc f cdv A outer s H E) (WOf E) := takes_of rfl rfl rfl rfl
theorem po_of : PassesOwn (model (cxOf (L2.CX P w) P w K mg base N x sc f cdv A outer s H E).prog (cxOf (L2.CX P w) P w K mg base N x sc f cdv A outer s H E).w) (cxOf (L2.CX P w) P w K mg base N x sc f cdv A outer s H E).A (cxOf (L2.CX P w) P w K mg base N x sc f cdv A outer s H E).env (cxOf (L2.CX P w) P w K mg base N x sc f cdv A outer s H E).xe := passes_of rfl
end
theorem run_G {X : Cx} {k : Nat} {f : Addr} {fd : FuncData} {ps : List Str} {sp : Sp} {E : L2.St → XK} {pins : List (Addr × Obj)} {σ : L2.St} {H : Hp} {s : Shared} {Q : VK} {us : List Value} {vs : List V} (F : FnG X.prog X.w X.K X.mg X.base k f fd ps sp) (hr : RoomG k X.A) (hb : Binds X.K fd ps [])
    (hx : PassesAt (L2.CX X.prog X.w) X σ (E σ)) (I : Inv X pins σ H s) (r : Vals vs us) (h : sp vs H Q (E σ)) : wpAny (model X.prog X.w) X.A (call (.ref f) us) (EP X pins σ Q) X.xe s := by
  have b := hb s us I.kIn (by rw [List.append_nil, ← r.length]; exact F.len _ _ _ _ h)
  rw [List.append_nil] at b
  refine wpAny_call (codeAny_mono (F.run X.A X.stack s H ⟨us, []⟩ us vs Q (E σ) hr I.env0 b r h) ?_)
  intro r s' hq
  match r, hq with
  | .error e, hq => exact hx pins H s e s' I hq
  | .ok (.ret u), hq => exact I.after hq
/-- a call of a def by its name -/
theorem ec {X : Cx} {W : WX} {k j : Nat} {y : Str} {ps : List Str} {m : Fn} {e : Expr} {es : List Expr} {fs : Av} {p pos : Pos} (D : Df X.prog X.w X.K X.mg X.base k y ps m) (hr : RoomG j X.A) (tk : Takes X W) (ha : EA X W (e :: es) fs) (hkj : k ≤ j := by decide) (hg : Gl X y := by rfl)
    (hdb : (y == ("__debug__" : Str)) = false := by decide) (he : starEach (e :: es) X.env = (false, eval e X.env) :: starEach es X.env := by rfl) (hpl : (backTo pos (starEach es X.env)).any (·.1) = false := by rfl) :
    EE X W (.Call (.Name y p) (e :: es) [] pos) (eCall m fs) := by
  obtain ⟨f, fd, g, kp, b, F⟩ := D
  have rd : PE X (.Call (.Name y p) (e :: es) [] pos) (tCallS (spF X.K X.mg m) (fun σ => WE W σ) (tA X.K X.mg W fs)) := by
    constructor
    intro pins s σ H Q I h
    refine wpAny_Call_Name_kw (ld_glob I hg g (PySem.W.callWith_K (h₀ := X.base) I.ok.mod.kin kp (thn (ha.run pos pins s σ H _ I h) ?_) he hpl) hdb)
    rintro us s1 ⟨vs, H1, I1, r, q⟩
    exact ⟨I1.kIn, run_G (E := fun σ => WE W σ) F (hr.mono hkj) b (passAt tk σ) I1 r q⟩
  exact PE.of rd fun σ H Q ⟨φ, h, ρ, sm, er, q⟩ => ⟨φ, h, ρ, sm, er, PoX.goA q fun xs vs h1 H1 φ1 st sm1 rvs q1 => ⟨φ1, h1, vs, sm1, rvs, q1⟩⟩
/-! ### constants of the top -/
def GConst (K : PySem.W.Frag) (mg : Str → Option Value) (x : Str) (d : Da) : Prop := ∃ v u, mg x = some u ∧ RelV v u ∧ KRep K v d
theorem eg {X : Cx} {W : WX} {y : Str} {d : Da} {pos : Pos} (c : GConst X.K X.mg y d) (hg : Gl X y := by rfl) (hd : (y == ("__debug__" : Str)) = false := by decide) : EE X W (.Name y pos) (eD d) := by
  obtain ⟨v, u, h1, h2, h3⟩ := c
  exact ee_glob hg h1 h2 h3 hd
mutual
theorem cB_ok {K : PySem.W.Frag} : ∀ {d : Da} {u : Value}, cB K d u = true → ∃ v, RelV v u ∧ KRep K v d
  | .none, .none, _ => ⟨.non, rfl, fun _ _ => .non⟩
  | .bool b, .bool c, h => by
    have e : b = c := by
      unfold cB at h
      exact eq_of_beq h
    subst e
    exact ⟨.bl b, rfl, fun _ _ => .bl b⟩
  | .int i, .int j t, h => by
    have e : i = j := by
      unfold cB at h
      exact of_decide_eq_true h
    subst e
    exact ⟨.int i, ⟨t, rfl⟩, fun _ _ => .int i⟩
  | .str i, .str j t, h => by
    have e : i = j := by
      unfold cB at h
      exact of_decide_eq_true h
    subst e
    exact ⟨.str i, ⟨t, rfl⟩, fun _ _ => .str i⟩
  | .tuple ds, .ref a, h => by
    unfold cB at h
    split at h
    · rename_i c dd its n sl q
      rw [Bool.and_eq_true, Bool.and_eq_true] at h
      obtain ⟨h1, h2, h3⟩ := h
      obtain ⟨vs, r1, r2⟩ := cBs_ok h3
      exact ⟨.ref a, rfl, fun H M => .tupK ⟨_, its, n, q, congrArg Value.type (of_decide_eq_true h1), rfl, of_decide_eq_true h2, r1⟩ (r2 H M)⟩
    · cases h
theorem cBs_ok {K : PySem.W.Frag} : ∀ {ds : List Da} {us : List Value}, cBs K ds us = true → ∃ vs, Vals vs us ∧ ∀ H M, Reps K H M vs ds
  | [], [], _ => ⟨[], .nil, fun _ _ => .nil⟩
  | d :: ds, u :: us, h => by
    unfold cBs at h
    rw [Bool.and_eq_true] at h
    obtain ⟨v, r1, r2⟩ := cB_ok h.1
    obtain ⟨vs, s1, s2⟩ := cBs_ok h.2
    exact ⟨v :: vs, .cons r1 s1, fun H M => .cons (r2 H M) (s2 H M)⟩
end
theorem gB_ok {K : PySem.W.Frag} {h : Heap} {mg : Str → Option Value} (X : K.In h) (G : h.Ns mainGlobals mg) {x : Str} {d : Da} (c : gB K x d = true) : GConst K mg x d := by
  unfold gB at c
  split at c
  · rename_i u e
    obtain ⟨v, r1, r2⟩ := cB_ok c
    exact ⟨v, u, PySem.W.mg_of X G e, r1, r2⟩
  · cases c
/-! ### the Hook -/
def hookR (n : Nat) (fa : List He.Fa) (fn : List He.DefD) (ex : PySem.W.Frag → Bool) : PySem.W.Hook where
  α := AlR
  obs := fun s => obsR n fa fn ex s.heap.get?
  val := fun _ => (He.valD fn, true)
  says := fun _ h => ∃ K : PySem.W.Frag, K.In h ∧ SaysR fa fn ex K
  of := fun _ _ e => ⟨_, He.frG_in, congrArg (fun z : AlR => z.1) e, congrArg (fun z : AlR => z.2) e⟩
  keeps := fun _ _ _ ⟨K, hK, c⟩ k => ⟨K, PySem.W.Frag.In.keeps hK k, c⟩
/-- the script's data -/
theorem script_rep {K : PySem.W.Frag} {H : Hp} {a : Addr} {ns : List Int} (h : SqL K H a (ns.map V.int)) : Sim K [] [] H ∧ VReps K mg [] [] H [.ref a] [.d (.list (ns.map PyData.int))] := by
  have nl : ∀ b, ¬ Live [] [] b := fun b ⟨i, o, e, _⟩ => by simp at e
  have rs : ∀ ns : List Int, Reps K H (Live [] []) (ns.map V.int) (ns.map PyData.int) := fun ns => by
    induction ns with
    | nil => exact .nil
    | cons n ns ih => exact .cons (.int n) ih
  refine ⟨⟨rfl, fun i j a o o' e => by simp at e, fun i o e => by simp at e, fun i ns e => by simp at e⟩, .cons ?_ .nil⟩
  rcases h with h | h
  · exact Rep.lst h (nl a) (rs ns)
  · exact Rep.lstK h (rs ns)
/-- the law's end -/
theorem law_sp {K : PySem.W.Frag} {mg : Str → Option Value} {m : Fn} {H : Hp} {a : Addr} {ns : List Int} (h : SqL K H a (ns.map V.int)) {h' : Hh} (e : m [.d (.list (ns.map PyData.int))] [] = .ok (.d (.bool true)) h') :
    spF K mg m [.ref a] H (fun v _ => v = .bl true) fun _ _ _ => False := by
  obtain ⟨s1, s2⟩ := script_rep h
  refine ⟨[], [], _, s1, s2, ?_⟩
  rw [e]
  exact fun x H' φ' _ _ r => VRep.bl r
end Rk
namespace Rk
open PySem PySem.Spec L2 PyProof.Rows
/-- the script's abstract heap: nothing but the script, as it stands -/
def scrH (a : Addr) (vs : List Value) (ns : List Int) : Hp := fun b => if b = a then some (.frz { cls := .type "list", data := .seq vs.toArray } (.lst (ns.map V.int))) else none
/-- the law's call from a ground -/
theorem call_from {P : Program} {w : World} {K : PySem.W.Frag} {mg mb : Str → Option Value} {k : Nat} {fa a : Addr} {fd : FuncData} {x : Str} {sp : Sp} {s : Shared} {vs : List Value} {H : Hp}
    (KX : K.In s.heap) (g1 : s.heap.Ns mainGlobals mg) (g2 : s.heap.Ns builtinsNs mb) (g3 : ∀ x : Str, x ≠ "__name__" → mb x = bootBuiltins x) (g4 : s.heap.NoLimit) (g5 : s.gens = #[])
    (ha : s.heap.get? a = some { cls := .type "list", data := .seq vs.toArray }) (hr : RoomG k callerA)
    (F : ∀ base : Heap, K.In base → base.Ns mainGlobals mg → FnG P w K mg base k fa fd [x] sp) (hbind : ∀ (s : Shared) (u : Value), BindsTo s fd ⟨[u], []⟩ [(x, u)])
    (hO : Only H) (hsp : sp [.ref a] H (fun v _ => v = .bl true) fun _ _ _ => False) (hok : HOk P w H s.heap) (hA : ∀ b, H b ≠ none → b = a) (hK : H a ≠ none → K.lookup a = none) :
    codeAny (model P w) callerA (.call (.ref fa) ⟨[.ref a], []⟩) (fun r s' => r = .ok (.ret (.bool true)) ∧ OldK s.heap s'.heap ∧ s'.os = s.os ∧ AllBare s'.gens) s := by
  have hid : ∀ {b : Addr} {o : Obj}, s.heap.get? b = some o → (H b ≠ none → False) → (hidT s.heap H).get? b = some o := fun {b o} e n => hidT_get e (by
    cases q : H b with
    | none => rfl
    | some u => exact (n (by rw [q]; exact nofun)).elim)
  have dic : ∀ {b : Addr} {o : Obj} {es : Array DictEntry} {ep : Nat}, s.heap.get? b = some o → o.data = .dict es ep → H b ≠ none → False := fun {b o es ep} e d n => by
    have := hA b n
    subst this
    rw [ha] at e
    cases e
    cases d
  have ns2 : ∀ {b : Addr} {m : Str → Option Value}, s.heap.Ns b m → (hidT s.heap H).Ns b m := fun ⟨o, es, ep, e, d, r⟩ => ⟨o, es, ep, hid e (dic e d), d, r⟩
  have kin : K.In (hidT s.heap H) := fun b o e => hid (KX b o e) fun n => by
    have := hA b n
    subst this
    rw [hK n] at e
    cases e
  obtain ⟨mc, l1, l2⟩ := g4
  have M : Mod K mg (hidT s.heap H) := ⟨kin, ns2 g1, ⟨mb, ns2 g2, g3⟩, mc, ns2 l1, l2⟩
  have e0 : Env0 P w K mg (hidT s.heap H) callerA [] s H := ⟨rfl, M, fun _ _ e => of_hidT e, Nat.le_of_eq (hidT_size _ _), trivial, nofun, hok, .of_eq g5⟩
  refine codeAny_mono ((F _ kin (ns2 g1)).run callerA [] s H ⟨[.ref a], []⟩ [.ref a] [.ref a] _ _ hr e0 (hbind s (.ref a)) (.cons rfl .nil) hsp) ?_
  intro r s' h
  match r, h with
  | .error e, h => exact (cx_no H s e s' h).elim
  | .ok (.ret u), h =>
    obtain ⟨v, H', os, bare, un, hok', r', q⟩ := h
    cases (show v = .bl true from q)
    cases (show u = Value.bool true from r')
    refine ⟨rfl, OldK.of_keep fun b o e => ?_, os, bare⟩
    rcases hO b with z | ⟨ob, xs, z⟩
    · exact un.keep b o e z nofun nofun
    · have e1 := (hok b _ z).1
      rw [e] at e1
      cases e1
      exact (hok' b _ (un.frzs b o _ z)).1
theorem walkG {l : PySem.W.OpenLaw} {n k : Nat} {q : Program} {loose : List Str} {XP : (Str → Option Value) → Heap → Prop} {YP : World → Heap → Prop} {d : DefRec} {x : Str} (hn : l.most = some n) (hn2 : n ≤ sizeLine) (hdf : d.params.defaults = []) (hr : RoomG k callerA)
    (F : ∀ (w : World) (mg : Str → Option Value) (fa : Addr) (h : Heap), YP w h → h.Ns mainGlobals mg → mg d.name = some (.ref fa) → ∃ (K : PySem.W.Frag) (fd : FuncData) (sp : Sp), K.In h ∧ (∀ (s : Shared) (u : Value), BindsTo s fd ⟨[u], []⟩ [(x, u)]) ∧
        (∀ (H : Hp) (a : Addr) (ns : List Int), ns.length ≤ n → Only H → SqL K H a (ns.map V.int) → sp [.ref a] H (fun v _ => v = .bl true) fun _ _ _ => False) ∧ ∀ base : Heap, K.In base → base.Ns mainGlobals mg → FnG l.prog w K mg base k fa fd [x] sp) :
    PySem.W.WalkO q loose XP YP l.row.toRowW d [] (fun f vs => PySem.call f vs) := by
  refine Att.attach_call hn hdf ?_
  intro w s₀ s mg mb fa o pm cd doc a vs ns G Y ho hd hcd hmg hobj hints hlen hg
  obtain ⟨K, fd, sp, KX, hb, hsp, hF⟩ := F w mg fa _ Y G.T.g hmg
  have rv := vals_ints hints
  have sz : ns.length ≤ sizeLine := Nat.le_trans hlen hn2
  have go := fun H => call_from (H := H) KX G.T.g G.T.b G.T.builtins G.T.nolimit hg hobj hr hF hb
  cases hk : K.lookup a with
  | some o' =>
    have e := KX a o' hk
    rw [hobj] at e
    cases e
    have sq : SqL K (fun _ => none) a (ns.map V.int) := .inr ⟨_, vs.toArray, _, hk, rfl, rfl, rfl, by rw [List.size_toArray, hints.length]; exact sz, by simpa using rv⟩
    exact go _ (fun _ => .inl rfl) (hsp _ a ns hlen (fun _ => .inl rfl) sq) (fun b u z => by cases (show (none : Option HO) = some u from z)) (fun b z => absurd rfl z) fun z => absurd rfl z
  | none =>
    have at_ : scrH a vs ns a = some (.frz { cls := .type "list", data := .seq vs.toArray } (.lst (ns.map V.int))) := if_pos rfl
    have only : Only (scrH a vs ns) := fun b => by
      by_cases e : b = a
      · exact .inr ⟨_, _, if_pos e⟩
      · exact .inl (if_neg e)
    have sq : SqL K (scrH a vs ns) a (ns.map V.int) := .inl (.inr ⟨_, at_⟩)
    have only_a : ∀ b, scrH a vs ns b ≠ none → b = a := fun b z => by
      by_cases e : b = a
      · exact e
      · exact absurd (if_neg e) z
    refine go _ only (hsp _ a ns hlen only sq) (fun b u z => ?_) only_a fun _ => hk
    have e := only_a b (by rw [z]; exact nofun)
    subst e
    rw [at_] at z
    cases z
    exact ⟨hobj, by rw [List.length_map]; exact sz, vs, _, rv, hobj⟩
end Rk

/-! Rk8: reckoning with meanings. -/
namespace Rk
open PySem PySem.Spec L2
/-! ### places of written tuples -/
section
variable {a0 a1 a2 a3 a4 a5 a6 : Da} {r : List Da} {h : Hh}
theorem ixN_nat {n k : Nat} (hk : k < n) : ixN n (k : Int) = some k := by
  unfold ixN
  rw [if_pos (by omega), if_pos (by omega)]
  simp
theorem atI_get0 {α : Type} {xs : List α} {k : Nat} {v : α} (e : xs[k]? = some v) : atI xs (k : Int) = some v := L2.atI_nat e
theorem gIx_nat {xs : List Da} {k : Nat} {v : Da} (e : xs[k]? = some v) : gIx (.d (.tuple xs)) (.d (.int (k : Int))) h = some (.d v, h) := by
  unfold gIx
  dsimp only
  rw [atI_get0 e]
  rfl
theorem ix0 : gIx (.d (.tuple (a0 :: r))) (.d (.int 0)) h = some (.d a0, h) := gIx_nat (k := 0) rfl
theorem ix1 : gIx (.d (.tuple (a0 :: a1 :: r))) (.d (.int 1)) h = some (.d a1, h) := gIx_nat (k := 1) rfl
theorem ix2 : gIx (.d (.tuple (a0 :: a1 :: a2 :: r))) (.d (.int 2)) h = some (.d a2, h) := gIx_nat (k := 2) rfl
theorem ix3 : gIx (.d (.tuple (a0 :: a1 :: a2 :: a3 :: r))) (.d (.int 3)) h = some (.d a3, h) := gIx_nat (k := 3) rfl
theorem ix4 : gIx (.d (.tuple (a0 :: a1 :: a2 :: a3 :: a4 :: r))) (.d (.int 4)) h = some (.d a4, h) := gIx_nat (k := 4) rfl
theorem ix5 : gIx (.d (.tuple (a0 :: a1 :: a2 :: a3 :: a4 :: a5 :: r))) (.d (.int 5)) h = some (.d a5, h) := gIx_nat (k := 5) rfl
theorem gIxL {n : Nat} {xs : List Da} {k : Nat} {v : Da} (e : h[n]? = some (some (.lst xs))) (ev : xs[k]? = some v) : gIx (.r n) (.d (.int (k : Int))) h = some (.d v, h) := by
  unfold gIx asL
  dsimp only
  rw [e]
  dsimp only
  rw [atI_get0 ev]
  rfl
theorem gIxF {xs : List Da} {k : Nat} {v : Da} (ev : xs[k]? = some v) : gIx (.d (.list xs)) (.d (.int (k : Int))) h = some (.d v, h) := by
  unfold gIx asL
  dsimp only
  rw [atI_get0 ev]
  rfl
end
/-! ### one step each -/
section
variable {ρ : En} {h h1 : Hh} {v w : Vl} {f g : Ev} {i : Nat} {a b : Int}
theorem eD_eq {d : Da} : eD d ρ h = .ok (.d d) h := rfl
theorem fAdd_eq : fAdd a b = some (.int (a + b)) := rfl
theorem fSub_eq : fSub a b = some (.int (a - b)) := rfl
theorem fMul_eq (h : IntMulOk a b) : fMul a b = some (.int (a * b)) := if_pos h
theorem fDiv_eq (h0 : b ≠ 0) (h1 : Builtin.divisionGoesByPylong a b = false) : fDiv a b = some (.int (a.fdiv b)) := if_pos ⟨h0, h1⟩
theorem fMod_eq (h0 : b ≠ 0) : fMod a b = some (.int (a.fmod b)) := if_pos h0
theorem fLt_eq : fLt a b = some (.bool (decide (a < b))) := rfl
theorem fLe_eq : fLe a b = some (.bool (decide (a ≤ b))) := rfl
theorem fGt_eq : fGt a b = some (.bool (decide (b < a))) := rfl
theorem fGe_eq : fGe a b = some (.bool (decide (b ≤ a))) := rfl
theorem gInt_eq {F : Int → Int → Option Da} : gInt F (.d (.int a)) (.d (.int b)) h = (F a b).map fun z => (.d z, h) := rfl
theorem gAdd_int : gAdd (.d (.int a)) (.d (.int b)) h = some (.d (.int (a + b)), h) := rfl
theorem gAbs_eq : gAbs [.d (.int a)] h = some (.d (.int (if a < 0 then -a else a)), h) := rfl
theorem truO_b {b : Bool} : truO (.d (.bool b)) h = .ok b h := rfl
theorem fzs_nil : fzs [] h = some ([], h) := rfl
theorem fzs_d {x : Da} {vs : List Vl} : fzs (.d x :: vs) h = (fzs vs h).map fun q => (x :: q.1, q.2) := rfl
theorem So.then_nx {f : Sv} : (So.nx ρ h).then f = f ρ h := rfl
theorem So.then_rt {f : Sv} : (So.rt v h).then f = .rt v h := rfl
end
/-! ### sizes -/
/-- below 2 ^ n in size -/
def Bd (n : Nat) (x : Int) : Prop := x.natAbs < 2 ^ n
theorem Bd.mono {n m : Nat} {x : Int} (h : Bd n x) (hl : n ≤ m) : Bd m x := Nat.lt_of_lt_of_le h (Nat.pow_le_pow_right (by decide) hl)
theorem Bd.mul {n m : Nat} {x y : Int} (hx : Bd n x) (hy : Bd m y) : Bd (n + m) (x * y) := by
  unfold Bd at *
  rw [Int.natAbs_mul, Nat.pow_add]
  exact Nat.mul_lt_mul'' hx hy
theorem Bd.add {n m : Nat} {x y : Int} (hx : Bd n x) (hy : Bd m y) : Bd (max n m + 1) (x + y) := by
  have h1 := hx.mono (Nat.le_max_left n m)
  have h2 := hy.mono (Nat.le_max_right n m)
  unfold Bd at *
  rw [Nat.pow_succ]
  omega
theorem Bd.neg {n : Nat} {x : Int} (hx : Bd n x) : Bd n (-x) := by
  unfold Bd at *
  omega
theorem Bd.sub {n m : Nat} {x y : Int} (hx : Bd n x) (hy : Bd m y) : Bd (max n m + 1) (x - y) := by
  rw [Int.sub_eq_add_neg]
  exact hx.add hy.neg
theorem Bd.of {n : Nat} {x : Int} (m : Nat) (h : x.natAbs ≤ m) (hm : m < 2 ^ n) : Bd n x := Nat.lt_of_le_of_lt h hm
theorem Bd.le {n : Nat} {x y : Int} (hy : Bd n y) (h : x.natAbs ≤ y.natAbs) : Bd n x := Nat.lt_of_le_of_lt h hy
theorem bits_le {n : Nat} {x : Int} (h : Bd n x) : Builtin.Int.intBits x ≤ n := by
  unfold Builtin.Int.intBits
  split
  · exact Nat.zero_le _
  · rename_i hx
    have h0 : x.natAbs ≠ 0 := fun z => hx (by simp; omega)
    exact (Nat.log2_lt h0).mpr h
theorem mulOk_smallR {x y : Int} (h : Bd 64 y) : IntMulOk x y := IntMulOk.of_right (bits_le h)
theorem Bd.divOk {n : Nat} {x y : Int} (hy : Bd n y) (h0 : 0 < n) (h : n ≤ 9000) : Builtin.divisionGoesByPylong x y = false := PyProof.noPylong_of_log2 (by
  rcases Nat.eq_zero_or_pos y.natAbs with z | z
  · rw [z]; decide
  · exact (Nat.log2_lt (Nat.ne_of_gt z)).mpr (Nat.lt_of_lt_of_le hy (Nat.pow_le_pow_right (by decide) h)))
/-! ### fractions -/
/-- a fraction's data -/
def Q (r : Rat) : Da := .tuple [.int r.num, .int r.den]
theorem abs_eq (a : Int) : (if a < 0 then -a else a) = (a.natAbs : Int) := by
  split <;> omega
theorem fmod_nat (x y : Nat) : Int.fmod (x : Int) (y : Int) = ((x % y : Nat) : Int) := by
  rw [Int.fmod_eq_emod_of_nonneg _ (by omega)]
  rfl
/-- above and below, parted by the greatest common part with below's sign -/
theorem divInt_parts {x y : Int} (hy : y ≠ 0) : x.fdiv (if y < 0 then 0 - (Int.gcd x y : Int) else (Int.gcd x y : Int)) = (Rat.divInt x y).num ∧
    y.fdiv (if y < 0 then 0 - (Int.gcd x y : Int) else (Int.gcd x y : Int)) = ((Rat.divInt x y).den : Int) := by
  have hg : 0 < Int.gcd x y := Nat.pos_of_ne_zero fun z => hy (Int.gcd_eq_zero_iff.mp z).2
  have dx : (Int.gcd x y : Int) ∣ x := Int.gcd_dvd_left ..
  have dy : (Int.gcd x y : Int) ∣ y := Int.gcd_dvd_right ..
  rw [Rat.num_divInt, Rat.den_divInt, if_neg hy, Int.gcd_comm y x]
  obtain ⟨k, ek⟩ := dx
  obtain ⟨l, el⟩ := dy
  generalize hG : (Int.gcd x y : Int) = G at *
  have hG0 : 0 < G := by omega
  have hGn : G ≠ 0 := by omega
  have fx : ∀ s : Int, s ≠ 0 → ∀ z : Int, (s * z).fdiv s = z := fun s hs z => by
    rw [Int.mul_comm]
    exact Int.mul_fdiv_cancel _ hs
  by_cases hn : y < 0
  · rw [if_pos hn]
    have hs : y.sign = -1 := Int.sign_eq_neg_one_of_neg hn
    have e1 : x.fdiv (0 - G) = -k := by
      have : x = (0 - G) * (-k) := by rw [ek]; grind
      rw [this]
      exact fx _ (by omega) _
    have e2 : y.fdiv (0 - G) = -l := by
      have : y = (0 - G) * (-l) := by rw [el]; grind
      rw [this]
      exact fx _ (by omega) _
    refine ⟨?_, ?_⟩
    · rw [e1, hs, ek, show (-1 : Int) * (G * k) = G * (-k) by grind, Int.mul_ediv_cancel_left _ hGn]
    · rw [e2]
      have : (y.natAbs : Int) = G * (-l) := by
        have : (y.natAbs : Int) = -y := by omega
        rw [this, el]; grind
      rw [Int.natCast_ediv, this, hG, Int.mul_ediv_cancel_left _ hGn]
  · rw [if_neg hn]
    have hs : y.sign = 1 := Int.sign_eq_one_of_pos (by omega)
    have e1 : x.fdiv G = k := by rw [ek]; exact fx _ hGn _
    have e2 : y.fdiv G = l := by
      have : y.fdiv G = (G * l).fdiv G := by rw [← el]
      rw [this]; exact fx _ hGn _
    refine ⟨?_, ?_⟩
    · rw [e1, hs, ek, Int.one_mul, Int.mul_ediv_cancel_left _ hGn]
    · rw [e2]
      have : (y.natAbs : Int) = G * l := by
        have : (y.natAbs : Int) = y := by omega
        rw [this]; exact el
      rw [Int.natCast_ediv, this, hG, Int.mul_ediv_cancel_left _ hGn]
theorem bd_num {n : Nat} {x y : Int} (h : Bd n x) : Bd n (Rat.divInt x y).num := by
  rw [Rat.num_divInt]
  refine h.le ?_
  have h1 : (y.sign * x / (Int.gcd y x : Int)).natAbs ≤ (y.sign * x).natAbs := Int.natAbs_ediv_le_natAbs _ _
  rw [Int.natAbs_mul] at h1
  have h2 : y.sign.natAbs ≤ 1 := by
    rcases Int.lt_trichotomy y 0 with z | z | z
    · rw [Int.sign_eq_neg_one_of_neg z]; decide
    · rw [z]; decide
    · rw [Int.sign_eq_one_of_pos z]; decide
  have h3 : y.sign.natAbs * x.natAbs ≤ 1 * x.natAbs := Nat.mul_le_mul_right _ h2
  omega
theorem bd_den {n : Nat} {x y : Int} (h : Bd n y) (h0 : 0 < n) : Bd n ((Rat.divInt x y).den : Int) := by
  rw [Rat.den_divInt]
  split
  · exact Nat.one_lt_two_pow (by omega)
  · exact h.le (by rw [Int.natAbs_natCast]; exact Nat.div_le_self _ _)
end Rk
namespace Rk
open PySem PySem.Spec L2
/-- a fraction's numbers below 2 ^ n -/
def BQ (n : Nat) (r : Rat) : Prop := Bd n r.num ∧ Bd n (r.den : Int)
theorem BQ.mono {n m : Nat} {r : Rat} (h : BQ n r) (hl : n ≤ m) : BQ m r := ⟨h.1.mono hl, h.2.mono hl⟩
theorem den_pos (r : Rat) : (0 : Int) < (r.den : Int) := by
  have := r.den_nz
  omega
theorem add_divInt (r s : Rat) : Rat.divInt (r.num * s.den + s.num * r.den) (r.den * s.den) = r + s := by
  rw [Rat.add_def', ← Int.natCast_mul, Rat.divInt_ofNat]
theorem sub_divInt (r s : Rat) : Rat.divInt (r.num * s.den - s.num * r.den) (r.den * s.den) = r - s := by
  rw [Rat.sub_def', ← Int.natCast_mul, Rat.divInt_ofNat]
theorem mul_divInt (r s : Rat) : Rat.divInt (r.num * s.num) (r.den * s.den) = r * s := by
  rw [Rat.mul_def', ← Int.natCast_mul, Rat.divInt_ofNat]
theorem BQ.add {n m : Nat} {r s : Rat} (hr : BQ n r) (hs : BQ m s) (h0 : 0 < n + m) : BQ (n + m + 1) (r + s) := by
  rw [← add_divInt]
  refine ⟨bd_num ?_, bd_den ((hr.2.mul hs.2).mono (Nat.le_succ _)) (Nat.succ_pos _)⟩
  exact ((hr.1.mul hs.2).add (hs.1.mul hr.2)).mono (by omega)
theorem BQ.sub {n m : Nat} {r s : Rat} (hr : BQ n r) (hs : BQ m s) (h0 : 0 < n + m) : BQ (n + m + 1) (r - s) := by
  rw [← sub_divInt]
  refine ⟨bd_num ?_, bd_den ((hr.2.mul hs.2).mono (Nat.le_succ _)) (Nat.succ_pos _)⟩
  exact ((hr.1.mul hs.2).sub (hs.1.mul hr.2)).mono (by omega)
theorem BQ.mul {n m : Nat} {r s : Rat} (hr : BQ n r) (hs : BQ m s) (h0 : 0 < n + m) : BQ (n + m) (r * s) := by
  rw [← mul_divInt]
  exact ⟨bd_num (hr.1.mul hs.1), bd_den (hr.2.mul hs.2) h0⟩
theorem BQ.neg {n : Nat} {r : Rat} (hr : BQ n r) : BQ n (-r) := ⟨by rw [Rat.neg_num]; exact hr.1.neg, by rw [Rat.neg_den]; exact hr.2⟩
end Rk
namespace Rk
open PySem PySem.Spec L2
theorem sh_int (a : Int) : sh (.int a) = true := by
  simp [sh, SeqAt.shaped, PyData.hasDict, PyData.hasDictAll, PyData.canLay0, PyData.depth]
theorem eqv_int (a b : Int) : PyData.eqv (.int a) (.int b) = decide (a = b) := by
  show (a == b) = decide (a = b)
  by_cases e : a = b <;> simp [e]
section
variable {h : Hh}
theorem gEq_int {a b : Int} : gEq (.d (.int a)) (.d (.int b)) h = some (.d (.bool (decide (a = b))), h) := by
  simp [gEq, asD, eqvB, sh_int, eqv_int]
theorem gNe_int {a b : Int} : gNe (.d (.int a)) (.d (.int b)) h = some (.d (.bool (!decide (a = b))), h) := by
  simp [gNe, asD, eqvB, sh_int, eqv_int]
end
theorem bd_nat {n : Nat} {a : Nat} (h : a < 2 ^ n) : Bd n (a : Int) := by
  unfold Bd
  rw [Int.natAbs_natCast]
  exact h
end Rk
namespace Rk
open PySem PySem.Spec L2
/-! ### a law's stream: four places -/
def Strm (K : Nat) (xs : List Da) : Prop := ∃ (c : Bool) (x : Int) (k : Nat) (m : Int), xs = [.bool c, .int x, .int (k : Int), .int m] ∧ k ≤ K
section
variable {h : Hh} {n : Nat} {a b c d : Da} {ρ : En}
theorem get_set {o : Option Ob} (hn : n < h.length) : (h.set n o)[n]? = some o := List.getElem?_set_self hn
end
theorem bd_lit {n : Nat} {x : Int} (m : Nat) (h1 : -(m : Int) ≤ x) (h2 : x ≤ m) (hm : m < 2 ^ n) : Bd n x := Nat.lt_of_le_of_lt (by omega) hm
end Rk
namespace Rk
open PySem PySem.Spec L2
theorem set_app {h : Hh} {n : Nat} {o : Option Ob} {l : Hh} (hn : n < h.length) : (h ++ l).set n o = h.set n o ++ l := by
  rw [List.set_append, if_pos hn]
theorem get_app {h : Hh} {n : Nat} {l : Hh} (hn : n < h.length) : (h ++ l)[n]? = h[n]? := List.getElem?_append_left hn
end Rk
namespace Rk
open PySem PySem.Spec L2
section
variable {r : Rat} {h : Hh} {ρ : En} {g : Gs}
theorem gTupT_tup {n : Nat} {ds : List Da} : gTupT n g (.d (.tuple ds)) ρ h = if ds.length = n then g (ds.map Vl.d) ρ h else none := rfl
theorem gTupT_Q : gTupT 2 g (.d (Q r)) ρ h = g [.d (.int r.num), .d (.int r.den)] ρ h := rfl
theorem ixQ0 : gIx (.d (Q r)) (.d (.int 0)) h = some (.d (.int r.num), h) := ix0
theorem ixQ1 : gIx (.d (Q r)) (.d (.int 1)) h = some (.d (.int r.den), h) := ix1
theorem isQ_tup : isTyD .tuple (Q r) = some true := rfl
theorem isQ_bool : isTyD .bool (Q r) = some false := rfl
theorem isQ_int : isTyD .int (Q r) = some false := rfl
theorem isI_bool {i : Int} : isTyD .bool (.int i) = some false := rfl
theorem isI_int {i : Int} : isTyD .int (.int i) = some true := rfl
theorem isI_tup {i : Int} : isTyD .tuple (.int i) = some false := rfl
theorem isB_bool {i : Bool} : isTyD .bool (.bool i) = some true := rfl
theorem isB_int {i : Bool} : isTyD .int (.bool i) = some true := rfl
theorem isTy_d {T : Ty} {x : Da} : isTy T (.d x) h = isTyD T x := rfl
end
end Rk
namespace Rk
open PySem PySem.Spec L2
section
variable {a0 a1 a2 : Da} {l : List Da} {h : Hh}
theorem get_end {o : Option Ob} : (h ++ [o])[h.length]? = some o := by simp
end
end Rk
namespace Rk
end Rk
namespace Rk
open PySem PySem.Spec L2
end Rk

/-! Rk9: rulers, by numbers alone; loops' steps. -/
namespace Rk
open PySem PySem.Spec L2
theorem set_at {h l : Hh} {a b : Option Ob} : (h ++ a :: l).set h.length b = h ++ b :: l := by
  rw [List.set_append, if_neg (by omega)]
  simp
theorem get_at {h l : Hh} {a : Option Ob} : (h ++ a :: l)[h.length]? = some a := by simp
/-! ### powers -/
structure Ruler where
  b : Nat
  f : Nat
  l : Int
  w : String
def Ruler.da (R : Ruler) : Da := .tuple [.int R.b, .int R.f, .int R.l, .str R.w]
structure Ruler.Ok (R : Ruler) : Prop where
  b2 : 2 ≤ R.b
  b16 : R.b ≤ 16
  f1 : 1 ≤ R.f
  f24 : R.f ≤ 24
  l1 : -100 ≤ R.l
  l2 : R.l ≤ 100
  w4 : R.w = "near" ∨ R.w = "down" ∨ R.w = "up" ∨ R.w = "nought"
def Ruler.pw (R : Ruler) (e : Int) : Rat := (R.b : Rat) ^ e
section
variable {R : Ruler} (O : R.Ok)
include O
omit O in
theorem BQ.abs {n : Nat} {r : Rat} (h : BQ n r) : BQ n r.abs := by
  unfold Rat.abs
  split
  · exact h
  · exact h.neg
end
/-! ### places -/
def IsPlc (R : Ruler) (x : Rat) (p : Int) : Prop := R.l ≤ p ∧ x.abs < R.pw (p + R.f) ∧ (p = R.l ∨ R.pw (p - 1 + R.f) ≤ x.abs)
noncomputable def Ruler.plc (R : Ruler) (x : Rat) : Int := Classical.epsilon (IsPlc R x)
section
variable {R : Ruler} (O : R.Ok)
include O
end
end Rk
namespace Rk
end Rk
namespace Rk
end Rk

/-! Rk10: list comprehensions, append. -/
namespace Rk
open PySem PySem.Spec L2
variable {mg : Str → Option Value}
def wipeE (ρ : En) : List Nat → En
  | [] => ρ
  | v :: vs => (wipeE ρ vs).set v none
theorem ERep.setN {K : PySem.W.Frag} {φ : List Addr} {h : Hh} {H : Hp} {σ : L2.St} {ρ : En} (i : Nat) (r : ERep K mg φ h H σ ρ) : ERep K mg φ h H (σ.set i none) (ρ.set i none) := by
  refine ⟨by rw [List.length_set, List.length_set, r.len], fun j w e => ?_⟩
  by_cases hj : i = j
  · subst hj
    have hl : i < ρ.length := by
      have := (List.getElem?_eq_some_iff.mp e).1
      rwa [List.length_set] at this
    rw [List.getElem?_set_self hl] at e
    cases e
  · rw [List.getElem?_set_ne hj] at e
    rw [List.getElem?_set_ne hj]
    exact r.at_ j w e
theorem ERep.wipe {K : PySem.W.Frag} {φ : List Addr} {h : Hh} {H : Hp} {σ : L2.St} {ρ : En} (r : ERep K mg φ h H σ ρ) : ∀ vs : List Nat, ERep K mg φ h H (L2.wipe σ vs) (wipeE ρ vs)
  | [] => r
  | v :: vs => (ERep.wipe r vs).setN v
theorem wipe_get (σ : L2.St) (j : Nat) : ∀ vs : List Nat, (L2.wipe σ vs)[j]? = if j ∈ vs then (if j < σ.length then some none else none) else σ[j]?
  | [] => by simp [L2.wipe]
  | v :: vs => by
    unfold L2.wipe
    have ih := wipe_get σ j vs
    have hl := L2.wipe_length σ vs
    by_cases hj : v = j
    · subst hj
      by_cases hv : v < σ.length
      · rw [List.getElem?_set_self (by rw [hl]; exact hv)]
        simp [hv]
      · rw [List.getElem?_eq_none (by simp; omega)]
        simp [hv]
    · rw [List.getElem?_set_ne hj, ih]
      have : j ∈ v :: vs ↔ j ∈ vs := by
        rw [List.mem_cons]
        exact ⟨fun z => z.elim (fun z => absurd z.symm hj) id, .inr⟩
      simp only [this]
theorem wipe_set {σ : L2.St} {i : Nat} {o : Option V} {vs : List Nat} (hi : i ∈ vs) : L2.wipe (σ.set i o) vs = L2.wipe σ vs := by
  apply List.ext_getElem?
  intro j
  rw [wipe_get, wipe_get, List.length_set]
  by_cases hj : j ∈ vs
  · simp [hj]
  · have : i ≠ j := fun z => hj (z ▸ hi)
    simp [hj, List.getElem?_set_ne this]
/-! ### a block's targets -/
def tGw (K : PySem.W.Frag) (mg : Str → Option Value) (vs : List Nat) (g : Gv) : TG := fun x σ H Q => ∃ φ h ρ v ρ' h', Sim K φ h H ∧ ERep K mg φ h H σ ρ ∧ VRep K mg φ h H x v ∧ g v ρ h = some (ρ', h') ∧ ∀ σ' H' φ', Step φ h H φ' h' H' → Sim K φ' h' H' → ERep K mg φ' h' H' σ' ρ' → L2.wipe σ' vs = L2.wipe σ vs → Q σ' H'
def tGsw (K : PySem.W.Frag) (mg : Str → Option Value) (ws : List Nat) (g : Gs) : TGs := fun xs σ H Q => ∃ φ h ρ vs ρ' h', Sim K φ h H ∧ ERep K mg φ h H σ ρ ∧ VReps K mg φ h H xs vs ∧ g vs ρ h = some (ρ', h') ∧ ∀ σ' H' φ', Step φ h H φ' h' H' → Sim K φ' h' H' → ERep K mg φ' h' H' σ' ρ' → L2.wipe σ' ws = L2.wipe σ ws → Q σ' H'
def EGw (X : Cx) (vs : List Nat) (tg : Expr) (g : Gv) : Prop := PG X tg (tGw X.K X.mg vs g)
def EGsw (X : Cx) (vs : List Nat) (tg : List Expr) (g : Gs) : Prop := PGs X tg (tGsw X.K X.mg vs g)
section
variable {X : Cx} {pos : Pos} {ws : List Nat}
theorem egw_name {i : Nat} {x : Str} (hN : X.N.Nodup) (hw : i ∈ ws := by decide) (hi : X.N[i]? = some x := by rfl) (hx : Loc X.env.scope x := by first | exact .inl rfl | exact .inr rfl) (hf : X.fn x = true ∨ X.env.scope.names.lookup x = some .local := by first | exact .inl rfl | exact .inr rfl | assumption) : EGw X ws (.Name x pos) (gN i) :=
  PG.of (pg_name (i := i) hN hi hx hf) fun x σ H Q ⟨φ, h, ρ, v, ρ', h', sm, er, rv, e, k⟩ => by
    cases e
    exact k _ H φ (Step.refl _ _ _) sm (er.set rv) (wipe_set hw)
theorem egsw_nil : EGsw X ws [] gsNil := PGs.of pgs_nil fun xs σ H Q ⟨φ, h, ρ, vs, ρ', h', sm, er, rv, e, k⟩ => by
  cases rv with
  | nil =>
    cases e
    exact ⟨rfl, k _ H φ (Step.refl _ _ _) sm er rfl⟩
  | cons _ _ => cases e
theorem egsw_cons {e : Expr} {es : List Expr} {g : Gv} {gs : Gs} (h1 : EGw X ws e g) (h2 : EGsw X ws es gs)
    (hs : (assignEach (e :: es) X.env).map (·.2) = assign e X.env :: (assignEach es X.env).map (·.2) := by rfl) : EGsw X ws (e :: es) (gsCons g gs) :=
  PGs.of (pgs_cons h1 h2 hs) fun xs σ H Q ⟨φ, h, ρ, vs, ρ', h', sm, er, rv, e, k⟩ => by
    cases rv with
    | nil => cases e
    | @cons x xs v vs r t =>
      have e' : ((g v ρ h).bind fun p => gs vs p.1 p.2) = some (ρ', h') := e
      cases q : g v ρ h with
      | none => rw [q] at e'; cases e'
      | some p =>
        obtain ⟨ρ1, h1⟩ := p
        rw [q] at e'
        exact ⟨x, xs, rfl, φ, h, ρ, v, ρ1, h1, sm, er, r, q, fun σ1 H1 φ1 st sm1 er1 w1 => ⟨φ1, h1, ρ1, vs, ρ', h', sm1, er1, t.step st, e', fun σ2 H2 φ2 st2 sm2 er2 w2 => k σ2 H2 φ2 (st.trans st2) sm2 er2 (w2.trans w1)⟩⟩
theorem egw_tup {es : List Expr} {k n : Nat} {gs : Gs} (hc : X.calm = true) (h : EGsw X ws es gs) (hn : (assignEach es X.env).length = n := by rfl) (hst : (assignEach es X.env).findIdx? (·.1) = none := by rfl) : EGw X ws (.Tuple es k pos) (gTupT n gs) :=
  PG.of (pg_tup hc h hn hst) fun x σ H Q ⟨φ, h, ρ, v, ρ', h', sm, er, rv, e, k⟩ => by
    unfold gTupT at e
    split at e
    · rename_i ds
      split at e
      · obtain ⟨a, xs, rfl, sq, rs⟩ := VRep.tup rv
        exact ⟨a, xs, rfl, sq, by rw [rs.length]; assumption, φ, h, ρ, _, ρ', h', sm, er, rs.vreps, e, k⟩
      · cases e
    · cases e
end
/-! ### append -/
def appL (D : Nat) (v : Vl) (h : Hh) : Option Hh := (fz v h).bind fun p => match p.2[D]? with
  | some (some (.lst xs)) => if fitB (xs.length + 1) = true then some (p.2.set D (some (.lst (xs ++ [p.1])))) else none
  | _ => none
theorem Reps.snoc {K : PySem.W.Frag} {H : Hp} {M : Addr → Prop} : ∀ {xs : List V} {ds : List Da} {x : V} {d : Da}, Reps K H M xs ds → Rep K H M x d → Reps K H M (xs ++ [x]) (ds ++ [d])
  | _, _, _, _, .nil, r => .cons r .nil
  | _, _, _, _, .cons a t, r => .cons a (Reps.snoc t r)
theorem appL_ok {K : PySem.W.Frag} {φ : List Addr} {h h' : Hh} {H : Hp} {D : Nat} {a : Addr} {z : V} {v : Vl} (sm : Sim K φ h H) (ea : φ[D]? = some a) (rz : VRep K mg φ h H z v) (e : appL D v h = some h') :
    ∃ acc, H a = some (.lst acc) ∧ acc.length < sizeLine ∧ Step φ h H φ h' (upd H a (.lst (acc ++ [z]))) ∧ Sim K φ h' (upd H a (.lst (acc ++ [z]))) := by
  unfold appL at e
  cases ef : fz v h with
  | none => rw [ef] at e; cases e
  | some p =>
    obtain ⟨d, h1⟩ := p
    rw [ef] at e
    dsimp only [Option.bind_some] at e
    obtain ⟨s1, s2, s3⟩ := fz_ok sm rz ef
    split at e
    · rename_i xs en
      split at e
      · rename_i ft
        cases e
        obtain ⟨ys, eh, rs⟩ := s2.at_ en ea
        obtain ⟨t1, t2⟩ := s2.write (ob := .lst (xs ++ [d])) (u := .lst (ys ++ [z])) en ea fun M st => ⟨_, upd_same, Reps.snoc (rs.stay st) (s3.stay st)⟩
        refine ⟨ys, eh, ?_, s1.trans t1, t2⟩
        have := fitB_le ft
        rw [rs.length]
        omega
      · cases e
    · cases e
/-! ### comprehensions -/
def tvYes : Tv := fun _ h => .ok true h
def ETs (X : Cx) (W : WX) (es : List Expr) (f : Tv) : Prop := PTs X es (tT X.K X.mg W f)
theorem PTs.of {X : Cx} {es : List Expr} {t t' : TT} (h : PTs X es t) (i : ∀ σ H Q, t' σ H Q → t σ H Q) : PTs X es t' := ⟨fun pins s σ H Q I w => h.run pins s σ H Q I (i σ H Q w)⟩
theorem ets_nil {X : Cx} {W : WX} : ETs X W [] tvYes := PTs.of pts_nil fun σ H Q ⟨φ, h, ρ, sm, er, q⟩ => q H φ (Step.refl _ _ _) sm
theorem ets_one {X : Cx} {W : WX} {c : Expr} {t : Tv} (h : ET X W c t) : ETs X W [c] t := pts_one h
open Classical in
noncomputable def lcL (gd : Option (Nat × List Da)) (D : Nat) (g : Gv) (tt : Tv) (fe : Ev) (ρ0 : En) : List Da → Hh → Out Vl
  | [], h => if gdOk gd h then .ok (.r D) h else .no
  | d :: ds, h => if gdOk gd h then (match g (.d d) ρ0 h with
      | none => .no
      | some p => match tt p.1 p.2 with
        | .ok true h2 => (match fe p.1 h2 with
          | .ok v h3 => (match appL D v h3 with
            | some h4 => lcL gd D g tt fe ρ0 ds h4
            | none => .no)
          | _ => .no)
        | .ok false h2 => lcL gd D g tt fe ρ0 ds h2
        | _ => .no) else .no
noncomputable def eLc (vs : List Nat) (i : Iv) (g : Gv) (tt : Tv) (fe : Ev) : Ev := fun ρ h => (i ρ h).bind fun m h1 => lcL m.gd h1.length g tt fe (wipeE ρ vs) m.ds (h1 ++ [some (.lst [])])
abbrev WF : WX := fun _ _ _ _ => False
theorem lc_ok {K : PySem.W.Frag} {mg : Str → Option Value} {J : It} {m : Itm} {G : List Addr → Hh → Hp → Prop} (ok : ItOk K J m G) {g : Gv} {tt : Tv} {fe : Ev} {vs : List Nat} {φ : List Addr} {h : Hh} {H : Hp} {σ : L2.St} {ρ : En} {Q : VK} {E : XK} (sm : Sim K φ h H) (er : ERep K mg φ h H σ ρ) (gg : G φ h H)
    (q : PoX K mg φ h H (lcL m.gd h.length g tt fe (wipeE ρ vs) m.ds (h ++ [some (.lst [])])) Q E) (D : Addr) (nd : H D = none) : ∃ W' : Nat → Nat → Hp → Prop, (∃ n, W' 0 n (upd H D (.lst []))) ∧ ∀ i n H, W' i n H →
      (J.stop i H ∧ Q (.ref D) H) ∨ (J.go i H ∧ ∃ Nx : Hp → Prop, (∀ H', Nx H' → ∃ m', m' < n ∧ W' (i + 1) m' H') ∧ ∀ x H', J.yld i H x H' → tGw K mg vs g x (L2.wipe σ vs) H' fun σ2 H2 => L2.wipe σ2 vs = L2.wipe σ vs ∧ tT K mg WF tt σ2 H2 fun b H3 => if b = true then tE K mg WF fe σ2 H3 fun y H4 => ∃ acc, H4 D = some (.lst acc) ∧ acc.length < sizeLine ∧ Nx (upd H4 D (.lst (acc ++ [y]))) else Nx H3) := by
  obtain ⟨n1, n2, n3⟩ := sm.new (mg := mg) (ob := .lst []) (o := .lst []) nd fun M st => ⟨[], upd_same, .nil⟩
  have jD : (φ ++ [D])[h.length]? = some D := by
    rw [← sm.len]
    simp
  generalize h.length = j at *
  refine ⟨fun i n H => n = m.ds.length - i ∧ ∃ φ h, Sim K φ h H ∧ φ[j]? = some D ∧ ERep K mg φ h H (L2.wipe σ vs) (wipeE ρ vs) ∧ G φ h H ∧ PoX K mg φ h H (lcL m.gd j g tt fe (wipeE ρ vs) (m.ds.drop i) h) Q E, ⟨_, rfl, φ ++ [D], h ++ [some (.lst [])], n2, jD, (er.step n1).wipe vs, ok.keep _ _ _ _ _ _ gg n1, by rw [List.drop_zero]; exact PoX.pull n1 q⟩, ?_⟩
  rintro i n H ⟨rfl, φ, h, sm, jD, er, gg, q⟩
  cases ed : m.ds.drop i with
  | nil =>
    rw [ed] at q
    unfold lcL at q
    split at q
    · rename_i gd
      exact .inl ⟨ok.stop φ h H i sm gg gd (List.drop_eq_nil_iff.mp ed), q _ H φ (Step.refl _ _ _) sm ⟨D, jD, rfl⟩⟩
    · exact q.elim
  | cons d ds =>
    have hi : i < m.ds.length := by
      rcases Nat.lt_or_ge i m.ds.length with z | z
      · exact z
      · rw [List.drop_eq_nil_of_le z] at ed; cases ed
    have e1 : m.ds[i]? = some d := by
      have := List.getElem?_drop (xs := m.ds) (i := i) (j := 0)
      rw [ed] at this
      simpa using this.symm
    have e2 : m.ds.drop (i + 1) = ds := by
      have := List.drop_drop (i := 1) (j := i) (l := m.ds)
      rw [ed] at this
      simpa using this.symm
    rw [ed] at q
    unfold lcL at q
    split at q
    · rename_i gd
      refine .inr ⟨ok.go φ h H i sm gg gd hi, fun H' => ∃ φ h, Sim K φ h H' ∧ φ[j]? = some D ∧ ERep K mg φ h H' (L2.wipe σ vs) (wipeE ρ vs) ∧ G φ h H' ∧ PoX K mg φ h H' (lcL m.gd j g tt fe (wipeE ρ vs) ds h) Q E, fun H' hN => ?_, fun x H' hy => ?_⟩
      · obtain ⟨φ', h', a1, a2, a3, a4, a5⟩ := hN
        exact ⟨m.ds.length - (i + 1), by omega, rfl, φ', h', a1, a2, a3, a4, by rw [e2]; exact a5⟩
      · obtain ⟨s1, s2, s3⟩ := ok.yld φ h H i x H' d sm gg gd e1 hy
        have q' := PoX.pull s1 q
        have gg' := ok.keep _ _ _ _ _ _ gg s1
        have er' := er.step s1
        cases eg : g (.d d) (wipeE ρ vs) h with
        | none => rw [eg] at q'; exact q'.elim
        | some p =>
          obtain ⟨ρ1, h1⟩ := p
          rw [eg] at q'
          refine ⟨φ, h, _, .d d, ρ1, h1, s2, er', s3, eg, fun σ2 H2 φ2 st2 sm2 er2 w2 => ⟨by
            have idm : L2.wipe (L2.wipe σ vs) vs = L2.wipe σ vs := by
              apply List.ext_getElem?
              intro k
              rw [wipe_get, wipe_get, L2.wipe_length]
              by_cases hk : k ∈ vs <;> simp [hk]
            rw [w2, idm], φ2, h1, ρ1, sm2, er2, ?_⟩⟩
          have q2 := PoX.pull st2 q'
          have gg2 := ok.keep _ _ _ _ _ _ gg' st2
          have er3 := er'.step st2
          have jD2 := pre_get st2.pre jD
          dsimp only at q2
          revert q2
          cases tt ρ1 h1 with
          | no => exact fun q2 => q2
          | ex c fs h2 => exact fun q2 => q2.elim
          | ok b h2 =>
            intro q2 H3 φ3 st3 sm3
            have q3 := PoX.pull st3 q2
            have gg3 := ok.keep _ _ _ _ _ _ gg2 st3
            have jD3 := pre_get st3.pre jD2
            cases b with
            | false =>
              rw [if_neg (by decide)]
              exact ⟨φ3, h2, sm3, jD3, er3.step st3, gg3, q3⟩
            | true =>
              rw [if_pos rfl]
              refine ⟨φ3, h2, ρ1, sm3, er2.step st3, ?_⟩
              dsimp only at q3
              revert q3
              cases fe ρ1 h2 with
              | no => exact fun q3 => q3
              | ex c fs h3 => exact fun q3 => q3.elim
              | ok v h3 =>
                intro q3 y H4 φ4 st4 sm4 rv
                have q4 := PoX.pull st4 q3
                have gg4 := ok.keep _ _ _ _ _ _ gg3 st4
                have jD4 := pre_get st4.pre jD3
                dsimp only at q4
                cases ea : appL j v h3 with
                | none => rw [ea] at q4; exact q4.elim
                | some h4 =>
                  rw [ea] at q4
                  obtain ⟨acc, a1, a2, a3, a4⟩ := appL_ok sm4 jD4 rv ea
                  exact ⟨acc, a1, a2, φ4, h4, a4, jD4, ((er3.step st3).step st4).step a3, ok.keep _ _ _ _ _ _ gg4 a3, PoX.pull a3 q4⟩
    · exact q.elim
section
variable {X : Cx} {W : WX} {elt tg iter : Expr} {ifs : List Expr} {scope : Scope} {own : List (Str × Nat)} {pos spos py : Pos} {fi : Iv} {g : Gv} {tt : Tv} {fe : Ev}
theorem lc_read {σ : L2.St} {H : Hp} {Q : VK} {ws : List Nat} (hw : ws = own.map (·.2)) (t : tE X.K X.mg W (eLc ws fi g tt fe) σ H Q) : tLc (tI X.K X.mg W fi) (tGw X.K X.mg ws g) (tT X.K X.mg WF tt) (tE X.K X.mg WF fe) (own.map (·.2)) σ H Q := by
  subst hw
  obtain ⟨φ, h, ρ, sm, er, q⟩ := t
  refine ⟨φ, h, ρ, sm, er, ?_⟩
  unfold eLc at q
  revert q
  cases fi ρ h with
  | ok m h1 => exact fun q J H1 φ1 G st sm1 ok gg D nd => lc_ok ok sm1 (er.step st) gg (PoX.pull st q) D nd
  | ex c fs h1 => exact fun q => q
  | no => exact fun q => q
theorem ee_lc (ws : List Nat) (own : List (Str × Nat)) (hc : X.calm = true) (hN : X.N.Nodup) (hi : EI X W tg iter fi) (ok : BlkOk X.N X.env.scope scope own)
    (hg : ∀ (s : Shared) (H : Hp) (C : Addr) (cl : List (Str × Addr)) (fp : List Addr), EGw (X.blk s H scope (compEnvC scope cl C X.env) fp) ws tg g)
    (ht : ∀ (s : Shared) (H : Hp) (C : Addr) (cl : List (Str × Addr)) (fp : List Addr), ETs (X.blk s H scope (compEnvC scope cl C X.env) fp) WF ifs tt)
    (he : ∀ (s : Shared) (H : Hp) (C : Addr) (cl : List (Str × Addr)) (fp : List Addr), EE (X.blk s H scope (compEnvC scope cl C X.env) fp) WF elt fe)
    (hw : ws = own.map (·.2) := by rfl) (hs : ∀ x, foldedSetIterable iter X.env x = pure x := by intro _; rfl) : EE X W (.ListComp elt [⟨tg, iter, ifs, 0⟩] scope pos) (eLc ws fi g tt fe) :=
  PE.of (pe_lc (own := own) (g := tGw X.K X.mg ws g) (tt := tT X.K X.mg WF tt) (te := tE X.K X.mg WF fe) hc hN hi ok hg ht he hs) fun σ H Q t => lc_read hw t
theorem es_setLc {i : Nat} {y : Str} (ws : List Nat) (own : List (Str × Nat)) (hc : X.calm = true) (hN : X.N.Nodup) (hi : EI X W tg iter fi) (ok : BlkOk X.N X.env.scope scope own)
    (hg : ∀ (s : Shared) (H : Hp) (C : Addr) (cl : List (Str × Addr)) (fp : List Addr), EGw (X.blk s H scope (compEnvC scope cl C X.env) fp) ws tg g)
    (ht : ∀ (s : Shared) (H : Hp) (C : Addr) (cl : List (Str × Addr)) (fp : List Addr), ETs (X.blk s H scope (compEnvC scope cl C X.env) fp) WF ifs tt)
    (he : ∀ (s : Shared) (H : Hp) (C : Addr) (cl : List (Str × Addr)) (fp : List Addr), EE (X.blk s H scope (compEnvC scope cl C X.env) fp) WF elt fe)
    (hsw : swapsWith (.ListComp elt [⟨tg, iter, ifs, 0⟩] scope pos) (some (.Name y py)) spos.line X.env = pure true)
    (hy : X.N[i]? = some y := by rfl) (hyl : X.env.scope.names.lookup y = some .local := by rfl)
    (hw : ws = own.map (·.2) := by rfl) (hs : ∀ x, foldedSetIterable iter X.env x = pure x := by intro _; rfl) : ES X W (.Assign [.Name y py] (.ListComp elt [⟨tg, iter, ifs, 0⟩] scope pos) spos) (sSet i (eLc ws fi g tt fe)) :=
  PS.of (ps_setLc (i := i) (own := own) (g := tGw X.K X.mg ws g) (tt := tT X.K X.mg WF tt) (te := tE X.K X.mg WF fe) hc hN hy hyl hsw hi ok hg ht he hs) fun D σ H ⟨φ, h, ρ, sm, er, q⟩ => lc_read hw ⟨φ, h, ρ, sm, er, by
    unfold sSet at q
    revert q
    cases eLc ws fi g tt fe ρ h with
    | ok v h1 => exact fun q x H1 φ1 st sm1 rv => q _ H1 φ1 st sm1 ((er.step st).set rv)
    | ex c fs h1 => exact fun q cls dd H' φ' st sm' xr => q cls dd σ H' φ' st sm' (er.step st) xr
    | no => exact fun q => q⟩
end
theorem tk_blk {X : Cx} {s : Shared} {H : Hp} {scope : Scope} {e : Env} {fp : List Addr} : Takes (X.blk s H scope e fp) WF := fun u s' ⟨a, B, sI, pins, σ, H, cls, d, e, I, nb, up, sky, na, os, ag, w⟩ => w.elim
end Rk

/-! Rk11: methods of built-in types. -/
namespace Rk
open PySem PySem.Spec L2
variable {mg : Str → Option Value}
abbrev GM := Vl → List Vl → Hh → Option (Vl × Hh)
def eMt (ty : Vl → Hh → Bool) (g : GM) (o : Ev) (as : Av) : Ev := fun ρ h => (o ρ h).bind fun x h1 => if ty x h1 = true then (as ρ h1).bind fun vs h2 => ofO (g x vs h2) else .no
def TyOk (K : PySem.W.Frag) (mg : Str → Option Value) (T : String) (ty : Vl → Hh → Bool) : Prop := ∀ (φ : List Addr) (h : Hh) (H : Hp) (x : V) (v : Vl), Sim K φ h H → VRep K mg φ h H x v → ty v h = true → tyV K T x H
def OkM (K : PySem.W.Frag) (mg : Str → Option Value) (r : V → List V → Hp → VK → Prop) (g : GM) : Prop := ∀ (φ : List Addr) (h : Hh) (H : Hp) (x : V) (xs : List V) (o : Vl) (as : List Vl) (Q : VK) (v : Vl) (h' : Hh), Sim K φ h H → VRep K mg φ h H x o → VReps K mg φ h H xs as → g o as h = some (v, h') →
  (∀ z H' φ', Step φ h H φ' h' H' → Sim K φ' h' H' → VRep K mg φ' h' H' z v → Q z H') → r x xs H Q
def tyL (v : Vl) (h : Hh) : Bool := (asL v h).isSome
def tyS (v : Vl) (_ : Hh) : Bool := match v with
  | .d (.str _) => true
  | _ => false
section
variable {K : PySem.W.Frag}
theorem tyL_ok : TyOk K mg "list" tyL := fun φ h H x v sm r e => by
  unfold tyL at e
  cases q : asL v h with
  | none => rw [q] at e; cases e
  | some ds =>
    obtain ⟨a, xs, rfl, sq, _⟩ := asL_ok sm r q
    exact .inl ⟨rfl, xs, sq⟩
end
section
variable {X : Cx} {W : WX} {o e : Expr} {es : List Expr} {fo : Ev} {fs : Av} {apos cpos : Pos} {T : String} {name : Str} {id : String} {r : V → List V → Hp → VK → Prop} {ty : Vl → Hh → Bool} {g : GM}
theorem ee_mt (pa : PlainAttrs T) (slot : Slot T name id) (hty : typeOf (.builtin id) = pure (.type "method_descriptor")) (hm : MtR X id r) (tk : TyOk X.K X.mg T ty) (ok : OkM X.K X.mg r g) (ho : EE X W o fo) (ha : EA X W (e :: es) fs)
    (hbase : attributeBase o name X.env (eval o X.env) = eval o X.env := by rfl)
    (hfew : ((backTo cpos (starEach (e :: es) X.env)).all (fun x => !x.1) && (backToKw cpos (keywordEach [] X.env)).all (fun x => x.1.isSome)
      && decide ((e :: es).length + ([] : List Keyword).length + (if ([] : List Keyword).isEmpty then 0 else 1) < 30)) = true := by rfl)
    (hline : (apos.endLine == cpos.line) = true := by rfl) (hs : starEach (e :: es) X.env = (false, eval e X.env) :: starEach es X.env := by rfl) (hplain : (backTo cpos (starEach es X.env)).any (·.1) = false := by rfl) :
    EE X W (.Call (.Attribute o name apos) (e :: es) [] cpos) (eMt ty g fo fs) :=
  PE.of (pe_bm pa slot hty hm ho ha hbase hfew hline hs hplain) fun σ H Q ⟨φ, h, ρ, sm, er, q⟩ => ⟨φ, h, ρ, sm, er, PoX.goE q fun x v h1 H1 φ1 st sm1 rv q1 => by
    split at q1
    · rename_i ht
      refine ⟨tk _ _ _ _ _ sm1 rv ht, φ1, h1, ρ, sm1, er.step st, PoX.goA q1 fun xs vs h2 H2 φ2 st2 sm2 rvs q2 => ?_⟩
      obtain ⟨z, h3, e3, k⟩ := PoX.ofO q2
      exact ok φ2 h2 H2 x xs v vs Q z h3 sm2 (rv.step st2) rvs e3 k
    · exact q1.elim⟩
end
/-! ### lists' methods -/
def gApp : GM := fun o as h => match o, as with
  | .r n, [v] => (appL n v h).map fun h' => (.d .none, h')
  | _, _ => none
theorem ok_app {K : PySem.W.Frag} : OkM K mg rAppend gApp := by
  intro φ h H x xs o as Q v h' sm rx rs e k
  unfold gApp at e
  split at e
  · rename_i n w
    obtain ⟨y, rfl, ry⟩ := rs.one
    obtain ⟨a, ea, rfl⟩ := rx
    cases q : appL n w h with
    | none => rw [q] at e; cases e
    | some h1 =>
      rw [q] at e
      cases e
      obtain ⟨acc, a1, a2, a3, a4⟩ := appL_ok sm ea ry q
      exact ⟨a, acc, y, rfl, rfl, a1, a2, k _ _ _ a3 a4 Rep.non⟩
  · cases e
end Rk

/-! Rk12: rounding, by numbers alone. -/
namespace Rk
open PySem PySem.Spec L2
/-! ### whole and rest -/
def upB (w : String) (t : Rat) : Bool :=
  if w = "near" then decide (1 < 2 * (t - (t.floor : Rat))) || (decide (2 * (t - (t.floor : Rat)) = 1) && decide (t.floor.fmod 2 = 1))
  else if w = "nought" then decide (t < 0) && decide (0 < t - (t.floor : Rat))
  else decide (w = "up") && decide (0 < t - (t.floor : Rat))
/-- the whole number that a way tells -/
def wb (w : String) (t : Rat) : Int := t.floor + (if upB w t = true then 1 else 0)
noncomputable def Ruler.stp (R : Ruler) (x : Rat) : Rat := R.pw (R.plc x)
noncomputable def Ruler.rnd (R : Ruler) (x : Rat) : Rat := (wb R.w (x / R.stp x) : Rat) * R.stp x
section
variable {R : Ruler} (O : R.Ok)
include O
end
end Rk
namespace Rk
open PySem PySem.Spec L2
end Rk
namespace Rk
open PySem PySem.Spec L2
end Rk
namespace Rk
open PySem PySem.Spec L2
theorem BQ_int {n : Nat} {k : Int} (h : Bd n k) (h0 : 0 < n) : BQ n (k : Rat) := by
  refine ⟨?_, ?_⟩
  · rw [Rat.num_intCast]
    exact h
  · rw [Rat.den_intCast]
    exact Nat.one_lt_two_pow (by omega)
/-! ### comprehensions step by step -/
section
variable {gd : Option (Nat × List Da)} {D : Nat} {g : Gv} {tt : Tv} {fe : Ev} {ρ0 ρ1 : En} {d : Da} {ds : List Da} {h h1 h2 h3 h4 : Hh} {v : Vl}
theorem lcL_nil (e : gdOk gd h) : lcL gd D g tt fe ρ0 [] h = .ok (.r D) h := by
  unfold lcL
  rw [if_pos e]
theorem lcL_cons (e : gdOk gd h) (eg : g (.d d) ρ0 h = some (ρ1, h1)) (et : tt ρ1 h1 = .ok true h2) (ef : fe ρ1 h2 = .ok v h3) (ea : appL D v h3 = some h4) : lcL gd D g tt fe ρ0 (d :: ds) h = lcL gd D g tt fe ρ0 ds h4 := by
  rw [lcL]
  rw [if_pos e, eg]
  dsimp only
  rw [et]
  dsimp only
  rw [ef]
  dsimp only
  rw [ea]
theorem lcL_skip (e : gdOk gd h) (eg : g (.d d) ρ0 h = some (ρ1, h1)) (et : tt ρ1 h1 = .ok false h2) : lcL gd D g tt fe ρ0 (d :: ds) h = lcL gd D g tt fe ρ0 ds h2 := by
  rw [lcL]
  rw [if_pos e, eg]
  dsimp only
  rw [et]
theorem appL_end {acc : List Da} {x : Da} {n : Nat} (hn : h.length = n) (hl : acc.length < 16777216) : appL n (.d x) (h ++ [some (.lst acc)]) = some (h ++ [some (.lst (acc ++ [x]))]) := by
  subst hn
  unfold appL fz
  dsimp only [Option.bind_some]
  rw [get_end]
  dsimp only
  rw [if_pos (fitB_ok (by omega)), set_at]
end
end Rk
namespace Rk
open PySem PySem.Spec L2
section
variable {h : Hh} {n : Nat} {l : List Da}
theorem asL_at (e : h[n]? = some (some (.lst l))) : asL (.r n) h = some l := by
  unfold asL
  dsimp only
  rw [e]
theorem tyL_at (e : h[n]? = some (some (.lst l))) : tyL (.r n) h = true := by
  unfold tyL
  rw [asL_at e]
  rfl
theorem gApp_at {d : Da} (e : h[n]? = some (some (.lst l))) (hl : l.length < 16777216) : gApp (.r n) [.d d] h = some (.d .none, h.set n (some (.lst (l ++ [d])))) := by
  unfold gApp appL fz
  dsimp only [Option.bind_some]
  rw [e]
  dsimp only
  rw [if_pos (fitB_ok (by omega))]
  rfl
end
end Rk
namespace Rk
end Rk
namespace Rk
open PySem PySem.Spec L2
def ways : List Da := [.str "near", .str "down", .str "up", .str "nought"]
end Rk

/-! Rk13: repr of data. -/
namespace Rk
open PySem PySem.Spec L2
variable {mg : Str → Option Value}
def rRepr (K : PySem.W.Frag) (xs : List V) (H : Hp) (Q : VK) : Prop := ∃ x d, xs = [x] ∧ Dp K H x d ∧ d.showable = true ∧ d.hasDict = false ∧ d.depth ≤ 60 ∧ d.shown.length ≤ sizeLine ∧ Q (.str d.shown) H
def gRepr : GC := fun as h => match as with
  | [x] => match asD x h with
    | some d => if d.showable && !d.hasDict && decide (d.depth ≤ 60) && fitB d.shown.length then some (.d (.str d.shown), h) else none
    | none => none
  | _ => none
end Rk

/-! Rk14: dicts. -/
namespace Rk
open PySem PySem.Spec L2
variable {mg : Str → Option Value}
def keyOf : Vl → Option Key
  | .d (.int i) => some (.inl i)
  | .d (.str x) => some (.inr x)
  | _ => none
def putD (kds : List (Key × Da)) (k : Key) (d : Da) : List (Key × Da) :=
  if (kds.any fun kv => decide (kv.1 = k)) = true then kds.map (fun kv => if kv.1 = k then (kv.1, d) else kv) else kds ++ [(k, d)]
section
variable {K : PySem.W.Frag}
theorem keyOf_ok {φ : List Addr} {h : Hh} {H : Hp} {y : V} {v : Vl} {k : Key} (r : VRep K mg φ h H y v) (e : keyOf v = some k) : y = kV k := by
  unfold keyOf at e
  split at e
  · cases e
    exact VRep.int r
  · cases e
    exact VRep.str r
  · cases e
section
variable {H : Hp} {M : Addr → Prop}
theorem KvRep.length : ∀ {vs : List (Key × V)} {ds : List (Key × Da)}, KvRep K H M vs ds → vs.length = ds.length
  | _, _, .nil => rfl
  | _, _, .cons _ t => by rw [List.length_cons, List.length_cons, KvRep.length t]
theorem KvRep.get : ∀ {vs : List (Key × V)} {ds : List (Key × Da)} {k : Key}, KvRep K H M vs ds → (valV vs k = none ∧ valD ds k = none) ∨ ∃ v d, valV vs k = some v ∧ valD ds k = some d ∧ Rep K H M v d
  | _, _, _, .nil => .inl ⟨rfl, rfl⟩
  | _, _, k, .cons (k := k0) (v := v) (d := d) r t => by
    by_cases e : k0 = k
    · refine .inr ⟨v, d, valV_pos e, ?_, r⟩
      simp [valD, List.find?_cons, e]
    · have e1 : ∀ l : List (Key × Da), valD ((k0, d) :: l) k = valD l k := fun l => by simp [valD, List.find?_cons, e]
      have e2 : ∀ l : List (Key × V), valV ((k0, v) :: l) k = valV l k := fun l => valV_neg (p := (k0, v)) e
      rw [e1, e2]
      exact KvRep.get t
theorem KvRep.any : ∀ {vs : List (Key × V)} {ds : List (Key × Da)} {k : Key}, KvRep K H M vs ds → (vs.any fun kv => decide (kv.1 = k)) = (ds.any fun kv => decide (kv.1 = k))
  | _, _, _, .nil => rfl
  | _, _, _, .cons r t => by rw [List.any_cons, List.any_cons, KvRep.any t]
theorem KvRep.map {k : Key} {v : V} {d : Da} (q : Rep K H M v d) : ∀ {vs : List (Key × V)} {ds : List (Key × Da)}, KvRep K H M vs ds → KvRep K H M (vs.map fun kv => if kv.1 = k then (kv.1, v) else kv) (ds.map fun kv => if kv.1 = k then (kv.1, d) else kv)
  | _, _, .nil => .nil
  | _, _, .cons (k := k0) r t => by
    rw [List.map_cons, List.map_cons]
    by_cases e : k0 = k
    · rw [if_pos e, if_pos e]
      exact .cons q (KvRep.map q t)
    · rw [if_neg e, if_neg e]
      exact .cons r (KvRep.map q t)
theorem KvRep.snoc {k : Key} {v : V} {d : Da} (q : Rep K H M v d) : ∀ {vs : List (Key × V)} {ds : List (Key × Da)}, KvRep K H M vs ds → KvRep K H M (vs ++ [(k, v)]) (ds ++ [(k, d)])
  | _, _, .nil => .cons q .nil
  | _, _, .cons r t => .cons r (KvRep.snoc q t)
theorem KvRep.put {k : Key} {v : V} {d : Da} (q : Rep K H M v d) {vs : List (Key × V)} {ds : List (Key × Da)} (r : KvRep K H M vs ds) : KvRep K H M (putK vs k v) (putD ds k d) := by
  unfold putK putD
  rw [r.any]
  split
  · exact r.map q
  · exact r.snoc q
end
theorem Sim.atD {φ : List Addr} {h : Hh} {H : Hp} {n : Nat} {a : Addr} {kds : List (Key × Da)} (sm : Sim K φ h H) (e : h[n]? = some (some (.dct kds))) (ea : φ[n]? = some a) : ∃ kvs, H a = some (.dK kvs) ∧ KvRep K H (Live φ h) kvs kds := by
  obtain ⟨b, e1, r⟩ := sm.ob n _ e
  rw [ea] at e1
  cases e1
  exact r
/-! ### d[k] -/
def gDG : G2 := fun x y h => match x, keyOf y with
  | .r n, some k => match h[n]? with
    | some (some (.dct kds)) => (valD kds k).map fun d => (.d d, h)
    | _ => none
  | _, _ => none
def rDG : R2 := fun x y H Q => ∃ a v, x = .ref a ∧ DGet H a y (some v) ∧ Q v H
theorem ok_dg : Ok2 K mg rDG gDG := by
  intro φ h H x y a b Q v h' sm rx ry e k
  unfold gDG at e
  split at e
  · rename_i n key ek
    split at e
    · rename_i kds en
      obtain ⟨p, ep, rfl⟩ := rx
      obtain ⟨kvs, eh, rk⟩ := sm.atD en ep
      rcases rk.get (k := key) with ⟨_, z⟩ | ⟨w, d, e1, e2, r⟩
      · rw [z] at e; cases e
      · rw [e2] at e
        cases e
        rw [keyOf_ok ry ek]
        refine ⟨p, w, rfl, ?_, k w H φ (Step.refl _ _ _) sm r⟩
        rw [← e1]
        exact DGet.k eh
    · cases e
  · cases e
/-- either -/
def gIy : G2 := fun x y h => match gDG x y h with
  | some r => some r
  | none => gIx x y h
end
section
variable {X : Cx} {W : WX} {a b : Expr} {fa fb : Ev} {pos : Pos}
theorem ee_dg (hu : X.A.units + 64 < cLine) (ha : EE X W a fa) (hb : EE X W b fb) (hs : NoSl b := by exact fun _ _ => rfl) : EE X W (.Subscript a b pos) (eOp gDG fa fb) :=
  PE.of (pe_dget (by omega) ha hb hs) fun σ H Q hf => tOp_ok (r := rDG) ok_dg hf
theorem PE.or {e : Expr} {t t' : TE} (h : PE X e t) (h' : PE X e t') : PE X e (fun σ H Q => t σ H Q ∨ t' σ H Q) := ⟨fun pins s σ H Q I w => w.elim (h.run pins s σ H Q I) (h'.run pins s σ H Q I)⟩
theorem ee_iy (hu : X.A.units + 64 < cLine) (ha : EE X W a fa) (hb : EE X W b fb) (hs : NoSl b := by exact fun _ _ => rfl) (hp : PlainIx b := by exact fun _ _ => rfl) : EE X W (.Subscript a b pos) (eOp gIy fa fb) :=
  PE.of (PE.or (ee_dg (pos := pos) hu ha hb hs) (ee_ix (pos := pos) ha hb hp)) fun σ H Q ⟨φ, h, ρ, sm, er, q⟩ => by
    unfold eOp at q
    cases e1 : fa ρ h with
    | no => rw [e1] at q; exact q.elim
    | ex c fs h1 =>
      refine .inr ⟨φ, h, ρ, sm, er, ?_⟩
      unfold eOp
      rw [e1] at q ⊢
      exact q
    | ok x h1 =>
      rw [e1] at q
      cases e2 : fb ρ h1 with
      | no =>
        simp only [Out.bind_ok] at q
        rw [e2] at q
        exact q.elim
      | ex c fs h2 =>
        refine .inr ⟨φ, h, ρ, sm, er, ?_⟩
        unfold eOp
        rw [e1]
        simp only [Out.bind_ok] at q ⊢
        rw [e2] at q ⊢
        exact q
      | ok y h2 =>
        simp only [Out.bind_ok] at q
        rw [e2] at q
        simp only [Out.bind_ok] at q
        unfold gIy at q
        cases e3 : gDG x y h2 with
        | some r =>
          refine .inl ⟨φ, h, ρ, sm, er, ?_⟩
          unfold eOp
          rw [e1]
          simp only [Out.bind_ok]
          rw [e2]
          simp only [Out.bind_ok]
          rw [e3] at q ⊢
          exact q
        | none =>
          refine .inr ⟨φ, h, ρ, sm, er, ?_⟩
          unfold eOp
          rw [e1]
          simp only [Out.bind_ok]
          rw [e2]
          simp only [Out.bind_ok]
          rw [e3] at q
          exact q
end
/-! ### d[k] = v -/
def setD (o i v : Vl) (h : Hh) : Option Hh := match o, keyOf i, fz v h with
  | .r n, some k, some (d, h1) => match h1[n]? with
    | some (some (.dct kds)) => if fitB (kds.length + 1) = true then some (h1.set n (some (.dct (putD kds k d)))) else none
    | _ => none
  | _, _, _ => none
def gSetD (o ix : Ev) : Gv := fun v ρ h => (okO (o ρ h)).bind fun p => (okO (ix ρ p.2)).bind fun q => (setD p.1 q.1 v q.2).map fun h' => (ρ, h')
theorem setD_ok {K : PySem.W.Frag} {φ : List Addr} {h h' : Hh} {H : Hp} {x y z : V} {o i v : Vl} (sm : Sim K φ h H) (rx : VRep K mg φ h H x o) (ry : VRep K mg φ h H y i) (rz : VRep K mg φ h H z v) (e : setD o i v h = some h') :
    ∃ a H', x = .ref a ∧ DPut H a y z H' ∧ Step φ h H φ h' H' ∧ Sim K φ h' H' := by
  unfold setD at e
  split at e
  · rename_i n kk d h1 ek ef
    obtain ⟨s1, s2, s3⟩ := fz_ok sm rz ef
    split at e
    · rename_i kds en
      split at e
      · rename_i ft
        cases e
        obtain ⟨a, ea, rfl⟩ := rx
        obtain ⟨kvs, eh, rk⟩ := s2.atD en ea
        obtain ⟨t1, t2⟩ := s2.write (ob := .dct (putD kds kk d)) (u := .dK (putK kvs kk z)) en ea fun M st => ⟨_, upd_same, KvRep.put (s3.stay st) (rk.stay st)⟩
        rw [keyOf_ok ry ek]
        refine ⟨a, _, rfl, DPut.k eh ?_, s1.trans t1, t2⟩
        have := fitB_le ft
        rw [rk.length]
        omega
      · cases e
    · cases e
  · cases e
section
variable {X : Cx} {W : WX} {o ix e : Expr} {fo fi fe : Ev} {pos pos' : Pos}
theorem PoS.atE {K : PySem.W.Frag} {mg : Str → Option Value} {φ : List Addr} {h : Hh} {H : Hp} {ρ : En} {σ : L2.St} {D : Ends} {W : WX} {f : Ev} {g : Vl → Hh → So} (er : ERep K mg φ h H σ ρ) (q : PoS K mg φ h H (Out.then ρ (f ρ h) g) D W) (sm : Sim K φ h H)
    {Q : VK} (k : ∀ x v h1 H1 φ1, f ρ h = .ok v h1 → Step φ h H φ1 h1 H1 → Sim K φ1 h1 H1 → VRep K mg φ1 h1 H1 x v → PoS K mg φ1 h1 H1 (g v h1) D W → Q x H1) : tE K mg W f σ H Q := by
  refine ⟨φ, h, ρ, sm, er, ?_⟩
  revert q
  cases ef : f ρ h with
  | ok v h1 => exact fun q x H1 φ1 st sm1 rv => k x v h1 H1 φ1 ef st sm1 rv (PoS.pull st q)
  | ex c fs h1 => exact fun q cls dd H' φ' st sm' xr => q cls dd σ H' φ' st sm' (er.step st) xr
  | no => exact fun q => q
theorem es_dput (hu : X.A.units + 64 < cLine) (ho : EE X W o fo) (hi : EE X W ix fi) (he : EE X W e fe) (hs : swapsWith e (some (.Subscript o ix pos')) pos.line X.env = pure false := by rfl) :
    ES X W (.Assign [.Subscript o ix pos'] e pos) (sAsg (gSetD fo fi) fe) :=
  PS.of (ps_dput (by omega) ho hi he hs) fun D σ H ⟨φ, h, ρ, sm, er, q⟩ => by
    refine PoS.atE er q sm fun z v h1 H1 φ1 e1 st1 sm1 rv q1 => ?_
    have er1 := er.step st1
    cases e2 : okO (fo ρ h1) with
    | none => unfold gSetD at q1; rw [e2] at q1; exact q1.elim
    | some p =>
      obtain ⟨ov, h2⟩ := p
      refine ⟨φ1, h1, ρ, sm1, er1, ?_⟩
      rw [okO_some e2]
      intro x H2 φ2 st2 sm2 rx
      cases e3 : okO (fi ρ h2) with
      | none => unfold gSetD at q1; rw [e2] at q1; dsimp only [Option.bind_some] at q1; rw [e3] at q1; exact q1.elim
      | some p3 =>
        obtain ⟨iv, h3⟩ := p3
        refine ⟨φ2, h2, ρ, sm2, er1.step st2, ?_⟩
        rw [okO_some e3]
        intro y H3 φ3 st3 sm3 ry
        cases e4 : setD ov iv v h3 with
        | none => unfold gSetD at q1; rw [e2] at q1; dsimp only [Option.bind_some] at q1; rw [e3] at q1; dsimp only [Option.bind_some] at q1; rw [e4] at q1; exact q1.elim
        | some h4 =>
          unfold gSetD at q1
          rw [e2] at q1
          dsimp only [Option.bind_some] at q1
          rw [e3] at q1
          dsimp only [Option.bind_some] at q1
          rw [e4] at q1
          obtain ⟨a, H4, e5, dp, st4, sm4⟩ := setD_ok sm3 (rx.step st3) ry ((rv.step st2).step st3) e4
          have st := (st2.trans st3).trans st4
          exact ⟨a, H4, e5, dp, q1 σ H4 φ3 st sm4 (er1.step st)⟩
end
/-! ### {k: v, ..} -/
abbrev Pv := En → Hh → Out (List (Key × Da))
def pNil : Pv := fun _ h => .ok [] h
def pCons (k v : Ev) (r : Pv) : Pv := fun ρ h => (k ρ h).bind fun x h1 => (v ρ h1).bind fun y h2 => (r ρ h2).bind fun l h3 => match keyOf x, fz y h3 with
  | some kk, some (d, h4) => .ok ((kk, d) :: l) h4
  | _, _ => .no
def eDct (p : Pv) : Ev := fun ρ h => (p ρ h).bind fun l h1 => if l.length ≤ 15 then .ok (.r h1.length) (h1 ++ [some (.dct (l.foldl (fun acc kv => putD acc kv.1 kv.2) []))]) else .no
end Rk

/-! Rk15: dict displays. -/
namespace Rk
open PySem PySem.Spec L2
def hdel (H : Hp) (p : Addr) : Hp := fun b => if b = p then none else H b
theorem del_ne {H : Hp} {p b : Addr} (h : b ≠ p) : hdel H p b = H b := if_neg h
theorem del_at {H : Hp} {p : Addr} : hdel H p p = none := if_pos rfl
theorem upd_del {H : Hp} {p : Addr} {u : HO} : upd (hdel H p) p u = upd H p u := by
  funext b
  by_cases e : b = p
  · subst e
    rw [upd_same, upd_same]
  · rw [upd_ne e, upd_ne e, del_ne e]
section
variable {K : PySem.W.Frag} {H : Hp} {p : Addr} {l : List (Key × V)}
theorem rd_del {a : Addr} {u : HO} (hp : H p = some (.dK l)) (hu : ∀ l', u ≠ .dK l') (h : Rd H a u) : Rd (hdel H p) a u := by
  have ne : a ≠ p := fun e => by
    subst e
    rcases h with h | ⟨o, h⟩
    · rw [hp] at h
      cases h
      exact hu _ rfl
    · rw [hp] at h
      cases h
  rcases h with h | ⟨o, h⟩
  · exact .inl (by rw [del_ne ne]; exact h)
  · exact .inr ⟨o, by rw [del_ne ne]; exact h⟩
mutual
theorem repDel {K : PySem.W.Frag} {H : Hp} {p : Addr} {M : Addr → Prop} (hp : H p = some (.dK [])) : ∀ {v : V} {d : Da}, Rep K H M v d → Rep K (hdel H p) M v d
  | _, _, .non => .non
  | _, _, .bl b => .bl b
  | _, _, .int i => .int i
  | _, _, .str x => .str x
  | _, _, .tup h n r => .tup (rd_del hp (fun _ z => by cases z) h) n (repsDel hp r)
  | _, _, .tupK h r => .tupK h (repsDel hp r)
  | _, _, .lst h n r => .lst (rd_del hp (fun _ z => by cases z) h) n (repsDel hp r)
  | _, _, .lstK h r => .lstK h (repsDel hp r)
  | _, _, .dct0 h n => .dct0 (by
    rw [del_ne fun e => by
      rw [e, hp] at h
      cases h]
    exact h) n
  | _, _, .dct h n ne r e => .dct (by
    rw [del_ne fun z => by
      rw [z, hp] at h
      cases h
      exact ne rfl]
    exact h) n ne (repsDel hp r) e
  | _, _, .fn x => .fn x
  | _, _, .plt h e n r => .plt (by
    rw [del_ne fun z => by
      rw [z, hp] at h
      cases h]
    exact h) e n (repsDel hp r)
theorem repsDel {K : PySem.W.Frag} {H : Hp} {p : Addr} {M : Addr → Prop} (hp : H p = some (.dK [])) : ∀ {v : List V} {d : List Da}, Reps K H M v d → Reps K (hdel H p) M v d
  | _, _, .nil => .nil
  | _, _, .cons r t => .cons (repDel hp r) (repsDel hp t)
end
theorem KvRep.del {M : Addr → Prop} (hp : H p = some (.dK [])) : ∀ {v : List (Key × V)} {d : List (Key × Da)}, KvRep K H M v d → KvRep K (hdel H p) M v d
  | _, _, .nil => .nil
  | _, _, .cons r t => .cons (repDel hp r) (KvRep.del hp t)
theorem Sim.del {φ : List Addr} {h : Hh} (sm : Sim K φ h H) (hp : H p = some (.dK [])) (nl : ¬ Live φ h p) : Sim K φ h (hdel H p) := by
  refine ⟨sm.len, sm.inj, fun i o e => ?_, fun i ns e => ?_⟩
  rotate_left
  · obtain ⟨a, as, e1, e2, e3, e4⟩ := sm.rf i ns e
    have ne : a ≠ p := fun z => nl (by rw [← z]; exact ⟨i, _, e1, e⟩)
    exact ⟨a, as, e1, by rw [del_ne ne]; exact e2, e3, e4⟩
  obtain ⟨a, e1, r⟩ := sm.ob i o e
  have ne : a ≠ p := fun z => nl (z ▸ ⟨i, o, e1, e⟩)
  refine ⟨a, e1, ?_⟩
  cases o with
  | lst ds =>
    obtain ⟨xs, h1, h2⟩ := r
    exact ⟨xs, by rw [del_ne ne]; exact h1, repsDel hp h2⟩
  | dct ds =>
    obtain ⟨xs, h1, h2⟩ := r
    exact ⟨xs, by rw [del_ne ne]; exact h1, h2.del hp⟩
  | rl ns =>
    obtain ⟨xs, h1⟩ := r
    exact ⟨xs, by rw [del_ne ne]; exact h1⟩
  | tbl x =>
    obtain ⟨c, ps, h1, h2, h3, h4⟩ := r
    refine ⟨c, ps, h1, by rw [del_ne ne]; exact h2, h3, fun pos cv z => (h4 pos cv z).imp fun c' w => ⟨w.1, ?_⟩⟩
    rw [del_ne fun y => by
      rw [y, hp] at w
      have w2 := Option.some.inj w.2
      unfold LamX.CodeO at w2
      cases w2]
    exact w.2
end
def PoP (K : PySem.W.Frag) (mg : Str → Option Value) (φ : List Addr) (h : Hh) (H : Hp) (o : Out (List (Key × Da))) (Q : List (V × V) → Hp → Prop) (E : XK) : Prop := match o with
  | .ok l h' => ∀ kvs H' φ', Step φ h H φ' h' H' → Sim K φ' h' H' → KvRep K H' (Live φ' h') kvs l → Q (kvs.map fun kv => (kV kv.1, kv.2)) H'
  | .ex c fs h' => ∀ cls dd H' φ', Step φ h H φ' h' H' → Sim K φ' h' H' → XRep K mg H' (Live φ' h') c fs cls dd → E cls dd H'
  | .no => False
theorem PoP.pull {K : PySem.W.Frag} {mg : Str → Option Value} {φ φ1 : List Addr} {h h1 : Hh} {H H1 : Hp} {o : Out (List (Key × Da))} {Q : List (V × V) → Hp → Prop} {E : XK} (s : Step φ h H φ1 h1 H1) (q : PoP K mg φ h H o Q E) : PoP K mg φ1 h1 H1 o Q E := by
  cases o with
  | ok l h' => exact fun kvs H' φ' st => q kvs H' φ' (s.trans st)
  | ex c fs h' => exact fun cls dd H' φ' st => q cls dd H' φ' (s.trans st)
  | no => exact q
def EP_ (X : Cx) (W : WX) (pos : Pos) (ks : List (Option Expr)) (vs : List Expr) (f : Pv) : Prop :=
  ∃ trs, PPs X pos ks vs trs ∧ ∀ σ H Q φ h ρ, Sim X.K φ h H → ERep X.K X.mg φ h H σ ρ → PoP X.K X.mg φ h H (f ρ h) Q (WE W σ) → tPairs trs σ H Q
section
variable {X : Cx} {W : WX} {pos : Pos} {ks : List (Option Expr)} {vs : List Expr} {k v : Expr} {fk fv : Ev} {fr : Pv}
theorem ep_nil : EP_ X W pos [] [] pNil := ⟨[], pps_nil, fun σ H Q φ h ρ sm er q => q [] H φ (Step.refl _ _ _) sm .nil⟩
theorem ep_cons (hk : EE X W k fk) (hv : EE X W v fv) (hr : EP_ X W pos ks vs fr) : EP_ X W pos (some k :: ks) (v :: vs) (pCons fk fv fr) := by
  obtain ⟨trs, P, R⟩ := hr
  refine ⟨_, pps_cons hk hv P, fun σ H Q φ h ρ sm er q => ⟨φ, h, ρ, sm, er, ?_⟩⟩
  unfold pCons at q
  revert q
  cases fk ρ h with
  | no => exact fun q => q
  | ex c fs h1 => exact fun q => q
  | ok x h1 =>
    intro q kx H1 φ1 st1 sm1 rx
    have q1 := PoP.pull st1 q
    refine ⟨φ1, h1, ρ, sm1, er.step st1, ?_⟩
    simp only [Out.bind_ok] at q1
    revert q1
    cases fv ρ h1 with
    | no => exact fun q => q
    | ex c fs h2 => exact fun q => q
    | ok y h2 =>
      intro q1 ky H2 φ2 st2 sm2 ry
      have q2 := PoP.pull st2 q1
      refine R σ H2 _ φ2 h2 ρ sm2 ((er.step st1).step st2) ?_
      simp only [Out.bind_ok] at q2
      revert q2
      cases fr ρ h2 with
      | no => exact fun q => q
      | ex c fs h3 => exact fun q => q
      | ok l h3 =>
        intro q2 kvs H3 φ3 st3 sm3 rl
        have q3 := PoP.pull st3 q2
        simp only [Out.bind_ok] at q3
        split at q3
        · rename_i kk d h4 ek ef
          obtain ⟨s1, s2, s3⟩ := fz_ok sm3 (ry.step st3) ef
          rw [keyOf_ok rx ek]
          exact q3 ((kk, ky) :: kvs) H3 φ3 s1 s2 (.cons s3 (rl.stay s1.st))
        · exact q3.elim
theorem merge_rep {K : PySem.W.Frag} {H : Hp} {M : Addr → Prop} : ∀ {vs : List (Key × V)} {ds : List (Key × Da)} {as : List (Key × V)} {bs : List (Key × Da)}, KvRep K H M vs ds → KvRep K H M as bs → KvRep K H M (mergeK as vs) (ds.foldl (fun acc kv => putD acc kv.1 kv.2) bs)
  | _, _, _, _, .nil, r => r
  | _, _, _, _, .cons (k := kk) q t, r => by
    have z := merge_rep t (KvRep.put (k := kk) q r)
    exact z
theorem ee_dct {fp : Pv} (h : EP_ X W pos ks vs fp) (h0 : ks ≠ [] := by exact nofun) (hall : ks.all (·.isSome) = true := by rfl) (hl : ks.length = vs.length := by rfl) (h15 : ks.length ≤ 15 := by decide) : EE X W (.Dict ks vs pos) (eDct fp) := by
  obtain ⟨trs, P, R⟩ := h
  refine PE.of (pe_disp P hall hl h0 h15) fun σ H Q ⟨φ, h, ρ, sm, er, q⟩ p hp => ?_
  obtain ⟨g1, g2⟩ := sm.grow (o := .dK []) hp
  have np := sm.fresh hp
  refine R σ _ _ φ h ρ g2 (er.step g1) ?_
  unfold eDct at q
  revert q
  cases fp ρ h with
  | no => exact fun q => q
  | ex c fs h1 => exact fun q cls dd H' φ' st => q cls dd H' φ' (g1.trans st)
  | ok l h1 =>
    intro q kvs H2 φ2 st2 sm2 rl
    simp only [Out.bind_ok] at q
    split at q
    · rename_i hlen
      have e2 : H2 p = some (.dK []) := (st2.st p _ upd_same nofun np).1
      have n2 : ¬ Live φ2 h1 p := (st2.st p _ upd_same nofun np).2
      refine ⟨e2, kvs, rfl, by rw [rl.length]; exact hlen, ?_⟩
      have smd := sm2.del e2 n2
      have std : Step φ h H φ2 h1 (hdel H2 p) := ⟨(g1.trans st2).pre, fun a o ea nt na => by
        have z := (g1.trans st2).st a o ea nt na
        have ne : a ≠ p := fun w => by rw [w, hp] at ea; cases ea
        exact ⟨by rw [del_ne ne]; exact z.1, z.2⟩⟩
      obtain ⟨s1, s2, s3⟩ := smd.new (ob := .dct (l.foldl (fun acc kv => putD acc kv.1 kv.2) [])) (o := .dK (mergeK [] kvs)) del_at fun M st => ⟨_, upd_same, merge_rep ((rl.del e2).stay st) .nil⟩
      rw [upd_del] at s1 s2 s3
      exact q _ _ _ (std.trans s1) s2 s3
    · exact q.elim
end
end Rk

/-! Rk16: slices of lists with a step. -/
namespace Rk
open PySem PySem.Spec L2 PyProof.Rows
def pickG {α : Type} (xs : List α) (lo hi st : Option Int) : List α :=
  (sliceRange (sliceBounds lo hi st xs.length).1 (sliceBounds lo hi st xs.length).2.1 (sliceBounds lo hi st xs.length).2.2).filterMap (xs[·]?)
theorem Vals.get_some : ∀ {xs : List V} {us : List Value}, Vals xs us → ∀ i : Nat, (xs[i]? = none ∧ us[i]? = none) ∨ ∃ x u, xs[i]? = some x ∧ us[i]? = some u ∧ RelV x u
  | _, _, .nil, i => .inl (by simp)
  | _, _, .cons r t, 0 => .inr ⟨_, _, rfl, rfl, r⟩
  | _, _, .cons r t, i + 1 => by simpa using Vals.get_some t i
theorem vals_pick {xs : List V} {us : List Value} (r : Vals xs us) : ∀ is : List Nat, Vals (is.filterMap (xs[·]?)) (is.filterMap (us[·]?))
  | [] => .nil
  | i :: is => by
    rcases Vals.get_some r i with ⟨e1, e2⟩ | ⟨x, u, e1, e2, q⟩
    · rw [List.filterMap_cons, List.filterMap_cons]
      simp only [e1, e2]
      exact vals_pick r is
    · rw [List.filterMap_cons, List.filterMap_cons]
      simp only [e1, e2]
      exact .cons q (vals_pick r is)
theorem reps_pick {K : PySem.W.Frag} {H : Hp} {M : Addr → Prop} {xs : List V} {ds : List Da} (r : Reps K H M xs ds) : ∀ is : List Nat, Reps K H M (is.filterMap (xs[·]?)) (is.filterMap (ds[·]?))
  | [] => .nil
  | i :: is => by
    have hl := r.length
    rw [List.filterMap_cons, List.filterMap_cons]
    cases e : ds[i]? with
    | none =>
      have : xs[i]? = none := by
        rw [List.getElem?_eq_none_iff] at e ⊢
        omega
      simp only [this]
      exact reps_pick r is
    | some d =>
      obtain ⟨v, e1, q⟩ := Reps.get r e
      simp only [e1]
      exact .cons q (reps_pick r is)
theorem Reps.pickG {K : PySem.W.Frag} {H : Hp} {M : Addr → Prop} {xs : List V} {ds : List Da} (r : Reps K H M xs ds) (lo hi st : Option Int) : Reps K H M (Rk.pickG xs lo hi st) (Rk.pickG ds lo hi st) := by
  unfold Rk.pickG
  rw [r.length]
  exact reps_pick r _
def tStep (K : PySem.W.Frag) (te : TE) (tl th ts : TO) : TE := fun σ H Q => te σ H fun x H1 => tl σ H1 fun lo H2 => th σ H2 fun hi H3 => ts σ H3 fun st H4 => ∃ a xs, x = .ref a ∧ SqL K H4 a xs ∧ st ≠ some 0 ∧ (pickG xs lo hi st).length ≤ sizeLine ∧ ∀ p, H4 p = none → Q (.ref p) (upd H4 p (.lst (pickG xs lo hi st)))
section
variable {X : Cx}
theorem pe_step {e : Expr} {lo hi : Option Expr} {st : Expr} {te : TE} {tl th ts : TO} {p3 pos : Pos} (he : PE X e te) (hl : PO X lo tl) (hh : PO X hi th) (hs : PO X (some st) ts) : PE X (.Subscript e (.Slice lo hi (some st) p3) pos) (tStep X.K te tl th ts) := by
  constructor
  intro pins s σ H Q I h
  refine Subscript_ (thn (he.run pins s σ H _ I h) ?_)
  rintro v s1 ⟨x, H1, I1, r1, q1⟩
  refine wpAny_Slice (thn (hl.run pins s1 σ H1 _ I1 q1) ?_)
  rintro vl s2 ⟨l, H2, I2, pl, q2⟩
  refine thn (hh.run pins s2 σ H2 _ I2 q2) ?_
  rintro vu s3 ⟨u, H3, I3, pu, q3⟩
  refine thn (hs.run pins s3 σ H3 _ I3 q3) ?_
  rintro vs s4 ⟨o, H4, I4, ps, a, xs, ex, hx, h0, hz, q⟩
  subst ex
  cases r1
  have I5 : Inv X pins σ H4 { s4 with heap := s4.heap.push { cls := .type "slice", data := .fields #[vl, vu, vs] } } := I4.kept (t' := s4.toks) fun b ob z => Heap.get?_push_of_some _ z
  obtain ⟨its, r, ht, hsz⟩ := I5.list hx
  have hlen := r.length
  refine tail_any (ops := [.ref a, .ref s4.heap.objs.size]) ht.isList.typeIs PySem.slot_list_getitem.lookup ?_ (by with_unfolding_all rfl)
  refine wpAny_getItem_list_slice ht.isList (Heap.IsSliceOf.new _ vl vu vs) pl pu ps h0 ?_ (by rw [List.size_toArray]; omega)
  have rv : Vals (pickG xs l u o) (slicePick its.toArray l u o).toList := by
    unfold slicePick pickG
    rw [List.size_toArray, hlen]
    simpa using vals_pick r _
  refine ⟨.ref _, _, I5.laid (t' := s4.toks) (o := .lst (pickG xs l u o)) (fun b ob z => Heap.get?_push_of_some _ z) (Nat.le_refl _) ?_, rfl, q _ (I5.hok.fresh (Nat.le_refl _))⟩
  refine ⟨hz, _, 0, rv, ?_⟩
  rw [Array.toArray_toList]
  exact Heap.get?_push_size _ rfl
end
def gSt (x : Vl) (lo hi st : Option Int) (h : Hh) : Option (Vl × Hh) := match asL x h with
  | some xs => if st ≠ some 0 ∧ (pickG xs lo hi st).length ≤ 16777216 then some (.r h.length, h ++ [some (.lst (pickG xs lo hi st))]) else none
  | none => none
def eSt (f : Ev) (lo hi st : Ov) : Ev := fun ρ h => (f ρ h).bind fun x h1 => (lo ρ h1).bind fun l h2 => (hi ρ h2).bind fun u h3 => (st ρ h3).bind fun t h4 => ofO (gSt x l u t h4)
section
variable {X : Cx} {W : WX} {a st : Expr} {fa : Ev} {pos p2 : Pos} {lo hi : Option Expr} {fl fh fs : Ov}
theorem ee_step (ha : EE X W a fa) (hl : EO X W lo fl) (hh : EO X W hi fh) (hs : EO X W (some st) fs) : EE X W (.Subscript a (.Slice lo hi (some st) p2) pos) (eSt fa fl fh fs) :=
  PE.of (pe_step ha hl hh hs) fun σ H Q ⟨φ, h, ρ, sm, er, q⟩ => ⟨φ, h, ρ, sm, er, PoX.goE q fun x v h1 H1 φ1 st1 sm1 rv q1 => ⟨φ1, h1, ρ, sm1, er.step st1, PoX.goO q1 fun l h2 H2 φ2 st2 sm2 q2 =>
    ⟨φ2, h2, ρ, sm2, (er.step st1).step st2, PoX.goO q2 fun u h3 H3 φ3 st3 sm3 q3 => ⟨φ3, h3, ρ, sm3, ((er.step st1).step st2).step st3, PoX.goO q3 fun t h4 H4 φ4 st4 sm4 q4 => by
      obtain ⟨z, h5, e5, k5⟩ := PoX.ofO q4
      unfold gSt at e5
      split at e5
      · rename_i xs ex
        split at e5
        · rename_i hc
          cases e5
          obtain ⟨p, zs, rfl, sq, rs⟩ := asL_ok sm4 (rv.step ((st2.trans st3).trans st4)) ex
          have rp := rs.pickG l u t
          refine ⟨p, zs, rfl, sq, hc.1, ?_, fun q hq => ?_⟩
          · rw [rp.length]
            exact fitB_le (fitB_ok hc.2)
          · obtain ⟨s1, s2, s3⟩ := new_list sm4 rp hq
            exact k5 _ _ _ s1 s2 s3
        · cases e5
      · cases e5⟩⟩⟩⟩
end
end Rk

/-! Rk17: a law's state in a dict. -/
namespace Rk
open PySem PySem.Spec L2
section
variable {a b c d v : Da}
def stD (a b c d : Da) : List (Key × Da) := [(.inr "cells", a), (.inr "left", b), (.inr "mixed", c), (.inr "at", d)]
end
section
variable {h : Hh} {n : Nat} {a b c d v : Da}
theorem dg_of {kds : List (Key × Da)} {x : Str} {w : Da} (e : h[n]? = some (some (.dct kds))) (ew : valD kds (.inr x) = some w) : gDG (.r n) (.d (.str x)) h = some (.d w, h) := by
  unfold gDG keyOf
  dsimp only
  rw [e]
  dsimp only
  rw [ew]
  rfl
theorem set_of {kds kds' : List (Key × Da)} {x : Str} (e : h[n]? = some (some (.dct kds))) (ep : putD kds (.inr x) v = kds') (hl : kds.length < 16777216) : setD (.r n) (.d (.str x)) (.d v) h = some (h.set n (some (.dct kds'))) := by
  unfold setD keyOf fz
  dsimp only
  rw [e]
  dsimp only
  rw [if_pos (fitB_ok (by omega)), ep]
end
end Rk
namespace Rk
open PySem PySem.Spec L2
end Rk
namespace Rk
open PySem PySem.Spec L2
section
variable {gd : Option (Nat × List Da)} {g : Gv} {tt : Tv} {fe : Ev} {ρ0 : En} {h : Hh}
end
end Rk
namespace Rk
open PySem PySem.Spec L2
end Rk

/-! Rk18: lists that are never changed: frozen at once. -/
namespace Rk
open PySem PySem.Spec L2
variable {mg : Str → Option Value}
def eFz (f : Ev) : Ev := fun ρ h => match f ρ h with
  | .ok v h1 => match fz v h1 with
    | some p => trunc h.length (.d p.1) p.2
    | none => .no
  | .ex c fs h1 => .ex c fs (h1.take h.length)
  | .no => .no
theorem ex_cut {K : PySem.W.Frag} {mg : Str → Option Value} {φ φ' : List Addr} {h h' : Hh} {H H' : Hp} {c : Str} {fs : List (Str × Da)} {cls : Value} {dd : Option Addr} (sm : Sim K φ h H) (st : Step φ h H φ' h' H') (sm' : Sim K φ' h' H') (xr : XRep K mg H' (Live φ' h') c fs cls dd) :
    Step φ h H φ (h'.take h.length) H' ∧ Sim K φ (h'.take h.length) H' ∧ XRep K mg H' (Live φ (h'.take h.length)) c fs cls dd := by
  obtain ⟨c1, c2⟩ := sm'.cut st.pre sm.len
  have st2 : Stay H' (Live φ' h') H' (Live φ (h'.take h.length)) := fun a u q _ nl => ⟨q, fun l => nl (c2 a l)⟩
  exact ⟨⟨List.prefix_refl _, st.st.trans st2⟩, c1, xr.cl, xr.no, fun z => by
    obtain ⟨a, vs, e1, e2, e3, e4⟩ := xr.yes z
    exact ⟨a, vs, e1, e2, fun l => e3 (c2 a l), e4.stay st2⟩⟩
section
variable {X : Cx} {W : WX} {e : Expr} {f : Ev}
theorem ee_fz (p : EE X W e f) : EE X W e (eFz f) :=
  PE.of p fun σ H Q ⟨φ, h, ρ, sm, er, q⟩ => ⟨φ, h, ρ, sm, er, by
    unfold eFz at q
    revert q
    cases f ρ h with
    | no => exact fun q => q
    | ex c fs h1 =>
      intro q cls dd H' φ' st sm' xr
      obtain ⟨a, b, c⟩ := ex_cut sm st sm' xr
      exact q cls dd H' φ a b c
    | ok v h1 =>
      intro q x H' φ' st sm' rv
      dsimp only at q
      split at q
      · rename_i p e
        obtain ⟨d, h2⟩ := p
        obtain ⟨s1, s2, s3⟩ := fz_ok sm' rv e
        exact trunc_ok (v := .d d) sm (st.trans s1) s2 s3 q
      · exact q.elim⟩
end
/-! ### a statement that stores a list -/
section
variable {K : PySem.W.Frag} {φ φ' : List Addr} {h h' : Hh} {H H' : Hp} {σ σ' : L2.St} {ρ ρ' : En}
/-- which objects a value tells of -/
def RefB (k : Nat) : Vl → Prop
  | .r m => m < k
  | .f D => ∀ j m : Nat, D.ρ[j]? = some (some (Vl0.r m)) → m < k
  | _ => True
theorem VRep.refB {v : V} {x : Vl} (r : VRep K mg φ h H v x) : RefB φ.length x := by
  cases x with
  | d z => trivial
  | x c fs => trivial
  | r m =>
    obtain ⟨a, ea, _⟩ := r
    exact (List.getElem?_eq_some_iff.mp ea).1
  | f D =>
    obtain ⟨_, _, _, _, e5⟩ := r
    intro j m e
    obtain ⟨x, _, a, ea, _⟩ := e5 j _ e
    exact (List.getElem?_eq_some_iff.mp ea).1
theorem ERep.refs (er : ERep K mg φ h H σ ρ) (j : Nat) (v : Vl) (e : ρ[j]? = some (some v)) : RefB φ.length v := by
  obtain ⟨x, _, r⟩ := er.at_ j _ e
  exact r.refB
theorem ERep.cut {n : Nat} (pre : φ <+: φ') (c2 : ∀ a, Live φ (h'.take n) a → Live φ' h' a) (er : ERep K mg φ' h' H' σ' ρ') (hr : ∀ (j : Nat) (v : Vl), ρ'[j]? = some (some v) → RefB φ.length v) : ERep K mg φ (h'.take n) H' σ' ρ' := by
  refine ⟨er.len, fun i v e => ?_⟩
  obtain ⟨x, e1, r⟩ := er.at_ i v e
  refine ⟨x, e1, ?_⟩
  cases v with
  | d z => exact Rep.stay (M := Live φ' h') (fun a u q _ nl => ⟨q, fun l => nl (c2 a l)⟩) r
  | x c fs =>
    obtain ⟨a, cls, dd, rfl, e1, e2, xr⟩ := r
    exact ⟨a, cls, dd, rfl, e1, fun l => e2 (c2 a l), xr.stay (M := Live φ' h') (fun a u q _ nl => ⟨q, fun l => nl (c2 a l)⟩)⟩
  | r m =>
    obtain ⟨a, ea, rfl⟩ := r
    have hm : m < φ.length := hr i _ e
    obtain ⟨t, rfl⟩ := pre
    rw [List.getElem?_append_left hm] at ea
    exact ⟨a, ea, rfl⟩
  | f D =>
    obtain ⟨f1, f2, f3, f4, f5⟩ := r
    have hm : ∀ j m : Nat, D.ρ[j]? = some (some (Vl0.r m)) → m < φ.length := hr i _ e
    refine ⟨f1, f2, fun l => f3 (c2 _ l), f4, fun j w z => ?_⟩
    obtain ⟨x, g1, g2⟩ := f5 j w z
    refine ⟨x, g1, ?_⟩
    cases w with
    | d z => exact Rep.stay (M := Live φ' h') (fun a u q _ nl => ⟨q, fun l => nl (c2 a l)⟩) g2
    | r m =>
      have hm := hm j m z
      obtain ⟨a, ea, rfl⟩ := g2
      obtain ⟨t, rfl⟩ := pre
      rw [List.getElem?_append_left hm] at ea
      exact ⟨a, ea, rfl⟩
end
section
variable {X : Cx} {W : WX} {s : Stmt} {f : Ev}
theorem es_fz {i : Nat} (p : ES X W s (sSet i f)) : ES X W s (sSet i (eFz f)) :=
  PS.of p fun D σ H ⟨φ, h, ρ, sm, er, q⟩ => ⟨φ, h, ρ, sm, er, by
    unfold sSet eFz at q
    unfold sSet
    revert q
    cases f ρ h with
    | no => exact fun q => q
    | ex c fs h1 =>
      intro q cls dd σ' H' φ' st sm' er' xr
      obtain ⟨a, b, c⟩ := ex_cut sm st sm' xr
      exact q cls dd σ' H' φ a b (er'.cut st.pre (sm'.cut st.pre sm.len).2 er.refs) c
    | ok v h1 =>
      intro q σ' H' φ' st sm' er'
      dsimp only at q
      split at q
      · rename_i p e
        obtain ⟨d, h2⟩ := p
        dsimp only [trunc] at q
        by_cases hi : i < ρ.length
        · obtain ⟨x, e1, rv⟩ := er'.at_ i v (by rw [List.getElem?_set_self hi])
          obtain ⟨s1, s2, s3⟩ := fz_ok sm' rv e
          have er2 := er'.step s1
          have st2 := st.trans s1
          obtain ⟨c1, c2⟩ := s2.cut st2.pre sm.len
          have st3 : Stay H' (Live φ' h2) H' (Live φ (h2.take h.length)) := fun a u q _ nl => ⟨q, fun l => nl (c2 a l)⟩
          have er3 : ERep X.K X.mg φ' h2 H' σ' (ρ.set i (some (.d d))) := by
            refine ⟨by rw [er2.len, List.length_set, List.length_set], fun j w e2 => ?_⟩
            by_cases hj : i = j
            · subst hj
              rw [List.getElem?_set_self hi] at e2
              have e3 := Option.some.inj (Option.some.inj e2)
              subst e3
              exact ⟨x, e1, s3⟩
            · rw [List.getElem?_set_ne hj] at e2
              exact er2.at_ j w (by rw [List.getElem?_set_ne hj]; exact e2)
          refine q σ' H' φ ⟨List.prefix_refl _, st2.st.trans st3⟩ c1 (er3.cut st2.pre c2 fun j m e2 => ?_)
          by_cases hj : i = j
          · subst hj
            rw [List.getElem?_set_self hi] at e2
            cases e2
            trivial
          · rw [List.getElem?_set_ne hj] at e2
            exact er.refs j m e2
        · have e0 : ∀ w : Vl, ρ.set i (some w) = ρ := fun w => List.set_eq_of_length_le (by omega)
          rw [e0] at er'
          have hf : ∃ s1 : Step φ' h1 H' φ' h2 H', Sim X.K φ' h2 H' := by
            unfold fz at e
            split at e
            · cases e
              exact ⟨Step.refl _ _ _, sm'⟩
            · split at e
              · cases e
                rename_i n h xs hn
                obtain ⟨a, ea, _⟩ := sm'.ob _ _ hn
                exact ⟨(sm'.freeze hn ea).1, (sm'.freeze hn ea).2.1⟩
              · cases e
            · cases e
          obtain ⟨s1, s2⟩ := hf
          have st2 := st.trans s1
          obtain ⟨c1, c2⟩ := s2.cut st2.pre sm.len
          have st3 : Stay H' (Live φ' h2) H' (Live φ (h2.take h.length)) := fun a u q _ nl => ⟨q, fun l => nl (c2 a l)⟩
          refine q σ' H' φ ⟨List.prefix_refl _, st2.st.trans st3⟩ c1 ?_
          rw [e0]
          exact (er'.step s1).cut st2.pre c2 er.refs
      · exact q.elim⟩
end
end Rk

/-! Rk19: what is wished behind an outcome, rule by rule. -/
namespace Rk
open PySem PySem.Spec L2
abbrev XP := Str → List (Str × Da) → Hh → Prop
def Wp0 {α : Type} (o : Out α) (Q : α → Hh → Prop) (E : XP) : Prop := match o with
  | .ok a h => Q a h
  | .ex c fs h => E c fs h
  | .no => False
structure Wp {α : Type} (o : Out α) (Q : α → Hh → Prop) (E : XP) : Prop where
  w : Wp0 o Q E
abbrev NX : XP := fun _ _ _ => False
structure Ds where
  rt : Vl → Hh → Prop
  bk : En → Hh → Prop
  ct : En → Hh → Prop
  ex : Str → List (Str × Da) → En → Hh → Prop
def Ws0 (s : So) (N : En → Hh → Prop) (D : Ds) : Prop := match s with
  | .nx ρ h => N ρ h
  | .rt v h => D.rt v h
  | .bk ρ h => D.bk ρ h
  | .ct ρ h => D.ct ρ h
  | .ex c fs ρ h => D.ex c fs ρ h
  | .no => False
structure Ws (s : So) (N : En → Hh → Prop) (D : Ds) : Prop where
  w : Ws0 s N D
def Wo {α : Type} (o : Option (α × Hh)) (Q : α → Hh → Prop) : Prop := match o with
  | some p => Q p.1 p.2
  | none => False
def BrK (b : Bool) (A B : Prop) : Prop := if b = true then A else B
def SetK (i : Nat) (ρ : En) (v : Vl) (h : Hh) (N : En → Hh → Prop) : Prop := N (ρ.set i (some v)) h
def TupK (vs : List Vl) (h : Hh) (Q : Vl → Hh → Prop) : Prop := ∃ ds h2, fzs vs h = some (ds, h2) ∧ fitB ds.length = true ∧ Q (.d (.tuple ds)) h2
def LstK (vs : List Vl) (h : Hh) (Q : Vl → Hh → Prop) : Prop := ∃ ds h2, fzs vs h = some (ds, h2) ∧ fitB ds.length = true ∧ Q (.r h2.length) (h2 ++ [some (.lst ds)])
def FzK (v : Vl) (h : Hh) (n : Nat) (Q : Vl → Hh → Prop) : Prop := ∃ d h2, fz v h = some (d, h2) ∧ Q (.d d) (h2.take n)
def TrK (v : Vl) (h : Hh) (K : Bool → Hh → Prop) : Prop := ∃ b, v = .d (.bool b) ∧ K b h
def RetK (n : Nat) (Q : Vl → Hh → Prop) (v : Vl) (h : Hh) : Prop := ∃ v' h', trunc n v h = .ok v' h' ∧ Q v' h'
section
variable {α β : Type} {o : Out α} {Q : α → Hh → Prop} {E : XP} {N : En → Hh → Prop} {D : Ds} {ρ : En} {h h1 : Hh} {b : Bool} {A B : Prop} {K : Bool → Hh → Prop}
theorem wp_eq {a : α} (e : o = .ok a h1) (q : Q a h1) : Wp o Q E := by rw [e]; exact ⟨q⟩
theorem wp_out (w : Wp o Q NX) : ∃ a h1, o = .ok a h1 ∧ Q a h1 := by
  cases o with
  | ok a h1 => exact ⟨a, h1, rfl, w.w⟩
  | ex c fs h1 => exact w.w.elim
  | no => exact w.w.elim
theorem Wp.mono {Q' : α → Hh → Prop} {E' : XP} (w : Wp o Q' E') (k : ∀ a h1, Q' a h1 → Q a h1) (k2 : ∀ c fs h1, E' c fs h1 → E c fs h1) : Wp o Q E := by
  cases o with
  | ok a h1 => exact ⟨k a h1 w.w⟩
  | ex c fs h1 => exact ⟨k2 c fs h1 w.w⟩
  | no => exact w.w.elim
theorem wp_bind {o : Out β} {k : β → Hh → Out α} (w : Wp o (fun a h1 => Wp (k a h1) Q E) E) : Wp (o.bind k) Q E := by
  cases o with
  | ok a h1 => exact w.w
  | ex c fs h1 => exact ⟨w.w⟩
  | no => exact w.w.elim
theorem ws_then {k : α → Hh → So} (w : Wp o (fun a h1 => Ws (k a h1) N D) (fun c fs h1 => D.ex c fs ρ h1)) : Ws (Out.then ρ o k) N D := by
  cases o with
  | ok a h1 => exact w.w
  | ex c fs h1 => exact ⟨w.w⟩
  | no => exact w.w.elim
theorem brk_t (a : A) : BrK true A B := a
theorem brk_f (a : B) : BrK false A B := a
theorem brk_not (w : BrK b B A) : BrK (!b) A B := by cases b <;> exact w
theorem brk_dec {p : Prop} [Decidable p] (ha : p → A) (hb : ¬ p → B) : BrK (decide p) A B := by
  by_cases z : p
  · rw [decide_eq_true z]; exact ha z
  · rw [decide_eq_false z]; exact hb z
theorem brk_dec1 {p : Prop} [Decidable p] (z : p) (ha : A) : BrK (decide p) A B := by
  rw [decide_eq_true z]; exact ha
theorem brk_dec0 {p : Prop} [Decidable p] (z : ¬ p) (hb : B) : BrK (decide p) A B := by
  rw [decide_eq_false z]; exact hb
theorem brk_and {c : Bool} (w : BrK b (BrK c A B) B) : BrK (b && c) A B := by cases b <;> cases c <;> exact w
theorem trk (q : K b h) : TrK (.d (.bool b)) h K := ⟨b, rfl, q⟩
end
section
variable {Q : Vl → Hh → Prop} {E : XP} {ρ : En} {h : Hh} {a b c : Ev} {g g' : G2} {K : Bool → Hh → Prop} {t u : Tv} {m : Fn} {as : Av} {QL : List Vl → Hh → Prop}
theorem wp_D {d : Da} (q : Q (.d d) h) : Wp (eD d ρ h) Q E := ⟨q⟩
theorem wo_of {o : Option (Vl × Hh)} (w : Wo o Q) : Wp (ofO o) Q E := by
  cases o with
  | some p => exact ⟨w⟩
  | none => exact w.elim
theorem wp_op (w : Wp (a ρ h) (fun x h1 => Wp (b ρ h1) (fun y h2 => Wo (g x y h2) Q) E) E) : Wp (eOp g a b ρ h) Q E :=
  wp_bind (w.mono (fun _ _ w => wp_bind (w.mono (fun _ _ w => wo_of w) fun _ _ _ z => z)) fun _ _ _ z => z)
theorem wp_T (w : Wp (a ρ h) (fun v h1 => TrK v h1 K) E) : Wp (eT a ρ h) K E := wp_bind (w.mono (fun _ _ ⟨b, e, q⟩ => by rw [e]; exact ⟨q⟩) fun _ _ _ z => z)
theorem wp_if (w : Wp (t ρ h) (fun k h1 => BrK k (Wp (a ρ h1) Q E) (Wp (b ρ h1) Q E)) E) : Wp (eIf t a b ρ h) Q E :=
  wp_bind (w.mono (fun k _ w => by cases k <;> exact w) fun _ _ _ z => z)
theorem wp_tand (w : Wp (t ρ h) (fun k h1 => BrK k (Wp (u ρ h1) K E) (K false h1)) E) : Wp (tvAnd t u ρ h) K E :=
  wp_bind (w.mono (fun k _ w => by cases k <;> first | exact w | exact ⟨w⟩) fun _ _ _ z => z)
theorem wp_tor (w : Wp (t ρ h) (fun k h1 => BrK k (K true h1) (Wp (u ρ h1) K E)) E) : Wp (tvOr t u ρ h) K E :=
  wp_bind (w.mono (fun k _ w => by cases k <;> first | exact w | exact ⟨w⟩) fun _ _ _ z => z)
theorem wp_tnot (w : Wp (t ρ h) (fun k h1 => K (!k) h1) E) : Wp (tvNot t ρ h) K E := wp_bind (w.mono (fun _ _ w => ⟨w⟩) fun _ _ _ z => z)
theorem wp_and (w : Wp (a ρ h) (fun v h1 => TrK v h1 fun k h2 => BrK k (Wp (b ρ h2) Q E) (Q (.d (.bool false)) h2)) E) : Wp (eAnd a b ρ h) Q E :=
  wp_bind (wp_T (w.mono (fun _ _ ⟨k, e, q⟩ => ⟨k, e, by cases k <;> first | exact q | exact ⟨q⟩⟩) fun _ _ _ z => z))
theorem wp_or (w : Wp (a ρ h) (fun v h1 => TrK v h1 fun k h2 => BrK k (Q (.d (.bool true)) h2) (Wp (b ρ h2) Q E)) E) : Wp (eOr a b ρ h) Q E :=
  wp_bind (wp_T (w.mono (fun _ _ ⟨k, e, q⟩ => ⟨k, e, by cases k <;> first | exact q | exact ⟨q⟩⟩) fun _ _ _ z => z))
theorem wp_not (w : Wp (a ρ h) (fun v h1 => TrK v h1 fun k h2 => Q (.d (.bool (!k))) h2) E) : Wp (eNot a ρ h) Q E :=
  wp_bind (wp_T (w.mono (fun _ _ ⟨k, e, q⟩ => ⟨k, e, ⟨q⟩⟩) fun _ _ _ z => z))
theorem wp_neg (w : Wp (a ρ h) (fun v h1 => ∃ i, v = .d (.int i) ∧ Q (.d (.int (-i))) h1) E) : Wp (eNeg a ρ h) Q E :=
  wp_bind (w.mono (fun _ _ ⟨i, e, q⟩ => by rw [e]; exact ⟨q⟩) fun _ _ _ z => z)
theorem wp_chain (w : Wp (a ρ h) (fun x h1 => Wp (b ρ h1) (fun y h2 => Wo (g x y h2) fun v h3 => TrK v h3 fun k h4 => BrK k (Wp (c ρ h4) (fun z h5 => Wo (g' y z h5) Q) E) (Q (.d (.bool false)) h4)) E) E) : Wp (eChain g g' a b c ρ h) Q E := by
  refine wp_bind (w.mono (fun x h1 w => wp_bind (w.mono (fun y h2 w => wp_bind (wo_of ?_)) fun _ _ _ z => z)) fun _ _ _ z => z)
  cases e : g x y h2 with
  | none => rw [e] at w; exact w
  | some p =>
    rw [e] at w
    obtain ⟨k, e2, w⟩ := w
    show Wp _ _ _
    rw [e2]
    cases k with
    | false => exact ⟨w⟩
    | true => exact wp_bind (Wp.mono w (fun _ _ z => wo_of z) fun _ _ _ z => z)
theorem wp_nil (w : QL [] h) : Wp (aNil ρ h) QL E := ⟨w⟩
theorem wp_cons (w : Wp (a ρ h) (fun x h1 => Wp (as ρ h1) (fun xs h2 => QL (x :: xs) h2) E) E) : Wp (aCons a as ρ h) QL E :=
  wp_bind (w.mono (fun _ _ w => wp_bind (w.mono (fun _ _ w => ⟨w⟩) fun _ _ _ z => z)) fun _ _ _ z => z)
theorem wp_tup (w : Wp (as ρ h) (fun vs h1 => TupK vs h1 Q) E) : Wp (eTup as ρ h) Q E :=
  wp_bind (w.mono (fun _ _ ⟨ds, h2, e, f, q⟩ => by rw [e]; dsimp only; rw [if_pos f]; exact ⟨q⟩) fun _ _ _ z => z)
theorem wp_lst (w : Wp (as ρ h) (fun vs h1 => LstK vs h1 Q) E) : Wp (eLst as ρ h) Q E :=
  wp_bind (w.mono (fun _ _ ⟨ds, h2, e, f, q⟩ => by rw [e]; dsimp only; rw [if_pos f]; exact ⟨q⟩) fun _ _ _ z => z)
theorem wp_call (w : Wp (as ρ h) (fun vs h1 => Wp (m vs h1) Q E) E) : Wp (eCall m as ρ h) Q E := wp_bind w
theorem wp_blt {g : GC} (w : Wp (as ρ h) (fun vs h1 => Wo (g vs h1) Q) E) : Wp (eBlt g as ρ h) Q E := wp_bind (w.mono (fun _ _ w => wo_of w) fun _ _ _ z => z)
theorem wp_isi {T : Ty} (w : Wp (a ρ h) (fun v h1 => ∃ k, isTy T v h1 = some k ∧ Q (.d (.bool k)) h1) E) : Wp (eIsi T a ρ h) Q E :=
  wp_bind (w.mono (fun _ _ ⟨k, e, q⟩ => by rw [e]; exact ⟨q⟩) fun _ _ _ z => z)
theorem wp_fz (w : Wp (a ρ h) (fun v h1 => FzK v h1 h.length Q) (fun c fs h1 => E c fs (h1.take h.length))) : Wp (eFz a ρ h) Q E := by
  unfold eFz
  revert w
  cases a ρ h with
  | no => exact fun w => w.w.elim
  | ex c fs h1 => exact fun w => ⟨w.w⟩
  | ok v h1 =>
    intro w
    obtain ⟨d, h2, e, q⟩ := w.w
    dsimp only
    rw [e]
    exact ⟨q⟩
theorem wp_fzL (w : Wp (eLst as ρ h) (fun v h1 => FzK v h1 h.length Q) (fun c fs h1 => E c fs (h1.take h.length))) : Wp (eFz (eLst as) ρ h) Q E := wp_fz w
theorem wp_fzO (w : Wp (eOp g a b ρ h) (fun v h1 => FzK v h1 h.length Q) (fun c fs h1 => E c fs (h1.take h.length))) : Wp (eFz (eOp g a b) ρ h) Q E := wp_fz w
theorem wp_fzB {g : GC} (w : Wp (eBlt g as ρ h) (fun v h1 => FzK v h1 h.length Q) (fun c fs h1 => E c fs (h1.take h.length))) : Wp (eFz (eBlt g as) ρ h) Q E := wp_fz w
theorem wp_fzS {lo hi : Ov} (w : Wp (eSl a lo hi ρ h) (fun v h1 => FzK v h1 h.length Q) (fun c fs h1 => E c fs (h1.take h.length))) : Wp (eFz (eSl a lo hi) ρ h) Q E := wp_fz w
theorem fzk_d {x : Da} {n : Nat} (e : h.length = n) (q : Q (.d x) h) : FzK (.d x) h n Q := ⟨x, h, rfl, by rw [← e, List.take_length]; exact q⟩
theorem fzk_end {ds : List Da} {n : Nat} (e : h.length = n) (q : Q (.d (.list ds)) h) : FzK (.r h.length) (h ++ [some (.lst ds)]) n Q :=
  ⟨.list ds, (h ++ [some (Ob.lst ds)]).set h.length none, by simp [fz], by
    subst e
    simp
    exact q⟩
theorem wp_slice {lo hi : Ov} (w : Wp (a ρ h) (fun x h1 => Wp (lo ρ h1) (fun l h2 => Wp (hi ρ h2) (fun u h3 => Wo (gSl x l u h3) Q) E) E) E) : Wp (eSl a lo hi ρ h) Q E :=
  wp_bind (w.mono (fun _ _ w => wp_bind (w.mono (fun _ _ w => wp_bind (w.mono (fun _ _ w => wo_of w) fun _ _ _ z => z)) fun _ _ _ z => z)) fun _ _ _ z => z)
theorem wp_oN {QO : Option Int → Hh → Prop} (w : QO none h) : Wp (oNone ρ h) QO E := ⟨w⟩
theorem wp_oS {QO : Option Int → Hh → Prop} (w : Wp (a ρ h) (fun v h1 => ∃ i, v = .d (.int i) ∧ QO (some i) h1) E) : Wp (oSome a ρ h) QO E :=
  wp_bind (w.mono (fun _ _ ⟨i, e, q⟩ => by rw [e]; exact ⟨q⟩) fun _ _ _ z => z)
theorem wp_step {lo hi st : Ov} (w : Wp (a ρ h) (fun x h1 => Wp (lo ρ h1) (fun l h2 => Wp (hi ρ h2) (fun u h3 => Wp (st ρ h3) (fun s h4 => Wo (gSt x l u s h4) Q) E) E) E) E) : Wp (eSt a lo hi st ρ h) Q E :=
  wp_bind (w.mono (fun _ _ w => wp_bind (w.mono (fun _ _ w => wp_bind (w.mono (fun _ _ w => wp_bind (w.mono (fun _ _ w => wo_of w) fun _ _ _ z => z)) fun _ _ _ z => z)) fun _ _ _ z => z)) fun _ _ _ z => z)
end
/-! ### statements -/
def ForK (m : Itm) (g : Gv) (b : Sv) (ρ : En) (h : Hh) (N : En → Hh → Prop) (D : Ds) : Prop := Ws (forL m.gd g b m.ds ρ h) N D
def GvK (o : Option (En × Hh)) (N : En → Hh → Prop) : Prop := Wo o N
section
variable {Q : Vl → Hh → Prop} {E : XP} {ρ : En} {h : Hh} {f : Ev} {N : En → Hh → Prop} {R : Vl → Hh → Prop} {B C : En → Hh → Prop} {X : Str → List (Str × Da) → En → Hh → Prop} {s u : Sv} {t : Tv} {g : Gv} {as : Av}
theorem ws_seq (w : Ws (s ρ h) (fun ρ1 h1 => Ws (u ρ1 h1) N ⟨R, B, C, X⟩) ⟨R, B, C, X⟩) : Ws (sSeq s u ρ h) N ⟨R, B, C, X⟩ := by
  unfold sSeq
  revert w
  cases s ρ h with
  | nx ρ1 h1 => exact fun w => w.w
  | no => exact fun w => w.w.elim
  | _ => exact fun w => ⟨w.w⟩
theorem ws_set {i : Nat} (w : Wp (f ρ h) (fun v h1 => SetK i ρ v h1 N) (fun c fs h1 => X c fs ρ h1)) : Ws (sSet i f ρ h) N ⟨R, B, C, X⟩ := ws_then (w.mono (fun _ _ q => ⟨q⟩) fun _ _ _ z => z)
theorem ws_ret (w : Wp (f ρ h) R (fun c fs h1 => X c fs ρ h1)) : Ws (sRet f ρ h) N ⟨R, B, C, X⟩ := ws_then (w.mono (fun _ _ q => ⟨q⟩) fun _ _ _ z => z)
theorem ws_expr (w : Wp (f ρ h) (fun _ h1 => N ρ h1) (fun c fs h1 => X c fs ρ h1)) : Ws (sExpr f ρ h) N ⟨R, B, C, X⟩ := ws_then (w.mono (fun _ _ q => ⟨q⟩) fun _ _ _ z => z)
theorem ws_if (w : Wp (t ρ h) (fun k h1 => BrK k (Ws (s ρ h1) N ⟨R, B, C, X⟩) (Ws (u ρ h1) N ⟨R, B, C, X⟩)) (fun c fs h1 => X c fs ρ h1)) : Ws (sIf t s u ρ h) N ⟨R, B, C, X⟩ :=
  ws_then (w.mono (fun k _ w => by cases k <;> exact w) fun _ _ _ z => z)
theorem ws_nil (w : N ρ h) : Ws (sNil ρ h) N ⟨R, B, C, X⟩ := ⟨w⟩
theorem ws_par {i j : Nat} (w : Wp (as ρ h) (fun vs h1 => ∃ v v', vs = [v, v'] ∧ SetK i ρ v h1 fun ρ1 h1 => SetK j ρ1 v' h1 N) (fun c fs h1 => X c fs ρ h1)) : Ws (sPar i j as ρ h) N ⟨R, B, C, X⟩ :=
  ws_then (w.mono (fun _ _ ⟨v, v', e, q⟩ => by rw [e]; exact ⟨q⟩) fun _ _ _ z => z)
theorem ws_asg (w : Wp (f ρ h) (fun v h1 => GvK (g v ρ h1) N) (fun c fs h1 => X c fs ρ h1)) : Ws (sAsg g f ρ h) N ⟨R, B, C, X⟩ :=
  ws_then (w.mono (fun v h1 w => by
    unfold GvK at w
    revert w
    cases g v ρ h1 with
    | none => exact fun w => w.elim
    | some p => exact fun w => ⟨w⟩) fun _ _ _ z => z)
theorem ws_for {i : Iv} (w : Wp (i ρ h) (fun m h1 => ForK m g s ρ h1 N ⟨R, B, C, X⟩) (fun c fs h1 => X c fs ρ h1)) : Ws (sFor i g s ρ h) N ⟨R, B, C, X⟩ := ws_then w
theorem gk_n {i : Nat} {v : Vl} (w : SetK i ρ v h N) : GvK (gN i v ρ h) N := w
theorem gk_setD {o ix : Ev} {v : Vl} (w : Wp (o ρ h) (fun x h1 => Wp (ix ρ h1) (fun y h2 => ∃ h3, setD x y v h2 = some h3 ∧ N ρ h3) NX) NX) : GvK (gSetD o ix v ρ h) N := by
  obtain ⟨x, h1, e1, w⟩ := wp_out w
  obtain ⟨y, h2, e2, h3, e3, q⟩ := wp_out w
  unfold GvK gSetD
  rw [e1]
  simp only [okO, Option.bind_some]
  rw [e2]
  simp only [okO, Option.bind_some]
  rw [e3]
  exact q
theorem gk_setL {o ix : Ev} {v : Vl} (w : Wp (o ρ h) (fun x h1 => Wp (ix ρ h1) (fun y h2 => ∃ h3, setL x y v h2 = some h3 ∧ N ρ h3) NX) NX) : GvK (gSetL o ix v ρ h) N := by
  obtain ⟨x, h1, e1, w⟩ := wp_out w
  obtain ⟨y, h2, e2, h3, e3, q⟩ := wp_out w
  unfold GvK gSetL
  rw [e1]
  simp only [okO, Option.bind_some]
  rw [e2]
  simp only [okO, Option.bind_some]
  rw [e3]
  exact q
theorem gk_tup2 {i j : Nat} {d0 d1 : Da} (w : SetK i ρ (.d d0) h fun ρ1 h1 => SetK j ρ1 (.d d1) h1 N) : GvK (gTupT 2 (gsCons (gN i) (gsCons (gN j) gsNil)) (.d (.tuple [d0, d1])) ρ h) N := w
theorem forK_nil (w : N ρ h) : ForK ⟨[], none⟩ g s ρ h N ⟨R, B, C, X⟩ := by
  unfold ForK
  show Ws (forL none g s [] ρ h) N ⟨R, B, C, X⟩
  unfold forL
  rw [if_pos (show gdOk none h from trivial)]
  exact ⟨w⟩
theorem forK_gen {gd : Option (Nat × List Da)} {d : Da} {ds : List Da} (hg : gdOk gd h) (w : GvK (g (.d d) ρ h) fun ρ1 h1 => Ws (s ρ1 h1) (fun ρ2 h2 => ForK ⟨ds, gd⟩ g s ρ2 h2 N ⟨R, B, C, X⟩) ⟨R, N, fun ρ2 h2 => ForK ⟨ds, gd⟩ g s ρ2 h2 N ⟨R, B, C, X⟩, X⟩) : ForK ⟨d :: ds, gd⟩ g s ρ h N ⟨R, B, C, X⟩ := by
  unfold ForK
  show Ws (forL gd g s (d :: ds) ρ h) N ⟨R, B, C, X⟩
  unfold forL
  rw [if_pos hg]
  unfold GvK at w
  revert w
  cases g (.d d) ρ h with
  | none => exact fun w => w.elim
  | some p =>
    obtain ⟨ρ1, h1⟩ := p
    show Ws (s ρ1 h1) _ _ → Ws (match s ρ1 h1 with
      | .nx ρ' h' => forL gd g s ds ρ' h'
      | .ct ρ' h' => forL gd g s ds ρ' h'
      | .bk ρ' h' => .nx ρ' h'
      | r => r) N ⟨R, B, C, X⟩
    cases s ρ1 h1 with
    | nx ρ2 h2 => exact fun w => w.w
    | ct ρ2 h2 => exact fun w => w.w
    | no => exact fun w => w.w.elim
    | _ => exact fun w => ⟨w.w⟩
theorem forK_cons {d : Da} {ds : List Da} (w : GvK (g (.d d) ρ h) fun ρ1 h1 => Ws (s ρ1 h1) (fun ρ2 h2 => ForK ⟨ds, none⟩ g s ρ2 h2 N ⟨R, B, C, X⟩) ⟨R, N, fun ρ2 h2 => ForK ⟨ds, none⟩ g s ρ2 h2 N ⟨R, B, C, X⟩, X⟩) : ForK ⟨d :: ds, none⟩ g s ρ h N ⟨R, B, C, X⟩ := forK_gen trivial w
/-- a loop by what stands ahead of each turn -/
theorem forK_inv {ds : List Da} (I : Nat → En → Hh → Prop) (h0 : I 0 ρ h)
    (st : ∀ (k : Nat) (d : Da) (ρ1 : En) (h1 : Hh), ds[k]? = some d → I k ρ1 h1 → GvK (g (.d d) ρ1 h1) fun ρ2 h2 => Ws (s ρ2 h2) (I (k + 1)) ⟨R, N, I (k + 1), X⟩)
    (fin : ∀ ρ1 h1, I ds.length ρ1 h1 → N ρ1 h1) : ForK ⟨ds, none⟩ g s ρ h N ⟨R, B, C, X⟩ := by
  have go : ∀ (n k : Nat) (ρ : En) (h : Hh), n = ds.length - k → k ≤ ds.length → I k ρ h → ForK ⟨ds.drop k, none⟩ g s ρ h N ⟨R, B, C, X⟩ := by
    intro n
    induction n with
    | zero =>
      intro k ρ h hn hk i
      have : k = ds.length := by omega
      subst this
      rw [List.drop_length]
      exact forK_nil (fin _ _ i)
    | succ n ih =>
      intro k ρ h hn hk i
      have hk' : k < ds.length := by omega
      rw [List.drop_eq_getElem_cons hk']
      have w := st k ds[k] ρ h (List.getElem?_eq_getElem hk') i
      refine forK_cons ?_
      unfold GvK at *
      revert w
      cases g (.d ds[k]) ρ h with
      | none => exact fun w => w
      | some p =>
        obtain ⟨ρ1, h1⟩ := p
        show Ws (s ρ1 h1) _ _ → Ws (s ρ1 h1) _ _
        cases s ρ1 h1 with
        | nx ρ2 h2 => exact fun w => ⟨ih (k + 1) ρ2 h2 (by omega) (by omega) w.w⟩
        | ct ρ2 h2 => exact fun w => ⟨ih (k + 1) ρ2 h2 (by omega) (by omega) w.w⟩
        | bk ρ2 h2 => exact fun w => ⟨w.w⟩
        | rt v h2 => exact fun w => ⟨w.w⟩
        | ex c fs ρ2 h2 => exact fun w => ⟨w.w⟩
        | no => exact fun w => w.w.elim
  have := go _ 0 ρ h rfl (Nat.zero_le _) h0
  rwa [List.drop_zero] at this
/-- a while by what stands ahead of each turn, and a number that grows less -/
theorem ws_while (I : Nat → En → Hh → Prop) {n : Nat} (h0 : I n ρ h)
    (st : ∀ (k : Nat) (ρ1 : En) (h1 : Hh), I k ρ1 h1 → Wp (t ρ1 h1) (fun b h2 => BrK b (Ws (s ρ1 h2) (fun ρ2 h3 => ∃ j, j < k ∧ I j ρ2 h3) ⟨R, N, fun ρ2 h3 => ∃ j, j < k ∧ I j ρ2 h3, X⟩) (N ρ1 h2)) (fun c fs h1 => X c fs ρ1 h1)) : Ws (sWhile t s ρ h) N ⟨R, B, C, X⟩ := by
  induction n using Nat.strongRecOn generalizing ρ h with
  | ind n ih =>
    have w := st n ρ h h0
    rw [sWhile_eq]
    revert w
    cases t ρ h with
    | no => exact fun w => w.w.elim
    | ex c fs h1 => exact fun w => ⟨w.w⟩
    | ok b h1 =>
      cases b with
      | false => exact fun w => ⟨w.w⟩
      | true =>
        intro w
        have w := w.w
        revert w
        show Ws (s ρ h1) _ _ → Ws (match s ρ h1 with
          | .nx ρ' h' => sWhile t s ρ' h'
          | .ct ρ' h' => sWhile t s ρ' h'
          | .bk ρ' h' => .nx ρ' h'
          | r => r) N ⟨R, B, C, X⟩
        cases s ρ h1 with
        | nx ρ2 h2 => exact fun ⟨j, hj, i⟩ => ih j hj i
        | ct ρ2 h2 => exact fun ⟨j, hj, i⟩ => ih j hj i
        | bk ρ2 h2 => exact fun w => ⟨w.w⟩
        | rt v h2 => exact fun w => ⟨w.w⟩
        | ex c fs ρ2 h2 => exact fun w => ⟨w.w⟩
        | no => exact fun w => w.w.elim
end
/-! ### a def entered -/
section
variable {Q : Vl → Hh → Prop} {E : XP} {h : Hh} {body : Sv} {as : List Vl} {k n : Nat}
theorem wp_def (hl : as.length = k) {ρ : En} (er : enter n as = ρ) (w : Ws (body ρ h) (fun _ h1 => RetK h.length Q (.d .none) h1) ⟨RetK h.length Q, fun _ _ => False, fun _ _ => False, fun c fs _ h1 => E c fs (h1.take h.length)⟩) : Wp (mkF k n body as h) Q E := by
  unfold mkF
  rw [if_pos hl, er]
  revert w
  cases body ρ h with
  | nx ρ1 h1 => exact fun ⟨v, h2, e, q⟩ => wp_eq e q
  | rt v h1 => exact fun ⟨v, h2, e, q⟩ => wp_eq e q
  | bk ρ1 h1 => exact fun w => w.w.elim
  | ct ρ1 h1 => exact fun w => w.w.elim
  | ex c fs ρ1 h1 => exact fun w => ⟨w.w⟩
  | no => exact fun w => w.w.elim
theorem retK_d {x : Da} (e : h.length = n) (q : Q (.d x) h) : RetK n Q (.d x) h := ⟨.d x, h, by subst e; show Out.ok _ _ = _; rw [List.take_length], q⟩
theorem retK_d' {x : Da} {l : Hh} (e : h.length = n) (q : Q (.d x) h) : RetK n Q (.d x) (h ++ l) := ⟨.d x, h, by subst e; show Out.ok _ _ = _; rw [List.take_left' rfl], q⟩
theorem trunc_at {n i : Nat} {o : Ob} {h : Hh} (hi : n ≤ i) (e : h[i]? = some (some o)) (nr : ∀ ns, o ≠ .rl ns) : trunc n (.r i) h = .ok (.r n) (h.take n ++ [some o]) := by
  unfold trunc
  dsimp only
  rw [if_neg (by omega), e]
  cases o with
  | rl ns => exact absurd rfl (nr ns)
  | _ => rfl
theorem retK_r {i : Nat} {o : Ob} {r : Hh} {l : Hh} (hr : h.length = n) (hi : i = n) (q : Q (.r n) (h ++ [some o])) (nr : ∀ ns, o ≠ .rl ns := by intro _ z; cases z) : RetK n Q (.r i) (h ++ some o :: l) := by
  subst hr hi
  refine ⟨.r h.length, h ++ [some o], ?_, q⟩
  rw [trunc_at (Nat.le_refl _) (by simp) nr, List.take_left' rfl]
end

section
variable {Q : Vl → Hh → Prop} {E : XP} {h : Hh} {v : Vl} {N : En → Hh → Prop} {r : En}
variable {o0 o1 o2 o3 o4 o5 o6 o7 o8 o9 o10 o11 o12 o13 o14 o15 o16 o17 o18 o19 o20 o21 o22 o23 o24 o25 : Option Vl}
theorem wp_v0 (q : Q v h) : Wp (eVar 0 (some v :: r) h) Q E := ⟨q⟩
theorem wp_v1 (q : Q v h) : Wp (eVar 1 (o0 :: some v :: r) h) Q E := ⟨q⟩
theorem setk1 (q : N (o0 :: some v :: r) h) : SetK 1 (o0 :: o1 :: r) v h N := q
theorem wp_v2 (q : Q v h) : Wp (eVar 2 (o0 :: o1 :: some v :: r) h) Q E := ⟨q⟩
theorem setk2 (q : N (o0 :: o1 :: some v :: r) h) : SetK 2 (o0 :: o1 :: o2 :: r) v h N := q
theorem wp_v3 (q : Q v h) : Wp (eVar 3 (o0 :: o1 :: o2 :: some v :: r) h) Q E := ⟨q⟩
theorem setk3 (q : N (o0 :: o1 :: o2 :: some v :: r) h) : SetK 3 (o0 :: o1 :: o2 :: o3 :: r) v h N := q
theorem wp_v4 (q : Q v h) : Wp (eVar 4 (o0 :: o1 :: o2 :: o3 :: some v :: r) h) Q E := ⟨q⟩
theorem setk4 (q : N (o0 :: o1 :: o2 :: o3 :: some v :: r) h) : SetK 4 (o0 :: o1 :: o2 :: o3 :: o4 :: r) v h N := q
theorem wp_v5 (q : Q v h) : Wp (eVar 5 (o0 :: o1 :: o2 :: o3 :: o4 :: some v :: r) h) Q E := ⟨q⟩
theorem setk5 (q : N (o0 :: o1 :: o2 :: o3 :: o4 :: some v :: r) h) : SetK 5 (o0 :: o1 :: o2 :: o3 :: o4 :: o5 :: r) v h N := q
theorem wp_v6 (q : Q v h) : Wp (eVar 6 (o0 :: o1 :: o2 :: o3 :: o4 :: o5 :: some v :: r) h) Q E := ⟨q⟩
theorem setk6 (q : N (o0 :: o1 :: o2 :: o3 :: o4 :: o5 :: some v :: r) h) : SetK 6 (o0 :: o1 :: o2 :: o3 :: o4 :: o5 :: o6 :: r) v h N := q
theorem wp_v7 (q : Q v h) : Wp (eVar 7 (o0 :: o1 :: o2 :: o3 :: o4 :: o5 :: o6 :: some v :: r) h) Q E := ⟨q⟩
theorem setk7 (q : N (o0 :: o1 :: o2 :: o3 :: o4 :: o5 :: o6 :: some v :: r) h) : SetK 7 (o0 :: o1 :: o2 :: o3 :: o4 :: o5 :: o6 :: o7 :: r) v h N := q
theorem wp_v8 (q : Q v h) : Wp (eVar 8 (o0 :: o1 :: o2 :: o3 :: o4 :: o5 :: o6 :: o7 :: some v :: r) h) Q E := ⟨q⟩
theorem setk8 (q : N (o0 :: o1 :: o2 :: o3 :: o4 :: o5 :: o6 :: o7 :: some v :: r) h) : SetK 8 (o0 :: o1 :: o2 :: o3 :: o4 :: o5 :: o6 :: o7 :: o8 :: r) v h N := q
theorem wp_v9 (q : Q v h) : Wp (eVar 9 (o0 :: o1 :: o2 :: o3 :: o4 :: o5 :: o6 :: o7 :: o8 :: some v :: r) h) Q E := ⟨q⟩
theorem setk9 (q : N (o0 :: o1 :: o2 :: o3 :: o4 :: o5 :: o6 :: o7 :: o8 :: some v :: r) h) : SetK 9 (o0 :: o1 :: o2 :: o3 :: o4 :: o5 :: o6 :: o7 :: o8 :: o9 :: r) v h N := q
theorem wp_v10 (q : Q v h) : Wp (eVar 10 (o0 :: o1 :: o2 :: o3 :: o4 :: o5 :: o6 :: o7 :: o8 :: o9 :: some v :: r) h) Q E := ⟨q⟩
theorem setk10 (q : N (o0 :: o1 :: o2 :: o3 :: o4 :: o5 :: o6 :: o7 :: o8 :: o9 :: some v :: r) h) : SetK 10 (o0 :: o1 :: o2 :: o3 :: o4 :: o5 :: o6 :: o7 :: o8 :: o9 :: o10 :: r) v h N := q
end
section
variable {Q : Vl → Hh → Prop} {h : Hh}
variable {d0 d1 d2 d3 d4 d5 d6 d7 d8 d9 d10 d11 d12 d13 d14 d15 d16 d17 d18 d19 d20 d21 d22 d23 d24 d25 : Da}
theorem tupk0 (q : Q (.d (.tuple [])) h) : TupK [] h Q := ⟨[], h, rfl, rfl, q⟩
theorem lstk0 (q : Q (.r h.length) (h ++ [some (.lst [])])) : LstK [] h Q := ⟨[], h, rfl, rfl, q⟩
theorem tupk1 (q : Q (.d (.tuple [d0])) h) : TupK [.d d0] h Q := ⟨[d0], h, rfl, rfl, q⟩
theorem lstk1 (q : Q (.r h.length) (h ++ [some (.lst [d0])])) : LstK [.d d0] h Q := ⟨[d0], h, rfl, rfl, q⟩
theorem tupk2 (q : Q (.d (.tuple [d0, d1])) h) : TupK [.d d0, .d d1] h Q := ⟨[d0, d1], h, rfl, rfl, q⟩
theorem lstk2 (q : Q (.r h.length) (h ++ [some (.lst [d0, d1])])) : LstK [.d d0, .d d1] h Q := ⟨[d0, d1], h, rfl, rfl, q⟩
theorem tupk3 (q : Q (.d (.tuple [d0, d1, d2])) h) : TupK [.d d0, .d d1, .d d2] h Q := ⟨[d0, d1, d2], h, rfl, rfl, q⟩
theorem tupk4 (q : Q (.d (.tuple [d0, d1, d2, d3])) h) : TupK [.d d0, .d d1, .d d2, .d d3] h Q := ⟨[d0, d1, d2, d3], h, rfl, rfl, q⟩
theorem lstk4 (q : Q (.r h.length) (h ++ [some (.lst [d0, d1, d2, d3])])) : LstK [.d d0, .d d1, .d d2, .d d3] h Q := ⟨[d0, d1, d2, d3], h, rfl, rfl, q⟩
theorem lstk6 (q : Q (.r h.length) (h ++ [some (.lst [d0, d1, d2, d3, d4, d5])])) : LstK [.d d0, .d d1, .d d2, .d d3, .d d4, .d d5] h Q := ⟨[d0, d1, d2, d3, d4, d5], h, rfl, rfl, q⟩
theorem lstk8 (q : Q (.r h.length) (h ++ [some (.lst [d0, d1, d2, d3, d4, d5, d6, d7])])) : LstK [.d d0, .d d1, .d d2, .d d3, .d d4, .d d5, .d d6, .d d7] h Q := ⟨[d0, d1, d2, d3, d4, d5, d6, d7], h, rfl, rfl, q⟩
theorem lstk9 (q : Q (.r h.length) (h ++ [some (.lst [d0, d1, d2, d3, d4, d5, d6, d7, d8])])) : LstK [.d d0, .d d1, .d d2, .d d3, .d d4, .d d5, .d d6, .d d7, .d d8] h Q := ⟨[d0, d1, d2, d3, d4, d5, d6, d7, d8], h, rfl, rfl, q⟩
theorem lstk11 (q : Q (.r h.length) (h ++ [some (.lst [d0, d1, d2, d3, d4, d5, d6, d7, d8, d9, d10])])) : LstK [.d d0, .d d1, .d d2, .d d3, .d d4, .d d5, .d d6, .d d7, .d d8, .d d9, .d d10] h Q := ⟨[d0, d1, d2, d3, d4, d5, d6, d7, d8, d9, d10], h, rfl, rfl, q⟩
end
end Rk

/-! Rk20: the operators' rules; sizes. -/
namespace Rk
open PySem PySem.Spec L2
section
variable {Q : Vl → Hh → Prop} {h : Hh} {a b : Int} {r s : Rat}
theorem wo_eq {o : Option (Vl × Hh)} {v : Vl} {h' : Hh} (e : o = some (v, h')) (q : Q v h') : Wo o Q := by rw [e]; exact q
theorem wo_add (q : Q (.d (.int (a + b))) h) : Wo (gAdd (.d (.int a)) (.d (.int b)) h) Q := q
theorem wo_sub (q : Q (.d (.int (a - b))) h) : Wo (gInt fSub (.d (.int a)) (.d (.int b)) h) Q := q
theorem wo_mul (m : IntMulOk a b) (q : Q (.d (.int (a * b))) h) : Wo (gInt fMul (.d (.int a)) (.d (.int b)) h) Q := wo_eq (by rw [gInt_eq, fMul_eq m]; rfl) q
theorem wo_div (b0 : 0 < b) (m : Builtin.divisionGoesByPylong a b = false) (q : Q (.d (.int (a / b))) h) : Wo (gInt fDiv (.d (.int a)) (.d (.int b)) h) Q :=
  wo_eq (by rw [gInt_eq, fDiv_eq (by omega) m, Int.fdiv_eq_ediv_of_nonneg _ (by omega)]; rfl) q
theorem wo_mod (b0 : 0 < b) (q : Q (.d (.int (a % b))) h) : Wo (gInt fMod (.d (.int a)) (.d (.int b)) h) Q :=
  wo_eq (by rw [gInt_eq, fMod_eq (by omega), Int.fmod_eq_emod_of_nonneg _ (by omega)]; rfl) q
theorem wo_pow {n : Nat} (h1 : n ≤ 1000000) (h2 : a.natAbs < 2 ^ 64) (q : Q (.d (.int (a ^ n))) h) : Wo (gInt fPow (.d (.int a)) (.d (.int (OfNat.ofNat n))) h) Q :=
  wo_eq (by
    rw [gInt_eq, show (OfNat.ofNat n : Int) = (n : Int) from rfl]
    unfold fPow
    rw [if_pos ⟨by omega, by omega, h2⟩]; rfl) q
theorem wo_lt (q : Q (.d (.bool (decide (a < b)))) h) : Wo (gInt fLt (.d (.int a)) (.d (.int b)) h) Q := q
theorem wo_le (q : Q (.d (.bool (decide (a ≤ b)))) h) : Wo (gInt fLe (.d (.int a)) (.d (.int b)) h) Q := q
theorem wo_gt (q : Q (.d (.bool (decide (b < a)))) h) : Wo (gInt fGt (.d (.int a)) (.d (.int b)) h) Q := q
theorem wo_ge (q : Q (.d (.bool (decide (b ≤ a)))) h) : Wo (gInt fGe (.d (.int a)) (.d (.int b)) h) Q := q
theorem wo_eqI (q : Q (.d (.bool (decide (a = b)))) h) : Wo (gEq (.d (.int a)) (.d (.int b)) h) Q := wo_eq gEq_int q
theorem wo_neI (q : Q (.d (.bool (!decide (a = b)))) h) : Wo (gNe (.d (.int a)) (.d (.int b)) h) Q := wo_eq gNe_int q
theorem wo_eqS {x y : Str} (q : Q (.d (.bool (decide (x = y)))) h) : Wo (gEq (.d (.str x)) (.d (.str y)) h) Q := q
theorem wo_neS {x y : Str} (q : Q (.d (.bool (!decide (x = y)))) h) : Wo (gNe (.d (.str x)) (.d (.str y)) h) Q := q
theorem wo_ixQ0 (q : Q (.d (.int r.num)) h) : Wo (gIx (.d (Rk.Q r)) (.d (.int 0)) h) Q := wo_eq ixQ0 q
theorem wo_ixQ1 (q : Q (.d (.int r.den)) h) : Wo (gIx (.d (Rk.Q r)) (.d (.int 1)) h) Q := wo_eq ixQ1 q
theorem wo_iyT {x : Vl} {ds : List Da} (e : x = .d (.tuple ds)) (w : Wo (gIx x (.d (.int a)) h) Q) : Wo (gIy x (.d (.int a)) h) Q := by subst e; exact w
theorem wo_iyL {x : Vl} {ds : List Da} (e : x = .d (.list ds)) (w : Wo (gIx x (.d (.int a)) h) Q) : Wo (gIy x (.d (.int a)) h) Q := by subst e; exact w
/-- a written list, or tuple, at a drawn place -/
theorem wo_menu {ds : List Da} (P : Da → Prop) (h0 : 0 ≤ a) (h1 : a < ds.length) (hp : ∀ d ∈ ds, P d) (q : ∀ d, P d → Q (.d d) h) : Wo (gIx (.d (.list ds)) (.d (.int a)) h) Q := by
  have e : ds[a.toNat]? = some (ds[a.toNat]'(by omega)) := List.getElem?_eq_getElem _
  have := gIxF (h := h) e
  rw [show ((a.toNat : Nat) : Int) = a by omega] at this
  exact wo_eq this (q _ (hp _ (List.getElem_mem _)))
def IntIn (lo hi : Int) (d : Da) : Prop := ∃ i, d = .int i ∧ lo ≤ i ∧ i ≤ hi
theorem wo_menuI (lo hi : Int) {ds : List Da} (h0 : 0 ≤ a) (h1 : a < ds.length) (hp : ∀ d ∈ ds, IntIn lo hi d) (q : ∀ i, lo ≤ i → i ≤ hi → Q (.d (.int i)) h) : Wo (gIx (.d (.list ds)) (.d (.int a)) h) Q :=
  wo_menu (IntIn lo hi) h0 h1 hp fun d ⟨i, e, l1, l2⟩ => by subst e; exact q i l1 l2
theorem wo_abs (q : Q (.d (.int (a.natAbs : Int))) h) : Wo (gAbs [.d (.int a)] h) Q := wo_eq (by rw [gAbs_eq, abs_eq]) q
theorem wo_max (q : Q (.d (.int (max a b))) h) : Wo (gMax [.d (.int a), .d (.int b)] h) Q := wo_eq (v := .d (.int (max a b))) (h' := h) (by
  show some _ = some _
  have e : (if b > a then b else a) = max a b := by split <;> omega
  rw [e]) q
theorem wo_min (q : Q (.d (.int (min a b))) h) : Wo (gMin [.d (.int a), .d (.int b)] h) Q := wo_eq (v := .d (.int (min a b))) (h' := h) (by
  show some _ = some _
  have e : (if b < a then b else a) = min a b := by split <;> omega
  rw [e]) q
theorem wo_int1b {c : Bool} (q : Q (.d (.int (if c then 1 else 0))) h) : Wo (gInt1 [.d (.bool c)] h) Q := q
theorem wo_lenT {ds : List Da} (q : Q (.d (.int ds.length)) h) : Wo (gLen [.d (.tuple ds)] h) Q := q
theorem wo_lenL {ds : List Da} (q : Q (.d (.int ds.length)) h) : Wo (gLen [.d (.list ds)] h) Q := q
theorem wo_lenQ (q : Q (.d (.int 2)) h) : Wo (gLen [.d (Rk.Q r)] h) Q := q
theorem wo_listT {ds : List Da} (q : Q (.r h.length) (h ++ [some (.lst ds)])) : Wo (gList [.d (.tuple ds)] h) Q := q
theorem wo_tupL {ds : List Da} (q : Q (.d (.tuple ds)) h) : Wo (gTuple [.d (.list ds)] h) Q := q
theorem wo_addL {xs ys : List Da} (hl : xs.length + ys.length ≤ 16777216) (q : Q (.r h.length) (h ++ [some (.lst (xs ++ ys))])) : Wo (gAdd (.d (.list xs)) (.d (.list ys)) h) Q :=
  wo_eq (v := .r h.length) (h' := h ++ [some (.lst (xs ++ ys))]) (by
    unfold gAdd asL
    dsimp only
    rw [if_pos (fitB_ok hl)]) q
theorem wo_addL' {xs ys zs : List Da} (e : xs ++ ys = zs) (hl : xs.length + ys.length ≤ 16777216) (q : Q (.r h.length) (h ++ [some (.lst zs)])) : Wo (gAdd (.d (.list xs)) (.d (.list ys)) h) Q := wo_addL hl (by rw [e]; exact q)
theorem wo_addT' {xs ys zs : List Da} (e : xs ++ ys = zs) (hl : xs.length + ys.length ≤ 16777216) (q : Q (.d (.tuple zs)) h) : Wo (gAdd (.d (.tuple xs)) (.d (.tuple ys)) h) Q :=
  wo_eq (v := .d (.tuple zs)) (h' := h) (by
    unfold gAdd
    dsimp only
    rw [if_pos (fitB_ok hl), e]) q
theorem wo_slT {xs : List Da} {lo hi : Option Int} (q : Q (.d (.tuple (cutD xs lo hi))) h) : Wo (gSl (.d (.tuple xs)) lo hi h) Q := q
theorem wo_slL {xs : List Da} {lo hi : Option Int} (q : Q (.r h.length) (h ++ [some (.lst (cutD xs lo hi))])) : Wo (gSl (.d (.list xs)) lo hi h) Q := q
theorem wo_stL {xs : List Da} {lo hi st : Option Int} (h1 : st ≠ some 0) (h2 : (pickG xs lo hi st).length ≤ 16777216) (q : Q (.r h.length) (h ++ [some (.lst (pickG xs lo hi st))])) : Wo (gSt (.d (.list xs)) lo hi st h) Q :=
  wo_eq (v := .r h.length) (h' := h ++ [some (.lst (pickG xs lo hi st))]) (by
    unfold gSt asL
    dsimp only
    rw [if_pos ⟨h1, h2⟩]) q
end
section
variable {Q : Vl → Hh → Prop} {h : Hh} {a0 a1 a2 a3 a4 a5 : Da} {l : List Da}
theorem wo_ix0 (q : Q (.d a0) h) : Wo (gIx (.d (.tuple (a0 :: l))) (.d (.int 0)) h) Q := wo_eq ix0 q
theorem wo_ix1 (q : Q (.d a1) h) : Wo (gIx (.d (.tuple (a0 :: a1 :: l))) (.d (.int 1)) h) Q := wo_eq ix1 q
theorem wo_ix2 (q : Q (.d a2) h) : Wo (gIx (.d (.tuple (a0 :: a1 :: a2 :: l))) (.d (.int 2)) h) Q := wo_eq ix2 q
theorem wo_il0 (q : Q (.d a0) h) : Wo (gIx (.d (.list (a0 :: l))) (.d (.int 0)) h) Q := wo_eq (gIxF (k := 0) rfl) q
theorem wo_il1 (q : Q (.d a1) h) : Wo (gIx (.d (.list (a0 :: a1 :: l))) (.d (.int 1)) h) Q := wo_eq (gIxF (k := 1) rfl) q
end
/-! ### sizes, by form -/
section
variable {n m : Nat} {x y : Int} {r s : Rat}
theorem Bd.lit (x : Int) : Bd (x.natAbs.log2 + 1) x := by
  unfold Bd
  exact Nat.lt_log2_self
theorem BQ.pos (h : BQ n r) : 0 < n := Nat.pos_of_ne_zero fun z => by
  subst z
  have h2 : ((r.den : Int)).natAbs < 1 := h.2
  have := r.den_nz
  omega
theorem Bd.abs (h : Bd n x) : Bd n (x.natAbs : Int) := h.le (by omega)
theorem Bd.emod (hy : Bd m y) (h0 : 0 < y) : Bd m (x % y) := hy.le (by
  have h1 := Int.emod_nonneg x (show y ≠ 0 by omega)
  have h2 := Int.emod_lt_of_pos x h0
  omega)
theorem BQ.i (h : Bd n x) : BQ (n + 1) (x : Rat) := BQ_int (h.mono (Nat.le_succ _)) (Nat.succ_pos _)
theorem BQ.zero : BQ 1 0 := by unfold BQ Bd; decide
theorem BQ.one : BQ 1 1 := by unfold BQ Bd; decide
theorem Bd.rg {lo hi : Int} (h1 : lo ≤ x) (h2 : x ≤ hi) : Bd (max (lo.natAbs.log2 + 1) (hi.natAbs.log2 + 1)) x := by
  have a := (Bd.lit lo).mono (Nat.le_max_left _ (hi.natAbs.log2 + 1))
  have b := (Bd.lit hi).mono (Nat.le_max_right (lo.natAbs.log2 + 1) _)
  unfold Bd at *
  omega
end
end Rk

/-! Rk21: heads of goals; what is walked; comprehensions; places of dicts. -/
namespace Rk
open PySem PySem.Spec L2
section
variable {α : Type} {o : Out α} {Q : α → Hh → Prop} {E : XP} {N : En → Hh → Prop} {D : Ds} {s : So} {oo : Option (α × Hh)} {ρ : En} {h : Hh} {i n : Nat} {v : Vl} {vs : List Vl} {QV : Vl → Hh → Prop} {b : Bool} {A B : Prop}
theorem hd_Wp (w : Wp o Q E) : Wp o Q E := w
theorem hd_Ws (w : Ws s N D) : Ws s N D := w
theorem hd_Wo (w : Wo oo Q) : Wo oo Q := w
theorem hd_SetK (w : SetK i ρ v h N) : SetK i ρ v h N := w
theorem hd_TupK (w : TupK vs h QV) : TupK vs h QV := w
theorem hd_LstK (w : LstK vs h QV) : LstK vs h QV := w
theorem hd_BrK (w : BrK b A B) : BrK b A B := w
end
section
variable {h : Hh} {QV : Vl → Hh → Prop}
theorem ex_int {i : Int} {P : Int → Prop} (q : P i) : ∃ j : Int, (Vl.d (.int i) : Vl) = .d (.int j) ∧ P j := ⟨i, rfl, q⟩
theorem ex_par {v w : Vl} {P : Vl → Vl → Prop} (q : P v w) : ∃ v' w', [v, w] = [v', w'] ∧ P v' w' := ⟨v, w, rfl, q⟩
end
/-! ### what is walked -/
section
variable {QI : Itm → Hh → Prop} {E : XP} {ρ : En} {h : Hh} {f : Ev} {as : Av} {QV : Vl → Hh → Prop}
theorem wp_iv (w : Wp (f ρ h) (fun v h1 => Wp (itQ v h1) QI E) E) : Wp (iv itQ f ρ h) QI E := wp_bind w
theorem wp_itT {ds : List Da} (q : QI ⟨ds, none⟩ h) : Wp (itQ (.d (.tuple ds)) h) QI E := ⟨q⟩
theorem wp_itL {ds : List Da} (q : QI ⟨ds, none⟩ h) : Wp (itQ (.d (.list ds)) h) QI E := ⟨q⟩
theorem wp_rng1 (w : Wp (as ρ h) (fun vs h1 => ∃ j : Int, vs = [.d (.int j)] ∧ rgB j = true ∧ QI ⟨rngD 0 j.toNat, none⟩ h1) E) : Wp (iRange1 as ρ h) QI E :=
  wp_bind (w.mono (fun _ _ ⟨j, e, r, q⟩ => by rw [e]; show Wp (if rgB j = true then _ else _) _ _; rw [if_pos r]; exact ⟨q⟩) fun _ _ _ z => z)
theorem ex_rng {j : Int} {P : Int → Prop} (r : rgB j = true) (q : P j) : ∃ k : Int, [Vl.d (.int j)] = [.d (.int k)] ∧ rgB k = true ∧ P k := ⟨j, rfl, r, q⟩
end
theorem rgB_of {j : Int} (h1 : -1000000000000 ≤ j) (h2 : j ≤ 1000000000000) : rgB j = true := by
  unfold rgB
  rw [decide_eq_true h1, decide_eq_true h2]
  rfl
/-! ### comprehensions whose list is never changed -/
section
variable {Q : Vl → Hh → Prop} {E : XP} {ρ : En} {h : Hh} {i : Iv} {g : Gv} {tt : Tv} {fe : Ev} {ws : List Nat}
end
end Rk

/-! Rk22: lesser, greater; truths; texts of data. -/
namespace Rk
open PySem PySem.Spec L2
def mn (r s : Rat) : Rat := if s < r then s else r
def mx (r s : Rat) : Rat := if r < s then s else r
theorem BQ.mn {n m : Nat} {r s : Rat} (hr : BQ n r) (hs : BQ m s) : BQ (max n m) (mn r s) := by
  unfold Rk.mn
  split
  · exact hs.mono (Nat.le_max_right ..)
  · exact hr.mono (Nat.le_max_left ..)
theorem BQ.mx {n m : Nat} {r s : Rat} (hr : BQ n r) (hs : BQ m s) : BQ (max n m) (mx r s) := by
  unfold Rk.mx
  split
  · exact hs.mono (Nat.le_max_right ..)
  · exact hr.mono (Nat.le_max_left ..)
section
variable {Q : Vl → Hh → Prop} {h : Hh} {x y : Da} {b c : Bool}
theorem qb (q : Q (.d (.bool b)) h) (e : c = b) : Q (.d (.bool c)) h := by rw [e]; exact q
end
theorem qq {r s : Rat} (e : r = s) : Q r = Q s := by rw [e]
theorem Q_inj {r s : Rat} (e : Q r = Q s) : r = s := by
  unfold Q at e
  injection e with e
  injection e with e1 e2
  injection e2 with e2 _
  injection e1 with e1
  injection e2 with e2
  exact Rat.ext e1 (by omega)
/-! ### data that can be told as a text -/
structure Shw (k e : Nat) (d : Da) : Prop where
  s : d.showable = true
  n : d.hasDict = false
  p : d.depth ≤ e
  l : d.shown.length ≤ k
structure ShwL (k e : Nat) (ds : List Da) : Prop where
  s : PyData.showableAll ds = true
  n : PyData.hasDictAll ds = false
  d : PyData.depthAll ds ≤ e
  l : piled (PyData.shownAll ds) ≤ k
theorem Shw.none : Shw 4 0 .none := ⟨by simp [PyData.showable], by simp [PyData.hasDict], by simp [PyData.depth], by simp only [PyData.shown]; decide⟩
theorem Shw.bool (b : Bool) : Shw 5 0 (.bool b) := ⟨by simp [PyData.showable], by simp [PyData.hasDict], by simp [PyData.depth], by cases b <;> simp only [PyData.shown] <;> decide⟩
theorem Shw.int {i : Int} {n : Nat} (h : Bd n i) (hn : n ≤ 1920) : Shw 1921 0 (.int i) := by
  have l : i.natAbs.log2 < 1920 := by
    rcases Nat.eq_zero_or_pos i.natAbs with z | z
    · rw [z]; decide
    · exact (Nat.log2_lt (Nat.ne_of_gt z)).mpr (Nat.lt_of_lt_of_le h (Nat.pow_le_pow_right (by decide) hn))
  exact ⟨by simp only [PyData.showable]; exact decide_eq_true l, by simp [PyData.hasDict], by simp [PyData.depth], by simp only [PyData.shown]; rw [ofString_length]; exact int_text_length_le (k := 1920) (by decide) l⟩
theorem ShwL.nil : ShwL 0 0 [] := ⟨by simp [PyData.showableAll], by simp [PyData.hasDictAll], by simp [PyData.depthAll], by simp [PyData.shownAll, piled]⟩
theorem ShwL.cons {k e k' e' : Nat} {d : Da} {ds : List Da} (h : Shw k e d) (t : ShwL k' e' ds) : ShwL (k + 2 + k') (max e e') (d :: ds) := by
  refine ⟨?_, ?_, ?_, ?_⟩
  · simp only [PyData.showableAll, h.s, t.s, Bool.and_self]
  · simp only [PyData.hasDictAll, h.n, t.n, Bool.or_self]
  · simp only [PyData.depthAll]
    have := h.p
    have := t.d
    omega
  · simp only [PyData.shownAll, piled_cons]
    have := h.l
    have := t.l
    omega
theorem Shw.tup {k e : Nat} {ds : List Da} (t : ShwL k e ds) : Shw (k + 3) (e + 1) (.tuple ds) := by
  refine ⟨by simp only [PyData.showable]; exact t.s, by simp only [PyData.hasDict]; exact t.n, by simp only [PyData.depth]; have := t.d; omega, ?_⟩
  simp only [PyData.shown]
  have hl := t.l
  unfold tupleText
  have j : (Str.join ", " (PyData.shownAll ds)).length ≤ piled (PyData.shownAll ds) := by
    by_cases z : PyData.shownAll ds = []
    · rw [z]; decide
    · have := join_length_add _ z
      omega
  rw [Str.length_append, Str.length_append]
  have a : (Str.ofString "(").length = 1 := by decide
  have b : (Str.ofString (if (PyData.shownAll ds).length == 1 then ",)" else ")")).length ≤ 2 := by split <;> decide
  have a' : ("(" : Str).length = 1 := a
  omega
theorem Shw.lst {k e : Nat} {ds : List Da} (t : ShwL k e ds) : Shw (k + 3) (e + 1) (.list ds) := by
  refine ⟨by simp only [PyData.showable]; exact t.s, by simp only [PyData.hasDict]; exact t.n, by simp only [PyData.depth]; have := t.d; omega, ?_⟩
  simp only [PyData.shown]
  have hl := t.l
  unfold listText
  have j : (textFrom 0 "[" (PyData.shownAll ds)).length ≤ 1 + piled (PyData.shownAll ds) := by
    cases e : PyData.shownAll ds with
    | nil => decide
    | cons x xs =>
      have h1 := textFrom_length_pos xs 1 (("[" : Str) ++ ("" : Str) ++ x) (by decide)
      have h2 : textFrom 0 "[" (x :: xs) = textFrom 1 (("[" : Str) ++ ("" : Str) ++ x) xs := rfl
      rw [h2, h1, piled_cons, Str.length_append, Str.length_append]
      have a1 : ("[" : Str).length = 1 := by decide
      have a2 : ("" : Str).length = 0 := by decide
      omega
  rw [Str.length_append]
  have b : ("]" : Str).length = 1 := by decide
  omega
theorem Shw.Q {r : Rat} {n : Nat} (h : BQ n r) (hn : n ≤ 1920) : Shw 4000 1 (Q r) :=
  let t := Shw.tup (ShwL.cons (Shw.int h.1 hn) (ShwL.cons (Shw.int h.2 hn) ShwL.nil))
  ⟨t.s, t.n, t.p, Nat.le_trans t.l (by decide)⟩
theorem Shw.mono {k e k' e' : Nat} {d : Da} (h : Shw k e d) (a : k ≤ k') (b : e ≤ e') : Shw k' e' d := ⟨h.s, h.n, Nat.le_trans h.p b, Nat.le_trans h.l a⟩
section
variable {Q : Vl → Hh → Prop} {h : Hh} {r : Rat}
theorem tq_lit {a b : Int} (r : Rat) (e1 : r.num = a) (e2 : (r.den : Int) = b) (q : Q (.d (Rk.Q r)) h) : TupK [.d (.int a), .d (.int b)] h Q := tupk2 (by unfold Rk.Q at q; rw [e1, e2] at q; exact q)
end
theorem Q_lit {a b : Int} (r : Rat) (e1 : r.num = a) (e2 : (r.den : Int) = b) : (.tuple [.int a, .int b] : Da) = Q r := by unfold Q; rw [e1, e2]
theorem BQ.lit (k : Nat) : BQ (k.log2 + 2) (OfNat.ofNat k : Rat) := by
  have : (OfNat.ofNat k : Rat) = ((k : Int) : Rat) := rfl
  rw [this]
  exact BQ_int (Bd.mono (bd_nat Nat.lt_log2_self) (Nat.le_succ _)) (Nat.succ_pos _)
section
variable {Q : Vl → Hh → Prop} {h : Hh} {d0 d1 d2 d3 d4 d5 d6 d7 d8 d9 d10 d11 d12 d13 d14 d15 : Da}
theorem wo_lenT2 (q : Q (.d (.int 2)) h) : Wo (gLen [.d (.tuple [d0, d1])] h) Q := q
theorem wo_lenT3 (q : Q (.d (.int 3)) h) : Wo (gLen [.d (.tuple [d0, d1, d2])] h) Q := q
theorem wo_lenT5 (q : Q (.d (.int 5)) h) : Wo (gLen [.d (.tuple [d0, d1, d2, d3, d4])] h) Q := q
end
end Rk

/-! Rk23: a list that is no more changed from here on. -/
namespace Rk
open PySem PySem.Spec L2
def sFrz (i : Nat) : Sv := fun ρ h => match ρ[i]? with
  | some (some v) => match fz v h with
    | some p => .nx (ρ.set i (some (.d p.1))) p.2
    | none => .no
  | _ => .no
section
variable {X : Cx} {W : WX} {ss : List Stmt} {f : Sv}
theorem ess_frz (i : Nat) (p : ESs X W ss f) : ESs X W ss (sSeq (sFrz i) f) :=
  PSs.of p fun D σ H ⟨φ, h, ρ, sm, er, q⟩ => by
    unfold sSeq sFrz at q
    split at q
    · rename_i v ev
      split at q
      · rename_i p e
        obtain ⟨d, h2⟩ := p
        obtain ⟨x, e1, rv⟩ := er.at_ i v ev
        obtain ⟨s1, s2, s3⟩ := fz_ok sm rv e
        have hi : i < ρ.length := (List.getElem?_eq_some_iff.mp ev).1
        refine ⟨φ, h2, ρ.set i (some (.d d)), s2, ?_, PoS.pull s1 q⟩
        have er2 := er.step s1
        refine ⟨by rw [er2.len, List.length_set], fun j w e2 => ?_⟩
        by_cases hj : i = j
        · subst hj
          rw [List.getElem?_set_self hi] at e2
          have e3 := Option.some.inj (Option.some.inj e2)
          subst e3
          exact ⟨x, e1, s3⟩
        · rw [List.getElem?_set_ne hj] at e2
          exact er2.at_ j w e2
      · exact q.elim
    · exact q.elim
end
section
variable {N : En → Hh → Prop} {D : Ds} {ρ : En} {h l : Hh} {i k : Nat} {ds : List Da}
theorem ws_frz {v : Vl} {d : Da} {h2 : Hh} (ev : ρ[i]? = some (some v)) (e : fz v h = some (d, h2)) (q : SetK i ρ (.d d) h2 N) : Ws (sFrz i ρ h) N D := by
  unfold sFrz
  rw [ev]
  dsimp only
  rw [e]
  exact ⟨q⟩
/-- the list at the end -/
theorem ws_frzE (hk : h.length = k) (ev : ρ[i]? = some (some (.r k))) (q : SetK i ρ (.d (.list ds)) (h ++ none :: l) N) : Ws (sFrz i ρ (h ++ some (.lst ds) :: l)) N D := by
  subst hk
  exact ws_frz (d := .list ds) ev (by unfold fz; dsimp only; rw [get_at, set_at]) q
end
/-! ### comprehensions over typed parts -/
section
variable {gd : Option (Nat × List Da)} {g : Gv} {tt : Tv} {fe : Ev} {ρ0 : En} {h : Hh} {α : Type} {f g' : α → Da} {P : α → Bool}
theorem lc_mapR (hgd : ∀ o, gdOk gd (h ++ [o])) : ∀ (xs : List α) (acc : List Da), (∀ x ∈ xs, ∀ h', ∃ ρ1, g (.d (f x)) ρ0 h' = some (ρ1, h') ∧ tt ρ1 h' = .ok (P x) h' ∧ (P x = true → fe ρ1 h' = .ok (.d (g' x)) h')) → acc.length + xs.length ≤ 16777216 →
    lcL gd h.length g tt fe ρ0 (xs.map f) (h ++ [some (.lst acc)]) = .ok (.r h.length) (h ++ [some (.lst (acc ++ (xs.filter P).map g'))])
  | [], acc, _, _ => by
    rw [List.map_nil, lcL_nil (hgd _)]
    simp
  | d :: ds, acc, H, hl => by
    obtain ⟨ρ1, e1, e2, e3⟩ := H d (List.mem_cons_self ..) (h ++ [some (.lst acc)])
    rw [List.length_cons] at hl
    rw [List.map_cons]
    by_cases p : P d = true
    · rw [p] at e2
      rw [lcL_cons (hgd _) e1 e2 (e3 p) (appL_end rfl (by omega)), lc_mapR hgd ds (acc ++ [g' d]) (fun d hd => H d (List.mem_cons_of_mem _ hd)) (by rw [List.length_append, List.length_singleton]; omega), List.filter_cons_of_pos p]
      simp
    · have p' : P d = false := by simpa using p
      rw [p'] at e2
      rw [lcL_skip (hgd _) e1 e2, lc_mapR hgd ds acc (fun d hd => H d (List.mem_cons_of_mem _ hd)) (by omega), List.filter_cons_of_neg p]
end
section
variable {Q : Vl → Hh → Prop} {E : XP} {ρ : En} {h : Hh} {i : Iv} {g : Gv} {tt : Tv} {fe : Ev} {ws : List Nat}
/-- every part told by a function, some left out by a test -/
theorem wp_lcT {α : Type} (xs : List α) (f g' : α → Da) (P : α → Bool) {ρ0 : En} (e00 : wipeE ρ ws = ρ0) (w : Wp (i ρ h) (fun m h1 => m = ⟨xs.map f, none⟩ ∧ xs.length ≤ 16777216 ∧ h1.length = h.length ∧
      (∀ x ∈ xs, ∀ h', GvK (g (.d (f x)) ρ0 h') fun ρ1 h2 => h2 = h' ∧ Wp (tt ρ1 h') (fun b h3 => h3 = h' ∧ b = P x) NX ∧ (P x = true → Wp (fe ρ1 h') (fun v h3 => h3 = h' ∧ v = .d (g' x)) NX)) ∧
      Q (.d (.list ((xs.filter P).map g'))) h1) (fun c fs h1 => E c fs (h1.take h.length))) : Wp (eFz (eLc ws i g tt fe) ρ h) Q E := by
  subst e00
  refine wp_fz (wp_bind (w.mono ?_ fun _ _ _ z => z))
  rintro m h1 ⟨rfl, hl, hh, H, q⟩
  have lf := lc_mapR (gd := none) (g := g) (tt := tt) (fe := fe) (ρ0 := wipeE ρ ws) (h := h1) (f := f) (g' := g') (P := P) (fun _ => trivial) xs [] (fun d hd h' => by
    have k := H d hd h'
    unfold GvK Wo at k
    revert k
    cases e : g (.d (f d)) (wipeE ρ ws) h' with
    | none => exact fun z => z.elim
    | some p =>
      obtain ⟨ρ1, h2⟩ := p
      rintro ⟨rfl, wt, wf⟩
      obtain ⟨b, h3, e1, rfl, rfl⟩ := wp_out wt
      refine ⟨ρ1, rfl, e1, fun hp => ?_⟩
      obtain ⟨v, h3, e2, rfl, rfl⟩ := wp_out (wf hp)
      exact e2) (by simpa using hl)
  rw [List.nil_append] at lf
  exact wp_eq lf (fzk_end hh q)
/-- every part told by a function -/
theorem wp_lcR {α : Type} (xs : List α) (f g' : α → Da) {ρ0 : En} (e00 : wipeE ρ ws = ρ0) (w : Wp (i ρ h) (fun m h1 => m = ⟨xs.map f, none⟩ ∧ xs.length ≤ 16777216 ∧ h1.length = h.length ∧
      (∀ x ∈ xs, ∀ h', GvK (g (.d (f x)) ρ0 h') fun ρ1 h2 => h2 = h' ∧ Wp (fe ρ1 h') (fun v h3 => h3 = h' ∧ v = .d (g' x)) NX) ∧
      Q (.d (.list (xs.map g'))) h1) (fun c fs h1 => E c fs (h1.take h.length))) : Wp (eFz (eLc ws i g tvYes fe) ρ h) Q E :=
  wp_lcT xs f g' (fun _ => true) e00 (w.mono (fun m h1 ⟨e0, hl, hh, H, q⟩ => ⟨e0, hl, hh, fun d hd h' => by
    have k := H d hd h'
    unfold GvK Wo at *
    revert k
    cases g (.d (f d)) ρ0 h' with
    | none => exact fun z => z
    | some p => exact fun ⟨a, b⟩ => ⟨a, ⟨⟨rfl, rfl⟩⟩, fun _ => b⟩, by
      have e : xs.filter (fun _ => true) = xs := List.filter_eq_self.mpr fun _ _ => rfl
      rw [e]; exact q⟩) fun _ _ _ z => z)
end
/-! ### small ranges; menus -/
section
variable {ρ : En} {h : Hh} {N : En → Hh → Prop} {D : Ds} {g : Gv} {s : Sv}
theorem rng_get {lo : Int} {n k : Nat} {d : Da} (e : (rngD lo n)[k]? = some d) : d = .int (lo + (k : Int)) ∧ k < n := by
  unfold rngD at e
  rw [List.getElem?_map] at e
  cases z : (List.range n)[k]? with
  | none => rw [z] at e; cases e
  | some j =>
    rw [z] at e
    have hk := (List.getElem?_eq_some_iff.mp z).1
    rw [List.length_range] at hk
    rw [List.getElem?_range hk] at z
    cases z
    exact ⟨(Option.some.inj e).symm, hk⟩
end
/-! ### a list at the end of the heap -/
section
variable {h l : Hh} {Q : Vl → Hh → Prop} {k : Nat} {ds : List Da} {v a0 a1 a2 : Da} {r : List Da}
theorem ex_setLE {j : Nat} {N : Hh → Prop} (hk : k = h.length) (hj : j < ds.length) (q : N (h ++ some (.lst (ds.set j v)) :: l)) : ∃ h3, setL (.r k) (.d (.int (j : Int))) (.d v) (h ++ some (.lst ds) :: l) = some h3 ∧ N h3 := by
  subst hk
  refine ⟨h ++ some (.lst (ds.set j v)) :: l, ?_, q⟩
  have e : ixN ds.length (j : Int) = some j := ixN_nat hj
  unfold setL fz
  dsimp only
  rw [get_at]
  simp only [e, set_at, Option.map_some]
end
/-! ### pairs of fractions, equal or not -/
section
variable {Q : Vl → Hh → Prop} {h : Hh} {a b c d : Rat}
end
theorem eq_of_wp {o : Out Vl} {v : Vl} {h : Hh} (w : Wp o (fun a h1 => a = v ∧ h1 = h) NX) : o = .ok v h := by
  obtain ⟨a, h1, e, rfl, rfl⟩ := wp_out w
  exact e
end Rk

/-! Rk24: t[::-1]. -/
namespace Rk
open PySem PySem.Spec L2 PyProof.Rows
section
variable {prog : Program} {w : World} {A : Around} {E : Value → Shared → Prop} {s : Shared}
theorem sliceApplied_rev {sl : Addr} {vl vu vs : Value} {n : Nat} {Q : Int × Int × Nat → Shared → Prop} (hs : s.heap.IsSliceOf sl vl vu vs) (pl : IsPart vl none) (pu : IsPart vu none) (ps : IsPart vs (some (-1)))
    (h : Q ((n : Int) - 1, -1, n) s) : wpAny (model prog w) A (Builtin.Slice.sliceApplied (.ref sl) (pure (n : Int))) Q E s := by
  obtain ⟨os, hos, hcs, hds⟩ := id hs
  unfold Builtin.Slice.sliceApplied Builtin.Slice.sliceFields
  refine wpAny_bind (wpAny_bind (wpAny_field hos hds (x := vl) rfl (wpAny_bind (wpAny_field hos hds (x := vu) rfl (wpAny_bind (wpAny_field hos hds (x := vs) rfl (wpAny_pure ?_)))))))
  refine wpAny_bind (HT.slicePart_ ps ?_)
  show wpAny _ _ (if ((-1 : Int) == 0) = true then _ else _) _ _ s
  rw [if_neg (by decide)]
  refine wpAny_bind (HT.slicePart_ pl (wpAny_bind (HT.slicePart_ pu (wpAny_bind (wpAny_pure ?_)))))
  show wpAny _ _ (pure ((n : Int) - 1, (-1 : Int), Builtin.Slice.slicePlaces ((n : Int) - 1) (-1) (-1))) _ _ s
  have e : Builtin.Slice.slicePlaces ((n : Int) - 1) (-1) (-1) = n := by
    unfold Builtin.Slice.slicePlaces
    rw [if_neg (by decide), show -(-1 : Int) = 1 from rfl, Int.ediv_one]
    split <;> omega
  rw [e]
  exact wpAny_pure h
theorem pick_rev (xs : Array Value) : ((List.range xs.size).filterMap fun (m : Nat) => xs[(((xs.size : Nat) : Int) - 1 + (m : Int) * (-1)).toNat]?).toArray = xs.toList.reverse.toArray := by
  congr 1
  apply List.ext_getElem?
  intro i
  have all : ∀ k, k ≤ xs.size → ((List.range k).filterMap fun (m : Nat) => xs[(((xs.size : Nat) : Int) - 1 + (m : Int) * (-1)).toNat]?) = (List.range k).map fun m => xs.getD (xs.size - 1 - m) .none := by
    intro k
    induction k with
    | zero => intro _; rfl
    | succ k ih =>
      intro hk
      rw [List.range_succ, List.filterMap_append, List.map_append, ih (by omega)]
      congr 1
      have e : (((xs.size : Nat) : Int) - 1 + (k : Int) * (-1)).toNat = xs.size - 1 - k := by omega
      have hlt : xs.size - 1 - k < xs.size := by omega
      simp only [List.filterMap_cons, List.filterMap_nil, List.map_cons, List.map_nil, e, Array.getElem?_eq_getElem hlt, Array.getD, dif_pos hlt]
      rfl
  rw [all xs.size (Nat.le_refl _)]
  by_cases hi : i < xs.size
  · rw [List.getElem?_map, List.getElem?_range hi, List.getElem?_reverse (by simpa using hi)]
    have h2 : xs.size - 1 - i < xs.size := by omega
    simp [Array.getD, h2]
  · rw [List.getElem?_eq_none (by simp; omega), List.getElem?_eq_none (by simp; omega)]
theorem getItem_tuple_rev {t sl : Addr} {items : Array Value} {vl vu vs : Value} {Q : Value → Shared → Prop} (ht : IsTup s.heap t items) (hs : s.heap.IsSliceOf sl vl vu vs) (pl : IsPart vl none) (pu : IsPart vu none) (ps : IsPart vs (some (-1)))
    (h : Q (.ref s.heap.objs.size) { s with heap := s.heap.push { cls := .type "tuple", data := .seq items.toList.reverse.toArray } })
    (hsz : items.size ≤ sizeLine) : wpAny (model prog w) A (getItem (.ref t) (.ref sl)) Q E s := by
  have htake : sizeOk (.seq items.toList.reverse.toArray) := by
    show items.toList.reverse.toArray.size ≤ sizeLine
    simpa using hsz
  obtain ⟨os, hos, hcs, hds⟩ := id hs
  have hTs : s.TypeIs (.ref sl) "slice" := ⟨os, hos, hcs⟩
  unfold getItem
  try with_reducible refine wpAny_holding ?_
  first | refine wpAny_bind (wpAny_pure ?_) | skip
  refine wpAny_bind (wpAny_sequenceKey ht.typeIs (by decide) ?_)
  refine wpAny_bind (wpAny_callSpecial?_slot (name := Str.ofString "__getitem__") ht.typeIs PyProof.Rows.slot_tuple_getitem
    (wpAny_call_entry PyProof.Rows.slot_tuple_getitem ht.typeIs entry_tuple_getitem ?_ (args_tuple_getitem _ _)))
  show wpAny _ _ (Builtin.Tuple.tupleItemsOf (.ref t) >>= _) _ _ s
  refine wpAny_bind (tupleItemsOf_ ht ?_)
  refine wpAny_bind (wpAny_typeOf hTs ?_)
  rw [if_pos (by decide)]
  refine wpAny_bind (sliceApplied_rev hs pl pu ps ?_)
  have hno : ¬ ((((items.size : Nat) : Int) - 1 == 0 && (-1 : Int) == 1 && items.size == items.size) = true) := by
    intro q
    rw [Bool.and_eq_true, Bool.and_eq_true] at q
    exact absurd (eq_of_beq q.1.2) (by decide)
  show wpAny _ _ (if (((items.size : Nat) : Int) - 1 == 0 && (-1 : Int) == 1 && items.size == items.size) = true then _ else _) _ _ s
  rw [if_neg hno, pick_rev]
  first
    | exact wpAny_bind (m := Builtin.Tuple.tupleExact _) (wpAny_newObj_type (wpAny_pure ⟨_, rfl, wpAny_pure h⟩) htake)
    | exact wpAny_bind (m := Builtin.Tuple.tupleExact _) (wpAny_newObj_type (wpAny_bind (wpAny_pure (wpAny_pure ⟨_, rfl, wpAny_pure h⟩))) htake)
    | exact wpAny_bind (wpAny_bind (m := Builtin.Tuple.tupleExact _) (wpAny_newObj_type (wpAny_pure (wpAny_pure ⟨_, rfl, wpAny_pure h⟩)) htake))
    | exact wpAny_bind (wpAny_bind (m := Builtin.Tuple.tupleExact _) (wpAny_newObj_type (wpAny_pure ⟨_, rfl, wpAny_pure h⟩) htake))
end
theorem vals_rev {xs : List V} {us : List Value} (r : Vals xs us) : Vals xs.reverse us.reverse := by
  have app : ∀ {a b : List V} {c d : List Value}, Vals a c → Vals b d → Vals (a ++ b) (c ++ d) := by
    intro a b c d h1 h2
    induction h1 with
    | nil => exact h2
    | cons r t ih => exact .cons r ih
  induction r with
  | nil => exact .nil
  | cons r t ih =>
    rw [List.reverse_cons, List.reverse_cons]
    exact app ih (.cons r .nil)
theorem reps_rev {K : PySem.W.Frag} {H : Hp} {M : Addr → Prop} : ∀ {xs : List V} {ds : List Da}, Reps K H M xs ds → Reps K H M xs.reverse ds.reverse
  | _, _, .nil => .nil
  | _, _, .cons r t => by
    rw [List.reverse_cons, List.reverse_cons]
    exact (reps_rev t).append (.cons r .nil)
def tRev (K : PySem.W.Frag) (te : TE) (tl th ts : TO) : TE := fun σ H Q => te σ H fun x H1 => tl σ H1 fun lo H2 => th σ H2 fun hi H3 => ts σ H3 fun st H4 => ∃ a xs, x = .ref a ∧ SqT K H4 a xs ∧ lo = none ∧ hi = none ∧ st = some (-1) ∧ ∀ p, H4 p = none → Q (.ref p) (upd H4 p (.tup xs.reverse))
section
variable {X : Cx}
theorem pe_rev {e : Expr} {lo hi : Option Expr} {st : Expr} {te : TE} {tl th ts : TO} {p3 pos : Pos} (he : PE X e te) (hl : PO X lo tl) (hh : PO X hi th) (hs : PO X (some st) ts) : PE X (.Subscript e (.Slice lo hi (some st) p3) pos) (tRev X.K te tl th ts) := by
  constructor
  intro pins s σ H Q I h
  refine Subscript_ (thn (he.run pins s σ H _ I h) ?_)
  rintro v s1 ⟨x, H1, I1, r1, q1⟩
  refine wpAny_Slice (thn (hl.run pins s1 σ H1 _ I1 q1) ?_)
  rintro vl s2 ⟨l, H2, I2, pl, q2⟩
  refine thn (hh.run pins s2 σ H2 _ I2 q2) ?_
  rintro vu s3 ⟨u, H3, I3, pu, q3⟩
  refine thn (hs.run pins s3 σ H3 _ I3 q3) ?_
  rintro vs s4 ⟨o, H4, I4, ps, a, xs, ex, hx, rfl, rfl, rfl, q⟩
  subst ex
  cases r1
  have I5 : Inv X pins σ H4 { s4 with heap := s4.heap.push { cls := .type "slice", data := .fields #[vl, vu, vs] } } := I4.kept (t' := s4.toks) fun b ob z => Heap.get?_push_of_some _ z
  obtain ⟨its, r, ht, hz⟩ := I5.tuple hx
  have hlen := r.length
  refine tail_any (ops := [.ref a, .ref s4.heap.objs.size]) ht.typeIs PyProof.Rows.slot_tuple_getitem.lookup ?_ (by with_unfolding_all rfl)
  refine getItem_tuple_rev ht (Heap.IsSliceOf.new _ vl vu vs) pl pu ps ?_ (by rw [List.size_toArray, ← hlen]; exact hz)
  refine ⟨.ref _, _, I5.laid (t' := s4.toks) (o := .tup xs.reverse) (fun b ob z => Heap.get?_push_of_some _ z) (Nat.le_refl _) ?_, rfl, q _ (I5.hok.fresh (Nat.le_refl _))⟩
  exact ⟨by rw [List.length_reverse]; exact hz, _, vals_rev r, IsTup.new _ _⟩
theorem PE.orr {e : Expr} {t u : TE} (h : PE X e t) (k : PE X e u) : PE X e (fun σ H Q => t σ H Q ∨ u σ H Q) := ⟨fun pins s σ H Q I w => w.elim (h.run pins s σ H Q I) (k.run pins s σ H Q I)⟩
end
def gRv (x : Vl) (h : Hh) : Option (Vl × Hh) := match x with
  | .d (.tuple xs) => some (.d (.tuple xs.reverse), h)
  | x => gSt x none none (some (-1)) h
def eRv (f : Ev) : Ev := fun ρ h => (f ρ h).bind fun x h1 => ofO (gRv x h1)
section
variable {X : Cx} {W : WX} {a st : Expr} {fa : Ev} {pos p2 : Pos} {fs : Ov}
theorem ee_rv (ha : EE X W a fa) (hs : EO X W (some st) fs) (hf : ∀ ρ h, fs ρ h = .ok (some (-1)) h) : EE X W (.Subscript a (.Slice none none (some st) p2) pos) (eRv fa) :=
  PE.of (PE.orr (ee_step ha eo_none eo_none hs) (pe_rev ha (eo_none (X := X) (W := W)) (eo_none (X := X) (W := W)) hs)) fun σ H Q ⟨φ, h, ρ, sm, er, q⟩ => by
    unfold eRv at q
    by_cases c : ∃ xs h1, fa ρ h = .ok (.d (.tuple xs)) h1
    · right
      obtain ⟨xs, h1, e⟩ := c
      rw [e] at q
      refine ⟨φ, h, ρ, sm, er, ?_⟩
      rw [e]
      intro x H1 φ1 st1 sm1 rv
      refine ⟨φ1, h1, ρ, sm1, er.step st1, fun H2 φ2 st2 sm2 => ⟨φ2, h1, ρ, sm2, (er.step st1).step st2, fun H3 φ3 st3 sm3 => ⟨φ3, h1, ρ, sm3, ((er.step st1).step st2).step st3, ?_⟩⟩⟩
      rw [hf]
      intro H4 φ4 st4 sm4
      have rv4 := rv.step ((st2.trans st3).trans st4)
      obtain ⟨p, zs, rfl, sq, rs⟩ := VRep.tup rv4
      refine ⟨p, zs, rfl, sq, rfl, rfl, rfl, fun n hn => ?_⟩
      obtain ⟨s1, s2, s3⟩ := new_tup sm4 (reps_rev rs) hn
      exact q _ _ _ ((((st1.trans st2).trans st3).trans st4).trans s1) s2 s3
    · left
      refine ⟨φ, h, ρ, sm, er, ?_⟩
      revert q
      unfold eSt
      cases e : fa ρ h with
      | no => exact fun q => q
      | ex c fs h1 => exact fun q => q
      | ok v h1 =>
        show PoX _ _ _ _ _ (ofO (gRv v h1)) _ _ → PoX _ _ _ _ _ ((fs ρ h1).bind _) _ _
        rw [hf]
        have : gRv v h1 = gSt v none none (some (-1)) h1 := by
          unfold gRv
          split
          · exact absurd ⟨_, _, e⟩ c
          · rfl
        rw [this]
        exact fun q => q
end
section
variable {Q : Vl → Hh → Prop} {E : XP} {ρ : En} {h : Hh} {a : Ev} {xs : List Da}
theorem wp_rv (w : Wp (a ρ h) (fun x h1 => Wo (gRv x h1) Q) E) : Wp (eRv a ρ h) Q E := wp_bind (w.mono (fun _ _ w => wo_of w) fun _ _ _ z => z)
theorem wp_fzR (w : Wp (eRv a ρ h) (fun v h1 => FzK v h1 h.length Q) (fun c fs h1 => E c fs (h1.take h.length))) : Wp (eFz (eRv a) ρ h) Q E := wp_fz w
end
/-! ### append to a list at the end -/
section
variable {Q : Vl → Hh → Prop} {E : XP} {ρ : En} {h l : Hh} {o : Ev} {as : Av} {g : GM} {k : Nat} {ds es : List Da} {v : Da} {A : Prop}
theorem wp_mtL (w : Wp (o ρ h) (fun x h1 => tyL x h1 = true ∧ Wp (as ρ h1) (fun vs h2 => Wo (g x vs h2) Q) E) E) : Wp (eMt tyL g o as ρ h) Q E :=
  wp_bind (w.mono (fun _ _ ⟨e, w⟩ => by
    rw [if_pos e]
    exact wp_bind (w.mono (fun _ _ w => wo_of w) fun _ _ _ z => z)) fun _ _ _ z => z)
theorem tyL_E (hk : h.length = k) (a : A) : tyL (.r k) (h ++ some (.lst ds) :: l) = true ∧ A := by
  subst hk
  exact ⟨tyL_at get_at, a⟩
theorem wo_appE (hk : h.length = k) (e : ds ++ [v] = es) (hl : ds.length < 16777216) (q : Q (.d .none) (h ++ some (.lst es) :: l)) : Wo (gApp (.r k) [.d v] (h ++ some (.lst ds) :: l)) Q := by
  subst hk
  refine wo_eq (gApp_at get_at hl) ?_
  rw [set_at, e]
  exact q
end
def mn4 (p q r s : Rat) : Rat := mn (mn (mn p q) r) s
def mx4 (p q r s : Rat) : Rat := mx (mx (mx p q) r) s
section
variable {Q : Vl → Hh → Prop} {h : Hh} {ds : List Da} {r : Rat} {i : Int} {b : Bool} {x : Str}
theorem wo_isNn (q : Q (.d (.bool true)) h) : Wo (gIsN (.d .none) (.d .none) h) Q := q
theorem wo_isNt (q : Q (.d (.bool false)) h) : Wo (gIsN (.d (.tuple ds)) (.d .none) h) Q := q
theorem wo_ntNn (q : Q (.d (.bool false)) h) : Wo (gNotN (.d .none) (.d .none) h) Q := q
theorem wo_ntNt (q : Q (.d (.bool true)) h) : Wo (gNotN (.d (.tuple ds)) (.d .none) h) Q := q
end
end Rk

/-! Rk25: comprehensions part by part; strings; rulers. -/
namespace Rk
open PySem PySem.Spec L2
def LcK (D : Nat) (g : Gv) (fe : Ev) (ρ0 : En) (ds acc : List Da) (hb : Hh) (Q : Vl → Hh → Prop) : Prop :=
  Wp (lcL none D g tvYes fe ρ0 ds (hb ++ [some (.lst acc)])) (fun v h1 => FzK v h1 D Q) NX
section
variable {Q : Vl → Hh → Prop} {E : XP} {ρ ρ0 : En} {h hb : Hh} {i : Iv} {g : Gv} {fe : Ev} {ws : List Nat} {D : Nat} {d : Da} {ds acc acc' : List Da}
theorem wp_lcU (e00 : wipeE ρ ws = ρ0) (w : Wp (i ρ h) (fun m h1 => m.gd = none ∧ h1.length = h.length ∧ LcK h.length g fe ρ0 m.ds [] h1 Q) (fun c fs h1 => E c fs (h1.take h.length))) : Wp (eFz (eLc ws i g tvYes fe) ρ h) Q E := by
  subst e00
  refine wp_fz (wp_bind (w.mono ?_ fun _ _ _ z => z))
  rintro ⟨ds, gd⟩ h1 ⟨e0, hl, w⟩
  dsimp only at e0 w
  subst e0
  dsimp only
  rw [hl]
  exact Wp.mono w (fun _ _ z => z) fun _ _ _ z => z.elim
theorem lck_nil (e : hb.length = D) (q : Q (.d (.list acc)) hb) : LcK D g fe ρ0 [] acc hb Q := by
  subst e
  unfold LcK
  rw [lcL_nil (gd := none) trivial]
  exact wp_eq rfl (fzk_end rfl q)
theorem lck_cons (w : GvK (g (.d d) ρ0 (hb ++ [some (.lst acc)])) fun ρ1 h1 => Wp (fe ρ1 h1) (fun v h2 => ∃ x hb', v = .d x ∧ h2 = hb' ++ [some (.lst acc)] ∧ hb'.length = D ∧ acc.length < 16777216 ∧ LcK D g fe ρ0 ds (acc ++ [x]) hb' Q) NX) : LcK D g fe ρ0 (d :: ds) acc hb Q := by
  unfold LcK
  unfold GvK Wo at w
  revert w
  cases e : g (.d d) ρ0 (hb ++ [some (.lst acc)]) with
  | none => exact fun z => z.elim
  | some p =>
    obtain ⟨ρ1, h1⟩ := p
    intro w
    obtain ⟨v, h2, e2, x, hb', rfl, rfl, e3, hl, w⟩ := wp_out w
    rw [lcL_cons (gd := none) trivial e rfl e2 (appL_end e3 hl)]
    exact w
end
section
variable {Q : Vl → Hh → Prop} {h : Hh} {R : Ruler}
end
end Rk

/-! Rk26: how far rounding goes. -/
namespace Rk
open PySem PySem.Spec L2
section
variable {R : Ruler} {x y : Rat} {n m : Nat}
end
end Rk

/-! Rk27: a list at the end, beside a state that is drawn from: the heap in the form (h ++ list :: l).set n o. -/
namespace Rk
open PySem PySem.Spec L2
section
variable {h l : Hh} {Q : Vl → Hh → Prop} {E : XP} {k n m : Nat} {ds es : List Da} {v a0 a1 : Da} {r : List Da} {o : Option Ob} {A : Prop} {N : En → Hh → Prop} {D : Ds} {ρ : En} {i : Nat}
theorem wp_norm {f : Fn} {as : List Vl} (hn : n < h.length) (w : n < (h ++ l).length → Wp (f as ((h ++ l).set n o)) Q E) : Wp (f as (h.set n o ++ l)) Q E := by
  have := w (by rw [List.length_append]; omega)
  rwa [set_app hn] at this
theorem wo_appS (hn : n < h.length) (hk : h.length = k) (e : ds ++ [v] = es) (hl : ds.length < 16777216) (q : Q (.d .none) ((h ++ some (.lst es) :: l).set n o)) : Wo (gApp (.r k) [.d v] ((h ++ some (.lst ds) :: l).set n o)) Q := by
  rw [set_app hn]
  rw [set_app hn] at q
  exact wo_appE (by rw [List.length_set]; exact hk) e hl q
theorem tyL_S (hn : n < h.length) (hk : h.length = k) (a : A) : tyL (.r k) ((h ++ some (.lst ds) :: l).set n o) = true ∧ A := by
  rw [set_app hn]
  exact tyL_E (by rw [List.length_set]; exact hk) a
theorem ws_frzS (hn : n < h.length) (hk : h.length = k) (ev : ρ[i]? = some (some (.r k))) (q : SetK i ρ (.d (.list ds)) ((h ++ none :: l).set n o) N) : Ws (sFrz i ρ ((h ++ some (.lst ds) :: l).set n o)) N D := by
  rw [set_app hn]
  rw [set_app hn] at q
  exact ws_frzE (by rw [List.length_set]; exact hk) ev q
theorem retK_S {x : Da} (hn : n < h.length) (e : h.length = m) (q : Q (.d x) (h.set n o)) : RetK m Q (.d x) ((h ++ l).set n o) := by
  rw [set_app hn]
  exact retK_d' (by rw [List.length_set]; exact e) q
end
end Rk

/-! Rk28: zip of two lists or of two tuples of data; all and any of a list of truths. -/
namespace Rk
open PySem PySem.Spec L2
variable {mg : Str → Option Value}
def zipD (xs ys : List Da) : List Da := (xs.zip ys).map fun p => .tuple [p.1, p.2]
theorem zipD_len (xs ys : List Da) : (zipD xs ys).length = min xs.length ys.length := by
  unfold zipD
  rw [List.length_map, List.length_zip]
section
variable {K : PySem.W.Frag}
end
def iZip (as : Av) : Iv := fun ρ h => (as ρ h).bind fun vs h1 => match vs with
  | [.d (.list xs), .d (.list ys)] => .ok ⟨zipD xs ys, none⟩ h1
  | [.d (.tuple xs), .d (.tuple ys)] => .ok ⟨zipD xs ys, none⟩ h1
  | _ => .no
section
variable {X : Cx} {W : WX} {pos p : Pos} {fs : Av}
end
section
variable {QI : Itm → Hh → Prop} {E : XP} {ρ : En} {h : Hh} {as : Av} {xs ys : List Da}
end
def boolsOf : List Da → Option (List Bool)
  | [] => some []
  | .bool b :: r => (boolsOf r).map (b :: ·)
  | _ => none
def intsOf : List Da → Option (List Int)
  | [] => some []
  | .int b :: r => (intsOf r).map (b :: ·)
  | _ => none
def gAll : GC := fun as h => match as with
  | [.d (.list ds)] => (boolsOf ds).map fun bs => (.d (.bool (bs.all id)), h)
  | _ => none
def gAny : GC := fun as h => match as with
  | [.d (.list ds)] => (boolsOf ds).map fun bs => (.d (.bool (bs.any id)), h)
  | _ => none
def gSum : GC := fun as h => match as with
  | [.d (.list ds)] => (intsOf ds).map fun ns => (.d (.int ns.sum), h)
  | _ => none
def minI : Int → List Int → Int
  | a, [] => a
  | a, b :: r => min a (minI b r)
def maxI : Int → List Int → Int
  | a, [] => a
  | a, b :: r => max a (maxI b r)
def gMinL : GC := fun as h => match as with
  | [.d (.list ds)] => match intsOf ds with
    | some (a :: r) => some (.d (.int (minI a r)), h)
    | _ => none
  | _ => none
def gMaxL : GC := fun as h => match as with
  | [.d (.list ds)] => match intsOf ds with
    | some (a :: r) => some (.d (.int (maxI a r)), h)
    | _ => none
  | _ => none
section
variable {K : PySem.W.Frag} {H : Hp} {L : Nat → Prop}
theorem reps_bools {φ : List Addr} {h : Hh} : ∀ {ds : List Da} {us : List V} {bs : List Bool}, Reps K H (Live φ h) us ds → boolsOf ds = some bs → us = bs.map V.bl
  | [], us, bs, rs, e => by
    cases e
    cases rs
    rfl
  | d :: ds, us, bs, rs, e => by
    cases rs with
    | cons r rr =>
      cases d <;> try (simp only [boolsOf, reduceCtorEq] at e)
      rename_i b
      obtain ⟨cs, e1, rfl⟩ := Option.map_eq_some_iff.mp (show (boolsOf ds).map (b :: ·) = some bs from e)
      rw [reps_bools rr e1]
      cases r
      rfl
theorem ok_all : OkC K mg (rAll K) gAll := by
  intro φ h H xs as Q v h' sm rs e k
  unfold gAll at e
  split at e
  · rename_i ds
    obtain ⟨bs, e1, e2⟩ := Option.map_eq_some_iff.mp e
    cases e2
    obtain ⟨x, rfl, r⟩ := rs.one
    obtain ⟨_, gd, a, G, rfl, L, g⟩ := itL_lok sm r rfl
    obtain ⟨us, sq, rs'⟩ := L.sq _ _ _ sm g gd
    rw [reps_bools rs' e1] at sq
    exact ⟨a, bs, rfl, sq, k _ H φ (Step.refl _ _ _) sm (Rep.bl _)⟩
  · cases e
end
theorem boolsOf_map {α : Type} (g : α → Bool) : ∀ xs : List α, boolsOf (xs.map fun x => .bool (g x)) = some (xs.map g)
  | [] => rfl
  | x :: xs => by
    show (boolsOf (xs.map fun x => .bool (g x))).map (g x :: ·) = _
    rw [boolsOf_map g xs]
    rfl
section
variable {Q : Vl → Hh → Prop} {h : Hh} {ds : List Da} {bs : List Bool} {ns : List Int} {a : Int}
theorem wo_all (e : boolsOf ds = some bs) (q : Q (.d (.bool (bs.all id))) h) : Wo (gAll [.d (.list ds)] h) Q := wo_eq (v := .d (.bool (bs.all id))) (h' := h) (by unfold gAll; dsimp only; rw [e]; rfl) q
end
def repB (n : Nat) (k : Int) : Bool := decide (2 ≤ k) && decide (k ≤ 1000) && decide (0 < n) && decide (n ≤ 1000)
def repBL (n : Nat) (k : Int) : Bool := decide (1 ≤ k) && decide (k ≤ 1000) && decide (0 < n) && decide (n ≤ 1000)
def gRepL : G2 := fun x y h => match x, y with
  | .r n, .d (.int k) => match h[n]? with
    | some (some (.lst ds)) => if repBL ds.length k then some (.r h.length, h ++ [some (.lst (List.replicate k.toNat ds).flatten)]) else none
    | _ => none
  | _, _ => none
def gRepT : G2 := fun x y h => match x, y with
  | .d (.tuple ds), .d (.int k) => if repB ds.length k then some (.d (.tuple (List.replicate k.toNat ds).flatten), h) else none
  | _, _ => none
section
variable {K : PySem.W.Frag}
end
section
variable {Q : Vl → Hh → Prop} {h : Hh} {ds es : List Da} {k : Int} {n : Nat}
end
end Rk

/-! Rk29: whole multiples of powers, grains. -/
namespace Rk
open PySem PySem.Spec L2
def Mult (R : Ruler) (x : Rat) (g : Int) : Prop := ∃ k : Int, x = (k : Rat) * R.pw g
section
variable {R : Ruler} {x y a b : Rat} {n m : Nat} {g j : Int}
def IsGrn (R : Ruler) (x : Rat) (g : Int) : Prop := Mult R x g ∧ ¬ Mult R x (g + 1)
noncomputable def Ruler.grn (R : Ruler) (x : Rat) : Int := Classical.epsilon (IsGrn R x)
noncomputable def grnV (R : Ruler) (x : Rat) : Option Int := if x = 0 then none else some (R.grn x)
noncomputable def spnG (R : Ruler) (a b : Rat) : Option Int := if a = b then grnV R a else if a ≤ 0 ∧ 0 ≤ b then some R.l else some (R.plc (mn a.abs b.abs))
end
section
variable {α : Type} {h : Hh} {Q : Vl → Hh → Prop}
theorem atI_neg {xs : List α} {k : Nat} {v : α} (hk : 0 < k) (hl : k ≤ xs.length) (e : xs[xs.length - k]? = some v) : atI xs (-(k : Int)) = some v := by
  unfold atI ixN
  rw [if_neg (by omega), if_pos (by omega)]
  show xs[(-(k : Int) + xs.length).toNat]? = some v
  rw [show (-(k : Int) + xs.length).toNat = xs.length - k by omega]
  exact e
end
end Rk

/-! Rk30: data without truths, its equality. -/
namespace Rk
open PySem PySem.Spec L2
mutual
def noB : Da → Bool
  | .none | .int _ | .str _ => true
  | .bool _ | .dict _ => false
  | .list xs | .tuple xs => noBs xs
def noBs : List Da → Bool
  | [] => true
  | x :: xs => noB x && noBs xs
end
mutual
theorem eqv_noB : ∀ (a b : Da), noB a = true → noB b = true → (PyData.eqv a b = true ↔ a = b)
  | .none, b, _, hb => by cases b <;> simp_all [PyData.eqv, noB]
  | .int i, b, _, hb => by cases b <;> simp_all [PyData.eqv, noB]
  | .str s, b, _, hb => by cases b <;> simp_all [PyData.eqv, noB]
  | .list xs, b, ha, hb => by
    cases b with
    | list ys =>
      have := eqv_noBs xs ys (by simpa [noB] using ha) (by simpa [noB] using hb)
      simp [PyData.eqv, this]
    | _ => simp_all [PyData.eqv, noB]
  | .tuple xs, b, ha, hb => by
    cases b with
    | tuple ys =>
      have := eqv_noBs xs ys (by simpa [noB] using ha) (by simpa [noB] using hb)
      simp [PyData.eqv, this]
    | _ => simp_all [PyData.eqv, noB]
  | .bool b, _, h, _ => by simp [noB] at h
  | .dict kvs, _, h, _ => by simp [noB] at h
theorem eqv_noBs : ∀ (a b : List Da), noBs a = true → noBs b = true → (PyData.eqvAll a b = true ↔ a = b)
  | [], [], _, _ => by simp [PyData.eqvAll]
  | [], _ :: _, _, _ => by simp [PyData.eqvAll]
  | _ :: _, [], _, _ => by simp [PyData.eqvAll]
  | x :: xs, y :: ys, ha, hb => by
    simp only [noBs, Bool.and_eq_true] at ha hb
    have h1 := eqv_noB x y ha.1 hb.1
    have h2 := eqv_noBs xs ys ha.2 hb.2
    simp [PyData.eqvAll, h1, h2]
end
mutual
theorem eqv_self : ∀ (a : Da), a.canLay0 = true → PyData.eqv a a = true
  | .none, _ => by simp [PyData.eqv]
  | .int i, _ => by simp [PyData.eqv]
  | .str s, _ => by simp [PyData.eqv]
  | .bool b, _ => by simp [PyData.eqv]
  | .list xs, h => by
    have := eqv_selfs xs (by simpa [PyData.canLay0] using h)
    simp [PyData.eqv, this]
  | .tuple xs, h => by
    have := eqv_selfs xs (by simpa [PyData.canLay0] using h)
    simp [PyData.eqv, this]
  | .dict kvs, h => by simp [PyData.canLay0] at h
theorem eqv_selfs : ∀ (a : List Da), PyData.canLayAll0 a = true → PyData.eqvAll a a = true
  | [], _ => by simp [PyData.eqvAll]
  | x :: xs, h => by
    simp only [PyData.canLayAll0, Bool.and_eq_true] at h
    simp [PyData.eqvAll, eqv_self x h.1, eqv_selfs xs h.2]
end
mutual
theorem nd_lay : ∀ (a : Da), a.canLay0 = true → a.hasDict = false
  | .none, _ => rfl
  | .int i, _ => rfl
  | .str s, _ => rfl
  | .bool b, _ => rfl
  | .list xs, h => by
    unfold PyData.hasDict
    exact nd_lays xs (by simpa [PyData.canLay0] using h)
  | .tuple xs, h => by
    unfold PyData.hasDict
    exact nd_lays xs (by simpa [PyData.canLay0] using h)
  | .dict kvs, h => by simp [PyData.canLay0] at h
theorem nd_lays : ∀ (a : List Da), PyData.canLayAll0 a = true → PyData.hasDictAll a = false
  | [], _ => rfl
  | x :: xs, h => by
    simp only [PyData.canLayAll0, Bool.and_eq_true] at h
    unfold PyData.hasDictAll
    rw [nd_lay x h.1, nd_lays xs h.2]
    rfl
end
/-- data that may be laid and compared: p tells whether it is without truths -/
structure Ly (p : Bool) (e : Nat) (x : Da) : Prop where
  s : x.canLay0 = true
  d : x.depth ≤ e
  n : p = true → noB x = true
structure LyL (p : Bool) (e : Nat) (ds : List Da) : Prop where
  s : PyData.canLayAll0 ds = true
  d : PyData.depthAll ds ≤ e
  n : p = true → noBs ds = true
section
variable {p : Bool} {e e' : Nat} {x y : Da} {ds es : List Da} {i : Int} {r : Rat}
theorem Ly.none : Ly p 0 .none := ⟨by simp [PyData.canLay0], by simp [PyData.depth], fun _ => by simp [noB]⟩
theorem Ly.int : Ly p 0 (.int i) := ⟨by simp [PyData.canLay0], by simp [PyData.depth], fun _ => by simp [noB]⟩
theorem Ly.bool {b : Bool} : Ly false 0 (.bool b) := ⟨by simp [PyData.canLay0], by simp [PyData.depth], fun h => by cases h⟩
theorem Ly.str {s : Str} (h : PyData.strOk s = true) : Ly p 0 (.str s) := ⟨by simp [PyData.canLay0, h], by simp [PyData.depth], fun _ => by simp [noB]⟩
theorem LyL.nil : LyL p 0 [] := ⟨by simp [PyData.canLayAll0], by simp [PyData.depthAll], fun _ => by simp [noBs]⟩
theorem LyL.cons (h : Ly p e x) (t : LyL p e' ds) : LyL p (max e e') (x :: ds) := ⟨by simp [PyData.canLayAll0, h.s, t.s], by
  have h1 := h.d
  have h2 := t.d
  simp only [PyData.depthAll]
  omega, fun z => by simp [noBs, h.n z, t.n z]⟩
theorem Ly.tup (t : LyL p e ds) : Ly p (e + 1) (.tuple ds) := ⟨by simp [PyData.canLay0, t.s], by
  have h2 := t.d
  simp only [PyData.depth]
  omega, fun z => by simp [noB, t.n z]⟩
theorem Ly.lst (t : LyL p e ds) : Ly p (e + 1) (.list ds) := ⟨by simp [PyData.canLay0, t.s], by
  have h2 := t.d
  simp only [PyData.depth]
  omega, fun z => by simp [noB, t.n z]⟩
theorem Ly.Q : Ly p 1 (Q r) := Ly.tup (LyL.cons .int (LyL.cons .int .nil))
theorem Ly.mono (h : Ly p e x) (hl : e ≤ e') : Ly p e' x := ⟨h.s, Nat.le_trans h.d hl, h.n⟩
theorem LyL.of (h : ∀ d ∈ ds, Ly p e d) : LyL p e ds := by
  induction ds with
  | nil => exact ⟨LyL.nil (p := p).s, Nat.le_trans (LyL.nil (p := p)).d (Nat.zero_le _), (LyL.nil (p := p)).n⟩
  | cons d ds ih =>
    have := LyL.cons (h d (List.mem_cons_self ..)) (ih fun z hz => h z (List.mem_cons_of_mem _ hz))
    rwa [Nat.max_self] at this
theorem Ly.sh (h : Ly p e x) (he : e ≤ 64) : sh x = true := by
  unfold Rk.sh SeqAt.shaped
  rw [h.s, decide_eq_true (Nat.le_trans h.d he), nd_lay x h.s]
  rfl
variable {Q : Vl → Hh → Prop} {h : Hh}
theorem gEq_d (x y : Da) (h : Hh) (b : Bool) (e : eqvB x y = some b) (hs : ∀ a c, x = .str a → y = .str c → b = decide (a = c)) : gEq (.d x) (.d y) h = some (.d (.bool b), h) := by
  unfold gEq
  split
  · rename_i a c e1 e2
    cases e1
    cases e2
    rw [hs a c rfl rfl]
  · rename_i hh
    simp only [asD]
    rw [e]
    rfl
open Classical in
theorem eqvB_p (hx : Ly true e x) (hy : Ly true e' y) (he : e ≤ 64) (he' : e' ≤ 64) : eqvB x y = some (decide (x = y)) := by
  unfold eqvB
  rw [hx.sh he, hy.sh he']
  have := eqv_noB x y (hx.n rfl) (hy.n rfl)
  simp only [Bool.and_self, if_true, Option.some.injEq]
  rw [Bool.eq_iff_iff, this, decide_eq_true_iff]
open Classical in
theorem wo_eqP (hx : Ly true e x) (hy : Ly true e' y) (he : e ≤ 64) (he' : e' ≤ 64) (q : Q (.d (.bool (decide (x = y)))) h) : Wo (gEq (.d x) (.d y) h) Q := wo_eq (gEq_d x y h _ (eqvB_p hx hy he he') (fun a c e1 e2 => by subst e1; subst e2; simp)) q
end
end Rk

/-! Rk31: more rules by wishes. -/
namespace Rk
open PySem PySem.Spec L2
theorem wo_eqNo {Q : Vl → Hh → Prop} {h : Hh} {x y : Da} {e e' : Nat} (hx : Ly true e x) (hy : Ly true e' y) (he : e ≤ 64) (he' : e' ≤ 64) (ne : x ≠ y) (q : Q (.d (.bool false)) h) : Wo (gEq (.d x) (.d y) h) Q := wo_eqP hx hy he he' (by simp only [ne, decide_false]; exact q)
theorem wo_eqSS {Q : Vl → Hh → Prop} {h : Hh} {x : Str} (q : Q (.d (.bool true)) h) : Wo (gEq (.d (.str x)) (.d (.str x)) h) Q := wo_eqS (by rw [decide_eq_true rfl]; exact q)
theorem wo_neSS {Q : Vl → Hh → Prop} {h : Hh} {x : Str} (q : Q (.d (.bool false)) h) : Wo (gNe (.d (.str x)) (.d (.str x)) h) Q := wo_neS (by rw [decide_eq_true rfl]; exact q)
theorem retK_nil {h : Hh} {x : Da} {Q : Vl → Hh → Prop} (q : Q (.d x) []) : RetK ([] : Hh).length Q (.d x) h := ⟨.d x, [], by show Out.ok _ _ = _; simp, q⟩
section
variable {α : Type} {Q : Vl → Hh → Prop} {h : Hh} {xs ys : List Da} {ρ : En} {N : En → Hh → Prop}
theorem cut_to (xs : List α) (k : Nat) : cutD xs none (some (k : Int)) = xs.take k := by
  unfold cutD
  rw [HT.sIx_nat, HT.sIx_none, List.drop_zero, Nat.sub_zero]
  by_cases h : k ≤ xs.length
  · rw [Nat.min_eq_left h]
  · rw [Nat.min_eq_right (by omega), List.take_length, List.take_of_length_le (by omega)]
theorem cut_from (xs : List α) (k : Nat) : cutD xs (some (k : Int)) none = xs.drop k := by
  unfold cutD
  rw [HT.sIx_nat, HT.sIx_none]
  by_cases h : k ≤ xs.length
  · rw [Nat.min_eq_left h, List.take_of_length_le (by rw [List.length_drop]; omega)]
  · rw [Nat.min_eq_right (by omega), List.drop_of_length_le (by omega), List.drop_of_length_le (by omega), List.take_nil]
theorem cut_mid (xs : List α) (i j : Nat) : cutD xs (some (i : Int)) (some (j : Int)) = (xs.drop i).take (j - i) := by
  unfold cutD
  rw [HT.sIx_nat, HT.sIx_nat]
  by_cases h2 : i ≤ xs.length
  · rw [Nat.min_eq_left h2]
    by_cases h : j ≤ xs.length
    · rw [Nat.min_eq_left h]
    · rw [List.take_of_length_le (by rw [List.length_drop]; omega), List.take_of_length_le (by rw [List.length_drop]; omega)]
  · rw [List.drop_of_length_le (by omega), List.drop_of_length_le (by omega), List.take_nil, List.take_nil]
theorem cut_to0 (xs : List α) : cutD xs none (some 0) = xs.take 0 := cut_to xs 0
theorem cut_from0 (xs : List α) : cutD xs (some 0) none = xs.drop 0 := cut_from xs 0
theorem cut_to1 (xs : List α) : cutD xs none (some 1) = xs.take 1 := cut_to xs 1
theorem cut_from1 (xs : List α) : cutD xs (some 1) none = xs.drop 1 := cut_from xs 1
theorem cut_to2 (xs : List α) : cutD xs none (some 2) = xs.take 2 := cut_to xs 2
theorem cut_from2 (xs : List α) : cutD xs (some 2) none = xs.drop 2 := cut_from xs 2
theorem cut_to3 (xs : List α) : cutD xs none (some 3) = xs.take 3 := cut_to xs 3
theorem cut_from3 (xs : List α) : cutD xs (some 3) none = xs.drop 3 := cut_from xs 3
theorem cut_to4 (xs : List α) : cutD xs none (some 4) = xs.take 4 := cut_to xs 4
theorem cut_from4 (xs : List α) : cutD xs (some 4) none = xs.drop 4 := cut_from xs 4
theorem cut_to5 (xs : List α) : cutD xs none (some 5) = xs.take 5 := cut_to xs 5
theorem cut_from5 (xs : List α) : cutD xs (some 5) none = xs.drop 5 := cut_from xs 5
theorem cut_to6 (xs : List α) : cutD xs none (some 6) = xs.take 6 := cut_to xs 6
theorem cut_from6 (xs : List α) : cutD xs (some 6) none = xs.drop 6 := cut_from xs 6
theorem cut_to7 (xs : List α) : cutD xs none (some 7) = xs.take 7 := cut_to xs 7
theorem cut_from7 (xs : List α) : cutD xs (some 7) none = xs.drop 7 := cut_from xs 7
theorem cut_to8 (xs : List α) : cutD xs none (some 8) = xs.take 8 := cut_to xs 8
theorem cut_from8 (xs : List α) : cutD xs (some 8) none = xs.drop 8 := cut_from xs 8
theorem cut_to9 (xs : List α) : cutD xs none (some 9) = xs.take 9 := cut_to xs 9
theorem cut_from9 (xs : List α) : cutD xs (some 9) none = xs.drop 9 := cut_from xs 9
theorem cut_0_1 (xs : List α) : cutD xs (some 0) (some 1) = (xs.drop 0).take 1 := cut_mid xs 0 1
theorem cut_0_2 (xs : List α) : cutD xs (some 0) (some 2) = (xs.drop 0).take 2 := cut_mid xs 0 2
theorem cut_0_3 (xs : List α) : cutD xs (some 0) (some 3) = (xs.drop 0).take 3 := cut_mid xs 0 3
theorem cut_0_4 (xs : List α) : cutD xs (some 0) (some 4) = (xs.drop 0).take 4 := cut_mid xs 0 4
theorem cut_0_5 (xs : List α) : cutD xs (some 0) (some 5) = (xs.drop 0).take 5 := cut_mid xs 0 5
theorem cut_0_6 (xs : List α) : cutD xs (some 0) (some 6) = (xs.drop 0).take 6 := cut_mid xs 0 6
theorem cut_1_2 (xs : List α) : cutD xs (some 1) (some 2) = (xs.drop 1).take 1 := cut_mid xs 1 2
theorem cut_1_3 (xs : List α) : cutD xs (some 1) (some 3) = (xs.drop 1).take 2 := cut_mid xs 1 3
theorem cut_1_4 (xs : List α) : cutD xs (some 1) (some 4) = (xs.drop 1).take 3 := cut_mid xs 1 4
theorem cut_1_5 (xs : List α) : cutD xs (some 1) (some 5) = (xs.drop 1).take 4 := cut_mid xs 1 5
theorem cut_1_6 (xs : List α) : cutD xs (some 1) (some 6) = (xs.drop 1).take 5 := cut_mid xs 1 6
theorem cut_2_3 (xs : List α) : cutD xs (some 2) (some 3) = (xs.drop 2).take 1 := cut_mid xs 2 3
theorem cut_2_4 (xs : List α) : cutD xs (some 2) (some 4) = (xs.drop 2).take 2 := cut_mid xs 2 4
theorem cut_2_5 (xs : List α) : cutD xs (some 2) (some 5) = (xs.drop 2).take 3 := cut_mid xs 2 5
theorem cut_2_6 (xs : List α) : cutD xs (some 2) (some 6) = (xs.drop 2).take 4 := cut_mid xs 2 6
theorem cut_3_4 (xs : List α) : cutD xs (some 3) (some 4) = (xs.drop 3).take 1 := cut_mid xs 3 4
theorem cut_3_5 (xs : List α) : cutD xs (some 3) (some 5) = (xs.drop 3).take 2 := cut_mid xs 3 5
theorem cut_3_6 (xs : List α) : cutD xs (some 3) (some 6) = (xs.drop 3).take 3 := cut_mid xs 3 6
theorem cut_4_5 (xs : List α) : cutD xs (some 4) (some 5) = (xs.drop 4).take 1 := cut_mid xs 4 5
theorem cut_4_6 (xs : List α) : cutD xs (some 4) (some 6) = (xs.drop 4).take 2 := cut_mid xs 4 6
theorem cut_5_6 (xs : List α) : cutD xs (some 5) (some 6) = (xs.drop 5).take 1 := cut_mid xs 5 6
theorem wo_slT' {lo hi : Option Int} (e : cutD xs lo hi = ys) (q : Q (.d (.tuple ys)) h) : Wo (gSl (.d (.tuple xs)) lo hi h) Q := by subst e; exact q
theorem wo_slL' {lo hi : Option Int} (e : cutD xs lo hi = ys) (q : Q (.r h.length) (h ++ [some (.lst ys)])) : Wo (gSl (.d (.list xs)) lo hi h) Q := by subst e; exact q
end
end Rk

/-! Rk32: grains as data, marks, entries. -/
namespace Rk
open PySem PySem.Spec L2
def gD : Option Int → Da
  | none => .none
  | some g => .int g
noncomputable def exactB (R : Ruler) (a b : Rat) : Option Int → Bool
  | none => false
  | some g => decide (R.l ≤ g) && !decide (R.pw (g + R.f) < mx a.abs b.abs)
def gOk (g : Option Int) : Prop := ∀ z, g = some z → z.natAbs ≤ 1000
def slackV (R : Ruler) (a b : Rat) (g : Option Int) (ex : Bool) (sz : Rat) (rd : Rat) : Rat :=
  if a = b then (rd - a).abs else if ex = true then 0 else if R.w = "near" then 1 / 2 * sz else sz
theorem Shw.gD {g : Option Int} (hg : gOk g) : Shw 1921 0 (gD g) := by
  cases g with
  | none => exact Shw.none.mono (by decide) (by decide)
  | some z =>
    have := hg z rfl
    exact Shw.int (n := 64) (bd_lit 1000 (by omega) (by omega) (by decide)) (by decide)
theorem Ly.gD {p : Bool} {g : Option Int} : Ly p 0 (gD g) := by
  cases g with
  | none => exact Ly.none
  | some z => exact Ly.int
structure Mk (R : Ruler) (n : Nat) (x : Rat) : Prop where
  r : R.rnd x = x
  b : BQ n x
theorem Mk.mono {R : Ruler} {n m : Nat} {x : Rat} (h : Mk R n x) (hl : n ≤ m) : Mk R m x := ⟨h.r, h.b.mono hl⟩
def InS (R : Ruler) (a b x : Rat) : Prop := Mult R x R.l ∧ a ≤ x ∧ x ≤ b
structure Ent where
  lo : Rat
  hi : Rat
  tl : Rat
  th : Rat
  er : Rat
  g : Option Int
def Ent.da (e : Ent) : Da := .tuple [Rk.Q e.lo, Rk.Q e.hi, Rk.Q e.tl, Rk.Q e.th, Rk.Q e.er, gD e.g]
structure Ent.B (n : Nat) (e : Ent) : Prop where
  lo : BQ n e.lo
  hi : BQ n e.hi
  tl : BQ n e.tl
  th : BQ n e.th
  er : BQ n e.er
  g : ∀ z, e.g = some z → z.natAbs ≤ n
structure Ent.Ok (R : Ruler) (e : Ent) : Prop where
  lo : R.rnd e.lo = e.lo
  hi : R.rnd e.hi = e.hi
  lh : e.lo ≤ e.hi
  t : e.tl ≤ e.th
  er : 0 ≤ e.er
  gn : e.g = none ↔ e.lo = 0 ∧ e.hi = 0
  gl : ∀ z, e.g = some z → R.l ≤ z
theorem Ent.B.mono {n m : Nat} {e : Ent} (b : e.B n) (h : n ≤ m) : e.B m := ⟨b.lo.mono h, b.hi.mono h, b.tl.mono h, b.th.mono h, b.er.mono h, fun z x => Nat.le_trans (b.g z x) h⟩
theorem Ent.Ly {p : Bool} (e : Ent) : Ly p 2 e.da := by
  unfold Ent.da
  exact Ly.tup (LyL.cons .Q (LyL.cons .Q (LyL.cons .Q (LyL.cons .Q (LyL.cons .Q (LyL.cons .gD .nil))))))
theorem abs_nonneg' (r : Rat) : 0 ≤ r.abs := by
  unfold Rat.abs
  grind
theorem hd_v {i : Nat} {ρ : En} {h : Hh} {Q : Vl → Hh → Prop} {E : XP} (w : Wp (eVar i ρ h) Q E) : Wp (eVar i ρ h) Q E := w
theorem Ent.mkN {R : Ruler} {a b c d e : Rat} (ha : Mk R 140 a) (hb : Mk R 140 b) (hab : a ≤ b) (hc : BQ 300 c) (hd : BQ 300 d) (hcd : c ≤ d) (he : BQ 140 e) (z : a = 0 ∧ b = 0) : (Ent.mk a b c d e.abs none).Ok R ∧ (Ent.mk a b c d e.abs none).B 300 :=
  ⟨⟨ha.r, hb.r, hab, hcd, abs_nonneg' _, ⟨fun _ => z, fun _ => rfl⟩, fun _ x => nomatch x⟩, ⟨ha.b.mono (by decide), hb.b.mono (by decide), hc, hd, he.abs.mono (by decide), fun _ x => nomatch x⟩⟩
end Rk

/-! Rk33: rounding rises. -/
namespace Rk
open PySem PySem.Spec L2
section
variable {R : Ruler} {x y : Rat} {n m : Nat}
end
end Rk

/-! Rk34: ranks of marks. -/
namespace Rk
open PySem PySem.Spec L2
def Ruler.N (R : Ruler) : Nat := R.b ^ R.f
def Ruler.M (R : Ruler) : Nat := R.b ^ (R.f - 1)
def Ruler.fr (R : Ruler) : Nat := R.N - R.M
def Ruler.far (R : Ruler) (k : Nat) : Nat := if k < R.N then 0 else (k - R.N) / R.fr + 1
def Ruler.st (R : Ruler) (k : Nat) : Nat := k - R.far k * R.fr
def Ruler.mkN (R : Ruler) (k : Nat) : Rat := ((R.st k : Int) : Rat) * R.pw (R.l + R.far k)
def Ruler.mkOf (R : Ruler) (k : Int) : Rat := if 0 ≤ k then R.mkN k.natAbs else -R.mkN k.natAbs
section
variable {R : Ruler} (O : R.Ok)
include O
end
end Rk

/-! Rk35: statements that are never reached. -/
namespace Rk
open PySem PySem.Spec L2
def sNo : Sv := fun _ _ => .no
end Rk

/-! Rk36: enumerate over a tuple. -/
namespace PySem
open Sem (wp)
open AutoSeq1 (wpAny_loadPart')
/-- the iterator of the tuple at t -/
abbrev rkTi (t : Addr) : Obj := { cls := .type "tuple_iterator", data := .fields #[.ref t, .int 0 0] }
abbrev rkEn (j : Addr) : Obj := { cls := .type "enumerate", data := .fields #[.none, .bool false, .ref j, rawInt 0, .none, .none] }
theorem rk_meets_enumT (t : Addr) (us : Array Value) (m : Nat) (od : Option Addr) (ss : Array (Option Value)) :
    Meets (Builtin.«enumerate.__new__» ⟨[.type "enumerate", .ref t], []⟩) (fun _ R s => s.heap.get? t = some { cls := .type "tuple", dict := od, data := .seq us m, slots := ss } ∧ R (.ok (.ret (.ref (s.heap.push (rkTi t)).objs.size))) { s with heap := (s.heap.push (rkTi t)).push (rkEn s.heap.objs.size) }) :=
  .of_wp fun _ _ _ R s0 hyp => by
    obtain ⟨hp, g, d, tk, os⟩ := s0; obtain ⟨ht, hyp⟩ := hyp
    have subE := sub_enumerate
    have isT : Heap.IsTuple (Shared.heap ⟨hp, g, d, tk, os⟩) t us := ⟨_, ht, rfl, m, rfl⟩
    wp_walk using wpAny_loadPart' ht
    refine wpAny_stack_any fun _ => wpAny_pure ?_
    split
    · rename_i c0 _ _ _ _ _
      cases (c0 == Value.type "enumerate") <;> (wp_walk using wpAny_loadPart' ht, wpAny_pyIter_tuple isT; exact ⟨_, rfl, hyp⟩)
    · (wp_walk using wpAny_loadPart' ht, wpAny_pyIter_tuple isT; exact ⟨_, rfl, hyp⟩)
section
variable {prog : Program} {w : World} {A : Around} {E : Value → Shared → Prop} {s : Shared}
theorem rk_call_enumT {t : Addr} {us : Array Value} {Q : Value → Shared → Prop} (isT : s.heap.IsTuple t us)
    (k : ∀ h1, IsEnum h1 (s.heap.objs.size + 1) s.heap.objs.size 0 .none → h1.IsTupleIter s.heap.objs.size t 0 → h1.objs.size = s.heap.objs.size + 2 → (∀ b o, s.heap.get? b = some o → h1.get? b = some o) → Q (.ref (s.heap.objs.size + 1)) { s with heap := h1 }) :
    wpAny (model prog w) A (call (.type "enumerate") [.ref t]) Q E s := by
  obtain ⟨⟨c0, od, dat, ss⟩, ht, hcl, m, hdt⟩ := isT
  dsimp only at hcl hdt
  subst hcl hdt
  refine callType_new F.called_enumerate (by decide) (F.typeCall_enumerate_1 _) (F.newCall_enumerate_1 _) (fun o => F.args_object_init_2 o _) F.entry_enumerate_new (rk_meets_enumT t us m od ss) ⟨ht, ?_⟩
  have sz : (s.heap.push (rkTi t)).objs.size = s.heap.objs.size + 1 := Heap.size_push ..
  show _ ∧ _
  rw [sz]
  have en : IsEnum ((s.heap.push (rkTi t)).push (rkEn s.heap.objs.size)) (s.heap.objs.size + 1) s.heap.objs.size 0 .none := by
    have e0 := Heap.get?_push_size (s.heap.push (rkTi t)) (o := rkEn s.heap.objs.size) rfl
    rw [sz] at e0
    exact e0
  exact ⟨⟨_, en, rfl⟩, k _ en ⟨_, Heap.get?_push_of_some _ (Heap.get?_push_size _ rfl), rfl, rfl⟩ (by rw [Heap.size_push, sz]) fun _ _ x => Heap.get?_push_of_some _ (Heap.get?_push_of_some _ x)⟩
theorem rk_drawsT {it a : Addr} {us : Array Value} (hh : A.handled = none) (hne : it ≠ a) : Draws prog w A it [it, a] us.size (fun i x => us[i]? = some x) (fun i h => h.IsTupleIter it a i ∧ h.IsTuple a us) where
  live := fun i h st => let ⟨⟨o, ho, _⟩, _⟩ := st; ⟨o, ho⟩
  frame := fun i h h' st k => ⟨st.1.at fun o q => k it (by simp) o q, let ⟨o, ho, r⟩ := st.2; ⟨o, k a (by simp) o ho, r⟩⟩
  item := fun i s Q E hi st hQ => by
    have hx : us[i]? = some us[i] := Array.getElem?_eq_getElem hi
    refine RZ.nextOf_tuple_item st.1 st.2 hx fun h' h1 sb => ?_
    obtain ⟨o, ho, r⟩ := st.2
    exact hQ _ h' s.toks hx ⟨h1, ⟨o, (sb.2 a (Ne.symm hne)).trans ho, r⟩⟩ sb
  done := fun s Q E st hE => RZ.nextOf_tuple_end hh st.1 st.2 (by simp) hE
end
end PySem
namespace Rk
open PySem PySem.Spec PyProof.Rows L2
def IteT (K : PySem.W.Frag) (a : Addr) : It :=
  ⟨fun i H => ∃ (xs : List V) (x : V), SqT K H a xs ∧ xs[i]? = some x, fun i H v H' => ∃ T x, v = .ref T ∧ H T = none ∧ H' = upd H T (.tup [.int (i : Nat), x]) ∧ ∀ xs, SqT K H a xs → xs[i]? = some x, fun i H => ∃ xs : List V, SqT K H a xs ∧ xs.length ≤ i⟩
theorem turn_enumT {P : Program} {w : World} {K : PySem.W.Frag} {elts : List Expr} {kk : Nat} {tpos : Pos} (a e it : Addr) :
    Turn P w K (.Tuple elts kk tpos) (IteT K a) [e, it] e (fun i h => (∃ old, IsEnum h e it ((i : Nat) : Int) old) ∧ h.IsTupleIter it a i ∧ e ≠ it ∧ a ≠ e ∧ a ≠ it) where
  mem := by simp
  obj := fun i h st b hb => by
    obtain ⟨⟨_, en⟩, ⟨o, ho, _, hdt⟩, _⟩ := st
    rcases (show b = e ∨ b = it by simpa using hb) with rfl | rfl
    · exact ⟨_, en, fun _ q => nomatch q⟩
    · exact ⟨o, ho, fun _ q => by rw [hdt] at q; cases q⟩
  keep := fun i h h' st k => let ⟨⟨old, en⟩, ti, ne⟩ := st; ⟨⟨old, k e (by simp) _ en⟩, ti.at fun o q => k it (by simp) o q, ne⟩
  item := by
    intro X hP hw hK hc i pins s σ H E I hf st hg
    subst hP hw hK
    obtain ⟨⟨old, en⟩, ti, ne, nae, nai⟩ := st
    obtain ⟨xs, x, sq, hx⟩ := hg
    obtain ⟨us, rv, isT, _⟩ := I.tuple sq
    obtain ⟨u, hu, ru⟩ := rv.get hx
    have le : e < s.heap.objs.size := Heap.lt_size en
    have li : it < s.heap.objs.size := by obtain ⟨_, q, _⟩ := ti; exact Heap.lt_size q
    have isT' : s.heap.IsTuple a us.toArray := isT
    have hd0 : X.A.handled = none := I.ok.hd hc
    have hu' : us.toArray[i]? = some u := by simpa using hu
    refine wpAny_pyNext_enum_itemD (rk_drawsT (A := X.A.in1) hd0 (Ne.symm nai)) en ⟨ti, isT'⟩ (by simpa using (List.getElem?_eq_some_iff.mp hu).1) ne (by simp [ne, Ne.symm nae]) fun y h1 tk py ho st1 hT hsz hk => ?_
    rw [hu'] at py
    cases py
    refine ⟨_, rfl, wpAny_letOwnedTupleGo_enum (s := { s with heap := h1, toks := tk + 1 }) ho fun h2 en2 sb => ?_⟩
    have hT2 : h2.get? s.heap.objs.size = some { cls := .type "tuple", data := .seq #[.int i tk, u] } := (sb.2 _ (Nat.ne_of_gt le)).trans hT
    have nw : ObjOk X.prog X.w (upd H s.heap.objs.size (.tup [.int (i : Nat), x])) h2 s.heap.objs.size (.tup [.int (i : Nat), x]) :=
      ⟨by show 2 ≤ sizeLine; decide, [.int i tk, u], .cons ⟨_, rfl⟩ (.cons ru .nil), ⟨_, hT2, rfl, _, rfl⟩⟩
    have I1 : Inv X pins σ (upd H s.heap.objs.size (.tup [.int (i : Nat), x])) { s with heap := h2, toks := tk + 1 } :=
      I.turnedNew (ch := [e, it]) (fun b ob hb q => (sb.2 b (fun z => hb (by simp [z]))).trans (hk b ob (fun z => hb (by simp [z])) (fun z => hb (by simp [z])) q)) hf (Nat.le_refl _) nw
    refine ⟨.ref s.heap.objs.size, _, I1, rfl, ⟨_, x, rfl, I.hok.fresh (Nat.le_refl _), rfl, fun ys hy => by rw [I.tuple_inj hy sq]; exact hx⟩, ⟨⟨u, ?_⟩, st1.1.at fun o q => (sb.2 it (Ne.symm ne)).trans q, ne, nae, nai⟩, fun b hb => ?_⟩
    · rw [show ((i + 1 : Nat) : Int) = (i : Int) + 1 by omega]
      exact en2
    · have lb : b < s.heap.objs.size := by
        rcases (show b = e ∨ b = it by simpa using hb) with rfl | rfl
        · exact le
        · exact li
      rw [upd_ne (Nat.ne_of_lt lb)]
      exact (hf b hb).1
  done := by
    intro X hP hw hK hc i pins s σ H E I hf st hg
    subst hP hw hK
    obtain ⟨⟨old, en⟩, ti, ne, nae, nai⟩ := st
    obtain ⟨xs, sq, hx⟩ := hg
    obtain ⟨us, rv, isT, _⟩ := I.tuple sq
    obtain ⟨f0, f1, f2, f3, f4, f5⟩ := hf it (by simp)
    have ll := rv.length
    have isT' : s.heap.IsTuple a us.toArray := isT
    have hT : s.TypeIs (.ref e) "enumerate" := ⟨_, en, rfl⟩
    unfold pyNext
    refine wpAny_bind (wpAny_attempt (wpAny_callSpecial?_slot (name := Str.ofString "__next__") hT F.slot_enumerate_next (wpAny_call_entry F.slot_enumerate_next hT F.entry_enumerate_next ?_ (F.args_enumerate_next_1 _))))
    show wpAny _ _ (field (.ref e) 2 >>= _) _ _ _
    refine wpAny_bind (wpAny_field en rfl (x := .ref it) rfl ?_)
    refine wpAny_bind (RZ.nextOf_tuple_end (I.ok.hd hc) ti isT' (by simp; omega) fun h1 x1 eb hx1 => ?_)
    obtain ⟨o1, ho1, hc1⟩ := hx1
    refine wpAny_bind (wpAny_isInstance (T := "StopIteration") (b := true) ⟨o1, ho1, hc1⟩ isSubtype_stop (wpAny_pure ?_))
    exact ⟨rfl, I.turned (t' := s.toks) (fun b o hb q => eb b o hb q) f0 f1 f3 f4 f5⟩
  self := fun A i s Q E st h => let ⟨⟨_, en⟩, _⟩ := st; wpAny_pyIter_enum en h
def iEnumA (K : PySem.W.Frag) (ta : TA) : TI := fun σ H R => ta σ H fun vs H1 => ∃ a xs, vs = [.ref a] ∧ ((SqL K H1 a xs ∧ R (Ite K a) H1) ∨ (SqT K H1 a xs ∧ R (IteT K a) H1))
theorem pi_enumA {X : Cx} {e : Expr} {ta : TA} {p pos tpos : Pos} {elts : List Expr} {kk : Nat} (hg : Gl X "enumerate") (hm : X.mg "enumerate" = none) (ha : PA X [e] ta) (hs : starEach [e] X.env = [(false, eval e X.env)] := by rfl) :
    PI X (.Tuple elts kk tpos) (.Call (.Name "enumerate" p) [e] [] pos) (iEnumA X.K ta) := by
  refine ⟨fun pins s σ H R I h => ?_⟩
  refine Call_ (ld_blt I hg hm boot_enumerate (PyProof.Rows.callWith_type1 (thn (ha.run pos pins s σ H _ I h) fun us s1 ⟨vs, H1, I1, r1, q1⟩ => ?_) hs rfl))
  obtain ⟨a, xs, rfl, q1⟩ := q1
  cases r1 with
  | cons r rr =>
    cases rr
    cases r
    have fin : ∀ b, b ∈ [s1.heap.objs.size + 1, s1.heap.objs.size] → FpOk X pins H1 b := fun b hb => by
      have lb : s1.heap.objs.size ≤ b := by
        rcases (show b = s1.heap.objs.size + 1 ∨ b = s1.heap.objs.size by simpa using hb) with rfl | rfl
        · exact Nat.le_add_right _ _
        · exact Nat.le_refl _
      exact I1.fpOk lb (I1.hok.fresh lb)
    rcases q1 with ⟨sq, q⟩ | ⟨sq, q⟩
    · obtain ⟨its, rv, isL, _⟩ := I1.list sq
      refine call_enumerate_list isL.isList fun h1 en ti _ hk => wpAny_pyIter_enum en ?_
      exact ⟨s1.heap.objs.size + 1, [s1.heap.objs.size + 1, s1.heap.objs.size], _, _, H1, rfl, I1.kept (t' := s1.toks) hk, turn_enum a (s1.heap.objs.size + 1) s1.heap.objs.size, ⟨⟨.none, en⟩, ti, Nat.succ_ne_self _⟩, fin, q⟩
    · obtain ⟨its, rv, isT, _⟩ := I1.tuple sq
      obtain ⟨o0, ho0, _⟩ := id isT
      have la := Heap.lt_size ho0
      refine rk_call_enumT (show s1.heap.IsTuple a its.toArray from isT) fun h1 en ti _ hk => wpAny_pyIter_enum en ?_
      exact ⟨s1.heap.objs.size + 1, [s1.heap.objs.size + 1, s1.heap.objs.size], _, _, H1, rfl, I1.kept (t' := s1.toks) hk, turn_enumT a (s1.heap.objs.size + 1) s1.heap.objs.size, ⟨⟨.none, en⟩, ti, Nat.succ_ne_self _, Nat.ne_of_lt (Nat.lt_succ_of_lt la), Nat.ne_of_lt la⟩, fin, q⟩
end Rk

/-! Rk37: enumerate, of lists and tuples. -/
namespace Rk
open PySem PySem.Spec L2
section
variable {K : PySem.W.Frag}
theorem enumT_it {a : Addr} {ds : List Da} : ItOk K (IteT K a) ⟨ds.mapIdx fun i d => .tuple [.int (i : Nat), d], none⟩ (fun φ h H => Rep K H (Live φ h) (.ref a) (.tuple ds)) where
  go := fun φ h H i sm g gd hi => by
    obtain ⟨us, sq, rs⟩ := Rep.sqT g
    have hi' : i < ds.length := by simpa using hi
    obtain ⟨y, e, _⟩ := rs.get (List.getElem?_eq_getElem hi')
    exact ⟨us, y, sq, e⟩
  yld := fun φ h H i x H' d sm g gd ed ⟨T, y, ex, hT, e, q⟩ => by
    subst ex e
    obtain ⟨us, sq, rs⟩ := Rep.sqT g
    rw [List.getElem?_mapIdx] at ed
    cases e3 : ds[i]? with
    | none => rw [e3] at ed; cases ed
    | some d0 =>
      rw [e3] at ed
      cases ed
      obtain ⟨y2, ey, ry⟩ := rs.get e3
      have e2 := q us sq
      rw [ey] at e2
      cases e2
      obtain ⟨s1, s2, s3⟩ := new_tup (mg := fun _ => none) sm (ds := [.int (i : Nat), d0]) (.cons (.int _) (.cons ry .nil)) hT
      exact ⟨s1, s2, s3⟩
  stop := fun φ h H i sm g gd hi => by
    obtain ⟨us, sq, rs⟩ := Rep.sqT g
    exact ⟨us, sq, by rw [rs.length]; simpa using hi⟩
  keep := fun φ h H φ' h' H' g st => Rep.stay st.st g
end
def iEnumB (as : Av) : Iv := fun ρ h => (as ρ h).bind fun vs h1 => match vs with
  | [.d (.tuple ds)] => .ok ⟨ds.mapIdx fun i d => .tuple [.int (i : Nat), d], none⟩ h1
  | [v] => enumI (itL v h1)
  | _ => .no
section
variable {X : Cx} {W : WX} {pos p : Pos} {fs : Av}
theorem ei_enumB {elts : List Expr} {kk : Nat} {tpos : Pos} {a : Expr} (hg : Gl X "enumerate") (hm : X.mg "enumerate" = none) (ha : EA X W [a] fs) (hs : starEach [a] X.env = [(false, eval a X.env)] := by rfl) : EI X W (.Tuple elts kk tpos) (.Call (.Name "enumerate" p) [a] [] pos) (iEnumB fs) :=
  PI.of (pi_enumA hg hm ha hs) fun σ H R ⟨φ, h, ρ, sm, er, q⟩ => ⟨φ, h, ρ, sm, er, PoI.goA q fun xs vs h1 H1 φ1 st sm1 rv q1 => by
    split at q1
    · obtain ⟨x, rfl, r⟩ := rv.one
      obtain ⟨a, us, rfl, sq, rs⟩ := VRep.tup r
      exact ⟨a, us, rfl, .inr ⟨sq, q1 _ H1 φ1 _ (Step.refl _ _ _) sm1 enumT_it r⟩⟩
    · rename_i v _
      obtain ⟨x, rfl, r⟩ := rv.one
      cases e : itL v h1 with
      | ok m h2 =>
        rw [e] at q1
        obtain ⟨rfl, gd, a, G, rfl, L, g⟩ := itL_lok sm1 r e
        obtain ⟨ys, sq, _⟩ := L.sq _ _ _ sm1 g gd
        exact ⟨a, ys, rfl, .inl ⟨sq, q1 _ H1 φ1 _ (Step.refl _ _ _) sm1 (enum_it L) g⟩⟩
      | ex c fs h2 =>
        unfold itL at e
        split at e
        · cases e
        · split at e <;> cases e
        · cases e
      | no =>
        rw [e] at q1
        exact q1.elim
    · exact q1.elim⟩
end
section
variable {QI : Itm → Hh → Prop} {E : XP} {ρ : En} {h : Hh} {as : Av}
theorem wp_enumB (w : Wp (as ρ h) (fun vs h1 => ∃ ds, (vs = [.d (.list ds)] ∨ vs = [.d (.tuple ds)]) ∧ QI ⟨ds.mapIdx fun i d => .tuple [.int (i : Nat), d], none⟩ h1) E) : Wp (iEnumB as ρ h) QI E :=
  wp_bind (w.mono (fun _ _ ⟨ds, e, q⟩ => by
    rcases e with e | e
    · rw [e]; exact ⟨q⟩
    · rw [e]; exact ⟨q⟩) fun _ _ _ z => z)
theorem ex_enumT {ds : List Da} {P : List Da → Prop} (q : P ds) : ∃ es, ([Vl.d (.tuple ds)] = [.d (.list es)] ∨ [Vl.d (.tuple ds)] = [.d (.tuple es)]) ∧ P es := ⟨ds, .inr rfl, q⟩
end
theorem ex_is_int_int {i : Int} {h : Hh} {P : Bool → Prop} (q : P true) : ∃ k, isTy .int (.d (.int i)) h = some k ∧ P k := ⟨true, rfl, q⟩
theorem ex_is_bool_int {i : Int} {h : Hh} {P : Bool → Prop} (q : P false) : ∃ k, isTy .bool (.d (.int i)) h = some k ∧ P k := ⟨false, rfl, q⟩
theorem ex_is_str_str {x : Str} {h : Hh} {P : Bool → Prop} (q : P true) : ∃ k, isTy .str (.d (.str x)) h = some k ∧ P k := ⟨true, rfl, q⟩
theorem ex_is_tuple_tuple {ds : List Da} {h : Hh} {P : Bool → Prop} (q : P true) : ∃ k, isTy .tuple (.d (.tuple ds)) h = some k ∧ P k := ⟨true, rfl, q⟩
theorem ex_is_tuple_Q {r : Rat} {h : Hh} {P : Bool → Prop} (q : P true) : ∃ k, isTy .tuple (.d (Rk.Q r)) h = some k ∧ P k := ⟨true, rfl, q⟩
end Rk

/-! Rk38: dicts at the end of the heap; rounding by each way. -/
namespace Rk
open PySem PySem.Spec L2
section
variable {h l : Hh} {k : Nat} {kds kds' : List (Key × Da)} {x : Str} {v d : Da} {Q : Vl → Hh → Prop} {E : XP} {N : Hh → Prop} {ρ : En}
theorem ex_setDE (hk : h.length = k) (e : putD kds (.inr x) v = kds') (hl : kds.length < 16777216) (q : N (h ++ some (.dct kds') :: l)) : ∃ h3, setD (.r k) (.d (.str x)) (.d v) (h ++ some (.dct kds) :: l) = some h3 ∧ N h3 := by
  subst hk e
  refine ⟨_, set_of (kds' := putD kds (.inr x) v) (by simp) rfl hl, ?_⟩
  simpa using q
end
/-! ### rounding by each way -/
end Rk

/-! Rk39: shifts, bit_length, the place of a part in a list. -/
namespace Rk
open PySem PySem.Spec L2
variable {mg : Str → Option Value}
def fShl (a b : Int) : Option Da := if 0 ≤ b ∧ b ≤ 1000000 ∧ a.natAbs < 2 ^ 64 then some (.int (a * 2 ^ b.toNat)) else none
section
variable {K : PySem.W.Frag}
def gIdx : GM := fun o as h => match asL o h, as with
  | some ds, [.d y] => if flatD y && ds.all flatD then (ds.findIdx? fun z => eqF z y).map fun j => (.d (.int (j : Nat)), h) else none
  | _, _ => none
end
def eBits (f : Ev) : Ev := fun ρ h => (f ρ h).bind fun x h1 => match x with
  | .d (.int i) => .ok (.d (.int (Builtin.Int.intBits i : Nat))) h1
  | _ => .no
section
variable {X : Cx} {W : WX} {o : Expr} {fo : Ev} {apos pos : Pos}
end
section
variable {Q : Vl → Hh → Prop} {E : XP} {ρ : En} {h : Hh} {f : Ev} {a b : Int} {ds : List Da}
end
end Rk

/-! Rk40: all, max and places over typed lists. -/
namespace Rk
open PySem PySem.Spec L2
section
variable {α : Type} {Q : Vl → Hh → Prop} {h : Hh}
theorem bools_map (P : α → Bool) : ∀ xs : List α, boolsOf (xs.map fun x => (.bool (P x) : Da)) = some (xs.map P)
  | [] => rfl
  | x :: xs => by
    rw [List.map_cons, List.map_cons]
    show (boolsOf (xs.map fun x => (.bool (P x) : Da))).map (P x :: ·) = _
    rw [bools_map P xs]
    rfl
theorem wo_allP (xs : List α) (P : α → Bool) (q : Q (.d (.bool (xs.all P))) h) : Wo (gAll [.d (.list (xs.map fun x => .bool (P x)))] h) Q :=
  wo_all (bools_map P xs) (by
    rw [List.all_map]
    exact q)
theorem wo_allT (xs : List α) (q : Q (.d (.bool true)) h) : Wo (gAll [.d (.list (xs.map fun _ => .bool true))] h) Q :=
  wo_allP xs (fun _ => true) (by
    have e : (xs.all fun _ => true) = true := List.all_eq_true.mpr fun _ _ => rfl
    rw [e]
    exact q)
end
end Rk

/-! Rk41: a target within a target; what many shown things take. -/
namespace Rk
open PySem PySem.Spec L2
section
variable {ρ : En} {h : Hh} {N : En → Hh → Prop} {i j k : Nat} {d0 d1 d2 : Da} {r s : Rat}
end
theorem ShwL.of {k e n : Nat} {ds : List Da} (h : ∀ d ∈ ds, Shw k e d) (hl : ds.length ≤ n) : ShwL (n * (k + 2)) e ds := by
  induction ds generalizing n with
  | nil => exact ⟨ShwL.nil.s, ShwL.nil.n, Nat.le_trans ShwL.nil.d (Nat.zero_le _), Nat.le_trans ShwL.nil.l (Nat.zero_le _)⟩
  | cons d ds ih =>
    cases n with
    | zero => simp at hl
    | succ n =>
      have a := ih (n := n) (fun x hx => h x (List.mem_cons_of_mem _ hx)) (by simpa using hl)
      have b := ShwL.cons (h d (List.mem_cons_self ..)) a
      rw [Nat.max_self] at b
      refine ⟨b.s, b.n, b.d, Nat.le_trans b.l ?_⟩
      rw [Nat.succ_mul]
      omega
end Rk

/-! Rk42: errors raised, caught and kept; a caught error is told of in the abstract heap from then on. -/
namespace Rk
open PySem PySem.Spec L2
section
variable {X : Cx} {pins : List (Addr × Obj)} {σ : L2.St} {H : Hp} {s : Shared} {a : Addr} {oe : Obj} {vs : Array Value} {cls : Value} {dd : Option Addr}
end
/-- what is wished of an error that leaves a try's body: where the clause takes it, what the suite wishes, the error told of, its name gone behind -/
def wTl (K : PySem.W.Frag) (c : Value) (i : Nat) (ts : TS) (Wo : WX) (D : Ends) : WX := fun cls d σ H =>
  ∃ b, PySem.W.exmOne K cls c = some b ∧
    (b = true → ∀ a, H a = none → ts ⟨fun σ1 H1 => D.nx (σ1.set i none) H1, D.rt, fun σ1 H1 => D.bk (σ1.set i none) H1, fun σ1 H1 => D.ct (σ1.set i none) H1⟩ (σ.set i (some (.ref a))) (upd H a (exO a cls d))) ∧
    (b = false → Wo cls d σ H)
section
variable {X : Cx} {x n : Str} {c : Value} {i : Nat} {body suite : List Stmt} {st0 : Stmt} {np p1 p2 : Pos} {tb : WX → TS} {ts : TS} {Wo : WX}
end
end Rk

/-! Rk43: raise, try .. except .. as, isinstance of what was caught, as statements and expressions that mean something. -/
namespace Rk
open PySem PySem.Spec L2
/-! ### what the top's classes are -/
abbrev veT : List Value := [.type "ValueError", .type "Exception", .type "BaseException", .type "object"]
structure ErrC (K : PySem.W.Frag) (mg : Str → Option Value) (c : Str) : Prop where
  ex : ∃ C, mg c = some (.ref C) ∧ PySem.W.excIn K C veT "ValueError.__new__" = true ∧ PySem.W.keepIn K (.ref C) = true ∧ PySem.W.subIn K (.ref C) (.type "BaseException") = some true ∧ PySem.W.typeIn K (.ref C) = some (.type "type")
theorem clsAt_ok {K : PySem.W.Frag} {h : Heap} {mg : Str → Option Value} (X : K.In h) (G : h.Ns mainGlobals mg) {c : Str} {C : Addr} (e : clsAt K c = some C) : mg c = some (.ref C) := by
  unfold clsAt at e
  split at e
  · rename_i D q
    cases e
    exact PySem.W.mg_of X G q
  · cases e
def errB (K : PySem.W.Frag) (c : Str) : Bool := match clsAt K c with
  | some C => PySem.W.excIn K C veT "ValueError.__new__" && (PySem.W.keepIn K (.ref C) && (decide (PySem.W.subIn K (.ref C) (.type "BaseException") = some true) && decide (PySem.W.typeIn K (.ref C) = some (.type "type"))))
  | none => false
/-- which of the top's classes an except clause over x takes -/
structure CatC (K : PySem.W.Frag) (mg : Str → Option Value) (x : Str) (yes no : List Str) : Prop where
  ex : ∃ D, mg x = some (.ref D) ∧ (∀ c ∈ yes, ∃ C, mg c = some (.ref C) ∧ PySem.W.exmOne K (.ref C) (.ref D) = some true) ∧ (∀ c ∈ no, ∃ C, mg c = some (.ref C) ∧ PySem.W.exmOne K (.ref C) (.ref D) = some false)
def subB (K : PySem.W.Frag) (f : Value → Value → Option Bool) (u : Value) (b : Bool) (c : Str) : Bool := match clsAt K c with
  | some C => decide (f (.ref C) u = some b)
  | none => false
def catB (K : PySem.W.Frag) (x : Str) (yes no : List Str) : Bool := match clsAt K x with
  | some D => yes.all (subB K (PySem.W.exmOne K) (.ref D) true) && no.all (subB K (PySem.W.exmOne K) (.ref D) false)
  | none => false
/-! ### raise X('..') -/
def sRaise (c : Str) : Sv := fun ρ h => .ex c [] ρ h
section
variable {X : Cx} {W : WX}
end
/-! ### try: .. except X as n: .. -/
def sTry (yes no : List Str) (i : Nat) (b s : Sv) : Sv := fun ρ h => match b ρ h with
  | .ex c fs ρ1 h1 => if c ∈ yes then (match s (ρ1.set i (some (.x c fs))) h1 with
      | .nx ρ2 h2 => .nx (ρ2.set i none) h2
      | .rt v h2 => .rt v h2
      | .bk ρ2 h2 => .bk (ρ2.set i none) h2
      | .ct ρ2 h2 => .ct (ρ2.set i none) h2
      | _ => .no) else if c ∈ no then .ex c fs ρ1 h1 else .no
  | o => o
section
variable {X : Cx} {W : WX} {x n : Str} {i : Nat} {yes no : List Str} {body suite : List Stmt} {st0 : Stmt} {np p1 p2 : Pos} {fb fs : Sv}
end
end Rk

/-! Rk44: isinstance of what was caught, its fields. -/
namespace Rk
open PySem PySem.Spec L2
/-- what a class of errors must say, so that its errors are asked rightly -/
structure ErrI (K : PySem.W.Frag) (C : Addr) : Prop where
  ga : PySem.W.findIn K (.ref C) "__getattribute__" = some (some (.builtin "BaseException.__getattribute__"))
  gt : PySem.W.findIn K (.ref C) "__getattr__" = some none
  sb : PySem.W.subIn K (.ref C) (.type "BaseException") = some true
  dc : PySem.W.hasDictIn K C = true
  cl : PySem.W.findIn K (.ref C) "__class__" = some (some (.builtin "object.__class__"))
  cg : PySem.W.specialIn K (.builtin "object.__class__") "__get__" = some (some (.builtin "getset_descriptor.__get__"))
  tk : PySem.W.takesIn K (.builtin "object.__class__") = some true
  mo : PySem.W.mroIn K C (.type "object") = some true
  ci : (PySem.W.clsIn K C).isSome = true
def errIB (K : PySem.W.Frag) (C : Addr) : Bool :=
  decide (PySem.W.findIn K (.ref C) "__getattribute__" = some (some (.builtin "BaseException.__getattribute__"))) && (decide (PySem.W.findIn K (.ref C) "__getattr__" = some none) && (decide (PySem.W.subIn K (.ref C) (.type "BaseException") = some true) && (PySem.W.hasDictIn K C &&
  (decide (PySem.W.findIn K (.ref C) "__class__" = some (some (.builtin "object.__class__"))) && (decide (PySem.W.specialIn K (.builtin "object.__class__") "__get__" = some (some (.builtin "getset_descriptor.__get__"))) && (decide (PySem.W.takesIn K (.builtin "object.__class__") = some true) && (decide (PySem.W.mroIn K C (.type "object") = some true) && (PySem.W.clsIn K C).isSome)))))))
/-- an error that is told of, its own dict too -/
def ExAt (H : Hp) (a D : Addr) : Prop := ∃ dd : Option Addr, H a = some (exO a (.ref D) dd) ∧ (dd = none ∨ ∃ d vs, dd = some d ∧ H d = some (.xd vs))
section
variable {X : Cx} {pins : List (Addr × Obj)} {σ : L2.St} {H : Hp} {s : Shared} {a D : Addr}
/-- isinstance of an error: one class; a tuple of classes -/
def rIs1 (K : PySem.W.Frag) : List V → Hp → VK → Prop := fun xs H Q => ∃ (a D : Addr) (c : V) (u : Value) (b : Bool), xs = [.ref a, c] ∧ ExAt H a D ∧ ErrI K D ∧ ClsV c u ∧ PySem.W.kitOne K (.ref D) u = some b ∧ Q (.bl b) H
def rIsN (K : PySem.W.Frag) : List V → Hp → VK → Prop := fun xs H Q => ∃ (a D tp : Addr) (cs : List V) (us : List Value) (b : Bool), xs = [.ref a, .ref tp] ∧ ExAt H a D ∧ ErrI K D ∧ H tp = some (.tup cs) ∧ Paired ClsV cs us ∧ PySem.W.kitAny K (.ref D) us = some b ∧ Q (.bl b) H
end
theorem XRep.at_ {K : PySem.W.Frag} {mg : Str → Option Value} {H : Hp} {M : Addr → Prop} {c : Str} {fs : List (Str × Da)} {D a : Addr} {dd : Option Addr} (x : XRep K mg H M c fs (.ref D) dd) (e : H a = some (exO a (.ref D) dd)) : ExAt H a D := by
  refine ⟨dd, e, ?_⟩
  by_cases z : fs = []
  · exact .inl (x.no z)
  · obtain ⟨d, vs, e1, e2, _⟩ := x.yes z
    exact .inr ⟨d, vs, e1, e2⟩
/-- what the classes yes and no answer to isinstance over the classes us -/
structure IsF (K : PySem.W.Frag) (mg : Str → Option Value) (f : Value → Option Bool) (yes no : List Str) : Prop where
  nn : f (.type "NoneType") = some false
  y : ∀ c ∈ yes, ∃ C, mg c = some (.ref C) ∧ ErrI K C ∧ f (.ref C) = some true
  n : ∀ c ∈ no, ∃ C, mg c = some (.ref C) ∧ ErrI K C ∧ f (.ref C) = some false
def isFB1 (K : PySem.W.Frag) (f : Value → Option Bool) (b : Bool) (c : Str) : Bool := match clsAt K c with
  | some C => errIB K C && decide (f (.ref C) = some b)
  | none => false
def isFB (K : PySem.W.Frag) (f : Value → Option Bool) (yes no : List Str) : Bool := decide (f (.type "NoneType") = some false) && (yes.all (isFB1 K f true) && no.all (isFB1 K f false))
/-- isinstance(x, C), C a class of the top -/
def IsO (K : PySem.W.Frag) (mg : Str → Option Value) (x : Str) (yes no : List Str) : Prop := ∃ D, mg x = some (.ref D) ∧ IsF K mg (fun t => PySem.W.kitOne K t (.ref D)) yes no
def isOB (K : PySem.W.Frag) (x : Str) (yes no : List Str) : Bool := match clsAt K x with
  | some D => isFB K (fun t => PySem.W.kitOne K t (.ref D)) yes no
  | none => false
/-- isinstance(x, T), T a built-in class -/
def IsB (K : PySem.W.Frag) (mg : Str → Option Value) (T : String) (yes no : List Str) : Prop := IsF K mg (fun t => PySem.W.kitOne K t (.type T)) yes no
def isBB (K : PySem.W.Frag) (T : String) (yes no : List Str) : Bool := isFB K (fun t => PySem.W.kitOne K t (.type T)) yes no
/-- isinstance(x, (C1, C2, ..)) -/
def IsM (K : PySem.W.Frag) (mg : Str → Option Value) (xs : List Str) (yes no : List Str) : Prop := ∃ Cs : List Addr, Paired (fun x C => mg x = some (.ref C)) xs Cs ∧ IsF K mg (fun t => PySem.W.kitAny K t (Cs.map Value.ref)) yes no
def clsAts (K : PySem.W.Frag) : List Str → Option (List Addr)
  | [] => some []
  | x :: xs => (clsAt K x).bind fun C => (clsAts K xs).map (C :: ·)
def isMB (K : PySem.W.Frag) (xs : List Str) (yes no : List Str) : Bool := match clsAts K xs with
  | some Cs => isFB K (fun t => PySem.W.kitAny K t (Cs.map Value.ref)) yes no
  | none => false
def isE (yes no : List Str) : Vl → Option Bool
  | .d .none => some false
  | .x c _ => if c ∈ yes then some true else if c ∈ no then some false else none
  | _ => none
def eIsE (yes no : List Str) (f : Ev) : Ev := fun ρ h => (f ρ h).bind fun v h1 => match isE yes no v with
  | some b => .ok (.d (.bool b)) h1
  | none => .no
section
variable {X : Cx} {W : WX} {a ce : Expr} {fa : Ev} {pos p q : Pos} {yes no : List Str}
/-- names of classes, side by side -/
def CN (X : Cx) (es : List Expr) (cs : List V) : Prop := PA X es (fun _ H Q => Q cs H)
end
end Rk

/-! Rk45: errors by wishes; a call without arguments. -/
namespace Rk
open PySem PySem.Spec L2
section
variable {X : Cx} {W : WX}
end
def UnK (i : Nat) (ρ : En) (h : Hh) (N : En → Hh → Prop) : Prop := N (ρ.set i none) h
/-- an error at an except clause -/
structure TryK (yes no : List Str) (i : Nat) (s : Sv) (c : Str) (fs : List (Str × Da)) (ρ : En) (h : Hh) (N : En → Hh → Prop) (D : Ds) : Prop where
  w : if c ∈ yes then SetK i ρ (.x c fs) h (fun ρ1 h1 => Ws (s ρ1 h1) (fun ρ2 h2 => UnK i ρ2 h2 N) ⟨D.rt, fun ρ2 h2 => UnK i ρ2 h2 D.bk, fun ρ2 h2 => UnK i ρ2 h2 D.ct, fun _ _ _ _ => False⟩) else if c ∈ no then D.ex c fs ρ h else False
section
variable {ρ : En} {h : Hh} {N : En → Hh → Prop} {R : Vl → Hh → Prop} {B C : En → Hh → Prop} {X : Str → List (Str × Da) → En → Hh → Prop} {b s : Sv} {yes no : List Str} {i : Nat} {c : Str} {fs : List (Str × Da)} {Q : Vl → Hh → Prop} {E : XP} {f : Ev}
end

section
variable {h : Hh} {N : En → Hh → Prop} {r : En}
variable {o0 o1 o2 o3 o4 o5 o6 o7 o8 o9 o10 o11 o12 o13 o14 o15 o16 o17 o18 o19 o20 o21 o22 o23 o24 o25 : Option Vl}
end
end Rk

/-! Rk46: an empty dict that is never changed, as data. -/
namespace Rk
open PySem PySem.Spec L2
section
variable {X : Cx} {W : WX} {pos : Pos}
end
end Rk

/-! Rk47: a list walked from its end. -/
namespace Rk
open PySem PySem.Spec L2
section
variable {K : PySem.W.Frag}
end
def iRev (as : Av) : Iv := fun ρ h => (as ρ h).bind fun vs h1 => match vs with
  | [v] => (itL v h1).bind fun m h2 => .ok ⟨m.ds.reverse, m.gd⟩ h2
  | _ => .no
section
variable {X : Cx} {W : WX} {tg : Expr} {pos p : Pos} {fs : Av}
end
section
variable {E : XP} {ρ : En} {h : Hh} {as : Av} {QI : Itm → Hh → Prop}
end
end Rk

/-! Rk48: sorted(t), t a written tuple of texts. -/
namespace Rk
open PySem PySem.Spec L2 PyProof.Rows
section
variable {prog : Program} {w : World} {A : Around} {E : Value → Shared → Prop} {s : Shared}
theorem gathered {t : Addr} {us : List Value} {Q : List Value → Shared → Prop} (ht : IsTup s.heap t us.toArray) (hn : us.length ≤ sizeLine)
    (q : Q us { s with heap := (s.heap.push (seqObj "list" #[] 0)).update s.heap.objs.size (Obj.mapSeq (· ++ us.toArray)) }) : wpAny (model prog w) A (collect (.ref t)) Q E s := by
  obtain ⟨ot, e1, e2, n, e3⟩ := id ht
  have new0 : (s.heap.push (seqObj "list" #[] 0)).get? s.heap.objs.size = some (seqObj "list" #[] 0) := Heap.get?_push_size _ rfl
  have e4 : (s.heap.push (seqObj "list" #[] 0)).get? t = some ot := Heap.get?_push_of_some _ e1
  unfold collect
  refine wpAny_bind (wpAny_runValue (codeAny_builtin entry_proto_collect' (wpAny_bind (wpAny_newList (wpAny_pure ⟨Code.quiet_builtin _ (by decide +kernel), codeAny_builtin entry_list_iadd' ?_⟩)))))
  show wpAny _ _ (Builtin.List.listExtendWith (.ref s.heap.objs.size) (.ref t) (.ref s.heap.objs.size)) _ _ { s with heap := s.heap.push (seqObj "list" #[] 0) }
  unfold Builtin.List.listExtendWith
  refine wpAny_bind (wpAny_typeOf (T := "tuple") ⟨ot, e4, e2⟩ ?_)
  rw [if_pos (by have tt : (Value.type "tuple" == Value.type "tuple") = true := by rfl
                 rw [tt]
                 simp)]
  refine wpAny_bind (listItems_at e4 e3 (wpAny_bind (listItems_at new0 rfl ?_)))
  rw [if_neg (by simp)]
  refine wpAny_bind (listUpdate_at new0 rfl (wpAny_pure ?_) (Nat.zero_le _) (by
    simp only [Array.size_append, List.size_toArray, List.length_nil]
    omega))
  refine wpAny_bind (wpAny_load (get?_update_seq new0 _) ?_)
  have all : ((#[] : Array Value) ++ us.toArray).toList = us := by simp
  show wpAny _ _ (pure ((#[] : Array Value) ++ us.toArray).toList) Q E _
  rw [all]
  exact wpAny_pure q
end
def rSortT (K : PySem.W.Frag) : List V → Hp → VK → Prop := fun vs H Q => ∃ (a : Addr) (xs : List Str), vs = [V.ref a] ∧ SqT K H a (xs.map V.str) ∧ xs.length < 64 ∧ ∀ (ys : List Str) (p : Addr), ys.Perm xs → sortedS ys = true → H p = none → Q (.ref p) (upd H p (.lst (ys.map V.str)))
def strsOf : List Da → Option (List Str)
  | [] => some []
  | .str x :: ds => (strsOf ds).map (x :: ·)
  | _ :: _ => none
def gSortC (src out : List Str) : GC := fun as h => match as with
  | [.d (.tuple ds)] => if strsOf ds = some src then some (.r h.length, h ++ [some (.lst (out.map PyData.str))]) else none
  | _ => none
theorem strsOf_ok {K : PySem.W.Frag} {H : Hp} {M : Addr → Prop} : ∀ {ds : List Da} {vs : List V} {xs : List Str}, Reps K H M vs ds → strsOf ds = some xs → vs = xs.map V.str
  | [], _, xs, .nil, e => by
    cases e
    rfl
  | d :: ds, _, xs, .cons (v := v) r t, e => by
    cases d with
    | str x =>
      unfold strsOf at e
      cases e2 : strsOf ds with
      | none => rw [e2] at e; cases e
      | some ys =>
        rw [e2] at e
        cases e
        cases r
        rw [strsOf_ok t e2]
        rfl
    | _ => cases e
end Rk

/-! Rk49: an exception out of a list comprehension's block (only calls raise in it). -/
namespace Rk
open PySem PySem.Spec L2 PyProof.Rows
theorem note_env (e : Value) {cenv env : Env} (h : cenv.frame = env.frame) : noteFrame e cenv = noteFrame e env := by
  unfold noteFrame PySem.frameOf
  rw [h]
section
variable {M : Model} {A : Around} {E : Value → Shared → Prop} {s : Shared} {B : Heap} {env cenv : Env} {outer l : List Env} {a L C : Addr} {Z : Obj → Prop} {m : Str → Option Value}
/-- the note of a frame, whoever held the exception ahead -/
theorem note_sky {Q : Unit → Shared → Prop} (hZ : HandSPX.Steady Z) (hfr : A.frames = some (env :: outer)) (hf : env.frame = some L) (x : Sky B (env :: outer) a Z C s.heap)
    (hQ : ∀ h', HandSPX.HeldZ B (env :: outer) a Z L h' → s.heap.UpToSlots h' → Q () { s with heap := h' }) : wpAny M A (noteFrame (.ref a) env) Q E s := by
  rcases x with ⟨hB, hn, hl, oe, vs, he, hz, hd, h1⟩ | fl | hh
  · exact HandSPX.look_newZ hZ hfr hl hf he hB hn hd h1 hz hQ
  · exact HandSPX.looks_onZ hZ hfr hf fl hQ
  · by_cases hc : (rawInt C == rawInt L) = true
    · have hc' : rawInt C = rawInt L := by simpa using hc
      have hh' : HandSPX.HeldZ B (env :: outer) a Z L s.heap := ⟨hh.1, hh.2.1, hh.2.2.1, by have := hh.2.2.2; rwa [hc'] at this⟩
      exact HandSPX.againZ hf hh'.2.2.2 (hQ s.heap hh' (Heap.UpToSlots.refl _))
    · obtain ⟨hkb, hen, hl, oe, vs, T, oT, ts, he, hz, hd, h1, hnT, hTe, hT, hdT, h3⟩ := hh
      unfold noteFrame
      simp only [hf]
      refine wpAny_bind (wpAny_field he hd h1 ?_)
      rw [if_pos (show (Value.ref T != Value.none) = true from by simp)]
      refine wpAny_bind (wpAny_field hT hdT h3 ?_)
      rw [if_neg hc]
      refine wpAny_bind (wpAny_setField hT hdT (Array.getElem?_eq_some_iff.mp h3).1 ?_)
      have other : ∀ b, b ≠ T → (s.heap.update T (Obj.mapFields (·.setIfInBounds 3 Value.none))).get? b = s.heap.get? b := fun b hb => Heap.get?_update_other _ _ (Ne.symm hb)
      have noRecord : ∀ b o, s.heap.get? b = some o → (∀ vs, o.data ≠ .fields vs) → b ≠ T := fun b o hb hnf q => by
        rw [q, hT] at hb; injection hb with hb; subst hb; exact hnf ts hdT
      refine HandSPX.wpAny_entryZ hZ hfr (hl.of_keeps fun b o hb hnf => ⟨o, (other b (noRecord b o hb hnf)).trans hb, rfl⟩) hf ((other a (Ne.symm hTe)).trans he)
        (fun b o hbo => (other b fun q => by rw [q, hnT] at hbo; cases hbo).trans (hkb b o hbo)) hen hd (Array.getElem?_eq_some_iff.mp h1).1 hz fun h' hN => ?_
      obtain ⟨x1, x2, x3, x4⟩ := hN
      exact hQ h' ⟨x1, hen, x2, x3⟩ fun b o hb hnf => x4 b o ((other b (noRecord b o hb hnf)).trans hb) hnf
/-- a namespace changes that is no part of the ground -/
theorem held_sameBut {h h' : Heap} (hh : HandSPX.HeldZ B l a Z L h) (hC : B.get? C = none) (hn : h.Ns C m) (hn' : ∃ m', h'.Ns C m') (hs : Heap.SameBut C h h') : HandSPX.HeldZ B l a Z L h' := by
  obtain ⟨b1, b0, f1, oe, vs, T, oT, ts, he, hz, hd, h1, hnT, hTe, hT, hdT, h3⟩ := hh
  obtain ⟨m', hn'⟩ := hn'
  obtain ⟨oC, es, ep, hoC, hdC, _⟩ := hn
  have ne : ∀ {b : Addr} {o : Obj} {vs : Array Value}, h.get? b = some o → o.data = .fields vs → b ≠ C := fun {b o vs} e d q => by
    subst q
    rw [hoC] at e; cases e
    rw [hdC] at d; cases d
  exact ⟨fun b o hb => (hs.2 b fun q => by rw [q, hC] at hb; cases hb).trans (b1 b o hb), b0, Heap.FunFrames.sameBut hs hn' f1, oe, vs, T, oT, ts, (hs.2 a (ne he hd)).trans he, hz, hd, h1, hnT, hTe, (hs.2 T (ne hT hdT)).trans hT, hdT, h3⟩
theorem pass_held {what : String} (hf : cenv.frame = some L) (hh : HandSPX.HeldZ B l a Z L s.heap) (hQ : ∀ h', HandSPX.HeldZ B l a Z L h' → s.heap.UpToSlots h' → E (.ref a) { s with heap := h' }) :
    wpAny M A (PySem.passOn what (.ref a) cenv : Sem Value) (fun _ _ => False) E s := by
  have hh0 := hh
  obtain ⟨b1, b0, f1, oe, vs, T, oT, ts, he, hz, hd, h1, r⟩ := hh
  unfold PySem.passOn
  refine wpAny_bind (wpAny_field he hd h1 ?_)
  rw [if_neg (show ¬ ((Value.ref T == Value.none) = true) from by simp)]
  rw [hf]
  exact wpAny_bind (HandSPX.setFlight_onZ hh0 fun h' k up => wpAny_throw (hQ h' k up))
end
/-- behind the block: as the library's post, an exception with the frame's note -/
def cPost (M : Model) (A : Around) (E : Value → Shared → Prop) (use : Option (Value → Sem Unit)) (Q : Value → Shared → Prop) (acc : Value) (ce : Env) (r : Result) (s' : Shared) : Prop :=
  match r, use with
  | .ok _, none => ∃ m, s'.heap.Ns ce.locals m ∧ ∀ h', Heap.SameBut ce.locals s'.heap h' → Q acc { s' with heap := h' }
  | .ok _, some u => wpAny M A (u acc) (fun _ s'' => ∃ m, s''.heap.Ns ce.locals m ∧ ∀ h', Heap.SameBut ce.locals s''.heap h' → Q .none { s'' with heap := h' }) E s'
  | .error x, _ => ∃ m, s'.heap.Ns ce.locals m ∧ ∀ h', (∃ m', h'.Ns ce.locals m') → Heap.SameBut ce.locals s'.heap h' → ∀ cenv : Env, cenv.frame = ce.frame → wpAny M A (PySem.passOn "comprehension.variables-let-go" x cenv : Sem Value) (fun _ _ => False) E { s' with heap := h' }
section
variable {M : Model} {A : Around} {E : Value → Shared → Prop} {s : Shared} {env : Env}
theorem comp_free {e : Expr} {scope : Scope} {pos : Pos} {newAcc first : Sem Value} {g : Comprehension} {gs : List Comprehension} {cl : List (Str × Addr)} {use : Option (Value → Sem Unit)}
    {Q : Value → Shared → Prop}
    (hcl : clausesOf e = g :: gs) (hs : ∀ x, foldedSetIterable g.iter env x = pure x) (hclos : closureFor scope env = pure cl)
    (hkind : scope.kind = .function) (hnames : ∀ x ∈ scope.names, x.2 = .local → scope.names.lookup x.1 = some .local)
    (h : wpAny M A first (fun x s₁ => wpAny M A (pyIter x) (fun it s₂ => wpAny M A newAcc (fun acc s₃ =>
      wpAny M A (newFunctionEnv scope env.globals cl [] env.qual none .none (some env)) (fun cenv s₄ =>
        codeAny M A (.compStart e 0 it acc { cenv with scope := relabel scope env }) (cPost M A E use Q acc { cenv with scope := relabel scope env }) s₄) E s₃) E s₂) E s₁) E s) :
    wpAny M A (comprehension e scope env pos newAcc false first use) Q E s := by
  unfold comprehension
  rw [hclos, hcl]
  refine wpAny_bind (wpAny_mono h (fun x s₁ h₁ => wpAny_bind (wpAny_standAt (wpAny_bind (wpAny_of_eq (hs x) (wpAny_bind (wpAny_holding (wpAny_mono h₁ (fun it s₂ h₂ =>
    wpAny_standIf (wpAny_bind (wpAny_mono h₂ (fun acc s₃ h₃ => wpAny_bind (wpAny_pure (wpAny_bind (wpAny_mono h₃ (fun cenv s₄ h₄ => ?_) fun _ _ h' => h')))) fun _ _ h' => h')))
      fun _ _ h' => h'))))))) fun _ _ h' => h')
  dsimp only
  have hv0 : ∀ x ∈ (scope.names.filter fun x => (x.2 == .local || x.2 == .cell) && x.1 != (".0" : Str)), x.2 = .local →
      Env.kindOf { cenv with scope := relabel scope env } x.1 = some .local := fun x hx hl => lookup_relabel_local (hnames x (List.mem_filter.mp hx).1 hl)
  have hv : ∀ x ∈ (scope.names.filter fun x => (x.2 == .local || x.2 == .cell) && x.1 != (".0" : Str)).reverse, x.2 = .local →
      Env.kindOf { cenv with scope := relabel scope env } x.1 = some .local := fun x hx hl => hv0 x (List.mem_reverse.mp hx) hl
  have hv' : ∀ x ∈ (scope.names.filter fun x => (x.2 == .local || x.2 == .cell) && x.1 != (".0" : Str)).reverse.drop 1 ++ (scope.names.filter fun x => (x.2 == .local || x.2 == .cell) && x.1 != (".0" : Str)).reverse.take 1,
      x.2 = .local → Env.kindOf { cenv with scope := relabel scope env } x.1 = some .local := fun x hx hl => by
    rcases List.mem_append.mp hx with h1 | h1
    · exact hv x (List.mem_of_mem_drop h1) hl
    · exact hv x (List.mem_of_mem_take h1) hl
  refine wpAny_holding (wpAny_bind (wpAny_attempt (wpAny_holding (wpAny_run (codeAny_mono h₄ fun r s' hr => ?_)))))
  cases r with
  | ok f =>
    cases use with
    | none =>
      obtain ⟨m, hn, hr⟩ := hr
      exact wpAny_bind (wpAny_holding (wpAny_comp_letGo (cenv := { cenv with scope := relabel scope env }) hkind _ s' m hv hn fun h' m' _ hs' => wpAny_pure (hr h' hs')))
    | some u =>
      refine wpAny_bind (wpAny_rule (wpAny_bind (wpAny_holding (wpAny_mono hr (fun _ s'' hr' => ?_) fun _ _ h' => h'))))
      obtain ⟨m, hn, hr'⟩ := hr'
      exact wpAny_bind (wpAny_comp_letGo (cenv := { cenv with scope := relabel scope env }) hkind _ s'' m hv' hn fun h' m' _ hs' => wpAny_pure (hr' h' hs'))
  | error x =>
    have hr' : ∃ m, s'.heap.Ns cenv.locals m ∧ ∀ h', (∃ m', h'.Ns cenv.locals m') → Heap.SameBut cenv.locals s'.heap h' → ∀ cenv' : Env, cenv'.frame = cenv.frame → wpAny M A (PySem.passOn "comprehension.variables-let-go" x cenv' : Sem Value) (fun _ _ => False) E { s' with heap := h' } := by cases use <;> exact hr
    obtain ⟨m, hn, hr⟩ := hr'
    exact wpAny_bind (wpAny_holding (wpAny_comp_letGo (cenv := { cenv with scope := relabel scope env }) hkind _ s' m hv hn fun h' m' hm' hs' => wpAny_mono (hr h' ⟨m', hm'⟩ hs' _ rfl) (fun _ _ f => f.elim) fun _ _ y => y))
end
abbrev blkX (X : Cx) (s : Shared) (H : Hp) (scope : Scope) (ce : Env) (fp : List Addr) (xe : Value → Shared → Prop) : Cx := (X.blk s H scope ce fp).tr [] xe
theorem inv_xe {X : Cx} {pins : List (Addr × Obj)} {σ : L2.St} {H : Hp} {s : Shared} (I : Inv X pins σ H s) (xe : Value → Shared → Prop) : Inv (X.tr X.pn xe) pins σ H s :=
  ⟨⟨I.ok.mod, I.ok.kind, I.ok.glob, I.ok.blt, I.ok.above, I.ok.inj, I.ok.has, I.ok.cab, I.ok.hd, I.ok.frames, I.ok.stk, I.ok.exf, I.ok.bs, I.ok.bsz, I.ok.noex, I.ok.exfs, I.ok.funs, I.ok.frf⟩, I.os, I.bare, I.base, I.loc, I.cell, I.free, I.freeC, I.pin, I.hok, I.len⟩
/-- what the block lets out is in the air of the def -/
theorem blk_out {X : Cx} {W : WX} {pins pinsb : List (Addr × Obj)} {σ σb : L2.St} {H3 H' : Hp} {s3 sI s' : Shared} {B : Heap} {a : Addr} {cls : Value} {d : Option Addr} {scope : Scope} {ce : Env} {fp : List Addr} {xe : Value → Shared → Prop}
    (I3 : Inv X pins σ H3 s3) (f3 : ∀ b ∈ fp, FpOk X pins H3 b) (cL : ce.locals = s3.heap.objs.size) (I : Inv (blkX X s3 H3 scope ce fp xe) pinsb σb H' sI)
    (nb : ∀ b o, sI.heap.get? b = some o → b ∉ frs X.stack → b ≠ ce.locals → B.get? b = some o)
    (up : ∀ b o, sI.heap.get? b = some o → b ≠ ce.locals → (∀ vs, o.data ≠ .fields vs) → ∃ sl, s'.heap.get? b = some { o with slots := sl })
    (hh : HandSPX.HeldZ B X.stack a (Zc cls d) X.env.locals s'.heap) (na : H' a = none) (os : s'.os = sI.os) (ag : AllBare s'.gens) (w : W cls d σ H') : XE X W (.ref a) s' := by
  obtain ⟨G, g1, g2⟩ := restrict s'.heap fun b => (B.get? b).isSome || decide (b ∈ frs X.stack)
  have st : B.StaysIn s'.heap := hh.1
  have gB : ∀ b o, B.get? b = some o → G.get? b = some o := fun b o e => by
    rw [g1 b (by simp [e])]
    exact st b o e
  have gF : ∀ b, b ∈ frs X.stack → G.get? b = s'.heap.get? b := fun b hb => g1 b (by simp [hb])
  have og : ∀ b o, G.get? b = some o → s'.heap.get? b = some o ∧ ((B.get? b).isSome = true ∨ b ∈ frs X.stack) := fun b o e => by
    cases q : ((B.get? b).isSome || decide (b ∈ frs X.stack)) with
    | false => rw [g2 b q] at e; cases e
    | true =>
      rw [g1 b q] at e
      exact ⟨e, by simpa [Bool.or_eq_true] using q⟩
  have nC : ∀ b o, s3.heap.get? b = some o → b ≠ ce.locals := fun b o e q => by
    rw [q, cL] at e
    exact absurd (Heap.lt_size e) (Nat.lt_irrefl _)
  have fr : ∀ b ∈ frs X.stack, ∀ o, s3.heap.get? b = some o → b ∉ fp → ∃ sl, s'.heap.get? b = some { o with slots := sl } := fun b hb o e hc => by
    obtain ⟨_, o', e', hd⟩ := I3.stack.mem hb
    rw [e] at e'; cases e'
    obtain ⟨sl, e1⟩ := I.base.slot b o e (I3.stkFree b hb) hb hc
    obtain ⟨sl2, e2⟩ := up b _ e1 (nC b o e) hd
    exact ⟨sl2, e2⟩
  have hC : H' ce.locals = none := I.free
  have hokB : HOk X.prog X.w H' B := fun b o q =>
    (I.hok b o q).stay (fun c u hc r => nb c u r (fun hm => by
      have z := I.stkFree c hm
      rcases hc with hc | hc
      · rw [hc, q] at z; cases z
      · rw [hc] at z; cases z) (fun z => by
      rw [z] at hc
      rcases hc with hc | hc
      · rw [← hc, hC] at q; cases q
      · rw [hC] at hc; cases hc)) (fun _ r => r) fun _ _ r => r
  refine ⟨a, B, { s3 with heap := G, gens := s'.gens, drawn := s'.drawn, toks := s'.toks }, pins, σ, H', cls, d, rfl, ?_, fun b o e hb => ?_, Heap.UpToSlots.of_keeps fun b o e => (og b o e).1, .inr (.inr hh), na, os.trans I.os, ag, w⟩
  · refine I3.call' (ch := fp) rfl ⟨fun b o e n hb hc => gB b o (nb b o (I.base.keep b o e n hb hc) hb (nC b o e)), fun b o e n hb hc => ?_, fun b o e n hc => I.base.free b o e n hc, fun b o e hc => ?_, I.base.tups, I.base.frzs, I.base.tbls⟩ (hokB.kept gB) ag fun b hb => ⟨(f3 b hb).2.2.2.1, (f3 b hb).2.1, (f3 b hb).2.2.2.2.1, (f3 b hb).2.2.2.2.2⟩
    · obtain ⟨sl, q⟩ := fr b hb o e hc
      exact ⟨sl, by rw [gF b hb]; exact q⟩
    · by_cases hb : b ∈ frs X.stack
      · obtain ⟨sl, q⟩ := fr b hb o e hc
        exact ⟨_, by rw [gF b hb]; exact q⟩
      · obtain ⟨o', q⟩ := I.base.there b o e hc
        exact ⟨o', gB b o' (nb b o' q hb (nC b o e))⟩
  · obtain ⟨e', h⟩ := og b o e
    rcases h with h | h
    · obtain ⟨o', q⟩ := Option.isSome_iff_exists.mp h
      have z := st b o' q
      rw [e'] at z; cases z
      exact q
    · exact absurd h hb
theorem blk_noted {X : Cx} {W : WX} {pins : List (Addr × Obj)} {σ : L2.St} {H3 : Hp} {s3 s' : Shared} {scope : Scope} {ce : Env} {fp : List Addr} {xe : Value → Shared → Prop} {use : Option (Value → Sem Unit)} {Qf : Value → Shared → Prop} {acc u : Value}
    (hs : X.stack = X.env :: X.outer) (hf : X.env.frame = some X.env.locals) (tk : L2.Takes X W) (I3 : Inv X pins σ H3 s3) (f3 : ∀ b ∈ fp, FpOk X pins H3 b) (cL : ce.locals = s3.heap.objs.size) (cF : ce.frame = X.env.frame)
    (x : XE (blkX X s3 H3 scope ce fp xe) (fun c d _ H => W c d σ H) u s') :
    notedBy (model X.prog X.w) X.A ce (fun e s'' => cPost (model X.prog X.w) X.A X.xe use Qf acc ce (.error e) s'') u s' := by
  obtain ⟨a, B, sI, pinsb, σb, H', cls, d, rfl, I, nb, up, sky, na, os, ag, w⟩ := x
  have nb : ∀ b o, sI.heap.get? b = some o → b ∉ frs X.stack → B.get? b = some o := nb
  have sky : Sky B X.stack a (Zc cls d) ce.locals s'.heap := sky
  have hfr : X.A.frames = some (X.env :: X.outer) := by rw [I3.ok.frames, hs]
  show wpAny _ X.A (noteFrame (.ref a) ce) _ _ s'
  rw [note_env _ cF]
  rw [hs] at sky
  refine note_sky Zc.steady hfr hf sky fun h1 hh up1 => ?_
  obtain ⟨m, hn, _⟩ := I.loc
  have hn : sI.heap.Ns ce.locals m := hn
  obtain ⟨oC, es, ep, hoC, hdC, hk, hr⟩ := hn
  obtain ⟨sl1, e1⟩ := up _ _ hoC (fun vs q => by rw [hdC] at q; cases q)
  obtain ⟨sl2, e2⟩ := up1 _ _ e1 (fun vs q => by
    have q : oC.data = .fields vs := q
    rw [hdC] at q; cases q)
  have hn1 : h1.Ns ce.locals m := ⟨_, es, ep, e2, hdC, hk, hr⟩
  show ∃ m, h1.Ns ce.locals m ∧ _
  refine ⟨m, hn1, fun h' hn' hsb cenv hcf => ?_⟩
  have hB : ∀ b o, (PySem.W.hideAll B [ce.locals]).get? b = some o → B.get? b = some o := fun b o e => PySem.W.of_hideAll _ e
  have hBn : ∀ b, B.get? b = none → (PySem.W.hideAll B [ce.locals]).get? b = none := fun b e => by
    cases q : (PySem.W.hideAll B [ce.locals]).get? b with
    | none => rfl
    | some o => rw [hB b o q] at e; cases e
  have hC : (PySem.W.hideAll B [ce.locals]).get? ce.locals = none := PySem.W.hideAll_none _ (by simp)
  have hh1 : HandSPX.HeldZ (PySem.W.hideAll B [ce.locals]) (X.env :: X.outer) a (Zc cls d) X.env.locals h1 := by
    obtain ⟨b1, b0, f1, oe, vs, T, oT, ts, he, hz, hd, h1', hnT, r⟩ := hh
    exact ⟨fun b o e => b1 b o (hB b o e), hBn _ b0, funFrames_none f1 fun b hb => hBn b (f1.mem hb).1, oe, vs, T, oT, ts, he, hz, hd, h1', hBn _ hnT, r⟩
  have hh2 := held_sameBut hh1 hC hn1 hn' hsb
  refine pass_held (s := { s' with heap := h' }) (L := X.env.locals) (by rw [hcf, cF, hf]) hh2 fun h2 k2 up2 => ?_
  rw [← hs] at k2
  refine tk _ _ (blk_out (W := W) (s' := { s' with heap := h2 }) I3 f3 cL I (fun b o e hb hc => PySem.W.hideAll_get _ (nb b o e hb) (by simpa using hc)) (fun b o e hc hnf => ?_) k2 na os ag w)
  obtain ⟨sl1, e1⟩ := up b o e hnf
  obtain ⟨sl2, e2⟩ := up1 b _ e1 hnf
  have e3 : h'.get? b = some _ := (hsb.2 b hc).trans e2
  obtain ⟨sl4, e4⟩ := up2 b _ e3 hnf
  exact ⟨sl4, e4⟩
end Rk

/-! Rk50: a list comprehension whose block may let an exception out (of a call). -/
namespace Rk
open PySem PySem.Spec L2 PyProof.Rows
/-- the wish about exceptions, at the def's slots -/
abbrev wAt (W : WX) (σ : L2.St) : WX := fun c d _ H => W c d σ H
def tLcX (W : WX) (wi : TI) (g : TG) (tt : WX → TT) (te : WX → TE) (vs : List Nat) : TE := fun σ H Q => wi σ H fun J H1 => ∀ D, H1 D = none → ∃ V : Nat → Nat → Hp → Prop, (∃ m, V 0 m (L2.upd H1 D (.lst []))) ∧ ∀ i m H, V i m H →
  (J.stop i H ∧ Q (.ref D) H) ∨ (J.go i H ∧ ∃ Nx : Hp → Prop, (∀ H', Nx H' → ∃ m', m' < m ∧ V (i + 1) m' H') ∧ ∀ x H', J.yld i H x H' → g x (L2.wipe σ vs) H' fun σ2 H2 => L2.wipe σ2 vs = L2.wipe σ vs ∧ tt (wAt W σ) σ2 H2 fun b H3 =>
    if b = true then te (wAt W σ) σ2 H3 fun y H4 => ∃ acc, H4 D = some (.lst acc) ∧ acc.length < sizeLine ∧ Nx (L2.upd H4 D (.lst (acc ++ [y]))) else Nx H3)
section
variable {X : Cx} {W : WX}
theorem takes_blk {s : Shared} {H : Hp} {scope : Scope} {ce : Env} {fp : List Addr} : L2.Takes (blkX X s H scope ce fp fun u s' => XE (blkX X s H scope ce fp fun _ _ => False) W u s') W := fun u s' ⟨a, B, sI, pins, σ, H', cls, d, e, I, nb, up, sky, na, os, ag, w⟩ =>
  ⟨a, B, sI, pins, σ, H', cls, d, e, inv_xe I (fun _ _ => False), nb, up, sky, na, os, ag, w⟩
theorem lc_coreX {pins : List (Addr × Obj)} {s : Shared} {σ : L2.St} {H : Hp} {Q : VK} {elt tg iter : Expr} {ifs : List Expr} {scope : Scope} {own : List (Str × Nat)} {pos pos' : Pos} {wi : TI} {g : TG} {tt : WX → TT} {te : WX → TE} {use : Option (Value → Sem Unit)} {Qf : Value → Shared → Prop}
    (hst : X.stack = X.env :: X.outer) (hfr : X.env.frame = some X.env.locals) (tk : L2.Takes X W)
    (hc : X.calm = true) (hN : X.N.Nodup) (I : Inv X pins σ H s) (hi : PI X tg iter wi) (ok : BlkOk X.N X.env.scope scope own)
    (hg : ∀ (s : Shared) (H : Hp) (C : Addr) (cl : List (Str × Addr)) (fp : List Addr) (xe : Value → Shared → Prop), PG (blkX X s H scope (compEnvC scope cl C X.env) fp xe) tg g)
    (ht : ∀ (s : Shared) (H : Hp) (C : Addr) (cl : List (Str × Addr)) (fp : List Addr) (xe : Value → Shared → Prop) (W' : WX), L2.Takes (blkX X s H scope (compEnvC scope cl C X.env) fp xe) W' → PTs (blkX X s H scope (compEnvC scope cl C X.env) fp xe) ifs (tt W'))
    (he : ∀ (s : Shared) (H : Hp) (C : Addr) (cl : List (Str × Addr)) (fp : List Addr) (xe : Value → Shared → Prop) (W' : WX), L2.Takes (blkX X s H scope (compEnvC scope cl C X.env) fp xe) W' → PE (blkX X s H scope (compEnvC scope cl C X.env) fp xe) elt (te W')) (hs : ∀ x, foldedSetIterable iter X.env x = pure x)
    (h : tLcX W wi g tt te (own.map (·.2)) σ H Q)
    (hRR : ∀ D (ce : Env) s' m H', Inv X pins σ H' s' → Q (.ref D) H' → s'.heap.Ns ce.locals m → FpOk X pins H' ce.locals → cPost (model X.prog X.w) X.A X.xe use Qf (.ref D) ce (.ok .next) s') :
    wpAny (model X.prog X.w) X.A (comprehension (.ListComp elt [⟨tg, iter, ifs, 0⟩] scope pos) scope X.env pos' (newList []) false (eval iter X.env) use) Qf X.xe s := by
  have hfree : ∀ y ∈ scope.names, y.2 = .free → ∃ c, X.env.cells.lookup y.1 = some c := fun y hy e => by
    rcases ok.free y hy e with k | k
    · exact I.ok.has _ (.inl k)
    · exact I.ok.has _ (.inr k)
  refine comp_free (use := use) rfl hs (closure_ok hfree) ok.kind (fun y hy e => by rw [ok.uniq y hy, e])
    (thn (hi.run pins s σ H _ I h) fun xv s1 hx => thn hx fun itv s2 h2 => ?_)
  obtain ⟨it, fp, tn, J, H2, e, I2, T, st2, f2, q⟩ := h2
  subst e
  refine wpAny_newObj_type (newEnv_comp ?_) (by show 0 ≤ sizeLine; decide)
  generalize hD : s2.heap.objs.size = D
  have hDn : H2 D = none := I2.hok.fresh (Nat.le_of_eq hD)
  obtain ⟨V, ⟨m0, w0⟩, turn⟩ := q D hDn
  generalize hs3 : ({ s2 with heap := s2.heap.push { cls := .type "list", data := .seq ([] : List Value).toArray } } : Shared) = s3
  have I3 : Inv X pins σ (L2.upd H2 D (.lst [])) s3 := by
    rw [← hs3]
    refine I2.laid (t' := s2.toks) (fun b o e => Heap.get?_push_of_some _ e) (Nat.le_of_eq hD) ⟨Nat.zero_le _, [], 0, .nil, ?_⟩
    rw [← hD]
    exact Heap.get?_push_size _ rfl
  have h3 : s3.heap = s2.heap.push { cls := .type "list", data := .seq ([] : List Value).toArray } := by rw [← hs3]
  have sz : ∀ b ∈ fp, b < s2.heap.objs.size := fun b hb => by
    obtain ⟨o, e, _⟩ := T.obj _ _ st2 b hb
    exact Heap.lt_size e
  have f3 : ∀ b ∈ fp, FpOk X pins (L2.upd H2 D (.lst [])) b ∧ b < s3.heap.objs.size := fun b hb => by
    have hlt := sz b hb
    refine ⟨⟨?_, (f2 b hb).2⟩, by rw [h3, Heap.size_push]; exact Nat.lt_succ_of_lt hlt⟩
    rw [L2.upd_ne (by rw [← hD]; exact Nat.ne_of_lt hlt)]
    exact (f2 b hb).1
  have st3 : tn 0 s3.heap := T.keep _ _ _ st2 fun b _ o e => by rw [h3]; exact Heap.get?_push_of_some _ e
  have I4 := block_start I3 ok hN f3
  show codeAny _ _ (.compStart (.ListComp elt [⟨tg, iter, ifs, 0⟩] scope pos) 0 (.ref it) (.ref D) (compEnvC scope (cellsFrom (s3.heap.objs.size + 1) scope.names (cloFrom X.env.cells scope.names [])) s3.heap.objs.size X.env)) (cPost (model X.prog X.w) X.A X.xe use Qf (.ref D) (compEnvC scope (cellsFrom (s3.heap.objs.size + 1) scope.names (cloFrom X.env.cells scope.names [])) s3.heap.objs.size X.env)) { s3 with heap := pushCells (s3.heap.push { cls := .type "dict", data := .dict #[] }) scope.names }
  generalize hce : compEnvC scope (cellsFrom (s3.heap.objs.size + 1) scope.names (cloFrom X.env.cells scope.names [])) s3.heap.objs.size X.env = ce at I4
  have cL : ce.locals = s3.heap.objs.size := by subst hce; rfl
  have cF : ce.frame = X.env.frame := by subst hce; rfl
  have nfp : ∀ b ∈ fp, (L2.upd H2 D (.lst [])) b = none := fun b hb => (f3 b hb).1.1
  generalize hH3 : L2.upd H2 D (.lst []) = H3 at I3 I4 w0 nfp f3
  let xe : Value → Shared → Prop := fun u s' => XE (blkX X s3 H3 scope ce fp fun _ _ => False) (wAt W σ) u s'
  have tkb : L2.Takes (blkX X s3 H3 scope ce fp xe) (wAt W σ) := takes_blk
  have pg : PG (blkX X s3 H3 scope ce fp xe) tg g := by subst hce; exact hg _ _ _ _ _ _
  have pt : PTs (blkX X s3 H3 scope ce fp xe) ifs (tt (wAt W σ)) := by subst hce; exact ht _ _ _ _ _ _ _ tkb
  have pe : PE (blkX X s3 H3 scope ce fp xe) elt (te (wAt W σ)) := by subst hce; exact he _ _ _ _ _ _ _ tkb
  have I4 := inv_xe I4 xe
  have nt : ∀ {acc u : Value} {s' : Shared}, xe u s' → notedBy (model X.prog X.w) X.A ce (fun e s'' => cPost (model X.prog X.w) X.A X.xe use Qf acc ce (.error e) s'') u s' := fun {acc u s'} x =>
    blk_noted hst hfr tk I3 (fun b hb => (f3 b hb).1) cL cF x
  generalize hs4 : ({ s3 with heap := pushCells (s3.heap.push { cls := .type "dict", data := .dict #[] }) scope.names } : Shared) = s4 at I4
  have st4 : tn 0 s4.heap := T.keep _ _ _ st3 fun b _ o e => by rw [← hs4]; exact pushCells_keeps _ _ _ _ (Heap.get?_push_of_some _ e)
  have stat : ∀ {σ' : L2.St} {H' : Hp} {s' : Shared}, Inv (blkX X s3 H3 scope ce fp xe) [] σ' H' s' → (∀ b ∈ fp, H' b = none) → ∀ b ∈ fp, FpOk (blkX X s3 H3 scope ce fp xe) [] H' b := fun {σ' H' s'} I' hn b hb =>
    ⟨hn b hb, (I'.ok.exf b hb).1, I'.ok.exfs b hb, .inl hb, fun x c e => (I'.ok.exf b hb).2 x c e, fun p hp => absurd (show p ∈ ([] : List (Addr × Obj)) ++ [] from hp) (by simp)⟩
  have loop : codeAny (model X.prog X.w) X.A (.compLoop (.ListComp elt [⟨tg, iter, ifs, 0⟩] scope pos) 0 (.ref it) (.ref D) ce) (cPost (model X.prog X.w) X.A X.xe use Qf (.ref D) ce) s4 := by
    refine compLoop_any (fun n s' => ∃ i H', Inv (blkX X s3 H3 scope ce fp xe) [] (L2.wipe σ (own.map (·.2))) H' s' ∧ tn i s'.heap ∧ (∀ b ∈ fp, H' b = none) ∧ V i n H') ?_ m0 ⟨0, H3, I4, st4, nfp, w0⟩
    rintro n s5 ⟨i, H5, I5, st5, n5, w5⟩
    rcases turn i n H5 w5 with ⟨stop, qq⟩ | ⟨go, Nx, hNx, step⟩
    · have td := T.done (blkX X s3 H3 scope ce fp xe) rfl rfl rfl hc i [] s5 _ H5 (fun _ _ => False) I5 (stat I5 n5) st5 stop
      refine thnF td fun r s6 ⟨hr, I6⟩ => ?_
      subst hr
      have I7 : Inv X pins σ H5 s6 := I3.call' (ch := fp) I6.os I6.base I6.hok I6.bare fun b hb => ⟨(f3 b hb).1.2.2.2.1, (f3 b hb).1.2.1, (f3 b hb).1.2.2.2.2.1, (f3 b hb).1.2.2.2.2.2⟩
      have nC : H5 ce.locals = none := I6.free
      obtain ⟨m, hn, _⟩ := I6.loc
      have hn : s6.heap.Ns ce.locals m := hn
      exact hRR D ce s6 m H5 I7 qq hn (I3.fpOk (Nat.le_of_eq cL.symm) nC)
    · have ti := T.item (blkX X s3 H3 scope ce fp xe) rfl rfl rfl hc i [] s5 _ H5 (fun _ _ => False) I5 (stat I5 n5) st5 go
      refine thnF ti fun r s6 ⟨u, hr, h6⟩ => ?_
      subst hr
      refine thnF h6 fun _ s7 ⟨x, H7, I7, r7, y7, st7, n7⟩ => ?_
      have I7' := I7.pinned (stat I7 n7) (T.obj _ _ st7)
      refine wpAny_mono (pg.run _ s7 _ H7 x u _ I7' r7 (step x H7 y7)) (fun _ s8 ⟨σ8, H8, I8, hw8, q8⟩ => ?_) fun _ _ x => nt x
      refine wpAny_mono (pt.run _ s8 σ8 H8 _ I8 q8) (fun b s9 ⟨H9, I9, q9⟩ => ?_) fun _ _ x => nt x
      have fin : ∀ {s' : Shared} {H' : Hp}, Inv (blkX X s3 H3 scope ce fp xe) ([] ++ pinsAt fp s7.heap) σ8 H' s' → Nx H' → ∃ m, m < n ∧ ∃ i H', Inv (blkX X s3 H3 scope ce fp xe) [] (L2.wipe σ (own.map (·.2))) H' s' ∧ tn i s'.heap ∧ (∀ b ∈ fp, H' b = none) ∧ V i m H' := fun {s' H'} I' nx => by
        obtain ⟨m', hm, w'⟩ := hNx H' nx
        have pin' : ∀ b ∈ fp, ∀ o, s7.heap.get? b = some o → s'.heap.get? b = some o ∧ H' b = none := fun b hb o e =>
          let z := I'.pin (b, o) (List.mem_append_right _ (List.mem_append_right _ (mem_pinsAt hb e)))
          ⟨z.1, z.2.1⟩
        have hl : (L2.wipe σ (own.map (·.2))).length = σ8.length := by rw [← hw8, L2.wipe_length]
        refine ⟨m', hm, i + 1, H', (I'.unpinned (pins := [])).weak hl (fun j v e => ?_), T.keep _ _ _ st7 fun b hb o e => (pin' b hb o e).1, fun b hb => ?_, w'⟩
        · rw [← hw8] at e
          exact (L2.wipe_some e).1
        · obtain ⟨o, e, _⟩ := T.obj _ _ st7 b hb
          exact (pin' b hb o e).2
      cases b with
      | false =>
        simp only [Bool.false_eq_true, if_false] at q9 ⊢
        exact fin I9 q9
      | true =>
        simp only [if_true] at q9 ⊢
        refine wpAny_mono (pe.run _ s9 σ8 H9 _ I9 q9) (fun z s10 ⟨yv, H10, I10, r10, acc, hD10, hz10, nx⟩ => ?_) fun _ _ x => nt x
        exact app_ok (X := blkX X s3 H3 scope ce fp xe) I10 hD10 hz10 r10 fun s11 I11 => fin I11 nx
  have fin := codeAny_compStart_list loop (T.self X.A 0 _ _ _ st4 loop)
  exact fin
end
end Rk

/-! Rk51 (printed by mk51.py): list comprehensions that let an exception through. -/
namespace Rk
open PySem PySem.Spec L2
variable {mg : Str → Option Value}
open Classical in
noncomputable def lcLX (gd : Option (Nat × List Da)) (D : Nat) (g : Gv) (tt : Tv) (fe : Ev) (ρ0 : En) : List Da → Hh → Out Vl
  | [], h => if gdOk gd h then .ok (.r D) h else .no
  | d :: ds, h => if gdOk gd h then (match g (.d d) ρ0 h with
      | none => .no
      | some p => match tt p.1 p.2 with
        | .ok true h2 => (match fe p.1 h2 with
          | .ok v h3 => (match appL D v h3 with
            | some h4 => lcLX gd D g tt fe ρ0 ds h4
            | none => .no)
          | .ex c fs h3 => .ex c fs h3
          | .no => .no)
        | .ok false h2 => lcLX gd D g tt fe ρ0 ds h2
        | .ex c fs h2 => .ex c fs h2
        | .no => .no) else .no
noncomputable def eLcX (vs : List Nat) (i : Iv) (g : Gv) (tt : Tv) (fe : Ev) : Ev := fun ρ h => (i ρ h).bind fun m h1 => lcLX m.gd h1.length g tt fe (wipeE ρ vs) m.ds (h1 ++ [some (.lst [])])
theorem lc_okX {K : PySem.W.Frag} {mg : Str → Option Value} {J : It} {m : Itm} {G : List Addr → Hh → Hp → Prop} (ok : ItOk K J m G) {g : Gv} {tt : Tv} {fe : Ev} {vs : List Nat} {φ : List Addr} {h : Hh} {H : Hp} {σ : L2.St} {ρ : En} {Q : VK} {W : WX} (sm : Sim K φ h H) (er : ERep K mg φ h H σ ρ) (gg : G φ h H)
    (q : PoX K mg φ h H (lcLX m.gd h.length g tt fe (wipeE ρ vs) m.ds (h ++ [some (.lst [])])) Q (WE W σ)) (D : Addr) (nd : H D = none) : ∃ W' : Nat → Nat → Hp → Prop, (∃ n, W' 0 n (upd H D (.lst []))) ∧ ∀ i n H, W' i n H →
      (J.stop i H ∧ Q (.ref D) H) ∨ (J.go i H ∧ ∃ Nx : Hp → Prop, (∀ H', Nx H' → ∃ m', m' < n ∧ W' (i + 1) m' H') ∧ ∀ x H', J.yld i H x H' → tGw K mg vs g x (L2.wipe σ vs) H' fun σ2 H2 => L2.wipe σ2 vs = L2.wipe σ vs ∧ tT K mg (wAt W σ) tt σ2 H2 fun b H3 => if b = true then tE K mg (wAt W σ) fe σ2 H3 fun y H4 => ∃ acc, H4 D = some (.lst acc) ∧ acc.length < sizeLine ∧ Nx (upd H4 D (.lst (acc ++ [y]))) else Nx H3) := by
  obtain ⟨n1, n2, n3⟩ := sm.new (mg := mg) (ob := .lst []) (o := .lst []) nd fun M st => ⟨[], upd_same, .nil⟩
  have jD : (φ ++ [D])[h.length]? = some D := by
    rw [← sm.len]
    simp
  generalize h.length = j at *
  refine ⟨fun i n H => n = m.ds.length - i ∧ ∃ φ h, Sim K φ h H ∧ φ[j]? = some D ∧ ERep K mg φ h H (L2.wipe σ vs) (wipeE ρ vs) ∧ G φ h H ∧ PoX K mg φ h H (lcLX m.gd j g tt fe (wipeE ρ vs) (m.ds.drop i) h) Q (WE W σ), ⟨_, rfl, φ ++ [D], h ++ [some (.lst [])], n2, jD, (er.step n1).wipe vs, ok.keep _ _ _ _ _ _ gg n1, by rw [List.drop_zero]; exact PoX.pull n1 q⟩, ?_⟩
  rintro i n H ⟨rfl, φ, h, sm, jD, er, gg, q⟩
  cases ed : m.ds.drop i with
  | nil =>
    rw [ed] at q
    unfold lcLX at q
    split at q
    · rename_i gd
      exact .inl ⟨ok.stop φ h H i sm gg gd (List.drop_eq_nil_iff.mp ed), q _ H φ (Step.refl _ _ _) sm ⟨D, jD, rfl⟩⟩
    · exact q.elim
  | cons d ds =>
    have hi : i < m.ds.length := by
      rcases Nat.lt_or_ge i m.ds.length with z | z
      · exact z
      · rw [List.drop_eq_nil_of_le z] at ed; cases ed
    have e1 : m.ds[i]? = some d := by
      have := List.getElem?_drop (xs := m.ds) (i := i) (j := 0)
      rw [ed] at this
      simpa using this.symm
    have e2 : m.ds.drop (i + 1) = ds := by
      have := List.drop_drop (i := 1) (j := i) (l := m.ds)
      rw [ed] at this
      simpa using this.symm
    rw [ed] at q
    unfold lcLX at q
    split at q
    · rename_i gd
      refine .inr ⟨ok.go φ h H i sm gg gd hi, fun H' => ∃ φ h, Sim K φ h H' ∧ φ[j]? = some D ∧ ERep K mg φ h H' (L2.wipe σ vs) (wipeE ρ vs) ∧ G φ h H' ∧ PoX K mg φ h H' (lcLX m.gd j g tt fe (wipeE ρ vs) ds h) Q (WE W σ), fun H' hN => ?_, fun x H' hy => ?_⟩
      · obtain ⟨φ', h', a1, a2, a3, a4, a5⟩ := hN
        exact ⟨m.ds.length - (i + 1), by omega, rfl, φ', h', a1, a2, a3, a4, by rw [e2]; exact a5⟩
      · obtain ⟨s1, s2, s3⟩ := ok.yld φ h H i x H' d sm gg gd e1 hy
        have q' := PoX.pull s1 q
        have gg' := ok.keep _ _ _ _ _ _ gg s1
        have er' := er.step s1
        cases eg : g (.d d) (wipeE ρ vs) h with
        | none => rw [eg] at q'; exact q'.elim
        | some p =>
          obtain ⟨ρ1, h1⟩ := p
          rw [eg] at q'
          refine ⟨φ, h, _, .d d, ρ1, h1, s2, er', s3, eg, fun σ2 H2 φ2 st2 sm2 er2 w2 => ⟨by
            have idm : L2.wipe (L2.wipe σ vs) vs = L2.wipe σ vs := by
              apply List.ext_getElem?
              intro k
              rw [wipe_get, wipe_get, L2.wipe_length]
              by_cases hk : k ∈ vs <;> simp [hk]
            rw [w2, idm], φ2, h1, ρ1, sm2, er2, ?_⟩⟩
          have q2 := PoX.pull st2 q'
          have gg2 := ok.keep _ _ _ _ _ _ gg' st2
          have er3 := er'.step st2
          have jD2 := pre_get st2.pre jD
          dsimp only at q2
          revert q2
          cases tt ρ1 h1 with
          | no => exact fun q2 => q2
          | ex c fs h2 => exact fun q2 => q2
          | ok b h2 =>
            intro q2 H3 φ3 st3 sm3
            have q3 := PoX.pull st3 q2
            have gg3 := ok.keep _ _ _ _ _ _ gg2 st3
            have jD3 := pre_get st3.pre jD2
            cases b with
            | false =>
              rw [if_neg (by decide)]
              exact ⟨φ3, h2, sm3, jD3, er3.step st3, gg3, q3⟩
            | true =>
              rw [if_pos rfl]
              refine ⟨φ3, h2, ρ1, sm3, er2.step st3, ?_⟩
              dsimp only at q3
              revert q3
              cases fe ρ1 h2 with
              | no => exact fun q3 => q3
              | ex c fs h3 => exact fun q3 => q3
              | ok v h3 =>
                intro q3 y H4 φ4 st4 sm4 rv
                have q4 := PoX.pull st4 q3
                have gg4 := ok.keep _ _ _ _ _ _ gg3 st4
                have jD4 := pre_get st4.pre jD3
                dsimp only at q4
                cases ea : appL j v h3 with
                | none => rw [ea] at q4; exact q4.elim
                | some h4 =>
                  rw [ea] at q4
                  obtain ⟨acc, a1, a2, a3, a4⟩ := appL_ok sm4 jD4 rv ea
                  exact ⟨acc, a1, a2, φ4, h4, a4, jD4, ((er3.step st3).step st4).step a3, ok.keep _ _ _ _ _ _ gg4 a3, PoX.pull a3 q4⟩
    · exact q.elim
section
variable {X : Cx} {W : WX} {elt tg iter : Expr} {ifs : List Expr} {scope : Scope} {own : List (Str × Nat)} {pos spos py : Pos} {fi : Iv} {g : Gv} {tt : Tv} {fe : Ev}
theorem lc_readX {σ : L2.St} {H : Hp} {Q : VK} {ws : List Nat} (hw : ws = own.map (·.2)) (t : tE X.K X.mg W (eLcX ws fi g tt fe) σ H Q) : tLcX W (tI X.K X.mg W fi) (tGw X.K X.mg ws g) (fun W' => tT X.K X.mg W' tt) (fun W' => tE X.K X.mg W' fe) (own.map (·.2)) σ H Q := by
  subst hw
  obtain ⟨φ, h, ρ, sm, er, q⟩ := t
  refine ⟨φ, h, ρ, sm, er, ?_⟩
  unfold eLcX at q
  revert q
  cases fi ρ h with
  | ok m h1 => exact fun q J H1 φ1 G st sm1 ok gg D nd => lc_okX ok sm1 (er.step st) gg (PoX.pull st q) D nd
  | ex c fs h1 => exact fun q => q
  | no => exact fun q => q
theorem ee_lcX (ws : List Nat) (own : List (Str × Nat)) (tk : Takes X W) (hc : X.calm = true) (hN : X.N.Nodup) (hi : EI X W tg iter fi) (ok : BlkOk X.N X.env.scope scope own)
    (hg : ∀ (s : Shared) (H : Hp) (C : Addr) (cl : List (Str × Addr)) (fp : List Addr) (xe : Value → Shared → Prop), EGw (blkX X s H scope (compEnvC scope cl C X.env) fp xe) ws tg g)
    (ht : ∀ (s : Shared) (H : Hp) (C : Addr) (cl : List (Str × Addr)) (fp : List Addr) (xe : Value → Shared → Prop) (W' : WX), Takes (blkX X s H scope (compEnvC scope cl C X.env) fp xe) W' → ETs (blkX X s H scope (compEnvC scope cl C X.env) fp xe) W' ifs tt)
    (he : ∀ (s : Shared) (H : Hp) (C : Addr) (cl : List (Str × Addr)) (fp : List Addr) (xe : Value → Shared → Prop) (W' : WX), Takes (blkX X s H scope (compEnvC scope cl C X.env) fp xe) W' → EE (blkX X s H scope (compEnvC scope cl C X.env) fp xe) W' elt fe)
    (hst : X.stack = X.env :: X.outer := by rfl) (hfr : X.env.frame = some X.env.locals := by rfl)
    (hw : ws = own.map (·.2) := by rfl) (hs : ∀ x, foldedSetIterable iter X.env x = pure x := by intro _; rfl) : EE X W (.ListComp elt [⟨tg, iter, ifs, 0⟩] scope pos) (eLcX ws fi g tt fe) := by
  refine ⟨fun pins s σ H Q I h => ?_⟩
  rw [eval_ListComp]
  refine lc_coreX (own := own) (g := tGw X.K X.mg ws g) (tt := fun W' => tT X.K X.mg W' tt) (te := fun W' => tE X.K X.mg W' fe) hst hfr tk hc hN I hi ok hg ht he hs (lc_readX hw h) fun D ce s' m H' I' q hn f => ⟨m, hn, fun h'' sb => ?_⟩
  obtain ⟨f0, f1, f2, f3, f4, f5⟩ := f
  exact ⟨.ref D, H', I'.turned (t' := s'.toks) (fun b o hb e => (sb.2 b hb).trans e) f0 f1 f3 f4 f5, rfl, q⟩
end
end Rk

/-! Rk52: wishes for list comprehensions that may raise. -/
namespace Rk
open PySem PySem.Spec L2
section
variable {gd : Option (Nat × List Da)} {g : Gv} {tt : Tv} {fe : Ev} {ρ0 ρ1 : En} {h h1 h2 h3 h4 : Hh} {D : Nat} {d : Da} {ds : List Da} {v : Vl} {c : Str} {fs : List (Str × Da)}
theorem lcX_nil (e : gdOk gd h) : lcLX gd D g tt fe ρ0 [] h = .ok (.r D) h := by
  unfold lcLX
  rw [if_pos e]
theorem lcX_cons (e : gdOk gd h) (eg : g (.d d) ρ0 h = some (ρ1, h1)) (et : tt ρ1 h1 = .ok true h2) (ef : fe ρ1 h2 = .ok v h3) (ea : appL D v h3 = some h4) : lcLX gd D g tt fe ρ0 (d :: ds) h = lcLX gd D g tt fe ρ0 ds h4 := by
  rw [lcLX]
  rw [if_pos e, eg]
  dsimp only
  rw [et]
  dsimp only
  rw [ef]
  dsimp only
  rw [ea]
theorem lcX_ex (e : gdOk gd h) (eg : g (.d d) ρ0 h = some (ρ1, h1)) (et : tt ρ1 h1 = .ok true h2) (ef : fe ρ1 h2 = .ex c fs h3) : lcLX gd D g tt fe ρ0 (d :: ds) h = .ex c fs h3 := by
  rw [lcLX]
  rw [if_pos e, eg]
  dsimp only
  rw [et]
  dsimp only
  rw [ef]
end
section
variable {gd : Option (Nat × List Da)} {g : Gv} {fe : Ev} {ρ0 : En} {h : Hh} {α : Type} {f g' : α → Da} {P : α → Bool} {c : Str} {fs : List (Str × Da)}
theorem lcX_mapR (hgd : ∀ o, gdOk gd (h ++ [o])) : ∀ (xs : List α) (acc : List Da), (∀ x ∈ xs, ∀ h', ∃ ρ1, g (.d (f x)) ρ0 h' = some (ρ1, h') ∧ ((P x = true ∧ fe ρ1 h' = .ok (.d (g' x)) h') ∨ (P x = false ∧ fe ρ1 h' = .ex c fs h'))) → acc.length + xs.length ≤ 16777216 →
    (xs.all P = true ∧ lcLX gd h.length g tvYes fe ρ0 (xs.map f) (h ++ [some (.lst acc)]) = .ok (.r h.length) (h ++ [some (.lst (acc ++ xs.map g'))])) ∨ (xs.all P = false ∧ ∃ o, lcLX gd h.length g tvYes fe ρ0 (xs.map f) (h ++ [some (.lst acc)]) = .ex c fs (h ++ [o]))
  | [], acc, _, _ => by
    refine .inl ⟨rfl, ?_⟩
    rw [List.map_nil, lcX_nil (hgd _)]
    simp
  | d :: ds, acc, H, hl => by
    obtain ⟨ρ1, e1, e2⟩ := H d (List.mem_cons_self ..) (h ++ [some (.lst acc)])
    rw [List.length_cons] at hl
    rw [List.map_cons]
    rcases e2 with ⟨p, e2⟩ | ⟨p, e2⟩
    · rw [lcX_cons (hgd _) e1 rfl e2 (appL_end rfl (by omega))]
      have := lcX_mapR hgd ds (acc ++ [g' d]) (fun d hd => H d (List.mem_cons_of_mem _ hd)) (by rw [List.length_append, List.length_singleton]; omega)
      simpa [p] using this
    · rw [lcX_ex (hgd _) e1 rfl e2]
      exact .inr ⟨by simp [p], _, rfl⟩
end
section
variable {Q : Vl → Hh → Prop} {E : XP} {ρ : En} {h : Hh} {i : Iv} {g : Gv} {tt : Tv} {fe : Ev} {ws : List Nat}
/-- every part told by a function, or all at an end by the one exception -/
theorem wp_lcX {α : Type} (xs : List α) (f g' : α → Da) (P : α → Bool) (c : Str) (fs : List (Str × Da)) {ρ0 : En} (e00 : wipeE ρ ws = ρ0) (w : Wp (i ρ h) (fun m h1 => m = ⟨xs.map f, none⟩ ∧ xs.length ≤ 16777216 ∧ h1.length = h.length ∧
      (∀ x ∈ xs, ∀ h', GvK (g (.d (f x)) ρ0 h') fun ρ1 h2 => h2 = h' ∧ Wp (fe ρ1 h') (fun v h3 => h3 = h' ∧ P x = true ∧ v = .d (g' x)) (fun c' fs' h3 => h3 = h' ∧ P x = false ∧ c' = c ∧ fs' = fs)) ∧
      (xs.all P = true → Q (.d (.list (xs.map g'))) h1) ∧ (xs.all P = false → E c fs h1)) (fun c fs h1 => E c fs (h1.take h.length))) : Wp (eFz (eLcX ws i g tvYes fe) ρ h) Q E := by
  subst e00
  refine wp_fz (wp_bind (w.mono ?_ fun _ _ _ z => z))
  rintro m h1 ⟨rfl, hl, hh, H, q, qe⟩
  have lf := lcX_mapR (gd := none) (g := g) (fe := fe) (ρ0 := wipeE ρ ws) (h := h1) (f := f) (g' := g') (P := P) (c := c) (fs := fs) (fun _ => trivial) xs [] (fun d hd h' => by
    have k := H d hd h'
    unfold GvK Wo at k
    revert k
    cases e : g (.d (f d)) (wipeE ρ ws) h' with
    | none => exact fun z => z.elim
    | some p =>
      obtain ⟨ρ1, h2⟩ := p
      rintro ⟨rfl, wf⟩
      refine ⟨ρ1, rfl, ?_⟩
      have k := wf.w
      revert k
      cases fe ρ1 h2 with
      | ok v h3 => rintro ⟨rfl, p, rfl⟩; exact .inl ⟨p, rfl⟩
      | ex c' fs' h3 => rintro ⟨rfl, p, rfl, rfl⟩; exact .inr ⟨p, rfl⟩
      | no => exact fun z => z.elim) (by simpa using hl)
  rw [List.nil_append] at lf
  rcases lf with ⟨p, lf⟩ | ⟨p, o, lf⟩
  · exact wp_eq lf (fzk_end hh (q p))
  · refine ⟨?_⟩
    show Wp0 (lcLX none h1.length g tvYes fe (wipeE ρ ws) (xs.map f) (h1 ++ [some (.lst [])])) _ _
    rw [lf]
    show E c fs ((h1 ++ [o]).take h.length)
    rw [← hh, List.take_left]
    exact qe p
end
end Rk

/-! Rk53: name = [..], the block may let an exception out. -/
namespace Rk
open PySem PySem.Spec L2
section
variable {X : Cx} {W : WX} {elt tg iter : Expr} {ifs : List Expr} {scope : Scope} {own : List (Str × Nat)} {pos spos py : Pos} {fi : Iv} {g : Gv} {tt : Tv} {fe : Ev}
end
end Rk

/-! Rk54: as wp_lcX (Rk52), the list kept as one that may be changed. -/
namespace Rk
open PySem PySem.Spec L2
section
variable {Q : Vl → Hh → Prop} {E : XP} {ρ : En} {h : Hh} {i : Iv} {g : Gv} {tt : Tv} {fe : Ev} {ws : List Nat}
end
end Rk

/-! Rk55: deeds: a lambda without parameters, handed to a def that calls it. -/
namespace Rk
open PySem PySem.Spec L2
/-- what stands for the deed, what it tells -/
structure Deed where
  D : Dd
  T : Hh → Out Vl
open Classical in
noncomputable def eDeed (i : Nat) (d : Deed) : Ev := fun ρ h => match ρ[i]? with
  | some (some (.f D)) => if D = d.D then d.T h else .no
  | _ => .no
def cap1 : Option Vl → Option Vl0
  | some (.d x) => some (.d x)
  | some (.r n) => some (.r n)
  | _ => none
def up1 : Option Vl0 → Option Vl
  | some (.d x) => some (.d x)
  | some (.r n) => some (.r n)
  | none => none
def capE (ρ : En) : List (Option Vl0) := ρ.map cap1
def upE (ρ : List (Option Vl0)) : En := ρ.map up1
open Classical in
/-- whatever the addresses are -/
noncomputable def lamO (o : Addr → Addr → List (Option V) → Out Vl) : Out Vl := if z : ∃ r, ∀ f c σ, o f c σ = r then Classical.choose z else .no
/-- the maker's table stands where it is to stand -/
def hasTab (n : Nat) (x : Str) (h : Hh) : Bool := match h[n]? with
  | some (some (.tbl y)) => decide (y = x)
  | _ => false
noncomputable def eLam (n : Nat) (x : Str) (m : Deed → Fn) (fb : Ev) : Ev := fun ρ h => if hasTab n x h = true then
    lamO fun f c σ => m ⟨⟨f, c, x ++ ".<locals>." ++ "<lambda>", σ, capE ρ⟩, fun h' => fb (upE (capE ρ)) h'⟩ [.f ⟨f, c, x ++ ".<locals>." ++ "<lambda>", σ, capE ρ⟩] h
  else .no
/-! ### the deed done -/
def Act (Z : Cx) (d : Deed) : Prop := ∀ (W : WX) (pn : List (Addr × Obj)) (xe : Value → Shared → Prop) (a : Str) (i : Nat) (p1 p2 : Pos), Takes (Z.tr pn xe) W → Z.N[i]? = some a → Vis Z.env.scope a →
  (a == ("__debug__" : Str)) = false → (a == ("__classdict__" : Str)) = false → EE (Z.tr pn xe) W (.Call (.Name a p1) [] [] p2) (eDeed i d)
section
variable {X : Cx} {pins : List (Addr × Obj)} {σ : L2.St} {H : Hp} {s : Shared} {y : Str} {N : List Str} {sc scope : Scope} {g f c' : Addr} {cdv pm ctv : Value} {params : Arguments} {body : Expr} {k : Nat} {E0 : XK} {fb : Ev} {ρ : En}
end
/-! ### the def that does it -/
/-- a def whose first argument is a deed: it may do it -/
structure FnL (P : Program) (w : World) (K : PySem.W.Frag) (mg : Str → Option Value) (base : Heap) (k : Nat) (y : Str) (N : List Str) (sc : Scope) (g : Addr) (fd : FuncData) (ps : List Str) (m : Deed → Fn) : Prop where
  run : ∀ (d : Deed) (A : Around) (outer : List Env) (s : Shared) (H : Hp) (args : Args) (us : List Value) (vs : List V) (Q : VK) (E : XK), RoomG k A → (∀ cdv, Act (cxOf (L2.CX P w) P w K mg base N y sc g cdv A outer s H E) d) →
    Env0 P w K mg base A outer s H → BindsTo s fd args (ps.zip us) → Vals vs us → spF K mg (m d) vs H Q E → codeAny (model P w) A (.call (.ref g) args) (CR (L2.CX P w) outer P w H s Q E) s
def DfL (P : Program) (w : World) (K : PySem.W.Frag) (mg : Str → Option Value) (base : Heap) (k : Nat) (y : Str) (ps : List Str) (m : Deed → Fn) : Prop :=
  ∃ (g : Addr) (fd : FuncData) (N : List Str) (sc : Scope), mg y = some (.ref g) ∧ PySem.W.keepIn K (.ref g) = true ∧ Binds K fd ps [] ∧ FnL P w K mg base k y N sc g fd ps m
/-! ### y(lambda: body) -/
section
variable {K : PySem.W.Frag} {φ : List Addr} {h : Hh} {H H1 : Hp}
/-- the tables that stand -/
def tabsOf : List Addr → Hh → List (Addr × Str)
  | a :: φ, some (.tbl x) :: h => (a, x ++ ".<locals>." ++ "<lambda>") :: tabsOf φ h
  | _ :: φ, _ :: h => tabsOf φ h
  | _, _ => []
end
section
variable {X : Cx} {W : WX} {x y : Str} {c pt : Addr} {k j : Nat} {m : Deed → Fn} {params : Arguments} {body : Expr} {scope : Scope} {fb : Ev} {p lpos pos : Pos} {a : Str}
end
end Rk

/-! Rk56: the head where lambdas are made: tables of code objects. -/
namespace Rk
open PySem PySem.Spec L2 PyProof.Rows
/-! ### the fragment without the tables -/
abbrev tsOf (cs : List (Addr × Addr)) : List Addr := cs.map fun p => p.2
def csOf (K : PySem.W.Frag) (xs : List Str) : List (Addr × Addr) := xs.filterMap (PySem.W.tabIn K)
def cutT (K : PySem.W.Frag) (ts : List Addr) : PySem.W.Frag := K.filter fun p => !ts.contains p.1
def emptyT (K : PySem.W.Frag) (P : Addr) : Bool := match K.lookup P with
  | some ⟨.none, none, .fields vs, sl⟩ => vs.size == 0 && sl.size == 0
  | _ => false
def tabsB (K : PySem.W.Frag) (xs : List Str) : Bool := decide ((tsOf (csOf K xs)).Nodup) && (decide (xs.map (PySem.W.tabIn (cutT K (tsOf (csOf K xs)))) = (csOf K xs).map some) && (csOf K xs).all fun p => emptyT K p.2 && PySem.W.codeHdIn K p.1 p.2)
/-- what the head's heap has of the makers -/
structure TabsK (K : PySem.W.Frag) (h : Heap) (xs : List Str) (cs : List (Addr × Addr)) : Prop where
  nd : (tsOf cs).Nodup
  at_ : xs.map (PySem.W.tabIn K) = cs.map some
  no : ∀ p ∈ cs, K.lookup p.2 = none
  em : ∀ p ∈ cs, h.get? p.2 = some { cls := .none, data := .fields #[] }
  hd : ∀ p ∈ cs, PySem.W.CodeHd h p.1 p.2
/-! ### the Hook -/
def obsRT (n : Nat) (xs : List Str) (fa : List He.Fa) (fn : List He.DefD) (ex : PySem.W.Frag → Bool) (g : Addr → Option Obj) : AlR :=
  let K := He.frG g (asN g n [mainGlobals] ++ [cStatics])
  let K' := cutT K (tsOf (csOf K xs))
  (He.obsD fa fn K', ex K' && tabsB K xs)
def hookRT (n : Nat) (xs : List Str) (fa : List He.Fa) (fn : List He.DefD) (ex : PySem.W.Frag → Bool) : PySem.W.Hook where
  α := AlR
  obs := fun s => obsRT n xs fa fn ex s.heap.get?
  val := fun _ => (He.valD fn, true)
  says := fun _ h => ∃ K : PySem.W.Frag, K.In h ∧ tabsB K xs = true ∧ SaysR fa fn ex (cutT K (tsOf (csOf K xs)))
  of := fun _ _ e => by
    have e2 := (Bool.and_eq_true _ _).mp (congrArg (fun z : AlR => z.2) e)
    exact ⟨_, He.frG_in, e2.2, congrArg (fun z : AlR => z.1) e, e2.1⟩
  keeps := fun _ _ _ ⟨K, hK, t, c⟩ k => ⟨K, PySem.W.Frag.In.keeps hK k, t, c⟩
/-! ### the law's call -/
/-- the makers' tables as objects of the abstract heap -/
def tabH (xs : List Str) : Hh := xs.map fun x => some (.tbl x)
def scrT (a : Addr) (vs : List Value) (ns : List Int) (b : Bool) (ts : List Addr) : Hp := fun c => if c ∈ ts then some (.tbl #[]) else if c = a ∧ b = true then some (.frz { cls := .type "list", data := .seq vs.toArray } (.lst (ns.map V.int))) else none
end Rk

/-! Rk57: wishes for deeds. -/
namespace Rk
open PySem PySem.Spec L2
section
variable {Q : Vl → Hh → Prop} {E : XP} {ρ ρ' : En} {h h0 : Hh} {n i : Nat} {x : Str} {m : Deed → Fn} {fb : Ev} {v0 : Vl} {d : Deed}
end
end Rk

/-! Rk58: powers of great numbers. -/
namespace Rk
open PySem PySem.Spec L2
variable {mg : Str → Option Value}
def CPowG (i j : Int) : Prop := 0 ≤ j ∧ j ≤ 10000 ∧ Bd 10000 i
open Classical in
noncomputable def fPowG (a b : Int) : Option Da := if CPowG a b then some (.int (a ^ b.toNat)) else none
section
variable {K : PySem.W.Frag}
end
end Rk

/-! Rk59: more wishes: range of two, lists put together. -/
namespace Rk
open PySem PySem.Spec L2
section
variable {QI : Itm → Hh → Prop} {E : XP} {ρ : En} {h : Hh} {as : Av}
end
end Rk

/-! Rk60: a, b, c = x, y, z with plain local names. -/
namespace Rk
open PySem PySem.Spec L2
/-- a, b, c = x, y, z -/
def sPar3 (i j l : Nat) (fs : Av) : Sv := fun ρ h => Out.then ρ (fs ρ h) fun vs h1 => match vs with
  | [x, y, z] => .nx (((ρ.set i (some x)).set j (some y)).set l (some z)) h1
  | _ => .no
section
variable {mg : Str → Option Value}
theorem VReps.three {K : PySem.W.Frag} {φ : List Addr} {h : Hh} {H : Hp} {xs : List V} {v w u : Vl} (r : VReps K mg φ h H xs [v, w, u]) : ∃ x y z, xs = [x, y, z] ∧ VRep K mg φ h H x v ∧ VRep K mg φ h H y w ∧ VRep K mg φ h H z u := by
  cases r with
  | cons r t =>
    cases t with
    | cons r2 t2 =>
      cases t2 with
      | cons r3 t3 =>
        cases t3
        exact ⟨_, _, _, rfl, r, r2, r3⟩
end
section
variable {X : Cx} {W : WX} {pos : Pos}
end
section
variable {as : Av} {ρ : En} {h : Hh} {N : En → Hh → Prop} {R : Vl → Hh → Prop} {B C : En → Hh → Prop} {X : Str → List (Str × Da) → En → Hh → Prop}
end
end Rk

/-! Rk61: d.update(e), both dicts that may be changed. -/
namespace Rk
open PySem PySem.Spec L2
variable {mg : Str → Option Value}
def rUpdate : V → List V → Hp → VK → Prop := fun x vs H Q => ∃ (a b : Addr) (kvs zs : List (Key × V)), x = .ref a ∧ vs = [.ref b] ∧ H a = some (.dK kvs) ∧ H b = some (.dK zs) ∧ a ≠ b ∧ kvs.length + zs.length ≤ sizeLine ∧ Q .non (upd H a (.dK (mergeK kvs zs)))
/-- the dict of a reference -/
def asDk (v : Vl) (h : Hh) : Option (Nat × List (Key × Da)) := match v with
  | .r n => match h[n]? with
    | some (some (.dct kds)) => some (n, kds)
    | _ => none
  | _ => none
def tyDk (v : Vl) (h : Hh) : Bool := (asDk v h).isSome
def gUpd : GM := fun o as h => match as with
  | [w] => match asDk o h, asDk w h with
    | some (n, kds), some (m, zds) => if n ≠ m ∧ fitB (kds.length + zds.length) = true then some (.d .none, h.set n (some (.dct (zds.foldl (fun acc kv => putD acc kv.1 kv.2) kds)))) else none
    | _, _ => none
  | _ => none
section
variable {K : PySem.W.Frag} {φ : List Addr} {h : Hh} {H : Hp} {x : V} {v : Vl} {n : Nat} {kds : List (Key × Da)}
theorem asDk_eq (e : asDk v h = some (n, kds)) : v = .r n ∧ h[n]? = some (some (.dct kds)) := by
  unfold asDk at e
  split at e
  · split at e
    · cases e
      exact ⟨rfl, by assumption⟩
    · cases e
  · cases e
theorem asDk_ok (sm : Sim K φ h H) (r : VRep K mg φ h H x v) (e : asDk v h = some (n, kds)) : ∃ a kvs, x = .ref a ∧ φ[n]? = some a ∧ h[n]? = some (some (.dct kds)) ∧ H a = some (.dK kvs) ∧ KvRep K H (Live φ h) kvs kds := by
  obtain ⟨rfl, en⟩ := asDk_eq e
  obtain ⟨a, ea, rfl⟩ := r
  obtain ⟨kvs, eh, rk⟩ := sm.atD en ea
  exact ⟨a, kvs, rfl, ea, en, eh, rk⟩
theorem tyDk_ok : TyOk K mg "dict" tyDk := fun φ h H x v sm r e => by
  unfold tyDk at e
  cases q : asDk v h with
  | none => rw [q] at e; cases e
  | some p =>
    obtain ⟨n, kds⟩ := p
    obtain ⟨a, kvs, rfl, _, _, eh, _⟩ := asDk_ok sm r q
    exact .inr (.inr (.inl ⟨rfl, .inl ⟨kvs, eh⟩⟩))
end
section
variable {h : Hh} {Q : Vl → Hh → Prop} {E : XP} {ρ : En} {o : Ev} {as : Av} {g : GM}
theorem wp_mtD (w : Wp (o ρ h) (fun x h1 => tyDk x h1 = true ∧ Wp (as ρ h1) (fun vs h2 => Wo (g x vs h2) Q) E) E) : Wp (eMt tyDk g o as ρ h) Q E :=
  wp_bind (w.mono (fun x h1 ⟨t, w⟩ => by
    rw [if_pos t]
    exact wp_bind (w.mono (fun vs h2 w => wo_of w) fun _ _ _ z => z)) fun _ _ _ z => z)
theorem tyDk_of {n : Nat} {kds : List (Key × Da)} (e : h[n]? = some (some (.dct kds))) : tyDk (.r n) h = true := by
  unfold tyDk asDk
  simp only [e]
  rfl
end
end Rk

/-! Rk62: repr of a dict that may be changed. -/
namespace Rk
open PySem PySem.Spec L2
section
variable {prog : Program} {w : World} {h₀ : Heap} {a : Addr} {A : Around} {E : Value → Shared → Prop} {s : Shared} {Q : Value → Shared → Prop}
end
def dD (kds : List (Key × Da)) : List (Da × Da) := kds.map fun p => (kD p.1, p.2)
def rReprD (K : PySem.W.Frag) (xs : List V) (H : Hp) (Q : VK) : Prop := ∃ (a : Addr) (kvs : List (Key × V)) (kds : List (Key × Da)) (M : Addr → Prop), xs = [.ref a] ∧ H a = some (.dK kvs) ∧ KvRep K H M kvs kds ∧ PyData.hasDictAll (kds.map (·.2)) = false ∧
  PyData.showable (.dict (dD kds)) = true ∧ PyData.depth (.dict (dD kds)) ≤ 60 ∧ (PyData.shown (.dict (dD kds))).length ≤ sizeLine ∧ Q (.str (PyData.shown (.dict (dD kds)))) H
/-- repr, of a dict that may be changed, too -/
def gReprA : GC := fun as h => match as with
  | [x] => match asDk x h with
    | some (_, kds) => if PyData.showable (.dict (dD kds)) && !PyData.hasDictAll (kds.map (·.2)) && decide (PyData.depth (.dict (dD kds)) ≤ 60) && fitB (PyData.shown (.dict (dD kds))).length then some (.d (.str (PyData.shown (.dict (dD kds)))), h) else none
    | none => gRepr [x] h
  | _ => none
variable {mg : Str → Option Value}
end Rk

/-! Rk63: dict(zip(xs, ys)) of two lists of one length. -/
namespace Rk
open PySem PySem.Spec PyProof.Rows L2
def tDictZip (K : PySem.W.Frag) (ta : TA) : TE := fun σ H Q => ta σ H fun vs H1 => ∃ (a b : Addr) (ks : List Key) (ys : List V), vs = [.ref a, .ref b] ∧ SqL K H1 a (ks.map kV) ∧ SqL K H1 b ys ∧ ks.length = ys.length ∧ ∀ p, H1 p = none → Q (.ref p) (upd H1 p (.dK (mergeK [] (ks.zip ys))))
/-- the keys of data -/
def keyD : Da → Option Key
  | .int i => some (.inl i)
  | .str x => some (.inr x)
  | _ => none
def keysD : List Da → Option (List Key)
  | [] => some []
  | d :: ds => (keyD d).bind fun k => (keysD ds).map (k :: ·)
/-- dict(zip(..)) -/
def gDZ : GC := fun vs h => match vs with
  | [x, y] => match asL x h, asL y h with
    | some xs, some ds => match keysD xs with
      | some ks => if ks.length = ds.length then some (.r h.length, h ++ [some (.dct ((ks.zip ds).foldl (fun acc kv => putD acc kv.1 kv.2) []))]) else none
      | none => none
    | _, _ => none
  | _ => none
section
variable {K : PySem.W.Frag} {H : Hp} {M : Addr → Prop}
theorem keyD_ok {v : V} {d : Da} {k : Key} (r : Rep K H M v d) (e : keyD d = some k) : v = kV k := by
  cases r with
  | int i => cases e; rfl
  | str x => cases e; rfl
  | _ => cases e
end
section
variable {X : Cx} {W : WX} {e e2 : Expr} {fs : Av} {p p2 q pos : Pos}
end
end Rk

/-! Rk64: a dict that is changed no more, as data; its parts by their keys. -/
namespace Rk
open PySem PySem.Spec L2
variable {mg : Str → Option Value}
section
variable {K : PySem.W.Frag} {H : Hp} {M : Addr → Prop}
theorem KvRep.vals : ∀ {kvs : List (Key × V)} {kds : List (Key × Da)}, KvRep K H M kvs kds → Reps K H M (kvs.map (·.2)) (kds.map (·.2)) ∧ kvs.map (·.1) = kds.map (·.1)
  | _, _, .nil => ⟨.nil, rfl⟩
  | _, _, .cons r t => ⟨.cons r (KvRep.vals t).1, by rw [List.map_cons, List.map_cons, (KvRep.vals t).2]⟩
theorem zip_fst_snd : ∀ (kds : List (Key × Da)), (kds.map (·.1)).zip (kds.map (·.2)) = kds
  | [] => rfl
  | p :: r => by
    rw [List.map_cons, List.map_cons, List.zip_cons_cons, zip_fst_snd r]
theorem kv_of : ∀ {kvs : List (Key × V)} {ds : List Da}, Reps K H M (kvs.map (·.2)) ds → KvRep K H M kvs ((kvs.map (·.1)).zip ds)
  | [], _, _ => .nil
  | (k, v) :: r, _, .cons q t => .cons q (kv_of t)
theorem KvRep.dct {a : Addr} {kvs : List (Key × V)} {kds : List (Key × Da)} (e : H a = some (.dK kvs)) (n : ¬ M a) (r : KvRep K H M kvs kds) (ne : kds ≠ []) : Rep K H M (.ref a) (.dict (dD kds)) := by
  obtain ⟨r1, r2⟩ := r.vals
  refine .dct e n (fun z => ne ?_) r1 ?_
  · cases r with
    | nil => rfl
    | cons _ _ => cases z
  · rw [r2, zip_fst_snd]
    rfl
/-- the pairs of a dict as data -/
def unD : List (Da × Da) → Option (List (Key × Da))
  | [] => some []
  | p :: r => (keyD p.1).bind fun k => (unD r).map ((k, p.2) :: ·)
theorem keyD_kD (k : Key) : keyD (kD k) = some k := by cases k <;> rfl
theorem unD_dD : ∀ (kds : List (Key × Da)), unD (dD kds) = some kds
  | [] => rfl
  | p :: r => by
    show (keyD (kD p.1)).bind (fun k => (unD (dD r)).map ((k, p.2) :: ·)) = _
    rw [keyD_kD, unD_dD r]
    rfl
theorem Rep.dctAt {x : V} {kvs : List (Da × Da)} {kds : List (Key × Da)} (r : Rep K H M x (.dict kvs)) (ne : kds ≠ []) (e : unD kvs = some kds) : ∃ a vs, x = .ref a ∧ H a = some (.dK vs) ∧ KvRep K H M vs kds := by
  cases r with
  | dct0 h n => cases e; exact absurd rfl ne
  | fn x => cases e
  | plt _ _ _ _ => cases e
  | @dct a vs ds _ h n ne r e2 =>
    subst e2
    have z : unD (dD ((vs.map (·.1)).zip ds)) = some kds := e
    rw [unD_dD] at z
    cases z
    exact ⟨a, vs, rfl, h, kv_of r⟩
end
/-- d[k], of a dict as data, too -/
def gIz : G2 := fun x y h => match x with
  | .d (.dict kvs) => match keyOf y, unD kvs with
    | some k, some kds => if kds ≠ [] then (valD kds k).map fun d => (.d d, h) else none
    | _, _ => none
  | _ => gDG x y h
theorem ok_iz {K : PySem.W.Frag} : Ok2 K mg rDG gIz := by
  intro φ h H x y a b Q v h' sm rx ry e k
  unfold gIz at e
  split at e
  · rename_i kvs
    split at e
    · rename_i key kds ek ed
      split at e
      · rename_i ne
        obtain ⟨p, vs, rfl, eh, rk⟩ := Rep.dctAt (show Rep K H (Live φ h) x (.dict kvs) from rx) ne ed
        rcases rk.get (k := key) with ⟨_, z⟩ | ⟨w, d, e1, e2, r⟩
        · rw [z] at e; cases e
        · rw [e2] at e
          cases e
          rw [keyOf_ok ry ek]
          refine ⟨p, w, rfl, ?_, k w H φ (Step.refl _ _ _) sm r⟩
          rw [← e1]
          exact DGet.k eh
      · cases e
    · cases e
  · exact ok_dg φ h H x y a b Q v h' sm rx ry e k
theorem ee_iz {X : Cx} {W : WX} {a b : Expr} {fa fb : Ev} {pos : Pos} (hu : X.A.units + 64 < cLine) (ha : EE X W a fa) (hb : EE X W b fb) (hs : NoSl b := by exact fun _ _ => rfl) : EE X W (.Subscript a b pos) (eOp gIz fa fb) :=
  PE.of (pe_dget (by omega) ha hb hs) fun σ H Q hf => tOp_ok (r := rDG) ok_iz hf
/-- a dict, as data from here on -/
def fzD (v : Vl) (h : Hh) : Option (Da × Hh) := match asDk v h with
  | some (n, kds) => if kds ≠ [] then some (.dict (dD kds), h.set n none) else none
  | none => none
theorem fzD_ok {K : PySem.W.Frag} {φ : List Addr} {h h' : Hh} {H : Hp} {x : V} {v : Vl} {d : Da} (s : Sim K φ h H) (r : VRep K mg φ h H x v) (e : fzD v h = some (d, h')) : Step φ h H φ h' H ∧ Sim K φ h' H ∧ Rep K H (Live φ h') x d := by
  unfold fzD at e
  split at e
  · rename_i n kds ed
    split at e
    · rename_i ne
      cases e
      obtain ⟨a, kvs, rfl, ea, en, eh, rk⟩ := asDk_ok s r ed
      obtain ⟨s1, s2, s3⟩ := s.freeze en ea
      exact ⟨s1, s2, KvRep.dct eh s3 (rk.stay s1.st) ne⟩
    · cases e
  · cases e
def eFzD (f : Ev) : Ev := fun ρ h => match f ρ h with
  | .ok v h1 => match fzD v h1 with
    | some p => trunc h.length (.d p.1) p.2
    | none => .no
  | .ex c fs h1 => .ex c fs (h1.take h.length)
  | .no => .no
theorem ee_fzD {X : Cx} {W : WX} {e : Expr} {f : Ev} (p : EE X W e f) : EE X W e (eFzD f) :=
  PE.of p fun σ H Q ⟨φ, h, ρ, sm, er, q⟩ => ⟨φ, h, ρ, sm, er, by
    unfold eFzD at q
    revert q
    cases f ρ h with
    | no => exact fun q => q
    | ex c fs h1 =>
      intro q cls dd H' φ' st sm' xr
      obtain ⟨a, b, c⟩ := ex_cut sm st sm' xr
      exact q cls dd H' φ a b c
    | ok v h1 =>
      intro q x H' φ' st sm' rv
      dsimp only at q
      split at q
      · rename_i p e
        obtain ⟨d, h2⟩ := p
        obtain ⟨s1, s2, s3⟩ := fzD_ok sm' rv e
        exact trunc_ok (v := .d d) sm (st.trans s1) s2 s3 q
      · exact q.elim⟩
/-- either -/
def gIw : G2 := fun x y h => match gIz x y h with
  | some r => some r
  | none => gIx x y h
section
variable {X : Cx} {W : WX} {a b : Expr} {fa fb : Ev} {pos : Pos}
theorem ee_iw (hu : X.A.units + 64 < cLine) (ha : EE X W a fa) (hb : EE X W b fb) (hs : NoSl b := by exact fun _ _ => rfl) (hp : PlainIx b := by exact fun _ _ => rfl) : EE X W (.Subscript a b pos) (eOp gIw fa fb) :=
  PE.of (PE.or (ee_iz (pos := pos) hu ha hb hs) (ee_ix (pos := pos) ha hb hp)) fun σ H Q ⟨φ, h, ρ, sm, er, q⟩ => by
    unfold eOp at q
    cases e1 : fa ρ h with
    | no => rw [e1] at q; exact q.elim
    | ex c fs h1 =>
      refine .inr ⟨φ, h, ρ, sm, er, ?_⟩
      unfold eOp
      rw [e1] at q ⊢
      exact q
    | ok x h1 =>
      rw [e1] at q
      cases e2 : fb ρ h1 with
      | no =>
        simp only [Out.bind_ok] at q
        rw [e2] at q
        exact q.elim
      | ex c fs h2 =>
        refine .inr ⟨φ, h, ρ, sm, er, ?_⟩
        unfold eOp
        rw [e1]
        simp only [Out.bind_ok] at q ⊢
        rw [e2] at q ⊢
        exact q
      | ok y h2 =>
        simp only [Out.bind_ok] at q
        rw [e2] at q
        simp only [Out.bind_ok] at q
        unfold gIw at q
        cases e3 : gIz x y h2 with
        | some r =>
          refine .inl ⟨φ, h, ρ, sm, er, ?_⟩
          unfold eOp
          rw [e1]
          simp only [Out.bind_ok]
          rw [e2]
          simp only [Out.bind_ok]
          rw [e3] at q ⊢
          exact q
        | none =>
          refine .inr ⟨φ, h, ρ, sm, er, ?_⟩
          unfold eOp
          rw [e1]
          simp only [Out.bind_ok]
          rw [e2]
          simp only [Out.bind_ok]
          rw [e3] at q
          exact q
end
/-! ### wishes -/
def FzDK (v : Vl) (h : Hh) (n : Nat) (Q : Vl → Hh → Prop) : Prop := ∃ d h2, fzD v h = some (d, h2) ∧ Q (.d d) (h2.take n)
section
variable {h : Hh} {Q : Vl → Hh → Prop} {E : XP} {ρ : En} {a : Ev} {kds : List (Key × Da)} {x : Str} {d : Da} {n : Nat}
theorem wp_fzD (w : Wp (a ρ h) (fun v h1 => FzDK v h1 h.length Q) (fun c fs h1 => E c fs (h1.take h.length))) : Wp (eFzD a ρ h) Q E := by
  unfold eFzD
  revert w
  cases a ρ h with
  | no => exact fun w => w.w.elim
  | ex c fs h1 => exact fun w => ⟨w.w⟩
  | ok v h1 =>
    intro w
    obtain ⟨d, h2, e, q⟩ := w.w
    dsimp only
    rw [e]
    exact ⟨q⟩
theorem fzDk_end (e : h.length = n) (ne : kds ≠ []) (q : Q (.d (.dict (dD kds))) h) : FzDK (.r h.length) (h ++ [some (.dct kds)]) n Q := by
  refine ⟨.dict (dD kds), (h ++ [some (Ob.dct kds)]).set h.length none, ?_, ?_⟩
  · unfold fzD asDk
    simp [ne]
  · subst e
    simp
    exact q
theorem wo_iwD (ev : valD kds (.inr x) = some d) (ne : kds ≠ []) (q : Q (.d d) h) : Wo (gIw (.d (.dict (dD kds))) (.d (.str x)) h) Q := by
  refine wo_eq (v := .d d) ?_ q
  unfold gIw gIz
  dsimp only
  rw [unD_dD, show keyOf (.d (.str x)) = some (.inr x) from rfl]
  dsimp only
  rw [if_pos ne, ev]
  rfl
end
end Rk

/-! Rk65: raise C(e), C's own __init__ handing a text to its base's and keeping one field. -/
namespace Rk
open PySem PySem.Spec PyProof.Rows L2
section
variable {X : Cx} {e : Expr} {es : List Expr} {ta : TA} {p1 p2 pos : Pos} {r : Str} {R : Addr} {mc : Value}
/-- R.__init__(self, ..), R a class of the top without an __init__ of its own -/
theorem pe_oinit {pl : Sem Bool} (hg : Gl X r) (hm : X.mg r = some (.ref R)) (cr : ClX.CRead X.K R mc) (vV : PySem.W.findCls X.K (.ref R) mc "__init__" = some (.val (.builtin "ValueError.__init__"))) (ha : PA X (e :: es) ta)
    (hc : eval (.Call (.Attribute (.Name r p1) "__init__" p2) (e :: es) [] pos) X.env = (do
      let ov ← eval (.Name r p1) X.env
      standAt p2.atName
      let (f, first) ← holding [ov] (getMethod ov "__init__" pl)
      callWith pos f first (backTo pos (starEach (e :: es) X.env)) (backToKw pos (keywordEach [] X.env))) := by rfl)
    (he : starEach (e :: es) X.env = (false, eval e X.env) :: starEach es X.env := by rfl) (hpl : (backTo pos (starEach es X.env)).any (·.1) = false := by rfl) (hdb : (r == ("__debug__" : Str)) = false := by decide) :
    PE X (.Call (.Attribute (.Name r p1) "__init__" p2) (e :: es) [] pos) (tVeI X.K ta) := by
  refine ⟨fun pins s σ H Q I h => ?_⟩
  refine PySem.W.methodCall_KW (ld_glob I hg hm ?_ hdb) hc
  refine PySem.W.method_cls I.kIn cr.ga (PySem.W.cls_value I.kIn cr.rd vV (by decide +kernel) ?_)
  show wpAny _ _ (callWith pos (Value.builtin "ValueError.__init__") [] (backTo pos (starEach (e :: es) X.env)) []) _ _ _
  refine PyProof.Rows.callWith_method1 (thn (ha.run pos pins _ σ H _ (I.tok _) h) fun us s1 ⟨vs, H1, I1, r1, a, C, ws, ev, hl, T, ea, q⟩ => ?_) he hpl
  subst ev
  cases r1 with
  | @cons _ u0 _ ur ra rw' =>
    obtain rfl : u0 = Value.ref a := ra
    have hlen : ur.length ≤ sizeLine := by
      rw [← Paired.length rw', sizeLine_eq]
      omega
    exact oinit_ok T I1 ea hlen fun s' J => ⟨.non, H1, J, rfl, q⟩
end
/-- what an __init__ that keeps one field does -/
def spI (K : PySem.W.Frag) (C : Addr) (f : Str) : Sp := fun vs H Q _ => ∃ (a : Addr) (y : V), vs = [.ref a, y] ∧ H a = some (exo a C none) ∧ ∀ dx, H dx = none → dx ≠ a → Q .non (upd (upd H dx (exd dx [(f, y)])) a (exo a C (some dx)))
section
variable {P : Program} {w : World} {K : PySem.W.Frag} {mg : Str → Option Value} {base : Heap} {qual r f m : Str} {params : Arguments} {scope : Scope} {fI C R : Addr} {fd : FuncData} {mc : Value} {j : Nat} {p1 p2 p3 p4 p5 p6 p7 p8 p9 p10 : Pos}
theorem init_ok {y : Str} (T : OexC K C) (hno : PySem.W.findIn K (.ref C) f = some none)
    (F : FunD K "__init__" qual params [.Expr (.Call (.Attribute (.Name r p1) "__init__" p2) [.Name "self" p3, .Constant (.str m) j p4] [] p5) p6, .Assign [.Attribute (.Name "self" p7) f p8] (.Name y p9) p10] scope [] [] fI fd)
    (S : FnScope ["self", y] ["self", y] scope)
    (hb : ∀ (cdv : Value) (A : Around) (outer : List Env) (s : Shared) (H : Hp) (E : XK),
      PS (cxOf (L2.CX P w) P w K mg base ["self", y] qual scope fI cdv A outer s H E) (.Expr (.Call (.Attribute (.Name r p1) "__init__" p2) [.Name "self" p3, .Constant (.str m) j p4] [] p5) p6) (tDrop (tVeI K (tCons (tVar 0) (tCons (tC (.str m)) tNil)))) ∧
      PS (cxOf (L2.CX P w) P w K mg base ["self", y] qual scope fI cdv A outer s H E) (.Assign [.Attribute (.Name "self" p7) f p8] (.Name y p9) p10) (tOst K f (tVar 0) (tVar 1))) :
    FnOk P w K mg base (L2.CX P w) 1 fI fd ["self", y] (spI K C f) := by
  refine FunD.ok F S (fun vs H Q E ⟨a, z, e, _⟩ => by rw [e]; rfl) fun cdv A outer s H vs Q E hr hsp => ?_
  obtain ⟨a, z, rfl, ea, q⟩ := hsp
  obtain ⟨h2, h3⟩ := hb cdv A outer s H E
  exact ⟨_, pss_cons h2 (pss_one h3), .ref a, rfl, a, C, [.str m], rfl, Nat.le_add_left 1 999, T, ea, z, rfl, .ref a, rfl, a, C, rfl, T, hno, .inl ⟨ea, fun dx n ne => q dx n ne⟩⟩
end
/-- raise C(e) -/
def sRaise1 (c f : Str) (fe : Ev) : Sv := fun ρ h => Out.then ρ (fe ρ h) fun v h1 => match fz v h1 with
  | some (d, h2) => .ex c [(f, d)] ρ h2
  | none => .no
/-- a class whose __init__ keeps one field -/
def IniC (P : Program) (w : World) (K : PySem.W.Frag) (mg : Str → Option Value) (base : Heap) (c f : Str) : Prop :=
  ∃ (C fI : Addr) (fd : FuncData) (ps : List Str), mg c = some (.ref C) ∧ OexC K C ∧ PySem.W.findIn K (.ref C) "__init__" = some (some (.ref fI)) ∧ PySem.W.typeIn K (.ref fI) = some (.type "function") ∧ Binds K fd ps [] ∧ FnOk P w K mg base (L2.CX P w) 1 fI fd ps (spI K C f)
theorem upd_made {H : Hp} {a dx C : Addr} {o : HO} {fs : List (Str × V)} (ha : H a = none) (ne : dx ≠ a) : upd (L2.del (upd (upd (upd H a (exo a C none)) dx (exd dx fs)) a (exo a C (some dx))) a) dx o = upd H dx o := by
  funext b
  by_cases h1 : b = dx
  · rw [h1, upd_same, upd_same]
  · rw [upd_ne h1, upd_ne h1]
    by_cases h2 : b = a
    · rw [h2, L2.del_same, ha]
    · rw [L2.del_ne h2, upd_ne h2, upd_ne h1, upd_ne h2]
section
variable {X : Cx} {W : WX} {c f : Str} {e : Expr} {fe : Ev} {k : Nat} {p pos pos' : Pos}
theorem es_raise1 (I0 : IniC X.prog X.w X.K X.mg X.base c f) (hr : RoomG k X.A) (tk : Takes X W) (he : EE X W e fe) (hk : 2 ≤ k := by decide) (hc : X.calm = true := by rfl) (hg : Gl X c := by rfl) (hdb : (c == ("__debug__" : Str)) = false := by decide)
    (hs : starEach [e] X.env = (false, eval e X.env) :: starEach [] X.env := by rfl) (hpl : (backTo pos (starEach [] X.env)).any (·.1) = false := by rfl) :
    ES X W (.Raise (some (.Call (.Name c p) [e] [] pos)) none pos') (sRaise1 c f fe) := by
  obtain ⟨C, fI, fd, ps, g, T, iC, tI, hb, F⟩ := I0
  refine PS.of (ps_raise hc tk (pmk_oex T iC tI F (hr.r.mono hk) hb .nil (fun pins σ H s e s' _ z => (cx_no H s e s' z).elim) hg g (pa_cons he pa_nil hs) hdb hs hpl)) fun D σ H ⟨φ, h, ρ, sm, er, q⟩ => ⟨φ, h, ρ, sm, er, ?_⟩
  unfold sRaise1 at q
  refine PoS.goE er q fun x v h1 H1 φ1 st sm1 er1 rv q1 => ?_
  split at q1
  · rename_i d h2 ef
    obtain ⟨s1, s2, s3⟩ := fz_ok sm1 rv ef
    refine ⟨Nat.le_add_left 1 999, fun a ha => ⟨a, x, rfl, upd_same, fun dx hdx ne => ?_⟩⟩
    have hd1 : H1 dx = none := by rwa [upd_ne ne] at hdx
    refine ⟨rfl, dx, _, upd_same, by rw [upd_ne ne, upd_same], hd1, ?_⟩
    rw [upd_made ha ne]
    obtain ⟨w1, w2⟩ := s2.grow (o := .xd [(f, x)]) hd1
    exact q1 (.ref C) (some dx) σ _ φ1 (s1.trans w1) w2 ((er1.step s1).step w1) ⟨g, (fun z => by cases z), fun _ => ⟨dx, [(f, x)], rfl, upd_same, s2.fresh hd1, .cons (s3.stay w1.st) .nil⟩⟩
  · exact q1.elim
end
end Rk

/-! Rk66: what the head tells of a class whose __init__ keeps a field. -/
namespace Rk
open PySem PySem.Spec PyProof.Rows L2
theorem oexB_ok {K : PySem.W.Frag} {C : Addr} (h : oexB K C = true) : OexC K C := by
  unfold oexB at h
  rw [Bool.and_eq_true, Bool.and_eq_true, Bool.and_eq_true, Bool.and_eq_true] at h
  obtain ⟨h0, h1, h2, h3, h4⟩ := h
  refine ⟨?_, of_decide_eq_true h1, of_decide_eq_true h2, of_decide_eq_true h3, h4⟩
  split at h0
  · rename_i t dd cd sl ho
    split at h0
    · rename_i C' bm k0 k1 k2 k3 n k5 hm hs
      simp only [Bool.and_eq_true, beq_iff_eq, Bool.not_eq_true'] at h0
      obtain ⟨rfl, rfl, rfl, hdel, hdict, hbm⟩ := h0
      obtain ⟨nm, bs, mro, ns, qn, hd, sn, sub, ab, col, del⟩ := cd
      dsimp only at hm hdel hdict
      subst hm hdel hdict
      have hsl : sl = #[k0, k1, k2, k3, some (.builtin "ValueError.__new__"), k5] := by
        obtain ⟨l⟩ := sl
        simp only at hs
        rw [hs]
      subst hsl
      exact ⟨nm, qn, ns, bs, bm, sn, sub, ab, col, dd, k0, k1, k2, k3, k5, ho, hbm⟩
    · cases h0
  · cases h0
structure IniT (K : PySem.W.Frag) (mg : Str → Option Value) (c f r : Str) : Prop where
  ex : ∃ C R, mg c = some (.ref C) ∧ mg r = some (.ref R) ∧ OexC K C ∧ PySem.W.findIn K (.ref C) "__init__" = some (some (.ref (He.fAd K (c, some "__init__")))) ∧ PySem.W.typeIn K (.ref (He.fAd K (c, some "__init__"))) = some (.type "function") ∧ PySem.W.findIn K (.ref C) f = some none ∧
    ClX.CRead K R (.type "type") ∧ PySem.W.findCls K (.ref R) (.type "type") "__init__" = some (.val (.builtin "ValueError.__init__"))
theorem iniB_ok {K : PySem.W.Frag} {h : Heap} {mg : Str → Option Value} (X : K.In h) (G : h.Ns mainGlobals mg) {c f r : Str} (e : iniB K c f r = true) : IniT K mg c f r := by
  unfold iniB at e
  split at e
  · rename_i C R q1 q2
    simp only [Bool.and_eq_true, decide_eq_true_eq] at e
    obtain ⟨h1, h2, h3, h4, h5, h6, h7⟩ := e
    refine ⟨C, R, clsAt_ok X G q1, clsAt_ok X G q2, oexB_ok h1, h2, h3, h4, ⟨h5, h6⟩, ?_⟩
    split at h7
    · rename_i n q
      rw [beq_iff_eq] at h7
      subst h7
      exact q
    · cases h7
  · cases e
end Rk

/-! Rk67: a field of a caught error. -/
namespace Rk
open PySem PySem.Spec PyProof.Rows L2
def tXfO (K : PySem.W.Frag) (f : Str) (te : TE) : TE := fun σ H Q => te σ H fun x H1 => ∃ (a C dd : Addr) (fs : List (Str × V)) (v : V), x = .ref a ∧ H1 a = some (exO a (.ref C) (some dd)) ∧ XfC K C ∧ PySem.W.findIn K (.ref C) f = some none ∧ H1 dd = some (.xd fs) ∧ fs.lookup f = some v ∧ Q v H1
/-- classes whose instances keep the field f -/
structure XfT (K : PySem.W.Frag) (mg : Str → Option Value) (f : Str) (cs : List Str) : Prop where
  ex : ∀ c ∈ cs, ∃ C, mg c = some (.ref C) ∧ XfC K C ∧ PySem.W.findIn K (.ref C) f = some none
def xfT1 (K : PySem.W.Frag) (f c : Str) : Bool := match clsAt K c with
  | some C => xfB K C && decide (PySem.W.findIn K (.ref C) f = some none)
  | none => false
def xfTB (K : PySem.W.Frag) (f : Str) (cs : List Str) : Bool := cs.all (xfT1 K f)
/-- e.f, e a caught error -/
def eXf (cs : List Str) (f : Str) (fe : Ev) : Ev := fun ρ h => (fe ρ h).bind fun v h1 => match v with
  | .x c fs => if c ∈ cs then (match fs.lookup f with
    | some d => .ok (.d d) h1
    | none => .no) else .no
  | _ => .no
theorem FsRep.look {K : PySem.W.Frag} {H : Hp} {M : Addr → Prop} {f : Str} {d : Da} : ∀ {vs : List (Str × V)} {fs : List (Str × Da)}, FsRep K H M vs fs → fs.lookup f = some d → ∃ v, vs.lookup f = some v ∧ Rep K H M v d
  | _, _, .nil, e => by cases e
  | _, _, .cons (k := k) r t, e => by
    rw [List.lookup_cons] at e ⊢
    cases q : f == k with
    | true =>
      rw [q] at e
      cases e
      exact ⟨_, rfl, r⟩
    | false =>
      rw [q] at e
      exact FsRep.look t e
end Rk

/-! Rk68: targets = values, a tuple on both sides, some of the values things that are changed. -/
namespace Rk
open PySem PySem.Spec L2
/-- targets = x, y, .. -/
def sParN (n : Nat) (g : Gs) (fs : Av) : Sv := fun ρ h => Out.then ρ (fs ρ h) fun vs h1 => if fitB vs.length = true ∧ vs.length = n then ofG (g vs ρ h1) else .no
section
variable {X : Cx} {W : WX} {pos : Pos}
end
/-- a list of n, unpacked -/
def gTupL (n : Nat) (g : Gs) : Gv := fun v ρ h => match v with
  | .d (.list ds) => if ds.length = n then g (ds.map Vl.d) ρ h else none
  | _ => none
section
variable {X : Cx} {pos : Pos}
theorem eg_unl {es : List Expr} {k n : Nat} {gs : Gs} (hc : X.calm = true) (h : EGs X es gs) (hn : (assignEach es X.env).length = n := by rfl) (hst : (assignEach es X.env).findIdx? (·.1) = none := by rfl) : EG X (.Tuple es k pos) (gTupL n gs) :=
  PG.of (pg_unl hc h hn hst) fun x σ H Q ⟨φ, h, ρ, v, ρ', h', sm, er, rv, e, k⟩ => by
    unfold gTupL at e
    split at e
    · rename_i ds
      split at e
      · obtain ⟨a, xs, rfl, sq, rs⟩ := asL_ok sm rv (rfl : asL (.d (.list ds)) h = some ds)
        exact ⟨a, xs, rfl, sq, by rw [rs.length]; assumption, φ, h, ρ, _, ρ', h', sm, er, rs.vreps, e, k⟩
      · cases e
    · cases e
end
section
variable {h : Hh} {ρ : En} {N : En → Hh → Prop}
end
section
variable {as : Av} {ρ : En} {h : Hh} {N : En → Hh → Prop} {R : Vl → Hh → Prop} {B C : En → Hh → Prop} {X : Str → List (Str × Da) → En → Hh → Prop}
end
end Rk

/-! Rk69: comprehensions whose parts look at the heap that was there (wp_lcP, wp_lcXP), and lists kept for a change. -/
namespace Rk
open PySem PySem.Spec L2
section
variable {gd : Option (Nat × List Da)} {g : Gv} {tt : Tv} {fe : Ev} {ρ0 : En} {h : Hh} {α : Type} {f g' : α → Da} {P : α → Bool} {c : Str} {fs : List (Str × Da)}
theorem lc_mapP (hgd : ∀ o, gdOk gd (h ++ [o])) : ∀ (xs : List α) (acc : List Da), (∀ x ∈ xs, ∀ o, ∃ ρ1, g (.d (f x)) ρ0 (h ++ [o]) = some (ρ1, h ++ [o]) ∧ fe ρ1 (h ++ [o]) = .ok (.d (g' x)) (h ++ [o])) → acc.length + xs.length ≤ 16777216 →
    lcL gd h.length g tvYes fe ρ0 (xs.map f) (h ++ [some (.lst acc)]) = .ok (.r h.length) (h ++ [some (.lst (acc ++ xs.map g'))])
  | [], acc, _, _ => by
    rw [List.map_nil, lcL_nil (hgd _)]
    simp
  | d :: ds, acc, H, hl => by
    obtain ⟨ρ1, e1, e3⟩ := H d (List.mem_cons_self ..) (some (.lst acc))
    rw [List.length_cons] at hl
    rw [List.map_cons]
    rw [lcL_cons (hgd _) e1 rfl e3 (appL_end rfl (by omega)), lc_mapP hgd ds (acc ++ [g' d]) (fun d hd => H d (List.mem_cons_of_mem _ hd)) (by rw [List.length_append, List.length_singleton]; omega)]
    simp
theorem lcX_mapP (hgd : ∀ o, gdOk gd (h ++ [o])) : ∀ (xs : List α) (acc : List Da), (∀ x ∈ xs, ∀ o, ∃ ρ1, g (.d (f x)) ρ0 (h ++ [o]) = some (ρ1, h ++ [o]) ∧ ((P x = true ∧ fe ρ1 (h ++ [o]) = .ok (.d (g' x)) (h ++ [o])) ∨ (P x = false ∧ fe ρ1 (h ++ [o]) = .ex c fs (h ++ [o])))) → acc.length + xs.length ≤ 16777216 →
    (xs.all P = true ∧ lcLX gd h.length g tvYes fe ρ0 (xs.map f) (h ++ [some (.lst acc)]) = .ok (.r h.length) (h ++ [some (.lst (acc ++ xs.map g'))])) ∨ (xs.all P = false ∧ ∃ o, lcLX gd h.length g tvYes fe ρ0 (xs.map f) (h ++ [some (.lst acc)]) = .ex c fs (h ++ [o]))
  | [], acc, _, _ => by
    refine .inl ⟨rfl, ?_⟩
    rw [List.map_nil, lcX_nil (hgd _)]
    simp
  | d :: ds, acc, H, hl => by
    obtain ⟨ρ1, e1, e2⟩ := H d (List.mem_cons_self ..) (some (.lst acc))
    rw [List.length_cons] at hl
    rw [List.map_cons]
    rcases e2 with ⟨p, e2⟩ | ⟨p, e2⟩
    · rw [lcX_cons (hgd _) e1 rfl e2 (appL_end rfl (by omega))]
      have := lcX_mapP hgd ds (acc ++ [g' d]) (fun d hd => H d (List.mem_cons_of_mem _ hd)) (by rw [List.length_append, List.length_singleton]; omega)
      simpa [p] using this
    · rw [lcX_ex (hgd _) e1 rfl e2]
      exact .inr ⟨by simp [p], _, rfl⟩
end
section
variable {Q : Vl → Hh → Prop} {E : XP} {ρ : En} {h : Hh} {i : Iv} {g : Gv} {tt : Tv} {fe : Ev} {ws : List Nat}
theorem wp_lcP {α : Type} (xs : List α) (f g' : α → Da) {ρ0 : En} (e00 : wipeE ρ ws = ρ0) (w : Wp (i ρ h) (fun m h1 => m = ⟨xs.map f, none⟩ ∧ xs.length ≤ 16777216 ∧ h1.length = h.length ∧
      (∀ x ∈ xs, ∀ o, GvK (g (.d (f x)) ρ0 (h1 ++ [o])) fun ρ1 h2 => h2 = h1 ++ [o] ∧ Wp (fe ρ1 (h1 ++ [o])) (fun v h3 => h3 = h1 ++ [o] ∧ v = .d (g' x)) NX) ∧
      Q (.d (.list (xs.map g'))) h1) (fun c fs h1 => E c fs (h1.take h.length))) : Wp (eFz (eLc ws i g tvYes fe) ρ h) Q E := by
  subst e00
  refine wp_fz (wp_bind (w.mono ?_ fun _ _ _ z => z))
  rintro m h1 ⟨rfl, hl, hh, H, q⟩
  have lf := lc_mapP (gd := none) (g := g) (fe := fe) (ρ0 := wipeE ρ ws) (h := h1) (f := f) (g' := g') (fun _ => trivial) xs [] (fun d hd o => by
    have k := H d hd o
    unfold GvK Wo at k
    revert k
    cases e : g (.d (f d)) (wipeE ρ ws) (h1 ++ [o]) with
    | none => exact fun z => z.elim
    | some p =>
      obtain ⟨ρ1, h2⟩ := p
      rintro ⟨rfl, wf⟩
      obtain ⟨v, h3, e2, rfl, rfl⟩ := wp_out wf
      exact ⟨ρ1, rfl, e2⟩) (by simpa using hl)
  rw [List.nil_append] at lf
  exact wp_eq lf (fzk_end hh q)
theorem wp_lcXP {α : Type} (xs : List α) (f g' : α → Da) (P : α → Bool) (c : Str) (fs : List (Str × Da)) {ρ0 : En} (e00 : wipeE ρ ws = ρ0) (w : Wp (i ρ h) (fun m h1 => m = ⟨xs.map f, none⟩ ∧ xs.length ≤ 16777216 ∧ h1.length = h.length ∧
      (∀ x ∈ xs, ∀ o, GvK (g (.d (f x)) ρ0 (h1 ++ [o])) fun ρ1 h2 => h2 = h1 ++ [o] ∧ Wp (fe ρ1 (h1 ++ [o])) (fun v h3 => h3 = h1 ++ [o] ∧ P x = true ∧ v = .d (g' x)) (fun c' fs' h3 => h3 = h1 ++ [o] ∧ P x = false ∧ c' = c ∧ fs' = fs)) ∧
      (xs.all P = true → Q (.d (.list (xs.map g'))) h1) ∧ (xs.all P = false → E c fs h1)) (fun c fs h1 => E c fs (h1.take h.length))) : Wp (eFz (eLcX ws i g tvYes fe) ρ h) Q E := by
  subst e00
  refine wp_fz (wp_bind (w.mono ?_ fun _ _ _ z => z))
  rintro m h1 ⟨rfl, hl, hh, H, q, qe⟩
  have lf := lcX_mapP (gd := none) (g := g) (fe := fe) (ρ0 := wipeE ρ ws) (h := h1) (f := f) (g' := g') (P := P) (c := c) (fs := fs) (fun _ => trivial) xs [] (fun d hd o => by
    have k := H d hd o
    unfold GvK Wo at k
    revert k
    cases e : g (.d (f d)) (wipeE ρ ws) (h1 ++ [o]) with
    | none => exact fun z => z.elim
    | some p =>
      obtain ⟨ρ1, h2⟩ := p
      rintro ⟨rfl, wf⟩
      refine ⟨ρ1, rfl, ?_⟩
      have k := wf.w
      revert k
      cases fe ρ1 (h1 ++ [o]) with
      | ok v h3 => rintro ⟨rfl, p, rfl⟩; exact .inl ⟨p, rfl⟩
      | ex c' fs' h3 => rintro ⟨rfl, p, rfl, rfl⟩; exact .inr ⟨p, rfl⟩
      | no => exact fun z => z.elim) (by simpa using hl)
  rw [List.nil_append] at lf
  rcases lf with ⟨p, lf⟩ | ⟨p, o, lf⟩
  · exact wp_eq lf (fzk_end hh (q p))
  · refine ⟨?_⟩
    show Wp0 (lcLX none h1.length g tvYes fe (wipeE ρ ws) (xs.map f) (h1 ++ [some (.lst [])])) _ _
    rw [lf]
    show E c fs ((h1 ++ [o]).take h.length)
    rw [← hh, List.take_left]
    exact qe p
/-- a name is told its thing -/
def Kn (h : Hh) (kv : Vl) (n : Str) (d : Da) : Prop := ∀ (l : Hh) (Q : Vl → Hh → Prop), Q (.d d) (h ++ l) → Wo (gIw kv (.d (.str n)) (h ++ l)) Q
theorem Kn.app {kv : Vl} {n : Str} {d : Da} {l : Hh} (k : Kn h kv n d) : Kn (h ++ l) kv n d := fun l' Q q => by
  rw [List.append_assoc] at q ⊢
  exact k (l ++ l') Q q
theorem Kn.wo {kv : Vl} {n : Str} {d : Da} (k : Kn h kv n d) (q : Q (.d d) h) : Wo (gIw kv (.d (.str n)) h) Q := by
  have := k [] Q
  rw [List.append_nil] at this
  exact this q
end
end Rk

/-! Rk70: dicts of the top with text keys: d.get(x, y) of a constant dict. -/
namespace Rk
open PySem PySem.Spec L2
def seek (kds : List (Str × Da)) (z : Str) : Option Da := match kds with
  | [] => none
  | (k, d) :: r => if k = z then some d else seek r z
/-- a constant dict: where it stands, what it holds -/
def GDict (K : PySem.W.Frag) (w : World) (mg : Str → Option Value) (x : Str) (kds : List (Str × Da)) : Prop :=
  ∃ a es n, mg x = some (.ref a) ∧ KDict K w a es n ∧ ∀ z, match seek kds z with
    | none => PySem.W.nsIn K a z = some none
    | some d => ∃ v u, PySem.W.nsIn K a z = some (some u) ∧ RelV v u ∧ KRep K v d
theorem kvB_find {K : PySem.W.Frag} (z : Str) : ∀ {kds : List (Str × Da)} {es : List DictEntry}, kvB K kds es = true → (es.any (·.refKey)) = false ∧ match seek kds z with
    | none => es.find? (·.key.isStr z) = none
    | some d => ∃ e v, es.find? (·.key.isStr z) = some e ∧ RelV v e.val ∧ KRep K v d
  | [], [], _ => ⟨rfl, rfl⟩
  | (k, d) :: r, e :: es, h => by
    unfold kvB at h
    rw [Bool.and_eq_true, Bool.and_eq_true] at h
    obtain ⟨h1, h2, h3⟩ := h
    obtain ⟨i1, i2⟩ := kvB_find z h3
    cases ek : e.key with
    | str x t =>
      rw [ek] at h1
      have hx : x = k := of_decide_eq_true h1
      subst hx
      refine ⟨?_, ?_⟩
      · rw [List.any_cons, i1]
        simp [DictEntry.refKey, ek]
      · unfold seek
        by_cases hz : x = z
        · rw [if_pos hz]
          obtain ⟨v, r1, r2⟩ := cB_ok h2
          refine ⟨e, v, ?_, r1, r2⟩
          rw [List.find?_cons_of_pos]
          rw [ek]
          simp [Value.isStr, hz]
        · rw [if_neg hz]
          have hf : ¬ (e.key.isStr z) = true := by
            rw [ek]
            simp [Value.isStr, hz]
          rw [List.find?_cons_of_neg (by simpa using hf)]
          exact i2
    | _ => rw [ek] at h1; cases h1
theorem gdict_ok {K : PySem.W.Frag} {h : Heap} {w : World} {mg : Str → Option Value} (X : K.In h) (G : h.Ns mainGlobals mg) {x : Str} {kds : List (Str × Da)} (c : kdB K x kds = true) (t : dicN K x = some (He.keysIn w.params (kds.map (·.1)))) : GDict K w mg x kds := by
  unfold kdB at c
  unfold dicN at t
  split at c
  · rename_i a e
    rw [e] at t
    dsimp only at t
    obtain ⟨es, n, kd⟩ := He.dicW_ok t
    rw [kd.at_] at c
    dsimp only at c
    refine ⟨a, es, n, PySem.W.mg_of X G e, kd, fun z => ?_⟩
    obtain ⟨f1, f2⟩ := kvB_find z c
    cases hs : seek kds z with
    | none =>
      rw [hs] at f2
      dsimp only at f2 ⊢
      unfold PySem.W.nsIn
      rw [kd.at_]
      dsimp only
      rw [f2]
      dsimp only
      rw [f1]
      rfl
    | some d =>
      rw [hs] at f2
      obtain ⟨e2, v, g1, g2, g3⟩ := f2
      refine ⟨v, e2.val, ?_, g2, g3⟩
      unfold PySem.W.nsIn
      rw [kd.at_]
      dsimp only
      rw [g1]
  · cases c
/-- d.get(x, y) -/
def rGetC (K : PySem.W.Frag) (kds : List (Str × Da)) : R2 := fun x y H Q => ∃ z, x = .str z ∧ match seek kds z with
  | none => Q y H
  | some d => ∀ v, KRep K v d → Q v H
def gGetC (kds : List (Str × Da)) : G2 := fun x y h => match x with
  | .d (.str z) => some ((match seek kds z with | none => y | some d => .d d), h)
  | _ => none
section
variable {X : Cx} {W : WX} {x : Str} {kds : List (Str × Da)} {e f : Expr} {apos npos cpos : Pos} {ty tx : TE} {fe ff : Ev} {mg : Str → Option Value} {K : PySem.W.Frag}
theorem pe_getC (D : GDict X.K X.w X.mg x kds) (hg : Gl X x) (hd : (x == ("__debug__" : Str)) = false) (he : PE X e ty) (hf : PE X f tx) (m : M2 X (.Name x npos) "get" apos e f cpos) : PE X (.Call (.Attribute (.Name x npos) "get" apos) [e, f] [] cpos) (tOp (rGetC X.K kds) ty tx) := by
  obtain ⟨a, es, n, hm, kd, hv⟩ := D
  refine ⟨fun pins s σ H Q I h => ?_⟩
  refine wpAny_Call_method m.base m.few m.line PySem.F.plainAttrs_dict PySem.F.slot_dict_get PySem.F.type_dict_get (thn ((pe_glob hg hm (show RelV (.ref a) (.ref a) from rfl) hd).run pins s σ H (fun x H1 => x = .ref a ∧ tOp (rGetC X.K kds) ty tx σ H1 Q) I ⟨rfl, h⟩) fun u s1 ⟨y, H1, I1, rx, ey, q1⟩ => ?_)
  subst ey
  obtain rfl : u = Value.ref a := rx
  have km : ∀ {s : Shared} {σ : L2.St} {H : Hp} {pins : List (Addr × Obj)}, L2.Inv X pins σ H s → s.heap.MapOf (strKind X.prog X.w) a (fun k => findBy Value.isStrOf es k) := fun I => PySem.W.mapOf_K (prog := X.prog) (w := X.w) I.kIn kd.at_ kd.lit
  refine ⟨(km I1).typeIs, fun b q => ?_, ?_⟩
  · cases q
    exact ⟨_, I1.kIn _ _ kd.at_, rfl⟩
  rw [m.trees]
  refine Calls.callWith_builtin rfl (Calls.evalArgs_plain (Calls.spliced_cons (thn (he.run pins s1 σ H1 _ I1 q1) fun iv s2 ⟨y, H2, I2, ry, q2⟩ =>
    Calls.spliced_cons (thn (hf.run pins s2 σ H2 _ I2 q2) fun fv s3 ⟨z, H3, I3, rz, zz, ez, q3⟩ => Calls.spliced_nil ?_))))
  subst ez
  obtain ⟨t, rfl⟩ := (show ∃ t, iv = Value.str zz t from ry)
  have hz := hv zz
  refine call_meetsIn PySem.F.slot_dict_get (km I3).typeIs PySem.F.entry_dict_get (PySem.F.args_dict_get_3 _ _ _) (meets_dict_get_default (strKind X.prog X.w) a (strKind_is X.prog X.w zz t) kd.low fv) ⟨_, km I3, ?_⟩
  cases hs : seek kds zz with
  | none =>
    rw [hs] at hz q3
    dsimp only at hz q3
    rw [PySem.W.find_K kd.at_ hz]
    exact ⟨z, H3, I3.tok _, rz, q3⟩
  | some d =>
    rw [hs] at hz q3
    obtain ⟨v, w, g1, g2, g3⟩ := hz
    rw [PySem.W.find_K kd.at_ g1]
    exact ⟨v, H3, I3.tok _, g2, q3 v g3⟩
theorem ok_getC : Ok2 K mg (rGetC K kds) (gGetC kds) := by
  intro φ h H x y a b Q v h' sm rx ry e k
  unfold gGetC at e
  split at e
  · rename_i z
    cases e
    cases rx
    refine ⟨z, rfl, ?_⟩
    cases hs : seek kds z with
    | none =>
      dsimp only
      rw [hs] at k
      exact k _ _ _ (Step.refl _ _ _) sm ry
    | some d =>
      dsimp only
      rw [hs] at k
      exact fun v r => k _ _ _ (Step.refl _ _ _) sm (r _ _)
  · cases e
theorem ee_getC (D : GDict X.K X.w X.mg x kds) (ha : EE X W e fe) (hb : EE X W f ff) (m : M2 X (.Name x npos) "get" apos e f cpos) (hg : Gl X x := by rfl) (hd : (x == ("__debug__" : Str)) = false := by decide) : EE X W (.Call (.Attribute (.Name x npos) "get" apos) [e, f] [] cpos) (eOp (gGetC kds) fe ff) :=
  PE.of (pe_getC D hg hd ha hb m) fun σ H Q hf => tOp_ok ok_getC hf
end
end Rk

/-! Rk71: the head with dicts of the top. -/
namespace Rk
open PySem PySem.Spec L2
theorem TabsW.at_ {tn : List (Str × List Str)} {w : World} {K : PySem.W.Frag} (T : TabsW tn w K) (i : Nat) {t : Str × List Str} (h : tn[i]? = some t := by rfl) : dicN K t.1 = some (He.keysIn w.params t.2) := by
  have e2 : (tn.map fun t => dicN K t.1)[i]? = (tn.map fun t => some (He.keysIn w.params t.2))[i]? := by rw [T]
  rw [List.getElem?_map, List.getElem?_map, h] at e2
  exact Option.some.inj e2
def obsRTW (n : Nat) (tn : List (Str × List Str)) (xs : List Str) (fa : List He.Fa) (fn : List He.DefD) (ex : PySem.W.Frag → Bool) (g : Addr → Option Obj) : AlW :=
  let K := He.frG g (asN g n [mainGlobals] ++ [cStatics])
  (obsRT n xs fa fn ex g, tn.map fun t => dicN (cutT K (tsOf (csOf K xs))) t.1)
def hookRTW (n : Nat) (tn : List (Str × List Str)) (xs : List Str) (fa : List He.Fa) (fn : List He.DefD) (ex : PySem.W.Frag → Bool) : PySem.W.Hook where
  α := AlW
  obs := fun s => obsRTW n tn xs fa fn ex s.heap.get?
  val := fun w => valRW tn fn w
  says := fun w h => ∃ K : PySem.W.Frag, K.In h ∧ tabsB K xs = true ∧ SaysR fa fn ex (cutT K (tsOf (csOf K xs))) ∧ TabsW tn w (cutT K (tsOf (csOf K xs)))
  of := fun _ _ e => by
    have e2 := (Bool.and_eq_true _ _).mp (congrArg (fun z : AlW => z.1.2) e)
    exact ⟨_, He.frG_in, e2.2, ⟨congrArg (fun z : AlW => z.1.1) e, e2.1⟩, congrArg (fun z : AlW => z.2) e⟩
  keeps := fun _ _ _ ⟨K, hK, t, c⟩ k => ⟨K, PySem.W.Frag.In.keeps hK k, t, c⟩
end Rk

/-! Rk72: len(set(xs)), xs a list or a tuple of any texts. -/
namespace Rk
open PySem PySem.Spec L2 PyProof.Rows
/-- the unlike ones of some texts, as they are met -/
def unl (xs : List Str) : List Str := xs.foldl (fun met x => if x ∈ met then met else met ++ [x]) []
theorem unl_snoc (xs : List Str) (x : Str) : unl (xs ++ [x]) = if x ∈ unl xs then unl xs else unl xs ++ [x] := by
  unfold unl
  rw [List.foldl_append]
  rfl
theorem mem_unl (y : Str) (xs : List Str) : y ∈ unl xs ↔ y ∈ xs := by
  induction h : xs.reverse generalizing xs with
  | nil =>
    have : xs = [] := by simpa using h
    subst this
    exact Iff.rfl
  | cons z zs ih =>
    have e : xs = zs.reverse ++ [z] := by
      have := congrArg List.reverse h
      simpa using this
    subst e
    have i := ih zs.reverse (by simp)
    rw [unl_snoc]
    split
    · rename_i hz
      rw [i]
      simp only [List.mem_append, List.mem_singleton]
      constructor
      · exact .inl
      · rintro (q | rfl)
        · exact q
        · have := ih zs.reverse (by simp)
          exact i.mp hz
    · simp only [List.mem_append, List.mem_singleton, i]
theorem unl_len (xs : List Str) : (unl xs).length ≤ xs.length := by
  induction h : xs.reverse generalizing xs with
  | nil =>
    have : xs = [] := by simpa using h
    subst this
    exact Nat.le_refl _
  | cons z zs ih =>
    have e : xs = zs.reverse ++ [z] := by
      have := congrArg List.reverse h
      simpa using this
    subst e
    have i := ih zs.reverse (by simp)
    rw [unl_snoc]
    split <;> simp only [List.length_append, List.length_singleton] <;> omega
/-- as many as there are just where no two are alike -/
theorem unl_nodup (xs : List Str) : (unl xs).length = xs.length ↔ xs.Nodup := by
  induction h : xs.reverse generalizing xs with
  | nil =>
    have : xs = [] := by simpa using h
    subst this
    exact ⟨fun _ => List.nodup_nil, fun _ => rfl⟩
  | cons z zs ih =>
    have e : xs = zs.reverse ++ [z] := by
      have := congrArg List.reverse h
      simpa using this
    subst e
    have i := ih zs.reverse (by simp)
    have l := unl_len zs.reverse
    have m := mem_unl z zs.reverse
    rw [unl_snoc, List.nodup_append]
    split
    · rename_i hz
      refine ⟨fun q => ?_, fun q => ?_⟩
      · simp only [List.length_append, List.length_singleton] at q
        omega
      · exact absurd rfl (q.2.2 z (m.mp hz) z (List.mem_singleton.mpr rfl))
    · rename_i hz
      simp only [List.length_append, List.length_singleton]
      refine ⟨fun q => ⟨i.mp (by omega), by simp, ?_⟩, fun q => by rw [i.mpr q.1]⟩
      rintro a ha b hb rfl
      rw [List.mem_singleton] at hb
      subst hb
      exact hz (m.mpr ha)
def metB (xs : List Str) : Str → Bool := fun y => decide (y ∈ xs)
section
variable {prog : Program} {w : World} {A : Around} {R : Result → Shared → Prop} {I : Addr} {fp wr : List Addr} {G : Array GenState → Array GenState → Prop} {n : Nat} {P : Nat → Value → Prop} {St : Nat → Shared → Prop}
theorem setOf_moved {S : Addr} {f : Str → Bool} {m : Nat} {h1 h2 : Heap} (k : ∀ o, h1.get? S = some o → h2.get? S = some o) (x : h1.SetOf (PySem.strKind prog w) S f m) : h2.SetOf (PySem.strKind prog w) S f m :=
  let ⟨o, es, ep, t, ho, rest⟩ := x
  ⟨o, es, ep, t, k o ho, rest⟩
/-- the rest of a walk's texts, put into the set one by one -/
theorem fill_texts (walk : WalksS prog w A.in1 I fp wr G n P St) (S : Addr) (out : S ∉ fp) (xs : List Str) (hx : xs.length = n) (room : n + 1 < scanBound) (val : ∀ i v, P i v → ∃ t, v = .str (xs.getD i Str.empty) t) (j : Nat) :
    ∀ (i : Nat) (s : Shared), i + j = n → St i s → s.heap.SetOf (PySem.strKind prog w) S (metB (xs.take i)) (unl (xs.take i)).length →
      (∀ s2, Moved (S :: wr) G s s2 → s2.heap.SetOf (PySem.strKind prog w) S (metB xs) (unl xs).length → R (.ok (.ret .none)) s2) →
      codeAny (model prog w) A (.builtin "set.update.loop" ⟨[.ref S, .ref I], []⟩) R s := by
  have notw : S ∉ wr := fun z => out (walk.sub _ z)
  have more : ∀ b ∈ wr, b ∈ S :: wr := fun _ z => List.mem_cons_of_mem _ z
  induction j with
  | zero =>
    intro i s e st has fin
    have ein : i = n := by omega
    subst ein
    have all : xs.take i = xs := by rw [← hx, List.take_length]
    rw [all] at has
    refine codeAny_builtin PyProof.Rows.F.entry_set_update_loop ?_
    rw [Around.under_plainId PyProof.Rows.F.plain_set_update_loop _]
    show wpAny _ A.in1 (pyNext (.ref I) >>= _) _ _ s
    refine wpAny_bind (walk.done s _ _ st fun s2 mv => ?_)
    show wpAny _ A.in1 (ret Value.none) _ _ s2
    exact wpAny_pure (fin s2 (mv.mono more) (setOf_moved (fun o z => mv.heap S o notw z) has))
  | succ j ih =>
    intro i s e st has fin
    have lt : i < n := by omega
    have ei : xs[i]? = some (xs.getD i Str.empty) := by
      rw [List.getD_eq_getElem?_getD, List.getElem?_eq_getElem (by omega)]
      rfl
    have cut : xs.take (i + 1) = xs.take i ++ [xs.getD i Str.empty] := by rw [List.take_add_one, ei]; rfl
    refine codeAny_builtin PyProof.Rows.F.entry_set_update_loop ?_
    rw [Around.under_plainId PyProof.Rows.F.plain_set_update_loop _]
    show wpAny _ A.in1 (pyNext (.ref I) >>= _) _ _ s
    refine wpAny_bind (walk.item i s _ _ lt st fun v s2 pv st2 mv => ?_)
    obtain ⟨t, rfl⟩ := val i v pv
    have has2 := setOf_moved (fun o z => mv.heap S o notw z) has
    generalize hz : xs.getD i Str.empty = z at *
    show wpAny _ A.in1 (holding [Value.str z t] (setAdd S (.str z t)) >>= _) _ _ s2
    refine wpAny_bind (wpAny_holding ?_)
    unfold setAdd
    refine wpAny_holding ?_
    refine wpAny_bind ((PySem.strKind prog w).pyHash (k := z) (strKind_is _ _ _ _) ?_)
    have small := unl_len (xs.take i)
    have small2 : (xs.take i).length ≤ i := by rw [List.length_take]; omega
    refine wpAny_setAddHashed_of (knd := PySem.strKind prog w) (s := { s2 with toks := s2.toks + 1 }) (strKind_is _ _ _ _) rfl has2 (by omega) fun h2 same has3 => ?_
    have has4 : h2.SetOf (PySem.strKind prog w) S (metB (xs.take (i + 1))) (unl (xs.take (i + 1))).length := by
      refine SetOf_congr has3 (fun y => ?_) ?_
      · unfold metB
        rw [cut]
        by_cases q1 : y ∈ xs.take i <;> by_cases q2 : y = z <;> simp [q1, q2]
      · rw [cut, unl_snoc]
        unfold metB
        by_cases q : z ∈ xs.take i
        · rw [if_pos (decide_eq_true q), if_pos ((mem_unl _ _).mpr q)]
        · rw [if_neg (by simpa using q), if_neg (fun c => q ((mem_unl _ _).mp c)), List.length_append]
          rfl
    have ne : ∀ {b : Addr}, b ∈ fp → b ≠ S := fun hb c => out (c ▸ hb)
    refine wpAny_pure ⟨plainId_quiet PyProof.Rows.F.plain_set_update_loop _, ih (i + 1) _ (by omega) (walk.frame _ s2 _ _ st2 (Nat.le_succ _) fun b hb o z => ?_) has4 fun s3 mv3 has5 => ?_⟩
    · rw [same.2 b (ne hb)]
      exact z
    · refine fin s3 (Moved.trans walk.gtrans ((mv.mono more).then_heap (Nat.le_succ _) fun b o hb z => ?_) mv3) has5
      rw [same.2 b (fun c => hb (by rw [c]; exact List.mem_cons_self))]
      exact z
end
section
variable {prog : Program} {w : World} {A : Around} {E : Value → Shared → Prop} {s : Shared}
abbrev emptySet (led : Bool) : Obj := { cls := .type "set", dict := none, data := .set #[] 0 (.fresh 0 0 led) }
abbrev seqSrc (T : String) (od : Option Addr) (items : Array Value) (nl : Nat) (osl : Array (Option Value)) : Obj := { cls := .type T, dict := od, data := .seq items nl, slots := osl }
abbrev iterOf (itc : String) (src : Addr) : Obj := { cls := .type itc, data := .fields #[.ref src, .int 0 0] }
/-- set(xs): T is list or tuple -/
theorem make_texts {T itc : String} {src : Addr} {items : Array Value} {xs : List Str} {Q : Value → Shared → Prop} {St : Addr → Nat → Heap → Prop} (free : A.handled = none) {od : Option Addr} {nl : Nat} {osl : Array (Option Value)}
    (at_ : s.heap.get? src = some (seqSrc T od items nl osl)) (vals : PyProof.Rows.StrsAre items.toList xs) (room : xs.length + 1 < scanBound)
    (sub1 : isSubtype (.type T) (.type "set") = pure false) (sub2 : isSubtype (.type T) (.type "frozenset") = pure false) (nd : (Value.type T == Value.type "dict") = false)
    (iter : ∀ {A' : Around} {E' : Value → Shared → Prop} {s' : Shared} {Q' : Value → Shared → Prop}, s'.heap.get? src = some (seqSrc T od items nl osl) →
      Q' (.ref s'.heap.objs.size) { s' with heap := s'.heap.push (iterOf itc src) } → wpAny (model prog w) A' (pyIter (.ref src)) Q' E' s')
    (walks : ∀ {A' : Around} (I : Addr), A'.handled = none → src ≠ I → Walks prog w A' I [I, src] [I] items.size (fun i v => items[i]? = some v) (St I))
    (start : ∀ (h : Heap), h.get? src = some (seqSrc T od items nl osl) → St h.objs.size 0 (h.push (iterOf itc src)))
    (h : ∀ (h2 : Heap) (tk : Nat), h2.SetOf (PySem.strKind prog w) s.heap.objs.size (metB xs) (unl xs).length → (∀ b o, b < s.heap.objs.size → s.heap.get? b = some o → h2.get? b = some o) → Q (.ref s.heap.objs.size) { s with heap := h2, toks := tk }) :
    wpAny (model prog w) A (call (.type "set") [.ref src]) Q E s := by
  have tc := PySem.F.called_set
  obtain ⟨c0, tl0, mro0⟩ := tc.mro
  have made0 := tc.made
  have subt0 := tc.sub
  refine wpAny_call (codeAny_of_tree ?_)
  show wpAny _ _ (callAny (.type "set") _) _ _ _
  refine wpAny_pure ⟨Code.quiet_builtin _ (by decide +kernel), codeAny_builtin (PySem.F.entry_type_call) ?_⟩
  rw [Around.under_plain (weight_type_call_type "set" [.ref src] []) rfl]
  have not0 := tc.notType
  have can0 := tc.canCreate
  have chk0 := PySem.F.typeCall_set_1 (.ref src)
  repeat (any_goals (first | wp_step | assumption))
  refine codeAny_mono (code_set_new_1 (.ref src) (E := E) (Q₁ := fun v s1 => ∃ led : Bool, v = .ref s.heap.objs.size ∧ s1 = { s with heap := s.heap.push (emptySet led) }) fun led => ⟨led, rfl, rfl⟩) fun r s1 hr => ?_
  match r, hr with
  | .error _, hr => exact hr
  | .ok (.ret v), hr =>
    obtain ⟨led, rfl, rfl⟩ := hr
    have top : (s.heap.push (emptySet led)).get? s.heap.objs.size = some (emptySet led) := Heap.get?_push_size _ rfl
    have isSet : Shared.TypeIs { s with heap := s.heap.push (emptySet led) } (.ref s.heap.objs.size) "set" := ⟨_, top, rfl⟩
    have init1 := tc.init.lookup
    have init2 := tc.init.bind (.ref s.heap.objs.size)
    repeat (any_goals (first | wp_step | assumption))
    refine codeAny_mono (codeAny_call_builtin (R := wants (fun r s2 => r = .none ∧ ∃ h2 tk, s2 = { s with heap := h2, toks := tk } ∧ h2.SetOf (PySem.strKind prog w) s.heap.objs.size (metB xs) (unl xs).length ∧
        (∀ b o, b < s.heap.objs.size → s.heap.get? b = some o → h2.get? b = some o)) E) tc.init.plain PySem.F.entry_set_init (check_set_init_1 isSet ?_)) fun r2 s2 hr2 => ?_
    · have at1 : (s.heap.push (emptySet led)).get? src = some (seqSrc T od items nl osl) := Heap.get?_push_of_some _ at_
      unfold Builtin.«set.__init__» noKeywords Builtin.Frozenset.updateFrom
      generalize hPI : pyIter = PI
      wp_walk
      subst hPI
      refine iter at1 ?_
      refine wpAny_bind (wpAny_runValue ?_)
      have low : src < s.heap.objs.size := Heap.lt_size at_
      have free3 : A.in1.in1.in1.handled = none := by simp [free]
      have two : (s.heap.push (emptySet led)).objs.size = s.heap.objs.size + 1 := Heap.size_push ..
      have far : src ≠ (s.heap.push (emptySet led)).objs.size := by
        rw [two]
        exact Nat.ne_of_lt (Nat.lt_succ_of_lt low)
      have out : s.heap.objs.size ∉ [(s.heap.push (emptySet led)).objs.size, src] := by
        simp only [List.mem_cons, List.not_mem_nil, or_false, not_or]
        rw [two]
        exact ⟨Nat.ne_of_lt (Nat.lt_succ_self _), Nat.ne_of_gt low⟩
      have len : xs.length = items.size := by rw [← StrsAre.len_eq vals, Array.length_toList]
      refine fill_texts ((walks _ free3 far).toS) s.heap.objs.size out xs len (by omega) (fun i v hv => SS.strs_at vals i v (by rw [Array.getElem?_toList]; exact hv)) items.size 0 _ (by omega) (start _ at1) ?has ?fin
      case has =>
        have top2 : ((s.heap.push (emptySet led)).push (iterOf itc src)).get? s.heap.objs.size = some (emptySet led) := Heap.get?_push_of_some _ top
        exact SetOf_congr ((setObjOf_fresh (knd := PySem.strKind prog w) led).setOf top2 (by unfold scanBound; omega)) (fun y => by simp [metB]) rfl
      case fin =>
        intro s3 mv has
        obtain ⟨h3, g3, d3, t3, o3⟩ := s3
        obtain rfl : g3 = s.gens := mv.gens
        obtain rfl : d3 = s.drawn := mv.drawn
        obtain rfl : o3 = s.os := mv.os
        show wpAny _ _ _ _ _ _
        refine wpAny_pure ?_
        show wpAny _ _ (ret Value.none) _ _ _
        refine wpAny_pure ⟨rfl, h3, t3, rfl, has, fun b o hb z => ?_⟩
        refine mv.heap b o ?_ (Heap.get?_push_of_some _ (Heap.get?_push_of_some _ z))
        simp only [List.mem_cons, List.not_mem_nil, or_false, not_or]
        rw [two]
        exact ⟨Nat.ne_of_lt hb, Nat.ne_of_lt (Nat.lt_succ_of_lt hb)⟩
    · match r2, hr2 with
      | .error _, hr2 => exact hr2
      | .ok (.ret r), hr2 =>
        obtain ⟨rfl, h2, tk, rfl, has, keep⟩ := hr2
        repeat (any_goals (first | wp_step | assumption))
        exact h _ _ has keep
theorem set_list {src : Addr} {items : Array Value} {xs : List Str} {Q : Value → Shared → Prop} (free : A.handled = none) (L : s.heap.IsList src items) (vals : PyProof.Rows.StrsAre items.toList xs) (room : xs.length + 1 < scanBound)
    (h : ∀ (h2 : Heap) (tk : Nat), h2.SetOf (PySem.strKind prog w) s.heap.objs.size (metB xs) (unl xs).length → (∀ b o, b < s.heap.objs.size → s.heap.get? b = some o → h2.get? b = some o) → Q (.ref s.heap.objs.size) { s with heap := h2, toks := tk }) :
    wpAny (model prog w) A (call (.type "set") [.ref src]) Q E s := by
  obtain ⟨⟨cls, od, dt, osl⟩, at_, c, nl, d⟩ := L
  dsimp only at c d
  subst c d
  exact make_texts (itc := "list_iterator") (St := fun I i h => h.IsListIter I src i ∧ h.IsList src items) free at_ vals room PySem.F.sub_list_set PySem.F.sub_list_frozenset (by decide) (fun e q => wpAny_pyIter_list ⟨_, e, rfl, nl, rfl⟩ q) (fun I f n => Walks.list f I src n items)
    (fun h' e => ⟨⟨_, Heap.get?_push_size _ rfl, rfl, rfl⟩, ⟨_, Heap.get?_push_of_some _ e, rfl, nl, rfl⟩⟩) h
theorem set_tuple {src : Addr} {items : Array Value} {xs : List Str} {Q : Value → Shared → Prop} (free : A.handled = none) (L : s.heap.IsTuple src items) (vals : PyProof.Rows.StrsAre items.toList xs) (room : xs.length + 1 < scanBound)
    (h : ∀ (h2 : Heap) (tk : Nat), h2.SetOf (PySem.strKind prog w) s.heap.objs.size (metB xs) (unl xs).length → (∀ b o, b < s.heap.objs.size → s.heap.get? b = some o → h2.get? b = some o) → Q (.ref s.heap.objs.size) { s with heap := h2, toks := tk }) :
    wpAny (model prog w) A (call (.type "set") [.ref src]) Q E s := by
  obtain ⟨⟨cls, od, dt, osl⟩, at_, c, nl, d⟩ := L
  dsimp only at c d
  subst c d
  exact make_texts (itc := "tuple_iterator") (St := fun I i h => h.IsTupleIter I src i ∧ h.IsTuple src items) free at_ vals room PySem.F.sub_tuple_set PySem.F.sub_tuple_frozenset (by decide) (fun e q => wpAny_pyIter_tuple ⟨_, e, rfl, nl, rfl⟩ q) (fun I f n => Walks.tuple f I src n items)
    (fun h' e => ⟨⟨_, Heap.get?_push_size _ rfl, rfl, rfl⟩, ⟨_, Heap.get?_push_of_some _ e, rfl, nl, rfl⟩⟩) h
end
end Rk

/-! Rk73: len(set(xs)) of texts. -/
namespace Rk
open PySem PySem.Spec L2 PyProof.Rows
theorem strsOf_map (xs : List Str) : strsOf (xs.map PyData.str) = some xs := by
  induction xs with
  | nil => rfl
  | cons x xs ih => rw [List.map_cons, strsOf, ih]; rfl
def tUnl (K : PySem.W.Frag) (ta : TE) : TE := fun σ H Q => ta σ H fun x H1 => ∃ (l : Addr) (xs : List Str), x = .ref l ∧ (SqL K H1 l (xs.map V.str) ∨ SqT K H1 l (xs.map V.str)) ∧ xs.length ≤ 4000 ∧ Q (.int ((unl xs).length : Nat)) H1
section
variable {X : Cx} {W : WX} {a : Expr} {ta : TE} {fa : Ev} {p p2 q pos : Pos}
theorem pe_unl (hc : X.calm = true) (g1 : Gl X "len") (m1 : X.mg "len" = none) (g2 : Gl X "set") (m2 : X.mg "set" = none) (ha : PE X a ta) (na : starEach [a] X.env = (false, eval a X.env) :: starEach [] X.env) : PE X (.Call (.Name "len" p) [.Call (.Name "set" p2) [a] [] q] [] pos) (tUnl X.K ta) := by
  refine ⟨fun pins s σ H Q I h => ?_⟩
  refine Call_ (ld_blt I g1 m1 boot_len ?_)
  refine PyProof.Rows.callWith_builtin1 (PyProof.Rows.args_cons ?_ rfl) rfl rfl
  refine Call_ (ld_blt I g2 m2 boot_set ?_)
  refine PyProof.Rows.callWith_type1 (PyProof.Rows.args_cons (thn (ha.run pins s σ H _ I h) fun v s1 ⟨x, H1, I1, r1, l, xs, ex, sq, len, q1⟩ => PyProof.Rows.args_nil ?_) na) na rfl
  subst ex
  obtain rfl : v = Value.ref l := r1
  have last : ∀ (h2 : Heap) (tk : Nat), h2.SetOf (PySem.strKind X.prog X.w) s1.heap.objs.size (metB xs) (unl xs).length → (∀ b o, b < s1.heap.objs.size → s1.heap.get? b = some o → h2.get? b = some o) →
      wpAny (model X.prog X.w) X.A (spliced (backTo pos (starEach [] X.env))) (fun vs s2 => wpAny (model X.prog X.w) X.A (call (.builtin "len") (Value.ref s1.heap.objs.size :: vs)) (EP X pins σ Q) X.xe s2) X.xe { s1 with heap := h2, toks := tk } := fun h2 tk has keep => by
    refine PyProof.Rows.args_nil ?_
    obtain ⟨o, es, ep, t, at_, exact_, dat, _, _, _, fit, num⟩ := has
    have I2 : L2.Inv X pins σ H1 { s1 with heap := h2, toks := tk } := I1.kept fun b o z => keep b o (Heap.lt_size z) z
    have le := unl_len xs
    exact call_len_set at_ exact_ dat fit (by rw [num]; omega) ⟨.int ((unl xs).length : Nat), H1, I2.tok _, ⟨_, by rw [num]⟩, q1⟩
  have room : xs.length + 1 < scanBound := by unfold scanBound; omega
  rcases sq with sq | sq
  · obtain ⟨its, r, pl, hz⟩ := I1.list sq
    exact set_list (I1.ok.hd hc) pl.isList (by simpa using strsAre_of r) room last
  · obtain ⟨its, r, pl, hz⟩ := I1.tuple sq
    exact set_tuple (I1.ok.hd hc) pl (by simpa using strsAre_of r) room last
def eUnl (f : Ev) : Ev := fun ρ h => (f ρ h).bind fun v h1 => match (asQ v h1).bind strsOf with
  | some xs => if xs.length ≤ 4000 then .ok (.d (.int ((unl xs).length : Nat))) h1 else .no
  | none => .no
theorem ee_unl (hc : X.calm = true) (m1 : X.mg "len" = none) (m2 : X.mg "set" = none) (ha : EE X W a fa) (g1 : Gl X "len" := by rfl) (g2 : Gl X "set" := by rfl) (na : starEach [a] X.env = (false, eval a X.env) :: starEach [] X.env := by rfl) :
    EE X W (.Call (.Name "len" p) [.Call (.Name "set" p2) [a] [] q] [] pos) (eUnl fa) :=
  PE.of (pe_unl hc g1 m1 g2 m2 ha na) fun σ H Q ⟨φ, h, ρ, sm, er, k⟩ => ⟨φ, h, ρ, sm, er, PoX.goE k fun x v h1 H1 φ1 st sm1 rv k1 => by
    cases e : (asQ v h1).bind strsOf with
    | none => rw [e] at k1; exact k1.elim
    | some xs =>
      rw [e] at k1
      dsimp only at k1
      cases e1 : asQ v h1 with
      | none => rw [e1] at e; cases e
      | some ds =>
        rw [e1] at e
        obtain ⟨l, vs, rfl, sq, rs⟩ := asQ_ok sm1 rv e1
        have ev := strsOf_ok rs e
        subst ev
        split at k1
        · rename_i len
          exact ⟨l, xs, rfl, sq, len, k1 _ _ _ (Step.refl _ _ _) sm1 (show VRep _ _ _ _ _ _ (.d (.int _)) from Rep.int _)⟩
        · exact k1.elim⟩
end
section
variable {Q : Vl → Hh → Prop} {E : XP} {ρ : En} {h : Hh} {f : Ev}
def UnlK (v : Vl) (h : Hh) (Q : Vl → Hh → Prop) : Prop := ∃ xs, (asQ v h).bind strsOf = some xs ∧ xs.length ≤ 4000 ∧ Q (.d (.int ((unl xs).length : Nat))) h
theorem wp_unl (w : Wp (f ρ h) (fun v h1 => UnlK v h1 Q) E) : Wp (eUnl f ρ h) Q E :=
  wp_bind (w.mono (fun v h1 ⟨xs, e, l, q⟩ => by rw [e]; dsimp only; rw [if_pos l]; exact ⟨q⟩) fun _ _ _ z => z)
theorem unlk_t {xs : List Str} (l : xs.length ≤ 4000) (q : Q (.d (.int ((unl xs).length : Nat))) h) : UnlK (.d (.tuple (xs.map PyData.str))) h Q := ⟨xs, strsOf_map xs, l, q⟩
end
end Rk

/-! Rk74: dict(ps), ps a list of pairs. -/
namespace Rk
open PySem PySem.Spec L2 PyProof.Rows
variable {mg : Str → Option Value}
def pairsD : List Da → Option (List (Key × Da))
  | [] => some []
  | .tuple [k, v] :: r => (keyD k).bind fun q => (pairsD r).map ((q, v) :: ·)
  | _ => none
def gDP : GC := fun vs h => match vs with
  | [v] => match asL v h with
    | some ds => match pairsD ds with
      | some kds => some (.r h.length, h ++ [some (.dct (kds.foldl (fun acc kv => putD acc kv.1 kv.2) []))])
      | none => none
    | none => none
  | _ => none
def rDP (K : PySem.W.Frag) : List V → Hp → VK → Prop := fun xs H Q => ∃ (a : Addr) (ps : List Addr) (kvs : List (Key × V)), xs = [.ref a] ∧ SqL K H a (ps.map V.ref) ∧ Paired (fun p kv => SqT K H p [kV kv.1, kv.2]) ps kvs ∧
    ∀ p, H p = none → Q (.ref p) (upd H p (.dK (mergeK [] kvs)))
section
variable {K : PySem.W.Frag} {H : Hp} {M : Addr → Prop}
theorem pairsD_ok : ∀ {vs : List V} {ds : List Da} {kds : List (Key × Da)}, Reps K H M vs ds → pairsD ds = some kds → ∃ (ps : List Addr) (kvs : List (Key × V)), vs = ps.map V.ref ∧ Paired (fun p kv => SqT K H p [kV kv.1, kv.2]) ps kvs ∧ KvRep K H M kvs kds
  | _, _, _, .nil, e => by cases e; exact ⟨[], [], rfl, .nil, .nil⟩
  | v :: vs, d :: ds, kds, .cons r t, e => by
    unfold pairsD at e
    split at e
    · rename_i q; cases q
    · rename_i k w r' q
      cases q
      cases e1 : keyD k with
      | none => rw [e1] at e; cases e
      | some kk =>
        rw [e1] at e
        cases e2 : pairsD ds with
        | none => rw [e2] at e; cases e
        | some l =>
          rw [e2] at e
          cases e
          obtain ⟨ps, kvs, rfl, p1, p2⟩ := pairsD_ok t e2
          cases v with
          | ref a =>
            obtain ⟨xs, sq, rx⟩ := r.sqT
            cases rx with
            | cons r1 rx => cases rx with
              | cons r2 rx =>
                cases rx
                rw [keyD_ok r1 e1] at sq
                exact ⟨a :: ps, (kk, _) :: kvs, rfl, .cons sq p1, .cons r2 p2⟩
          | _ => cases r
    · cases e
theorem KvRep.stay2 {H' : Hp} {M' : Addr → Prop} (s : Stay H M H' M') {vs : List (Key × V)} {ds : List (Key × Da)} (r : KvRep K H M vs ds) : KvRep K H' M' vs ds := r.stay s
end
theorem ok_dp {K : PySem.W.Frag} : OkC K mg (rDP K) gDP := by
  intro φ h H xs vs Q z h2 sm rvs e k
  unfold gDP at e
  split at e
  · rename_i v
    obtain ⟨x, rfl, rx⟩ := rvs.one
    split at e
    · rename_i ds ed
      split at e
      · rename_i kds ek
        cases e
        obtain ⟨a, zs, rfl, sq, rz⟩ := asL_ok sm rx ed
        obtain ⟨ps, kvs, rfl, pr, kr⟩ := pairsD_ok rz ek
        refine ⟨a, ps, kvs, rfl, sq, pr, fun p hp => ?_⟩
        obtain ⟨s1, s2, s3⟩ := sm.new (ob := .dct (kds.foldl (fun acc kv => putD acc kv.1 kv.2) [])) (o := .dK (mergeK [] kvs)) hp fun M st => ⟨_, upd_same, merge_rep (kr.stay2 st) .nil⟩
        exact k _ _ _ s1 s2 s3
      · cases e
    · cases e
  · cases e
section
variable {h : Hh} {Q : Vl → Hh → Prop} {ds : List Da} {kds : List (Key × Da)}
theorem wo_dp (e : pairsD ds = some kds) (q : Q (.r h.length) (h ++ [some (.dct (kds.foldl (fun acc kv => putD acc kv.1 kv.2) []))])) : Wo (gDP [.d (.list ds)] h) Q := by
  refine wo_eq ?_ q
  unfold gDP asL
  dsimp only
  rw [e]
end
end Rk

/-! Rk75: x in d (a dict), c in t (a sign of a text). -/
namespace Rk
open PySem PySem.Spec L2 PyProof.Rows
variable {mg : Str → Option Value}
def rInDk (neg : Bool) : R2 := fun x y H Q => ∃ (a : Addr) (kvs : List (Key × V)) (k : Key), x = kV k ∧ y = .ref a ∧ H a = some (.dK kvs) ∧ Q (.bl (if neg = true then !(valV kvs k).isSome else (valV kvs k).isSome)) H
theorem op_inDk {X : Cx} : OpR X (compareOp .In) (rInDk false) := by
  intro pins s σ H x y v u Q I rx ry h
  obtain ⟨a, kvs, k, rfl, rfl, e, q⟩ := h
  obtain rfl : u = Value.ref a := ry
  obtain ⟨z, hd, vs, rel, dd⟩ := dk_rd I.hok (.inl e)
  refine wpAny_in_of (kV_is rx) hd dd.mapOf ?_
  rw [← (rel.val k).isSome_eq]
  exact ⟨.bl (valV kvs k).isSome, H, I.tok _, rfl, q⟩
theorem op_notInDk {X : Cx} : OpR X (compareOp .NotIn) (rInDk true) := by
  intro pins s σ H x y v u Q I rx ry h
  obtain ⟨a, kvs, k, rfl, rfl, e, q⟩ := h
  obtain rfl : u = Value.ref a := ry
  obtain ⟨z, hd, vs, rel, dd⟩ := dk_rd I.hok (.inl e)
  refine wpAny_notIn_of (kV_is rx) hd dd.mapOf ?_
  rw [← (rel.val k).isSome_eq]
  exact ⟨.bl (!(valV kvs k).isSome), H, I.tok _, rfl, q⟩
/-- the entries of a dict that may be changed, or is data -/
def asDd (v : Vl) (h : Hh) : Option (List (Key × Da)) := match v with
  | .d (.dict kds) => if kds = [] then none else unD kds
  | v => (asDk v h).map (·.2)
def gInD (neg : Bool) : G2 := fun x y h => match keyOf x, asDd y h with
  | some k, some kds => some (.d (.bool (if neg = true then !(valD kds k).isSome else (valD kds k).isSome)), h)
  | _, _ => none
theorem kvrep_val {K : PySem.W.Frag} {H : Hp} {M : Addr → Prop} (k : Key) : ∀ {vs : List (Key × V)} {ds : List (Key × Da)}, KvRep K H M vs ds → (valV vs k).isSome = (valD ds k).isSome
  | _, _, .nil => rfl
  | _, _, .cons (k := kk) (v := v) (vs := vs) (d := d) (ds := ds) r t => by
    have i := kvrep_val k t
    unfold valV valD at *
    by_cases q : kk = k
    · rw [List.find?_cons_of_pos (by simpa using q), List.find?_cons_of_pos (by simpa using q)]
      rfl
    · rw [List.find?_cons_of_neg (by simpa using q), List.find?_cons_of_neg (by simpa using q)]
      exact i
theorem ok_inD {K : PySem.W.Frag} (neg : Bool) : Ok2 K mg (rInDk neg) (gInD neg) := by
  intro φ h H x y a b Q v h' sm rx ry e k
  unfold gInD at e
  split at e
  · rename_i key kds ek ed
    cases e
    have ex := keyOf_ok rx ek
    unfold asDd at ed
    split at ed
    · rename_i kds0
      split at ed
      · cases ed
      · rename_i ne0
        have ne : kds ≠ [] := fun z => by
          subst z
          cases kds0 with
          | nil => exact ne0 rfl
          | cons p r =>
            unfold unD at ed
            cases e1 : keyD p.1 with
            | none => rw [e1] at ed; cases ed
            | some kk =>
              rw [e1] at ed
              cases e2 : unD r with
              | none => rw [e2] at ed; cases ed
              | some l => rw [e2] at ed; cases ed
        obtain ⟨p, vs, rfl, eh, rk⟩ := Rep.dctAt (show Rep K H (Live φ h) y (.dict kds0) from ry) ne ed
        refine ⟨p, vs, key, ex, rfl, eh, ?_⟩
        rw [kvrep_val key rk]
        exact k _ H φ (Step.refl _ _ _) sm (Rep.bl _)
    · cases e1 : asDk b h with
      | none => rw [e1] at ed; cases ed
      | some pr =>
        rw [e1] at ed
        cases ed
        obtain ⟨n, kd⟩ := pr
        obtain ⟨p, vs, rfl, ea, en, eh, rk⟩ := asDk_ok sm ry e1
        refine ⟨p, vs, key, ex, rfl, eh, ?_⟩
        rw [kvrep_val key rk]
        exact k _ H φ (Step.refl _ _ _) sm (Rep.bl _)
  · cases e
/-- a sign in a text -/
def rInS (neg : Bool) : R2 := fun x y H Q => ∃ (c : Nat) (z : Str), x = .str ⟨#[c]⟩ ∧ y = .str z ∧ Q (.bl (if neg = true then !decide (c ∈ z.cps.toList) else decide (c ∈ z.cps.toList))) H
def gInS (neg : Bool) : G2 := fun x y h => match x, y with
  | .d (.str s), .d (.str z) => (match s.cps.toList with
    | [c] => some (.d (.bool (if neg = true then !decide (c ∈ z.cps.toList) else decide (c ∈ z.cps.toList))), h)
    | _ => none)
  | _, _ => none
theorem op_inS {X : Cx} : OpR X (compareOp .In) (rInS false) := fun pins s σ H x y v u Q I rx ry ⟨c, z, e1, e2, q⟩ => op_in_sign pins s σ H x y v u Q I rx ry ⟨c, z, e1, e2, q⟩
theorem ok_inS {K : PySem.W.Frag} (neg : Bool) : Ok2 K mg (rInS neg) (gInS neg) := by
  intro φ h H x y a b Q v h' sm rx ry e k
  unfold gInS at e
  split at e
  · rename_i s z
    split at e
    · rename_i c ec
      cases e
      cases rx
      cases ry
      have es : s = ⟨#[c]⟩ := by
        obtain ⟨cs⟩ := s
        obtain ⟨l⟩ := cs
        cases ec
        rfl
      subst es
      exact ⟨c, z, rfl, rfl, k _ H φ (Step.refl _ _ _) sm (Rep.bl _)⟩
    · cases e
  · cases e
section
variable {h : Hh} {Q : Vl → Hh → Prop} {n : Nat} {kds : List (Key × Da)} {x : Str} {b : Bool}
theorem wo_inD (e : h[n]? = some (some (.dct kds))) (eb : (valD kds (.inr x)).isSome = b) (q : Q (.d (.bool b)) h) : Wo (gInD false (.d (.str x)) (.r n) h) Q := by
  refine wo_eq ?_ q
  unfold gInD asDd asDk
  simp only [e]
  rw [show keyOf (.d (.str x)) = some (.inr x) from rfl]
  simp only [Option.map_some, eb]
  rfl
theorem wo_notInD (e : h[n]? = some (some (.dct kds))) (eb : (valD kds (.inr x)).isSome = b) (q : Q (.d (.bool (!b))) h) : Wo (gInD true (.d (.str x)) (.r n) h) Q := by
  refine wo_eq ?_ q
  unfold gInD asDd asDk
  simp only [e]
  rw [show keyOf (.d (.str x)) = some (.inr x) from rfl]
  simp only [Option.map_some, eb]
  rfl
theorem wo_inS {c : Nat} {z : Str} (q : Q (.d (.bool (decide (c ∈ z.cps.toList)))) h) : Wo (gInS false (.d (.str ⟨#[c]⟩)) (.d (.str z)) h) Q := wo_eq (v := .d (.bool (decide (c ∈ z.cps.toList)))) (h' := h) rfl q
end
end Rk

/-! Rk76: a text walked sign by sign. -/
namespace Rk
open PySem PySem.Spec L2
/-- the signs of a text, each as a text -/
def sgn (x : Str) : List Da := x.cps.toList.map fun c => .str ⟨#[c]⟩
def itS (v : Vl) (h : Hh) : Out Itm := match v with
  | .d (.str x) => .ok ⟨sgn x, none⟩ h
  | _ => .no
theorem str_it {K : PySem.W.Frag} {x : Str} : ItOk K (Its x) ⟨sgn x, none⟩ (fun _ _ _ => True) where
  go := fun φ h H i sm g gd hi => by
    show i < x.cps.size
    have : (sgn x).length = x.cps.size := by unfold sgn; simp
    have hi : i < (sgn x).length := hi
    omega
  yld := fun φ h H i y H' d sm g gd ed ⟨e, c, ec, ey⟩ => by
    subst e
    subst ey
    have e2 : (sgn x)[i]? = some (.str ⟨#[c]⟩) := by
      unfold sgn
      rw [List.getElem?_map, Array.getElem?_toList, ec]
      rfl
    have e3 : some d = some (PyData.str ⟨#[c]⟩) := ed.symm.trans e2
    cases e3
    exact ⟨Step.refl _ _ _, sm, Rep.str _⟩
  stop := fun φ h H i sm g gd hi => by
    show x.cps.size ≤ i
    have : (sgn x).length = x.cps.size := by unfold sgn; simp
    have hi : (sgn x).length ≤ i := hi
    omega
  keep := fun _ _ _ _ _ _ _ _ => trivial
section
variable {X : Cx} {W : WX} {tg e : Expr} {fe : Ev}
theorem ei_str (he : EE X W e fe) : EI X W tg e (iv itS fe) :=
  PI.of (pi_str he) fun σ H R ⟨φ, h, ρ, sm, er, q⟩ => ⟨φ, h, ρ, sm, er, PoI.goE q fun x v h1 H1 φ1 st sm1 rv q1 => by
    unfold itS at q1
    split at q1
    · rename_i z
      cases (show Rep X.K H1 (Live φ1 h1) x (.str z) from rv)
      exact ⟨z, rfl, q1 _ H1 φ1 _ (Step.refl _ _ _) sm1 str_it trivial⟩
    · exact q1.elim⟩
end
section
variable {E : XP} {h : Hh} {QI : Itm → Hh → Prop} {x : Str}
theorem wp_itS (q : QI ⟨sgn x, none⟩ h) : Wp (itS (.d (.str x)) h) QI E := ⟨q⟩
end
end Rk

/-! Rk77: s.join(xs); sorted(ns). -/
namespace Rk
open PySem PySem.Spec L2
variable {mg : Str → Option Value}
/-- a text's method of one argument -/
def eM1 (g : Str → Vl → Hh → Option (Vl × Hh)) (fo fe : Ev) : Ev := fun ρ h => (fo ρ h).bind fun v h1 => match v with
  | .d (.str a) => (fe ρ h1).bind fun y h2 => ofO (g a y h2)
  | _ => .no
def gJoin (a : Str) (y : Vl) (h : Hh) : Option (Vl × Hh) := match (asQ y h).bind strsOf with
  | some ys => if (ys.map (·.length)).sum + ys.length * a.length ≤ 16777216 then some (.d (.str (Txt.join a ys)), h) else none
  | none => none
section
variable {X : Cx} {W : WX} {o e : Expr} {fo fe : Ev} {apos pos : Pos}
end
/-- whole numbers, rising -/
def isrt (ns : List Int) : List Int := ns.mergeSort fun a b => decide (a ≤ b)
def gSortI : GC := fun vs h => match vs with
  | [v] => match (asL v h).bind intsOf with
    | some ns => some (.r h.length, h ++ [some (.lst ((isrt ns).map PyData.int))])
    | none => none
  | _ => none
section
variable {Q : Vl → Hh → Prop} {E : XP} {ρ : En} {h : Hh} {fo fe : Ev} {g : Str → Vl → Hh → Option (Vl × Hh)} {a : Str} {ys : List Str} {ns : List Int}
end
end Rk

/-! Rk78: reversed(range(n)); list(range(n)). -/
namespace Rk
open PySem PySem.Spec L2
theorem rev_rng {K : PySem.W.Frag} {n : Nat} {lo : Int} (e : lo = (n : Int) - 1) : ItOk K (Itc lo (-1) n) ⟨(rngD 0 n).reverse, none⟩ (fun _ _ _ => True) where
  go := fun φ h H i sm g gd hi => by
    show i < n
    simpa [rngD] using hi
  yld := fun φ h H i x H' d sm g gd ed ⟨e1, e2⟩ => by
    subst e1 e2
    have hi : i < n := by
      have := (List.getElem?_eq_some_iff.mp ed).1
      simpa [rngD] using this
    have ed : (rngD 0 n).reverse[i]? = some d := ed
    rw [List.getElem?_reverse (by simpa [rngD] using hi)] at ed
    unfold rngD at ed
    rw [List.length_map, List.length_range, List.getElem?_map, List.getElem?_range (by omega)] at ed
    cases ed
    refine ⟨Step.refl _ _ _, sm, ?_⟩
    rw [show lo + (i : Nat) * (-1) = 0 + ((n - 1 - i : Nat) : Int) by omega]
    exact Rep.int _
  stop := fun φ h H i sm g gd hi => by
    show n ≤ i
    simpa [rngD] using hi
  keep := fun _ _ _ _ _ _ _ _ => trivial
def iRevR (fe : Ev) : Iv := fun ρ h => (fe ρ h).bind fun v h1 => match v with
  | .d (.int j) => if rgB j then .ok ⟨(rngD 0 j.toNat).reverse, none⟩ h1 else .no
  | _ => .no
def eLstR (fe : Ev) : Ev := fun ρ h => (fe ρ h).bind fun v h1 => match v with
  | .d (.int j) => if 0 ≤ j ∧ j ≤ 16777216 then .ok (.r h1.length) (h1 ++ [some (.lst (rngD 0 j.toNat))]) else .no
  | _ => .no
section
variable {X : Cx} {W : WX} {tg a : Expr} {fa : Ev} {p p2 pos q : Pos}
theorem ei_revR (hg : Gl X "reversed") (hm : X.mg "reversed" = none) (hg2 : Gl X "range") (hm2 : X.mg "range" = none) (ha : EE X W a fa) (hs : starEach [.Call (.Name "range" p2) [a] [] q] X.env = (false, eval (.Call (.Name "range" p2) [a] [] q) X.env) :: starEach [] X.env := by rfl)
    (na : starEach [a] X.env = (false, eval a X.env) :: starEach [] X.env := by rfl) : EI X W tg (.Call (.Name "reversed" p) [.Call (.Name "range" p2) [a] [] q] [] pos) (iRevR fa) :=
  PI.of (pi_revR hg hm (prg_1 hg2 hm2 ha na) hs) fun σ H R ⟨φ, h, ρ, sm, er, q⟩ => ⟨φ, h, ρ, sm, er, PoI.goE q fun x v h1 H1 φ1 st sm1 rv q1 => by
    split at q1
    · rename_i j
      split at q1
      · rename_i hj
        obtain ⟨b1, b2⟩ := rgB_ok hj
        rw [VRep.int rv]
        refine ⟨j, rfl, by decide, by decide, b1, b2, ?_⟩
        rw [Int.sub_zero]
        exact q1 _ H1 φ1 _ (Step.refl _ _ _) sm1 (rev_rng (by omega)) trivial
      · exact q1.elim
    · exact q1.elim⟩
end
section
variable {Q : Vl → Hh → Prop} {E : XP} {ρ : En} {h : Hh} {fa : Ev} {QI : Itm → Hh → Prop}
theorem wp_revR (w : Wp (fa ρ h) (fun v h1 => ∃ j : Int, v = .d (.int j) ∧ rgB j = true ∧ QI ⟨(rngD 0 j.toNat).reverse, none⟩ h1) E) : Wp (iRevR fa ρ h) QI E :=
  wp_bind (w.mono (fun v h1 ⟨j, e, r, q⟩ => by subst e; dsimp only; rw [if_pos r]; exact ⟨q⟩) fun _ _ _ z => z)
end
end Rk

/-! Rk79: a world by what its text says of one thing. -/
namespace Rk
open PySem
end Rk

/-! Rk80: wishes for the newer forms. -/
namespace Rk
open PySem PySem.Spec L2
section
variable {Q : Vl → Hh → Prop} {E : XP} {h : Hh} {kds : List (Str × Da)} {z : Str} {y : Vl} {x a b : Str}
theorem wo_getC_y {d : Da} (e : seek kds z = some d) (q : Q (.d d) h) : Wo (gGetC kds (.d (.str z)) y h) Q := by
  refine wo_eq (v := .d d) ?_ q
  unfold gGetC
  dsimp only
  rw [e]
end
end Rk

/-! Rk81: comprehensions whose parts look at the store. -/
namespace Rk
open PySem PySem.Spec L2
section
variable {Q : Vl → Hh → Prop} {E : XP} {ρ ρ0 : En} {h hb : Hh} {i : Iv} {g : Gv} {fe : Ev} {ws : List Nat} {D : Nat}
theorem lck_map {α : Type} (f g' : α → Da) (el : hb.length = D) : ∀ (xs : List α) (acc : List Da), (∀ x ∈ xs, ∀ o, GvK (g (.d (f x)) ρ0 (hb ++ [o])) fun ρ1 h1 => h1 = hb ++ [o] ∧ Wp (fe ρ1 (hb ++ [o])) (fun v h2 => h2 = hb ++ [o] ∧ v = .d (g' x)) NX) → acc.length + xs.length ≤ 16777216 → Q (.d (.list (acc ++ xs.map g'))) hb → LcK D g fe ρ0 (xs.map f) acc hb Q
  | [], acc, _, _, q => lck_nil el (by simpa using q)
  | x :: xs, acc, H, hl, q => by
    rw [List.map_cons]
    rw [List.length_cons] at hl
    refine lck_cons ?_
    have k := H x (List.mem_cons_self ..) (some (.lst acc))
    unfold GvK Wo at k ⊢
    revert k
    cases g (.d (f x)) ρ0 (hb ++ [some (.lst acc)]) with
    | none => exact fun z => z
    | some p =>
      obtain ⟨ρ1, h1⟩ := p
      rintro ⟨rfl, w⟩
      refine w.mono ?_ fun _ _ _ z => z
      rintro v h2 ⟨rfl, rfl⟩
      refine ⟨g' x, hb, rfl, rfl, el, by omega, lck_map f g' el xs _ (fun y hy => H y (List.mem_cons_of_mem _ hy)) (by simp only [List.length_append, List.length_singleton]; omega) ?_⟩
      rw [List.append_assoc]
      exact q
/-- every part told by a function, of the store as it stands -/
theorem wp_lcH {α : Type} (xs : List α) (f g' : α → Da) {ρ0 : En} (e00 : wipeE ρ ws = ρ0) (w : Wp (i ρ h) (fun m h1 => m = ⟨xs.map f, none⟩ ∧ xs.length ≤ 16777216 ∧ h1.length = h.length ∧
      (∀ x ∈ xs, ∀ o, GvK (g (.d (f x)) ρ0 (h1 ++ [o])) fun ρ1 h2 => h2 = h1 ++ [o] ∧ Wp (fe ρ1 (h1 ++ [o])) (fun v h3 => h3 = h1 ++ [o] ∧ v = .d (g' x)) NX) ∧
      Q (.d (.list (xs.map g'))) h1) (fun c fs h1 => E c fs (h1.take h.length))) : Wp (eFz (eLc ws i g tvYes fe) ρ h) Q E := by
  refine wp_lcU e00 (w.mono ?_ fun _ _ _ z => z)
  rintro m h1 ⟨rfl, hl, hh, H, q⟩
  exact ⟨rfl, hh, lck_map f g' hh xs [] H (by simpa using hl) q⟩
/-- a list that is told later -/
theorem wp_lcN {α : Type} (xs : List α) (f g' : α → Da) (P : α → Bool) {tt : Tv} {ρ0 : En} (e00 : wipeE ρ ws = ρ0) (w : Wp (i ρ h) (fun m h1 => m = ⟨xs.map f, none⟩ ∧ xs.length ≤ 16777216 ∧
      (∀ x ∈ xs, ∀ h', GvK (g (.d (f x)) ρ0 h') fun ρ1 h2 => h2 = h' ∧ Wp (tt ρ1 h') (fun b h3 => h3 = h' ∧ b = P x) NX ∧ (P x = true → Wp (fe ρ1 h') (fun v h3 => h3 = h' ∧ v = .d (g' x)) NX)) ∧
      Q (.r h1.length) (h1 ++ [some (.lst ((xs.filter P).map g'))])) E) : Wp (eLc ws i g tt fe ρ h) Q E := by
  subst e00
  refine wp_bind (w.mono ?_ fun _ _ _ z => z)
  rintro m h1 ⟨rfl, hl, H, q⟩
  have lf := lc_mapR (gd := none) (g := g) (tt := tt) (fe := fe) (ρ0 := wipeE ρ ws) (h := h1) (f := f) (g' := g') (P := P) (fun _ => trivial) xs [] (fun d hd h' => by
    have k := H d hd h'
    unfold GvK Wo at k
    revert k
    cases e : g (.d (f d)) (wipeE ρ ws) h' with
    | none => exact fun z => z.elim
    | some p =>
      obtain ⟨ρ1, h2⟩ := p
      rintro ⟨rfl, wt, wf⟩
      obtain ⟨b, h3, e1, rfl, rfl⟩ := wp_out wt
      refine ⟨ρ1, rfl, e1, fun hp => ?_⟩
      obtain ⟨v, h3, e2, rfl, rfl⟩ := wp_out (wf hp)
      exact e2) (by simpa using hl)
  rw [List.nil_append] at lf
  exact wp_eq lf q
end
section
variable {h : Hh} {Q : Vl → Hh → Prop} {n : Nat} {kds : List (Key × Da)} {x : Str} {b : Bool}
theorem wo_inF (ne : kds ≠ []) (eb : (valD kds (.inr x)).isSome = b) (q : Q (.d (.bool b)) h) : Wo (gInD false (.d (.str x)) (.d (.dict (dD kds))) h) Q := by
  have ne' : dD kds ≠ [] := by
    cases kds with
    | nil => exact absurd rfl ne
    | cons a r => unfold dD; simp
  refine wo_eq ?_ q
  unfold gInD asDd
  dsimp only
  rw [if_neg ne', unD_dD, show keyOf (.d (.str x)) = some (.inr x) from rfl]
  simp [eb]
end
end Rk

/-! Rk82: texts put together, cut, indexed; loops that draw. -/
namespace Rk
open PySem PySem.Spec L2
section
variable {h : Hh} {Q : Vl → Hh → Prop} {a b z : Str} {i : Int} {c : Nat} {lo hi : Option Int}
theorem wo_addS (l : a.length + b.length ≤ 16777216) (q : Q (.d (.str (a ++ b))) h) : Wo (gAdd (.d (.str a)) (.d (.str b)) h) Q := by
  refine wo_eq ?_ q
  unfold gAdd
  dsimp only
  rw [if_pos (fitB_ok l)]
theorem inF_strs (x : Str) (xs : List Str) : inF (.str x) (xs.map PyData.str) = decide (x ∈ xs) := by
  unfold inF
  rw [List.any_map]
  induction xs with
  | nil => rfl
  | cons y ys ih =>
    rw [List.any_cons, ih]
    show ((y == x) || _) = _
    by_cases e : y = x
    · subst e
      simp
    · have e' : ¬ x = y := fun z => e z.symm
      simp [e, e']
theorem flat_strs (xs : List Str) : (xs.map PyData.str).all flatD = true := by
  rw [List.all_map]
  exact List.all_eq_true.mpr fun _ _ => rfl
theorem wo_notInF {ds : List Da} {x : Da} (fx : flatD x = true) (fl : ds.all flatD = true) (q : Q (.d (.bool (!inF x ds))) h) : Wo (gIn true (.d x) (.d (.list ds)) h) Q := by
  refine wo_eq ?_ q
  unfold gIn asQ asL
  dsimp only
  rw [fx, fl]
  rfl
end
section
variable {h : Hh} {Q : Vl → Hh → Prop} {E : XP} {ρ : En} {p r : Pv} {k v : Ev} {QL : List (Key × Da) → Hh → Prop}
theorem wp_dct (w : Wp (p ρ h) (fun l h1 => l.length ≤ 15 ∧ Q (.r h1.length) (h1 ++ [some (.dct (l.foldl (fun acc kv => putD acc kv.1 kv.2) []))])) E) : Wp (eDct p ρ h) Q E :=
  wp_bind (w.mono (fun l h1 ⟨e, q⟩ => by rw [if_pos e]; exact ⟨q⟩) fun _ _ _ z => z)
theorem wp_pn (q : QL [] h) : Wp (pNil ρ h) QL E := ⟨q⟩
theorem wp_pc (w : Wp (k ρ h) (fun x h1 => Wp (v ρ h1) (fun y h2 => Wp (r ρ h2) (fun l h3 => ∃ s d, x = .d (.str s) ∧ y = .d d ∧ QL ((.inr s, d) :: l) h3) E) E) E) : Wp (pCons k v r ρ h) QL E :=
  wp_bind (w.mono (fun _ _ w => wp_bind (w.mono (fun _ _ w => wp_bind (w.mono (fun _ _ ⟨s, d, e1, e2, q⟩ => by subst e1 e2; exact ⟨q⟩) fun _ _ _ z => z)) fun _ _ _ z => z)) fun _ _ _ z => z)
theorem ex_pc {s : Str} {d : Da} {P : Str → Da → Prop} (q : P s d) : ∃ s' d', Vl.d (.str s) = .d (.str s') ∧ Vl.d d = .d d' ∧ P s' d' := ⟨s, d, rfl, rfl, q⟩
end
section
variable {Q : Vl → Hh → Prop} {ρ0 : En} {hb : Hh} {g : Gv} {fe : Ev} {D : Nat}
/-- a comprehension that draws, by what stands ahead of each part -/
theorem lck_inv {ds : List Da} (I : Nat → List Da → Hh → Prop) (h0 : I 0 [] hb) (dl : ∀ k acc h, I k acc h → h.length = D) (hl : ds.length ≤ 16777216)
    (st : ∀ k d acc hb, ds[k]? = some d → I k acc hb → acc.length = k → GvK (g (.d d) ρ0 (hb ++ [some (.lst acc)])) fun ρ1 h1 => Wp (fe ρ1 h1) (fun v h2 => ∃ x hb', v = .d x ∧ h2 = hb' ++ [some (.lst acc)] ∧ I (k + 1) (acc ++ [x]) hb') NX)
    (fin : ∀ acc hb, I ds.length acc hb → acc.length = ds.length → Q (.d (.list acc)) hb) : LcK D g fe ρ0 ds [] hb Q := by
  have go : ∀ (n k : Nat) (acc : List Da) (hb : Hh), n = ds.length - k → k ≤ ds.length → I k acc hb → acc.length = k → LcK D g fe ρ0 (ds.drop k) acc hb Q := by
    intro n
    induction n with
    | zero =>
      intro k acc hb hn hk i ha
      have : k = ds.length := by omega
      subst this
      rw [List.drop_length]
      exact lck_nil (dl _ _ _ i) (fin _ _ i ha)
    | succ n ih =>
      intro k acc hb hn hk i ha
      have hk' : k < ds.length := by omega
      rw [List.drop_eq_getElem_cons hk']
      refine lck_cons ?_
      have w := st k ds[k] acc hb (List.getElem?_eq_getElem hk') i ha
      unfold GvK Wo at w ⊢
      revert w
      cases g (.d ds[k]) ρ0 (hb ++ [some (.lst acc)]) with
      | none => exact fun z => z
      | some p =>
        obtain ⟨ρ1, h1⟩ := p
        intro w
        refine Wp.mono w ?_ fun _ _ _ z => z
        rintro v h2 ⟨x, hb', rfl, rfl, i'⟩
        exact ⟨x, hb', rfl, rfl, dl _ _ _ i', by omega, ih (k + 1) _ hb' (by omega) (by omega) i' (by simp [ha])⟩
  have := go _ 0 [] hb rfl (Nat.zero_le _) h0 rfl
  rwa [List.drop_zero] at this
end
section
variable {h : Hh} {n : Nat} {kds kds' : List (Key × Da)} {x : Str} {v d : Da} {Q : Vl → Hh → Prop} {N : Hh → Prop}
theorem ex_setDS (hn : n < h.length) (e : putD kds (.inr x) v = kds') (hl : kds.length < 16777216) (q : N (h.set n (some (.dct kds')))) : ∃ h3, setD (.r n) (.d (.str x)) (.d v) (h.set n (some (.dct kds))) = some h3 ∧ N h3 := by
  subst e
  refine ⟨_, set_of (kds' := putD kds (.inr x) v) (get_set hn) rfl hl, ?_⟩
  rw [List.set_set]
  exact q
theorem wo_dgS (hn : n < h.length) (e : valD kds (.inr x) = some d) (q : Q (.d d) (h.set n (some (.dct kds)))) : Wo (gDG (.r n) (.d (.str x)) (h.set n (some (.dct kds)))) Q :=
  wo_eq (dg_of (get_set hn) e) q
/-- a state that draws: three fields -/
def st3 (L M a : Int) : List (Key × Da) := [(.inr "cell", .int L), (.inr "seed", .int M), (.inr "at", .int a)]
theorem mapIdx_map' {α β γ : Type} (f : α → β) (F : Nat → β → γ) (xs : List α) : (xs.map f).mapIdx F = xs.mapIdx fun i x => F i (f x) := by
  apply List.ext_getElem?
  intro i
  simp only [List.getElem?_map, List.getElem?_mapIdx]
  cases xs[i]? <;> rfl
end
section
variable {h : Hh} {Q : Vl → Hh → Prop}
theorem wo_lenR {n : Nat} {ds : List Da} (e : h[n]? = some (some (.lst ds))) (l : ds.length ≤ 16777216) (q : Q (.d (.int (ds.length : Nat))) h) : Wo (gLen [.r n] h) Q := by
  refine wo_eq (v := .d (.int (ds.length : Nat))) (h' := h) ?_ q
  unfold gLen asL
  dsimp only
  rw [e]
theorem rng_getI {n k : Nat} {d : Da} (e : (rngD 0 ((n : Int)).toNat)[k]? = some d) : k < n ∧ d = .int (k : Int) := by
  rw [Int.toNat_natCast] at e
  obtain ⟨e1, e2⟩ := rng_get e
  exact ⟨e2, by rw [e1, Int.zero_add]⟩
theorem wo_iyR {n k : Nat} {ds : List Da} {v : Da} (e : h[n]? = some (some (.lst ds))) (ek : ds[k]? = some v) (q : Q (.d v) h) : Wo (gIy (.r n) (.d (.int (k : Int))) h) Q := by
  refine wo_eq ?_ q
  unfold gIy gDG
  rw [show keyOf (.d (.int (k : Int))) = some (.inl (k : Int)) from rfl]
  dsimp only
  rw [e]
  exact gIxL e ek
theorem wo_ixT {k : Nat} {ds : List Da} {v : Da} (ek : ds[k]? = some v) (q : Q (.d v) h) : Wo (gIx (.d (.tuple ds)) (.d (.int (k : Int))) h) Q := wo_eq (gIx_nat ek) q
theorem wo_ixLF {k : Nat} {ds : List Da} {v : Da} (ek : ds[k]? = some v) (q : Q (.d v) h) : Wo (gIx (.d (.list ds)) (.d (.int (k : Int))) h) Q := wo_eq (gIxF ek) q
/-- a list of a function's values at the numbers below n -/
def tabD (n : Nat) (f : Nat → Da) : List Da := (List.range n).map f
theorem tab_get {n k : Nat} {f : Nat → Da} (hk : k < n) : (tabD n f)[k]? = some (f k) := by
  unfold tabD
  rw [List.getElem?_map, List.getElem?_range hk]
  rfl
theorem tab_len {n : Nat} {f : Nat → Da} : (tabD n f).length = n := by unfold tabD; simp
theorem tab_set {n k : Nat} {f : Nat → Da} {v : Da} : (tabD n f).set k v = tabD n fun j => if j = k then v else f j := by
  unfold tabD
  apply List.ext_getElem?
  intro i
  rw [List.getElem?_set, List.getElem?_map, List.getElem?_map]
  by_cases e : k = i
  · subst e
    by_cases hk : k < n
    · simp [List.getElem?_range hk, hk]
    · simp [hk]
  · have e' : ¬ i = k := fun z => e z.symm
    by_cases hi : i < n
    · simp [e, e', List.getElem?_range hi]
    · simp [e, hi]
theorem tab_ext {n : Nat} {f g : Nat → Da} (e : ∀ k, k < n → f k = g k) : tabD n f = tabD n g := by
  unfold tabD
  exact List.map_congr_left fun k hk => e k (List.mem_range.mp hk)
end
end Rk

/-! Rk83: repr of data with whole numbers of many figures. -/
namespace Rk
open PySem PySem.Spec L2 PyProof.Rows
section
variable {prog : Program} {w : World} {A : Around} {E : Value → Shared → Prop} {s : Shared}
theorem call_int_reprL {a : Int} {t : Tok} {Q : Value → Shared → Prop} (hn : s.heap.NoDigits) (ha : a.natAbs < 10 ^ 4300) (h : Q (.str (toString a) s.toks) { s with toks := s.toks + 1 }) : wpAny (model prog w) A (call (.builtin "int.__repr__") [.int a t]) Q E s := by
  refine wpAny_call (codeAny_call_builtin F.slot_int_repr.plain F.entry_int_repr (F.slot_int_repr.check _ _ _ _ _ _ _ _ (typeIs_int _ a t) (F.args_int_repr_1 _) ?_))
  unfold Builtin.«int.__repr__»
  show wpAny _ _ (do let r ← Builtin.overDigitLimit? a; _) _ _ s
  refine wpAny_bind (overDigitLimit_any hn (fun hlt => ?_) (fun hge => absurd ha (Nat.not_lt.mpr hge)))
  exact wpAny_bind (wpAny_mkStr (wpAny_pure h) (int_text_fits10 hlt))
theorem pyReprObj_intL {a : Int} {t : Tok} {Q : Value → Shared → Prop} (hu : A.units < cLine) (hn : s.heap.NoDigits) (ha : a.natAbs < 10 ^ 4300) (h : Q (.str (toString a) s.toks) { s with toks := s.toks + 1 }) : wpAny (model prog w) A (pyReprObj (.int a t)) Q E s :=
  wpAny_pyReprObj_slot hu (typeIs_int s a t) F.slot_int_repr.toG (call_int_reprL hn ha ⟨_, _, rfl, h⟩)
theorem repr_of_intL {a : Int} {t : Tok} {Q : Value → Shared → Prop} (hu : A.units + 1 < cLine) (hn : s.heap.NoDigits) (ha : a.natAbs < 10 ^ 4300) (h : Q (.str (toString a) s.toks) { s with toks := s.toks + 1 }) : wpAny (model prog w) A (call (.builtin "repr") [.int a t]) Q E s :=
  call_repr_slot (by omega) (typeIs_int s a t) F.slot_int_repr.toG (call_int_reprL hn ha ⟨_, _, rfl, h⟩)
theorem ReprK.intL {h₀ : Heap} {a : Int} (t : Tok) (hn : h₀.NoDigits) (ha : a.natAbs < 10 ^ 4300) (as : List Addr) (d : Nat) : ReprK prog w as h₀ d (.int a t) (toString a) := fun n hb A g E s Q hg hcl hu hk hQ => by
  have hn' : n ≤ sizeLine := by omega
  rw [pyReprUnder_leaf (v := .int a t) hn' (fun _ e => nomatch e)]
  unfold pyRepr
  exact wpAny_bind (pyReprObj_intL (by omega) (hn.keeps hk) ha (wpAny_pure (hQ s.heap _ fun _ _ e => e)))
end
mutual
/-- data without dicts whose whole numbers have less than 12900 bits -/
def shB : Da → Bool
  | .int i => decide (i.natAbs.log2 < 12900)
  | .list ds => shBs ds
  | .tuple ds => shBs ds
  | .dict _ => false
  | .none => true
  | .bool _ => true
  | .str _ => true
def shBs : List Da → Bool
  | [] => true
  | d :: ds => shB d && shBs ds
end
theorem lt_big {n : Nat} (h : n.log2 < 12900) : n < 10 ^ 4300 := Nat.lt_of_lt_of_le (lt_of_log2 h) pow_lo
section
variable {prog : Program} {w : World} {h₀ : Heap}
mutual
theorem big1 (nd : h₀.NoDigits) : ∀ {v : Value} {d : Da} {as : List Addr}, Reads h₀ v d as → shB d = true → d.shown.length ≤ sizeLine → ∃ cs, ReadAtMost h₀ d.depth cs ∧ ReprK prog w cs h₀ d.depth v d.shown
  | _, _, _, .none, _, _ => ⟨[], nofun, by simp only [PyData.shown]; exact .of_is ReprIs.none [] h₀ _⟩
  | _, _, _, .bool c, _, _ => ⟨[], nofun, by simp only [PyData.shown]; exact .of_is (ReprIs.bool c) [] h₀ _⟩
  | _, _, _, .int i t, e, _ => ⟨[], nofun, by simp only [PyData.shown]; exact ReprK.intL t nd (lt_big (of_decide_eq_true (by simpa only [shB] using e))) [] _⟩
  | _, _, _, .str x t, _, z => ⟨[], nofun, by simp only [PyData.shown] at z ⊢; exact .of_is (ReprIs.str x t z) [] h₀ _⟩
  | _, _, _, .list (a := p) (vs := us) (xs := ds) k1 k2 k3 k4, e, z => by
    simp only [PyData.shown] at z
    obtain ⟨cs, m, k⟩ := bigs nd k4 (by simpa only [shB] using e) fun t ht => Nat.le_trans (listText_mem_le ht) z
    have rd : Reads h₀ (.ref p) (.list ds) _ := .list k1 k2 k3 k4
    have np : p ∉ cs := not_mem_of_deeper rd (by simp only [PyData.depth]; omega) m
    refine ⟨p :: cs, ReadAtMost.cons rd (by simp only [PyData.depth]; omega) m, ?_⟩
    simp only [PyData.shown, PyData.depth]
    rcases us with ⟨l⟩
    cases l with
    | nil =>
      have e0 : ReadsAll h₀ [] ds _ := k4
      cases e0
      simp only [PyData.shownAll, listText_nil]
      exact ReprK.listEmpty k1 k2 k3
    | cons y l => exact ReprK.list k1 k2 k3 np (by simpa using k.length_eq) fun i y ey => k.item i y (by simpa using ey)
  | _, _, _, .tuple (a := p) (xs := ds) k1 k2 k3 k4, e, z => by
    simp only [PyData.shown] at z
    obtain ⟨cs, m, k⟩ := bigs nd k4 (by simpa only [shB] using e) fun t ht => Nat.le_trans (tupleText_mem_le ht) z
    have rd : Reads h₀ (.ref p) (.tuple ds) _ := .tuple k1 k2 k3 k4
    have np : p ∉ cs := not_mem_of_deeper rd (by simp only [PyData.depth]; omega) m
    refine ⟨p :: cs, ReadAtMost.cons rd (by simp only [PyData.depth]; omega) m, ?_⟩
    simp only [PyData.shown, PyData.depth]
    exact ReprK.tuple k1 k2 k3 np k
  | _, _, _, .dict _ _ _ _ _, e, _ => by simp only [shB] at e; cases e
theorem bigs (nd : h₀.NoDigits) : ∀ {us : List Value} {ds : List Da} {as : List Addr}, ReadsAll h₀ us ds as → shBs ds = true → (∀ t ∈ PyData.shownAll ds, t.length ≤ sizeLine) →
    ∃ cs, ReadAtMost h₀ (PyData.depthAll ds) cs ∧ ReprAllK prog w cs h₀ (PyData.depthAll ds) us (PyData.shownAll ds)
  | _, _, _, .nil, _, _ => ⟨[], nofun, by simp only [PyData.shownAll]; exact .nil⟩
  | _, _, _, .cons (d := d) (ds := ds) r rs, e, z => by
    simp only [shBs, Bool.and_eq_true] at e
    simp only [PyData.shownAll, List.mem_cons] at z
    obtain ⟨c1, m1, k1⟩ := big1 nd r e.1 (z _ (.inl rfl))
    obtain ⟨c2, m2, k2⟩ := bigs nd rs e.2 fun t ht => z t (.inr ht)
    simp only [PyData.depthAll, PyData.shownAll]
    refine ⟨c1 ++ c2, (m1.mono (Nat.le_max_left ..)).append (m2.mono (Nat.le_max_right ..)), ?_⟩
    refine .cons ((k1.more ?_).level_le (Nat.le_max_left ..)) (k2.more_le ?_ (Nat.le_max_right ..))
    · exact fun b hb => List.mem_append.mpr (.inl hb)
    · exact fun b hb => List.mem_append.mpr (.inr hb)
end
variable {a : Addr} {d : Da} {as : List Addr} {A : Around} {E : Value → Shared → Prop} {s : Shared} {Q : Value → Shared → Prop}
theorem repr_of_readsL (nd : s.heap.NoDigits) (r : Reads s.heap (.ref a) d as) (hs : shB d = true) (hg : A.guards = some []) (hu : A.units + (d.depth + 1) < cLine)
    (hQ : ∀ h' u tk, (∀ b o, s.heap.get? b = some o → h'.get? b = some o) → Q (.str d.shown u) { s with heap := h', toks := tk })
    (z : d.shown.length ≤ sizeLine) : wpAny (model prog w) A (call (.builtin "repr") [.ref a]) Q E s := by
  cases r with
  | list k1 k2 k3 k4 =>
    rename_i o us n ds cs0
    have rd : Reads s.heap (.ref a) (.list ds) _ := .list k1 k2 k3 k4
    simp only [PyData.shown] at z hQ
    simp only [PyData.depth] at hu
    obtain ⟨cs, m, k⟩ := bigs (prog := prog) (w := w) nd k4 (by simpa only [shB] using hs) fun t ht => Nat.le_trans (listText_mem_le ht) z
    have np : a ∉ cs := not_mem_of_deeper rd (by simp only [PyData.depth]; omega) m
    refine call_repr_slot (by omega) (show s.TypeIs (.ref a) "list" from ⟨o, k1, k2⟩) F.slot_list_repr.toG ?_
    rcases us with ⟨l⟩
    cases l with
    | nil =>
      have e0 : ReadsAll s.heap [] ds _ := k4
      cases e0
      simp only [PyData.shownAll, listText_nil] at hQ
      exact call_list_repr_empty ⟨o, k1, k2⟩ k1 k3 ⟨_, _, rfl, hQ s.heap _ _ fun _ _ e => e⟩
    | cons y l =>
      exact call_list_reprK k1 k2 k3 np (by simpa using k.length_eq) (fun i y ey => k.item i y (by simpa using ey)) hg (fun b _ => Clear.nil b) (by show A.units + 1 + _ < _; omega) (fun _ _ e => e) (fun h' u tk hk => ⟨_, _, rfl, hQ h' u tk hk⟩) z
  | tuple k1 k2 k3 k4 =>
    rename_i o us n ds
    have rd : Reads s.heap (.ref a) (.tuple ds) _ := .tuple k1 k2 k3 k4
    simp only [PyData.shown] at z hQ
    simp only [PyData.depth] at hu
    obtain ⟨cs, m, k⟩ := bigs (prog := prog) (w := w) nd k4 (by simpa only [shB] using hs) fun t ht => Nat.le_trans (tupleText_mem_le ht) z
    have np : a ∉ cs := not_mem_of_deeper rd (by simp only [PyData.depth]; omega) m
    refine call_repr_slot (by omega) (show s.TypeIs (.ref a) "tuple" from ⟨o, k1, k2⟩) F.slot_tuple_repr ?_
    exact call_tuple_reprK k1 k2 k3 np k hg (fun b _ => Clear.nil b) (by show A.units + 1 + _ < _; omega) (fun _ _ e => e) (fun h' u tk hk => ⟨_, _, rfl, hQ h' u tk hk⟩) z
  | dict k1 k2 k3 k4 k5 => simp only [shB] at hs; cases hs
end
/-- the top says nothing of the limit on figures -/
def DigN (K : PySem.W.Frag) : Prop := PySem.W.nsOkIn K cStatics = true ∧ PySem.W.nsIn K cStatics "sys.int_max_str_digits" = some none
theorem digB_ok {K : PySem.W.Frag} (e : digB K = true) : DigN K := by
  unfold digB at e
  rw [Bool.and_eq_true] at e
  refine ⟨e.1, ?_⟩
  have e2 := e.2
  split at e2
  · assumption
  · cases e2
theorem DigN.heap {K : PySem.W.Frag} {h : Heap} (X : K.In h) (D : DigN K) : h.NoDigits := ⟨_, .of_isNs (PySem.W.isNs_of_in X D.1), PySem.W.nsMap_none_of_in X D.1 D.2⟩
variable {mg : Str → Option Value}
def rReprL (K : PySem.W.Frag) (xs : List V) (H : Hp) (Q : VK) : Prop := ∃ x d, xs = [x] ∧ Dp K H x d ∧ shB d = true ∧ d.depth ≤ 60 ∧ d.shown.length ≤ sizeLine ∧ Q (.str d.shown) H
theorem call_reprL {X : Cx} (D : DigN X.K) (hg : X.A.guards = some []) (hu : X.A.units + 64 < cLine) : CallR X (.builtin "repr") (rReprL X.K) := by
  intro pins s σ H xs us Q I r h
  obtain ⟨x, d, rfl, dp, sh, dd, sz, q⟩ := h
  have nd : s.heap.NoDigits := (D.heap I.mod.kin).keeps I.bk
  cases r with
  | cons r1 r2 =>
    cases r2
    obtain ⟨as, rd⟩ := Dp.reads I d x _ dp r1
    have big : ∀ a, Reads s.heap (.ref a) d as → wpAny (model X.prog X.w) X.A (call (.builtin "repr") [.ref a]) (EP X pins σ Q) X.xe s := fun a rd =>
      repr_of_readsL nd rd sh hg (by omega) (fun h' u tk hk => ⟨.str _, H, I.kept (t' := tk) hk, ⟨_, rfl⟩, q⟩) sz
    cases rd with
    | none => exact PySem.P.repr_of_none ⟨.str _, H, I.tok _, ⟨_, rfl⟩, q⟩
    | bool b => exact PySem.P.repr_of_bool ⟨.str _, H, I.tok _, ⟨_, rfl⟩, q⟩
    | int i t => exact repr_of_intL (by omega) nd (lt_big (of_decide_eq_true (by simpa only [shB] using sh))) ⟨.str _, H, I.tok _, ⟨_, rfl⟩, q⟩
    | str z t => exact PySem.P.repr_of_str ⟨.str _, H, I.tok _, ⟨_, rfl⟩, q⟩ sz
    | list a b c e => exact big _ (.list a b c e)
    | tuple a b c e => exact big _ (.tuple a b c e)
    | dict a b c e f => exact big _ (.dict a b c e f)
mutual
theorem shB_nd : ∀ d : Da, shB d = true → d.hasDict = false
  | .none, _ => by simp only [PyData.hasDict]
  | .bool _, _ => by simp only [PyData.hasDict]
  | .int _, _ => by simp only [PyData.hasDict]
  | .str _, _ => by simp only [PyData.hasDict]
  | .list ds, e => by
    simp only [PyData.hasDict]
    exact shBs_nd ds (by simpa only [shB] using e)
  | .tuple ds, e => by
    simp only [PyData.hasDict]
    exact shBs_nd ds (by simpa only [shB] using e)
  | .dict _, e => by simp only [shB] at e; cases e
theorem shBs_nd : ∀ ds : List Da, shBs ds = true → PyData.hasDictAll ds = false
  | [], _ => by simp only [PyData.hasDictAll]
  | d :: ds, e => by
    simp only [shBs, Bool.and_eq_true] at e
    simp only [PyData.hasDictAll, Bool.or_eq_false_iff]
    exact ⟨shB_nd d e.1, shBs_nd ds e.2⟩
end
def gReprL : GC := fun as h => match as with
  | [x] => match asD x h with
    | some d => if shB d && decide (d.depth ≤ 60) && fitB d.shown.length then some (.d (.str d.shown), h) else none
    | none => none
  | _ => none
theorem ok_reprL {K : PySem.W.Frag} : OkC K mg (rReprL K) gReprL := by
  intro φ h H xs as Q v h' sm rs e k
  unfold gReprL at e
  split at e
  · rename_i a
    obtain ⟨x, rfl, rx⟩ := rs.one
    split at e
    · rename_i d ed
      split at e
      · rename_i hc
        cases e
        rw [Bool.and_eq_true, Bool.and_eq_true] at hc
        obtain ⟨⟨h1, h3⟩, h4⟩ := hc
        exact ⟨x, d, rfl, asD_ok sm rx ed (shB_nd d h1), h1, of_decide_eq_true h3, fitB_le h4, k _ H φ (Step.refl _ _ _) sm (Rep.str _)⟩
      · cases e
    · cases e
  · cases e
/-- what can be told as a text, with sizes -/
structure ShW (k e : Nat) (d : Da) : Prop where
  s : shB d = true
  p : d.depth ≤ e
  l : d.shown.length ≤ k
structure ShWs (k e : Nat) (ds : List Da) : Prop where
  s : shBs ds = true
  d : PyData.depthAll ds ≤ e
  l : piled (PyData.shownAll ds) ≤ k
theorem ShW.mono {k e k' e' : Nat} {d : Da} (h : ShW k e d) (a : k ≤ k') (b : e ≤ e') : ShW k' e' d := ⟨h.s, Nat.le_trans h.p b, Nat.le_trans h.l a⟩
theorem ShW.str {x : Str} (hx : ∀ c ∈ x.cps.toList, c < 16 ^ 8) : ShW (10 * x.length + 2) 0 (.str x) := ⟨by simp only [shB], by simp [PyData.depth], by simp only [PyData.shown]; exact PySem.StrLaws.reprText_len x hx⟩
theorem ShW.int {i : Int} (h : i.natAbs.log2 < 12900) : ShW 4400 0 (.int i) := by
  refine ⟨by simp only [shB]; exact decide_eq_true h, by simp [PyData.depth], ?_⟩
  simp only [PyData.shown]
  have e := int_text_length_le10 (k := 4300) (by decide) (lt_big h)
  clear h
  rw [PySem.ofString_length]
  omega
theorem ShWs.nil : ShWs 0 0 [] := ⟨by simp only [shBs], by simp [PyData.depthAll], by simp [PyData.shownAll, piled]⟩
theorem ShWs.cons {k e k' e' : Nat} {d : Da} {ds : List Da} (h : ShW k e d) (t : ShWs k' e' ds) : ShWs (k + 2 + k') (max e e') (d :: ds) := by
  refine ⟨by simp only [shBs, h.s, t.s, Bool.and_self], ?_, ?_⟩
  · have := h.p
    have := t.d
    simp only [PyData.depthAll]
    omega
  · have := h.l
    have := t.l
    simp only [PyData.shownAll]
    rw [piled_cons]
    omega
theorem ShWs.of {k e n : Nat} {ds : List Da} (h : ∀ d ∈ ds, ShW k e d) (hl : ds.length ≤ n) : ShWs (n * (k + 2)) e ds := by
  induction ds generalizing n with
  | nil => exact ⟨ShWs.nil.s, Nat.le_trans ShWs.nil.d (Nat.zero_le _), Nat.le_trans ShWs.nil.l (Nat.zero_le _)⟩
  | cons d ds ih =>
    cases n with
    | zero => simp at hl
    | succ n =>
      have a := ih (n := n) (fun x hx => h x (List.mem_cons_of_mem _ hx)) (by simpa using hl)
      have b := ShWs.cons (h d (List.mem_cons_self ..)) a
      rw [Nat.max_self] at b
      refine ⟨b.s, b.d, Nat.le_trans b.l ?_⟩
      rw [Nat.succ_mul]
      omega
theorem ShW.tup {k e : Nat} {ds : List Da} (t : ShWs k e ds) : ShW (k + 3) (e + 1) (.tuple ds) := by
  refine ⟨by simp only [shB]; exact t.s, by simp only [PyData.depth]; have := t.d; omega, ?_⟩
  simp only [PyData.shown]
  have hl := t.l
  unfold tupleText
  have j : (Str.join ", " (PyData.shownAll ds)).length ≤ piled (PyData.shownAll ds) := by
    by_cases z : PyData.shownAll ds = []
    · rw [z]; decide
    · have := join_length_add _ z
      omega
  rw [Str.length_append, Str.length_append]
  have a : (Str.ofString "(").length = 1 := by decide
  have b : (Str.ofString (if (PyData.shownAll ds).length == 1 then ",)" else ")")).length ≤ 2 := by split <;> decide
  have a' : ("(" : Str).length = 1 := a
  omega
theorem ShW.lst {k e : Nat} {ds : List Da} (t : ShWs k e ds) : ShW (k + 3) (e + 1) (.list ds) := by
  refine ⟨by simp only [shB]; exact t.s, by simp only [PyData.depth]; have := t.d; omega, ?_⟩
  simp only [PyData.shown]
  have hl := t.l
  unfold listText
  have j : (textFrom 0 "[" (PyData.shownAll ds)).length ≤ 1 + piled (PyData.shownAll ds) := by
    cases e : PyData.shownAll ds with
    | nil => decide
    | cons x xs =>
      have h1 := textFrom_length_pos xs 1 (("[" : Str) ++ ("" : Str) ++ x) (by decide)
      have h2 : textFrom 0 "[" (x :: xs) = textFrom 1 (("[" : Str) ++ ("" : Str) ++ x) xs := rfl
      rw [h2, h1, piled_cons, Str.length_append, Str.length_append]
      have a1 : ("[" : Str).length = 1 := by decide
      have a2 : ("" : Str).length = 0 := by decide
      omega
  rw [Str.length_append]
  have b : ("]" : Str).length = 1 := by decide
  omega
theorem log2_of {n k : Nat} (h : n < 2 ^ k) (hk : 0 < k) : n.log2 < k := by
  rcases Nat.eq_zero_or_pos n with z | z
  · rw [z]
    exact hk
  · exact (Nat.log2_lt (Nat.ne_of_gt z)).mpr h
theorem p600 : 10 ^ 600 < 2 ^ 2000 := by decide +kernel
theorem ShW.Q {r : Rat} (h1 : r.num.natAbs ≤ 10 ^ 600) (h2 : r.den ≤ 10 ^ 600) : ShW 9000 1 (Rk.Q r) := by
  have l : ∀ n : Nat, n ≤ 10 ^ 600 → n.log2 < 12900 := fun n h => log2_of (Nat.lt_of_le_of_lt h (Nat.lt_trans p600 (Nat.pow_lt_pow_right (by decide) (by decide)))) (by decide)
  have t := ShW.tup (ShWs.cons (ShW.int (i := r.num) (l _ h1)) (ShWs.cons (ShW.int (i := (r.den : Int)) (l _ (by rw [Int.natAbs_natCast]; exact h2))) ShWs.nil))
  exact t.mono (by decide) (by decide)
theorem wo_reprL {Q : Vl → Hh → Prop} {h : Hh} {d : Da} {k e : Nat} (s : ShW k e d) (h1 : k ≤ 16777216) (h2 : e ≤ 60) (q : Q (.d (.str d.shown)) h) : Wo (gReprL [.d d] h) Q :=
  wo_eq (v := .d (.str d.shown)) (h' := h) (by
    unfold gReprL asD
    dsimp only
    rw [s.s, decide_eq_true (Nat.le_trans s.p h2), fitB_ok (Nat.le_trans s.l h1)]
    rfl) q
section
variable {Q : Vl → Hh → Prop} {h : Hh} {n : Nat} {ds : List Da}
end
end Rk

/-! Rk84: y(lambda: body, b, ..): a deed handed on with more things. -/
namespace Rk
open PySem PySem.Spec L2
noncomputable def eLam2 (n np : Nat) (x : Str) (m : Deed → Fn) (fb : Ev) (as : Av) : Ev := fun ρ h => if hasTab n x h = true then
    (as ρ h).bind fun vs h1 => if vs.length = np then lamO fun f c σ => m ⟨⟨f, c, x ++ ".<locals>." ++ "<lambda>", σ, capE ρ⟩, fun h' => fb (upE (capE ρ)) h'⟩ (.f ⟨f, c, x ++ ".<locals>." ++ "<lambda>", σ, capE ρ⟩ :: vs) h1 else .no
  else .no
section
variable {X : Cx} {W : WX} {x y : Str} {c pt : Addr} {k j : Nat} {m : Deed → Fn} {params : Arguments} {body b : Expr} {bs : List Expr} {as : Av} {scope : Scope} {fb : Ev} {p lpos pos : Pos} {ps : List Str} {a : Str}
end
section
variable {Q : Vl → Hh → Prop} {E : XP} {ρ ρ' : En} {h h0 h1 : Hh} {n np i : Nat} {x : Str} {m : Deed → Fn} {fb : Ev} {as : Av} {v0 : Vl} {vs : List Vl} {d : Deed}
end
end Rk

/-! Rk85: for a, b in zip(tuple, list). -/
namespace Rk
open PySem PySem.Spec PyProof.Rows L2
def ItzM (K : PySem.W.Frag) (a b : Addr) : It :=
  ⟨fun i H => ∃ (us ws : List V) (u w : V), SqT K H a us ∧ SqL K H b ws ∧ us[i]? = some u ∧ ws[i]? = some w,
   fun i H v H' => ∃ N u w, v = .ref N ∧ H N = none ∧ H' = upd H N (.tup [u, w]) ∧ (∀ us, SqT K H a us → us[i]? = some u) ∧ ∀ ws, SqL K H b ws → ws[i]? = some w,
   fun i H => ∃ us ws : List V, SqT K H a us ∧ SqL K H b ws ∧ (us.length ≤ i ∨ ws.length ≤ i)⟩
section
variable {prog : Program} {w : World} {A : Around}
end
def zmS (z q o i j a b : Addr) (n : Nat) (h : Heap) : Prop := IsZip h z q o .none ∧ IsTupOf2 h q (.ref i) (.ref j) ∧ (∃ u w, IsTupOf2 h o u w) ∧ h.IsTupleIter i a n ∧ h.IsListIter j b n
theorem five {P : Addr → Prop} {z q o i j : Addr} (pz : P z) (pq : P q) (po : P o) (pi : P i) (pj : P j) : ∀ c ∈ [z, q, o, i, j], P c := by
  intro c hc
  simp only [List.mem_cons, List.not_mem_nil, or_false] at hc
  rcases hc with rfl | rfl | rfl | rfl | rfl <;> assumption
def tiZM (K : PySem.W.Frag) (ta : TA) : TI := fun σ H R => ta σ H fun vs H1 => ∃ a b us ws, vs = [.ref a, .ref b] ∧ SqT K H1 a us ∧ SqL K H1 b ws ∧ R (ItzM K a b) H1
def iZM (as : Av) : Iv := fun ρ h => (as ρ h).bind fun vs h1 => match vs with
  | [.d (.tuple xs), .d (.list ys)] => .ok ⟨zipD xs ys, none⟩ h1
  | _ => .no
section
variable {X : Cx} {W : WX} {pos p : Pos} {fs : Av}
end
end Rk

/-! Rk86: tuple(zip(list, list)) of two lists of one length. -/
namespace Rk
open PySem PySem.Spec PyProof.Rows L2
/-- the pairs of two rows, made one behind the other -/
inductive Prs (us ws : List V) (H : Hp) : List V → Hp → Prop
  | nil : Prs us ws H [] H
  | snoc {ts : List V} {H' : Hp} {T : Addr} {u w : V} : Prs us ws H ts H' → us[ts.length]? = some u → ws[ts.length]? = some w → H' T = none → Prs us ws H (ts ++ [.ref T]) (upd H' T (.tup [u, w]))
def zcS (z q o i j a b : Addr) (xs ys : Array Value) (B n : Nat) (h : Heap) : Prop :=
  IsPair h q (.ref i) (.ref j) ∧ h.IsListIter i a n ∧ h.IsListIter j b n ∧ h.IsList a xs ∧ h.IsList b ys ∧ ((IsZip h z q o .none ∧ ∃ u w, IsPair h o u w) ∨ ∃ (T : Addr) (f : Bool) (ob : Obj), IsZipHeld h z q o T f ∧ h.get? T = some ob ∧ B ≤ T)
section
variable {prog : Program} {w : World} {A : Around} {E : Value → Shared → Prop} {s : Shared} {z q o i j a b : Addr} {xs ys : Array Value} {B n : Nat}
theorem zcS.move {h h' : Heap} {S : Addr} (st : zcS z q o i j a b xs ys (S + 1) n h) (hS : ∀ c ∈ [z, q, o, i, j, a, b], c ≠ S) (k : ∀ c ob, c ≠ S → h.get? c = some ob → h'.get? c = some ob) : zcS z q o i j a b xs ys (S + 1) n h' := by
  obtain ⟨p1, p2, p3, p4, p5, p6⟩ := st
  have f := fun c hc ob => k c ob (hS c hc)
  refine ⟨f q (by simp) _ p1, p2.at fun ob e => f i (by simp) ob e, p3.at fun ob e => f j (by simp) ob e, p4.at fun ob e => f a (by simp) ob e, p5.at fun ob e => f b (by simp) ob e, ?_⟩
  rcases p6 with ⟨p6, u, v, p7⟩ | ⟨T, g, ob, p6, p7, p8⟩
  · exact .inl ⟨f z (by simp) _ p6, u, v, f o (by simp) _ p7⟩
  · exact .inr ⟨T, g, ob, f z (by simp) _ p6, k T _ (Nat.ne_of_gt p8) p7, p8⟩
theorem zc_item {x y : Value} {Q : Option Value → Shared → Prop} (D : ZipApart z q o i j a b) (hB : ∀ c ∈ [z, q, o, i, j], c < B) (le : B ≤ s.heap.objs.size) (st : zcS z q o i j a b xs ys B n s.heap) (ex : xs[n]? = some x) (ey : ys[n]? = some y)
    (hQ : ∀ h', zcS z q o i j a b xs ys B (n + 1) h' → IsPair h' s.heap.objs.size x y → h'.objs.size = s.heap.objs.size + 1 → (∀ c ob, c ∉ [z, o, i, j] → s.heap.get? c = some ob → h'.get? c = some ob) → Q (some (.ref s.heap.objs.size)) { s with heap := h' }) :
    wpAny (model prog w) A (pyNext (.ref z)) Q E s := by
  obtain ⟨p1, p2, p3, p4, p5, p6⟩ := st
  rcases p6 with ⟨p6, u, v, p7⟩ | ⟨T, g, ob, p6, p7, p8⟩
  · refine wpAny_pyNext_zip_item D p6 p1 p7 p2 p3 p4 p5 ex ey fun h' m1 m2 m3 m4 m5 m6 k => ?_
    have k' : ∀ c ob, c ∉ [z, o, i, j] → s.heap.get? c = some ob → h'.get? c = some ob := fun c ob nc e => k c ob (fun g => nc (by simp [g])) (fun g => nc (by simp [g])) (fun g => nc (by simp [g])) (fun g => nc (by simp [g])) e
    exact hQ h' ⟨k _ _ D.TIz D.TITO D.TIi1 D.TIi2 p1, m3, m4, p4.at fun ob e => k _ ob D.l1z D.l1TO D.l1i1 D.l1i2 e, p5.at fun ob e => k _ ob D.l2z D.l2TO D.l2i1 D.l2i2 e, .inr ⟨_, false, _, m1, m5, le⟩⟩ m5 m6 k'
  · have hT : ∀ c ∈ [z, q, o, i, j], T ≠ c := fun c hc e => by
      have := hB c hc
      rw [← e] at this
      exact absurd p8 (Nat.not_le.mpr this)
    refine wpAny_pyNext_zip_item_held D p6 p7 p1 p2 p3 p4 p5 ex ey fun h' m1 m3 m4 m5 m6 k => ?_
    have k' : ∀ c ob, c ∉ [z, o, i, j] → s.heap.get? c = some ob → h'.get? c = some ob := fun c ob nc e => k c ob (fun g => nc (by simp [g])) (fun g => nc (by simp [g])) (fun g => nc (by simp [g])) e
    exact hQ h' ⟨k _ _ D.TIz D.TIi1 D.TIi2 p1, m3, m4, p4.at fun ob e => k _ ob D.l1z D.l1i1 D.l1i2 e, p5.at fun ob e => k _ ob D.l2z D.l2i1 D.l2i2 e, .inr ⟨T, true, ob, m1, k _ _ (hT z (by simp)) (hT i (by simp)) (hT j (by simp)) p7, p8⟩⟩ m5 m6 k'
end
/-- a list in the making -/
abbrev mkL (acc : Array Value) (c : Nat) : Obj := { cls := .type "list", dict := none, data := .seq acc c, slots := #[] }
section
variable {X : Cx} {pins : List (Addr × Obj)} {σ : L2.St} {A : Around} {z q o i j a b S : Addr} {xs ys : Array Value} {us ws : List V} {H0 : Hp} {R : Result → Shared → Prop} {res : Value}
theorem FpOk.upd {H : Hp} {c T : Addr} {ob : HO} (f : FpOk X pins H c) (n : c ≠ T) : FpOk X pins (upd H T ob) c := ⟨by rw [upd_ne n]; exact f.1, f.2⟩
theorem vals_get {vs : List V} {us : List Value} (r : Vals vs us) {n : Nat} {x : Value} (e : us[n]? = some x) : ∃ v, vs[n]? = some v ∧ RelV v x := by
  induction r generalizing n with
  | nil => cases e
  | cons r _ ih =>
    cases n with
    | zero =>
      cases e
      exact ⟨_, rfl, r⟩
    | succ n => exact ih e
theorem vals_snoc {vs : List V} {us : List Value} {v : V} {x : Value} (r : Vals vs us) (rv : RelV v x) : Vals (vs ++ [v]) (us ++ [x]) := by
  induction r with
  | nil => exact .cons rv .nil
  | cons r _ ih => exact .cons r ih
theorem zip_nolen : typeLookup (.type "zip") "__len__" = pure none := by
  rw [typeLookup_type, builtinLookup_eq_fast]
  kernel_rfl
theorem zip_nohint : typeLookup (.type "zip") "__length_hint__" = pure none := by
  rw [typeLookup_type, builtinLookup_eq_fast]
  kernel_rfl
/-- the zip as it was made, the state around it -/
structure ZcAt (X : Cx) (pins : List (Addr × Obj)) (σ : L2.St) (z q o i j a b : Addr) (xs ys : Array Value) (us ws : List V) (H : Hp) (s : Shared) : Prop where
  D : ZipApart z q o i j a b
  inv : Inv X pins σ H s
  z0 : IsZip s.heap z q o .none
  q0 : IsPair s.heap q (.ref i) (.ref j)
  o0 : ∃ u w, IsPair s.heap o u w
  i0 : s.heap.IsListIter i a 0
  j0 : s.heap.IsListIter j b 0
  a0 : s.heap.IsList a xs
  b0 : s.heap.IsList b ys
  fp : ∀ c ∈ [z, o, i, j], FpOk X pins H c
  eq : xs.size = ys.size
  hn : xs.size ≤ sizeLine
  ra : Vals us xs.toList
  rb : Vals ws ys.toList
end
def tTZ (K : PySem.W.Frag) (ta : TA) : TE := fun σ H Q => ta σ H fun vs H1 => ∃ (a b : Addr) (us ws : List V), vs = [.ref a, .ref b] ∧ SqL K H1 a us ∧ SqL K H1 b ws ∧ us.length = ws.length ∧ ∀ ts H2 p o, Prs us ws H1 ts H2 → ts.length = us.length → H2 p = none → o.dict = none → Q (.ref p) (upd H2 p (.frz o (.tup ts)))
end Rk

/-! Rk87: tuple(zip(xs, ys)) of two lists of one length, as data. -/
namespace Rk
open PySem PySem.Spec PyProof.Rows L2
def gTZ : GC := fun vs h => match vs with
  | [x, y] => match asL x h, asL y h with
    | some xs, some ys => if xs.length = ys.length then some (.d (ptD (zipD xs ys)), h) else none
    | _, _ => none
  | _ => none
section
variable {K : PySem.W.Frag} {φ : List Addr} {h : Hh} {H H' : Hp} {us ws ts : List V} {xs ys : List Da}
theorem prs_rep (sm : Sim K φ h H) (ru : Reps K H (Live φ h) us xs) (rw : Reps K H (Live φ h) ws ys) (P : Prs us ws H ts H') :
    Step φ h H φ h H' ∧ Sim K φ h H' ∧ Reps K H' (Live φ h) ts ((zipD xs ys).take ts.length) := by
  induction P with
  | nil => exact ⟨Step.refl _ _ _, sm, .nil⟩
  | @snoc ts H' T u w P eu ew hT ih =>
    obtain ⟨s1, m1, r1⟩ := ih
    have ru' := ru.stay s1.st
    have rw' := rw.stay s1.st
    have hu : ts.length < xs.length := by rw [← ru.length]; exact (List.getElem?_eq_some_iff.mp eu).1
    have hw : ts.length < ys.length := by rw [← rw.length]; exact (List.getElem?_eq_some_iff.mp ew).1
    obtain ⟨d1, f1⟩ : ∃ d, xs[ts.length]? = some d := ⟨_, List.getElem?_eq_getElem hu⟩
    obtain ⟨d2, f2⟩ : ∃ d, ys[ts.length]? = some d := ⟨_, List.getElem?_eq_getElem hw⟩
    obtain ⟨u1, e1, r2⟩ := ru'.get f1
    obtain ⟨w1, e2, r3⟩ := rw'.get f2
    rw [eu] at e1
    cases e1
    rw [ew] at e2
    cases e2
    obtain ⟨s2, m2, v2⟩ := new_tup (mg := fun _ => none) m1 (ds := [d1, d2]) (.cons r2 (.cons r3 .nil)) hT
    refine ⟨s1.trans s2, m2, ?_⟩
    have e : (zipD xs ys).take (ts ++ [V.ref T]).length = (zipD xs ys).take ts.length ++ [.tuple [d1, d2]] := by
      rw [List.length_append, List.length_singleton, List.take_succ]
      congr 1
      unfold zipD
      rw [List.getElem?_map, List.getElem?_zip_eq_some.mpr (show xs[ts.length]? = some (d1, d2).1 ∧ ys[ts.length]? = some (d1, d2).2 from ⟨f1, f2⟩)]
      rfl
    rw [e]
    exact (r1.stay s2.st).append (.cons v2 .nil)
end
/-- a tuple that is known to be a plain one -/
theorem new_plt {K : PySem.W.Frag} {mg : Str → Option Value} {φ : List Addr} {h : Hh} {H : Hp} {p : Addr} {o : Obj} {xs : List V} {ds : List Da} (sm : Sim K φ h H) (r : Reps K H (Live φ h) xs ds) (hp : H p = none) (ho : o.dict = none) :
    Step φ h H φ h (upd H p (.frz o (.tup xs))) ∧ Sim K φ h (upd H p (.frz o (.tup xs))) ∧ VRep K mg φ h (upd H p (.frz o (.tup xs))) (.ref p) (.d (ptD ds)) := by
  obtain ⟨s1, s2⟩ := sm.grow (o := .frz o (.tup xs)) hp
  exact ⟨s1, s2, Rep.plt upd_same ho (sm.fresh hp) (r.stay s1.st)⟩
theorem plt_at {K : PySem.W.Frag} {H : Hp} {M : Addr → Prop} {v : V} {ds : List Da} (r : Rep K H M v (.dict [(.none, .tuple ds)])) : ∃ a o xs, v = .ref a ∧ H a = some (.frz o (.tup xs)) ∧ o.dict = none ∧ ¬ M a ∧ Reps K H M xs ds := by
  generalize e : (.dict [(.none, .tuple ds)] : Da) = d at r
  cases r with
  | fn y => cases e
  | plt h1 h2 h3 h4 => cases e; exact ⟨_, _, _, rfl, h1, h2, h3, h4⟩
  | dct0 _ _ => cases e
  | @dct a kvs ds kds h n ne r e2 =>
    exfalso
    cases e
    cases kvs with
    | nil => exact ne rfl
    | cons p t =>
      cases r with
      | cons r1 r2 =>
        obtain ⟨k, u⟩ := p
        rw [List.map_cons, List.zip_cons_cons, List.map_cons] at e2
        have := (List.cons.inj e2).1
        have := congrArg Prod.fst this
        cases k with
        | inl i => cases this
        | inr y => cases this
  | _ => cases e
/-- a plain tuple as a tuple -/
def unp : Vl → Option Vl
  | .d (.dict [(.none, .tuple ds)]) => some (.d (.tuple ds))
  | _ => none
def eUnp (f : Ev) : Ev := fun ρ h => (f ρ h).bind fun v h1 => ofO ((unp v).map fun u => (u, h1))
theorem ee_unp {X : Cx} {W : WX} {e : Expr} {f : Ev} (p : EE X W e f) : EE X W e (eUnp f) :=
  PE.of p fun σ H Q ⟨φ, h, ρ, sm, er, q⟩ => ⟨φ, h, ρ, sm, er, PoX.goE q fun x v h1 H1 φ1 st sm1 rv q1 => by
    obtain ⟨z, h2, e2, k⟩ := PoX.ofO q1
    unfold unp at e2
    split at e2
    · rename_i ds
      cases e2
      obtain ⟨a, o, xs, rfl, f1, f2, f3, f4⟩ := plt_at (show Rep X.K H1 (Live φ1 h1) x _ from rv)
      exact k _ _ _ (Step.refl _ _ _) sm1 (Rep.tup (.inr ⟨o, f1⟩) f3 f4)
    · cases e2⟩
theorem wp_unp {Q : Vl → Hh → Prop} {E : XP} {ρ : En} {h : Hh} {f : Ev} (w : Wp (f ρ h) (fun v h1 => ∃ ds, v = .d (ptD ds) ∧ Q (.d (.tuple ds)) h1) E) : Wp (eUnp f ρ h) Q E :=
  wp_bind (w.mono (fun _ _ ⟨ds, e, q⟩ => by rw [e]; exact ⟨q⟩) fun _ _ _ z => z)
theorem ex_unp {ds : List Da} {P : List Da → Prop} (q : P ds) : ∃ es, Vl.d (ptD ds) = .d (ptD es) ∧ P es := ⟨ds, rfl, q⟩
section
variable {X : Cx} {W : WX} {e e2 : Expr} {fs : Av} {p p2 q pos : Pos}
end
section
variable {Q : Vl → Hh → Prop} {h : Hh} {xs ys : List Da}
end
end Rk

/-! Rk88: for a, b in zip(x, y): two lists, two tuples, or a tuple and a list. -/
namespace Rk
open PySem PySem.Spec PyProof.Rows L2
def mixB : List Vl → Bool
  | [.d (.tuple _), .d (.list _)] => true
  | _ => false
def pickZ : Out (List Vl) → Bool
  | .ok vs _ => mixB vs
  | _ => false
def iZip4 (as : Av) : Iv := fun ρ h => if pickZ (as ρ h) = true then iZM as ρ h else iZip as ρ h
section
variable {X : Cx} {W : WX} {pos p : Pos} {fs : Av}
theorem PI.or {tg e : Expr} {t u : TI} (h : PI X tg e t) (k : PI X tg e u) : PI X tg e (fun σ H R => t σ H R ∨ u σ H R) :=
  ⟨fun pins s σ H Q I w => w.elim (h.run pins s σ H Q I) (k.run pins s σ H Q I)⟩
end
end Rk

/-! Rk89: defs of the top as values: kept in dicts and lists, called from there. -/
namespace Rk
open PySem PySem.Spec PyProof.Rows L2
theorem gfn_ok {K : PySem.W.Frag} {mg : Str → Option Value} {x : Str} (g : mg x = some (.ref (He.ga K x))) : GConst K mg x (fnD x) := ⟨.ref _, _, g, rfl, fun _ _ => .fn x⟩
def seekF : List (Str × Fn) → Str → Option Fn
  | [], _ => none
  | (k, m) :: r, x => if x = k then some m else seekF r x
def lookF (tbl : List (Str × Fn)) : Vl → Option Fn
  | .d (.dict [(.none, .str x)]) => seekF tbl x
  | _ => none
def eCallF (tbl : List (Str × Fn)) (fe : Ev) (as : Av) : Ev := fun ρ h => (fe ρ h).bind fun v h1 => match lookF tbl v with
  | some m => (as ρ h1).bind fun vs h2 => m vs h2
  | none => .no
theorem fn_ref {K : PySem.W.Frag} {H : Hp} {M : Addr → Prop} {v : V} {x : Str} (r : Rep K H M v (.dict [(.none, .str x)])) : v = .ref (He.ga K x) := by
  generalize e : (.dict [(.none, .str x)] : Da) = d at r
  cases r with
  | fn y => cases e; rfl
  | plt _ _ _ _ => cases e
  | dct0 _ _ => cases e
  | @dct a kvs ds kds h n ne r e2 =>
    exfalso
    cases e
    cases kvs with
    | nil => exact ne rfl
    | cons p t =>
      cases r with
      | cons r1 r2 =>
        obtain ⟨k, u⟩ := p
        rw [List.map_cons, List.zip_cons_cons, List.map_cons] at e2
        have := (List.cons.inj e2).1
        have := congrArg Prod.fst this
        cases k with
        | inl i => cases this
        | inr y => cases this
  | _ => cases e
/-- the defs that may be called so -/
structure CalF (X : Cx) (j : Nat) (tbl : List (Str × Fn)) : Prop where
  at_ : ∀ (x : Str) (m : Fn), seekF tbl x = some m → ∃ (k : Nat) (ps : List Str), k ≤ j ∧ X.mg x = some (.ref (He.ga X.K x)) ∧ Df X.prog X.w X.K X.mg X.base k x ps m
theorem cf_nil {X : Cx} {j : Nat} : CalF X j [] := ⟨fun _ _ e => by cases e⟩
theorem gc_fn {K : PySem.W.Frag} {mg : Str → Option Value} {x : Str} (c : GConst K mg x (fnD x)) : mg x = some (.ref (He.ga K x)) := by
  obtain ⟨v, u, g, r, k⟩ := c
  have e := fn_ref (k (fun _ => none) fun _ => False)
  subst e
  rw [g, show u = .ref (He.ga K x) from r]
theorem cf_cons {X : Cx} {j k : Nat} {x : Str} {m : Fn} {ps : List Str} {tbl : List (Str × Fn)} (g : GConst X.K X.mg x (fnD x)) (D : Df X.prog X.w X.K X.mg X.base k x ps m) (C : CalF X j tbl) (hk : k ≤ j := by decide) : CalF X j ((x, m) :: tbl) :=
  ⟨fun y m' e => by
    unfold seekF at e
    split at e
    · rename_i h
      subst h
      cases e
      exact ⟨k, ps, hk, gc_fn g, D⟩
    · exact C.at_ y m' e⟩
section
variable {X : Cx} {W : WX} {j : Nat} {tbl : List (Str × Fn)} {fe e : Expr} {es : List Expr} {ff : Ev} {fs : Av} {pos : Pos}
theorem ee_callF (C : CalF X j tbl) (hr : RoomG j X.A) (tk : Takes X W) (hf : EE X W fe ff) (ha : EA X W (e :: es) fs)
    (hc : eval (fe.Call (e :: es) [] pos) X.env = (do let f ← eval fe X.env; callWith pos f [] (backTo pos (starEach (e :: es) X.env)) (backToKw pos (keywordEach [] X.env))) := by rfl)
    (he : starEach (e :: es) X.env = (false, eval e X.env) :: starEach es X.env := by rfl) (hpl : (backTo pos (starEach es X.env)).any (·.1) = false := by rfl) :
    EE X W (.Call fe (e :: es) [] pos) (eCallF tbl ff fs) := by
  constructor
  rintro pins s σ H Q I ⟨φ, h, ρ, sm, er, q⟩
  refine Call_ (thn (hf.run pins s σ H (fun y H1 => ∃ φ1 h1 v, Sim X.K φ1 h1 H1 ∧ ERep X.K X.mg φ1 h1 H1 σ ρ ∧ VRep X.K X.mg φ1 h1 H1 y v ∧ PoX X.K X.mg φ1 h1 H1 (match lookF tbl v with
    | some m => (fs ρ h1).bind fun vs h2 => m vs h2
    | none => .no) Q (WE W σ)) I ⟨φ, h, ρ, sm, er, PoX.goE q fun x v h1 H1 φ1 st sm1 rv q1 => ⟨φ1, h1, v, sm1, er.step st, rv, q1⟩⟩) ?_) hc
  rintro u s1 ⟨y, H1, I1, ry, φ1, h1, v, sm1, er1, rv, q1⟩
  cases em : lookF tbl v with
  | none => rw [em] at q1; exact q1.elim
  | some m =>
    rw [em] at q1
    dsimp only at q1
    unfold lookF at em
    split at em
    · rename_i x
      obtain ⟨k, ps, hk, g0, f, fd, g, kp, b, F⟩ := C.at_ x m em
      have e0 := fn_ref (show Rep X.K H1 (Live φ1 h1) y _ from rv)
      subst e0
      rw [g0] at g
      cases g
      cases ry
      refine PySem.W.callWith_K (h₀ := X.base) I.ok.mod.kin kp (thn (ha.run pos pins s1 σ H1 (fun xs H2 => ∃ φ2 h2 vs, Sim X.K φ2 h2 H2 ∧ VReps X.K X.mg φ2 h2 H2 xs vs ∧ PoX X.K X.mg φ2 h2 H2 (m vs h2) Q (WE W σ)) I1 ⟨φ1, h1, ρ, sm1, er1, PoX.goA q1 fun xs vs h2 H2 φ2 st2 sm2 rvs q2 => ⟨φ2, h2, vs, sm2, rvs, q2⟩⟩) ?_) he hpl
      rintro us s2 ⟨vs, H2, I2, r, q2⟩
      obtain ⟨φ2, h2, ws, sm2, rvs, q2⟩ := q2
      exact ⟨I2.kIn, run_G (E := fun σ => WE W σ) F (hr.mono hk) b (passAt tk σ) I2 r ⟨φ2, h2, ws, sm2, rvs, q2⟩⟩
    · cases em
end
section
variable {Q : Vl → Hh → Prop} {E : XP} {ρ : En} {h : Hh} {tbl : List (Str × Fn)} {fe : Ev} {as : Av}
/-- which def is called -/
structure FnK (tbl : List (Str × Fn)) (v : Vl) (P : Fn → Prop) : Prop where
  w : ∃ m, lookF tbl v = some m ∧ P m
theorem wp_callF (w : Wp (fe ρ h) (fun v h1 => FnK tbl v fun m => Wp (as ρ h1) (fun vs h2 => Wp (m vs h2) Q E) E) E) : Wp (eCallF tbl fe as ρ h) Q E :=
  wp_bind (w.mono (fun v h1 ⟨m, e, w⟩ => by
    rw [e]
    exact wp_bind w) fun _ _ _ z => z)
theorem fnk {x : Str} {m : Fn} {P : Fn → Prop} (e : seekF tbl x = some m) (q : P m) : FnK tbl (.d (fnD x)) P := ⟨m, e, q⟩
end
end Rk

/-! Rk90: dict(ps), ps a plain tuple of pairs. -/
namespace Rk
open PySem PySem.Spec PyProof.Rows L2
variable {mg : Str → Option Value}
def rDT (K : PySem.W.Frag) : List V → Hp → VK → Prop := fun xs H Q => ∃ (a : Addr) (o : Obj) (ps : List Addr) (kvs : List (Key × V)), xs = [.ref a] ∧ H a = some (.frz o (.tup (ps.map V.ref))) ∧ o.dict = none ∧ Paired (fun p kv => SqT K H p [kV kv.1, kv.2]) ps kvs ∧
    ∀ p, H p = none → Q (.ref p) (upd H p (.dK (mergeK [] kvs)))
theorem pairs_at {X : Cx} {pins : List (Addr × Obj)} {σ : L2.St} {H : Hp} {s : Shared} (I : Inv X pins σ H s) : ∀ {ps : List Addr} {kvs : List (Key × V)}, Paired (fun p kv => SqT X.K H p [kV kv.1, kv.2]) ps kvs →
    ∃ zs : List (Value × Value), zs.length = ps.length ∧ Paired (fun p (z : Value × Value) => PairAt s.heap p z.1 z.2) ps zs ∧ Paired (fun (kv : Key × V) (z : Value × Value) => RelV (kV kv.1) z.1 ∧ RelV kv.2 z.2) kvs zs
  | _, _, .nil => ⟨[], rfl, .nil, .nil⟩
  | p :: ps, kv :: kvs, .cons r t => by
    obtain ⟨zs, e1, e2, e3⟩ := pairs_at I t
    obtain ⟨its, rv, it, _⟩ := I.tuple r
    cases rv with
    | cons r1 rv => cases rv with
      | cons r2 rv =>
        cases rv
        exact ⟨(_, _) :: zs, by rw [List.length_cons, List.length_cons, e1], .cons (.inl it) e2, .cons ⟨r1, r2⟩ e3⟩
theorem paired_get {α β : Type} {F : α → β → Prop} {xs : List α} {ys : List β} (p : Paired F xs ys) : xs.length = ys.length ∧ ∀ (i : Nat) (x : α) (y : β), xs[i]? = some x → ys[i]? = some y → F x y := by
  induction p with
  | nil => exact ⟨rfl, fun i x y e => by cases e⟩
  | cons h t ih =>
    refine ⟨by rw [List.length_cons, List.length_cons, ih.1], fun i x y e f => ?_⟩
    cases i with
    | zero => cases e; cases f; exact h
    | succ i => exact ih.2 i x y e f
theorem kv_of_pairs {kvs : List (Key × V)} {zs : List (Value × Value)} (p : Paired (fun (kv : Key × V) (z : Value × Value) => RelV (kV kv.1) z.1 ∧ RelV kv.2 z.2) kvs zs) : KV kvs ((kvs.map (·.1)).zip (zs.map (·.2))) := by
  induction p with
  | nil => exact .nil
  | cons h t ih => exact .cons ⟨rfl, h.2⟩ ih
theorem call_dictT {X : Cx} (hc : X.calm = true) : CallR X (.type "dict") (rDT X.K) := by
  rintro pins s σ H xs us Q I r ⟨a, o, ps, kvs, rfl, hq, ho, pr, q⟩
  cases r with
  | cons r rr =>
    cases rr
    cases r
    obtain ⟨g1, hl, its, rv, oo, g2, g3, n, g4⟩ := I.hok a _ hq
    rw [g1] at g2
    cases g2
    obtain ⟨zs, e1, e2, e3⟩ := pairs_at I pr
    have eits : its = ps.map fun p => Value.ref p := by
      clear pr e1 e2 e3 g4 hl hq
      generalize hv : ps.map V.ref = vs at rv
      induction rv generalizing ps with
      | nil =>
        cases ps with
        | nil => rfl
        | cons p t => cases hv
      | cons r t ih =>
        cases ps with
        | nil => cases hv
        | cons p ps =>
          cases hv
          cases r
          rw [ih _ rfl, List.map_cons]
    have l1 := (paired_get pr).1
    have pg := (paired_get e2).2
    have kg := paired_get e3
    refine PySem.call_dict_pairs (knd := mixKind X.prog X.w) (kvs := (kvs.map (·.1)).zip (zs.map (·.2))) (PairArg.tuple a its.toArray (fun j => ps.getD j 0) zs) (I.ok.hd hc) ⟨⟨o, n, g1, g3, ho, g4⟩, ?_, ?_⟩ ⟨?_, ?_⟩ ?_ fun h'' tk hd' hk' => ?_
    · rw [List.size_toArray, eits, List.length_map, e1]
    · intro j k v ez
      have hj : j < ps.length := by rw [← e1]; exact (List.getElem?_eq_some_iff.mp ez).1
      have ep : ps[j]? = some (ps.getD j 0) := by rw [List.getElem?_eq_getElem hj, List.getD_eq_getElem?_getD, List.getElem?_eq_getElem hj]; rfl
      refine ⟨?_, pg j _ _ ep ez⟩
      rw [List.getElem?_toArray, eits, List.getElem?_map, ep]
      rfl
    · rw [List.length_zip, List.length_map, List.length_map, ← kg.1]
      omega
    · intro i key v ez
      have hi : i < kvs.length := by rw [kg.1]; exact (List.getElem?_eq_some_iff.mp ez).1
      obtain ⟨kv, ek⟩ : ∃ kv, kvs[i]? = some kv := ⟨_, List.getElem?_eq_getElem hi⟩
      obtain ⟨r1, r2⟩ := kg.2 i _ _ ek ez
      refine ⟨kv.1, ?_, kV_is (P := X.prog) (w := X.w) r1⟩
      rw [List.getElem?_zip_eq_some, List.getElem?_map, List.getElem?_map, ek, ez]
      exact ⟨rfl, rfl⟩
    · rw [e1]
      rw [List.length_map] at hl
      exact hl
    · have hm' : (s.heap.objs.size == sysModules) = false := beq_eq_false_iff_ne.mpr (Nat.ne_of_gt I.big)
      have hlen : (mergeK [] kvs).length ≤ sizeLine := by
        refine Nat.le_trans (length_mergeK _ []) ?_
        rw [List.length_nil, Nat.zero_add, ← l1]
        rw [List.length_map] at hl
        exact hl
      exact ⟨.ref s.heap.objs.size, upd H s.heap.objs.size (.dK (mergeK [] kvs)), I.laid (t' := tk) (fun c ob ec => hk' c ob (by simp) ec) (Nat.le_refl _) (dk_new hlen hm' (KV.merge (kv_of_pairs e3) .nil) hd'), rfl, q _ (I.hok.fresh (Nat.le_refl _))⟩
def gDT : GC := fun vs h => match vs with
  | [.d (.dict [(.none, .tuple ds)])] => match pairsD ds with
    | some kds => some (.r h.length, h ++ [some (.dct (kds.foldl (fun acc kv => putD acc kv.1 kv.2) []))])
    | none => none
  | _ => none
theorem ok_dt {K : PySem.W.Frag} : OkC K mg (rDT K) gDT := by
  intro φ h H xs vs Q z h2 sm rvs e k
  unfold gDT at e
  split at e
  · rename_i ds
    obtain ⟨x, rfl, rx⟩ := rvs.one
    split at e
    · rename_i kds ek
      cases e
      obtain ⟨a, o, zs, rfl, f1, f2, f3, rz⟩ := plt_at (show Rep K H (Live φ h) x _ from rx)
      obtain ⟨ps, kvs, rfl, pr, kr⟩ := pairsD_ok rz ek
      refine ⟨a, o, ps, kvs, rfl, f1, f2, pr, fun p hp => ?_⟩
      obtain ⟨s1, s2, s3⟩ := sm.new (mg := mg) (ob := .dct (kds.foldl (fun acc kv => putD acc kv.1 kv.2) [])) (o := .dK (mergeK [] kvs)) hp fun M st => ⟨_, upd_same, merge_rep (kr.stay2 st) .nil⟩
      exact k _ _ _ s1 s2 s3
    · cases e
  · cases e
theorem wo_dt {h : Hh} {Q : Vl → Hh → Prop} {ds : List Da} {kds : List (Key × Da)} (e : pairsD ds = some kds) (q : Q (.r h.length) (h ++ [some (.dct (kds.foldl (fun acc kv => putD acc kv.1 kv.2) []))])) : Wo (gDT [.d (ptD ds)] h) Q := by
  refine wo_eq ?_ q
  unfold gDT ptD
  dsimp only
  rw [e]
def tTupZ (t : TA) : TE := fun σ H Q => t σ H fun xs H1 => xs.length ≤ sizeLine ∧ ∀ (p : Addr) (o : Obj), H1 p = none → o.dict = none → Q (.ref p) (upd H1 p (.frz o (.tup xs)))
theorem pe_tupZ {X : Cx} {es : List Expr} {t : TA} {pos : Pos} {k : Nat} (ha : PA X es t) : PE X (.Tuple es k pos) (tTupZ t) := by
  constructor
  intro pins s σ H Q I h
  refine Tuple_ (thn (ha.run pos pins s σ H _ I h) ?_)
  rintro us s1 ⟨xs, H1, I1, r, hl, q⟩
  refine wpAny_newTuple ?_ (by rw [← r.length]; exact hl)
  exact ⟨.ref s1.heap.objs.size, upd H1 s1.heap.objs.size (.frz { cls := .type "tuple", data := .seq us.toArray } (.tup xs)), I1.laid (t' := s1.toks) (fun c ob e => Heap.get?_push_of_some _ e) (Nat.le_refl _) ⟨Heap.get?_push_size _ rfl, hl, us, r, ⟨_, Heap.get?_push_size _ rfl, rfl, _, rfl⟩⟩, rfl, q _ _ (I1.hok.fresh (Nat.le_refl _)) rfl⟩
def eTupZ (as : Av) : Ev := fun ρ h => (as ρ h).bind fun vs h1 => match fzs vs h1 with
  | some (ds, h2) => if fitB ds.length = true then .ok (.d (ptD ds)) h2 else .no
  | none => .no
theorem ee_tupZ {X : Cx} {W : WX} {es : List Expr} {fs : Av} {k : Nat} {pos : Pos} (ha : EA X W es fs) : EE X W (.Tuple es k pos) (eTupZ fs) :=
  PE.of (pe_tupZ ha) fun σ H Q ⟨φ, h, ρ, sm, er, q⟩ => ⟨φ, h, ρ, sm, er, PoX.goA q fun xs vs h1 H1 φ1 st sm1 rvs q1 => by
    cases e : fzs vs h1 with
    | none => rw [e] at q1; exact q1.elim
    | some p =>
      obtain ⟨ds, h2⟩ := p
      rw [e] at q1
      dsimp only at q1
      split at q1
      · obtain ⟨s1, s2, s3⟩ := fzs_ok sm1 rvs e
        refine ⟨by rw [s3.length]; exact fitB_le (by assumption), fun p o hp ho => ?_⟩
        obtain ⟨t1, t2, t3⟩ := new_plt (mg := X.mg) s2 s3 hp ho
        exact q1 _ _ _ (s1.trans t1) t2 t3
      · exact q1.elim⟩
structure TupZK (vs : List Vl) (h : Hh) (Q : Vl → Hh → Prop) : Prop where
  w : TupK vs h fun v h1 => ∃ ds, v = .d (.tuple ds) ∧ Q (.d (ptD ds)) h1
theorem wp_tupZ {Q : Vl → Hh → Prop} {E : XP} {ρ : En} {h : Hh} {as : Av} (w : Wp (as ρ h) (fun vs h1 => TupZK vs h1 Q) E) : Wp (eTupZ as ρ h) Q E :=
  wp_bind (w.mono (fun _ _ ⟨ds, h2, e, f, ds', e2, q⟩ => by
    cases e2
    rw [e]
    dsimp only
    rw [if_pos f]
    exact ⟨q⟩) fun _ _ _ z => z)
theorem tupZk {vs : List Vl} {h : Hh} {Q : Vl → Hh → Prop} (w : TupK vs h fun v h1 => ∃ ds, v = .d (.tuple ds) ∧ Q (.d (ptD ds)) h1) : TupZK vs h Q := ⟨w⟩
theorem ex_tupZ {ds : List Da} {P : List Da → Prop} (q : P ds) : ∃ es, Vl.d (.tuple ds) = .d (.tuple es) ∧ P es := ⟨ds, rfl, q⟩
end Rk

/-! Rk91: a list turned round, a list cut at a number. -/
namespace Rk
open PySem PySem.Spec L2
theorem fm_range {α : Type} (xs : List α) : ∀ k, k ≤ xs.length → (List.range k).filterMap (xs[·]?) = xs.take k := by
  intro k
  induction k with
  | zero => intro _; rfl
  | succ k ih =>
    intro hk
    rw [List.range_succ, List.filterMap_append, ih (by omega), List.take_succ, List.getElem?_eq_getElem (by omega : k < xs.length)]
    simp [List.getElem?_eq_getElem (by omega : k < xs.length)]
theorem pickG_rev {α : Type} (xs : List α) : pickG xs none none (some (-1)) = xs.reverse := by
  have e : sliceRange (sliceBounds none none (some (-1)) xs.length).1 (sliceBounds none none (some (-1)) xs.length).2.1 (sliceBounds none none (some (-1)) xs.length).2.2 = (List.range xs.length).reverse := by
    show sliceRange ((xs.length : Int) - 1) (-1) (-1) = _
    unfold sliceRange
    have c : (if (-1 : Int) > 0 then (if (xs.length : Int) - 1 < -1 then (-1 - ((xs.length : Int) - 1) + -1 - 1) / -1 else 0) else (if (xs.length : Int) - 1 > -1 then ((xs.length : Int) - 1 - -1 - -1 - 1) / -(-1) else 0)) = (xs.length : Int) := by
      rw [if_neg (by decide)]
      split
      · rw [show -(-1 : Int) = 1 from rfl, Int.ediv_one]; omega
      · omega
    dsimp only
    rw [c, Int.toNat_natCast]
    apply List.ext_getElem
    · simp
    · intro i h1 h2
      simp only [List.length_map, List.length_range] at h1
      simp
      omega
  unfold pickG
  rw [e, List.filterMap_reverse, fm_range xs xs.length (Nat.le_refl _), List.take_length]
section
variable {h : Hh} {Q : Vl → Hh → Prop} {xs : List Da}
theorem wo_rvL (hl : xs.length ≤ 16777216) (q : Q (.r h.length) (h ++ [some (.lst xs.reverse)])) : Wo (gRv (.d (.list xs)) h) Q := by
  refine wo_stL (by decide) ?_ ?_
  · rw [pickG_rev, List.length_reverse]; exact hl
  · rw [pickG_rev]; exact q
end
end Rk

/-! Rk92: x == () of any tuple. -/
namespace Rk
open PySem PySem.Spec PyProof.Rows L2
variable {mg : Str → Option Value}
def rEqE (K : PySem.W.Frag) : R2 := fun x y H Q => ∃ a b us, x = .ref a ∧ y = .ref b ∧ SqT K H a us ∧ SqT K H b [] ∧ Q (.bl us.isEmpty) H
def gEqE : G2 := fun x y h => match x, y with
  | .d (.tuple ds), .d (.tuple []) => some (.d (.bool ds.isEmpty), h)
  | x, y => gEq x y h
end Rk

/-! Rk93: lists of objects: made by append, walked. -/
namespace Rk
open PySem PySem.Spec PyProof.Rows L2
variable {mg : Str → Option Value}
section
variable {K : PySem.W.Frag} {φ : List Addr} {h : Hh} {H : Hp} {a : Addr} {m : Nat} {o : Ob} {ys : List V} {ns : List Nat} {as : List Addr}
end
/-! ### append of an object to a list of objects -/
def lstR : Option (Option Ob) → Option (List Nat)
  | some (some (.lst [])) => some []
  | some (some (.rl ns)) => some ns
  | _ => none
def sApR (i : Nat) (f : Ev) : Sv := fun ρ h => match ρ[i]? with
  | some (some (.r m)) => if (lstR h[m]?).isSome = true then Out.then ρ (f ρ h) fun v h1 => match v with
      | .r d => match lstR h1[m]? with
        | some ns => if ns.length < 1000 then .nx (ρ.set i (some (.r h1.length))) (h1.set m none ++ [some (.rl (ns ++ [d]))]) else .no
        | none => .no
      | _ => .no
    else .no
  | _ => .no
section
variable {X : Cx} {W : WX} {o e : Expr} {f : Ev} {i : Nat} {apos cpos pos : Pos}
end
end Rk

/-! Rk94: a list of objects walked; a def whose new objects all stay. -/
namespace Rk
open PySem PySem.Spec PyProof.Rows L2
variable {mg : Str → Option Value}
noncomputable def forR (g : Gv) (body : Sv) : List Nat → En → Hh → So
  | [], ρ, h => .nx ρ h
  | n :: ns, ρ, h => match g (.r n) ρ h with
      | none => .no
      | some p => match body p.1 p.2 with
        | .nx ρ' h' => forR g body ns ρ' h'
        | .ct ρ' h' => forR g body ns ρ' h'
        | .bk ρ' h' => .nx ρ' h'
        | r => r
noncomputable def sForR (f : Ev) (g : Gv) (body : Sv) : Sv := fun ρ h => Out.then ρ (f ρ h) fun v h1 => match v with
  | .r m => match h1[m]? with
    | some (some (.rl ns)) => forR g body ns ρ (h1.set m none)
    | _ => .no
  | _ => .no
section
variable {K : PySem.W.Frag} {W : WX} {D : Ends} {a : Addr} {as : List Addr} {g : Gv} {fb : Sv}
end
section
variable {X : Cx} {W : WX} {tg e : Expr} {f : Ev} {g : Gv} {body : List Stmt} {fb : Sv} {pos : Pos}
end
/-! ### a def whose new objects all stay -/
def mkFN (n N : Nat) (body : Sv) : Fn := fun vs h => if vs.length = n then (match body (enter N vs) h with
    | .rt v h' => .ok v h'
    | .nx _ h' => .ok (.d .none) h'
    | .ex c fs _ h' => .ex c fs h'
    | _ => .no) else .no
section
variable {P : Program} {w : World} {K : PySem.W.Frag} {base : Heap} {x : Str} {st : Stmt} {f : Addr} {fd : FuncData} {N ps : List Str} {k : Nat}
end
end Rk

/-! Rk95: wishes for lists of objects. -/
namespace Rk
open PySem PySem.Spec L2
section
variable {Q : Vl → Hh → Prop} {E : XP} {h : Hh} {vs : List Vl} {n M : Nat} {body : Sv} {ρ : En}
end
section
variable {ρ : En} {h : Hh} {N : En → Hh → Prop} {R : Vl → Hh → Prop} {B C : En → Hh → Prop} {X : Str → List (Str × Da) → En → Hh → Prop} {f : Ev} {g : Gv} {body : Sv} {i : Nat}
/-- behind the thing that is put to a list of objects -/
structure ApK (i m : Nat) (ρ : En) (v : Vl) (h : Hh) (N : En → Hh → Prop) : Prop where
  w : ∃ d ns, v = .r d ∧ lstR h[m]? = some ns ∧ ns.length < 1000 ∧ N (ρ.set i (some (.r h.length))) (h.set m none ++ [some (.rl (ns ++ [d]))])
structure ForRK (g : Gv) (body : Sv) (v : Vl) (ρ : En) (h : Hh) (N : En → Hh → Prop) (D : Ds) : Prop where
  w : ∃ m ns, v = .r m ∧ h[m]? = some (some (.rl ns)) ∧ Ws (forR g body ns ρ (h.set m none)) N D
end
end Rk

/-! Rk96: an object out of a list of objects, by its number. -/
namespace Rk
open PySem PySem.Spec L2
def gIxO : G2 := fun x y h => match x, y with
  | .r m, .d (.int i) => match h[m]? with
    | some (some (.rl ns)) => (L2.atI ns i).map fun n => (.r n, h)
    | _ => none
  | _, _ => none
section
variable {mg : Str → Option Value} {K : PySem.W.Frag}
end
section
variable {X : Cx} {W : WX} {a b : Expr} {fa fb : Ev} {pos : Pos}
end
end Rk

/-! Rk97: dict(zip(xs, ys)) of two tuples of one length. -/
namespace Rk
open PySem PySem.Spec PyProof.Rows L2
section
variable {prog : Program} {w : World} {A : Around} {E : Value → Shared → Prop} {s : Shared} {z q o i j a b T : Addr} {f : Bool} {oT : Obj} {m n : Nat} {xs ys : Array Value}
end
/-- how far a zip of two tuples has come; d: what must not be touched -/
def ztS (z q o i j a b d : Addr) (xs ys : Array Value) (n : Nat) (h : Heap) : Prop :=
  IsPair h q (.ref i) (.ref j) ∧ h.IsTupleIter i a n ∧ h.IsTupleIter j b n ∧ h.IsTuple a xs ∧ h.IsTuple b ys ∧
    ((IsZip h z q o .none ∧ ∃ u w, IsPair h o u w) ∨ ∃ (T : Addr) (f : Bool) (ob : Obj), IsZipHeld h z q o T f ∧ h.get? T = some ob ∧ T ≠ z ∧ T ≠ i ∧ T ≠ j ∧ T ≠ d)
section
variable {prog : Program} {w : World}
end
def tDictZipT (K : PySem.W.Frag) (ta : TA) : TE := fun σ H Q => ta σ H fun vs H1 => ∃ (a b : Addr) (ks : List Key) (ys : List V), vs = [.ref a, .ref b] ∧ SqT K H1 a (ks.map kV) ∧ SqT K H1 b ys ∧ ks.length = ys.length ∧ ∀ p, H1 p = none → Q (.ref p) (upd H1 p (.dK (mergeK [] (ks.zip ys))))
/-- dict(zip(..)) of two tuples -/
def gDZT : GC := fun vs h => match vs with
  | [.d (.tuple xs), .d (.tuple ds)] => match keysD xs with
    | some ks => if ks.length = ds.length then some (.r h.length, h ++ [some (.dct ((ks.zip ds).foldl (fun acc kv => putD acc kv.1 kv.2) []))]) else none
    | none => none
  | _ => none
section
variable {X : Cx} {W : WX} {e e2 : Expr} {fs : Av} {p p2 q pos : Pos}
end
end Rk

/-! Rk98: x in y, x not in y where the items are data of any depth. -/
namespace Rk
open PySem PySem.Spec PyProof.Rows L2
variable {mg : Str → Option Value}
def rInP (K : PySem.W.Frag) (neg : Bool) : R2 := fun x y H Q => ∃ d ds, Dp K H x d ∧ (Dp K H y (.tuple ds) ∨ Dp K H y (.list ds)) ∧ SeqAt.shaped d = true ∧ SeqAt.shaped (.tuple ds) = true ∧ d.depth ≤ 60 ∧ Q (.bl (if neg then !(ds.any fun z => PyData.eqv z d) else ds.any fun z => PyData.eqv z d)) H
def inV' (neg : Bool) (a : Da) (ds : List Da) : Bool := if neg then !(ds.any fun z => PyData.eqv z a) else ds.any fun z => PyData.eqv z a
def gInP (neg : Bool) : G2 := fun x y h => match gIn neg x y h with
  | some r => some r
  | none => match x, asD y h with
    | .d a, some (.tuple ds) => if sh a && decide (a.depth ≤ 60) && sh (.tuple ds) then some (.d (.bool (inV' neg a ds)), h) else none
    | .d a, some (.list ds) => if sh a && decide (a.depth ≤ 60) && sh (.tuple ds) && !(PyData.list ds).hasDict then some (.d (.bool (inV' neg a ds)), h) else none
    | _, _ => none
section
variable {h : Hh} {Q : Vl → Hh → Prop}
end
end Rk

/-! Rk99: dict(d) of a dict that is changed; d != e of two such dicts. -/
namespace Rk
open PySem PySem.Spec L2 PyProof.Rows
variable {mg : Str → Option Value}
def rDC : List V → Hp → VK → Prop := fun xs H Q => ∃ (a : Addr) (kvs : List (Key × V)), xs = [.ref a] ∧ H a = some (.dK kvs) ∧ ∀ p, H p = none → Q (.ref p) (upd H p (.dK kvs))
def gDC : GC := fun vs h => match vs with
  | [v] => match asDk v h with
    | some (_, kds) => some (.r h.length, h ++ [some (.dct kds)])
    | none => none
  | _ => none
/-- equal dicts: as many keys, each of the one in the other, equal values -/
def hitD (zds : List (Key × Da)) (p : Key × Da) : Bool := match valD zds p.1 with
  | some v => PyData.eqv p.2 v
  | none => false
def eqDD (kds zds : List (Key × Da)) : Bool := kds.length == zds.length && kds.all (hitD zds)
def shD (d : Da) : Bool := sh d && decide (d.depth ≤ 60)
theorem KvRep.find {K : PySem.W.Frag} {H : Hp} {M : Addr → Prop} {zvs : List (Key × V)} {zds : List (Key × Da)} {k : Key} {d : Da} (al : zds.all (fun p => shD p.2) = true) (e : valD zds k = some d) : shD d = true := by
  unfold valD at e
  cases f : zds.find? fun kv => decide (kv.1 = k) with
  | none => rw [f] at e; cases e
  | some p =>
    rw [f] at e
    cases e
    exact List.all_eq_true.mp al p (List.mem_of_find?_eq_some f)
def rNeDD (K : PySem.W.Frag) : R2 := fun x y H Q => ∃ (M : Addr → Prop) (a b : Addr) (kvs zvs : List (Key × V)) (kds zds : List (Key × Da)), x = .ref a ∧ y = .ref b ∧ H a = some (.dK kvs) ∧ H b = some (.dK zvs) ∧
  KvRep K H M kvs kds ∧ KvRep K H M zvs zds ∧ kds.all (fun p => shD p.2) = true ∧ zds.all (fun p => shD p.2) = true ∧ Q (.bl (!eqDD kds zds)) H
def gNeDD : G2 := fun x y h => match asDk x h, asDk y h with
  | some (_, kds), some (_, zds) => if kds.all (fun p => shD p.2) && zds.all (fun p => shD p.2) then some (.d (.bool (!eqDD kds zds)), h) else none
  | _, _ => none
section
variable {h : Hh} {Q : Vl → Hh → Prop} {n m : Nat} {kds zds : List (Key × Da)}
end
end Rk

/-! Rk100: xs.extend([..]): a list that is changed, by a list just made. -/
namespace Rk
open PySem PySem.Spec L2 PyProof.Rows
variable {mg : Str → Option Value}
def gExt : GM := fun o as h => match o, as with
  | .r n, [.r m] => match h[m]? with
    | some (some (.lst ys)) => match (h.set m none)[n]? with
      | some (some (.lst xs)) => if fitB (xs.length + ys.length) = true then some (.d .none, (h.set m none).set n (some (.lst (xs ++ ys)))) else none
      | _ => none
    | _ => none
  | _, _ => none
theorem ok_ext {K : PySem.W.Frag} : OkM K mg rExtend gExt := by
  intro φ h H x xs o as Q v h' sm rx rs e k
  unfold gExt at e
  split at e
  · rename_i n m
    split at e
    · rename_i ys ey
      split at e
      · rename_i zs ez
        split at e
        · rename_i ft
          cases e
          obtain ⟨y, rfl, ry⟩ := rs.one
          obtain ⟨a, ea, rfl⟩ := rx
          obtain ⟨b, eb, rfl⟩ := ry
          obtain ⟨us, eh, rr⟩ := sm.at_ ey eb
          have ef : fz (.r m) h = some (.list ys, h.set m none) := by unfold fz; dsimp only; rw [ey]
          obtain ⟨s1, s2, s3⟩ := fz_ok (mg := mg) sm (show VRep K mg φ h H (.ref b) (.r m) from ⟨b, eb, rfl⟩) ef
          obtain ⟨ws, eh2, rr2⟩ := s2.at_ ez ea
          have rs2 : Reps K H (Live φ (h.set m none)) us ys := by
            cases s3 with
            | lst hd hn r =>
              rcases hd with hd | ⟨o, hd⟩
              · rw [eh] at hd
                cases hd
                exact r
              · rw [eh] at hd
                cases hd
            | lstK hk r => exact rr.stay s1.st
          obtain ⟨t1, t2⟩ := s2.write (ob := .lst (zs ++ ys)) (u := .lst (ws ++ us)) ez ea fun M st => ⟨_, upd_same, Reps.append (rr2.stay st) (rs2.stay st)⟩
          refine ⟨a, b, ws, us, rfl, rfl, eh2, eh, ?_, k _ _ _ (s1.trans t1) t2 Rep.non⟩
          have := fitB_le ft
          rw [rr2.length, rr.length]
          exact this
        · cases e
      · cases e
    · cases e
  · cases e
section
variable {h : Hh} {Q : Vl → Hh → Prop} {n m : Nat} {xs ys : List Da}
theorem wo_ext (e : h[n]? = some (some (.lst xs))) (e2 : h[m]? = some (some (.lst ys))) (ne : m ≠ n) (hl : xs.length + ys.length ≤ 16777216) (q : Q (.d .none) ((h.set m none).set n (some (.lst (xs ++ ys))))) : Wo (gExt (.r n) [.r m] h) Q := by
  refine wo_eq (v := .d .none) (h' := (h.set m none).set n (some (.lst (xs ++ ys)))) ?_ q
  unfold gExt
  dsimp only
  rw [e2]
  dsimp only
  rw [List.getElem?_set_ne ne, e]
  dsimp only
  rw [if_pos (fitB_ok hl)]
end
end Rk

/-! Rk101: for .. in zip(x, y, z): each a list or a tuple. -/
namespace Rk
open PySem PySem.Spec PyProof.Rows L2
/-- what a source is -/
inductive SK where
  | t
  | l
def SqK (K : PySem.W.Frag) (H : Hp) : SK → Addr → List V → Prop
  | .t => SqT K H
  | .l => SqL K H
def ItK (h : Heap) : SK → Addr → Addr → Nat → Prop
  | .t => h.IsTupleIter
  | .l => h.IsListIter
def SeqK (h : Heap) : SK → Addr → Array Value → Prop
  | .t => h.IsTuple
  | .l => h.IsList
section
variable {prog : Program} {w : World} {A : Around}
end
theorem ItK.at {h h' : Heap} {k : SK} {it t : Addr} {n : Nat} (x : ItK h k it t n) (e : ∀ o, h.get? it = some o → h'.get? it = some o) : ItK h' k it t n := by
  cases k with
  | t => exact Heap.IsTupleIter.at x e
  | l => exact Heap.IsListIter.at x e
theorem ItK.obj {h : Heap} {k : SK} {it t : Addr} {n : Nat} (x : ItK h k it t n) : ∃ o, h.get? it = some o ∧ ∃ fs, o.data = .fields fs := by
  cases k with
  | t =>
    obtain ⟨o, e, _, d⟩ := x
    exact ⟨o, e, _, d⟩
  | l =>
    obtain ⟨o, e, _, d⟩ := x
    exact ⟨o, e, _, d⟩
def Itz3 (K : PySem.W.Frag) (k1 k2 k3 : SK) (a b c : Addr) : It :=
  ⟨fun i H => ∃ (us ws zs : List V) (u w z : V), SqK K H k1 a us ∧ SqK K H k2 b ws ∧ SqK K H k3 c zs ∧ us[i]? = some u ∧ ws[i]? = some w ∧ zs[i]? = some z,
   fun i H v H' => ∃ N u w z, v = .ref N ∧ H N = none ∧ H' = upd H N (.tup [u, w, z]) ∧ (∀ us, SqK K H k1 a us → us[i]? = some u) ∧ (∀ ws, SqK K H k2 b ws → ws[i]? = some w) ∧ ∀ zs, SqK K H k3 c zs → zs[i]? = some z,
   fun i H => ∃ us ws zs : List V, SqK K H k1 a us ∧ SqK K H k2 b ws ∧ SqK K H k3 c zs ∧ (us.length ≤ i ∨ ws.length ≤ i ∨ zs.length ≤ i)⟩
def z3S (k1 k2 k3 : SK) (z q o i j l a b c : Addr) (n : Nat) (h : Heap) : Prop := IsZip h z q o .none ∧ IsTupOf3 h q (.ref i) (.ref j) (.ref l) ∧ (∃ u w x, IsTupOf3 h o u w x) ∧ ItK h k1 i a n ∧ ItK h k2 j b n ∧ ItK h k3 l c n
theorem six {P : Addr → Prop} {z q o i j l : Addr} (pz : P z) (pq : P q) (po : P o) (pi : P i) (pj : P j) (pl : P l) : ∀ c ∈ [z, q, o, i, j, l], P c := by
  intro c hc
  simp only [List.mem_cons, List.not_mem_nil, or_false] at hc
  rcases hc with rfl | rfl | rfl | rfl | rfl | rfl <;> assumption
/-- three to a row -/
def zip3D (xs ys zs : List Da) : List Da := ((xs.zip ys).zip zs).map fun p => .tuple [p.1.1, p.1.2, p.2]
def tiZ3 (K : PySem.W.Frag) (k1 k2 k3 : SK) (ta : TA) : TI := fun σ H R => ta σ H fun vs H1 => ∃ a b c us ws zs, vs = [.ref a, .ref b, .ref c] ∧ SqK K H1 k1 a us ∧ SqK K H1 k2 b ws ∧ SqK K H1 k3 c zs ∧ R (Itz3 K k1 k2 k3 a b c) H1
/-- a source of data: its kind, its items -/
def srcD : Vl → Option (SK × List Da)
  | .d (.tuple xs) => some (.t, xs)
  | .d (.list xs) => some (.l, xs)
  | _ => none
def SrcR (K : PySem.W.Frag) (k : SK) (a : Addr) (xs : List Da) (φ : List Addr) (h : Hh) (H : Hp) : Prop := Rep K H (Live φ h) (.ref a) (match k with
  | .t => .tuple xs
  | .l => .list xs)
def iZip3 (as : Av) : Iv := fun ρ h => (as ρ h).bind fun vs h1 => match vs with
  | [x, y, z] => match srcD x, srcD y, srcD z with
    | some (_, xs), some (_, ys), some (_, zs) => .ok ⟨zip3D xs ys zs, none⟩ h1
    | _, _, _ => .no
  | _ => .no
section
variable {X : Cx} {W : WX} {pos p : Pos} {fs : Av}
end
end Rk

/-! Rk102: the bits that two numbers have in common. -/
namespace Rk
open PySem PySem.Spec L2
variable {mg : Str → Option Value}
def fAnd (a b : Int) : Option Da := some (.int (Builtin.bitAnd a b))
end Rk

/-! Rk103: a number as a test. -/
namespace Rk
open PySem PySem.Spec L2
variable {mg : Str → Option Value}
/-- a value that is a whole number, as a truth -/
def truI : Vl → Hh → Out Bool
  | .d (.int i), h => .ok (i != 0) h
  | _, _ => .no
def eTI (f : Ev) : Tv := fun ρ h => (f ρ h).bind truI
theorem PoT.int {K : PySem.W.Frag} {mg : Str → Option Value} {φ : List Addr} {h : Hh} {H : Hp} {v : Vl} {x : V} {Q : Bool → Hp → Prop} {E : XK} (sm : Sim K φ h H) (rv : VRep K mg φ h H x v)
    (q : PoT K mg φ h H (truI v h) Q E) : ∃ k, TruV K x H k ∧ Q k H := by
  unfold truI at q
  split at q
  · rename_i i
    cases rv
    exact ⟨_, rfl, q H φ (Step.refl _ _ _) sm⟩
  · exact q.elim
def TrIK (v : Vl) (h : Hh) (K : Bool → Hh → Prop) : Prop := ∃ i, v = .d (.int i) ∧ K (i != 0) h
section
variable {E : XP} {ρ : En} {h : Hh} {b : Bool} {K : Bool → Hh → Prop} {a : Ev} {i : Int}
end
end Rk

/-! Rk104: a text so many times; a tuple so many times, once too. -/
namespace Rk
open PySem PySem.Spec PyProof.Rows L2
variable {mg : Str → Option Value}
def rMulS : R2 := fun x y H Q => ∃ z k, x = .str z ∧ y = .int k ∧ z.length ≤ 16 ∧ 0 ≤ k ∧ k ≤ 1000000 ∧ Q (.str (Txt.mul z k)) H
def mulSB (z : Str) (k : Int) : Bool := decide (z.length ≤ 16) && decide (0 ≤ k) && decide (k ≤ 1000000)
def gMulS : G2 := fun x y h => match x, y with
  | .d (.str z), .d (.int k) => if mulSB z k then some (.d (.str (Txt.mul z k)), h) else none
  | _, _ => none
end Rk

/-! Rk105: a tuple so many times, once too. -/
namespace Rk
open PySem PySem.Spec PyProof.Rows L2
variable {mg : Str → Option Value}
def rRepT1 (K : PySem.W.Frag) : R2 := fun x y H Q => ∃ l xs, x = .ref l ∧ y = .int 1 ∧ SqT K H l xs ∧ xs ≠ [] ∧ Q (.ref l) H
/-- as gRepT, once too -/
def gRepT1 : G2 := fun x y h => match x, y with
  | .d (.tuple ds), .d (.int k) => if k = 1 ∧ ds ≠ [] then some (.d (.tuple ds), h) else gRepT x y h
  | _, _ => none
end Rk

/-! Rk106: a whole number as a text, str(i). -/
namespace Rk
open PySem PySem.Spec L2 PyProof.Rows PySem.Builtin PySem.Builtin.Str PySem.Builtin.Int
section
variable {prog : Program} {w : World} {A : Around} {E : Value → Shared → Prop} {s : Shared} {a : Int} {t : Tok}
end
variable {mg : Str → Option Value}
def gStrI : GC := fun as h => match as with
  | [.d (.int i)] => if i.natAbs.log2 < 12900 then some (.d (.str (toString i)), h) else none
  | _ => none
end Rk

/-! Rk107: repr of data with dicts in it. -/
namespace Rk
open PySem PySem.Spec L2 PyProof.Rows
def keyB : Da → Bool
  | .none => false
  | _ => true
mutual
/-- data whose dicts have numbers and texts as keys; whole numbers of less than 12900 bits -/
def shC : Da → Bool
  | .int i => decide (i.natAbs.log2 < 12900)
  | .list ds => shCs ds
  | .tuple ds => shCs ds
  | .dict kds => shCk kds
  | .none => true
  | .bool _ => true
  | .str _ => true
def shCs : List Da → Bool
  | [] => true
  | d :: ds => shC d && shCs ds
def shCk : List (Da × Da) → Bool
  | [] => true
  | (k, v) :: r => shB k && (keyB k && (shC v && shCk r))
end
theorem shCk_split : ∀ kds : List (Da × Da), shCk kds = true → shBs (kds.map (·.1)) = true ∧ shCs (kds.map (·.2)) = true
  | [], _ => ⟨rfl, rfl⟩
  | (k, v) :: r, e => by
    simp only [shCk, Bool.and_eq_true] at e
    obtain ⟨e1, e2, e3, e4⟩ := e
    obtain ⟨a, b⟩ := shCk_split r e4
    exact ⟨by simp only [List.map_cons, shBs, e1, a, Bool.and_self], by simp only [List.map_cons, shCs, e3, b, Bool.and_self]⟩
theorem kv_reads {X : Cx} {s : Shared} : ∀ {es : List DictEntry} {vs : List (Key × Value)} {kvs : List (Key × V)}, PySem.Pairs (mixKind X.prog X.w) es vs → KV kvs vs →
    (∃ as, ReadsAll s.heap (es.map (·.key)) (kvs.map fun p => kD p.1) as) ∧ Vals (kvs.map (·.2)) (es.map (·.val))
  | [], _, _, .nil, .nil => ⟨⟨_, .nil⟩, .nil⟩
  | e :: es, _, _, .cons hk hv t, .cons r1 r2 => by
    obtain ⟨⟨as, q1⟩, q2⟩ := kv_reads (s := s) t r2
    have r3 := r1.2
    rw [← hv] at r3
    rw [← r1.1] at hk
    refine ⟨?_, .cons r3 q2⟩
    rcases keyIs_shape hk with ⟨i, tk, e1, e2⟩ | ⟨x, tk, e1, e2⟩
    · refine ⟨_, .cons (as := []) ?_ q1⟩
      dsimp only at e1 ⊢
      rw [e1, e2]
      exact Reads.int i tk
    · refine ⟨_, .cons (as := []) ?_ q1⟩
      dsimp only at e1 ⊢
      rw [e1, e2]
      exact Reads.str x tk
theorem zip_maps : ∀ {ks : List Key} {ds : List Da}, ks.length = ds.length → ((ks.zip ds).map (fun p => (kD p.1, p.2))).map (·.1) = ks.map kD ∧ ((ks.zip ds).map (fun p => (kD p.1, p.2))).map (·.2) = ds
  | [], [], _ => ⟨rfl, rfl⟩
  | k :: ks, d :: ds, h => by
    obtain ⟨a, b⟩ := zip_maps (ks := ks) (ds := ds) (by simpa using h)
    rw [List.zip_cons_cons]
    simp only [List.map_cons]
    rw [a, b]
    exact ⟨rfl, rfl⟩
section
variable {X : Cx} {pins : List (Addr × Obj)} {σ : L2.St} {H : Hp} {s : Shared} {M : Addr → Prop}
/-- what a list of parts asks for -/
def RcA (X : Cx) (s : Shared) (us : List Value) (ds : List Da) : Prop := ∃ as cs, ReadsAll s.heap us ds as ∧ ReadAtMost s.heap (PyData.depthAll ds) cs ∧ ReprAllK X.prog X.w cs s.heap (PyData.depthAll ds) us (PyData.shownAll ds)
theorem repC_lst (nd : s.heap.NoDigits) (I : Inv X pins σ H s) {a : Addr} {xs : List V} {ds : List Da} (h : SqL X.K H a xs) (k : ∀ {us : List Value}, Vals xs us → (∀ t ∈ PyData.shownAll ds, t.length ≤ sizeLine) → RcA X s us ds) (z : (PyData.list ds).shown.length ≤ sizeLine) :
    ∃ as cs, Reads s.heap (.ref a) (.list ds) as ∧ ReadAtMost s.heap (PyData.list ds).depth cs ∧ ReprK X.prog X.w cs s.heap (PyData.list ds).depth (.ref a) (PyData.list ds).shown := by
  simp only [PyData.shown] at z
  obtain ⟨its, rv, ⟨o, n, ho, hc, _, hd⟩, _⟩ := I.list h
  obtain ⟨as, cs, hr, m, k1⟩ := k rv fun t ht => Nat.le_trans (listText_mem_le ht) z
  have rd : Reads s.heap (.ref a) (.list ds) _ := .list ho hc hd hr
  have np : a ∉ cs := not_mem_of_deeper rd (by simp only [PyData.depth]; omega) m
  refine ⟨_, a :: cs, rd, ReadAtMost.cons rd (by simp only [PyData.depth]; omega) m, ?_⟩
  simp only [PyData.shown, PyData.depth]
  cases its with
  | nil =>
    cases hr
    simp only [PyData.shownAll, listText_nil]
    exact ReprK.listEmpty ho hc hd
  | cons y l => exact ReprK.list ho hc hd np (by simpa using k1.length_eq) fun i y ey => k1.item i y (by simpa using ey)
theorem repC_tup (nd : s.heap.NoDigits) (I : Inv X pins σ H s) {a : Addr} {xs : List V} {ds : List Da} (h : SqT X.K H a xs) (k : ∀ {us : List Value}, Vals xs us → (∀ t ∈ PyData.shownAll ds, t.length ≤ sizeLine) → RcA X s us ds) (z : (PyData.tuple ds).shown.length ≤ sizeLine) :
    ∃ as cs, Reads s.heap (.ref a) (.tuple ds) as ∧ ReadAtMost s.heap (PyData.tuple ds).depth cs ∧ ReprK X.prog X.w cs s.heap (PyData.tuple ds).depth (.ref a) (PyData.tuple ds).shown := by
  simp only [PyData.shown] at z
  obtain ⟨its, rv, ⟨o, ho, hc, n, hd⟩, _⟩ := I.tuple h
  obtain ⟨as, cs, hr, m, k1⟩ := k rv fun t ht => Nat.le_trans (tupleText_mem_le ht) z
  have rd : Reads s.heap (.ref a) (.tuple ds) _ := .tuple ho hc hd hr
  have np : a ∉ cs := not_mem_of_deeper rd (by simp only [PyData.depth]; omega) m
  refine ⟨_, a :: cs, rd, ReadAtMost.cons rd (by simp only [PyData.depth]; omega) m, ?_⟩
  simp only [PyData.shown, PyData.depth]
  exact ReprK.tuple ho hc hd np k1
theorem repC_dct (nd : s.heap.NoDigits) (I : Inv X pins σ H s) {a : Addr} {kvs : List (Key × V)} {ds : List Da} {kds : List (Da × Da)} (h : H a = some (.dK kvs)) (hl : kvs.length = ds.length) (ek : kds = ((kvs.map (·.1)).zip ds).map (fun p => (kD p.1, p.2)))
    (e : shCk kds = true) (k : ∀ {us : List Value}, Vals (kvs.map (·.2)) us → (∀ t ∈ PyData.shownAll ds, t.length ≤ sizeLine) → RcA X s us ds) (z : (PyData.dict kds).shown.length ≤ sizeLine) :
    ∃ as cs, Reads s.heap (.ref a) (.dict kds) as ∧ ReadAtMost s.heap (PyData.dict kds).depth cs ∧ ReprK X.prog X.w cs s.heap (PyData.dict kds).depth (.ref a) (PyData.dict kds).shown := by
  have z' : (dictText (PyData.shownKv kds)).length ≤ sizeLine := by simpa only [PyData.shown] using z
  obtain ⟨m1, m2⟩ := zip_maps (ks := kvs.map (·.1)) (ds := ds) (by rw [List.length_map]; exact hl)
  rw [← ek] at m1 m2
  obtain ⟨s1, s2⟩ := shCk_split kds e
  obtain ⟨z1, lo1, vs1, rel1, dd1⟩ := dk_of I.hok h
  obtain ⟨o, es, ep, ho, hx, hd, _, hp, _⟩ := dd1
  obtain ⟨⟨as, q1⟩, q2⟩ := kv_reads (s := s) hp rel1
  rw [show (kvs.map fun p => kD p.1) = kds.map (·.1) by rw [m1, List.map_map]; rfl] at q1
  obtain ⟨b1, hb1, k1⟩ := bigs (prog := X.prog) (w := X.w) nd q1 s1 (fun t ht => let ⟨p, hp, hl⟩ := PyData.shownKv_key_le kds t ht; Nat.le_trans hl (Nat.le_trans (dictText_mem_le hp) z'))
  obtain ⟨bs, b2, q3, hb2, k2⟩ := k q2 (fun t ht => by
    rw [← m2] at ht
    obtain ⟨p, hp, hl⟩ := PyData.shownKv_val_le kds t ht
    exact Nat.le_trans hl (Nat.le_trans (dictText_mem_le hp) z'))
  rw [← m2] at q3 hb2 k2
  have rd : Reads s.heap (.ref a) (.dict kds) _ := .dict ho hx.1 hd q1 q3
  have hb : ReadAtMost s.heap (PyData.depthKv kds) (b1 ++ b2) := (hb1.mono (PyData.depthAll_keys_le kds)).append (hb2.mono (PyData.depthAll_vals_le kds))
  have hna : a ∉ b1 ++ b2 := not_mem_of_deeper rd (by simp only [PyData.depth]; omega) hb
  refine ⟨_, a :: (b1 ++ b2), rd, ReadAtMost.cons rd (by simp only [PyData.depth]; omega) hb, ?_⟩
  simp only [PyData.depth, PyData.shown, PyData.shownKv_eq]
  exact ReprK.dict ho hx.1 hd lo1 hna (ReprEntriesK.of_two es.toList _ _
    (k1.more_le (fun b hb => List.mem_append_left _ hb) (PyData.depthAll_keys_le kds)) (k2.more_le (fun b hb => List.mem_append_right _ hb) (PyData.depthAll_vals_le kds)))
theorem repC_dct0 (I : Inv X pins σ H s) {a : Addr} (h : H a = some (.dT [])) :
    ∃ as cs, Reads s.heap (.ref a) (.dict []) as ∧ ReadAtMost s.heap (PyData.dict []).depth cs ∧ ReprK X.prog X.w cs s.heap (PyData.dict []).depth (.ref a) (PyData.dict []).shown := by
  obtain ⟨z1, lo1, xs, kt, o, es, ep, ho, hx, hd, he, _⟩ := dt_of I.hok h
  have x0 : xs = [] := by cases kt; rfl
  subst x0
  have e0 : es.toList = [] := he
  have rd : Reads s.heap (.ref a) (.dict []) _ := .dict ho hx.1 hd (by rw [e0]; exact .nil) (by rw [e0]; exact .nil)
  refine ⟨_, [a], rd, ReadAtMost.cons rd (Nat.le_refl _) nofun, ?_⟩
  simp only [PyData.depth, PyData.depthKv, PyData.shown, PyData.shownKv]
  exact ReprK.dict ho hx.1 hd lo1 nofun (by rw [e0]; exact .nil)
mutual
theorem repC (nd : s.heap.NoDigits) (I : Inv X pins σ H s) : ∀ {v : V} {d : Da}, Rep X.K H M v d → ∀ {u : Value}, RelV v u → shC d = true → d.shown.length ≤ sizeLine →
    ∃ as cs, Reads s.heap u d as ∧ ReadAtMost s.heap d.depth cs ∧ ReprK X.prog X.w cs s.heap d.depth u d.shown
  | _, _, .non, u, r, _, _ => by
    cases r
    exact ⟨_, [], .none, nofun, by simp only [PyData.shown]; exact .of_is ReprIs.none [] _ _⟩
  | _, _, .bl b, u, r, _, _ => by
    cases r
    exact ⟨_, [], .bool b, nofun, by simp only [PyData.shown]; exact .of_is (ReprIs.bool b) [] _ _⟩
  | _, _, .int i, u, r, e, _ => by
    obtain ⟨t, rfl⟩ := r
    exact ⟨_, [], .int i t, nofun, by simp only [PyData.shown]; exact ReprK.intL t nd (lt_big (of_decide_eq_true (by simpa only [shC] using e))) [] _⟩
  | _, _, .str x, u, r, _, z => by
    obtain ⟨t, rfl⟩ := r
    exact ⟨_, [], .str x t, nofun, by simp only [PyData.shown] at z ⊢; exact .of_is (ReprIs.str x t z) [] _ _⟩
  | _, _, .tup (a := a) (ds := ds) h n rs, u, r, e, z => by
    cases r
    exact repC_tup nd I (.inl h) (fun rv z => repCs nd I rs rv (by simpa only [shC] using e) z) z
  | _, _, .tupK (a := a) (ds := ds) h rs, u, r, e, z => by
    cases r
    exact repC_tup nd I (.inr h) (fun rv z => repCs nd I rs rv (by simpa only [shC] using e) z) z
  | _, _, .lst (a := a) (ds := ds) h n rs, u, r, e, z => by
    cases r
    exact repC_lst nd I (.inl h) (fun rv z => repCs nd I rs rv (by simpa only [shC] using e) z) z
  | _, _, .lstK (a := a) (ds := ds) h rs, u, r, e, z => by
    cases r
    exact repC_lst nd I (.inr h) (fun rv z => repCs nd I rs rv (by simpa only [shC] using e) z) z
  | _, _, .dct0 h n, u, r, e, z => by
    cases r
    exact repC_dct0 I h
  | _, _, .dct (a := a) (kvs := kvs) (ds := ds) (kds := kds) h n ne rs ek, u, r, e, z => by
    cases r
    exact repC_dct nd I h (by have := rs.length; rw [List.length_map] at this; exact this) ek (by simpa only [shC] using e) (fun rv z => repCs nd I rs rv (by
      have e2 := (shCk_split kds (by simpa only [shC] using e)).2
      rw [ek, (zip_maps (by have := rs.length; rw [List.length_map] at this ⊢; exact this)).2] at e2
      exact e2) z) z
  | _, _, .fn x, u, r, e, _ => by
    simp [shC, shCk, keyB] at e
  | _, _, .plt _ _ _ _, u, r, e, _ => by
    simp [shC, shCk, keyB] at e
theorem repCs (nd : s.heap.NoDigits) (I : Inv X pins σ H s) : ∀ {vs : List V} {ds : List Da}, Reps X.K H M vs ds → ∀ {us : List Value}, Vals vs us → shCs ds = true → (∀ t ∈ PyData.shownAll ds, t.length ≤ sizeLine) →
    ∃ as cs, ReadsAll s.heap us ds as ∧ ReadAtMost s.heap (PyData.depthAll ds) cs ∧ ReprAllK X.prog X.w cs s.heap (PyData.depthAll ds) us (PyData.shownAll ds)
  | _, _, .nil, us, r, _, _ => by
    cases r
    exact ⟨_, [], .nil, nofun, by simp only [PyData.shownAll]; exact .nil⟩
  | _, _, .cons (d := d) (ds := ds) p t, us, r, e, z => by
    cases r with
    | cons r1 r2 =>
      simp only [shCs, Bool.and_eq_true] at e
      simp only [PyData.shownAll, List.mem_cons] at z
      obtain ⟨a1, c1, q1, m1, k1⟩ := repC nd I p r1 e.1 (z _ (.inl rfl))
      obtain ⟨a2, c2, q2, m2, k2⟩ := repCs nd I t r2 e.2 fun t ht => z t (.inr ht)
      simp only [PyData.depthAll, PyData.shownAll]
      refine ⟨_, c1 ++ c2, .cons q1 q2, (m1.mono (Nat.le_max_left ..)).append (m2.mono (Nat.le_max_right ..)), ?_⟩
      refine .cons ((k1.more ?_).level_le (Nat.le_max_left ..)) (k2.more_le ?_ (Nat.le_max_right ..))
      · exact fun b hb => List.mem_append.mpr (.inl hb)
      · exact fun b hb => List.mem_append.mpr (.inr hb)
end
end
variable {mg : Str → Option Value}
/-- repr of a tuple with dicts in it -/
def rReprC (K : PySem.W.Frag) (xs : List V) (H : Hp) (Q : VK) : Prop := ∃ (a : Addr) (vs : List V) (ds : List Da) (M : Addr → Prop), xs = [.ref a] ∧ SqT K H a vs ∧ Reps K H M vs ds ∧ shCs ds = true ∧ (PyData.tuple ds).depth ≤ 60 ∧ (PyData.tuple ds).shown.length ≤ sizeLine ∧ Q (.str (PyData.tuple ds).shown) H
def gReprC : GC := fun as h => match as with
  | [.d (.tuple ds)] => if shCs ds && (decide ((PyData.tuple ds).depth ≤ 60) && fitB (PyData.tuple ds).shown.length) then some (.d (.str (PyData.tuple ds).shown), h) else none
  | _ => none
/-- what can be told as a text, with sizes; dicts too -/
structure ShC (k e : Nat) (d : Da) : Prop where
  s : shC d = true
  p : d.depth ≤ e
  l : d.shown.length ≤ k
end Rk

/-! Rk108: sizes of data with dicts in it; a tuple that may be a plain one. -/
namespace Rk
open PySem PySem.Spec L2 PyProof.Rows
variable {mg : Str → Option Value}
mutual
theorem shB_C : ∀ d : Da, shB d = true → shC d = true
  | .none, _ => by simp only [shC]
  | .bool _, _ => by simp only [shC]
  | .int _, e => by simpa only [shC, shB] using e
  | .str _, _ => by simp only [shC]
  | .list ds, e => by
    simp only [shC]
    exact shBs_C ds (by simpa only [shB] using e)
  | .tuple ds, e => by
    simp only [shC]
    exact shBs_C ds (by simpa only [shB] using e)
  | .dict _, e => by simp only [shB] at e; cases e
theorem shBs_C : ∀ ds : List Da, shBs ds = true → shCs ds = true
  | [], _ => by simp only [shCs]
  | d :: ds, e => by
    simp only [shBs, Bool.and_eq_true] at e
    simp only [shCs, shB_C d e.1, shBs_C ds e.2, Bool.and_self]
end
theorem ShW.c {k e : Nat} {d : Da} (s : ShW k e d) : ShC k e d := ⟨shB_C d s.s, s.p, s.l⟩
structure ShCs (k e : Nat) (ds : List Da) : Prop where
  s : shCs ds = true
  d : PyData.depthAll ds ≤ e
  l : piled (PyData.shownAll ds) ≤ k
theorem ShC.mono {k e k' e' : Nat} {d : Da} (h : ShC k e d) (a : k ≤ k') (b : e ≤ e') : ShC k' e' d := ⟨h.s, Nat.le_trans h.p b, Nat.le_trans h.l a⟩
theorem ShC.str {x : Str} (hx : ∀ c ∈ x.cps.toList, c < 16 ^ 8) : ShC (10 * x.length + 2) 0 (.str x) := ⟨by simp only [shC], by simp [PyData.depth], by simp only [PyData.shown]; exact PySem.StrLaws.reprText_len x hx⟩
theorem ShC.int {i : Int} (h : i.natAbs.log2 < 12900) : ShC 4400 0 (.int i) := by
  refine ⟨by simp only [shC]; exact decide_eq_true h, by simp [PyData.depth], ?_⟩
  simp only [PyData.shown]
  have e := int_text_length_le10 (k := 4300) (by decide) (lt_big h)
  clear h
  rw [PySem.ofString_length]
  omega
theorem ShCs.nil : ShCs 0 0 [] := ⟨by simp only [shCs], by simp [PyData.depthAll], by simp [PyData.shownAll, piled]⟩
theorem ShCs.cons {k e k' e' : Nat} {d : Da} {ds : List Da} (h : ShC k e d) (t : ShCs k' e' ds) : ShCs (k + 2 + k') (max e e') (d :: ds) := by
  refine ⟨by simp only [shCs, h.s, t.s, Bool.and_self], ?_, ?_⟩
  · have := h.p
    have := t.d
    simp only [PyData.depthAll]
    omega
  · have := h.l
    have := t.l
    simp only [PyData.shownAll]
    rw [piled_cons]
    omega
theorem ShCs.of {k e n : Nat} {ds : List Da} (h : ∀ d ∈ ds, ShC k e d) (hl : ds.length ≤ n) : ShCs (n * (k + 2)) e ds := by
  induction ds generalizing n with
  | nil => exact ⟨ShCs.nil.s, Nat.le_trans ShCs.nil.d (Nat.zero_le _), Nat.le_trans ShCs.nil.l (Nat.zero_le _)⟩
  | cons d ds ih =>
    cases n with
    | zero => simp at hl
    | succ n =>
      have a := ih (n := n) (fun x hx => h x (List.mem_cons_of_mem _ hx)) (by simpa using hl)
      have b := ShCs.cons (h d (List.mem_cons_self ..)) a
      rw [Nat.max_self] at b
      refine ⟨b.s, b.d, Nat.le_trans b.l ?_⟩
      rw [Nat.succ_mul]
      omega
theorem ShC.tup {k e : Nat} {ds : List Da} (t : ShCs k e ds) : ShC (k + 3) (e + 1) (.tuple ds) := by
  refine ⟨by simp only [shC]; exact t.s, by simp only [PyData.depth]; have := t.d; omega, ?_⟩
  simp only [PyData.shown]
  have hl := t.l
  unfold tupleText
  have j : (Str.join ", " (PyData.shownAll ds)).length ≤ piled (PyData.shownAll ds) := by
    by_cases z : PyData.shownAll ds = []
    · rw [z]; decide
    · have := join_length_add _ z
      omega
  rw [Str.length_append, Str.length_append]
  have a : (Str.ofString "(").length = 1 := by decide
  have b : (Str.ofString (if (PyData.shownAll ds).length == 1 then ",)" else ")")).length ≤ 2 := by split <;> decide
  have a' : ("(" : Str).length = 1 := a
  omega
theorem ShC.lst {k e : Nat} {ds : List Da} (t : ShCs k e ds) : ShC (k + 3) (e + 1) (.list ds) := by
  refine ⟨by simp only [shC]; exact t.s, by simp only [PyData.depth]; have := t.d; omega, ?_⟩
  simp only [PyData.shown]
  have hl := t.l
  unfold listText
  have j : (textFrom 0 "[" (PyData.shownAll ds)).length ≤ 1 + piled (PyData.shownAll ds) := by
    cases e : PyData.shownAll ds with
    | nil => decide
    | cons x xs =>
      have h1 := textFrom_length_pos xs 1 (("[" : Str) ++ ("" : Str) ++ x) (by decide)
      have h2 : textFrom 0 "[" (x :: xs) = textFrom 1 (("[" : Str) ++ ("" : Str) ++ x) xs := rfl
      rw [h2, h1, piled_cons, Str.length_append, Str.length_append]
      have a1 : ("[" : Str).length = 1 := by decide
      have a2 : ("" : Str).length = 0 := by decide
      omega
  rw [Str.length_append]
  have b : ("]" : Str).length = 1 := by decide
  omega

theorem shCk_of : ∀ {kds : List (Da × Da)}, (∀ p ∈ kds, shB p.1 = true ∧ keyB p.1 = true ∧ shC p.2 = true) → shCk kds = true
  | [], _ => by simp only [shCk]
  | (k, v) :: r, h => by
    obtain ⟨a, b, c⟩ := h (k, v) (List.mem_cons_self ..)
    simp only [shCk]
    rw [a, b, c, shCk_of fun p hp => h p (List.mem_cons_of_mem _ hp)]
    rfl
theorem dict_sizes {k e : Nat} : ∀ {kds : List (Da × Da)}, (∀ p ∈ kds, ShC k e p.1 ∧ ShC k e p.2) → PyData.depthKv kds ≤ e ∧ ((PyData.shownKv kds).map (·.length)).sum + 2 * (PyData.shownKv kds).length ≤ kds.length * (2 * k + 4)
  | [], _ => ⟨by simp [PyData.depthKv], by simp [PyData.shownKv]⟩
  | (x, v) :: r, h => by
    obtain ⟨a, b⟩ := h (x, v) (List.mem_cons_self ..)
    obtain ⟨i1, i2⟩ := dict_sizes fun p hp => h p (List.mem_cons_of_mem _ hp)
    have a1 := a.p
    have a2 := a.l
    have b1 := b.p
    have b2 := b.l
    dsimp only at a1 a2 b1 b2
    refine ⟨by simp only [PyData.depthKv]; omega, ?_⟩
    simp only [PyData.shownKv, List.map_cons, List.sum_cons, List.length_cons]
    rw [Str.length_append, Str.length_append]
    have c : (Str.ofString ": ").length = 2 := by decide
    have c' : (": " : Str).length = 2 := c
    have e : (r.length + 1) * (2 * k + 4) = r.length * (2 * k + 4) + (2 * k + 4) := Nat.succ_mul _ _
    omega
theorem ShC.dict {k e n : Nat} {kds : List (Da × Da)} (h : ∀ p ∈ kds, ShC k e p.1 ∧ shB p.1 = true ∧ keyB p.1 = true ∧ ShC k e p.2) (hl : kds.length ≤ n) : ShC (n * (2 * k + 4) + 3) (e + 1) (.dict kds) := by
  obtain ⟨i1, i2⟩ := dict_sizes fun p hp => ⟨(h p hp).1, (h p hp).2.2.2⟩
  refine ⟨?_, by simp only [PyData.depth]; omega, ?_⟩
  · simp only [shC]
    exact shCk_of fun p hp => ⟨(h p hp).2.1, (h p hp).2.2.1, (h p hp).2.2.2.s⟩
  · simp only [PyData.shown]
    have := PySem.dictText_len_le (PyData.shownKv kds)
    have m : kds.length * (2 * k + 4) ≤ n * (2 * k + 4) := Nat.mul_le_mul_right _ hl
    omega
/-- a plain tuple as a tuple, anything else as it is -/
def unq : Vl → Vl
  | .d (.dict [(.none, .tuple ds)]) => .d (.tuple ds)
  | v => v
def eUnq (f : Ev) : Ev := fun ρ h => (f ρ h).bind fun v h1 => .ok (unq v) h1
end Rk

/-! Rk109: isinstance of a dict as data, whose first key is a text. -/
namespace Rk
open PySem PySem.Spec L2 PyProof.Rows
variable {mg : Str → Option Value}
def isTyQ (T : Ty) (v : Vl) (h : Hh) : Option Bool := match v with
  | .d (.dict ((.str _, _) :: _)) => some (match T with | .dict => true | _ => false)
  | v => isTy T v h
def eIsiQ (T : Ty) (a : Ev) : Ev := fun ρ h => (a ρ h).bind fun v h1 => match isTyQ T v h1 with
  | some b => .ok (.d (.bool b)) h1
  | none => .no
section
variable {X : Cx} {W : WX} {a : Expr} {fa : Ev} {pos p q : Pos}
end
end Rk

/-! Rk110: x.split(y), x.partition(y), int(text); z in a constant dict, its value. -/
namespace Rk
open PySem PySem.Spec L2 PyProof.Rows
variable {mg : Str → Option Value}
def gSplit (a : Str) (y : Vl) (h : Hh) : Option (Vl × Hh) := match y with
  | .d (.str b) => if (b.length == 0) = false ∧ a.length + 2 ≤ 16777216 then some (.r h.length, h ++ [some (.lst ((Txt.split a b).map PyData.str))]) else none
  | _ => none
def gPart (a : Str) (y : Vl) (h : Hh) : Option (Vl × Hh) := match y with
  | .d (.str b) => if (b.length == 0) = false ∧ a.length ≤ 16777216 then some (.d (.tuple [.str (Txt.partition a b).1, .str (Txt.partition a b).2.1, .str (Txt.partition a b).2.2]), h) else none
  | _ => none
section
variable {X : Cx} {W : WX} {o e : Expr} {fo fe : Ev} {apos pos : Pos}
end
def gIntT : GC := fun as h => match as with
  | [.d (.str x)] => match PySem.intText? x with
    | some n => if x.length ≤ 640 then some (.d (.int n), h) else none
    | none => none
  | _ => none
/-- z in a constant dict; its value -/
def gInC (kds : List (Str × Da)) (v : Vl) (h : Hh) : Option (Vl × Hh) := match v with
  | .d (.str z) => some (.d (.bool (seek kds z).isSome), h)
  | _ => none
def gIxC (kds : List (Str × Da)) (v : Vl) (h : Hh) : Option (Vl × Hh) := match v with
  | .d (.str z) => match seek kds z with
    | some d => some (.d d, h)
    | none => none
  | _ => none
def eG1 (g : Vl → Hh → Option (Vl × Hh)) (f : Ev) : Ev := fun ρ h => (f ρ h).bind fun v h1 => ofO (g v h1)
section
variable {X : Cx} {W : WX} {x : Str} {kds : List (Str × Da)} {e : Expr} {npos pos : Pos} {fe : Ev}
theorem ee_ixC (D : GDict X.K X.w X.mg x kds) (hg : Gl X x) (he : EE X W e fe) (hs : NoSl e := by exact fun _ _ => rfl) (hd : (x == ("__debug__" : Str)) = false := by decide) :
    EE X W (.Subscript (.Name x npos) e pos) (eG1 (gIxC kds) fe) := by
  obtain ⟨a, es, n, hm, kd, hv⟩ := D
  have km : ∀ {s : Shared} {σ : L2.St} {H : Hp} {pins : List (Addr × Obj)}, L2.Inv X pins σ H s → s.heap.MapOf (strKind X.prog X.w) a (fun k => findBy Value.isStrOf es k) := fun I => PySem.W.mapOf_K (prog := X.prog) (w := X.w) I.kIn kd.at_ kd.lit
  refine ⟨fun pins s σ H Q I w => ?_⟩
  obtain ⟨φ, h, ρ, sm, er, k⟩ := w
  refine subD_of PySem.F.slot_dict_getitem.lookup hs (thn ((pe_glob (pos := npos) hg hm (show RelV (.ref a) (.ref a) from rfl) hd).run pins s σ H (fun x H1 => x = .ref a ∧ H1 = H) I ⟨rfl, rfl⟩) fun u s1 ⟨y, H1, I1, rx, ey, eH⟩ => ?_)
  subst ey
  subst eH
  obtain rfl : u = Value.ref a := rx
  refine thn (he.run pins s1 σ H1 (fun y H2 => ∃ z d, y = .str z ∧ seek kds z = some d ∧ ∀ v, KRep X.K v d → Q v H2) I1 ⟨φ, h, ρ, sm, er, PoX.goE k fun y v h1 H2 φ1 st sm1 rv k1 => ?_⟩) fun iv s2 ⟨y, H2, I2, ry, z, d, ey, ed, q2⟩ => ?_
  · obtain ⟨z, h3, e3, k3⟩ := PoX.ofO k1
    unfold gIxC at e3
    split at e3
    · rename_i w
      split at e3
      · rename_i d hd2
        cases e3
        cases (show Rep X.K H2 (Live φ1 h1) y (.str w) from rv)
        exact ⟨w, d, rfl, hd2, fun v r => k3 _ _ _ (Step.refl _ _ _) sm1 (r _ _)⟩
      · cases e3
    · cases e3
  · subst ey
    obtain ⟨t, rfl⟩ := (show ∃ t, iv = Value.str z t from ry)
    have hz := hv z
    rw [ed] at hz
    obtain ⟨v2, w2, g1, g2, g3⟩ := hz
    refine ⟨(km I2).typeIs, wpAny_getItem_of (strKind_is X.prog X.w z t) (km I2) (PySem.W.find_K kd.at_ g1) ?_⟩
    exact ⟨v2, H2, I2.tok _, g2, q2 v2 g3⟩
end
theorem wp_g1 {Q : Vl → Hh → Prop} {E : XP} {ρ : En} {h : Hh} {f : Ev} {g : Vl → Hh → Option (Vl × Hh)} (w : Wp (f ρ h) (fun v h1 => Wo (g v h1) Q) E) : Wp (eG1 g f ρ h) Q E :=
  wp_bind (w.mono (fun _ _ q => wo_of q) fun _ _ _ z => z)
theorem wo_ixC {Q : Vl → Hh → Prop} {h : Hh} {kds : List (Str × Da)} {z : Str} {d : Da} (e : seek kds z = some d) (q : Q (.d d) h) : Wo (gIxC kds (.d (.str z)) h) Q :=
  wo_eq (v := .d d) (h' := h) (by unfold gIxC; dsimp only; rw [e]) q
end Rk

/-! Rk111: enumerate over a text. -/
namespace Rk
open PySem PySem.Spec PyProof.Rows L2
def IteS (x : Str) : It :=
  ⟨fun i _ => i < x.cps.size, fun i H v H' => ∃ T c, v = .ref T ∧ H T = none ∧ H' = upd H T (.tup [.int (i : Nat), .str ⟨#[c]⟩]) ∧ x.cps[i]? = some c, fun i _ => x.cps.size ≤ i⟩
def iEnumSK (ta : TA) : TI := fun σ H R => ta σ H fun vs H1 => ∃ x, vs = [.str x] ∧ R (IteS x) H1
def iEnumS (as : Av) : Iv := fun ρ h => (as ρ h).bind fun vs h1 => match vs with
  | [.d (.str x)] => .ok ⟨(sgn x).mapIdx fun i d => .tuple [.int (i : Nat), d], none⟩ h1
  | _ => .no
section
variable {X : Cx} {W : WX} {pos p : Pos} {fs : Av}
end
end Rk

/-! Rk112: raise C(e, f), C's own __init__ handing a text to its base's and keeping two fields. -/
namespace Rk
open PySem PySem.Spec PyProof.Rows L2
/-- what an __init__ that keeps two fields does -/
def spI2 (K : PySem.W.Frag) (C : Addr) (f g : Str) : Sp := fun vs H Q _ => ∃ (a : Addr) (y z : V), vs = [.ref a, y, z] ∧ H a = some (exo a C none) ∧ ∀ dx, H dx = none → dx ≠ a → Q .non (upd (upd (upd H dx (exd dx [(f, y)])) a (exo a C (some dx))) dx (exd dx [(g, z), (f, y)]))
section
variable {P : Program} {w : World} {K : PySem.W.Frag} {mg : Str → Option Value} {base : Heap} {qual r f g m : Str} {params : Arguments} {scope : Scope} {fI C R : Addr} {fd : FuncData} {mc : Value} {j : Nat} {p1 p2 p3 p4 p5 p6 p7 p8 p9 p10 q7 q8 q9 q10 : Pos}
end
/-- raise C(e, f) -/
def sRaise2 (c f g : Str) (fa : Av) : Sv := fun ρ h => Out.then ρ (fa ρ h) fun vs h1 => match fzs vs h1 with
  | some ([d1, d2], h2) => .ex c [(g, d2), (f, d1)] ρ h2
  | _ => .no
/-- a class whose __init__ keeps two fields -/
def IniC2 (P : Program) (w : World) (K : PySem.W.Frag) (mg : Str → Option Value) (base : Heap) (c f g : Str) : Prop :=
  ∃ (C fI : Addr) (fd : FuncData) (ps : List Str), mg c = some (.ref C) ∧ OexC K C ∧ PySem.W.findIn K (.ref C) "__init__" = some (some (.ref fI)) ∧ PySem.W.typeIn K (.ref fI) = some (.type "function") ∧ Binds K fd ps [] ∧ FnOk P w K mg base (L2.CX P w) 1 fI fd ps (spI2 K C f g)
section
variable {X : Cx} {W : WX} {c f g : Str} {e1 e2 : Expr} {fa : Av} {k : Nat} {p pos pos' : Pos}
end
/-! what the head tells of a class whose __init__ keeps two fields -/
structure IniT2 (K : PySem.W.Frag) (mg : Str → Option Value) (c f g r : Str) : Prop where
  ex : ∃ C R, mg c = some (.ref C) ∧ mg r = some (.ref R) ∧ OexC K C ∧ PySem.W.findIn K (.ref C) "__init__" = some (some (.ref (He.fAd K (c, some "__init__")))) ∧ PySem.W.typeIn K (.ref (He.fAd K (c, some "__init__"))) = some (.type "function") ∧ PySem.W.findIn K (.ref C) f = some none ∧ PySem.W.findIn K (.ref C) g = some none ∧
    ClX.CRead K R (.type "type") ∧ PySem.W.findCls K (.ref R) (.type "type") "__init__" = some (.val (.builtin "ValueError.__init__"))
def iniB2 (K : PySem.W.Frag) (c f g r : Str) : Bool := iniB K c f r && iniB K c g r
section
variable {ρ : En} {h : Hh} {N : En → Hh → Prop} {R : Vl → Hh → Prop} {B C : En → Hh → Prop} {X : Str → List (Str × Da) → En → Hh → Prop} {c f g : Str} {fa : Av}
end
end Rk

/-! Rk113: text.index(text). -/
namespace Rk
open PySem PySem.Spec PyProof.Rows L2
variable {mg : Str → Option Value}
def gSIdx : GM := fun o as h => match o, as with
  | .d (.str a), [.d (.str b)] => match Builtin.Str.occurrences a b 0 a.length 1 with
    | i :: _ => some (.d (.int (i : Nat)), h)
    | [] => none
  | _, _ => none
end Rk

/-! Rk114: dicts of the top that hold defs; tuple(list) as a plain tuple; plain tuples within data unwrapped; d.get(x, y) of a dict that may be changed. -/
namespace Rk
open PySem PySem.Spec PyProof.Rows L2
variable {mg : Str → Option Value}
/-! ### dicts of the top that hold defs -/
theorem cB2_ok {K : PySem.W.Frag} {d : Da} {u : Value} (c : cB2 K d u = true) : ∃ v, RelV v u ∧ KRep K v d := by
  unfold cB2 at c
  split at c
  · rename_i x a
    have e := of_decide_eq_true c
    subst e
    exact ⟨.ref _, rfl, fun _ _ => .fn x⟩
  · exact cB_ok c
theorem kvB2_find {K : PySem.W.Frag} (z : Str) : ∀ {kds : List (Str × Da)} {es : List DictEntry}, kvB2 K kds es = true → (es.any (·.refKey)) = false ∧ match seek kds z with
    | none => es.find? (·.key.isStr z) = none
    | some d => ∃ e v, es.find? (·.key.isStr z) = some e ∧ RelV v e.val ∧ KRep K v d
  | [], [], _ => ⟨rfl, rfl⟩
  | (k, d) :: r, e :: es, h => by
    unfold kvB2 at h
    rw [Bool.and_eq_true, Bool.and_eq_true] at h
    obtain ⟨h1, h2, h3⟩ := h
    obtain ⟨i1, i2⟩ := kvB2_find z h3
    cases ek : e.key with
    | str x t =>
      rw [ek] at h1
      have hx : x = k := of_decide_eq_true h1
      subst hx
      refine ⟨?_, ?_⟩
      · rw [List.any_cons, i1]
        simp [DictEntry.refKey, ek]
      · unfold seek
        by_cases hz : x = z
        · rw [if_pos hz]
          obtain ⟨v, r1, r2⟩ := cB2_ok h2
          refine ⟨e, v, ?_, r1, r2⟩
          rw [List.find?_cons_of_pos]
          rw [ek]
          simp [Value.isStr, hz]
        · rw [if_neg hz]
          have hf : ¬ (e.key.isStr z) = true := by
            rw [ek]
            simp [Value.isStr, hz]
          rw [List.find?_cons_of_neg (by simpa using hf)]
          exact i2
    | _ => rw [ek] at h1; cases h1
theorem gdict2_ok {K : PySem.W.Frag} {h : Heap} {w : World} {mg : Str → Option Value} (X : K.In h) (G : h.Ns mainGlobals mg) {x : Str} {kds : List (Str × Da)} (c : kdB2 K x kds = true) (t : dicN K x = some (He.keysIn w.params (kds.map (·.1)))) : GDict K w mg x kds := by
  unfold kdB2 at c
  unfold dicN at t
  split at c
  · rename_i a e
    rw [e] at t
    dsimp only at t
    obtain ⟨es, n, kd⟩ := He.dicW_ok t
    rw [kd.at_] at c
    dsimp only at c
    refine ⟨a, es, n, PySem.W.mg_of X G e, kd, fun z => ?_⟩
    obtain ⟨f1, f2⟩ := kvB2_find z c
    cases hs : seek kds z with
    | none =>
      rw [hs] at f2
      dsimp only at f2 ⊢
      unfold PySem.W.nsIn
      rw [kd.at_]
      dsimp only
      rw [f2]
      dsimp only
      rw [f1]
      rfl
    | some d =>
      rw [hs] at f2
      obtain ⟨e2, v, g1, g2, g3⟩ := f2
      refine ⟨v, e2.val, ?_, g2, g3⟩
      unfold PySem.W.nsIn
      rw [kd.at_]
      dsimp only
      rw [g1]
  · cases c
/-! ### tuple(list), known to be a plain one -/
def rTupP (K : PySem.W.Frag) : List V → Hp → VK → Prop := fun xs H Q => ∃ p ys, xs = [.ref p] ∧ SqL K H p ys ∧ ∀ l (o : Obj), H l = none → o.dict = none → Q (.ref l) (upd H l (.frz o (.tup ys)))
theorem call_tupP {X : Cx} : CallR X (.type "tuple") (rTupP X.K) := by
  intro pins s σ H xs us Q I r h
  obtain ⟨p, ys, rfl, hq, q⟩ := h
  obtain ⟨u, rfl, rx⟩ := vals1 r
  cases rx
  obtain ⟨its, r', pl, hz⟩ := I.list hq
  have hlen := r'.length
  refine call_tuple_list pl.isList (fun h' kp => ?_) (by simp only [List.size_toArray] <;> omega)
  have I1 : Inv X pins σ H { s with heap := h' } := I.kept (t' := s.toks) kp
  have I2 : Inv X pins σ (upd H h'.objs.size (.frz { cls := .type "tuple", data := .seq its.toArray } (.tup ys))) { s with heap := h'.push { cls := .type "tuple", data := .seq its.toArray } } :=
    I1.laid (t' := s.toks) (fun b o e => Heap.get?_push_of_some _ e) (Nat.le_refl _) (show ObjOk X.prog X.w _ _ _ (.frz _ (.tup ys)) from ⟨Heap.get?_push_size _ rfl, hz, its, r', IsTup.new _ _⟩)
  exact ⟨.ref h'.objs.size, _, I2, rfl, q _ _ (I1.hok.fresh (Nat.le_refl _)) rfl⟩
def gTupP : GC := fun as h => match as with
  | [x] => match asL x h with
    | some xs => some (.d (ptD xs), h)
    | none => none
  | _ => none
theorem ok_tupP {K : PySem.W.Frag} : OkC K mg (rTupP K) gTupP := by
  intro φ h H xs as Q v h' sm rs e k
  unfold gTupP at e
  split at e
  · rename_i w
    split at e
    · rename_i ys ey
      cases e
      obtain ⟨x, rfl, r⟩ := rs.one
      obtain ⟨p, zs, rfl, sq, rr⟩ := asL_ok sm r ey
      refine ⟨p, zs, rfl, sq, fun l o hl ho => ?_⟩
      obtain ⟨s1, s2, s3⟩ := new_plt (mg := mg) sm rr hl ho
      exact k _ _ _ s1 s2 s3
    · cases e
  · cases e
section
variable {h : Hh} {Q : Vl → Hh → Prop} {E : XP} {ρ : En}
theorem wo_tupPL {ds : List Da} (q : Q (.d (ptD ds)) h) : Wo (gTupP [.d (.list ds)] h) Q := q
end
/-! ### plain tuples within data as tuples -/
mutual
def upD : Da → Da
  | .tuple ds => .tuple (upDs ds)
  | .list ds => .list (upDs ds)
  | .dict [(.none, .tuple ds)] => .tuple (upDs ds)
  | d => d
def upDs : List Da → List Da
  | [] => []
  | d :: ds => upD d :: upDs ds
end
theorem upD_dict {kds : List (Da × Da)} (n : ∀ ds, kds ≠ [(.none, .tuple ds)]) : upD (.dict kds) = .dict kds := by
  unfold upD
  split
  all_goals first
    | rfl
    | (rename_i e; cases e)
    | skip
  all_goals exact absurd rfl (n _)
mutual
theorem Rep.up {K : PySem.W.Frag} {H : Hp} {M : Addr → Prop} : ∀ {v : V} {d : Da}, Rep K H M v d → Rep K H M v (upD d)
  | _, _, .non => by unfold upD; exact .non
  | _, _, .bl b => by unfold upD; exact .bl b
  | _, _, .int i => by unfold upD; exact .int i
  | _, _, .str x => by unfold upD; exact .str x
  | _, _, .tup h n r => by unfold upD; exact .tup h n (Reps.up r)
  | _, _, .tupK h r => by unfold upD; exact .tupK h (Reps.up r)
  | _, _, .lst h n r => by unfold upD; exact .lst h n (Reps.up r)
  | _, _, .lstK h r => by unfold upD; exact .lstK h (Reps.up r)
  | _, _, .dct0 h n => by rw [upD_dict (fun _ z => by cases z)]; exact .dct0 h n
  | _, _, .dct (kvs := kvs) (ds := ds) h n ne r e => by
    rw [upD_dict]
    · exact .dct h n ne r e
    · intro zs z
      rw [z] at e
      cases kvs with
      | nil => exact ne rfl
      | cons p t =>
        cases ds with
        | nil => simp at e
        | cons d ds =>
          rw [List.map_cons, List.zip_cons_cons, List.map_cons] at e
          have e1 := congrArg Prod.fst (List.cons.inj e).1
          obtain ⟨k, u⟩ := p
          cases k with
          | inl i => cases e1
          | inr y => cases e1
  | _, _, .fn x => by rw [upD_dict (fun _ z => by cases z)]; exact .fn x
  | _, _, .plt (o := o) h e n r => by unfold upD; exact .tup (.inr ⟨o, h⟩) n (Reps.up r)
theorem Reps.up {K : PySem.W.Frag} {H : Hp} {M : Addr → Prop} : ∀ {v : List V} {d : List Da}, Reps K H M v d → Reps K H M v (upDs d)
  | _, _, .nil => by unfold upDs; exact .nil
  | _, _, .cons r t => by unfold upDs; exact .cons (Rep.up r) (Reps.up t)
end
def upV : Vl → Vl
  | .d d => .d (upD d)
  | v => v
def eUpA (f : Ev) : Ev := fun ρ h => (f ρ h).bind fun v h1 => .ok (upV v) h1
theorem ee_upA {X : Cx} {W : WX} {e : Expr} {f : Ev} (p : EE X W e f) : EE X W e (eUpA f) :=
  PE.of p fun σ H Q ⟨φ, h, ρ, sm, er, q⟩ => ⟨φ, h, ρ, sm, er, PoX.goE q fun x v h1 H1 φ1 st sm1 rv q1 => by
    cases v with
    | d d => exact PoX.now (v := .d (upD d)) q1 sm1 (Rep.up rv)
    | _ => exact PoX.now q1 sm1 rv⟩
theorem wp_upA {Q : Vl → Hh → Prop} {E : XP} {ρ : En} {h : Hh} {f : Ev} (w : Wp (f ρ h) (fun v h1 => Q (upV v) h1) E) : Wp (eUpA f ρ h) Q E :=
  wp_bind (w.mono (fun _ _ q => ⟨q⟩) fun _ _ _ z => z)
/-! ### d.get(x, y) -/
def rGet2 : V → List V → Hp → VK → Prop := fun x vs H Q => ∃ (a : Addr) (kvs : List (Key × V)) (k : Key) (y : V), x = .ref a ∧ H a = some (.dK kvs) ∧ vs = [kV k, y] ∧ Q ((valV kvs k).getD y) H
theorem mt_get2 {X : Cx} : MtR X "dict.get" rGet2 := by
  intro pins s σ H x vs v us Q I rx rv h
  obtain ⟨a, kvs, k, y, rfl, ea, rfl, q⟩ := h
  obtain rfl : v = Value.ref a := rx
  cases rv with
  | cons r1 rv => cases rv with
    | cons r2 rv =>
      cases rv
      obtain ⟨z, hd, vs, rel, dd⟩ := dk_rd I.hok (.inl ea)
      refine call_meetsIn PySem.F.slot_dict_get dd.typeIs PySem.F.entry_dict_get (PySem.F.args_dict_get_3 _ _ _) (meets_dict_get_default (mixKind X.prog X.w) a (kV_is r1) hd _) ⟨_, dd.mapOf, ?_⟩
      exact ⟨_, _, I.tok _, (rel.val k).getD r2, q⟩
def gGet2 : GM := fun o as h => match o, as with
  | .r n, [.d (.str x), y] => match h[n]? with
    | some (some (.dct kds)) => some (match valD kds (.inr x) with | some d => .d d | none => y, h)
    | _ => none
  | _, _ => none
theorem ok_get2 {K : PySem.W.Frag} : OkM K mg rGet2 gGet2 := by
  intro φ h H x xs o as Q v h' sm rx rs e k
  unfold gGet2 at e
  split at e
  · rename_i n z w
    split at e
    · rename_i kds en
      cases rs with
      | cons r1 rs => cases rs with
        | cons r2 rs =>
          cases rs
          obtain ⟨a, ea, rfl⟩ := rx
          obtain ⟨kvs, eh, rk⟩ := sm.atD en ea
          cases r1
          refine ⟨a, kvs, .inr z, _, rfl, eh, rfl, ?_⟩
          cases e
          rcases rk.get (k := .inr z) with ⟨f1, f2⟩ | ⟨v, d, f1, f2, r⟩
          · rw [f2] at k
            rw [f1]
            exact k _ _ _ (Step.refl _ _ _) sm r2
          · rw [f2] at k
            rw [f1]
            exact k _ _ _ (Step.refl _ _ _) sm r
    · cases e
  · cases e
section
variable {h : Hh} {Q : Vl → Hh → Prop} {kds : List (Key × Da)} {n : Nat} {x : Str} {y : Vl}
theorem wo_get2 (e : h[n]? = some (some (.dct kds))) (q : Q (match valD kds (.inr x) with | some d => .d d | none => y) h) : Wo (gGet2 (.r n) [.d (.str x), y] h) Q := by
  refine wo_eq ?_ q
  unfold gGet2
  simp only [e]
end
end Rk

/-! Rk115: range with a step; list(text). -/
namespace Rk
open PySem PySem.Spec PyProof.Rows L2
variable {mg : Str → Option Value}
def rngC (lo c : Int) (n : Nat) : List Da := (List.range n).map fun k => .int (lo + (k : Nat) * c)
theorem range_itC {K : PySem.W.Frag} {lo c : Int} {n : Nat} : ItOk K (Itc lo c n) ⟨rngC lo c n, none⟩ (fun _ _ _ => True) where
  go := fun φ h H i sm g gd hi => by
    show i < n
    simpa [rngC] using hi
  yld := fun φ h H i x H' d sm g gd ed ⟨e, q⟩ => by
    subst e q
    unfold rngC at ed
    rw [List.getElem?_map] at ed
    cases e3 : (List.range n)[i]? with
    | none => rw [e3] at ed; cases ed
    | some k =>
      rw [e3] at ed
      have e4 := (List.getElem?_eq_some_iff.mp e3)
      obtain ⟨h1, h2⟩ := e4
      rw [List.getElem_range] at h2
      subst h2
      cases ed
      exact ⟨Step.refl _ _ _, sm, .int _⟩
  stop := fun φ h H i sm g gd hi => by
    show n ≤ i
    simpa [rngC] using hi
  keep := fun _ _ _ _ _ _ _ _ => trivial
def rgC (i j c : Int) : Bool := decide (c ≠ 0) && (decide (c.natAbs < 1073741824) && Builtin.Range.small i j c)
theorem rgC_ok {i j c : Int} (h : rgC i j c = true) : RgC i j c (Builtin.Range.rangeSize i j c).toNat := by
  unfold rgC at h
  rw [Bool.and_eq_true, Bool.and_eq_true] at h
  exact ⟨of_decide_eq_true h.1, of_decide_eq_true h.2.1, h.2.2, rangeSize_toNat i j c⟩
def iRange3 (as : Av) : Iv := fun ρ h => (as ρ h).bind fun vs h1 => match vs with
  | [.d (.int i), .d (.int j), .d (.int c)] => if rgC i j c = true then .ok ⟨rngC i c (Builtin.Range.rangeSize i j c).toNat, none⟩ h1 else .no
  | _ => .no
section
variable {X : Cx} {W : WX} {tg e : Expr} {fe : Ev} {pos p : Pos} {fs : Av}
theorem ei_range3 {a b c : Expr} (hg : Gl X "range") (hm : X.mg "range" = none) (ha : EA X W [a, b, c] fs) (hs : starEach [a, b, c] X.env = (false, eval a X.env) :: starEach [b, c] X.env := by rfl) (hpl : (backTo pos (starEach [b, c] X.env)).any (·.1) = false := by rfl) : EI X W tg (.Call (.Name "range" p) [a, b, c] [] pos) (iRange3 fs) :=
  PI.of (pi_range3 hg hm ha hs hpl) fun σ H R ⟨φ, h, ρ, sm, er, q⟩ => ⟨φ, h, ρ, sm, er, PoI.goA q fun xs vs h1 H1 φ1 st sm1 rv q1 => by
    split at q1
    · rename_i i j c
      cases rv with
      | cons r1 rv => cases rv with
        | cons r2 rv => cases rv with
          | cons r3 rv =>
            cases rv
            split at q1
            · rename_i hj
              rw [VRep.int r1, VRep.int r2, VRep.int r3]
              exact ⟨i, j, c, _, rfl, rgC_ok hj, q1 _ H1 φ1 _ (Step.refl _ _ _) sm1 range_itC trivial⟩
            · exact q1.elim
    · exact q1.elim⟩
end
section
variable {as : Av} {ρ : En} {h : Hh} {QI : Itm → Hh → Prop} {E : XP}
theorem wp_rng3 (w : Wp (as ρ h) (fun vs h1 => ∃ i j c : Int, vs = [.d (.int i), .d (.int j), .d (.int c)] ∧ rgC i j c = true ∧ QI ⟨rngC i c (Builtin.Range.rangeSize i j c).toNat, none⟩ h1) E) : Wp (iRange3 as ρ h) QI E :=
  wp_bind (w.mono (fun vs h1 ⟨i, j, c, e, g, q⟩ => by
    subst e
    dsimp only
    rw [if_pos g]
    exact ⟨q⟩) fun _ _ _ z => z)
end
/-! ### list(text) -/
def sgs (x : Str) : List V := x.cps.toList.map fun c => V.str ⟨#[c]⟩
def sgD (x : Str) : List Da := x.cps.toList.map fun c => .str ⟨#[c]⟩
theorem vals_sg : ∀ {l : List Nat} {us : List Value}, us.length = l.length → (∀ (j : Nat) (v : Value), us[j]? = some v → ∃ (c : Nat) (u : Tok), l[j]? = some c ∧ v = .str ⟨#[c]⟩ u) → Vals (l.map fun c => V.str ⟨#[c]⟩) us
  | [], [], _, _ => .nil
  | [], _ :: _, e, _ => by cases e
  | _ :: _, [], e, _ => by cases e
  | c :: l, u :: us, e, h => by
    obtain ⟨c', t, e1, e2⟩ := h 0 u rfl
    cases e1
    subst e2
    exact .cons ⟨t, rfl⟩ (vals_sg (Nat.succ.inj e) fun j v ej => h (j + 1) v ej)
def rListS : List V → Hp → VK → Prop := fun xs H Q => ∃ x : Str, xs = [.str x] ∧ x.cps.size ≤ sizeLine ∧ ∀ l, H l = none → Q (.ref l) (upd H l (.lst (sgs x)))
theorem call_listS {X : Cx} (hc : X.calm = true) : CallR X (.type "list") rListS := by
  intro pins s σ H xs us Q I r ⟨x, e, hl, q⟩
  subst e
  obtain ⟨u, rfl, t, rfl⟩ := vals1 r
  refine PySem.call_list_str (hn := hl) (I.ok.hd hc) x t fun h' tk acc' c' hk hS hacc => ?_
  have hv : Vals (sgs x) acc'.toList := vals_sg (by simpa using hacc.1) fun j v ej => by
    obtain ⟨c, u, e1, e2⟩ := hacc.2 j v (by simpa using ej)
    exact ⟨c, u, by simpa using e1, e2⟩
  have I2 : Inv X pins σ (upd H s.heap.objs.size (.lst (sgs x))) { s with heap := h', toks := tk } :=
    I.laid (t' := tk) hk (Nat.le_refl _) (show ObjOk X.prog X.w _ _ _ (.lst (sgs x)) from ⟨by rw [hv.length]; simpa [hacc.1] using hl, acc'.toList, c', hv, by simpa using hS⟩)
  exact ⟨.ref s.heap.objs.size, _, I2, rfl, q _ (I.hok.fresh (Nat.le_refl _))⟩
def gListS : GC := fun as h => match as with
  | [.d (.str x)] => if fitB x.cps.size = true then some (.r h.length, h ++ [some (.lst (sgD x))]) else none
  | _ => none
theorem reps_sg {K : PySem.W.Frag} {H : Hp} {M : Addr → Prop} : ∀ l : List Nat, Reps K H M (l.map fun c => V.str ⟨#[c]⟩) (l.map fun c => .str ⟨#[c]⟩)
  | [] => .nil
  | c :: l => .cons (.str _) (reps_sg l)
theorem ok_listS {K : PySem.W.Frag} : OkC K mg rListS gListS := by
  intro φ h H xs as Q v h' sm rs e k
  unfold gListS at e
  split at e
  · rename_i x
    split at e
    · rename_i hf
      cases e
      obtain ⟨y, rfl, r⟩ := rs.one
      cases (show Rep K H (Live φ h) y (.str x) from r)
      refine ⟨x, rfl, fitB_le hf, fun l hl => ?_⟩
      obtain ⟨s1, s2, s3⟩ := new_list (mg := mg) sm (reps_sg x.cps.toList) hl
      exact k _ _ _ s1 s2 s3
    · cases e
  · cases e
theorem wo_listS {h : Hh} {Q : Vl → Hh → Prop} {x : Str} (l : x.cps.size ≤ 16777216) (q : Q (.r h.length) (h ++ [some (.lst (sgD x))])) : Wo (gListS [.d (.str x)] h) Q := by
  refine wo_eq (v := .r h.length) ?_ q
  unfold gListS
  dsimp only
  rw [if_pos (fitB_ok l)]
end Rk

/-! Rk116: list(zip(list, list)). -/
namespace Rk
open PySem PySem.Spec PyProof.Rows L2
section
variable {prog : Program} {w : World} {A : Around} {E : Value → Shared → Prop} {s : Shared} {z q o i j a b : Addr} {xs ys : Array Value} {B n : Nat}
theorem zl_end {Q : Option Value → Shared → Prop} (hh : A.handled = none) (D : ZipApart z q o i j a b) (st : zcS z q o i j a b xs ys B n s.heap) (ex : xs[n]? = none ∨ ys[n]? = none)
    (hQ : ∀ h', (∀ c ob, c ∉ [z, o, i, j] → s.heap.get? c = some ob → h'.get? c = some ob) → Q none { s with heap := h' }) : wpAny (model prog w) A (pyNext (.ref z)) Q E s := by
  obtain ⟨p1, p2, p3, p4, p5, p6⟩ := st
  rcases p6 with ⟨p6, u, v, p7⟩ | ⟨T, g, ob, p6, p7, p8⟩
  · exact wpAny_pyNext_zip_end hh D p6 p1 p7 p2 p3 p4 p5 ex fun h' k => hQ h' fun c ob nc e => k c ob (fun g => nc (by simp [g])) (fun g => nc (by simp [g])) (fun g => nc (by simp [g])) (fun g => nc (by simp [g])) e
  · exact wpAny_pyNext_zip_end_held hh D p6 p7 p1 p2 p3 p4 p5 ex fun h' k => hQ h' fun c ob nc e => k c ob (fun g => nc (by simp [g])) (fun g => nc (by simp [g])) (fun g => nc (by simp [g])) e
end
section
variable {X : Cx} {pins : List (Addr × Obj)} {σ : L2.St} {A : Around} {z q o i j a b S : Addr} {xs ys : Array Value} {us ws : List V} {H0 : Hp} {R : Result → Shared → Prop} {res : Value}
theorem zl_loop (hh : A.in1.handled = none) (D : ZipApart z q o i j a b) (hS : ∀ c ∈ [z, q, o, i, j], c < S) (hS2 : ∀ c ∈ [a, b], c ≠ S) {N : Nat} (hN : N = min xs.size ys.size) (hn : N ≤ sizeLine) (ra : Vals us xs.toList) (rb : Vals ws ys.toList) :
    ∀ (k n : Nat) (s : Shared) (acc : Array Value) (c : Nat) (H : Hp) (ts : List V), N - n = k → n ≤ N → Inv X pins σ H s → zcS z q o i j a b xs ys (S + 1) n s.heap → s.heap.get? S = some (mkL acc c) → (∀ c ∈ [S, z, o, i, j], FpOk X pins H c) →
      Prs us ws H0 ts H → ts.length = n → Vals ts acc.toList →
      (∀ s' acc' c' H' ts', Inv X pins σ H' s' → s'.heap.get? S = some (mkL acc' c') → Prs us ws H0 ts' H' → ts'.length = N → Vals ts' acc'.toList → FpOk X pins H' S → R (.ok (.ret res)) s') →
      codeAny (model X.prog X.w) A (.builtin "list.extend.loop" ⟨[.ref S, .ref z, res], []⟩) R s := by
  have hS7 : ∀ c ∈ [z, q, o, i, j, a, b], c ≠ S := fun c hc => by
    simp only [List.mem_cons, List.not_mem_nil, or_false] at hc
    rcases hc with h | h | h | h | h | h | h
    · exact Nat.ne_of_lt (hS c (by simp [h]))
    · exact Nat.ne_of_lt (hS c (by simp [h]))
    · exact Nat.ne_of_lt (hS c (by simp [h]))
    · exact Nat.ne_of_lt (hS c (by simp [h]))
    · exact Nat.ne_of_lt (hS c (by simp [h]))
    · exact hS2 c (by simp [h])
    · exact hS2 c (by simp [h])
  have nS : S ∉ [z, o, i, j] := fun m => by
    simp only [List.mem_cons, List.not_mem_nil, or_false] at m
    rcases m with h | h | h | h <;> exact Nat.lt_irrefl _ (hS S (by simp [h]))
  intro k
  induction k with
  | zero =>
    intro n s acc c H ts ek hi I st gS fp pr el ev hR
    have en : n = N := by omega
    subst en
    refine codeAny_builtin F.entry_extend_loop ?_
    rw [Around.under_plainId F.plain_extend_loop _]
    show wpAny _ A.in1 (pyNext (.ref z) >>= _) _ _ s
    refine wpAny_bind (zl_end hh D st (by
      rw [Array.getElem?_eq_none_iff, Array.getElem?_eq_none_iff]
      omega) fun h' k => ?_)
    exact wpAny_pure (hR _ acc c H ts (I.turnedL (t' := s.toks) (ch := [z, o, i, j]) k fun c hc => fp c (List.mem_cons_of_mem _ hc)) (k _ _ nS gS) pr el ev (fp S (by simp)))
  | succ k ih =>
    intro n s acc c H ts ek hi I st gS fp pr el ev hR
    have lt : n < xs.size := by omega
    have szS : S < s.heap.objs.size := Heap.lt_size gS
    refine codeAny_builtin F.entry_extend_loop ?_
    rw [Around.under_plainId F.plain_extend_loop _]
    show wpAny _ A.in1 (pyNext (.ref z) >>= _) _ _ s
    have ex := Array.getElem?_eq_getElem lt
    have ey := Array.getElem?_eq_getElem (show n < ys.size by omega)
    obtain ⟨u, eu, ru⟩ := vals_get ra (n := n) (by rw [Array.getElem?_toList]; exact ex)
    obtain ⟨v, ew, rv⟩ := vals_get rb (n := n) (by rw [Array.getElem?_toList]; exact ey)
    refine wpAny_bind (zc_item D (fun c hc => Nat.lt_succ_of_lt (hS c hc)) szS st ex ey fun h' st' pT sz k => ?_)
    have gS' := k _ _ nS gS
    have accn : acc.size = n := by
      have := ev.length
      rw [el] at this
      simpa using this.symm
    show wpAny _ A.in1 (updateSeq S (·.push (.ref s.heap.objs.size)) >>= _) _ _ _
    refine wpAny_bind ?_
    have other : ∀ c ob, c ≠ S → h'.get? c = some ob → (h'.update S (Obj.mapSeq (·.push (.ref s.heap.objs.size)))).get? c = some ob := fun c ob nc e => (Heap.get?_update_other _ _ (Ne.symm nc)).trans e
    have I1 : Inv X pins σ (upd H s.heap.objs.size (.tup [u, v])) { s with heap := h'.update S (Obj.mapSeq (·.push (.ref s.heap.objs.size))) } :=
      I.turnedNew (t' := s.toks) (ch := [S, z, o, i, j]) (fun c ob nc e => other c ob (fun g => nc (by simp [g])) (k c ob (fun g => nc (List.mem_cons_of_mem _ g)) e)) fp (Nat.le_refl _)
        ⟨by show 2 ≤ sizeLine; decide, [_, _], .cons ru (.cons rv .nil), ⟨_, other _ _ (Nat.ne_of_gt szS) pT, rfl, _, rfl⟩⟩
    have lts : ∀ c ∈ [S, z, o, i, j], c ≠ s.heap.objs.size := fun c hc => by
      rcases List.mem_cons.mp hc with rfl | hc
      · exact Nat.ne_of_lt szS
      · have := hS c (by simp only [List.mem_cons, List.not_mem_nil, or_false] at hc ⊢; rcases hc with h | h | h | h <;> simp [h])
        exact Nat.ne_of_lt (Nat.lt_trans this szS)
    refine wpAny_updateSeq gS' rfl (wpAny_pure ⟨plainId_quiet F.plain_extend_loop _, ih (n + 1) _ (acc.push (.ref s.heap.objs.size)) _ _ (ts ++ [.ref s.heap.objs.size]) (by omega) (by omega) I1 (st'.move hS7 other) (Heap.get?_update_self _ gS' rfl) (fun c hc => FpOk.upd (fp c hc) (lts c hc))
      (.snoc pr (by rw [el]; exact eu) (by rw [el]; exact ew) (I.hok.fresh (Nat.le_refl _))) (by rw [List.length_append, el]; rfl) (by rw [Array.toList_push]; exact vals_snoc ev rfl) hR⟩) (by omega) (by show (acc.push _).size ≤ sizeLine + 1; rw [Array.size_push]; omega)
/-- the zip as it was made, the state around it -/
structure ZlAt (X : Cx) (pins : List (Addr × Obj)) (σ : L2.St) (z q o i j a b : Addr) (xs ys : Array Value) (us ws : List V) (H : Hp) (s : Shared) : Prop where
  D : ZipApart z q o i j a b
  inv : Inv X pins σ H s
  z0 : IsZip s.heap z q o .none
  q0 : IsPair s.heap q (.ref i) (.ref j)
  o0 : ∃ u w, IsPair s.heap o u w
  i0 : s.heap.IsListIter i a 0
  j0 : s.heap.IsListIter j b 0
  a0 : s.heap.IsList a xs
  b0 : s.heap.IsList b ys
  fp : ∀ c ∈ [z, o, i, j], FpOk X pins H c
  hn : min xs.size ys.size ≤ sizeLine
  ra : Vals us xs.toList
  rb : Vals ws ys.toList
theorem inv_adopt {s : Shared} {H : Hp} {c : Addr} {ob : HO} (I : Inv X pins σ H s) (f : FpOk X pins H c) (new : ObjOk X.prog X.w (upd H c ob) s.heap c ob) : Inv X pins σ (upd H c ob) s := by
  have hn := f.1
  refine I.step (h' := s.heap) (g' := s.gens) (t' := s.toks) (d' := s.drawn) (ch := [c]) (fun b hb => ?_) (fun b o _ _ hc e _ => e) (fun b o _ _ hc e _ => ⟨o.slots, e⟩) (fun b o hb e n => ?_) (fun b o hc e => ⟨o, e⟩) (fun b xs e => ?_) (fun b o u e => ?_) (fun b ps e => ⟨#[], ?_⟩) (fun m hm => hm) (fun b u e => ?_) I.bare
  · rw [List.mem_singleton] at hb
    subst hb
    exact ⟨f.2.2.2.1, f.2.1, f.2.2.2.2.1, f.2.2.2.2.2⟩
  · rw [upd_ne (fun z => hb (by rw [z]; exact List.mem_singleton.mpr rfl))]; exact n
  · rw [upd_ne (ne_of_none e hn)]; exact e
  · rw [upd_ne (ne_of_none e hn)]; exact e
  · rw [upd_ne (ne_of_none e hn), e]; simp
  · by_cases hb : b = c
    · subst hb
      rw [upd_same] at e
      cases e
      exact new
    · rw [upd_ne hb] at e
      exact (I.hok b u e).stay (fun c v _ q => q) (fun c q => by rw [upd_ne (ne_of_none q hn)]; exact q) fun c xs q => by rw [upd_ne (ne_of_none q hn)]; exact q
theorem zl_extend {s : Shared} {H : Hp} {c0 : Nat} (hh : A.in1.handled = none) (Z : ZlAt X pins σ z q o i j a b xs ys us ws H s) (hS : ∀ c ∈ [z, q, o, i, j], c < S) (hS2 : ∀ c ∈ [a, b], c ≠ S) (gS : s.heap.get? S = some (mkL #[] c0)) (fS : FpOk X pins H S)
    (hR : ∀ s' acc' c' H' ts', Inv X pins σ H' s' → s'.heap.get? S = some (mkL acc' c') → Prs us ws H ts' H' → ts'.length = min xs.size ys.size → Vals ts' acc'.toList → FpOk X pins H' S → R (.ok (.ret .none)) s') :
    wpAny (model X.prog X.w) A.in1 (Builtin.List.listExtendWith (.ref S) (.ref z) .none)
      (fun fin s' => match fin with | .done f => R (.ok f) s' | .again c' => c'.quiet = true ∧ codeAny (model X.prog X.w) A c' R s') (fun e s' => R (.error e) s') s := by
  have zS : S ≠ z := Nat.ne_of_gt (hS z (by simp))
  have tz : s.TypeIs (.ref z) "zip" := ⟨_, Z.z0, rfl⟩
  unfold Builtin.List.listExtendWith
  refine wpAny_bind (wpAny_typeOf tz ?_)
  have r1 : Builtin.List.listSameRef (.ref S) (.ref z) = false := by simp [Builtin.List.listSameRef, zS]
  have r2 : (Value.type "zip" == Value.type "list") = false := by decide
  have r3 : (Value.type "zip" == Value.type "tuple") = false := by decide
  simp only [r1, r2, r3, Bool.or_false, Bool.false_eq_true, if_false]
  refine wpAny_bind (wpAny_pyIter_zip Z.z0 ?_)
  refine wpAny_bind (wpAny_holding ?_)
  unfold Builtin.List.listLengthHint
  refine wpAny_bind (wpAny_specialOf tz zip_nolen ?_)
  show wpAny _ A.in1 (specialOf (Value.ref z) (Str.ofString "__length_hint__") >>= _) _ _ _
  refine wpAny_bind (wpAny_specialOf tz zip_nohint ?_)
  refine wpAny_pure ?_
  show wpAny _ A.in1 (rule "list.extend.makes-room" >>= fun _ => Builtin.List.listTouch (.ref S) >>= fun _ => again (.builtin "list.extend.loop" ⟨[.ref S, .ref z, .none], []⟩)) _ _ _
  refine wpAny_bind (wpAny_rule (wpAny_bind ?_))
  show wpAny _ A.in1 (updateSeq S (·.push .none) >>= fun _ => updateSeq S (·.pop)) _ _ _
  refine wpAny_bind (wpAny_updateSeq gS rfl ?_)
  have gS2 := Heap.get?_update_self (Obj.mapSeq (·.push Value.none)) gS rfl
  refine wpAny_updateSeq gS2 rfl ?_
  have gS3 := Heap.get?_update_self (Obj.mapSeq (·.pop)) gS2 rfl
  generalize hh2 : (s.heap.update S (Obj.mapSeq (·.push Value.none))).update S (Obj.mapSeq (·.pop)) = h2 at gS3
  have oth : ∀ c ob, c ≠ S → s.heap.get? c = some ob → h2.get? c = some ob := fun c ob nc e => by
    rw [← hh2]
    exact (Heap.get?_update_other _ _ (Ne.symm nc)).trans ((Heap.get?_update_other _ _ (Ne.symm nc)).trans e)
  have hS7 : ∀ c ∈ [z, q, o, i, j], c ≠ S := fun c hc => Nat.ne_of_lt (hS c hc)
  have I2 : Inv X pins σ H { s with heap := h2 } := Z.inv.turnedL (t' := s.toks) (ch := [S]) (fun c ob nc e => oth c ob (fun g => nc (by simp [g])) e) fun c hc => by
    rw [List.mem_singleton] at hc
    subst hc
    exact fS
  refine wpAny_pure ⟨plainId_quiet F.plain_extend_loop _, zl_loop (H0 := H) hh Z.D hS hS2 rfl Z.hn Z.ra Z.rb (min xs.size ys.size) 0 { s with heap := h2 } _ _ H [] rfl (Nat.zero_le _) I2 ?_ gS3 ?_ .nil rfl .nil hR⟩
  · obtain ⟨u, v, g3⟩ := Z.o0
    exact ⟨oth _ _ (hS7 q (by simp)) Z.q0, Z.i0.at fun ob e => oth _ _ (hS7 i (by simp)) e, Z.j0.at fun ob e => oth _ _ (hS7 j (by simp)) e, Z.a0.at fun ob e => oth _ _ (hS2 a (by simp)) e, Z.b0.at fun ob e => oth _ _ (hS2 b (by simp)) e, .inl ⟨oth _ _ (hS7 z (by simp)) Z.z0, u, v, oth _ _ (hS7 o (by simp)) g3⟩⟩
  · intro c hc
    rcases List.mem_cons.mp hc with rfl | hc
    · exact fS
    · exact Z.fp c hc
theorem zl_init {s : Shared} {H : Hp} (hh : A.in1.handled = none) (Z : ZlAt X pins σ z q o i j a b xs ys us ws H s) (hS : ∀ c ∈ [z, q, o, i, j], c < S) (hS2 : ∀ c ∈ [a, b], c ≠ S) (gS : s.heap.get? S = some (mkL #[] 0)) (fS : FpOk X pins H S)
    (hR : ∀ s' acc' c' H' ts', Inv X pins σ H' s' → s'.heap.get? S = some (mkL acc' c') → Prs us ws H ts' H' → ts'.length = min xs.size ys.size → Vals ts' acc'.toList → FpOk X pins H' S → R (.ok (.ret .none)) s') :
    wpAny (model X.prog X.w) A.in1 (Builtin.«list.__init__» ⟨[.ref S, .ref z], []⟩)
      (fun fin s' => match fin with | .done f => R (.ok f) s' | .again c' => c'.quiet = true ∧ codeAny (model X.prog X.w) A c' R s') (fun e s' => R (.error e) s') s := by
  show wpAny _ _ (do let old ← Builtin.List.listItems (.ref S); Builtin.List.listUpdate (.ref S) (fun _ => #[]); letGo old.toList.reverse; Builtin.List.listExtendWith (.ref S) (.ref z) .none) _ _ s
  refine wpAny_bind ?_
  unfold Builtin.List.listItems
  refine wpAny_bind (wpAny_seqItems gS rfl (wpAny_pure ?_))
  show wpAny _ _ (updateSeq S (fun _ => #[]) >>= fun _ => letGo (#[] : Array Value).toList.reverse >>= fun _ => Builtin.List.listExtendWith (.ref S) (.ref z) .none) _ _ s
  refine wpAny_bind (wpAny_updateSeq gS rfl ?_)
  have gS₂ := Heap.get?_update_self (Obj.mapSeq (fun _ => (#[] : Array Value))) gS rfl
  have oth : ∀ c ob, c ≠ S → s.heap.get? c = some ob → (s.heap.update S (Obj.mapSeq (fun _ => (#[] : Array Value)))).get? c = some ob :=
    fun c ob hb e => (Heap.get?_update_other _ _ (Ne.symm hb)).trans e
  refine wpAny_bind (wpAny_letGo ?_)
  have hS7 : ∀ c ∈ [z, q, o, i, j], c ≠ S := fun c hc => Nat.ne_of_lt (hS c hc)
  have I2 : Inv X pins σ H { s with heap := s.heap.update S (Obj.mapSeq (fun _ => (#[] : Array Value))) } := Z.inv.turnedL (t' := s.toks) (ch := [S]) (fun c ob nc e => oth c ob (fun g => nc (by simp [g])) e) fun c hc => by
    rw [List.mem_singleton] at hc
    subst hc
    exact fS
  obtain ⟨u, v, g3⟩ := Z.o0
  exact zl_extend hh ⟨Z.D, I2, oth _ _ (hS7 z (by simp)) Z.z0, oth _ _ (hS7 q (by simp)) Z.q0, ⟨u, v, oth _ _ (hS7 o (by simp)) g3⟩, Z.i0.at fun ob e => oth _ _ (hS7 i (by simp)) e, Z.j0.at fun ob e => oth _ _ (hS7 j (by simp)) e, Z.a0.at fun ob e => oth _ _ (hS2 a (by simp)) e, Z.b0.at fun ob e => oth _ _ (hS2 b (by simp)) e, Z.fp, Z.hn, Z.ra, Z.rb⟩ hS hS2 gS₂ fS hR
theorem zl_call {E : Value → Shared → Prop} {s : Shared} {H : Hp} {Q : Value → Shared → Prop} (hh : A.handled = none) (Z : ZlAt X pins σ z q o i j a b xs ys us ws H s)
    (hQ : ∀ s' (acc : Array Value) c H' ts, Inv X pins σ H' s' → s'.heap.get? s.heap.objs.size = some (mkL acc c) → Prs us ws H ts H' → ts.length = min xs.size ys.size → Vals ts acc.toList → FpOk X pins H' s.heap.objs.size → Q (.ref s.heap.objs.size) s') :
    wpAny (model X.prog X.w) A (call (.type "list") [.ref z]) Q E s := by
  have inlt : ∀ c ∈ [z, q, o, i, j], c < s.heap.objs.size := by
    obtain ⟨_, _, g3⟩ := Z.o0
    obtain ⟨_, g4, _⟩ := Z.i0
    obtain ⟨_, g5, _⟩ := Z.j0
    exact five (Heap.lt_size Z.z0) (Heap.lt_size Z.q0) (Heap.lt_size g3) (Heap.lt_size g4) (Heap.lt_size g5)
  have inlt2 : ∀ c ∈ [a, b], c ≠ s.heap.objs.size := by
    obtain ⟨_, g4, _⟩ := Z.a0
    obtain ⟨_, g5, _⟩ := Z.b0
    intro c hc
    simp only [List.mem_cons, List.not_mem_nil, or_false] at hc
    rcases hc with rfl | rfl
    · exact Nat.ne_of_lt (Heap.lt_size g4)
    · exact Nat.ne_of_lt (Heap.lt_size g5)
  have up : ∀ c ob, s.heap.get? c = some ob → (s.heap.push { cls := .type "list", data := .seq #[] }).get? c = some ob := fun c ob e => Heap.get?_push_of_some _ e
  refine callType_codes (Q₁ := fun obj s₁ => obj = .ref s.heap.objs.size ∧ s₁ = { s with heap := s.heap.push { cls := .type "list", data := .seq #[] } }) F.called_list (F.typeCall_list_1 _) F.entry_list_init
    (code_list_new _ ⟨rfl, rfl⟩) fun obj s₁ h₁ => ?_
  obtain ⟨rfl, rfl⟩ := h₁
  have hS : (s.heap.push { cls := .type "list", data := .seq #[] }).get? s.heap.objs.size = some (mkL #[] 0) := Heap.get?_push_size _ rfl
  have fS : FpOk X pins H s.heap.objs.size := Z.inv.fpOk (Nat.le_refl _) (Z.inv.hok.fresh (Nat.le_refl _))
  obtain ⟨u, v, g3⟩ := Z.o0
  refine ⟨⟨_, hS, rfl⟩, F.args_list_init_2 _ _, zl_init (A := A.in1) (S := s.heap.objs.size) hh ⟨Z.D, Z.inv.kept (t' := s.toks) up, up _ _ Z.z0, up _ _ Z.q0, ⟨u, v, up _ _ g3⟩, Z.i0.at fun ob e => up _ _ e, Z.j0.at fun ob e => up _ _ e, Z.a0.at fun ob e => up _ _ e, Z.b0.at fun ob e => up _ _ e, Z.fp, Z.hn, Z.ra, Z.rb⟩ inlt inlt2 hS fS fun s' acc c H' ts I' g pr el ev fp => ?_⟩
  exact ⟨rfl, hQ s' acc c H' ts I' g pr el ev fp⟩
end
def tLZ (K : PySem.W.Frag) (ta : TA) : TE := fun σ H Q => ta σ H fun vs H1 => ∃ (a b : Addr) (us ws : List V), vs = [.ref a, .ref b] ∧ SqL K H1 a us ∧ SqL K H1 b ws ∧ ∀ ts H2 p, Prs us ws H1 ts H2 → ts.length = min us.length ws.length → H2 p = none → Q (.ref p) (upd H2 p (.lst ts))
theorem pe_lz {X : Cx} {e e2 : Expr} {ta : TA} {p p2 q pos : Pos} (hg : Gl X "list") (hm : X.mg "list" = none) (hg2 : Gl X "zip") (hm2 : X.mg "zip" = none) (hc : X.calm = true) (ha : PA X [e, e2] ta)
    (na : starEach [.Call (.Name "zip" p2) [e, e2] [] q] X.env = (false, eval (.Call (.Name "zip" p2) [e, e2] [] q) X.env) :: starEach [] X.env)
    (hs : starEach [e, e2] X.env = (false, eval e X.env) :: starEach [e2] X.env) (hp : (backTo q (starEach [e2] X.env)).any (·.1) = false) :
    PE X (.Call (.Name "list" p) [.Call (.Name "zip" p2) [e, e2] [] q] [] pos) (tLZ X.K ta) := by
  constructor
  intro pins s σ H Q I h
  refine Call_ (ld_blt I hg hm (show bootBuiltins "list" = some (.type "list") by decide +kernel) ?_)
  refine PyProof.Rows.callWith_type1 (PyProof.Rows.args_cons ?_ na) na rfl
  refine Call_ (ld_blt I hg2 hm2 PyProof.Rows.boot_zip (PyProof.Rows.callWith_type1 (thn (ha.run q pins s σ H _ I h) ?_) hs hp))
  rintro xs s1 ⟨vs, H1, I1, r1, a, b, us, ws, rfl, qa, qb, q1⟩
  obtain ⟨u, v, rfl, ru, rv⟩ : ∃ u v, xs = [u, v] ∧ RelV (.ref a) u ∧ RelV (.ref b) v := by
    cases r1 with
    | cons r rr => cases rr with
      | cons r' rr => cases rr; exact ⟨_, _, rfl, r, r'⟩
  cases ru
  cases rv
  obtain ⟨ia, ra, pa, za⟩ := I1.list qa
  obtain ⟨ib, rb, pb, zb⟩ := I1.list qb
  refine call_zip_2 pa.isList pb.isList fun h' g1 g2 g3 g4 g5 gz k => ?_
  refine PyProof.Rows.args_nil ?_
  have la := ra.length
  have lb := rb.length
  have fresh : ∀ j, FpOk X pins H1 (s1.heap.objs.size + j) := fun j => I1.fpOk (Nat.le_add_right _ j) (I1.hok.fresh (Nat.le_add_right _ j))
  have Z : ZlAt X pins σ (s1.heap.objs.size + 4) (s1.heap.objs.size + 2) (s1.heap.objs.size + 3) s1.heap.objs.size (s1.heap.objs.size + 1) a b ia.toArray ib.toArray us ws H1 { s1 with heap := h' } :=
    ⟨PySem.W.ktu_apart _ a b pa.lt pb.lt, I1.kept (t' := s1.toks) k, g1, g2, ⟨_, _, g3⟩, g4, g5, pa.isList.at fun ob e => k _ ob e, pb.isList.at fun ob e => k _ ob e, fun c hc => by
      simp only [List.mem_cons, List.not_mem_nil, or_false] at hc
      rcases hc with rfl | rfl | rfl | rfl
      · exact fresh 4
      · exact fresh 3
      · exact fresh 0
      · exact fresh 1, by simp; omega, by simpa using ra, by simpa using rb⟩
  refine zl_call (I1.ok.hd hc) Z fun s' acc c H' ts I' g pr el ev fp => ?_
  have el2 := ev.length
  have el3 : ts.length = min us.length ws.length := by rw [la, lb]; simpa using el
  refine ⟨.ref h'.objs.size, upd H' h'.objs.size (.lst ts), inv_adopt I' fp ⟨?_, acc.toList, c, ev, by simpa using g⟩, rfl, q1 ts H' _ pr el3 fp.1⟩
  have := Z.hn
  omega
/-- as data -/
def gLZ : GC := fun vs h => match vs with
  | [x, y] => match asL x h, asL y h with
    | some xs, some ys => some (.r h.length, h ++ [some (.lst (zipD xs ys))])
    | _, _ => none
  | _ => none
section
variable {X : Cx} {W : WX} {e e2 : Expr} {fs : Av} {p p2 q pos : Pos}
theorem ee_lz (hg : Gl X "list") (hm : X.mg "list" = none) (hg2 : Gl X "zip") (hm2 : X.mg "zip" = none) (hc : X.calm = true) (ha : EA X W [e, e2] fs)
    (na : starEach [.Call (.Name "zip" p2) [e, e2] [] q] X.env = (false, eval (.Call (.Name "zip" p2) [e, e2] [] q) X.env) :: starEach [] X.env := by rfl)
    (hs : starEach [e, e2] X.env = (false, eval e X.env) :: starEach [e2] X.env := by rfl) (hpl : (backTo q (starEach [e2] X.env)).any (·.1) = false := by rfl) :
    EE X W (.Call (.Name "list" p) [.Call (.Name "zip" p2) [e, e2] [] q] [] pos) (eBlt gLZ fs) :=
  PE.of (pe_lz hg hm hg2 hm2 hc ha na hs hpl) fun σ H Q ⟨φ, h, ρ, sm, er, q⟩ => ⟨φ, h, ρ, sm, er, PoX.goA q fun xs vs h1 H1 φ1 st sm1 rvs q1 => by
    obtain ⟨z, h2, e2, k⟩ := PoX.ofO q1
    unfold gLZ at e2
    split at e2
    · rename_i x y
      obtain ⟨u, v, rfl, ru, rv⟩ := rvs.two
      split at e2
      · rename_i as ds ea ed
        cases e2
        obtain ⟨a, zs, rfl, sq, rz⟩ := asL_ok sm1 ru ea
        obtain ⟨b, ys, rfl, sq2, ry⟩ := asL_ok sm1 rv ed
        refine ⟨a, b, zs, ys, rfl, sq, sq2, fun ts H2 p P tl hp => ?_⟩
        obtain ⟨s1, m1, r1⟩ := prs_rep sm1 rz ry P
        have et : (zipD as ds).take ts.length = zipD as ds := List.take_of_length_le (by rw [tl, rz.length, ry.length, zipD_len]; omega)
        rw [et] at r1
        obtain ⟨s2, m2, v2⟩ := new_list (mg := X.mg) m1 r1 hp
        exact k _ _ _ (s1.trans s2) m2 v2
      · cases e2
    · cases e2⟩
end
section
variable {Q : Vl → Hh → Prop} {h : Hh} {xs ys : List Da}
theorem wo_lzLL (q : Q (.r h.length) (h ++ [some (.lst (zipD xs ys))])) : Wo (gLZ [.d (.list xs), .d (.list ys)] h) Q := q
end
end Rk

namespace Lw
open PySem PySem.Spec L2 Rk
theorem wk_GREATEST {ρ : En} {h : Hh} {Q : Vl → Hh → Prop} {E : XP} (q : Q (.d (.int ((10 ^ 600)))) h) : Wp (eD c_GREATEST ρ h) Q E := ⟨q⟩
theorem wk_LETTERS_programs {ρ : En} {h : Hh} {Q : Vl → Hh → Prop} {E : XP} (q : Q (.d (.str "abcdefghijklmnopqrstuvwxyz")) h) : Wp (eD c_LETTERS_programs ρ h) Q E := ⟨q⟩
theorem wk_LETTERS_turns {ρ : En} {h : Hh} {Q : Vl → Hh → Prop} {E : XP} (q : Q (.d (.str "abcdefghijklmnopqrstuvwxyz")) h) : Wp (eD c_LETTERS_turns ρ h) Q E := ⟨q⟩
theorem wk_MOST_INS {ρ : En} {h : Hh} {Q : Vl → Hh → Prop} {E : XP} (q : Q (.d (.int 6)) h) : Wp (eD c_MOST_INS ρ h) Q E := ⟨q⟩
theorem wk_MOST_LETTERS {ρ : En} {h : Hh} {Q : Vl → Hh → Prop} {E : XP} (q : Q (.d (.int 6)) h) : Wp (eD c_MOST_LETTERS ρ h) Q E := ⟨q⟩
theorem wk_MOST_ROWS_programs {ρ : En} {h : Hh} {Q : Vl → Hh → Prop} {E : XP} (q : Q (.d (.int 40)) h) : Wp (eD c_MOST_ROWS_programs ρ h) Q E := ⟨q⟩
theorem wk_MOST_ROWS_turns {ρ : En} {h : Hh} {Q : Vl → Hh → Prop} {E : XP} (q : Q (.d (.int 40)) h) : Wp (eD c_MOST_ROWS_turns ρ h) Q E := ⟨q⟩
theorem wk_TURN_WORDS {ρ : En} {h : Hh} {Q : Vl → Hh → Prop} {E : XP} (q : Q (.d (.tuple [(.str "swap"), (.str "apart"), (.str "back"), (.str "left"), (.str "right"), (.str "spread"), (.str "gather"), (.str "twice"), (.str "once")])) h) : Wp (eD c_TURN_WORDS ρ h) Q E := ⟨q⟩
theorem wk_TWO {ρ : En} {h : Hh} {Q : Vl → Hh → Prop} {E : XP} (q : Q (.d (.tuple [(.str "number"), (.tuple [(.int 2), (.int 1)])])) h) : Wp (eD c_TWO ρ h) Q E := ⟨q⟩
theorem tq_2_1 {h : Hh} {Q : Vl → Hh → Prop} (q : Q (.d (Rk.Q 2)) h) : TupK [.d (.int 2), .d (.int 1)] h Q := tq_lit 2 (by decide +kernel) (by decide +kernel) q
noncomputable def b_is_whole : Sv := sRet (eAnd (eIsi .int (eVar 0)) (eNot (eIsi .bool (eVar 0))))
noncomputable def m_is_whole : Fn := mkF 1 1 b_is_whole
theorem en_is_whole {v0 : Vl} {h : Hh} {Q : Vl → Hh → Prop} {E : XP} (w : Ws (b_is_whole [some v0] h) (fun _ h1 => RetK h.length Q (.d .none) h1) ⟨RetK h.length Q, fun _ _ => False, fun _ _ => False, fun c fs _ h1 => E c fs (h1.take h.length)⟩) : Wp (m_is_whole [v0] h) Q E := wp_def rfl rfl w
noncomputable def b_shared : Sv := sSeq (sSet 0 (eBlt gAbs (aCons (eVar 0) (aNil))))
    (sSeq (sSet 1 (eBlt gAbs (aCons (eVar 1) (aNil))))
    (sSeq (sWhile (eT (eOp (gInt fGt) (eVar 1) (eD (.int 0)))) (sPar 0 1 (aCons (eVar 1) (aCons (eOp (gInt fMod) (eVar 0) (eVar 1)) (aNil)))))
    (sRet (eVar 0))))
noncomputable def m_shared : Fn := mkF 2 2 b_shared
theorem en_shared {v0 v1 : Vl} {h : Hh} {Q : Vl → Hh → Prop} {E : XP} (w : Ws (b_shared [some v0, some v1] h) (fun _ h1 => RetK h.length Q (.d .none) h1) ⟨RetK h.length Q, fun _ _ => False, fun _ _ => False, fun c fs _ h1 => E c fs (h1.take h.length)⟩) : Wp (m_shared [v0, v1] h) Q E := wp_def rfl rfl w
noncomputable def b_is_fraction : Sv := sSeq (sIf (tvOr (tvNot (eT (eIsi .tuple (eVar 0)))) (tvOr (eT (eOp gNe (eBlt gLen (aCons (eVar 0) (aNil))) (eD (.int 2)))) (tvOr (tvNot (eT (eCall m_is_whole (aCons (eOp gIx (eVar 0) (eD (.int 0))) (aNil))))) (tvNot (eT (eCall m_is_whole (aCons (eOp gIx (eVar 0) (eD (.int 1))) (aNil)))))))) (sRet (eD (.bool false))) (sNil))
    (sRet (eAnd (eOp (gInt fGt) (eOp gIx (eVar 0) (eD (.int 1))) (eD (.int 0))) (eOp gEq (eCall m_shared (aCons (eOp gIx (eVar 0) (eD (.int 0))) (aCons (eOp gIx (eVar 0) (eD (.int 1))) (aNil)))) (eD (.int 1)))))
noncomputable def m_is_fraction : Fn := mkF 1 1 b_is_fraction
theorem en_is_fraction {v0 : Vl} {h : Hh} {Q : Vl → Hh → Prop} {E : XP} (w : Ws (b_is_fraction [some v0] h) (fun _ h1 => RetK h.length Q (.d .none) h1) ⟨RetK h.length Q, fun _ _ => False, fun _ _ => False, fun c fs _ h1 => E c fs (h1.take h.length)⟩) : Wp (m_is_fraction [v0] h) Q E := wp_def rfl rfl w
noncomputable def b_is_great : Sv := sRet (eOr (eOp (gInt fGt) (eBlt gAbs (aCons (eOp gIx (eVar 0) (eD (.int 0))) (aNil))) (eD c_GREATEST)) (eOp (gInt fGt) (eOp gIx (eVar 0) (eD (.int 1))) (eD c_GREATEST)))
noncomputable def m_is_great : Fn := mkF 1 1 b_is_great
theorem en_is_great {v0 : Vl} {h : Hh} {Q : Vl → Hh → Prop} {E : XP} (w : Ws (b_is_great [some v0] h) (fun _ h1 => RetK h.length Q (.d .none) h1) ⟨RetK h.length Q, fun _ _ => False, fun _ _ => False, fun c fs _ h1 => E c fs (h1.take h.length)⟩) : Wp (m_is_great [v0] h) Q E := wp_def rfl rfl w
noncomputable def b_is_name : Sv := sSeq (sIf (tvOr (tvNot (eT (eIsi .str (eVar 0)))) (tvNot (eT (eChain (gInt fLe) (gInt fLe) (eD (.int 1)) (eBlt gLen (aCons (eVar 0) (aNil))) (eD c_MOST_LETTERS))))) (sRet (eD (.bool false))) (sNil))
    (sRet (eBlt gAll (aCons (eFz (eLc [1] (iv itS (eVar 0)) (gN 1) (tvYes) (eOp (gInS false) (eVar 1) (eD c_LETTERS_programs)))) (aNil))))
noncomputable def m_is_name : Fn := mkF 1 2 b_is_name
theorem en_is_name {v0 : Vl} {h : Hh} {Q : Vl → Hh → Prop} {E : XP} (w : Ws (b_is_name [some v0, none] h) (fun _ h1 => RetK h.length Q (.d .none) h1) ⟨RetK h.length Q, fun _ _ => False, fun _ _ => False, fun c fs _ h1 => E c fs (h1.take h.length)⟩) : Wp (m_is_name [v0] h) Q E := wp_def rfl rfl w
noncomputable def b_is_work : Sv := sSeq (sIf (tvOr (tvNot (eT (eIsi .tuple (eVar 0)))) (tvOr (eT (eOp gEq (eVar 0) (eTup (aNil)))) (tvNot (eT (eIsi .str (eOp gIx (eVar 0) (eD (.int 0)))))))) (sRet (eD (.bool false))) (sNil))
    (sSeq (sIf (eT (eOp gEq (eOp gIx (eVar 0) (eD (.int 0))) (eD (.str "number")))) (sRet (eAnd (eOp gEq (eBlt gLen (aCons (eVar 0) (aNil))) (eD (.int 2))) (eAnd (eCall m_is_fraction (aCons (eOp gIx (eVar 0) (eD (.int 1))) (aNil))) (eNot (eCall m_is_great (aCons (eOp gIx (eVar 0) (eD (.int 1))) (aNil))))))) (sNil))
    (sSeq (sIf (tvOr (eT (eOp gNe (eOp (gGetC d_WANTS) (eOp gIx (eVar 0) (eD (.int 0))) (eD (.int 0))) (eOp (gInt fSub) (eBlt gLen (aCons (eVar 0) (aNil))) (eD (.int 1))))) (eT (eOp gEq (eBlt gLen (aCons (eVar 0) (aNil))) (eD (.int 1))))) (sRet (eD (.bool false))) (sNil))
    (sRet (eBlt gAll (aCons (eFz (eLc [2] (iv itQ (eFz (eSl (eVar 0) (oSome (eD (.int 1))) (oNone)))) (gN 2) (tvYes) (eAnd (eCall m_is_name (aCons (eVar 2) (aNil))) (eOp (gInD false) (eVar 2) (eVar 1))))) (aNil))))))
noncomputable def m_is_work : Fn := mkF 2 3 b_is_work
theorem en_is_work {v0 v1 : Vl} {h : Hh} {Q : Vl → Hh → Prop} {E : XP} (w : Ws (b_is_work [some v0, some v1, none] h) (fun _ h1 => RetK h.length Q (.d .none) h1) ⟨RetK h.length Q, fun _ _ => False, fun _ _ => False, fun c fs _ h1 => E c fs (h1.take h.length)⟩) : Wp (m_is_work [v0, v1] h) Q E := wp_def rfl rfl w
noncomputable def b_are_ins : Sv := sSeq (sIf (tvOr (tvNot (eT (eIsi .tuple (eVar 0)))) (tvOr (eT (eOp (gInt fGt) (eBlt gLen (aCons (eVar 0) (aNil))) (eD c_MOST_INS))) (tvNot (eT (eBlt gAll (aCons (eFz (eLc [1] (iv itQ (eVar 0)) (gN 1) (tvYes) (eCall m_is_name (aCons (eVar 1) (aNil))))) (aNil))))))) (sRet (eD (.bool false))) (sNil))
    (sRet (eOp gEq (eUnl (eVar 0)) (eBlt gLen (aCons (eVar 0) (aNil)))))
noncomputable def m_are_ins : Fn := mkF 1 2 b_are_ins
theorem en_are_ins {v0 : Vl} {h : Hh} {Q : Vl → Hh → Prop} {E : XP} (w : Ws (b_are_ins [some v0, none] h) (fun _ h1 => RetK h.length Q (.d .none) h1) ⟨RetK h.length Q, fun _ _ => False, fun _ _ => False, fun c fs _ h1 => E c fs (h1.take h.length)⟩) : Wp (m_are_ins [v0] h) Q E := wp_def rfl rfl w
noncomputable def b_is_row : Sv := sSeq (sIf (tvOr (tvNot (eT (eIsi .tuple (eVar 0)))) (tvOr (eT (eOp gNe (eBlt gLen (aCons (eVar 0) (aNil))) (eD (.int 2)))) (tvNot (eT (eCall m_is_name (aCons (eOp gIx (eVar 0) (eD (.int 0))) (aNil))))))) (sRet (eD (.bool false))) (sNil))
    (sRet (eAnd (eOp (gInD true) (eOp gIx (eVar 0) (eD (.int 0))) (eVar 1)) (eCall m_is_work (aCons (eOp gIx (eVar 0) (eD (.int 1))) (aCons (eVar 1) (aNil))))))
noncomputable def m_is_row : Fn := mkF 2 2 b_is_row
theorem en_is_row {v0 v1 : Vl} {h : Hh} {Q : Vl → Hh → Prop} {E : XP} (w : Ws (b_is_row [some v0, some v1] h) (fun _ h1 => RetK h.length Q (.d .none) h1) ⟨RetK h.length Q, fun _ _ => False, fun _ _ => False, fun c fs _ h1 => E c fs (h1.take h.length)⟩) : Wp (m_is_row [v0, v1] h) Q E := wp_def rfl rfl w
noncomputable def bl_wrong_row_1 : Sv := sSeq (sIf (tvNot (eT (eCall m_is_row (aCons (eVar 4) (aCons (eVar 1) (aNil)))))) (sRet (eVar 3)) (sNil))
    (sAsg (gSetD (eVar 1) (eOp gIx (eVar 4) (eD (.int 0)))) (eD (.bool true)))
noncomputable def b_wrong_row : Sv := sSeq (sIf (tvOr (tvNot (eT (eIsi .tuple (eVar 0)))) (tvOr (eT (eOp gNe (eBlt gLen (aCons (eVar 0) (aNil))) (eD (.int 2)))) (tvNot (eT (eCall m_are_ins (aCons (eOp gIx (eVar 0) (eD (.int 0))) (aNil))))))) (sRet (eNeg (eD (.int 1)))) (sNil))
    (sSeq (sIf (tvOr (tvNot (eT (eIsi .tuple (eUnp (eOp gIx (eVar 0) (eD (.int 1))))))) (tvNot (eT (eChain (gInt fLe) (gInt fLe) (eD (.int 1)) (eBlt gLen (aCons (eUnp (eOp gIx (eVar 0) (eD (.int 1)))) (aNil))) (eD c_MOST_ROWS_programs))))) (sRet (eNeg (eD (.int 1)))) (sNil))
    (sSeq (sSet 1 (eBlt gDP (aCons (eFz (eLc [2] (iv itQ (eOp gIx (eVar 0) (eD (.int 0)))) (gN 2) (tvYes) (eTup (aCons (eVar 2) (aCons (eD (.bool true)) (aNil)))))) (aNil))))
    (sSeq (sFor (iEnumB (aCons (eUnp (eOp gIx (eVar 0) (eD (.int 1)))) (aNil))) (gTupT 2 (gsCons (gN 3) (gsCons (gN 4) (gsNil)))) bl_wrong_row_1)
    (sRet (eD .none)))))
noncomputable def m_wrong_row : Fn := mkF 1 5 b_wrong_row
theorem en_wrong_row {v0 : Vl} {h : Hh} {Q : Vl → Hh → Prop} {E : XP} (w : Ws (b_wrong_row [some v0, none, none, none, none] h) (fun _ h1 => RetK h.length Q (.d .none) h1) ⟨RetK h.length Q, fun _ _ => False, fun _ _ => False, fun c fs _ h1 => E c fs (h1.take h.length)⟩) : Wp (m_wrong_row [v0] h) Q E := wp_def rfl rfl w
noncomputable def b_need_program : Sv := sSeq (sSet 1 (eCall m_wrong_row (aCons (eVar 0) (aNil))))
    (sIf (eT (eOp gNotN (eVar 1) (eD .none))) (sRaise1 "BadProgram" "row" (eVar 1)) (sNil))
noncomputable def m_need_program : Fn := mkF 1 2 b_need_program
theorem en_need_program {v0 : Vl} {h : Hh} {Q : Vl → Hh → Prop} {E : XP} (w : Ws (b_need_program [some v0, none] h) (fun _ h1 => RetK h.length Q (.d .none) h1) ⟨RetK h.length Q, fun _ _ => False, fun _ _ => False, fun c fs _ h1 => E c fs (h1.take h.length)⟩) : Wp (m_need_program [v0] h) Q E := wp_def rfl rfl w
noncomputable def b_asked : Sv := sRet (eIf (eT (eOp gEq (eOp gIx (eVar 0) (eD (.int 0))) (eD (.str "number")))) (eFz (eLst (aNil))) (eFz (eBlt gList (aCons (eFz (eSl (eVar 0) (oSome (eD (.int 1))) (oNone))) (aNil)))))
noncomputable def m_asked : Fn := mkF 1 1 b_asked
theorem en_asked {v0 : Vl} {h : Hh} {Q : Vl → Hh → Prop} {E : XP} (w : Ws (b_asked [some v0] h) (fun _ h1 => RetK h.length Q (.d .none) h1) ⟨RetK h.length Q, fun _ _ => False, fun _ _ => False, fun c fs _ h1 => E c fs (h1.take h.length)⟩) : Wp (m_asked [v0] h) Q E := wp_def rfl rfl w
noncomputable def bl_needed_1 : Sv := sIf (eT (eOp (gInD false) (eVar 6) (eVar 2))) (sAsg (gSetL (eVar 5) (eOp gIw (eVar 2) (eVar 6))) (eD (.bool true))) (sNil)
noncomputable def bl_needed_2 : Sv := sIf (eT (eOp gIy (eVar 5) (eVar 3))) (sFor (iv itQ (eCall m_asked (aCons (eOp gIx (eOp gIy (eVar 1) (eVar 3)) (eD (.int 1))) (aNil)))) (gN 6) bl_needed_1) (sNil)
noncomputable def b_needed : Sv := sSeq (sExpr (eCall m_need_program (aCons (eVar 0) (aNil))))
    (sSeq (sSet 1 (eUnp (eOp gIx (eVar 0) (eD (.int 1)))))
    (sSeq (sSet 2 (eFzD (eBlt gDP (aCons (eFz (eLc [3, 4] (iEnumB (aCons (eVar 1) (aNil))) (gTupT 2 (gsCons (gN 3) (gsCons (gN 4) (gsNil)))) (tvYes) (eTup (aCons (eOp gIx (eVar 4) (eD (.int 0))) (aCons (eVar 3) (aNil)))))) (aNil)))))
    (sSeq (sSet 5 (eLc [4] (iv itQ (eVar 1)) (gN 4) (tvYes) (eD (.bool false))))
    (sSeq (sAsg (gSetL (eVar 5) (eNeg (eD (.int 1)))) (eD (.bool true)))
    (sSeq (sFor (iRevR (eBlt gLen (aCons (eVar 1) (aNil)))) (gN 3) bl_needed_2)
    (sSeq (sFrz 5)
    (sRet (eFz (eLc [3] (iRange1 (aCons (eBlt gLen (aCons (eVar 1) (aNil))) (aNil))) (gN 3) (eT (eOp gIy (eVar 5) (eVar 3))) (eVar 3))))))))))
noncomputable def m_needed : Fn := mkF 1 7 b_needed
theorem en_needed {v0 : Vl} {h : Hh} {Q : Vl → Hh → Prop} {E : XP} (w : Ws (b_needed [some v0, none, none, none, none, none, none] h) (fun _ h1 => RetK h.length Q (.d .none) h1) ⟨RetK h.length Q, fun _ _ => False, fun _ _ => False, fun c fs _ h1 => E c fs (h1.take h.length)⟩) : Wp (m_needed [v0] h) Q E := wp_def rfl rfl w
noncomputable def b_pruned : Sv := sSeq (sSet 1 (eCall m_needed (aCons (eVar 0) (aNil))))
    (sRet (eTup (aCons (eOp gIx (eVar 0) (eD (.int 0))) (aCons (eBlt gTupP (aCons (eFz (eLc [2] (iv itQ (eVar 1)) (gN 2) (tvYes) (eOp gIy (eUnp (eOp gIx (eVar 0) (eD (.int 1)))) (eVar 2)))) (aNil))) aNil))))
noncomputable def m_pruned : Fn := mkF 1 3 b_pruned
theorem en_pruned {v0 : Vl} {h : Hh} {Q : Vl → Hh → Prop} {E : XP} (w : Ws (b_pruned [some v0, none, none] h) (fun _ h1 => RetK h.length Q (.d .none) h1) ⟨RetK h.length Q, fun _ _ => False, fun _ _ => False, fun c fs _ h1 => E c fs (h1.take h.length)⟩) : Wp (m_pruned [v0] h) Q E := wp_def rfl rfl w
noncomputable def b_work_at : Sv := sRet (eMt tyDk gGet2 (eBlt gDT (aCons (eOp gIx (eVar 0) (eD (.int 1))) aNil)) (aCons (eVar 1) (aCons (eTup (aCons (eD (.str "")) (aNil))) (aNil))))
noncomputable def m_work_at : Fn := mkF 2 2 b_work_at
theorem en_work_at {v0 v1 : Vl} {h : Hh} {Q : Vl → Hh → Prop} {E : XP} (w : Ws (b_work_at [some v0, some v1] h) (fun _ h1 => RetK h.length Q (.d .none) h1) ⟨RetK h.length Q, fun _ _ => False, fun _ _ => False, fun c fs _ h1 => E c fs (h1.take h.length)⟩) : Wp (m_work_at [v0, v1] h) Q E := wp_def rfl rfl w
noncomputable def bl_new_names_1 : Sv := sSeq (sExpr (eMt tyL gExt (eVar 4) (aCons (eLc [6] (iv itS (eD c_LETTERS_turns)) (gN 6) (eT (eOp (gIn true) (eOp gAdd (eVar 5) (eVar 6)) (eVar 1))) (eOp gAdd (eVar 5) (eVar 6))) (aNil))))
    (sIf (eT (eOp (gInt fGt) (eBlt gLen (aCons (eVar 4) (aNil))) (eD (.int 1)))) (sRet (eFz (eSl (eVar 4) (oNone) (oSome (eD (.int 2)))))) (sNil))
noncomputable def b_new_names : Sv := sSeq (sSet 1 (eFz (eOp gAdd (eFz (eBlt gList (aCons (eOp gIx (eVar 0) (eD (.int 0))) (aNil)))) (eFz (eLc [2, 3] (iv itQ (eUnp (eOp gIx (eVar 0) (eD (.int 1))))) (gTupT 2 (gsCons (gN 2) (gsCons (gN 3) (gsNil)))) (tvYes) (eVar 2))))))
    (sSeq (sSet 4 (eLst (aNil)))
    (sSeq (sFor (iv itQ (eFz (eOp gAdd (eFz (eLst (aCons (eD (.str "")) (aNil)))) (eFz (eBlt gListS (aCons (eD c_LETTERS_turns) (aNil))))))) (gN 5) bl_new_names_1)
    (sSeq (sFrz 4)
    (sRet (eVar 4)))))
noncomputable def m_new_names : Fn := mkF 1 7 b_new_names
theorem en_new_names {v0 : Vl} {h : Hh} {Q : Vl → Hh → Prop} {E : XP} (w : Ws (b_new_names [some v0, none, none, none, none, none, none] h) (fun _ h1 => RetK h.length Q (.d .none) h1) ⟨RetK h.length Q, fun _ _ => False, fun _ _ => False, fun c fs _ h1 => E c fs (h1.take h.length)⟩) : Wp (m_new_names [v0] h) Q E := wp_def rfl rfl w
noncomputable def b_swapped : Sv := sRet (eIf (eT (eOp (gIn false) (eOp gIx (eVar 1) (eD (.int 0))) (eTup (aCons (eD (.str "plus")) (aCons (eD (.str "times")) (aCons (eD (.str "least")) (aCons (eD (.str "most")) (aNil)))))))) (eTup (aCons (eFz (eLst (aNil))) (aCons (eTup (aCons (eOp gIx (eVar 1) (eD (.int 0))) (aCons (eOp gIx (eVar 1) (eD (.int 2))) (aCons (eOp gIx (eVar 1) (eD (.int 1))) (aNil))))) (aNil)))) (eD .none))
noncomputable def m_swapped : Fn := mkF 3 3 b_swapped
theorem en_swapped {v0 v1 v2 : Vl} {h : Hh} {Q : Vl → Hh → Prop} {E : XP} (w : Ws (b_swapped [some v0, some v1, some v2] h) (fun _ h1 => RetK h.length Q (.d .none) h1) ⟨RetK h.length Q, fun _ _ => False, fun _ _ => False, fun c fs _ h1 => E c fs (h1.take h.length)⟩) : Wp (m_swapped [v0, v1, v2] h) Q E := wp_def rfl rfl w
noncomputable def b_put_apart : Sv := sRet (eIf (eT (eOp gEq (eOp gIx (eVar 1) (eD (.int 0))) (eD (.str "less")))) (eTup (aCons (eFz (eLst (aCons (eTup (aCons (eD (.str "turned")) (aCons (eOp gIx (eVar 1) (eD (.int 2))) (aNil)))) (aNil)))) (aCons (eTup (aCons (eD (.str "plus")) (aCons (eOp gIx (eVar 1) (eD (.int 1))) (aCons (eOp gIx (eVar 2) (eD (.int 0))) (aNil))))) (aNil)))) (eD .none))
noncomputable def m_put_apart : Fn := mkF 3 3 b_put_apart
theorem en_put_apart {v0 v1 v2 : Vl} {h : Hh} {Q : Vl → Hh → Prop} {E : XP} (w : Ws (b_put_apart [some v0, some v1, some v2] h) (fun _ h1 => RetK h.length Q (.d .none) h1) ⟨RetK h.length Q, fun _ _ => False, fun _ _ => False, fun c fs _ h1 => E c fs (h1.take h.length)⟩) : Wp (m_put_apart [v0, v1, v2] h) Q E := wp_def rfl rfl w
noncomputable def b_put_back : Sv := sSeq (sSet 3 (eIf (eT (eOp gEq (eOp gIx (eVar 1) (eD (.int 0))) (eD (.str "plus")))) (eCall m_work_at (aCons (eVar 0) (aCons (eOp gIx (eVar 1) (eD (.int 2))) (aNil)))) (eTup (aCons (eD (.str "")) (aNil)))))
    (sRet (eIf (eT (eOp gEq (eOp gIx (eVar 3) (eD (.int 0))) (eD (.str "turned")))) (eTup (aCons (eFz (eLst (aNil))) (aCons (eTup (aCons (eD (.str "less")) (aCons (eOp gIx (eVar 1) (eD (.int 1))) (aCons (eOp gIx (eVar 3) (eD (.int 1))) (aNil))))) (aNil)))) (eD .none)))
noncomputable def m_put_back : Fn := mkF 3 4 b_put_back
theorem en_put_back {v0 v1 v2 : Vl} {h : Hh} {Q : Vl → Hh → Prop} {E : XP} (w : Ws (b_put_back [some v0, some v1, some v2, none] h) (fun _ h1 => RetK h.length Q (.d .none) h1) ⟨RetK h.length Q, fun _ _ => False, fun _ _ => False, fun c fs _ h1 => E c fs (h1.take h.length)⟩) : Wp (m_put_back [v0, v1, v2] h) Q E := wp_def rfl rfl w
noncomputable def b_to_the_left : Sv := sSeq (sSet 3 (eOp gIx (eVar 1) (eD (.int 0))))
    (sSeq (sSet 4 (eIf (eT (eOp (gIn false) (eVar 3) (eTup (aCons (eD (.str "plus")) (aCons (eD (.str "times")) (aNil)))))) (eCall m_work_at (aCons (eVar 0) (aCons (eOp gIx (eVar 1) (eD (.int 2))) (aNil)))) (eTup (aCons (eD (.str "")) (aNil)))))
    (sRet (eIf (eT (eOp gEq (eOp gIx (eVar 4) (eD (.int 0))) (eVar 3))) (eTup (aCons (eFz (eLst (aCons (eTup (aCons (eVar 3) (aCons (eOp gIx (eVar 1) (eD (.int 1))) (aCons (eOp gIx (eVar 4) (eD (.int 1))) (aNil))))) (aNil)))) (aCons (eTup (aCons (eVar 3) (aCons (eOp gIx (eVar 2) (eD (.int 0))) (aCons (eOp gIx (eVar 4) (eD (.int 2))) (aNil))))) (aNil)))) (eD .none))))
noncomputable def m_to_the_left : Fn := mkF 3 5 b_to_the_left
theorem en_to_the_left {v0 v1 v2 : Vl} {h : Hh} {Q : Vl → Hh → Prop} {E : XP} (w : Ws (b_to_the_left [some v0, some v1, some v2, none, none] h) (fun _ h1 => RetK h.length Q (.d .none) h1) ⟨RetK h.length Q, fun _ _ => False, fun _ _ => False, fun c fs _ h1 => E c fs (h1.take h.length)⟩) : Wp (m_to_the_left [v0, v1, v2] h) Q E := wp_def rfl rfl w
noncomputable def b_to_the_right : Sv := sSeq (sSet 3 (eOp gIx (eVar 1) (eD (.int 0))))
    (sSeq (sSet 4 (eIf (eT (eOp (gIn false) (eVar 3) (eTup (aCons (eD (.str "plus")) (aCons (eD (.str "times")) (aNil)))))) (eCall m_work_at (aCons (eVar 0) (aCons (eOp gIx (eVar 1) (eD (.int 1))) (aNil)))) (eTup (aCons (eD (.str "")) (aNil)))))
    (sRet (eIf (eT (eOp gEq (eOp gIx (eVar 4) (eD (.int 0))) (eVar 3))) (eTup (aCons (eFz (eLst (aCons (eTup (aCons (eVar 3) (aCons (eOp gIx (eVar 4) (eD (.int 2))) (aCons (eOp gIx (eVar 1) (eD (.int 2))) (aNil))))) (aNil)))) (aCons (eTup (aCons (eVar 3) (aCons (eOp gIx (eVar 4) (eD (.int 1))) (aCons (eOp gIx (eVar 2) (eD (.int 0))) (aNil))))) (aNil)))) (eD .none))))
noncomputable def m_to_the_right : Fn := mkF 3 5 b_to_the_right
theorem en_to_the_right {v0 v1 v2 : Vl} {h : Hh} {Q : Vl → Hh → Prop} {E : XP} (w : Ws (b_to_the_right [some v0, some v1, some v2, none, none] h) (fun _ h1 => RetK h.length Q (.d .none) h1) ⟨RetK h.length Q, fun _ _ => False, fun _ _ => False, fun c fs _ h1 => E c fs (h1.take h.length)⟩) : Wp (m_to_the_right [v0, v1, v2] h) Q E := wp_def rfl rfl w
noncomputable def b_spread_out : Sv := sSeq (sSet 3 (eIf (eT (eOp gEq (eOp gIx (eVar 1) (eD (.int 0))) (eD (.str "times")))) (eCall m_work_at (aCons (eVar 0) (aCons (eOp gIx (eVar 1) (eD (.int 2))) (aNil)))) (eTup (aCons (eD (.str "")) (aNil)))))
    (sSeq (sIf (eT (eOp (gIn true) (eOp gIx (eVar 3) (eD (.int 0))) (eTup (aCons (eD (.str "plus")) (aCons (eD (.str "less")) (aNil)))))) (sRet (eD .none)) (sNil))
    (sRet (eTup (aCons (eFz (eLst (aCons (eTup (aCons (eD (.str "times")) (aCons (eOp gIx (eVar 1) (eD (.int 1))) (aCons (eOp gIx (eVar 3) (eD (.int 1))) (aNil))))) (aCons (eTup (aCons (eD (.str "times")) (aCons (eOp gIx (eVar 1) (eD (.int 1))) (aCons (eOp gIx (eVar 3) (eD (.int 2))) (aNil))))) (aNil))))) (aCons (eTup (aCons (eOp gIx (eVar 3) (eD (.int 0))) (aCons (eOp gIx (eVar 2) (eD (.int 0))) (aCons (eOp gIx (eVar 2) (eD (.int 1))) (aNil))))) (aNil))))))
noncomputable def m_spread_out : Fn := mkF 3 4 b_spread_out
theorem en_spread_out {v0 v1 v2 : Vl} {h : Hh} {Q : Vl → Hh → Prop} {E : XP} (w : Ws (b_spread_out [some v0, some v1, some v2, none] h) (fun _ h1 => RetK h.length Q (.d .none) h1) ⟨RetK h.length Q, fun _ _ => False, fun _ _ => False, fun c fs _ h1 => E c fs (h1.take h.length)⟩) : Wp (m_spread_out [v0, v1, v2] h) Q E := wp_def rfl rfl w
noncomputable def b_gathered : Sv := sSeq (sIf (eT (eOp (gIn true) (eOp gIx (eVar 1) (eD (.int 0))) (eTup (aCons (eD (.str "plus")) (aCons (eD (.str "less")) (aNil)))))) (sRet (eD .none)) (sNil))
    (sSeq (sPar 3 4 (aCons (eCall m_work_at (aCons (eVar 0) (aCons (eOp gIx (eVar 1) (eD (.int 1))) (aNil)))) (aCons (eCall m_work_at (aCons (eVar 0) (aCons (eOp gIx (eVar 1) (eD (.int 2))) (aNil)))) (aNil))))
    (sSeq (sIf (tvOr (eT (eOp gNe (eOp gIx (eVar 3) (eD (.int 0))) (eD (.str "times")))) (tvOr (eT (eOp gNe (eOp gIx (eVar 4) (eD (.int 0))) (eD (.str "times")))) (eT (eOp gNe (eOp gIx (eVar 3) (eD (.int 1))) (eOp gIx (eVar 4) (eD (.int 1))))))) (sRet (eD .none)) (sNil))
    (sRet (eTup (aCons (eFz (eLst (aCons (eTup (aCons (eOp gIx (eVar 1) (eD (.int 0))) (aCons (eOp gIx (eVar 3) (eD (.int 2))) (aCons (eOp gIx (eVar 4) (eD (.int 2))) (aNil))))) (aNil)))) (aCons (eTup (aCons (eD (.str "times")) (aCons (eOp gIx (eVar 3) (eD (.int 1))) (aCons (eOp gIx (eVar 2) (eD (.int 0))) (aNil))))) (aNil)))))))
noncomputable def m_gathered : Fn := mkF 3 5 b_gathered
theorem en_gathered {v0 v1 v2 : Vl} {h : Hh} {Q : Vl → Hh → Prop} {E : XP} (w : Ws (b_gathered [some v0, some v1, some v2, none, none] h) (fun _ h1 => RetK h.length Q (.d .none) h1) ⟨RetK h.length Q, fun _ _ => False, fun _ _ => False, fun c fs _ h1 => E c fs (h1.take h.length)⟩) : Wp (m_gathered [v0, v1, v2] h) Q E := wp_def rfl rfl w
noncomputable def b_taken_twice : Sv := sRet (eIf (tvAnd (eT (eOp gEq (eOp gIx (eVar 1) (eD (.int 0))) (eD (.str "plus")))) (eT (eOp gEq (eOp gIx (eVar 1) (eD (.int 1))) (eOp gIx (eVar 1) (eD (.int 2)))))) (eTup (aCons (eFz (eLst (aCons (eD c_TWO) (aNil)))) (aCons (eTup (aCons (eD (.str "times")) (aCons (eOp gIx (eVar 1) (eD (.int 1))) (aCons (eOp gIx (eVar 2) (eD (.int 0))) (aNil))))) (aNil)))) (eD .none))
noncomputable def m_taken_twice : Fn := mkF 3 3 b_taken_twice
theorem en_taken_twice {v0 v1 v2 : Vl} {h : Hh} {Q : Vl → Hh → Prop} {E : XP} (w : Ws (b_taken_twice [some v0, some v1, some v2] h) (fun _ h1 => RetK h.length Q (.d .none) h1) ⟨RetK h.length Q, fun _ _ => False, fun _ _ => False, fun c fs _ h1 => E c fs (h1.take h.length)⟩) : Wp (m_taken_twice [v0, v1, v2] h) Q E := wp_def rfl rfl w
noncomputable def b_taken_once : Sv := sSeq (sSet 3 (eAnd (eOp gEq (eOp gIx (eVar 1) (eD (.int 0))) (eD (.str "times"))) (eOp gEq (eCall m_work_at (aCons (eVar 0) (aCons (eOp gIx (eVar 1) (eD (.int 2))) (aNil)))) (eD c_TWO))))
    (sRet (eIf (eT (eVar 3)) (eTup (aCons (eFz (eLst (aNil))) (aCons (eTup (aCons (eD (.str "plus")) (aCons (eOp gIx (eVar 1) (eD (.int 1))) (aCons (eOp gIx (eVar 1) (eD (.int 1))) (aNil))))) (aNil)))) (eD .none)))
noncomputable def m_taken_once : Fn := mkF 3 4 b_taken_once
theorem en_taken_once {v0 v1 v2 : Vl} {h : Hh} {Q : Vl → Hh → Prop} {E : XP} (w : Ws (b_taken_once [some v0, some v1, some v2, none] h) (fun _ h1 => RetK h.length Q (.d .none) h1) ⟨RetK h.length Q, fun _ _ => False, fun _ _ => False, fun c fs _ h1 => E c fs (h1.take h.length)⟩) : Wp (m_taken_once [v0, v1, v2] h) Q E := wp_def rfl rfl w
noncomputable def bt_made_by_2 : Sv := sRet (eIf (tvOr (eT (eOp gIsN (eVar 5) (eD .none))) (eT (eOp (gInt fGt) (eOp gAdd (eBlt gLen (aCons (eUnp (eOp gIx (eVar 0) (eD (.int 1)))) (aNil))) (eBlt gLen (aCons (eOp gIx (eVar 5) (eD (.int 0))) (aNil)))) (eD c_MOST_ROWS_turns)))) (eD .none) (eVar 5))
noncomputable def b_made_by : Sv := sSeq (sSet 4 (eG1 (gIxC d_MAKERS) (eVar 2)))
    (sSeq (sSet 5 (eCallF [("swapped", m_swapped), ("put_apart", m_put_apart), ("put_back", m_put_back), ("to_the_left", m_to_the_left), ("to_the_right", m_to_the_right), ("spread_out", m_spread_out), ("gathered", m_gathered), ("taken_twice", m_taken_twice), ("taken_once", m_taken_once)] (eVar 4) (aCons (eVar 0) (aCons (eOp gIx (eOp gIy (eUnp (eOp gIx (eVar 0) (eD (.int 1)))) (eVar 1)) (eD (.int 1))) (aCons (eVar 3) (aNil))))))
    (bt_made_by_2))
noncomputable def m_made_by : Fn := mkF 4 6 b_made_by
theorem en_made_by {v0 v1 v2 v3 : Vl} {h : Hh} {Q : Vl → Hh → Prop} {E : XP} (w : Ws (b_made_by [some v0, some v1, some v2, some v3, none, none] h) (fun _ h1 => RetK h.length Q (.d .none) h1) ⟨RetK h.length Q, fun _ _ => False, fun _ _ => False, fun c fs _ h1 => E c fs (h1.take h.length)⟩) : Wp (m_made_by [v0, v1, v2, v3] h) Q E := wp_def rfl rfl w
noncomputable def b_is_turn : Sv := sSeq (sIf (tvOr (tvNot (eT (eIsi .tuple (eVar 1)))) (tvOr (eT (eOp gNe (eBlt gLen (aCons (eVar 1) (aNil))) (eD (.int 2)))) (tvOr (tvNot (eT (eIsi .str (eOp gIx (eVar 1) (eD (.int 1)))))) (eT (eOp (gIn true) (eOp gIx (eVar 1) (eD (.int 1))) (eD c_TURN_WORDS)))))) (sRet (eD (.bool false))) (sNil))
    (sRet (eAnd (eIsi .int (eOp gIx (eVar 1) (eD (.int 0)))) (eAnd (eNot (eIsi .bool (eOp gIx (eVar 1) (eD (.int 0))))) (eChain (gInt fLe) (gInt fLt) (eD (.int 0)) (eOp gIx (eVar 1) (eD (.int 0))) (eBlt gLen (aCons (eUnp (eOp gIx (eVar 0) (eD (.int 1)))) (aNil)))))))
noncomputable def m_is_turn : Fn := mkF 2 2 b_is_turn
theorem en_is_turn {v0 v1 : Vl} {h : Hh} {Q : Vl → Hh → Prop} {E : XP} (w : Ws (b_is_turn [some v0, some v1] h) (fun _ h1 => RetK h.length Q (.d .none) h1) ⟨RetK h.length Q, fun _ _ => False, fun _ _ => False, fun c fs _ h1 => E c fs (h1.take h.length)⟩) : Wp (m_is_turn [v0, v1] h) Q E := wp_def rfl rfl w
noncomputable def b_turned_by : Sv := sSeq (sExpr (eCall m_need_program (aCons (eVar 0) (aNil))))
    (sSeq (sSet 2 (eCall m_new_names (aCons (eVar 0) (aNil))))
    (sSeq (sSet 3 (eIf (eT (eCall m_is_turn (aCons (eVar 0) (aCons (eVar 1) (aNil))))) (eCall m_made_by (aCons (eVar 0) (aCons (eOp gIx (eVar 1) (eD (.int 0))) (aCons (eOp gIx (eVar 1) (eD (.int 1))) (aCons (eVar 2) (aNil)))))) (eD .none)))
    (sSeq (sIf (eT (eOp gIsN (eVar 3) (eD .none))) (sRaise1 "BadTurn" "place" (eTup (aNil))) (sNil))
    (sSeq (sSet 4 (eOp gIx (eVar 1) (eD (.int 0))))
    (sSeq (sSet 5 (eFz (eBlt gLZ (aCons (eVar 2) (aCons (eOp gIx (eVar 3) (eD (.int 0))) (aNil))))))
    (sSeq (sSet 6 (eFz (eOp gAdd (eFz (eOp gAdd (eFz (eOp gAdd (eFz (eBlt gList (aCons (eFz (eSl (eUnp (eOp gIx (eVar 0) (eD (.int 1)))) (oNone) (oSome (eVar 4)))) (aNil)))) (eVar 5))) (eFz (eLst (aCons (eTup (aCons (eOp gIx (eOp gIy (eUnp (eOp gIx (eVar 0) (eD (.int 1)))) (eVar 4)) (eD (.int 0))) (aCons (eOp gIx (eVar 3) (eD (.int 1))) (aNil)))) (aNil)))))) (eFz (eBlt gList (aCons (eFz (eSl (eUnp (eOp gIx (eVar 0) (eD (.int 1)))) (oSome (eOp gAdd (eVar 4) (eD (.int 1)))) (oNone))) (aNil)))))))
    (sRet (eCall m_pruned (aCons (eTup (aCons (eOp gIx (eVar 0) (eD (.int 0))) (aCons (eBlt gTupP (aCons (eVar 6) (aNil))) aNil))) (aNil))))))))))
noncomputable def m_turned_by : Fn := mkF 2 7 b_turned_by
theorem en_turned_by {v0 v1 : Vl} {h : Hh} {Q : Vl → Hh → Prop} {E : XP} (w : Ws (b_turned_by [some v0, some v1, none, none, none, none, none] h) (fun _ h1 => RetK h.length Q (.d .none) h1) ⟨RetK h.length Q, fun _ _ => False, fun _ _ => False, fun c fs _ h1 => E c fs (h1.take h.length)⟩) : Wp (m_turned_by [v0, v1] h) Q E := wp_def rfl rfl w
noncomputable def b__law_cell_at : Sv := sSeq (sIf (eT (eOp (gInt fLt) (eVar 1) (eBlt gLen (aCons (eVar 0) (aNil))))) (sRet (eOp gIy (eVar 0) (eVar 1))) (sNil))
    (sRet (eD (.int 0)))
noncomputable def m__law_cell_at : Fn := mkF 2 2 b__law_cell_at
theorem en__law_cell_at {v0 v1 : Vl} {h : Hh} {Q : Vl → Hh → Prop} {E : XP} (w : Ws (b__law_cell_at [some v0, some v1] h) (fun _ h1 => RetK h.length Q (.d .none) h1) ⟨RetK h.length Q, fun _ _ => False, fun _ _ => False, fun c fs _ h1 => E c fs (h1.take h.length)⟩) : Wp (m__law_cell_at [v0, v1] h) Q E := wp_def rfl rfl w
noncomputable def b__law_mixed : Sv := sSeq (sSet 2 (eOp (gInt fMod) (eOp gAdd (eOp gAdd (eOp (gInt fMod) (eVar 0) (eD (.int 1000000007))) (eOp (gInt fMul) (eD (.int 7919)) (eVar 1))) (eD (.int 3))) (eD (.int 1000000007))))
    (sRet (eOp (gInt fMod) (eOp (gInt fMul) (eOp (gInt fMod) (eOp (gInt fMul) (eVar 2) (eVar 2)) (eD (.int 998244353))) (eOp gAdd (eVar 2) (eD (.int 5)))) (eD (.int 1000000009))))
noncomputable def m__law_mixed : Fn := mkF 2 3 b__law_mixed
theorem en__law_mixed {v0 v1 : Vl} {h : Hh} {Q : Vl → Hh → Prop} {E : XP} (w : Ws (b__law_mixed [some v0, some v1, none] h) (fun _ h1 => RetK h.length Q (.d .none) h1) ⟨RetK h.length Q, fun _ _ => False, fun _ _ => False, fun c fs _ h1 => E c fs (h1.take h.length)⟩) : Wp (m__law_mixed [v0, v1] h) Q E := wp_def rfl rfl w
noncomputable def b__law_state : Sv := sSeq (sSet 2 (eBlt gAbs (aCons (eCall m__law_cell_at (aCons (eVar 0) (aCons (eVar 1) (aNil)))) (aNil))))
    (sSeq (sSet 3 (eOp gAdd (eCall m__law_mixed (aCons (eCall m__law_cell_at (aCons (eVar 0) (aCons (eOp gAdd (eVar 1) (eD (.int 1))) (aNil)))) (aCons (eD (.int 5)) (aNil)))) (eCall m__law_mixed (aCons (eCall m__law_cell_at (aCons (eVar 0) (aCons (eOp gAdd (eVar 1) (eD (.int 2))) (aNil)))) (aCons (eD (.int 9)) (aNil))))))
    (sRet (eDct (pCons (eD (.str "left")) (eOp (gInt fMul) (eVar 2) (eBlt gInt1 (aCons (eOp (gInt fGe) (eVar 2) (eOp (gInt fPow) (eD (.int 10)) (eD (.int 18)))) (aNil)))) (pCons (eD (.str "seed")) (eCall m__law_mixed (aCons (eOp gAdd (eCall m__law_cell_at (aCons (eVar 0) (aCons (eVar 1) (aNil)))) (eVar 3)) (aCons (eVar 1) (aNil)))) (pCons (eD (.str "at")) (eD (.int 0)) (pNil)))))))
noncomputable def m__law_state : Fn := mkF 2 4 b__law_state
theorem en__law_state {v0 v1 : Vl} {h : Hh} {Q : Vl → Hh → Prop} {E : XP} (w : Ws (b__law_state [some v0, some v1, none, none] h) (fun _ h1 => RetK h.length Q (.d .none) h1) ⟨RetK h.length Q, fun _ _ => False, fun _ _ => False, fun c fs _ h1 => E c fs (h1.take h.length)⟩) : Wp (m__law_state [v0, v1] h) Q E := wp_def rfl rfl w
noncomputable def b__law_draw : Sv := sSeq (sAsg (gSetD (eVar 0) (eD (.str "at"))) (eOp gAdd (eOp gDG (eVar 0) (eD (.str "at"))) (eD (.int 1))))
    (sSeq (sIf (eT (eOp (gInt fGt) (eOp gDG (eVar 0) (eD (.str "left"))) (eD (.int 0)))) (sSeq (sSet 2 (eOp (gInt fMod) (eOp gDG (eVar 0) (eD (.str "left"))) (eVar 1)))
    (sSeq (sAsg (gSetD (eVar 0) (eD (.str "left"))) (eOp (gInt fDiv) (eOp gDG (eVar 0) (eD (.str "left"))) (eVar 1)))
    (sRet (eVar 2)))) (sNil))
    (sRet (eOp (gInt fMod) (eCall m__law_mixed (aCons (eCall m__law_mixed (aCons (eOp gDG (eVar 0) (eD (.str "seed"))) (aCons (eOp gDG (eVar 0) (eD (.str "at"))) (aNil)))) (aCons (eOp gAdd (eD (.int 40)) (eOp gDG (eVar 0) (eD (.str "at")))) (aNil)))) (eVar 1))))
noncomputable def m__law_draw : Fn := mkF 2 3 b__law_draw
theorem en__law_draw {v0 v1 : Vl} {h : Hh} {Q : Vl → Hh → Prop} {E : XP} (w : Ws (b__law_draw [some v0, some v1, none] h) (fun _ h1 => RetK h.length Q (.d .none) h1) ⟨RetK h.length Q, fun _ _ => False, fun _ _ => False, fun c fs _ h1 => E c fs (h1.take h.length)⟩) : Wp (m__law_draw [v0, v1] h) Q E := wp_def rfl rfl w
noncomputable def b__law_fraction : Sv := sSeq (sPar 2 3 (aCons (eBlt gAbs (aCons (eVar 0) (aNil))) (aCons (eBlt gAbs (aCons (eVar 1) (aNil))) (aNil))))
    (sSeq (sWhile (eT (eOp (gInt fGt) (eVar 3) (eD (.int 0)))) (sPar 2 3 (aCons (eVar 3) (aCons (eOp (gInt fMod) (eVar 2) (eVar 3)) (aNil)))))
    (sSeq (sSet 4 (eIf (eT (eOp (gInt fGt) (eVar 1) (eD (.int 0)))) (eD (.int 1)) (eNeg (eD (.int 1)))))
    (sRet (eTup (aCons (eOp (gInt fDiv) (eOp (gInt fMul) (eVar 4) (eVar 0)) (eVar 2)) (aCons (eOp (gInt fDiv) (eOp (gInt fMul) (eVar 4) (eVar 1)) (eVar 2)) (aNil)))))))
noncomputable def m__law_fraction : Fn := mkF 2 5 b__law_fraction
theorem en__law_fraction {v0 v1 : Vl} {h : Hh} {Q : Vl → Hh → Prop} {E : XP} (w : Ws (b__law_fraction [some v0, some v1, none, none, none] h) (fun _ h1 => RetK h.length Q (.d .none) h1) ⟨RetK h.length Q, fun _ _ => False, fun _ _ => False, fun c fs _ h1 => E c fs (h1.take h.length)⟩) : Wp (m__law_fraction [v0, v1] h) Q E := wp_def rfl rfl w
noncomputable def b__law_names : Sv := sSeq (sSet 2 (eFz (eLst (aCons (eD (.str "b")) (aCons (eD (.str "zz")) (aCons (eD (.str "a")) (aCons (eD (.str "mark")) (aCons (eD (.str "q")) (aCons (eD (.str "aa")) (aCons (eD (.str "low")) (aCons (eD (.str "c")) (aCons (eD (.str "wide")) (aCons (eD (.str "y")) (aCons (eD (.str "ab")) (aCons (eD (.str "d")) (aCons (eD (.str "six")) (aCons (eD (.str "t")) (aCons (eD (.str "ac")) (aCons (eD (.str "z")) (aCons (eD (.str "ba")) (aCons (eD (.str "g")) (aNil))))))))))))))))))))))
    (sSeq (sSet 3 (eCall m__law_draw (aCons (eVar 0) (aCons (eD (.int 18)) (aNil)))))
    (sSeq (sSet 4 (eOp gIx (eFz (eLst (aCons (eD (.int 1)) (aCons (eD (.int 5)) (aCons (eD (.int 7)) (aCons (eD (.int 11)) (aNil))))))) (eCall m__law_draw (aCons (eVar 0) (aCons (eD (.int 4)) (aNil))))))
    (sRet (eFz (eLc [5] (iRange1 (aCons (eVar 1) (aNil))) (gN 5) (tvYes) (eOp gIx (eVar 2) (eOp (gInt fMod) (eOp gAdd (eVar 3) (eOp (gInt fMul) (eVar 4) (eVar 5))) (eD (.int 18)))))))))
noncomputable def m__law_names : Fn := mkF 2 6 b__law_names
theorem en__law_names {v0 v1 : Vl} {h : Hh} {Q : Vl → Hh → Prop} {E : XP} (w : Ws (b__law_names [some v0, some v1, none, none, none, none] h) (fun _ h1 => RetK h.length Q (.d .none) h1) ⟨RetK h.length Q, fun _ _ => False, fun _ _ => False, fun c fs _ h1 => E c fs (h1.take h.length)⟩) : Wp (m__law_names [v0, v1] h) Q E := wp_def rfl rfl w
noncomputable def b__law_number : Sv := sSeq (sSet 1 (eOp gIx (eFz (eLst (aCons (eD (.int 1)) (aCons (eD (.int 1)) (aCons (eD (.int 1)) (aCons (eD (.int 2)) (aCons (eD (.int 3)) (aCons (eD (.int 10)) (aNil))))))))) (eCall m__law_draw (aCons (eVar 0) (aCons (eD (.int 6)) (aNil))))))
    (sRet (eCall m__law_fraction (aCons (eOp gIx (eFz (eLst (aCons (eD (.int 0)) (aCons (eD (.int 1)) (aCons (eD (.int 2)) (aCons (eNeg (eD (.int 1))) (aCons (eD (.int 2)) (aCons (eD (.int 5)) (aCons (eNeg (eD (.int 3))) (aCons (eD (.int 7)) (aNil))))))))))) (eCall m__law_draw (aCons (eVar 0) (aCons (eD (.int 8)) (aNil))))) (aCons (eVar 1) (aNil)))))
noncomputable def m__law_number : Fn := mkF 1 2 b__law_number
theorem en__law_number {v0 : Vl} {h : Hh} {Q : Vl → Hh → Prop} {E : XP} (w : Ws (b__law_number [some v0, none] h) (fun _ h1 => RetK h.length Q (.d .none) h1) ⟨RetK h.length Q, fun _ _ => False, fun _ _ => False, fun c fs _ h1 => E c fs (h1.take h.length)⟩) : Wp (m__law_number [v0] h) Q E := wp_def rfl rfl w
noncomputable def b__law_any_work : Sv := sSeq (sSet 2 (eFz (eLc [3] (iRange1 (aCons (eD (.int 4)) (aNil))) (gN 3) (tvYes) (eOp gIx (eVar 1) (eCall m__law_draw (aCons (eVar 0) (aCons (eBlt gLen (aCons (eVar 1) (aNil))) (aNil))))))))
    (sSeq (sSet 4 (eFz (eLst (aCons (eD (.str "plus")) (aCons (eD (.str "less")) (aCons (eD (.str "times")) (aCons (eD (.str "over")) (aCons (eD (.str "turned")) (aCons (eD (.str "size")) (aCons (eD (.str "least")) (aCons (eD (.str "most")) (aCons (eD (.str "pick")) (aCons (eD (.str "times")) (aCons (eD (.str "plus")) (aNil)))))))))))))))
    (sSeq (sSet 5 (eOp gIx (eVar 4) (eCall m__law_draw (aCons (eVar 0) (aCons (eD (.int 11)) (aNil))))))
    (sSeq (sIf (eT (eOp (gIn false) (eVar 5) (eTup (aCons (eD (.str "turned")) (aCons (eD (.str "size")) (aNil)))))) (sRet (eTup (aCons (eVar 5) (aCons (eOp gIx (eVar 2) (eD (.int 0))) (aNil))))) (sNil))
    (sRet (eOp gAdd (eTup (aCons (eVar 5) (aNil))) (eBlt gTuple (aCons (eIf (eT (eOp gEq (eVar 5) (eD (.str "pick")))) (eVar 2) (eFz (eSl (eVar 2) (oNone) (oSome (eD (.int 2)))))) (aNil))))))))
noncomputable def m__law_any_work : Fn := mkF 2 6 b__law_any_work
theorem en__law_any_work {v0 v1 : Vl} {h : Hh} {Q : Vl → Hh → Prop} {E : XP} (w : Ws (b__law_any_work [some v0, some v1, none, none, none, none] h) (fun _ h1 => RetK h.length Q (.d .none) h1) ⟨RetK h.length Q, fun _ _ => False, fun _ _ => False, fun c fs _ h1 => E c fs (h1.take h.length)⟩) : Wp (m__law_any_work [v0, v1] h) Q E := wp_def rfl rfl w
noncomputable def bl__law_any_program_1 : Sv := sSeq (sSet 7 (eCall m__law_any_work (aCons (eVar 0) (aCons (eFz (eSl (eVar 4) (oSome (eNeg (eD (.int 4)))) (oNone))) (aNil)))))
    (sSeq (sIf (eT (eOp gEq (eCall m__law_draw (aCons (eVar 0) (aCons (eD (.int 5)) (aNil)))) (eD (.int 0)))) (sSet 7 (eTup (aCons (eD (.str "number")) (aCons (eOp gIx (eFz (eLst (aCons (eTup (aCons (eD (.int 2)) (aCons (eD (.int 1)) (aNil)))) (aCons (eCall m__law_number (aCons (eVar 0) (aNil))) (aNil))))) (eCall m__law_draw (aCons (eVar 0) (aCons (eD (.int 2)) (aNil))))) (aNil))))) (sNil))
    (sSeq (sExpr (eMt tyL gApp (eVar 5) (aCons (eTup (aCons (eVar 6) (aCons (eVar 7) (aNil)))) (aNil))))
    (sSet 4 (eFz (eOp gAdd (eVar 4) (eFz (eLst (aCons (eVar 6) (aNil)))))))))
noncomputable def b__law_any_program : Sv := sSeq (sSet 2 (eCall m__law_names (aCons (eVar 0) (aCons (eOp gAdd (eD (.int 3)) (eVar 1)) (aNil)))))
    (sSeq (sSet 3 (eOp gAdd (eD (.int 1)) (eCall m__law_draw (aCons (eVar 0) (aCons (eD (.int 3)) (aNil))))))
    (sSeq (sPar 4 5 (aCons (eFz (eSl (eVar 2) (oNone) (oSome (eVar 3)))) (aCons (eLst (aNil)) (aNil))))
    (sSeq (sFor (iv itQ (eFz (eSl (eVar 2) (oSome (eD (.int 3))) (oSome (eOp gAdd (eD (.int 5)) (eCall m__law_draw (aCons (eVar 0) (aCons (eOp (gInt fSub) (eVar 1) (eD (.int 1))) (aNil))))))))) (gN 6) bl__law_any_program_1)
    (sSeq (sFrz 5)
    (sRet (eTup (aCons (eBlt gTuple (aCons (eFz (eSl (eVar 2) (oNone) (oSome (eVar 3)))) (aNil))) (aCons (eBlt gTupP (aCons (eVar 5) (aNil))) aNil))))))))
noncomputable def m__law_any_program : Fn := mkF 2 8 b__law_any_program
theorem en__law_any_program {v0 v1 : Vl} {h : Hh} {Q : Vl → Hh → Prop} {E : XP} (w : Ws (b__law_any_program [some v0, some v1, none, none, none, none, none, none] h) (fun _ h1 => RetK h.length Q (.d .none) h1) ⟨RetK h.length Q, fun _ _ => False, fun _ _ => False, fun c fs _ h1 => E c fs (h1.take h.length)⟩) : Wp (m__law_any_program [v0, v1] h) Q E := wp_def rfl rfl w
noncomputable def b__law_work_at : Sv := sRet (eMt tyDk gGet2 (eBlt gDT (aCons (eOp gIx (eVar 0) (eD (.int 1))) aNil)) (aCons (eVar 1) (aCons (eTup (aCons (eD (.str "")) (aNil))) (aNil))))
noncomputable def m__law_work_at : Fn := mkF 2 2 b__law_work_at
theorem en__law_work_at {v0 v1 : Vl} {h : Hh} {Q : Vl → Hh → Prop} {E : XP} (w : Ws (b__law_work_at [some v0, some v1] h) (fun _ h1 => RetK h.length Q (.d .none) h1) ⟨RetK h.length Q, fun _ _ => False, fun _ _ => False, fun c fs _ h1 => E c fs (h1.take h.length)⟩) : Wp (m__law_work_at [v0, v1] h) Q E := wp_def rfl rfl w
noncomputable def bt__law_made_4 : Sv := sSeq (sIf (eT (eOp gEq (eVar 2) (eD (.str "swap")))) (sRet (eIf (eT (eOp (gIn false) (eOp gIx (eVar 4) (eD (.int 0))) (eTup (aCons (eD (.str "plus")) (aCons (eD (.str "times")) (aCons (eD (.str "least")) (aCons (eD (.str "most")) (aNil)))))))) (eTup (aCons (eFz (eLst (aNil))) (aCons (eTup (aCons (eOp gIx (eVar 4) (eD (.int 0))) (aCons (eOp gIx (eVar 4) (eD (.int 2))) (aCons (eOp gIx (eVar 4) (eD (.int 1))) (aNil))))) (aNil)))) (eD .none))) (sNil))
    (sSeq (sIf (eT (eOp gEq (eVar 2) (eD (.str "apart")))) (sRet (eIf (eT (eOp gEq (eOp gIx (eVar 4) (eD (.int 0))) (eD (.str "less")))) (eTup (aCons (eFz (eLst (aCons (eTup (aCons (eD (.str "turned")) (aCons (eOp gIx (eVar 4) (eD (.int 2))) (aNil)))) (aNil)))) (aCons (eTup (aCons (eD (.str "plus")) (aCons (eOp gIx (eVar 4) (eD (.int 1))) (aCons (eVar 7) (aNil))))) (aNil)))) (eD .none))) (sNil))
    (sSeq (sIf (eT (eOp gEq (eVar 2) (eD (.str "back")))) (sRet (eIf (eT (eOp gEq (eTup (aCons (eOp gIx (eVar 4) (eD (.int 0))) (aCons (eOp gIx (eVar 6) (eD (.int 0))) (aNil)))) (eTup (aCons (eD (.str "plus")) (aCons (eD (.str "turned")) (aNil)))))) (eTup (aCons (eFz (eLst (aNil))) (aCons (eTup (aCons (eD (.str "less")) (aCons (eOp gIx (eVar 4) (eD (.int 1))) (aCons (eOp gIx (eVar 6) (eD (.int 1))) (aNil))))) (aNil)))) (eD .none))) (sNil))
    (sSeq (sIf (tvAnd (eT (eOp gEq (eVar 2) (eD (.str "left")))) (eT (eOp (gIn false) (eOp gIx (eVar 4) (eD (.int 0))) (eTup (aCons (eD (.str "plus")) (aCons (eD (.str "times")) (aNil))))))) (sRet (eIf (eT (eOp gEq (eOp gIx (eVar 6) (eD (.int 0))) (eOp gIx (eVar 4) (eD (.int 0))))) (eTup (aCons (eFz (eLst (aCons (eTup (aCons (eOp gIx (eVar 4) (eD (.int 0))) (aCons (eOp gIx (eVar 4) (eD (.int 1))) (aCons (eOp gIx (eVar 6) (eD (.int 1))) (aNil))))) (aNil)))) (aCons (eTup (aCons (eOp gIx (eVar 4) (eD (.int 0))) (aCons (eVar 7) (aCons (eOp gIx (eVar 6) (eD (.int 2))) (aNil))))) (aNil)))) (eD .none))) (sNil))
    (sSeq (sIf (tvAnd (eT (eOp gEq (eVar 2) (eD (.str "right")))) (eT (eOp (gIn false) (eOp gIx (eVar 4) (eD (.int 0))) (eTup (aCons (eD (.str "plus")) (aCons (eD (.str "times")) (aNil))))))) (sRet (eIf (eT (eOp gEq (eOp gIx (eVar 5) (eD (.int 0))) (eOp gIx (eVar 4) (eD (.int 0))))) (eTup (aCons (eFz (eLst (aCons (eTup (aCons (eOp gIx (eVar 4) (eD (.int 0))) (aCons (eOp gIx (eVar 5) (eD (.int 2))) (aCons (eOp gIx (eVar 4) (eD (.int 2))) (aNil))))) (aNil)))) (aCons (eTup (aCons (eOp gIx (eVar 4) (eD (.int 0))) (aCons (eOp gIx (eVar 5) (eD (.int 1))) (aCons (eVar 7) (aNil))))) (aNil)))) (eD .none))) (sNil))
    (sSeq (sIf (tvAnd (eT (eOp gEq (eVar 2) (eD (.str "spread")))) (tvAnd (eT (eOp gEq (eOp gIx (eVar 4) (eD (.int 0))) (eD (.str "times")))) (eT (eOp (gIn false) (eOp gIx (eVar 6) (eD (.int 0))) (eTup (aCons (eD (.str "plus")) (aCons (eD (.str "less")) (aNil)))))))) (sRet (eTup (aCons (eFz (eLst (aCons (eTup (aCons (eD (.str "times")) (aCons (eOp gIx (eVar 4) (eD (.int 1))) (aCons (eOp gIx (eVar 6) (eD (.int 1))) (aNil))))) (aCons (eTup (aCons (eD (.str "times")) (aCons (eOp gIx (eVar 4) (eD (.int 1))) (aCons (eOp gIx (eVar 6) (eD (.int 2))) (aNil))))) (aNil))))) (aCons (eTup (aCons (eOp gIx (eVar 6) (eD (.int 0))) (aCons (eVar 7) (aCons (eVar 8) (aNil))))) (aNil))))) (sNil))
    (sSeq (sIf (tvAnd (eT (eOp gEq (eVar 2) (eD (.str "gather")))) (tvAnd (eT (eOp (gIn false) (eOp gIx (eVar 4) (eD (.int 0))) (eTup (aCons (eD (.str "plus")) (aCons (eD (.str "less")) (aNil)))))) (eT (eOp gEq (eTup (aCons (eOp gIx (eVar 5) (eD (.int 0))) (aCons (eOp gIx (eVar 6) (eD (.int 0))) (aNil)))) (eTup (aCons (eD (.str "times")) (aCons (eD (.str "times")) (aNil)))))))) (sRet (eIf (eT (eOp gEq (eOp gIx (eVar 5) (eD (.int 1))) (eOp gIx (eVar 6) (eD (.int 1))))) (eTup (aCons (eFz (eLst (aCons (eTup (aCons (eOp gIx (eVar 4) (eD (.int 0))) (aCons (eOp gIx (eVar 5) (eD (.int 2))) (aCons (eOp gIx (eVar 6) (eD (.int 2))) (aNil))))) (aNil)))) (aCons (eTup (aCons (eD (.str "times")) (aCons (eOp gIx (eVar 5) (eD (.int 1))) (aCons (eVar 7) (aNil))))) (aNil)))) (eD .none))) (sNil))
    (sSeq (sIf (tvAnd (eT (eOp gEq (eVar 2) (eD (.str "twice")))) (tvAnd (eT (eOp gEq (eOp gIx (eVar 4) (eD (.int 0))) (eD (.str "plus")))) (eT (eOp gEq (eOp gIx (eVar 4) (eD (.int 1))) (eOp gIx (eVar 4) (eD (.int 2))))))) (sRet (eTup (aCons (eFz (eLst (aCons (eTup (aCons (eD (.str "number")) (aCons (eTup (aCons (eD (.int 2)) (aCons (eD (.int 1)) (aNil)))) (aNil)))) (aNil)))) (aCons (eTup (aCons (eD (.str "times")) (aCons (eOp gIx (eVar 4) (eD (.int 1))) (aCons (eVar 7) (aNil))))) (aNil))))) (sNil))
    (sSeq (sIf (tvAnd (eT (eOp gEq (eVar 2) (eD (.str "once")))) (tvAnd (eT (eOp gEq (eOp gIx (eVar 4) (eD (.int 0))) (eD (.str "times")))) (eT (eOp gEq (eVar 6) (eTup (aCons (eD (.str "number")) (aCons (eTup (aCons (eD (.int 2)) (aCons (eD (.int 1)) (aNil)))) (aNil)))))))) (sRet (eTup (aCons (eFz (eLst (aNil))) (aCons (eTup (aCons (eD (.str "plus")) (aCons (eOp gIx (eVar 4) (eD (.int 1))) (aCons (eOp gIx (eVar 4) (eD (.int 1))) (aNil))))) (aNil))))) (sNil))
    (sRet (eD .none))))))))))
noncomputable def b__law_made : Sv := sSeq (sSet 4 (eOp gIx (eOp gIy (eUnp (eOp gIx (eVar 0) (eD (.int 1)))) (eVar 1)) (eD (.int 1))))
    (sSeq (sSet 5 (eIf (eT (eOp gNe (eOp gIx (eVar 4) (eD (.int 0))) (eD (.str "number")))) (eCall m__law_work_at (aCons (eVar 0) (aCons (eOp gIx (eVar 4) (eD (.int 1))) (aNil)))) (eTup (aCons (eD (.str "")) (aNil)))))
    (sSeq (sSet 6 (eIf (eT (eOp (gInt fGt) (eBlt gLen (aCons (eVar 4) (aNil))) (eD (.int 2)))) (eCall m__law_work_at (aCons (eVar 0) (aCons (eOp gIx (eVar 4) (eD (.int 2))) (aNil)))) (eTup (aCons (eD (.str "")) (aNil)))))
    (sSeq (sAsg (gTupL 2 (gsCons (gN 7) (gsCons (gN 8) (gsNil)))) (eVar 3))
    (bt__law_made_4))))
noncomputable def m__law_made : Fn := mkF 4 9 b__law_made
theorem en__law_made {v0 v1 v2 v3 : Vl} {h : Hh} {Q : Vl → Hh → Prop} {E : XP} (w : Ws (b__law_made [some v0, some v1, some v2, some v3, none, none, none, none, none] h) (fun _ h1 => RetK h.length Q (.d .none) h1) ⟨RetK h.length Q, fun _ _ => False, fun _ _ => False, fun c fs _ h1 => E c fs (h1.take h.length)⟩) : Wp (m__law_made [v0, v1, v2, v3] h) Q E := wp_def rfl rfl w
noncomputable def b__law_fresh : Sv := sSeq (sSet 1 (eFz (eOp gAdd (eFz (eBlt gList (aCons (eOp gIx (eVar 0) (eD (.int 0))) (aNil)))) (eFz (eLc [2, 3] (iv itQ (eUnp (eOp gIx (eVar 0) (eD (.int 1))))) (gTupT 2 (gsCons (gN 2) (gsCons (gN 3) (gsNil)))) (tvYes) (eVar 2))))))
    (sSeq (sSet 4 (eD (.str "abcdefghijklmnopqrstuvwxyz")))
    (sSeq (sSet 5 (eFz (eOp gAdd (eFz (eOp gAdd (eFz (eBlt gListS (aCons (eVar 4) (aNil)))) (eFz (eLc [6] (iv itS (eVar 4)) (gN 6) (tvYes) (eOp gAdd (eD (.str "a")) (eVar 6)))))) (eFz (eLc [6] (iv itS (eVar 4)) (gN 6) (tvYes) (eOp gAdd (eD (.str "b")) (eVar 6)))))))
    (sRet (eFz (eSl (eFz (eLc [7] (iv itQ (eVar 5)) (gN 7) (eT (eOp (gIn true) (eVar 7) (eVar 1))) (eVar 7))) (oNone) (oSome (eD (.int 2))))))))
noncomputable def m__law_fresh : Fn := mkF 1 8 b__law_fresh
theorem en__law_fresh {v0 : Vl} {h : Hh} {Q : Vl → Hh → Prop} {E : XP} (w : Ws (b__law_fresh [some v0, none, none, none, none, none, none, none] h) (fun _ h1 => RetK h.length Q (.d .none) h1) ⟨RetK h.length Q, fun _ _ => False, fun _ _ => False, fun c fs _ h1 => E c fs (h1.take h.length)⟩) : Wp (m__law_fresh [v0] h) Q E := wp_def rfl rfl w
noncomputable def bl__law_all_turns_1 : Sv := sSeq (sSet 6 (eCall m__law_made (aCons (eVar 0) (aCons (eVar 4) (aCons (eVar 5) (aCons (eVar 2) (aNil)))))))
    (sIf (tvAnd (eT (eOp gNotN (eVar 6) (eD .none))) (eT (eOp (gInt fLe) (eOp gAdd (eBlt gLen (aCons (eUnp (eOp gIx (eVar 0) (eD (.int 1)))) (aNil))) (eBlt gLen (aCons (eOp gIx (eVar 6) (eD (.int 0))) (aNil)))) (eD (.int 40))))) (sExpr (eMt tyL gApp (eVar 3) (aCons (eTup (aCons (eVar 4) (aCons (eVar 5) (aNil)))) (aNil)))) (sNil))
noncomputable def bl__law_all_turns_2 : Sv := sFor (iv itQ (eVar 1)) (gN 5) bl__law_all_turns_1
noncomputable def b__law_all_turns : Sv := sSeq (sSet 1 (eFz (eLst (aCons (eD (.str "swap")) (aCons (eD (.str "apart")) (aCons (eD (.str "back")) (aCons (eD (.str "left")) (aCons (eD (.str "right")) (aCons (eD (.str "spread")) (aCons (eD (.str "gather")) (aCons (eD (.str "twice")) (aCons (eD (.str "once")) (aNil)))))))))))))
    (sSeq (sSet 2 (eCall m__law_fresh (aCons (eVar 0) (aNil))))
    (sSeq (sSet 3 (eLst (aNil)))
    (sSeq (sFor (iRange1 (aCons (eBlt gLen (aCons (eUnp (eOp gIx (eVar 0) (eD (.int 1)))) (aNil))) (aNil))) (gN 4) bl__law_all_turns_2)
    (sSeq (sFrz 3)
    (sRet (eVar 3))))))
noncomputable def m__law_all_turns : Fn := mkF 1 7 b__law_all_turns
theorem en__law_all_turns {v0 : Vl} {h : Hh} {Q : Vl → Hh → Prop} {E : XP} (w : Ws (b__law_all_turns [some v0, none, none, none, none, none, none] h) (fun _ h1 => RetK h.length Q (.d .none) h1) ⟨RetK h.length Q, fun _ _ => False, fun _ _ => False, fun c fs _ h1 => E c fs (h1.take h.length)⟩) : Wp (m__law_all_turns [v0] h) Q E := wp_def rfl rfl w
noncomputable def bl__law_turned_1 : Sv := sIf (tvAnd (eT (eOp (gIn false) (eVar 9) (eVar 8))) (eT (eOp gNe (eOp gIx (eVar 6) (eD (.int 0))) (eD (.str "number"))))) (sSet 8 (eFz (eOp gAdd (eVar 8) (eFz (eBlt gList (aCons (eFz (eSl (eVar 6) (oSome (eD (.int 1))) (oNone))) (aNil))))))) (sNil)
noncomputable def b__law_turned : Sv := sSeq (sAsg (gTupT 2 (gsCons (gN 2) (gsCons (gN 3) (gsNil)))) (eVar 1))
    (sSeq (sSet 4 (eCall m__law_fresh (aCons (eVar 0) (aNil))))
    (sSeq (sAsg (gTupT 2 (gsCons (gN 5) (gsCons (gN 6) (gsNil)))) (eCall m__law_made (aCons (eVar 0) (aCons (eVar 2) (aCons (eVar 3) (aCons (eVar 4) (aNil)))))))
    (sSeq (sSet 7 (eBlt gList (aCons (eUnp (eOp gIx (eVar 0) (eD (.int 1)))) (aNil))))
    (sSeq (sAsg (gSetL (eVar 7) (eVar 2)) (eTup (aCons (eOp gIx (eOp gIy (eVar 7) (eVar 2)) (eD (.int 0))) (aCons (eVar 6) (aNil)))))
    (sSeq (sFrz 7)
    (sSeq (sSet 7 (eFz (eOp gAdd (eFz (eOp gAdd (eFz (eSl (eVar 7) (oNone) (oSome (eVar 2)))) (eFz (eBlt gLZ (aCons (eVar 4) (aCons (eVar 5) (aNil))))))) (eFz (eSl (eVar 7) (oSome (eVar 2)) (oNone))))))
    (sSeq (sSet 8 (eFz (eLst (aCons (eOp gIx (eOp gIx (eVar 7) (eNeg (eD (.int 1)))) (eD (.int 0))) (aNil)))))
    (sSeq (sFor (iv itQ (eFz (eRv (eVar 7)))) (gTupT 2 (gsCons (gN 9) (gsCons (gN 6) (gsNil)))) bl__law_turned_1)
    (sRet (eTup (aCons (eOp gIx (eVar 0) (eD (.int 0))) (aCons (eBlt gTupP (aCons (eFz (eLc [10] (iv itQ (eVar 7)) (gN 10) (eT (eOp (gIn false) (eOp gIx (eVar 10) (eD (.int 0))) (eVar 8))) (eVar 10))) (aNil))) aNil))))))))))))
noncomputable def m__law_turned : Fn := mkF 2 11 b__law_turned
theorem en__law_turned {v0 v1 : Vl} {h : Hh} {Q : Vl → Hh → Prop} {E : XP} (w : Ws (b__law_turned [some v0, some v1, none, none, none, none, none, none, none, none, none] h) (fun _ h1 => RetK h.length Q (.d .none) h1) ⟨RetK h.length Q, fun _ _ => False, fun _ _ => False, fun c fs _ h1 => E c fs (h1.take h.length)⟩) : Wp (m__law_turned [v0, v1] h) Q E := wp_def rfl rfl w
noncomputable def bl__law_right_1 : Sv := sIf (eT (eOp gNe (eBlt gReprL (aCons (eUpA (eCall m_turned_by (aCons (eVar 0) (aCons (eVar 3) (aNil))))) aNil)) (eBlt gReprL (aCons (eUpA (eCall m__law_turned (aCons (eVar 0) (aCons (eVar 3) (aNil))))) aNil)))) (sRet (eD (.bool false))) (sNil)
noncomputable def b__law_right : Sv := sSeq (sSet 1 (eBlt gReprL (aCons (eUpA (eVar 0)) aNil)))
    (sSeq (sSet 2 (eCall m__law_all_turns (aCons (eVar 0) (aNil))))
    (sSeq (sFor (iv itQ (eFz (eOp gAdd (eVar 2) (eFz (eRv (eVar 2)))))) (gN 3) bl__law_right_1)
    (sRet (eOp gEq (eBlt gReprL (aCons (eUpA (eVar 0)) aNil)) (eVar 1)))))
noncomputable def m__law_right : Fn := mkF 1 4 b__law_right
theorem en__law_right {v0 : Vl} {h : Hh} {Q : Vl → Hh → Prop} {E : XP} (w : Ws (b__law_right [some v0, none, none, none] h) (fun _ h1 => RetK h.length Q (.d .none) h1) ⟨RetK h.length Q, fun _ _ => False, fun _ _ => False, fun c fs _ h1 => E c fs (h1.take h.length)⟩) : Wp (m__law_right [v0] h) Q E := wp_def rfl rfl w
noncomputable def bl__law_lettered_1 : Sv := sExpr (eMt tyL gApp (eVar 2) (aCons (eTup (aCons (eVar 3) (aCons (eTup (aCons (eD (.str "turned")) (aCons (eOp gIx (eOp gIx (eVar 2) (eNeg (eD (.int 1)))) (eD (.int 0))) (aNil)))) (aNil)))) (aNil)))
noncomputable def b__law_lettered : Sv := sSeq (sSet 2 (eLst (aCons (eTup (aCons (eD (.str "a")) (aCons (eTup (aCons (eD (.str "plus")) (aCons (eD (.str "y")) (aCons (eD (.str "y")) (aNil))))) (aNil)))) (aNil))))
    (sSeq (sFor (iv itS (eD (.str "bcdefghijklmnopqrstuvw"))) (gN 3) bl__law_lettered_1)
    (sSeq (sFrz 2)
    (sRet (eTup (aCons (eTup (aCons (eD (.str "y")) (aNil))) (aCons (eBlt gTupP (aCons (eFz (eOp gAdd (eVar 2) (eFz (eLst (aCons (eTup (aCons (eD (.str "x")) (aCons (eVar 1) (aNil)))) (aCons (eTup (aCons (eD (.str "z")) (aCons (eVar 0) (aNil)))) (aNil))))))) (aNil))) aNil))))))
noncomputable def m__law_lettered : Fn := mkF 2 4 b__law_lettered
theorem en__law_lettered {v0 v1 : Vl} {h : Hh} {Q : Vl → Hh → Prop} {E : XP} (w : Ws (b__law_lettered [some v0, some v1, none, none] h) (fun _ h1 => RetK h.length Q (.d .none) h1) ⟨RetK h.length Q, fun _ _ => False, fun _ _ => False, fun c fs _ h1 => E c fs (h1.take h.length)⟩) : Wp (m__law_lettered [v0, v1] h) Q E := wp_def rfl rfl w
noncomputable def bl_law_1 : Sv := sSeq (sSet 4 (eCall m__law_state (aCons (eVar 0) (aCons (eVar 3) (aNil)))))
    (sIf (tvNot (eT (eCall m__law_right (aCons (eCall m__law_any_program (aCons (eVar 4) (aCons (eD (.int 7)) (aNil)))) (aNil))))) (sRet (eD (.bool false))) (sNil))
noncomputable def b_law : Sv := sSeq (sSet 1 (eLst (aCons (eCall m__law_lettered (aCons (eTup (aCons (eD (.str "less")) (aCons (eD (.str "x")) (aCons (eD (.str "y")) (aNil))))) (aCons (eTup (aCons (eD (.str "turned")) (aCons (eD (.str "w")) (aNil)))) (aNil)))) (aNil))))
    (sSeq (sExpr (eMt tyL gApp (eVar 1) (aCons (eCall m__law_lettered (aCons (eTup (aCons (eD (.str "times")) (aCons (eD (.str "y")) (aCons (eD (.str "x")) (aNil))))) (aCons (eTup (aCons (eD (.str "plus")) (aCons (eD (.str "w")) (aCons (eD (.str "y")) (aNil))))) (aNil)))) (aNil))))
    (sSeq (sFrz 1)
    (sSeq (sIf (tvNot (eT (eBlt gAll (aCons (eFz (eLcX [2] (iv itQ (eVar 1)) (gN 2) (tvYes) (eCall m__law_right (aCons (eVar 2) (aNil))))) (aNil))))) (sRet (eD (.bool false))) (sNil))
    (sSeq (sIf (tvNot (eT (eCall m__law_right (aCons (eTup (aCons (eTup (aCons (eD (.str "x")) (aCons (eD (.str "y")) (aNil)))) (aCons (eTupZ (aCons (eTup (aCons (eD (.str "s")) (aCons (eTup (aCons (eD (.str "times")) (aCons (eD (.str "x")) (aCons (eD (.str "y")) (aNil))))) (aNil)))) (aCons (eTup (aCons (eD (.str "t")) (aCons (eTup (aCons (eD (.str "plus")) (aCons (eD (.str "s")) (aCons (eD (.str "s")) (aNil))))) (aNil)))) (aNil)))) aNil))) (aNil))))) (sRet (eD (.bool false))) (sNil))
    (sSeq (sFor (iRange3 (aCons (eD (.int 0)) (aCons (eBlt gMax (aCons (eD (.int 1)) (aCons (eBlt gMin (aCons (eD (.int 63)) (aCons (eBlt gLen (aCons (eVar 0) (aNil))) (aNil)))) (aNil)))) (aCons (eD (.int 3)) (aNil))))) (gN 3) bl_law_1)
    (sRet (eD (.bool true))))))))
noncomputable def m_law : Fn := mkF 1 5 b_law
theorem en_law {v0 : Vl} {h : Hh} {Q : Vl → Hh → Prop} {E : XP} (w : Ws (b_law [some v0, none, none, none, none] h) (fun _ h1 => RetK h.length Q (.d .none) h1) ⟨RetK h.length Q, fun _ _ => False, fun _ _ => False, fun c fs _ h1 => E c fs (h1.take h.length)⟩) : Wp (m_law [v0] h) Q E := wp_def rfl rfl w
structure Top (K : PySem.W.Frag) (w : World) (mg : Str → Option Value) : Prop where
  d_MAKERS : GDict K w mg "MAKERS" d_MAKERS
  d_WANTS : GDict K w mg "WANTS" d_WANTS
  f_abs : mg "abs" = none
  f_all : mg "all" = none
  f_bool : mg "bool" = none
  f_dict : mg "dict" = none
  f_enumerate : mg "enumerate" = none
  f_int : mg "int" = none
  f_isinstance : mg "isinstance" = none
  f_len : mg "len" = none
  f_list : mg "list" = none
  f_max : mg "max" = none
  f_min : mg "min" = none
  f_range : mg "range" = none
  f_repr : mg "repr" = none
  f_reversed : mg "reversed" = none
  f_set : mg "set" = none
  f_str : mg "str" = none
  f_tuple : mg "tuple" = none
  f_zip : mg "zip" = none
  c_GREATEST : GConst K mg "GREATEST" c_GREATEST
  c_LETTERS_programs : GConst K mg "LETTERS_programs" c_LETTERS_programs
  c_LETTERS_turns : GConst K mg "LETTERS_turns" c_LETTERS_turns
  c_MOST_INS : GConst K mg "MOST_INS" c_MOST_INS
  c_MOST_LETTERS : GConst K mg "MOST_LETTERS" c_MOST_LETTERS
  c_MOST_ROWS_programs : GConst K mg "MOST_ROWS_programs" c_MOST_ROWS_programs
  c_MOST_ROWS_turns : GConst K mg "MOST_ROWS_turns" c_MOST_ROWS_turns
  c_TURN_WORDS : GConst K mg "TURN_WORDS" c_TURN_WORDS
  c_TWO : GConst K mg "TWO" c_TWO
  dig : DigN K
  n_BadProgram : IniT K mg "BadProgram" "row" "RoundError"
  n_BadTurn : IniT K mg "BadTurn" "place" "RoundError"
  v_gathered : GConst K mg "gathered" (fnD "gathered")
  v_put_apart : GConst K mg "put_apart" (fnD "put_apart")
  v_put_back : GConst K mg "put_back" (fnD "put_back")
  v_spread_out : GConst K mg "spread_out" (fnD "spread_out")
  v_swapped : GConst K mg "swapped" (fnD "swapped")
  v_taken_once : GConst K mg "taken_once" (fnD "taken_once")
  v_taken_twice : GConst K mg "taken_twice" (fnD "taken_twice")
  v_to_the_left : GConst K mg "to_the_left" (fnD "to_the_left")
  v_to_the_right : GConst K mg "to_the_right" (fnD "to_the_right")
section
variable {P : Program} {w : World} {K : PySem.W.Frag} {mg : Str → Option Value} {base : Heap}
theorem sc_i_BadProgram : FnScope ["self", "row"] ["self", "row"] (defScope s_i_BadProgram) := ⟨rfl, rfl, rfl, by decide +kernel, rfl, by decide +kernel, by decide +kernel⟩
theorem ini_BadProgram {fd : FuncData} (T : Top K w mg) (F : FunD K "__init__" "BadProgram.__init__" (defArgs s_i_BadProgram) (defBody s_i_BadProgram) (defScope s_i_BadProgram) [] [] (He.fAd K ("BadProgram", some "__init__")) fd) : IniC P w K mg base "BadProgram" "row" := by
  obtain ⟨C, R, g, gR, TC, iC, tI, hno, cr, vV⟩ := T.n_BadProgram.ex
  exact ⟨C, _, fd, ["self", "row"], g, TC, iC, tI, FunD.bindsN F (fun _ _ _ _ _ _ us hl => match us, hl with | [_, _], _ => rfl), init_ok TC hno F sc_i_BadProgram fun cdv A outer s H E =>
    ⟨ps_expr (pe_oinit rfl gR cr vV (pa_cons (pe_var (i := 0) rfl (by first | exact .inl rfl | exact .inr rfl)) (pa_cons pe_str pa_nil))), ps_ost (pe_var (i := 0) rfl (by first | exact .inl rfl | exact .inr rfl)) (pe_var (i := 1) rfl (by first | exact .inl rfl | exact .inr rfl))⟩⟩
theorem sc_i_BadTurn : FnScope ["self", "place"] ["self", "place"] (defScope s_i_BadTurn) := ⟨rfl, rfl, rfl, by decide +kernel, rfl, by decide +kernel, by decide +kernel⟩
theorem ini_BadTurn {fd : FuncData} (T : Top K w mg) (F : FunD K "__init__" "BadTurn.__init__" (defArgs s_i_BadTurn) (defBody s_i_BadTurn) (defScope s_i_BadTurn) [] [] (He.fAd K ("BadTurn", some "__init__")) fd) : IniC P w K mg base "BadTurn" "place" := by
  obtain ⟨C, R, g, gR, TC, iC, tI, hno, cr, vV⟩ := T.n_BadTurn.ex
  exact ⟨C, _, fd, ["self", "place"], g, TC, iC, tI, FunD.bindsN F (fun _ _ _ _ _ _ us hl => match us, hl with | [_, _], _ => rfl), init_ok TC hno F sc_i_BadTurn fun cdv A outer s H E =>
    ⟨ps_expr (pe_oinit rfl gR cr vV (pa_cons (pe_var (i := 0) rfl (by first | exact .inl rfl | exact .inr rfl)) (pa_cons pe_str pa_nil))), ps_ost (pe_var (i := 0) rfl (by first | exact .inl rfl | exact .inr rfl)) (pe_var (i := 1) rfl (by first | exact .inl rfl | exact .inr rfl))⟩⟩
theorem sc_is_whole : FnScope ["thing"] ["thing"] (defScope s_is_whole) := ⟨rfl, rfl, rfl, by decide +kernel, rfl, by decide +kernel, by decide +kernel⟩
theorem ok_is_whole {f : Addr} {fd : FuncData} (T : Top K w mg)   (F : FnP K "is_whole" s_is_whole f fd) (g : mg "is_whole" = some (.ref f)) : Df P w K mg base 1 "is_whole" ["thing"] m_is_whole :=
  have nd := sc_is_whole.nd
  df_of (kk := 1) (NN := 1) (body := b_is_whole) F g sc_is_whole rfl rfl (fun _ _ _ _ _ _ _ us hl => match us, hl with | [_], _ => rfl) fun cdv A outer s H E hr =>
    ess_one (es_ret (ee_and (ee_isi .int rfl T.f_isinstance rfl T.f_int (by decide +kernel) (by decide) (by decide) (ee_var 0)) (ee_one (ee_not (ee_isi .bool rfl T.f_isinstance rfl T.f_bool (by decide +kernel) (by decide) (by decide) (ee_var 0))))))
theorem sc_shared : FnScope ["one", "other"] ["one", "other"] (defScope s_shared) := ⟨rfl, rfl, rfl, by decide +kernel, rfl, by decide +kernel, by decide +kernel⟩
theorem ok_shared {f : Addr} {fd : FuncData} (T : Top K w mg)   (F : FnP K "shared" s_shared f fd) (g : mg "shared" = some (.ref f)) : Df P w K mg base 1 "shared" ["one", "other"] m_shared :=
  have nd := sc_shared.nd
  df_of (kk := 2) (NN := 2) (body := b_shared) F g sc_shared rfl rfl (fun _ _ _ _ _ _ _ us hl => match us, hl with | [_, _], _ => rfl) fun cdv A outer s H E hr =>
    ess_cons (es_set (i := 0) nd (ee_blt call_abs ok_abs (by rfl) T.f_abs (by decide +kernel) (ea_cons (ee_var 0) (ea_nil))))
    (ess_cons (es_set (i := 1) nd (ee_blt call_abs ok_abs (by rfl) T.f_abs (by decide +kernel) (ea_cons (ee_var 1) (ea_nil))))
    (ess_cons (es_while po_of (et_cmp op_gt ok_gt (ee_var 1) (ee_int) (nomark _)) (ess_one (es_par (i := 0) (j := 1) rfl nd (ea_cons (ee_var 1) (ea_cons (ee_op op_modN ok_mod (ee_var 0) (ee_var 1)) (ea_nil))))))
    (ess_one (es_ret (ee_var 0)))))
theorem sc_is_fraction : FnScope ["thing"] ["thing"] (defScope s_is_fraction) := ⟨rfl, rfl, rfl, by decide +kernel, rfl, by decide +kernel, by decide +kernel⟩
theorem ok_is_fraction {f : Addr} {fd : FuncData} (T : Top K w mg)  (D_is_whole : Df P w K mg base 1 "is_whole" ["thing"] m_is_whole) (D_shared : Df P w K mg base 1 "shared" ["one", "other"] m_shared) (F : FnP K "is_fraction" s_is_fraction f fd) (g : mg "is_fraction" = some (.ref f)) : Df P w K mg base 2 "is_fraction" ["thing"] m_is_fraction :=
  have nd := sc_is_fraction.nd
  df_of (kk := 1) (NN := 1) (body := b_is_fraction) F g sc_is_fraction rfl rfl (fun _ _ _ _ _ _ _ us hl => match us, hl with | [_], _ => rfl) fun cdv A outer s H E hr =>
    ess_cons (es_if (EW.et (ew_or (et_not (et_val (ee_isi .tuple rfl T.f_isinstance rfl T.f_tuple (by decide +kernel) (by decide) (by decide) (ee_var 0)))) (ew_or (et_cmp (OpR.or op_ne (op_neD hr.units)) ok_ne (ee_blt call_len ok_len (by rfl) T.f_len PySem.boot_len (ea_cons (ee_var 0) (ea_nil))) (ee_int) (nomark _)) (ew_or (et_not (et_val (ec D_is_whole hr tk_of (ea_cons (ee_ix (ee_var 0) (ee_int)) (ea_nil))))) (ew_or1 (et_not (et_val (ec D_is_whole hr tk_of (ea_cons (ee_ix (ee_var 0) (ee_int)) (ea_nil)))))))))) (ess_one (es_ret (ee_bl))) (ess_nil))
    (ess_one (es_ret (ee_and (ee_cmp op_gt ok_gt (ee_ix (ee_var 0) (ee_int)) (ee_int) (nomark _)) (ee_one (ee_cmp (OpR.or op_eq (op_eqD hr.units)) ok_eq (ec D_shared hr tk_of (ea_cons (ee_ix (ee_var 0) (ee_int)) (ea_cons (ee_ix (ee_var 0) (ee_int)) (ea_nil)))) (ee_int) (nomark _))))))
theorem sc_is_great : FnScope ["number"] ["number"] (defScope s_is_great) := ⟨rfl, rfl, rfl, by decide +kernel, rfl, by decide +kernel, by decide +kernel⟩
theorem ok_is_great {f : Addr} {fd : FuncData} (T : Top K w mg)   (F : FnP K "is_great" s_is_great f fd) (g : mg "is_great" = some (.ref f)) : Df P w K mg base 1 "is_great" ["number"] m_is_great :=
  have nd := sc_is_great.nd
  df_of (kk := 1) (NN := 1) (body := b_is_great) F g sc_is_great rfl rfl (fun _ _ _ _ _ _ _ us hl => match us, hl with | [_], _ => rfl) fun cdv A outer s H E hr =>
    ess_one (es_ret (ee_or (ee_cmp op_gt ok_gt (ee_blt call_abs ok_abs (by rfl) T.f_abs (by decide +kernel) (ea_cons (ee_ix (ee_var 0) (ee_int)) (ea_nil))) (eg T.c_GREATEST) (nomark _)) (ee_one (ee_cmp op_gt ok_gt (ee_ix (ee_var 0) (ee_int)) (eg T.c_GREATEST) (nomark _)))))
theorem sc_is_name : FnScope ["thing", "sign"] ["thing"] (defScope s_is_name) := ⟨rfl, rfl, rfl, by decide +kernel, rfl, by decide +kernel, by decide +kernel⟩
theorem ok_is_name {f : Addr} {fd : FuncData} (T : Top K w mg)   (F : FnP K "is_name" s_is_name f fd) (g : mg "is_name" = some (.ref f)) : Df P w K mg base 1 "is_name" ["thing"] m_is_name :=
  have nd := sc_is_name.nd
  df_of (kk := 1) (NN := 2) (body := b_is_name) F g sc_is_name rfl rfl (fun _ _ _ _ _ _ _ us hl => match us, hl with | [_], _ => rfl) fun cdv A outer s H E hr =>
    ess_cons (es_if (EW.et (ew_or (et_not (et_val (ee_isi .str rfl T.f_isinstance rfl T.f_str (by decide +kernel) (by decide) (by decide) (ee_var 0)))) (ew_or1 (et_not (et_chain op_le op_le ok_le ok_le (ee_int) (ee_blt call_len ok_len (by rfl) T.f_len PySem.boot_len (ea_cons (ee_var 0) (ea_nil))) (eg T.c_MOST_LETTERS)))))) (ess_one (es_ret (ee_bl))) (ess_nil))
    (ess_one (es_ret (ee_blt (cr_all rfl) ok_all (by rfl) T.f_all (by decide +kernel) (ea_cons (ee_fz (ee_lc [1] [("sign", 1)] rfl nd (ei_str (ee_var 0)) (blkOk_by (N := ["thing", "sign"]) (sc := defScope s_is_name) (by decide +kernel)) (fun _ _ _ _ _ => egw_name (i := 1) nd) (fun _ _ _ _ _ => ets_nil) (fun _ _ _ _ _ => ee_cmp op_inS (ok_inS false) (ee_var 1) (eg T.c_LETTERS_programs) (by with_unfolding_all rfl)))) (ea_nil)))))
theorem sc_is_work : FnScope ["thing", "names", "name"] ["thing", "names"] (defScope s_is_work) := ⟨rfl, rfl, rfl, by decide +kernel, rfl, by decide +kernel, by decide +kernel⟩
theorem ok_is_work {f : Addr} {fd : FuncData} (T : Top K w mg)  (D_is_fraction : Df P w K mg base 2 "is_fraction" ["thing"] m_is_fraction) (D_is_great : Df P w K mg base 1 "is_great" ["number"] m_is_great) (D_is_name : Df P w K mg base 1 "is_name" ["thing"] m_is_name) (F : FnP K "is_work" s_is_work f fd) (g : mg "is_work" = some (.ref f)) : Df P w K mg base 3 "is_work" ["thing", "names"] m_is_work :=
  have nd := sc_is_work.nd
  df_of (kk := 2) (NN := 3) (body := b_is_work) F g sc_is_work rfl rfl (fun _ _ _ _ _ _ _ us hl => match us, hl with | [_, _], _ => rfl) fun cdv A outer s H E hr =>
    ess_cons (es_if (EW.et (ew_or (et_not (et_val (ee_isi .tuple rfl T.f_isinstance rfl T.f_tuple (by decide +kernel) (by decide) (by decide) (ee_var 0)))) (ew_or (et_cmp (OpR.or op_eq (op_eqD hr.units)) ok_eq (ee_var 0) (ee_tup (ea_nil)) (nomark _)) (ew_or1 (et_not (et_val (ee_isi .str rfl T.f_isinstance rfl T.f_str (by decide +kernel) (by decide) (by decide) (ee_ix (ee_var 0) (ee_int))))))))) (ess_one (es_ret (ee_bl))) (ess_nil))
    (ess_cons (es_if (et_cmp (OpR.or op_eq (op_eqD hr.units)) ok_eq (ee_ix (ee_var 0) (ee_int)) (ee_str) (nomark _)) (ess_one (es_ret (ee_and (ee_cmp (OpR.or op_eq (op_eqD hr.units)) ok_eq (ee_blt call_len ok_len (by rfl) T.f_len PySem.boot_len (ea_cons (ee_var 0) (ea_nil))) (ee_int) (nomark _)) (ee_and (ec D_is_fraction hr tk_of (ea_cons (ee_ix (ee_var 0) (ee_int)) (ea_nil))) (ee_one (ee_not (ec D_is_great hr tk_of (ea_cons (ee_ix (ee_var 0) (ee_int)) (ea_nil))))))))) (ess_nil))
    (ess_cons (es_if (EW.et (ew_or (et_cmp (OpR.or op_ne (op_neD hr.units)) ok_ne (ee_getC T.d_WANTS (ee_ix (ee_var 0) (ee_int)) (ee_int) ⟨by rfl, by rfl, by rfl, by rfl⟩) (ee_op op_sub ok_sub (ee_blt call_len ok_len (by rfl) T.f_len PySem.boot_len (ea_cons (ee_var 0) (ea_nil))) (ee_int)) (nomark _)) (ew_or1 (et_cmp (OpR.or op_eq (op_eqD hr.units)) ok_eq (ee_blt call_len ok_len (by rfl) T.f_len PySem.boot_len (ea_cons (ee_var 0) (ea_nil))) (ee_int) (nomark _))))) (ess_one (es_ret (ee_bl))) (ess_nil))
    (ess_one (es_ret (ee_blt (cr_all rfl) ok_all (by rfl) T.f_all (by decide +kernel) (ea_cons (ee_fz (ee_lc [2] [("name", 2)] rfl nd (ei_seq (ee_fz (ee_slice (ee_var 0) (eo_some (ee_int)) (eo_none)))) (blkOk_by (N := ["thing", "names", "name"]) (sc := defScope s_is_work) (by decide +kernel)) (fun _ _ _ _ _ => egw_name (i := 2) nd) (fun _ _ _ _ _ => ets_nil) (fun _ _ _ _ _ => ee_and (ec D_is_name hr tk_blk (ea_cons (ee_var 2) (ea_nil))) (ee_one (ee_cmp op_inDk (ok_inD false) (ee_var 2) (ee_var 1) (by with_unfolding_all rfl)))))) (ea_nil)))))))
theorem sc_are_ins : FnScope ["thing", "name"] ["thing"] (defScope s_are_ins) := ⟨rfl, rfl, rfl, by decide +kernel, rfl, by decide +kernel, by decide +kernel⟩
theorem ok_are_ins {f : Addr} {fd : FuncData} (T : Top K w mg)  (D_is_name : Df P w K mg base 1 "is_name" ["thing"] m_is_name) (F : FnP K "are_ins" s_are_ins f fd) (g : mg "are_ins" = some (.ref f)) : Df P w K mg base 2 "are_ins" ["thing"] m_are_ins :=
  have nd := sc_are_ins.nd
  df_of (kk := 1) (NN := 2) (body := b_are_ins) F g sc_are_ins rfl rfl (fun _ _ _ _ _ _ _ us hl => match us, hl with | [_], _ => rfl) fun cdv A outer s H E hr =>
    ess_cons (es_if (EW.et (ew_or (et_not (et_val (ee_isi .tuple rfl T.f_isinstance rfl T.f_tuple (by decide +kernel) (by decide) (by decide) (ee_var 0)))) (ew_or (et_cmp op_gt ok_gt (ee_blt call_len ok_len (by rfl) T.f_len PySem.boot_len (ea_cons (ee_var 0) (ea_nil))) (eg T.c_MOST_INS) (nomark _)) (ew_or1 (et_not (et_val (ee_blt (cr_all rfl) ok_all (by rfl) T.f_all (by decide +kernel) (ea_cons (ee_fz (ee_lc [1] [("name", 1)] rfl nd (ei_seq (ee_var 0)) (blkOk_by (N := ["thing", "name"]) (sc := defScope s_are_ins) (by decide +kernel)) (fun _ _ _ _ _ => egw_name (i := 1) nd) (fun _ _ _ _ _ => ets_nil) (fun _ _ _ _ _ => ec D_is_name hr tk_blk (ea_cons (ee_var 1) (ea_nil))))) (ea_nil))))))))) (ess_one (es_ret (ee_bl))) (ess_nil))
    (ess_one (es_ret (ee_cmp (OpR.or op_eq (op_eqD hr.units)) ok_eq (ee_unl rfl T.f_len T.f_set (ee_var 0)) (ee_blt call_len ok_len (by rfl) T.f_len PySem.boot_len (ea_cons (ee_var 0) (ea_nil))) (nomark _))))
theorem sc_is_row : FnScope ["thing", "names"] ["thing", "names"] (defScope s_is_row) := ⟨rfl, rfl, rfl, by decide +kernel, rfl, by decide +kernel, by decide +kernel⟩
theorem ok_is_row {f : Addr} {fd : FuncData} (T : Top K w mg)  (D_is_name : Df P w K mg base 1 "is_name" ["thing"] m_is_name) (D_is_work : Df P w K mg base 3 "is_work" ["thing", "names"] m_is_work) (F : FnP K "is_row" s_is_row f fd) (g : mg "is_row" = some (.ref f)) : Df P w K mg base 4 "is_row" ["thing", "names"] m_is_row :=
  have nd := sc_is_row.nd
  df_of (kk := 2) (NN := 2) (body := b_is_row) F g sc_is_row rfl rfl (fun _ _ _ _ _ _ _ us hl => match us, hl with | [_, _], _ => rfl) fun cdv A outer s H E hr =>
    ess_cons (es_if (EW.et (ew_or (et_not (et_val (ee_isi .tuple rfl T.f_isinstance rfl T.f_tuple (by decide +kernel) (by decide) (by decide) (ee_var 0)))) (ew_or (et_cmp (OpR.or op_ne (op_neD hr.units)) ok_ne (ee_blt call_len ok_len (by rfl) T.f_len PySem.boot_len (ea_cons (ee_var 0) (ea_nil))) (ee_int) (nomark _)) (ew_or1 (et_not (et_val (ec D_is_name hr tk_of (ea_cons (ee_ix (ee_var 0) (ee_int)) (ea_nil))))))))) (ess_one (es_ret (ee_bl))) (ess_nil))
    (ess_one (es_ret (ee_and (ee_cmp op_notInDk (ok_inD true) (ee_ix (ee_var 0) (ee_int)) (ee_var 1) (by with_unfolding_all rfl)) (ee_one (ec D_is_work hr tk_of (ea_cons (ee_ix (ee_var 0) (ee_int)) (ea_cons (ee_var 1) (ea_nil))))))))
theorem sc_wrong_row : FnScope ["thing", "names", "name", "number", "row"] ["thing"] (defScope s_wrong_row) := ⟨rfl, rfl, rfl, by decide +kernel, rfl, by decide +kernel, by decide +kernel⟩
theorem ok_wrong_row {f : Addr} {fd : FuncData} (T : Top K w mg)  (D_are_ins : Df P w K mg base 2 "are_ins" ["thing"] m_are_ins) (D_is_row : Df P w K mg base 4 "is_row" ["thing", "names"] m_is_row) (F : FnP K "wrong_row" s_wrong_row f fd) (g : mg "wrong_row" = some (.ref f)) : Df P w K mg base 5 "wrong_row" ["thing"] m_wrong_row :=
  have nd := sc_wrong_row.nd
  df_of (kk := 1) (NN := 5) (body := b_wrong_row) F g sc_wrong_row rfl rfl (fun _ _ _ _ _ _ _ us hl => match us, hl with | [_], _ => rfl) fun cdv A outer s H E hr =>
    ess_cons (es_if (EW.et (ew_or (et_not (et_val (ee_isi .tuple rfl T.f_isinstance rfl T.f_tuple (by decide +kernel) (by decide) (by decide) (ee_var 0)))) (ew_or (et_cmp (OpR.or op_ne (op_neD hr.units)) ok_ne (ee_blt call_len ok_len (by rfl) T.f_len PySem.boot_len (ea_cons (ee_var 0) (ea_nil))) (ee_int) (nomark _)) (ew_or1 (et_not (et_val (ec D_are_ins hr tk_of (ea_cons (ee_ix (ee_var 0) (ee_int)) (ea_nil))))))))) (ess_one (es_ret (ee_neg (ee_int)))) (ess_nil))
    (ess_cons (es_if (EW.et (ew_or (et_not (et_val (ee_isi .tuple rfl T.f_isinstance rfl T.f_tuple (by decide +kernel) (by decide) (by decide) (ee_unp (ee_ix (ee_var 0) (ee_int)))))) (ew_or1 (et_not (et_chain op_le op_le ok_le ok_le (ee_int) (ee_blt call_len ok_len (by rfl) T.f_len PySem.boot_len (ea_cons (ee_unp (ee_ix (ee_var 0) (ee_int))) (ea_nil))) (eg T.c_MOST_ROWS_programs)))))) (ess_one (es_ret (ee_neg (ee_int)))) (ess_nil))
    (ess_cons (es_set (i := 1) nd (ee_bltT (call_dictP rfl) ok_dp (by rfl) T.f_dict (by decide +kernel) (ea_cons (ee_fz (ee_lc [2] [("name", 2)] rfl nd (ei_seq (ee_ix (ee_var 0) (ee_int))) (blkOk_by (N := ["thing", "names", "name", "number", "row"]) (sc := defScope s_wrong_row) (by decide +kernel)) (fun _ _ _ _ _ => egw_name (i := 2) nd) (fun _ _ _ _ _ => ets_nil) (fun _ _ _ _ _ => ee_tup (ea_cons (ee_var 2) (ea_cons (ee_bl) (ea_nil)))))) (ea_nil))))
    (ess_cons (es_for (fb := bl_wrong_row_1) po_of rfl (ei_enumB (by rfl) T.f_enumerate (ea_cons (ee_unp (ee_ix (ee_var 0) (ee_int))) (ea_nil))) (eg_tup rfl (egs_cons (eg_name (i := 3) nd) (egs_cons (eg_name (i := 4) nd) (egs_nil)))) (ess_cons (es_if (et_not (et_val (ec D_is_row hr tk_of (ea_cons (ee_var 4) (ea_cons (ee_var 1) (ea_nil)))))) (ess_one (es_ret (ee_var 3))) (ess_nil))
    (ess_one (es_dput hr.units (ee_var 1) (ee_ix (ee_var 4) (ee_int)) (ee_bl)))))
    (ess_one (es_ret (ee_non))))))
theorem sc_need_program : FnScope ["thing", "number"] ["thing"] (defScope s_need_program) := ⟨rfl, rfl, rfl, by decide +kernel, rfl, by decide +kernel, by decide +kernel⟩
theorem ok_need_program {f : Addr} {fd : FuncData} (T : Top K w mg) (I_BadProgram : IniC P w K mg base "BadProgram" "row") (D_wrong_row : Df P w K mg base 5 "wrong_row" ["thing"] m_wrong_row) (F : FnP K "need_program" s_need_program f fd) (g : mg "need_program" = some (.ref f)) : Df P w K mg base 6 "need_program" ["thing"] m_need_program :=
  have nd := sc_need_program.nd
  df_of (kk := 1) (NN := 2) (body := b_need_program) F g sc_need_program rfl rfl (fun _ _ _ _ _ _ _ us hl => match us, hl with | [_], _ => rfl) fun cdv A outer s H E hr =>
    ess_cons (es_set (i := 1) nd (ec D_wrong_row hr tk_of (ea_cons (ee_var 0) (ea_nil))))
    (ess_one (es_if (et_cmp op_notN ok_notN (ee_var 1) (ee_non) (nomark _)) (ess_one (es_raise1 I_BadProgram hr tk_of (ee_var 1))) (ess_nil)))
theorem sc_asked : FnScope ["work"] ["work"] (defScope s_asked) := ⟨rfl, rfl, rfl, by decide +kernel, rfl, by decide +kernel, by decide +kernel⟩
theorem ok_asked {f : Addr} {fd : FuncData} (T : Top K w mg)   (F : FnP K "asked" s_asked f fd) (g : mg "asked" = some (.ref f)) : Df P w K mg base 1 "asked" ["work"] m_asked :=
  have nd := sc_asked.nd
  df_of (kk := 1) (NN := 1) (body := b_asked) F g sc_asked rfl rfl (fun _ _ _ _ _ _ _ us hl => match us, hl with | [_], _ => rfl) fun cdv A outer s H E hr =>
    ess_one (es_ret (ee_ifExp (et_cmp (OpR.or op_eq (op_eqD hr.units)) ok_eq (ee_ix (ee_var 0) (ee_int)) (ee_str) (nomark _)) (ee_fz (ee_lst (ea_nil))) (ee_fz (ee_bltT call_list_of ok_list (by rfl) T.f_list (by decide +kernel) (ea_cons (ee_fz (ee_slice (ee_var 0) (eo_some (ee_int)) (eo_none))) (ea_nil))))))
theorem sc_needed : FnScope ["program", "rows", "places", "number", "row", "wanted", "name"] ["program"] (defScope s_needed) := ⟨rfl, rfl, rfl, by decide +kernel, rfl, by decide +kernel, by decide +kernel⟩
theorem ok_needed {f : Addr} {fd : FuncData} (T : Top K w mg)  (D_need_program : Df P w K mg base 6 "need_program" ["thing"] m_need_program) (D_asked : Df P w K mg base 1 "asked" ["work"] m_asked) (F : FnP K "needed" s_needed f fd) (g : mg "needed" = some (.ref f)) : Df P w K mg base 7 "needed" ["program"] m_needed :=
  have nd := sc_needed.nd
  df_of (kk := 1) (NN := 7) (body := b_needed) F g sc_needed rfl rfl (fun _ _ _ _ _ _ _ us hl => match us, hl with | [_], _ => rfl) fun cdv A outer s H E hr =>
    ess_cons (es_expr (ec D_need_program hr tk_of (ea_cons (ee_var 0) (ea_nil))))
    (ess_cons (es_set (i := 1) nd (ee_unp (ee_ix (ee_var 0) (ee_int))))
    (ess_cons (es_set (i := 2) nd (ee_fzD (ee_bltT (call_dictP rfl) ok_dp (by rfl) T.f_dict (by decide +kernel) (ea_cons (ee_fz (ee_lc [3, 4] [("number", 3), ("row", 4)] rfl nd (ei_enumB (by rfl) T.f_enumerate (ea_cons (ee_var 1) (ea_nil))) (blkOk_by (N := ["program", "rows", "places", "number", "row", "wanted", "name"]) (sc := defScope s_needed) (by decide +kernel)) (fun _ _ _ _ _ => egw_tup rfl (egsw_cons (egw_name (i := 3) nd) (egsw_cons (egw_name (i := 4) nd) (egsw_nil)))) (fun _ _ _ _ _ => ets_nil) (fun _ _ _ _ _ => ee_tup (ea_cons (ee_ix (ee_var 4) (ee_int)) (ea_cons (ee_var 3) (ea_nil)))))) (ea_nil)))))
    (ess_cons (es_set (i := 5) nd (ee_lc [4] [("row", 4)] rfl nd (ei_seq (ee_var 1)) (blkOk_by (N := ["program", "rows", "places", "number", "row", "wanted", "name"]) (sc := defScope s_needed) (by decide +kernel)) (fun _ _ _ _ _ => egw_name (i := 4) nd) (fun _ _ _ _ _ => ets_nil) (fun _ _ _ _ _ => ee_bl)))
    (ess_cons (es_asg (ee_bl) (eg_setL (W := WOf E) (ee_var 5) (ee_neg (ee_int))))
    (ess_cons (es_for (fb := bl_needed_2) po_of rfl (ei_revR (by rfl) T.f_reversed (by rfl) T.f_range (ee_blt call_len ok_len (by rfl) T.f_len PySem.boot_len (ea_cons (ee_var 1) (ea_nil)))) (eg_name (i := 3) nd) (ess_one (es_if (et_val (ee_iy hr.units (ee_var 5) (ee_var 3))) (ess_one (es_for (fb := bl_needed_1) po_of rfl (ei_seq (ec D_asked hr tk_of (ea_cons (ee_ix (ee_iy hr.units (ee_var 1) (ee_var 3)) (ee_int)) (ea_nil)))) (eg_name (i := 6) nd) (ess_one (es_if (et_cmp op_inDk (ok_inD false) (ee_var 6) (ee_var 2) (by with_unfolding_all rfl)) (ess_one (es_asg (ee_bl) (eg_setL (W := WOf E) (ee_var 5) (ee_iw hr.units (ee_var 2) (ee_var 6))))) (ess_nil))))) (ess_nil))))
    (ess_frz 5 (ess_one (es_ret (ee_fz (ee_lc [3] [("number", 3)] rfl nd (ei_range1 (by rfl) T.f_range (ea_cons (ee_blt call_len ok_len (by rfl) T.f_len PySem.boot_len (ea_cons (ee_var 1) (ea_nil))) (ea_nil))) (blkOk_by (N := ["program", "rows", "places", "number", "row", "wanted", "name"]) (sc := defScope s_needed) (by decide +kernel)) (fun _ _ _ _ _ => egw_name (i := 3) nd) (fun _ _ _ _ _ => ets_one (et_val (ee_iy hr.units (ee_var 5) (ee_var 3)))) (fun _ _ _ _ _ => ee_var 3)))))))))))
theorem sc_pruned : FnScope ["program", "numbers", "number"] ["program"] (defScope s_pruned) := ⟨rfl, rfl, rfl, by decide +kernel, rfl, by decide +kernel, by decide +kernel⟩
theorem ok_pruned {f : Addr} {fd : FuncData} (T : Top K w mg)  (D_needed : Df P w K mg base 7 "needed" ["program"] m_needed) (F : FnP K "pruned" s_pruned f fd) (g : mg "pruned" = some (.ref f)) : Df P w K mg base 8 "pruned" ["program"] m_pruned :=
  have nd := sc_pruned.nd
  df_of (kk := 1) (NN := 3) (body := b_pruned) F g sc_pruned rfl rfl (fun _ _ _ _ _ _ _ us hl => match us, hl with | [_], _ => rfl) fun cdv A outer s H E hr =>
    ess_cons (es_set (i := 1) nd (ec D_needed hr tk_of (ea_cons (ee_var 0) (ea_nil))))
    (ess_one (es_ret (ee_tup (ea_cons (ee_ix (ee_var 0) (ee_int)) (ea_cons (ee_bltT call_tupP ok_tupP (by rfl) T.f_tuple (by decide +kernel) (ea_cons (ee_fz (ee_lc [2] [("number", 2)] rfl nd (ei_seq (ee_var 1)) (blkOk_by (N := ["program", "numbers", "number"]) (sc := defScope s_pruned) (by decide +kernel)) (fun _ _ _ _ _ => egw_name (i := 2) nd) (fun _ _ _ _ _ => ets_nil) (fun _ _ _ _ _ => ee_iy hr.units (ee_unp (ee_ix (ee_var 0) (ee_int))) (ee_var 2)))) (ea_nil))) ea_nil)))))
theorem sc_work_at : FnScope ["program", "name"] ["program", "name"] (defScope s_work_at) := ⟨rfl, rfl, rfl, by decide +kernel, rfl, by decide +kernel, by decide +kernel⟩
theorem ok_work_at {f : Addr} {fd : FuncData} (T : Top K w mg)   (F : FnP K "work_at" s_work_at f fd) (g : mg "work_at" = some (.ref f)) : Df P w K mg base 1 "work_at" ["program", "name"] m_work_at :=
  have nd := sc_work_at.nd
  df_of (kk := 2) (NN := 2) (body := b_work_at) F g sc_work_at rfl rfl (fun _ _ _ _ _ _ _ us hl => match us, hl with | [_, _], _ => rfl) fun cdv A outer s H E hr =>
    ess_one (es_ret (ee_mt PySem.F.plainAttrs_dict PySem.F.slot_dict_get PySem.F.type_dict_get mt_get2 tyDk_ok ok_get2 (ee_bltT (call_dictT rfl) ok_dt (by rfl) T.f_dict (by decide +kernel) (ea_cons (ee_ix (ee_var 0) (ee_int)) ea_nil)) (ea_cons (ee_var 1) (ea_cons (ee_tup (ea_cons (ee_str) (ea_nil))) (ea_nil)))))
theorem sc_new_names : FnScope ["program", "known", "name", "work", "found", "first", "second"] ["program"] (defScope s_new_names) := ⟨rfl, rfl, rfl, by decide +kernel, rfl, by decide +kernel, by decide +kernel⟩
theorem ok_new_names {f : Addr} {fd : FuncData} (T : Top K w mg)   (F : FnP K "new_names" s_new_names f fd) (g : mg "new_names" = some (.ref f)) : Df P w K mg base 1 "new_names" ["program"] m_new_names :=
  have nd := sc_new_names.nd
  df_of (kk := 1) (NN := 7) (body := b_new_names) F g sc_new_names rfl rfl (fun _ _ _ _ _ _ _ us hl => match us, hl with | [_], _ => rfl) fun cdv A outer s H E hr =>
    ess_cons (es_set (i := 1) nd (ee_fz (ee_op op_addA ok_add (ee_fz (ee_bltT call_list_of ok_list (by rfl) T.f_list (by decide +kernel) (ea_cons (ee_ix (ee_var 0) (ee_int)) (ea_nil)))) (ee_fz (ee_lc [2, 3] [("name", 2), ("work", 3)] rfl nd (ei_seq (ee_unp (ee_ix (ee_var 0) (ee_int)))) (blkOk_by (N := ["program", "known", "name", "work", "found", "first", "second"]) (sc := defScope s_new_names) (by decide +kernel)) (fun _ _ _ _ _ => egw_tup rfl (egsw_cons (egw_name (i := 2) nd) (egsw_cons (egw_name (i := 3) nd) (egsw_nil)))) (fun _ _ _ _ _ => ets_nil) (fun _ _ _ _ _ => ee_var 2))))))
    (ess_cons (es_set (i := 4) nd (ee_lst (ea_nil)))
    (ess_cons (es_for (fb := bl_new_names_1) po_of rfl (ei_seq (ee_fz (ee_op op_addA ok_add (ee_fz (ee_lst (ea_cons (ee_str) (ea_nil)))) (ee_fz (ee_bltT (call_listS rfl) ok_listS (by rfl) T.f_list (by decide +kernel) (ea_cons (eg T.c_LETTERS_turns) (ea_nil))))))) (eg_name (i := 5) nd) (ess_cons (es_expr (ee_mt PySem.F.plainAttrs_list PySem.F.slot_list_extend PySem.F.type_list_extend mt_extend tyL_ok ok_ext (ee_var 4) (ea_cons (ee_lc [6] [("second", 6)] rfl nd (ei_str (eg T.c_LETTERS_turns)) (blkOk_by (N := ["program", "known", "name", "work", "found", "first", "second"]) (sc := defScope s_new_names) (by decide +kernel)) (fun _ _ _ _ _ => egw_name (i := 6) nd) (fun _ _ _ _ _ => ets_one (et_cmp op_notIn_seq (ok_in true) (ee_op op_addA ok_add (ee_var 5) (ee_var 6)) (ee_var 1) (by with_unfolding_all rfl))) (fun _ _ _ _ _ => ee_op op_addA ok_add (ee_var 5) (ee_var 6))) (ea_nil))))
    (ess_one (es_if (et_cmp op_gt ok_gt (ee_blt call_len ok_len (by rfl) T.f_len PySem.boot_len (ea_cons (ee_var 4) (ea_nil))) (ee_int) (nomark _)) (ess_one (es_ret (ee_fz (ee_slice (ee_var 4) (eo_none) (eo_some (ee_int)))))) (ess_nil)))))
    (ess_frz 4 (ess_one (es_ret (ee_var 4))))))
theorem sc_swapped : FnScope ["program", "work", "fresh"] ["program", "work", "fresh"] (defScope s_swapped) := ⟨rfl, rfl, rfl, by decide +kernel, rfl, by decide +kernel, by decide +kernel⟩
theorem ok_swapped {f : Addr} {fd : FuncData} (T : Top K w mg)   (F : FnP K "swapped" s_swapped f fd) (g : mg "swapped" = some (.ref f)) : Df P w K mg base 1 "swapped" ["program", "work", "fresh"] m_swapped :=
  have nd := sc_swapped.nd
  df_of (kk := 3) (NN := 3) (body := b_swapped) F g sc_swapped rfl rfl (fun _ _ _ _ _ _ _ us hl => match us, hl with | [_, _, _], _ => rfl) fun cdv A outer s H E hr =>
    ess_one (es_ret (ee_ifExp (et_cmp op_in_seq (ok_in false) (ee_ix (ee_var 1) (ee_int)) (ee_tup (ea_cons (ee_str) (ea_cons (ee_str) (ea_cons (ee_str) (ea_cons (ee_str) (ea_nil)))))) (by with_unfolding_all rfl)) (ee_tup (ea_cons (ee_fz (ee_lst (ea_nil))) (ea_cons (ee_tup (ea_cons (ee_ix (ee_var 1) (ee_int)) (ea_cons (ee_ix (ee_var 1) (ee_int)) (ea_cons (ee_ix (ee_var 1) (ee_int)) (ea_nil))))) (ea_nil)))) (ee_non)))
theorem sc_put_apart : FnScope ["program", "work", "fresh"] ["program", "work", "fresh"] (defScope s_put_apart) := ⟨rfl, rfl, rfl, by decide +kernel, rfl, by decide +kernel, by decide +kernel⟩
theorem ok_put_apart {f : Addr} {fd : FuncData} (T : Top K w mg)   (F : FnP K "put_apart" s_put_apart f fd) (g : mg "put_apart" = some (.ref f)) : Df P w K mg base 1 "put_apart" ["program", "work", "fresh"] m_put_apart :=
  have nd := sc_put_apart.nd
  df_of (kk := 3) (NN := 3) (body := b_put_apart) F g sc_put_apart rfl rfl (fun _ _ _ _ _ _ _ us hl => match us, hl with | [_, _, _], _ => rfl) fun cdv A outer s H E hr =>
    ess_one (es_ret (ee_ifExp (et_cmp (OpR.or op_eq (op_eqD hr.units)) ok_eq (ee_ix (ee_var 1) (ee_int)) (ee_str) (nomark _)) (ee_tup (ea_cons (ee_fz (ee_lst (ea_cons (ee_tup (ea_cons (ee_str) (ea_cons (ee_ix (ee_var 1) (ee_int)) (ea_nil)))) (ea_nil)))) (ea_cons (ee_tup (ea_cons (ee_str) (ea_cons (ee_ix (ee_var 1) (ee_int)) (ea_cons (ee_ix (ee_var 2) (ee_int)) (ea_nil))))) (ea_nil)))) (ee_non)))
theorem sc_put_back : FnScope ["program", "work", "fresh", "other"] ["program", "work", "fresh"] (defScope s_put_back) := ⟨rfl, rfl, rfl, by decide +kernel, rfl, by decide +kernel, by decide +kernel⟩
theorem ok_put_back {f : Addr} {fd : FuncData} (T : Top K w mg)  (D_work_at : Df P w K mg base 1 "work_at" ["program", "name"] m_work_at) (F : FnP K "put_back" s_put_back f fd) (g : mg "put_back" = some (.ref f)) : Df P w K mg base 2 "put_back" ["program", "work", "fresh"] m_put_back :=
  have nd := sc_put_back.nd
  df_of (kk := 3) (NN := 4) (body := b_put_back) F g sc_put_back rfl rfl (fun _ _ _ _ _ _ _ us hl => match us, hl with | [_, _, _], _ => rfl) fun cdv A outer s H E hr =>
    ess_cons (es_set (i := 3) nd (ee_ifExp (et_cmp (OpR.or op_eq (op_eqD hr.units)) ok_eq (ee_ix (ee_var 1) (ee_int)) (ee_str) (nomark _)) (ec D_work_at hr tk_of (ea_cons (ee_var 0) (ea_cons (ee_ix (ee_var 1) (ee_int)) (ea_nil)))) (ee_tup (ea_cons (ee_str) (ea_nil)))))
    (ess_one (es_ret (ee_ifExp (et_cmp (OpR.or op_eq (op_eqD hr.units)) ok_eq (ee_ix (ee_var 3) (ee_int)) (ee_str) (nomark _)) (ee_tup (ea_cons (ee_fz (ee_lst (ea_nil))) (ea_cons (ee_tup (ea_cons (ee_str) (ea_cons (ee_ix (ee_var 1) (ee_int)) (ea_cons (ee_ix (ee_var 3) (ee_int)) (ea_nil))))) (ea_nil)))) (ee_non))))
theorem sc_to_the_left : FnScope ["program", "work", "fresh", "word", "other"] ["program", "work", "fresh"] (defScope s_to_the_left) := ⟨rfl, rfl, rfl, by decide +kernel, rfl, by decide +kernel, by decide +kernel⟩
theorem ok_to_the_left {f : Addr} {fd : FuncData} (T : Top K w mg)  (D_work_at : Df P w K mg base 1 "work_at" ["program", "name"] m_work_at) (F : FnP K "to_the_left" s_to_the_left f fd) (g : mg "to_the_left" = some (.ref f)) : Df P w K mg base 2 "to_the_left" ["program", "work", "fresh"] m_to_the_left :=
  have nd := sc_to_the_left.nd
  df_of (kk := 3) (NN := 5) (body := b_to_the_left) F g sc_to_the_left rfl rfl (fun _ _ _ _ _ _ _ us hl => match us, hl with | [_, _, _], _ => rfl) fun cdv A outer s H E hr =>
    ess_cons (es_set (i := 3) nd (ee_ix (ee_var 1) (ee_int)))
    (ess_cons (es_set (i := 4) nd (ee_ifExp (et_cmp op_in_seq (ok_in false) (ee_var 3) (ee_tup (ea_cons (ee_str) (ea_cons (ee_str) (ea_nil)))) (by with_unfolding_all rfl)) (ec D_work_at hr tk_of (ea_cons (ee_var 0) (ea_cons (ee_ix (ee_var 1) (ee_int)) (ea_nil)))) (ee_tup (ea_cons (ee_str) (ea_nil)))))
    (ess_one (es_ret (ee_ifExp (et_cmp (OpR.or op_eq (op_eqD hr.units)) ok_eq (ee_ix (ee_var 4) (ee_int)) (ee_var 3) (nomark _)) (ee_tup (ea_cons (ee_fz (ee_lst (ea_cons (ee_tup (ea_cons (ee_var 3) (ea_cons (ee_ix (ee_var 1) (ee_int)) (ea_cons (ee_ix (ee_var 4) (ee_int)) (ea_nil))))) (ea_nil)))) (ea_cons (ee_tup (ea_cons (ee_var 3) (ea_cons (ee_ix (ee_var 2) (ee_int)) (ea_cons (ee_ix (ee_var 4) (ee_int)) (ea_nil))))) (ea_nil)))) (ee_non)))))
theorem sc_to_the_right : FnScope ["program", "work", "fresh", "word", "other"] ["program", "work", "fresh"] (defScope s_to_the_right) := ⟨rfl, rfl, rfl, by decide +kernel, rfl, by decide +kernel, by decide +kernel⟩
theorem ok_to_the_right {f : Addr} {fd : FuncData} (T : Top K w mg)  (D_work_at : Df P w K mg base 1 "work_at" ["program", "name"] m_work_at) (F : FnP K "to_the_right" s_to_the_right f fd) (g : mg "to_the_right" = some (.ref f)) : Df P w K mg base 2 "to_the_right" ["program", "work", "fresh"] m_to_the_right :=
  have nd := sc_to_the_right.nd
  df_of (kk := 3) (NN := 5) (body := b_to_the_right) F g sc_to_the_right rfl rfl (fun _ _ _ _ _ _ _ us hl => match us, hl with | [_, _, _], _ => rfl) fun cdv A outer s H E hr =>
    ess_cons (es_set (i := 3) nd (ee_ix (ee_var 1) (ee_int)))
    (ess_cons (es_set (i := 4) nd (ee_ifExp (et_cmp op_in_seq (ok_in false) (ee_var 3) (ee_tup (ea_cons (ee_str) (ea_cons (ee_str) (ea_nil)))) (by with_unfolding_all rfl)) (ec D_work_at hr tk_of (ea_cons (ee_var 0) (ea_cons (ee_ix (ee_var 1) (ee_int)) (ea_nil)))) (ee_tup (ea_cons (ee_str) (ea_nil)))))
    (ess_one (es_ret (ee_ifExp (et_cmp (OpR.or op_eq (op_eqD hr.units)) ok_eq (ee_ix (ee_var 4) (ee_int)) (ee_var 3) (nomark _)) (ee_tup (ea_cons (ee_fz (ee_lst (ea_cons (ee_tup (ea_cons (ee_var 3) (ea_cons (ee_ix (ee_var 4) (ee_int)) (ea_cons (ee_ix (ee_var 1) (ee_int)) (ea_nil))))) (ea_nil)))) (ea_cons (ee_tup (ea_cons (ee_var 3) (ea_cons (ee_ix (ee_var 4) (ee_int)) (ea_cons (ee_ix (ee_var 2) (ee_int)) (ea_nil))))) (ea_nil)))) (ee_non)))))
theorem sc_spread_out : FnScope ["program", "work", "fresh", "other"] ["program", "work", "fresh"] (defScope s_spread_out) := ⟨rfl, rfl, rfl, by decide +kernel, rfl, by decide +kernel, by decide +kernel⟩
theorem ok_spread_out {f : Addr} {fd : FuncData} (T : Top K w mg)  (D_work_at : Df P w K mg base 1 "work_at" ["program", "name"] m_work_at) (F : FnP K "spread_out" s_spread_out f fd) (g : mg "spread_out" = some (.ref f)) : Df P w K mg base 2 "spread_out" ["program", "work", "fresh"] m_spread_out :=
  have nd := sc_spread_out.nd
  df_of (kk := 3) (NN := 4) (body := b_spread_out) F g sc_spread_out rfl rfl (fun _ _ _ _ _ _ _ us hl => match us, hl with | [_, _, _], _ => rfl) fun cdv A outer s H E hr =>
    ess_cons (es_set (i := 3) nd (ee_ifExp (et_cmp (OpR.or op_eq (op_eqD hr.units)) ok_eq (ee_ix (ee_var 1) (ee_int)) (ee_str) (nomark _)) (ec D_work_at hr tk_of (ea_cons (ee_var 0) (ea_cons (ee_ix (ee_var 1) (ee_int)) (ea_nil)))) (ee_tup (ea_cons (ee_str) (ea_nil)))))
    (ess_cons (es_if (et_cmp op_notIn_seq (ok_in true) (ee_ix (ee_var 3) (ee_int)) (ee_tup (ea_cons (ee_str) (ea_cons (ee_str) (ea_nil)))) (by with_unfolding_all rfl)) (ess_one (es_ret (ee_non))) (ess_nil))
    (ess_one (es_ret (ee_tup (ea_cons (ee_fz (ee_lst (ea_cons (ee_tup (ea_cons (ee_str) (ea_cons (ee_ix (ee_var 1) (ee_int)) (ea_cons (ee_ix (ee_var 3) (ee_int)) (ea_nil))))) (ea_cons (ee_tup (ea_cons (ee_str) (ea_cons (ee_ix (ee_var 1) (ee_int)) (ea_cons (ee_ix (ee_var 3) (ee_int)) (ea_nil))))) (ea_nil))))) (ea_cons (ee_tup (ea_cons (ee_ix (ee_var 3) (ee_int)) (ea_cons (ee_ix (ee_var 2) (ee_int)) (ea_cons (ee_ix (ee_var 2) (ee_int)) (ea_nil))))) (ea_nil)))))))
theorem sc_gathered : FnScope ["program", "work", "fresh", "one", "other"] ["program", "work", "fresh"] (defScope s_gathered) := ⟨rfl, rfl, rfl, by decide +kernel, rfl, by decide +kernel, by decide +kernel⟩
theorem ok_gathered {f : Addr} {fd : FuncData} (T : Top K w mg)  (D_work_at : Df P w K mg base 1 "work_at" ["program", "name"] m_work_at) (F : FnP K "gathered" s_gathered f fd) (g : mg "gathered" = some (.ref f)) : Df P w K mg base 2 "gathered" ["program", "work", "fresh"] m_gathered :=
  have nd := sc_gathered.nd
  df_of (kk := 3) (NN := 5) (body := b_gathered) F g sc_gathered rfl rfl (fun _ _ _ _ _ _ _ us hl => match us, hl with | [_, _, _], _ => rfl) fun cdv A outer s H E hr =>
    ess_cons (es_if (et_cmp op_notIn_seq (ok_in true) (ee_ix (ee_var 1) (ee_int)) (ee_tup (ea_cons (ee_str) (ea_cons (ee_str) (ea_nil)))) (by with_unfolding_all rfl)) (ess_one (es_ret (ee_non))) (ess_nil))
    (ess_cons (es_par (i := 3) (j := 4) rfl nd (ea_cons (ec D_work_at hr tk_of (ea_cons (ee_var 0) (ea_cons (ee_ix (ee_var 1) (ee_int)) (ea_nil)))) (ea_cons (ec D_work_at hr tk_of (ea_cons (ee_var 0) (ea_cons (ee_ix (ee_var 1) (ee_int)) (ea_nil)))) (ea_nil))))
    (ess_cons (es_if (EW.et (ew_or (et_cmp (OpR.or op_ne (op_neD hr.units)) ok_ne (ee_ix (ee_var 3) (ee_int)) (ee_str) (nomark _)) (ew_or (et_cmp (OpR.or op_ne (op_neD hr.units)) ok_ne (ee_ix (ee_var 4) (ee_int)) (ee_str) (nomark _)) (ew_or1 (et_cmp (OpR.or op_ne (op_neD hr.units)) ok_ne (ee_ix (ee_var 3) (ee_int)) (ee_ix (ee_var 4) (ee_int)) (nomark _)))))) (ess_one (es_ret (ee_non))) (ess_nil))
    (ess_one (es_ret (ee_tup (ea_cons (ee_fz (ee_lst (ea_cons (ee_tup (ea_cons (ee_ix (ee_var 1) (ee_int)) (ea_cons (ee_ix (ee_var 3) (ee_int)) (ea_cons (ee_ix (ee_var 4) (ee_int)) (ea_nil))))) (ea_nil)))) (ea_cons (ee_tup (ea_cons (ee_str) (ea_cons (ee_ix (ee_var 3) (ee_int)) (ea_cons (ee_ix (ee_var 2) (ee_int)) (ea_nil))))) (ea_nil))))))))
theorem sc_taken_twice : FnScope ["program", "work", "fresh"] ["program", "work", "fresh"] (defScope s_taken_twice) := ⟨rfl, rfl, rfl, by decide +kernel, rfl, by decide +kernel, by decide +kernel⟩
theorem ok_taken_twice {f : Addr} {fd : FuncData} (T : Top K w mg)   (F : FnP K "taken_twice" s_taken_twice f fd) (g : mg "taken_twice" = some (.ref f)) : Df P w K mg base 1 "taken_twice" ["program", "work", "fresh"] m_taken_twice :=
  have nd := sc_taken_twice.nd
  df_of (kk := 3) (NN := 3) (body := b_taken_twice) F g sc_taken_twice rfl rfl (fun _ _ _ _ _ _ _ us hl => match us, hl with | [_, _, _], _ => rfl) fun cdv A outer s H E hr =>
    ess_one (es_ret (ee_ifExp (EW.et (ew_and (et_cmp (OpR.or op_eq (op_eqD hr.units)) ok_eq (ee_ix (ee_var 1) (ee_int)) (ee_str) (nomark _)) (ew_and1 (et_cmp (OpR.or op_eq (op_eqD hr.units)) ok_eq (ee_ix (ee_var 1) (ee_int)) (ee_ix (ee_var 1) (ee_int)) (nomark _))))) (ee_tup (ea_cons (ee_fz (ee_lst (ea_cons (eg T.c_TWO) (ea_nil)))) (ea_cons (ee_tup (ea_cons (ee_str) (ea_cons (ee_ix (ee_var 1) (ee_int)) (ea_cons (ee_ix (ee_var 2) (ee_int)) (ea_nil))))) (ea_nil)))) (ee_non)))
theorem sc_taken_once : FnScope ["program", "work", "fresh", "is_double"] ["program", "work", "fresh"] (defScope s_taken_once) := ⟨rfl, rfl, rfl, by decide +kernel, rfl, by decide +kernel, by decide +kernel⟩
theorem ok_taken_once {f : Addr} {fd : FuncData} (T : Top K w mg)  (D_work_at : Df P w K mg base 1 "work_at" ["program", "name"] m_work_at) (F : FnP K "taken_once" s_taken_once f fd) (g : mg "taken_once" = some (.ref f)) : Df P w K mg base 2 "taken_once" ["program", "work", "fresh"] m_taken_once :=
  have nd := sc_taken_once.nd
  df_of (kk := 3) (NN := 4) (body := b_taken_once) F g sc_taken_once rfl rfl (fun _ _ _ _ _ _ _ us hl => match us, hl with | [_, _, _], _ => rfl) fun cdv A outer s H E hr =>
    ess_cons (es_set (i := 3) nd (ee_and (ee_cmp (OpR.or op_eq (op_eqD hr.units)) ok_eq (ee_ix (ee_var 1) (ee_int)) (ee_str) (nomark _)) (ee_one (ee_cmp (OpR.or op_eq (op_eqD hr.units)) ok_eq (ec D_work_at hr tk_of (ea_cons (ee_var 0) (ea_cons (ee_ix (ee_var 1) (ee_int)) (ea_nil)))) (eg T.c_TWO) (nomark _)))))
    (ess_one (es_ret (ee_ifExp (et_val (ee_var 3)) (ee_tup (ea_cons (ee_fz (ee_lst (ea_nil))) (ea_cons (ee_tup (ea_cons (ee_str) (ea_cons (ee_ix (ee_var 1) (ee_int)) (ea_cons (ee_ix (ee_var 1) (ee_int)) (ea_nil))))) (ea_nil)))) (ee_non))))
theorem sc_made_by : FnScope ["program", "row", "word", "fresh", "deed", "found"] ["program", "row", "word", "fresh"] (defScope s_made_by) := ⟨rfl, rfl, rfl, by decide +kernel, rfl, by decide +kernel, by decide +kernel⟩
theorem ok_made_by {f : Addr} {fd : FuncData} (T : Top K w mg)  (D_swapped : Df P w K mg base 1 "swapped" ["program", "work", "fresh"] m_swapped) (D_put_apart : Df P w K mg base 1 "put_apart" ["program", "work", "fresh"] m_put_apart) (D_put_back : Df P w K mg base 2 "put_back" ["program", "work", "fresh"] m_put_back) (D_to_the_left : Df P w K mg base 2 "to_the_left" ["program", "work", "fresh"] m_to_the_left) (D_to_the_right : Df P w K mg base 2 "to_the_right" ["program", "work", "fresh"] m_to_the_right) (D_spread_out : Df P w K mg base 2 "spread_out" ["program", "work", "fresh"] m_spread_out) (D_gathered : Df P w K mg base 2 "gathered" ["program", "work", "fresh"] m_gathered) (D_taken_twice : Df P w K mg base 1 "taken_twice" ["program", "work", "fresh"] m_taken_twice) (D_taken_once : Df P w K mg base 2 "taken_once" ["program", "work", "fresh"] m_taken_once) (F : FnP K "made_by" s_made_by f fd) (g : mg "made_by" = some (.ref f)) : Df P w K mg base 3 "made_by" ["program", "row", "word", "fresh"] m_made_by :=
  have nd := sc_made_by.nd
  df_of (kk := 4) (NN := 6) (body := b_made_by) F g sc_made_by rfl rfl (fun _ _ _ _ _ _ _ us hl => match us, hl with | [_, _, _, _], _ => rfl) fun cdv A outer s H E hr =>
    ess_cons (es_set (i := 4) nd (ee_ixC T.d_MAKERS rfl (ee_var 2)))
    (ess_cons (es_set (i := 5) nd (ee_callF (cf_cons T.v_swapped D_swapped (cf_cons T.v_put_apart D_put_apart (cf_cons T.v_put_back D_put_back (cf_cons T.v_to_the_left D_to_the_left (cf_cons T.v_to_the_right D_to_the_right (cf_cons T.v_spread_out D_spread_out (cf_cons T.v_gathered D_gathered (cf_cons T.v_taken_twice D_taken_twice (cf_cons T.v_taken_once D_taken_once (cf_nil)))))))))) hr tk_of (ee_var 4) (ea_cons (ee_var 0) (ea_cons (ee_ix (ee_iy hr.units (ee_unp (ee_ix (ee_var 0) (ee_int))) (ee_var 1)) (ee_int)) (ea_cons (ee_var 3) (ea_nil))))))
    (ess_one (es_ret (ee_ifExp (EW.et (ew_or (et_cmp op_isN ok_isN (ee_var 5) (ee_non) (nomark _)) (ew_or1 (et_cmp op_gt ok_gt (ee_op op_addA ok_add (ee_blt call_len ok_len (by rfl) T.f_len PySem.boot_len (ea_cons (ee_unp (ee_ix (ee_var 0) (ee_int))) (ea_nil))) (ee_blt call_len ok_len (by rfl) T.f_len PySem.boot_len (ea_cons (ee_ix (ee_var 5) (ee_int)) (ea_nil)))) (eg T.c_MOST_ROWS_turns) (nomark _))))) (ee_non) (ee_var 5)))))
theorem sc_is_turn : FnScope ["program", "thing"] ["program", "thing"] (defScope s_is_turn) := ⟨rfl, rfl, rfl, by decide +kernel, rfl, by decide +kernel, by decide +kernel⟩
theorem ok_is_turn {f : Addr} {fd : FuncData} (T : Top K w mg)   (F : FnP K "is_turn" s_is_turn f fd) (g : mg "is_turn" = some (.ref f)) : Df P w K mg base 1 "is_turn" ["program", "thing"] m_is_turn :=
  have nd := sc_is_turn.nd
  df_of (kk := 2) (NN := 2) (body := b_is_turn) F g sc_is_turn rfl rfl (fun _ _ _ _ _ _ _ us hl => match us, hl with | [_, _], _ => rfl) fun cdv A outer s H E hr =>
    ess_cons (es_if (EW.et (ew_or (et_not (et_val (ee_isi .tuple rfl T.f_isinstance rfl T.f_tuple (by decide +kernel) (by decide) (by decide) (ee_var 1)))) (ew_or (et_cmp (OpR.or op_ne (op_neD hr.units)) ok_ne (ee_blt call_len ok_len (by rfl) T.f_len PySem.boot_len (ea_cons (ee_var 1) (ea_nil))) (ee_int) (nomark _)) (ew_or (et_not (et_val (ee_isi .str rfl T.f_isinstance rfl T.f_str (by decide +kernel) (by decide) (by decide) (ee_ix (ee_var 1) (ee_int))))) (ew_or1 (et_cmp op_notIn_seq (ok_in true) (ee_ix (ee_var 1) (ee_int)) (eg T.c_TURN_WORDS) (by with_unfolding_all rfl))))))) (ess_one (es_ret (ee_bl))) (ess_nil))
    (ess_one (es_ret (ee_and (ee_isi .int rfl T.f_isinstance rfl T.f_int (by decide +kernel) (by decide) (by decide) (ee_ix (ee_var 1) (ee_int))) (ee_and (ee_not (ee_isi .bool rfl T.f_isinstance rfl T.f_bool (by decide +kernel) (by decide) (by decide) (ee_ix (ee_var 1) (ee_int)))) (ee_one (ee_chain op_le op_lt ok_le ok_lt (ee_int) (ee_ix (ee_var 1) (ee_int)) (ee_blt call_len ok_len (by rfl) T.f_len PySem.boot_len (ea_cons (ee_unp (ee_ix (ee_var 0) (ee_int))) (ea_nil)))))))))
theorem sc_turned_by : FnScope ["program", "turn", "fresh", "found", "row", "ahead", "rows"] ["program", "turn"] (defScope s_turned_by) := ⟨rfl, rfl, rfl, by decide +kernel, rfl, by decide +kernel, by decide +kernel⟩
theorem ok_turned_by {f : Addr} {fd : FuncData} (T : Top K w mg) (I_BadTurn : IniC P w K mg base "BadTurn" "place") (D_need_program : Df P w K mg base 6 "need_program" ["thing"] m_need_program) (D_new_names : Df P w K mg base 1 "new_names" ["program"] m_new_names) (D_is_turn : Df P w K mg base 1 "is_turn" ["program", "thing"] m_is_turn) (D_made_by : Df P w K mg base 3 "made_by" ["program", "row", "word", "fresh"] m_made_by) (D_pruned : Df P w K mg base 8 "pruned" ["program"] m_pruned) (F : FnP K "turned_by" s_turned_by f fd) (g : mg "turned_by" = some (.ref f)) : Df P w K mg base 9 "turned_by" ["program", "turn"] m_turned_by :=
  have nd := sc_turned_by.nd
  df_of (kk := 2) (NN := 7) (body := b_turned_by) F g sc_turned_by rfl rfl (fun _ _ _ _ _ _ _ us hl => match us, hl with | [_, _], _ => rfl) fun cdv A outer s H E hr =>
    ess_cons (es_expr (ec D_need_program hr tk_of (ea_cons (ee_var 0) (ea_nil))))
    (ess_cons (es_set (i := 2) nd (ec D_new_names hr tk_of (ea_cons (ee_var 0) (ea_nil))))
    (ess_cons (es_set (i := 3) nd (ee_ifExp (et_val (ec D_is_turn hr tk_of (ea_cons (ee_var 0) (ea_cons (ee_var 1) (ea_nil))))) (ec D_made_by hr tk_of (ea_cons (ee_var 0) (ea_cons (ee_ix (ee_var 1) (ee_int)) (ea_cons (ee_ix (ee_var 1) (ee_int)) (ea_cons (ee_var 2) (ea_nil)))))) (ee_non)))
    (ess_cons (es_if (et_cmp op_isN ok_isN (ee_var 3) (ee_non) (nomark _)) (ess_one (es_raise1 I_BadTurn hr tk_of (ee_tup (ea_nil)))) (ess_nil))
    (ess_cons (es_set (i := 4) nd (ee_ix (ee_var 1) (ee_int)))
    (ess_cons (es_set (i := 5) nd (ee_fz (ee_lz (by rfl) T.f_list (by rfl) T.f_zip rfl (ea_cons (ee_var 2) (ea_cons (ee_ix (ee_var 3) (ee_int)) (ea_nil))))))
    (ess_cons (es_set (i := 6) nd (ee_fz (ee_op op_addA ok_add (ee_fz (ee_op op_addA ok_add (ee_fz (ee_op op_addA ok_add (ee_fz (ee_bltT call_list_of ok_list (by rfl) T.f_list (by decide +kernel) (ea_cons (ee_fz (ee_slice (ee_unp (ee_ix (ee_var 0) (ee_int))) (eo_none) (eo_some (ee_var 4)))) (ea_nil)))) (ee_var 5))) (ee_fz (ee_lst (ea_cons (ee_tup (ea_cons (ee_ix (ee_iy hr.units (ee_unp (ee_ix (ee_var 0) (ee_int))) (ee_var 4)) (ee_int)) (ea_cons (ee_ix (ee_var 3) (ee_int)) (ea_nil)))) (ea_nil)))))) (ee_fz (ee_bltT call_list_of ok_list (by rfl) T.f_list (by decide +kernel) (ea_cons (ee_fz (ee_slice (ee_unp (ee_ix (ee_var 0) (ee_int))) (eo_some (ee_op op_addA ok_add (ee_var 4) (ee_int))) (eo_none))) (ea_nil)))))))
    (ess_one (es_ret (ec D_pruned hr tk_of (ea_cons (ee_tup (ea_cons (ee_ix (ee_var 0) (ee_int)) (ea_cons (ee_bltT call_tupP ok_tupP (by rfl) T.f_tuple (by decide +kernel) (ea_cons (ee_var 6) (ea_nil))) ea_nil))) (ea_nil)))))))))))
theorem sc__law_cell_at : FnScope ["_law_script", "_law_k"] ["_law_script", "_law_k"] (defScope s__law_cell_at) := ⟨rfl, rfl, rfl, by decide +kernel, rfl, by decide +kernel, by decide +kernel⟩
theorem ok__law_cell_at {f : Addr} {fd : FuncData} (T : Top K w mg)   (F : FnP K "_law_cell_at" s__law_cell_at f fd) (g : mg "_law_cell_at" = some (.ref f)) : Df P w K mg base 1 "_law_cell_at" ["_law_script", "_law_k"] m__law_cell_at :=
  have nd := sc__law_cell_at.nd
  df_of (kk := 2) (NN := 2) (body := b__law_cell_at) F g sc__law_cell_at rfl rfl (fun _ _ _ _ _ _ _ us hl => match us, hl with | [_, _], _ => rfl) fun cdv A outer s H E hr =>
    ess_cons (es_if (et_cmp op_lt ok_lt (ee_var 1) (ee_blt call_len ok_len (by rfl) T.f_len PySem.boot_len (ea_cons (ee_var 0) (ea_nil))) (nomark _)) (ess_one (es_ret (ee_iy hr.units (ee_var 0) (ee_var 1)))) (ess_nil))
    (ess_one (es_ret (ee_int)))
theorem sc__law_mixed : FnScope ["_law_cell", "_law_k", "_law_number_here"] ["_law_cell", "_law_k"] (defScope s__law_mixed) := ⟨rfl, rfl, rfl, by decide +kernel, rfl, by decide +kernel, by decide +kernel⟩
theorem ok__law_mixed {f : Addr} {fd : FuncData} (T : Top K w mg)   (F : FnP K "_law_mixed" s__law_mixed f fd) (g : mg "_law_mixed" = some (.ref f)) : Df P w K mg base 1 "_law_mixed" ["_law_cell", "_law_k"] m__law_mixed :=
  have nd := sc__law_mixed.nd
  df_of (kk := 2) (NN := 3) (body := b__law_mixed) F g sc__law_mixed rfl rfl (fun _ _ _ _ _ _ _ us hl => match us, hl with | [_, _], _ => rfl) fun cdv A outer s H E hr =>
    ess_cons (es_set (i := 2) nd (ee_op op_modN ok_mod (ee_op op_addA ok_add (ee_op op_addA ok_add (ee_op op_modN ok_mod (ee_var 0) (ee_int)) (ee_op op_mulC ok_mul (ee_int) (ee_var 1))) (ee_int)) (ee_int)))
    (ess_one (es_ret (ee_op op_modN ok_mod (ee_op op_mulC ok_mul (ee_op op_modN ok_mod (ee_op op_mulC ok_mul (ee_var 2) (ee_var 2)) (ee_int)) (ee_op op_addA ok_add (ee_var 2) (ee_int))) (ee_int))))
theorem sc__law_state : FnScope ["_law_script", "_law_k", "_law_cell", "_law_further"] ["_law_script", "_law_k"] (defScope s__law_state) := ⟨rfl, rfl, rfl, by decide +kernel, rfl, by decide +kernel, by decide +kernel⟩
theorem ok__law_state {f : Addr} {fd : FuncData} (T : Top K w mg)  (D__law_cell_at : Df P w K mg base 1 "_law_cell_at" ["_law_script", "_law_k"] m__law_cell_at) (D__law_mixed : Df P w K mg base 1 "_law_mixed" ["_law_cell", "_law_k"] m__law_mixed) (F : FnP K "_law_state" s__law_state f fd) (g : mg "_law_state" = some (.ref f)) : Df P w K mg base 2 "_law_state" ["_law_script", "_law_k"] m__law_state :=
  have nd := sc__law_state.nd
  df_of (kk := 2) (NN := 4) (body := b__law_state) F g sc__law_state rfl rfl (fun _ _ _ _ _ _ _ us hl => match us, hl with | [_, _], _ => rfl) fun cdv A outer s H E hr =>
    ess_cons (es_set (i := 2) nd (ee_blt call_abs ok_abs (by rfl) T.f_abs (by decide +kernel) (ea_cons (ec D__law_cell_at hr tk_of (ea_cons (ee_var 0) (ea_cons (ee_var 1) (ea_nil)))) (ea_nil))))
    (ess_cons (es_set (i := 3) nd (ee_op op_addA ok_add (ec D__law_mixed hr tk_of (ea_cons (ec D__law_cell_at hr tk_of (ea_cons (ee_var 0) (ea_cons (ee_op op_addA ok_add (ee_var 1) (ee_int)) (ea_nil)))) (ea_cons (ee_int) (ea_nil)))) (ec D__law_mixed hr tk_of (ea_cons (ec D__law_cell_at hr tk_of (ea_cons (ee_var 0) (ea_cons (ee_op op_addA ok_add (ee_var 1) (ee_int)) (ea_nil)))) (ea_cons (ee_int) (ea_nil))))))
    (ess_one (es_ret (ee_dct (ep_cons (ee_str) (ee_op op_mulC ok_mul (ee_var 2) (ee_bltT call_int1 ok_int1 (by rfl) T.f_int (by decide +kernel) (ea_cons (ee_cmp op_ge ok_ge (ee_var 2) (ee_op op_pow ok_pow (ee_int) (ee_int)) (nomark _)) (ea_nil)))) (ep_cons (ee_str) (ec D__law_mixed hr tk_of (ea_cons (ee_op op_addA ok_add (ec D__law_cell_at hr tk_of (ea_cons (ee_var 0) (ea_cons (ee_var 1) (ea_nil)))) (ee_var 3)) (ea_cons (ee_var 1) (ea_nil)))) (ep_cons (ee_str) (ee_int) (ep_nil))))))))
theorem sc__law_draw : FnScope ["_law_state_here", "_law_many", "_law_found"] ["_law_state_here", "_law_many"] (defScope s__law_draw) := ⟨rfl, rfl, rfl, by decide +kernel, rfl, by decide +kernel, by decide +kernel⟩
theorem ok__law_draw {f : Addr} {fd : FuncData} (T : Top K w mg)  (D__law_mixed : Df P w K mg base 1 "_law_mixed" ["_law_cell", "_law_k"] m__law_mixed) (F : FnP K "_law_draw" s__law_draw f fd) (g : mg "_law_draw" = some (.ref f)) : Df P w K mg base 2 "_law_draw" ["_law_state_here", "_law_many"] m__law_draw :=
  have nd := sc__law_draw.nd
  df_of (kk := 2) (NN := 3) (body := b__law_draw) F g sc__law_draw rfl rfl (fun _ _ _ _ _ _ _ us hl => match us, hl with | [_, _], _ => rfl) fun cdv A outer s H E hr =>
    ess_cons (es_dput hr.units (ee_var 0) (ee_str) (ee_op op_addA ok_add (ee_dg hr.units (ee_var 0) (ee_str)) (ee_int)))
    (ess_cons (es_if (et_cmp op_gt ok_gt (ee_dg hr.units (ee_var 0) (ee_str)) (ee_int) (nomark _)) (ess_cons (es_set (i := 2) nd (ee_op op_modN ok_mod (ee_dg hr.units (ee_var 0) (ee_str)) (ee_var 1)))
    (ess_cons (es_dput hr.units (ee_var 0) (ee_str) (ee_op op_fdivC ok_div (ee_dg hr.units (ee_var 0) (ee_str)) (ee_var 1)))
    (ess_one (es_ret (ee_var 2))))) (ess_nil))
    (ess_one (es_ret (ee_op op_modN ok_mod (ec D__law_mixed hr tk_of (ea_cons (ec D__law_mixed hr tk_of (ea_cons (ee_dg hr.units (ee_var 0) (ee_str)) (ea_cons (ee_dg hr.units (ee_var 0) (ee_str)) (ea_nil)))) (ea_cons (ee_op op_addA ok_add (ee_int) (ee_dg hr.units (ee_var 0) (ee_str))) (ea_nil)))) (ee_var 1)))))
theorem sc__law_fraction : FnScope ["_law_above", "_law_below", "_law_one", "_law_other", "_law_sign"] ["_law_above", "_law_below"] (defScope s__law_fraction) := ⟨rfl, rfl, rfl, by decide +kernel, rfl, by decide +kernel, by decide +kernel⟩
theorem ok__law_fraction {f : Addr} {fd : FuncData} (T : Top K w mg)   (F : FnP K "_law_fraction" s__law_fraction f fd) (g : mg "_law_fraction" = some (.ref f)) : Df P w K mg base 1 "_law_fraction" ["_law_above", "_law_below"] m__law_fraction :=
  have nd := sc__law_fraction.nd
  df_of (kk := 2) (NN := 5) (body := b__law_fraction) F g sc__law_fraction rfl rfl (fun _ _ _ _ _ _ _ us hl => match us, hl with | [_, _], _ => rfl) fun cdv A outer s H E hr =>
    ess_cons (es_par (i := 2) (j := 3) rfl nd (ea_cons (ee_blt call_abs ok_abs (by rfl) T.f_abs (by decide +kernel) (ea_cons (ee_var 0) (ea_nil))) (ea_cons (ee_blt call_abs ok_abs (by rfl) T.f_abs (by decide +kernel) (ea_cons (ee_var 1) (ea_nil))) (ea_nil))))
    (ess_cons (es_while po_of (et_cmp op_gt ok_gt (ee_var 3) (ee_int) (nomark _)) (ess_one (es_par (i := 2) (j := 3) rfl nd (ea_cons (ee_var 3) (ea_cons (ee_op op_modN ok_mod (ee_var 2) (ee_var 3)) (ea_nil))))))
    (ess_cons (es_set (i := 4) nd (ee_ifExp (et_cmp op_gt ok_gt (ee_var 1) (ee_int) (nomark _)) (ee_int) (ee_neg (ee_int))))
    (ess_one (es_ret (ee_tup (ea_cons (ee_op op_fdivC ok_div (ee_op op_mulC ok_mul (ee_var 4) (ee_var 0)) (ee_var 2)) (ea_cons (ee_op op_fdivC ok_div (ee_op op_mulC ok_mul (ee_var 4) (ee_var 1)) (ee_var 2)) (ea_nil))))))))
theorem sc__law_names : FnScope ["_law_state_here", "_law_many", "_law_pool", "_law_first", "_law_step", "_law_k"] ["_law_state_here", "_law_many"] (defScope s__law_names) := ⟨rfl, rfl, rfl, by decide +kernel, rfl, by decide +kernel, by decide +kernel⟩
theorem ok__law_names {f : Addr} {fd : FuncData} (T : Top K w mg)  (D__law_draw : Df P w K mg base 2 "_law_draw" ["_law_state_here", "_law_many"] m__law_draw) (F : FnP K "_law_names" s__law_names f fd) (g : mg "_law_names" = some (.ref f)) : Df P w K mg base 3 "_law_names" ["_law_state_here", "_law_many"] m__law_names :=
  have nd := sc__law_names.nd
  df_of (kk := 2) (NN := 6) (body := b__law_names) F g sc__law_names rfl rfl (fun _ _ _ _ _ _ _ us hl => match us, hl with | [_, _], _ => rfl) fun cdv A outer s H E hr =>
    ess_cons (es_set (i := 2) nd (ee_fz (ee_lst (ea_cons (ee_str) (ea_cons (ee_str) (ea_cons (ee_str) (ea_cons (ee_str) (ea_cons (ee_str) (ea_cons (ee_str) (ea_cons (ee_str) (ea_cons (ee_str) (ea_cons (ee_str) (ea_cons (ee_str) (ea_cons (ee_str) (ea_cons (ee_str) (ea_cons (ee_str) (ea_cons (ee_str) (ea_cons (ee_str) (ea_cons (ee_str) (ea_cons (ee_str) (ea_cons (ee_str) (ea_nil))))))))))))))))))))))
    (ess_cons (es_set (i := 3) nd (ec D__law_draw hr tk_of (ea_cons (ee_var 0) (ea_cons (ee_int) (ea_nil)))))
    (ess_cons (es_set (i := 4) nd (ee_ix (ee_fz (ee_lst (ea_cons (ee_int) (ea_cons (ee_int) (ea_cons (ee_int) (ea_cons (ee_int) (ea_nil))))))) (ec D__law_draw hr tk_of (ea_cons (ee_var 0) (ea_cons (ee_int) (ea_nil))))))
    (ess_one (es_ret (ee_fz (ee_lc [5] [("_law_k", 5)] rfl nd (ei_range1 (by rfl) T.f_range (ea_cons (ee_var 1) (ea_nil))) (blkOk_by (N := ["_law_state_here", "_law_many", "_law_pool", "_law_first", "_law_step", "_law_k"]) (sc := defScope s__law_names) (by decide +kernel)) (fun _ _ _ _ _ => egw_name (i := 5) nd) (fun _ _ _ _ _ => ets_nil) (fun _ _ _ _ _ => ee_ix (ee_var 2) (ee_op op_modN ok_mod (ee_op op_addA ok_add (ee_var 3) (ee_op op_mulC ok_mul (ee_var 4) (ee_var 5))) (ee_int)))))))))
theorem sc__law_number : FnScope ["_law_state_here", "_law_below"] ["_law_state_here"] (defScope s__law_number) := ⟨rfl, rfl, rfl, by decide +kernel, rfl, by decide +kernel, by decide +kernel⟩
theorem ok__law_number {f : Addr} {fd : FuncData} (T : Top K w mg)  (D__law_draw : Df P w K mg base 2 "_law_draw" ["_law_state_here", "_law_many"] m__law_draw) (D__law_fraction : Df P w K mg base 1 "_law_fraction" ["_law_above", "_law_below"] m__law_fraction) (F : FnP K "_law_number" s__law_number f fd) (g : mg "_law_number" = some (.ref f)) : Df P w K mg base 3 "_law_number" ["_law_state_here"] m__law_number :=
  have nd := sc__law_number.nd
  df_of (kk := 1) (NN := 2) (body := b__law_number) F g sc__law_number rfl rfl (fun _ _ _ _ _ _ _ us hl => match us, hl with | [_], _ => rfl) fun cdv A outer s H E hr =>
    ess_cons (es_set (i := 1) nd (ee_ix (ee_fz (ee_lst (ea_cons (ee_int) (ea_cons (ee_int) (ea_cons (ee_int) (ea_cons (ee_int) (ea_cons (ee_int) (ea_cons (ee_int) (ea_nil))))))))) (ec D__law_draw hr tk_of (ea_cons (ee_var 0) (ea_cons (ee_int) (ea_nil))))))
    (ess_one (es_ret (ec D__law_fraction hr tk_of (ea_cons (ee_ix (ee_fz (ee_lst (ea_cons (ee_int) (ea_cons (ee_int) (ea_cons (ee_int) (ea_cons (ee_neg (ee_int)) (ea_cons (ee_int) (ea_cons (ee_int) (ea_cons (ee_neg (ee_int)) (ea_cons (ee_int) (ea_nil))))))))))) (ec D__law_draw hr tk_of (ea_cons (ee_var 0) (ea_cons (ee_int) (ea_nil))))) (ea_cons (ee_var 1) (ea_nil))))))
theorem sc__law_any_work : FnScope ["_law_state_here", "_law_known", "_law_some", "_law_k", "_law_words", "_law_word"] ["_law_state_here", "_law_known"] (defScope s__law_any_work) := ⟨rfl, rfl, rfl, by decide +kernel, rfl, by decide +kernel, by decide +kernel⟩
theorem ok__law_any_work {f : Addr} {fd : FuncData} (T : Top K w mg)  (D__law_draw : Df P w K mg base 2 "_law_draw" ["_law_state_here", "_law_many"] m__law_draw) (F : FnP K "_law_any_work" s__law_any_work f fd) (g : mg "_law_any_work" = some (.ref f)) : Df P w K mg base 3 "_law_any_work" ["_law_state_here", "_law_known"] m__law_any_work :=
  have nd := sc__law_any_work.nd
  df_of (kk := 2) (NN := 6) (body := b__law_any_work) F g sc__law_any_work rfl rfl (fun _ _ _ _ _ _ _ us hl => match us, hl with | [_, _], _ => rfl) fun cdv A outer s H E hr =>
    ess_cons (es_fz (es_setLc (i := 2) [3] [("_law_k", 3)] rfl nd (ei_range1 (by rfl) T.f_range (ea_cons (ee_int) (ea_nil))) (blkOk_by (N := ["_law_state_here", "_law_known", "_law_some", "_law_k", "_law_words", "_law_word"]) (sc := defScope s__law_any_work) (by decide +kernel)) (fun _ _ _ _ _ => egw_name (i := 3) nd) (fun _ _ _ _ _ => ets_nil) (fun _ _ _ _ _ => ee_ix (ee_var 1) (ec D__law_draw hr tk_blk (ea_cons (ee_var 0) (ea_cons (ee_blt call_len ok_len (by rfl) T.f_len PySem.boot_len (ea_cons (ee_var 1) (ea_nil))) (ea_nil))))) (sw_true rfl rfl rfl (by decide +kernel))))
    (ess_cons (es_set (i := 4) nd (ee_fz (ee_lst (ea_cons (ee_str) (ea_cons (ee_str) (ea_cons (ee_str) (ea_cons (ee_str) (ea_cons (ee_str) (ea_cons (ee_str) (ea_cons (ee_str) (ea_cons (ee_str) (ea_cons (ee_str) (ea_cons (ee_str) (ea_cons (ee_str) (ea_nil)))))))))))))))
    (ess_cons (es_set (i := 5) nd (ee_ix (ee_var 4) (ec D__law_draw hr tk_of (ea_cons (ee_var 0) (ea_cons (ee_int) (ea_nil))))))
    (ess_cons (es_if (et_cmp op_in_seq (ok_in false) (ee_var 5) (ee_tup (ea_cons (ee_str) (ea_cons (ee_str) (ea_nil)))) (by with_unfolding_all rfl)) (ess_one (es_ret (ee_tup (ea_cons (ee_var 5) (ea_cons (ee_ix (ee_var 2) (ee_int)) (ea_nil)))))) (ess_nil))
    (ess_one (es_ret (ee_op op_addA ok_add (ee_tup (ea_cons (ee_var 5) (ea_nil))) (ee_bltT call_tuple_of ok_tuple (by rfl) T.f_tuple (by decide +kernel) (ea_cons (ee_ifExp (et_cmp (OpR.or op_eq (op_eqD hr.units)) ok_eq (ee_var 5) (ee_str) (nomark _)) (ee_var 2) (ee_fz (ee_slice (ee_var 2) (eo_none) (eo_some (ee_int))))) (ea_nil)))))))))
theorem sc__law_any_program : FnScope ["_law_state_here", "_law_most", "_law_names_here", "_law_many", "_law_known", "_law_rows", "_law_name", "_law_work"] ["_law_state_here", "_law_most"] (defScope s__law_any_program) := ⟨rfl, rfl, rfl, by decide +kernel, rfl, by decide +kernel, by decide +kernel⟩
theorem ok__law_any_program {f : Addr} {fd : FuncData} (T : Top K w mg)  (D__law_names : Df P w K mg base 3 "_law_names" ["_law_state_here", "_law_many"] m__law_names) (D__law_draw : Df P w K mg base 2 "_law_draw" ["_law_state_here", "_law_many"] m__law_draw) (D__law_any_work : Df P w K mg base 3 "_law_any_work" ["_law_state_here", "_law_known"] m__law_any_work) (D__law_number : Df P w K mg base 3 "_law_number" ["_law_state_here"] m__law_number) (F : FnP K "_law_any_program" s__law_any_program f fd) (g : mg "_law_any_program" = some (.ref f)) : Df P w K mg base 4 "_law_any_program" ["_law_state_here", "_law_most"] m__law_any_program :=
  have nd := sc__law_any_program.nd
  df_of (kk := 2) (NN := 8) (body := b__law_any_program) F g sc__law_any_program rfl rfl (fun _ _ _ _ _ _ _ us hl => match us, hl with | [_, _], _ => rfl) fun cdv A outer s H E hr =>
    ess_cons (es_set (i := 2) nd (ec D__law_names hr tk_of (ea_cons (ee_var 0) (ea_cons (ee_op op_addA ok_add (ee_int) (ee_var 1)) (ea_nil)))))
    (ess_cons (es_set (i := 3) nd (ee_op op_addA ok_add (ee_int) (ec D__law_draw hr tk_of (ea_cons (ee_var 0) (ea_cons (ee_int) (ea_nil))))))
    (ess_cons (es_par (i := 4) (j := 5) rfl nd (ea_cons (ee_fz (ee_slice (ee_var 2) (eo_none) (eo_some (ee_var 3)))) (ea_cons (ee_lst (ea_nil)) (ea_nil))))
    (ess_cons (es_for (fb := bl__law_any_program_1) po_of rfl (ei_seq (ee_fz (ee_slice (ee_var 2) (eo_some (ee_int)) (eo_some (ee_op op_addA ok_add (ee_int) (ec D__law_draw hr tk_of (ea_cons (ee_var 0) (ea_cons (ee_op op_sub ok_sub (ee_var 1) (ee_int)) (ea_nil))))))))) (eg_name (i := 6) nd) (ess_cons (es_set (i := 7) nd (ec D__law_any_work hr tk_of (ea_cons (ee_var 0) (ea_cons (ee_fz (ee_slice (ee_var 4) (eo_some (ee_neg (ee_int))) (eo_none))) (ea_nil)))))
    (ess_cons (es_if (et_cmp (OpR.or op_eq (op_eqD hr.units)) ok_eq (ec D__law_draw hr tk_of (ea_cons (ee_var 0) (ea_cons (ee_int) (ea_nil)))) (ee_int) (nomark _)) (ess_one (es_set (i := 7) nd (ee_tup (ea_cons (ee_str) (ea_cons (ee_ix (ee_fz (ee_lst (ea_cons (ee_tup (ea_cons (ee_int) (ea_cons (ee_int) (ea_nil)))) (ea_cons (ec D__law_number hr tk_of (ea_cons (ee_var 0) (ea_nil))) (ea_nil))))) (ec D__law_draw hr tk_of (ea_cons (ee_var 0) (ea_cons (ee_int) (ea_nil))))) (ea_nil)))))) (ess_nil))
    (ess_cons (es_expr (ee_mt PySem.F.plainAttrs_list PySem.F.slot_list_append PySem.F.type_list_append mt_append tyL_ok ok_app (ee_var 5) (ea_cons (ee_tup (ea_cons (ee_var 6) (ea_cons (ee_var 7) (ea_nil)))) (ea_nil))))
    (ess_one (es_set (i := 4) nd (ee_fz (ee_op op_addA ok_add (ee_var 4) (ee_fz (ee_lst (ea_cons (ee_var 6) (ea_nil))))))))))))
    (ess_frz 5 (ess_one (es_ret (ee_tup (ea_cons (ee_bltT call_tuple_of ok_tuple (by rfl) T.f_tuple (by decide +kernel) (ea_cons (ee_fz (ee_slice (ee_var 2) (eo_none) (eo_some (ee_var 3)))) (ea_nil))) (ea_cons (ee_bltT call_tupP ok_tupP (by rfl) T.f_tuple (by decide +kernel) (ea_cons (ee_var 5) (ea_nil))) ea_nil)))))))))
theorem sc__law_work_at : FnScope ["_law_program", "_law_name"] ["_law_program", "_law_name"] (defScope s__law_work_at) := ⟨rfl, rfl, rfl, by decide +kernel, rfl, by decide +kernel, by decide +kernel⟩
theorem ok__law_work_at {f : Addr} {fd : FuncData} (T : Top K w mg)   (F : FnP K "_law_work_at" s__law_work_at f fd) (g : mg "_law_work_at" = some (.ref f)) : Df P w K mg base 1 "_law_work_at" ["_law_program", "_law_name"] m__law_work_at :=
  have nd := sc__law_work_at.nd
  df_of (kk := 2) (NN := 2) (body := b__law_work_at) F g sc__law_work_at rfl rfl (fun _ _ _ _ _ _ _ us hl => match us, hl with | [_, _], _ => rfl) fun cdv A outer s H E hr =>
    ess_one (es_ret (ee_mt PySem.F.plainAttrs_dict PySem.F.slot_dict_get PySem.F.type_dict_get mt_get2 tyDk_ok ok_get2 (ee_bltT (call_dictT rfl) ok_dt (by rfl) T.f_dict (by decide +kernel) (ea_cons (ee_ix (ee_var 0) (ee_int)) ea_nil)) (ea_cons (ee_var 1) (ea_cons (ee_tup (ea_cons (ee_str) (ea_nil))) (ea_nil)))))
theorem sc__law_made : FnScope ["_law_program", "_law_row", "_law_word", "_law_fresh_here", "_law_work", "_law_left", "_law_right_here", "_law_t", "_law_u"] ["_law_program", "_law_row", "_law_word", "_law_fresh_here"] (defScope s__law_made) := ⟨rfl, rfl, rfl, by decide +kernel, rfl, by decide +kernel, by decide +kernel⟩
theorem ok__law_made {f : Addr} {fd : FuncData} (T : Top K w mg)  (D__law_work_at : Df P w K mg base 1 "_law_work_at" ["_law_program", "_law_name"] m__law_work_at) (F : FnP K "_law_made" s__law_made f fd) (g : mg "_law_made" = some (.ref f)) : Df P w K mg base 2 "_law_made" ["_law_program", "_law_row", "_law_word", "_law_fresh_here"] m__law_made :=
  have nd := sc__law_made.nd
  df_of (kk := 4) (NN := 9) (body := b__law_made) F g sc__law_made rfl rfl (fun _ _ _ _ _ _ _ us hl => match us, hl with | [_, _, _, _], _ => rfl) fun cdv A outer s H E hr =>
    ess_cons (es_set (i := 4) nd (ee_ix (ee_iy hr.units (ee_unp (ee_ix (ee_var 0) (ee_int))) (ee_var 1)) (ee_int)))
    (ess_cons (es_set (i := 5) nd (ee_ifExp (et_cmp (OpR.or op_ne (op_neD hr.units)) ok_ne (ee_ix (ee_var 4) (ee_int)) (ee_str) (nomark _)) (ec D__law_work_at hr tk_of (ea_cons (ee_var 0) (ea_cons (ee_ix (ee_var 4) (ee_int)) (ea_nil)))) (ee_tup (ea_cons (ee_str) (ea_nil)))))
    (ess_cons (es_set (i := 6) nd (ee_ifExp (et_cmp op_gt ok_gt (ee_blt call_len ok_len (by rfl) T.f_len PySem.boot_len (ea_cons (ee_var 4) (ea_nil))) (ee_int) (nomark _)) (ec D__law_work_at hr tk_of (ea_cons (ee_var 0) (ea_cons (ee_ix (ee_var 4) (ee_int)) (ea_nil)))) (ee_tup (ea_cons (ee_str) (ea_nil)))))
    (ess_cons (es_asg (ee_var 3) (eg_unl rfl (egs_cons (eg_name (i := 7) nd) (egs_cons (eg_name (i := 8) nd) (egs_nil)))))
    (ess_cons (es_if (et_cmp (OpR.or op_eq (op_eqD hr.units)) ok_eq (ee_var 2) (ee_str) (nomark _)) (ess_one (es_ret (ee_ifExp (et_cmp op_in_seq (ok_in false) (ee_ix (ee_var 4) (ee_int)) (ee_tup (ea_cons (ee_str) (ea_cons (ee_str) (ea_cons (ee_str) (ea_cons (ee_str) (ea_nil)))))) (by with_unfolding_all rfl)) (ee_tup (ea_cons (ee_fz (ee_lst (ea_nil))) (ea_cons (ee_tup (ea_cons (ee_ix (ee_var 4) (ee_int)) (ea_cons (ee_ix (ee_var 4) (ee_int)) (ea_cons (ee_ix (ee_var 4) (ee_int)) (ea_nil))))) (ea_nil)))) (ee_non)))) (ess_nil))
    (ess_cons (es_if (et_cmp (OpR.or op_eq (op_eqD hr.units)) ok_eq (ee_var 2) (ee_str) (nomark _)) (ess_one (es_ret (ee_ifExp (et_cmp (OpR.or op_eq (op_eqD hr.units)) ok_eq (ee_ix (ee_var 4) (ee_int)) (ee_str) (nomark _)) (ee_tup (ea_cons (ee_fz (ee_lst (ea_cons (ee_tup (ea_cons (ee_str) (ea_cons (ee_ix (ee_var 4) (ee_int)) (ea_nil)))) (ea_nil)))) (ea_cons (ee_tup (ea_cons (ee_str) (ea_cons (ee_ix (ee_var 4) (ee_int)) (ea_cons (ee_var 7) (ea_nil))))) (ea_nil)))) (ee_non)))) (ess_nil))
    (ess_cons (es_if (et_cmp (OpR.or op_eq (op_eqD hr.units)) ok_eq (ee_var 2) (ee_str) (nomark _)) (ess_one (es_ret (ee_ifExp (et_cmp (OpR.or op_eq (op_eqD hr.units)) ok_eq (ee_tup (ea_cons (ee_ix (ee_var 4) (ee_int)) (ea_cons (ee_ix (ee_var 6) (ee_int)) (ea_nil)))) (ee_tup (ea_cons (ee_str) (ea_cons (ee_str) (ea_nil)))) (nomark _)) (ee_tup (ea_cons (ee_fz (ee_lst (ea_nil))) (ea_cons (ee_tup (ea_cons (ee_str) (ea_cons (ee_ix (ee_var 4) (ee_int)) (ea_cons (ee_ix (ee_var 6) (ee_int)) (ea_nil))))) (ea_nil)))) (ee_non)))) (ess_nil))
    (ess_cons (es_if (EW.et (ew_and (et_cmp (OpR.or op_eq (op_eqD hr.units)) ok_eq (ee_var 2) (ee_str) (nomark _)) (ew_and1 (et_cmp op_in_seq (ok_in false) (ee_ix (ee_var 4) (ee_int)) (ee_tup (ea_cons (ee_str) (ea_cons (ee_str) (ea_nil)))) (by with_unfolding_all rfl))))) (ess_one (es_ret (ee_ifExp (et_cmp (OpR.or op_eq (op_eqD hr.units)) ok_eq (ee_ix (ee_var 6) (ee_int)) (ee_ix (ee_var 4) (ee_int)) (nomark _)) (ee_tup (ea_cons (ee_fz (ee_lst (ea_cons (ee_tup (ea_cons (ee_ix (ee_var 4) (ee_int)) (ea_cons (ee_ix (ee_var 4) (ee_int)) (ea_cons (ee_ix (ee_var 6) (ee_int)) (ea_nil))))) (ea_nil)))) (ea_cons (ee_tup (ea_cons (ee_ix (ee_var 4) (ee_int)) (ea_cons (ee_var 7) (ea_cons (ee_ix (ee_var 6) (ee_int)) (ea_nil))))) (ea_nil)))) (ee_non)))) (ess_nil))
    (ess_cons (es_if (EW.et (ew_and (et_cmp (OpR.or op_eq (op_eqD hr.units)) ok_eq (ee_var 2) (ee_str) (nomark _)) (ew_and1 (et_cmp op_in_seq (ok_in false) (ee_ix (ee_var 4) (ee_int)) (ee_tup (ea_cons (ee_str) (ea_cons (ee_str) (ea_nil)))) (by with_unfolding_all rfl))))) (ess_one (es_ret (ee_ifExp (et_cmp (OpR.or op_eq (op_eqD hr.units)) ok_eq (ee_ix (ee_var 5) (ee_int)) (ee_ix (ee_var 4) (ee_int)) (nomark _)) (ee_tup (ea_cons (ee_fz (ee_lst (ea_cons (ee_tup (ea_cons (ee_ix (ee_var 4) (ee_int)) (ea_cons (ee_ix (ee_var 5) (ee_int)) (ea_cons (ee_ix (ee_var 4) (ee_int)) (ea_nil))))) (ea_nil)))) (ea_cons (ee_tup (ea_cons (ee_ix (ee_var 4) (ee_int)) (ea_cons (ee_ix (ee_var 5) (ee_int)) (ea_cons (ee_var 7) (ea_nil))))) (ea_nil)))) (ee_non)))) (ess_nil))
    (ess_cons (es_if (EW.et (ew_and (et_cmp (OpR.or op_eq (op_eqD hr.units)) ok_eq (ee_var 2) (ee_str) (nomark _)) (ew_and (et_cmp (OpR.or op_eq (op_eqD hr.units)) ok_eq (ee_ix (ee_var 4) (ee_int)) (ee_str) (nomark _)) (ew_and1 (et_cmp op_in_seq (ok_in false) (ee_ix (ee_var 6) (ee_int)) (ee_tup (ea_cons (ee_str) (ea_cons (ee_str) (ea_nil)))) (by with_unfolding_all rfl)))))) (ess_one (es_ret (ee_tup (ea_cons (ee_fz (ee_lst (ea_cons (ee_tup (ea_cons (ee_str) (ea_cons (ee_ix (ee_var 4) (ee_int)) (ea_cons (ee_ix (ee_var 6) (ee_int)) (ea_nil))))) (ea_cons (ee_tup (ea_cons (ee_str) (ea_cons (ee_ix (ee_var 4) (ee_int)) (ea_cons (ee_ix (ee_var 6) (ee_int)) (ea_nil))))) (ea_nil))))) (ea_cons (ee_tup (ea_cons (ee_ix (ee_var 6) (ee_int)) (ea_cons (ee_var 7) (ea_cons (ee_var 8) (ea_nil))))) (ea_nil)))))) (ess_nil))
    (ess_cons (es_if (EW.et (ew_and (et_cmp (OpR.or op_eq (op_eqD hr.units)) ok_eq (ee_var 2) (ee_str) (nomark _)) (ew_and (et_cmp op_in_seq (ok_in false) (ee_ix (ee_var 4) (ee_int)) (ee_tup (ea_cons (ee_str) (ea_cons (ee_str) (ea_nil)))) (by with_unfolding_all rfl)) (ew_and1 (et_cmp (OpR.or op_eq (op_eqD hr.units)) ok_eq (ee_tup (ea_cons (ee_ix (ee_var 5) (ee_int)) (ea_cons (ee_ix (ee_var 6) (ee_int)) (ea_nil)))) (ee_tup (ea_cons (ee_str) (ea_cons (ee_str) (ea_nil)))) (nomark _)))))) (ess_one (es_ret (ee_ifExp (et_cmp (OpR.or op_eq (op_eqD hr.units)) ok_eq (ee_ix (ee_var 5) (ee_int)) (ee_ix (ee_var 6) (ee_int)) (nomark _)) (ee_tup (ea_cons (ee_fz (ee_lst (ea_cons (ee_tup (ea_cons (ee_ix (ee_var 4) (ee_int)) (ea_cons (ee_ix (ee_var 5) (ee_int)) (ea_cons (ee_ix (ee_var 6) (ee_int)) (ea_nil))))) (ea_nil)))) (ea_cons (ee_tup (ea_cons (ee_str) (ea_cons (ee_ix (ee_var 5) (ee_int)) (ea_cons (ee_var 7) (ea_nil))))) (ea_nil)))) (ee_non)))) (ess_nil))
    (ess_cons (es_if (EW.et (ew_and (et_cmp (OpR.or op_eq (op_eqD hr.units)) ok_eq (ee_var 2) (ee_str) (nomark _)) (ew_and (et_cmp (OpR.or op_eq (op_eqD hr.units)) ok_eq (ee_ix (ee_var 4) (ee_int)) (ee_str) (nomark _)) (ew_and1 (et_cmp (OpR.or op_eq (op_eqD hr.units)) ok_eq (ee_ix (ee_var 4) (ee_int)) (ee_ix (ee_var 4) (ee_int)) (nomark _)))))) (ess_one (es_ret (ee_tup (ea_cons (ee_fz (ee_lst (ea_cons (ee_tup (ea_cons (ee_str) (ea_cons (ee_tup (ea_cons (ee_int) (ea_cons (ee_int) (ea_nil)))) (ea_nil)))) (ea_nil)))) (ea_cons (ee_tup (ea_cons (ee_str) (ea_cons (ee_ix (ee_var 4) (ee_int)) (ea_cons (ee_var 7) (ea_nil))))) (ea_nil)))))) (ess_nil))
    (ess_cons (es_if (EW.et (ew_and (et_cmp (OpR.or op_eq (op_eqD hr.units)) ok_eq (ee_var 2) (ee_str) (nomark _)) (ew_and (et_cmp (OpR.or op_eq (op_eqD hr.units)) ok_eq (ee_ix (ee_var 4) (ee_int)) (ee_str) (nomark _)) (ew_and1 (et_cmp (OpR.or op_eq (op_eqD hr.units)) ok_eq (ee_var 6) (ee_tup (ea_cons (ee_str) (ea_cons (ee_tup (ea_cons (ee_int) (ea_cons (ee_int) (ea_nil)))) (ea_nil)))) (nomark _)))))) (ess_one (es_ret (ee_tup (ea_cons (ee_fz (ee_lst (ea_nil))) (ea_cons (ee_tup (ea_cons (ee_str) (ea_cons (ee_ix (ee_var 4) (ee_int)) (ea_cons (ee_ix (ee_var 4) (ee_int)) (ea_nil))))) (ea_nil)))))) (ess_nil))
    (ess_one (es_ret (ee_non)))))))))))))))
theorem sc__law_fresh : FnScope ["_law_program", "_law_known", "_law_name", "_law_work", "_law_letters", "_law_words", "_law_sign", "_law_word"] ["_law_program"] (defScope s__law_fresh) := ⟨rfl, rfl, rfl, by decide +kernel, rfl, by decide +kernel, by decide +kernel⟩
theorem ok__law_fresh {f : Addr} {fd : FuncData} (T : Top K w mg)   (F : FnP K "_law_fresh" s__law_fresh f fd) (g : mg "_law_fresh" = some (.ref f)) : Df P w K mg base 1 "_law_fresh" ["_law_program"] m__law_fresh :=
  have nd := sc__law_fresh.nd
  df_of (kk := 1) (NN := 8) (body := b__law_fresh) F g sc__law_fresh rfl rfl (fun _ _ _ _ _ _ _ us hl => match us, hl with | [_], _ => rfl) fun cdv A outer s H E hr =>
    ess_cons (es_set (i := 1) nd (ee_fz (ee_op op_addA ok_add (ee_fz (ee_bltT call_list_of ok_list (by rfl) T.f_list (by decide +kernel) (ea_cons (ee_ix (ee_var 0) (ee_int)) (ea_nil)))) (ee_fz (ee_lc [2, 3] [("_law_name", 2), ("_law_work", 3)] rfl nd (ei_seq (ee_unp (ee_ix (ee_var 0) (ee_int)))) (blkOk_by (N := ["_law_program", "_law_known", "_law_name", "_law_work", "_law_letters", "_law_words", "_law_sign", "_law_word"]) (sc := defScope s__law_fresh) (by decide +kernel)) (fun _ _ _ _ _ => egw_tup rfl (egsw_cons (egw_name (i := 2) nd) (egsw_cons (egw_name (i := 3) nd) (egsw_nil)))) (fun _ _ _ _ _ => ets_nil) (fun _ _ _ _ _ => ee_var 2))))))
    (ess_cons (es_set (i := 4) nd (ee_str))
    (ess_cons (es_set (i := 5) nd (ee_fz (ee_op op_addA ok_add (ee_fz (ee_op op_addA ok_add (ee_fz (ee_bltT (call_listS rfl) ok_listS (by rfl) T.f_list (by decide +kernel) (ea_cons (ee_var 4) (ea_nil)))) (ee_fz (ee_lc [6] [("_law_sign", 6)] rfl nd (ei_str (ee_var 4)) (blkOk_by (N := ["_law_program", "_law_known", "_law_name", "_law_work", "_law_letters", "_law_words", "_law_sign", "_law_word"]) (sc := defScope s__law_fresh) (by decide +kernel)) (fun _ _ _ _ _ => egw_name (i := 6) nd) (fun _ _ _ _ _ => ets_nil) (fun _ _ _ _ _ => ee_op op_addA ok_add (ee_str) (ee_var 6)))))) (ee_fz (ee_lc [6] [("_law_sign", 6)] rfl nd (ei_str (ee_var 4)) (blkOk_by (N := ["_law_program", "_law_known", "_law_name", "_law_work", "_law_letters", "_law_words", "_law_sign", "_law_word"]) (sc := defScope s__law_fresh) (by decide +kernel)) (fun _ _ _ _ _ => egw_name (i := 6) nd) (fun _ _ _ _ _ => ets_nil) (fun _ _ _ _ _ => ee_op op_addA ok_add (ee_str) (ee_var 6)))))))
    (ess_one (es_ret (ee_fz (ee_slice (ee_fz (ee_lc [7] [("_law_word", 7)] rfl nd (ei_seq (ee_var 5)) (blkOk_by (N := ["_law_program", "_law_known", "_law_name", "_law_work", "_law_letters", "_law_words", "_law_sign", "_law_word"]) (sc := defScope s__law_fresh) (by decide +kernel)) (fun _ _ _ _ _ => egw_name (i := 7) nd) (fun _ _ _ _ _ => ets_one (et_cmp op_notIn_seq (ok_in true) (ee_var 7) (ee_var 1) (by with_unfolding_all rfl))) (fun _ _ _ _ _ => ee_var 7))) (eo_none) (eo_some (ee_int))))))))
theorem sc__law_all_turns : FnScope ["_law_program", "_law_words", "_law_fresh_here", "_law_found", "_law_row", "_law_word", "_law_made_here"] ["_law_program"] (defScope s__law_all_turns) := ⟨rfl, rfl, rfl, by decide +kernel, rfl, by decide +kernel, by decide +kernel⟩
theorem ok__law_all_turns {f : Addr} {fd : FuncData} (T : Top K w mg)  (D__law_fresh : Df P w K mg base 1 "_law_fresh" ["_law_program"] m__law_fresh) (D__law_made : Df P w K mg base 2 "_law_made" ["_law_program", "_law_row", "_law_word", "_law_fresh_here"] m__law_made) (F : FnP K "_law_all_turns" s__law_all_turns f fd) (g : mg "_law_all_turns" = some (.ref f)) : Df P w K mg base 3 "_law_all_turns" ["_law_program"] m__law_all_turns :=
  have nd := sc__law_all_turns.nd
  df_of (kk := 1) (NN := 7) (body := b__law_all_turns) F g sc__law_all_turns rfl rfl (fun _ _ _ _ _ _ _ us hl => match us, hl with | [_], _ => rfl) fun cdv A outer s H E hr =>
    ess_cons (es_set (i := 1) nd (ee_fz (ee_lst (ea_cons (ee_str) (ea_cons (ee_str) (ea_cons (ee_str) (ea_cons (ee_str) (ea_cons (ee_str) (ea_cons (ee_str) (ea_cons (ee_str) (ea_cons (ee_str) (ea_cons (ee_str) (ea_nil)))))))))))))
    (ess_cons (es_set (i := 2) nd (ec D__law_fresh hr tk_of (ea_cons (ee_var 0) (ea_nil))))
    (ess_cons (es_set (i := 3) nd (ee_lst (ea_nil)))
    (ess_cons (es_for (fb := bl__law_all_turns_2) po_of rfl (ei_range1 (by rfl) T.f_range (ea_cons (ee_blt call_len ok_len (by rfl) T.f_len PySem.boot_len (ea_cons (ee_unp (ee_ix (ee_var 0) (ee_int))) (ea_nil))) (ea_nil))) (eg_name (i := 4) nd) (ess_one (es_for (fb := bl__law_all_turns_1) po_of rfl (ei_seq (ee_var 1)) (eg_name (i := 5) nd) (ess_cons (es_set (i := 6) nd (ec D__law_made hr tk_of (ea_cons (ee_var 0) (ea_cons (ee_var 4) (ea_cons (ee_var 5) (ea_cons (ee_var 2) (ea_nil)))))))
    (ess_one (es_if (EW.et (ew_and (et_cmp op_notN ok_notN (ee_var 6) (ee_non) (nomark _)) (ew_and1 (et_cmp op_le ok_le (ee_op op_addA ok_add (ee_blt call_len ok_len (by rfl) T.f_len PySem.boot_len (ea_cons (ee_unp (ee_ix (ee_var 0) (ee_int))) (ea_nil))) (ee_blt call_len ok_len (by rfl) T.f_len PySem.boot_len (ea_cons (ee_ix (ee_var 6) (ee_int)) (ea_nil)))) (ee_int) (nomark _))))) (ess_one (es_expr (ee_mt PySem.F.plainAttrs_list PySem.F.slot_list_append PySem.F.type_list_append mt_append tyL_ok ok_app (ee_var 3) (ea_cons (ee_tup (ea_cons (ee_var 4) (ea_cons (ee_var 5) (ea_nil)))) (ea_nil))))) (ess_nil)))))))
    (ess_frz 3 (ess_one (es_ret (ee_var 3)))))))
theorem sc__law_turned : FnScope ["_law_program", "_law_turn", "_law_row", "_law_word", "_law_fresh_here", "_law_ahead", "_law_work", "_law_rows", "_law_wanted", "_law_name", "_law_one"] ["_law_program", "_law_turn"] (defScope s__law_turned) := ⟨rfl, rfl, rfl, by decide +kernel, rfl, by decide +kernel, by decide +kernel⟩
theorem ok__law_turned {f : Addr} {fd : FuncData} (T : Top K w mg)  (D__law_fresh : Df P w K mg base 1 "_law_fresh" ["_law_program"] m__law_fresh) (D__law_made : Df P w K mg base 2 "_law_made" ["_law_program", "_law_row", "_law_word", "_law_fresh_here"] m__law_made) (F : FnP K "_law_turned" s__law_turned f fd) (g : mg "_law_turned" = some (.ref f)) : Df P w K mg base 3 "_law_turned" ["_law_program", "_law_turn"] m__law_turned :=
  have nd := sc__law_turned.nd
  df_of (kk := 2) (NN := 11) (body := b__law_turned) F g sc__law_turned rfl rfl (fun _ _ _ _ _ _ _ us hl => match us, hl with | [_, _], _ => rfl) fun cdv A outer s H E hr =>
    ess_cons (es_asg (ee_var 1) (eg_tup rfl (egs_cons (eg_name (i := 2) nd) (egs_cons (eg_name (i := 3) nd) (egs_nil)))))
    (ess_cons (es_set (i := 4) nd (ec D__law_fresh hr tk_of (ea_cons (ee_var 0) (ea_nil))))
    (ess_cons (es_asg (ec D__law_made hr tk_of (ea_cons (ee_var 0) (ea_cons (ee_var 2) (ea_cons (ee_var 3) (ea_cons (ee_var 4) (ea_nil)))))) (eg_tup rfl (egs_cons (eg_name (i := 5) nd) (egs_cons (eg_name (i := 6) nd) (egs_nil)))))
    (ess_cons (es_set (i := 7) nd (ee_bltT call_list_of ok_list (by rfl) T.f_list (by decide +kernel) (ea_cons (ee_unp (ee_ix (ee_var 0) (ee_int))) (ea_nil))))
    (ess_cons (es_asg (ee_tup (ea_cons (ee_ix (ee_iy hr.units (ee_var 7) (ee_var 2)) (ee_int)) (ea_cons (ee_var 6) (ea_nil)))) (eg_setL (W := WOf E) (ee_var 7) (ee_var 2)))
    (ess_frz 7 (ess_cons (es_set (i := 7) nd (ee_fz (ee_op op_addA ok_add (ee_fz (ee_op op_addA ok_add (ee_fz (ee_slice (ee_var 7) (eo_none) (eo_some (ee_var 2)))) (ee_fz (ee_lz (by rfl) T.f_list (by rfl) T.f_zip rfl (ea_cons (ee_var 4) (ea_cons (ee_var 5) (ea_nil))))))) (ee_fz (ee_slice (ee_var 7) (eo_some (ee_var 2)) (eo_none))))))
    (ess_cons (es_set (i := 8) nd (ee_fz (ee_lst (ea_cons (ee_ix (ee_ix (ee_var 7) (ee_neg (ee_int))) (ee_int)) (ea_nil)))))
    (ess_cons (es_for (fb := bl__law_turned_1) po_of rfl (ei_seq (ee_fz (ee_rv (ee_var 7) (eo_some (ee_neg (ee_int))) (fun _ _ => rfl)))) (eg_tup rfl (egs_cons (eg_name (i := 9) nd) (egs_cons (eg_name (i := 6) nd) (egs_nil)))) (ess_one (es_if (EW.et (ew_and (et_cmp op_in_seq (ok_in false) (ee_var 9) (ee_var 8) (by with_unfolding_all rfl)) (ew_and1 (et_cmp (OpR.or op_ne (op_neD hr.units)) ok_ne (ee_ix (ee_var 6) (ee_int)) (ee_str) (nomark _))))) (ess_one (es_set (i := 8) nd (ee_fz (ee_op op_addA ok_add (ee_var 8) (ee_fz (ee_bltT call_list_of ok_list (by rfl) T.f_list (by decide +kernel) (ea_cons (ee_fz (ee_slice (ee_var 6) (eo_some (ee_int)) (eo_none))) (ea_nil)))))))) (ess_nil))))
    (ess_one (es_ret (ee_tup (ea_cons (ee_ix (ee_var 0) (ee_int)) (ea_cons (ee_bltT call_tupP ok_tupP (by rfl) T.f_tuple (by decide +kernel) (ea_cons (ee_fz (ee_lc [10] [("_law_one", 10)] rfl nd (ei_seq (ee_var 7)) (blkOk_by (N := ["_law_program", "_law_turn", "_law_row", "_law_word", "_law_fresh_here", "_law_ahead", "_law_work", "_law_rows", "_law_wanted", "_law_name", "_law_one"]) (sc := defScope s__law_turned) (by decide +kernel)) (fun _ _ _ _ _ => egw_name (i := 10) nd) (fun _ _ _ _ _ => ets_one (et_cmp op_in_seq (ok_in false) (ee_ix (ee_var 10) (ee_int)) (ee_var 8) (by with_unfolding_all rfl))) (fun _ _ _ _ _ => ee_var 10))) (ea_nil))) ea_nil)))))))))))))
theorem sc__law_right : FnScope ["_law_program", "_law_kept", "_law_turns", "_law_turn"] ["_law_program"] (defScope s__law_right) := ⟨rfl, rfl, rfl, by decide +kernel, rfl, by decide +kernel, by decide +kernel⟩
theorem ok__law_right {f : Addr} {fd : FuncData} (T : Top K w mg)  (D__law_all_turns : Df P w K mg base 3 "_law_all_turns" ["_law_program"] m__law_all_turns) (D_turned_by : Df P w K mg base 9 "turned_by" ["program", "turn"] m_turned_by) (D__law_turned : Df P w K mg base 3 "_law_turned" ["_law_program", "_law_turn"] m__law_turned) (F : FnP K "_law_right" s__law_right f fd) (g : mg "_law_right" = some (.ref f)) : Df P w K mg base 10 "_law_right" ["_law_program"] m__law_right :=
  have nd := sc__law_right.nd
  df_of (kk := 1) (NN := 4) (body := b__law_right) F g sc__law_right rfl rfl (fun _ _ _ _ _ _ _ us hl => match us, hl with | [_], _ => rfl) fun cdv A outer s H E hr =>
    ess_cons (es_set (i := 1) nd (ee_blt (call_reprL T.dig hr.g hr.units) ok_reprL (by rfl) T.f_repr (by decide +kernel) (ea_cons (ee_upA (ee_var 0)) ea_nil)))
    (ess_cons (es_set (i := 2) nd (ec D__law_all_turns hr tk_of (ea_cons (ee_var 0) (ea_nil))))
    (ess_cons (es_for (fb := bl__law_right_1) po_of rfl (ei_seq (ee_fz (ee_op op_addA ok_add (ee_var 2) (ee_fz (ee_rv (ee_var 2) (eo_some (ee_neg (ee_int))) (fun _ _ => rfl)))))) (eg_name (i := 3) nd) (ess_one (es_if (et_cmp (OpR.or op_ne (op_neD hr.units)) ok_ne (ee_blt (call_reprL T.dig hr.g hr.units) ok_reprL (by rfl) T.f_repr (by decide +kernel) (ea_cons (ee_upA (ec D_turned_by hr tk_of (ea_cons (ee_var 0) (ea_cons (ee_var 3) (ea_nil))))) ea_nil)) (ee_blt (call_reprL T.dig hr.g hr.units) ok_reprL (by rfl) T.f_repr (by decide +kernel) (ea_cons (ee_upA (ec D__law_turned hr tk_of (ea_cons (ee_var 0) (ea_cons (ee_var 3) (ea_nil))))) ea_nil)) (nomark _)) (ess_one (es_ret (ee_bl))) (ess_nil))))
    (ess_one (es_ret (ee_cmp (OpR.or op_eq (op_eqD hr.units)) ok_eq (ee_blt (call_reprL T.dig hr.g hr.units) ok_reprL (by rfl) T.f_repr (by decide +kernel) (ea_cons (ee_upA (ee_var 0)) ea_nil)) (ee_var 1) (nomark _))))))
theorem sc__law_lettered : FnScope ["_law_last", "_law_ahead", "_law_rows", "_law_sign"] ["_law_last", "_law_ahead"] (defScope s__law_lettered) := ⟨rfl, rfl, rfl, by decide +kernel, rfl, by decide +kernel, by decide +kernel⟩
theorem ok__law_lettered {f : Addr} {fd : FuncData} (T : Top K w mg)   (F : FnP K "_law_lettered" s__law_lettered f fd) (g : mg "_law_lettered" = some (.ref f)) : Df P w K mg base 1 "_law_lettered" ["_law_last", "_law_ahead"] m__law_lettered :=
  have nd := sc__law_lettered.nd
  df_of (kk := 2) (NN := 4) (body := b__law_lettered) F g sc__law_lettered rfl rfl (fun _ _ _ _ _ _ _ us hl => match us, hl with | [_, _], _ => rfl) fun cdv A outer s H E hr =>
    ess_cons (es_set (i := 2) nd (ee_lst (ea_cons (ee_tup (ea_cons (ee_str) (ea_cons (ee_tup (ea_cons (ee_str) (ea_cons (ee_str) (ea_cons (ee_str) (ea_nil))))) (ea_nil)))) (ea_nil))))
    (ess_cons (es_for (fb := bl__law_lettered_1) po_of rfl (ei_str (ee_str)) (eg_name (i := 3) nd) (ess_one (es_expr (ee_mt PySem.F.plainAttrs_list PySem.F.slot_list_append PySem.F.type_list_append mt_append tyL_ok ok_app (ee_var 2) (ea_cons (ee_tup (ea_cons (ee_var 3) (ea_cons (ee_tup (ea_cons (ee_str) (ea_cons (ee_ix (ee_ix (ee_var 2) (ee_neg (ee_int))) (ee_int)) (ea_nil)))) (ea_nil)))) (ea_nil))))))
    (ess_frz 2 (ess_one (es_ret (ee_tup (ea_cons (ee_tup (ea_cons (ee_str) (ea_nil))) (ea_cons (ee_bltT call_tupP ok_tupP (by rfl) T.f_tuple (by decide +kernel) (ea_cons (ee_fz (ee_op op_addA ok_add (ee_var 2) (ee_fz (ee_lst (ea_cons (ee_tup (ea_cons (ee_str) (ea_cons (ee_var 1) (ea_nil)))) (ea_cons (ee_tup (ea_cons (ee_str) (ea_cons (ee_var 0) (ea_nil)))) (ea_nil))))))) (ea_nil))) ea_nil)))))))
theorem sc_law : FnScope ["_law_script", "_law_wide", "_law_program", "_law_k", "_law_state_here"] ["_law_script"] (defScope s_law) := ⟨rfl, rfl, rfl, by decide +kernel, rfl, by decide +kernel, by decide +kernel⟩
theorem ok_law {f : Addr} {fd : FuncData} (T : Top K w mg)  (D__law_lettered : Df P w K mg base 1 "_law_lettered" ["_law_last", "_law_ahead"] m__law_lettered) (D__law_right : Df P w K mg base 10 "_law_right" ["_law_program"] m__law_right) (D__law_state : Df P w K mg base 2 "_law_state" ["_law_script", "_law_k"] m__law_state) (D__law_any_program : Df P w K mg base 4 "_law_any_program" ["_law_state_here", "_law_most"] m__law_any_program) (F : FnP K "law" s_law f fd) : FnG P w K mg base 11 f fd ["_law_script"] (spF K mg m_law) :=
  have nd := sc_law.nd
  law_of (kk := 1) (NN := 5) (body := b_law) F sc_law rfl rfl fun cdv A outer s H E hr =>
    ess_cons (es_set (i := 1) nd (ee_lst (ea_cons (ec D__law_lettered hr tk_of (ea_cons (ee_tup (ea_cons (ee_str) (ea_cons (ee_str) (ea_cons (ee_str) (ea_nil))))) (ea_cons (ee_tup (ea_cons (ee_str) (ea_cons (ee_str) (ea_nil)))) (ea_nil)))) (ea_nil))))
    (ess_cons (es_expr (ee_mt PySem.F.plainAttrs_list PySem.F.slot_list_append PySem.F.type_list_append mt_append tyL_ok ok_app (ee_var 1) (ea_cons (ec D__law_lettered hr tk_of (ea_cons (ee_tup (ea_cons (ee_str) (ea_cons (ee_str) (ea_cons (ee_str) (ea_nil))))) (ea_cons (ee_tup (ea_cons (ee_str) (ea_cons (ee_str) (ea_cons (ee_str) (ea_nil))))) (ea_nil)))) (ea_nil))))
    (ess_frz 1 (ess_cons (es_if (et_not (et_val (ee_blt (cr_all rfl) ok_all (by rfl) T.f_all (by decide +kernel) (ea_cons (ee_fz (ee_lcX [2] [("_law_program", 2)] tk_of rfl nd (ei_seq (ee_var 1)) (blkOk_by (N := ["_law_script", "_law_wide", "_law_program", "_law_k", "_law_state_here"]) (sc := defScope s_law) (by decide +kernel)) (fun _ _ _ _ _ _ => egw_name (i := 2) nd) (fun _ _ _ _ _ _ _ tb => ets_nil) (fun _ _ _ _ _ _ _ tb => ec D__law_right hr tb (ea_cons (ee_var 2) (ea_nil))))) (ea_nil))))) (ess_one (es_ret (ee_bl))) (ess_nil))
    (ess_cons (es_if (et_not (et_val (ec D__law_right hr tk_of (ea_cons (ee_tup (ea_cons (ee_tup (ea_cons (ee_str) (ea_cons (ee_str) (ea_nil)))) (ea_cons (ee_tupZ (ea_cons (ee_tup (ea_cons (ee_str) (ea_cons (ee_tup (ea_cons (ee_str) (ea_cons (ee_str) (ea_cons (ee_str) (ea_nil))))) (ea_nil)))) (ea_cons (ee_tup (ea_cons (ee_str) (ea_cons (ee_tup (ea_cons (ee_str) (ea_cons (ee_str) (ea_cons (ee_str) (ea_nil))))) (ea_nil)))) (ea_nil)))) ea_nil))) (ea_nil))))) (ess_one (es_ret (ee_bl))) (ess_nil))
    (ess_cons (es_for (fb := bl_law_1) po_of rfl (ei_range3 (by rfl) T.f_range (ea_cons (ee_int) (ea_cons (ee_blt (call_max2 rfl) ok_max (by rfl) T.f_max (by decide +kernel) (ea_cons (ee_int) (ea_cons (ee_blt (call_min2 rfl) ok_min (by rfl) T.f_min (by decide +kernel) (ea_cons (ee_int) (ea_cons (ee_blt call_len ok_len (by rfl) T.f_len PySem.boot_len (ea_cons (ee_var 0) (ea_nil))) (ea_nil)))) (ea_nil)))) (ea_cons (ee_int) (ea_nil))))) (eg_name (i := 3) nd) (ess_cons (es_set (i := 4) nd (ec D__law_state hr tk_of (ea_cons (ee_var 0) (ea_cons (ee_var 3) (ea_nil)))))
    (ess_one (es_if (et_not (et_val (ec D__law_right hr tk_of (ea_cons (ec D__law_any_program hr tk_of (ea_cons (ee_var 4) (ea_cons (ee_int) (ea_nil)))) (ea_nil))))) (ess_one (es_ret (ee_bl))) (ess_nil)))))
    (ess_one (es_ret (ee_bl))))))))
end
theorem facts {P : Program} {w : World} {K : PySem.W.Frag} {h : Heap} {mg : Str → Option Value} {f : Addr} (X : K.In h) (G : h.Ns mainGlobals mg) (hfa : mg ("law" : Str) = some (.ref f)) (c : SaysR fa fn ex K) (tw : TabsW tn w K) :
    ∃ fd : FuncData, (∀ (s : Shared) (v : Value), BindsTo s fd ⟨[v], []⟩ [("_law_script", v)]) ∧ ∀ base : Heap, K.In base → base.Ns mainGlobals mg → FnG P w K mg base 11 f fd ["_law_script"] (spF K mg m_law) := by
  obtain ⟨c, cx⟩ := c
  obtain ⟨fd_is_whole, F_is_whole⟩ := c.def_ 0 (d := d_is_whole) rfl
  obtain ⟨fd_shared, F_shared⟩ := c.def_ 1 (d := d_shared) rfl
  obtain ⟨fd_is_fraction, F_is_fraction⟩ := c.def_ 2 (d := d_is_fraction) rfl
  obtain ⟨fd_is_great, F_is_great⟩ := c.def_ 3 (d := d_is_great) rfl
  obtain ⟨fd_is_name, F_is_name⟩ := c.def_ 4 (d := d_is_name) rfl
  obtain ⟨fd_is_work, F_is_work⟩ := c.def_ 5 (d := d_is_work) rfl
  obtain ⟨fd_are_ins, F_are_ins⟩ := c.def_ 6 (d := d_are_ins) rfl
  obtain ⟨fd_is_row, F_is_row⟩ := c.def_ 7 (d := d_is_row) rfl
  obtain ⟨fd_wrong_row, F_wrong_row⟩ := c.def_ 8 (d := d_wrong_row) rfl
  obtain ⟨fd_need_program, F_need_program⟩ := c.def_ 9 (d := d_need_program) rfl
  obtain ⟨fd_asked, F_asked⟩ := c.def_ 10 (d := d_asked) rfl
  obtain ⟨fd_needed, F_needed⟩ := c.def_ 11 (d := d_needed) rfl
  obtain ⟨fd_pruned, F_pruned⟩ := c.def_ 12 (d := d_pruned) rfl
  obtain ⟨fd_work_at, F_work_at⟩ := c.def_ 13 (d := d_work_at) rfl
  obtain ⟨fd_new_names, F_new_names⟩ := c.def_ 14 (d := d_new_names) rfl
  obtain ⟨fd_swapped, F_swapped⟩ := c.def_ 15 (d := d_swapped) rfl
  obtain ⟨fd_put_apart, F_put_apart⟩ := c.def_ 16 (d := d_put_apart) rfl
  obtain ⟨fd_put_back, F_put_back⟩ := c.def_ 17 (d := d_put_back) rfl
  obtain ⟨fd_to_the_left, F_to_the_left⟩ := c.def_ 18 (d := d_to_the_left) rfl
  obtain ⟨fd_to_the_right, F_to_the_right⟩ := c.def_ 19 (d := d_to_the_right) rfl
  obtain ⟨fd_spread_out, F_spread_out⟩ := c.def_ 20 (d := d_spread_out) rfl
  obtain ⟨fd_gathered, F_gathered⟩ := c.def_ 21 (d := d_gathered) rfl
  obtain ⟨fd_taken_twice, F_taken_twice⟩ := c.def_ 22 (d := d_taken_twice) rfl
  obtain ⟨fd_taken_once, F_taken_once⟩ := c.def_ 23 (d := d_taken_once) rfl
  obtain ⟨fd_made_by, F_made_by⟩ := c.def_ 24 (d := d_made_by) rfl
  obtain ⟨fd_is_turn, F_is_turn⟩ := c.def_ 25 (d := d_is_turn) rfl
  obtain ⟨fd_turned_by, F_turned_by⟩ := c.def_ 26 (d := d_turned_by) rfl
  obtain ⟨fd__law_cell_at, F__law_cell_at⟩ := c.def_ 27 (d := d__law_cell_at) rfl
  obtain ⟨fd__law_mixed, F__law_mixed⟩ := c.def_ 28 (d := d__law_mixed) rfl
  obtain ⟨fd__law_state, F__law_state⟩ := c.def_ 29 (d := d__law_state) rfl
  obtain ⟨fd__law_draw, F__law_draw⟩ := c.def_ 30 (d := d__law_draw) rfl
  obtain ⟨fd__law_fraction, F__law_fraction⟩ := c.def_ 31 (d := d__law_fraction) rfl
  obtain ⟨fd__law_names, F__law_names⟩ := c.def_ 32 (d := d__law_names) rfl
  obtain ⟨fd__law_number, F__law_number⟩ := c.def_ 33 (d := d__law_number) rfl
  obtain ⟨fd__law_any_work, F__law_any_work⟩ := c.def_ 34 (d := d__law_any_work) rfl
  obtain ⟨fd__law_any_program, F__law_any_program⟩ := c.def_ 35 (d := d__law_any_program) rfl
  obtain ⟨fd__law_work_at, F__law_work_at⟩ := c.def_ 36 (d := d__law_work_at) rfl
  obtain ⟨fd__law_made, F__law_made⟩ := c.def_ 37 (d := d__law_made) rfl
  obtain ⟨fd__law_fresh, F__law_fresh⟩ := c.def_ 38 (d := d__law_fresh) rfl
  obtain ⟨fd__law_all_turns, F__law_all_turns⟩ := c.def_ 39 (d := d__law_all_turns) rfl
  obtain ⟨fd__law_turned, F__law_turned⟩ := c.def_ 40 (d := d__law_turned) rfl
  obtain ⟨fd__law_right, F__law_right⟩ := c.def_ 41 (d := d__law_right) rfl
  obtain ⟨fd__law_lettered, F__law_lettered⟩ := c.def_ 42 (d := d__law_lettered) rfl
  obtain ⟨fd_law, F_law⟩ := c.def_ 43 (d := d_law) rfl
  obtain ⟨fd_i_BadProgram, F_i_BadProgram⟩ := c.def_ 44 (d := d_i_BadProgram) rfl
  obtain ⟨fd_i_BadTurn, F_i_BadTurn⟩ := c.def_ 45 (d := d_i_BadTurn) rfl
  have g_is_whole := He.glo_ok X G (c.fact 0 (f := .glo "is_whole") rfl)
  have g_shared := He.glo_ok X G (c.fact 1 (f := .glo "shared") rfl)
  have g_is_fraction := He.glo_ok X G (c.fact 2 (f := .glo "is_fraction") rfl)
  have g_is_great := He.glo_ok X G (c.fact 3 (f := .glo "is_great") rfl)
  have g_is_name := He.glo_ok X G (c.fact 4 (f := .glo "is_name") rfl)
  have g_is_work := He.glo_ok X G (c.fact 5 (f := .glo "is_work") rfl)
  have g_are_ins := He.glo_ok X G (c.fact 6 (f := .glo "are_ins") rfl)
  have g_is_row := He.glo_ok X G (c.fact 7 (f := .glo "is_row") rfl)
  have g_wrong_row := He.glo_ok X G (c.fact 8 (f := .glo "wrong_row") rfl)
  have g_need_program := He.glo_ok X G (c.fact 9 (f := .glo "need_program") rfl)
  have g_asked := He.glo_ok X G (c.fact 10 (f := .glo "asked") rfl)
  have g_needed := He.glo_ok X G (c.fact 11 (f := .glo "needed") rfl)
  have g_pruned := He.glo_ok X G (c.fact 12 (f := .glo "pruned") rfl)
  have g_work_at := He.glo_ok X G (c.fact 13 (f := .glo "work_at") rfl)
  have g_new_names := He.glo_ok X G (c.fact 14 (f := .glo "new_names") rfl)
  have g_swapped := He.glo_ok X G (c.fact 15 (f := .glo "swapped") rfl)
  have g_put_apart := He.glo_ok X G (c.fact 16 (f := .glo "put_apart") rfl)
  have g_put_back := He.glo_ok X G (c.fact 17 (f := .glo "put_back") rfl)
  have g_to_the_left := He.glo_ok X G (c.fact 18 (f := .glo "to_the_left") rfl)
  have g_to_the_right := He.glo_ok X G (c.fact 19 (f := .glo "to_the_right") rfl)
  have g_spread_out := He.glo_ok X G (c.fact 20 (f := .glo "spread_out") rfl)
  have g_gathered := He.glo_ok X G (c.fact 21 (f := .glo "gathered") rfl)
  have g_taken_twice := He.glo_ok X G (c.fact 22 (f := .glo "taken_twice") rfl)
  have g_taken_once := He.glo_ok X G (c.fact 23 (f := .glo "taken_once") rfl)
  have g_made_by := He.glo_ok X G (c.fact 24 (f := .glo "made_by") rfl)
  have g_is_turn := He.glo_ok X G (c.fact 25 (f := .glo "is_turn") rfl)
  have g_turned_by := He.glo_ok X G (c.fact 26 (f := .glo "turned_by") rfl)
  have g__law_cell_at := He.glo_ok X G (c.fact 27 (f := .glo "_law_cell_at") rfl)
  have g__law_mixed := He.glo_ok X G (c.fact 28 (f := .glo "_law_mixed") rfl)
  have g__law_state := He.glo_ok X G (c.fact 29 (f := .glo "_law_state") rfl)
  have g__law_draw := He.glo_ok X G (c.fact 30 (f := .glo "_law_draw") rfl)
  have g__law_fraction := He.glo_ok X G (c.fact 31 (f := .glo "_law_fraction") rfl)
  have g__law_names := He.glo_ok X G (c.fact 32 (f := .glo "_law_names") rfl)
  have g__law_number := He.glo_ok X G (c.fact 33 (f := .glo "_law_number") rfl)
  have g__law_any_work := He.glo_ok X G (c.fact 34 (f := .glo "_law_any_work") rfl)
  have g__law_any_program := He.glo_ok X G (c.fact 35 (f := .glo "_law_any_program") rfl)
  have g__law_work_at := He.glo_ok X G (c.fact 36 (f := .glo "_law_work_at") rfl)
  have g__law_made := He.glo_ok X G (c.fact 37 (f := .glo "_law_made") rfl)
  have g__law_fresh := He.glo_ok X G (c.fact 38 (f := .glo "_law_fresh") rfl)
  have g__law_all_turns := He.glo_ok X G (c.fact 39 (f := .glo "_law_all_turns") rfl)
  have g__law_turned := He.glo_ok X G (c.fact 40 (f := .glo "_law_turned") rfl)
  have g__law_right := He.glo_ok X G (c.fact 41 (f := .glo "_law_right") rfl)
  have g__law_lettered := He.glo_ok X G (c.fact 42 (f := .glo "_law_lettered") rfl)
  have g_law := He.glo_ok X G (c.fact 43 (f := .glo "law") rfl)
  have cx2 := cx
  unfold ex at cx2
  simp only [Bool.and_eq_true] at cx2
  have T : Top K w mg := ⟨gdict2_ok X G cx2.1.2 (tw.at_ 0), gdict_ok X G cx2.2 (tw.at_ 1), He.free_ok X G (c.fact 44 (f := .free "abs") rfl), He.free_ok X G (c.fact 45 (f := .free "all") rfl), He.free_ok X G (c.fact 46 (f := .free "bool") rfl), He.free_ok X G (c.fact 47 (f := .free "dict") rfl), He.free_ok X G (c.fact 48 (f := .free "enumerate") rfl), He.free_ok X G (c.fact 49 (f := .free "int") rfl), He.free_ok X G (c.fact 50 (f := .free "isinstance") rfl), He.free_ok X G (c.fact 51 (f := .free "len") rfl), He.free_ok X G (c.fact 52 (f := .free "list") rfl), He.free_ok X G (c.fact 53 (f := .free "max") rfl), He.free_ok X G (c.fact 54 (f := .free "min") rfl), He.free_ok X G (c.fact 55 (f := .free "range") rfl), He.free_ok X G (c.fact 56 (f := .free "repr") rfl), He.free_ok X G (c.fact 57 (f := .free "reversed") rfl), He.free_ok X G (c.fact 58 (f := .free "set") rfl), He.free_ok X G (c.fact 59 (f := .free "str") rfl), He.free_ok X G (c.fact 60 (f := .free "tuple") rfl), He.free_ok X G (c.fact 61 (f := .free "zip") rfl), gB_ok X G cx2.1.1.1.1.1.1.1.1.1.1.1.1.1, gB_ok X G cx2.1.1.1.1.1.1.1.1.1.1.1.1.2, gB_ok X G cx2.1.1.1.1.1.1.1.1.1.1.1.2, gB_ok X G cx2.1.1.1.1.1.1.1.1.1.1.2, gB_ok X G cx2.1.1.1.1.1.1.1.1.1.2, gB_ok X G cx2.1.1.1.1.1.1.1.1.2, gB_ok X G cx2.1.1.1.1.1.1.1.2, gB_ok X G cx2.1.1.1.1.1.1.2, gB_ok X G cx2.1.1.1.1.1.2, digB_ok cx2.1.1.1.1.2, iniB_ok X G cx2.1.1.1.2, iniB_ok X G cx2.1.1.2, gfn_ok g_gathered, gfn_ok g_put_apart, gfn_ok g_put_back, gfn_ok g_spread_out, gfn_ok g_swapped, gfn_ok g_taken_once, gfn_ok g_taken_twice, gfn_ok g_to_the_left, gfn_ok g_to_the_right⟩
  have e := hfa.symm.trans g_law
  cases e
  have b := FunD.bindsA (ps := ["_law_script"]) F_law fun _ _ _ _ _ _ us hl => match us, hl with | [_], _ => rfl
  refine ⟨fd_law, fun s v => b s [v] rfl, fun base _ _ => ?_⟩
  have I_BadProgram : IniC P w K mg base "BadProgram" "row" := ini_BadProgram T F_i_BadProgram
  have I_BadTurn : IniC P w K mg base "BadTurn" "place" := ini_BadTurn T F_i_BadTurn
  have D_is_whole : Df P w K mg base 1 "is_whole" ["thing"] m_is_whole := ok_is_whole T  F_is_whole g_is_whole
  have D_shared : Df P w K mg base 1 "shared" ["one", "other"] m_shared := ok_shared T  F_shared g_shared
  have D_is_fraction : Df P w K mg base 2 "is_fraction" ["thing"] m_is_fraction := ok_is_fraction T D_is_whole D_shared F_is_fraction g_is_fraction
  have D_is_great : Df P w K mg base 1 "is_great" ["number"] m_is_great := ok_is_great T  F_is_great g_is_great
  have D_is_name : Df P w K mg base 1 "is_name" ["thing"] m_is_name := ok_is_name T  F_is_name g_is_name
  have D_is_work : Df P w K mg base 3 "is_work" ["thing", "names"] m_is_work := ok_is_work T D_is_fraction D_is_great D_is_name F_is_work g_is_work
  have D_are_ins : Df P w K mg base 2 "are_ins" ["thing"] m_are_ins := ok_are_ins T D_is_name F_are_ins g_are_ins
  have D_is_row : Df P w K mg base 4 "is_row" ["thing", "names"] m_is_row := ok_is_row T D_is_name D_is_work F_is_row g_is_row
  have D_wrong_row : Df P w K mg base 5 "wrong_row" ["thing"] m_wrong_row := ok_wrong_row T D_are_ins D_is_row F_wrong_row g_wrong_row
  have D_need_program : Df P w K mg base 6 "need_program" ["thing"] m_need_program := ok_need_program T I_BadProgram D_wrong_row F_need_program g_need_program
  have D_asked : Df P w K mg base 1 "asked" ["work"] m_asked := ok_asked T  F_asked g_asked
  have D_needed : Df P w K mg base 7 "needed" ["program"] m_needed := ok_needed T D_need_program D_asked F_needed g_needed
  have D_pruned : Df P w K mg base 8 "pruned" ["program"] m_pruned := ok_pruned T D_needed F_pruned g_pruned
  have D_work_at : Df P w K mg base 1 "work_at" ["program", "name"] m_work_at := ok_work_at T  F_work_at g_work_at
  have D_new_names : Df P w K mg base 1 "new_names" ["program"] m_new_names := ok_new_names T  F_new_names g_new_names
  have D_swapped : Df P w K mg base 1 "swapped" ["program", "work", "fresh"] m_swapped := ok_swapped T  F_swapped g_swapped
  have D_put_apart : Df P w K mg base 1 "put_apart" ["program", "work", "fresh"] m_put_apart := ok_put_apart T  F_put_apart g_put_apart
  have D_put_back : Df P w K mg base 2 "put_back" ["program", "work", "fresh"] m_put_back := ok_put_back T D_work_at F_put_back g_put_back
  have D_to_the_left : Df P w K mg base 2 "to_the_left" ["program", "work", "fresh"] m_to_the_left := ok_to_the_left T D_work_at F_to_the_left g_to_the_left
  have D_to_the_right : Df P w K mg base 2 "to_the_right" ["program", "work", "fresh"] m_to_the_right := ok_to_the_right T D_work_at F_to_the_right g_to_the_right
  have D_spread_out : Df P w K mg base 2 "spread_out" ["program", "work", "fresh"] m_spread_out := ok_spread_out T D_work_at F_spread_out g_spread_out
  have D_gathered : Df P w K mg base 2 "gathered" ["program", "work", "fresh"] m_gathered := ok_gathered T D_work_at F_gathered g_gathered
  have D_taken_twice : Df P w K mg base 1 "taken_twice" ["program", "work", "fresh"] m_taken_twice := ok_taken_twice T  F_taken_twice g_taken_twice
  have D_taken_once : Df P w K mg base 2 "taken_once" ["program", "work", "fresh"] m_taken_once := ok_taken_once T D_work_at F_taken_once g_taken_once
  have D_made_by : Df P w K mg base 3 "made_by" ["program", "row", "word", "fresh"] m_made_by := ok_made_by T D_swapped D_put_apart D_put_back D_to_the_left D_to_the_right D_spread_out D_gathered D_taken_twice D_taken_once F_made_by g_made_by
  have D_is_turn : Df P w K mg base 1 "is_turn" ["program", "thing"] m_is_turn := ok_is_turn T  F_is_turn g_is_turn
  have D_turned_by : Df P w K mg base 9 "turned_by" ["program", "turn"] m_turned_by := ok_turned_by T I_BadTurn D_need_program D_new_names D_is_turn D_made_by D_pruned F_turned_by g_turned_by
  have D__law_cell_at : Df P w K mg base 1 "_law_cell_at" ["_law_script", "_law_k"] m__law_cell_at := ok__law_cell_at T  F__law_cell_at g__law_cell_at
  have D__law_mixed : Df P w K mg base 1 "_law_mixed" ["_law_cell", "_law_k"] m__law_mixed := ok__law_mixed T  F__law_mixed g__law_mixed
  have D__law_state : Df P w K mg base 2 "_law_state" ["_law_script", "_law_k"] m__law_state := ok__law_state T D__law_cell_at D__law_mixed F__law_state g__law_state
  have D__law_draw : Df P w K mg base 2 "_law_draw" ["_law_state_here", "_law_many"] m__law_draw := ok__law_draw T D__law_mixed F__law_draw g__law_draw
  have D__law_fraction : Df P w K mg base 1 "_law_fraction" ["_law_above", "_law_below"] m__law_fraction := ok__law_fraction T  F__law_fraction g__law_fraction
  have D__law_names : Df P w K mg base 3 "_law_names" ["_law_state_here", "_law_many"] m__law_names := ok__law_names T D__law_draw F__law_names g__law_names
  have D__law_number : Df P w K mg base 3 "_law_number" ["_law_state_here"] m__law_number := ok__law_number T D__law_draw D__law_fraction F__law_number g__law_number
  have D__law_any_work : Df P w K mg base 3 "_law_any_work" ["_law_state_here", "_law_known"] m__law_any_work := ok__law_any_work T D__law_draw F__law_any_work g__law_any_work
  have D__law_any_program : Df P w K mg base 4 "_law_any_program" ["_law_state_here", "_law_most"] m__law_any_program := ok__law_any_program T D__law_names D__law_draw D__law_any_work D__law_number F__law_any_program g__law_any_program
  have D__law_work_at : Df P w K mg base 1 "_law_work_at" ["_law_program", "_law_name"] m__law_work_at := ok__law_work_at T  F__law_work_at g__law_work_at
  have D__law_made : Df P w K mg base 2 "_law_made" ["_law_program", "_law_row", "_law_word", "_law_fresh_here"] m__law_made := ok__law_made T D__law_work_at F__law_made g__law_made
  have D__law_fresh : Df P w K mg base 1 "_law_fresh" ["_law_program"] m__law_fresh := ok__law_fresh T  F__law_fresh g__law_fresh
  have D__law_all_turns : Df P w K mg base 3 "_law_all_turns" ["_law_program"] m__law_all_turns := ok__law_all_turns T D__law_fresh D__law_made F__law_all_turns g__law_all_turns
  have D__law_turned : Df P w K mg base 3 "_law_turned" ["_law_program", "_law_turn"] m__law_turned := ok__law_turned T D__law_fresh D__law_made F__law_turned g__law_turned
  have D__law_right : Df P w K mg base 10 "_law_right" ["_law_program"] m__law_right := ok__law_right T D__law_all_turns D_turned_by D__law_turned F__law_right g__law_right
  have D__law_lettered : Df P w K mg base 1 "_law_lettered" ["_law_last", "_law_ahead"] m__law_lettered := ok__law_lettered T  F__law_lettered g__law_lettered
  exact ok_law T D__law_lettered D__law_right D__law_state D__law_any_program F_law
local macro_rules | `(tactic| walk_at "ev") => `(tactic| simp only [mkF, enter, retF, trunc, sSeq, So.then_nx, So.then_rt, sSet, sRet, sRetN, sIf, sExpr, sNil, sPar, sAsg, ofG, gN, gsCons, gsNil, gTupT_tup, gTupT_Q, Out.then_ok, Out.then_ex, Out.bind_ok, Out.bind_ex, eVar, eD_eq, eOp, eCall, eBlt, aCons, aNil, eTup, eIf, eT, eNot, eAnd, eOr, tvAnd, tvOr, tvNot, eNeg, eIsi, isTy_d, isQ_tup, isQ_bool, isQ_int, isI_bool, isI_int, isI_tup, isB_bool, isB_int, ixQ0, ixQ1, truO_b, fzs_nil, fzs_d, gInt_eq, gAdd_int, gAbs_eq, fAdd_eq, fSub_eq, fLt_eq, fLe_eq, fGt_eq, fGe_eq, ix0, ix1, ix2, ix3, ix4, ix5, ofO_some, Option.map_some, Option.bind_some, List.length_cons, List.length_nil, List.map_cons, List.map_nil, List.replicate_succ, List.replicate_zero, List.cons_append, List.nil_append, List.getElem?_cons_zero, List.getElem?_cons_succ, List.set_cons_zero, List.set_cons_succ, List.take_length, Int.reduceEq, Int.reduceLT, Int.reduceLE, Nat.reduceSub, Nat.reduceAdd, Nat.reduceLeDiff, Nat.reduceLT, Nat.zero_add, Nat.add_zero, Nat.sub_self, if_true, if_false, reduceIte, Bool.false_eq_true, fitB, decide_true, decide_false, Bool.not_true, Bool.not_false])
local macro_rules | `(tactic| walk_at "rg") => `(tactic| first | rfl | exact rgB_of (by omega) (by omega))
local macro_rules | `(tactic| walk_at "len") => `(tactic| first | rfl | (simp only [List.length_set, List.length_append, List.length_cons, List.length_nil]; done))
local macro_rules | `(tactic| walk_at "bd") => `(tactic| with_reducible first
    | assumption
    | (apply BQ.nu; walk_at "bq")
    | (apply BQ.dn; walk_at "bq")
    | (apply Bd.mul <;> walk_at "bd")
    | (apply Bd.add <;> walk_at "bd")
    | (apply Bd.sub <;> walk_at "bd")
    | (apply Bd.neg; walk_at "bd")
    | (apply Bd.abs; walk_at "bd")
    | (apply Bd.ediv; walk_at "bd")
    | (apply Bd.emod; walk_at "bd"; walk_at "pos")
    | exact Bd.lit _)
local macro_rules | `(tactic| walk_at "bq") => `(tactic| with_reducible first
    | assumption
    | exact BQ.zero
    | exact BQ.one
    | (apply BQ.add' <;> walk_at "bq")
    | (apply BQ.sub' <;> walk_at "bq")
    | (apply BQ.mul' <;> walk_at "bq")
    | (apply BQ.div' <;> walk_at "bq")
    | (apply BQ.neg; walk_at "bq")
    | (apply BQ.abs; walk_at "bq")
    | (apply BQ.mn <;> walk_at "bq")
    | (apply BQ.mx <;> walk_at "bq")
    | (apply BQ.ite <;> walk_at "bq")
    | exact BQ.lit _
    | (apply BQ.i; walk_at "bd")
    | (apply BQ.dv <;> walk_at "bd"))
local macro_rules | `(tactic| walk_at "pos") => `(tactic| first | exact den_pos _ | omega | decide)
local macro_rules | `(tactic| walk_at "mok") => `(tactic| first | exact mulOk_smallR (Bd.mono (by walk_at "bd") (by walk_at "sm")) | exact mulOk_small (Bd.mono (by walk_at "bd") (by walk_at "sm")) | exact Bd.mulOk (by walk_at "bd") (by walk_at "bd") (by walk_at "sm"))
local macro_rules | `(tactic| walk_at "dok") => `(tactic| exact Bd.divOk (Bd.mono (m := 9000) (by walk_at "bd") (by walk_at "sm")) (by decide) (by decide))
local macro_rules | `(tactic| walk_at "nz") => `(tactic| assumption)
local macro_rules | `(tactic| walk_at "shw") => `(tactic| first
    | assumption
    | exact Shw.none
    | exact Shw.bool _
    | (apply Shw.Q; (walk_at "bq"); walk_at "sm")
    | (apply Shw.int; (walk_at "bd"); walk_at "sm")
    | (apply Shw.tup; walk_at "shwl")
    | (apply Shw.lst; walk_at "shwl"))
local macro_rules | `(tactic| walk_at "shwl") => `(tactic| first
    | exact ShwL.nil
    | (apply ShwL.cons; (walk_at "shw"); walk_at "shwl"))
local macro_rules | `(tactic| walk_at "sm") => `(tactic| first | decide | omega)
local macro_rules | `(tactic| walk_at "wp") => `(tactic| first
    | (refine hd_v ?_; first | refine wp_v0 ?_ | refine wp_v1 ?_ | refine wp_v2 ?_ | refine wp_v3 ?_ | refine wp_v4 ?_ | refine wp_v5 ?_ | refine wp_v6 ?_ | refine wp_v7 ?_ | refine wp_v8 ?_ | refine wp_v9 ?_ | refine wp_v10 ?_ | refine wp_v11 ?_ | refine wp_v12 ?_ | refine wp_v13 ?_ | refine wp_v14 ?_ | refine wp_v15 ?_ | refine wp_v16 ?_ | refine wp_v17 ?_ | refine wp_v18 ?_ | refine wp_v19 ?_ | refine wp_v20 ?_ | refine wp_v21 ?_ | refine wp_v22 ?_ | refine wp_v23 ?_ | refine wp_v24 ?_ | refine wp_v25 ?_)
    | walk_at "wk"
    | refine wp_D ?_
    | refine wp_op ?_
    | refine wp_call ?_
    | refine wp_cons ?_
    | refine wp_nil ?_
    | refine wp_T ?_
    | refine wp_if ?_
    | refine wp_tup ?_
    | refine wp_blt ?_
    | refine wp_fzL ?_
    | refine wp_fzO ?_
    | refine wp_fzB ?_
    | refine wp_fzS ?_
    | refine wp_fzT ?_
    | refine wp_fzR ?_
    | refine wp_rv ?_
    | refine wp_mtL ?_
    | refine wp_mtD ?_
    | refine wp_lst ?_
    | refine wp_tand ?_
    | refine wp_tor ?_
    | refine wp_tnot ?_
    | refine wp_and ?_
    | refine wp_or ?_
    | refine wp_not ?_
    | refine wp_chain ?_
    | refine wp_slice ?_
    | refine wp_oN ?_
    | refine wp_oS ?_
    | refine wp_step ?_
    | refine wp_tyes ?_
    | refine wp_isi ?_
    | refine wp_isE ?_
    | refine wp_neg ?_
    | refine wp_iv ?_
    | refine wp_itT ?_
    | refine wp_itL ?_
    | refine wp_rng1 ?_
    | refine wp_rng2 ?_
    | refine wp_zip ?_
    | refine wp_zip4 ?_
    | refine wp_enumB ?_
    | refine wp_rev ?_
    | refine wp_dct0 ?_
    | refine wp_dct ?_
    | refine wp_pn ?_
    | refine wp_pc ?_
    | refine wp_bits ?_
    | refine wp_unl ?_
    | refine wp_m1 ?_
    | refine wp_unp ?_
    | refine wp_tupZ ?_
    | refine wp_callF ?_
    | refine wp_itS ?_
    | refine wp_revR ?_
    | refine wp_lstR ?_
    | walk_at "wc")
local macro_rules | `(tactic| walk_at "ws") => `(tactic| first
    | refine ws_seq ?_
    | refine ws_set ?_
    | refine ws_if ?_
    | refine ws_ret ?_
    | refine ws_asg ?_
    | refine ws_expr ?_
    | refine ws_nil ?_
    | refine ws_for ?_
    | refine ws_par ?_
    | refine ws_par3 ?_
    | refine ws_parN2 ?_
    | refine ws_parN3 ?_
    | refine ws_parN4 ?_
    | refine ws_aug ?_
    | refine ws_retN ?_
    | refine ws_cont ?_
    | refine ws_brk ?_
    | refine ws_raise ?_
    | refine ws_try ?_
    | (apply ws_frzE; exact (by walk_at "len"); (with_unfolding_all rfl))
    | (apply ws_frzS; assumption; exact (by walk_at "len"); (with_unfolding_all rfl))
    | walk_at "wsc")
local macro_rules | `(tactic| walk_at "wsc") => `(tactic| fail)
local macro_rules | `(tactic| walk_at "bqm") => `(tactic| exact BQ.mono (by walk_at "bq") (by walk_at "sm"))
local macro_rules | `(tactic| walk_at "wo") => `(tactic| first
    | refine wo_eqE0 ?_
    | refine wo_eqE1 ?_
    | refine wo_add ?_
    | refine wo_sub ?_
    | refine wo_ixQ0 ?_
    | refine wo_ixQ1 ?_
    | refine wo_ix0 ?_
    | refine wo_ix1 ?_
    | refine wo_lt ?_
    | refine wo_le ?_
    | refine wo_gt ?_
    | refine wo_ge ?_
    | refine wo_eqI ?_
    | refine wo_neI ?_
    | refine wo_eqQ ?_
    | refine wo_neQ ?_
    | refine wo_eqQQ ?_
    | refine wo_neQQ ?_
    | refine wo_eqSS ?_
    | refine wo_neSS ?_
    | refine wo_eqS ?_
    | refine wo_neS ?_
    | refine wo_eqB ?_
    | refine wo_neB ?_
    | refine wo_isNn ?_
    | refine wo_isNt ?_
    | refine wo_isNl ?_
    | refine wo_isNq ?_
    | refine wo_isNi ?_
    | refine wo_isNb ?_
    | refine wo_isNs ?_
    | refine wo_isNx ?_
    | refine wo_ntNx ?_
    | refine wo_isNy ?_
    | refine wo_ntNy ?_
    | refine wo_ntNn ?_
    | refine wo_ntNt ?_
    | refine wo_ntNl ?_
    | refine wo_ntNq ?_
    | refine wo_ntNi ?_
    | (refine wo_mul ?_ ?_; (walk_at "mok"))
    | (refine wo_mod ?_ ?_; (walk_at "pos"))
    | (refine wo_div ?_ ?_ ?_; (walk_at "pos"); (walk_at "dok"))
    | (apply wo_pow; exact (by decide); exact (by decide))
    | (apply wo_powG; exact (by decide); exact (Bd.mono (by walk_at "bd") (by walk_at "sm")))
    | (apply wo_shl; exact (by walk_at "sm"); exact (by walk_at "sm"); exact (Bd.mono (by walk_at "bd") (by walk_at "sm")))
    | refine wo_ntNb ?_
    | refine wo_ntNs ?_
    | refine wo_isB ?_
    | refine wo_notB ?_
    | refine wo_abs ?_
    | refine wo_max ?_
    | refine wo_min ?_
    | refine wo_int1b ?_
    | refine wo_int1i ?_
    | refine wo_lenQ ?_
    | refine wo_lenT0 ?_
    | refine wo_lenL0 ?_
    | refine wo_lenT1 ?_
    | refine wo_lenL1 ?_
    | refine wo_lenT2 ?_
    | refine wo_lenL2 ?_
    | refine wo_lenT3 ?_
    | refine wo_lenL3 ?_
    | refine wo_lenT4 ?_
    | refine wo_lenL4 ?_
    | refine wo_lenT5 ?_
    | refine wo_lenL5 ?_
    | refine wo_lenT6 ?_
    | refine wo_lenL6 ?_
    | refine wo_lenT7 ?_
    | refine wo_lenL7 ?_
    | refine wo_lenT8 ?_
    | refine wo_lenL8 ?_
    | refine wo_lenT9 ?_
    | refine wo_lenL9 ?_
    | refine wo_lenT10 ?_
    | refine wo_lenL10 ?_
    | refine wo_lenT11 ?_
    | refine wo_lenL11 ?_
    | refine wo_lenT12 ?_
    | refine wo_lenL12 ?_
    | refine wo_lenT13 ?_
    | refine wo_lenL13 ?_
    | refine wo_lenT14 ?_
    | refine wo_lenL14 ?_
    | refine wo_lenT15 ?_
    | refine wo_lenL15 ?_
    | refine wo_lenT ?_
    | refine wo_lenL ?_
    | refine wo_listT ?_
    | refine wo_listL ?_
    | refine wo_tupT ?_
    | refine wo_tupL ?_
    | refine wo_rv2 ?_
    | refine wo_rvT ?_
    | refine wo_iadd ?_
    | refine wo_ix2 ?_
    | refine wo_ix3 ?_
    | refine wo_ix4 ?_
    | refine wo_ix5 ?_
    | refine wo_il0 ?_
    | refine wo_il1 ?_
    | refine wo_il2 ?_
    | refine wo_il3 ?_
    | refine wo_ilm2 ?_
    | refine wo_ilm1' ?_
    | refine wo_ilm1 ?_
    | refine wo_ix6 ?_
    | refine wo_ix7 ?_
    | refine wo_ix8 ?_
    | refine wo_ix9 ?_
    | refine wo_ix10 ?_
    | refine wo_il4 ?_
    | refine wo_il5 ?_
    | refine wo_il6 ?_
    | refine wo_il7 ?_
    | refine wo_il8 ?_
    | refine wo_il9 ?_
    | refine wo_il10 ?_
    | refine wo_iyQ ?_
    | refine wo_iyT rfl ?_
    | refine wo_iyL rfl ?_
    | (apply wo_slT'; exact (by walk_at "cut"))
    | (apply wo_slL'; exact (by walk_at "cut"))
    | refine wo_slT ?_
    | refine wo_slL ?_
    | (apply wo_addL'; exact (by walk_at "app"); exact (by walk_at "lsz"))
    | (apply wo_addT'; exact (by walk_at "app"); exact (by walk_at "lsz"))
    | (apply wo_repr; exact (by walk_at "shw"); exact (by walk_at "sm"); exact (by walk_at "sm"))
    | refine wo_repT rfl rfl ?_
    | (apply wo_rep2; exact (by walk_at "len"))
    | (apply wo_repE; exact (by walk_at "len"); exact rfl; exact rfl)
    | (apply wo_appE; exact (by walk_at "len"); exact (by walk_at "app"); exact (by walk_at "lsz"))
    | (apply wo_appS; assumption; exact (by walk_at "len"); exact (by walk_at "app"); exact (by walk_at "lsz"))
    | (apply wo_ixS0'; assumption; exact (by walk_at "len"))
    | (apply wo_ixS1'; assumption; exact (by walk_at "len"))
    | (apply wo_ixE0; exact (by walk_at "len"))
    | (apply wo_ixE1; exact (by walk_at "len"))
    | (apply wo_dgE; exact (by walk_at "len"); exact (by walk_at "dval"))
    | (apply wo_iyE; exact (by walk_at "len"); exact (by walk_at "dval"))
    | walk_at "woc"
    | refine wo_eqSelf (p := false) (by walk_at "ly") (by decide) ?_
    | refine wo_neSelf (p := false) (by walk_at "ly") (by decide) ?_)
local macro_rules | `(tactic| walk_at "app") => `(tactic| first | (simp only [List.cons_append, List.nil_append] <;> rfl) | rfl)
local macro_rules | `(tactic| walk_at "lsz") => `(tactic| first | omega | (simp only [List.length_cons, List.length_nil, List.length_append, List.length_map] <;> first | decide | omega))
local macro_rules | `(tactic| walk_at "cut") => `(tactic| simp only [cut_to0, cut_from0, cut_to1, cut_from1, cut_to2, cut_from2, cut_to3, cut_from3, cut_to4, cut_from4, cut_to5, cut_from5, cut_to6, cut_from6, cut_to7, cut_from7, cut_to8, cut_from8, cut_to9, cut_from9, cut_0_1, cut_0_2, cut_0_3, cut_0_4, cut_0_5, cut_0_6, cut_1_2, cut_1_3, cut_1_4, cut_1_5, cut_1_6, cut_2_3, cut_2_4, cut_2_5, cut_2_6, cut_3_4, cut_3_5, cut_3_6, cut_4_5, cut_4_6, cut_5_6, List.take_succ_cons, List.take_zero, List.drop_succ_cons, List.drop_zero, List.take_nil, List.drop_nil] <;> rfl)
local macro_rules | `(tactic| walk_at "ly") => `(tactic| first
    | assumption
    | exact Ly.none
    | exact Ly.int
    | exact Ly.bool
    | exact Ly.Q
    | (apply Ly.tup; walk_at "lyl")
    | (apply Ly.lst; walk_at "lyl"))
local macro_rules | `(tactic| walk_at "lyl") => `(tactic| first
    | exact LyL.nil
    | (apply LyL.cons; (walk_at "ly"); walk_at "lyl"))
local macro_rules | `(tactic| walk_at "le") => `(tactic| first | exact Rat.le_refl | exact Rat.not_lt.mp ‹_› | exact Rat.le_of_lt ‹_› | assumption)
local macro_rules | `(tactic| walk_at "hn") => `(tactic| first | assumption | (simp only [List.length_append, List.length_cons, List.length_nil, List.length_set]; omega))
local macro_rules | `(tactic| walk_at "wk") => `(tactic| fail)
local macro_rules | `(tactic| walk_at "dval") => `(tactic| fail)
local macro_rules | `(tactic| walk_at "dput") => `(tactic| fail)
local macro_rules | `(tactic| walk_at "tupq") => `(tactic| first | refine tq_neg ?_ | refine tq_abs ?_ | refine tq_self ?_)
local macro_rules | `(tactic| walk_at "wc") => `(tactic| first | (apply wp_norm; assumption; intro _)| (apply wp_norm2; assumption; intro _ _))
local macro_rules | `(tactic| walk_at "wx") => `(tactic| fail)
local macro_rules | `(tactic| walk_at "woc") => `(tactic| fail)
local macro_rules | `(tactic| walk_at "wipe") => `(tactic| simp only [wipeE, List.set_cons_zero, List.set_cons_succ] <;> rfl)
local macro_rules | `(tactic| walk_at "setk") => `(tactic| first
    | refine setk0 ?_
    | refine setk1 ?_
    | refine setk2 ?_
    | refine setk3 ?_
    | refine setk4 ?_
    | refine setk5 ?_
    | refine setk6 ?_
    | refine setk7 ?_
    | refine setk8 ?_
    | refine setk9 ?_
    | refine setk10 ?_
    | refine setk11 ?_
    | refine setk12 ?_
    | refine setk13 ?_
    | refine setk14 ?_
    | refine setk15 ?_
    | refine setk16 ?_
    | refine setk17 ?_
    | refine setk18 ?_
    | refine setk19 ?_
    | refine setk20 ?_
    | refine setk21 ?_
    | refine setk22 ?_
    | refine setk23 ?_
    | refine setk24 ?_
    | refine setk25 ?_)
local macro_rules | `(tactic| walk_at "tupk") => `(tactic| first
    | walk_at "tupq"
    | refine tupk0 ?_
    | refine tupk1 ?_
    | refine tupk2 ?_
    | refine tupk3 ?_
    | refine tupk4 ?_
    | refine tupk5 ?_
    | refine tupk6 ?_
    | refine tupk7 ?_
    | refine tupk8 ?_
    | refine tupk9 ?_
    | refine tupk10 ?_
    | refine tupk11 ?_
    | refine tupk12 ?_
    | refine tupk13 ?_
    | refine tupk14 ?_
    | refine tupk15 ?_)
local macro_rules | `(tactic| walk_at "lstk") => `(tactic| first
    | refine lstk0 ?_
    | refine lstk1 ?_
    | refine lstk2 ?_
    | refine lstk3 ?_
    | refine lstk4 ?_
    | refine lstk5 ?_
    | refine lstk6 ?_
    | refine lstk7 ?_
    | refine lstk8 ?_
    | refine lstk9 ?_
    | refine lstk10 ?_
    | refine lstk11 ?_
    | refine lstk12 ?_
    | refine lstk13 ?_
    | refine lstk14 ?_
    | refine lstk15 ?_)
local macro_rules | `(tactic| walk_at "dc") => `(tactic| first | rfl | decide | exact decide_eq_true ‹_› | omega)
local macro_rules | `(tactic| walk_at "ai") => `(tactic| repeat' (first | exact ai_nil | (apply ai_cons; exact (by walk_at "sm"); exact (by walk_at "sm"))))
local macro_rules | `(tactic| walk_at "brk") => `(tactic| first
    | refine brk_t ?_
    | refine brk_f ?_
    | refine brk_not ?_
    | refine brk_and ?_
    | refine brk_or ?_
    | (apply brk_dec1; assumption)
    | (apply brk_dec0; assumption)
    | (apply brk_dec1; exact (by walk_at "dc"))
    | (apply brk_dec0; exact (by walk_at "dc"))
    | refine brk_dec (fun _ => ?_) (fun _ => ?_))
local macro_rules | `(tactic| walk_at "unk") => `(tactic| first
    | refine unk0 ?_
    | refine unk1 ?_
    | refine unk2 ?_
    | refine unk3 ?_
    | refine unk4 ?_
    | refine unk5 ?_
    | refine unk6 ?_
    | refine unk7 ?_
    | refine unk8 ?_
    | refine unk9 ?_
    | refine unk10 ?_
    | refine unk11 ?_
    | refine unk12 ?_
    | refine unk13 ?_
    | refine unk14 ?_
    | refine unk15 ?_
    | refine unk16 ?_
    | refine unk17 ?_
    | refine unk18 ?_
    | refine unk19 ?_
    | refine unk20 ?_
    | refine unk21 ?_
    | refine unk22 ?_
    | refine unk23 ?_
    | refine unk24 ?_
    | refine unk25 ?_)
local macro_rules | `(tactic| walk_at "w1") => `(tactic| with_reducible first
    | (refine hd_Wp ?_; walk_at "wp")
    | (refine hd_Ws ?_; walk_at "ws")
    | (refine hd_Wo ?_; walk_at "wo")
    | (refine hd_SetK ?_; walk_at "setk")
    | (refine hd_TupK ?_; walk_at "tupk")
    | (refine hd_BrK ?_; walk_at "brk")
    | refine trk ?_
    | (apply retK_d; exact (by walk_at "len"))
    | (apply retK_d'; exact (by walk_at "len"))
    | (apply retK_S; assumption; exact (by walk_at "len"))
    | (apply fzk_d; exact (by walk_at "len"))
    | (apply fzk_end; exact (by walk_at "len"))
    | (refine hd_LstK ?_; walk_at "lstk")
    | refine ex_is_int_none ?_
    | refine ex_is_int_bool ?_
    | refine ex_is_int_int ?_
    | refine ex_is_int_str ?_
    | refine ex_is_int_tuple ?_
    | refine ex_is_int_list ?_
    | refine ex_is_int_Q ?_
    | refine ex_is_bool_none ?_
    | refine ex_is_bool_bool ?_
    | refine ex_is_bool_int ?_
    | refine ex_is_bool_str ?_
    | refine ex_is_bool_tuple ?_
    | refine ex_is_bool_list ?_
    | refine ex_is_bool_Q ?_
    | refine ex_is_str_none ?_
    | refine ex_is_str_bool ?_
    | refine ex_is_str_int ?_
    | refine ex_is_str_str ?_
    | refine ex_is_str_tuple ?_
    | refine ex_is_str_list ?_
    | refine ex_is_str_Q ?_
    | refine ex_is_tuple_none ?_
    | refine ex_is_tuple_bool ?_
    | refine ex_is_tuple_int ?_
    | refine ex_is_tuple_str ?_
    | refine ex_is_tuple_tuple ?_
    | refine ex_is_tuple_list ?_
    | refine ex_is_tuple_Q ?_
    | refine ex_is_list_none ?_
    | refine ex_is_list_bool ?_
    | refine ex_is_list_int ?_
    | refine ex_is_list_str ?_
    | refine ex_is_list_tuple ?_
    | refine ex_is_list_list ?_
    | refine ex_is_list_Q ?_
    | refine ex_is_dict_none ?_
    | refine ex_is_dict_bool ?_
    | refine ex_is_dict_int ?_
    | refine ex_is_dict_str ?_
    | refine ex_is_dict_tuple ?_
    | refine ex_is_dict_list ?_
    | refine ex_is_dict_Q ?_
    | refine ex_int ?_
    | refine ex_par ?_
    | refine ex_par3 ?_
    | refine ex_par4 ?_
    | refine ex_rev ?_
    | refine ex_txt ?_
    | refine ex_pc ?_
    | (apply ex_revR; exact (by walk_at "rg"))
    | (apply ex_lstR; exact (by omega); exact (by omega))
    | refine ex_enumL ?_
    | refine ex_enumT ?_
    | refine ex_zip4LL ?_
    | refine ex_unp ?_
    | refine tupZk ?_
    | refine ex_tupZ ?_
    | refine ex_zip4TT ?_
    | refine ex_zip4TL ?_
    | refine ex_zipL ?_
    | refine ex_zipT ?_
    | (apply fzk_end2; exact (by walk_at "len"))
    | (apply ex_rng; exact (by walk_at "rg"))
    | (apply ex_rng2; exact (by walk_at "rg"); exact (by walk_at "rg"))
    | refine tyL_D ?_
    | (apply tyL_S; assumption; exact (by walk_at "len"))
    | (apply tyL_E; exact (by walk_at "len"))
    | (apply ex_setS0; assumption; exact (by walk_at "len"))
    | (apply ex_setS1; assumption; exact (by walk_at "len"))
    | (apply ex_setL0; exact (by walk_at "len"))
    | (apply ex_setL1; exact (by walk_at "len"))
    | (apply ex_setDE; exact (by walk_at "len"); exact (by walk_at "dput"); exact (by walk_at "lsz"))
    | walk_at "wx"
    | refine gk_n ?_
    | refine gk_tup2 ?_
    | refine gk_tup3 ?_
    | refine gk_tup4 ?_
    | refine gk_lst4 ?_
    | refine gk_tup5 ?_
    | refine gk_tup6 ?_
    | refine gk_tupQ ?_
    | refine gk_tupN ?_
    | refine gk_tupM ?_
    | refine gk_setD ?_
    | refine gk_setL ?_
    | refine forK_r2 ?_
    | refine forK_r3 ?_
    | refine forK_r4 ?_
    | refine forK_nil ?_
    | refine forK_cons ?_
    | refine ex_isy_int ?_
    | refine ex_isy_bool ?_
    | refine ex_isy_str ?_
    | refine ex_isy_tuple ?_
    | refine ex_isy_list ?_
    | refine ex_isy_dict ?_
    | refine ex_isE_none ?_
    | (apply ex_isE_y; exact (by decide +kernel))
    | (apply ex_isE_n; exact (by decide +kernel); exact (by decide +kernel))
    | (refine hd_UnK ?_; walk_at "unk")
    | (refine hd_TryK ?_; first | (apply tryk_y; exact (by decide +kernel))| (apply tryk_n; exact (by decide +kernel); exact (by decide +kernel))))
local macro_rules | `(tactic| walk_at "w") => `(tactic| repeat' (with_reducible first | (refine hd_Wp ?_; (first | (refine hd_v ?_; first | refine wp_v0 ?_ | refine wp_v1 ?_ | refine wp_v2 ?_ | refine wp_v3 ?_ | refine wp_v4 ?_ | refine wp_v5 ?_ | refine wp_v6 ?_ | refine wp_v7 ?_ | refine wp_v8 ?_ | refine wp_v9 ?_ | refine wp_v10 ?_ | refine wp_v11 ?_ | refine wp_v12 ?_ | refine wp_v13 ?_ | refine wp_v14 ?_ | refine wp_v15 ?_ | refine wp_v16 ?_ | refine wp_v17 ?_ | refine wp_v18 ?_ | refine wp_v19 ?_ | refine wp_v20 ?_ | refine wp_v21 ?_ | refine wp_v22 ?_ | refine wp_v23 ?_ | refine wp_v24 ?_ | refine wp_v25 ?_) | walk_at "wk" | refine wp_D ?_ | refine wp_op ?_ | refine wp_call ?_ | refine wp_cons ?_ | refine wp_nil ?_ | refine wp_T ?_ | refine wp_if ?_ | refine wp_tup ?_ | refine wp_blt ?_ | refine wp_fzL ?_ | refine wp_fzO ?_ | refine wp_fzB ?_ | refine wp_fzS ?_ | refine wp_fzT ?_ | refine wp_fzR ?_ | refine wp_rv ?_ | refine wp_mtL ?_ | refine wp_mtD ?_ | refine wp_lst ?_ | refine wp_tand ?_ | refine wp_tor ?_ | refine wp_tnot ?_ | refine wp_and ?_ | refine wp_or ?_ | refine wp_not ?_ | refine wp_chain ?_ | refine wp_slice ?_ | refine wp_oN ?_ | refine wp_oS ?_ | refine wp_step ?_ | refine wp_tyes ?_ | refine wp_isi ?_ | refine wp_isE ?_ | refine wp_neg ?_ | refine wp_iv ?_ | refine wp_itT ?_ | refine wp_itL ?_ | refine wp_rng1 ?_ | refine wp_rng2 ?_ | refine wp_zip ?_ | refine wp_zip4 ?_ | refine wp_enumB ?_ | refine wp_rev ?_ | refine wp_dct0 ?_ | refine wp_dct ?_ | refine wp_pn ?_ | refine wp_pc ?_ | refine wp_bits ?_ | refine wp_unl ?_ | refine wp_m1 ?_ | refine wp_unp ?_ | refine wp_tupZ ?_ | refine wp_callF ?_ | refine wp_itS ?_ | refine wp_revR ?_ | refine wp_lstR ?_ | walk_at "wc")) | (refine hd_Ws ?_; (first | refine ws_seq ?_ | refine ws_set ?_ | refine ws_if ?_ | refine ws_ret ?_ | refine ws_asg ?_ | refine ws_expr ?_ | refine ws_nil ?_ | refine ws_for ?_ | refine ws_par ?_ | refine ws_par3 ?_ | refine ws_parN2 ?_ | refine ws_parN3 ?_ | refine ws_parN4 ?_ | refine ws_aug ?_ | refine ws_retN ?_ | refine ws_cont ?_ | refine ws_brk ?_ | refine ws_raise ?_ | refine ws_try ?_ | (apply ws_frzE; exact (by walk_at "len"); (with_unfolding_all rfl))| (apply ws_frzS; assumption; exact (by walk_at "len"); (with_unfolding_all rfl))| walk_at "wsc")) | (refine hd_Wo ?_; (first | refine wo_eqE0 ?_ | refine wo_eqE1 ?_ | refine wo_add ?_ | refine wo_sub ?_ | refine wo_ixQ0 ?_ | refine wo_ixQ1 ?_ | refine wo_ix0 ?_ | refine wo_ix1 ?_ | refine wo_lt ?_ | refine wo_le ?_ | refine wo_gt ?_ | refine wo_ge ?_ | refine wo_eqI ?_ | refine wo_neI ?_ | refine wo_eqQ ?_ | refine wo_neQ ?_ | refine wo_eqQQ ?_ | refine wo_neQQ ?_ | refine wo_eqSS ?_ | refine wo_neSS ?_ | refine wo_eqS ?_ | refine wo_neS ?_ | refine wo_eqB ?_ | refine wo_neB ?_ | refine wo_isNn ?_ | refine wo_isNt ?_ | refine wo_isNl ?_ | refine wo_isNq ?_ | refine wo_isNi ?_ | refine wo_isNb ?_ | refine wo_isNs ?_ | refine wo_isNx ?_ | refine wo_ntNx ?_ | refine wo_isNy ?_ | refine wo_ntNy ?_ | refine wo_ntNn ?_ | refine wo_ntNt ?_ | refine wo_ntNl ?_ | refine wo_ntNq ?_ | refine wo_ntNi ?_ | (refine wo_mul ?_ ?_; (walk_at "mok")) | (refine wo_mod ?_ ?_; (walk_at "pos")) | (refine wo_div ?_ ?_ ?_; (walk_at "pos"); (walk_at "dok")) | (apply wo_pow; exact (by decide); exact (by decide))| (apply wo_powG; exact (by decide); exact (Bd.mono (by walk_at "bd") (by walk_at "sm")))| (apply wo_shl; exact (by walk_at "sm"); exact (by walk_at "sm"); exact (Bd.mono (by walk_at "bd") (by walk_at "sm")))| refine wo_ntNb ?_ | refine wo_ntNs ?_ | refine wo_isB ?_ | refine wo_notB ?_ | refine wo_abs ?_ | refine wo_max ?_ | refine wo_min ?_ | refine wo_int1b ?_ | refine wo_int1i ?_ | refine wo_lenQ ?_ | refine wo_lenT0 ?_ | refine wo_lenL0 ?_ | refine wo_lenT1 ?_ | refine wo_lenL1 ?_ | refine wo_lenT2 ?_ | refine wo_lenL2 ?_ | refine wo_lenT3 ?_ | refine wo_lenL3 ?_ | refine wo_lenT4 ?_ | refine wo_lenL4 ?_ | refine wo_lenT5 ?_ | refine wo_lenL5 ?_ | refine wo_lenT6 ?_ | refine wo_lenL6 ?_ | refine wo_lenT7 ?_ | refine wo_lenL7 ?_ | refine wo_lenT8 ?_ | refine wo_lenL8 ?_ | refine wo_lenT9 ?_ | refine wo_lenL9 ?_ | refine wo_lenT10 ?_ | refine wo_lenL10 ?_ | refine wo_lenT11 ?_ | refine wo_lenL11 ?_ | refine wo_lenT12 ?_ | refine wo_lenL12 ?_ | refine wo_lenT13 ?_ | refine wo_lenL13 ?_ | refine wo_lenT14 ?_ | refine wo_lenL14 ?_ | refine wo_lenT15 ?_ | refine wo_lenL15 ?_ | refine wo_lenT ?_ | refine wo_lenL ?_ | refine wo_listT ?_ | refine wo_listL ?_ | refine wo_tupT ?_ | refine wo_tupL ?_ | refine wo_rv2 ?_ | refine wo_rvT ?_ | refine wo_iadd ?_ | refine wo_ix2 ?_ | refine wo_ix3 ?_ | refine wo_ix4 ?_ | refine wo_ix5 ?_ | refine wo_il0 ?_ | refine wo_il1 ?_ | refine wo_il2 ?_ | refine wo_il3 ?_ | refine wo_ilm2 ?_ | refine wo_ilm1' ?_ | refine wo_ilm1 ?_ | refine wo_ix6 ?_ | refine wo_ix7 ?_ | refine wo_ix8 ?_ | refine wo_ix9 ?_ | refine wo_ix10 ?_ | refine wo_il4 ?_ | refine wo_il5 ?_ | refine wo_il6 ?_ | refine wo_il7 ?_ | refine wo_il8 ?_ | refine wo_il9 ?_ | refine wo_il10 ?_ | refine wo_iyQ ?_ | refine wo_iyT rfl ?_ | refine wo_iyL rfl ?_ | (apply wo_slT'; exact (by walk_at "cut"))| (apply wo_slL'; exact (by walk_at "cut"))| refine wo_slT ?_ | refine wo_slL ?_ | (apply wo_addL'; exact (by walk_at "app"); exact (by walk_at "lsz"))| (apply wo_addT'; exact (by walk_at "app"); exact (by walk_at "lsz"))| (apply wo_repr; exact (by walk_at "shw"); exact (by walk_at "sm"); exact (by walk_at "sm"))| refine wo_repT rfl rfl ?_ | (apply wo_rep2; exact (by walk_at "len"))| (apply wo_repE; exact (by walk_at "len"); exact rfl; exact rfl)| (apply wo_appE; exact (by walk_at "len"); exact (by walk_at "app"); exact (by walk_at "lsz"))| (apply wo_appS; assumption; exact (by walk_at "len"); exact (by walk_at "app"); exact (by walk_at "lsz"))| (apply wo_ixS0'; assumption; exact (by walk_at "len"))| (apply wo_ixS1'; assumption; exact (by walk_at "len"))| (apply wo_ixE0; exact (by walk_at "len"))| (apply wo_ixE1; exact (by walk_at "len"))| (apply wo_dgE; exact (by walk_at "len"); exact (by walk_at "dval"))| (apply wo_iyE; exact (by walk_at "len"); exact (by walk_at "dval"))| walk_at "woc" | refine wo_eqSelf (p := false) (by walk_at "ly") (by decide) ?_ | refine wo_neSelf (p := false) (by walk_at "ly") (by decide) ?_)) | (refine hd_SetK ?_; (first | refine setk0 ?_ | refine setk1 ?_ | refine setk2 ?_ | refine setk3 ?_ | refine setk4 ?_ | refine setk5 ?_ | refine setk6 ?_ | refine setk7 ?_ | refine setk8 ?_ | refine setk9 ?_ | refine setk10 ?_ | refine setk11 ?_ | refine setk12 ?_ | refine setk13 ?_ | refine setk14 ?_ | refine setk15 ?_ | refine setk16 ?_ | refine setk17 ?_ | refine setk18 ?_ | refine setk19 ?_ | refine setk20 ?_ | refine setk21 ?_ | refine setk22 ?_ | refine setk23 ?_ | refine setk24 ?_ | refine setk25 ?_)) | (refine hd_TupK ?_; (first | walk_at "tupq" | refine tupk0 ?_ | refine tupk1 ?_ | refine tupk2 ?_ | refine tupk3 ?_ | refine tupk4 ?_ | refine tupk5 ?_ | refine tupk6 ?_ | refine tupk7 ?_ | refine tupk8 ?_ | refine tupk9 ?_ | refine tupk10 ?_ | refine tupk11 ?_ | refine tupk12 ?_ | refine tupk13 ?_ | refine tupk14 ?_ | refine tupk15 ?_)) | (refine hd_BrK ?_; (first | refine brk_t ?_ | refine brk_f ?_ | refine brk_not ?_ | refine brk_and ?_ | refine brk_or ?_ | (apply brk_dec1; assumption)| (apply brk_dec0; assumption)| (apply brk_dec1; exact (by walk_at "dc"))| (apply brk_dec0; exact (by walk_at "dc"))| refine brk_dec (fun _ => ?_) (fun _ => ?_))) | refine trk ?_ | (apply retK_d; exact (by walk_at "len"))| (apply retK_d'; exact (by walk_at "len"))| (apply retK_S; assumption; exact (by walk_at "len"))| (apply fzk_d; exact (by walk_at "len"))| (apply fzk_end; exact (by walk_at "len"))| (refine hd_LstK ?_; (first | refine lstk0 ?_ | refine lstk1 ?_ | refine lstk2 ?_ | refine lstk3 ?_ | refine lstk4 ?_ | refine lstk5 ?_ | refine lstk6 ?_ | refine lstk7 ?_ | refine lstk8 ?_ | refine lstk9 ?_ | refine lstk10 ?_ | refine lstk11 ?_ | refine lstk12 ?_ | refine lstk13 ?_ | refine lstk14 ?_ | refine lstk15 ?_)) | refine ex_is_int_none ?_ | refine ex_is_int_bool ?_ | refine ex_is_int_int ?_ | refine ex_is_int_str ?_ | refine ex_is_int_tuple ?_ | refine ex_is_int_list ?_ | refine ex_is_int_Q ?_ | refine ex_is_bool_none ?_ | refine ex_is_bool_bool ?_ | refine ex_is_bool_int ?_ | refine ex_is_bool_str ?_ | refine ex_is_bool_tuple ?_ | refine ex_is_bool_list ?_ | refine ex_is_bool_Q ?_ | refine ex_is_str_none ?_ | refine ex_is_str_bool ?_ | refine ex_is_str_int ?_ | refine ex_is_str_str ?_ | refine ex_is_str_tuple ?_ | refine ex_is_str_list ?_ | refine ex_is_str_Q ?_ | refine ex_is_tuple_none ?_ | refine ex_is_tuple_bool ?_ | refine ex_is_tuple_int ?_ | refine ex_is_tuple_str ?_ | refine ex_is_tuple_tuple ?_ | refine ex_is_tuple_list ?_ | refine ex_is_tuple_Q ?_ | refine ex_is_list_none ?_ | refine ex_is_list_bool ?_ | refine ex_is_list_int ?_ | refine ex_is_list_str ?_ | refine ex_is_list_tuple ?_ | refine ex_is_list_list ?_ | refine ex_is_list_Q ?_ | refine ex_is_dict_none ?_ | refine ex_is_dict_bool ?_ | refine ex_is_dict_int ?_ | refine ex_is_dict_str ?_ | refine ex_is_dict_tuple ?_ | refine ex_is_dict_list ?_ | refine ex_is_dict_Q ?_ | refine ex_int ?_ | refine ex_par ?_ | refine ex_par3 ?_ | refine ex_par4 ?_ | refine ex_rev ?_ | refine ex_txt ?_ | refine ex_pc ?_ | (apply ex_revR; exact (by walk_at "rg"))| (apply ex_lstR; exact (by omega); exact (by omega))| refine ex_enumL ?_ | refine ex_enumT ?_ | refine ex_zip4LL ?_ | refine ex_unp ?_ | refine tupZk ?_ | refine ex_tupZ ?_ | refine ex_zip4TT ?_ | refine ex_zip4TL ?_ | refine ex_zipL ?_ | refine ex_zipT ?_ | (apply fzk_end2; exact (by walk_at "len"))| (apply ex_rng; exact (by walk_at "rg"))| (apply ex_rng2; exact (by walk_at "rg"); exact (by walk_at "rg"))| refine tyL_D ?_ | (apply tyL_S; assumption; exact (by walk_at "len"))| (apply tyL_E; exact (by walk_at "len"))| (apply ex_setS0; assumption; exact (by walk_at "len"))| (apply ex_setS1; assumption; exact (by walk_at "len"))| (apply ex_setL0; exact (by walk_at "len"))| (apply ex_setL1; exact (by walk_at "len"))| (apply ex_setDE; exact (by walk_at "len"); exact (by walk_at "dput"); exact (by walk_at "lsz"))| walk_at "wx" | refine gk_n ?_ | refine gk_tup2 ?_ | refine gk_tup3 ?_ | refine gk_tup4 ?_ | refine gk_lst4 ?_ | refine gk_tup5 ?_ | refine gk_tup6 ?_ | refine gk_tupQ ?_ | refine gk_tupN ?_ | refine gk_tupM ?_ | refine gk_setD ?_ | refine gk_setL ?_ | refine forK_r2 ?_ | refine forK_r3 ?_ | refine forK_r4 ?_ | refine forK_nil ?_ | refine forK_cons ?_ | refine ex_isy_int ?_ | refine ex_isy_bool ?_ | refine ex_isy_str ?_ | refine ex_isy_tuple ?_ | refine ex_isy_list ?_ | refine ex_isy_dict ?_ | refine ex_isE_none ?_ | (apply ex_isE_y; exact (by decide +kernel))| (apply ex_isE_n; exact (by decide +kernel); exact (by decide +kernel))| (refine hd_UnK ?_; (first | refine unk0 ?_ | refine unk1 ?_ | refine unk2 ?_ | refine unk3 ?_ | refine unk4 ?_ | refine unk5 ?_ | refine unk6 ?_ | refine unk7 ?_ | refine unk8 ?_ | refine unk9 ?_ | refine unk10 ?_ | refine unk11 ?_ | refine unk12 ?_ | refine unk13 ?_ | refine unk14 ?_ | refine unk15 ?_ | refine unk16 ?_ | refine unk17 ?_ | refine unk18 ?_ | refine unk19 ?_ | refine unk20 ?_ | refine unk21 ?_ | refine unk22 ?_ | refine unk23 ?_ | refine unk24 ?_ | refine unk25 ?_)) | (refine hd_TryK ?_; first | (apply tryk_y; exact (by decide +kernel))| (apply tryk_n; exact (by decide +kernel); exact (by decide +kernel)))))
local macro_rules | `(tactic| walk_at "wk") => `(tactic| refine wk_GREATEST ?_)
local macro_rules | `(tactic| walk_at "wk") => `(tactic| refine wk_LETTERS_programs ?_)
local macro_rules | `(tactic| walk_at "wk") => `(tactic| refine wk_LETTERS_turns ?_)
local macro_rules | `(tactic| walk_at "wk") => `(tactic| refine wk_MOST_INS ?_)
local macro_rules | `(tactic| walk_at "wk") => `(tactic| refine wk_MOST_LETTERS ?_)
local macro_rules | `(tactic| walk_at "wk") => `(tactic| refine wk_MOST_ROWS_programs ?_)
local macro_rules | `(tactic| walk_at "wk") => `(tactic| refine wk_MOST_ROWS_turns ?_)
local macro_rules | `(tactic| walk_at "wk") => `(tactic| refine wk_TURN_WORDS ?_)
local macro_rules | `(tactic| walk_at "wk") => `(tactic| refine wk_TWO ?_)
local macro_rules | `(tactic| walk_at "tupq") => `(tactic| refine tq_2_1 ?_)
/-! programs: fractions -/
theorem w_shared (h : Hh) : ∀ (y x : Nat), ∃ z, sWhile (eT (eOp (gInt fGt) (eVar 1) (eD (.int 0)))) (sPar 0 1 (aCons (eVar 1) (aCons (eOp (gInt fMod) (eVar 0) (eVar 1)) (aNil)))) [some (.d (.int (x : Int))), some (.d (.int (y : Int)))] h = .nx [some (.d (.int (Nat.gcd x y : Nat))), some z] h := by
  intro y
  induction y using Nat.strongRecOn with
  | ind y ih =>
    intro x
    rw [sWhile_eq]
    by_cases hy : y = 0
    · subst hy
      refine ⟨.d (.int 0), ?_⟩
      walk_at "ev"
      simp
    · have hp : (0 : Int) < (y : Int) := by omega
      obtain ⟨z, e⟩ := ih (x % y) (Nat.mod_lt _ (by omega)) y
      refine ⟨z, ?_⟩
      have hn : ((y : Int)) ≠ 0 := by omega
      walk_at "ev"
      rw [decide_eq_true hp, fMod_eq hn, fmod_nat]
      walk_at "ev"
      rw [e, Nat.gcd_comm x y, Nat.gcd_rec y x, Nat.gcd_comm (x % y) y]
theorem sp_shared (x y : Int) (h : Hh) : m_shared [.d (.int x), .d (.int y)] h = .ok (.d (.int (Int.gcd x y : Nat))) h := by
  obtain ⟨z, e⟩ := w_shared h y.natAbs x.natAbs
  unfold m_shared b_shared
  walk_at "ev"
  rw [abs_eq, abs_eq, e]
  walk_at "ev"
  rfl
section
variable {h : Hh} {Q : Vl → Hh → Prop} {E : XP} {i j : Int}
theorem gcd_one (r : Rat) : Int.gcd r.num (r.den : Int) = 1 := r.reduced
theorem wp_shared {x y : Int} (q : Q (.d (.int (Int.gcd x y : Nat))) h) : Wp (m_shared [.d (.int x), .d (.int y)] h) Q E := wp_eq (sp_shared x y h) q
local macro_rules | `(tactic| walk_at "wc") => `(tactic| refine wp_shared ?_)
theorem wp_is_whole {x : Da} {b c : Bool} (e : isTyD .int x = some b) (e2 : isTyD .bool x = some c) (q : Q (.d (.bool (b && !c))) h) : Wp (m_is_whole [.d x] h) Q E := by
  refine en_is_whole ?_
  unfold b_is_whole
  walk_at "w"
  refine ⟨b, e, ?_⟩
  walk_at "w"
  cases b with
  | true =>
    walk_at "w"
    refine ⟨c, e2, ?_⟩
    walk_at "w"
    exact q
  | false =>
    walk_at "w"
    exact q
theorem wp_is_fraction {r : Rat} (q : Q (.d (.bool true)) h) : Wp (m_is_fraction [.d (Rk.Q r)] h) Q E := by
  have hd := den_pos r
  have hg := gcd_one r
  refine en_is_fraction ?_
  unfold b_is_fraction
  walk_at "w"
  refine wp_is_whole rfl rfl ?_
  walk_at "w"
  refine wp_is_whole rfl rfl ?_
  walk_at "w"
  refine qb q ?_
  simp only [hg]
  rfl
theorem wp_igp (q : Q (.d (.bool (decide ((10 : Int) ^ 600 < (i.natAbs : Int) ∨ (10 : Int) ^ 600 < j)))) h) : Wp (m_is_great [.d (.tuple [.int i, .int j])] h) Q E := by
  refine en_is_great ?_
  unfold b_is_great
  walk_at "w"
  · rw [decide_eq_true (Or.inl (by assumption))] at q
    exact q
  · rw [show decide ((10 : Int) ^ 600 < (i.natAbs : Int) ∨ (10 : Int) ^ 600 < j) = decide ((10 : Int) ^ 600 < j) from decide_eq_decide.mpr ⟨fun z => z.resolve_left (by assumption), .inr⟩] at q
    exact q
end

/-! programs: names -/
def LET : Str := "abcdefghijklmnopqrstuvwxyz"
def isNm (x : Str) : Bool := decide (1 ≤ x.length ∧ x.length ≤ 6) && x.cps.toList.all fun c => decide (c ∈ LET.cps.toList)
theorem wo_lenS {h : Hh} {Q : Vl → Hh → Prop} {x : Str} (l : x.length ≤ 16777216) (q : Q (.d (.int (x.length : Nat))) h) : Wo (gLen [.d (.str x)] h) Q := by
  refine wo_eq (v := .d (.int (x.length : Nat))) (h' := h) ?_ q
  unfold gLen
  dsimp only
  rw [if_pos (fitB_ok l)]
section
variable {h : Hh} {Q : Vl → Hh → Prop} {E : XP} {x : Str}
theorem wp_is_name (l : x.length ≤ 1000) (q : Q (.d (.bool (isNm x))) h) : Wp (m_is_name [.d (.str x)] h) Q E := by
  have all : ∀ xs : List Nat, boolsOf (xs.map fun c => .bool (decide (c ∈ LET.cps.toList))) = some (xs.map fun c => decide (c ∈ LET.cps.toList)) := fun xs => by
    induction xs with
    | nil => rfl
    | cons c xs ih => rw [List.map_cons, boolsOf, ih]; rfl
  refine en_is_name ?_
  unfold b_is_name
  unfold isNm at q
  walk_at "w"
  refine wo_lenS (by omega) ?_
  walk_at "w"
  · rename_i h1 h2
    rw [decide_eq_true (⟨by omega, by omega⟩ : 1 ≤ x.length ∧ x.length ≤ 6), Bool.true_and] at q
    refine wp_lcR x.cps.toList (fun c => .str ⟨#[c]⟩) (fun c => .bool (decide (c ∈ LET.cps.toList))) (by walk_at "wipe") ?_
    walk_at "w"
    refine ⟨rfl, ?_, rfl, fun c hc h' => ?_, ?_⟩
    · show x.cps.toList.length ≤ _
      have : x.cps.toList.length = x.length := by simp [Str.length]
      omega
    · walk_at "w"
      refine ⟨rfl, ?_⟩
      walk_at "w"
      exact wo_inS ⟨rfl, rfl⟩
    walk_at "w"
    refine wo_all (all _) ?_
    walk_at "w"
    rw [List.all_map]
    exact q
  all_goals
    rw [decide_eq_false (by omega : ¬ (1 ≤ x.length ∧ x.length ≤ 6))] at q
    exact q
end
/-! works, rows, programs as they are meant -/
inductive Work where
  | num (r : Rat)
  | op (w : Str) (xs : List Str)
def Work.da : Work → Da
  | .num r => .tuple [.str "number", Rk.Q r]
  | .op w xs => .tuple (.str w :: xs.map PyData.str)
def Work.Ok (ns : List Str) : Work → Prop
  | .num r => r.num.natAbs ≤ 10 ^ 600 ∧ r.den ≤ 10 ^ 600
  | .op w xs => seek d_WANTS w = some (.int (xs.length : Nat)) ∧ ∀ x ∈ xs, x ∈ ns
structure Prg where
  ins : List Str
  rows : List (Str × Work)
def Prg.da (p : Prg) : Da := .tuple [.tuple (p.ins.map PyData.str), ptD (p.rows.map fun r => .tuple [.str r.1, r.2.da])]
structure Prg.Ok (p : Prg) : Prop where
  i6 : p.ins.length ≤ 6
  r1 : 1 ≤ p.rows.length
  r40 : p.rows.length ≤ 40
  nd : (p.ins ++ p.rows.map (·.1)).Nodup
  nm : ∀ x ∈ p.ins ++ p.rows.map (·.1), isNm x = true
  wk : ∀ (k : Nat) (r : Str × Work), p.rows[k]? = some r → r.2.Ok (p.ins ++ (p.rows.take k).map (·.1))
theorem seek_mem {kds : List (Str × Da)} {z : Str} {d : Da} (e : seek kds z = some d) : (z, d) ∈ kds := by
  induction kds with
  | nil => cases e
  | cons p r ih =>
    obtain ⟨k, v⟩ := p
    unfold seek at e
    split at e
    · rename_i h
      cases e
      rw [h]
      exact List.mem_cons_self ..
    · exact List.mem_cons_of_mem _ (ih e)
theorem isNm_len {x : Str} (e : isNm x = true) : 1 ≤ x.length ∧ x.length ≤ 6 := by
  unfold isNm at e
  rw [Bool.and_eq_true] at e
  exact of_decide_eq_true e.1

/-! programs: works -/
theorem isNm_ok {x : Str} (e : isNm x = true) : PyData.strOk x = true := by
  unfold isNm at e
  rw [Bool.and_eq_true] at e
  have e2 := e.2
  rw [List.all_eq_true] at e2
  unfold PyData.strOk
  rw [← Array.all_toList, List.all_eq_true]
  intro c hc
  have := of_decide_eq_true (e2 c hc)
  have all : ∀ c ∈ LET.cps.toList, c < 0x110000 := by decide +kernel
  exact decide_eq_true (all c this)
def wOk : Str × Da → Bool
  | (w, .int n) => PyData.strOk w && decide (1 ≤ n ∧ n ≤ 4) && decide (w ≠ "number")
  | _ => false
theorem wants_ok {w : Str} {d : Da} (e : seek d_WANTS w = some d) : wOk (w, d) = true := by
  have all : ∀ p ∈ d_WANTS, wOk p = true := by decide +kernel
  exact all _ (seek_mem e)
theorem wants_n {w : Str} {n : Nat} (e : seek d_WANTS w = some (.int n)) : PyData.strOk w = true ∧ 1 ≤ n ∧ n ≤ 4 ∧ w ≠ "number" := by
  have := wants_ok e
  unfold wOk at this
  simp only [Bool.and_eq_true, decide_eq_true_eq] at this
  exact ⟨this.1.1, by omega, by omega, this.2⟩
theorem names_ly {xs : List Str} (h : ∀ x ∈ xs, PyData.strOk x = true) : LyL true 0 (xs.map PyData.str) := LyL.of fun d hd => by
  obtain ⟨x, hx, rfl⟩ := List.mem_map.mp hd
  exact Ly.str (h x hx)
section
variable {h : Hh} {Q : Vl → Hh → Prop} {E : XP} {n : Nat} {ns : List Str} {kds : List (Key × Da)} {w : Work}
/-- a dict whose keys are these names -/
def Nms (kds : List (Key × Da)) (ns : List Str) : Prop := ∀ x, (valD kds (.inr x)).isSome = decide (x ∈ ns)
theorem ly_num {r : Rat} : Ly true 2 (.tuple [.str "number", Rk.Q r]) := Ly.tup (LyL.cons (Ly.str (by decide +kernel)) (LyL.cons .Q .nil))
theorem wp_is_work (ok : w.Ok ns) (nm : ∀ x ∈ ns, isNm x = true) (e : h[n]? = some (some (.dct kds))) (hk : Nms kds ns) (q : Q (.d (.bool true)) h) : Wp (m_is_work [.d w.da, .r n] h) Q E := by
  cases w with
  | num r =>
    obtain ⟨s1, s2⟩ := ok
    rw [show (Work.num r).da = .tuple [.str "number", Rk.Q r] from rfl]
    refine en_is_work ?_
    unfold b_is_work
    walk_at "w"
    refine wo_eqNo (y := .tuple []) ly_num (Ly.tup .nil) (by decide) (by decide) (by intro z; cases z) ?_
    walk_at "w"
    refine wp_is_fraction ?_
    walk_at "w"
    refine wp_igp ?_
    have z0 : ¬ ((10 : Int) ^ 600 < (r.num.natAbs : Int) ∨ (10 : Int) ^ 600 < (r.den : Int)) := by
      have h1 := s1
      have h2 := s2
      rw [← Nat.not_lt] at h1 h2
      intro z
      rcases z with z | z
      · exact h1 (by exact_mod_cast z)
      · exact h2 (by exact_mod_cast z)
    rw [decide_eq_false z0]
    walk_at "w"
    exact q
  | op w xs =>
    obtain ⟨s1, s2⟩ := ok
    obtain ⟨w1, w2, w3, w4⟩ := wants_n s1
    have ly : Ly true 1 (.tuple (.str w :: xs.map PyData.str)) := Ly.tup (LyL.cons (Ly.str w1) (names_ly fun x hx => isNm_ok (nm x (s2 x hx))))
    have ln : (PyData.str w :: xs.map PyData.str).length = xs.length + 1 := by rw [List.length_cons, List.length_map]
    rw [show (Work.op w xs).da = .tuple (.str w :: xs.map PyData.str) from rfl]
    refine en_is_work ?_
    unfold b_is_work
    walk_at "w"
    refine wo_eqNo (y := .tuple []) ly (Ly.tup .nil) (by decide) (by decide) (by intro z; cases z) ?_
    walk_at "w"
    refine wo_getC_y s1 ?_
    walk_at "w"
    refine wp_lcH xs PyData.str (fun x => .bool true) (by walk_at "wipe") ?_
    walk_at "w"
    refine ⟨rfl, by omega, rfl, fun x hx o => ?_, ?_⟩
    · walk_at "w"
      refine ⟨rfl, ?_⟩
      have nx := nm x (s2 x hx)
      walk_at "w"
      refine wp_is_name (by have := isNm_len nx; omega) ?_
      rw [nx]
      walk_at "w"
      have nh : n < h.length := (List.getElem?_eq_some_iff.mp e).1
      exact wo_inD (kds := kds) (by rw [get_app nh]; exact e) (by rw [hk]; exact decide_eq_true (s2 x hx)) ⟨rfl, rfl⟩
    walk_at "w"
    refine wo_all (boolsOf_map (fun _ => true) xs) ?_
    rw [List.all_map, show (id ∘ fun (_ : Str) => true) = fun _ => true from rfl, show xs.all (fun _ => true) = true from List.all_eq_true.mpr fun _ _ => rfl]
    walk_at "w"
    exact q
end

/-! programs: rows -/
section
variable {h : Hh} {Q : Vl → Hh → Prop} {E : XP} {n : Nat} {ns : List Str} {kds : List (Key × Da)} {w : Work} {x : Str}
theorem wp_are_ins (l6 : ns.length ≤ 6) (nd : ns.Nodup) (nm : ∀ x ∈ ns, isNm x = true) (q : Q (.d (.bool true)) h) : Wp (m_are_ins [.d (.tuple (ns.map PyData.str))] h) Q E := by
  refine en_are_ins ?_
  unfold b_are_ins
  have ln : (ns.map PyData.str).length = ns.length := List.length_map ..
  walk_at "w"
  refine wp_lcR ns PyData.str (fun x => .bool true) (by walk_at "wipe") ?_
  walk_at "w"
  refine ⟨rfl, by omega, rfl, fun x hx h' => ?_, ?_⟩
  · walk_at "w"
    refine ⟨rfl, ?_⟩
    have nx := nm x hx
    walk_at "w"
    refine wp_is_name (by have := isNm_len nx; omega) ?_
    rw [nx]
    exact ⟨rfl, rfl⟩
  walk_at "w"
  refine wo_all (boolsOf_map (fun _ => true) ns) ?_
  rw [List.all_map, show (id ∘ fun (_ : Str) => true) = fun _ => true from rfl, show ns.all (fun _ => true) = true from List.all_eq_true.mpr fun _ _ => rfl]
  walk_at "w"
  refine unlk_t (by omega) ?_
  rw [(unl_nodup ns).mpr nd]
  walk_at "w"
  rw [ln, decide_eq_true rfl] 
  exact q
theorem wp_is_row (ok : w.Ok ns) (nm : ∀ x ∈ ns, isNm x = true) (nx : isNm x = true) (ni : x ∉ ns) (e : h[n]? = some (some (.dct kds))) (hk : Nms kds ns) (q : Q (.d (.bool true)) h) : Wp (m_is_row [.d (.tuple [.str x, w.da]), .r n] h) Q E := by
  refine en_is_row ?_
  unfold b_is_row
  walk_at "w"
  refine wp_is_name (by have := isNm_len nx; omega) ?_
  rw [nx]
  walk_at "w"
  refine wo_notInD (b := false) e (by rw [hk]; exact decide_eq_false ni) ?_
  walk_at "w"
  refine wp_is_work ok nm e hk ?_
  walk_at "w"
  exact q
end

/-! programs: whole -/
theorem valD_put {kds : List (Key × Da)} {a b : Key} {v : Da} : valD (putD kds a v) b = if b = a then some v else valD kds b := by
  unfold valD putD
  by_cases hany : (kds.any fun kv => decide (kv.1 = a)) = true
  · rw [if_pos hany]
    by_cases hb : b = a
    · subst hb
      rw [if_pos rfl]
      induction kds with
      | nil => cases hany
      | cons p r ih =>
        rw [List.map_cons, List.find?_cons]
        by_cases hp : p.1 = b
        · simp only [hp, if_true, decide_true, Option.map_some]
        · have : (r.any fun kv => decide (kv.1 = b)) = true := by
            rw [List.any_cons, decide_eq_false hp, Bool.false_or] at hany
            exact hany
          rw [if_neg hp, decide_eq_false hp]
          exact ih this
    · rw [if_neg hb]
      clear hany
      induction kds with
      | nil => rfl
      | cons p r ih =>
        rw [List.map_cons, List.find?_cons, List.find?_cons]
        by_cases hp : p.1 = a
        · have hq : ¬ p.1 = b := fun z => hb (z ▸ hp)
          simp only [hp, if_true]
          rw [decide_eq_false (fun z => hb z.symm : ¬ a = b)]
          exact ih
        · rw [if_neg hp]
          by_cases hq : p.1 = b
          · rw [decide_eq_true hq]
          · rw [decide_eq_false hq]
            exact ih
  · rw [if_neg hany, List.find?_append]
    by_cases hb : b = a
    · subst hb
      have none' : kds.find? (fun kv => decide (kv.1 = b)) = none := by
        rw [List.find?_eq_none]
        intro kv m z
        exact hany (List.any_eq_true.mpr ⟨kv, m, z⟩)
      rw [none', if_pos rfl]
      simp
    · rw [if_neg hb]
      have hb' : ¬ a = b := fun z => hb z.symm
      cases e : kds.find? (fun kv => decide (kv.1 = b)) with
      | none => simp [hb']
      | some z => rfl
theorem nms_put {kds : List (Key × Da)} {ns : List Str} {x : Str} {v : Da} (k : Nms kds ns) : Nms (putD kds (.inr x) v) (ns ++ [x]) := fun y => by
  rw [valD_put]
  by_cases e : y = x
  · subst e
    rw [if_pos rfl]
    simp
  · have : (Sum.inr y : Key) ≠ .inr x := fun z => e (Sum.inr.inj z)
    rw [if_neg this, k y]
    simp [e]
theorem nms_nil : Nms [] [] := fun _ => by rfl
theorem nms_fold (v : Da) (xs : List Str) : ∀ (kds : List (Key × Da)) (ns : List Str), Nms kds ns → Nms ((xs.map fun x => ((.inr x : Key), v)).foldl (fun acc kv => putD acc kv.1 kv.2) kds) (ns ++ xs) := by
  induction xs with
  | nil => intro kds ns k; simpa using k
  | cons x xs ih =>
    intro kds ns k
    rw [List.map_cons, List.foldl_cons]
    have := ih _ _ (nms_put (x := x) (v := v) k)
    rw [List.append_assoc] at this
    exact this
theorem put_len {kds : List (Key × Da)} {a : Key} {v : Da} : (putD kds a v).length ≤ kds.length + 1 := by
  unfold putD
  split
  · rw [List.length_map]; omega
  · rw [List.length_append]; simp
theorem fold_len (zs : List (Key × Da)) : ∀ kds : List (Key × Da), (zs.foldl (fun acc kv => putD acc kv.1 kv.2) kds).length ≤ kds.length + zs.length := by
  induction zs with
  | nil => intro kds; simp
  | cons z zs ih =>
    intro kds
    rw [List.foldl_cons, List.length_cons]
    have := ih (putD kds z.1 z.2)
    have := put_len (kds := kds) (a := z.1) (v := z.2)
    omega
theorem pairs_names (v : Da) (xs : List Str) : pairsD (xs.map fun x => PyData.tuple [.str x, v]) = some (xs.map fun x => ((.inr x : Key), v)) := by
  induction xs with
  | nil => rfl
  | cons x xs ih =>
    rw [List.map_cons, pairsD, ih]
    rfl
section
variable {h : Hh} {Q : Vl → Hh → Prop} {E : XP} {p : Prg}
theorem wp_wrong_row (ok : p.Ok) (q : Q (.d .none) h) : Wp (m_wrong_row [.d p.da] h) Q E := by
  have l1 : (p.ins.map PyData.str).length = p.ins.length := List.length_map ..
  have l2 : (p.rows.map fun r => PyData.tuple [.str r.1, r.2.da]).length = p.rows.length := List.length_map ..
  have i6 := ok.i6
  have r1 := ok.r1
  have r40 := ok.r40
  rw [show p.da = .tuple [.tuple (p.ins.map PyData.str), ptD (p.rows.map fun r => .tuple [.str r.1, r.2.da])] from rfl]
  refine en_wrong_row ?_
  unfold b_wrong_row
  walk_at "w"
  refine wp_are_ins i6 (List.nodup_append.mp ok.nd).1 (fun x hx => ok.nm x (List.mem_append.mpr (.inl hx))) ?_
  walk_at "w"
  refine wp_lcR p.ins PyData.str (fun x => .tuple [.str x, .bool true]) (by walk_at "wipe") ?_
  walk_at "w"
  refine ⟨rfl, by omega, rfl, fun x hx h' => ?_, ?_⟩
  · walk_at "w"
    refine ⟨rfl, ?_⟩
    walk_at "w"
    exact ⟨rfl, rfl⟩
  walk_at "w"
  refine wo_dp (pairs_names (.bool true) p.ins) ?_
  walk_at "w"
  refine forK_inv (I := fun k ρ1 h1 => ∃ kds a b, ρ1 = [some (.d (.tuple [.tuple (p.ins.map PyData.str), ptD (p.rows.map fun r => .tuple [.str r.1, r.2.da])])), some (.r h.length), none, a, b] ∧ h1 = h ++ [some (.dct kds)] ∧ Nms kds (p.ins ++ (p.rows.take k).map (·.1)) ∧ kds.length ≤ p.ins.length + k) ?_ ?_ ?_
  · refine ⟨_, none, none, rfl, rfl, ?_, ?_⟩
    · have := nms_fold (.bool true) p.ins [] [] nms_nil
      simpa using this
    · have := fold_len (p.ins.map fun x => ((.inr x : Key), (.bool true : Da))) []
      simpa using this
  · rintro k d ρ1 h1 ed ⟨kds, a, b, rfl, rfl, hk, hl⟩
    rw [List.getElem?_mapIdx, List.getElem?_map] at ed
    cases er : p.rows[k]? with
    | none => rw [er] at ed; cases ed
    | some r =>
      rw [er] at ed
      cases ed
      have hkl := (List.getElem?_eq_some_iff.mp er).1
      walk_at "w"
      unfold bl_wrong_row_1
      walk_at "w"
      have nd := ok.nd
      have tk : p.rows.take (k + 1) = p.rows.take k ++ [r] := by rw [List.take_succ, er]; rfl
      have sub : ∀ x ∈ p.ins ++ (p.rows.take k).map (·.1), isNm x = true := fun x hx => ok.nm x (by
        rcases List.mem_append.mp hx with z | z
        · exact List.mem_append.mpr (.inl z)
        · obtain ⟨y, hy, rfl⟩ := List.mem_map.mp z
          exact List.mem_append.mpr (.inr (List.mem_map_of_mem (List.mem_of_mem_take hy))))
      have mr : r ∈ p.rows := List.mem_of_getElem? er
      have ni : r.1 ∉ p.ins ++ (p.rows.take k).map (·.1) := by
        have e2 : p.rows = p.rows.take k ++ r :: p.rows.drop (k + 1) := by
          have := List.take_append_drop (k + 1) p.rows
          rw [tk, List.append_assoc] at this
          exact this.symm
        rw [e2, List.map_append, List.map_cons, ← List.append_assoc] at nd
        intro hm
        exact (List.nodup_append.mp nd).2.2 _ hm _ (List.mem_cons_self ..) rfl
      refine wp_is_row (ns := p.ins ++ (p.rows.take k).map (·.1)) (kds := kds) (ok.wk k r er) sub (ok.nm _ (List.mem_append.mpr (.inr (List.mem_map_of_mem mr)))) ni (by simp) hk ?_
      walk_at "w"
      refine ex_setDE rfl rfl (by omega) ?_
      refine ⟨_, _, _, rfl, rfl, ?_, ?_⟩
      · rw [tk, List.map_append, ← List.append_assoc]
        exact nms_put hk
      · have := put_len (kds := kds) (a := .inr r.1) (v := .bool true)
        omega
  · rintro ρ1 h1 ⟨kds, a, b, rfl, rfl, hk, hl⟩
    walk_at "w"
    exact q
end

/-! programs: asked, needed -/
section
variable {h : Hh} {Q : Vl → Hh → Prop} {E : XP} {p : Prg} {w : Work} {ns : List Str}
def Work.asks : Work → List Str
  | .num _ => []
  | .op _ xs => xs
theorem wp_need_program (ok : p.Ok) (q : Q (.d .none) h) : Wp (m_need_program [.d p.da] h) Q E := by
  refine en_need_program ?_
  unfold b_need_program
  walk_at "w"
  refine wp_wrong_row ok ?_
  walk_at "w"
  exact q
theorem wp_asked (ok : w.Ok ns) (q : Q (.d (.list (w.asks.map PyData.str))) h) : Wp (m_asked [.d w.da] h) Q E := by
  cases w with
  | num r =>
    rw [show (Work.num r).da = .tuple [.str "number", Rk.Q r] from rfl]
    refine en_asked ?_
    unfold b_asked
    walk_at "w"
    exact q
  | op w xs =>
    obtain ⟨s1, s2⟩ := ok
    obtain ⟨w1, w2, w3, w4⟩ := wants_n s1
    rw [show (Work.op w xs).da = .tuple (.str w :: xs.map PyData.str) from rfl]
    refine en_asked ?_
    unfold b_asked
    walk_at "w"
    exact q
end

/-! programs: what hangs on what -/
def Prg.plc (p : Prg) (x : Str) : Option Nat := (p.rows.map (·.1)).findIdx? (fun y => decide (y = x))
def Prg.adj (p : Prg) (k : Nat) : List Nat := match p.rows[k]? with
  | some r => r.2.asks.filterMap p.plc
  | none => []
inductive Prg.Nd (p : Prg) : Nat → Prop
  | last : p.Nd (p.rows.length - 1)
  | step {j k : Nat} : p.Nd j → k ∈ p.adj j → p.Nd k
theorem Prg.Ok.rn {p : Prg} (ok : p.Ok) : (p.rows.map (·.1)).Nodup := (List.nodup_append.mp ok.nd).2.1
theorem plc_iff {p : Prg} (ok : p.Ok) {x : Str} {k : Nat} : p.plc x = some k ↔ ∃ r, p.rows[k]? = some r ∧ r.1 = x := by
  unfold Prg.plc
  rw [List.findIdx?_eq_some_iff_getElem]
  constructor
  · rintro ⟨hk, e, _⟩
    have hk2 : k < p.rows.length := by simpa using hk
    refine ⟨p.rows[k], List.getElem?_eq_getElem hk2, ?_⟩
    simpa using e
  · rintro ⟨r, er, rfl⟩
    obtain ⟨hk, e⟩ := List.getElem?_eq_some_iff.mp er
    refine ⟨by simpa using hk, by simp [e], fun j hj => ?_⟩
    have nd := ok.rn
    have := (List.pairwise_iff_getElem.mp nd) j k (by simp; omega) (by simpa using hk) hj
    simp only [List.getElem_map, e] at this ⊢
    simpa using this
theorem adj_lt {p : Prg} (ok : p.Ok) {j k : Nat} (h : k ∈ p.adj j) : k < j ∧ j < p.rows.length := by
  unfold Prg.adj at h
  cases ej : p.rows[j]? with
  | none => rw [ej] at h; cases h
  | some r =>
    rw [ej] at h
    have hj := (List.getElem?_eq_some_iff.mp ej).1
    obtain ⟨x, hx, e⟩ := List.mem_filterMap.mp h
    obtain ⟨s, es, rfl⟩ := (plc_iff ok).mp e
    have wk := ok.wk j r ej
    have hk := (List.getElem?_eq_some_iff.mp es).1
    refine ⟨?_, hj⟩
    have mem : s.1 ∈ p.ins ++ (p.rows.take j).map (·.1) := by
      unfold Work.asks at hx
      cases hw : r.2 with
      | num q => rw [hw] at hx; cases hx
      | op w xs =>
        rw [hw] at hx wk
        exact wk.2 _ hx
    have nd := List.nodup_append.mp ok.nd
    rcases List.mem_append.mp mem with z | z
    · exact absurd rfl (nd.2.2 _ z _ (List.mem_map_of_mem (List.mem_of_getElem? es)))
    · obtain ⟨t, ht, e2⟩ := List.mem_map.mp z
      obtain ⟨i, hi⟩ := List.mem_iff_getElem?.mp ht
      have hi2 := (List.getElem?_eq_some_iff.mp hi).1
      rw [List.length_take] at hi2
      rw [List.getElem?_take_of_lt (by omega)] at hi
      have a1 := (plc_iff ok).mpr ⟨t, hi, e2⟩
      rw [e] at a1
      cases a1
      omega
theorem Nd.lt {p : Prg} (ok : p.Ok) {k : Nat} (h : p.Nd k) : k < p.rows.length := by
  have := ok.r1
  cases h with
  | last => omega
  | step a b =>
    have := adj_lt ok b
    omega
/-! a dict of pairs with unlike keys -/
theorem fold_no (b : Key) : ∀ (zs kds : List (Key × Da)), b ∉ zs.map (·.1) → valD (zs.foldl (fun acc kv => putD acc kv.1 kv.2) kds) b = valD kds b
  | [], _, _ => rfl
  | z :: zs, kds, h => by
    rw [List.foldl_cons, fold_no b zs _ (fun m => h (by rw [List.map_cons]; exact List.mem_cons_of_mem _ m)), valD_put, if_neg]
    intro e
    exact h (by rw [List.map_cons, e]; exact List.mem_cons_self ..)
theorem fold_yes {b : Key} {v : Da} : ∀ (zs kds : List (Key × Da)), (zs.map (·.1)).Nodup → (b, v) ∈ zs → valD (zs.foldl (fun acc kv => putD acc kv.1 kv.2) kds) b = some v
  | z :: zs, kds, nd, m => by
    rw [List.foldl_cons]
    rw [List.map_cons, List.nodup_cons] at nd
    rcases List.mem_cons.mp m with e | e
    · subst e
      rw [fold_no b zs _ nd.1, valD_put, if_pos rfl]
    · exact fold_yes zs _ nd.2 e
def Prg.prs (p : Prg) : List (Key × Da) := p.rows.mapIdx fun i r => (.inr r.1, .int (i : Nat))
def Prg.dic (p : Prg) : List (Key × Da) := p.prs.foldl (fun acc kv => putD acc kv.1 kv.2) []
theorem prs_keys (p : Prg) : p.prs.map (·.1) = (p.rows.map (·.1)).map Sum.inr := by
  unfold Prg.prs
  apply List.ext_getElem?
  intro i
  simp only [List.getElem?_map, List.getElem?_mapIdx]
  cases p.rows[i]? <;> rfl
theorem dic_val {p : Prg} (ok : p.Ok) (x : Str) : valD p.dic (.inr x) = (p.plc x).map fun k => .int (k : Nat) := by
  have nk : (p.prs.map (·.1)).Nodup := by
    rw [prs_keys]
    exact List.Pairwise.map _ (fun a b h z => h (Sum.inr.inj z)) ok.rn
  unfold Prg.dic
  cases e : p.plc x with
  | none =>
    rw [fold_no]
    · rfl
    · rw [prs_keys]
      intro m
      obtain ⟨y, hy, e2⟩ := List.mem_map.mp m
      cases e2
      obtain ⟨r, hr, rfl⟩ := List.mem_map.mp hy
      obtain ⟨i, hi⟩ := List.mem_iff_getElem?.mp hr
      rw [(plc_iff ok).mpr ⟨r, hi, rfl⟩] at e
      cases e
  | some k =>
    obtain ⟨r, er, rfl⟩ := (plc_iff ok).mp e
    refine fold_yes _ _ nk ?_
    unfold Prg.prs
    refine List.mem_iff_getElem?.mpr ⟨k, ?_⟩
    rw [List.getElem?_mapIdx, er]
    rfl
theorem dic_ne {p : Prg} (ok : p.Ok) : p.dic ≠ [] := by
  intro z
  have h1 := ok.r1
  have e := dic_val ok (p.rows[0]).1
  rw [z, (plc_iff ok).mpr ⟨p.rows[0], List.getElem?_eq_getElem (by omega), rfl⟩] at e
  cases e
/-! which rows are needed -/
noncomputable def Prg.ndB (p : Prg) (k : Nat) : Bool := @decide (p.Nd k) (Classical.propDecidable _)
theorem ndB_iff {p : Prg} {k : Nat} : p.ndB k = true ↔ p.Nd k := by
  unfold Prg.ndB
  exact @decide_eq_true_iff _ (Classical.propDecidable _)
noncomputable def Prg.ndL (p : Prg) : List Nat := (List.range p.rows.length).filter p.ndB
theorem mem_ndL {p : Prg} (ok : p.Ok) {k : Nat} : k ∈ p.ndL ↔ p.Nd k := by
  unfold Prg.ndL
  rw [List.mem_filter, List.mem_range, ndB_iff]
  exact ⟨fun z => z.2, fun z => ⟨Nd.lt ok z, z⟩⟩
/-- what is wanted behind t of the rows, from the last one on, and i names of the next one -/
def Prg.Wn (p : Prg) (t i k : Nat) : Prop := k = p.rows.length - 1 ∨ (∃ j, p.rows.length - t ≤ j ∧ p.Nd j ∧ k ∈ p.adj j) ∨ (p.Nd (p.rows.length - 1 - t) ∧ ∃ r, p.rows[p.rows.length - 1 - t]? = some r ∧ k ∈ (r.2.asks.take i).filterMap p.plc)
noncomputable def Prg.wnB (p : Prg) (t i k : Nat) : Bool := @decide (p.Wn t i k) (Classical.propDecidable _)
theorem wnB_iff {p : Prg} {t i k : Nat} : p.wnB t i k = true ↔ p.Wn t i k := by
  unfold Prg.wnB
  exact @decide_eq_true_iff _ (Classical.propDecidable _)
theorem wnB_eq {p : Prg} {t i k t' i' k' : Nat} (e : p.Wn t i k ↔ p.Wn t' i' k') : p.wnB t i k = p.wnB t' i' k' := by
  rw [Bool.eq_iff_iff, wnB_iff, wnB_iff, e]
theorem Wn.zero {p : Prg} (ok : p.Ok) {k : Nat} : p.Wn 0 0 k ↔ k = p.rows.length - 1 := by
  unfold Prg.Wn
  constructor
  · rintro (z | ⟨j, h1, h2, h3⟩ | ⟨_, r, _, h3⟩)
    · exact z
    · have := adj_lt ok h3; omega
    · simp at h3
  · exact .inl
theorem Wn.here {p : Prg} (ok : p.Ok) {t : Nat} (ht : t < p.rows.length) : p.Wn t 0 (p.rows.length - 1 - t) ↔ p.Nd (p.rows.length - 1 - t) := by
  unfold Prg.Wn
  constructor
  · rintro (z | ⟨j, h1, h2, h3⟩ | ⟨a, _⟩)
    · rw [z]; exact .last
    · exact .step h2 h3
    · exact a
  · intro z
    generalize hm : p.rows.length - 1 - t = m at z
    cases z with
    | last => exact .inl rfl
    | @step j _ a b =>
      have := adj_lt ok b
      exact .inr (.inl ⟨j, by omega, a, b⟩)
theorem Wn.skip {p : Prg} {t k : Nat} (ht : t < p.rows.length) (n : ¬ p.Nd (p.rows.length - 1 - t)) : p.Wn t 0 k ↔ p.Wn (t + 1) 0 k := by
  unfold Prg.Wn
  constructor
  · rintro (z | ⟨j, h1, h2, h3⟩ | ⟨a, _⟩)
    · exact .inl z
    · exact .inr (.inl ⟨j, by omega, h2, h3⟩)
    · exact absurd a n
  · rintro (z | ⟨j, h1, h2, h3⟩ | ⟨_, r, _, h3⟩)
    · exact .inl z
    · by_cases e : j = p.rows.length - 1 - t
      · subst e; exact absurd h2 n
      · exact .inr (.inl ⟨j, by omega, h2, h3⟩)
    · simp at h3
theorem Wn.full {p : Prg} {t k : Nat} (ht : t < p.rows.length) {r : Str × Work} (er : p.rows[p.rows.length - 1 - t]? = some r) (n : p.Nd (p.rows.length - 1 - t)) : p.Wn t r.2.asks.length k ↔ p.Wn (t + 1) 0 k := by
  have ea : p.adj (p.rows.length - 1 - t) = r.2.asks.filterMap p.plc := by unfold Prg.adj; rw [er]
  unfold Prg.Wn
  constructor
  · rintro (z | ⟨j, h1, h2, h3⟩ | ⟨a, s, es, h3⟩)
    · exact .inl z
    · exact .inr (.inl ⟨j, by omega, h2, h3⟩)
    · rw [er] at es
      cases es
      rw [List.take_length] at h3
      exact .inr (.inl ⟨_, by omega, n, by rw [ea]; exact h3⟩)
  · rintro (z | ⟨j, h1, h2, h3⟩ | ⟨_, s, _, h3⟩)
    · exact .inl z
    · by_cases e : j = p.rows.length - 1 - t
      · subst e
        exact .inr (.inr ⟨n, r, er, by rw [List.take_length, ← ea]; exact h3⟩)
      · exact .inr (.inl ⟨j, by omega, h2, h3⟩)
    · simp at h3
theorem Wn.next {p : Prg} {t i k : Nat} {r : Str × Work} {x : Str} (er : p.rows[p.rows.length - 1 - t]? = some r) (n : p.Nd (p.rows.length - 1 - t)) (ex : r.2.asks[i]? = some x) : p.Wn t (i + 1) k ↔ p.Wn t i k ∨ p.plc x = some k := by
  have tk : r.2.asks.take (i + 1) = r.2.asks.take i ++ [x] := by rw [List.take_succ, ex]; rfl
  unfold Prg.Wn
  constructor
  · rintro (z | z | ⟨a, s, es, h3⟩)
    · exact .inl (.inl z)
    · exact .inl (.inr (.inl z))
    · rw [er] at es
      cases es
      rw [tk, List.filterMap_append, List.mem_append] at h3
      rcases h3 with h3 | h3
      · exact .inl (.inr (.inr ⟨n, r, er, h3⟩))
      · obtain ⟨y, hy, e⟩ := List.mem_filterMap.mp h3
        rw [List.mem_singleton] at hy
        subst hy
        exact .inr e
  · rintro ((z | z | ⟨a, s, es, h3⟩) | z)
    · exact .inl z
    · exact .inr (.inl z)
    · rw [er] at es
      cases es
      exact .inr (.inr ⟨n, r, er, by rw [tk, List.filterMap_append, List.mem_append]; exact .inl h3⟩)
    · exact .inr (.inr ⟨n, r, er, by rw [tk, List.filterMap_append, List.mem_append]; exact .inr (List.mem_filterMap.mpr ⟨x, List.mem_singleton_self _, z⟩)⟩)
theorem Wn.end_ {p : Prg} (ok : p.Ok) {k : Nat} : p.Wn p.rows.length 0 k ↔ p.Nd k := by
  unfold Prg.Wn
  constructor
  · rintro (z | ⟨j, h1, h2, h3⟩ | ⟨_, r, _, h3⟩)
    · rw [z]; exact .last
    · exact .step h2 h3
    · simp at h3
  · intro z
    cases z with
    | last => exact .inl rfl
    | @step j _ a b => exact .inr (.inl ⟨j, by omega, a, b⟩)

theorem da_rows (p : Prg) : p.da = .tuple [.tuple (p.ins.map PyData.str), ptD (p.rows.map fun r => .tuple [.str r.1, r.2.da])] := rfl
def Prg.names (p : Prg) : List Str := p.ins ++ p.rows.map (·.1)

/-! names that are drawn -/
def Lt (x : Str) : Prop := ∀ c ∈ x.cps.toList, c ∈ LET.cps.toList
theorem app_cps (a b : Str) : (a ++ b).cps.toList = a.cps.toList ++ b.cps.toList := Array.toList_append
theorem app_len (a b : Str) : (a ++ b).length = a.length + b.length := Array.size_append
theorem lt_app {a b : Str} (ha : Lt a) (hb : Lt b) : Lt (a ++ b) := fun c hc => by
  rw [app_cps] at hc
  exact (List.mem_append.mp hc).elim (ha c) (hb c)
theorem isNm_of {x : Str} (h1 : 1 ≤ x.length) (h6 : x.length ≤ 6) (hl : Lt x) : isNm x = true := by
  unfold isNm
  rw [decide_eq_true (⟨h1, h6⟩ : 1 ≤ x.length ∧ x.length ≤ 6), Bool.true_and, List.all_eq_true]
  exact fun c hc => decide_eq_true (hl c hc)
def sg (c : Nat) : Str := ⟨#[c]⟩
theorem lt_sg {c : Nat} (h : c ∈ LET.cps.toList) : Lt (sg c) := fun d hd => by
  unfold sg at hd
  simp at hd
  subst hd
  exact h
def near (m : Nat) (rest : Str) : List Str := (sg m ++ rest) :: LET.cps.toList.map fun c => sg m ++ sg c ++ ("qz" : Str)
def OWN : List Str := ["in", "number", "plus", "size", "over", "pick", "least", "most", "less", "turned"]
/-! programs: needed -/
section
variable {h : Hh} {Q : Vl → Hh → Prop} {E : XP} {p : Prg} {w : Work} {ns : List Str}
theorem ex_setLm1 {n : Nat} {v : Da} {ds : List Da} {l : Hh} {N : Hh → Prop} (hk : n = h.length) (hd : 0 < ds.length) (q : N (h ++ some (.lst (ds.set (ds.length - 1) v)) :: l)) : ∃ h3, setL (.r n) (.d (.int (-1))) (.d v) (h ++ some (.lst ds) :: l) = some h3 ∧ N h3 := by
  subst hk
  refine ⟨h ++ some (.lst (ds.set (ds.length - 1) v)) :: l, ?_, q⟩
  have e : ixN ds.length (-1) = some (ds.length - 1) := by
    unfold ixN
    rw [if_neg (by omega), if_pos (by omega)]
    congr 1
    omega
  unfold setL fz
  dsimp only
  rw [get_at]
  dsimp only
  rw [e]
  show some (List.set _ _ _) = _
  rw [set_at]
theorem lst_tab {n : Nat} {f g : Nat → Da} (e : ∀ k, k < n → f k = g k) : h ++ [some (Ob.lst (tabD n f))] = h ++ [some (Ob.lst (tabD n g))] := by rw [tab_ext e]
def Prg.src (p : Prg) : List (Nat × (Str × Work)) := p.rows.mapIdx fun i r => (i, r)
theorem src_map {p : Prg} {F : Nat → (Str × Work) → Da} : (p.rows.mapIdx fun i r => F i r) = p.src.map fun z => F z.1 z.2 := by
  unfold Prg.src
  apply List.ext_getElem?
  intro i
  simp only [List.getElem?_map, List.getElem?_mapIdx]
  cases p.rows[i]? <;> rfl
theorem pairs_src (p : Prg) : pairsD (p.src.map fun z => PyData.tuple [.str z.2.1, .int (z.1 : Nat)]) = some p.prs := by
  have gen : ∀ l : List (Nat × (Str × Work)), pairsD (l.map fun z => PyData.tuple [.str z.2.1, .int (z.1 : Nat)]) = some (l.map fun z => ((.inr z.2.1 : Key), (.int (z.1 : Nat) : Da))) := fun l => by
    induction l with
    | nil => rfl
    | cons x xs ih => rw [List.map_cons, pairsD, ih]; rfl
  rw [gen]
  unfold Prg.prs Prg.src
  congr 1
  apply List.ext_getElem?
  intro i
  simp only [List.getElem?_map, List.getElem?_mapIdx]
  cases p.rows[i]? <;> rfl
theorem wp_needed (ok : p.Ok) (q : Q (.d (.list (p.ndL.map fun k : Nat => .int (k : Int)))) h) : Wp (m_needed [.d p.da] h) Q E := by
  have l2 : (p.rows.map fun r => PyData.tuple [.str r.1, r.2.da]).length = p.rows.length := List.length_map ..
  have r1 := ok.r1
  have r40 := ok.r40
  refine en_needed ?_
  unfold b_needed
  walk_at "w"
  refine wp_need_program ok ?_
  rw [da_rows]
  walk_at "w"
  refine wp_fzD ?_
  walk_at "w"
  refine wp_lcR p.src (fun z => .tuple [.int (z.1 : Nat), .tuple [.str z.2.1, z.2.2.da]]) (fun z => .tuple [.str z.2.1, .int (z.1 : Nat)]) (by walk_at "wipe") ?_
  walk_at "w"
  refine ⟨?_, ?_, rfl, fun z hz h' => ?_, ?_⟩
  · rw [← src_map (F := fun i r => .tuple [.int (i : Nat), .tuple [.str r.1, r.2.da]]), mapIdx_map']
  · unfold Prg.src
    rw [List.length_mapIdx]
    omega
  · walk_at "w"
    refine ⟨rfl, ?_⟩
    walk_at "w"
    exact ⟨rfl, rfl⟩
  walk_at "w"
  refine wo_dp (pairs_src p) ?_
  refine fzDk_end rfl (dic_ne ok) ?_
  walk_at "w"
  refine wp_lcN p.rows (fun r => .tuple [.str r.1, r.2.da]) (fun _ => .bool false) (fun _ => true) (by walk_at "wipe") ?_
  walk_at "w"
  refine ⟨rfl, by omega, fun z hz h' => ?_, ?_⟩
  · walk_at "w"
    refine ⟨rfl, ?_⟩
    walk_at "w"
    refine ⟨⟨rfl, rfl⟩, fun _ => ?_⟩
    walk_at "w"
    exact ⟨rfl, rfl⟩
  have lt : ((p.rows.filter fun _ => true).map fun _ => PyData.bool false) = tabD p.rows.length fun _ => .bool false := by
    unfold tabD
    apply List.ext_getElem (by simp)
    intro i h1 h2
    simp
  rw [lt]
  walk_at "w"
  refine ex_setLm1 rfl (by rw [tab_len]; omega) ?_
  rw [tab_len, tab_set]
  walk_at "w"
  refine ⟨rgB_of (by omega) (by omega), ?_⟩
  have rv : (rngD 0 (((p.rows.map fun r => PyData.tuple [PyData.str r.1, r.2.da]).length : Nat) : Int).toNat).reverse = tabD p.rows.length fun t => .int ((p.rows.length - 1 - t : Nat) : Int) := by
    rw [l2, Int.toNat_natCast]
    unfold rngD tabD
    apply List.ext_getElem (by simp)
    intro i h1 h2
    simp
  rw [rv]
  refine forK_inv (I := fun t ρ1 h1 => ∃ a b, ρ1 = [some (.d (.tuple [.tuple (p.ins.map PyData.str), ptD (p.rows.map fun r => .tuple [.str r.1, r.2.da])])), some (.d (.tuple (p.rows.map fun r => .tuple [.str r.1, r.2.da]))), some (.d (.dict (dD p.dic))), a, none, some (.r h.length), b] ∧ h1 = h ++ [some (.lst (tabD p.rows.length fun k => .bool (p.wnB t 0 k)))]) ?_ ?_ ?_
  · refine ⟨none, none, rfl, ?_⟩
    refine lst_tab fun k hk => ?_
    by_cases e : k = p.rows.length - 1
    · rw [if_pos e, wnB_iff.mpr ((Wn.zero ok).mpr e)]
    · rw [if_neg e, show p.wnB 0 0 k = false from by
        cases z : p.wnB 0 0 k with
        | false => rfl
        | true => exact absurd ((Wn.zero ok).mp (wnB_iff.mp z)) e]
  · rintro t d ρ1 h1 ed ⟨a, b, rfl, rfl⟩
    have ht : t < p.rows.length := by
      have := (List.getElem?_eq_some_iff.mp ed).1
      rw [tab_len] at this
      exact this
    rw [tab_get ht] at ed
    cases ed
    walk_at "w"
    unfold bl_needed_2
    walk_at "w"
    have hm : p.rows.length - 1 - t < p.rows.length := by omega
    obtain ⟨r, er⟩ : ∃ r, p.rows[p.rows.length - 1 - t]? = some r := ⟨_, List.getElem?_eq_getElem hm⟩
    refine wo_iyR get_at (tab_get hm) ?_
    walk_at "w"
    cases hb : p.wnB t 0 (p.rows.length - 1 - t) with
    | false =>
      walk_at "w"
      have nn : ¬ p.Nd (p.rows.length - 1 - t) := fun z => by
        rw [wnB_iff.mpr ((Wn.here ok ht).mpr z)] at hb
        cases hb
      refine ⟨_, _, rfl, ?_⟩
      exact lst_tab fun k hk => by rw [wnB_eq (Wn.skip ht nn)]
    | true =>
      have nn := (Wn.here ok ht).mp (wnB_iff.mp hb)
      walk_at "w"
      refine wo_ixT (v := .tuple [.str r.1, r.2.da]) (by rw [List.getElem?_map, er]; rfl) ?_
      walk_at "w"
      refine wp_asked (ok.wk _ r er) ?_
      walk_at "w"
      refine forK_inv (I := fun i ρ1 h1 => ∃ b, ρ1 = [some (.d (.tuple [.tuple (p.ins.map PyData.str), ptD (p.rows.map fun r => .tuple [.str r.1, r.2.da])])), some (.d (.tuple (p.rows.map fun r => .tuple [.str r.1, r.2.da]))), some (.d (.dict (dD p.dic))), some (.d (.int ((p.rows.length - 1 - t : Nat) : Int))), none, some (.r h.length), b] ∧ h1 = h ++ [some (.lst (tabD p.rows.length fun k => .bool (p.wnB t i k)))]) ?_ ?_ ?_
      · exact ⟨_, rfl, rfl⟩
      · rintro i d ρ1 h1 ed ⟨b, rfl, rfl⟩
        rw [List.getElem?_map] at ed
        cases ex : r.2.asks[i]? with
        | none => rw [ex] at ed; cases ed
        | some x =>
          rw [ex] at ed
          cases ed
          walk_at "w"
          unfold bl_needed_1
          walk_at "w"
          refine wo_inF (b := (p.plc x).isSome) (dic_ne ok) (by rw [dic_val ok, Option.isSome_map]) ?_
          cases ek : p.plc x with
          | none =>
            rw [show (none : Option Nat).isSome = false from rfl]
            walk_at "w"
            refine ⟨_, rfl, lst_tab fun k hk => ?_⟩
            refine congrArg PyData.bool (wnB_eq ?_)
            rw [Wn.next er nn ex, ek]
            simp
          | some k =>
            rw [show (some k).isSome = true from rfl]
            walk_at "w"
            refine wo_iwD (d := .int (k : Nat)) (by rw [dic_val ok, ek]; rfl) (dic_ne ok) ?_
            have hk : k < p.rows.length := by
              obtain ⟨s, es, _⟩ := (plc_iff ok).mp ek
              exact (List.getElem?_eq_some_iff.mp es).1
            refine ex_setLE rfl (by rw [tab_len]; exact hk) ?_
            rw [tab_set]
            refine ⟨_, rfl, lst_tab fun j hj => ?_⟩
            by_cases e : j = k
            · rw [if_pos e, wnB_iff.mpr ((Wn.next er nn ex).mpr (.inr (by rw [ek, e])))]
            · rw [if_neg e]
              refine congrArg PyData.bool (wnB_eq ?_)
              rw [Wn.next er nn ex, ek]
              have e' : ¬ k = j := fun z => e z.symm
              simp [e']
      · rintro ρ1 h1 ⟨b, rfl, rfl⟩
        refine ⟨_, _, rfl, lst_tab fun k hk => ?_⟩
        rw [List.length_map, wnB_eq (Wn.full ht er nn)]
  · rintro ρ1 h1 ⟨a, b, rfl, rfl⟩
    rw [tab_len]
    walk_at "w"
    refine wp_lcT (List.range p.rows.length) (fun k => .int (k : Nat)) (fun k => .int (k : Nat)) p.ndB (by walk_at "wipe") ?_
    walk_at "w"
    rw [l2]
    refine ⟨?_, by rw [List.length_range]; omega, rfl, fun k hk h' => ?_, ?_⟩
    · rw [Int.toNat_natCast]
      unfold rngD
      congr 1
      exact List.map_congr_left fun k _ => by rw [Int.zero_add]
    · rw [List.mem_range] at hk
      walk_at "w"
      refine ⟨rfl, ?_, fun _ => ?_⟩
      · walk_at "w"
        refine wo_iyL rfl (wo_ixLF (tab_get hk) ?_)
        walk_at "w"
        refine ⟨rfl, ?_⟩
        rw [Bool.eq_iff_iff, wnB_iff, ndB_iff]
        exact Wn.end_ ok
      · walk_at "w"
        exact ⟨rfl, rfl⟩
    · walk_at "w"
      exact q
end

/-! programs: pruned -/
noncomputable def Prg.row (p : Prg) (k : Nat) : Str × Work := (p.rows[k]?).getD ("", .num 0)
theorem row_get {p : Prg} {k : Nat} {r : Str × Work} : p.rows[k]? = some r → p.row k = r := fun e => by unfold Prg.row; rw [e]; rfl
theorem row_at {p : Prg} {k : Nat} (hk : k < p.rows.length) : p.rows[k]? = some (p.row k) := by
  unfold Prg.row
  rw [List.getElem?_eq_getElem hk]
  rfl
noncomputable def Prg.prn (p : Prg) : Prg := ⟨p.ins, p.ndL.map p.row⟩
theorem ndL_sorted (p : Prg) : p.ndL.Pairwise (· < ·) := List.Pairwise.filter _ List.pairwise_lt_range
theorem ndL_lt {p : Prg} {i : Nat} (h : i ∈ p.ndL) : i < p.rows.length := List.mem_range.mp (List.mem_filter.mp h).1
theorem sorted_take {l : List Nat} (s : l.Pairwise (· < ·)) {k i j : Nat} (e : l[k]? = some j) (hi : i ∈ l) (lt : i < j) : i ∈ l.take k := by
  obtain ⟨m, hm⟩ := List.mem_iff_getElem?.mp hi
  obtain ⟨hm1, hm2⟩ := List.getElem?_eq_some_iff.mp hm
  obtain ⟨hk1, hk2⟩ := List.getElem?_eq_some_iff.mp e
  have : m < k := by
    by_cases z : m < k
    · exact z
    · by_cases y : k = m
      · subst y
        rw [hm2] at hk2
        omega
      · have := (List.pairwise_iff_getElem.mp s) k m hk1 hm1 (by omega)
        omega
  exact List.mem_iff_getElem?.mpr ⟨m, by rw [List.getElem?_take_of_lt this]; exact hm⟩
theorem row_name_inj {p : Prg} (ok : p.Ok) {i j : Nat} (hi : i < p.rows.length) (hj : j < p.rows.length) (e : (p.row i).1 = (p.row j).1) : i = j := by
  have a := (plc_iff ok).mpr ⟨p.row i, row_at hi, e⟩
  have b := (plc_iff ok).mpr ⟨p.row j, row_at hj, rfl⟩
  rw [a] at b
  exact Option.some.inj b
theorem prn_get {p : Prg} {b : Nat} {r : Str × Work} (e : p.prn.rows[b]? = some r) : ∃ j, p.ndL[b]? = some j ∧ r = p.row j := by
  unfold Prg.prn at e
  dsimp only at e
  rw [List.getElem?_map] at e
  cases ej : p.ndL[b]? with
  | none => rw [ej] at e; cases e
  | some j =>
    rw [ej] at e
    cases e
    exact ⟨j, rfl, rfl⟩
theorem last_nd {p : Prg} (ok : p.Ok) : p.rows.length - 1 ∈ p.ndL := (mem_ndL ok).mpr .last
theorem prn_ok {p : Prg} (ok : p.Ok) : p.prn.Ok := by
  have ll := List.length_filter_le p.ndB (List.range p.rows.length)
  rw [List.length_range] at ll
  have r40 := ok.r40
  have len : p.prn.rows.length = p.ndL.length := by unfold Prg.prn; exact List.length_map ..
  have l0 : 1 ≤ p.ndL.length := List.length_pos_of_mem (last_nd ok)
  have nms : ∀ x ∈ p.prn.rows.map (·.1), x ∈ p.rows.map (·.1) := fun x hx => by
    obtain ⟨r, hr, rfl⟩ := List.mem_map.mp hx
    obtain ⟨b, hb⟩ := List.mem_iff_getElem?.mp hr
    obtain ⟨j, ej, rfl⟩ := prn_get hb
    exact List.mem_map_of_mem (List.mem_of_getElem? (row_at (ndL_lt (List.mem_of_getElem? ej))))
  have nd := List.nodup_append.mp ok.nd
  refine ⟨ok.i6, by omega, by unfold Prg.ndL at len; omega, ?_, fun x hx => ?_, fun k r hr => ?_⟩
  · refine List.nodup_append.mpr ⟨nd.1, ?_, fun a ha b hb => nd.2.2 a ha b (nms b hb)⟩
    unfold Prg.prn
    dsimp only
    rw [List.map_map]
    unfold List.Nodup
    rw [List.pairwise_map]
    refine List.Pairwise.imp_of_mem ?_ (ndL_sorted p)
    intro a b ha hb hab e
    have := row_name_inj ok (ndL_lt ha) (ndL_lt hb) e
    omega
  · rcases List.mem_append.mp hx with z | z
    · exact ok.nm x (List.mem_append.mpr (.inl z))
    · exact ok.nm x (List.mem_append.mpr (.inr (nms x z)))
  · obtain ⟨j, ej, rfl⟩ := prn_get hr
    have hj := ndL_lt (List.mem_of_getElem? ej)
    have wk := ok.wk j _ (row_at hj)
    cases hw : (p.row j).2 with
    | num q => rw [hw] at wk; exact wk
    | op w xs =>
      rw [hw] at wk
      refine ⟨wk.1, fun x hx => ?_⟩
      rcases List.mem_append.mp (wk.2 x hx) with z | z
      · exact List.mem_append.mpr (.inl z)
      · refine List.mem_append.mpr (.inr ?_)
        obtain ⟨t, ht, e2⟩ := List.mem_map.mp z
        obtain ⟨i, hi⟩ := List.mem_iff_getElem?.mp ht
        have hi2 := (List.getElem?_eq_some_iff.mp hi).1
        rw [List.length_take] at hi2
        rw [List.getElem?_take_of_lt (by omega)] at hi
        have adj : i ∈ p.adj j := by
          unfold Prg.adj
          rw [row_at hj]
          refine List.mem_filterMap.mpr ⟨x, ?_, (plc_iff ok).mpr ⟨t, hi, e2⟩⟩
          unfold Work.asks
          rw [hw]
          exact hx
        have ni : i ∈ p.ndL := (mem_ndL ok).mpr (.step ((mem_ndL ok).mp (List.mem_of_getElem? ej)) adj)
        have := sorted_take (ndL_sorted p) ej ni (by omega)
        unfold Prg.prn
        dsimp only
        rw [← List.map_take, List.map_map]
        refine List.mem_map.mpr ⟨i, this, ?_⟩
        show (p.row i).1 = x
        rw [row_get hi, e2]
/-! programs: pruned, and the law's own going -/
section
variable {h : Hh} {Q : Vl → Hh → Prop} {E : XP} {p : Prg}
theorem prn_da (p : Prg) : p.prn.da = .tuple [.tuple (p.ins.map PyData.str), ptD (p.ndL.map fun k => .tuple [.str (p.row k).1, (p.row k).2.da])] := by
  rw [da_rows]
  unfold Prg.prn
  dsimp only
  rw [List.map_map]
  rfl
theorem rows_at {k : Nat} (hk : k < p.rows.length) : (p.rows.map fun r => PyData.tuple [.str r.1, r.2.da])[k]? = some (.tuple [.str (p.row k).1, (p.row k).2.da]) := by
  rw [List.getElem?_map, row_at hk]
  rfl
theorem wp_pruned (ok : p.Ok) (q : Q (.d p.prn.da) h) : Wp (m_pruned [.d p.da] h) Q E := by
  have r40 := ok.r40
  have ll := List.length_filter_le p.ndB (List.range p.rows.length)
  rw [List.length_range] at ll
  have ll : p.ndL.length ≤ p.rows.length := ll
  refine en_pruned ?_
  unfold b_pruned
  walk_at "w"
  refine wp_needed ok ?_
  rw [da_rows]
  walk_at "w"
  refine wp_lcR p.ndL (fun k => .int (k : Nat)) (fun k => .tuple [.str (p.row k).1, (p.row k).2.da]) (by walk_at "wipe") ?_
  walk_at "w"
  refine ⟨rfl, by omega, rfl, fun k hk h' => ?_, ?_⟩
  · have hk := ndL_lt hk
    walk_at "w"
    refine ⟨rfl, ?_⟩
    walk_at "w"
    refine wo_iyT rfl (wo_ixT (rows_at hk) ?_)
    exact ⟨rfl, rfl⟩
  walk_at "w"
  refine wo_tupPL ?_
  walk_at "w"
  rw [prn_da] at q
  exact q
end

/-! turns: the work of a name's row -/
def Prg.prw (p : Prg) : List (Key × Da) := p.rows.map fun r => ((.inr r.1 : Key), r.2.da)
def Prg.wk? (p : Prg) (x : Str) : Option Work := (p.rows.find? fun r => decide (r.1 = x)).map (·.2)
def noD : Da := .tuple [.str ""]
def wkD : Option Work → Da
  | some w => w.da
  | none => noD
theorem pairs_rows (p : Prg) : pairsD (p.rows.map fun r => PyData.tuple [.str r.1, r.2.da]) = some p.prw := by
  unfold Prg.prw
  generalize p.rows = rs
  induction rs with
  | nil => rfl
  | cons r rs ih =>
    rw [List.map_cons, pairsD, ih]
    rfl
theorem prw_keys (p : Prg) : p.prw.map (·.1) = (p.rows.map (·.1)).map Sum.inr := by
  unfold Prg.prw
  rw [List.map_map, List.map_map]
  rfl
theorem prw_val {p : Prg} (ok : p.Ok) (x : Str) : valD (p.prw.foldl (fun acc kv => putD acc kv.1 kv.2) []) (.inr x) = (p.wk? x).map Work.da := by
  have nd : (p.prw.map (·.1)).Nodup := by
    rw [prw_keys]
    have := ok.rn
    exact List.pairwise_map.mpr (this.imp fun h e => h (Sum.inr.inj e))
  unfold Prg.wk?
  cases e : p.rows.find? fun r => decide (r.1 = x) with
  | none =>
    rw [fold_no]
    · rfl
    · rw [prw_keys]
      intro hm
      obtain ⟨y, hy, ey⟩ := List.mem_map.mp hm
      obtain ⟨r, hr, er⟩ := List.mem_map.mp hy
      have := List.find?_eq_none.mp e r hr
      simp only [decide_eq_true_eq] at this
      exact this (er.trans (Sum.inr.inj ey))
  | some r =>
    have h1 := List.find?_some e
    have h2 := List.mem_of_find?_eq_some e
    simp only [decide_eq_true_eq] at h1
    rw [fold_yes (v := r.2.da) p.prw [] nd (by
      unfold Prg.prw
      refine List.mem_map.mpr ⟨r, h2, ?_⟩
      rw [h1])]
    rfl
section
variable {h : Hh} {Q : Vl → Hh → Prop} {E : XP} {p : Prg} {x : Str}
theorem wp_work_at (ok : p.Ok) (q : Q (.d (wkD (p.wk? x))) h) : Wp (m_work_at [.d p.da, .d (.str x)] h) Q E := by
  refine en_work_at ?_
  unfold b_work_at
  rw [da_rows]
  walk_at "w"
  refine wo_dt (pairs_rows p) ?_
  walk_at "w"
  refine ⟨tyDk_of get_end, ?_⟩
  walk_at "w"
  refine wo_get2 get_end ?_
  rw [prw_val ok]
  cases e : p.wk? x with
  | none =>
    rw [e] at q
    show RetK h.length Q (.d noD) _
    walk_at "w"
    exact q
  | some w =>
    rw [e] at q
    show RetK h.length Q (.d w.da) _
    walk_at "w"
    exact q
theorem wp_lwork_at (ok : p.Ok) (q : Q (.d (wkD (p.wk? x))) h) : Wp (m__law_work_at [.d p.da, .d (.str x)] h) Q E := by
  refine en__law_work_at ?_
  unfold b__law_work_at
  rw [da_rows]
  walk_at "w"
  refine wo_dt (pairs_rows p) ?_
  walk_at "w"
  refine ⟨tyDk_of get_end, ?_⟩
  walk_at "w"
  refine wo_get2 get_end ?_
  rw [prw_val ok]
  cases e : p.wk? x with
  | none =>
    rw [e] at q
    show RetK h.length Q (.d noD) _
    walk_at "w"
    exact q
  | some w =>
    rw [e] at q
    show RetK h.length Q (.d w.da) _
    walk_at "w"
    exact q
end

/-! turns: new names -/
theorem nodup_left1 {U : List Str} (nd : U.Nodup) (n : Str) : U.length ≤ (U.filter fun x => decide (x ≠ n)).length + 1 := by
  induction U with
  | nil => simp
  | cons a U ih =>
    obtain ⟨h1, h2⟩ := List.nodup_cons.mp nd
    by_cases e : a = n
    · subst e
      rw [List.filter_cons_of_neg (by simp)]
      have : U.filter (fun x => decide (x ≠ a)) = U := List.filter_eq_self.mpr fun x hx => by
        simp only [ne_eq, decide_not, Bool.not_eq_true', decide_eq_false_iff_not]
        rintro rfl
        exact h1 hx
      rw [this]
      simp
    · rw [List.filter_cons_of_pos (by simpa using e), List.length_cons, List.length_cons]
      have := ih h2
      omega
theorem nodup_left {U : List Str} (nd : U.Nodup) (ns : List Str) : U.length ≤ (U.filter fun x => decide (x ∉ ns)).length + ns.length := by
  induction ns generalizing U with
  | nil =>
    rw [List.filter_eq_self.mpr fun _ _ => by simp]
    exact Nat.le_refl _
  | cons n ns ih =>
    have h1 := nodup_left1 nd n
    have h2 := ih (U := U.filter fun x => decide (x ≠ n)) (List.Pairwise.filter _ nd)
    rw [List.filter_filter] at h2
    have e : (U.filter fun x => decide (x ∉ ns) && decide (x ≠ n)) = U.filter fun x => decide (x ∉ n :: ns) := by
      congr 1
      funext x
      simp only [List.mem_cons, not_or]
      by_cases a : x = n <;> by_cases b : x ∈ ns <;> simp [a, b]
    rw [e] at h2
    rw [List.length_cons]
    omega
def grp (ns : List Str) (f : Str) : List Str := (LET.cps.toList.filter fun c => decide (f ++ sg c ∉ ns)).map fun c => f ++ sg c
def WDS78 : List Str := (LET.cps.toList.map fun c => ("" : Str) ++ sg c) ++ (LET.cps.toList.map fun c => sg 97 ++ sg c) ++ (LET.cps.toList.map fun c => sg 98 ++ sg c)
theorem wds_nodup : WDS78.Nodup := by decide +kernel
theorem wds_len : WDS78.length = 78 := by decide +kernel
theorem grp_eq (ns : List Str) (f : Str) : grp ns f = (LET.cps.toList.map fun c => f ++ sg c).filter fun x => decide (x ∉ ns) := by
  unfold grp
  rw [List.filter_map]
  rfl
theorem grps_eq (ns : List Str) : grp ns "" ++ grp ns (sg 97) ++ grp ns (sg 98) = WDS78.filter fun x => decide (x ∉ ns) := by
  unfold WDS78
  rw [List.filter_append, List.filter_append, grp_eq, grp_eq, grp_eq]
theorem grps_two {ns : List Str} (l : ns.length ≤ 60) : 2 ≤ (grp ns "" ++ grp ns (sg 97) ++ grp ns (sg 98)).length := by
  rw [grps_eq]
  have := nodup_left wds_nodup ns
  rw [wds_len] at this
  omega
def fresh (ns : List Str) : List Str := (grp ns "" ++ grp ns (sg 97) ++ grp ns (sg 98)).take 2
theorem fresh_two {ns : List Str} (l : ns.length ≤ 60) : ∃ t u, fresh ns = [t, u] := by
  have h := grps_two l
  unfold fresh
  cases e : grp ns "" ++ grp ns (sg 97) ++ grp ns (sg 98) with
  | nil => rw [e] at h; simp at h
  | cons a r => cases r with
    | nil => rw [e] at h; simp at h
    | cons b r => exact ⟨a, b, rfl⟩
theorem grp_len (ns : List Str) (f : Str) : (grp ns f).length ≤ 26 := by
  unfold grp
  rw [List.length_map]
  refine Nat.le_trans (List.length_filter_le ..) ?_
  decide +kernel
theorem Prg.Ok.len {p : Prg} (ok : p.Ok) : p.names.length ≤ 46 := by
  unfold Prg.names
  have := ok.i6
  have := ok.r40
  rw [List.length_append, List.length_map]
  omega
theorem sgD_let : ∃ R, sgD LET = .str (sg 97) :: .str (sg 98) :: R := by
  obtain ⟨L, e⟩ : ∃ L, LET.cps.toList = 97 :: 98 :: L := ⟨LET.cps.toList.drop 2, by decide +kernel⟩
  refine ⟨L.map fun c => .str (sg c), ?_⟩
  unfold sgD
  rw [e]
  rfl
theorem ext_heap {hb j : Hh} {o o' ob : Option Ob} : (((hb ++ o :: j) ++ [ob]).set (hb ++ o :: j).length none).set hb.length o' = hb ++ o' :: (j ++ [none]) := by
  rw [set_at, List.append_assoc, List.cons_append, List.set_append_right _ _ (Nat.le_refl _), Nat.sub_self]
  rfl
theorem wo_slR {Q : Vl → Hh → Prop} {h : Hh} {n : Nat} {xs : List Da} {lo hi : Option Int} (e : h[n]? = some (some (.lst xs))) (q : Q (.r h.length) (h ++ [some (.lst (cutD xs lo hi))])) : Wo (gSl (.r n) lo hi h) Q := by
  refine wo_eq (v := .r h.length) ?_ q
  unfold gSl asL
  simp only [e]
theorem flat_strs (ns : List Str) : (ns.map PyData.str).all flatD = true := by
  rw [List.all_map, List.all_eq_true]
  exact fun _ _ => rfl
section
variable {h : Hh} {Q : Vl → Hh → Prop} {E : XP} {p : Prg} {x : Str}
theorem w_fresh {f : Str} {acc ns : List Str} {j : Hh} {o0 o2 o3 o6 : Option Vl} {N : En → Hh → Prop} {D : Ds} (la : acc.length ≤ 100) (lf : f.length ≤ 10)
    (q1 : 1 < (acc ++ grp ns f).length → ∀ j', D.rt (.d (.list (((acc ++ grp ns f).take 2).map PyData.str))) (h ++ some (.lst ((acc ++ grp ns f).map PyData.str)) :: j'))
    (q2 : (acc ++ grp ns f).length ≤ 1 → ∀ j' o6, N [o0, some (.d (.list (ns.map PyData.str))), o2, o3, some (.r h.length), some (.d (.str f)), o6] (h ++ some (.lst ((acc ++ grp ns f).map PyData.str)) :: j')) :
    Ws (bl_new_names_1 [o0, some (.d (.list (ns.map PyData.str))), o2, o3, some (.r h.length), some (.d (.str f)), o6] (h ++ some (.lst (acc.map PyData.str)) :: j)) N D := by
  unfold bl_new_names_1
  walk_at "w"
  refine wp_lcN LET.cps.toList (fun c => .str ⟨#[c]⟩) (fun c => .str (f ++ sg c)) (fun c => decide (f ++ sg c ∉ ns)) (by walk_at "wipe") ?_
  walk_at "w"
  refine ⟨rfl, by decide, fun c hc h' => ?_, ?_⟩
  · walk_at "w"
    refine ⟨rfl, ?_, fun _ => ?_⟩
    · walk_at "w"
      refine wo_addS (by show f.length + 1 ≤ _; omega) ?_
      walk_at "w"
      refine wo_notInF rfl (flat_strs ns) ?_
      rw [inF_strs]
      exact ⟨_, rfl, rfl, by show _ = decide _; rw [decide_not]; rfl⟩
    · walk_at "w"
      refine wo_addS (by show f.length + 1 ≤ _; omega) ?_
      exact ⟨rfl, rfl⟩
  walk_at "w"
  have lg := grp_len ns f
  refine wo_ext (xs := acc.map PyData.str) (ys := (grp ns f).map PyData.str) ?_ ?_ ?_ ?_ ?_
  · rw [List.append_assoc, List.getElem?_append_right (Nat.le_refl _), Nat.sub_self]
    rfl
  · rw [List.getElem?_append_right (Nat.le_refl _), Nat.sub_self]
    unfold grp
    rw [List.map_map]
    rfl
  · rw [List.length_append, List.length_cons]
    omega
  · rw [List.length_map, List.length_map]
    omega
  · rw [ext_heap, ← List.map_append]
    walk_at "w"
    have ge : ∀ l : Hh, (h ++ some (Ob.lst (List.map PyData.str (acc ++ grp ns f))) :: l)[h.length]? = some (some (Ob.lst (List.map PyData.str (acc ++ grp ns f)))) := fun l => by
      rw [List.getElem?_append_right (Nat.le_refl _), Nat.sub_self]
      rfl
    refine wo_lenR (ge _) (by rw [List.length_map, List.length_append]; omega) ?_
    rw [List.length_map]
    walk_at "w"
    · refine wo_slR (ge _) ?_
      rw [show (2 : Int) = ((2 : Nat) : Int) from rfl, cut_to, ← List.map_take]
      walk_at "w"
      exact q1 (by omega) _
    · exact q2 (by omega) _ _
theorem wp_new_names (ok : p.Ok) (q : Q (.d (.list ((fresh p.names).map PyData.str))) h) : Wp (m_new_names [.d p.da] h) Q E := by
  have l1 : (p.ins.map PyData.str).length = p.ins.length := List.length_map ..
  have i6 := ok.i6
  have r40 := ok.r40
  refine en_new_names ?_
  unfold b_new_names
  rw [da_rows]
  walk_at "w"
  refine wp_lcR p.rows (fun r => .tuple [.str r.1, r.2.da]) (fun r => .str r.1) (by walk_at "wipe") ?_
  walk_at "w"
  refine ⟨rfl, by omega, rfl, fun x hx h' => ?_, ?_⟩
  · walk_at "w"
    refine ⟨rfl, ?_⟩
    walk_at "w"
    exact ⟨rfl, rfl⟩
  walk_at "w"
  refine wo_listS (by decide) ?_
  walk_at "w"
  obtain ⟨R, eR⟩ := sgD_let
  rw [show sgD "abcdefghijklmnopqrstuvwxyz" = _ from eR]
  walk_at "w"
  rw [show List.map PyData.str p.ins ++ List.map (fun r => PyData.str r.fst) p.rows = p.names.map PyData.str by unfold Prg.names; rw [List.map_append, List.map_map]; rfl]
  refine w_fresh (acc := []) (f := "") (by decide) (by decide) (fun l j' => ?_) fun l j' o6 => ?_
  · refine retK_d' (by simp) ?_
    have e : (([] ++ grp p.names "").take 2) = fresh p.names := by
      have l2 : 2 ≤ (grp p.names "").length := l
      unfold fresh
      rw [List.nil_append, List.append_assoc, List.take_append_of_le_length l2]
    rw [e]
    exact q
  walk_at "w"
  refine w_fresh (f := sg 97) (by omega) (by decide) (fun l j' => ?_) fun l j' o6 => ?_
  · refine retK_d' (by simp) ?_
    have e : (([] ++ grp p.names "" ++ grp p.names (sg 97)).take 2) = fresh p.names := by
      unfold fresh
      have l2 : 2 ≤ (grp p.names "" ++ grp p.names (sg 97)).length := by rw [List.nil_append] at l; exact l
      rw [List.nil_append, List.take_append_of_le_length l2]
    rw [e]
    exact q
  walk_at "w"
  refine w_fresh (f := sg 98) (by omega) (by decide) (fun l j' => ?_) fun l j' o6 => ?_
  · refine retK_d' (by simp) ?_
    rw [List.nil_append]
    exact q
  exfalso
  have := grps_two (ns := p.names) (by have := ok.len; omega)
  simp only [List.nil_append] at l
  omega
end

/-! turns: the law's new names -/
section
variable {h : Hh} {Q : Vl → Hh → Prop} {E : XP} {p : Prg} {x : Str}
theorem wp_lfresh (ok : p.Ok) (q : Q (.d (.list ((fresh p.names).map PyData.str))) h) : Wp (m__law_fresh [.d p.da] h) Q E := by
  have l1 : (p.ins.map PyData.str).length = p.ins.length := List.length_map ..
  have i6 := ok.i6
  have r40 := ok.r40
  refine en__law_fresh ?_
  unfold b__law_fresh
  rw [da_rows]
  walk_at "w"
  refine wp_lcR p.rows (fun r => .tuple [.str r.1, r.2.da]) (fun r => .str r.1) (by walk_at "wipe") ?_
  walk_at "w"
  refine ⟨rfl, by omega, rfl, fun x hx h' => ?_, ?_⟩
  · walk_at "w"
    refine ⟨rfl, ?_⟩
    walk_at "w"
    exact ⟨rfl, rfl⟩
  walk_at "w"
  refine wo_listS (by decide) ?_
  rw [show List.map PyData.str p.ins ++ List.map (fun r => PyData.str r.fst) p.rows = p.names.map PyData.str by unfold Prg.names; rw [List.map_append, List.map_map]; rfl]
  walk_at "w"
  refine wp_lcR LET.cps.toList (fun c => .str ⟨#[c]⟩) (fun c => .str ("a" ++ sg c)) (by walk_at "wipe") ?_
  walk_at "w"
  refine ⟨rfl, by decide, rfl, fun c hc h' => ?_, ?_⟩
  · walk_at "w"
    refine ⟨rfl, ?_⟩
    walk_at "w"
    refine wo_addS (by show 1 + 1 ≤ _; omega) ?_
    exact ⟨rfl, rfl⟩
  walk_at "w"
  refine wp_lcR LET.cps.toList (fun c => .str ⟨#[c]⟩) (fun c => .str ("b" ++ sg c)) (by walk_at "wipe") ?_
  walk_at "w"
  refine ⟨rfl, by decide, rfl, fun c hc h' => ?_, ?_⟩
  · walk_at "w"
    refine ⟨rfl, ?_⟩
    walk_at "w"
    refine wo_addS (by show 1 + 1 ≤ _; omega) ?_
    exact ⟨rfl, rfl⟩
  walk_at "w"
  have ew : sgD "abcdefghijklmnopqrstuvwxyz" ++ List.map (fun c => PyData.str (Str.ofString "a" ++ sg c)) LET.cps.toList ++ List.map (fun c => PyData.str (Str.ofString "b" ++ sg c)) LET.cps.toList = WDS78.map PyData.str := by
    have a : Str.ofString "a" = sg 97 := by decide
    have b : Str.ofString "b" = sg 98 := by decide
    unfold WDS78 sgD
    rw [List.map_append, List.map_append, List.map_map, List.map_map, List.map_map, a, b]
    congr 2
  rw [ew]
  refine wp_lcT WDS78 PyData.str PyData.str (fun x => decide (x ∉ p.names)) (by walk_at "wipe") ?_
  walk_at "w"
  refine ⟨rfl, by rw [wds_len]; decide, rfl, fun x hx h' => ?_, ?_⟩
  · walk_at "w"
    refine ⟨rfl, ?_, fun _ => ?_⟩
    · walk_at "w"
      refine wo_notInF rfl (flat_strs _) ?_
      rw [inF_strs]
      exact ⟨_, rfl, rfl, by show _ = decide _; rw [decide_not]⟩
    · walk_at "w"
      exact ⟨rfl, rfl⟩
  rw [← grps_eq]
  walk_at "w"
  rw [← List.map_take]
  exact q
end

/-! turns: shapes of works, what each turn makes of a row (printed by mktf3.py) -/
inductive WC : Work → Prop
  | num (r : Rat) : WC (.num r)
  | plus (a b : Str) : WC (.op "plus" [a, b])
  | less (a b : Str) : WC (.op "less" [a, b])
  | times (a b : Str) : WC (.op "times" [a, b])
  | over (a b : Str) : WC (.op "over" [a, b])
  | turned (a : Str) : WC (.op "turned" [a])
  | size (a : Str) : WC (.op "size" [a])
  | least (a b : Str) : WC (.op "least" [a, b])
  | most (a b : Str) : WC (.op "most" [a, b])
  | pick (a b c d : Str) : WC (.op "pick" [a, b, c, d])
theorem len1 {xs : List Str} {n : Int} (e : (some (.int n) : Option Da) = some (.int (xs.length : Nat))) (h : n = 1) : ∃ a, xs = [a] := by
  cases e
  match xs, h with
  | [a], _ => exact ⟨a, rfl⟩
theorem len2 {xs : List Str} {n : Int} (e : (some (.int n) : Option Da) = some (.int (xs.length : Nat))) (h : n = 2) : ∃ a b, xs = [a, b] := by
  cases e
  match xs, h with
  | [a, b], _ => exact ⟨a, b, rfl⟩
  | [_], h => simp at h
  | _ :: _ :: _ :: _, h => simp at h; omega
theorem len4 {xs : List Str} {n : Int} (e : (some (.int n) : Option Da) = some (.int (xs.length : Nat))) (h : n = 4) : ∃ a b c d, xs = [a, b, c, d] := by
  cases e
  match xs, h with
  | [a, b, c, d], _ => exact ⟨a, b, c, d, rfl⟩
  | [_], h => simp at h
  | [_, _], h => simp at h
  | [_, _, _], h => simp at h
  | _ :: _ :: _ :: _ :: _ :: _, h => simp at h; omega
theorem wc_of {w : Work} {ns : List Str} (ok : w.Ok ns) : WC w := by
  cases w with
  | num r => exact .num r
  | op o xs =>
    obtain ⟨s, _⟩ := ok
    unfold d_WANTS at s
    simp only [seek] at s
    repeat' split at s
    all_goals first
      | (rename_i h; subst h; obtain ⟨a, b, rfl⟩ := len2 s rfl; constructor)
      | (rename_i h; subst h; obtain ⟨a, rfl⟩ := len1 s rfl; constructor)
      | (rename_i h; subst h; obtain ⟨a, b, c, d, rfl⟩ := len4 s rfl; constructor)
      | cases s

/-! turns: what each turn makes of a row -/
def mkSwap : Work → Option (List Work × Work)
  | .op o [a, b] => if o = "plus" ∨ o = "times" ∨ o = "least" ∨ o = "most" then some ([], .op o [b, a]) else none
  | _ => none
def mkApart (t : Str) : Work → Option (List Work × Work)
  | .op o [a, b] => if o = "less" then some ([.op "turned" [b]], .op "plus" [a, t]) else none
  | _ => none
def mkBack (p : Prg) : Work → Option (List Work × Work)
  | .op o [a, b] => if o = "plus" then (match p.wk? b with
    | some (.op o2 [c]) => if o2 = "turned" then some ([], .op "less" [a, c]) else none
    | _ => none) else none
  | _ => none
def mkLeft (p : Prg) (t : Str) : Work → Option (List Work × Work)
  | .op o [a, b] => if o = "plus" ∨ o = "times" then (match p.wk? b with
    | some (.op o2 [c, d]) => if o2 = o then some ([.op o [a, c]], .op o [t, d]) else none
    | _ => none) else none
  | _ => none
def mkRight (p : Prg) (t : Str) : Work → Option (List Work × Work)
  | .op o [a, b] => if o = "plus" ∨ o = "times" then (match p.wk? a with
    | some (.op o2 [c, d]) => if o2 = o then some ([.op o [d, b]], .op o [c, t]) else none
    | _ => none) else none
  | _ => none
def mkSpread (p : Prg) (t u : Str) : Work → Option (List Work × Work)
  | .op o [a, b] => if o = "times" then (match p.wk? b with
    | some (.op o2 [c, d]) => if o2 = "plus" ∨ o2 = "less" then some ([.op "times" [a, c], .op "times" [a, d]], .op o2 [t, u]) else none
    | _ => none) else none
  | _ => none
def mkG (o : Str) (v1 v2 : Option Work) (t : Str) : Option (List Work × Work) := match v1, v2 with
  | some (.op o1 [a1, a2]), some (.op o2 [b1, b2]) => if o1 = "times" ∧ o2 = "times" ∧ a1 = b1 then some ([.op o [a2, b2]], .op "times" [a1, t]) else none
  | _, _ => none
def mkGather (p : Prg) (t : Str) : Work → Option (List Work × Work)
  | .op o [a, b] => if o = "plus" ∨ o = "less" then mkG o (p.wk? a) (p.wk? b) t else none
  | _ => none
def mkTwice (t : Str) : Work → Option (List Work × Work)
  | .op o [a, b] => if o = "plus" ∧ a = b then some ([.num 2], .op "times" [a, t]) else none
  | _ => none
def isTwo : Option Work → Bool
  | some (.num r) => decide (r = 2)
  | _ => false
def mkOnce (p : Prg) : Work → Option (List Work × Work)
  | .op o [a, b] => if o = "times" ∧ isTwo (p.wk? b) = true then some ([], .op "plus" [a, a]) else none
  | _ => none
def mkR : Option (List Work × Work) → Da
  | none => .none
  | some (ws, w) => .tuple [.list (ws.map Work.da), w.da]
theorem wo_inT {Q : Vl → Hh → Prop} {h : Hh} {a : Da} {bs : List Da} {c : Bool} (e1 : (flatD a && bs.all flatD) = true) (e2 : inF a bs = c) (q : Q (.d (.bool c)) h) : Wo (gIn false (.d a) (.d (.tuple bs)) h) Q :=
  wo_eq (v := .d (.bool c)) (h' := h) (by
    show (if (flatD a && bs.all flatD) = true then some (Vl.d (.bool (if false = true then !inF a bs else inF a bs)), h) else none) = _
    rw [if_pos e1, e2]
    rfl) q
theorem wk_wc {p : Prg} (ok : p.Ok) {x : Str} {w : Work} (e : p.wk? x = some w) : WC w := by
  unfold Prg.wk? at e
  cases ef : p.rows.find? fun r => decide (r.1 = x) with
  | none => rw [ef] at e; cases e
  | some r =>
    rw [ef] at e
    cases e
    obtain ⟨k, hk⟩ := List.getElem?_of_mem (List.mem_of_find?_eq_some ef)
    exact wc_of (ok.wk k r hk)
/-- a row's work or none, by its shape -/
inductive WO : Option Work → Prop
  | no : WO none
  | yes {w : Work} : WC w → WO (some w)
theorem wo_of {p : Prg} (ok : p.Ok) (x : Str) : WO (p.wk? x) := by
  cases e : p.wk? x with
  | none => exact .no
  | some w => exact .yes (wk_wc ok e)
theorem ly_wk {p : Prg} (ok : p.Ok) (x : Str) : Ly true 3 (wkD (p.wk? x)) := by
  cases e : p.wk? x with
  | none => exact Ly.mono (Ly.tup (LyL.cons (Ly.str (by decide +kernel)) .nil)) (by show 1 ≤ 3; decide)
  | some w =>
    unfold Prg.wk? at e
    cases ef : p.rows.find? fun r => decide (r.1 = x) with
    | none => rw [ef] at e; cases e
    | some r =>
      rw [ef] at e
      cases e
      obtain ⟨k, hk⟩ := List.getElem?_of_mem (List.mem_of_find?_eq_some ef)
      have o := ok.wk k r hk
      show Ly true 3 r.2.da
      cases hw : r.2 with
      | num r => exact Ly.mono ly_num (by show 2 ≤ 3; decide)
      | op w xs =>
        rw [hw] at o
        obtain ⟨s1, s2⟩ := o
        have ws := (wants_n s1).1
        refine Ly.mono (Ly.tup (LyL.cons (Ly.str ws) (names_ly fun y hy => ?_))) (by show 1 ≤ 3; decide)
        have h1 := s2 y hy
        refine isNm_ok (ok.nm y ?_)
        rcases List.mem_append.mp h1 with z | z
        · exact List.mem_append.mpr (.inl z)
        · obtain ⟨r', hr, rfl⟩ := List.mem_map.mp z
          exact List.mem_append.mpr (.inr (List.mem_map_of_mem (List.mem_of_mem_take hr)))
theorem two_iff (v : Option Work) : wkD v = .tuple [.str "number", Rk.Q 2] ↔ isTwo v = true := by
  cases v with
  | none => exact ⟨fun e => (by cases e), fun e => (by cases e)⟩
  | some w =>
    cases w with
    | num r =>
      unfold wkD Work.da isTwo
      rw [decide_eq_true_iff]
      constructor
      · intro e
        injection e with e
        injection e with _ e
        injection e with e _
        exact Q_inj e
      · rintro rfl
        rfl
    | op o xs =>
      refine ⟨fun e => ?_, fun e => (by cases e)⟩
      unfold wkD Work.da at e
      injection e with e
      injection e with _ e
      cases xs with
      | nil => cases e
      | cons y ys =>
        injection e with e _
        cases e
theorem wo_two {Q : Vl → Hh → Prop} {h : Hh} {p : Prg} {x : Str} (ok : p.Ok) (q : Q (.d (.bool (isTwo (p.wk? x)))) h) : Wo (gEq (.d (wkD (p.wk? x))) (.d (.tuple [.str "number", Rk.Q 2])) h) Q := by
  refine wo_eqP (ly_wk ok x) ly_num (by decide) (by decide) ?_
  cases hb : isTwo (p.wk? x) with
  | true =>
    rw [hb] at q
    rw [@decide_eq_true _ (Classical.propDecidable _) ((two_iff _).mpr hb)]
    exact q
  | false =>
    rw [hb] at q
    rw [@decide_eq_false _ (Classical.propDecidable _) fun z => by rw [(two_iff _).mp z] at hb; cases hb]
    exact q
theorem wo_two' {Q : Vl → Hh → Prop} {h : Hh} {p : Prg} {x : Str} (ok : p.Ok) (q : Q (.d (.bool (isTwo (p.wk? x)))) h) : Wo (gEq (.d (wkD (p.wk? x))) (.d (.tuple [.str "number", .tuple [.int 2, .int 1]])) h) Q := by
  have e : (PyData.tuple [.int 2, .int 1]) = Rk.Q 2 := Q_lit 2 (by decide +kernel) (by decide +kernel)
  rw [e]
  exact wo_two ok q
section
variable {h : Hh} {Q : Vl → Hh → Prop} {E : XP} {p : Prg} {w : Work} {t u : Str}
local macro_rules | `(tactic| walk_at "woc") => `(tactic| first | refine wo_inT (c := true) (by with_unfolding_all rfl) (by with_unfolding_all decide +kernel) ?_ | refine wo_inT (c := false) (by with_unfolding_all rfl) (by with_unfolding_all decide +kernel) ?_ | (apply wo_two; assumption)| (apply wo_two'; assumption))
local macro_rules | `(tactic| walk_at "wc") => `(tactic| (apply wp_work_at; assumption))
theorem wp_swapped (c : WC w) (q : Q (.d (mkR (mkSwap w))) h) : Wp (m_swapped [.d p.da, .d w.da, .d (.list [.str t, .str u])] h) Q E := by
  refine en_swapped ?_
  unfold b_swapped
  cases c
  all_goals
    simp only [Work.da, List.map_cons, List.map_nil]
    walk_at "w"
    exact q
theorem wp_put_apart (c : WC w) (q : Q (.d (mkR (mkApart t w))) h) : Wp (m_put_apart [.d p.da, .d w.da, .d (.list [.str t, .str u])] h) Q E := by
  refine en_put_apart ?_
  unfold b_put_apart
  cases c
  all_goals
    simp only [Work.da, List.map_cons, List.map_nil]
    walk_at "w"
    exact q
theorem wp_put_back (ok : p.Ok) (c : WC w) (q : Q (.d (mkR (mkBack p w))) h) : Wp (m_put_back [.d p.da, .d w.da, .d (.list [.str t, .str u])] h) Q E := by
  refine en_put_back ?_
  unfold b_put_back
  cases c
  case plus a b =>
    dsimp only [mkBack] at q
    generalize ew : p.wk? b = v at q
    have o : WO v := ew ▸ wo_of ok b
    simp only [Work.da, List.map_cons, List.map_nil]
    walk_at "w"
    rw [ew]
    rcases o with _ | ⟨c2⟩
    · simp only [wkD, noD]
      walk_at "w"
      exact q
    · cases c2
      all_goals
        simp only [wkD, Work.da, List.map_cons, List.map_nil]
        walk_at "w"
        exact q
  all_goals
    simp only [Work.da, List.map_cons, List.map_nil]
    walk_at "w"
    exact q
end

/-! turns: the program's other makers (printed by mktf5.py) -/
theorem wo_notInT {Q : Vl → Hh → Prop} {h : Hh} {a : Da} {bs : List Da} {c : Bool} (e1 : (flatD a && bs.all flatD) = true) (e2 : inF a bs = c) (q : Q (.d (.bool (!c))) h) : Wo (gIn true (.d a) (.d (.tuple bs)) h) Q :=
  wo_eq (v := .d (.bool (!c))) (h' := h) (by
    show (if (flatD a && bs.all flatD) = true then some (Vl.d (.bool (if true = true then !inF a bs else inF a bs)), h) else none) = _
    rw [if_pos e1, e2]
    rfl) q
section
variable {h : Hh} {Q : Vl → Hh → Prop} {E : XP} {p : Prg} {w : Work} {t u : Str}
local macro_rules | `(tactic| walk_at "woc") => `(tactic| first | refine wo_inT (c := true) (by with_unfolding_all rfl) (by with_unfolding_all decide +kernel) ?_ | refine wo_inT (c := false) (by with_unfolding_all rfl) (by with_unfolding_all decide +kernel) ?_ | refine wo_notInT (c := true) (by with_unfolding_all rfl) (by with_unfolding_all decide +kernel) ?_ | refine wo_notInT (c := false) (by with_unfolding_all rfl) (by with_unfolding_all decide +kernel) ?_ | (apply wo_two; assumption)| (apply wo_two'; assumption))
local macro_rules | `(tactic| walk_at "wc") => `(tactic| (apply wp_work_at; assumption))
theorem wp_to_the_left (ok : p.Ok) (c : WC w) (q : Q (.d (mkR (mkLeft p t w))) h) : Wp (m_to_the_left [.d p.da, .d w.da, .d (.list [.str t, .str u])] h) Q E := by
  refine en_to_the_left ?_
  unfold b_to_the_left
  cases c
  case plus a b =>
    dsimp only [mkLeft] at q
    generalize ew : p.wk? b = v at q
    have o : WO v := ew ▸ wo_of ok b
    simp only [Work.da, List.map_cons, List.map_nil]
    walk_at "w"
    rw [ew]
    rcases o with _ | ⟨c2⟩
    · simp only [wkD, noD]
      walk_at "w"
      exact q
    · cases c2
      all_goals
        simp only [wkD, Work.da, List.map_cons, List.map_nil]
        walk_at "w"
        exact q
  case times a b =>
    dsimp only [mkLeft] at q
    generalize ew : p.wk? b = v at q
    have o : WO v := ew ▸ wo_of ok b
    simp only [Work.da, List.map_cons, List.map_nil]
    walk_at "w"
    rw [ew]
    rcases o with _ | ⟨c2⟩
    · simp only [wkD, noD]
      walk_at "w"
      exact q
    · cases c2
      all_goals
        simp only [wkD, Work.da, List.map_cons, List.map_nil]
        walk_at "w"
        exact q
  all_goals
    simp only [Work.da, List.map_cons, List.map_nil]
    walk_at "w"
    exact q
theorem wp_to_the_right (ok : p.Ok) (c : WC w) (q : Q (.d (mkR (mkRight p t w))) h) : Wp (m_to_the_right [.d p.da, .d w.da, .d (.list [.str t, .str u])] h) Q E := by
  refine en_to_the_right ?_
  unfold b_to_the_right
  cases c
  case plus a b =>
    dsimp only [mkRight] at q
    generalize ew : p.wk? a = v at q
    have o : WO v := ew ▸ wo_of ok a
    simp only [Work.da, List.map_cons, List.map_nil]
    walk_at "w"
    rw [ew]
    rcases o with _ | ⟨c2⟩
    · simp only [wkD, noD]
      walk_at "w"
      exact q
    · cases c2
      all_goals
        simp only [wkD, Work.da, List.map_cons, List.map_nil]
        walk_at "w"
        exact q
  case times a b =>
    dsimp only [mkRight] at q
    generalize ew : p.wk? a = v at q
    have o : WO v := ew ▸ wo_of ok a
    simp only [Work.da, List.map_cons, List.map_nil]
    walk_at "w"
    rw [ew]
    rcases o with _ | ⟨c2⟩
    · simp only [wkD, noD]
      walk_at "w"
      exact q
    · cases c2
      all_goals
        simp only [wkD, Work.da, List.map_cons, List.map_nil]
        walk_at "w"
        exact q
  all_goals
    simp only [Work.da, List.map_cons, List.map_nil]
    walk_at "w"
    exact q
theorem wp_spread_out (ok : p.Ok) (c : WC w) (q : Q (.d (mkR (mkSpread p t u w))) h) : Wp (m_spread_out [.d p.da, .d w.da, .d (.list [.str t, .str u])] h) Q E := by
  refine en_spread_out ?_
  unfold b_spread_out
  cases c
  case times a b =>
    dsimp only [mkSpread] at q
    generalize ew : p.wk? b = v at q
    have o : WO v := ew ▸ wo_of ok b
    simp only [Work.da, List.map_cons, List.map_nil]
    walk_at "w"
    rw [ew]
    rcases o with _ | ⟨c2⟩
    · simp only [wkD, noD]
      walk_at "w"
      exact q
    · cases c2
      all_goals
        simp only [wkD, Work.da, List.map_cons, List.map_nil]
        walk_at "w"
        exact q
  all_goals
    simp only [Work.da, List.map_cons, List.map_nil]
    walk_at "w"
    exact q
theorem wp_taken_twice (ok : p.Ok) (c : WC w) (q : Q (.d (mkR (mkTwice t w))) h) : Wp (m_taken_twice [.d p.da, .d w.da, .d (.list [.str t, .str u])] h) Q E := by
  refine en_taken_twice ?_
  unfold b_taken_twice
  cases c
  case plus a b =>
    dsimp only [mkTwice] at q
    simp only [Work.da, List.map_cons, List.map_nil]
    walk_at "w"
    · rename_i e
      rw [if_pos ⟨rfl, e⟩] at q
      exact q
    · rename_i e
      rw [if_neg fun z => e z.2] at q
      exact q
  all_goals
    simp only [Work.da, List.map_cons, List.map_nil]
    walk_at "w"
    exact q
theorem wp_taken_once (ok : p.Ok) (c : WC w) (q : Q (.d (mkR (mkOnce p w))) h) : Wp (m_taken_once [.d p.da, .d w.da, .d (.list [.str t, .str u])] h) Q E := by
  refine en_taken_once ?_
  unfold b_taken_once
  cases c
  case times a b =>
    dsimp only [mkOnce] at q
    simp only [Work.da, List.map_cons, List.map_nil]
    walk_at "w"
    cases e : isTwo (p.wk? b) with
    | true =>
      rw [if_pos ⟨rfl, e⟩] at q
      walk_at "w"
      exact q
    | false =>
      rw [if_neg fun z => by rw [e] at z; cases z.2] at q
      walk_at "w"
      exact q
  all_goals
    simp only [Work.da, List.map_cons, List.map_nil]
    walk_at "w"
    exact q
/-- times of two names, or another word ahead -/
theorem wo_times {v : Option Work} (o : WO v) : (∃ a b, v = some (.op "times" [a, b])) ∨ ∃ (s : Str) (xs : List Da), wkD v = .tuple (.str s :: xs) ∧ s ≠ "times" ∧ ∀ a b, v ≠ some (.op "times" [a, b]) := by
  rcases o with _ | ⟨c⟩
  · exact .inr ⟨_, _, rfl, by decide, fun _ _ e => by cases e⟩
  · cases c
    case times a b => exact .inl ⟨a, b, rfl⟩
    all_goals exact .inr ⟨_, _, rfl, by decide, fun _ _ e => by cases e⟩
theorem mkG_no {o : Str} {v1 v2 : Option Work} {t : Str} (h : (∀ a b, v1 ≠ some (.op "times" [a, b])) ∨ ∀ a b, v2 ≠ some (.op "times" [a, b])) : mkG o v1 v2 t = none := by
  unfold mkG
  split
  · rename_i o1 a1 a2 o2 b1 b2 h
    rw [if_neg]
    rintro ⟨rfl, rfl, _⟩
    rcases h with h | h
    · exact h _ _ rfl
    · exact h _ _ rfl
  · rfl
theorem wp_gathered (ok : p.Ok) (c : WC w) (q : Q (.d (mkR (mkGather p t w))) h) : Wp (m_gathered [.d p.da, .d w.da, .d (.list [.str t, .str u])] h) Q E := by
  refine en_gathered ?_
  unfold b_gathered
  cases c
  case plus a b =>
    dsimp only [mkGather] at q
    rw [if_pos (by decide)] at q
    have o1 := wo_times (wo_of ok a)
    have o2 := wo_times (wo_of ok b)
    simp only [Work.da, List.map_cons, List.map_nil]
    walk_at "w"
    rcases o1 with ⟨a1, a2, e1⟩ | ⟨s1, x1, e1, n1, no1⟩
    · rcases o2 with ⟨b1, b2, e2⟩ | ⟨s2, x2, e2, n2, no2⟩
      · rw [e1, e2] at q
        rw [e1, e2]
        simp only [wkD, Work.da, List.map_cons, List.map_nil]
        walk_at "w"
        · rename_i e
          dsimp only [mkG] at q
          rw [if_pos ⟨rfl, rfl, e⟩] at q
          exact q
        · rename_i e
          dsimp only [mkG] at q
          rw [if_neg fun z => e z.2.2] at q
          exact q
      · rw [mkG_no (.inr no2)] at q
        rw [e1, e2]
        simp only [wkD, Work.da, List.map_cons, List.map_nil]
        walk_at "w"
        exact q
    · rw [mkG_no (.inl no1)] at q
      rw [e1]
      walk_at "w"
      exact q
  case less a b =>
    dsimp only [mkGather] at q
    rw [if_pos (by decide)] at q
    have o1 := wo_times (wo_of ok a)
    have o2 := wo_times (wo_of ok b)
    simp only [Work.da, List.map_cons, List.map_nil]
    walk_at "w"
    rcases o1 with ⟨a1, a2, e1⟩ | ⟨s1, x1, e1, n1, no1⟩
    · rcases o2 with ⟨b1, b2, e2⟩ | ⟨s2, x2, e2, n2, no2⟩
      · rw [e1, e2] at q
        rw [e1, e2]
        simp only [wkD, Work.da, List.map_cons, List.map_nil]
        walk_at "w"
        · rename_i e
          dsimp only [mkG] at q
          rw [if_pos ⟨rfl, rfl, e⟩] at q
          exact q
        · rename_i e
          dsimp only [mkG] at q
          rw [if_neg fun z => e z.2.2] at q
          exact q
      · rw [mkG_no (.inr no2)] at q
        rw [e1, e2]
        simp only [wkD, Work.da, List.map_cons, List.map_nil]
        walk_at "w"
        exact q
    · rw [mkG_no (.inl no1)] at q
      rw [e1]
      walk_at "w"
      exact q
  all_goals
    simp only [Work.da, List.map_cons, List.map_nil]
    walk_at "w"
    exact q
end

/-! turns: which turns fit (printed by mktf6.py) -/
def TW : List Str := ["swap", "apart", "back", "left", "right", "spread", "gather", "twice", "once"]
def mkAll (p : Prg) (w : Work) (t u s : Str) : Option (List Work × Work) :=
  if s = "swap" then mkSwap w else if s = "apart" then mkApart t w else if s = "back" then mkBack p w else if s = "left" then mkLeft p t w else if s = "right" then mkRight p t w
  else if s = "spread" then mkSpread p t u w else if s = "gather" then mkGather p t w else if s = "twice" then mkTwice t w else if s = "once" then mkOnce p w else none
def cut40 (p : Prg) : Option (List Work × Work) → Option (List Work × Work)
  | none => none
  | some (ws, w) => if p.rows.length + ws.length ≤ 40 then some (ws, w) else none
noncomputable def mdBy (p : Prg) (k : Nat) (t u s : Str) : Option (List Work × Work) := cut40 p (mkAll p (p.row k).2 t u s)
theorem mkAll_swap {p : Prg} {w : Work} {t u : Str} : mkAll p w t u "swap" = mkSwap  w := by
  unfold mkAll
  rw [if_pos rfl]
theorem mkAll_apart {p : Prg} {w : Work} {t u : Str} : mkAll p w t u "apart" = mkApart t w := by
  unfold mkAll
  rw [if_neg (by decide)]
  rw [if_pos rfl]
theorem mkAll_back {p : Prg} {w : Work} {t u : Str} : mkAll p w t u "back" = mkBack p w := by
  unfold mkAll
  rw [if_neg (by decide)]
  rw [if_neg (by decide)]
  rw [if_pos rfl]
theorem mkAll_left {p : Prg} {w : Work} {t u : Str} : mkAll p w t u "left" = mkLeft p t w := by
  unfold mkAll
  rw [if_neg (by decide)]
  rw [if_neg (by decide)]
  rw [if_neg (by decide)]
  rw [if_pos rfl]
theorem mkAll_right {p : Prg} {w : Work} {t u : Str} : mkAll p w t u "right" = mkRight p t w := by
  unfold mkAll
  rw [if_neg (by decide)]
  rw [if_neg (by decide)]
  rw [if_neg (by decide)]
  rw [if_neg (by decide)]
  rw [if_pos rfl]
theorem mkAll_spread {p : Prg} {w : Work} {t u : Str} : mkAll p w t u "spread" = mkSpread p t u w := by
  unfold mkAll
  rw [if_neg (by decide)]
  rw [if_neg (by decide)]
  rw [if_neg (by decide)]
  rw [if_neg (by decide)]
  rw [if_neg (by decide)]
  rw [if_pos rfl]
theorem mkAll_gather {p : Prg} {w : Work} {t u : Str} : mkAll p w t u "gather" = mkGather p t w := by
  unfold mkAll
  rw [if_neg (by decide)]
  rw [if_neg (by decide)]
  rw [if_neg (by decide)]
  rw [if_neg (by decide)]
  rw [if_neg (by decide)]
  rw [if_neg (by decide)]
  rw [if_pos rfl]
theorem mkAll_twice {p : Prg} {w : Work} {t u : Str} : mkAll p w t u "twice" = mkTwice t w := by
  unfold mkAll
  rw [if_neg (by decide)]
  rw [if_neg (by decide)]
  rw [if_neg (by decide)]
  rw [if_neg (by decide)]
  rw [if_neg (by decide)]
  rw [if_neg (by decide)]
  rw [if_neg (by decide)]
  rw [if_pos rfl]
theorem mkAll_once {p : Prg} {w : Work} {t u : Str} : mkAll p w t u "once" = mkOnce p w := by
  unfold mkAll
  rw [if_neg (by decide)]
  rw [if_neg (by decide)]
  rw [if_neg (by decide)]
  rw [if_neg (by decide)]
  rw [if_neg (by decide)]
  rw [if_neg (by decide)]
  rw [if_neg (by decide)]
  rw [if_neg (by decide)]
  rw [if_pos rfl]
section
variable {h : Hh} {Q : Vl → Hh → Prop} {E : XP} {p : Prg} {w : Work} {t u s : Str} {k : Nat}
theorem row_wc (ok : p.Ok) (hk : k < p.rows.length) : WC (p.row k).2 := wc_of (ok.wk k _ (row_at hk))
theorem mk_len {v : Option (List Work × Work)} {ws : List Work} {w' : Work} (e : v = some (ws, w')) (i : v = mkAll p w t u s) : ws.length ≤ 2 := by
  have a1 : ∀ {v : Option (List Work × Work)}, v = some (ws, w') → (v = mkSwap w ∨ v = mkApart t w ∨ v = mkBack p w ∨ v = mkLeft p t w ∨ v = mkRight p t w ∨ v = mkSpread p t u w ∨ v = mkGather p t w ∨ v = mkTwice t w ∨ v = mkOnce p w ∨ v = none) → ws.length ≤ 2 := by
    intro v e h
    rw [e] at h
    rcases h with h | h | h | h | h | h | h | h | h | h
    · unfold mkSwap at h
      repeat' split at h
      all_goals (cases h <;> simp)
    · unfold mkApart at h
      repeat' split at h
      all_goals (cases h <;> simp)
    · unfold mkBack at h
      repeat' split at h
      all_goals (cases h <;> simp)
    · unfold mkLeft at h
      repeat' split at h
      all_goals (cases h <;> simp)
    · unfold mkRight at h
      repeat' split at h
      all_goals (cases h <;> simp)
    · unfold mkSpread at h
      repeat' split at h
      all_goals (cases h <;> simp)
    · unfold mkGather mkG at h
      repeat' split at h
      all_goals (cases h <;> simp)
    · unfold mkTwice at h
      repeat' split at h
      all_goals (cases h <;> simp)
    · unfold mkOnce at h
      repeat' split at h
      all_goals (cases h <;> simp)
    · cases h
  refine a1 e ?_
  rw [i]
  unfold mkAll
  repeat' split
  all_goals simp only [true_or, or_true]
theorem ws_fits {N : En → Hh → Prop} {D : Ds} {v : Option (List Work × Work)} {o1 o2 o3 o4 : Option Vl} (e : v = mkAll p w t u s) (l : p.rows.length ≤ 40) (q : D.rt (.d (mkR (cut40 p v))) h) :
    Ws (bt_made_by_2 [some (.d p.da), o1, o2, o3, o4, some (.d (mkR v))] h) N D := by
  have lr : (p.rows.map fun r => PyData.tuple [PyData.str r.1, r.2.da]).length = p.rows.length := List.length_map ..
  rw [da_rows]
  unfold bt_made_by_2
  cases v with
  | none =>
    unfold cut40 at q
    simp only [mkR] at q ⊢
    walk_at "w"
    exact q
  | some z =>
    obtain ⟨ws, w'⟩ := z
    unfold cut40 at q
    have l2 := mk_len (w' := w') rfl e
    have lw : (ws.map Work.da).length = ws.length := List.length_map ..
    simp only [mkR] at q ⊢
    walk_at "w"
    · rename_i c
      rw [lr, lw] at c
      rw [if_neg (by omega)] at q
      exact q
    · rename_i c
      rw [lr, lw] at c
      rw [if_pos (by omega)] at q
      exact q
theorem wp_made_by (ok : p.Ok) (hk : k < p.rows.length) (hs : s ∈ TW) (q : Q (.d (mkR (mdBy p k t u s))) h) : Wp (m_made_by [.d p.da, .d (.int (k : Int)), .d (.str s), .d (.list [.str t, .str u])] h) Q E := by
  have c := row_wc ok hk
  have r40 := ok.r40
  have ew : ∀ {N : Vl → Hh → Prop}, N (.d (.tuple [.str (p.row k).1, (p.row k).2.da])) h → Wo (gIy (.d (.tuple (p.rows.map fun r => PyData.tuple [PyData.str r.1, r.2.da]))) (.d (.int (k : Int))) h) N := fun n => wo_iyT rfl (wo_ixT (rows_at hk) n)
  refine en_made_by ?_
  unfold b_made_by mdBy at *
  simp only [TW, List.mem_cons, List.not_mem_nil, or_false] at hs
  rcases hs with rfl | rfl | rfl | rfl | rfl | rfl | rfl | rfl | rfl
  · walk_at "w"
    refine wp_g1 ?_
    walk_at "w"
    refine wo_ixC rfl ?_
    walk_at "w"
    refine fnk (m := m_swapped) (by rfl) ?_
    rw [da_rows]
    walk_at "w"
    refine ew ?_
    rw [← da_rows]
    walk_at "w"
    refine wp_swapped c ?_
    walk_at "w"
    rw [mkAll_swap] at q
    refine ws_fits (t := t) (u := u) mkAll_swap.symm r40 ?_
    exact retK_d rfl q
  · walk_at "w"
    refine wp_g1 ?_
    walk_at "w"
    refine wo_ixC rfl ?_
    walk_at "w"
    refine fnk (m := m_put_apart) (by rfl) ?_
    rw [da_rows]
    walk_at "w"
    refine ew ?_
    rw [← da_rows]
    walk_at "w"
    refine wp_put_apart c ?_
    walk_at "w"
    rw [mkAll_apart] at q
    refine ws_fits (t := t) (u := u) mkAll_apart.symm r40 ?_
    exact retK_d rfl q
  · walk_at "w"
    refine wp_g1 ?_
    walk_at "w"
    refine wo_ixC rfl ?_
    walk_at "w"
    refine fnk (m := m_put_back) (by rfl) ?_
    rw [da_rows]
    walk_at "w"
    refine ew ?_
    rw [← da_rows]
    walk_at "w"
    refine wp_put_back ok c ?_
    walk_at "w"
    rw [mkAll_back] at q
    refine ws_fits (t := t) (u := u) mkAll_back.symm r40 ?_
    exact retK_d rfl q
  · walk_at "w"
    refine wp_g1 ?_
    walk_at "w"
    refine wo_ixC rfl ?_
    walk_at "w"
    refine fnk (m := m_to_the_left) (by rfl) ?_
    rw [da_rows]
    walk_at "w"
    refine ew ?_
    rw [← da_rows]
    walk_at "w"
    refine wp_to_the_left ok c ?_
    walk_at "w"
    rw [mkAll_left] at q
    refine ws_fits (t := t) (u := u) mkAll_left.symm r40 ?_
    exact retK_d rfl q
  · walk_at "w"
    refine wp_g1 ?_
    walk_at "w"
    refine wo_ixC rfl ?_
    walk_at "w"
    refine fnk (m := m_to_the_right) (by rfl) ?_
    rw [da_rows]
    walk_at "w"
    refine ew ?_
    rw [← da_rows]
    walk_at "w"
    refine wp_to_the_right ok c ?_
    walk_at "w"
    rw [mkAll_right] at q
    refine ws_fits (t := t) (u := u) mkAll_right.symm r40 ?_
    exact retK_d rfl q
  · walk_at "w"
    refine wp_g1 ?_
    walk_at "w"
    refine wo_ixC rfl ?_
    walk_at "w"
    refine fnk (m := m_spread_out) (by rfl) ?_
    rw [da_rows]
    walk_at "w"
    refine ew ?_
    rw [← da_rows]
    walk_at "w"
    refine wp_spread_out ok c ?_
    walk_at "w"
    rw [mkAll_spread] at q
    refine ws_fits (t := t) (u := u) mkAll_spread.symm r40 ?_
    exact retK_d rfl q
  · walk_at "w"
    refine wp_g1 ?_
    walk_at "w"
    refine wo_ixC rfl ?_
    walk_at "w"
    refine fnk (m := m_gathered) (by rfl) ?_
    rw [da_rows]
    walk_at "w"
    refine ew ?_
    rw [← da_rows]
    walk_at "w"
    refine wp_gathered ok c ?_
    walk_at "w"
    rw [mkAll_gather] at q
    refine ws_fits (t := t) (u := u) mkAll_gather.symm r40 ?_
    exact retK_d rfl q
  · walk_at "w"
    refine wp_g1 ?_
    walk_at "w"
    refine wo_ixC rfl ?_
    walk_at "w"
    refine fnk (m := m_taken_twice) (by rfl) ?_
    rw [da_rows]
    walk_at "w"
    refine ew ?_
    rw [← da_rows]
    walk_at "w"
    refine wp_taken_twice ok c ?_
    walk_at "w"
    rw [mkAll_twice] at q
    refine ws_fits (t := t) (u := u) mkAll_twice.symm r40 ?_
    exact retK_d rfl q
  · walk_at "w"
    refine wp_g1 ?_
    walk_at "w"
    refine wo_ixC rfl ?_
    walk_at "w"
    refine fnk (m := m_taken_once) (by rfl) ?_
    rw [da_rows]
    walk_at "w"
    refine ew ?_
    rw [← da_rows]
    walk_at "w"
    refine wp_taken_once ok c ?_
    walk_at "w"
    rw [mkAll_once] at q
    refine ws_fits (t := t) (u := u) mkAll_once.symm r40 ?_
    exact retK_d rfl q
end

/-! turns: the law's own look at a row (printed by mktf7.py) -/
def lf? (p : Prg) : Work → Option Work
  | .op _ (a :: _) => p.wk? a
  | _ => none
def rg? (p : Prg) : Work → Option Work
  | .op _ (_ :: b :: _) => p.wk? b
  | _ => none
theorem wo_eq2S {Q : Vl → Hh → Prop} {h : Hh} {a b c d : Str} (ha : PyData.strOk a = true) (hb : PyData.strOk b = true) (hc : PyData.strOk c = true) (hd : PyData.strOk d = true) (q : Q (.d (.bool (decide (a = c) && decide (b = d)))) h) : Wo (gEq (.d (.tuple [.str a, .str b])) (.d (.tuple [.str c, .str d])) h) Q := by
  refine wo_eqP (Ly.tup (LyL.cons (Ly.str ha) (LyL.cons (Ly.str hb) .nil))) (Ly.tup (LyL.cons (Ly.str hc) (LyL.cons (Ly.str hd) .nil))) (by decide) (by decide) ?_
  by_cases e : a = c ∧ b = d
  · obtain ⟨rfl, rfl⟩ := e
    rw [decide_eq_true rfl, decide_eq_true rfl] at q
    rw [@decide_eq_true _ (Classical.propDecidable _) rfl]
    exact q
  · rw [@decide_eq_false _ (Classical.propDecidable _) fun z => by injection z with z; injection z with z1 z; injection z with z2 z; cases z1; cases z2; exact e ⟨rfl, rfl⟩]
    have : (decide (a = c) && decide (b = d)) = false := by
      rw [Bool.and_eq_false_iff]
      by_cases h1 : a = c
      · exact .inr (decide_eq_false fun z => e ⟨h1, z⟩)
      · exact .inl (decide_eq_false h1)
    rw [this] at q
    exact q
/-- a word stands ahead -/
theorem wo_head {v : Option Work} (o : WO v) : ∃ (s : Str) (xs : List Da), wkD v = .tuple (.str s :: xs) ∧ PyData.strOk s = true := by
  rcases o with _ | ⟨c⟩
  · exact ⟨_, _, rfl, by decide +kernel⟩
  · cases c
    all_goals exact ⟨_, _, rfl, by decide +kernel⟩
section
variable {h : Hh} {Q : Vl → Hh → Prop} {E : XP} {p : Prg} {w : Work} {t u s : Str} {k : Nat} {N : En → Hh → Prop} {D : Ds} {o0 o1 o3 : Option Vl}
local macro_rules | `(tactic| walk_at "woc") => `(tactic| first | refine wo_inT (c := true) (by with_unfolding_all rfl) (by with_unfolding_all decide +kernel) ?_ | refine wo_inT (c := false) (by with_unfolding_all rfl) (by with_unfolding_all decide +kernel) ?_ | (apply wo_two; assumption)| (apply wo_two'; assumption)| (apply wo_eq2S; exact (by first | assumption | with_unfolding_all decide +kernel); exact (by first | assumption | with_unfolding_all decide +kernel); exact (by with_unfolding_all decide +kernel); exact (by with_unfolding_all decide +kernel)))
theorem lm_swap (ok : p.Ok) (c : WC w) (q : D.rt (.d (mkR (mkSwap  w))) h) : Ws (bt__law_made_4 [o0, o1, some (.d (.str "swap")), o3, some (.d w.da), some (.d (wkD (lf? p w))), some (.d (wkD (rg? p w))), some (.d (.str t)), some (.d (.str u))] h) N D := by
  unfold bt__law_made_4
  cases c
  all_goals
    simp only [Work.da, List.map_cons, List.map_nil]
    walk_at "w"
    exact q
theorem lm_apart (ok : p.Ok) (c : WC w) (q : D.rt (.d (mkR (mkApart t w))) h) : Ws (bt__law_made_4 [o0, o1, some (.d (.str "apart")), o3, some (.d w.da), some (.d (wkD (lf? p w))), some (.d (wkD (rg? p w))), some (.d (.str t)), some (.d (.str u))] h) N D := by
  unfold bt__law_made_4
  cases c
  all_goals
    simp only [Work.da, List.map_cons, List.map_nil]
    walk_at "w"
    exact q
theorem lm_back (ok : p.Ok) (c : WC w) (q : D.rt (.d (mkR (mkBack p w))) h) : Ws (bt__law_made_4 [o0, o1, some (.d (.str "back")), o3, some (.d w.da), some (.d (wkD (lf? p w))), some (.d (wkD (rg? p w))), some (.d (.str t)), some (.d (.str u))] h) N D := by
  unfold bt__law_made_4
  cases c
  case plus a b =>
    dsimp only [mkBack] at q
    dsimp only [lf?, rg?]
    generalize ew : p.wk? b = v at q ⊢
    have o : WO v := ew ▸ wo_of ok b
    rcases o with _ | ⟨c2⟩
    · simp only [wkD, noD, Work.da, List.map_cons, List.map_nil]
      walk_at "w"
      exact q
    · cases c2
      all_goals
        simp only [wkD, Work.da, List.map_cons, List.map_nil]
        walk_at "w"
        exact q
  case less a b =>
    obtain ⟨s0, x0, e0, k0⟩ := wo_head (wo_of ok b)
    dsimp only [lf?, rg?]
    rw [e0]
    simp only [Work.da, List.map_cons, List.map_nil]
    walk_at "w"
    exact q
  case times a b =>
    obtain ⟨s0, x0, e0, k0⟩ := wo_head (wo_of ok b)
    dsimp only [lf?, rg?]
    rw [e0]
    simp only [Work.da, List.map_cons, List.map_nil]
    walk_at "w"
    exact q
  case over a b =>
    obtain ⟨s0, x0, e0, k0⟩ := wo_head (wo_of ok b)
    dsimp only [lf?, rg?]
    rw [e0]
    simp only [Work.da, List.map_cons, List.map_nil]
    walk_at "w"
    exact q
  case least a b =>
    obtain ⟨s0, x0, e0, k0⟩ := wo_head (wo_of ok b)
    dsimp only [lf?, rg?]
    rw [e0]
    simp only [Work.da, List.map_cons, List.map_nil]
    walk_at "w"
    exact q
  case most a b =>
    obtain ⟨s0, x0, e0, k0⟩ := wo_head (wo_of ok b)
    dsimp only [lf?, rg?]
    rw [e0]
    simp only [Work.da, List.map_cons, List.map_nil]
    walk_at "w"
    exact q
  case pick a b c d =>
    obtain ⟨s0, x0, e0, k0⟩ := wo_head (wo_of ok b)
    dsimp only [lf?, rg?]
    rw [e0]
    simp only [Work.da, List.map_cons, List.map_nil]
    walk_at "w"
    exact q
  all_goals
    dsimp only [lf?, rg?]
    simp only [wkD, noD, Work.da, List.map_cons, List.map_nil]
    walk_at "w"
    exact q
end

/-! turns: the law's own look at a row, further (printed by mktf7.py) -/
section
variable {h : Hh} {Q : Vl → Hh → Prop} {E : XP} {p : Prg} {w : Work} {t u s : Str} {k : Nat} {N : En → Hh → Prop} {D : Ds} {o0 o1 o3 : Option Vl}
local macro_rules | `(tactic| walk_at "woc") => `(tactic| first | refine wo_inT (c := true) (by with_unfolding_all rfl) (by with_unfolding_all decide +kernel) ?_ | refine wo_inT (c := false) (by with_unfolding_all rfl) (by with_unfolding_all decide +kernel) ?_ | (apply wo_two; assumption)| (apply wo_two'; assumption)| (apply wo_eq2S; exact (by first | assumption | with_unfolding_all decide +kernel); exact (by first | assumption | with_unfolding_all decide +kernel); exact (by with_unfolding_all decide +kernel); exact (by with_unfolding_all decide +kernel)))
theorem lm_left (ok : p.Ok) (c : WC w) (q : D.rt (.d (mkR (mkLeft p t w))) h) : Ws (bt__law_made_4 [o0, o1, some (.d (.str "left")), o3, some (.d w.da), some (.d (wkD (lf? p w))), some (.d (wkD (rg? p w))), some (.d (.str t)), some (.d (.str u))] h) N D := by
  unfold bt__law_made_4
  cases c
  case plus a b =>
    dsimp only [mkLeft] at q
    dsimp only [lf?, rg?]
    generalize ew : p.wk? b = v at q ⊢
    have o : WO v := ew ▸ wo_of ok b
    rcases o with _ | ⟨c2⟩
    · simp only [wkD, noD, Work.da, List.map_cons, List.map_nil]
      walk_at "w"
      exact q
    · cases c2
      all_goals
        simp only [wkD, Work.da, List.map_cons, List.map_nil]
        walk_at "w"
        exact q
  case times a b =>
    dsimp only [mkLeft] at q
    dsimp only [lf?, rg?]
    generalize ew : p.wk? b = v at q ⊢
    have o : WO v := ew ▸ wo_of ok b
    rcases o with _ | ⟨c2⟩
    · simp only [wkD, noD, Work.da, List.map_cons, List.map_nil]
      walk_at "w"
      exact q
    · cases c2
      all_goals
        simp only [wkD, Work.da, List.map_cons, List.map_nil]
        walk_at "w"
        exact q
  all_goals
    simp only [Work.da, List.map_cons, List.map_nil]
    walk_at "w"
    exact q
theorem lm_right (ok : p.Ok) (c : WC w) (q : D.rt (.d (mkR (mkRight p t w))) h) : Ws (bt__law_made_4 [o0, o1, some (.d (.str "right")), o3, some (.d w.da), some (.d (wkD (lf? p w))), some (.d (wkD (rg? p w))), some (.d (.str t)), some (.d (.str u))] h) N D := by
  unfold bt__law_made_4
  cases c
  case plus a b =>
    dsimp only [mkRight] at q
    dsimp only [lf?, rg?]
    generalize ew : p.wk? a = v at q ⊢
    have o : WO v := ew ▸ wo_of ok a
    rcases o with _ | ⟨c2⟩
    · simp only [wkD, noD, Work.da, List.map_cons, List.map_nil]
      walk_at "w"
      exact q
    · cases c2
      all_goals
        simp only [wkD, Work.da, List.map_cons, List.map_nil]
        walk_at "w"
        exact q
  case times a b =>
    dsimp only [mkRight] at q
    dsimp only [lf?, rg?]
    generalize ew : p.wk? a = v at q ⊢
    have o : WO v := ew ▸ wo_of ok a
    rcases o with _ | ⟨c2⟩
    · simp only [wkD, noD, Work.da, List.map_cons, List.map_nil]
      walk_at "w"
      exact q
    · cases c2
      all_goals
        simp only [wkD, Work.da, List.map_cons, List.map_nil]
        walk_at "w"
        exact q
  all_goals
    simp only [Work.da, List.map_cons, List.map_nil]
    walk_at "w"
    exact q
end

/-! turns: the law's own look at a row, further (printed by mktf7.py) -/
section
variable {h : Hh} {Q : Vl → Hh → Prop} {E : XP} {p : Prg} {w : Work} {t u s : Str} {k : Nat} {N : En → Hh → Prop} {D : Ds} {o0 o1 o3 : Option Vl}
local macro_rules | `(tactic| walk_at "woc") => `(tactic| first | refine wo_inT (c := true) (by with_unfolding_all rfl) (by with_unfolding_all decide +kernel) ?_ | refine wo_inT (c := false) (by with_unfolding_all rfl) (by with_unfolding_all decide +kernel) ?_ | (apply wo_two; assumption)| (apply wo_two'; assumption)| (apply wo_eq2S; exact (by first | assumption | with_unfolding_all decide +kernel); exact (by first | assumption | with_unfolding_all decide +kernel); exact (by with_unfolding_all decide +kernel); exact (by with_unfolding_all decide +kernel)))
theorem lm_spread (ok : p.Ok) (c : WC w) (q : D.rt (.d (mkR (mkSpread p t u w))) h) : Ws (bt__law_made_4 [o0, o1, some (.d (.str "spread")), o3, some (.d w.da), some (.d (wkD (lf? p w))), some (.d (wkD (rg? p w))), some (.d (.str t)), some (.d (.str u))] h) N D := by
  unfold bt__law_made_4
  cases c
  case times a b =>
    dsimp only [mkSpread] at q
    dsimp only [lf?, rg?]
    generalize ew : p.wk? b = v at q ⊢
    have o : WO v := ew ▸ wo_of ok b
    rcases o with _ | ⟨c2⟩
    · simp only [wkD, noD, Work.da, List.map_cons, List.map_nil]
      walk_at "w"
      exact q
    · cases c2
      all_goals
        simp only [wkD, Work.da, List.map_cons, List.map_nil]
        walk_at "w"
        exact q
  all_goals
    simp only [Work.da, List.map_cons, List.map_nil]
    walk_at "w"
    exact q
theorem lm_gather (ok : p.Ok) (c : WC w) (q : D.rt (.d (mkR (mkGather p t w))) h) : Ws (bt__law_made_4 [o0, o1, some (.d (.str "gather")), o3, some (.d w.da), some (.d (wkD (lf? p w))), some (.d (wkD (rg? p w))), some (.d (.str t)), some (.d (.str u))] h) N D := by
  unfold bt__law_made_4
  cases c
  case plus a b =>
    dsimp only [mkGather] at q
    rw [if_pos (by decide)] at q
    dsimp only [lf?, rg?]
    have o1 := wo_times (wo_of ok a)
    have o2 := wo_times (wo_of ok b)
    obtain ⟨s1', x1', e1', k1⟩ := wo_head (wo_of ok a)
    obtain ⟨s2', x2', e2', k2⟩ := wo_head (wo_of ok b)
    simp only [Work.da, List.map_cons, List.map_nil]
    rcases o1 with ⟨a1, a2, e1⟩ | ⟨s1, x1, e1, n1, no1⟩
    · rcases o2 with ⟨b1, b2, e2⟩ | ⟨s2, x2, e2, n2, no2⟩
      · rw [e1, e2] at q
        rw [e1, e2]
        simp only [wkD, Work.da, List.map_cons, List.map_nil]
        walk_at "w"
        · rename_i e
          dsimp only [mkG] at q
          rw [if_pos ⟨rfl, rfl, e⟩] at q
          exact q
        · rename_i e
          dsimp only [mkG] at q
          rw [if_neg fun z => e z.2.2] at q
          exact q
      · rw [mkG_no (.inr no2)] at q
        rw [e2] at e2'
        cases e2'
        rw [e1, e2]
        simp only [wkD, Work.da, List.map_cons, List.map_nil]
        walk_at "w"
        exact q
    · rw [mkG_no (.inl no1)] at q
      rw [e1] at e1'
      cases e1'
      rw [e1, e2']
      walk_at "w"
      exact q
  case less a b =>
    dsimp only [mkGather] at q
    rw [if_pos (by decide)] at q
    dsimp only [lf?, rg?]
    have o1 := wo_times (wo_of ok a)
    have o2 := wo_times (wo_of ok b)
    obtain ⟨s1', x1', e1', k1⟩ := wo_head (wo_of ok a)
    obtain ⟨s2', x2', e2', k2⟩ := wo_head (wo_of ok b)
    simp only [Work.da, List.map_cons, List.map_nil]
    rcases o1 with ⟨a1, a2, e1⟩ | ⟨s1, x1, e1, n1, no1⟩
    · rcases o2 with ⟨b1, b2, e2⟩ | ⟨s2, x2, e2, n2, no2⟩
      · rw [e1, e2] at q
        rw [e1, e2]
        simp only [wkD, Work.da, List.map_cons, List.map_nil]
        walk_at "w"
        · rename_i e
          dsimp only [mkG] at q
          rw [if_pos ⟨rfl, rfl, e⟩] at q
          exact q
        · rename_i e
          dsimp only [mkG] at q
          rw [if_neg fun z => e z.2.2] at q
          exact q
      · rw [mkG_no (.inr no2)] at q
        rw [e2] at e2'
        cases e2'
        rw [e1, e2]
        simp only [wkD, Work.da, List.map_cons, List.map_nil]
        walk_at "w"
        exact q
    · rw [mkG_no (.inl no1)] at q
      rw [e1] at e1'
      cases e1'
      rw [e1, e2']
      walk_at "w"
      exact q
  all_goals
    simp only [Work.da, List.map_cons, List.map_nil]
    walk_at "w"
    exact q
end

/-! turns: the law's own look at a row, further (printed by mktf7.py) -/
section
variable {h : Hh} {Q : Vl → Hh → Prop} {E : XP} {p : Prg} {w : Work} {t u s : Str} {k : Nat} {N : En → Hh → Prop} {D : Ds} {o0 o1 o3 : Option Vl}
local macro_rules | `(tactic| walk_at "woc") => `(tactic| first | refine wo_inT (c := true) (by with_unfolding_all rfl) (by with_unfolding_all decide +kernel) ?_ | refine wo_inT (c := false) (by with_unfolding_all rfl) (by with_unfolding_all decide +kernel) ?_ | (apply wo_two; assumption)| (apply wo_two'; assumption)| (apply wo_eq2S; exact (by first | assumption | with_unfolding_all decide +kernel); exact (by first | assumption | with_unfolding_all decide +kernel); exact (by with_unfolding_all decide +kernel); exact (by with_unfolding_all decide +kernel)))
theorem lm_twice (ok : p.Ok) (c : WC w) (q : D.rt (.d (mkR (mkTwice t w))) h) : Ws (bt__law_made_4 [o0, o1, some (.d (.str "twice")), o3, some (.d w.da), some (.d (wkD (lf? p w))), some (.d (wkD (rg? p w))), some (.d (.str t)), some (.d (.str u))] h) N D := by
  unfold bt__law_made_4
  cases c
  case plus a b =>
    dsimp only [mkTwice] at q
    simp only [Work.da, List.map_cons, List.map_nil]
    walk_at "w"
    · rename_i e
      rw [if_pos ⟨rfl, e⟩] at q
      exact q
    · rename_i e
      rw [if_neg fun z => e z.2] at q
      exact q
  all_goals
    simp only [Work.da, List.map_cons, List.map_nil]
    walk_at "w"
    exact q
theorem lm_once (ok : p.Ok) (c : WC w) (q : D.rt (.d (mkR (mkOnce p w))) h) : Ws (bt__law_made_4 [o0, o1, some (.d (.str "once")), o3, some (.d w.da), some (.d (wkD (lf? p w))), some (.d (wkD (rg? p w))), some (.d (.str t)), some (.d (.str u))] h) N D := by
  unfold bt__law_made_4
  cases c
  case times a b =>
    dsimp only [mkOnce] at q
    simp only [Work.da, List.map_cons, List.map_nil]
    dsimp only [lf?, rg?]
    walk_at "w"
    cases e : isTwo (p.wk? b) with
    | true =>
      rw [if_pos ⟨rfl, e⟩] at q
      walk_at "w"
      exact q
    | false =>
      rw [if_neg fun z => by rw [e] at z; cases z.2] at q
      walk_at "w"
      exact q
  all_goals
    simp only [Work.da, List.map_cons, List.map_nil]
    walk_at "w"
    exact q
end

/-! turns: all that fit (printed by mktf8.py) -/
noncomputable def allT (p : Prg) (t u : Str) (n : Nat) : List (Nat × Str) := (List.range n).flatMap fun k => (TW.filter fun s => (mdBy p k t u s).isSome).map fun s => (k, s)
def tnD (z : Nat × Str) : Da := .tuple [.int (z.1 : Nat), .str z.2]
theorem allT_succ (p : Prg) (t u : Str) (n : Nat) : allT p t u (n + 1) = allT p t u n ++ (TW.filter fun s => (mdBy p n t u s).isSome).map fun s => (n, s) := by
  unfold allT
  rw [List.range_succ, List.flatMap_append, List.flatMap_singleton]
theorem allT_len (p : Prg) (t u : Str) (n : Nat) : (allT p t u n).length ≤ 9 * n := by
  induction n with
  | zero => simp [allT]
  | succ n ih =>
    rw [allT_succ, List.length_append, List.length_map]
    have := List.length_filter_le (fun s => (mdBy p n t u s).isSome) TW
    have : TW.length = 9 := rfl
    omega
section
variable {h : Hh} {Q : Vl → Hh → Prop} {E : XP} {p : Prg} {w : Work} {t u s : Str} {k : Nat} {N : En → Hh → Prop} {D : Ds} {o0 o1 o3 : Option Vl}
local macro_rules | `(tactic| walk_at "wc") => `(tactic| (apply wp_lwork_at; assumption))
theorem wp_lmade0 (ok : p.Ok) (hk : k < p.rows.length) (q : Ws (bt__law_made_4 [some (.d p.da), some (.d (.int (k : Int))), some (.d (.str s)), some (.d (.list [.str t, .str u])), some (.d (p.row k).2.da), some (.d (wkD (lf? p (p.row k).2))), some (.d (wkD (rg? p (p.row k).2))), some (.d (.str t)), some (.d (.str u))] h) (fun _ h1 => RetK h.length Q (.d .none) h1) ⟨RetK h.length Q, fun _ _ => False, fun _ _ => False, fun c fs _ h1 => E c fs (h1.take h.length)⟩) :
    Wp (m__law_made [.d p.da, .d (.int (k : Int)), .d (.str s), .d (.list [.str t, .str u])] h) Q E := by
  have c := row_wc ok hk
  have ew : ∀ {N : Vl → Hh → Prop}, N (.d (.tuple [.str (p.row k).1, (p.row k).2.da])) h → Wo (gIy (.d (.tuple (p.rows.map fun r => PyData.tuple [PyData.str r.1, r.2.da]))) (.d (.int (k : Int))) h) N := fun n => wo_iyT rfl (wo_ixT (rows_at hk) n)
  refine en__law_made ?_
  unfold b__law_made
  rw [da_rows]
  walk_at "w"
  refine ew ?_
  rw [← da_rows]
  walk_at "w"
  generalize (p.row k).2 = w at *
  cases c
  all_goals
    simp only [Work.da, List.map_cons, List.map_nil] at *
    walk_at "w"
    exact q
theorem wp_lmade (ok : p.Ok) (hk : k < p.rows.length) (hs : s ∈ TW) (q : Q (.d (mkR (mkAll p (p.row k).2 t u s))) h) : Wp (m__law_made [.d p.da, .d (.int (k : Int)), .d (.str s), .d (.list [.str t, .str u])] h) Q E := by
  have c := row_wc ok hk
  refine wp_lmade0 ok hk ?_
  simp only [TW, List.mem_cons, List.not_mem_nil, or_false] at hs
  rcases hs with rfl | rfl | rfl | rfl | rfl | rfl | rfl | rfl | rfl
  · rw [mkAll_swap] at q
    exact lm_swap ok c (retK_d rfl q)
  · rw [mkAll_apart] at q
    exact lm_apart ok c (retK_d rfl q)
  · rw [mkAll_back] at q
    exact lm_back ok c (retK_d rfl q)
  · rw [mkAll_left] at q
    exact lm_left ok c (retK_d rfl q)
  · rw [mkAll_right] at q
    exact lm_right ok c (retK_d rfl q)
  · rw [mkAll_spread] at q
    exact lm_spread ok c (retK_d rfl q)
  · rw [mkAll_gather] at q
    exact lm_gather ok c (retK_d rfl q)
  · rw [mkAll_twice] at q
    exact lm_twice ok c (retK_d rfl q)
  · rw [mkAll_once] at q
    exact lm_once ok c (retK_d rfl q)
end

/-! turns: all that fit, told by both -/
section
variable {h : Hh} {Q : Vl → Hh → Prop} {E : XP} {p : Prg} {t u s : Str} {k : Nat}
theorem wp_lall (ok : p.Ok) (ef : fresh p.names = [t, u]) (q : Q (.d (.list ((allT p t u p.rows.length).map tnD))) h) : Wp (m__law_all_turns [.d p.da] h) Q E := by
  have lr : (p.rows.map fun r => PyData.tuple [PyData.str r.1, r.2.da]).length = p.rows.length := List.length_map ..
  have r40 := ok.r40
  refine en__law_all_turns ?_
  unfold b__law_all_turns bl__law_all_turns_2 bl__law_all_turns_1
  walk_at "w"
  refine wp_lfresh ok ?_
  rw [ef]
  rw [da_rows]
  walk_at "w"
  rw [lr]
  rw [← da_rows]
  walk_at "w"
  refine forK_inv (I := fun k ρ1 hh => ∃ a4 a5 a6 j, ρ1 = [some (.d p.da), some (.d (.list (TW.map PyData.str))), some (.d (.list [.str t, .str u])), some (.r h.length), a4, a5, a6] ∧ hh = h ++ some (.lst ((allT p t u k).map tnD)) :: j) ⟨_, _, _, _, rfl, rfl⟩ ?_ ?_
  · rintro k d ρ1 hh ed ⟨a4, a5, a6, j, rfl, rfl⟩
    obtain ⟨hk, rfl⟩ := rng_getI ed
    have al := allT_len p t u k
    walk_at "w"
    refine forK_inv (I := fun i ρ1 hh => ∃ a5 a6 j, ρ1 = [some (.d p.da), some (.d (.list (TW.map PyData.str))), some (.d (.list [.str t, .str u])), some (.r h.length), some (.d (.int (k : Int))), a5, a6] ∧ hh = h ++ some (.lst ((allT p t u k ++ ((TW.take i).filter fun s => (mdBy p k t u s).isSome).map fun s => (k, s)).map tnD)) :: j) ⟨_, _, j, rfl, by simp⟩ ?_ ?_
    · rintro i d ρ1 hh ed ⟨a5, a6, j, rfl, rfl⟩
      obtain ⟨s, es, rfl⟩ : ∃ s, TW[i]? = some s ∧ d = .str s := by
        rw [List.getElem?_map] at ed
        cases e : TW[i]? with
        | none => rw [e] at ed; cases ed
        | some s => rw [e] at ed; cases ed; exact ⟨s, rfl, rfl⟩
      have hs : s ∈ TW := List.mem_of_getElem? es
      have tk : TW.take (i + 1) = TW.take i ++ [s] := by rw [List.take_add_one, es]; rfl
      have tl := List.length_filter_le (fun s => (mdBy p k t u s).isSome) (TW.take i)
      have tl2 : (TW.take i).length ≤ 9 := by rw [List.length_take]; exact Nat.min_le_right _ _
      walk_at "w"
      refine wp_lmade ok hk hs ?_
      walk_at "w"
      rw [tk, List.filter_append]
      cases e : mkAll p (p.row k).2 t u s with
      | none =>
        have m : (mdBy p k t u s).isSome = false := by unfold mdBy; rw [e]; rfl
        rw [List.filter_cons_of_neg (by rw [m]; decide), List.filter_nil, List.append_nil]
        simp only [mkR]
        walk_at "w"
        exact ⟨_, _, j, rfl, rfl⟩
      | some z =>
        obtain ⟨ws, w'⟩ := z
        have l2 := mk_len (w := (p.row k).2) (w' := w') rfl e.symm
        have lw : (ws.map Work.da).length = ws.length := List.length_map ..
        simp only [mkR]
        rw [da_rows]
        walk_at "w"
        · rename_i c
          rw [lr, lw] at c
          have m : (mdBy p k t u s).isSome = true := by unfold mdBy cut40; rw [e]; dsimp only; rw [if_pos (by omega)]; rfl
          rw [List.filter_cons_of_pos (by rw [m]), List.filter_nil]
          refine ⟨_, _, j, rfl, ?_⟩
          simp only [List.map_append, List.map_cons, List.map_nil, List.append_assoc]
          rfl
        · rename_i c
          rw [lr, lw] at c
          have m : (mdBy p k t u s).isSome = false := by unfold mdBy cut40; rw [e]; dsimp only; rw [if_neg (by omega)]; rfl
          rw [List.filter_cons_of_neg (by rw [m]; decide), List.filter_nil, List.append_nil]
          exact ⟨_, _, j, rfl, rfl⟩
    · rintro ρ1 hh ⟨a5, a6, j, rfl, rfl⟩
      walk_at "w"
      refine ⟨_, _, _, j, rfl, ?_⟩
      rw [allT_succ, List.length_map, List.take_length]
  · rintro ρ1 hh ⟨a4, a5, a6, j, rfl, rfl⟩
    walk_at "w"
    rw [show (rngD 0 ((p.rows.length : Nat) : Int).toNat).length = p.rows.length by simp [rngD]]
    exact q
end

/-! programs as texts: their sizes -/
theorem let_small : ∀ c ∈ LET.cps.toList, c < 16 ^ 8 := by decide +kernel
theorem isNm_shw {x : Str} (e : isNm x = true) : ShW 62 0 (.str x) := by
  have l := isNm_len e
  unfold isNm at e
  rw [Bool.and_eq_true, List.all_eq_true] at e
  exact (ShW.str fun c hc => let_small c (of_decide_eq_true (e.2 c hc))).mono (by omega) (Nat.le_refl _)
theorem wants_nm {w : Str} {d : Da} (e : seek d_WANTS w = some d) : isNm w = true := by
  have all : ∀ p ∈ d_WANTS, isNm p.1 = true := by decide +kernel
  exact all _ (seek_mem e)
theorem work_shw {w : Work} {ns : List Str} (ok : w.Ok ns) (nm : ∀ x ∈ ns, isNm x = true) : ShW 9100 2 w.da := by
  cases w with
  | num r =>
    have t := ShW.tup (ShWs.cons (isNm_shw (show isNm "number" = true by decide +kernel)) (ShWs.cons (ShW.Q ok.1 ok.2) ShWs.nil))
    exact t.mono (by decide) (by decide)
  | op w xs =>
    obtain ⟨w1, w2, w3, w4⟩ := wants_n ok.1
    have t := ShW.tup (ShWs.cons (isNm_shw (wants_nm ok.1)) (ShWs.of (n := 4) (ds := xs.map PyData.str) (fun d hd => by
      obtain ⟨x, hx, rfl⟩ := List.mem_map.mp hd
      exact isNm_shw (nm x (ok.2 x hx))) (by rw [List.length_map]; exact w3)))
    exact t.mono (by decide) (by decide)
def Prg.daT (p : Prg) : Da := .tuple [.tuple (p.ins.map PyData.str), .tuple (p.rows.map fun r => .tuple [.str r.1, r.2.da])]
theorem prg_shw {p : Prg} (ok : p.Ok) : ShW 400000 5 p.daT := by
  unfold Prg.daT
  have t1 : ShW 400 1 (.tuple (p.ins.map PyData.str)) := (ShW.tup (ShWs.of (n := 6) (fun d hd => by
    obtain ⟨x, hx, rfl⟩ := List.mem_map.mp hd
    exact isNm_shw (ok.nm x (List.mem_append.mpr (.inl hx)))) (by rw [List.length_map]; exact ok.i6))).mono (by decide) (by decide)
  have t2 : ShW 390000 4 (.tuple (p.rows.map fun r => .tuple [.str r.1, r.2.da])) := (ShW.tup (ShWs.of (n := 40) (k := 9200) (e := 3) (fun d hd => by
    obtain ⟨r, hr, rfl⟩ := List.mem_map.mp hd
    obtain ⟨k, hk⟩ := List.mem_iff_getElem?.mp hr
    have t := ShW.tup (ShWs.cons (isNm_shw (ok.nm r.1 (List.mem_append.mpr (.inr (List.mem_map_of_mem hr))))) (ShWs.cons (work_shw (ok.wk k r hk) fun x hx => by
      rcases List.mem_append.mp hx with z | z
      · exact ok.nm x (List.mem_append.mpr (.inl z))
      · obtain ⟨y, hy, rfl⟩ := List.mem_map.mp z
        exact ok.nm _ (List.mem_append.mpr (.inr (List.mem_map_of_mem (List.mem_of_mem_take hy))))) ShWs.nil))
    exact t.mono (by decide) (by decide)) (by rw [List.length_map]; exact ok.r40))).mono (by decide) (by decide)
  exact (ShW.tup (ShWs.cons t1 (ShWs.cons t2 ShWs.nil))).mono (by decide) (by decide)

/-! turns: a program looked at twice -/
theorem upDs_strs (xs : List Str) : upDs (xs.map PyData.str) = xs.map PyData.str := by
  induction xs with
  | nil => rfl
  | cons x xs ih => rw [List.map_cons, upDs, ih]; rfl
theorem upD_work (w : Work) : upD w.da = w.da := by
  cases w with
  | num r => rfl
  | op o xs =>
    unfold Work.da
    rw [upD, upDs, upDs_strs]
    rfl
theorem upDs_rows (rs : List (Str × Work)) : upDs (rs.map fun r => PyData.tuple [.str r.1, r.2.da]) = rs.map fun r => PyData.tuple [.str r.1, r.2.da] := by
  induction rs with
  | nil => rfl
  | cons r rs ih =>
    rw [List.map_cons, upDs, ih, upD, upDs, upDs, upDs, upD_work]
    rfl
theorem upD_prg (p : Prg) : upD p.da = p.daT := by
  rw [da_rows]
  unfold Prg.daT ptD
  rw [upD, upDs, upDs, upDs, upD, upD, upDs_strs, upDs_rows]
theorem allT_mem {p : Prg} {t u : Str} {n : Nat} {z : Nat × Str} (h : z ∈ allT p t u n) : z.1 < n ∧ z.2 ∈ TW := by
  unfold allT at h
  obtain ⟨k, hk, hz⟩ := List.mem_flatMap.mp h
  obtain ⟨s, hs, rfl⟩ := List.mem_map.mp hz
  exact ⟨List.mem_range.mp hk, (List.mem_filter.mp hs).1⟩
section
variable {h : Hh} {Q : Vl → Hh → Prop} {E : XP} {p : Prg}
end

/-! turns: a state that draws -/
def stL (L M a : Int) : List (Key × Da) := [(.inr "left", .int L), (.inr "seed", .int M), (.inr "at", .int a)]
theorem stL_left (L M a : Int) : valD (stL L M a) (.inr "left") = some (.int L) := rfl
theorem stL_seed (L M a : Int) : valD (stL L M a) (.inr "seed") = some (.int M) := rfl
theorem stL_at (L M a : Int) : valD (stL L M a) (.inr "at") = some (.int a) := rfl
theorem stL_pl (L M a L' : Int) : putD (stL L M a) (.inr "left") (.int L') = stL L' M a := rfl
theorem stL_pa (L M a a' : Int) : putD (stL L M a) (.inr "at") (.int a') = stL L M a' := rfl
theorem stL_len (L M a : Int) : (stL L M a).length < 16777216 := by unfold stL; simp
def TkL (K : Nat) (kds : List (Key × Da)) : Prop := ∃ (L M : Int) (a : Nat), kds = stL L M (a : Int) ∧ 0 ≤ L ∧ a ≤ K
theorem TkL.mono {K J : Nat} {kds : List (Key × Da)} (h : TkL K kds) (hl : K ≤ J) : TkL J kds := by
  obtain ⟨L, M, a, e, h0, h1⟩ := h
  exact ⟨L, M, a, e, h0, by omega⟩
section
variable {h : Hh} {Q : Vl → Hh → Prop} {E : XP} {n K : Nat} {S : List (Key × Da)} {N : Hh → Prop}
theorem ex_stLa {L M a a' : Int} (hn : n < h.length) (q : N (h.set n (some (.dct (stL L M a'))))) : ∃ h3, setD (.r n) (.d (.str "at")) (.d (.int a')) (h.set n (some (.dct (stL L M a)))) = some h3 ∧ N h3 := ex_setDS hn (stL_pa L M a a') (stL_len L M a) q
theorem ex_stLl {L M a L' : Int} (hn : n < h.length) (q : N (h.set n (some (.dct (stL L' M a))))) : ∃ h3, setD (.r n) (.d (.str "left")) (.d (.int L')) (h.set n (some (.dct (stL L M a)))) = some h3 ∧ N h3 := ex_setDS hn (stL_pl L M a L') (stL_len L M a) q
theorem wp_mixed {c : Int} {k : Nat} (hk : k < 2 ^ 32) (q : ∀ v : Int, 0 ≤ v → v < 1000000009 → Q (.d (.int v)) h) : Wp (m__law_mixed [.d (.int c), .d (.int (k : Int))] h) Q E := by
  have bk : Bd 64 (k : Int) := bd_nat (Nat.lt_trans hk (by decide))
  refine en__law_mixed ?_
  unfold b__law_mixed
  walk_at "w"
  refine q _ ?_ ?_
  · exact Int.emod_nonneg _ (by decide)
  · exact Int.emod_lt_of_pos _ (by decide)
theorem wp_mixed_ {c : Int} {k : Nat} (hk : k < 2 ^ 32) (q : ∀ v : Int, 0 ≤ v → v < 1000000009 → Q (.d (.int v)) h) {d : Int} (e : (k : Int) = d := by omega) : Wp (m__law_mixed [.d (.int c), .d (.int d)] h) Q E := by
  subst e
  exact wp_mixed hk q
local macro_rules | `(tactic| walk_at "woc") => `(tactic| first | (apply wo_dgS; assumption; exact (stL_at _ _ _))| (apply wo_dgS; assumption; exact (stL_left _ _ _))| (apply wo_dgS; assumption; exact (stL_seed _ _ _)))
local macro_rules | `(tactic| walk_at "wx") => `(tactic| first | (apply ex_stLa; assumption)| (apply ex_stLl; assumption))
theorem wp_draw (st : TkL K S) (hn : n < h.length) {many : Int} (hK : K < 2 ^ 30) (hm : 0 < many) (hm2 : many < 2 ^ 20)
    (q : ∀ (v : Int) (S' : List (Key × Da)), 0 ≤ v → v < many → Bd 20 v → TkL (K + 1) S' → Q (.d (.int v)) (h.set n (some (.dct S')))) : Wp (m__law_draw [.r n, .d (.int many)] (h.set n (some (.dct S)))) Q E := by
  obtain ⟨L, M, a, rfl, h0, ha⟩ := st
  have hm0 : many ≠ 0 := by omega
  have bm : Bd 21 many := bd_lit (2 ^ 20) (by omega) (by omega) (by decide)
  refine en__law_draw ?_
  unfold b__law_draw
  walk_at "w"
  · refine q _ (stL (L / many) M ((a : Int) + 1)) (Int.emod_nonneg _ hm0) (Int.emod_lt_of_pos _ hm) (bd_lit (2 ^ 20 - 1) ?_ ?_ (by decide)) ⟨L / many, M, a + 1, by rw [Int.natCast_add]; rfl, Int.ediv_nonneg h0 (by omega), by omega⟩
    · have := Int.emod_nonneg L hm0
      omega
    · have := Int.emod_lt_of_pos L hm
      omega
  · refine wp_mixed_ (k := a + 1) (by omega) fun v v0 v1 => ?_
    walk_at "w"
    refine wp_mixed_ (k := 40 + (a + 1)) (by omega) (fun v v0 v1 => ?_) (by omega)
    walk_at "w"
    refine q _ _ (Int.emod_nonneg _ hm0) (Int.emod_lt_of_pos _ hm) (bd_lit (2 ^ 20 - 1) ?_ ?_ (by decide)) ⟨L, M, a + 1, by rw [Int.natCast_add]; rfl, h0, by omega⟩
    · have := Int.emod_nonneg v hm0
      omega
    · have := Int.emod_lt_of_pos v hm
      omega
theorem wp_cell_at (cs : List Int) {k : Nat} (hk : k < 1000) (hl : cs.length ≤ 1000) (q : ∀ v : Int, Q (.d (.int v)) h) : Wp (m__law_cell_at [.d (.list (cs.map PyData.int)), .d (.int (k : Int))] h) Q E := by
  refine en__law_cell_at ?_
  unfold b__law_cell_at
  walk_at "w"
  · rename_i c
    rw [List.length_map] at c
    obtain ⟨v, ev⟩ : ∃ v, cs[k]? = some v := ⟨_, List.getElem?_eq_getElem (by omega)⟩
    refine wo_iyL rfl (wo_ixLF (v := .int v) (by rw [List.getElem?_map, ev]; rfl) ?_)
    walk_at "w"
    exact q v
  · exact q 0
theorem wp_cell_at_ (cs : List Int) {k : Nat} (hk : k < 1000) (hl : cs.length ≤ 1000) (q : ∀ v : Int, Q (.d (.int v)) h) {d : Int} (e : (k : Int) = d := by omega) : Wp (m__law_cell_at [.d (.list (cs.map PyData.int)), .d (.int d)] h) Q E := by
  subst e
  exact wp_cell_at cs hk hl q
theorem wp_state (cs : List Int) {k : Nat} (hk : k < 900) (hl : cs.length ≤ 1000) (q : ∀ S, TkL 0 S → Q (.r h.length) (h ++ [some (.dct S)])) : Wp (m__law_state [.d (.list (cs.map PyData.int)), .d (.int (k : Int))] h) Q E := by
  refine en__law_state ?_
  unfold b__law_state
  walk_at "w"
  refine wp_cell_at cs (by omega) hl fun v => ?_
  walk_at "w"
  refine wp_cell_at_ cs (k := k + 1) (by omega) hl (fun v2 => ?_) (by omega)
  walk_at "w"
  refine wp_mixed_ (k := 5) (by decide) (fun v3 a3 b3 => ?_) rfl
  walk_at "w"
  refine wp_cell_at_ cs (k := k + 2) (by omega) hl (fun v4 => ?_) (by omega)
  walk_at "w"
  refine wp_mixed_ (k := 9) (by decide) (fun v5 a5 b5 => ?_) rfl
  walk_at "w"
  have hb : (if decide ((10 : Int) ^ 18 ≤ (v.natAbs : Int)) = true then (1 : Int) else 0) = 0 ∨ (if decide ((10 : Int) ^ 18 ≤ (v.natAbs : Int)) = true then (1 : Int) else 0) = 1 := by
    split
    · exact .inr rfl
    · exact .inl rfl
  generalize (if decide ((10 : Int) ^ 18 ≤ (v.natAbs : Int)) = true then (1 : Int) else 0) = b at hb ⊢
  refine wo_mul (mulOk_smallR (bd_lit (n := 64) (x := b) 1 (by omega) (by omega) (by decide))) ?_
  walk_at "w"
  refine wp_cell_at cs (k := k) (by omega) hl fun v6 => ?_
  walk_at "w"
  refine wp_mixed (k := k) (by omega) fun v7 a7 b7 => ?_
  walk_at "w"
  have h0 : 0 ≤ (v.natAbs : Int) * b := by rcases hb with rfl | rfl <;> omega
  refine ⟨by simp, ?_⟩
  exact retK_r (r := []) rfl rfl (q (stL ((v.natAbs : Int) * b) v7 ((0 : Nat) : Int)) ⟨_, _, 0, rfl, h0, Nat.le_refl _⟩)
end

/-! fractions that are drawn -/
def Sm (r : Rat) : Prop := r.num.natAbs ≤ 10 ^ 600 ∧ r.den ≤ 10 ^ 600
theorem sm_divInt {x y : Int} (hy : 0 < y) (b1 : x.natAbs ≤ 10 ^ 600) (b2 : y.natAbs ≤ 10 ^ 600) : Sm (Rat.divInt x y) := by
  unfold Sm
  generalize 10 ^ 600 = M at b1 b2 ⊢
  have hy0 : y ≠ 0 := by omega
  obtain ⟨p1, p2⟩ := divInt_parts (x := x) hy0
  rw [if_neg (by omega)] at p1 p2
  have hg : 0 < Int.gcd x y := Nat.pos_of_ne_zero fun z => hy0 (Int.gcd_eq_zero_iff.mp z).2
  have hgi : ((Int.gcd x y : Nat) : Int) ≠ 0 := by omega
  obtain ⟨k, ek⟩ : ((Int.gcd x y : Nat) : Int) ∣ x := Int.gcd_dvd_left ..
  obtain ⟨l, el⟩ : ((Int.gcd x y : Nat) : Int) ∣ y := Int.gcd_dvd_right ..
  generalize Int.gcd x y = g at *
  have e1 : x.fdiv (g : Int) = k := by rw [ek, Int.mul_fdiv_cancel_left _ hgi]
  have e2 : y.fdiv (g : Int) = l := by rw [el, Int.mul_fdiv_cancel_left _ hgi]
  rw [e1] at p1
  rw [e2] at p2
  rw [ek, Int.natAbs_mul, Int.natAbs_natCast] at b1
  rw [el, Int.natAbs_mul, Int.natAbs_natCast] at b2
  have m1 : k.natAbs ≤ g * k.natAbs := Nat.le_mul_of_pos_left _ hg
  have m2 : l.natAbs ≤ g * l.natAbs := Nat.le_mul_of_pos_left _ hg
  rw [← p1]
  exact ⟨by omega, by omega⟩
section
variable {h : Hh} {Q : Vl → Hh → Prop} {E : XP} {n K : Nat} {S : List (Key × Da)}
local macro_rules | `(tactic| walk_at "wc") => `(tactic| (apply wp_take; assumption; assumption; exact (by omega); exact (by first | omega | decide); exact (by first | omega | decide); intro _ _ _ _ _ _))
end

/-! turns: names, numbers -/
def POOL : List Str := ["b", "zz", "a", "mark", "q", "aa", "low", "c", "wide", "y", "ab", "d", "six", "t", "ac", "z", "ba", "g"]
def poolN (f s : Nat) (m : Nat) : List Str := (List.range m).map fun k => POOL.getD ((f + s * k) % 18) ""
theorem pool_nodup : ∀ f < 18, ∀ s ∈ [1, 5, 7, 11], (poolN f s 18).Nodup := by decide +kernel
theorem pool_nm : ∀ x ∈ POOL, isNm x = true := by decide +kernel
theorem pool_get {k : Nat} (h : k < 18) : POOL[k]? = some (POOL.getD k "") := by
  rw [List.getD_eq_getElem?_getD, List.getElem?_eq_getElem (by show k < 18; exact h)]
  rfl
theorem poolN_ok {f s m : Nat} (hf : f < 18) (hs : s ∈ [1, 5, 7, 11]) (hm : m ≤ 18) : (poolN f s m).length = m ∧ (poolN f s m).Nodup ∧ ∀ x ∈ poolN f s m, isNm x = true := by
  refine ⟨by simp [poolN], ?_, fun x hx => ?_⟩
  · have e : poolN f s m = (poolN f s 18).take m := by
      unfold poolN
      rw [← List.map_take, List.take_range, Nat.min_eq_left hm]
    rw [e]
    exact (pool_nodup f hf s hs).sublist (List.take_sublist _ _)
  · obtain ⟨k, _, rfl⟩ := List.mem_map.mp hx
    have := pool_get (k := (f + s * k) % 18) (Nat.mod_lt _ (by decide))
    exact pool_nm _ (List.mem_of_getElem? this)
theorem pool_lst {Q : Vl → Hh → Prop} {h : Hh} (q : Q (.r h.length) (h ++ [some (.lst (POOL.map PyData.str))])) : LstK [.d (.str "b"), .d (.str "zz"), .d (.str "a"), .d (.str "mark"), .d (.str "q"), .d (.str "aa"), .d (.str "low"), .d (.str "c"), .d (.str "wide"), .d (.str "y"), .d (.str "ab"), .d (.str "d"), .d (.str "six"), .d (.str "t"), .d (.str "ac"), .d (.str "z"), .d (.str "ba"), .d (.str "g")] h Q := ⟨POOL.map PyData.str, h, rfl, rfl, q⟩
section
variable {h : Hh} {Q : Vl → Hh → Prop} {E : XP} {n K : Nat} {S : List (Key × Da)} {N : Hh → Prop}
local macro_rules | `(tactic| walk_at "woc") => `(tactic| first | refine wo_inT (c := true) (by with_unfolding_all rfl) (by with_unfolding_all decide +kernel) ?_ | refine wo_inT (c := false) (by with_unfolding_all rfl) (by with_unfolding_all decide +kernel) ?_)
local macro_rules | `(tactic| walk_at "wc") => `(tactic| (apply wp_draw; assumption; assumption; exact (by omega); exact (by first | omega | decide); exact (by first | omega | decide); intro _ _ _ _ _ _))
theorem wp_lnames (st : TkL K S) (hn : n < h.length) (hK : K < 2 ^ 29) {m : Nat} (hm : m ≤ 18)
    (q : ∀ (fs : List Str) (S' : List (Key × Da)), fs.length = m → fs.Nodup → (∀ x ∈ fs, isNm x = true) → TkL (K + 2) S' → Q (.d (.list (fs.map PyData.str))) (h.set n (some (.dct S')))) :
    Wp (m__law_names [.r n, .d (.int (m : Int))] (h.set n (some (.dct S)))) Q E := by
  refine en__law_names ?_
  unfold b__law_names
  walk_at "w"
  refine pool_lst ?_
  walk_at "w"
  rename_i f S1 f0 f1 fb st1 v S2 v0 v1 vb st2
  refine wo_menu (fun d => ∃ s : Nat, s ∈ [1, 5, 7, 11] ∧ d = .int (s : Int)) v0 v1 ?_ ?_
  · intro d hd
    simp only [List.mem_cons, List.not_mem_nil, or_false] at hd
    rcases hd with rfl | rfl | rfl | rfl
    · exact ⟨1, by decide, rfl⟩
    · exact ⟨5, by decide, rfl⟩
    · exact ⟨7, by decide, rfl⟩
    · exact ⟨11, by decide, rfl⟩
  rintro _ ⟨s, hs, rfl⟩
  obtain ⟨f, rfl⟩ : ∃ z : Nat, f = (z : Int) := ⟨f.toNat, by omega⟩
  have s11 : s ≤ 11 := by
    simp only [List.mem_cons, List.not_mem_nil, or_false] at hs
    omega
  have bs : Bd 10 (s : Int) := bd_nat (by omega)
  walk_at "w"
  refine wp_lcR (List.range m) (fun k => .int (k : Nat)) (fun k => .str (POOL.getD ((f + s * k) % 18) "")) (by walk_at "wipe") ?_
  walk_at "w"
  have ok := poolN_ok (m := m) (show f < 18 by omega) hs hm
  refine ⟨by unfold rngD; simp, by rw [List.length_range]; omega, rfl, fun k hk h' => ?_, ?_⟩
  · have hk := List.mem_range.mp hk
    have bk : Bd 10 (k : Int) := bd_nat (by omega)
    walk_at "w"
    refine ⟨rfl, ?_⟩
    walk_at "w"
    have e : ((f : Int) + (s : Int) * (k : Int)) % 18 = (((f + s * k) % 18 : Nat) : Int) := by
      rw [← Int.natCast_mul, ← Int.natCast_add]
      rfl
    rw [e]
    refine wo_ixLF (v := .str (POOL.getD ((f + s * k) % 18) "")) ?_ ⟨rfl, rfl⟩
    rw [List.getElem?_map, pool_get (Nat.mod_lt _ (by decide))]
    rfl
  · refine retK_d (by rw [List.length_set, List.length_set]) ?_
    have := q (poolN f s m) S2 ok.1 ok.2.1 ok.2.2 st2
    unfold poolN at this
    rw [List.map_map] at this
    exact this
/-- a fraction by its parts -/
theorem w_frac {A B C : Option Vl} {h : Hh} {N : En → Hh → Prop} {D : Ds} (x y : Nat) (q : ∀ z : Option Vl, N [A, B, some (.d (.int (Nat.gcd x y : Nat))), z, C] h) :
    Ws (sWhile (eT (eOp (gInt fGt) (eVar 3) (eD (.int 0)))) (sPar 2 3 (aCons (eVar 3) (aCons (eOp (gInt fMod) (eVar 2) (eVar 3)) (aNil)))) [A, B, some (.d (.int (x : Int))), some (.d (.int (y : Int))), C] h) N D := by
  obtain ⟨R, B', C', X⟩ := D
  refine ws_while (fun k ρ h' => h' = h ∧ ∃ a b : Nat, ρ = [A, B, some (.d (.int (a : Int))), some (.d (.int (b : Int))), C] ∧ Nat.gcd a b = Nat.gcd x y ∧ k = b) ⟨rfl, x, y, rfl, rfl, rfl⟩ ?_
  rintro k ρ1 h1 ⟨rfl, a, b, rfl, e, rfl⟩
  walk_at "w"
  · refine ⟨a % k, Nat.mod_lt _ (by omega), rfl, k, a % k, rfl, ?_, rfl⟩
    rw [← e, Nat.gcd_comm a k, Nat.gcd_rec k a, Nat.gcd_comm]
  · have : k = 0 := by omega
    subst this
    rw [Nat.gcd_zero_right] at e
    rw [e]
    exact q _
theorem wp_lfrac {x y : Int} (hy : 0 < y) (b : Bd 60 y) (bx : Bd 60 x) (q : Q (.d (Rk.Q (Rat.divInt x y))) h) : Wp (m__law_fraction [.d (.int x), .d (.int y)] h) Q E := by
  have hy0 : y ≠ 0 := by omega
  have hg : Int.gcd x y ≠ 0 := fun z => hy0 (Int.gcd_eq_zero_iff.mp z).2
  have hl : Int.gcd x y ≤ y.natAbs := Nat.gcd_le_right _ (by omega)
  obtain ⟨p1, p2⟩ := divInt_parts (x := x) hy0
  rw [if_neg (by omega)] at p1 p2
  refine en__law_fraction ?_
  unfold b__law_fraction
  walk_at "w"
  refine w_frac _ _ fun z => ?_
  rw [show Nat.gcd x.natAbs y.natAbs = Int.gcd x y from rfl]
  have h0 : ((Int.gcd x y : Nat) : Int) ≠ 0 := by omega
  have hb : Bd 60 ((Int.gcd x y : Nat) : Int) := b.le (by omega)
  walk_at "w"
  rw [Int.one_mul, Int.one_mul, ← Int.fdiv_eq_ediv_of_nonneg _ (by omega), ← Int.fdiv_eq_ediv_of_nonneg _ (by omega), p1, p2]
  exact q
theorem wp_lnumber (st : TkL K S) (hn : n < h.length) (hK : K < 2 ^ 29)
    (q : ∀ (r : Rat) (S' : List (Key × Da)), Sm r → TkL (K + 2) S' → Q (.d (Rk.Q r)) (h.set n (some (.dct S')))) :
    Wp (m__law_number [.r n] (h.set n (some (.dct S)))) Q E := by
  refine en__law_number ?_
  unfold b__law_number
  walk_at "w"
  rename_i v S1 v0 v1 vb st1
  refine wo_menuI 1 10 v0 v1 ?_ fun y y0 y1 => ?_
  · intro d hd
    simp only [List.mem_cons, List.not_mem_nil, or_false] at hd
    rcases hd with rfl | rfl | rfl | rfl | rfl | rfl
    all_goals exact ⟨_, rfl, by omega, by omega⟩
  walk_at "w"
  rename_i v' S2 w0 w1 wb st2
  refine wo_menuI (-7) 7 w0 w1 ?_ fun x x0 x1 => ?_
  · intro d hd
    simp only [List.mem_cons, List.not_mem_nil, or_false] at hd
    rcases hd with rfl | rfl | rfl | rfl | rfl | rfl | rfl | rfl
    all_goals exact ⟨_, rfl, by omega, by omega⟩
  walk_at "w"
  refine wp_lfrac (by omega) (bd_lit 10 (by omega) (by omega) (by decide)) (bd_lit 10 (by omega) (by omega) (by decide)) ?_
  walk_at "w"
  have big : (10 : Nat) ≤ 10 ^ 600 := Nat.le_trans (show 10 ≤ 10 ^ 1 by decide) (Nat.pow_le_pow_right (by decide) (by decide))
  exact q _ _ (sm_divInt (by omega) (Nat.le_trans (show x.natAbs ≤ 10 by omega) big) (Nat.le_trans (show y.natAbs ≤ 10 by omega) big)) st2
def WMN : List Str := ["plus", "less", "times", "over", "turned", "size", "least", "most", "pick", "times", "plus"]
theorem wp_lany_work (st : TkL K S) (hn : n < h.length) (hK : K < 2 ^ 29) {ns : List Str} (l1 : 1 ≤ ns.length) (l2 : ns.length ≤ 4)
    (q : ∀ (w : Work) (S' : List (Key × Da)), w.Ok ns → TkL (K + 5) S' → Q (.d w.da) (h.set n (some (.dct S')))) :
    Wp (m__law_any_work [.r n, .d (.list (ns.map PyData.str))] (h.set n (some (.dct S)))) Q E := by
  have ln : (ns.map PyData.str).length = ns.length := List.length_map ..
  refine en__law_any_work ?_
  unfold b__law_any_work
  walk_at "w"
  refine wp_lcU (by walk_at "wipe") ?_
  walk_at "w"
  refine ⟨rfl, rfl, ?_⟩
  refine lck_inv (I := fun k acc hb => ∃ (ws : List Str) (S' : List (Key × Da)), acc = ws.map PyData.str ∧ ws.length = k ∧ (∀ x ∈ ws, x ∈ ns) ∧ hb = h.set n (some (.dct S')) ∧ TkL (K + k) S') ⟨[], S, rfl, rfl, nofun, rfl, st⟩ ?_ ?_ ?_ ?_
  · rintro k acc hb ⟨ws, S', _, _, _, rfl, _⟩
    rw [List.length_set, List.length_set]
  · decide
  · rintro k d acc hb ed ⟨ws, S', rfl, rfl, al, rfl, st3⟩ hk
    have hk5 : ws.length < 4 := (List.getElem?_eq_some_iff.mp ed).1
    walk_at "w"
    rename_i v S2' v0 v1 vb s4
    refine wo_menu (fun d => ∃ x, x ∈ ns ∧ PyData.str x = d) v0 v1 (fun d hd => List.mem_map.mp hd) ?_
    rintro _ ⟨x, hx, rfl⟩
    rw [set_app hn]
    refine ⟨.str x, _, rfl, rfl, ws ++ [x], S2', by simp, by simp, ?_, rfl, s4.mono (by omega)⟩
    intro c hc
    rcases List.mem_append.mp hc with z | z
    · exact al c z
    · rw [List.mem_singleton] at z
      rw [z]
      exact hx
  rintro acc hb ⟨ws, S', rfl, wl, al, rfl, st3⟩ _
  have wl : ws.length = 4 := wl
  have st3 : TkL (K + 4) S' := st3
  obtain ⟨a, b, c, d, rfl⟩ : ∃ a b c d, ws = [a, b, c, d] := by
    match ws, wl with
    | [a, b, c, d], _ => exact ⟨a, b, c, d, rfl⟩
  have ha := al a (by simp)
  have hb' := al b (by simp)
  have hc := al c (by simp)
  have hd := al d (by simp)
  walk_at "w"
  rename_i v S2 v0 v1 vb s4
  simp only [List.map_cons, List.map_nil]
  refine wo_menu (fun d => ∃ w : Str, (w = "plus" ∨ w = "less" ∨ w = "times" ∨ w = "over" ∨ w = "turned" ∨ w = "size" ∨ w = "least" ∨ w = "most" ∨ w = "pick") ∧ d = .str w) v0 v1 ?_ ?_
  · intro d hd
    simp only [List.mem_cons, List.not_mem_nil, or_false] at hd
    rcases hd with rfl | rfl | rfl | rfl | rfl | rfl | rfl | rfl | rfl | rfl | rfl
    all_goals exact ⟨_, by simp, rfl⟩
  rintro _ ⟨w, hw, rfl⟩
  have two : ∀ x ∈ [a, b], x ∈ ns := fun x hx => by
    simp only [List.mem_cons, List.not_mem_nil, or_false] at hx
    rcases hx with rfl | rfl <;> assumption
  have one : ∀ x ∈ [a], x ∈ ns := fun x hx => by
    simp only [List.mem_cons, List.not_mem_nil, or_false] at hx
    rcases hx with rfl
    assumption
  rcases hw with rfl | rfl | rfl | rfl | rfl | rfl | rfl | rfl | rfl
  · walk_at "w"; exact q (.op "plus" [a, b]) S2 ⟨rfl, two⟩ s4
  · walk_at "w"; exact q (.op "less" [a, b]) S2 ⟨rfl, two⟩ s4
  · walk_at "w"; exact q (.op "times" [a, b]) S2 ⟨rfl, two⟩ s4
  · walk_at "w"; exact q (.op "over" [a, b]) S2 ⟨rfl, two⟩ s4
  · walk_at "w"; exact q (.op "turned" [a]) S2 ⟨rfl, one⟩ s4
  · walk_at "w"; exact q (.op "size" [a]) S2 ⟨rfl, one⟩ s4
  · walk_at "w"; exact q (.op "least" [a, b]) S2 ⟨rfl, two⟩ s4
  · walk_at "w"; exact q (.op "most" [a, b]) S2 ⟨rfl, two⟩ s4
  · walk_at "w"; exact q (.op "pick" [a, b, c, d]) S2 ⟨rfl, al⟩ s4
end

/-! turns: programs that are drawn -/
theorem cut_last4 {ys : List Str} (l : 1 ≤ ys.length) : ∃ zs : List Str, cutD (ys.map PyData.str) (some (-4)) none = zs.map PyData.str ∧ (∀ x ∈ zs, x ∈ ys) ∧ 1 ≤ zs.length ∧ zs.length ≤ 4 := by
  refine ⟨ys.drop (ys.length - 4), ?_, fun x hx => List.mem_of_mem_drop hx, by rw [List.length_drop]; omega, by rw [List.length_drop]; omega⟩
  unfold cutD
  rw [HT.sIx_none, List.length_map, show HT.sIx ys.length 0 (some (-4)) = ys.length - 4 by unfold HT.sIx; dsimp only; rw [if_pos (by decide)]; omega, List.take_of_length_le (by rw [List.length_drop, List.length_map]; omega), List.map_drop]
theorem Work.Ok.mono {w : Work} {ns ms : List Str} (ok : w.Ok ns) (h : ∀ x ∈ ns, x ∈ ms) : w.Ok ms := by
  cases w with
  | num r => exact ok
  | op o xs => exact ⟨ok.1, fun x hx => h x (ok.2 x hx)⟩
section
variable {h : Hh} {Q : Vl → Hh → Prop} {E : XP} {n K : Nat} {S : List (Key × Da)}
local macro_rules | `(tactic| walk_at "wc") => `(tactic| (apply wp_draw; assumption; assumption; exact (by omega); exact (by first | omega | decide); exact (by first | omega | decide); intro _ _ _ _ _ _))
theorem wp_lany_program (st : TkL K S) (hn : n < h.length) (hK : K < 2 ^ 20) {m : Nat} (m2 : 2 ≤ m) (m8 : m ≤ 8)
    (q : ∀ (p : Prg) (S' : List (Key × Da)), p.Ok → p.rows.length ≤ 8 → TkL (K + 200) S' → Q (.d p.da) (h.set n (some (.dct S')))) :
    Wp (m__law_any_program [.r n, .d (.int (m : Int))] (h.set n (some (.dct S)))) Q E := by
  refine en__law_any_program ?_
  unfold b__law_any_program bl__law_any_program_1
  walk_at "w"
  rw [show 3 + (m : Int) = ((3 + m : Nat) : Int) by omega]
  refine wp_lnames st hn (by omega) (by omega) fun fs S1 fl nd nm st1 => ?_
  walk_at "w"
  rename_i i S0 i0 i1 ib st0 hn2 v S2 v0 v1 vb st2
  obtain ⟨v, rfl⟩ : ∃ z : Nat, v = (z : Int) := ⟨v.toNat, by omega⟩
  obtain ⟨i, rfl⟩ : ∃ z : Nat, i = (z : Int) := ⟨i.toNat, by omega⟩
  rw [show 1 + (i : Int) = ((1 + i : Nat) : Int) by omega, show 5 + (v : Int) = ((5 + v : Nat) : Int) by omega, cut_to, ← List.map_take, show (3 : Int) = ((3 : Nat) : Int) from rfl, cut_mid, ← List.map_drop, ← List.map_take, show 5 + v - 3 = 2 + v by omega]
  generalize hI : 1 + i = I at *
  have e3 : ∀ k x, ((fs.drop 3).take (2 + v))[k]? = some x → k < 2 + v ∧ fs[3 + k]? = some x := fun k x e => by
    have hk := (List.getElem?_eq_some_iff.mp e).1
    rw [List.length_take] at hk
    rw [List.getElem?_take_of_lt (by omega), List.getElem?_drop] at e
    exact ⟨by omega, e⟩
  have lfs : ((fs.drop 3).take (2 + v)).length = 2 + v := by rw [List.length_take, List.length_drop]; omega
  rw [show (List.set h n (some (Ob.dct S0))).length = h.length from List.length_set ..]
  refine forK_inv (I := fun k ρ1 h1 => ∃ (rows : List (Str × Work)) (S' : List (Key × Da)) (a6 a7 : Option Vl), ρ1 = [some (.r n), some (.d (.int (m : Int))), some (.d (.list (fs.map PyData.str))), some (.d (.int (I : Int))), some (.d (.list ((fs.take I ++ rows.map (·.1)).map PyData.str))), some (.r h.length), a6, a7] ∧ h1 = (h ++ [some (Ob.lst (rows.map fun r => PyData.tuple [.str r.1, r.2.da]))]).set n (some (.dct S')) ∧ rows.map (·.1) = ((fs.drop 3).take (2 + v)).take k ∧ (∀ (j : Nat) (r : Str × Work), rows[j]? = some r → r.2.Ok (fs.take I ++ (rows.take j).map (·.1))) ∧ TkL (K + 4 + 10 * k) S') ?_ ?_ ?_
  · exact ⟨[], S2, none, none, by simp, rfl, rfl, nofun, st2.mono (by omega)⟩
  · rintro k d ρ1 h1 ed ⟨rows, S', a6, a7, rfl, rfl, rn, rk, st5⟩
    obtain ⟨x, ex, rfl⟩ : ∃ x, ((fs.drop 3).take (2 + v))[k]? = some x ∧ d = .str x := by
      rw [List.getElem?_map] at ed
      cases e : ((fs.drop 3).take (2 + v))[k]? with
      | none => rw [e] at ed; cases ed
      | some x => rw [e] at ed; cases ed; exact ⟨x, rfl, rfl⟩
    obtain ⟨hk, ex2⟩ := e3 k x ex
    have lk : rows.length = k := by
      have := congrArg List.length rn
      rw [List.length_map, List.length_take, lfs] at this
      omega
    have lI : 1 ≤ (fs.take I ++ rows.map (·.1)).length := by rw [List.length_append, List.length_take]; omega
    obtain ⟨zs, ez, zm, z1, z4⟩ := cut_last4 lI
    have ll : ((fs.take I ++ rows.map (·.1)).map PyData.str).length ≤ 100 := by rw [List.length_map, List.length_append, List.length_take, List.length_map]; omega
    have lr : (rows.map fun r => PyData.tuple [.str r.1, r.2.da]).length ≤ 100 := by rw [List.length_map]; omega
    have tk : ((fs.drop 3).take (2 + v)).take (k + 1) = ((fs.drop 3).take (2 + v)).take k ++ [x] := by rw [List.take_add_one, ex]; rfl
    have fin : ∀ (w : Work) (S4 : List (Key × Da)) (a7 : Option Vl), w.Ok (fs.take I ++ rows.map (·.1)) → TkL (K + 4 + 10 * (k + 1)) S4 → ∃ (rows' : List (Str × Work)) (S' : List (Key × Da)) (a6 a7' : Option Vl), [some (Vl.r n), some (.d (.int (m : Int))), some (.d (.list (fs.map PyData.str))), some (.d (.int (I : Int))), some (.d (.list ((fs.take I ++ rows.map (·.1)).map PyData.str ++ [.str x]))), some (.r h.length), some (.d (.str x)), a7] = [some (Vl.r n), some (.d (.int (m : Int))), some (.d (.list (fs.map PyData.str))), some (.d (.int (I : Int))), some (.d (.list ((fs.take I ++ rows'.map (·.1)).map PyData.str))), some (.r h.length), a6, a7'] ∧ (h ++ [some (Ob.lst ((rows.map fun r => PyData.tuple [.str r.1, r.2.da]) ++ [.tuple [.str x, w.da]]))]).set n (some (.dct S4)) = (h ++ [some (Ob.lst (rows'.map fun r => PyData.tuple [.str r.1, r.2.da]))]).set n (some (.dct S')) ∧ rows'.map (·.1) = ((fs.drop 3).take (2 + v)).take (k + 1) ∧ (∀ (j : Nat) (r : Str × Work), rows'[j]? = some r → r.2.Ok (fs.take I ++ (rows'.take j).map (·.1))) ∧ TkL (K + 4 + 10 * (k + 1)) S' := by
      intro w S4 a7 wo s4
      refine ⟨rows ++ [(x, w)], S4, some (.d (.str x)), a7, by simp only [List.map_append, List.map_cons, List.map_nil, List.append_assoc], by rw [List.map_append]; rfl, by rw [List.map_append, rn, tk]; rfl, fun j r hr => ?_, s4⟩
      by_cases hj : j < rows.length
      · rw [List.getElem?_append_left hj] at hr
        rw [List.take_append_of_le_length (by omega)]
        exact rk j r hr
      · rw [List.getElem?_append_right (by omega)] at hr
        have e0 : j - rows.length = 0 := by
          have := (List.getElem?_eq_some_iff.mp hr).1
          simp at this
          omega
        rw [e0] at hr
        cases hr
        rw [show j = rows.length by omega, List.take_left' rfl]
        exact wo
    walk_at "w"
    rw [ez]
    have hn3 : ∀ o : Option Ob, n < (h ++ [o]).length := fun o => by rw [List.length_append]; omega
    refine wp_lany_work st5 (hn3 _) (by omega) z1 z4 fun w S3 wok st6 => ?_
    have wok := Work.Ok.mono wok zm
    have hn4 := hn3 (some (Ob.lst (rows.map fun r => PyData.tuple [.str r.1, r.2.da])))
    walk_at "w"
    · refine wp_lnumber ‹_› hn4 (by omega) fun r S5 sm st7 => ?_
      walk_at "w"
      rename_i vm Sm1 m0 m1 mb stm
      refine wo_menu (fun d => ∃ r : Rat, Sm r ∧ d = Rk.Q r) m0 m1 ?_ ?_
      · intro d hd
        simp only [List.mem_cons, List.not_mem_nil, or_false] at hd
        rcases hd with rfl | rfl
        · have big : (2 : Nat) ≤ 10 ^ 600 := Nat.le_trans (show 2 ≤ 10 ^ 1 by decide) (Nat.pow_le_pow_right (by decide) (by decide))
          exact ⟨2, ⟨big, Nat.le_trans (by decide) big⟩, rfl⟩
        · exact ⟨r, sm, rfl⟩
      rintro _ ⟨r2, sm2, rfl⟩
      walk_at "w"
      refine wo_addL (by rw [List.length_singleton]; omega) ?_
      walk_at "w"
      exact fin (.num r2) _ _ sm2 (TkL.mono stm (by omega))
    · refine wo_addL (by rw [List.length_singleton]; omega) ?_
      walk_at "w"
      exact fin w _ _ wok (TkL.mono ‹_› (by omega))
  · rintro ρ1 h1 ⟨rows, S', a6, a7, rfl, rfl, rn, rk, st5⟩
    rw [List.length_map, lfs] at rn st5
    rw [List.take_of_length_le (by omega)] at rn
    have lrw : rows.length = 2 + v := by
      have := congrArg List.length rn
      rw [List.length_map, lfs] at this
      exact this
    walk_at "w"
    refine wo_tupPL ?_
    rw [cut_to, ← List.map_take]
    walk_at "w"
    have enm : fs.take I ++ (fs.drop 3).take (2 + v) = fs.take I ++ rows.map (·.1) := by rw [rn]
    have sub : ∀ x ∈ fs.take I ++ rows.map (·.1), x ∈ fs := fun x hx => by
      rw [← enm] at hx
      rcases List.mem_append.mp hx with z | z
      · exact List.mem_of_mem_take z
      · exact List.mem_of_mem_drop (List.mem_of_mem_take z)
    have hq := q ⟨fs.take I, rows⟩ S' ⟨by dsimp only; rw [List.length_take]; omega, by dsimp only; omega, by dsimp only; omega, ?_, fun x hx => nm x (sub x hx), rk⟩ (by dsimp only; omega) (st5.mono (by omega))
    · rw [da_rows] at hq
      exact hq
    · dsimp only
      rw [← enm]
      have e : fs = fs.take 3 ++ fs.drop 3 := (List.take_append_drop 3 fs).symm
      have s1 : (fs.take I ++ (fs.drop 3).take (2 + v)).Sublist (fs.take 3 ++ fs.drop 3) := by
        refine List.Sublist.append ?_ (List.take_sublist _ _)
        have : fs.take I = (fs.take 3).take I := by rw [List.take_take]; congr 1; omega
        rw [this]
        exact List.take_sublist _ _
      rw [← e] at s1
      exact nd.sublist s1
end

/-! turns: the program by a turn, before it is pruned -/
def Prg.ahd (p : Prg) (k : Nat) : List Str := p.ins ++ (p.rows.take k).map (·.1)
theorem row_ok {p : Prg} (ok : p.Ok) {k : Nat} (hk : k < p.rows.length) : (p.row k).2.Ok (p.ahd k) := ok.wk k _ (row_at hk)
theorem ahd_mono {p : Prg} {j k : Nat} (h : j ≤ k) : ∀ x ∈ p.ahd j, x ∈ p.ahd k := fun x hx => by
  unfold Prg.ahd at *
  rcases List.mem_append.mp hx with z | z
  · exact List.mem_append.mpr (.inl z)
  · obtain ⟨r, hr, rfl⟩ := List.mem_map.mp z
    have : p.rows.take j = (p.rows.take k).take j := by rw [List.take_take, Nat.min_eq_left h]
    rw [this] at hr
    exact List.mem_append.mpr (.inr (List.mem_map_of_mem (List.mem_of_mem_take hr)))
/-- the work of a name that stands ahead asks what stands ahead -/
theorem wk_ahd {p : Prg} (ok : p.Ok) {k : Nat} {b : Str} {w : Work} (hb : b ∈ p.ahd k) (e : p.wk? b = some w) : w.Ok (p.ahd k) := by
  unfold Prg.wk? at e
  cases ef : p.rows.find? fun r => decide (r.1 = b) with
  | none => rw [ef] at e; cases e
  | some r =>
    rw [ef] at e
    cases e
    have h1 := List.find?_some ef
    simp only [decide_eq_true_eq] at h1
    obtain ⟨j, hj⟩ := List.getElem?_of_mem (List.mem_of_find?_eq_some ef)
    have o := ok.wk j r hj
    have nd := ok.nd
    have hjl := (List.getElem?_eq_some_iff.mp hj).1
    by_cases hjk : j < k
    · exact o.mono (ahd_mono (Nat.le_of_lt hjk))
    · exfalso
      unfold Prg.ahd at hb
      have mr : b ∈ (p.rows.drop k).map (·.1) := by
        rw [← h1]
        refine List.mem_map_of_mem ?_
        have : (p.rows.drop k)[j - k]? = some r := by rw [List.getElem?_drop, show k + (j - k) = j by omega]; exact hj
        exact List.mem_of_getElem? this
      have e2 : p.ins ++ p.rows.map (·.1) = (p.ins ++ (p.rows.take k).map (·.1)) ++ (p.rows.drop k).map (·.1) := by
        rw [List.append_assoc, ← List.map_append, List.take_append_drop]
      rw [e2] at nd
      exact (List.nodup_append.mp nd).2.2 _ hb _ mr rfl
theorem sm2 : Work.Ok [] (.num 2) := by
  have big : (2 : Nat) ≤ 10 ^ 600 := Nat.le_trans (show 2 ≤ 10 ^ 1 by decide) (Nat.pow_le_pow_right (by decide) (by decide))
  exact ⟨big, Nat.le_trans (by decide) big⟩
theorem ok2 {ns : List Str} {o x y : Str} {n : Nat} (s : seek d_WANTS o = some (.int n)) (hn : n = 2) (hx : x ∈ ns) (hy : y ∈ ns) : (Work.op o [x, y]).Ok ns := by
  subst hn
  refine ⟨s, fun z hz => ?_⟩
  simp only [List.mem_cons, List.not_mem_nil, or_false] at hz
  rcases hz with rfl | rfl <;> assumption
theorem ok1 {ns : List Str} {o x : Str} (s : seek d_WANTS o = some (.int 1)) (hx : x ∈ ns) : (Work.op o [x]).Ok ns := by
  refine ⟨s, fun z hz => ?_⟩
  simp only [List.mem_cons, List.not_mem_nil, or_false] at hz
  rcases hz with rfl
  assumption
theorem inl' {ns ms : List Str} {x : Str} (h : x ∈ ns) : x ∈ ns ++ ms := List.mem_append.mpr (.inl h)
theorem inr' {ns ms : List Str} {x : Str} (h : x ∈ ms) : x ∈ ns ++ ms := List.mem_append.mpr (.inr h)
/-- what a turn makes asks what stands ahead -/
def MkOk (p : Prg) (k : Nat) (t u : Str) (ws : List Work) (w : Work) : Prop := (∀ w' ∈ ws, w'.Ok (p.ahd k)) ∧ w.Ok (p.ahd k ++ ([t, u].zip ws).map (·.1))
section
variable {p : Prg} {k : Nat} {t u s : Str} {w0 w : Work} {ws : List Work}
theorem mkok_swap (o : w0.Ok (p.ahd k)) (e : mkSwap w0 = some (ws, w)) : MkOk p k t u ws w := by
  unfold mkSwap at e
  split at e
  · split at e
    · cases e
      exact ⟨nofun, ok2 o.1 rfl (inl' (o.2 _ (by simp))) (inl' (o.2 _ (by simp)))⟩
    · cases e
  · cases e
theorem mkok_apart (o : w0.Ok (p.ahd k)) (e : mkApart t w0 = some (ws, w)) : MkOk p k t u ws w := by
  unfold mkApart at e
  split at e
  · split at e
    · cases e
      refine ⟨fun w' h => ?_, ok2 (n := 2) rfl rfl (inl' (o.2 _ (by simp))) (inr' (by simp))⟩
      rw [List.mem_singleton.mp h]
      exact ok1 rfl (o.2 _ (by simp))
    · cases e
  · cases e
theorem mkok_back (ok : p.Ok) (o : w0.Ok (p.ahd k)) (e : mkBack p w0 = some (ws, w)) : MkOk p k t u ws w := by
  unfold mkBack at e
  split at e
  · split at e
    · split at e
      · rename_i a b _ _ o2 c ew
        split at e
        · cases e
          have o2 := wk_ahd ok (o.2 b (by simp)) ew
          exact ⟨nofun, ok2 (n := 2) rfl rfl (inl' (o.2 _ (by simp))) (inl' (o2.2 _ (by simp)))⟩
        · cases e
      · cases e
    · cases e
  · cases e
theorem mkok_left (ok : p.Ok) (o : w0.Ok (p.ahd k)) (e : mkLeft p t w0 = some (ws, w)) : MkOk p k t u ws w := by
  unfold mkLeft at e
  split at e
  · split at e
    · split at e
      · rename_i o1 a b _ _ o2 c d ew
        split at e
        · cases e
          have o3 := wk_ahd ok (o.2 b (by simp)) ew
          refine ⟨fun w' h => ?_, ok2 (n := 2) o.1 rfl (inr' (by simp)) (inl' (o3.2 _ (by simp)))⟩
          rw [List.mem_singleton.mp h]
          exact ok2 o.1 rfl (o.2 _ (by simp)) (o3.2 _ (by simp))
        · cases e
      · cases e
    · cases e
  · cases e
theorem mkok_right (ok : p.Ok) (o : w0.Ok (p.ahd k)) (e : mkRight p t w0 = some (ws, w)) : MkOk p k t u ws w := by
  unfold mkRight at e
  split at e
  · split at e
    · split at e
      · rename_i o1 a b _ _ o2 c d ew
        split at e
        · cases e
          have o3 := wk_ahd ok (o.2 a (by simp)) ew
          refine ⟨fun w' h => ?_, ok2 (n := 2) o.1 rfl (inl' (o3.2 _ (by simp))) (inr' (by simp))⟩
          rw [List.mem_singleton.mp h]
          exact ok2 o.1 rfl (o3.2 _ (by simp)) (o.2 _ (by simp))
        · cases e
      · cases e
    · cases e
  · cases e
theorem mkok_spread (ok : p.Ok) (o : w0.Ok (p.ahd k)) (e : mkSpread p t u w0 = some (ws, w)) : MkOk p k t u ws w := by
  unfold mkSpread at e
  split at e
  · split at e
    · split at e
      · rename_i o1 a b _ _ o2 c d ew
        split at e
        · cases e
          have o3 := wk_ahd ok (o.2 b (by simp)) ew
          refine ⟨fun w' h => ?_, ok2 (n := 2) o3.1 rfl (inr' (by simp)) (inr' (by simp))⟩
          simp only [List.mem_cons, List.not_mem_nil, or_false] at h
          rcases h with rfl | rfl
          · exact ok2 (n := 2) rfl rfl (o.2 _ (by simp)) (o3.2 _ (by simp))
          · exact ok2 (n := 2) rfl rfl (o.2 _ (by simp)) (o3.2 _ (by simp))
        · cases e
      · cases e
    · cases e
  · cases e
theorem mkok_gather (ok : p.Ok) (o : w0.Ok (p.ahd k)) (e : mkGather p t w0 = some (ws, w)) : MkOk p k t u ws w := by
  unfold mkGather at e
  split at e
  · rename_i o1 a b
    split at e
    · unfold mkG at e
      split at e
      · rename_i _ _ _ oa a1 a2 ob b1 b2 ew1 ew2
        split at e
        · cases e
          have o3 := wk_ahd ok (o.2 a (by simp)) ew1
          have o4 := wk_ahd ok (o.2 b (by simp)) ew2
          refine ⟨fun w' h => ?_, ok2 (n := 2) rfl rfl (inl' (o3.2 _ (by simp))) (inr' (by simp))⟩
          rw [List.mem_singleton.mp h]
          exact ok2 o.1 rfl (o3.2 _ (by simp)) (o4.2 _ (by simp))
        · cases e
      · cases e
    · cases e
  · cases e
theorem mkok_twice (o : w0.Ok (p.ahd k)) (e : mkTwice t w0 = some (ws, w)) : MkOk p k t u ws w := by
  unfold mkTwice at e
  split at e
  · split at e
    · cases e
      refine ⟨fun w' h => ?_, ok2 (n := 2) rfl rfl (inl' (o.2 _ (by simp))) (inr' (by simp))⟩
      rw [List.mem_singleton.mp h]
      exact Work.Ok.mono sm2 nofun
    · cases e
  · cases e
theorem mkok_once (o : w0.Ok (p.ahd k)) (e : mkOnce p w0 = some (ws, w)) : MkOk p k t u ws w := by
  unfold mkOnce at e
  split at e
  · split at e
    · cases e
      exact ⟨nofun, ok2 (n := 2) rfl rfl (inl' (o.2 _ (by simp))) (inl' (o.2 _ (by simp)))⟩
    · cases e
  · cases e
theorem mkok_all (ok : p.Ok) (o : w0.Ok (p.ahd k)) (e : mkAll p w0 t u s = some (ws, w)) : MkOk p k t u ws w := by
  unfold mkAll at e
  repeat' split at e
  · exact mkok_swap o e
  · exact mkok_apart o e
  · exact mkok_back ok o e
  · exact mkok_left ok o e
  · exact mkok_right ok o e
  · exact mkok_spread ok o e
  · exact mkok_gather ok o e
  · exact mkok_twice o e
  · exact mkok_once o e
  · cases e
end
theorem isNm_sg {c : Nat} (h : c ∈ LET.cps.toList) {f : Str} (hf : f = "" ∨ f = sg 97 ∨ f = sg 98) : isNm (f ++ sg c) = true := by
  have l97 : (97 : Nat) ∈ LET.cps.toList := by decide +kernel
  have l98 : (98 : Nat) ∈ LET.cps.toList := by decide +kernel
  rcases hf with rfl | rfl | rfl
  · exact isNm_of (by rw [app_len]; show 1 ≤ 0 + 1; omega) (by rw [app_len]; show 0 + 1 ≤ 6; omega) (lt_app (fun c hc => by cases hc) (lt_sg h))
  · exact isNm_of (by rw [app_len]; show 1 ≤ 1 + 1; omega) (by rw [app_len]; show 1 + 1 ≤ 6; omega) (lt_app (lt_sg l97) (lt_sg h))
  · exact isNm_of (by rw [app_len]; show 1 ≤ 1 + 1; omega) (by rw [app_len]; show 1 + 1 ≤ 6; omega) (lt_app (lt_sg l98) (lt_sg h))
theorem fresh_ok {ns : List Str} {t u : Str} (e : fresh ns = [t, u]) : t ≠ u ∧ t ∉ ns ∧ u ∉ ns ∧ isNm t = true ∧ isNm u = true := by
  have h1 : [t, u].Sublist (WDS78.filter fun x => decide (x ∉ ns)) := by
    rw [← grps_eq, ← e]
    exact List.take_sublist _ _
  have nd : [t, u].Nodup := (List.Pairwise.filter _ wds_nodup).sublist h1
  have mt : ∀ x ∈ [t, u], x ∉ ns ∧ isNm x = true := fun x hx => by
    obtain ⟨h2, h3⟩ := List.mem_filter.mp (h1.subset hx)
    refine ⟨of_decide_eq_true h3, ?_⟩
    unfold WDS78 at h2
    rcases List.mem_append.mp h2 with z | z
    · rcases List.mem_append.mp z with z | z
      · obtain ⟨c, hc, rfl⟩ := List.mem_map.mp z
        exact isNm_sg hc (.inl rfl)
      · obtain ⟨c, hc, rfl⟩ := List.mem_map.mp z
        exact isNm_sg hc (.inr (.inl rfl))
    · obtain ⟨c, hc, rfl⟩ := List.mem_map.mp z
      exact isNm_sg hc (.inr (.inr rfl))
  obtain ⟨a1, a2⟩ := mt t (by simp)
  obtain ⟨b1, b2⟩ := mt u (by simp)
  refine ⟨fun z => ?_, a1, b1, a2, b2⟩
  have := (List.nodup_cons.mp nd).1
  rw [z] at this
  simp at this
/-- the program by a turn -/
noncomputable def Prg.trn (p : Prg) (k : Nat) (t u : Str) (ws : List Work) (w : Work) : Prg := ⟨p.ins, p.rows.take k ++ ([t, u].zip ws) ++ ((p.row k).1, w) :: p.rows.drop (k + 1)⟩

/-! turns: the program by a turn is one -/
theorem zip_names (t u : Str) (ws : List Work) : (([t, u].zip ws).map (·.1)).Sublist [t, u] := by
  match ws with
  | [] => exact List.nil_sublist _
  | [a] => exact List.Sublist.cons₂ _ (List.nil_sublist _)
  | a :: b :: _ => exact List.Sublist.refl _
theorem zip_works {t u : Str} {ws : List Work} {r : Str × Work} (h : r ∈ [t, u].zip ws) : r.2 ∈ ws := (List.of_mem_zip h).2
theorem rows_split {p : Prg} {k : Nat} (hk : k < p.rows.length) : p.rows = p.rows.take k ++ p.row k :: p.rows.drop (k + 1) := by
  have := List.take_append_drop k p.rows
  rw [List.drop_eq_getElem_cons hk] at this
  have e : p.rows[k] = p.row k := by
    have h1 := row_at hk
    rw [List.getElem?_eq_getElem hk] at h1
    exact Option.some.inj h1
  rw [e] at this
  exact this.symm
section
variable {p : Prg} {k : Nat} {t u s : Str} {w : Work} {ws : List Work}
theorem trn_len (hk : k < p.rows.length) (l2 : ws.length ≤ 2) : (p.trn k t u ws w).rows.length = p.rows.length + ws.length := by
  unfold Prg.trn
  simp only [List.length_append, List.length_cons, List.length_take, List.length_zip, List.length_drop, List.length_nil]
  omega
theorem trn_ok (ok : p.Ok) (hk : k < p.rows.length) (ef : fresh p.names = [t, u]) (e : mkAll p (p.row k).2 t u s = some (ws, w)) (l : p.rows.length + ws.length ≤ 40) : (p.trn k t u ws w).Ok := by
  have l2 := mk_len (w := (p.row k).2) (w' := w) rfl e.symm
  obtain ⟨m1, m2⟩ := mkok_all ok (row_ok ok hk) e
  obtain ⟨f1, f2, f3, f4, f5⟩ := fresh_ok ef
  have sp := rows_split hk
  have len := trn_len (t := t) (u := u) (w := w) hk l2
  have zn := zip_names t u ws
  have nd := ok.nd
  have nm := ok.nm
  have znot : ∀ x ∈ ([t, u].zip ws).map (·.1), x ∉ p.names ∧ isNm x = true := fun x hx => by
    have := zn.subset hx
    simp only [List.mem_cons, List.not_mem_nil, or_false] at this
    rcases this with rfl | rfl
    · exact ⟨f2, f4⟩
    · exact ⟨f3, f5⟩
  have zw : ∀ r ∈ [t, u].zip ws, r.2.Ok (p.ahd k) := fun r hr => m1 _ (zip_works hr)
  have znd : (([t, u].zip ws).map (·.1)).Nodup := (show [t, u].Nodup by simp [f1]).sublist zn
  have hA : (p.rows.take k).length = k := by rw [List.length_take]; omega
  unfold Prg.names at znot
  refine ⟨ok.i6, by rw [len]; have := ok.r1; omega, by rw [len]; exact l, ?_, ?_, ?_⟩
  · show (p.ins ++ ((p.rows.take k ++ ([t, u].zip ws)) ++ ((p.row k).1, w) :: p.rows.drop (k + 1)).map (·.1)).Nodup
    have e1 : p.ins ++ p.rows.map (·.1) = (p.ins ++ (p.rows.take k).map (·.1)) ++ ((p.row k).1 :: (p.rows.drop (k + 1)).map (·.1)) := by
      have := congrArg (List.map (·.1)) sp
      rw [List.map_append, List.map_cons] at this
      rw [this, List.append_assoc]
    have e2 : p.ins ++ ((p.rows.take k ++ ([t, u].zip ws)) ++ ((p.row k).1, w) :: p.rows.drop (k + 1)).map (·.1) = (p.ins ++ (p.rows.take k).map (·.1)) ++ (([t, u].zip ws).map (·.1) ++ ((p.row k).1 :: (p.rows.drop (k + 1)).map (·.1))) := by
      simp only [List.map_append, List.map_cons, List.append_assoc]
    rw [e1] at nd znot
    rw [e2]
    obtain ⟨n1, n2, n3⟩ := List.nodup_append.mp nd
    refine List.nodup_append.mpr ⟨n1, List.nodup_append.mpr ⟨znd, n2, fun a ha b hb z => ?_⟩, fun a ha b hb z => ?_⟩
    · subst z
      exact (znot a ha).1 (List.mem_append.mpr (.inr hb))
    · subst z
      rcases List.mem_append.mp hb with hb | hb
      · exact (znot a hb).1 (List.mem_append.mpr (.inl ha))
      · exact n3 a ha a hb rfl
  · intro x hx
    have hx : x ∈ p.ins ++ ((p.rows.take k ++ ([t, u].zip ws)) ++ ((p.row k).1, w) :: p.rows.drop (k + 1)).map (·.1) := hx
    simp only [List.map_append, List.map_cons, List.mem_append, List.mem_cons] at hx
    have sub : ∀ y, y ∈ p.rows → y.1 ∈ p.ins ++ p.rows.map (·.1) := fun y hy => List.mem_append.mpr (.inr (List.mem_map_of_mem hy))
    rcases hx with h | (h | h) | h | h
    · exact nm x (List.mem_append.mpr (.inl h))
    · obtain ⟨r, hr, rfl⟩ := List.mem_map.mp h
      exact nm _ (sub r (List.mem_of_mem_take hr))
    · exact (znot x h).2
    · subst h
      exact nm _ (sub _ (List.mem_of_getElem? (row_at hk)))
    · obtain ⟨r, hr, rfl⟩ := List.mem_map.mp h
      exact nm _ (sub r (List.mem_of_mem_drop hr))
  · intro j r hr
    have hr : ((p.rows.take k ++ ([t, u].zip ws)) ++ ((p.row k).1, w) :: p.rows.drop (k + 1))[j]? = some r := hr
    show r.2.Ok (p.ins ++ (((p.rows.take k ++ ([t, u].zip ws)) ++ ((p.row k).1, w) :: p.rows.drop (k + 1)).take j).map (·.1))
    rw [List.append_assoc] at hr ⊢
    generalize hZ : [t, u].zip ws = Z at *
    have asub : ∀ (C : List (Str × Work)) (x : Str), k ≤ j → x ∈ p.ahd k → x ∈ p.ins ++ ((p.rows.take k ++ C).take j).map (·.1) := fun C x kj hx => by
      unfold Prg.ahd at hx
      rw [List.take_append, List.take_of_length_le (by omega), List.map_append]
      rcases List.mem_append.mp hx with z | z
      · exact List.mem_append.mpr (.inl z)
      · exact List.mem_append.mpr (.inr (List.mem_append.mpr (.inl z)))
    by_cases h1 : j < k
    · rw [List.getElem?_append_left (by omega), List.getElem?_take_of_lt h1] at hr
      rw [List.take_append_of_le_length (by omega), List.take_take, Nat.min_eq_left (by omega)]
      exact ok.wk j r hr
    · rw [List.getElem?_append_right (by omega), hA] at hr
      by_cases h2 : j - k < Z.length
      · rw [List.getElem?_append_left h2] at hr
        exact (zw r (List.mem_of_getElem? hr)).mono (asub _ · (by omega))
      · rw [List.getElem?_append_right (by omega)] at hr
        cases hi : j - k - Z.length with
        | zero =>
          rw [hi] at hr
          cases hr
          have ej : j = (p.rows.take k ++ Z).length := by rw [List.length_append]; omega
          rw [← List.append_assoc, ej, List.take_left' rfl, List.map_append, ← List.append_assoc]
          exact m2
        | succ i =>
          rw [hi, List.getElem?_cons_succ, List.getElem?_drop] at hr
          have o := ok.wk _ r hr
          refine o.mono fun x hx => ?_
          rcases List.mem_append.mp hx with z | z
          · exact List.mem_append.mpr (.inl z)
          refine List.mem_append.mpr (.inr ?_)
          have e3 : p.rows.take (k + 1 + i) = p.rows.take k ++ p.row k :: (p.rows.drop (k + 1)).take i := by
            conv => lhs; rw [sp]
            rw [List.take_append, List.take_of_length_le (by omega), hA, show k + 1 + i - k = i + 1 by omega, List.take_succ_cons]
          rw [e3] at z
          rw [List.take_append, List.take_of_length_le (show (p.rows.take k).length ≤ j by omega), hA, List.take_append, List.take_of_length_le (show Z.length ≤ j - k by omega), show j - k - Z.length = i + 1 by omega, List.take_succ_cons]
          simp only [List.map_append, List.map_cons, List.mem_append, List.mem_cons] at z ⊢
          rcases z with z | z | z
          · exact .inl z
          · exact .inr (.inr (.inl z))
          · exact .inr (.inr (.inr z))
end

/-! turns: the program by a turn, told -/
def rwD (r : Str × Work) : Da := .tuple [.str r.1, r.2.da]
theorem tw_in {s : Str} (hs : s ∈ TW) : inF (.str s) [.str "swap", .str "apart", .str "back", .str "left", .str "right", .str "spread", .str "gather", .str "twice", .str "once"] = true := by
  have := inF_strs s TW
  rw [decide_eq_true hs] at this
  exact this
theorem zip_rwD (t u : Str) (ws : List Work) : zipD [.str t, .str u] (ws.map Work.da) = ([t, u].zip ws).map rwD := by
  match ws with
  | [] => rfl
  | [a] => rfl
  | a :: b :: _ => rfl
section
variable {h : Hh} {Q : Vl → Hh → Prop} {E : XP} {p : Prg} {k : Nat} {t u s : Str} {w : Work} {ws : List Work}
theorem wp_is_turn (hk : k < p.rows.length) (r40 : p.rows.length ≤ 40) (hs : s ∈ TW) (q : Q (.d (.bool true)) h) : Wp (m_is_turn [.d p.da, .d (tnD (k, s))] h) Q E := by
  have lr : (p.rows.map fun r => PyData.tuple [PyData.str r.1, r.2.da]).length = p.rows.length := List.length_map ..
  refine en_is_turn ?_
  unfold b_is_turn tnD
  rw [da_rows]
  walk_at "w"
  refine wo_notInT (c := true) rfl (tw_in hs) ?_
  walk_at "w"
  rw [decide_eq_true (by rw [lr]; exact Int.ofNat_lt.mpr hk)] 
  exact q
theorem wp_turned_by (ok : p.Ok) (ef : fresh p.names = [t, u]) (hk : k < p.rows.length) (hs : s ∈ TW) (e : mkAll p (p.row k).2 t u s = some (ws, w)) (l : p.rows.length + ws.length ≤ 40) (q : Q (.d (p.trn k t u ws w).prn.da) h) : Wp (m_turned_by [.d p.da, .d (tnD (k, s))] h) Q E := by
  have lr : (p.rows.map fun r => PyData.tuple [PyData.str r.1, r.2.da]).length = p.rows.length := List.length_map ..
  have r40 := ok.r40
  have i6 := ok.i6
  have em : mdBy p k t u s = some (ws, w) := by
    unfold mdBy cut40
    rw [e]
    exact if_pos l
  have ew : ∀ {N : Vl → Hh → Prop} {h : Hh}, N (.d (.tuple [.str (p.row k).1, (p.row k).2.da])) h → Wo (gIy (.d (.tuple (p.rows.map fun r => PyData.tuple [PyData.str r.1, r.2.da]))) (.d (.int (k : Int))) h) N := fun n => wo_iyT rfl (wo_ixT (rows_at hk) n)
  refine en_turned_by ?_
  unfold b_turned_by
  walk_at "w"
  refine wp_need_program ok ?_
  walk_at "w"
  refine wp_new_names ok ?_
  rw [ef]
  walk_at "w"
  refine wp_is_turn hk r40 hs ?_
  unfold tnD
  walk_at "w"
  refine wp_made_by ok hk hs ?_
  rw [em]
  simp only [mkR]
  walk_at "w"
  refine wo_lzLL ?_
  rw [show List.map PyData.str [t, u] = [.str t, .str u] from rfl, zip_rwD]
  rw [da_rows]
  walk_at "w"
  have l2 := mk_len (w := (p.row k).2) (w' := w) rfl e.symm
  have lz : (([t, u].zip ws).map rwD).length ≤ 2 := by rw [List.length_map, List.length_zip]; exact Nat.min_le_left _ _
  rw [cut_to, ← List.map_take]
  have lt : ((p.rows.take k).map fun r => PyData.tuple [PyData.str r.1, r.2.da]).length ≤ 40 := by rw [List.length_map, List.length_take]; omega
  have ld : ((p.rows.drop (k + 1)).map fun r => PyData.tuple [PyData.str r.1, r.2.da]).length ≤ 40 := by rw [List.length_map, List.length_drop]; omega
  refine wo_addL (by omega) ?_
  walk_at "w"
  refine ew ?_
  walk_at "w"
  refine wo_addL (by rw [List.length_append, List.length_singleton]; omega) ?_
  walk_at "w"
  rw [show (k : Int) + 1 = ((k + 1 : Nat) : Int) by omega, cut_from, ← List.map_drop]
  refine wo_addL (by rw [List.length_append, List.length_append, List.length_singleton]; omega) ?_
  walk_at "w"
  refine wo_tupPL ?_
  walk_at "w"
  have et : (.tuple [.tuple (p.ins.map PyData.str), ptD (((p.rows.take k).map fun r => PyData.tuple [PyData.str r.1, r.2.da]) ++ ([t, u].zip ws).map rwD ++ [PyData.tuple [PyData.str (p.row k).1, w.da]] ++ (p.rows.drop (k + 1)).map fun r => PyData.tuple [PyData.str r.1, r.2.da])] : Da) = (p.trn k t u ws w).da := by
    rw [da_rows]
    unfold Prg.trn
    dsimp only
    rw [List.map_append, List.map_append, List.map_cons, List.append_assoc, List.append_assoc, List.append_assoc]
    rfl
  rw [et]
  refine wp_pruned (trn_ok ok hk ef e l) ?_
  walk_at "w"
  exact q
end

/-! turns: what the law wants of a program -/
def wantL (p : Prg) : Nat → List Str
  | 0 => match p.rows[p.rows.length - 1]? with
    | some r => [r.1]
    | none => []
  | i + 1 => match p.rows[p.rows.length - 1 - i]? with
    | some r => if r.1 ∈ wantL p i then wantL p i ++ r.2.asks else wantL p i
    | none => wantL p i
theorem want_mono (p : Prg) (i : Nat) : ∀ x ∈ wantL p i, x ∈ wantL p (i + 1) := fun x hx => by
  show x ∈ (match p.rows[p.rows.length - 1 - i]? with
    | some r => if r.1 ∈ wantL p i then wantL p i ++ r.2.asks else wantL p i
    | none => wantL p i)
  split
  · split
    · exact List.mem_append.mpr (.inl hx)
    · exact hx
  · exact hx
theorem want_le (p : Prg) {i j : Nat} (h : i ≤ j) : ∀ x ∈ wantL p i, x ∈ wantL p j := by
  induction h with
  | refl => exact fun _ h => h
  | step h ih => exact fun x hx => want_mono p _ x (ih x hx)
theorem want_nd {p : Prg} (ok : p.Ok) (i : Nat) (hi : i ≤ p.rows.length) : ∀ x ∈ wantL p i, ∀ k, p.plc x = some k → p.Nd k := by
  induction i with
  | zero =>
    intro x hx k ek
    have r1 := ok.r1
    unfold wantL at hx
    split at hx
    · rename_i r er
      rw [List.mem_singleton] at hx
      subst hx
      obtain ⟨r', er', en⟩ := (plc_iff ok).mp ek
      have : k = p.rows.length - 1 := by
        have hk := (List.getElem?_eq_some_iff.mp er').1
        refine row_name_inj ok hk (by omega) ?_
        rw [row_get er', row_get er]
        exact en
      rw [this]
      exact .last
    · cases hx
  | succ i ih =>
    intro x hx k ek
    have ih := ih (by omega)
    unfold wantL at hx
    split at hx
    · rename_i r er
      split at hx
      · rename_i hm
        rcases List.mem_append.mp hx with z | z
        · exact ih x z k ek
        · have pr : p.plc r.1 = some (p.rows.length - 1 - i) := (plc_iff ok).mpr ⟨r, er, rfl⟩
          refine .step (ih _ hm _ pr) ?_
          unfold Prg.adj
          rw [er]
          exact List.mem_filterMap.mpr ⟨x, z, ek⟩
      · exact ih x hx k ek
    · exact ih x hx k ek
theorem nd_want {p : Prg} (ok : p.Ok) {k : Nat} (n : p.Nd k) : (p.row k).1 ∈ wantL p (p.rows.length - 1 - k) := by
  induction n with
  | last =>
    have r1 := ok.r1
    rw [Nat.sub_self]
    unfold wantL
    rw [row_at (show p.rows.length - 1 < p.rows.length by omega)]
    simp
  | @step j k n hk ih =>
    obtain ⟨h1, h2⟩ := adj_lt ok hk
    unfold Prg.adj at hk
    rw [row_at h2] at hk
    obtain ⟨x, hx, ex⟩ := List.mem_filterMap.mp hk
    obtain ⟨r, er, en⟩ := (plc_iff ok).mp ex
    rw [row_get er, en]
    refine want_le p (i := p.rows.length - 1 - j + 1) (by omega) x ?_
    unfold wantL
    rw [show p.rows.length - 1 - (p.rows.length - 1 - j) = j by omega, row_at h2]
    dsimp only
    rw [if_pos ih]
    exact List.mem_append.mpr (.inr hx)
theorem want_rows {p : Prg} (ok : p.Ok) : p.rows.filter (fun r => decide (r.1 ∈ wantL p p.rows.length)) = p.prn.rows := by
  unfold Prg.prn Prg.ndL
  dsimp only
  have e : p.rows = (List.range p.rows.length).map p.row := by
    apply List.ext_getElem?
    intro i
    rw [List.getElem?_map]
    by_cases hi : i < p.rows.length
    · rw [List.getElem?_range hi, row_at hi]
      rfl
    · rw [List.getElem?_eq_none_iff.mpr (by omega), List.getElem?_eq_none_iff.mpr (by rw [List.length_range]; omega)]
      rfl
  conv => lhs; arg 2; rw [e]
  rw [List.filter_map]
  congr 1
  apply List.filter_congr
  intro k hk
  have hk := List.mem_range.mp hk
  show decide ((p.row k).1 ∈ wantL p p.rows.length) = p.ndB k
  rw [Bool.eq_iff_iff, decide_eq_true_iff, ndB_iff]
  constructor
  · intro h
    exact want_nd ok _ (Nat.le_refl _) _ h k ((plc_iff ok).mpr ⟨_, row_at hk, rfl⟩)
  · intro h
    exact want_le p (by omega) _ (nd_want ok h)
theorem want_len {p : Prg} (ok : p.Ok) (i : Nat) : (wantL p i).length ≤ 1 + 4 * i := by
  induction i with
  | zero =>
    unfold wantL
    split
    · simp
    · simp
  | succ i ih =>
    unfold wantL
    split
    · rename_i r er
      split
      · have o := ok.wk _ r er
        rw [List.length_append]
        have : r.2.asks.length ≤ 4 := by
          cases hr : r.2 with
          | num r => simp [Work.asks]
          | op w xs =>
            rw [hr] at o
            exact (wants_n o.1).2.2.1
        omega
      · omega
    · omega

/-! turns: the law's program by a turn -/
theorem wo_inL {Q : Vl → Hh → Prop} {h : Hh} {x : Str} {xs : List Str} (q : Q (.d (.bool (decide (x ∈ xs)))) h) : Wo (gIn false (.d (.str x)) (.d (.list (xs.map PyData.str))) h) Q := by
  have fl : (flatD (.str x) && (xs.map PyData.str).all flatD) = true := by
    rw [Bool.and_eq_true]
    exact ⟨rfl, flat_strs xs⟩
  refine wo_eq (v := .d (.bool (decide (x ∈ xs)))) (h' := h) ?_ q
  show (if (flatD (.str x) && (xs.map PyData.str).all flatD) = true then some (Vl.d (.bool (if false = true then !inF (.str x) (xs.map PyData.str) else inF (.str x) (xs.map PyData.str))), h) else none) = _
  rw [if_pos fl, if_neg (by decide), inF_strs]
section
variable {h : Hh} {Q : Vl → Hh → Prop} {E : XP} {p : Prg} {k : Nat} {t u s : Str} {w : Work} {ws : List Work}
theorem set_mid {α β : Type} (f : α → β) {rows : List α} {k : Nat} (hk : k < rows.length) (x : β) : (rows.map f).set k x = (rows.take k).map f ++ x :: (rows.drop (k + 1)).map f := by
  rw [List.set_eq_take_append_cons_drop, if_pos (by rw [List.length_map]; exact hk), List.map_take, List.map_drop]
theorem wo_ixLlast {Q : Vl → Hh → Prop} {h : Hh} {ds : List Da} {v : Da} (e : ds[ds.length - 1]? = some v) (q : Q (.d v) h) : Wo (gIx (.d (.list ds)) (.d (.int (-1))) h) Q := by
  refine wo_eq (v := .d v) (h' := h) ?_ q
  have hd := (List.getElem?_eq_some_iff.mp e).1
  show (atI ds (-((1 : Nat) : Int))).map _ = _
  rw [atI_neg (v := v) (by decide) (by omega) e]
  rfl
/-- one row looked at from behind -/
theorem w_want {p : Prg} (ok : p.Ok) {i : Nat} {r : Str × Work} (er : p.rows[p.rows.length - 1 - i]? = some r) (hi : i < p.rows.length) {a0 a1 a2 a3 a4 a5 a7 a10 : Option Vl} {N : En → Hh → Prop} {D : Ds}
    (q : N [a0, a1, a2, a3, a4, a5, some (.d r.2.da), a7, some (.d (.list ((wantL p (i + 1)).map PyData.str))), some (.d (.str r.1)), a10] h) :
    Ws (bl__law_turned_1 [a0, a1, a2, a3, a4, a5, some (.d r.2.da), a7, some (.d (.list ((wantL p i).map PyData.str))), some (.d (.str r.1)), a10] h) N D := by
  have wl := want_len ok i
  have r40 := ok.r40
  have e1 : wantL p (i + 1) = if r.1 ∈ wantL p i then wantL p i ++ r.2.asks else wantL p i := by
    conv => lhs; unfold wantL
    rw [er]
  have o := ok.wk _ r er
  rw [e1] at q
  unfold bl__law_turned_1
  walk_at "w"
  refine wo_inL ?_
  walk_at "w"
  · rename_i hm
    rw [if_pos hm] at q
    cases hw : r.2 with
    | num x =>
      rw [hw] at q
      simp only [Work.da, Work.asks, List.append_nil] at q ⊢
      walk_at "w"
      exact q
    | op o' xs =>
      rw [hw] at o q
      obtain ⟨s1, s2⟩ := o
      obtain ⟨w1, w2, w3, w4⟩ := wants_n s1
      simp only [Work.da, Work.asks] at q ⊢
      walk_at "w"
      rw [List.map_append] at q
      exact q
  · rename_i hm
    rw [if_neg hm] at q
    exact q
theorem wp_lturned (ok : p.Ok) (ef : fresh p.names = [t, u]) (hk : k < p.rows.length) (hs : s ∈ TW) (e : mkAll p (p.row k).2 t u s = some (ws, w)) (l : p.rows.length + ws.length ≤ 40) (q : Q (.d (p.trn k t u ws w).prn.da) h) : Wp (m__law_turned [.d p.da, .d (tnD (k, s))] h) Q E := by
  have lr : (p.rows.map fun r => PyData.tuple [PyData.str r.1, r.2.da]).length = p.rows.length := List.length_map ..
  have r40 := ok.r40
  have l2 := mk_len (w := (p.row k).2) (w' := w) rfl e.symm
  have ok' := trn_ok ok hk ef e l
  have len' := trn_len (t := t) (u := u) (w := w) hk l2
  refine en__law_turned ?_
  unfold b__law_turned tnD
  walk_at "w"
  refine wp_lfresh ok ?_
  rw [ef]
  walk_at "w"
  refine wp_lmade ok hk hs ?_
  rw [e]
  simp only [mkR]
  walk_at "w"
  rw [da_rows]
  walk_at "w"
  refine wo_iyR get_end (v := .tuple [.str (p.row k).1, (p.row k).2.da]) (rows_at hk) ?_
  walk_at "w"
  have lz : (([t, u].zip ws).map rwD).length ≤ 2 := by rw [List.length_map, List.length_zip]; exact Nat.min_le_left _ _
  have lA : ((p.rows.take k).map fun r => PyData.tuple [PyData.str r.1, r.2.da]).length = k := by rw [List.length_map, List.length_take]; omega
  have lB : ((p.rows.drop (k + 1)).map fun r => PyData.tuple [PyData.str r.1, r.2.da]).length ≤ 40 := by rw [List.length_map, List.length_drop]; omega
  refine ex_setLE rfl (by rw [lr]; exact hk) ?_
  rw [set_mid _ hk]
  walk_at "w"
  rw [cut_to, List.take_left' lA]
  refine wo_lzLL ?_
  rw [show List.map PyData.str [t, u] = [.str t, .str u] from rfl, zip_rwD]
  walk_at "w"
  rw [cut_from, List.drop_left' lA]
  refine wo_addL (by rw [List.length_append, List.length_cons]; omega) ?_
  walk_at "w"
  have er : ((p.rows.take k).map fun r => PyData.tuple [PyData.str r.1, r.2.da]) ++ ([t, u].zip ws).map rwD ++ PyData.tuple [PyData.str (p.row k).1, w.da] :: (p.rows.drop (k + 1)).map (fun r => PyData.tuple [PyData.str r.1, r.2.da]) = (p.trn k t u ws w).rows.map rwD := by
    unfold Prg.trn
    dsimp only
    rw [List.map_append, List.map_append, List.map_cons]
    rfl
  rw [er]
  have ei : (p.trn k t u ws w).ins = p.ins := rfl
  generalize p.trn k t u ws w = p' at *
  have r1 := ok'.r1
  obtain ⟨rl, erl⟩ : ∃ r, p'.rows[p'.rows.length - 1]? = some r := ⟨_, row_at (by omega)⟩
  refine wo_ixLlast (v := rwD rl) (by rw [List.length_map, List.getElem?_map, erl]; rfl) ?_
  unfold rwD
  walk_at "w"
  refine wo_rvL (by rw [List.length_map]; have := ok'.r40; omega) ?_
  walk_at "w"
  refine forK_inv (I := fun i ρ1 h1 => ∃ a6 a9, ρ1 = [some (.d (.tuple [.tuple (p.ins.map PyData.str), ptD (p.rows.map fun r => .tuple [.str r.1, r.2.da])])), some (.d (.tuple [.int (k : Int), .str s])), some (.d (.int (k : Int))), some (.d (.str s)), some (.d (.list [.str t, .str u])), some (.d (.list (ws.map Work.da))), a6, some (.d (.list (p'.rows.map fun r => .tuple [.str r.1, r.2.da]))), some (.d (.list ((wantL p' i).map PyData.str))), a9, none] ∧ h1 = h ++ [none]) ?_ ?_ ?_
  · refine ⟨some (.d w.da), none, ?_, rfl⟩
    unfold wantL
    rw [erl]
    rfl
  · rintro i d ρ1 h1 ed ⟨a6, a9, rfl, rfl⟩
    have hi : i < p'.rows.length := by
      have := (List.getElem?_eq_some_iff.mp ed).1
      rw [List.length_reverse, List.length_map] at this
      exact this
    rw [List.getElem?_reverse (by rw [List.length_map]; exact hi), List.length_map, List.getElem?_map, row_at (show p'.rows.length - 1 - i < p'.rows.length by omega)] at ed
    cases ed
    walk_at "w"
    exact w_want ok' (row_at (show p'.rows.length - 1 - i < p'.rows.length by omega)) hi ⟨_, _, rfl, rfl⟩
  · rintro ρ1 h1 ⟨a6, a9, rfl, rfl⟩
    rw [List.length_reverse, List.length_map]
    walk_at "w"
    refine wp_lcT p'.rows (fun r => .tuple [.str r.1, r.2.da]) (fun r => .tuple [.str r.1, r.2.da]) (fun r => decide (r.1 ∈ wantL p' p'.rows.length)) (by walk_at "wipe") ?_
    walk_at "w"
    refine ⟨rfl, by have := ok'.r40; omega, rfl, fun r hr h' => ?_, ?_⟩
    · walk_at "w"
      refine ⟨rfl, ?_, fun _ => ?_⟩
      · walk_at "w"
        refine wo_inL ?_
        exact ⟨_, rfl, rfl, rfl⟩
      · walk_at "w"
        exact ⟨rfl, rfl⟩
    rw [want_rows ok']
    walk_at "w"
    refine wo_tupPL ?_
    walk_at "w"
    have : p'.prn.da = .tuple [.tuple (p.ins.map PyData.str), ptD (p'.prn.rows.map fun r => .tuple [.str r.1, r.2.da])] := by
      rw [da_rows, ← ei]
      rfl
    rw [this] at q
    exact q
end

/-! turns: the law of programs by turns -/
section
variable {h : Hh} {Q : Vl → Hh → Prop} {E : XP} {p : Prg} {k : Nat} {t u s : Str}
theorem upV_prg (p : Prg) : upV (.d p.da) = .d p.daT := by
  show Vl.d (upD p.da) = _
  rw [upD_prg]
theorem allT_made {z : Nat × Str} {n : Nat} (h : z ∈ allT p t u n) : ∃ ws w, mkAll p (p.row z.1).2 t u z.2 = some (ws, w) ∧ p.rows.length + ws.length ≤ 40 := by
  unfold allT at h
  obtain ⟨k, hk, hz⟩ := List.mem_flatMap.mp h
  obtain ⟨s, hs, rfl⟩ := List.mem_map.mp hz
  have h2 := (List.mem_filter.mp hs).2
  dsimp only
  unfold mdBy cut40 at h2
  cases e : mkAll p (p.row k).2 t u s with
  | none => rw [e] at h2; cases h2
  | some z =>
    obtain ⟨ws, w⟩ := z
    rw [e] at h2
    dsimp only at h2
    by_cases l : p.rows.length + ws.length ≤ 40
    · exact ⟨ws, w, rfl, l⟩
    · rw [if_neg l] at h2
      cases h2
theorem wp_lright51 (ok : p.Ok) (q : Q (.d (.bool true)) h) : Wp (m__law_right [.d p.da] h) Q E := by
  obtain ⟨t, u, ef⟩ := fresh_two (ns := p.names) (by have := ok.len; omega)
  have al := allT_len p t u p.rows.length
  have r40 := ok.r40
  have sl : ((allT p t u p.rows.length).map tnD).length ≤ 1000 := by
    rw [List.length_map]
    omega
  refine en__law_right ?_
  unfold b__law_right bl__law_right_1
  walk_at "w"
  refine wp_upA ?_
  walk_at "w"
  rw [upV_prg]
  refine wo_reprL (prg_shw ok) (by decide) (by decide) ?_
  walk_at "w"
  refine wp_lall ok ef ?_
  walk_at "w"
  refine wo_rvL (by omega) ?_
  walk_at "w"
  refine wo_addL (by rw [List.length_reverse]; omega) ?_
  walk_at "w"
  rw [← List.map_reverse, ← List.map_append]
  refine forK_inv (I := fun i ρ1 h1 => ∃ a3, ρ1 = [some (.d p.da), some (.d (.str p.daT.shown)), some (.d (.list ((allT p t u p.rows.length).map tnD))), a3] ∧ h1 = h) ⟨_, rfl, rfl⟩ ?_ ?_
  · rintro i d ρ1 h1 ed ⟨a3, rfl, rfl⟩
    rw [List.getElem?_map] at ed
    cases ez : (allT p t u p.rows.length ++ (allT p t u p.rows.length).reverse)[i]? with
    | none => rw [ez] at ed; cases ed
    | some z =>
      rw [ez] at ed
      cases ed
      have hz : z ∈ allT p t u p.rows.length := by
        rcases List.mem_append.mp (List.mem_of_getElem? ez) with m | m
        · exact m
        · exact List.mem_reverse.mp m
      obtain ⟨k, s⟩ := z
      obtain ⟨hk, hs⟩ := allT_mem hz
      obtain ⟨ws, w, e, l⟩ := allT_made hz
      have ok' := prn_ok (trn_ok ok hk ef e l)
      walk_at "w"
      refine wp_upA ?_
      walk_at "w"
      refine wp_turned_by ok ef hk hs e l ?_
      rw [upV_prg]
      walk_at "w"
      refine wo_reprL (prg_shw ok') (by decide) (by decide) ?_
      walk_at "w"
      refine wp_upA ?_
      walk_at "w"
      refine wp_lturned ok ef hk hs e l ?_
      rw [upV_prg]
      walk_at "w"
      refine wo_reprL (prg_shw ok') (by decide) (by decide) ?_
      walk_at "w"
      exact ⟨_, rfl, rfl⟩
  · rintro ρ1 h1 ⟨a3, rfl, rfl⟩
    walk_at "w"
    refine wp_upA ?_
    walk_at "w"
    rw [upV_prg]
    refine wo_reprL (prg_shw ok) (by decide) (by decide) ?_
    walk_at "w"
    exact q
/-! programs that have all letters for names -/
def okB (ns : List Str) : Work → Bool
  | .num _ => false
  | .op w xs => (match seek d_WANTS w with | some (.int k) => decide (k = (xs.length : Nat)) | _ => false) && xs.all fun x => decide (x ∈ ns)
theorem okB_ok {ns : List Str} {w : Work} (e : okB ns w = true) : w.Ok ns := by
  cases w with
  | num r => cases e
  | op o xs =>
    unfold okB at e
    rw [Bool.and_eq_true] at e
    obtain ⟨e1, e2⟩ := e
    refine ⟨?_, fun x hx => of_decide_eq_true (List.all_eq_true.mp e2 x hx)⟩
    split at e1
    · rename_i k ek
      rw [ek, of_decide_eq_true e1]
    · cases e1
def okP (p : Prg) : Bool := decide ((p.ins ++ p.rows.map (·.1)).Nodup ∧ (∀ x ∈ p.ins ++ p.rows.map (·.1), isNm x = true) ∧ p.ins.length ≤ 6 ∧ 1 ≤ p.rows.length ∧ p.rows.length ≤ 40) && (List.range p.rows.length).all fun k => match p.rows[k]? with | some r => okB (p.ins ++ (p.rows.take k).map (·.1)) r.2 | none => true
theorem okP_ok {p : Prg} (e : okP p = true) : p.Ok := by
  unfold okP at e
  rw [Bool.and_eq_true] at e
  obtain ⟨e1, e2⟩ := e
  obtain ⟨h1, h2, h3, h4, h5⟩ := of_decide_eq_true e1
  refine ⟨h3, h4, h5, h1, h2, fun k r er => ?_⟩
  have hk := (List.getElem?_eq_some_iff.mp er).1
  have := List.all_eq_true.mp e2 k (List.mem_range.mpr hk)
  rw [er] at this
  exact okB_ok this
def SGN : List Nat := ("bcdefghijklmnopqrstuvw" : Str).cps.toList
def LN : List Str := sg 97 :: SGN.map sg
def LW : List Work := .op "plus" ["y", "y"] :: LN.map fun x => .op "turned" [x]
def rowsX (n : Nat) : List (Str × Work) := (LN.zip LW).take (n + 1)
def restX (la ah : Work) : List (Str × Work) := [("x", ah), ("z", la)]
def prgX (la ah : Work) : Prg := ⟨["y"], rowsX 22 ++ restX la ah⟩
theorem rowsX_all : ∀ m < 22, (rowsX m).length = m + 1 ∧ (rowsX m)[m]?.map (·.1) = LN[m]? := by decide +kernel
theorem rowsX_succ {n : Nat} {c : Nat} (h : SGN[n]? = some c) : ∃ l, (rowsX n)[(rowsX n).length - 1]? = some l ∧ (rowsX n).length = n + 1 ∧ rowsX (n + 1) = rowsX n ++ [(sg c, .op "turned" [l.1])] := by
  have hn : n < 22 := (List.getElem?_eq_some_iff.mp h).1
  obtain ⟨h1, h2⟩ := rowsX_all n hn
  obtain ⟨l, el⟩ : ∃ l, (rowsX n)[n]? = some l := ⟨_, List.getElem?_eq_getElem (by omega)⟩
  refine ⟨l, by rw [h1]; exact el, h1, ?_⟩
  rw [el] at h2
  have e2 : (LN.zip LW)[n + 1]? = some (sg c, Work.op "turned" [l.1]) := by
    rw [List.getElem?_zip_eq_some]
    refine ⟨?_, ?_⟩
    · show (SGN.map sg)[n]? = _
      rw [List.getElem?_map, h]
      rfl
    · show (LN.map fun x => Work.op "turned" [x])[n]? = _
      rw [List.getElem?_map, ← h2]
      rfl
  unfold rowsX
  rw [List.take_add_one, e2]
  rfl
theorem wo_ixRlast {n : Nat} {ds : List Da} {v : Da} (eh : h[n]? = some (some (.lst ds))) (e : ds[ds.length - 1]? = some v) (q : Q (.d v) h) : Wo (gIx (.r n) (.d (.int (-1))) h) Q := by
  refine wo_eq (v := .d v) (h' := h) ?_ q
  have hd := (List.getElem?_eq_some_iff.mp e).1
  unfold gIx asL
  dsimp only
  rw [eh]
  dsimp only
  rw [show (-1 : Int) = -((1 : Nat) : Int) from rfl, atI_neg (v := v) (by decide) (by omega) e]
  rfl
theorem wp_ivS {f : Ev} {ρ : En} {QI : Itm → Hh → Prop} (w : Wp (f ρ h) (fun v h1 => Wp (itS v h1) QI E) E) : Wp (iv itS f ρ h) QI E := wp_bind w
theorem wp_llettered {la ah : Work} (q : Q (.d (prgX la ah).da) h) : Wp (m__law_lettered [.d la.da, .d ah.da] h) Q E := by
  refine en__law_lettered ?_
  unfold b__law_lettered bl__law_lettered_1
  walk_at "w"
  refine wp_ivS ?_
  walk_at "w"
  have es : sgn "bcdefghijklmnopqrstuvw" = SGN.map fun c => PyData.str (sg c) := rfl
  rw [es]
  refine forK_inv (I := fun i ρ1 hh => ∃ a3, ρ1 = [some (.d la.da), some (.d ah.da), some (.r h.length), a3] ∧ hh = h ++ [some (.lst ((rowsX i).map rwD))]) ⟨_, rfl, rfl⟩ ?_ ?_
  · rintro i d ρ1 hh ed ⟨a3, rfl, rfl⟩
    rw [List.getElem?_map] at ed
    cases ec : SGN[i]? with
    | none => rw [ec] at ed; cases ed
    | some c =>
      rw [ec] at ed
      cases ed
      obtain ⟨l, e1, e2, e3⟩ := rowsX_succ ec
      have hi : i < 22 := (List.getElem?_eq_some_iff.mp ec).1
      have lr : ((rowsX i).map rwD).length ≤ 40 := by rw [List.length_map]; omega
      dsimp only at *
      walk_at "w"
      refine wo_ixRlast get_end (v := rwD l) (by rw [List.length_map, List.getElem?_map, e1]; rfl) ?_
      unfold rwD
      walk_at "w"
      refine ⟨_, rfl, ?_⟩
      rw [e3, List.map_append]
      rfl
  · rintro ρ1 hh ⟨a3, rfl, rfl⟩
    rw [List.length_map, show SGN.length = 22 by decide +kernel]
    have lr : ((rowsX 22).map rwD).length ≤ 40 := by decide +kernel
    walk_at "w"
    refine wo_tupPL ?_
    walk_at "w"
    have e : (.tuple [.tuple [.str "y"], ptD ((rowsX 22).map rwD ++ [PyData.tuple [.str "x", ah.da], PyData.tuple [.str "z", la.da]])] : Da) = (prgX la ah).da := by
      rw [da_rows]
      unfold prgX
      dsimp only
      rw [List.map_append]
      rfl
    rw [e]
    exact q
theorem prgX_ok1 : (prgX (.op "less" ["x", "y"]) (.op "turned" ["w"])).Ok := okP_ok (by decide +kernel)
theorem prgX_ok2 : (prgX (.op "times" ["y", "x"]) (.op "plus" ["w", "y"])).Ok := okP_ok (by decide +kernel)
def P2 : Prg := ⟨["x", "y"], [("s", .op "times" ["x", "y"]), ("t", .op "plus" ["s", "s"])]⟩
theorem P2_ok : P2.Ok := okP_ok (by decide +kernel)
end

/-! turns: the law of programs by turns, whole -/
theorem set_same {h : Hh} {m : Nat} {o : Option Ob} (e : h[m]? = some o) : h.set m o = h := by
  apply List.ext_getElem?
  intro i
  by_cases hi : m = i
  · subst hi
    rw [e, List.getElem?_set_self (List.getElem?_eq_some_iff.mp e).1]
  · rw [List.getElem?_set_ne hi]
theorem rg3_ok {j : Int} (h0 : 1 ≤ j) (h1 : j ≤ 63) : rgC 0 j 3 = true ∧ (Builtin.Range.rangeSize 0 j 3).toNat ≤ 21 := by
  have e : Builtin.Range.rangeSize 0 j 3 = (j - 1) / 3 + 1 := by
    unfold Builtin.Range.rangeSize
    rw [if_pos (by decide), if_pos (by omega)]
    omega
  refine ⟨?_, by rw [e]; omega⟩
  unfold rgC Builtin.Range.small
  rw [e]
  simp only [Builtin.Range.rangeFitsLong, Bool.and_eq_true, Bool.or_eq_true, decide_eq_true_eq, beq_iff_eq]
  have p : (2 : Int) ^ 63 = 9223372036854775808 := by decide
  refine ⟨by decide, by decide, ?_⟩
  rw [if_pos (by decide)]
  simp only [p, Bool.and_eq_true, decide_eq_true_eq]
  omega
section
variable {h : Hh} {Q : Vl → Hh → Prop} {E : XP}
theorem law_true (ns : List Int) (hl : ns.length ≤ 63) : m_law [.d (.list (ns.map PyData.int))] [] = .ok (.d (.bool true)) [] := by
  have ln : (ns.map PyData.int).length = ns.length := List.length_map ..
  refine eq_of_wp ?_
  refine en_law ?_
  unfold b_law bl_law_1
  walk_at "w"
  refine wp_llettered (la := .op "less" ["x", "y"]) (ah := .op "turned" ["w"]) ?_
  walk_at "w"
  refine wp_llettered (la := .op "times" ["y", "x"]) (ah := .op "plus" ["w", "y"]) ?_
  walk_at "w"
  have eL : ∀ (a b : Prg), [a.da, b.da] = [a, b].map Prg.da := fun _ _ => rfl
  rw [eL]
  refine wp_lcX [prgX (.op "less" ["x", "y"]) (.op "turned" ["w"]), prgX (.op "times" ["y", "x"]) (.op "plus" ["w", "y"])] Prg.da (fun _ => .bool true) (fun _ => true) "" [] (by walk_at "wipe") ?_
  walk_at "w"
  refine ⟨rfl, by decide, rfl, fun p hp h' => ?_, fun _ => ?_, fun z => ?_⟩
  · have ok : p.Ok := by
      simp only [List.mem_cons, List.not_mem_nil, or_false] at hp
      rcases hp with rfl | rfl
      · exact prgX_ok1
      · exact prgX_ok2
    walk_at "w"
    refine ⟨rfl, ?_⟩
    walk_at "w"
    refine wp_lright51 ok ?_
    exact ⟨rfl, rfl, rfl⟩
  · walk_at "w"
    refine wo_allT _ ?_
    walk_at "w"
    refine wp_lright51 (p := P2) P2_ok ?_
    walk_at "w"
    refine wp_rng3 ?_
    walk_at "w"
    obtain ⟨g1, g2⟩ := rg3_ok (j := max 1 (min 63 ((ns.map PyData.int).length : Int))) (by omega) (by omega)
    refine ⟨_, _, _, rfl, g1, ?_⟩
    generalize (Builtin.Range.rangeSize 0 (max 1 (min 63 ((ns.map PyData.int).length : Int))) 3).toNat = r at g2 ⊢
    refine forK_inv (fun _ ρ h => ∃ a1 a2 a3 a4, ρ = [some (.d (.list (ns.map PyData.int))), a1, a2, a3, a4]) ⟨_, _, _, _, rfl⟩ ?_ ?_
    · rintro k d ρ1 h1 ek ⟨a1, a2, a3, a4, rfl⟩
      obtain ⟨hk, rfl⟩ : k < r ∧ d = .int ((3 * k : Nat) : Int) := by
        unfold rngC at ek
        rw [List.getElem?_map] at ek
        cases e : (List.range r)[k]? with
        | none => rw [e] at ek; cases ek
        | some z =>
          rw [e] at ek
          obtain ⟨z1, z2⟩ := List.getElem?_eq_some_iff.mp e
          rw [List.getElem_range] at z2
          subst z2
          cases ek
          exact ⟨by simpa using z1, by show PyData.int _ = PyData.int _; rw [show 0 + (k : Int) * 3 = ((3 * k : Nat) : Int) by omega]⟩
      walk_at "w"
      refine wp_state ns (by omega) (by omega) fun S st => ?_
      walk_at "w"
      have gs : (h1 ++ [some (Ob.dct S)])[h1.length]? = some (some (Ob.dct S)) := by
        rw [List.getElem?_append_right (Nat.le_refl _), Nat.sub_self]
        rfl
      rw [← set_same gs]
      refine wp_lany_program (m := 7) st (by simp) (by decide) (by decide) (by decide) fun p S' ok _ st' => ?_
      walk_at "w"
      refine wp_lright51 ok ?_
      walk_at "w"
      exact ⟨_, _, _, _, rfl⟩
    · rintro ρ1 h1 ⟨a1, a2, a3, a4, rfl⟩
      walk_at "w"
      exact retK_nil ⟨rfl, rfl⟩
  · cases z
end

end Lw
open PySem PySem.W PySem.Calls PyProof.Rows
theorem PySem.Challenge.cw_roundsure_k51_programs_by_turns_holds : PySem.Challenge.rw_roundsure_k51_programs_by_turns.Holds := by
  refine Lw.early ?_
  refine Rk.walkG (l := PySem.Challenge.rw_roundsure_k51_programs_by_turns) (n := 63) (k := 11) (x := "_law_script") rfl (by decide) (by kernel_rfl) ⟨⟨rfl, by decide, by decide⟩, rfl⟩ ?F
  intro w mg fa h Y G hmg0
  obtain ⟨K, KX, c, tw⟩ := Y
  have hmg : mg ("law" : PySem.Str) = some (.ref fa) := by
    have e : (HandSHeadRun.topDef (OpenLaw.row PySem.Challenge.rw_roundsure_k51_programs_by_turns).prog 62).name = ("law" : PySem.Str) := by kernel_rfl
    rw [← e]
    exact hmg0
  obtain ⟨fd, hb, hF⟩ := Lw.facts (P := (PySem.Challenge.rw_roundsure_k51_programs_by_turns).prog) (w := w) KX G hmg c tw
  exact ⟨K, fd, Rk.spF K mg Lw.m_law, KX, hb, fun H a ns hl _ hS => Rk.law_sp hS (Lw.law_true ns hl), hF⟩
#print axioms PySem.Challenge.cw_roundsure_k51_programs_by_turns_holds
