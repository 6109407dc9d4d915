import PyProof.Rows.All
import Wide.All
import OpenK.AllK
import Wide.FinOn
import KE.KStateDown
import HandS.ForMost
import HandS.Exc
import HandS.ExcOwn
import HandS.TryOnly
import HandS.WordsExc
import HandS.CallSlots
import HandS.Wide
import HandS.WideBits
import HandS.IsInst
import HandS.Flow
import HandS.TupAny
import HandS.Style
import HandS.Deep
import HandS.Zip
import HandS.Comp
import HandS.Lambda
import KE.KNestM
import HandS.HeadHook1
import HandS.Defaults
import HandS.Head0
import HandS.Head1
import HandS.Head2
import HandS.HeadEnd
import HandS.HeadHook2
import PyProof.ReprRoads
import HandS.Dict
import PyProof.SliceList
import HandS.TupMul
import HandS.Zip0
import KE.KIsAll
import KE.KTryMore
import HandS.ExcIs
import HandS.ExcField
import KE.KExcIs
import HandS.EndTab
import HandS.Finally
import PyProof.DictUpdate
import PyProof.FactsAll.dict_3
import PyProof.FactsAll.dict_4
import KE.KDictZip
import HandS.ExcInit
import HandS.ClsMeth
import HandS.NoneIn
import HandS.HeadHook3
import HandS.More
import HandS.Strs
import HandS.Text
import HandS.Iter
import HandS.SortInts
import HandS.RevRange
import HandS.Conv
import PyProof.StrLawsRepr
import PyProof.Rows.Digits
import OpenK.KOwn
import KE.GoesMore
import KE.GoesEnum
import KE.KTurns
import HandS.MapObj
import HandS.RevTup
import PyProof.P3In
import PySem.Challenge.RW_roundsure_k17_true_runs
set_option Elab.async false
set_option linter.all false
set_option maxRecDepth 100000
set_option maxHeartbeats 4000000
set_option autoImplicit false
namespace Rk
open PySem PySem.Spec L2 PyProof.Rows
abbrev Da := PyData
mutual
def cB (K : PySem.W.Frag) : Da → Value → Bool
  | .none, .none => true
  | .bool b, .bool c => b == c
  | .int i, .int j _ => decide (i = j)
  | .str x, .str y _ => decide (x = y)
  | .tuple ds, .ref a => match K.lookup a with
    | some ⟨.type c, _, .seq its _, _⟩ => decide (c = "tuple") && (decide (its.size ≤ sizeLine) && cBs K ds its.toList)
    | _ => false
  | _, _ => false
def cBs (K : PySem.W.Frag) : List Da → List Value → Bool
  | [], [] => true
  | d :: ds, u :: us => cB K d u && cBs K ds us
  | _, _ => false
end
def gB (K : PySem.W.Frag) (x : Str) (d : Da) : Bool := match PySem.W.nsIn K mainGlobals x with
  | some (some u) => cB K d u
  | _ => false
abbrev AlR : Type := He.AlD × Bool
/-- what the module's names reach in n steps, step by step, nothing struck out -/
def stepN (g : Addr → Option Obj) (as : List Addr) : List Addr := as.flatMap fun a => match g a with
  | some o => He.refsD o
  | none => []
def asN (g : Addr → Option Obj) : Nat → List Addr → List Addr
  | 0, as => as
  | n + 1, as => as ++ asN g n (stepN g as)
def SaysR (fa : List He.Fa) (fn : List He.DefD) (ex : PySem.W.Frag → Bool) (K : PySem.W.Frag) : Prop := He.SaysD fa fn K ∧ ex K = true
def valD (kds : List (Key × Da)) (k : Key) : Option Da := (kds.find? fun kv => decide (kv.1 = k)).map (·.2)
abbrev veT : List Value := [.type "ValueError", .type "Exception", .type "BaseException", .type "object"]
def clsAt (K : PySem.W.Frag) (c : Str) : Option Addr := match PySem.W.nsIn K mainGlobals c with
  | some (some (.ref C)) => some C
  | _ => none
def errB (K : PySem.W.Frag) (c : Str) : Bool := match clsAt K c with
  | some C => PySem.W.excIn K C veT "ValueError.__new__" && (PySem.W.keepIn K (.ref C) && (decide (PySem.W.subIn K (.ref C) (.type "BaseException") = some true) && decide (PySem.W.typeIn K (.ref C) = some (.type "type"))))
  | none => false
def subB (K : PySem.W.Frag) (f : Value → Value → Option Bool) (u : Value) (b : Bool) (c : Str) : Bool := match clsAt K c with
  | some C => decide (f (.ref C) u = some b)
  | none => false
def catB (K : PySem.W.Frag) (x : Str) (yes no : List Str) : Bool := match clsAt K x with
  | some D => yes.all (subB K (PySem.W.exmOne K) (.ref D) true) && no.all (subB K (PySem.W.exmOne K) (.ref D) false)
  | none => false
def errIB (K : PySem.W.Frag) (C : Addr) : Bool :=
  decide (PySem.W.findIn K (.ref C) "__getattribute__" = some (some (.builtin "BaseException.__getattribute__"))) && (decide (PySem.W.findIn K (.ref C) "__getattr__" = some none) && (decide (PySem.W.subIn K (.ref C) (.type "BaseException") = some true) && (PySem.W.hasDictIn K C &&
  (decide (PySem.W.findIn K (.ref C) "__class__" = some (some (.builtin "object.__class__"))) && (decide (PySem.W.specialIn K (.builtin "object.__class__") "__get__" = some (some (.builtin "getset_descriptor.__get__"))) && (decide (PySem.W.takesIn K (.builtin "object.__class__") = some true) && (decide (PySem.W.mroIn K C (.type "object") = some true) && (PySem.W.clsIn K C).isSome)))))))
def isFB1 (K : PySem.W.Frag) (f : Value → Option Bool) (b : Bool) (c : Str) : Bool := match clsAt K c with
  | some C => errIB K C && decide (f (.ref C) = some b)
  | none => false
def isFB (K : PySem.W.Frag) (f : Value → Option Bool) (yes no : List Str) : Bool := decide (f (.type "NoneType") = some false) && (yes.all (isFB1 K f true) && no.all (isFB1 K f false))
def isOB (K : PySem.W.Frag) (x : Str) (yes no : List Str) : Bool := match clsAt K x with
  | some D => isFB K (fun t => PySem.W.kitOne K t (.ref D)) yes no
  | none => false
def isBB (K : PySem.W.Frag) (T : String) (yes no : List Str) : Bool := isFB K (fun t => PySem.W.kitOne K t (.type T)) yes no
abbrev tsOf (cs : List (Addr × Addr)) : List Addr := cs.map fun p => p.2
def csOf (K : PySem.W.Frag) (xs : List Str) : List (Addr × Addr) := xs.filterMap (PySem.W.tabIn K)
def cutT (K : PySem.W.Frag) (ts : List Addr) : PySem.W.Frag := K.filter fun p => !ts.contains p.1
def emptyT (K : PySem.W.Frag) (P : Addr) : Bool := match K.lookup P with
  | some ⟨.none, none, .fields vs, sl⟩ => vs.size == 0 && sl.size == 0
  | _ => false
def tabsB (K : PySem.W.Frag) (xs : List Str) : Bool := decide ((tsOf (csOf K xs)).Nodup) && (decide (xs.map (PySem.W.tabIn (cutT K (tsOf (csOf K xs)))) = (csOf K xs).map some) && (csOf K xs).all fun p => emptyT K p.2 && PySem.W.codeHdIn K p.1 p.2)
def obsRT (n : Nat) (xs : List Str) (fa : List He.Fa) (fn : List He.DefD) (ex : PySem.W.Frag → Bool) (g : Addr → Option Obj) : AlR :=
  let K := He.frG g (asN g n [mainGlobals] ++ [cStatics])
  let K' := cutT K (tsOf (csOf K xs))
  (He.obsD fa fn K', ex K' && tabsB K xs)
def oexB (K : PySem.W.Frag) (C : Addr) : Bool := (match K.lookup C with
  | some ⟨.type t, _, .cls cd, sl⟩ => (match cd.mro, sl.toList with
    | .ref C' :: bm, [_, _, _, _, some (.builtin n), _] => t == "type" && (C' == C && (n == "ValueError.__new__" && (!cd.hasDel && (cd.hasDict && PySem.HandSPX.refsVE bm))))
    | _, _ => false)
  | _ => false) && (decide (PySem.W.findIn K (.ref C) "__setattr__" = some (some (.builtin "object.__setattr__"))) && (decide (PySem.W.subIn K (.ref C) (.type "BaseException") = some true) && (decide (PySem.W.typeIn K (.ref C) = some (.type "type")) && PySem.W.keepIn K (.ref C))))
/-- the class c, its __init__, its field f, its base r -/
def iniB (K : PySem.W.Frag) (c f r : Str) : Bool := match clsAt K c, clsAt K r with
  | some C, some R => oexB K C && (decide (PySem.W.findIn K (.ref C) "__init__" = some (some (.ref (He.fAd K (c, some "__init__"))))) && (decide (PySem.W.typeIn K (.ref (He.fAd K (c, some "__init__"))) = some (.type "function")) && (decide (PySem.W.findIn K (.ref C) f = some none) &&
      (PySem.W.readsIn K R (.type "type") && (decide (PySem.W.specialIn K (.ref R) "__getattribute__" = some (some (.builtin "type.__getattribute__"))) && (match PySem.W.findCls K (.ref R) (.type "type") "__init__" with
        | some (.val (.builtin n)) => n == "ValueError.__init__"
        | _ => false))))))
  | _, _ => false
/-- a def in a class's body -/
def inS (s : Stmt) (k : Nat) : Stmt := match s with
  | .ClassDef _ _ _ body _ _ _ _ _ _ _ => body.getD k (.Pass ⟨0, 0, 0, 0⟩)
  | _ => .Pass ⟨0, 0, 0, 0⟩
def xfT1 (K : PySem.W.Frag) (f c : Str) : Bool := match clsAt K c with
  | some C => xfB K C && decide (PySem.W.findIn K (.ref C) f = some none)
  | none => false
def xfTB (K : PySem.W.Frag) (f : Str) (cs : List Str) : Bool := cs.all (xfT1 K f)
def kvB (K : PySem.W.Frag) : List (Str × Da) → List DictEntry → Bool
  | [], [] => true
  | (k, d) :: r, e :: es => (match e.key with | .str x _ => decide (x = k) | _ => false) && (cB K d e.val && kvB K r es)
  | _, _ => false
def kdB (K : PySem.W.Frag) (x : Str) (kds : List (Str × Da)) : Bool := match PySem.W.nsIn K mainGlobals x with
  | some (some (.ref a)) => (match K.lookup a with
    | some ⟨_, _, .dict es _, _⟩ => kvB K kds es.toList
    | _ => false)
  | _ => false
def dicN (K : PySem.W.Frag) (x : Str) : Option (List (Option (Str × Int))) := match PySem.W.nsIn K mainGlobals x with
  | some (some (.ref a)) => He.dicW K a
  | _ => none
abbrev AlW : Type := AlR × List (Option (List (Option (Str × Int))))
def TabsW (tn : List (Str × List Str)) (w : World) (K : PySem.W.Frag) : Prop := tn.map (fun t => dicN K t.1) = tn.map fun t => some (He.keysIn w.params t.2)
def valRW (tn : List (Str × List Str)) (fn : List He.DefD) (w : World) : AlW := ((He.valD fn, true), tn.map fun t => some (He.keysIn w.params t.2))
def obsRTW (n : Nat) (tn : List (Str × List Str)) (xs : List Str) (fa : List He.Fa) (fn : List He.DefD) (ex : PySem.W.Frag → Bool) (g : Addr → Option Obj) : AlW :=
  let K := He.frG g (asN g n [mainGlobals] ++ [cStatics])
  (obsRT n xs fa fn ex g, tn.map fun t => dicN (cutT K (tsOf (csOf K xs))) t.1)
def hookRTW (n : Nat) (tn : List (Str × List Str)) (xs : List Str) (fa : List He.Fa) (fn : List He.DefD) (ex : PySem.W.Frag → Bool) : PySem.W.Hook where
  α := AlW
  obs := fun s => obsRTW n tn xs fa fn ex s.heap.get?
  val := fun w => valRW tn fn w
  says := fun w h => ∃ K : PySem.W.Frag, K.In h ∧ tabsB K xs = true ∧ SaysR fa fn ex (cutT K (tsOf (csOf K xs))) ∧ TabsW tn w (cutT K (tsOf (csOf K xs)))
  of := fun _ _ e => by
    have e2 := (Bool.and_eq_true _ _).mp (congrArg (fun z : AlW => z.1.2) e)
    exact ⟨_, He.frG_in, e2.2, ⟨congrArg (fun z : AlW => z.1.1) e, e2.1⟩, congrArg (fun z : AlW => z.2) e⟩
  keeps := fun _ _ _ ⟨K, hK, t, c⟩ k => ⟨K, PySem.W.Frag.In.keeps hK k, t, c⟩
theorem obsRTW_eq {n : Nat} {tn : List (Str × List Str)} {xs : List Str} {fa : List He.Fa} {fn : List He.DefD} {ex : PySem.W.Frag → Bool} {g : Addr → Option Obj} {s : Shared} (h : ∀ a, g a = s.heap.get? a) : obsRTW n tn xs fa fn ex g = (hookRTW n tn xs fa fn ex).obs s := by
  have e : g = s.heap.get? := funext h
  rw [e] <;> rfl
def ftN : String := "special-get-raises"
def setFT (w : World) (b : Bool) : World := { w with params := { w.params with followText := fun s => bif decide (s = ftN) then b else w.params.followText s } }
theorem setFT_eq (w : World) : setFT w (w.params.followText ftN) = w := by
  have e : (fun s => bif decide (s = ftN) then w.params.followText ftN else w.params.followText s) = w.params.followText := by
    funext s
    by_cases h : s = ftN
    · rw [h]
      simp
    · simp [h]
  unfold setFT
  rw [e]
theorem by_ft {P : World → Prop} (ht : ∀ w, P (setFT w true)) (hf : ∀ w, P (setFT w false)) (w : World) : P w := by
  rw [← setFT_eq w]
  cases w.params.followText ftN with
  | true => exact ht w
  | false => exact hf w
def digB (K : PySem.W.Frag) : Bool := PySem.W.nsOkIn K cStatics && (match PySem.W.nsIn K cStatics "sys.int_max_str_digits" with
  | some none => true
  | _ => false)
end Rk
namespace Lw
open PySem PySem.Spec L2 Rk
def topS (i : Nat) : Stmt := PySem.Challenge.pw_roundsure_k17_true_runs.main.body.getD i (.Pass ⟨0, 0, 0, 0⟩)
abbrev s_i_BadProgram : Stmt := inS (topS 8) 0
abbrev s_i_ByNought : Stmt := inS (topS 9) 0
abbrev s_is_whole : Stmt := topS 13
abbrev s_shared : Stmt := topS 14
abbrev s_fraction : Stmt := topS 15
abbrev s_is_fraction : Stmt := topS 16
abbrev s_is_great : Stmt := topS 17
abbrev s_need_small : Stmt := topS 18
abbrev s_whole_of : Stmt := topS 19
abbrev s_plus : Stmt := topS 20
abbrev s_turned : Stmt := topS 21
abbrev s_less : Stmt := topS 22
abbrev s_times : Stmt := topS 23
abbrev s_over : Stmt := topS 24
abbrev s_size_of : Stmt := topS 25
abbrev s_is_less : Stmt := topS 26
abbrev s_lesser : Stmt := topS 27
abbrev s_greater : Stmt := topS 28
abbrev s_power : Stmt := topS 29
abbrev s_is_name : Stmt := topS 36
abbrev s_is_work : Stmt := topS 37
abbrev s_are_ins : Stmt := topS 38
abbrev s_is_row : Stmt := topS 39
abbrev s_wrong_row : Stmt := topS 40
abbrev s_need_program : Stmt := topS 41
abbrev s_is_enough : Stmt := topS 43
abbrev s_place_of : Stmt := topS 44
abbrev s_step_of : Stmt := topS 45
abbrev s_whole_by : Stmt := topS 46
abbrev s_rounded : Stmt := topS 47
abbrev s_exact : Stmt := topS 49
abbrev s_done : Stmt := topS 50
abbrev s_are_fractions : Stmt := topS 51
abbrev s_true_run : Stmt := topS 52
abbrev s__law_mixed : Stmt := topS 54
abbrev s__law_draws : Stmt := topS 55
abbrev s__law_take : Stmt := topS 56
abbrev s__law_share : Stmt := topS 57
abbrev s__law_sum : Stmt := topS 58
abbrev s__law_is_less : Stmt := topS 59
abbrev s__law_names : Stmt := topS 60
abbrev s__law_constant : Stmt := topS 61
abbrev s__law_work : Stmt := topS 62
abbrev s__law_program : Stmt := topS 63
abbrev s__law_exact : Stmt := topS 64
abbrev s__law_run : Stmt := topS 65
abbrev s__law_told : Stmt := topS 66
abbrev s__law_due : Stmt := topS 67
abbrev s__law_by_hand : Stmt := topS 68
abbrev s_law : Stmt := topS 69
def c_GREATEST : Da := (.int ((10 ^ 600)))
def c_LETTERS : Da := (.str "abcdefghijklmnopqrstuvwxyz")
def c_MOST_INS : Da := (.int 6)
def c_MOST_LETTERS : Da := (.int 6)
def c_MOST_ROWS : Da := (.int 40)
def c_NOUGHT : Da := (.tuple [(.int 0), (.int 1)])
def d_WANTS : List (Str × Da) := [("plus", (.int 2)), ("less", (.int 2)), ("times", (.int 2)), ("over", (.int 2)), ("turned", (.int 1)), ("size", (.int 1)), ("least", (.int 2)), ("most", (.int 2)), ("pick", (.int 4))]
def d_is_whole : He.DefD := ⟨("is_whole", none), "is_whole", "is_whole", defArgs s_is_whole, defBody s_is_whole, defScope s_is_whole, [], []⟩
def d_shared : He.DefD := ⟨("shared", none), "shared", "shared", defArgs s_shared, defBody s_shared, defScope s_shared, [], []⟩
def d_fraction : He.DefD := ⟨("fraction", none), "fraction", "fraction", defArgs s_fraction, defBody s_fraction, defScope s_fraction, [], []⟩
def d_is_fraction : He.DefD := ⟨("is_fraction", none), "is_fraction", "is_fraction", defArgs s_is_fraction, defBody s_is_fraction, defScope s_is_fraction, [], []⟩
def d_is_great : He.DefD := ⟨("is_great", none), "is_great", "is_great", defArgs s_is_great, defBody s_is_great, defScope s_is_great, [], []⟩
def d_need_small : He.DefD := ⟨("need_small", none), "need_small", "need_small", defArgs s_need_small, defBody s_need_small, defScope s_need_small, [], []⟩
def d_whole_of : He.DefD := ⟨("whole_of", none), "whole_of", "whole_of", defArgs s_whole_of, defBody s_whole_of, defScope s_whole_of, [], []⟩
def d_plus : He.DefD := ⟨("plus", none), "plus", "plus", defArgs s_plus, defBody s_plus, defScope s_plus, [], []⟩
def d_turned : He.DefD := ⟨("turned", none), "turned", "turned", defArgs s_turned, defBody s_turned, defScope s_turned, [], []⟩
def d_less : He.DefD := ⟨("less", none), "less", "less", defArgs s_less, defBody s_less, defScope s_less, [], []⟩
def d_times : He.DefD := ⟨("times", none), "times", "times", defArgs s_times, defBody s_times, defScope s_times, [], []⟩
def d_over : He.DefD := ⟨("over", none), "over", "over", defArgs s_over, defBody s_over, defScope s_over, [], []⟩
def d_size_of : He.DefD := ⟨("size_of", none), "size_of", "size_of", defArgs s_size_of, defBody s_size_of, defScope s_size_of, [], []⟩
def d_is_less : He.DefD := ⟨("is_less", none), "is_less", "is_less", defArgs s_is_less, defBody s_is_less, defScope s_is_less, [], []⟩
def d_lesser : He.DefD := ⟨("lesser", none), "lesser", "lesser", defArgs s_lesser, defBody s_lesser, defScope s_lesser, [], []⟩
def d_greater : He.DefD := ⟨("greater", none), "greater", "greater", defArgs s_greater, defBody s_greater, defScope s_greater, [], []⟩
def d_power : He.DefD := ⟨("power", none), "power", "power", defArgs s_power, defBody s_power, defScope s_power, [], []⟩
def d_is_name : He.DefD := ⟨("is_name", none), "is_name", "is_name", defArgs s_is_name, defBody s_is_name, defScope s_is_name, [], []⟩
def d_is_work : He.DefD := ⟨("is_work", none), "is_work", "is_work", defArgs s_is_work, defBody s_is_work, defScope s_is_work, [], []⟩
def d_are_ins : He.DefD := ⟨("are_ins", none), "are_ins", "are_ins", defArgs s_are_ins, defBody s_are_ins, defScope s_are_ins, [], []⟩
def d_is_row : He.DefD := ⟨("is_row", none), "is_row", "is_row", defArgs s_is_row, defBody s_is_row, defScope s_is_row, [], []⟩
def d_wrong_row : He.DefD := ⟨("wrong_row", none), "wrong_row", "wrong_row", defArgs s_wrong_row, defBody s_wrong_row, defScope s_wrong_row, [], []⟩
def d_need_program : He.DefD := ⟨("need_program", none), "need_program", "need_program", defArgs s_need_program, defBody s_need_program, defScope s_need_program, [], []⟩
def d_is_enough : He.DefD := ⟨("is_enough", none), "is_enough", "is_enough", defArgs s_is_enough, defBody s_is_enough, defScope s_is_enough, [], []⟩
def d_place_of : He.DefD := ⟨("place_of", none), "place_of", "place_of", defArgs s_place_of, defBody s_place_of, defScope s_place_of, [], []⟩
def d_step_of : He.DefD := ⟨("step_of", none), "step_of", "step_of", defArgs s_step_of, defBody s_step_of, defScope s_step_of, [], []⟩
def d_whole_by : He.DefD := ⟨("whole_by", none), "whole_by", "whole_by", defArgs s_whole_by, defBody s_whole_by, defScope s_whole_by, [], []⟩
def d_rounded : He.DefD := ⟨("rounded", none), "rounded", "rounded", defArgs s_rounded, defBody s_rounded, defScope s_rounded, [], []⟩
def d_exact : He.DefD := ⟨("exact", none), "exact", "exact", defArgs s_exact, defBody s_exact, defScope s_exact, [], []⟩
def d_done : He.DefD := ⟨("done", none), "done", "done", defArgs s_done, defBody s_done, defScope s_done, [], []⟩
def d_are_fractions : He.DefD := ⟨("are_fractions", none), "are_fractions", "are_fractions", defArgs s_are_fractions, defBody s_are_fractions, defScope s_are_fractions, [], []⟩
def d_true_run : He.DefD := ⟨("true_run", none), "true_run", "true_run", defArgs s_true_run, defBody s_true_run, defScope s_true_run, [], []⟩
def d__law_mixed : He.DefD := ⟨("_law_mixed", none), "_law_mixed", "_law_mixed", defArgs s__law_mixed, defBody s__law_mixed, defScope s__law_mixed, [], []⟩
def d__law_draws : He.DefD := ⟨("_law_draws", none), "_law_draws", "_law_draws", defArgs s__law_draws, defBody s__law_draws, defScope s__law_draws, [], []⟩
def d__law_take : He.DefD := ⟨("_law_take", none), "_law_take", "_law_take", defArgs s__law_take, defBody s__law_take, defScope s__law_take, [], []⟩
def d__law_share : He.DefD := ⟨("_law_share", none), "_law_share", "_law_share", defArgs s__law_share, defBody s__law_share, defScope s__law_share, [], []⟩
def d__law_sum : He.DefD := ⟨("_law_sum", none), "_law_sum", "_law_sum", defArgs s__law_sum, defBody s__law_sum, defScope s__law_sum, [], []⟩
def d__law_is_less : He.DefD := ⟨("_law_is_less", none), "_law_is_less", "_law_is_less", defArgs s__law_is_less, defBody s__law_is_less, defScope s__law_is_less, [], []⟩
def d__law_names : He.DefD := ⟨("_law_names", none), "_law_names", "_law_names", defArgs s__law_names, defBody s__law_names, defScope s__law_names, [], []⟩
def d__law_constant : He.DefD := ⟨("_law_constant", none), "_law_constant", "_law_constant", defArgs s__law_constant, defBody s__law_constant, defScope s__law_constant, [], []⟩
def d__law_work : He.DefD := ⟨("_law_work", none), "_law_work", "_law_work", defArgs s__law_work, defBody s__law_work, defScope s__law_work, [], []⟩
def d__law_program : He.DefD := ⟨("_law_program", none), "_law_program", "_law_program", defArgs s__law_program, defBody s__law_program, defScope s__law_program, [], []⟩
def d__law_exact : He.DefD := ⟨("_law_exact", none), "_law_exact", "_law_exact", defArgs s__law_exact, defBody s__law_exact, defScope s__law_exact, [], []⟩
def d__law_run : He.DefD := ⟨("_law_run", none), "_law_run", "_law_run", defArgs s__law_run, defBody s__law_run, defScope s__law_run, [], []⟩
def d__law_told : He.DefD := ⟨("_law_told", none), "_law_told", "_law_told", defArgs s__law_told, defBody s__law_told, defScope s__law_told, [], []⟩
def d__law_due : He.DefD := ⟨("_law_due", none), "_law_due", "_law_due", defArgs s__law_due, defBody s__law_due, defScope s__law_due, [], []⟩
def d__law_by_hand : He.DefD := ⟨("_law_by_hand", none), "_law_by_hand", "_law_by_hand", defArgs s__law_by_hand, defBody s__law_by_hand, defScope s__law_by_hand, [], []⟩
def d_law : He.DefD := ⟨("law", none), "law", "law", defArgs s_law, defBody s_law, defScope s_law, [], []⟩
def d_i_BadProgram : He.DefD := ⟨("BadProgram", some "__init__"), "__init__", "BadProgram.__init__", defArgs s_i_BadProgram, defBody s_i_BadProgram, defScope s_i_BadProgram, [], []⟩
def d_i_ByNought : He.DefD := ⟨("ByNought", some "__init__"), "__init__", "ByNought.__init__", defArgs s_i_ByNought, defBody s_i_ByNought, defScope s_i_ByNought, [], []⟩
def fn : List He.DefD := [d_is_whole, d_shared, d_fraction, d_is_fraction, d_is_great, d_need_small, d_whole_of, d_plus, d_turned, d_less, d_times, d_over, d_size_of, d_is_less, d_lesser, d_greater, d_power, d_is_name, d_is_work, d_are_ins, d_is_row, d_wrong_row, d_need_program, d_is_enough, d_place_of, d_step_of, d_whole_by, d_rounded, d_exact, d_done, d_are_fractions, d_true_run, d__law_mixed, d__law_draws, d__law_take, d__law_share, d__law_sum, d__law_is_less, d__law_names, d__law_constant, d__law_work, d__law_program, d__law_exact, d__law_run, d__law_told, d__law_due, d__law_by_hand, d_law, d_i_BadProgram, d_i_ByNought]
def fa : List He.Fa := [.glo "is_whole", .glo "shared", .glo "fraction", .glo "is_fraction", .glo "is_great", .glo "need_small", .glo "whole_of", .glo "plus", .glo "turned", .glo "less", .glo "times", .glo "over", .glo "size_of", .glo "is_less", .glo "lesser", .glo "greater", .glo "power", .glo "is_name", .glo "is_work", .glo "are_ins", .glo "is_row", .glo "wrong_row", .glo "need_program", .glo "is_enough", .glo "place_of", .glo "step_of", .glo "whole_by", .glo "rounded", .glo "exact", .glo "done", .glo "are_fractions", .glo "true_run", .glo "_law_mixed", .glo "_law_draws", .glo "_law_take", .glo "_law_share", .glo "_law_sum", .glo "_law_is_less", .glo "_law_names", .glo "_law_constant", .glo "_law_work", .glo "_law_program", .glo "_law_exact", .glo "_law_run", .glo "_law_told", .glo "_law_due", .glo "_law_by_hand", .glo "law", .free "ValueError", .free "abs", .free "all", .free "bool", .free "dict", .free "enumerate", .free "int", .free "isinstance", .free "len", .free "list", .free "range", .free "repr", .free "set", .free "str", .free "sum", .free "tuple", .free "zip"]
def ex (K : PySem.W.Frag) : Bool := (gB K "GREATEST" c_GREATEST) && (gB K "LETTERS" c_LETTERS) && (gB K "MOST_INS" c_MOST_INS) && (gB K "MOST_LETTERS" c_MOST_LETTERS) && (gB K "MOST_ROWS" c_MOST_ROWS) && (gB K "NOUGHT" c_NOUGHT) && (digB K) && (xfTB K "row" ["BadProgram", "ByNought"]) && (isOB K "BadAsked" [] ["BadInput", "TooGreat", "BadProgram", "ByNought"]) && (isOB K "BadBox" [] ["BadInput", "TooGreat", "BadProgram", "ByNought"]) && (isOB K "BadInput" ["BadInput"] ["TooGreat", "BadProgram", "ByNought"]) && (isOB K "BadMark" [] ["BadInput", "TooGreat", "BadProgram", "ByNought"]) && (isOB K "BadProgram" ["BadProgram"] ["BadInput", "TooGreat", "ByNought"]) && (isOB K "BadRuler" [] ["BadInput", "TooGreat", "BadProgram", "ByNought"]) && (isOB K "ByNought" ["ByNought"] ["BadInput", "TooGreat", "BadProgram"]) && (isOB K "TooGreat" ["TooGreat"] ["BadInput", "BadProgram", "ByNought"]) && (isBB K "ValueError" ["BadInput", "TooGreat", "BadProgram", "ByNought"] []) && (iniB K "BadProgram" "row" "RoundError") && (iniB K "ByNought" "row" "RoundError") && (catB K "RoundError" ["BadInput", "TooGreat", "BadProgram", "ByNought"] []) && (errB K "BadInput") && (errB K "TooGreat") && (kdB K "WANTS" d_WANTS)
abbrev R : PySem.W.OpenRow := PySem.W.OpenLaw.row PySem.Challenge.rw_roundsure_k17_true_runs
def lams : List Str := ["law"]
def tn : List (Str × List Str) := [("WANTS", d_WANTS.map (·.1))]
abbrev hk : PySem.W.Hook := hookRTW 5 tn lams fa fn ex
def ob (s : PySem.W.SharedT) : AlW := obsRTW 5 tn lams fa fn ex (HandSHeadRun.getT s)
theorem ob_eq (s : PySem.W.SharedT) : ob s = hk.obs s.abs := obsRTW_eq (HandSHeadRun.getT_eq s)
def loose : List Str := (["RoundError", "BadRuler", "BadMark", "BadInput", "BadBox", "BadAsked", "TooGreat", "BadProgram", "ByNought", "NOUGHT", "GREATEST", "is_whole", "shared", "fraction", "is_fraction", "is_great", "need_small", "whole_of", "plus", "turned", "less", "times", "over", "size_of", "is_less", "lesser", "greater", "power", "LETTERS", "MOST_LETTERS"] : List Str) ++ (["MOST_INS", "MOST_ROWS", "WANTS", "is_name", "is_work", "are_ins", "is_row", "wrong_row", "need_program", "is_enough", "place_of", "step_of", "whole_by", "rounded", "exact", "done", "are_fractions", "true_run", "_law_mixed", "_law_draws", "_law_take", "_law_share", "_law_sum", "_law_is_less", "_law_names", "_law_constant", "_law_work", "_law_program", "_law_exact", "_law_run"] : List Str) ++ (["_law_told", "_law_due", "_law_by_hand"] : List Str)
theorem run_t (w : World) : HandSHeadRun.RunEq R (PySem.W.view R.prog [69]) hk ob 40000 loose (setFT w true) := by
  intro os
  kernel_rfl
theorem run_f (w : World) : HandSHeadRun.RunEq R (PySem.W.view R.prog [69]) hk ob 40000 loose (setFT w false) := by
  intro os
  kernel_rfl
theorem run (w : World) : HandSHeadRun.RunEq R (PySem.W.view R.prog [69]) hk ob 40000 loose w := by_ft (P := fun w => HandSHeadRun.RunEq R (PySem.W.view R.prog [69]) hk ob 40000 loose w) run_t run_f w

end Lw
section
open PySem PySem.W PySem.Calls PyProof.Rows
theorem Lw.early (hc : WalkO (view (OpenLaw.row PySem.Challenge.rw_roundsure_k17_true_runs).prog [69]) Lw.loose (XL (view (OpenLaw.row PySem.Challenge.rw_roundsure_k17_true_runs).prog [69]) []) (PySem.W.Hook.says Lw.hk) (OpenLaw.row PySem.Challenge.rw_roundsure_k17_true_runs).toRowW (HandSHeadRun.topDef (OpenLaw.row PySem.Challenge.rw_roundsure_k17_true_runs).prog 69) [] fun f vs => PySem.call f vs) : PySem.Challenge.rw_roundsure_k17_true_runs.Holds := by
  w_on; o_law
  refine HandSHeadRun.head_any (r := OpenLaw.row PySem.Challenge.rw_roundsure_k17_true_runs) (q := view (OpenLaw.row PySem.Challenge.rw_roundsure_k17_true_runs).prog [69]) (H := Lw.hk) (ob := Lw.ob) (M := 40000) (loose := Lw.loose) (d := HandSHeadRun.topDef (OpenLaw.row PySem.Challenge.rw_roundsure_k17_true_runs).prog 69) (kwd := []) Lw.ob_eq
    (by kernel_rfl) (fun s => by kernel_rfl) Lw.run (by kernel_rfl) (by kernel_rfl) (by kernel_rfl) (by rfl) (by first | assumption | decide +kernel) (by decide +kernel) ⟨rfl, rfl, rfl, rfl, rfl, by decide +kernel⟩ ?hw hc
  case hw => w_witness2
end
/-! Rk0: pure data, an abstract heap of lists and dicts by number, outcomes; what stands for what. -/
namespace Rk
open PySem PySem.Spec L2

/-- an object that changes, by its number -/
inductive Ob where
  | lst (xs : List Da)
  | dct (kvs : List (Key × Da))
  | tbl (x : Str)
  | rl (ns : List Nat)
/-- what a function object has kept of its maker's slots -/
inductive Vl0 where
  | d (x : Da)
  | r (n : Nat)
/-- a function object made by a lambda: its address, its code object, that one's name, its maker's slots as they were -/
structure Dd where
  f : Addr
  c : Addr
  q : Str
  σ : List (Option V)
  ρ : List (Option Vl0)
/-- a value: data, an object by its number, an error that was caught -/
inductive Vl where
  | d (x : Da)
  | r (n : Nat)
  | x (c : Str) (fs : List (Str × Da))
  | f (a : Dd)
abbrev Hh := List (Option Ob)
inductive Out (α : Type) where
  | ok (a : α) (h : Hh)
  | ex (c : Str) (fs : List (Str × Da)) (h : Hh)
  | no
abbrev En := List (Option Vl)
inductive So where
  | nx (ρ : En) (h : Hh)
  | rt (v : Vl) (h : Hh)
  | bk (ρ : En) (h : Hh)
  | ct (ρ : En) (h : Hh)
  | ex (c : Str) (fs : List (Str × Da)) (ρ : En) (h : Hh)
  | no
def Out.bind {α β : Type} : Out α → (α → Hh → Out β) → Out β
  | .ok a h, f => f a h
  | .ex c fs h, _ => .ex c fs h
  | .no, _ => .no
theorem Out.bind_ok {α β : Type} (a : α) (h : Hh) (f : α → Hh → Out β) : (Out.ok a h).bind f = f a h := rfl
theorem Out.bind_ex {α β : Type} (c : Str) (fs : List (Str × Da)) (h : Hh) (f : α → Hh → Out β) : (Out.ex c fs h).bind f = .ex c fs h := rfl
abbrev Ev := En → Hh → Out Vl
abbrev Tv := En → Hh → Out Bool
abbrev Av := En → Hh → Out (List Vl)
abbrev Sv := En → Hh → So
abbrev Fn := List Vl → Hh → Out Vl

/-! ### what stands for what -/
def KT (K : PySem.W.Frag) (a : Addr) (xs : List V) : Prop :=
  ∃ (o : Obj) (its : Array Value) (n : Nat), K.lookup a = some o ∧ o.cls = .type "tuple" ∧ o.data = .seq its n ∧ its.size ≤ sizeLine ∧ Vals xs its.toList
def KL (K : PySem.W.Frag) (a : Addr) (xs : List V) : Prop :=
  ∃ (o : Obj) (its : Array Value) (n : Nat), K.lookup a = some o ∧ o.cls = .type "list" ∧ o.dict = none ∧ o.data = .seq its n ∧ its.size ≤ sizeLine ∧ Vals xs its.toList
/-- a key as data -/
def kD : Key → Da
  | .inl i => .int i
  | .inr x => .str x
mutual
inductive Rep (K : PySem.W.Frag) (H : Hp) (M : Addr → Prop) : V → Da → Prop
  | non : Rep K H M .non .none
  | bl (b : Bool) : Rep K H M (.bl b) (.bool b)
  | int (i : Int) : Rep K H M (.int i) (.int i)
  | str (x : Str) : Rep K H M (.str x) (.str x)
  | tup {a : Addr} {xs : List V} {ds : List Da} : Rd H a (.tup xs) → ¬ M a → Reps K H M xs ds → Rep K H M (.ref a) (.tuple ds)
  | tupK {a : Addr} {xs : List V} {ds : List Da} : KT K a xs → Reps K H M xs ds → Rep K H M (.ref a) (.tuple ds)
  | lst {a : Addr} {xs : List V} {ds : List Da} : Rd H a (.lst xs) → ¬ M a → Reps K H M xs ds → Rep K H M (.ref a) (.list ds)
  | lstK {a : Addr} {xs : List V} {ds : List Da} : KL K a xs → Reps K H M xs ds → Rep K H M (.ref a) (.list ds)
  | dct0 {a : Addr} : H a = some (.dT []) → ¬ M a → Rep K H M (.ref a) (.dict [])
  | dct {a : Addr} {kvs : List (Key × V)} {ds : List Da} {kds : List (Da × Da)} : H a = some (.dK kvs) → ¬ M a → kvs ≠ [] → Reps K H M (kvs.map (·.2)) ds → kds = ((kvs.map (·.1)).zip ds).map (fun p => (kD p.1, p.2)) → Rep K H M (.ref a) (.dict kds)
  | fn (x : Str) : Rep K H M (.ref (He.ga K x)) (.dict [(.none, .str x)])
  | plt {a : Addr} {o : Obj} {xs : List V} {ds : List Da} : H a = some (.frz o (.tup xs)) → o.dict = none → ¬ M a → Reps K H M xs ds → Rep K H M (.ref a) (.dict [(.none, .tuple ds)])
inductive Reps (K : PySem.W.Frag) (H : Hp) (M : Addr → Prop) : List V → List Da → Prop
  | nil : Reps K H M [] []
  | cons {v : V} {vs : List V} {d : Da} {ds : List Da} : Rep K H M v d → Reps K H M vs ds → Reps K H M (v :: vs) (d :: ds)
end
/-- no table of code objects -/
abbrev Nt (o : HO) : Prop := ∀ ps, o ≠ .tbl ps
/-- what is not M stands still -/
def Stay (H : Hp) (M : Addr → Prop) (H' : Hp) (M' : Addr → Prop) : Prop := ∀ a o, H a = some o → Nt o → ¬ M a → H' a = some o ∧ ¬ M' a
inductive Seq' : HO → Prop
  | l (xs) : Seq' (.lst xs)
  | t (xs) : Seq' (.tup xs)
theorem Seq'.nt {u : HO} (s : Seq' u) : Nt u := fun ps z => by cases s <;> cases z
theorem Stay.rd {H H' : Hp} {M M' : Addr → Prop} (s : Stay H M H' M') {a : Addr} {u : HO} (w : Seq' u) (h : Rd H a u) (n : ¬ M a) : Rd H' a u ∧ ¬ M' a := by
  rcases h with h | ⟨o, h⟩
  · exact ⟨.inl (s a _ h w.nt n).1, (s a _ h w.nt n).2⟩
  · exact ⟨.inr ⟨o, (s a _ h nofun n).1⟩, (s a _ h nofun n).2⟩
mutual
theorem Rep.stay {K : PySem.W.Frag} {H H' : Hp} {M M' : Addr → Prop} (s : Stay H M H' M') : ∀ {v : V} {d : Da}, Rep K H M v d → Rep K H' M' v d
  | _, _, .non => .non
  | _, _, .bl b => .bl b
  | _, _, .int i => .int i
  | _, _, .str x => .str x
  | _, _, .tup h n r => .tup (s.rd (.t _) h n).1 (s.rd (.t _) h n).2 (Reps.stay s r)
  | _, _, .tupK h r => .tupK h (Reps.stay s r)
  | _, _, .lst h n r => .lst (s.rd (.l _) h n).1 (s.rd (.l _) h n).2 (Reps.stay s r)
  | _, _, .lstK h r => .lstK h (Reps.stay s r)
  | _, _, .dct0 h n => .dct0 (s _ _ h nofun n).1 (s _ _ h nofun n).2
  | _, _, .dct h n ne r e => .dct (s _ _ h nofun n).1 (s _ _ h nofun n).2 ne (Reps.stay s r) e
  | _, _, .fn x => .fn x
  | _, _, .plt h e n r => .plt (s _ _ h nofun n).1 e (s _ _ h nofun n).2 (Reps.stay s r)
theorem Reps.stay {K : PySem.W.Frag} {H H' : Hp} {M M' : Addr → Prop} (s : Stay H M H' M') : ∀ {v : List V} {d : List Da}, Reps K H M v d → Reps K H' M' v d
  | _, _, .nil => .nil
  | _, _, .cons r t => .cons (Rep.stay s r) (Reps.stay s t)
end
theorem Stay.refl (H : Hp) (M : Addr → Prop) : Stay H M H M := fun _ _ h _ n => ⟨h, n⟩
theorem Stay.trans {H H1 H2 : Hp} {M M1 M2 : Addr → Prop} (a : Stay H M H1 M1) (b : Stay H1 M1 H2 M2) : Stay H M H2 M2 := fun x o h w n => b x o (a x o h w n).1 w (a x o h w n).2
section
variable {K : PySem.W.Frag} {H : Hp} {M : Addr → Prop}
theorem Reps.length : ∀ {vs : List V} {ds : List Da}, Reps K H M vs ds → vs.length = ds.length
  | _, _, .nil => rfl
  | _, _, .cons _ t => by rw [List.length_cons, List.length_cons, Reps.length t]
theorem Reps.get : ∀ {vs : List V} {ds : List Da} {i : Nat} {d : Da}, Reps K H M vs ds → ds[i]? = some d → ∃ v, vs[i]? = some v ∧ Rep K H M v d
  | _, _, _, _, .nil, h => by simp at h
  | _, _, 0, _, .cons r _, h => by
    have e := Option.some.inj h
    subst e
    exact ⟨_, rfl, r⟩
  | _, _, i + 1, _, .cons _ t, h => by
    obtain ⟨v, e, r⟩ := Reps.get (i := i) t h
    exact ⟨v, e, r⟩
theorem Reps.append : ∀ {vs ws : List V} {ds es : List Da}, Reps K H M vs ds → Reps K H M ws es → Reps K H M (vs ++ ws) (ds ++ es)
  | _, _, _, _, .nil, s => s
  | _, _, _, _, .cons r t, s => .cons r (Reps.append t s)
theorem Reps.take : ∀ {vs : List V} {ds : List Da} (n : Nat), Reps K H M vs ds → Reps K H M (vs.take n) (ds.take n)
  | _, _, 0, _ => .nil
  | _, _, _ + 1, .nil => .nil
  | _, _, n + 1, .cons r t => .cons r (Reps.take n t)
theorem Reps.drop : ∀ {vs : List V} {ds : List Da} (n : Nat), Reps K H M vs ds → Reps K H M (vs.drop n) (ds.drop n)
  | _, _, 0, s => s
  | _, _, _ + 1, .nil => .nil
  | _, _, n + 1, .cons _ t => Reps.drop n t
theorem Reps.set {v : V} {d : Da} (r : Rep K H M v d) : ∀ {vs : List V} {ds : List Da} (i : Nat), Reps K H M vs ds → Reps K H M (vs.set i v) (ds.set i d)
  | _, _, _, .nil => .nil
  | _, _, 0, .cons _ t => .cons r t
  | _, _, i + 1, .cons q t => .cons q (Reps.set r i t)
theorem Rep.sqT {a : Addr} {ds : List Da} (r : Rep K H M (.ref a) (.tuple ds)) : ∃ xs, SqT K H a xs ∧ Reps K H M xs ds := by
  cases r with
  | tup h _ r => exact ⟨_, .inl h, r⟩
  | tupK h r => exact ⟨_, .inr h, r⟩
theorem Rep.sqL {a : Addr} {ds : List Da} (r : Rep K H M (.ref a) (.list ds)) : ∃ xs, SqL K H a xs ∧ Reps K H M xs ds := by
  cases r with
  | lst h _ r => exact ⟨_, .inl h, r⟩
  | lstK h r => exact ⟨_, .inr h, r⟩
end
/-- a def of the top as data; a tuple that is known to be a plain one -/
def fnD (x : Str) : Da := .dict [(.none, .str x)]
def ptD (ds : List Da) : Da := .dict [(.none, .tuple ds)]
/-- the constants of the top: the same whatever the heap -/
def KRep (K : PySem.W.Frag) (v : V) (d : Da) : Prop := ∀ H M, Rep K H M v d

/-! ### the abstract heap's objects, where they stand -/
def Live (φ : List Addr) (h : Hh) (a : Addr) : Prop := ∃ (i : Nat) (o : Ob), φ[i]? = some a ∧ h[i]? = some (some o)
inductive KvRep (K : PySem.W.Frag) (H : Hp) (M : Addr → Prop) : List (Key × V) → List (Key × Da) → Prop
  | nil : KvRep K H M [] []
  | cons {k : Key} {v : V} {vs : List (Key × V)} {d : Da} {ds : List (Key × Da)} : Rep K H M v d → KvRep K H M vs ds → KvRep K H M ((k, v) :: vs) ((k, d) :: ds)
theorem KvRep.stay {K : PySem.W.Frag} {H H' : Hp} {M M' : Addr → Prop} (s : Stay H M H' M') : ∀ {vs : List (Key × V)} {ds : List (Key × Da)}, KvRep K H M vs ds → KvRep K H' M' vs ds
  | _, _, .nil => .nil
  | _, _, .cons r t => .cons (r.stay s) (KvRep.stay s t)
def ORep (K : PySem.W.Frag) (H : Hp) (M : Addr → Prop) (a : Addr) : Ob → Prop
  | .lst ds => ∃ xs, H a = some (.lst xs) ∧ Reps K H M xs ds
  | .dct kds => ∃ kvs, H a = some (.dK kvs) ∧ KvRep K H M kvs kds
  | .tbl x => ∃ (c : Addr) (ps : Array Value), PySem.W.tabIn K x = some (c, a) ∧ H a = some (.tbl ps) ∧ TriplesOk ps.toList ∧ ∀ (pos : Pos) (cv : Value), codeAmong pos ps.toList = some cv → ∃ c', cv = .ref c' ∧ H c' = some (LamX.CodeO c' (x ++ ".<locals>." ++ "<lambda>"))
  | .rl _ => ∃ xs, H a = some (.lst xs)
structure Sim (K : PySem.W.Frag) (φ : List Addr) (h : Hh) (H : Hp) : Prop where
  len : φ.length = h.length
  inj : ∀ (i j : Nat) (a : Addr) (o o' : Ob), φ[i]? = some a → φ[j]? = some a → h[i]? = some (some o) → h[j]? = some (some o') → i = j
  ob : ∀ (i : Nat) (o : Ob), h[i]? = some (some o) → ∃ a, φ[i]? = some a ∧ ORep K H (Live φ h) a o
  rf : ∀ (i : Nat) (ns : List Nat), h[i]? = some (some (.rl ns)) → ∃ (a : Addr) (as : List Addr), φ[i]? = some a ∧ H a = some (.lst (as.map V.ref)) ∧ as.length = ns.length ∧ ∀ (k n : Nat), ns[k]? = some n → n < i ∧ φ[n]? = as[k]?
structure Step (φ : List Addr) (h : Hh) (H : Hp) (φ' : List Addr) (h' : Hh) (H' : Hp) : Prop where
  pre : φ <+: φ'
  st : Stay H (Live φ h) H' (Live φ' h')
theorem Step.refl (φ : List Addr) (h : Hh) (H : Hp) : Step φ h H φ h H := ⟨List.prefix_refl φ, Stay.refl _ _⟩
theorem Step.trans {φ φ1 φ2 : List Addr} {h h1 h2 : Hh} {H H1 H2 : Hp} (a : Step φ h H φ1 h1 H1) (b : Step φ1 h1 H1 φ2 h2 H2) : Step φ h H φ2 h2 H2 := ⟨a.pre.trans b.pre, a.st.trans b.st⟩
theorem pre_get {φ φ' : List Addr} (p : φ <+: φ') {n : Nat} {a : Addr} (e : φ[n]? = some a) : φ'[n]? = some a := by
  obtain ⟨t, rfl⟩ := p
  rw [List.getElem?_append_left (List.getElem?_eq_some_iff.mp e).1]
  exact e
/-- the own dict of a caught error, its fields -/
inductive FsRep (K : PySem.W.Frag) (H : Hp) (M : Addr → Prop) : List (Str × V) → List (Str × Da) → Prop
  | nil : FsRep K H M [] []
  | cons {k : Str} {v : V} {vs : List (Str × V)} {d : Da} {ds : List (Str × Da)} : Rep K H M v d → FsRep K H M vs ds → FsRep K H M ((k, v) :: vs) ((k, d) :: ds)
theorem FsRep.stay {K : PySem.W.Frag} {H H' : Hp} {M M' : Addr → Prop} (s : Stay H M H' M') : ∀ {vs : List (Str × V)} {ds : List (Str × Da)}, FsRep K H M vs ds → FsRep K H' M' vs ds
  | _, _, .nil => .nil
  | _, _, .cons r t => .cons (r.stay s) (FsRep.stay s t)
/-- an error in the air: its class by its name, its fields -/
structure XRep (K : PySem.W.Frag) (mg : Str → Option Value) (H : Hp) (M : Addr → Prop) (c : Str) (fs : List (Str × Da)) (cls : Value) (dd : Option Addr) : Prop where
  cl : mg c = some cls
  no : fs = [] → dd = none
  yes : fs ≠ [] → ∃ a vs, dd = some a ∧ H a = some (.xd vs) ∧ ¬ M a ∧ FsRep K H M vs fs
/-- a value of the def's -/
def exO (a : Addr) (cls : Value) (dd : Option Addr) : HO := .ext fun h => ∃ (oe : Obj) (vs : Array Value), h.get? a = some oe ∧ Zc cls dd oe ∧ oe.data = .fields vs
theorem XRep.stay {K : PySem.W.Frag} {mg : Str → Option Value} {H H' : Hp} {M M' : Addr → Prop} {c : Str} {fs : List (Str × Da)} {cls : Value} {dd : Option Addr} (s : Stay H M H' M') (x : XRep K mg H M c fs cls dd) : XRep K mg H' M' c fs cls dd :=
  ⟨x.cl, x.no, fun z => by
    obtain ⟨a, vs, e1, e2, e3, e4⟩ := x.yes z
    obtain ⟨f1, f2⟩ := s a _ e2 nofun e3
    exact ⟨a, vs, e1, f1, f2, e4.stay s⟩⟩
def VRep0 (K : PySem.W.Frag) (φ : List Addr) (h : Hh) (H : Hp) (v : V) : Vl0 → Prop
  | .d x => Rep K H (Live φ h) v x
  | .r n => ∃ a, φ[n]? = some a ∧ v = .ref a
theorem exO_nt {a : Addr} {cls : Value} {dd : Option Addr} : Nt (exO a cls dd) := fun ps z => by
  unfold exO at z
  cases z
theorem VRep0.step {K : PySem.W.Frag} {φ φ' : List Addr} {h h' : Hh} {H H' : Hp} {v : V} {x : Vl0} (s : Step φ h H φ' h' H') (r : VRep0 K φ h H v x) : VRep0 K φ' h' H' v x := by
  cases x with
  | d x => exact Rep.stay s.st r
  | r n =>
    obtain ⟨a, e, rfl⟩ := r
    exact ⟨a, pre_get s.pre e, rfl⟩
def VRep (K : PySem.W.Frag) (mg : Str → Option Value) (φ : List Addr) (h : Hh) (H : Hp) (v : V) : Vl → Prop
  | .d x => Rep K H (Live φ h) v x
  | .r n => ∃ a, φ[n]? = some a ∧ v = .ref a
  | .x c fs => ∃ (a : Addr) (cls : Value) (dd : Option Addr), v = .ref a ∧ H a = some (exO a cls dd) ∧ ¬ Live φ h a ∧ XRep K mg H (Live φ h) c fs cls dd
  | .f D => v = .ref D.f ∧ H D.c = some (LamX.CodeO D.c D.q) ∧ ¬ Live φ h D.c ∧ D.σ.length = D.ρ.length ∧ ∀ (i : Nat) (w : Vl0), D.ρ[i]? = some (some w) → ∃ x, D.σ[i]? = some (some x) ∧ VRep0 K φ h H x w
variable {mg : Str → Option Value}
theorem VRep.step {K : PySem.W.Frag} {φ φ' : List Addr} {h h' : Hh} {H H' : Hp} {v : V} {x : Vl} (s : Step φ h H φ' h' H') (r : VRep K mg φ h H v x) : VRep K mg φ' h' H' v x := by
  cases x with
  | d x => exact Rep.stay s.st r
  | r n =>
    obtain ⟨a, e, rfl⟩ := r
    exact ⟨a, pre_get s.pre e, rfl⟩
  | x c fs =>
    obtain ⟨a, cls, dd, rfl, e1, e2, xr⟩ := r
    obtain ⟨f1, f2⟩ := s.st a _ e1 exO_nt e2
    exact ⟨a, cls, dd, rfl, f1, f2, xr.stay s.st⟩
  | f D =>
    obtain ⟨e1, e2, e3, e4, e5⟩ := r
    obtain ⟨f1, f2⟩ := s.st _ _ e2 LamX.codeO_ne e3
    exact ⟨e1, f1, f2, e4, fun i w z => (e5 i w z).imp fun x q => ⟨q.1, q.2.step s⟩⟩
inductive VReps (K : PySem.W.Frag) (mg : Str → Option Value) (φ : List Addr) (h : Hh) (H : Hp) : List V → List Vl → Prop
  | nil : VReps K mg φ h H [] []
  | cons {v : V} {vs : List V} {x : Vl} {xs : List Vl} : VRep K mg φ h H v x → VReps K mg φ h H vs xs → VReps K mg φ h H (v :: vs) (x :: xs)
theorem VReps.step {K : PySem.W.Frag} {φ φ' : List Addr} {h h' : Hh} {H H' : Hp} (s : Step φ h H φ' h' H') : ∀ {vs : List V} {xs : List Vl}, VReps K mg φ h H vs xs → VReps K mg φ' h' H' vs xs
  | _, _, .nil => .nil
  | _, _, .cons r t => .cons (r.step s) (VReps.step s t)
theorem VReps.length {K : PySem.W.Frag} {φ : List Addr} {h : Hh} {H : Hp} : ∀ {vs : List V} {xs : List Vl}, VReps K mg φ h H vs xs → vs.length = xs.length
  | _, _, .nil => rfl
  | _, _, .cons _ t => by rw [List.length_cons, List.length_cons, VReps.length t]
/-- the slots -/
structure ERep (K : PySem.W.Frag) (mg : Str → Option Value) (φ : List Addr) (h : Hh) (H : Hp) (σ : St) (ρ : En) : Prop where
  len : σ.length = ρ.length
  at_ : ∀ (i : Nat) (v : Vl), ρ[i]? = some (some v) → ∃ x, σ[i]? = some (some x) ∧ VRep K mg φ h H x v
theorem ERep.step {K : PySem.W.Frag} {φ φ' : List Addr} {h h' : Hh} {H H' : Hp} {σ : St} {ρ : En} (s : Step φ h H φ' h' H') (r : ERep K mg φ h H σ ρ) : ERep K mg φ' h' H' σ ρ :=
  ⟨r.len, fun i v e => let ⟨x, e1, q⟩ := r.at_ i v e; ⟨x, e1, q.step s⟩⟩
theorem ERep.set {K : PySem.W.Frag} {φ : List Addr} {h : Hh} {H : Hp} {σ : St} {ρ : En} {i : Nat} {x : V} {v : Vl} (r : ERep K mg φ h H σ ρ) (q : VRep K mg φ h H x v) : ERep K mg φ h H (σ.set i (some x)) (ρ.set i (some v)) := by
  refine ⟨by rw [List.length_set, List.length_set, r.len], fun j w e => ?_⟩
  by_cases hj : i = j
  · subst hj
    have hl : i < ρ.length := by
      have := (List.getElem?_eq_some_iff.mp e).1
      rw [List.length_set] at this
      exact this
    rw [List.getElem?_set_self hl] at e
    have e' := Option.some.inj (Option.some.inj e)
    subst e'
    exact ⟨x, by rw [List.getElem?_set_self (by rw [r.len]; exact hl)], q⟩
  · rw [List.getElem?_set_ne hj] at e
    obtain ⟨y, e1, q1⟩ := r.at_ j w e
    exact ⟨y, by rw [List.getElem?_set_ne hj]; exact e1, q1⟩

/-! ### readings made of outcomes -/
section
variable (K : PySem.W.Frag) (mg : Str → Option Value)
/-- behind an outcome: Q of a value -/
def PoV (φ : List Addr) (h : Hh) (H : Hp) (o : Out Vl) (Q : VK) : Prop := match o with
  | .ok v h' => ∀ x H' φ', Step φ h H φ' h' H' → Sim K φ' h' H' → VRep K mg φ' h' H' x v → Q x H'
  | _ => False
def PoX (φ : List Addr) (h : Hh) (H : Hp) (o : Out Vl) (Q : VK) (E : XK) : Prop := match o with
  | .ok v h' => ∀ x H' φ', Step φ h H φ' h' H' → Sim K φ' h' H' → VRep K mg φ' h' H' x v → Q x H'
  | .ex c fs h' => ∀ cls dd H' φ', Step φ h H φ' h' H' → Sim K φ' h' H' → XRep K mg H' (Live φ' h') c fs cls dd → E cls dd H'
  | .no => False
def PoT (φ : List Addr) (h : Hh) (H : Hp) (o : Out Bool) (Q : Bool → Hp → Prop) (E : XK) : Prop := match o with
  | .ok b h' => ∀ H' φ', Step φ h H φ' h' H' → Sim K φ' h' H' → Q b H'
  | .ex c fs h' => ∀ cls dd H' φ', Step φ h H φ' h' H' → Sim K φ' h' H' → XRep K mg H' (Live φ' h') c fs cls dd → E cls dd H'
  | .no => False
def PoA (φ : List Addr) (h : Hh) (H : Hp) (o : Out (List Vl)) (Q : List V → Hp → Prop) (E : XK) : Prop := match o with
  | .ok vs h' => ∀ xs H' φ', Step φ h H φ' h' H' → Sim K φ' h' H' → VReps K mg φ' h' H' xs vs → Q xs H'
  | .ex c fs h' => ∀ cls dd H' φ', Step φ h H φ' h' H' → Sim K φ' h' H' → XRep K mg H' (Live φ' h') c fs cls dd → E cls dd H'
  | .no => False
def PoS (φ : List Addr) (h : Hh) (H : Hp) (o : So) (D : Ends) (W : WX) : Prop := match o with
  | .nx ρ h' => ∀ σ' H' φ', Step φ h H φ' h' H' → Sim K φ' h' H' → ERep K mg φ' h' H' σ' ρ → D.nx σ' H'
  | .bk ρ h' => ∀ σ' H' φ', Step φ h H φ' h' H' → Sim K φ' h' H' → ERep K mg φ' h' H' σ' ρ → D.bk σ' H'
  | .ct ρ h' => ∀ σ' H' φ', Step φ h H φ' h' H' → Sim K φ' h' H' → ERep K mg φ' h' H' σ' ρ → D.ct σ' H'
  | .rt v h' => ∀ x H' φ', Step φ h H φ' h' H' → Sim K φ' h' H' → VRep K mg φ' h' H' x v → D.rt x H'
  | .ex c fs ρ h' => ∀ cls dd σ' H' φ', Step φ h H φ' h' H' → Sim K φ' h' H' → ERep K mg φ' h' H' σ' ρ → XRep K mg H' (Live φ' h') c fs cls dd → W cls dd σ' H'
  | .no => False
def tE (W : WX) (f : Ev) : TE := fun σ H Q => ∃ φ h ρ, Sim K φ h H ∧ ERep K mg φ h H σ ρ ∧ PoX K mg φ h H (f ρ h) Q (WE W σ)
def tT (W : WX) (f : Tv) : TT := fun σ H Q => ∃ φ h ρ, Sim K φ h H ∧ ERep K mg φ h H σ ρ ∧ PoT K mg φ h H (f ρ h) Q (WE W σ)
def tA (W : WX) (f : Av) : TA := fun σ H Q => ∃ φ h ρ, Sim K φ h H ∧ ERep K mg φ h H σ ρ ∧ PoA K mg φ h H (f ρ h) Q (WE W σ)
def tS (W : WX) (f : Sv) : TS := fun D σ H => ∃ φ h ρ, Sim K φ h H ∧ ERep K mg φ h H σ ρ ∧ PoS K mg φ h H (f ρ h) D W
end
/-- the judgements: X's code e means f; W: what is wished of errors -/
def EE (X : Cx) (W : WX) (e : Expr) (f : Ev) : Prop := PE X e (tE X.K X.mg W f)
def ET (X : Cx) (W : WX) (e : Expr) (f : Tv) : Prop := PT X e (tT X.K X.mg W f)
def EA (X : Cx) (W : WX) (es : List Expr) (f : Av) : Prop := PA X es (tA X.K X.mg W f)
def ES (X : Cx) (W : WX) (st : Stmt) (f : Sv) : Prop := PS X st (tS X.K X.mg W f)
def ESs (X : Cx) (W : WX) (st : List Stmt) (f : Sv) : Prop := PSs X st (tS X.K X.mg W f)

theorem PE.of {X : Cx} {e : Expr} {t t' : TE} (h : PE X e t) (i : ∀ σ H Q, t' σ H Q → t σ H Q) : PE X e t' := ⟨fun pins s σ H Q I w => h.run pins s σ H Q I (i σ H Q w)⟩
theorem PT.of {X : Cx} {e : Expr} {t t' : TT} (h : PT X e t) (i : ∀ σ H Q, t' σ H Q → t σ H Q) : PT X e t' := ⟨fun pins s σ H Q I w => h.run pins s σ H Q I (i σ H Q w)⟩
theorem PW.of {X : Cx} {e : Expr} {t t' : TT} (h : PW X e t) (i : ∀ σ H Q, t' σ H Q → t σ H Q) : PW X e t' := ⟨fun wh pins s σ H Q I w => h.run wh pins s σ H Q I (i σ H Q w)⟩
theorem PA.of {X : Cx} {e : List Expr} {t t' : TA} (h : PA X e t) (i : ∀ σ H Q, t' σ H Q → t σ H Q) : PA X e t' := ⟨fun pos pins s σ H Q I w => h.run pos pins s σ H Q I (i σ H Q w)⟩
theorem PS.of {X : Cx} {e : Stmt} {t t' : TS} (h : PS X e t) (i : ∀ D σ H, t' D σ H → t D σ H) : PS X e t' := ⟨fun pins s σ H Q I w => h.run pins s σ H Q I (i Q σ H w)⟩
theorem PSs.of {X : Cx} {e : List Stmt} {t t' : TS} (h : PSs X e t) (i : ∀ D σ H, t' D σ H → t D σ H) : PSs X e t' := ⟨fun pins s σ H Q I w => h.run pins s σ H Q I (i Q σ H w)⟩
end Rk

/-! Rk1: the abstract heap grows, changes, is frozen; readings in a row. -/
namespace Rk
open PySem PySem.Spec L2
variable {mg : Str → Option Value}
section
variable {K : PySem.W.Frag} {mg : Str → Option Value} {φ φ' φ1 : List Addr} {h h' h1 : Hh} {H H' H1 : Hp} {a p : Addr} {n : Nat}

theorem Sim.live (s : Sim K φ h H) {a : Addr} (l : Live φ h a) : ∃ o, H a = some o := by
  obtain ⟨i, o, e1, e2⟩ := l
  obtain ⟨b, e3, r⟩ := s.ob i o e2
  rw [e1] at e3
  have e4 := Option.some.inj e3
  subst e4
  cases o with
  | lst xs => obtain ⟨xs, e, _⟩ := r; exact ⟨_, e⟩
  | dct kvs => obtain ⟨xs, e, _⟩ := r; exact ⟨_, e⟩
  | tbl x => obtain ⟨c, ps, _, e, _⟩ := r; exact ⟨_, e⟩
  | rl ns => obtain ⟨xs, e⟩ := r; exact ⟨_, e⟩
/-- what stands where a live object is -/
theorem Sim.kind (s : Sim K φ h H) {a : Addr} (l : Live φ h a) : (∃ xs, H a = some (.lst xs)) ∨ (∃ kvs, H a = some (.dK kvs)) ∨ ∃ ps, H a = some (.tbl ps) := by
  obtain ⟨i, o, e1, e2⟩ := l
  obtain ⟨b, e3, r⟩ := s.ob i o e2
  rw [e1] at e3
  have e4 := Option.some.inj e3
  subst e4
  cases o with
  | lst xs => obtain ⟨xs, e, _⟩ := r; exact .inl ⟨_, e⟩
  | dct kvs => obtain ⟨xs, e, _⟩ := r; exact .inr (.inl ⟨_, e⟩)
  | tbl x => obtain ⟨c, ps, _, e, _⟩ := r; exact .inr (.inr ⟨_, e⟩)
  | rl ns => obtain ⟨xs, e⟩ := r; exact .inl ⟨_, e⟩
theorem Sim.notCode (s : Sim K φ h H) {a c : Addr} {q : Str} (e : H a = some (LamX.CodeO c q)) : ¬ Live φ h a := fun l => by
  rcases s.kind l with ⟨xs, z⟩ | ⟨kvs, z⟩ | ⟨ps, z⟩ <;> rw [e] at z <;> unfold LamX.CodeO at z <;> cases z
theorem Sim.fresh (s : Sim K φ h H) (e : H p = none) : ¬ Live φ h p := fun l => by
  obtain ⟨o, q⟩ := s.live l
  rw [e] at q
  cases q
theorem ORep.stay {M M' : Addr → Prop} {o : Ob} (st : Stay H M H' M') (k : ∀ u, H a = some u → H' a = some u) (nc : ∀ (c : Addr) (q : Str), H c = some (LamX.CodeO c q) → ¬ M c) (r : ORep K H M a o) : ORep K H' M' a o := by
  cases o with
  | lst xs => obtain ⟨xs, e, q⟩ := r; exact ⟨xs, k _ e, q.stay st⟩
  | dct kvs => obtain ⟨xs, e, q⟩ := r; exact ⟨xs, k _ e, q.stay st⟩
  | tbl x =>
    obtain ⟨c, ps, e1, e2, e3, e4⟩ := r
    exact ⟨c, ps, e1, k _ e2, e3, fun pos cv z => (e4 pos cv z).imp fun c' w => ⟨w.1, (st _ _ w.2 LamX.codeO_ne (nc _ _ w.2)).1⟩⟩
  | rl ns => obtain ⟨xs, e⟩ := r; exact ⟨xs, k _ e⟩
/-- a new object that is not numbered -/
theorem Sim.grow (s : Sim K φ h H) {o : HO} (e : H p = none) : Step φ h H φ h (upd H p o) ∧ Sim K φ h (upd H p o) := by
  have k : ∀ b u, H b = some u → upd H p o b = some u := fun b u q => by rw [upd_ne (ne_of_none q e)]; exact q
  have st : Stay H (Live φ h) (upd H p o) (Live φ h) := fun b u q _ n => ⟨k b u q, n⟩
  refine ⟨⟨List.prefix_refl φ, st⟩, s.len, s.inj, fun i ob e2 => ?_, fun i ns e2 => ?_⟩
  · obtain ⟨b, e3, r⟩ := s.ob i ob e2
    exact ⟨b, e3, r.stay st (k b) fun _ _ z => s.notCode z⟩
  · obtain ⟨b, as, e3, e4, e5, e6⟩ := s.rf i ns e2
    exact ⟨b, as, e3, k b _ e4, e5, e6⟩
theorem live_new {o : Ob} (hl : φ.length = h.length) {b : Addr} : Live (φ ++ [p]) (h ++ [some o]) b ↔ Live φ h b ∨ b = p := by
  constructor
  · rintro ⟨i, u, e1, e2⟩
    by_cases hi : i < φ.length
    · rw [List.getElem?_append_left hi] at e1
      rw [List.getElem?_append_left (by omega)] at e2
      exact .inl ⟨i, u, e1, e2⟩
    · rw [List.getElem?_append_right (by omega)] at e1
      have : i - φ.length = 0 := by
        have := (List.getElem?_eq_some_iff.mp e1).1
        simp at this
        omega
      rw [this] at e1
      exact .inr (Option.some.inj e1).symm
  · rintro (⟨i, u, e1, e2⟩ | rfl)
    · exact ⟨i, u, by rw [List.getElem?_append_left (List.getElem?_eq_some_iff.mp e1).1]; exact e1, by rw [List.getElem?_append_left (List.getElem?_eq_some_iff.mp e2).1]; exact e2⟩
    · exact ⟨φ.length, o, by simp, by rw [hl]; simp⟩
/-- a new object that is numbered -/
theorem Sim.new (s : Sim K φ h H) {o : HO} {ob : Ob} (e : H p = none) (r : ∀ M, Stay H (Live φ h) (upd H p o) M → ORep K (upd H p o) M p ob) (nr : ∀ ns, ob ≠ .rl ns := by intro _ z; cases z) :
    Step φ h H (φ ++ [p]) (h ++ [some ob]) (upd H p o) ∧ Sim K (φ ++ [p]) (h ++ [some ob]) (upd H p o) ∧ VRep K mg (φ ++ [p]) (h ++ [some ob]) (upd H p o) (.ref p) (.r h.length) := by
  have k : ∀ b u, H b = some u → upd H p o b = some u := fun b u q => by rw [upd_ne (ne_of_none q e)]; exact q
  have st : Stay H (Live φ h) (upd H p o) (Live (φ ++ [p]) (h ++ [some ob])) := fun b u q _ n => ⟨k b u q, fun l => by
    rcases (live_new s.len).mp l with l | rfl
    · exact n l
    · rw [e] at q; cases q⟩
  have nl := s.fresh e
  have hgt : ∀ (i : Nat) (b : Addr) (u : Ob), (φ ++ [p])[i]? = some b → (h ++ [some ob])[i]? = some (some u) → (i < φ.length ∧ φ[i]? = some b ∧ h[i]? = some (some u)) ∨ (i = φ.length ∧ b = p ∧ u = ob) := fun i b u e1 e2 => by
    by_cases hi : i < φ.length
    · rw [List.getElem?_append_left hi] at e1
      rw [List.getElem?_append_left (by rw [← s.len]; exact hi)] at e2
      exact .inl ⟨hi, e1, e2⟩
    · have hz : i = φ.length := by
        have := (List.getElem?_eq_some_iff.mp e1).1
        simp at this
        omega
      subst hz
      rw [List.getElem?_append_right (by omega)] at e1
      rw [s.len, List.getElem?_append_right (by omega)] at e2
      simp at e1 e2
      exact .inr ⟨rfl, e1.symm, e2.symm⟩
  refine ⟨⟨List.prefix_append φ [p], st⟩, ⟨by simp [s.len], fun i j b u u' e1 e2 e3 e4 => ?_, fun i u e2 => ?_, fun i ns e2 => ?_⟩, ?_⟩
  · rcases hgt i b u e1 e3 with ⟨h1, h2, h3⟩ | ⟨h1, h2, h3⟩ <;> rcases hgt j b u' e2 e4 with ⟨g1, g2, g3⟩ | ⟨g1, g2, g3⟩
    · exact s.inj i j b u u' h2 g2 h3 g3
    · subst g2; exact absurd ⟨i, u, h2, h3⟩ nl
    · subst h2; exact absurd ⟨j, u', g2, g3⟩ nl
    · omega
  · by_cases hi : i < φ.length
    · have e2' : h[i]? = some (some u) := by
        rw [List.getElem?_append_left (by rw [← s.len]; exact hi)] at e2
        exact e2
      obtain ⟨b, e3, q⟩ := s.ob i u e2'
      exact ⟨b, by rw [List.getElem?_append_left hi]; exact e3, q.stay st (k b) fun _ _ z => s.notCode z⟩
    · have hz : i = h.length := by
        have := (List.getElem?_eq_some_iff.mp e2).1
        have := s.len
        simp at *
        omega
      subst hz
      rw [List.getElem?_append_right (by omega)] at e2
      simp at e2
      subst e2
      exact ⟨p, by rw [← s.len]; simp, r _ st⟩
  · by_cases hi : i < φ.length
    · have e2' : h[i]? = some (some (.rl ns)) := by
        rw [List.getElem?_append_left (by rw [← s.len]; exact hi)] at e2
        exact e2
      obtain ⟨b, as, e3, e4, e5, e6⟩ := s.rf i ns e2'
      refine ⟨b, as, by rw [List.getElem?_append_left hi]; exact e3, k b _ e4, e5, fun k0 n0 z => ?_⟩
      obtain ⟨z1, z2⟩ := e6 k0 n0 z
      exact ⟨z1, by rw [List.getElem?_append_left (by omega)]; exact z2⟩
    · have hz : i = h.length := by
        have := (List.getElem?_eq_some_iff.mp e2).1
        have := s.len
        simp at *
        omega
      subst hz
      rw [List.getElem?_append_right (by omega)] at e2
      simp at e2
      exact absurd e2 (nr ns)
  · exact ⟨p, by rw [← s.len]; simp, rfl⟩
theorem live_set {o ob : Ob} (e : h[n]? = some (some o)) {b : Addr} : Live φ (h.set n (some ob)) b ↔ Live φ h b := by
  have hl := (List.getElem?_eq_some_iff.mp e).1
  constructor
  · rintro ⟨i, u, e1, e2⟩
    by_cases hi : n = i
    · subst hi; exact ⟨n, o, e1, e⟩
    · rw [List.getElem?_set_ne hi] at e2; exact ⟨i, u, e1, e2⟩
  · rintro ⟨i, u, e1, e2⟩
    by_cases hi : n = i
    · subst hi; exact ⟨n, ob, e1, by rw [List.getElem?_set_self hl]⟩
    · exact ⟨i, u, e1, by rw [List.getElem?_set_ne hi]; exact e2⟩
/-- an object changes -/
theorem Sim.write (s : Sim K φ h H) {o ob : Ob} {u : HO} (e : h[n]? = some (some o)) (ea : φ[n]? = some a) (r : ∀ M, Stay H (Live φ h) (upd H a u) M → ORep K (upd H a u) M a ob) (nr : ∀ ns, ob ≠ .rl ns := by intro _ z; cases z) :
    Step φ h H φ (h.set n (some ob)) (upd H a u) ∧ Sim K φ (h.set n (some ob)) (upd H a u) := by
  have la : Live φ h a := ⟨n, o, ea, e⟩
  have hl := (List.getElem?_eq_some_iff.mp e).1
  have st : Stay H (Live φ h) (upd H a u) (Live φ (h.set n (some ob))) := fun b v q _ nb => ⟨by rw [upd_ne (fun z => nb (by rw [z]; exact la))]; exact q, fun l => nb ((live_set e).mp l)⟩
  have back : ∀ (i : Nat) (v : Ob), (h.set n (some ob))[i]? = some (some v) → ∃ v', h[i]? = some (some v') := fun i v e2 => by
    by_cases hi : n = i
    · subst hi; exact ⟨o, e⟩
    · rw [List.getElem?_set_ne hi] at e2; exact ⟨v, e2⟩
  refine ⟨⟨List.prefix_refl φ, st⟩, ⟨by rw [List.length_set]; exact s.len, fun i j b v v' e1 e2 e3 e4 => ?_, fun i v e2 => ?_, fun i ns e2 => ?_⟩⟩
  · obtain ⟨w, f3⟩ := back i v e3
    obtain ⟨w', f4⟩ := back j v' e4
    exact s.inj i j b w w' e1 e2 f3 f4
  · by_cases hi : n = i
    · subst hi
      rw [List.getElem?_set_self hl] at e2
      have e3 := Option.some.inj (Option.some.inj e2)
      subst e3
      exact ⟨a, ea, r _ st⟩
    · rw [List.getElem?_set_ne hi] at e2
      obtain ⟨b, e3, q⟩ := s.ob i v e2
      refine ⟨b, e3, q.stay st (fun w hw => ?_) fun _ _ z => s.notCode z⟩
      rw [upd_ne (fun z => hi (s.inj n i a o v ea (by rw [← z]; exact e3) e e2))]
      exact hw
  · by_cases hi : n = i
    · subst hi
      rw [List.getElem?_set_self hl] at e2
      exact absurd (Option.some.inj (Option.some.inj e2)) (nr ns)
    · rw [List.getElem?_set_ne hi] at e2
      obtain ⟨b, as, e3, e4, e5, e6⟩ := s.rf i ns e2
      refine ⟨b, as, e3, ?_, e5, e6⟩
      rw [upd_ne (fun z => hi (s.inj n i a o _ ea (by rw [← z]; exact e3) e e2))]
      exact e4
/-- an object is frozen: it never changes from now on -/
theorem Sim.freeze (s : Sim K φ h H) {o : Ob} (e : h[n]? = some (some o)) (ea : φ[n]? = some a) : Step φ h H φ (h.set n none) H ∧ Sim K φ (h.set n none) H ∧ ¬ Live φ (h.set n none) a := by
  have hl := (List.getElem?_eq_some_iff.mp e).1
  have less : ∀ b, Live φ (h.set n none) b → Live φ h b := fun b ⟨i, u, e1, e2⟩ => by
    by_cases hi : n = i
    · subst hi; rw [List.getElem?_set_self hl] at e2; cases e2
    · rw [List.getElem?_set_ne hi] at e2; exact ⟨i, u, e1, e2⟩
  have st : Stay H (Live φ h) H (Live φ (h.set n none)) := fun b v q _ nb => ⟨q, fun l => nb (less b l)⟩
  have back : ∀ (i : Nat) (v : Ob), (h.set n none)[i]? = some (some v) → h[i]? = some (some v) ∧ n ≠ i := fun i v e2 => by
    by_cases hi : n = i
    · subst hi; rw [List.getElem?_set_self hl] at e2; cases e2
    · rw [List.getElem?_set_ne hi] at e2; exact ⟨e2, hi⟩
  refine ⟨⟨List.prefix_refl φ, st⟩, ⟨by rw [List.length_set]; exact s.len, fun i j b v v' e1 e2 e3 e4 => s.inj i j b v v' e1 e2 (back i v e3).1 (back j v' e4).1, fun i v e2 => ?_, fun i ns e2 => s.rf i ns (back i _ e2).1⟩, ?_⟩
  · obtain ⟨b, e3, q⟩ := s.ob i v (back i v e2).1
    exact ⟨b, e3, q.stay st (fun _ hw => hw) fun _ _ z => s.notCode z⟩
  · rintro ⟨i, v, e1, e2⟩
    have q := back i v e2
    exact q.2 (s.inj n i a o v ea e1 e q.1)

/-! ### readings in a row -/
theorem PoX.pull {o : Out Vl} {Q : VK} {E : XK} (s : Step φ h H φ1 h1 H1) (q : PoX K mg φ h H o Q E) : PoX K mg φ1 h1 H1 o Q E := by
  cases o with
  | ok v h2 => exact fun x H' φ' st => q x H' φ' (s.trans st)
  | ex c fs h2 => exact fun cls dd H' φ' st => q cls dd H' φ' (s.trans st)
  | no => exact q
theorem PoT.pull {o : Out Bool} {Q : Bool → Hp → Prop} {E : XK} (s : Step φ h H φ1 h1 H1) (q : PoT K mg φ h H o Q E) : PoT K mg φ1 h1 H1 o Q E := by
  cases o with
  | ok v h2 => exact fun H' φ' st => q H' φ' (s.trans st)
  | ex c fs h2 => exact fun cls dd H' φ' st => q cls dd H' φ' (s.trans st)
  | no => exact q
theorem PoA.pull {o : Out (List Vl)} {Q : List V → Hp → Prop} {E : XK} (s : Step φ h H φ1 h1 H1) (q : PoA K mg φ h H o Q E) : PoA K mg φ1 h1 H1 o Q E := by
  cases o with
  | ok v h2 => exact fun x H' φ' st => q x H' φ' (s.trans st)
  | ex c fs h2 => exact fun cls dd H' φ' st => q cls dd H' φ' (s.trans st)
  | no => exact q
theorem PoS.pull {o : So} {D : Ends} {W : WX} (s : Step φ h H φ1 h1 H1) (q : PoS K mg φ h H o D W) : PoS K mg φ1 h1 H1 o D W := by
  cases o with
  | nx ρ h2 => exact fun x H' φ' st => q x H' φ' (s.trans st)
  | rt v h2 => exact fun x H' φ' st => q x H' φ' (s.trans st)
  | bk ρ h2 => exact fun x H' φ' st => q x H' φ' (s.trans st)
  | ct ρ h2 => exact fun x H' φ' st => q x H' φ' (s.trans st)
  | ex c fs ρ h2 => exact fun cls dd x H' φ' st => q cls dd x H' φ' (s.trans st)
  | no => exact q
/-- the outcome's own end, at once -/
theorem PoX.now {v : Vl} {x : V} {Q : VK} {E : XK} (q : PoX K mg φ h H (.ok v h) Q E) (s : Sim K φ h H) (r : VRep K mg φ h H x v) : Q x H := q x H φ (Step.refl _ _ _) s r
variable {E : XK}
theorem PoX.goE {o : Out Vl} {k : Vl → Hh → Out Vl} {Q : VK} {Q1 : VK} (q : PoX K mg φ h H (o.bind k) Q E)
    (hk : ∀ (x : V) (v : Vl) (h1 : Hh) (H1 : Hp) (φ1 : List Addr), Step φ h H φ1 h1 H1 → Sim K φ1 h1 H1 → VRep K mg φ1 h1 H1 x v → PoX K mg φ1 h1 H1 (k v h1) Q E → Q1 x H1) : PoX K mg φ h H o Q1 E := by
  cases o with
  | ok v h1 => exact fun x H' φ' st sm' rv => hk x v h1 H' φ' st sm' rv (PoX.pull st q)
  | ex c fs h1 => exact q
  | no => exact q
theorem PoX.goT {o : Out Bool} {k : Bool → Hh → Out Vl} {Q : VK} {Q1 : (Bool → Hp → Prop)} (q : PoX K mg φ h H (o.bind k) Q E)
    (hk : ∀ (v : Bool) (h1 : Hh) (H1 : Hp) (φ1 : List Addr), Step φ h H φ1 h1 H1 → Sim K φ1 h1 H1 → PoX K mg φ1 h1 H1 (k v h1) Q E → Q1 v H1) : PoT K mg φ h H o Q1 E := by
  cases o with
  | ok v h1 => exact fun H' φ' st sm' => hk v h1 H' φ' st sm' (PoX.pull st q)
  | ex c fs h1 => exact q
  | no => exact q
theorem PoX.goA {o : Out (List Vl)} {k : (List Vl) → Hh → Out Vl} {Q : VK} {Q1 : (List V → Hp → Prop)} (q : PoX K mg φ h H (o.bind k) Q E)
    (hk : ∀ (x : List V) (v : List Vl) (h1 : Hh) (H1 : Hp) (φ1 : List Addr), Step φ h H φ1 h1 H1 → Sim K φ1 h1 H1 → VReps K mg φ1 h1 H1 x v → PoX K mg φ1 h1 H1 (k v h1) Q E → Q1 x H1) : PoA K mg φ h H o Q1 E := by
  cases o with
  | ok v h1 => exact fun x H' φ' st sm' rv => hk x v h1 H' φ' st sm' rv (PoX.pull st q)
  | ex c fs h1 => exact q
  | no => exact q
theorem PoT.goE {o : Out Vl} {k : Vl → Hh → Out Bool} {Q : (Bool → Hp → Prop)} {Q1 : VK} (q : PoT K mg φ h H (o.bind k) Q E)
    (hk : ∀ (x : V) (v : Vl) (h1 : Hh) (H1 : Hp) (φ1 : List Addr), Step φ h H φ1 h1 H1 → Sim K φ1 h1 H1 → VRep K mg φ1 h1 H1 x v → PoT K mg φ1 h1 H1 (k v h1) Q E → Q1 x H1) : PoX K mg φ h H o Q1 E := by
  cases o with
  | ok v h1 => exact fun x H' φ' st sm' rv => hk x v h1 H' φ' st sm' rv (PoT.pull st q)
  | ex c fs h1 => exact q
  | no => exact q
theorem PoT.goT {o : Out Bool} {k : Bool → Hh → Out Bool} {Q : (Bool → Hp → Prop)} {Q1 : (Bool → Hp → Prop)} (q : PoT K mg φ h H (o.bind k) Q E)
    (hk : ∀ (v : Bool) (h1 : Hh) (H1 : Hp) (φ1 : List Addr), Step φ h H φ1 h1 H1 → Sim K φ1 h1 H1 → PoT K mg φ1 h1 H1 (k v h1) Q E → Q1 v H1) : PoT K mg φ h H o Q1 E := by
  cases o with
  | ok v h1 => exact fun H' φ' st sm' => hk v h1 H' φ' st sm' (PoT.pull st q)
  | ex c fs h1 => exact q
  | no => exact q
theorem PoT.goA {o : Out (List Vl)} {k : (List Vl) → Hh → Out Bool} {Q : (Bool → Hp → Prop)} {Q1 : (List V → Hp → Prop)} (q : PoT K mg φ h H (o.bind k) Q E)
    (hk : ∀ (x : List V) (v : List Vl) (h1 : Hh) (H1 : Hp) (φ1 : List Addr), Step φ h H φ1 h1 H1 → Sim K φ1 h1 H1 → VReps K mg φ1 h1 H1 x v → PoT K mg φ1 h1 H1 (k v h1) Q E → Q1 x H1) : PoA K mg φ h H o Q1 E := by
  cases o with
  | ok v h1 => exact fun x H' φ' st sm' rv => hk x v h1 H' φ' st sm' rv (PoT.pull st q)
  | ex c fs h1 => exact q
  | no => exact q
theorem PoA.goE {o : Out Vl} {k : Vl → Hh → Out (List Vl)} {Q : (List V → Hp → Prop)} {Q1 : VK} (q : PoA K mg φ h H (o.bind k) Q E)
    (hk : ∀ (x : V) (v : Vl) (h1 : Hh) (H1 : Hp) (φ1 : List Addr), Step φ h H φ1 h1 H1 → Sim K φ1 h1 H1 → VRep K mg φ1 h1 H1 x v → PoA K mg φ1 h1 H1 (k v h1) Q E → Q1 x H1) : PoX K mg φ h H o Q1 E := by
  cases o with
  | ok v h1 => exact fun x H' φ' st sm' rv => hk x v h1 H' φ' st sm' rv (PoA.pull st q)
  | ex c fs h1 => exact q
  | no => exact q
theorem PoA.goT {o : Out Bool} {k : Bool → Hh → Out (List Vl)} {Q : (List V → Hp → Prop)} {Q1 : (Bool → Hp → Prop)} (q : PoA K mg φ h H (o.bind k) Q E)
    (hk : ∀ (v : Bool) (h1 : Hh) (H1 : Hp) (φ1 : List Addr), Step φ h H φ1 h1 H1 → Sim K φ1 h1 H1 → PoA K mg φ1 h1 H1 (k v h1) Q E → Q1 v H1) : PoT K mg φ h H o Q1 E := by
  cases o with
  | ok v h1 => exact fun H' φ' st sm' => hk v h1 H' φ' st sm' (PoA.pull st q)
  | ex c fs h1 => exact q
  | no => exact q
theorem PoA.goA {o : Out (List Vl)} {k : (List Vl) → Hh → Out (List Vl)} {Q : (List V → Hp → Prop)} {Q1 : (List V → Hp → Prop)} (q : PoA K mg φ h H (o.bind k) Q E)
    (hk : ∀ (x : List V) (v : List Vl) (h1 : Hh) (H1 : Hp) (φ1 : List Addr), Step φ h H φ1 h1 H1 → Sim K φ1 h1 H1 → VReps K mg φ1 h1 H1 x v → PoA K mg φ1 h1 H1 (k v h1) Q E → Q1 x H1) : PoA K mg φ h H o Q1 E := by
  cases o with
  | ok v h1 => exact fun x H' φ' st sm' rv => hk x v h1 H' φ' st sm' rv (PoA.pull st q)
  | ex c fs h1 => exact q
  | no => exact q
/-- outcome of an expression, then a statement's end -/
def Out.then {α : Type} (ρ : En) : Out α → (α → Hh → So) → So
  | .ok a h, f => f a h
  | .ex c fs h, _ => .ex c fs ρ h
  | .no, _ => .no
theorem Out.then_ok {α : Type} (ρ : En) (a : α) (h : Hh) (f : α → Hh → So) : Out.then ρ (Out.ok a h) f = f a h := rfl
theorem Out.then_ex {α : Type} (ρ : En) (c : Str) (fs : List (Str × Da)) (h : Hh) (f : α → Hh → So) : Out.then ρ (Out.ex c fs h) f = .ex c fs ρ h := rfl
variable {W : WX} {σ : L2.St} {ρ : En} {D : Ends}
theorem PoS.goE {o : Out Vl} {k : Vl → Hh → So} {Q1 : VK} (er : ERep K mg φ h H σ ρ) (q : PoS K mg φ h H (Out.then ρ o k) D W)
    (hk : ∀ (x : V) (v : Vl) (h1 : Hh) (H1 : Hp) (φ1 : List Addr), Step φ h H φ1 h1 H1 → Sim K φ1 h1 H1 → ERep K mg φ1 h1 H1 σ ρ → VRep K mg φ1 h1 H1 x v → PoS K mg φ1 h1 H1 (k v h1) D W → Q1 x H1) : PoX K mg φ h H o Q1 (WE W σ) := by
  cases o with
  | ok v h1 => exact fun x H' φ' st sm' rv => hk x v h1 H' φ' st sm' (er.step st) rv (PoS.pull st q)
  | ex c fs h1 => exact fun cls dd H' φ' st sm' xr => q cls dd σ H' φ' st sm' (er.step st) xr
  | no => exact q
theorem PoS.goT {o : Out Bool} {k : Bool → Hh → So} {Q1 : (Bool → Hp → Prop)} (er : ERep K mg φ h H σ ρ) (q : PoS K mg φ h H (Out.then ρ o k) D W)
    (hk : ∀ (v : Bool) (h1 : Hh) (H1 : Hp) (φ1 : List Addr), Step φ h H φ1 h1 H1 → Sim K φ1 h1 H1 → ERep K mg φ1 h1 H1 σ ρ → PoS K mg φ1 h1 H1 (k v h1) D W → Q1 v H1) : PoT K mg φ h H o Q1 (WE W σ) := by
  cases o with
  | ok v h1 => exact fun H' φ' st sm' => hk v h1 H' φ' st sm' (er.step st) (PoS.pull st q)
  | ex c fs h1 => exact fun cls dd H' φ' st sm' xr => q cls dd σ H' φ' st sm' (er.step st) xr
  | no => exact q
theorem PoS.goA {o : Out (List Vl)} {k : (List Vl) → Hh → So} {Q1 : (List V → Hp → Prop)} (er : ERep K mg φ h H σ ρ) (q : PoS K mg φ h H (Out.then ρ o k) D W)
    (hk : ∀ (x : List V) (v : List Vl) (h1 : Hh) (H1 : Hp) (φ1 : List Addr), Step φ h H φ1 h1 H1 → Sim K φ1 h1 H1 → ERep K mg φ1 h1 H1 σ ρ → VReps K mg φ1 h1 H1 x v → PoS K mg φ1 h1 H1 (k v h1) D W → Q1 x H1) : PoA K mg φ h H o Q1 (WE W σ) := by
  cases o with
  | ok v h1 => exact fun x H' φ' st sm' rv => hk x v h1 H' φ' st sm' (er.step st) rv (PoS.pull st q)
  | ex c fs h1 => exact fun cls dd H' φ' st sm' xr => q cls dd σ H' φ' st sm' (er.step st) xr
  | no => exact q
end
end Rk

/-! Rk2: expressions. -/
namespace Rk
open PySem PySem.Spec L2
variable {mg : Str → Option Value}
/-! ### data out of values -/
def fitB (n : Nat) : Bool := decide (n ≤ 16777216)
theorem fitB_ok {n : Nat} (h : n ≤ 16777216) : fitB n = true := decide_eq_true h
theorem fitB_le {n : Nat} (h : fitB n = true) : n ≤ sizeLine := by
  rw [sizeLine_eq]
  exact of_decide_eq_true h
/-- a list that is read -/
def asL : Vl → Hh → Option (List Da)
  | .d (.list xs), _ => some xs
  | .r n, h => match h[n]? with
    | some (some (.lst xs)) => some xs
    | _ => none
  | _, _ => none
/-- the data of a value, as it stands now -/
def asD : Vl → Hh → Option Da
  | .d x, _ => some x
  | .r n, h => match h[n]? with
    | some (some (.lst xs)) => some (.list xs)
    | _ => none
  | _, _ => none
/-- data for ever: an object is frozen -/
def fz : Vl → Hh → Option (Da × Hh)
  | .d x, h => some (x, h)
  | .r n, h => match h[n]? with
    | some (some (.lst xs)) => some (.list xs, h.set n none)
    | _ => none
  | _, _ => none
def fzs : List Vl → Hh → Option (List Da × Hh)
  | [], h => some ([], h)
  | v :: vs, h => (fz v h).bind fun p => (fzs vs p.2).map fun q => (p.1 :: q.1, q.2)
section
variable {K : PySem.W.Frag} {φ : List Addr} {h h' : Hh} {H : Hp} {x : V} {v : Vl}
theorem Sim.at_ (s : Sim K φ h H) {n : Nat} {o : Ob} {a : Addr} (e : h[n]? = some (some o)) (ea : φ[n]? = some a) : ORep K H (Live φ h) a o := by
  obtain ⟨b, e1, r⟩ := s.ob n o e
  rw [ea] at e1
  have := Option.some.inj e1
  subst this
  exact r
theorem asL_ok {ds : List Da} (s : Sim K φ h H) (r : VRep K mg φ h H x v) (e : asL v h = some ds) : ∃ a xs, x = .ref a ∧ SqL K H a xs ∧ Reps K H (Live φ h) xs ds := by
  unfold asL at e
  split at e
  · cases e
    cases r with
    | lst h1 n r => exact ⟨_, _, rfl, .inl h1, r⟩
    | lstK h1 r => exact ⟨_, _, rfl, .inr h1, r⟩
  · split at e
    · cases e
      obtain ⟨a, ea, rfl⟩ := r
      obtain ⟨xs, e2, q⟩ := s.at_ (by assumption) ea
      exact ⟨a, xs, rfl, .of e2, q⟩
    · cases e
  · cases e
mutual
theorem Rep.dp {M : Addr → Prop} : ∀ {v : V} {d : Da}, Rep K H M v d → d.hasDict = false → Dp K H v d
  | _, _, .non, _ => .non
  | _, _, .bl b, _ => .bl b
  | _, _, .int i, _ => .int i
  | _, _, .str x, _ => .str x
  | _, _, .tup h n r, e => .tup (.inl h) (Reps.dp r (by unfold PyData.hasDict at e; exact e))
  | _, _, .tupK h r, e => .tup (.inr h) (Reps.dp r (by unfold PyData.hasDict at e; exact e))
  | _, _, .lst h n r, e => .lst (.inl h) (Reps.dp r (by unfold PyData.hasDict at e; exact e))
  | _, _, .lstK h r, e => .lst (.inr h) (Reps.dp r (by unfold PyData.hasDict at e; exact e))
  | _, _, .dct0 h n, e => by
    unfold PyData.hasDict at e
    cases e
  | _, _, .dct _ _ _ _ _, e => by
    unfold PyData.hasDict at e
    cases e
  | _, _, .fn _, e => by
    unfold PyData.hasDict at e
    cases e
  | _, _, .plt _ _ _ _, e => by
    unfold PyData.hasDict at e
    cases e
theorem Reps.dp {M : Addr → Prop} : ∀ {vs : List V} {ds : List Da}, Reps K H M vs ds → PyData.hasDictAll ds = false → DpAll K H vs ds
  | _, _, .nil, _ => .nil
  | _, _, .cons r t, e => by
    unfold PyData.hasDictAll at e
    rw [Bool.or_eq_false_iff] at e
    exact .cons (Rep.dp r e.1) (Reps.dp t e.2)
end
theorem asD_ok {d : Da} (s : Sim K φ h H) (r : VRep K mg φ h H x v) (e : asD v h = some d) (nd : d.hasDict = false) : Dp K H x d := by
  unfold asD at e
  split at e
  · cases e
    exact Rep.dp r nd
  · split at e
    · cases e
      obtain ⟨a, ea, rfl⟩ := r
      obtain ⟨xs, e2, q⟩ := s.at_ (by assumption) ea
      exact .lst (.of e2) (Reps.dp q (by unfold PyData.hasDict at nd; exact nd))
    · cases e
  · cases e
theorem fz_ok {d : Da} (s : Sim K φ h H) (r : VRep K mg φ h H x v) (e : fz v h = some (d, h')) : Step φ h H φ h' H ∧ Sim K φ h' H ∧ Rep K H (Live φ h') x d := by
  unfold fz at e
  split at e
  · cases e
    exact ⟨Step.refl _ _ _, s, r⟩
  · split at e
    · cases e
      obtain ⟨a, ea, rfl⟩ := r
      rename_i hn
      obtain ⟨xs, e2, q⟩ := s.at_ hn ea
      obtain ⟨s1, s2, s3⟩ := s.freeze hn ea
      exact ⟨s1, s2, .lst (.inl e2) s3 (q.stay s1.st)⟩
    · cases e
  · cases e
theorem fzs_ok : ∀ {vs : List Vl} {xs : List V} {ds : List Da} {h h' : Hh}, Sim K φ h H → VReps K mg φ h H xs vs → fzs vs h = some (ds, h') → Step φ h H φ h' H ∧ Sim K φ h' H ∧ Reps K H (Live φ h') xs ds
  | [], _, _, _, _, s, .nil, e => by
    cases e
    exact ⟨Step.refl _ _ _, s, .nil⟩
  | v :: vs, _, ds, h, h', s, .cons r t, e => by
    unfold fzs at e
    cases e1 : fz v h with
    | none => rw [e1] at e; cases e
    | some p =>
      obtain ⟨d, h1⟩ := p
      rw [e1] at e
      dsimp only [Option.bind_some] at e
      obtain ⟨s1, s2, s3⟩ := fz_ok s r e1
      cases e2 : fzs vs h1 with
      | none => rw [e2] at e; cases e
      | some q =>
        obtain ⟨es, h2⟩ := q
        rw [e2] at e
        cases e
        obtain ⟨t1, t2, t3⟩ := fzs_ok s2 (t.step s1) e2
        exact ⟨s1.trans t1, t2, .cons (s3.stay t1.st) t3⟩
end

/-! ### names, constants -/
def eVar (i : Nat) : Ev := fun ρ h => match ρ[i]? with
  | some (some v) => .ok v h
  | _ => .no
def eD (d : Da) : Ev := fun _ h => .ok (.d d) h
section
variable {X : Cx} {W : WX}
theorem ee_var (i : Nat) {x : Str} {pos : Pos} (hN : X.N[i]? = some x := by rfl) (hv : Vis X.env.scope x := by first | exact Or.inl rfl | exact Or.inr (Or.inl rfl) | exact Or.inr (Or.inr rfl)) (hd : (x == ("__debug__" : Str)) = false := by decide)
    (hcd : (x == ("__classdict__" : Str)) = false := by decide) : EE X W (.Name x pos) (eVar i) :=
  PE.of (pe_var hN hv hd hcd) fun σ H Q ⟨φ, h, ρ, sm, er, q⟩ => by
    unfold eVar at q
    split at q
    · rename_i v e
      obtain ⟨y, e1, r⟩ := er.at_ i v e
      exact ⟨y, e1, q.now sm r⟩
    · exact q.elim
theorem ee_c {e : Expr} {v : V} {d : Da} (p : PE X e (tC v)) (k : KRep X.K v d) : EE X W e (eD d) :=
  PE.of p fun σ H Q ⟨φ, h, ρ, sm, er, q⟩ => PoX.now (v := .d d) q sm (k _ _)
theorem ee_int {i : Int} {j : Nat} {pos : Pos} : EE X W (.Constant (.int i) j pos) (eD (.int i)) := ee_c pe_int fun _ _ => .int i
theorem ee_bl {b : Bool} {j : Nat} {pos : Pos} : EE X W (.Constant (.bool b) j pos) (eD (.bool b)) := ee_c pe_bl fun _ _ => .bl b
theorem ee_non {j : Nat} {pos : Pos} : EE X W (.Constant .none j pos) (eD .none) := ee_c pe_non fun _ _ => .non
theorem ee_str {x : Str} {j : Nat} {pos : Pos} : EE X W (.Constant (.str x) j pos) (eD (.str x)) := ee_c pe_str fun _ _ => .str x
theorem ee_glob {x : Str} {v : V} {u : Value} {d : Da} {pos : Pos} (hg : Gl X x) (hm : X.mg x = some u) (r : RelV v u) (k : KRep X.K v d) (hd : (x == ("__debug__" : Str)) = false := by decide) : EE X W (.Name x pos) (eD d) := ee_c (pe_glob hg hm r hd) k
end

/-! ### operators -/
def ofO : Option (Vl × Hh) → Out Vl
  | some p => .ok p.1 p.2
  | none => .no
theorem ofO_some (v : Vl) (h : Hh) : ofO (some (v, h)) = .ok v h := rfl
abbrev G2 := Vl → Vl → Hh → Option (Vl × Hh)
def eOp (g : G2) (a b : Ev) : Ev := fun ρ h => (a ρ h).bind fun x h1 => (b ρ h1).bind fun y h2 => ofO (g x y h2)
def Ok2 (K : PySem.W.Frag) (mg : Str → Option Value) (r : R2) (g : G2) : Prop := ∀ (φ : List Addr) (h : Hh) (H : Hp) (x y : V) (a b : Vl) (Q : VK) (v : Vl) (h' : Hh), Sim K φ h H → VRep K mg φ h H x a → VRep K mg φ h H y b → g a b h = some (v, h') →
  (∀ z H' φ', Step φ h H φ' h' H' → Sim K φ' h' H' → VRep K mg φ' h' H' z v → Q z H') → r x y H Q
theorem PoX.ofO {K : PySem.W.Frag} {mg : Str → Option Value} {φ : List Addr} {h : Hh} {H : Hp} {o : Option (Vl × Hh)} {Q : VK} {E : XK} (q : PoX K mg φ h H (Rk.ofO o) Q E) :
    ∃ v h', o = some (v, h') ∧ ∀ z H' φ', Step φ h H φ' h' H' → Sim K φ' h' H' → VRep K mg φ' h' H' z v → Q z H' := by
  cases o with
  | none => exact q.elim
  | some p => exact ⟨p.1, p.2, rfl, q⟩
section
variable {X : Cx} {W : WX} {a b c : Expr} {fa fb fc : Ev} {pos : Pos} {r r' : R2} {g g' : G2}
theorem tOp_ok {σ : L2.St} {H : Hp} {Q : VK} (ok : Ok2 X.K X.mg r g) (hf : tE X.K X.mg W (eOp g fa fb) σ H Q) : tOp r (tE X.K X.mg W fa) (tE X.K X.mg W fb) σ H Q := by
  obtain ⟨φ, h, ρ, sm, er, q⟩ := hf
  refine ⟨φ, h, ρ, sm, er, PoX.goE q fun x v h1 H1 φ1 st sm1 rv q1 => ⟨φ1, h1, ρ, sm1, er.step st, PoX.goE q1 fun y w h2 H2 φ2 st2 sm2 rw q2 => ?_⟩⟩
  obtain ⟨z, h3, e, k⟩ := PoX.ofO q2
  exact ok φ2 h2 H2 x y v w Q z h3 sm2 (rv.step st2) rw e k
theorem ee_op {op : Operator} (ho : OpR X (binaryOp op) r) (ok : Ok2 X.K X.mg r g) (ha : EE X W a fa) (hb : EE X W b fb) : EE X W (.BinOp a op b pos) (eOp g fa fb) :=
  PE.of (pe_op ho ha hb) fun σ H Q hf => tOp_ok ok hf
theorem ee_cmp {op : CmpOp} (ho : OpR X (compareOp op) r) (ok : Ok2 X.K X.mg r g) (ha : EE X W a fa) (hb : EE X W b fb) (hm : behindInMarks op b = false) : EE X W (.Compare a [op] [b] pos) (eOp g fa fb) :=
  PE.of (pe_cmpR ho ha hb hm) fun σ H Q hf => tOp_ok ok hf
/-- a value that is a truth -/
def truO : Vl → Hh → Out Bool
  | .d (.bool b), h => .ok b h
  | _, _ => .no
def eT (f : Ev) : Tv := fun ρ h => (f ρ h).bind truO
theorem VRep.bl {K : PySem.W.Frag} {φ : List Addr} {h : Hh} {H : Hp} {x : V} {c : Bool} (r : VRep K mg φ h H x (.d (.bool c))) : x = .bl c := by
  cases r
  rfl
theorem PoT.bl {K : PySem.W.Frag} {mg : Str → Option Value} {φ : List Addr} {h : Hh} {H : Hp} {v : Vl} {x : V} {Q : Bool → Hp → Prop} {E : XK} (sm : Sim K φ h H) (rv : VRep K mg φ h H x v)
    (q : PoT K mg φ h H (truO v h) Q E) : ∃ k, x = .bl k ∧ Q k H := by
  unfold truO at q
  split at q
  · exact ⟨_, VRep.bl rv, q H φ (Step.refl _ _ _) sm⟩
  · exact q.elim
theorem tTest_ok {f : Ev} {t : TE} {σ : L2.St} {H : Hp} {Q : Bool → Hp → Prop} (i : ∀ Q, tE X.K X.mg W f σ H Q → t σ H Q) (hf : tT X.K X.mg W (eT f) σ H Q) : tTest t σ H Q := by
  obtain ⟨φ, h, ρ, sm, er, q⟩ := hf
  exact i _ ⟨φ, h, ρ, sm, er, PoT.goE q fun x v h1 H1 φ1 st sm1 rv q1 => PoT.bl sm1 rv q1⟩
theorem et_cmp {op : CmpOp} (ho : OpR X (compareOp op) r) (ok : Ok2 X.K X.mg r g) (ha : EE X W a fa) (hb : EE X W b fb) (hm : behindInMarks op b = false) : ET X W (.Compare a [op] [b] pos) (eT (eOp g fa fb)) :=
  PT.of (pt_cmpR ho ha hb hm) fun σ H Q hf => tTest_ok (fun Q hf => tOp_ok ok hf) hf
theorem et_val (ha : EE X W a fa) (he : ∀ whole, isTrue a X.env whole = (do let v ← whole; standAt a.pos; holding [v] (truthy v)) := by intro _; rfl) : ET X W a (eT fa) :=
  PT.of (pt_val ha he) fun σ H Q hf => tTest_ok (t := tE X.K X.mg W fa) (fun Q hf => hf) hf
/-- a op b op' c -/
def eChain (g g' : G2) (a b c : Ev) : Ev := fun ρ h => (a ρ h).bind fun x h1 => (b ρ h1).bind fun y h2 => (ofO (g x y h2)).bind fun z h3 => match z with
  | .d (.bool true) => (c ρ h3).bind fun w h4 => ofO (g' y w h4)
  | .d (.bool false) => .ok (.d (.bool false)) h3
  | _ => .no
theorem tChain_ok {σ : L2.St} {H : Hp} {Q : VK} (ok : Ok2 X.K X.mg r g) (ok' : Ok2 X.K X.mg r' g') (hf : tE X.K X.mg W (eChain g g' fa fb fc) σ H Q) : tChain r r' (tE X.K X.mg W fa) (tE X.K X.mg W fb) (tE X.K X.mg W fc) σ H Q := by
  obtain ⟨φ, h, ρ, sm, er, q⟩ := hf
  refine ⟨φ, h, ρ, sm, er, PoX.goE q fun x v h1 H1 φ1 st sm1 rv q1 => ⟨φ1, h1, ρ, sm1, er.step st, PoX.goE q1 fun y w h2 H2 φ2 st2 sm2 rw q2 => ?_⟩⟩
  have q3 := PoX.goE (Q1 := fun z H3 => ∃ k, z = .bl k ∧ if k = true then tE X.K X.mg W fc σ H3 (fun zz H4 => r' y zz H4 Q) else Q (.bl false) H3) q2 fun z u h3 H3 φ3 st3 sm3 ru q3 => by
    split at q3
    · refine ⟨true, VRep.bl ru, ?_⟩
      rw [if_pos rfl]
      refine ⟨φ3, h3, ρ, sm3, (er.step (st.trans st2)).step st3, PoX.goE q3 fun zz ww h4 H4 φ4 st4 sm4 rw4 q4 => ?_⟩
      obtain ⟨z5, h5, e5, k5⟩ := PoX.ofO q4
      exact ok' φ4 h4 H4 y zz w ww Q z5 h5 sm4 (rw.step (st3.trans st4)) rw4 e5 k5
    · refine ⟨false, VRep.bl ru, ?_⟩
      rw [if_neg Bool.false_ne_true]
      exact PoX.now (v := .d (.bool false)) q3 sm3 (Rep.bl false)
    · exact q3.elim
  obtain ⟨z, h3, e, k⟩ := PoX.ofO q3
  exact ok φ2 h2 H2 x y v w _ z h3 sm2 (rv.step st2) rw e k
theorem et_chain {op op' : CmpOp} (ho : OpR X (compareOp op) r) (ho' : OpR X (compareOp op') r') (ok : Ok2 X.K X.mg r g) (ok' : Ok2 X.K X.mg r' g') (ha : EE X W a fa) (hb : EE X W b fb) (hc : EE X W c fc)
    (hm : lastMarks [op, op'] [b, c] = false := by with_unfolding_all rfl) : ET X W (.Compare a [op, op'] [b, c] pos) (eT (eChain g g' fa fb fc)) :=
  PT.of (pt_chain ho ho' ha hb hc hm) fun σ H Q hf => tTest_ok (fun Q hf => tChain_ok ok ok' hf) hf
end
end Rk

/-! Rk3: the operators themselves. -/
namespace Rk
open PySem PySem.Spec L2
variable {mg : Str → Option Value}
/-! ### ints -/
def gInt (f : Int → Int → Option Da) : G2 := fun x y h => match x, y with
  | .d (.int a), .d (.int b) => (f a b).map fun z => (.d z, h)
  | _, _ => none
section
variable {K : PySem.W.Frag}
theorem VRep.int {φ : List Addr} {h : Hh} {H : Hp} {x : V} {c : Int} (r : VRep K mg φ h H x (.d (.int c))) : x = .int c := by
  cases r
  rfl
theorem VRep.str {φ : List Addr} {h : Hh} {H : Hp} {x : V} {c : Str} (r : VRep K mg φ h H x (.d (.str c))) : x = .str c := by
  cases r
  rfl
theorem VRep.non {φ : List Addr} {h : Hh} {H : Hp} {x : V} (r : VRep K mg φ h H x (.d .none)) : x = .non := by
  cases r
  rfl
theorem gInt_ok {f : Int → Int → Option Da} {r : R2} (hr : ∀ (a b : Int) (d : Da) (H : Hp) (Q : VK), f a b = some d → (∀ z, (∀ M, Rep K H M z d) → Q z H) → r (.int a) (.int b) H Q) : Ok2 K mg r (gInt f) := by
  intro φ h H x y a b Q v h' sm rx ry e k
  unfold gInt at e
  split at e
  · rw [VRep.int rx, VRep.int ry]
    rename_i a b
    cases e1 : f a b with
    | none => rw [e1] at e; cases e
    | some d =>
      rw [e1] at e
      cases e
      exact hr a b d H Q e1 fun z hz => k z H φ (Step.refl _ _ _) sm (hz _)
  · cases e
instance (a b : Int) : Decidable (IntMulOk a b) := by unfold IntMulOk; infer_instance
def fAdd (a b : Int) : Option Da := some (.int (a + b))
def fSub (a b : Int) : Option Da := some (.int (a - b))
def fMul (a b : Int) : Option Da := if IntMulOk a b then some (.int (a * b)) else none
def fDiv (a b : Int) : Option Da := if b ≠ 0 ∧ Builtin.divisionGoesByPylong a b = false then some (.int (a.fdiv b)) else none
def fMod (a b : Int) : Option Da := if b ≠ 0 then some (.int (a.fmod b)) else none
def fPow (a b : Int) : Option Da := if 0 ≤ b ∧ b ≤ 1000000 ∧ a.natAbs < 2 ^ 64 then some (.int (a ^ b.toNat)) else none
def fLt (a b : Int) : Option Da := some (.bool (decide (a < b)))
def fLe (a b : Int) : Option Da := some (.bool (decide (a ≤ b)))
def fGt (a b : Int) : Option Da := some (.bool (decide (b < a)))
def fGe (a b : Int) : Option Da := some (.bool (decide (b ≤ a)))
theorem ok_sub : Ok2 K mg (rI0 fun i j => .int (i - j)) (gInt fSub) := gInt_ok fun a b d H Q e k => by
  cases e
  exact ⟨a, b, rfl, rfl, k _ fun _ => .int _⟩
theorem ok_mod : Ok2 K mg (rI (fun _ j => j ≠ 0) fun i j => .int (i.fmod j)) (gInt fMod) := gInt_ok fun a b d H Q e k => by
  unfold fMod at e
  split at e
  · cases e
    exact ⟨a, b, rfl, rfl, by assumption, k _ fun _ => .int _⟩
  · cases e
/-- // where C divides -/
def CDivC (i j : Int) : Prop := j ≠ 0 ∧ Builtin.divisionGoesByPylong i j = false
theorem op_fdivC {X : Cx} : OpR X (binaryOp .FloorDiv) (rI CDivC fun i j => .int (i.fdiv j)) := opI fun i j _ _ _ _ _ hc q => PyProof.Rows.floordiv_int hc.1 q (.inl hc.2)
theorem ok_div : Ok2 K mg (rI CDivC fun i j => .int (i.fdiv j)) (gInt fDiv) := gInt_ok fun a b d H Q e k => by
  unfold fDiv at e
  split at e
  · cases e
    exact ⟨a, b, rfl, rfl, by assumption, k _ fun _ => .int _⟩
  · cases e
theorem op_mulC {X : Cx} : OpR X (binaryOp .Mult) (rI IntMulOk fun i j => .int (i * j)) := opI fun _ _ _ _ _ _ _ hc q => PyProof.Rows.mul_int q hc
theorem ok_mul : Ok2 K mg (rI IntMulOk fun i j => .int (i * j)) (gInt fMul) := gInt_ok fun a b d H Q e k => by
  unfold fMul at e
  split at e
  · cases e
    exact ⟨a, b, rfl, rfl, by assumption, k _ fun _ => .int _⟩
  · cases e
theorem ok_pow : Ok2 K mg (rI CPow fun i j => .int (i ^ j.toNat)) (gInt fPow) := gInt_ok fun a b d H Q e k => by
  unfold fPow at e
  split at e
  · cases e
    exact ⟨a, b, rfl, rfl, by assumption, k _ fun _ => .int _⟩
  · cases e
theorem ok_lt : Ok2 K mg (rI0 fun i j => .bl (decide (i < j))) (gInt fLt) := gInt_ok fun a b d H Q e k => by
  cases e
  exact ⟨a, b, rfl, rfl, k _ fun _ => .bl _⟩
theorem ok_le : Ok2 K mg (rI0 fun i j => .bl (decide (i ≤ j))) (gInt fLe) := gInt_ok fun a b d H Q e k => by
  cases e
  exact ⟨a, b, rfl, rfl, k _ fun _ => .bl _⟩
theorem ok_gt : Ok2 K mg (rI0 fun i j => .bl (decide (j < i))) (gInt fGt) := gInt_ok fun a b d H Q e k => by
  cases e
  exact ⟨a, b, rfl, rfl, k _ fun _ => .bl _⟩
theorem ok_ge : Ok2 K mg (rI0 fun i j => .bl (decide (j ≤ i))) (gInt fGe) := gInt_ok fun a b d H Q e k => by
  cases e
  exact ⟨a, b, rfl, rfl, k _ fun _ => .bl _⟩
end
/-! ### + -/
def gAdd : G2 := fun x y h => match x, y with
  | .d (.int a), .d (.int b) => some (.d (.int (a + b)), h)
  | .d (.str a), .d (.str b) => if fitB (a.length + b.length) then some (.d (.str (a ++ b)), h) else none
  | .d (.tuple a), .d (.tuple b) => if fitB (a.length + b.length) then some (.d (.tuple (a ++ b)), h) else none
  | x, y => match asL x h, asL y h with
    | some a, some b => if fitB (a.length + b.length) then some (.r h.length, h ++ [some (.lst (a ++ b))]) else none
    | _, _ => none
def rCatL (K : PySem.W.Frag) : R2 := fun x y H Q => ∃ a b xs ys, x = .ref a ∧ y = .ref b ∧ SqL K H a xs ∧ SqL K H b ys ∧ xs.length + ys.length ≤ sizeLine ∧ ∀ p, H p = none → Q (.ref p) (upd H p (.lst (xs ++ ys)))
def rAddA (K : PySem.W.Frag) : R2 := fun x y H Q => (∃ i j, x = .int i ∧ y = .int j ∧ Q (.int (i + j)) H) ∨ (∃ i j, x = .str i ∧ y = .str j ∧ i.length + j.length ≤ sizeLine ∧ Q (.str (i ++ j)) H) ∨ rCatA K x y H Q ∨ rCatL K x y H Q
section
variable {X : Cx}
theorem op_catL : OpR X (binaryOp .Add) (rCatL X.K) := by
  intro pins s σ H x y v u Q I rx ry h
  obtain ⟨a, b, xs, ys, rfl, rfl, ha, hb, hz, q⟩ := h
  cases rx
  cases ry
  obtain ⟨its, r1, ⟨⟨c1, dd1, da1, sl1⟩, n1, e1, f1, g1, k1⟩, z1⟩ := I.list ha
  obtain ⟨its2, r2, ⟨⟨c2, dd2, da2, sl2⟩, n2, e2, f2, g2, k2⟩, z2⟩ := I.list hb
  simp only at f1 g1 k1 f2 g2 k2
  subst f1 g1 k1 f2 g2 k2
  have e : its.toArray ++ its2.toArray = (its ++ its2).toArray := by simp
  have l1 := r1.length
  have l2 := r2.length
  refine PySem.concat_meets ⟨_, e1, rfl⟩ ⟨_, e2, rfl⟩ PySem.noFill_list_add PySem.seq_list_add PySem.F.slot_list_add PySem.F.entry_list_add (PySem.F.args_list_add_2 _ _) (PyProof.Rows.list_addW a b its.toArray its2.toArray n1 n2 none none sl1 sl2 (by simp; omega)) ⟨e1, e2, ?_⟩
  rw [e]
  exact ⟨.ref _, _, I.lnew (t' := s.toks) (r1.append r2) (by rw [List.length_append]; omega), rfl, q _ I.fresh⟩
theorem op_addA : OpR X (binaryOp .Add) (rAddA X.K) := op_add.or (op_add_str.or (op_catA.or op_catL))
end
section
variable {K : PySem.W.Frag}
/-- a new list of data -/
theorem new_list {φ : List Addr} {h : Hh} {H : Hp} {p : Addr} {xs : List V} {ds : List Da} (sm : Sim K φ h H) (r : Reps K H (Live φ h) xs ds) (hp : H p = none) :
    Step φ h H (φ ++ [p]) (h ++ [some (.lst ds)]) (upd H p (.lst xs)) ∧ Sim K (φ ++ [p]) (h ++ [some (.lst ds)]) (upd H p (.lst xs)) ∧ VRep K mg (φ ++ [p]) (h ++ [some (.lst ds)]) (upd H p (.lst xs)) (.ref p) (.r h.length) :=
  sm.new hp fun M st => ⟨xs, upd_same, r.stay st⟩
theorem new_tup {φ : List Addr} {h : Hh} {H : Hp} {p : Addr} {xs : List V} {ds : List Da} (sm : Sim K φ h H) (r : Reps K H (Live φ h) xs ds) (hp : H p = none) :
    Step φ h H φ h (upd H p (.tup xs)) ∧ Sim K φ h (upd H p (.tup xs)) ∧ VRep K mg φ h (upd H p (.tup xs)) (.ref p) (.d (.tuple ds)) := by
  obtain ⟨s1, s2⟩ := sm.grow (o := .tup xs) hp
  exact ⟨s1, s2, Rep.tup (.inl upd_same) (sm.fresh hp) (r.stay s1.st)⟩
theorem VRep.tup {φ : List Addr} {h : Hh} {H : Hp} {x : V} {ds : List Da} (r : VRep K mg φ h H x (.d (.tuple ds))) : ∃ a xs, x = .ref a ∧ SqT K H a xs ∧ Reps K H (Live φ h) xs ds := by
  cases r with
  | tup h n r => exact ⟨_, _, rfl, .inl h, r⟩
  | tupK h r => exact ⟨_, _, rfl, .inr h, r⟩
theorem Reps.ne {H : Hp} {M : Addr → Prop} {xs : List V} {ds : List Da} (r : Reps K H M xs ds) : xs = [] ↔ ds = [] := by
  cases r with
  | nil => simp
  | cons _ _ => simp
theorem ok_add : Ok2 K mg (rAddA K) gAdd := by
  intro φ h H x y a b Q v h' sm rx ry e k
  unfold gAdd at e
  split at e
  · cases e
    exact .inl ⟨_, _, VRep.int rx, VRep.int ry, k _ H φ (Step.refl _ _ _) sm (Rep.int _)⟩
  · split at e
    · cases e
      exact .inr (.inl ⟨_, _, VRep.str rx, VRep.str ry, fitB_le (by assumption), k _ H φ (Step.refl _ _ _) sm (Rep.str _)⟩)
    · cases e
  · split at e
    · rename_i da db hz
      cases e
      obtain ⟨pa, xs, rfl, sa, ra⟩ := VRep.tup rx
      obtain ⟨pb, ys, rfl, sb, rb⟩ := VRep.tup ry
      refine .inr (.inr (.inl ⟨pa, pb, xs, ys, rfl, rfl, sa, sb, by rw [ra.length, rb.length]; exact fitB_le hz, fun z => ?_, fun _ z => ?_, fun _ _ p hp => ?_⟩))
      · have : da = [] := ra.ne.mp z
        subst this
        exact k _ H φ (Step.refl _ _ _) sm ry
      · have : db = [] := rb.ne.mp z
        subst this
        rw [List.append_nil] at k
        exact k _ H φ (Step.refl _ _ _) sm rx
      · obtain ⟨s1, s2, s3⟩ := new_tup sm (ra.append rb) hp
        exact k _ _ _ s1 s2 s3
    · cases e
  · split at e
    · rename_i la lb ea eb
      split at e
      · rename_i hz
        cases e
        obtain ⟨pa, xs, rfl, sa, ra⟩ := asL_ok sm rx ea
        obtain ⟨pb, ys, rfl, sb, rb⟩ := asL_ok sm ry eb
        refine .inr (.inr (.inr ⟨pa, pb, xs, ys, rfl, rfl, sa, sb, by rw [ra.length, rb.length]; exact fitB_le hz, fun p hp => ?_⟩))
        obtain ⟨s1, s2, s3⟩ := new_list sm (ra.append rb) hp
        exact k _ _ _ s1 s2 s3
      · cases e
    · cases e
/-! ### ==, !=, is, in -/
/-- told by == and !=, no dict within -/
def sh (d : Da) : Bool := SeqAt.shaped d && !d.hasDict
theorem sh_parts {d : Da} (e : sh d = true) : SeqAt.shaped d = true ∧ d.hasDict = false := by
  unfold sh at e
  rw [Bool.and_eq_true] at e
  exact ⟨e.1, by simpa using e.2⟩
def eqvB (a b : Da) : Option Bool := if sh a && sh b then some (PyData.eqv a b) else none
def gEq : G2 := fun x y h => match x, y with
  | .d (.str a), .d (.str b) => some (.d (.bool (decide (a = b))), h)
  | x, y => match asD x h, asD y h with
    | some a, some b => (eqvB a b).map fun z => (.d (.bool z), h)
    | _, _ => none
def gNe : G2 := fun x y h => match x, y with
  | .d (.str a), .d (.str b) => some (.d (.bool (!decide (a = b))), h)
  | x, y => match asD x h, asD y h with
    | some a, some b => (eqvB a b).map fun z => (.d (.bool (!z)), h)
    | _, _ => none
theorem ok_eq : Ok2 K mg (fun x y H Q => rEq x y H Q ∨ rEqD K x y H Q) gEq := by
  intro φ h H x y a b Q v h' sm rx ry e k
  unfold gEq at e
  split at e
  · rename_i p q
    cases e
    rw [VRep.str rx, VRep.str ry]
    have d : decide (V.str p = V.str q) = decide (p = q) := decide_eq_decide.mpr ⟨fun z => by injection z, fun z => by rw [z]⟩
    exact .inl ⟨rfl, by rw [d]; exact k _ H φ (Step.refl _ _ _) sm (Rep.bl _)⟩
  · split at e
    · rename_i da db ea eb
      unfold eqvB at e
      split at e
      · rename_i hs
        rw [Bool.and_eq_true] at hs
        cases e
        have h1 := sh_parts hs.1
        have h2 := sh_parts hs.2
        exact .inr ⟨da, db, asD_ok sm rx ea h1.2, asD_ok sm ry eb h2.2, h1.1, h2.1, k _ H φ (Step.refl _ _ _) sm (Rep.bl _)⟩
      · cases e
    · cases e
theorem ok_ne : Ok2 K mg (fun x y H Q => rNe x y H Q ∨ rNeD K x y H Q) gNe := by
  intro φ h H x y a b Q v h' sm rx ry e k
  unfold gNe at e
  split at e
  · rename_i p q
    cases e
    rw [VRep.str rx, VRep.str ry]
    have d : decide (V.str p = V.str q) = decide (p = q) := decide_eq_decide.mpr ⟨fun z => by injection z, fun z => by rw [z]⟩
    exact .inl ⟨rfl, by rw [d]; exact k _ H φ (Step.refl _ _ _) sm (Rep.bl _)⟩
  · split at e
    · rename_i da db ea eb
      unfold eqvB at e
      split at e
      · rename_i hs
        rw [Bool.and_eq_true] at hs
        cases e
        have h1 := sh_parts hs.1
        have h2 := sh_parts hs.2
        exact .inr ⟨da, db, asD_ok sm rx ea h1.2, asD_ok sm ry eb h2.2, h1.1, h2.1, k _ H φ (Step.refl _ _ _) sm (Rep.bl _)⟩
      · cases e
    · cases e
def isN : Vl → Bool
  | .d .none => true
  | _ => false
def gIsN : G2 := fun x y h => match y with
  | .d .none => some (.d (.bool (isN x)), h)
  | _ => none
def gNotN : G2 := fun x y h => match y with
  | .d .none => some (.d (.bool (!isN x)), h)
  | _ => none
theorem isN_ok {φ : List Addr} {h : Hh} {H : Hp} {x : V} {v : Vl} (r : VRep K mg φ h H x v) : decide (x = .non) = isN v := by
  cases v with
  | d z =>
    cases r <;> first | rfl | exact decide_eq_false (fun q => nomatch q)
  | r n =>
    obtain ⟨a, _, rfl⟩ := r
    exact decide_eq_false (fun q => nomatch q)
  | x c fs =>
    obtain ⟨a, _, _, rfl, _⟩ := r
    exact decide_eq_false (fun q => nomatch q)
  | f D =>
    obtain ⟨rfl, _⟩ := r
    exact decide_eq_false (fun q => nomatch q)
theorem ok_isN : Ok2 K mg (fun x y H Q => y = .non ∧ Q (.bl (decide (x = .non))) H) gIsN := by
  intro φ h H x y a b Q v h' sm rx ry e k
  unfold gIsN at e
  split at e
  · cases e
    refine ⟨VRep.non ry, ?_⟩
    rw [isN_ok rx]
    exact k _ H φ (Step.refl _ _ _) sm (Rep.bl _)
  · cases e
theorem ok_notN : Ok2 K mg (fun x y H Q => y = .non ∧ Q (.bl (!decide (x = .non))) H) gNotN := by
  intro φ h H x y a b Q v h' sm rx ry e k
  unfold gNotN at e
  split at e
  · cases e
    refine ⟨VRep.non ry, ?_⟩
    rw [isN_ok rx]
    exact k _ H φ (Step.refl _ _ _) sm (Rep.bl _)
  · cases e
/-- is, is not of two truths -/
def gIsB : G2 := fun x y h => match x, y with
  | .d (.bool a), .d (.bool b) => some (.d (.bool (decide (a = b))), h)
  | _, _ => none
def gNotB : G2 := fun x y h => match x, y with
  | .d (.bool a), .d (.bool b) => some (.d (.bool (!decide (a = b))), h)
  | _, _ => none
/-- in, not in, of a list or a tuple of flat data -/
def flatD : Da → Bool
  | .none => true
  | .bool _ => true
  | .int _ => true
  | .str _ => true
  | _ => false
def eqF : Da → Da → Bool
  | .none, .none => true
  | .bool a, .bool b => a == b
  | .bool a, .int b => (if a then 1 else 0) == b
  | .int a, .bool b => a == (if b then 1 else 0)
  | .int a, .int b => a == b
  | .str a, .str b => a == b
  | _, _ => false
def inF (x : Da) (xs : List Da) : Bool := xs.any fun y => eqF y x
def asQ : Vl → Hh → Option (List Da)
  | .d (.tuple xs), _ => some xs
  | v, h => asL v h
def gIn (neg : Bool) : G2 := fun x y h => match x, asQ y h with
  | .d a, some bs => if flatD a && bs.all flatD then some (.d (.bool (if neg then !inF a bs else inF a bs)), h) else none
  | _, _ => none
theorem flat_ok {H : Hp} {M : Addr → Prop} {x : V} {d : Da} (r : Rep K H M x d) (f : flatD d = true) : flatV x = true := by
  cases r <;> first | rfl | cases f
theorem flats_ok {H : Hp} {M : Addr → Prop} : ∀ {xs : List V} {ds : List Da}, Reps K H M xs ds → ds.all flatD = true → xs.all flatV = true
  | _, _, .nil, _ => rfl
  | _, _, .cons r t, f => by
    rw [List.all_cons, Bool.and_eq_true] at f
    rw [List.all_cons, flat_ok r f.1, flats_ok t f.2]
    rfl
theorem eqF_ok {H H' : Hp} {M M' : Addr → Prop} {x y : V} {d e : Da} (r : Rep K H M x d) (q : Rep K H' M' y e) (f : flatD d = true) (g : flatD e = true) : eqV x y = eqF d e := by
  cases r <;> first | (cases f; done) | (cases q <;> first | rfl | (cases g; done))
theorem inF_ok {H : Hp} {M : Addr → Prop} {x : V} {d : Da} (r : Rep K H M x d) (f : flatD d = true) : ∀ {xs : List V} {ds : List Da}, Reps K H M xs ds → ds.all flatD = true → inV x xs = inF d ds
  | _, _, .nil, _ => rfl
  | _, _, .cons q t, g => by
    rw [List.all_cons, Bool.and_eq_true] at g
    have ih := inF_ok r f t g.2
    unfold inV inF at *
    rw [List.any_cons, List.any_cons, eqF_ok q r g.1 f, ih]
theorem asQ_ok {φ : List Addr} {h : Hh} {H : Hp} {x : V} {v : Vl} {ds : List Da} (s : Sim K φ h H) (r : VRep K mg φ h H x v) (e : asQ v h = some ds) : ∃ a xs, x = .ref a ∧ (SqL K H a xs ∨ SqT K H a xs) ∧ Reps K H (Live φ h) xs ds := by
  unfold asQ at e
  split at e
  · cases e
    obtain ⟨a, xs, rfl, q, z⟩ := VRep.tup r
    exact ⟨a, xs, rfl, .inr q, z⟩
  · obtain ⟨a, xs, rfl, q, z⟩ := asL_ok s r e
    exact ⟨a, xs, rfl, .inl q, z⟩
theorem ok_in (neg : Bool) : Ok2 K mg (rIn K neg) (gIn neg) := by
  intro φ h H x y a b Q v h' sm rx ry e k
  unfold gIn at e
  split at e
  · rename_i da bs eb
    split at e
    · rename_i hf
      rw [Bool.and_eq_true] at hf
      cases e
      obtain ⟨p, xs, rfl, sq, rs⟩ := asQ_ok sm ry eb
      refine ⟨p, xs, rfl, sq, flat_ok rx hf.1, flats_ok rs hf.2, ?_⟩
      rw [inF_ok rx hf.1 rs hf.2]
      exact k _ H φ (Step.refl _ _ _) sm (Rep.bl _)
    · cases e
  · cases e
end
/-! ### and, or, not, if .. else -/
def tvAnd (a b : Tv) : Tv := fun ρ h => (a ρ h).bind fun c h1 => if c then b ρ h1 else .ok false h1
def tvOr (a b : Tv) : Tv := fun ρ h => (a ρ h).bind fun c h1 => if c then .ok true h1 else b ρ h1
def tvNot (a : Tv) : Tv := fun ρ h => (a ρ h).bind fun c h1 => .ok (!c) h1
def eAnd (a b : Ev) : Ev := fun ρ h => (eT a ρ h).bind fun c h1 => if c then b ρ h1 else .ok (.d (.bool false)) h1
def eOr (a b : Ev) : Ev := fun ρ h => (eT a ρ h).bind fun c h1 => if c then .ok (.d (.bool true)) h1 else b ρ h1
def eNot (a : Ev) : Ev := fun ρ h => (eT a ρ h).bind fun c h1 => .ok (.d (.bool (!c))) h1
def eIf (c : Tv) (a b : Ev) : Ev := fun ρ h => (c ρ h).bind fun k h1 => if k then a ρ h1 else b ρ h1
def EW (X : Cx) (W : WX) (e : Expr) (f : Tv) : Prop := PW X e (tT X.K X.mg W f)
section
variable {X : Cx} {W : WX} {a b c : Expr} {fa fb : Ev} {ta tb tc : Tv} {pos : Pos} {rest : List Expr}
theorem EW.et (h : EW X W a ta) : ET X W a ta := PW.pt h
theorem ew_or1 (ha : ET X W a ta) : EW X W (.BoolOp .Or [a] pos) ta := pw_or1 ha
theorem PoT.now {K : PySem.W.Frag} {mg : Str → Option Value} {φ : List Addr} {h : Hh} {H : Hp} {v : Bool} {Q : Bool → Hp → Prop} {E : XK} (q : PoT K mg φ h H (.ok v h) Q E) (s : Sim K φ h H) : Q v H := q H φ (Step.refl _ _ _) s
theorem ew_or (ha : ET X W a ta) (hb : EW X W (.BoolOp .Or (b :: rest) pos) tb) : EW X W (.BoolOp .Or (a :: b :: rest) pos) (tvOr ta tb) :=
  PW.of (pw_or ha hb) fun σ H Q ⟨φ, h, ρ, sm, er, q⟩ => ⟨φ, h, ρ, sm, er, PoT.goT q fun v h1 H1 φ1 st sm1 q1 => by
    cases v with
    | true => exact iteT (PoT.now q1 sm1)
    | false => exact iteF ⟨φ1, h1, ρ, sm1, er.step st, q1⟩⟩
theorem et_not (ha : ET X W a ta) : ET X W (.UnaryOp .Not a pos) (tvNot ta) :=
  PT.of (pt_not ha) fun σ H Q ⟨φ, h, ρ, sm, er, q⟩ => ⟨φ, h, ρ, sm, er, PoT.goT q fun v h1 H1 φ1 st sm1 q1 => PoT.now q1 sm1⟩
theorem ee_ifExp (hc : ET X W c tc) (ha : EE X W a fa) (hb : EE X W b fb) : EE X W (.IfExp c a b pos) (eIf tc fa fb) :=
  PE.of (pe_ifExp hc ha hb) fun σ H Q ⟨φ, h, ρ, sm, er, q⟩ => ⟨φ, h, ρ, sm, er, PoX.goT q fun v h1 H1 φ1 st sm1 q1 => by
    cases v with
    | true => exact iteT ⟨φ1, h1, ρ, sm1, er.step st, q1⟩
    | false => exact iteF ⟨φ1, h1, ρ, sm1, er.step st, q1⟩⟩
theorem ee_one {op : BoolOp} (ha : EE X W a fa) : EE X W (.BoolOp op [a] pos) fa := pe_one ha
theorem PoX.goV {K : PySem.W.Frag} {mg : Str → Option Value} {φ : List Addr} {h : Hh} {H : Hp} {E : XK} {o : Out Vl} {k : Bool → Hh → Out Vl} {Q : VK} {Q1 : VK} (q : PoX K mg φ h H ((o.bind truO).bind k) Q E)
    (hk : ∀ (c : Bool) (h1 : Hh) (H1 : Hp) (φ1 : List Addr), Step φ h H φ1 h1 H1 → Sim K φ1 h1 H1 → PoX K mg φ1 h1 H1 (k c h1) Q E → Q1 (.bl c) H1) : PoX K mg φ h H o Q1 E := by
  cases o with
  | ok v h1 =>
    intro x H1 φ1 st sm1 rv
    have q2 : PoX K mg φ h H ((truO v h1).bind k) Q E := q
    unfold truO at q2
    split at q2
    · rw [VRep.bl rv]
      exact hk _ _ _ φ1 st sm1 (PoX.pull st q2)
    · exact q2.elim
  | ex c fs h1 => exact q
  | no => exact q
theorem ee_and (ha : EE X W a fa) (hb : EE X W (.BoolOp .And (b :: rest) pos) fb) : EE X W (.BoolOp .And (a :: b :: rest) pos) (eAnd fa fb) :=
  PE.of (pe_and ha hb) fun σ H Q ⟨φ, h, ρ, sm, er, q⟩ => ⟨φ, h, ρ, sm, er, PoX.goV q fun v h1 H1 φ1 st sm1 q1 => ⟨v, rfl, by
    cases v with
    | true => exact iteT ⟨φ1, h1, ρ, sm1, er.step st, q1⟩
    | false => exact iteF (PoX.now (v := .d (.bool false)) q1 sm1 (Rep.bl false))⟩⟩
theorem ee_or (ha : EE X W a fa) (hb : EE X W (.BoolOp .Or (b :: rest) pos) fb) : EE X W (.BoolOp .Or (a :: b :: rest) pos) (eOr fa fb) :=
  PE.of (pe_or ha hb) fun σ H Q ⟨φ, h, ρ, sm, er, q⟩ => ⟨φ, h, ρ, sm, er, PoX.goV q fun v h1 H1 φ1 st sm1 q1 => ⟨v, rfl, by
    cases v with
    | true => exact iteT (PoX.now (v := .d (.bool true)) q1 sm1 (Rep.bl true))
    | false => exact iteF ⟨φ1, h1, ρ, sm1, er.step st, q1⟩⟩⟩
theorem ee_not (ha : EE X W a fa) : EE X W (.UnaryOp .Not a pos) (eNot fa) :=
  PE.of (pe_not ha) fun σ H Q ⟨φ, h, ρ, sm, er, q⟩ => ⟨φ, h, ρ, sm, er, PoX.goV q fun v h1 H1 φ1 st sm1 q1 => ⟨v, rfl, PoX.now (v := .d (.bool (!v))) q1 sm1 (Rep.bl (!v))⟩⟩
/-- - n -/
def eNeg (a : Ev) : Ev := fun ρ h => (a ρ h).bind fun x h1 => match x with
  | .d (.int i) => .ok (.d (.int (-i))) h1
  | _ => .no
theorem ee_neg (ha : EE X W a fa) : EE X W (.UnaryOp .USub a pos) (eNeg fa) :=
  PE.of (pe_un un_neg ha) fun σ H Q ⟨φ, h, ρ, sm, er, q⟩ => ⟨φ, h, ρ, sm, er, PoX.goE q fun x v h1 H1 φ1 st sm1 rv q1 => by
    cases v with
    | d z =>
      cases z with
      | int i => exact ⟨i, VRep.int rv, PoX.now (v := .d (.int (-i))) q1 sm1 (Rep.int _)⟩
      | _ => exact q1.elim
    | r n => exact q1.elim
    | x c fs => exact q1.elim
    | f D => exact q1.elim⟩
end
/-! ### argument lists, displays, calls -/
def aNil : Av := fun _ h => .ok [] h
def aCons (a : Ev) (r : Av) : Av := fun ρ h => (a ρ h).bind fun x h1 => (r ρ h1).bind fun xs h2 => .ok (x :: xs) h2
def eTup (as : Av) : Ev := fun ρ h => (as ρ h).bind fun vs h1 => match fzs vs h1 with
  | some (ds, h2) => if fitB ds.length then .ok (.d (.tuple ds)) h2 else .no
  | none => .no
def eLst (as : Av) : Ev := fun ρ h => (as ρ h).bind fun vs h1 => match fzs vs h1 with
  | some (ds, h2) => if fitB ds.length then .ok (.r h2.length) (h2 ++ [some (.lst ds)]) else .no
  | none => .no
def spF (K : PySem.W.Frag) (mg : Str → Option Value) (m : Fn) : Sp := fun vs H Q E => ∃ φ h as, Sim K φ h H ∧ VReps K mg φ h H vs as ∧ PoX K mg φ h H (m as h) Q E
def eCall (m : Fn) (as : Av) : Ev := fun ρ h => (as ρ h).bind m
abbrev GC := List Vl → Hh → Option (Vl × Hh)
def eBlt (g : GC) (as : Av) : Ev := fun ρ h => (as ρ h).bind fun vs h1 => ofO (g vs h1)
def OkC (K : PySem.W.Frag) (mg : Str → Option Value) (r : List V → Hp → VK → Prop) (g : GC) : Prop := ∀ (φ : List Addr) (h : Hh) (H : Hp) (xs : List V) (as : List Vl) (Q : VK) (v : Vl) (h' : Hh), Sim K φ h H → VReps K mg φ h H xs as → g as h = some (v, h') →
  (∀ z H' φ', Step φ h H φ' h' H' → Sim K φ' h' H' → VRep K mg φ' h' H' z v → Q z H') → r xs H Q
section
variable {X : Cx} {W : WX} {e : Expr} {es : List Expr} {fe : Ev} {fs : Av} {pos : Pos}
theorem ea_nil : EA X W [] aNil := PA.of pa_nil fun σ H Q ⟨φ, h, ρ, sm, er, q⟩ => q [] H φ (Step.refl _ _ _) sm .nil
theorem ea_cons (ha : EE X W e fe) (hr : EA X W es fs) (hs : starEach (e :: es) X.env = (false, eval e X.env) :: starEach es X.env := by rfl) : EA X W (e :: es) (aCons fe fs) :=
  PA.of (pa_cons ha hr hs) fun σ H Q ⟨φ, h, ρ, sm, er, q⟩ => ⟨φ, h, ρ, sm, er, PoA.goE q fun x v h1 H1 φ1 st sm1 rv q1 => ⟨φ1, h1, ρ, sm1, er.step st, PoA.goA q1 fun xs vs h2 H2 φ2 st2 sm2 rvs q2 =>
    q2 (x :: xs) H2 φ2 (Step.refl _ _ _) sm2 (.cons (rv.step st2) rvs)⟩⟩
theorem ee_tup {k : Nat} (ha : EA X W es fs) : EE X W (.Tuple es k pos) (eTup fs) :=
  PE.of (pe_tup ha) fun σ H Q ⟨φ, h, ρ, sm, er, q⟩ => ⟨φ, h, ρ, sm, er, PoX.goA q fun xs vs h1 H1 φ1 st sm1 rvs q1 => by
    cases e : fzs vs h1 with
    | none => rw [e] at q1; exact q1.elim
    | some p =>
      obtain ⟨ds, h2⟩ := p
      rw [e] at q1
      dsimp only at q1
      split at q1
      · obtain ⟨s1, s2, s3⟩ := fzs_ok sm1 rvs e
        refine ⟨by rw [s3.length]; exact fitB_le (by assumption), fun p hp => ?_⟩
        obtain ⟨t1, t2, t3⟩ := new_tup s2 s3 hp
        exact q1 _ _ _ (s1.trans t1) t2 t3
      · exact q1.elim⟩
theorem ee_lst (ha : EA X W es fs) : EE X W (.List es pos) (eLst fs) :=
  PE.of (pe_lst ha) fun σ H Q ⟨φ, h, ρ, sm, er, q⟩ => ⟨φ, h, ρ, sm, er, PoX.goA q fun xs vs h1 H1 φ1 st sm1 rvs q1 => by
    cases e : fzs vs h1 with
    | none => rw [e] at q1; exact q1.elim
    | some p =>
      obtain ⟨ds, h2⟩ := p
      rw [e] at q1
      dsimp only at q1
      split at q1
      · obtain ⟨s1, s2, s3⟩ := fzs_ok sm1 rvs e
        refine ⟨by rw [s3.length]; exact fitB_le (by assumption), fun p hp => ?_⟩
        obtain ⟨t1, t2, t3⟩ := new_list s2 s3 hp
        exact q1 _ _ _ (s1.trans t1) t2 t3
      · exact q1.elim⟩
theorem ee_blt {x : Str} {id : String} {p : Pos} {r : List V → Hp → VK → Prop} {g : GC} (hc : CallR X (.builtin id) r) (ok : OkC X.K X.mg r g) (hg : Gl X x) (hm : X.mg x = none) (hv : bootBuiltins x = some (.builtin id)) (ha : EA X W (e :: es) fs) (hn : x ≠ "__name__" := by decide) (hdb : (x == ("__debug__" : Str)) = false := by decide)
    (he : starEach (e :: es) X.env = (false, eval e X.env) :: starEach es X.env := by rfl) (hpl : (backTo pos (starEach es X.env)).any (·.1) = false := by rfl) : EE X W (.Call (.Name x p) (e :: es) [] pos) (eBlt g fs) :=
  PE.of (pe_callB hc hg hm hv ha hn hdb he hpl) fun σ H Q ⟨φ, h, ρ, sm, er, q⟩ => ⟨φ, h, ρ, sm, er, PoX.goA q fun xs vs h1 H1 φ1 st sm1 rvs q1 => by
    obtain ⟨z, h2, e2, k⟩ := PoX.ofO q1
    exact ok φ1 h1 H1 xs vs Q z h2 sm1 rvs e2 k⟩
theorem ee_bltT {x : Str} {T : String} {p : Pos} {r : List V → Hp → VK → Prop} {g : GC} (hc : CallR X (.type T) r) (ok : OkC X.K X.mg r g) (hg : Gl X x) (hm : X.mg x = none) (hv : bootBuiltins x = some (.type T)) (ha : EA X W (e :: es) fs) (hn : x ≠ "__name__" := by decide) (hdb : (x == ("__debug__" : Str)) = false := by decide)
    (he : starEach (e :: es) X.env = (false, eval e X.env) :: starEach es X.env := by rfl) (hpl : (backTo pos (starEach es X.env)).any (·.1) = false := by rfl) : EE X W (.Call (.Name x p) (e :: es) [] pos) (eBlt g fs) :=
  PE.of (pe_callTy hc hg hm hv ha hn hdb he hpl) fun σ H Q ⟨φ, h, ρ, sm, er, q⟩ => ⟨φ, h, ρ, sm, er, PoX.goA q fun xs vs h1 H1 φ1 st sm1 rvs q1 => by
    obtain ⟨z, h2, e2, k⟩ := PoX.ofO q1
    exact ok φ1 h1 H1 xs vs Q z h2 sm1 rvs e2 k⟩
end
end Rk

/-! Rk4: subscripts, slices, built-in functions. -/
namespace Rk
open PySem PySem.Spec L2
variable {mg : Str → Option Value}
section
variable {K : PySem.W.Frag}
theorem Reps.atI {H : Hp} {M : Addr → Prop} {xs : List V} {ds : List Da} {i : Int} {d : Da} (r : Reps K H M xs ds) (e : atI ds i = some d) : ∃ v, L2.atI xs i = some v ∧ Rep K H M v d := by
  unfold L2.atI at *
  rw [r.length]
  cases q : ixN ds.length i with
  | none => rw [q] at e; cases e
  | some j =>
    rw [q] at e
    exact Reps.get r e
def gIx : G2 := fun x y h => match x, y with
  | .d (.tuple xs), .d (.int i) => (atI xs i).map fun d => (.d d, h)
  | .d (.str z), .d (.int i) => if fitB z.length then (atI z.cps.toList i).map fun c => (.d (.str ⟨#[c]⟩), h) else none
  | x, .d (.int i) => match asL x h with
    | some xs => (atI xs i).map fun d => (.d d, h)
    | none => none
  | _, _ => none
theorem ok_ix : Ok2 K mg (rIx K) gIx := by
  intro φ h H x y a b Q v h' sm rx ry e k
  unfold gIx at e
  split at e
  · rename_i xs i
    cases q : atI xs i with
    | none => rw [q] at e; cases e
    | some d =>
      rw [q] at e
      cases e
      obtain ⟨p, zs, rfl, sq, rs⟩ := VRep.tup rx
      obtain ⟨z, e1, rz⟩ := rs.atI q
      exact .inr (.inl ⟨p, zs, i, z, rfl, VRep.int ry, sq, e1, k z H φ (Step.refl _ _ _) sm rz⟩)
  · rename_i z i
    split at e
    · cases q : atI z.cps.toList i with
      | none => rw [q] at e; cases e
      | some c =>
        rw [q] at e
        cases e
        exact .inr (.inr ⟨z, i, c, VRep.str rx, VRep.int ry, fitB_le (by assumption), q, k _ H φ (Step.refl _ _ _) sm (Rep.str _)⟩)
    · cases e
  · rename_i i _ _
    split at e
    · rename_i xs ex
      cases q : atI xs i with
      | none => rw [q] at e; cases e
      | some d =>
        rw [q] at e
        cases e
        obtain ⟨p, zs, rfl, sq, rs⟩ := asL_ok sm rx ex
        obtain ⟨z, e1, rz⟩ := rs.atI q
        exact .inl ⟨p, zs, i, z, rfl, VRep.int ry, sq, e1, k z H φ (Step.refl _ _ _) sm rz⟩
    · cases e
  · cases e
end
section
variable {X : Cx} {W : WX} {a b : Expr} {fa fb : Ev} {pos : Pos}
theorem ee_ix (ha : EE X W a fa) (hb : EE X W b fb) (hs : PlainIx b := by exact fun _ _ => rfl) : EE X W (.Subscript a b pos) (eOp gIx fa fb) :=
  PE.of (pe_ix ix_seq ha hb hs) fun σ H Q hf => tOp_ok ok_ix hf
end
/-! ### slices -/
def cutD {α : Type} (xs : List α) (lo hi : Option Int) : List α := (xs.drop (HT.sIx xs.length 0 lo)).take (HT.sIx xs.length xs.length hi - HT.sIx xs.length 0 lo)
abbrev Ov := En → Hh → Out (Option Int)
def oNone : Ov := fun _ h => .ok none h
def oInt : Vl → Hh → Out (Option Int)
  | .d (.int i), h => .ok (some i) h
  | _, _ => .no
def oSome (f : Ev) : Ov := fun ρ h => (f ρ h).bind oInt
def gSl (x : Vl) (lo hi : Option Int) (h : Hh) : Option (Vl × Hh) := match x with
  | .d (.tuple xs) => some (.d (.tuple (cutD xs lo hi)), h)
  | .d (.str z) => if fitB z.length then some (.d (.str (cutS z lo hi)), h) else none
  | x => match asL x h with
    | some xs => some (.r h.length, h ++ [some (.lst (cutD xs lo hi))])
    | none => none
def eSl (f : Ev) (lo hi : Ov) : Ev := fun ρ h => (f ρ h).bind fun x h1 => (lo ρ h1).bind fun l h2 => (hi ρ h2).bind fun u h3 => ofO (gSl x l u h3)
def PoO (K : PySem.W.Frag) (mg : Str → Option Value) (φ : List Addr) (h : Hh) (H : Hp) (o : Out (Option Int)) (Q : Option Int → Hp → Prop) (E : XK) : Prop := match o with
  | .ok v h' => ∀ H' φ', Step φ h H φ' h' H' → Sim K φ' h' H' → Q v H'
  | .ex c fs h' => ∀ cls dd H' φ', Step φ h H φ' h' H' → Sim K φ' h' H' → XRep K mg H' (Live φ' h') c fs cls dd → E cls dd H'
  | .no => False
def tO (K : PySem.W.Frag) (mg : Str → Option Value) (W : WX) (f : Ov) : TO := fun σ H Q => ∃ φ h ρ, Sim K φ h H ∧ ERep K mg φ h H σ ρ ∧ PoO K mg φ h H (f ρ h) Q (WE W σ)
def EO (X : Cx) (W : WX) (e : Option Expr) (f : Ov) : Prop := PO X e (tO X.K X.mg W f)
theorem PO.of {X : Cx} {e : Option Expr} {t t' : TO} (h : PO X e t) (i : ∀ σ H Q, t' σ H Q → t σ H Q) : PO X e t' := ⟨fun pins s σ H Q I w => h.run pins s σ H Q I (i σ H Q w)⟩
section
variable {K : PySem.W.Frag} {mg : Str → Option Value} {φ : List Addr} {h : Hh} {H : Hp} {E : XK}
theorem PoX.goO {o : Out (Option Int)} {k : Option Int → Hh → Out Vl} {Q : VK} {Q1 : Option Int → Hp → Prop} (q : PoX K mg φ h H (o.bind k) Q E)
    (hk : ∀ (v : Option Int) (h1 : Hh) (H1 : Hp) (φ1 : List Addr), Step φ h H φ1 h1 H1 → Sim K φ1 h1 H1 → PoX K mg φ1 h1 H1 (k v h1) Q E → Q1 v H1) : PoO K mg φ h H o Q1 E := by
  cases o with
  | ok v h1 => exact fun H' φ' st sm' => hk v h1 H' φ' st sm' (PoX.pull st q)
  | ex c fs h1 => exact q
  | no => exact q
theorem PoO.goE {o : Out Vl} {Q : Option Int → Hp → Prop} {Q1 : VK} (q : PoO K mg φ h H (o.bind oInt) Q E)
    (hk : ∀ (i : Int) (H1 : Hp), Q (some i) H1 → Q1 (.int i) H1) : PoX K mg φ h H o Q1 E := by
  cases o with
  | ok v h1 =>
    intro x H' φ' st sm' rv
    have q2 : PoO K mg φ h H (oInt v h1) Q E := q
    unfold oInt at q2
    split at q2
    · rw [VRep.int rv]
      exact hk _ _ (q2 H' φ' st sm')
    · exact q2.elim
  | ex c fs h1 => exact q
  | no => exact q
theorem Reps.cut {H : Hp} {M : Addr → Prop} {xs : List V} {ds : List Da} (lo hi : Option Int) (r : Reps K H M xs ds) : Reps K H M (cutV xs lo hi) (cutD ds lo hi) := by
  unfold cutV cutD
  rw [r.length]
  exact (r.drop _).take _
def rSlAll (K : PySem.W.Frag) : V → Option Int → Option Int → Hp → VK → Prop := fun x lo hi H Q => rSlA K x lo hi H Q ∨ rSlS x lo hi H Q ∨ rSlL K x lo hi H Q
theorem sl_all {X : Cx} : SlR X (rSlAll X.K) := sl_tupA.or (sl_str.or sl_list)
theorem cutD_all {α : Type} {xs : List α} {lo hi : Option Int} (h : HT.sIx xs.length 0 lo = 0 ∧ HT.sIx xs.length xs.length hi = xs.length) : cutD xs lo hi = xs := by
  unfold cutD
  rw [h.1, h.2]
  simp
theorem gSl_ok {x : V} {v : Vl} {lo hi : Option Int} {Q : VK} {w : Vl} {h' : Hh} (sm : Sim K φ h H) (rx : VRep K mg φ h H x v) (e : gSl v lo hi h = some (w, h'))
    (k : ∀ z H' φ', Step φ h H φ' h' H' → Sim K φ' h' H' → VRep K mg φ' h' H' z w → Q z H') : rSlAll K x lo hi H Q := by
  unfold gSl at e
  split at e
  · cases e
    obtain ⟨p, zs, rfl, sq, rs⟩ := VRep.tup rx
    refine .inl ⟨p, zs, rfl, sq, fun hw => ?_, fun _ q hq => ?_⟩
    · rw [rs.length] at hw
      rw [cutD_all hw] at k
      exact k _ H φ (Step.refl _ _ _) sm rx
    · obtain ⟨s1, s2, s3⟩ := new_tup sm (rs.cut lo hi) hq
      exact k _ _ _ s1 s2 s3
  · split at e
    · cases e
      exact .inr (.inl ⟨_, VRep.str rx, fitB_le (by assumption), k _ H φ (Step.refl _ _ _) sm (Rep.str _)⟩)
    · cases e
  · split at e
    · rename_i xs ex
      cases e
      obtain ⟨p, zs, rfl, sq, rs⟩ := asL_ok sm rx ex
      refine .inr (.inr ⟨p, zs, rfl, sq, fun q hq => ?_⟩)
      obtain ⟨s1, s2, s3⟩ := new_list sm (rs.cut lo hi) hq
      exact k _ _ _ s1 s2 s3
    · cases e
end
section
variable {X : Cx} {W : WX} {a : Expr} {fa : Ev} {pos p2 : Pos} {lo hi : Option Expr} {fl fh : Ov}
theorem eo_none : EO X W none oNone := PO.of po_none fun σ H Q ⟨φ, h, ρ, sm, er, q⟩ => q H φ (Step.refl _ _ _) sm
theorem eo_some (ha : EE X W a fa) : EO X W (some a) (oSome fa) := PO.of (po_some ha) fun σ H Q ⟨φ, h, ρ, sm, er, q⟩ => ⟨φ, h, ρ, sm, er, PoO.goE q fun i H1 z => ⟨i, rfl, z⟩⟩
theorem ee_slice (ha : EE X W a fa) (hl : EO X W lo fl) (hh : EO X W hi fh) : EE X W (.Subscript a (.Slice lo hi none p2) pos) (eSl fa fl fh) :=
  PE.of (pe_slice sl_all ha hl hh) fun σ H Q ⟨φ, h, ρ, sm, er, q⟩ => ⟨φ, h, ρ, sm, er, PoX.goE q fun x v h1 H1 φ1 st sm1 rv q1 => ⟨φ1, h1, ρ, sm1, er.step st, PoX.goO q1 fun l h2 H2 φ2 st2 sm2 q2 =>
    ⟨φ2, h2, ρ, sm2, (er.step st).step st2, PoX.goO q2 fun u h3 H3 φ3 st3 sm3 q3 => by
      obtain ⟨z, h4, e4, k4⟩ := PoX.ofO q3
      exact gSl_ok sm3 (rv.step (st2.trans st3)) e4 k4⟩⟩⟩
end
/-! ### built-in functions -/
section
variable {K : PySem.W.Frag}
def gLen : GC := fun as h => match as with
  | [.d (.tuple xs)] => some (.d (.int xs.length), h)
  | [.d (.str z)] => if fitB z.length then some (.d (.int z.length), h) else none
  | [x] => match asL x h with
    | some xs => some (.d (.int xs.length), h)
    | none => none
  | _ => none
theorem VReps.one {φ : List Addr} {h : Hh} {H : Hp} {xs : List V} {v : Vl} (r : VReps K mg φ h H xs [v]) : ∃ x, xs = [x] ∧ VRep K mg φ h H x v := by
  cases r with
  | cons r t =>
    cases t
    exact ⟨_, rfl, r⟩
theorem VReps.two {φ : List Addr} {h : Hh} {H : Hp} {xs : List V} {v w : Vl} (r : VReps K mg φ h H xs [v, w]) : ∃ x y, xs = [x, y] ∧ VRep K mg φ h H x v ∧ VRep K mg φ h H y w := by
  cases r with
  | cons r t =>
    obtain ⟨y, e, q⟩ := VReps.one t
    subst e
    exact ⟨_, _, rfl, r, q⟩
theorem ok_len : OkC K mg (fun xs H Q => ∃ x n, xs = [x] ∧ LenV K x H n ∧ Q (.int n) H) gLen := by
  intro φ h H xs as Q v h' sm rs e k
  unfold gLen at e
  split at e
  · cases e
    obtain ⟨x, rfl, r⟩ := rs.one
    obtain ⟨p, zs, rfl, sq, rr⟩ := VRep.tup r
    refine ⟨_, zs.length, rfl, .inr ⟨zs, sq, rfl⟩, ?_⟩
    rw [rr.length]
    exact k _ H φ (Step.refl _ _ _) sm (Rep.int _)
  · split at e
    · cases e
      obtain ⟨x, rfl, r⟩ := rs.one
      rw [VRep.str r]
      exact ⟨_, _, rfl, ⟨fitB_le (by assumption), rfl⟩, k _ H φ (Step.refl _ _ _) sm (Rep.int _)⟩
    · cases e
  · split at e
    · rename_i ys ey
      cases e
      obtain ⟨x, rfl, r⟩ := rs.one
      obtain ⟨p, zs, rfl, sq, rr⟩ := asL_ok sm r ey
      refine ⟨_, zs.length, rfl, .inl ⟨zs, sq, rfl⟩, ?_⟩
      rw [rr.length]
      exact k _ H φ (Step.refl _ _ _) sm (Rep.int _)
    · cases e
  · cases e
def gAbs : GC := fun as h => match as with
  | [.d (.int i)] => some (.d (.int (if i < 0 then -i else i)), h)
  | _ => none
theorem ok_abs : OkC K mg (fun xs H Q => ∃ i, xs = [.int i] ∧ Q (.int (if i < 0 then -i else i)) H) gAbs := by
  intro φ h H xs as Q v h' sm rs e k
  unfold gAbs at e
  split at e
  · cases e
    obtain ⟨x, rfl, r⟩ := rs.one
    rw [VRep.int r]
    exact ⟨_, rfl, k _ H φ (Step.refl _ _ _) sm (Rep.int _)⟩
  · cases e
def gMax : GC := fun as h => match as with
  | [.d (.int i), .d (.int j)] => some (.d (.int (if j > i then j else i)), h)
  | _ => none
def gMin : GC := fun as h => match as with
  | [.d (.int i), .d (.int j)] => some (.d (.int (if j < i then j else i)), h)
  | _ => none
def gInt1 : GC := fun as h => match as with
  | [.d (.int i)] => some (.d (.int i), h)
  | [.d (.bool b)] => some (.d (.int (if b then 1 else 0)), h)
  | _ => none
theorem ok_int1 : OkC K mg (fun xs H Q => (∃ i, xs = [.int i] ∧ Q (.int i) H) ∨ ∃ k, xs = [.bl k] ∧ Q (.int (if k then 1 else 0)) H) gInt1 := by
  intro φ h H xs as Q v h' sm rs e k
  unfold gInt1 at e
  split at e
  · cases e
    obtain ⟨x, rfl, r⟩ := rs.one
    rw [VRep.int r]
    exact .inl ⟨_, rfl, k _ H φ (Step.refl _ _ _) sm (Rep.int _)⟩
  · cases e
    obtain ⟨x, rfl, r⟩ := rs.one
    rw [VRep.bl r]
    exact .inr ⟨_, rfl, k _ H φ (Step.refl _ _ _) sm (Rep.int _)⟩
  · cases e
/-- list(x), tuple(x) -/
def gList : GC := fun as h => match as with
  | [x] => match asQ x h with
    | some xs => some (.r h.length, h ++ [some (.lst xs)])
    | none => none
  | _ => none
def gTuple : GC := fun as h => match as with
  | [x] => match asQ x h with
    | some xs => some (.d (.tuple xs), h)
    | none => none
  | _ => none
theorem ok_tuple : OkC K mg (fun xs H Q => ∃ p ys, xs = [.ref p] ∧ ((SqL K H p ys ∧ ∀ l, H l = none → Q (.ref l) (upd H l (.tup ys))) ∨ (SqT K H p ys ∧ Q (.ref p) H))) gTuple := by
  intro φ h H xs as Q v h' sm rs e k
  unfold gTuple at e
  split at e
  · split at e
    · rename_i w ys ey
      cases e
      obtain ⟨x, rfl, r⟩ := rs.one
      unfold asQ at ey
      split at ey
      · cases ey
        obtain ⟨p, zs, rfl, sq, rr⟩ := VRep.tup r
        exact ⟨p, zs, rfl, .inr ⟨sq, k _ H φ (Step.refl _ _ _) sm r⟩⟩
      · obtain ⟨p, zs, rfl, sq, rr⟩ := asL_ok sm r ey
        refine ⟨p, zs, rfl, .inl ⟨sq, fun l hl => ?_⟩⟩
        obtain ⟨s1, s2, s3⟩ := new_tup sm rr hl
        exact k _ _ _ s1 s2 s3
    · cases e
  · cases e
/-! ### isinstance with a built-in class -/
inductive Ty where
  | int | bool | str | tuple | list | dict
def Ty.name : Ty → String
  | .int => "int" | .bool => "bool" | .str => "str" | .tuple => "tuple" | .list => "list" | .dict => "dict"
def isTyD : Ty → Da → Option Bool
  | .int, .int _ => some true
  | .int, .bool _ => some true
  | .bool, .bool _ => some true
  | .str, .str _ => some true
  | .tuple, .tuple _ => some true
  | .list, .list _ => some true
  | .dict, .dict [] => some true
  | _, .dict [] => some false
  | _, .dict _ => none
  | _, _ => some false
def isTy (T : Ty) (v : Vl) (h : Hh) : Option Bool := match v with
  | .d x => isTyD T x
  | .r n => match h[n]? with
    | some (some (.lst xs)) => isTyD T (.list xs)
    | some (some (.dct _)) => some (match T with | .dict => true | _ => false)
    | _ => none
  | .x _ _ => none
  | .f _ => none
def eIsi (T : Ty) (a : Ev) : Ev := fun ρ h => (a ρ h).bind fun v h1 => match isTy T v h1 with
  | some b => .ok (.d (.bool b)) h1
  | none => .no
theorem kt_nn (T : Ty) : kitB "NoneType" T.name = some false := by cases T <;> decide +kernel
theorem kt_bl (T : Ty) : kitB "bool" T.name = some (match T with | .int => true | .bool => true | _ => false) := by cases T <;> decide +kernel
theorem kt_int (T : Ty) : kitB "int" T.name = some (match T with | .int => true | _ => false) := by cases T <;> decide +kernel
theorem kt_str (T : Ty) : kitB "str" T.name = some (match T with | .str => true | _ => false) := by cases T <;> decide +kernel
theorem kt_tup (T : Ty) : kitB "tuple" T.name = some (match T with | .tuple => true | _ => false) := by cases T <;> decide +kernel
theorem kt_lst (T : Ty) : kitB "list" T.name = some (match T with | .list => true | _ => false) := by cases T <;> decide +kernel
theorem kt_dct (T : Ty) : kitB "dict" T.name = some (match T with | .dict => true | _ => false) := by cases T <;> decide +kernel
theorem isTyD_ok {H : Hp} {M : Addr → Prop} {x : V} {d : Da} {T : Ty} {b : Bool} (r : Rep K H M x d) (e : isTyD T d = some b) : ∃ t, TyX K H x (.type t) ∧ kitB t T.name = some b := by
  cases r with
  | non => exact ⟨_, .base .non, by rw [kt_nn]; cases T <;> cases e <;> rfl⟩
  | bl c => exact ⟨_, .base (.bl c), by rw [kt_bl]; cases T <;> cases e <;> rfl⟩
  | int c => exact ⟨_, .base (.int c), by rw [kt_int]; cases T <;> cases e <;> rfl⟩
  | str c => exact ⟨_, .base (.str c), by rw [kt_str]; cases T <;> cases e <;> rfl⟩
  | tup h n r =>
    rcases h with h | ⟨o, h⟩
    · exact ⟨_, .base (.tup h), by rw [kt_tup]; cases T <;> cases e <;> rfl⟩
    · exact ⟨_, .fTuple h, by rw [kt_tup]; cases T <;> cases e <;> rfl⟩
  | tupK h r =>
    obtain ⟨o, its, n, h1, h2, _⟩ := h
    exact ⟨_, .kTuple h1 h2, by rw [kt_tup]; cases T <;> cases e <;> rfl⟩
  | lst h n r =>
    rcases h with h | ⟨o, h⟩
    · exact ⟨_, .base (.lst h), by rw [kt_lst]; cases T <;> cases e <;> rfl⟩
    · exact ⟨_, .base (.frz h), by rw [kt_lst]; cases T <;> cases e <;> rfl⟩
  | lstK h r =>
    obtain ⟨o, its, n, h1, h2, _⟩ := h
    exact ⟨_, .kList h1 h2, by rw [kt_lst]; cases T <;> cases e <;> rfl⟩
  | dct0 h n =>
    exact ⟨_, .base (.dT h), by rw [kt_dct]; cases T <;> cases e <;> rfl⟩
  | @dct a kvs ds kds h n ne r e2 =>
    refine ⟨_, .base (.dK h), ?_⟩
    rw [kt_dct]
    clear e2
    cases kds with
    | nil => cases T <;> cases e <;> rfl
    | cons p t => cases T <;> cases e
  | fn x => cases T <;> cases e
  | plt _ _ _ _ => cases T <;> cases e
theorem isTy_ok {φ : List Addr} {h : Hh} {H : Hp} {x : V} {v : Vl} {T : Ty} {b : Bool} (sm : Sim K φ h H) (r : VRep K mg φ h H x v) (e : isTy T v h = some b) : ∃ t, TyX K H x (.type t) ∧ kitB t T.name = some b := by
  cases v with
  | d d => exact isTyD_ok (show Rep K H (Live φ h) x d from r) e
  | r n =>
    obtain ⟨a, ea, rfl⟩ := r
    unfold isTy at e
    dsimp only at e
    split at e
    · rename_i xs ex
      obtain ⟨zs, e2, q⟩ := sm.at_ ex ea
      exact ⟨_, .base (.lst e2), by rw [kt_lst]; cases T <;> cases e <;> rfl⟩
    · rename_i kvs ex
      obtain ⟨zs, e2, q⟩ := sm.at_ ex ea
      exact ⟨_, .base (.dK e2), by rw [kt_dct]; cases T <;> cases e <;> rfl⟩
    · cases e
  | x c fs =>
    unfold isTy at e
    cases e
  | f D =>
    unfold isTy at e
    cases e
end
section
variable {X : Cx} {W : WX} {a : Expr} {fa : Ev} {pos p q : Pos}
theorem ee_isi {x : Str} (T : Ty) (hg : Gl X "isinstance") (hm : X.mg "isinstance" = none) (hg2 : Gl X x) (hm2 : X.mg x = none) (hv2 : bootBuiltins x = some (.type T.name)) (hn2 : x ≠ "__name__" := by decide) (hd2 : (x == ("__debug__" : Str)) = false := by decide)
    (ha : EE X W a fa) (he : starEach [a, .Name x q] X.env = (false, eval a X.env) :: starEach [.Name x q] X.env := by rfl) (he2 : starEach [.Name x q] X.env = (false, eval (.Name x q) X.env) :: starEach [] X.env := by rfl) (hpl : (backTo pos (starEach [.Name x q] X.env)).any (·.1) = false := by rfl) :
    EE X W (.Call (.Name "isinstance" p) [a, .Name x q] [] pos) (eIsi T fa) :=
  PE.of (pe_callB call_isi hg hm PyProof.Rows.boot_isinstance (pa_cons ha (pa_cons (pe_bltn (v := .ty T.name) hg2 hm2 hv2 rfl hn2 hd2) pa_nil he2) he) (by decide) (by decide) he hpl) fun σ H Q ⟨φ, h, ρ, sm, er, qq⟩ => ⟨φ, h, ρ, sm, er, PoX.goE qq fun x v h1 H1 φ1 st sm1 rv q1 => by
    cases e : isTy T v h1 with
    | none => rw [e] at q1; exact q1.elim
    | some b =>
      rw [e] at q1
      obtain ⟨t, ty, kt⟩ := isTy_ok sm1 rv e
      exact ⟨x, .ty T.name, .type t, .type T.name, b, rfl, .ty _, ty, kit_ty kt, PoX.now (v := .d (.bool b)) q1 sm1 (Rep.bl b)⟩⟩
end
end Rk

/-! Rk5: targets, statements, loops, a def. -/
namespace Rk
open PySem PySem.Spec L2
variable {mg : Str → Option Value}
/-! ### targets -/
abbrev Gv := Vl → En → Hh → Option (En × Hh)
abbrev Gs := List Vl → En → Hh → Option (En × Hh)
def tG (K : PySem.W.Frag) (mg : Str → Option Value) (g : Gv) : TG := fun x σ H Q => ∃ φ h ρ v ρ' h', Sim K φ h H ∧ ERep K mg φ h H σ ρ ∧ VRep K mg φ h H x v ∧ g v ρ h = some (ρ', h') ∧ ∀ σ' H' φ', Step φ h H φ' h' H' → Sim K φ' h' H' → ERep K mg φ' h' H' σ' ρ' → Q σ' H'
def tGs (K : PySem.W.Frag) (mg : Str → Option Value) (g : Gs) : TGs := fun xs σ H Q => ∃ φ h ρ vs ρ' h', Sim K φ h H ∧ ERep K mg φ h H σ ρ ∧ VReps K mg φ h H xs vs ∧ g vs ρ h = some (ρ', h') ∧ ∀ σ' H' φ', Step φ h H φ' h' H' → Sim K φ' h' H' → ERep K mg φ' h' H' σ' ρ' → Q σ' H'
def EG (X : Cx) (tg : Expr) (g : Gv) : Prop := PG X tg (tG X.K X.mg g)
def EGs (X : Cx) (tg : List Expr) (g : Gs) : Prop := PGs X tg (tGs X.K X.mg g)
theorem PG.of {X : Cx} {e : Expr} {t t' : TG} (h : PG X e t) (i : ∀ x σ H Q, t' x σ H Q → t x σ H Q) : PG X e t' := ⟨fun pins s σ H v u Q I r w => h.run pins s σ H v u Q I r (i v σ H Q w)⟩
theorem PGs.of {X : Cx} {e : List Expr} {t t' : TGs} (h : PGs X e t) (i : ∀ x σ H Q, t' x σ H Q → t x σ H Q) : PGs X e t' := ⟨fun pins s σ H v u Q I r w => h.run pins s σ H v u Q I r (i v σ H Q w)⟩
def gN (i : Nat) : Gv := fun v ρ h => some (ρ.set i (some v), h)
def gsNil : Gs := fun vs ρ h => match vs with
  | [] => some (ρ, h)
  | _ => none
def gsCons (g : Gv) (r : Gs) : Gs := fun vs ρ h => match vs with
  | v :: t => (g v ρ h).bind fun p => r t p.1 p.2
  | [] => none
/-- a tuple, or a list, of n -/
def gTupT (n : Nat) (g : Gs) : Gv := fun v ρ h => match v with
  | .d (.tuple ds) => if ds.length = n then g (ds.map Vl.d) ρ h else none
  | _ => none
theorem Reps.vreps {K : PySem.W.Frag} {φ : List Addr} {h : Hh} {H : Hp} : ∀ {xs : List V} {ds : List Da}, Reps K H (Live φ h) xs ds → VReps K mg φ h H xs (ds.map Vl.d)
  | _, _, .nil => .nil
  | _, _, .cons r t => .cons r (Reps.vreps t)
section
variable {X : Cx} {pos : Pos}
theorem eg_name {i : Nat} {x : Str} (hN : X.N.Nodup) (hi : X.N[i]? = some x := by rfl) (hx : Loc X.env.scope x := by first | exact .inl rfl | exact .inr rfl) (hf : X.fn x = true ∨ X.env.scope.names.lookup x = some .local := by first | exact .inl rfl | exact .inr rfl | assumption) : EG X (.Name x pos) (gN i) :=
  PG.of (pg_name (i := i) hN hi hx hf) fun x σ H Q ⟨φ, h, ρ, v, ρ', h', sm, er, rv, e, k⟩ => by
    cases e
    exact k _ H φ (Step.refl _ _ _) sm (er.set rv)
theorem egs_nil : EGs X [] gsNil := PGs.of pgs_nil fun xs σ H Q ⟨φ, h, ρ, vs, ρ', h', sm, er, rv, e, k⟩ => by
  cases rv with
  | nil =>
    cases e
    exact ⟨rfl, k _ H φ (Step.refl _ _ _) sm er⟩
  | cons _ _ => cases e
theorem egs_cons {e : Expr} {es : List Expr} {g : Gv} {gs : Gs} (h1 : EG X e g) (h2 : EGs X es gs)
    (hs : (assignEach (e :: es) X.env).map (·.2) = assign e X.env :: (assignEach es X.env).map (·.2) := by rfl) : EGs X (e :: es) (gsCons g gs) :=
  PGs.of (pgs_cons h1 h2 hs) fun xs σ H Q ⟨φ, h, ρ, vs, ρ', h', sm, er, rv, e, k⟩ => by
    cases rv with
    | nil => cases e
    | @cons x xs v vs r t =>
      have e' : ((g v ρ h).bind fun p => gs vs p.1 p.2) = some (ρ', h') := e
      cases q : g v ρ h with
      | none => rw [q] at e'; cases e'
      | some p =>
        obtain ⟨ρ1, h1⟩ := p
        rw [q] at e'
        exact ⟨x, xs, rfl, φ, h, ρ, v, ρ1, h1, sm, er, r, q, fun σ1 H1 φ1 st sm1 er1 => ⟨φ1, h1, ρ1, vs, ρ', h', sm1, er1, t.step st, e', fun σ2 H2 φ2 st2 => k σ2 H2 φ2 (st.trans st2)⟩⟩
theorem eg_tup {es : List Expr} {k n : Nat} {gs : Gs} (hc : X.calm = true) (h : EGs X es gs) (hn : (assignEach es X.env).length = n := by rfl) (hst : (assignEach es X.env).findIdx? (·.1) = none := by rfl) : EG X (.Tuple es k pos) (gTupT n gs) :=
  PG.of (pg_tup hc h hn hst) fun x σ H Q ⟨φ, h, ρ, v, ρ', h', sm, er, rv, e, k⟩ => by
    unfold gTupT at e
    split at e
    · rename_i ds
      split at e
      · obtain ⟨a, xs, rfl, sq, rs⟩ := VRep.tup rv
        exact ⟨a, xs, rfl, sq, by rw [rs.length]; assumption, φ, h, ρ, _, ρ', h', sm, er, rs.vreps, e, k⟩
      · cases e
    · cases e
end
/-! ### statements -/
def ofG : Option (En × Hh) → So
  | some p => .nx p.1 p.2
  | none => .no
def sAsg (g : Gv) (f : Ev) : Sv := fun ρ h => Out.then ρ (f ρ h) fun v h1 => ofG (g v ρ h1)
def sSet (i : Nat) (f : Ev) : Sv := fun ρ h => Out.then ρ (f ρ h) fun v h1 => .nx (ρ.set i (some v)) h1
def sRet (f : Ev) : Sv := fun ρ h => Out.then ρ (f ρ h) fun v h1 => .rt v h1
def sRetN : Sv := fun _ h => .rt (.d .none) h
def sExpr (f : Ev) : Sv := fun ρ h => Out.then ρ (f ρ h) fun _ h1 => .nx ρ h1
def sIf (c : Tv) (a b : Sv) : Sv := fun ρ h => Out.then ρ (c ρ h) fun k h1 => if k then a ρ h1 else b ρ h1
def So.then : So → Sv → So
  | .nx ρ h, f => f ρ h
  | r, _ => r
def sSeq (a b : Sv) : Sv := fun ρ h => (a ρ h).then b
def sNil : Sv := fun ρ h => .nx ρ h
def sBrk : Sv := fun ρ h => .bk ρ h
def sCont : Sv := fun ρ h => .ct ρ h
def sPar (i j : Nat) (as : Av) : Sv := fun ρ h => Out.then ρ (as ρ h) fun vs h1 => match vs with
  | [v, w] => .nx ((ρ.set i (some v)).set j (some w)) h1
  | _ => .no
section
variable {X : Cx} {W : WX} {e : Expr} {fe : Ev} {pos : Pos}
theorem PoS.nxNow {K : PySem.W.Frag} {mg : Str → Option Value} {φ : List Addr} {h : Hh} {H : Hp} {ρ : En} {σ : L2.St} {D : Ends} {W : WX} (q : PoS K mg φ h H (.nx ρ h) D W) (sm : Sim K φ h H) (er : ERep K mg φ h H σ ρ) : D.nx σ H := q σ H φ (Step.refl _ _ _) sm er
theorem es_set {i : Nat} {x : Str} {pos' : Pos} (hN : X.N.Nodup) (he : EE X W e fe) (hi : X.N[i]? = some x := by rfl) (hx : Loc X.env.scope x := by first | exact .inl rfl | exact .inr rfl) (hs : swapsWith e (some (.Name x pos')) pos.line X.env = pure false := by rfl) (hf : X.fn x = true ∨ X.env.scope.names.lookup x = some .local := by first | exact .inl rfl | exact .inr rfl | assumption) :
    ES X W (.Assign [.Name x pos'] e pos) (sSet i fe) :=
  PS.of (ps_set hN hi hx he hs hf) fun D σ H ⟨φ, h, ρ, sm, er, q⟩ => ⟨φ, h, ρ, sm, er, PoS.goE er q fun x v h1 H1 φ1 st sm1 er1 rv q1 => PoS.nxNow q1 sm1 (er1.set rv)⟩
theorem es_ret (he : EE X W e fe) : ES X W (.Return (some e) pos) (sRet fe) :=
  PS.of (ps_ret he) fun D σ H ⟨φ, h, ρ, sm, er, q⟩ => ⟨φ, h, ρ, sm, er, PoS.goE er q fun x v h1 H1 φ1 st sm1 er1 rv q1 => q1 x H1 φ1 (Step.refl _ _ _) sm1 rv⟩
theorem es_expr (he : EE X W e fe) (hs : swapsWith e none pos.line X.env = pure false := by rfl) : ES X W (.Expr e pos) (sExpr fe) :=
  PS.of (ps_expr he hs) fun D σ H ⟨φ, h, ρ, sm, er, q⟩ => ⟨φ, h, ρ, sm, er, PoS.goE er q fun x v h1 H1 φ1 st sm1 er1 rv q1 => PoS.nxNow q1 sm1 er1⟩
theorem es_if {c : Expr} {a b : List Stmt} {tc : Tv} {fa fb : Sv} (hc : ET X W c tc) (ha : ESs X W a fa) (hb : ESs X W b fb) : ES X W (.If c a b pos) (sIf tc fa fb) :=
  PS.of (ps_if hc ha hb) fun D σ H ⟨φ, h, ρ, sm, er, q⟩ => ⟨φ, h, ρ, sm, er, PoS.goT er q fun v h1 H1 φ1 st sm1 er1 q1 => by
    cases v with
    | true => exact iteT ⟨φ1, h1, ρ, sm1, er1, q1⟩
    | false => exact iteF ⟨φ1, h1, ρ, sm1, er1, q1⟩⟩
theorem ess_nil : ESs X W [] sNil := PSs.of pss_nil fun D σ H ⟨φ, h, ρ, sm, er, q⟩ => PoS.nxNow q sm er
theorem ess_one {st : Stmt} {f : Sv} (h : ES X W st f) : ESs X W [st] f := pss_one h
theorem ess_cons {st : Stmt} {rest : List Stmt} {f g : Sv} (h1 : ES X W st f) (h2 : ESs X W rest g) : ESs X W (st :: rest) (sSeq f g) :=
  PSs.of (pss_cons h1 h2) fun D σ H ⟨φ, h, ρ, sm, er, q⟩ => ⟨φ, h, ρ, sm, er, by
    unfold sSeq at q
    revert q
    cases f ρ h with
    | nx ρ1 h1 => exact fun q σ1 H1 φ1 st sm1 er1 => ⟨φ1, h1, ρ1, sm1, er1, PoS.pull st q⟩
    | rt v h1 => exact fun q => q
    | bk ρ1 h1 => exact fun q => q
    | ct ρ1 h1 => exact fun q => q
    | ex c fs ρ1 h1 => exact fun q => q
    | no => exact fun q => q⟩
theorem es_par {i j : Nat} {x y : Str} {a b : Expr} {fs : Av} {px py pt : Pos} {kt k2 : Nat} {pt2 : Pos} (hc : X.calm = true) (hN : X.N.Nodup) (ha : EA X W [a, b] fs) (hi : X.N[i]? = some x := by rfl) (hj : X.N[j]? = some y := by rfl) (hij : i ≠ j := by decide)
    (hx : X.env.scope.names.lookup x = some .local := by rfl) (hy : X.env.scope.names.lookup y = some .local := by rfl)
    (hw : swappedStores [.Tuple [.Name x px, .Name y py] kt pt] (.Tuple [a, b] k2 pt2) X.env = pure (some [x, y]) := by rfl)
    (hs : swapsWithSole [.Tuple [.Name x px, .Name y py] kt pt] (.Tuple [a, b] k2 pt2) pos.line X.env = pure false := by rfl) :
    ES X W (.Assign [.Tuple [.Name x px, .Name y py] kt pt] (.Tuple [a, b] k2 pt2) pos) (sPar i j fs) :=
  PS.of (ps_par hc hN hi hj hij hx hy ha hw hs) fun D σ H ⟨φ, h, ρ, sm, er, q⟩ => ⟨φ, h, ρ, sm, er, PoS.goA er q fun xs vs h1 H1 φ1 st sm1 er1 rv q1 => by
    split at q1
    · obtain ⟨x, y, rfl, r1, r2⟩ := rv.two
      exact ⟨x, y, rfl, PoS.nxNow q1 sm1 ((er1.set r1).set r2)⟩
    · exact q1.elim⟩
/-- name op= e -/
def sAug (i : Nat) (g : G2) (f : Ev) : Sv := fun ρ h => Out.then ρ (eVar i ρ h) fun x h0 => Out.then ρ (f ρ h0) fun y h1 => Out.then ρ (ofO (g x y h1)) fun z h2 => .nx (ρ.set i (some z)) h2
/-- o[i] = e, o a list -/
def okO : Out Vl → Option (Vl × Hh)
  | .ok v h => some (v, h)
  | _ => none
def setL (o i v : Vl) (h : Hh) : Option Hh := match o, i, fz v h with
  | .r n, .d (.int k), some (d, h1) => match h1[n]? with
    | some (some (.lst xs)) => (ixN xs.length k).map fun j => h1.set n (some (.lst (xs.set j d)))
    | _ => none
  | _, _, _ => none
def gSetL (o ix : Ev) : Gv := fun v ρ h => (okO (o ρ h)).bind fun p => (okO (ix ρ p.2)).bind fun q => (setL p.1 q.1 v q.2).map fun h' => (ρ, h')
theorem okO_some {o : Out Vl} {v : Vl} {h : Hh} (e : okO o = some (v, h)) : o = .ok v h := by
  cases o <;> cases e
  rfl
end
end Rk

/-! Rk6: loops, defs. -/
namespace Rk
open PySem PySem.Spec L2
variable {mg : Str → Option Value}
/-! ### what is walked -/
/-- a list that must stand still -/
def gdOk (gd : Option (Nat × List Da)) (h : Hh) : Prop := match gd with
  | none => True
  | some (n, xs) => h[n]? = some (some (.lst xs))
structure Itm where
  ds : List Da
  gd : Option (Nat × List Da)
abbrev Iv := En → Hh → Out Itm
structure ItOk (K : PySem.W.Frag) (J : It) (m : Itm) (G : List Addr → Hh → Hp → Prop) : Prop where
  go : ∀ (φ : List Addr) (h : Hh) (H : Hp) (i : Nat), Sim K φ h H → G φ h H → gdOk m.gd h → i < m.ds.length → J.go i H
  yld : ∀ (φ : List Addr) (h : Hh) (H : Hp) (i : Nat) (x : V) (H' : Hp) (d : Da), Sim K φ h H → G φ h H → gdOk m.gd h → m.ds[i]? = some d → J.yld i H x H' → Step φ h H φ h H' ∧ Sim K φ h H' ∧ Rep K H' (Live φ h) x d
  stop : ∀ (φ : List Addr) (h : Hh) (H : Hp) (i : Nat), Sim K φ h H → G φ h H → gdOk m.gd h → m.ds.length ≤ i → J.stop i H
  keep : ∀ (φ : List Addr) (h : Hh) (H : Hp) (φ' : List Addr) (h' : Hh) (H' : Hp), G φ h H → Step φ h H φ' h' H' → G φ' h' H'
def PoI (K : PySem.W.Frag) (mg : Str → Option Value) (φ : List Addr) (h : Hh) (H : Hp) (o : Out Itm) (R : It → Hp → Prop) (E : XK) : Prop := match o with
  | .ok m h' => ∀ J H' φ' G, Step φ h H φ' h' H' → Sim K φ' h' H' → ItOk K J m G → G φ' h' H' → R J H'
  | .ex c fs h' => ∀ cls dd H' φ', Step φ h H φ' h' H' → Sim K φ' h' H' → XRep K mg H' (Live φ' h') c fs cls dd → E cls dd H'
  | .no => False
def tI (K : PySem.W.Frag) (mg : Str → Option Value) (W : WX) (f : Iv) : TI := fun σ H R => ∃ φ h ρ, Sim K φ h H ∧ ERep K mg φ h H σ ρ ∧ PoI K mg φ h H (f ρ h) R (WE W σ)
def EI (X : Cx) (W : WX) (tg iter : Expr) (f : Iv) : Prop := PI X tg iter (tI X.K X.mg W f)
theorem PI.of {X : Cx} {tg e : Expr} {t t' : TI} (h : PI X tg e t) (i : ∀ σ H Q, t' σ H Q → t σ H Q) : PI X tg e t' := ⟨fun pins s σ H Q I w => h.run pins s σ H Q I (i σ H Q w)⟩
section
variable {K : PySem.W.Frag} {mg : Str → Option Value} {φ φ1 : List Addr} {h h1 : Hh} {H H1 : Hp} {E : XK}
theorem PoI.pull {o : Out Itm} {Q : It → Hp → Prop} (s : Step φ h H φ1 h1 H1) (q : PoI K mg φ h H o Q E) : PoI K mg φ1 h1 H1 o Q E := by
  cases o with
  | ok v h2 => exact fun J H' φ' G st => q J H' φ' G (s.trans st)
  | ex c fs h2 => exact fun cls dd H' φ' st => q cls dd H' φ' (s.trans st)
  | no => exact q
theorem PoI.goE {o : Out Vl} {k : Vl → Hh → Out Itm} {Q : It → Hp → Prop} {Q1 : VK} (q : PoI K mg φ h H (o.bind k) Q E)
    (hk : ∀ (x : V) (v : Vl) (h1 : Hh) (H1 : Hp) (φ1 : List Addr), Step φ h H φ1 h1 H1 → Sim K φ1 h1 H1 → VRep K mg φ1 h1 H1 x v → PoI K mg φ1 h1 H1 (k v h1) Q E → Q1 x H1) : PoX K mg φ h H o Q1 E := by
  cases o with
  | ok v h1 => exact fun x H' φ' st sm' rv => hk x v h1 H' φ' st sm' rv (PoI.pull st q)
  | ex c fs h1 => exact q
  | no => exact q
theorem PoI.goA {o : Out (List Vl)} {k : List Vl → Hh → Out Itm} {Q : It → Hp → Prop} {Q1 : List V → Hp → Prop} (q : PoI K mg φ h H (o.bind k) Q E)
    (hk : ∀ (x : List V) (v : List Vl) (h1 : Hh) (H1 : Hp) (φ1 : List Addr), Step φ h H φ1 h1 H1 → Sim K φ1 h1 H1 → VReps K mg φ1 h1 H1 x v → PoI K mg φ1 h1 H1 (k v h1) Q E → Q1 x H1) : PoA K mg φ h H o Q1 E := by
  cases o with
  | ok v h1 => exact fun x H' φ' st sm' rv => hk x v h1 H' φ' st sm' rv (PoI.pull st q)
  | ex c fs h1 => exact q
  | no => exact q
end
/-- a list: data, or an object that must stand still -/
def itL : Vl → Hh → Out Itm
  | .d (.list ds), h => .ok ⟨ds, none⟩ h
  | .r n, h => match h[n]? with
    | some (some (.lst ds)) => .ok ⟨ds, some (n, ds)⟩ h
    | _ => .no
  | _, _ => .no
def itT : Vl → Hh → Out Itm
  | .d (.tuple ds), h => .ok ⟨ds, none⟩ h
  | _, _ => .no
def itQ : Vl → Hh → Out Itm
  | .d (.tuple ds), h => .ok ⟨ds, none⟩ h
  | v, h => itL v h
def iv (it : Vl → Hh → Out Itm) (f : Ev) : Iv := fun ρ h => (f ρ h).bind it
def iSeq (K : PySem.W.Frag) (tl : TE) : TI := fun σ H R => tl σ H fun x H1 => ∃ a, x = .ref a ∧ (((∃ xs, SqL K H1 a xs) ∧ R (Itl K a) H1) ∨ ((∃ xs, SqT K H1 a xs) ∧ R (Itt K a) H1))
theorem pi_seq {X : Cx} {tg l : Expr} {tl : TE} (hl : PE X l tl) : PI X tg l (iSeq X.K tl) := by
  refine ⟨fun pins s σ H R I h => ?_⟩
  refine thn (hl.run pins s σ H _ I h) fun v s1 ⟨x, H1, I1, r1, q1⟩ => ?_
  obtain ⟨a, e, q⟩ := q1
  subst e
  cases r1
  have nf : ∀ b : Addr, b ∈ [s1.heap.objs.size] → FpOk X pins H1 b := fun b hb => by
    have e : b = s1.heap.objs.size := by simpa using hb
    subst e
    exact I1.fpOk (Nat.le_refl _) (I1.hok.fresh (Nat.le_refl _))
  rcases q with ⟨⟨xs, hq⟩, q⟩ | ⟨⟨xs, hq⟩, q⟩
  · obtain ⟨its, rv, p, hz⟩ := I1.list hq
    exact wpAny_pyIter_list p.isList ⟨s1.heap.objs.size, [s1.heap.objs.size], _, _, H1, rfl, I1.kept (t' := s1.toks) fun b o e => Heap.get?_push_of_some _ e, turn_list a _, ⟨_, Heap.get?_push_size _ rfl, rfl, rfl⟩, nf, q⟩
  · obtain ⟨its, rv, p, hz⟩ := I1.tuple hq
    exact wpAny_pyIter_tuple (show s1.heap.IsTuple a its.toArray from p) ⟨s1.heap.objs.size, [s1.heap.objs.size], _, _, H1, rfl, I1.kept (t' := s1.toks) fun b o e => Heap.get?_push_of_some _ e, turn_tuple a _, ⟨_, Heap.get?_push_size _ rfl, rfl, rfl⟩, nf, q⟩
section
variable {K : PySem.W.Frag}
/-- how a list stands, for a walk -/
structure LOk (K : PySem.W.Frag) (a : Addr) (m : Itm) (G : List Addr → Hh → Hp → Prop) : Prop where
  sq : ∀ (φ : List Addr) (h : Hh) (H : Hp), Sim K φ h H → G φ h H → gdOk m.gd h → ∃ xs, SqL K H a xs ∧ Reps K H (Live φ h) xs m.ds
  keep : ∀ (φ : List Addr) (h : Hh) (H : Hp) (φ' : List Addr) (h' : Hh) (H' : Hp), G φ h H → Step φ h H φ' h' H' → G φ' h' H'
theorem itL_lok {φ : List Addr} {h h' : Hh} {H : Hp} {x : V} {v : Vl} {m : Itm} (sm : Sim K φ h H) (r : VRep K mg φ h H x v) (e : itL v h = .ok m h') : h' = h ∧ gdOk m.gd h ∧ ∃ a G, x = .ref a ∧ LOk K a m G ∧ G φ h H := by
  unfold itL at e
  split at e
  · cases e
    rename_i ds
    have r' : Rep K H (Live φ h) x (.list ds) := r
    cases r' with
    | @lst a xs _ h1 n r1 =>
      exact ⟨rfl, trivial, a, fun φ h H => Rep K H (Live φ h) (.ref a) (.list ds), rfl, ⟨fun φ h H _ g _ => Rep.sqL g, fun φ h H φ' h' H' g st => Rep.stay st.st g⟩, r⟩
    | @lstK a xs _ h1 r1 =>
      exact ⟨rfl, trivial, a, fun φ h H => Rep K H (Live φ h) (.ref a) (.list ds), rfl, ⟨fun φ h H _ g _ => Rep.sqL g, fun φ h H φ' h' H' g st => Rep.stay st.st g⟩, r⟩
  · split at e
    · rename_i n _ ds en
      cases e
      obtain ⟨a, ea, rfl⟩ := r
      refine ⟨rfl, en, a, fun (φ : List Addr) (h : Hh) (H : Hp) => φ[n]? = some a, rfl, ⟨fun φ h H sm g gd => ?_, fun φ h H φ' h' H' g st => pre_get st.pre g⟩, ea⟩
      obtain ⟨xs, e2, q⟩ := sm.at_ gd g
      exact ⟨xs, .of e2, q⟩
    · cases e
  · cases e
theorem LOk.it {a : Addr} {m : Itm} {G : List Addr → Hh → Hp → Prop} (L : LOk K a m G) : ItOk K (Itl K a) m G where
  go := fun φ h H i sm g gd hi => by
    obtain ⟨xs, sq, rs⟩ := L.sq φ h H sm g gd
    obtain ⟨y, e, _⟩ := rs.get (List.getElem?_eq_getElem hi)
    exact ⟨xs, y, sq, e⟩
  yld := fun φ h H i x H' d sm g gd ed ⟨e, q⟩ => by
    subst e
    obtain ⟨xs, sq, rs⟩ := L.sq φ h H' sm g gd
    obtain ⟨y, ey, ry⟩ := rs.get ed
    have e2 := q xs sq
    rw [ey] at e2
    cases e2
    exact ⟨Step.refl _ _ _, sm, ry⟩
  stop := fun φ h H i sm g gd hi => by
    obtain ⟨xs, sq, rs⟩ := L.sq φ h H sm g gd
    exact ⟨xs, sq, by rw [rs.length]; exact hi⟩
  keep := L.keep
theorem tup_it {a : Addr} {ds : List Da} : ItOk K (Itt K a) ⟨ds, none⟩ (fun φ h H => Rep K H (Live φ h) (.ref a) (.tuple ds)) where
  go := fun φ h H i sm g gd hi => by
    obtain ⟨xs, sq, rs⟩ := Rep.sqT g
    obtain ⟨y, e, _⟩ := rs.get (List.getElem?_eq_getElem hi)
    exact ⟨xs, y, sq, e⟩
  yld := fun φ h H i x H' d sm g gd ed ⟨e, q⟩ => by
    subst e
    obtain ⟨xs, sq, rs⟩ := Rep.sqT g
    obtain ⟨y, ey, ry⟩ := rs.get ed
    have e2 := q xs sq
    rw [ey] at e2
    cases e2
    exact ⟨Step.refl _ _ _, sm, ry⟩
  stop := fun φ h H i sm g gd hi => by
    obtain ⟨xs, sq, rs⟩ := Rep.sqT g
    exact ⟨xs, sq, by rw [rs.length]; exact hi⟩
  keep := fun φ h H φ' h' H' g st => Rep.stay st.st g
theorem enum_it {a : Addr} {m : Itm} {G : List Addr → Hh → Hp → Prop} (L : LOk K a m G) : ItOk K (Ite K a) ⟨m.ds.mapIdx fun i d => .tuple [.int (i : Nat), d], m.gd⟩ G where
  go := fun φ h H i sm g gd hi => by
    obtain ⟨xs, sq, rs⟩ := L.sq φ h H sm g gd
    obtain ⟨y, e, _⟩ := rs.get (List.getElem?_eq_getElem (show i < m.ds.length by simpa using hi))
    exact ⟨xs, y, sq, e⟩
  yld := fun φ h H i x H' d sm g gd ed ⟨T, y, ex, hT, e, q⟩ => by
    subst ex e
    obtain ⟨xs, sq, rs⟩ := L.sq φ h H sm g gd
    rw [List.getElem?_mapIdx] at ed
    cases e3 : m.ds[i]? with
    | none => rw [e3] at ed; cases ed
    | some d0 =>
      rw [e3] at ed
      cases ed
      obtain ⟨y2, ey, ry⟩ := rs.get e3
      have e2 := q xs sq
      rw [ey] at e2
      cases e2
      obtain ⟨s1, s2, s3⟩ := new_tup (mg := fun _ => none) sm (ds := [.int (i : Nat), d0]) (.cons (.int _) (.cons ry .nil)) hT
      exact ⟨s1, s2, s3⟩
  stop := fun φ h H i sm g gd hi => by
    obtain ⟨xs, sq, rs⟩ := L.sq φ h H sm g gd
    exact ⟨xs, sq, by rw [rs.length]; simpa using hi⟩
  keep := L.keep
def rngD (lo : Int) (n : Nat) : List Da := (List.range n).map fun k => .int (lo + (k : Nat))
theorem range_it {lo : Int} {n : Nat} : ItOk K (Itr lo n) ⟨rngD lo n, none⟩ (fun _ _ _ => True) where
  go := fun φ h H i sm g gd hi => by
    show i < n
    simpa [rngD] using hi
  yld := fun φ h H i x H' d sm g gd ed ⟨e, q⟩ => by
    subst e q
    unfold rngD at ed
    rw [List.getElem?_map] at ed
    cases e3 : (List.range n)[i]? with
    | none => rw [e3] at ed; cases ed
    | some k =>
      rw [e3] at ed
      have e4 := (List.getElem?_eq_some_iff.mp e3)
      obtain ⟨h1, h2⟩ := e4
      rw [List.getElem_range] at h2
      subst h2
      cases ed
      exact ⟨Step.refl _ _ _, sm, .int _⟩
  stop := fun φ h H i sm g gd hi => by
    show n ≤ i
    simpa [rngD] using hi
  keep := fun _ _ _ _ _ _ _ _ => trivial
end
def rgB (j : Int) : Bool := decide (-1000000000000 ≤ j) && decide (j ≤ 1000000000000)
theorem rgB_ok {j : Int} (h : rgB j = true) : -(2 ^ 62) ≤ j ∧ j < 2 ^ 62 := by
  unfold rgB at h
  rw [Bool.and_eq_true] at h
  exact ⟨Int.le_trans (by decide) (of_decide_eq_true h.1), Int.lt_of_le_of_lt (of_decide_eq_true h.2) (by decide)⟩
def iRange1 (as : Av) : Iv := fun ρ h => (as ρ h).bind fun vs h1 => match vs with
  | [.d (.int j)] => if rgB j then .ok ⟨rngD 0 j.toNat, none⟩ h1 else .no
  | _ => .no
def iRange2 (as : Av) : Iv := fun ρ h => (as ρ h).bind fun vs h1 => match vs with
  | [.d (.int i), .d (.int j)] => if rgB i && rgB j then .ok ⟨rngD i (j - i).toNat, none⟩ h1 else .no
  | _ => .no
def enumI (o : Out Itm) : Out Itm := o.bind fun m h => .ok ⟨m.ds.mapIdx fun i d => .tuple [.int (i : Nat), d], m.gd⟩ h
def iEnumL (as : Av) : Iv := fun ρ h => (as ρ h).bind fun vs h1 => match vs with
  | [v] => enumI (itL v h1)
  | _ => .no
section
variable {X : Cx} {W : WX} {tg e : Expr} {fe : Ev} {pos p : Pos} {fs : Av}
theorem ei_seq (he : EE X W e fe) : EI X W tg e (iv itQ fe) :=
  PI.of (pi_seq he) fun σ H R ⟨φ, h, ρ, sm, er, q⟩ => ⟨φ, h, ρ, sm, er, PoI.goE q fun x v h1 H1 φ1 st sm1 rv q1 => by
    unfold itQ at q1
    split at q1
    · obtain ⟨a, xs, rfl, sq, rs⟩ := VRep.tup rv
      exact ⟨a, rfl, .inr ⟨⟨xs, sq⟩, q1 _ H1 φ1 _ (Step.refl _ _ _) sm1 tup_it rv⟩⟩
    · cases e : itL v h1 with
      | ok m h2 =>
        rw [e] at q1
        obtain ⟨rfl, gd, a, G, rfl, L, g⟩ := itL_lok sm1 rv e
        obtain ⟨xs, sq, _⟩ := L.sq _ _ _ sm1 g gd
        exact ⟨a, rfl, .inl ⟨⟨xs, sq⟩, q1 _ H1 φ1 _ (Step.refl _ _ _) sm1 L.it g⟩⟩
      | ex c fs h2 =>
        unfold itL at e
        split at e
        · cases e
        · split at e <;> cases e
        · cases e
      | no => rw [e] at q1; exact q1.elim⟩
theorem ei_range1 {a : Expr} (hg : Gl X "range") (hm : X.mg "range" = none) (ha : EA X W [a] fs) (hs : starEach [a] X.env = [(false, eval a X.env)] := by rfl) : EI X W tg (.Call (.Name "range" p) [a] [] pos) (iRange1 fs) :=
  PI.of (pi_range1 hg hm ha hs) fun σ H R ⟨φ, h, ρ, sm, er, q⟩ => ⟨φ, h, ρ, sm, er, PoI.goA q fun xs vs h1 H1 φ1 st sm1 rv q1 => by
    split at q1
    · obtain ⟨x, rfl, r⟩ := rv.one
      split at q1
      · rename_i j hj
        rw [VRep.int r]
        exact ⟨j, rfl, (rgB_ok hj).1, (rgB_ok hj).2, q1 _ H1 φ1 _ (Step.refl _ _ _) sm1 range_it trivial⟩
      · exact q1.elim
    · exact q1.elim⟩
end
/-! ### for -/
open Classical in
noncomputable def forL (gd : Option (Nat × List Da)) (g : Gv) (body : Sv) : List Da → En → Hh → So
  | [], ρ, h => if gdOk gd h then .nx ρ h else .no
  | d :: ds, ρ, h => if gdOk gd h then (match g (.d d) ρ h with
      | none => .no
      | some p => match body p.1 p.2 with
        | .nx ρ' h' => forL gd g body ds ρ' h'
        | .ct ρ' h' => forL gd g body ds ρ' h'
        | .bk ρ' h' => .nx ρ' h'
        | r => r) else .no
noncomputable def sFor (i : Iv) (g : Gv) (body : Sv) : Sv := fun ρ h => Out.then ρ (i ρ h) fun m h1 => forL m.gd g body m.ds ρ h1
section
variable {X : Cx} {W : WX} {tg iter : Expr} {fi : Iv} {g : Gv} {body : List Stmt} {fb : Sv} {pos : Pos}
theorem for_ok {K : PySem.W.Frag} {mg : Str → Option Value} {W : WX} {D : Ends} {J : It} {m : Itm} {G : List Addr → Hh → Hp → Prop} (ok : ItOk K J m G) {φ : List Addr} {h : Hh} {H : Hp} {σ : L2.St} {ρ : En} (sm : Sim K φ h H) (er : ERep K mg φ h H σ ρ) (gg : G φ h H)
    (q : PoS K mg φ h H (forL m.gd g fb m.ds ρ h) D W) : ∃ W' : Nat → Nat → L2.St → Hp → Prop, (∃ n, W' 0 n σ H) ∧ ∀ i n σ H, W' i n σ H →
      (J.stop i H ∧ D.nx σ H) ∨ (J.go i H ∧ ∃ N : L2.St → Hp → Prop, (∀ σ' H', N σ' H' → ∃ m', m' < n ∧ W' (i + 1) m' σ' H') ∧ ∀ x H', J.yld i H x H' → tG K mg g x σ H' fun σ2 H2 => tS K mg W fb { D with nx := N, ct := N, bk := D.nx } σ2 H2) := by
  refine ⟨fun i n σ H => n = m.ds.length - i ∧ ∃ φ h ρ, Sim K φ h H ∧ ERep K mg φ h H σ ρ ∧ G φ h H ∧ PoS K mg φ h H (forL m.gd g fb (m.ds.drop i) ρ h) D W, ⟨_, rfl, φ, h, ρ, sm, er, gg, by rw [List.drop_zero]; exact q⟩, ?_⟩
  rintro i n σ H ⟨rfl, φ, h, ρ, sm, er, gg, q⟩
  cases ed : m.ds.drop i with
  | nil =>
    rw [ed] at q
    unfold forL at q
    split at q
    · rename_i gd
      exact .inl ⟨ok.stop φ h H i sm gg gd (List.drop_eq_nil_iff.mp ed), PoS.nxNow q sm er⟩
    · exact q.elim
  | cons d ds =>
    have hi : i < m.ds.length := by
      rcases Nat.lt_or_ge i m.ds.length with z | z
      · exact z
      · rw [List.drop_eq_nil_of_le z] at ed; cases ed
    have e1 : m.ds[i]? = some d := by
      have := List.getElem?_drop (xs := m.ds) (i := i) (j := 0)
      rw [ed] at this
      simpa using this.symm
    have e2 : m.ds.drop (i + 1) = ds := by
      have := List.drop_drop (i := 1) (j := i) (l := m.ds)
      rw [ed] at this
      simpa using this.symm
    rw [ed] at q
    unfold forL at q
    split at q
    · rename_i gd
      refine .inr ⟨ok.go φ h H i sm gg gd hi, fun σ' H' => ∃ φ h ρ, Sim K φ h H' ∧ ERep K mg φ h H' σ' ρ ∧ G φ h H' ∧ PoS K mg φ h H' (forL m.gd g fb ds ρ h) D W, fun σ' H' hN => ?_, fun x H' hy => ?_⟩
      · obtain ⟨φ', h', ρ', a1, a2, a3, a4⟩ := hN
        exact ⟨m.ds.length - (i + 1), by omega, rfl, φ', h', ρ', a1, a2, a3, by rw [e2]; exact a4⟩
      · obtain ⟨s1, s2, s3⟩ := ok.yld φ h H i x H' d sm gg gd e1 hy
        have q' := PoS.pull s1 q
        have gg' := ok.keep _ _ _ _ _ _ gg s1
        cases eg : g (.d d) ρ h with
        | none => rw [eg] at q'; exact q'.elim
        | some p =>
          obtain ⟨ρ1, h1⟩ := p
          rw [eg] at q'
          refine ⟨φ, h, ρ, .d d, ρ1, h1, s2, er.step s1, s3, eg, fun σ2 H2 φ2 st2 sm2 er2 => ⟨φ2, h1, ρ1, sm2, er2, ?_⟩⟩
          have q2 := PoS.pull st2 q'
          have gg2 := ok.keep _ _ _ _ _ _ gg' st2
          dsimp only at q2
          revert q2
          cases fb ρ1 h1 with
          | nx ρ3 h3 => exact fun q2 σ3 H3 φ3 st3 sm3 er3 => ⟨φ3, h3, ρ3, sm3, er3, ok.keep _ _ _ _ _ _ gg2 st3, PoS.pull st3 q2⟩
          | ct ρ3 h3 => exact fun q2 σ3 H3 φ3 st3 sm3 er3 => ⟨φ3, h3, ρ3, sm3, er3, ok.keep _ _ _ _ _ _ gg2 st3, PoS.pull st3 q2⟩
          | bk ρ3 h3 => exact fun q2 => q2
          | rt v h3 => exact fun q2 => q2
          | ex c fs ρ3 h3 => exact fun q2 => q2
          | no => exact fun q2 => q2
    · exact q.elim
theorem es_for (hp : PassesOwn (model X.prog X.w) X.A X.env X.xe) (hc : X.calm = true) (hi : EI X W tg iter fi) (hg : EG X tg g) (hb : ESs X W body fb) (hs : ∀ x, foldedSetIterable iter X.env x = pure x := by intro _; rfl) : ES X W (.For tg iter body [] pos) (sFor fi g fb) :=
  PS.of (ps_for hp hc hi hg hb hs) fun D σ H ⟨φ, h, ρ, sm, er, q⟩ => ⟨φ, h, ρ, sm, er, by
    unfold sFor at q
    revert q
    cases fi ρ h with
    | ok m h1 => exact fun q J H1 φ1 G st sm1 ok gg => for_ok ok sm1 (er.step st) gg (PoS.pull st q)
    | ex c fs h1 => exact fun q cls dd H' φ' st sm' xr => q cls dd σ H' φ' st sm' (er.step st) xr
    | no => exact fun q => q⟩
end
/-! ### while -/
def whileN (c : Tv) (b : Sv) : Nat → En → Hh → Option So
  | 0, _, _ => none
  | n + 1, ρ, h => match c ρ h with
    | .no => some .no
    | .ex k fs h1 => some (.ex k fs ρ h1)
    | .ok false h1 => some (.nx ρ h1)
    | .ok true h1 => match b ρ h1 with
      | .nx ρ' h' => whileN c b n ρ' h'
      | .ct ρ' h' => whileN c b n ρ' h'
      | .bk ρ' h' => some (.nx ρ' h')
      | r => some r
theorem whileN_mono (c : Tv) (b : Sv) : ∀ (n : Nat) (ρ : En) (h : Hh) (r : So), whileN c b n ρ h = some r → whileN c b (n + 1) ρ h = some r
  | 0, _, _, _, e => by cases e
  | n + 1, ρ, h, r, e => by
    unfold whileN at e ⊢
    split at e <;> try exact e
    split at e
    · exact whileN_mono c b n _ _ r e
    · exact whileN_mono c b n _ _ r e
    · exact e
    · exact e
theorem whileN_le (c : Tv) (b : Sv) {n m : Nat} (hl : n ≤ m) {ρ : En} {h : Hh} {r : So} (e : whileN c b n ρ h = some r) : whileN c b m ρ h = some r := by
  induction hl with
  | refl => exact e
  | step _ ih => exact whileN_mono c b _ ρ h r ih
theorem whileN_det (c : Tv) (b : Sv) {n m : Nat} {ρ : En} {h : Hh} {r r' : So} (e : whileN c b n ρ h = some r) (e' : whileN c b m ρ h = some r') : r = r' := by
  have a := whileN_le c b (Nat.le_max_left n m) e
  have b' := whileN_le c b (Nat.le_max_right n m) e'
  rw [a] at b'
  exact Option.some.inj b'
open Classical in
noncomputable def sWhile (c : Tv) (b : Sv) : Sv := fun ρ h => if H : ∃ r, ∃ n, whileN c b n ρ h = some r then Classical.choose H else .no
theorem sWhile_of {c : Tv} {b : Sv} {n : Nat} {ρ : En} {h : Hh} {r : So} (e : whileN c b n ρ h = some r) : sWhile c b ρ h = r := by
  have H : ∃ r, ∃ n, whileN c b n ρ h = some r := ⟨r, n, e⟩
  unfold sWhile
  rw [dif_pos H]
  obtain ⟨m, e'⟩ := Classical.choose_spec H
  exact whileN_det c b e' e
theorem sWhile_none {c : Tv} {b : Sv} {ρ : En} {h : Hh} (e : ∀ n, whileN c b n ρ h = none) : sWhile c b ρ h = .no := by
  unfold sWhile
  rw [dif_neg]
  rintro ⟨r, n, q⟩
  rw [e n] at q
  cases q
/-- one turn -/
theorem sWhile_eq (c : Tv) (b : Sv) (ρ : En) (h : Hh) : sWhile c b ρ h = Out.then ρ (c ρ h) fun k h1 => if k then (match b ρ h1 with
      | .nx ρ' h' => sWhile c b ρ' h'
      | .ct ρ' h' => sWhile c b ρ' h'
      | .bk ρ' h' => .nx ρ' h'
      | r => r) else .nx ρ h1 := by
  have step : ∀ n, whileN c b (n + 1) ρ h = match c ρ h with
    | .no => some .no
    | .ex k fs h1 => some (.ex k fs ρ h1)
    | .ok false h1 => some (.nx ρ h1)
    | .ok true h1 => match b ρ h1 with
      | .nx ρ' h' => whileN c b n ρ' h'
      | .ct ρ' h' => whileN c b n ρ' h'
      | .bk ρ' h' => some (.nx ρ' h')
      | r => some r := fun n => rfl
  cases ec : c ρ h with
  | no => exact sWhile_of (n := 1) (by rw [step, ec]; rfl)
  | ex k fs h1 => exact sWhile_of (n := 1) (by rw [step, ec]; rfl)
  | ok k h1 =>
    cases k with
    | false => exact sWhile_of (n := 1) (by rw [step, ec]; rfl)
    | true =>
      show sWhile c b ρ h = match b ρ h1 with
        | .nx ρ' h' => sWhile c b ρ' h'
        | .ct ρ' h' => sWhile c b ρ' h'
        | .bk ρ' h' => .nx ρ' h'
        | r => r
      have again : ∀ ρ' h', (∀ n, whileN c b (n + 1) ρ h = whileN c b n ρ' h') → sWhile c b ρ h = sWhile c b ρ' h' := fun ρ' h' z => by
        by_cases q : ∃ r, ∃ n, whileN c b n ρ' h' = some r
        · obtain ⟨r, n, e⟩ := q
          rw [sWhile_of e]
          exact sWhile_of (n := n + 1) (by rw [z]; exact e)
        · have n1 : ∀ n, whileN c b n ρ' h' = none := fun n => by
            cases e : whileN c b n ρ' h' with
            | none => rfl
            | some r => exact absurd ⟨r, n, e⟩ q
          rw [sWhile_none n1]
          refine sWhile_none fun n => ?_
          cases n with
          | zero => rfl
          | succ n => rw [z]; exact n1 n
      cases eb : b ρ h1 with
      | nx ρ' h' => exact again ρ' h' fun n => by rw [step, ec]; dsimp only; rw [eb]
      | ct ρ' h' => exact again ρ' h' fun n => by rw [step, ec]; dsimp only; rw [eb]
      | bk ρ' h' => exact sWhile_of (n := 1) (by rw [step, ec]; dsimp only; rw [eb])
      | rt v h' => exact sWhile_of (n := 1) (by rw [step, ec]; dsimp only; rw [eb])
      | ex k fs ρ' h' => exact sWhile_of (n := 1) (by rw [step, ec]; dsimp only; rw [eb])
      | no => exact sWhile_of (n := 1) (by rw [step, ec]; dsimp only; rw [eb])
section
variable {X : Cx} {W : WX} {c : Expr} {tc : Tv} {body : List Stmt} {fb : Sv} {pos : Pos}
theorem es_while (hp : PassesOwn (model X.prog X.w) X.A X.env X.xe) (hc : ET X W c tc) (hb : ESs X W body fb) : ES X W (.While c body [] pos) (sWhile tc fb) :=
  PS.of (ps_while hp hc hb) fun D σ H ⟨φ, h, ρ, sm, er, q⟩ => by
    by_cases ex : ∃ r, ∃ n, whileN tc fb n ρ h = some r
    · obtain ⟨r, n, e⟩ := ex
      rw [sWhile_of e] at q
      refine ⟨fun m σ H => ∃ φ h ρ r, Sim X.K φ h H ∧ ERep X.K X.mg φ h H σ ρ ∧ whileN tc fb m ρ h = some r ∧ PoS X.K X.mg φ h H r D W, ⟨n, φ, h, ρ, r, sm, er, e, q⟩, ?_⟩
      rintro m σ H ⟨φ, h, ρ, r, sm, er, e, q⟩
      refine ⟨φ, h, ρ, sm, er, ?_⟩
      cases m with
      | zero => cases e
      | succ m =>
        unfold whileN at e
        revert e
        cases tc ρ h with
        | no => intro e; cases e; exact q
        | ex k fs h1 => intro e; cases e; exact fun cls dd H' φ' st sm' xr => q cls dd σ H' φ' st sm' (er.step st) xr
        | ok k h1 =>
          cases k with
          | false =>
            intro e
            cases e
            intro H1 φ1 st sm1
            exact iteF (q σ H1 φ1 st sm1 (er.step st))
          | true =>
            intro e
            intro H1 φ1 st sm1
            refine iteT ⟨fun σ' H' => ∃ φ h ρ r, Sim X.K φ h H' ∧ ERep X.K X.mg φ h H' σ' ρ ∧ whileN tc fb m ρ h = some r ∧ PoS X.K X.mg φ h H' r D W, fun σ' H' z => ⟨m, Nat.lt_succ_self m, z⟩, φ1, h1, ρ, sm1, er.step st, ?_⟩
            dsimp only at e
            revert e
            cases fb ρ h1 with
            | nx ρ' h' => exact fun e σ2 H2 φ2 st2 sm2 er2 => ⟨φ2, h', ρ', r, sm2, er2, e, PoS.pull (st.trans st2) q⟩
            | ct ρ' h' => exact fun e σ2 H2 φ2 st2 sm2 er2 => ⟨φ2, h', ρ', r, sm2, er2, e, PoS.pull (st.trans st2) q⟩
            | bk ρ' h' => intro e; cases e; exact PoS.pull st q
            | rt v h' => intro e; cases e; exact PoS.pull st q
            | ex k fs ρ' h' => intro e; cases e; exact PoS.pull st q
            | no => intro e; cases e; exact PoS.pull st q
    · have n1 : ∀ n, whileN tc fb n ρ h = none := fun n => by
        cases e : whileN tc fb n ρ h with
        | none => rfl
        | some r => exact absurd ⟨r, n, e⟩ ex
      rw [sWhile_none n1] at q
      exact q.elim
end
/-! ### a def -/
def trunc (n : Nat) (v : Vl) (h : Hh) : Out Vl := match v with
  | .r i => if i < n then .ok (.r i) (h.take n) else match h[i]? with
    | some (some (.rl _)) => .no
    | some (some o) => .ok (.r n) (h.take n ++ [some o])
    | _ => .no
  | .f _ => .no
  | v => .ok v (h.take n)
def retF (n : Nat) : So → Out Vl
  | .rt v h => trunc n v h
  | .nx _ h => trunc n (.d .none) h
  | .ex c fs _ h => .ex c fs (h.take n)
  | _ => .no
def enter (N : Nat) (as : List Vl) : En := as.map some ++ List.replicate (N - as.length) none
def mkF (k N : Nat) (body : Sv) : Fn := fun as h => if as.length = k then retF h.length (body (enter N as) h) else .no
section
variable {K : PySem.W.Frag} {mg : Str → Option Value}
theorem enter_ok {φ : List Addr} {h : Hh} {H : Hp} {vs : List V} {as : List Vl} (N : List Str) (r : VReps K mg φ h H vs as) : ERep K mg φ h H (start N vs) (enter N.length as) := by
  have hl := r.length
  refine ⟨by unfold L2.start enter; simp [hl], fun i v e => ?_⟩
  unfold enter at e
  unfold L2.start
  by_cases hi : i < as.length
  · rw [List.getElem?_append_left (by simpa using hi), List.getElem?_map] at e
    rw [List.getElem?_append_left (by simp; omega), List.getElem?_map]
    have get : ∀ {vs : List V} {as : List Vl} {i : Nat} {v : Vl}, VReps K mg φ h H vs as → as[i]? = some v → ∃ x, vs[i]? = some x ∧ VRep K mg φ h H x v := by
      intro vs as i v r
      induction r generalizing i with
      | nil => intro e; simp at e
      | cons q t ih =>
        cases i with
        | zero => intro e; simp at e; subst e; exact ⟨_, rfl, q⟩
        | succ i => intro e; exact ih (by simpa using e)
    cases e2 : as[i]? with
    | none => rw [e2] at e; cases e
    | some w =>
      rw [e2] at e
      cases e
      obtain ⟨x, e3, q⟩ := get r e2
      exact ⟨x, by rw [e3]; rfl, q⟩
  · rw [List.getElem?_append_right (by simpa using Nat.le_of_not_lt hi)] at e
    rw [List.getElem?_replicate] at e
    split at e <;> cases e
/-- the numbers above n are forgotten -/
theorem Sim.cut {φ φ' : List Addr} {h' : Hh} {H' : Hp} {n : Nat} (sm : Sim K φ' h' H') (pre : φ <+: φ') (hn : φ.length = n) :
    Sim K φ (h'.take n) H' ∧ (∀ a, Live φ (h'.take n) a → Live φ' h' a) := by
  have le : n ≤ h'.length := by rw [← sm.len, ← hn]; exact pre.length_le
  have back : ∀ (i : Nat) (o : Option Ob), (h'.take n)[i]? = some o → h'[i]? = some o ∧ i < n := fun i o e => by
    rw [List.getElem?_take] at e
    split at e
    · exact ⟨e, by assumption⟩
    · cases e
  have less : ∀ a, Live φ (h'.take n) a → Live φ' h' a := fun a ⟨i, o, e1, e2⟩ => ⟨i, o, pre_get pre e1, (back i _ e2).1⟩
  have st : Stay H' (Live φ' h') H' (Live φ (h'.take n)) := fun a u q _ nl => ⟨q, fun l => nl (less a l)⟩
  refine ⟨⟨by rw [List.length_take, hn]; omega, fun i j a o o' e1 e2 e3 e4 => sm.inj i j a o o' (pre_get pre e1) (pre_get pre e2) (back i _ e3).1 (back j _ e4).1, fun i o e => ?_, fun i ns e => ?_⟩, less⟩
  · obtain ⟨e1, hi⟩ := back i _ e
    obtain ⟨a, e2, r⟩ := sm.ob i o e1
    obtain ⟨t, rfl⟩ := pre
    rw [List.getElem?_append_left (by omega)] at e2
    exact ⟨a, e2, r.stay st (fun _ z => z) fun _ _ z => sm.notCode z⟩
  · obtain ⟨e1, hi⟩ := back i _ e
    obtain ⟨a, as, e2, e3, e4, e5⟩ := sm.rf i ns e1
    obtain ⟨t, rfl⟩ := pre
    rw [List.getElem?_append_left (by omega)] at e2
    refine ⟨a, as, e2, e3, e4, fun k m z => ?_⟩
    obtain ⟨z1, z2⟩ := e5 k m z
    rw [List.getElem?_append_left (by omega)] at z2
    exact ⟨z1, z2⟩
theorem trunc_ok {φ φ' : List Addr} {h h' : Hh} {H H' : Hp} {v : Vl} {x : V} {Q : VK} {E : XK} (sm : Sim K φ h H) (st : Step φ h H φ' h' H') (sm' : Sim K φ' h' H') (rv : VRep K mg φ' h' H' x v)
    (q : PoX K mg φ h H (trunc h.length v h') Q E) : Q x H' := by
  obtain ⟨c1, c2⟩ := sm'.cut st.pre sm.len
  have st2 : Stay H' (Live φ' h') H' (Live φ (h'.take h.length)) := fun a u q _ nl => ⟨q, fun l => nl (c2 a l)⟩
  have st1 : Step φ h H φ (h'.take h.length) H' := ⟨List.prefix_refl _, st.st.trans st2⟩
  cases v with
  | d z => exact q x H' φ st1 c1 (Rep.stay st2 rv)
  | x c fs =>
    obtain ⟨a, cls, dd, rfl, e1, e2, xr⟩ := rv
    exact q _ H' φ st1 c1 ⟨a, cls, dd, rfl, e1, fun l => e2 (c2 a l), xr.stay st2⟩
  | f D => exact q.elim
  | r i =>
    obtain ⟨a, ea, rfl⟩ := rv
    unfold trunc at q
    dsimp only at q
    split at q
    · rename_i hi
      have hi' : i < φ.length := by rw [sm.len]; exact hi
      obtain ⟨t, rfl⟩ := st.pre
      rw [List.getElem?_append_left hi'] at ea
      exact q _ H' φ st1 c1 ⟨a, ea, rfl⟩
    · rename_i hi
      split at q
      · exact q.elim
      · rename_i o nrl eo
        -- the object i becomes the object n
        have hl : h.length ≤ h'.length := by rw [← sm'.len, ← sm.len]; exact st.pre.length_le
        have lk : (h'.take h.length).length = h.length := by rw [List.length_take]; omega
        have nl : ¬ Live φ (h'.take h.length) a := fun ⟨j, u, e1, e2⟩ => by
          rw [List.getElem?_take] at e2
          split at e2
          · have := sm'.inj i j a o u ea (pre_get st.pre e1) eo e2
            omega
          · cases e2
        have lv : ∀ b, Live (φ ++ [a]) (h'.take h.length ++ [some o]) b ↔ Live φ (h'.take h.length) b ∨ b = a := fun b => live_new (by rw [lk, sm.len])
        have less : ∀ b, Live (φ ++ [a]) (h'.take h.length ++ [some o]) b → Live φ' h' b := fun b l => by
          rcases (lv b).mp l with l | rfl
          · exact c2 b l
          · exact ⟨i, o, ea, eo⟩
        have st3 : Stay H' (Live φ' h') H' (Live (φ ++ [a]) (h'.take h.length ++ [some o])) := fun b u q _ nb => ⟨q, fun l => nb (less b l)⟩
        have ora := sm'.at_ eo ea
        refine q _ H' (φ ++ [a]) ⟨List.prefix_append _ _, st.st.trans st3⟩ ⟨by simp [lk, sm.len], fun i1 j1 b u u' e1 e2 e3 e4 => ?_, fun i1 u e => ?_, fun i1 ns e => ?_⟩ ⟨a, by rw [← sm.len]; simp, rfl⟩
        · have hgt : ∀ (k : Nat) (u : Ob), (φ ++ [a])[k]? = some b → (h'.take h.length ++ [some o])[k]? = some (some u) → (k < φ.length ∧ φ[k]? = some b ∧ (h'.take h.length)[k]? = some (some u)) ∨ (k = φ.length ∧ b = a) := fun k u e1 e2 => by
            by_cases hk : k < φ.length
            · rw [List.getElem?_append_left hk] at e1
              rw [List.getElem?_append_left (by rw [lk, ← sm.len]; exact hk)] at e2
              exact .inl ⟨hk, e1, e2⟩
            · have : k = φ.length := by
                have := (List.getElem?_eq_some_iff.mp e1).1
                simp at this
                omega
              subst this
              simp at e1
              exact .inr ⟨rfl, e1.symm⟩
          rcases hgt i1 u e1 e3 with ⟨a1, a2, a3⟩ | ⟨a1, a2⟩ <;> rcases hgt j1 u' e2 e4 with ⟨b1, b2, b3⟩ | ⟨b1, b2⟩
          · exact c1.inj i1 j1 b u u' a2 b2 a3 b3
          · subst b2; exact absurd ⟨i1, u, a2, a3⟩ nl
          · subst a2; exact absurd ⟨j1, u', b2, b3⟩ nl
          · omega
        · by_cases hk : i1 < h.length
          · rw [List.getElem?_append_left (by rw [lk]; exact hk)] at e
            obtain ⟨b, e2, r2⟩ := sm'.ob i1 u (by rw [List.getElem?_take, if_pos hk] at e; exact e)
            obtain ⟨t, et⟩ := st.pre
            rw [← et, List.getElem?_append_left (by rw [sm.len]; exact hk)] at e2
            exact ⟨b, by rw [List.getElem?_append_left (by rw [sm.len]; exact hk)]; exact e2, r2.stay st3 (fun _ z => z) fun _ _ z => sm'.notCode z⟩
          · have e0 : i1 = h.length := by
              have := (List.getElem?_eq_some_iff.mp e).1
              simp [lk] at this
              omega
            subst e0
            rw [List.getElem?_append_right (by rw [lk]; omega), lk] at e
            simp at e
            subst e
            exact ⟨a, by rw [← sm.len]; simp, ora.stay st3 (fun _ z => z) fun _ _ z => sm'.notCode z⟩
        · by_cases hk : i1 < h.length
          · rw [List.getElem?_append_left (by rw [lk]; exact hk)] at e
            obtain ⟨b, as, f1, f2, f3, f4⟩ := c1.rf i1 ns e
            refine ⟨b, as, by rw [List.getElem?_append_left (by rw [sm.len]; exact hk)]; exact f1, f2, f3, fun k m z => ?_⟩
            obtain ⟨z1, z2⟩ := f4 k m z
            exact ⟨z1, by rw [List.getElem?_append_left (by rw [sm.len]; omega)]; exact z2⟩
          · have hz : i1 = h.length := by
              have := (List.getElem?_eq_some_iff.mp e).1
              rw [List.length_append, lk] at this
              simp at this
              omega
            subst hz
            rw [List.getElem?_append_right (by omega), lk] at e
            simp at e
            subst e
            exact absurd rfl (nrl ns)
      · exact q.elim
end
end Rk

/-! Rk7: defs of the text, constants of the top, the head. -/
namespace Rk
open PySem PySem.Spec L2
variable {mg : Str → Option Value}
abbrev FnP (K : PySem.W.Frag) (x : Str) (st : Stmt) (f : Addr) (fd : FuncData) : Prop := FunD K x x (defArgs st) (defBody st) (defScope st) [] [] f fd
/-! ### room: no guard stands -/
structure RoomG (k : Nat) (A : Around) : Prop where
  r : Room k A
  g : A.guards = some []
theorem RoomG.mono {j k : Nat} {A : Around} (h : RoomG k A) (hl : j ≤ k) : RoomG j A := ⟨h.r.mono hl, h.g⟩
theorem RoomG.units {k : Nat} {A : Around} (h : RoomG k A) : A.units + 64 < cLine := h.r.units
theorem RoomG.deeper {k : Nat} {A : Around} (h : RoomG (k + 1) A) (env : Env) : RoomG k (A.deeper env) := ⟨h.r.deeper env, h.g⟩
/-- what a function object keeps, where no guard stands -/
structure FnG (P : Program) (w : World) (K : PySem.W.Frag) (mg : Str → Option Value) (base : Heap) (k : Nat) (f : Addr) (fd : FuncData) (ps : List Str) (sp : Sp) : Prop where
  len : ∀ vs H Q E, sp vs H Q E → vs.length = ps.length
  run : ∀ (A : Around) (outer : List Env) (s : Shared) (H : Hp) (args : Args) (us : List Value) (vs : List V) (Q : VK) (E : XK),
    RoomG k A → Env0 P w K mg base A outer s H → BindsTo s fd args (ps.zip us) → Vals vs us → sp vs H Q E → codeAny (model P w) A (.call (.ref f) args) (CR (L2.CX P w) outer P w H s Q E) s
/-- a def by its name: what it means -/
def Df (P : Program) (w : World) (K : PySem.W.Frag) (mg : Str → Option Value) (base : Heap) (k : Nat) (x : Str) (ps : List Str) (m : Fn) : Prop :=
  ∃ f fd, mg x = some (.ref f) ∧ PySem.W.keepIn K (.ref f) = true ∧ Binds K fd ps [] ∧ FnG P w K mg base k f fd ps (spF K mg m)
abbrev WOf (E : XK) : WX := fun cls d _ H => E cls d H
/-- a function object's code -/
def CodeAt (K : PySem.W.Frag) (f : Addr) (cdv : Value) : Prop := ∃ (oc : Value) (od : Option Addr) (fd : FuncData) (osl : Array (Option Value)), K.lookup f = some ⟨oc, od, .func fd, osl⟩ ∧ fd.code = cdv
section
variable {P : Program} {w : World} {K : PySem.W.Frag} {mg : Str → Option Value} {base : Heap} {x : Str} {st : Stmt} {f : Addr} {fd : FuncData} {N ps : List Str} {k : Nat}
/-- a def of the text runs -/
theorem run_def (F : FnP K x st f fd) (S : FnScope N ps (defScope st)) {A : Around} {outer : List Env} {s : Shared} {H : Hp} {args : Args} {us : List Value} {vs : List V} {Q : VK} {E : XK} (len : vs.length = ps.length) (hr : RoomG (k + 1) A)
    (e0 : Env0 P w K mg base A outer s H) (hbd : BindsTo s fd args (ps.zip us)) (r : Vals vs us)
    (hb : ∀ cdv : Value, CodeAt K f cdv → RoomG k (A.deeper (PyProof.Rows.envOfC x (defScope st) s.heap.objs.size f cdv)) →
      ∃ t, PSs (cxOf (L2.CX P w) P w K mg base N x (defScope st) f cdv A outer s H E) (defBody st) t ∧ t { nx := fun _ H' => Q .non H', rt := Q } (start N vs) H) :
    codeAny (model P w) A (.call (.ref f) args) (CR (L2.CX P w) outer P w H s Q E) s := by
  obtain ⟨oc, od, dV, kV, doc, pm, an, cdv, ct, osl, rfl, lk, hcd, -, -⟩ := F.ex
  have old : ∀ b o, base.get? b = some o → s.heap.get? b = some o := fun b o e => (e0.bs b o e).1
  have KX : K.In s.heap := e0.mod.kin.keeps old
  have kinds : ∀ y ∈ ps.zip us, (defScope st).names.lookup y.1 = some .local ∨ ((defScope st).names.lookup y.1 = some .cell ∧ ((cellsFrom (s.heap.objs.size + 1) (defScope st).names []).lookup y.1).isSome = true) := by
    rintro ⟨n, v⟩ hy
    exact (S.par n (List.of_mem_zip hy).1).imp id fun q => ⟨q, PySem.W.cellsFrom_some _ _ _ (.inl q)⟩
  refine codeAny_call_function hr.r.depth (KX _ _ lk) rfl S.co S.gen rfl (PySem.W.codeRec_of KX hcd) (hbd _ _ _ _ (wpAny_newFunctionEnv_cells S.kind kinds ?_))
  rintro env rfl s1 x1
  refine ⟨(e0.mod.nolimit.keeps old).keeps x1.toInCall.keep, codeAny_func ?_⟩
  obtain ⟨t, ht, hq⟩ := hb cdv ⟨_, _, _, _, lk, rfl⟩ (hr.deeper _)
  have I := inv_start (CX := L2.CX P w) (E := E) S hr.r.hd e0 len r x1
  refine wpAny_mono (ht.run [] s1 (start N vs) H _ I hq) ?_ fun _ _ z => z
  intro fl s' hs
  cases fl with
  | ret u =>
    obtain ⟨v, σ', H', J, rv, q⟩ := hs
    exact ⟨v, H', J.os, J.bare, J.base, J.hok, rv, q⟩
  | next =>
    obtain ⟨σ', H', J, q⟩ := hs
    exact ⟨.non, H', J.os, J.bare, J.base, J.hok, rfl, q⟩
  | brk => exact hs.elim fun _ z => z.elim fun _ z => z.2.elim
  | cont => exact hs.elim fun _ z => z.elim fun _ z => z.2.elim
theorem spF_len {vs : List V} {H : Hp} {Q : VK} {E : XK} {n N : Nat} {body : Sv} (h : spF K mg (mkF n N body) vs H Q E) : vs.length = n := by
  obtain ⟨φ, h, as, sm, rv, q⟩ := h
  unfold mkF at q
  split at q
  · rename_i hl
    rw [rv.length]
    exact hl
  · exact q.elim
/-- a def's body, entered -/
theorem enter_body {cdv : Value} {A : Around} {outer : List Env} {s : Shared} {H : Hp} {vs : List V} {Q : VK} {E : XK} {n : Nat} {body : Sv} (hE : ESs (cxOf (L2.CX P w) P w K mg base N x (defScope st) f cdv A outer s H E) (WOf E) (defBody st) body) (h : spF K mg (mkF n N.length body) vs H Q E) :
    ∃ t, PSs (cxOf (L2.CX P w) P w K mg base N x (defScope st) f cdv A outer s H E) (defBody st) t ∧ t { nx := fun _ H' => Q .non H', rt := Q } (start N vs) H := by
  obtain ⟨φ, h, as, sm, rv, q⟩ := h
  refine ⟨_, hE, φ, h, enter N.length as, sm, enter_ok N rv, ?_⟩
  unfold mkF at q
  split at q
  · revert q
    show PoX K mg φ h H (retF h.length (body (enter N.length as) h)) Q E → _
    cases body (enter N.length as) h with
    | rt v h' => exact fun q x H' φ' st sm' rv => trunc_ok sm st sm' rv q
    | nx ρ' h' => exact fun q σ' H' φ' st sm' er => trunc_ok (v := .d .none) sm st sm' Rep.non q
    | ex c fs ρ' h' =>
      intro q cls dd σ' H' φ' st sm' er xr
      obtain ⟨c1, c2⟩ := sm'.cut st.pre sm.len
      have st2 : Stay H' (Live φ' h') H' (Live φ (h'.take h.length)) := fun a u q _ nl => ⟨q, fun l => nl (c2 a l)⟩
      exact q cls dd H' φ ⟨List.prefix_refl _, st.st.trans st2⟩ c1 ⟨xr.cl, xr.no, fun z => by
        obtain ⟨a, vs, e1, e2, e3, e4⟩ := xr.yes z
        exact ⟨a, vs, e1, e2, fun l => e3 (c2 a l), e4.stay st2⟩⟩
    | bk ρ' h' => exact fun q => q.elim
    | ct ρ' h' => exact fun q => q.elim
    | no => exact fun q => q.elim
  · exact q.elim
theorem fnOk_of {body : Sv} (F : FnP K x st f fd) (S : FnScope N ps (defScope st))
    (hb : ∀ (cdv : Value) (A : Around) (outer : List Env) (s : Shared) (H : Hp) (E : XK), CodeAt K f cdv → RoomG k (A.deeper (PyProof.Rows.envOfC x (defScope st) s.heap.objs.size f cdv)) → ESs (cxOf (L2.CX P w) P w K mg base N x (defScope st) f cdv A outer s H E) (WOf E) (defBody st) body) :
    FnG P w K mg base (k + 1) f fd ps (spF K mg (mkF ps.length N.length body)) :=
  ⟨fun _ _ _ _ h => spF_len h, fun A outer s H args us vs Q E hr e0 hbd r h => run_def F S (spF_len h) hr e0 hbd r fun cdv hc hr' => enter_body (hb cdv A outer s H E hc hr') h⟩
end
theorem cx_no {P : Program} {w : World} {outer : List Env} (H : Hp) (s : Shared) (e : Value) (s' : Shared) (h : L2.CX P w outer H s (fun _ _ _ => False) e s') : False := by
  obtain ⟨_, _, _, _, _, _, _, _, _, _, _, _, z⟩ := h
  exact z
theorem df_of {P : Program} {w : World} {K : PySem.W.Frag} {mg : Str → Option Value} {base : Heap} {x : Str} {st : Stmt} {f : Addr} {fd : FuncData} {N ps : List Str} {k kk NN : Nat} {body : Sv} (F : FnP K x st f fd) (g : mg x = some (.ref f)) (S : FnScope N ps (defScope st)) (e1 : ps.length = kk) (e2 : N.length = NN)
    (b : ∀ (dV kV doc pm : Value) (an : Option Addr) (cdv ct : Value) (us : List Value), us.length = ps.length → bindArgs (PySem.W.fnOf x x (defArgs st) (defBody st) (defScope st) .none kV doc pm an cdv ct) ⟨us, []⟩ = pure (ps.zip us))
    (hb : ∀ (cdv : Value) (A : Around) (outer : List Env) (s : Shared) (H : Hp) (E : XK), RoomG k (A.deeper (PyProof.Rows.envOfC x (defScope st) s.heap.objs.size f cdv)) → ESs (cxOf (L2.CX P w) P w K mg base N x (defScope st) f cdv A outer s H E) (WOf E) (defBody st) body) :
    Df P w K mg base (k + 1) x ps (mkF kk NN body) := by
  subst e1 e2
  exact ⟨f, fd, g, F.kp, FunD.bindsN F fun kV doc pm an cdv ct us hl => b .none kV doc pm an cdv ct us hl, fnOk_of F S fun cdv A outer s H E _ => hb cdv A outer s H E⟩
/-- the maker of lambdas: where its code object and that one's table stand -/
structure LamT (K : PySem.W.Frag) (mg : Str → Option Value) (base : Heap) (x : Str) (c P : Addr) : Prop where
  at_ : PySem.W.tabIn K x = some (c, P)
  tb : LamX.TabB base mg c P
  cd : ∀ f cdv, mg x = some (.ref f) → CodeAt K f cdv → cdv = .ref c
theorem law_ofT {P : Program} {w : World} {K : PySem.W.Frag} {mg : Str → Option Value} {base : Heap} {x : Str} {st : Stmt} {f : Addr} {fd : FuncData} {N ps : List Str} {k kk NN : Nat} {body : Sv} {c pt : Addr} (T : LamT K mg base x c pt) (g : mg x = some (.ref f)) (F : FnP K x st f fd) (S : FnScope N ps (defScope st)) (e1 : ps.length = kk) (e2 : N.length = NN)
    (hb : ∀ (A : Around) (outer : List Env) (s : Shared) (H : Hp) (E : XK), RoomG k (A.deeper (PyProof.Rows.envOfC x (defScope st) s.heap.objs.size f (.ref c))) → ESs (cxOf (L2.CX P w) P w K mg base N x (defScope st) f (.ref c) A outer s H E) (WOf E) (defBody st) body) :
    FnG P w K mg base (k + 1) f fd ps (spF K mg (mkF kk NN body)) := by
  subst e1 e2
  refine fnOk_of F S fun cdv A outer s H E hc hr => ?_
  have e := T.cd f cdv g hc
  subst e
  exact hb A outer s H E hr
/-! ### in a def's body -/
section
variable {P : Program} {w : World} {K : PySem.W.Frag} {mg : Str → Option Value} {base : Heap} {N : List Str} {x : Str} {sc : Scope} {f : Addr} {cdv : Value} {A : Around} {outer : List Env} {s : Shared} {H : Hp} {E : XK}
theorem tk_of : Takes (cxOf (L2.CX P w) P w K mg base N x sc f cdv A outer s H E) (WOf E) := takes_of rfl rfl rfl rfl
theorem po_of : PassesOwn (model (cxOf (L2.CX P w) P w K mg base N x sc f cdv A outer s H E).prog (cxOf (L2.CX P w) P w K mg base N x sc f cdv A outer s H E).w) (cxOf (L2.CX P w) P w K mg base N x sc f cdv A outer s H E).A (cxOf (L2.CX P w) P w K mg base N x sc f cdv A outer s H E).env (cxOf (L2.CX P w) P w K mg base N x sc f cdv A outer s H E).xe := passes_of rfl
end
theorem run_G {X : Cx} {k : Nat} {f : Addr} {fd : FuncData} {ps : List Str} {sp : Sp} {E : L2.St → XK} {pins : List (Addr × Obj)} {σ : L2.St} {H : Hp} {s : Shared} {Q : VK} {us : List Value} {vs : List V} (F : FnG X.prog X.w X.K X.mg X.base k f fd ps sp) (hr : RoomG k X.A) (hb : Binds X.K fd ps [])
    (hx : PassesAt (L2.CX X.prog X.w) X σ (E σ)) (I : Inv X pins σ H s) (r : Vals vs us) (h : sp vs H Q (E σ)) : wpAny (model X.prog X.w) X.A (call (.ref f) us) (EP X pins σ Q) X.xe s := by
  have b := hb s us I.kIn (by rw [List.append_nil, ← r.length]; exact F.len _ _ _ _ h)
  rw [List.append_nil] at b
  refine wpAny_call (codeAny_mono (F.run X.A X.stack s H ⟨us, []⟩ us vs Q (E σ) hr I.env0 b r h) ?_)
  intro r s' hq
  match r, hq with
  | .error e, hq => exact hx pins H s e s' I hq
  | .ok (.ret u), hq => exact I.after hq
/-- a call of a def by its name -/
theorem ec {X : Cx} {W : WX} {k j : Nat} {y : Str} {ps : List Str} {m : Fn} {e : Expr} {es : List Expr} {fs : Av} {p pos : Pos} (D : Df X.prog X.w X.K X.mg X.base k y ps m) (hr : RoomG j X.A) (tk : Takes X W) (ha : EA X W (e :: es) fs) (hkj : k ≤ j := by decide) (hg : Gl X y := by rfl)
    (hdb : (y == ("__debug__" : Str)) = false := by decide) (he : starEach (e :: es) X.env = (false, eval e X.env) :: starEach es X.env := by rfl) (hpl : (backTo pos (starEach es X.env)).any (·.1) = false := by rfl) :
    EE X W (.Call (.Name y p) (e :: es) [] pos) (eCall m fs) := by
  obtain ⟨f, fd, g, kp, b, F⟩ := D
  have rd : PE X (.Call (.Name y p) (e :: es) [] pos) (tCallS (spF X.K X.mg m) (fun σ => WE W σ) (tA X.K X.mg W fs)) := by
    constructor
    intro pins s σ H Q I h
    refine wpAny_Call_Name_kw (ld_glob I hg g (PySem.W.callWith_K (h₀ := X.base) I.ok.mod.kin kp (thn (ha.run pos pins s σ H _ I h) ?_) he hpl) hdb)
    rintro us s1 ⟨vs, H1, I1, r, q⟩
    exact ⟨I1.kIn, run_G (E := fun σ => WE W σ) F (hr.mono hkj) b (passAt tk σ) I1 r q⟩
  exact PE.of rd fun σ H Q ⟨φ, h, ρ, sm, er, q⟩ => ⟨φ, h, ρ, sm, er, PoX.goA q fun xs vs h1 H1 φ1 st sm1 rvs q1 => ⟨φ1, h1, vs, sm1, rvs, q1⟩⟩
/-! ### constants of the top -/
def GConst (K : PySem.W.Frag) (mg : Str → Option Value) (x : Str) (d : Da) : Prop := ∃ v u, mg x = some u ∧ RelV v u ∧ KRep K v d
theorem eg {X : Cx} {W : WX} {y : Str} {d : Da} {pos : Pos} (c : GConst X.K X.mg y d) (hg : Gl X y := by rfl) (hd : (y == ("__debug__" : Str)) = false := by decide) : EE X W (.Name y pos) (eD d) := by
  obtain ⟨v, u, h1, h2, h3⟩ := c
  exact ee_glob hg h1 h2 h3 hd
mutual
theorem cB_ok {K : PySem.W.Frag} : ∀ {d : Da} {u : Value}, cB K d u = true → ∃ v, RelV v u ∧ KRep K v d
  | .none, .none, _ => ⟨.non, rfl, fun _ _ => .non⟩
  | .bool b, .bool c, h => by
    have e : b = c := by
      unfold cB at h
      exact eq_of_beq h
    subst e
    exact ⟨.bl b, rfl, fun _ _ => .bl b⟩
  | .int i, .int j t, h => by
    have e : i = j := by
      unfold cB at h
      exact of_decide_eq_true h
    subst e
    exact ⟨.int i, ⟨t, rfl⟩, fun _ _ => .int i⟩
  | .str i, .str j t, h => by
    have e : i = j := by
      unfold cB at h
      exact of_decide_eq_true h
    subst e
    exact ⟨.str i, ⟨t, rfl⟩, fun _ _ => .str i⟩
  | .tuple ds, .ref a, h => by
    unfold cB at h
    split at h
    · rename_i c dd its n sl q
      rw [Bool.and_eq_true, Bool.and_eq_true] at h
      obtain ⟨h1, h2, h3⟩ := h
      obtain ⟨vs, r1, r2⟩ := cBs_ok h3
      exact ⟨.ref a, rfl, fun H M => .tupK ⟨_, its, n, q, congrArg Value.type (of_decide_eq_true h1), rfl, of_decide_eq_true h2, r1⟩ (r2 H M)⟩
    · cases h
theorem cBs_ok {K : PySem.W.Frag} : ∀ {ds : List Da} {us : List Value}, cBs K ds us = true → ∃ vs, Vals vs us ∧ ∀ H M, Reps K H M vs ds
  | [], [], _ => ⟨[], .nil, fun _ _ => .nil⟩
  | d :: ds, u :: us, h => by
    unfold cBs at h
    rw [Bool.and_eq_true] at h
    obtain ⟨v, r1, r2⟩ := cB_ok h.1
    obtain ⟨vs, s1, s2⟩ := cBs_ok h.2
    exact ⟨v :: vs, .cons r1 s1, fun H M => .cons (r2 H M) (s2 H M)⟩
end
theorem gB_ok {K : PySem.W.Frag} {h : Heap} {mg : Str → Option Value} (X : K.In h) (G : h.Ns mainGlobals mg) {x : Str} {d : Da} (c : gB K x d = true) : GConst K mg x d := by
  unfold gB at c
  split at c
  · rename_i u e
    obtain ⟨v, r1, r2⟩ := cB_ok c
    exact ⟨v, u, PySem.W.mg_of X G e, r1, r2⟩
  · cases c
/-! ### the Hook -/
def obsR (n : Nat) (fa : List He.Fa) (fn : List He.DefD) (ex : PySem.W.Frag → Bool) (g : Addr → Option Obj) : AlR := (He.obsD fa fn (He.frG g (asN g n [mainGlobals] ++ [cStatics])), ex (He.frG g (asN g n [mainGlobals] ++ [cStatics])))
def hookR (n : Nat) (fa : List He.Fa) (fn : List He.DefD) (ex : PySem.W.Frag → Bool) : PySem.W.Hook where
  α := AlR
  obs := fun s => obsR n fa fn ex s.heap.get?
  val := fun _ => (He.valD fn, true)
  says := fun _ h => ∃ K : PySem.W.Frag, K.In h ∧ SaysR fa fn ex K
  of := fun _ _ e => ⟨_, He.frG_in, congrArg (fun z : AlR => z.1) e, congrArg (fun z : AlR => z.2) e⟩
  keeps := fun _ _ _ ⟨K, hK, c⟩ k => ⟨K, PySem.W.Frag.In.keeps hK k, c⟩
end Rk
namespace Rk
open PySem PySem.Spec L2 PyProof.Rows
/-- the script's abstract heap: nothing but the script, as it stands -/
def scrH (a : Addr) (vs : List Value) (ns : List Int) : Hp := fun b => if b = a then some (.frz { cls := .type "list", data := .seq vs.toArray } (.lst (ns.map V.int))) else none
end Rk

/-! Rk8: reckoning with meanings. -/
namespace Rk
open PySem PySem.Spec L2
/-! ### places of written tuples -/
section
variable {a0 a1 a2 a3 a4 a5 a6 : Da} {r : List Da} {h : Hh}
theorem atI_get0 {α : Type} {xs : List α} {k : Nat} {v : α} (e : xs[k]? = some v) : atI xs (k : Int) = some v := L2.atI_nat e
theorem gIx_nat {xs : List Da} {k : Nat} {v : Da} (e : xs[k]? = some v) : gIx (.d (.tuple xs)) (.d (.int (k : Int))) h = some (.d v, h) := by
  unfold gIx
  dsimp only
  rw [atI_get0 e]
  rfl
theorem ix0 : gIx (.d (.tuple (a0 :: r))) (.d (.int 0)) h = some (.d a0, h) := gIx_nat (k := 0) rfl
theorem ix1 : gIx (.d (.tuple (a0 :: a1 :: r))) (.d (.int 1)) h = some (.d a1, h) := gIx_nat (k := 1) rfl
theorem ix2 : gIx (.d (.tuple (a0 :: a1 :: a2 :: r))) (.d (.int 2)) h = some (.d a2, h) := gIx_nat (k := 2) rfl
theorem ix3 : gIx (.d (.tuple (a0 :: a1 :: a2 :: a3 :: r))) (.d (.int 3)) h = some (.d a3, h) := gIx_nat (k := 3) rfl
theorem ix4 : gIx (.d (.tuple (a0 :: a1 :: a2 :: a3 :: a4 :: r))) (.d (.int 4)) h = some (.d a4, h) := gIx_nat (k := 4) rfl
theorem ix5 : gIx (.d (.tuple (a0 :: a1 :: a2 :: a3 :: a4 :: a5 :: r))) (.d (.int 5)) h = some (.d a5, h) := gIx_nat (k := 5) rfl
theorem gIxF {xs : List Da} {k : Nat} {v : Da} (ev : xs[k]? = some v) : gIx (.d (.list xs)) (.d (.int (k : Int))) h = some (.d v, h) := by
  unfold gIx asL
  dsimp only
  rw [atI_get0 ev]
  rfl
end
/-! ### one step each -/
section
variable {ρ : En} {h h1 : Hh} {v w : Vl} {f g : Ev} {i : Nat} {a b : Int}
theorem eD_eq {d : Da} : eD d ρ h = .ok (.d d) h := rfl
theorem fAdd_eq : fAdd a b = some (.int (a + b)) := rfl
theorem fSub_eq : fSub a b = some (.int (a - b)) := rfl
theorem fMul_eq (h : IntMulOk a b) : fMul a b = some (.int (a * b)) := if_pos h
theorem fDiv_eq (h0 : b ≠ 0) (h1 : Builtin.divisionGoesByPylong a b = false) : fDiv a b = some (.int (a.fdiv b)) := if_pos ⟨h0, h1⟩
theorem fMod_eq (h0 : b ≠ 0) : fMod a b = some (.int (a.fmod b)) := if_pos h0
theorem fLt_eq : fLt a b = some (.bool (decide (a < b))) := rfl
theorem fLe_eq : fLe a b = some (.bool (decide (a ≤ b))) := rfl
theorem fGt_eq : fGt a b = some (.bool (decide (b < a))) := rfl
theorem fGe_eq : fGe a b = some (.bool (decide (b ≤ a))) := rfl
theorem gInt_eq {F : Int → Int → Option Da} : gInt F (.d (.int a)) (.d (.int b)) h = (F a b).map fun z => (.d z, h) := rfl
theorem gAdd_int : gAdd (.d (.int a)) (.d (.int b)) h = some (.d (.int (a + b)), h) := rfl
theorem gAbs_eq : gAbs [.d (.int a)] h = some (.d (.int (if a < 0 then -a else a)), h) := rfl
theorem truO_b {b : Bool} : truO (.d (.bool b)) h = .ok b h := rfl
theorem fzs_nil : fzs [] h = some ([], h) := rfl
theorem fzs_d {x : Da} {vs : List Vl} : fzs (.d x :: vs) h = (fzs vs h).map fun q => (x :: q.1, q.2) := rfl
theorem So.then_nx {f : Sv} : (So.nx ρ h).then f = f ρ h := rfl
theorem So.then_rt {f : Sv} : (So.rt v h).then f = .rt v h := rfl
end
/-! ### sizes -/
/-- below 2 ^ n in size -/
def Bd (n : Nat) (x : Int) : Prop := x.natAbs < 2 ^ n
theorem Bd.mono {n m : Nat} {x : Int} (h : Bd n x) (hl : n ≤ m) : Bd m x := Nat.lt_of_lt_of_le h (Nat.pow_le_pow_right (by decide) hl)
theorem Bd.mul {n m : Nat} {x y : Int} (hx : Bd n x) (hy : Bd m y) : Bd (n + m) (x * y) := by
  unfold Bd at *
  rw [Int.natAbs_mul, Nat.pow_add]
  exact Nat.mul_lt_mul'' hx hy
theorem Bd.add {n m : Nat} {x y : Int} (hx : Bd n x) (hy : Bd m y) : Bd (max n m + 1) (x + y) := by
  have h1 := hx.mono (Nat.le_max_left n m)
  have h2 := hy.mono (Nat.le_max_right n m)
  unfold Bd at *
  rw [Nat.pow_succ]
  omega
theorem Bd.neg {n : Nat} {x : Int} (hx : Bd n x) : Bd n (-x) := by
  unfold Bd at *
  omega
theorem Bd.sub {n m : Nat} {x y : Int} (hx : Bd n x) (hy : Bd m y) : Bd (max n m + 1) (x - y) := by
  rw [Int.sub_eq_add_neg]
  exact hx.add hy.neg
theorem Bd.of {n : Nat} {x : Int} (m : Nat) (h : x.natAbs ≤ m) (hm : m < 2 ^ n) : Bd n x := Nat.lt_of_le_of_lt h hm
theorem Bd.le {n : Nat} {x y : Int} (hy : Bd n y) (h : x.natAbs ≤ y.natAbs) : Bd n x := Nat.lt_of_le_of_lt h hy
theorem bits_le {n : Nat} {x : Int} (h : Bd n x) : Builtin.Int.intBits x ≤ n := by
  unfold Builtin.Int.intBits
  split
  · exact Nat.zero_le _
  · rename_i hx
    have h0 : x.natAbs ≠ 0 := fun z => hx (by simp; omega)
    exact (Nat.log2_lt h0).mpr h
theorem Bd.mulOk {n m : Nat} {x y : Int} (hx : Bd n x) (hy : Bd m y) (h : n + m ≤ 134217728) : IntMulOk x y := by
  have h1 := bits_le hx
  have h2 := bits_le hy
  have e : bitsLine = 134217728 := by decide
  unfold IntMulOk
  intro z
  rw [Bool.and_eq_true] at z
  have z2 := z.2
  unfold Builtin.Int.intTooBig at z2
  have z3 := of_decide_eq_true z2
  rw [e] at z3
  omega
theorem mulOk_small {x y : Int} (h : Bd 64 x) : IntMulOk x y := IntMulOk.of_left (bits_le h)
theorem mulOk_smallR {x y : Int} (h : Bd 64 y) : IntMulOk x y := IntMulOk.of_right (bits_le h)
theorem Bd.divOk {n : Nat} {x y : Int} (hy : Bd n y) (h0 : 0 < n) (h : n ≤ 9000) : Builtin.divisionGoesByPylong x y = false := PyProof.noPylong_of_log2 (by
  rcases Nat.eq_zero_or_pos y.natAbs with z | z
  · rw [z]; decide
  · exact (Nat.log2_lt (Nat.ne_of_gt z)).mpr (Nat.lt_of_lt_of_le hy (Nat.pow_le_pow_right (by decide) h)))
/-! ### fractions -/
/-- a fraction's data -/
def Q (r : Rat) : Da := .tuple [.int r.num, .int r.den]
theorem abs_eq (a : Int) : (if a < 0 then -a else a) = (a.natAbs : Int) := by
  split <;> omega
theorem fmod_nat (x y : Nat) : Int.fmod (x : Int) (y : Int) = ((x % y : Nat) : Int) := by
  rw [Int.fmod_eq_emod_of_nonneg _ (by omega)]
  rfl
/-- above and below, parted by the greatest common part with below's sign -/
theorem divInt_parts {x y : Int} (hy : y ≠ 0) : x.fdiv (if y < 0 then 0 - (Int.gcd x y : Int) else (Int.gcd x y : Int)) = (Rat.divInt x y).num ∧
    y.fdiv (if y < 0 then 0 - (Int.gcd x y : Int) else (Int.gcd x y : Int)) = ((Rat.divInt x y).den : Int) := by
  have hg : 0 < Int.gcd x y := Nat.pos_of_ne_zero fun z => hy (Int.gcd_eq_zero_iff.mp z).2
  have dx : (Int.gcd x y : Int) ∣ x := Int.gcd_dvd_left ..
  have dy : (Int.gcd x y : Int) ∣ y := Int.gcd_dvd_right ..
  rw [Rat.num_divInt, Rat.den_divInt, if_neg hy, Int.gcd_comm y x]
  obtain ⟨k, ek⟩ := dx
  obtain ⟨l, el⟩ := dy
  generalize hG : (Int.gcd x y : Int) = G at *
  have hG0 : 0 < G := by omega
  have hGn : G ≠ 0 := by omega
  have fx : ∀ s : Int, s ≠ 0 → ∀ z : Int, (s * z).fdiv s = z := fun s hs z => by
    rw [Int.mul_comm]
    exact Int.mul_fdiv_cancel _ hs
  by_cases hn : y < 0
  · rw [if_pos hn]
    have hs : y.sign = -1 := Int.sign_eq_neg_one_of_neg hn
    have e1 : x.fdiv (0 - G) = -k := by
      have : x = (0 - G) * (-k) := by rw [ek]; grind
      rw [this]
      exact fx _ (by omega) _
    have e2 : y.fdiv (0 - G) = -l := by
      have : y = (0 - G) * (-l) := by rw [el]; grind
      rw [this]
      exact fx _ (by omega) _
    refine ⟨?_, ?_⟩
    · rw [e1, hs, ek, show (-1 : Int) * (G * k) = G * (-k) by grind, Int.mul_ediv_cancel_left _ hGn]
    · rw [e2]
      have : (y.natAbs : Int) = G * (-l) := by
        have : (y.natAbs : Int) = -y := by omega
        rw [this, el]; grind
      rw [Int.natCast_ediv, this, hG, Int.mul_ediv_cancel_left _ hGn]
  · rw [if_neg hn]
    have hs : y.sign = 1 := Int.sign_eq_one_of_pos (by omega)
    have e1 : x.fdiv G = k := by rw [ek]; exact fx _ hGn _
    have e2 : y.fdiv G = l := by
      have : y.fdiv G = (G * l).fdiv G := by rw [← el]
      rw [this]; exact fx _ hGn _
    refine ⟨?_, ?_⟩
    · rw [e1, hs, ek, Int.one_mul, Int.mul_ediv_cancel_left _ hGn]
    · rw [e2]
      have : (y.natAbs : Int) = G * l := by
        have : (y.natAbs : Int) = y := by omega
        rw [this]; exact el
      rw [Int.natCast_ediv, this, hG, Int.mul_ediv_cancel_left _ hGn]
theorem bd_num {n : Nat} {x y : Int} (h : Bd n x) : Bd n (Rat.divInt x y).num := by
  rw [Rat.num_divInt]
  refine h.le ?_
  have h1 : (y.sign * x / (Int.gcd y x : Int)).natAbs ≤ (y.sign * x).natAbs := Int.natAbs_ediv_le_natAbs _ _
  rw [Int.natAbs_mul] at h1
  have h2 : y.sign.natAbs ≤ 1 := by
    rcases Int.lt_trichotomy y 0 with z | z | z
    · rw [Int.sign_eq_neg_one_of_neg z]; decide
    · rw [z]; decide
    · rw [Int.sign_eq_one_of_pos z]; decide
  have h3 : y.sign.natAbs * x.natAbs ≤ 1 * x.natAbs := Nat.mul_le_mul_right _ h2
  omega
theorem bd_den {n : Nat} {x y : Int} (h : Bd n y) (h0 : 0 < n) : Bd n ((Rat.divInt x y).den : Int) := by
  rw [Rat.den_divInt]
  split
  · exact Nat.one_lt_two_pow (by omega)
  · exact h.le (by rw [Int.natAbs_natCast]; exact Nat.div_le_self _ _)
end Rk
namespace Rk
open PySem PySem.Spec L2
/-- a fraction's numbers below 2 ^ n -/
def BQ (n : Nat) (r : Rat) : Prop := Bd n r.num ∧ Bd n (r.den : Int)
theorem BQ.mono {n m : Nat} {r : Rat} (h : BQ n r) (hl : n ≤ m) : BQ m r := ⟨h.1.mono hl, h.2.mono hl⟩
theorem den_ne (r : Rat) : (r.den : Int) ≠ 0 := by
  have := r.den_nz
  omega
theorem den_pos (r : Rat) : (0 : Int) < (r.den : Int) := by
  have := r.den_nz
  omega
theorem add_divInt (r s : Rat) : Rat.divInt (r.num * s.den + s.num * r.den) (r.den * s.den) = r + s := by
  rw [Rat.add_def', ← Int.natCast_mul, Rat.divInt_ofNat]
theorem sub_divInt (r s : Rat) : Rat.divInt (r.num * s.den - s.num * r.den) (r.den * s.den) = r - s := by
  rw [Rat.sub_def', ← Int.natCast_mul, Rat.divInt_ofNat]
theorem mul_divInt (r s : Rat) : Rat.divInt (r.num * s.num) (r.den * s.den) = r * s := by
  rw [Rat.mul_def', ← Int.natCast_mul, Rat.divInt_ofNat]
theorem div_divInt (r s : Rat) : Rat.divInt (r.num * s.den) (r.den * s.num) = r / s := by
  rw [← Rat.divInt_mul_divInt, Rat.num_divInt_den, ← Rat.inv_divInt, Rat.num_divInt_den, Rat.div_def]
theorem BQ.add {n m : Nat} {r s : Rat} (hr : BQ n r) (hs : BQ m s) (h0 : 0 < n + m) : BQ (n + m + 1) (r + s) := by
  rw [← add_divInt]
  refine ⟨bd_num ?_, bd_den ((hr.2.mul hs.2).mono (Nat.le_succ _)) (Nat.succ_pos _)⟩
  exact ((hr.1.mul hs.2).add (hs.1.mul hr.2)).mono (by omega)
theorem BQ.sub {n m : Nat} {r s : Rat} (hr : BQ n r) (hs : BQ m s) (h0 : 0 < n + m) : BQ (n + m + 1) (r - s) := by
  rw [← sub_divInt]
  refine ⟨bd_num ?_, bd_den ((hr.2.mul hs.2).mono (Nat.le_succ _)) (Nat.succ_pos _)⟩
  exact ((hr.1.mul hs.2).sub (hs.1.mul hr.2)).mono (by omega)
theorem BQ.mul {n m : Nat} {r s : Rat} (hr : BQ n r) (hs : BQ m s) (h0 : 0 < n + m) : BQ (n + m) (r * s) := by
  rw [← mul_divInt]
  exact ⟨bd_num (hr.1.mul hs.1), bd_den (hr.2.mul hs.2) h0⟩
theorem BQ.div {n m : Nat} {r s : Rat} (hr : BQ n r) (hs : BQ m s) (h0 : 0 < n + m) : BQ (n + m) (r / s) := by
  rw [← div_divInt]
  exact ⟨bd_num (hr.1.mul hs.2), bd_den (hr.2.mul hs.1) h0⟩
theorem BQ.neg {n : Nat} {r : Rat} (hr : BQ n r) : BQ n (-r) := ⟨by rw [Rat.neg_num]; exact hr.1.neg, by rw [Rat.neg_den]; exact hr.2⟩
theorem Q_neg (r : Rat) : Q (-r) = .tuple [.int (0 - r.num), .int r.den] := by
  unfold Q
  rw [Rat.neg_num, Rat.neg_den, Int.zero_sub]
theorem Q_abs (r : Rat) : Q r.abs = .tuple [.int (r.num.natAbs : Int), .int r.den] := by
  unfold Q Rat.abs
  split
  · rename_i h
    have : 0 ≤ r.num := Rat.num_nonneg.mpr h
    rw [show (r.num.natAbs : Int) = r.num by omega]
  · rename_i h
    have : ¬ 0 ≤ r.num := fun z => h (Rat.num_nonneg.mp z)
    rw [Rat.neg_num, Rat.neg_den, show (r.num.natAbs : Int) = -r.num by omega]
theorem lt_num (r s : Rat) : (r.num * s.den < s.num * r.den) ↔ r < s := by
  rw [Rat.lt_iff]
end Rk
namespace Rk
open PySem PySem.Spec L2
theorem sh_int (a : Int) : sh (.int a) = true := by
  simp [sh, SeqAt.shaped, PyData.hasDict, PyData.hasDictAll, PyData.canLay0, PyData.depth]
theorem sh_Q (r : Rat) : sh (Q r) = true := by
  simp [Q, sh, SeqAt.shaped, PyData.hasDict, PyData.hasDictAll, PyData.canLay0, PyData.canLayAll0, PyData.depth, PyData.depthAll]
theorem eqv_int (a b : Int) : PyData.eqv (.int a) (.int b) = decide (a = b) := by
  show (a == b) = decide (a = b)
  by_cases e : a = b <;> simp [e]
theorem eqv_bool (a b : Bool) : PyData.eqv (.bool a) (.bool b) = decide (a = b) := by
  cases a <;> cases b <;> rfl
theorem sh_bool (a : Bool) : sh (.bool a) = true := by
  simp [sh, SeqAt.shaped, PyData.hasDict, PyData.hasDictAll, PyData.canLay0, PyData.depth]
theorem eqv_Q (r s : Rat) : PyData.eqv (Q r) (Q s) = decide (r = s) := by
  have e : (r = s) ↔ (r.num = s.num ∧ r.den = s.den) := ⟨fun z => by rw [z]; exact ⟨rfl, rfl⟩, fun ⟨z1, z2⟩ => Rat.ext z1 z2⟩
  simp only [Q, PyData.eqv, PyData.eqvAll]
  by_cases h1 : r.num = s.num <;> by_cases h2 : r.den = s.den <;> simp [e, h1, h2] <;> omega
section
variable {h : Hh}
theorem gEq_int {a b : Int} : gEq (.d (.int a)) (.d (.int b)) h = some (.d (.bool (decide (a = b))), h) := by
  simp [gEq, asD, eqvB, sh_int, eqv_int]
theorem gNe_int {a b : Int} : gNe (.d (.int a)) (.d (.int b)) h = some (.d (.bool (!decide (a = b))), h) := by
  simp [gNe, asD, eqvB, sh_int, eqv_int]
theorem gEq_Q {r s : Rat} : gEq (.d (Q r)) (.d (Q s)) h = some (.d (.bool (decide (r = s))), h) := by
  show (eqvB (Q r) (Q s)).map (fun z => (Vl.d (.bool z), h)) = _
  simp [eqvB, sh_Q, eqv_Q]
theorem gEq_bool {a b : Bool} : gEq (.d (.bool a)) (.d (.bool b)) h = some (.d (.bool (decide (a = b))), h) := by
  simp [gEq, asD, eqvB, sh_bool, eqv_bool]
end
theorem bd_nat {n : Nat} {a : Nat} (h : a < 2 ^ n) : Bd n (a : Int) := by
  unfold Bd
  rw [Int.natAbs_natCast]
  exact h
theorem zpow_neg_nat (b : Rat) (n : Nat) : b ^ (-(n : Int)) = (b ^ n)⁻¹ := by
  rw [Rat.zpow_neg, Rat.zpow_natCast]
theorem Q_pow (b : Nat) (n : Nat) : Q ((b : Rat) ^ (n : Int)) = .tuple [.int ((b ^ n : Nat) : Int), .int 1] := by
  unfold Q
  rw [Rat.zpow_natCast, Rat.num_pow, Rat.den_pow]
  simp
theorem Q_powneg (b : Nat) (n : Nat) (hb : 0 < b) : Q ((b : Rat) ^ (-(n : Int))) = .tuple [.int 1, .int ((b ^ n : Nat) : Int)] := by
  have hp : 0 < b ^ n := Nat.pow_pos hb
  have e : (b : Rat) ^ (-(n : Int)) = Rat.divInt 1 ((b ^ n : Nat) : Int) := by
    rw [zpow_neg_nat, show ((b : Rat) ^ n) = Rat.divInt ((b ^ n : Nat) : Int) 1 by rw [← Rat.natCast_pow]; exact (Rat.num_divInt_den ((b ^ n : Nat) : Rat)).symm, Rat.inv_divInt]
  unfold Q
  rw [e, Rat.num_divInt, Rat.den_divInt, if_neg (by omega)]
  have hs : ((b ^ n : Nat) : Int).sign = 1 := Int.sign_eq_one_of_pos (by omega)
  rw [hs]
  simp
end Rk
namespace Rk
open PySem PySem.Spec L2
/-! ### a law's stream: four places -/
def Strm (K : Nat) (xs : List Da) : Prop := ∃ (c : Bool) (x : Int) (k : Nat) (m : Int), xs = [.bool c, .int x, .int (k : Int), .int m] ∧ k ≤ K
section
variable {h : Hh} {n : Nat} {a b c d : Da} {ρ : En}
theorem get_set {o : Option Ob} (hn : n < h.length) : (h.set n o)[n]? = some o := List.getElem?_set_self hn
end
theorem bd_lit {n : Nat} {x : Int} (m : Nat) (h1 : -(m : Int) ≤ x) (h2 : x ≤ m) (hm : m < 2 ^ n) : Bd n x := Nat.lt_of_le_of_lt (by omega) hm
end Rk
namespace Rk
open PySem PySem.Spec L2
theorem set_app {h : Hh} {n : Nat} {o : Option Ob} {l : Hh} (hn : n < h.length) : (h ++ l).set n o = h.set n o ++ l := by
  rw [List.set_append, if_pos hn]
theorem get_app {h : Hh} {n : Nat} {l : Hh} (hn : n < h.length) : (h ++ l)[n]? = h[n]? := List.getElem?_append_left hn
end Rk
namespace Rk
open PySem PySem.Spec L2
section
variable {r : Rat} {h : Hh} {ρ : En} {g : Gs}
theorem gTupT_tup {n : Nat} {ds : List Da} : gTupT n g (.d (.tuple ds)) ρ h = if ds.length = n then g (ds.map Vl.d) ρ h else none := rfl
theorem gTupT_Q : gTupT 2 g (.d (Q r)) ρ h = g [.d (.int r.num), .d (.int r.den)] ρ h := rfl
theorem ixQ0 : gIx (.d (Q r)) (.d (.int 0)) h = some (.d (.int r.num), h) := ix0
theorem ixQ1 : gIx (.d (Q r)) (.d (.int 1)) h = some (.d (.int r.den), h) := ix1
theorem isQ_tup : isTyD .tuple (Q r) = some true := rfl
theorem isQ_bool : isTyD .bool (Q r) = some false := rfl
theorem isQ_int : isTyD .int (Q r) = some false := rfl
theorem isI_bool {i : Int} : isTyD .bool (.int i) = some false := rfl
theorem isI_int {i : Int} : isTyD .int (.int i) = some true := rfl
theorem isI_tup {i : Int} : isTyD .tuple (.int i) = some false := rfl
theorem isB_bool {i : Bool} : isTyD .bool (.bool i) = some true := rfl
theorem isB_int {i : Bool} : isTyD .int (.bool i) = some true := rfl
theorem isTy_d {T : Ty} {x : Da} : isTy T (.d x) h = isTyD T x := rfl
end
end Rk
namespace Rk
open PySem PySem.Spec L2
section
variable {a0 a1 a2 : Da} {l : List Da} {h : Hh}
theorem get_end {o : Option Ob} : (h ++ [o])[h.length]? = some o := by simp
end
end Rk
namespace Rk
end Rk
namespace Rk
open PySem PySem.Spec L2
end Rk

/-! Rk9: rulers, by numbers alone; loops' steps. -/
namespace Rk
open PySem PySem.Spec L2
theorem set_at {h l : Hh} {a b : Option Ob} : (h ++ a :: l).set h.length b = h ++ b :: l := by
  rw [List.set_append, if_neg (by omega)]
  simp
theorem get_at {h l : Hh} {a : Option Ob} : (h ++ a :: l)[h.length]? = some a := by simp
/-! ### powers -/
structure Ruler where
  b : Nat
  f : Nat
  l : Int
  w : String
def Ruler.da (R : Ruler) : Da := .tuple [.int R.b, .int R.f, .int R.l, .str R.w]
structure Ruler.Ok (R : Ruler) : Prop where
  b2 : 2 ≤ R.b
  b16 : R.b ≤ 16
  f1 : 1 ≤ R.f
  f24 : R.f ≤ 24
  l1 : -100 ≤ R.l
  l2 : R.l ≤ 100
  w4 : R.w = "near" ∨ R.w = "down" ∨ R.w = "up" ∨ R.w = "nought"
def Ruler.pw (R : Ruler) (e : Int) : Rat := (R.b : Rat) ^ e
section
variable {R : Ruler} (O : R.Ok)
include O
theorem pw_pos (e : Int) : 0 < R.pw e := Rat.zpow_pos (by
  have h : ((0 : Nat) : Rat) < (R.b : Rat) := Rat.natCast_lt_natCast.mpr (by have := O.b2; omega)
  exact h)
theorem pw_ne (e : Int) : R.pw e ≠ 0 := fun z => by
  have := pw_pos O e
  rw [z] at this
  exact absurd this (by decide)
theorem BQ_pw {E : Nat} {e : Int} (h : e.natAbs ≤ E) : BQ (4 * E + 1) (R.pw e) := by
  have hb : R.b ^ e.natAbs < 2 ^ (4 * E + 1) := by
    refine Nat.lt_of_le_of_lt (Nat.pow_le_pow_left O.b16 _) ?_
    rw [show (16 : Nat) = 2 ^ 4 from rfl, ← Nat.pow_mul]
    exact Nat.pow_lt_pow_right (by decide) (by omega)
  have h1 : Bd (4 * E + 1) 1 := Nat.one_lt_two_pow (by omega)
  rcases Int.le_total 0 e with z | z
  · have q := Q_pow R.b e.natAbs
    rw [show ((e.natAbs : Nat) : Int) = e by omega] at q
    injection q with q
    injection q with q1 q2
    injection q2 with q2
    injection q1 with q1
    injection q2 with q2
    refine ⟨?_, ?_⟩
    · show Bd _ ((R.b : Rat) ^ e).num
      rw [q1]
      exact bd_nat hb
    · show Bd _ (((R.b : Rat) ^ e).den : Int)
      rw [q2]
      exact h1
  · have q := Q_powneg R.b e.natAbs (by have := O.b2; omega)
    rw [show -((e.natAbs : Nat) : Int) = e by omega] at q
    injection q with q
    injection q with q1 q2
    injection q2 with q2
    injection q1 with q1
    injection q2 with q2
    refine ⟨?_, ?_⟩
    · show Bd _ ((R.b : Rat) ^ e).num
      rw [q1]
      exact h1
    · show Bd _ (((R.b : Rat) ^ e).den : Int)
      rw [q2]
      exact bd_nat hb
omit O in
theorem BQ.abs {n : Nat} {r : Rat} (h : BQ n r) : BQ n r.abs := by
  unfold Rat.abs
  split
  · exact h
  · exact h.neg
end
/-! ### places -/
def IsPlc (R : Ruler) (x : Rat) (p : Int) : Prop := R.l ≤ p ∧ x.abs < R.pw (p + R.f) ∧ (p = R.l ∨ R.pw (p - 1 + R.f) ≤ x.abs)
noncomputable def Ruler.plc (R : Ruler) (x : Rat) : Int := Classical.epsilon (IsPlc R x)
section
variable {R : Ruler} (O : R.Ok)
include O
end
end Rk
namespace Rk
end Rk
namespace Rk
end Rk

/-! Rk10: list comprehensions, append. -/
namespace Rk
open PySem PySem.Spec L2
variable {mg : Str → Option Value}
def wipeE (ρ : En) : List Nat → En
  | [] => ρ
  | v :: vs => (wipeE ρ vs).set v none
theorem ERep.setN {K : PySem.W.Frag} {φ : List Addr} {h : Hh} {H : Hp} {σ : L2.St} {ρ : En} (i : Nat) (r : ERep K mg φ h H σ ρ) : ERep K mg φ h H (σ.set i none) (ρ.set i none) := by
  refine ⟨by rw [List.length_set, List.length_set, r.len], fun j w e => ?_⟩
  by_cases hj : i = j
  · subst hj
    have hl : i < ρ.length := by
      have := (List.getElem?_eq_some_iff.mp e).1
      rwa [List.length_set] at this
    rw [List.getElem?_set_self hl] at e
    cases e
  · rw [List.getElem?_set_ne hj] at e
    rw [List.getElem?_set_ne hj]
    exact r.at_ j w e
theorem ERep.wipe {K : PySem.W.Frag} {φ : List Addr} {h : Hh} {H : Hp} {σ : L2.St} {ρ : En} (r : ERep K mg φ h H σ ρ) : ∀ vs : List Nat, ERep K mg φ h H (L2.wipe σ vs) (wipeE ρ vs)
  | [] => r
  | v :: vs => (ERep.wipe r vs).setN v
theorem wipe_get (σ : L2.St) (j : Nat) : ∀ vs : List Nat, (L2.wipe σ vs)[j]? = if j ∈ vs then (if j < σ.length then some none else none) else σ[j]?
  | [] => by simp [L2.wipe]
  | v :: vs => by
    unfold L2.wipe
    have ih := wipe_get σ j vs
    have hl := L2.wipe_length σ vs
    by_cases hj : v = j
    · subst hj
      by_cases hv : v < σ.length
      · rw [List.getElem?_set_self (by rw [hl]; exact hv)]
        simp [hv]
      · rw [List.getElem?_eq_none (by simp; omega)]
        simp [hv]
    · rw [List.getElem?_set_ne hj, ih]
      have : j ∈ v :: vs ↔ j ∈ vs := by
        rw [List.mem_cons]
        exact ⟨fun z => z.elim (fun z => absurd z.symm hj) id, .inr⟩
      simp only [this]
theorem wipe_set {σ : L2.St} {i : Nat} {o : Option V} {vs : List Nat} (hi : i ∈ vs) : L2.wipe (σ.set i o) vs = L2.wipe σ vs := by
  apply List.ext_getElem?
  intro j
  rw [wipe_get, wipe_get, List.length_set]
  by_cases hj : j ∈ vs
  · simp [hj]
  · have : i ≠ j := fun z => hj (z ▸ hi)
    simp [hj, List.getElem?_set_ne this]
/-! ### a block's targets -/
def tGw (K : PySem.W.Frag) (mg : Str → Option Value) (vs : List Nat) (g : Gv) : TG := fun x σ H Q => ∃ φ h ρ v ρ' h', Sim K φ h H ∧ ERep K mg φ h H σ ρ ∧ VRep K mg φ h H x v ∧ g v ρ h = some (ρ', h') ∧ ∀ σ' H' φ', Step φ h H φ' h' H' → Sim K φ' h' H' → ERep K mg φ' h' H' σ' ρ' → L2.wipe σ' vs = L2.wipe σ vs → Q σ' H'
def tGsw (K : PySem.W.Frag) (mg : Str → Option Value) (ws : List Nat) (g : Gs) : TGs := fun xs σ H Q => ∃ φ h ρ vs ρ' h', Sim K φ h H ∧ ERep K mg φ h H σ ρ ∧ VReps K mg φ h H xs vs ∧ g vs ρ h = some (ρ', h') ∧ ∀ σ' H' φ', Step φ h H φ' h' H' → Sim K φ' h' H' → ERep K mg φ' h' H' σ' ρ' → L2.wipe σ' ws = L2.wipe σ ws → Q σ' H'
def EGw (X : Cx) (vs : List Nat) (tg : Expr) (g : Gv) : Prop := PG X tg (tGw X.K X.mg vs g)
def EGsw (X : Cx) (vs : List Nat) (tg : List Expr) (g : Gs) : Prop := PGs X tg (tGsw X.K X.mg vs g)
section
variable {X : Cx} {pos : Pos} {ws : List Nat}
theorem egw_name {i : Nat} {x : Str} (hN : X.N.Nodup) (hw : i ∈ ws := by decide) (hi : X.N[i]? = some x := by rfl) (hx : Loc X.env.scope x := by first | exact .inl rfl | exact .inr rfl) (hf : X.fn x = true ∨ X.env.scope.names.lookup x = some .local := by first | exact .inl rfl | exact .inr rfl | assumption) : EGw X ws (.Name x pos) (gN i) :=
  PG.of (pg_name (i := i) hN hi hx hf) fun x σ H Q ⟨φ, h, ρ, v, ρ', h', sm, er, rv, e, k⟩ => by
    cases e
    exact k _ H φ (Step.refl _ _ _) sm (er.set rv) (wipe_set hw)
theorem egsw_nil : EGsw X ws [] gsNil := PGs.of pgs_nil fun xs σ H Q ⟨φ, h, ρ, vs, ρ', h', sm, er, rv, e, k⟩ => by
  cases rv with
  | nil =>
    cases e
    exact ⟨rfl, k _ H φ (Step.refl _ _ _) sm er rfl⟩
  | cons _ _ => cases e
theorem egsw_cons {e : Expr} {es : List Expr} {g : Gv} {gs : Gs} (h1 : EGw X ws e g) (h2 : EGsw X ws es gs)
    (hs : (assignEach (e :: es) X.env).map (·.2) = assign e X.env :: (assignEach es X.env).map (·.2) := by rfl) : EGsw X ws (e :: es) (gsCons g gs) :=
  PGs.of (pgs_cons h1 h2 hs) fun xs σ H Q ⟨φ, h, ρ, vs, ρ', h', sm, er, rv, e, k⟩ => by
    cases rv with
    | nil => cases e
    | @cons x xs v vs r t =>
      have e' : ((g v ρ h).bind fun p => gs vs p.1 p.2) = some (ρ', h') := e
      cases q : g v ρ h with
      | none => rw [q] at e'; cases e'
      | some p =>
        obtain ⟨ρ1, h1⟩ := p
        rw [q] at e'
        exact ⟨x, xs, rfl, φ, h, ρ, v, ρ1, h1, sm, er, r, q, fun σ1 H1 φ1 st sm1 er1 w1 => ⟨φ1, h1, ρ1, vs, ρ', h', sm1, er1, t.step st, e', fun σ2 H2 φ2 st2 sm2 er2 w2 => k σ2 H2 φ2 (st.trans st2) sm2 er2 (w2.trans w1)⟩⟩
theorem egw_tup {es : List Expr} {k n : Nat} {gs : Gs} (hc : X.calm = true) (h : EGsw X ws es gs) (hn : (assignEach es X.env).length = n := by rfl) (hst : (assignEach es X.env).findIdx? (·.1) = none := by rfl) : EGw X ws (.Tuple es k pos) (gTupT n gs) :=
  PG.of (pg_tup hc h hn hst) fun x σ H Q ⟨φ, h, ρ, v, ρ', h', sm, er, rv, e, k⟩ => by
    unfold gTupT at e
    split at e
    · rename_i ds
      split at e
      · obtain ⟨a, xs, rfl, sq, rs⟩ := VRep.tup rv
        exact ⟨a, xs, rfl, sq, by rw [rs.length]; assumption, φ, h, ρ, _, ρ', h', sm, er, rs.vreps, e, k⟩
      · cases e
    · cases e
end
/-! ### append -/
def appL (D : Nat) (v : Vl) (h : Hh) : Option Hh := (fz v h).bind fun p => match p.2[D]? with
  | some (some (.lst xs)) => if fitB (xs.length + 1) = true then some (p.2.set D (some (.lst (xs ++ [p.1])))) else none
  | _ => none
theorem Reps.snoc {K : PySem.W.Frag} {H : Hp} {M : Addr → Prop} : ∀ {xs : List V} {ds : List Da} {x : V} {d : Da}, Reps K H M xs ds → Rep K H M x d → Reps K H M (xs ++ [x]) (ds ++ [d])
  | _, _, _, _, .nil, r => .cons r .nil
  | _, _, _, _, .cons a t, r => .cons a (Reps.snoc t r)
theorem appL_ok {K : PySem.W.Frag} {φ : List Addr} {h h' : Hh} {H : Hp} {D : Nat} {a : Addr} {z : V} {v : Vl} (sm : Sim K φ h H) (ea : φ[D]? = some a) (rz : VRep K mg φ h H z v) (e : appL D v h = some h') :
    ∃ acc, H a = some (.lst acc) ∧ acc.length < sizeLine ∧ Step φ h H φ h' (upd H a (.lst (acc ++ [z]))) ∧ Sim K φ h' (upd H a (.lst (acc ++ [z]))) := by
  unfold appL at e
  cases ef : fz v h with
  | none => rw [ef] at e; cases e
  | some p =>
    obtain ⟨d, h1⟩ := p
    rw [ef] at e
    dsimp only [Option.bind_some] at e
    obtain ⟨s1, s2, s3⟩ := fz_ok sm rz ef
    split at e
    · rename_i xs en
      split at e
      · rename_i ft
        cases e
        obtain ⟨ys, eh, rs⟩ := s2.at_ en ea
        obtain ⟨t1, t2⟩ := s2.write (ob := .lst (xs ++ [d])) (u := .lst (ys ++ [z])) en ea fun M st => ⟨_, upd_same, Reps.snoc (rs.stay st) (s3.stay st)⟩
        refine ⟨ys, eh, ?_, s1.trans t1, t2⟩
        have := fitB_le ft
        rw [rs.length]
        omega
      · cases e
    · cases e
/-! ### comprehensions -/
def tvYes : Tv := fun _ h => .ok true h
def ETs (X : Cx) (W : WX) (es : List Expr) (f : Tv) : Prop := PTs X es (tT X.K X.mg W f)
theorem PTs.of {X : Cx} {es : List Expr} {t t' : TT} (h : PTs X es t) (i : ∀ σ H Q, t' σ H Q → t σ H Q) : PTs X es t' := ⟨fun pins s σ H Q I w => h.run pins s σ H Q I (i σ H Q w)⟩
theorem ets_nil {X : Cx} {W : WX} : ETs X W [] tvYes := PTs.of pts_nil fun σ H Q ⟨φ, h, ρ, sm, er, q⟩ => q H φ (Step.refl _ _ _) sm
theorem ets_one {X : Cx} {W : WX} {c : Expr} {t : Tv} (h : ET X W c t) : ETs X W [c] t := pts_one h
open Classical in
noncomputable def lcL (gd : Option (Nat × List Da)) (D : Nat) (g : Gv) (tt : Tv) (fe : Ev) (ρ0 : En) : List Da → Hh → Out Vl
  | [], h => if gdOk gd h then .ok (.r D) h else .no
  | d :: ds, h => if gdOk gd h then (match g (.d d) ρ0 h with
      | none => .no
      | some p => match tt p.1 p.2 with
        | .ok true h2 => (match fe p.1 h2 with
          | .ok v h3 => (match appL D v h3 with
            | some h4 => lcL gd D g tt fe ρ0 ds h4
            | none => .no)
          | _ => .no)
        | .ok false h2 => lcL gd D g tt fe ρ0 ds h2
        | _ => .no) else .no
noncomputable def eLc (vs : List Nat) (i : Iv) (g : Gv) (tt : Tv) (fe : Ev) : Ev := fun ρ h => (i ρ h).bind fun m h1 => lcL m.gd h1.length g tt fe (wipeE ρ vs) m.ds (h1 ++ [some (.lst [])])
abbrev WF : WX := fun _ _ _ _ => False
theorem lc_ok {K : PySem.W.Frag} {mg : Str → Option Value} {J : It} {m : Itm} {G : List Addr → Hh → Hp → Prop} (ok : ItOk K J m G) {g : Gv} {tt : Tv} {fe : Ev} {vs : List Nat} {φ : List Addr} {h : Hh} {H : Hp} {σ : L2.St} {ρ : En} {Q : VK} {E : XK} (sm : Sim K φ h H) (er : ERep K mg φ h H σ ρ) (gg : G φ h H)
    (q : PoX K mg φ h H (lcL m.gd h.length g tt fe (wipeE ρ vs) m.ds (h ++ [some (.lst [])])) Q E) (D : Addr) (nd : H D = none) : ∃ W' : Nat → Nat → Hp → Prop, (∃ n, W' 0 n (upd H D (.lst []))) ∧ ∀ i n H, W' i n H →
      (J.stop i H ∧ Q (.ref D) H) ∨ (J.go i H ∧ ∃ Nx : Hp → Prop, (∀ H', Nx H' → ∃ m', m' < n ∧ W' (i + 1) m' H') ∧ ∀ x H', J.yld i H x H' → tGw K mg vs g x (L2.wipe σ vs) H' fun σ2 H2 => L2.wipe σ2 vs = L2.wipe σ vs ∧ tT K mg WF tt σ2 H2 fun b H3 => if b = true then tE K mg WF fe σ2 H3 fun y H4 => ∃ acc, H4 D = some (.lst acc) ∧ acc.length < sizeLine ∧ Nx (upd H4 D (.lst (acc ++ [y]))) else Nx H3) := by
  obtain ⟨n1, n2, n3⟩ := sm.new (mg := mg) (ob := .lst []) (o := .lst []) nd fun M st => ⟨[], upd_same, .nil⟩
  have jD : (φ ++ [D])[h.length]? = some D := by
    rw [← sm.len]
    simp
  generalize h.length = j at *
  refine ⟨fun i n H => n = m.ds.length - i ∧ ∃ φ h, Sim K φ h H ∧ φ[j]? = some D ∧ ERep K mg φ h H (L2.wipe σ vs) (wipeE ρ vs) ∧ G φ h H ∧ PoX K mg φ h H (lcL m.gd j g tt fe (wipeE ρ vs) (m.ds.drop i) h) Q E, ⟨_, rfl, φ ++ [D], h ++ [some (.lst [])], n2, jD, (er.step n1).wipe vs, ok.keep _ _ _ _ _ _ gg n1, by rw [List.drop_zero]; exact PoX.pull n1 q⟩, ?_⟩
  rintro i n H ⟨rfl, φ, h, sm, jD, er, gg, q⟩
  cases ed : m.ds.drop i with
  | nil =>
    rw [ed] at q
    unfold lcL at q
    split at q
    · rename_i gd
      exact .inl ⟨ok.stop φ h H i sm gg gd (List.drop_eq_nil_iff.mp ed), q _ H φ (Step.refl _ _ _) sm ⟨D, jD, rfl⟩⟩
    · exact q.elim
  | cons d ds =>
    have hi : i < m.ds.length := by
      rcases Nat.lt_or_ge i m.ds.length with z | z
      · exact z
      · rw [List.drop_eq_nil_of_le z] at ed; cases ed
    have e1 : m.ds[i]? = some d := by
      have := List.getElem?_drop (xs := m.ds) (i := i) (j := 0)
      rw [ed] at this
      simpa using this.symm
    have e2 : m.ds.drop (i + 1) = ds := by
      have := List.drop_drop (i := 1) (j := i) (l := m.ds)
      rw [ed] at this
      simpa using this.symm
    rw [ed] at q
    unfold lcL at q
    split at q
    · rename_i gd
      refine .inr ⟨ok.go φ h H i sm gg gd hi, fun H' => ∃ φ h, Sim K φ h H' ∧ φ[j]? = some D ∧ ERep K mg φ h H' (L2.wipe σ vs) (wipeE ρ vs) ∧ G φ h H' ∧ PoX K mg φ h H' (lcL m.gd j g tt fe (wipeE ρ vs) ds h) Q E, fun H' hN => ?_, fun x H' hy => ?_⟩
      · obtain ⟨φ', h', a1, a2, a3, a4, a5⟩ := hN
        exact ⟨m.ds.length - (i + 1), by omega, rfl, φ', h', a1, a2, a3, a4, by rw [e2]; exact a5⟩
      · obtain ⟨s1, s2, s3⟩ := ok.yld φ h H i x H' d sm gg gd e1 hy
        have q' := PoX.pull s1 q
        have gg' := ok.keep _ _ _ _ _ _ gg s1
        have er' := er.step s1
        cases eg : g (.d d) (wipeE ρ vs) h with
        | none => rw [eg] at q'; exact q'.elim
        | some p =>
          obtain ⟨ρ1, h1⟩ := p
          rw [eg] at q'
          refine ⟨φ, h, _, .d d, ρ1, h1, s2, er', s3, eg, fun σ2 H2 φ2 st2 sm2 er2 w2 => ⟨by
            have idm : L2.wipe (L2.wipe σ vs) vs = L2.wipe σ vs := by
              apply List.ext_getElem?
              intro k
              rw [wipe_get, wipe_get, L2.wipe_length]
              by_cases hk : k ∈ vs <;> simp [hk]
            rw [w2, idm], φ2, h1, ρ1, sm2, er2, ?_⟩⟩
          have q2 := PoX.pull st2 q'
          have gg2 := ok.keep _ _ _ _ _ _ gg' st2
          have er3 := er'.step st2
          have jD2 := pre_get st2.pre jD
          dsimp only at q2
          revert q2
          cases tt ρ1 h1 with
          | no => exact fun q2 => q2
          | ex c fs h2 => exact fun q2 => q2.elim
          | ok b h2 =>
            intro q2 H3 φ3 st3 sm3
            have q3 := PoX.pull st3 q2
            have gg3 := ok.keep _ _ _ _ _ _ gg2 st3
            have jD3 := pre_get st3.pre jD2
            cases b with
            | false =>
              rw [if_neg (by decide)]
              exact ⟨φ3, h2, sm3, jD3, er3.step st3, gg3, q3⟩
            | true =>
              rw [if_pos rfl]
              refine ⟨φ3, h2, ρ1, sm3, er2.step st3, ?_⟩
              dsimp only at q3
              revert q3
              cases fe ρ1 h2 with
              | no => exact fun q3 => q3
              | ex c fs h3 => exact fun q3 => q3.elim
              | ok v h3 =>
                intro q3 y H4 φ4 st4 sm4 rv
                have q4 := PoX.pull st4 q3
                have gg4 := ok.keep _ _ _ _ _ _ gg3 st4
                have jD4 := pre_get st4.pre jD3
                dsimp only at q4
                cases ea : appL j v h3 with
                | none => rw [ea] at q4; exact q4.elim
                | some h4 =>
                  rw [ea] at q4
                  obtain ⟨acc, a1, a2, a3, a4⟩ := appL_ok sm4 jD4 rv ea
                  exact ⟨acc, a1, a2, φ4, h4, a4, jD4, ((er3.step st3).step st4).step a3, ok.keep _ _ _ _ _ _ gg4 a3, PoX.pull a3 q4⟩
    · exact q.elim
section
variable {X : Cx} {W : WX} {elt tg iter : Expr} {ifs : List Expr} {scope : Scope} {own : List (Str × Nat)} {pos spos py : Pos} {fi : Iv} {g : Gv} {tt : Tv} {fe : Ev}
theorem lc_read {σ : L2.St} {H : Hp} {Q : VK} {ws : List Nat} (hw : ws = own.map (·.2)) (t : tE X.K X.mg W (eLc ws fi g tt fe) σ H Q) : tLc (tI X.K X.mg W fi) (tGw X.K X.mg ws g) (tT X.K X.mg WF tt) (tE X.K X.mg WF fe) (own.map (·.2)) σ H Q := by
  subst hw
  obtain ⟨φ, h, ρ, sm, er, q⟩ := t
  refine ⟨φ, h, ρ, sm, er, ?_⟩
  unfold eLc at q
  revert q
  cases fi ρ h with
  | ok m h1 => exact fun q J H1 φ1 G st sm1 ok gg D nd => lc_ok ok sm1 (er.step st) gg (PoX.pull st q) D nd
  | ex c fs h1 => exact fun q => q
  | no => exact fun q => q
theorem ee_lc (ws : List Nat) (own : List (Str × Nat)) (hc : X.calm = true) (hN : X.N.Nodup) (hi : EI X W tg iter fi) (ok : BlkOk X.N X.env.scope scope own)
    (hg : ∀ (s : Shared) (H : Hp) (C : Addr) (cl : List (Str × Addr)) (fp : List Addr), EGw (X.blk s H scope (compEnvC scope cl C X.env) fp) ws tg g)
    (ht : ∀ (s : Shared) (H : Hp) (C : Addr) (cl : List (Str × Addr)) (fp : List Addr), ETs (X.blk s H scope (compEnvC scope cl C X.env) fp) WF ifs tt)
    (he : ∀ (s : Shared) (H : Hp) (C : Addr) (cl : List (Str × Addr)) (fp : List Addr), EE (X.blk s H scope (compEnvC scope cl C X.env) fp) WF elt fe)
    (hw : ws = own.map (·.2) := by rfl) (hs : ∀ x, foldedSetIterable iter X.env x = pure x := by intro _; rfl) : EE X W (.ListComp elt [⟨tg, iter, ifs, 0⟩] scope pos) (eLc ws fi g tt fe) :=
  PE.of (pe_lc (own := own) (g := tGw X.K X.mg ws g) (tt := tT X.K X.mg WF tt) (te := tE X.K X.mg WF fe) hc hN hi ok hg ht he hs) fun σ H Q t => lc_read hw t
theorem es_setLc {i : Nat} {y : Str} (ws : List Nat) (own : List (Str × Nat)) (hc : X.calm = true) (hN : X.N.Nodup) (hi : EI X W tg iter fi) (ok : BlkOk X.N X.env.scope scope own)
    (hg : ∀ (s : Shared) (H : Hp) (C : Addr) (cl : List (Str × Addr)) (fp : List Addr), EGw (X.blk s H scope (compEnvC scope cl C X.env) fp) ws tg g)
    (ht : ∀ (s : Shared) (H : Hp) (C : Addr) (cl : List (Str × Addr)) (fp : List Addr), ETs (X.blk s H scope (compEnvC scope cl C X.env) fp) WF ifs tt)
    (he : ∀ (s : Shared) (H : Hp) (C : Addr) (cl : List (Str × Addr)) (fp : List Addr), EE (X.blk s H scope (compEnvC scope cl C X.env) fp) WF elt fe)
    (hsw : swapsWith (.ListComp elt [⟨tg, iter, ifs, 0⟩] scope pos) (some (.Name y py)) spos.line X.env = pure true)
    (hy : X.N[i]? = some y := by rfl) (hyl : X.env.scope.names.lookup y = some .local := by rfl)
    (hw : ws = own.map (·.2) := by rfl) (hs : ∀ x, foldedSetIterable iter X.env x = pure x := by intro _; rfl) : ES X W (.Assign [.Name y py] (.ListComp elt [⟨tg, iter, ifs, 0⟩] scope pos) spos) (sSet i (eLc ws fi g tt fe)) :=
  PS.of (ps_setLc (i := i) (own := own) (g := tGw X.K X.mg ws g) (tt := tT X.K X.mg WF tt) (te := tE X.K X.mg WF fe) hc hN hy hyl hsw hi ok hg ht he hs) fun D σ H ⟨φ, h, ρ, sm, er, q⟩ => lc_read hw ⟨φ, h, ρ, sm, er, by
    unfold sSet at q
    revert q
    cases eLc ws fi g tt fe ρ h with
    | ok v h1 => exact fun q x H1 φ1 st sm1 rv => q _ H1 φ1 st sm1 ((er.step st).set rv)
    | ex c fs h1 => exact fun q cls dd H' φ' st sm' xr => q cls dd σ H' φ' st sm' (er.step st) xr
    | no => exact fun q => q⟩
end
theorem tk_blk {X : Cx} {s : Shared} {H : Hp} {scope : Scope} {e : Env} {fp : List Addr} : Takes (X.blk s H scope e fp) WF := fun u s' ⟨a, B, sI, pins, σ, H, cls, d, e, I, nb, up, sky, na, os, ag, w⟩ => w.elim
end Rk

/-! Rk11: methods of built-in types. -/
namespace Rk
open PySem PySem.Spec L2
variable {mg : Str → Option Value}
abbrev GM := Vl → List Vl → Hh → Option (Vl × Hh)
def eMt (ty : Vl → Hh → Bool) (g : GM) (o : Ev) (as : Av) : Ev := fun ρ h => (o ρ h).bind fun x h1 => if ty x h1 = true then (as ρ h1).bind fun vs h2 => ofO (g x vs h2) else .no
def TyOk (K : PySem.W.Frag) (mg : Str → Option Value) (T : String) (ty : Vl → Hh → Bool) : Prop := ∀ (φ : List Addr) (h : Hh) (H : Hp) (x : V) (v : Vl), Sim K φ h H → VRep K mg φ h H x v → ty v h = true → tyV K T x H
def OkM (K : PySem.W.Frag) (mg : Str → Option Value) (r : V → List V → Hp → VK → Prop) (g : GM) : Prop := ∀ (φ : List Addr) (h : Hh) (H : Hp) (x : V) (xs : List V) (o : Vl) (as : List Vl) (Q : VK) (v : Vl) (h' : Hh), Sim K φ h H → VRep K mg φ h H x o → VReps K mg φ h H xs as → g o as h = some (v, h') →
  (∀ z H' φ', Step φ h H φ' h' H' → Sim K φ' h' H' → VRep K mg φ' h' H' z v → Q z H') → r x xs H Q
def tyL (v : Vl) (h : Hh) : Bool := (asL v h).isSome
def tyS (v : Vl) (_ : Hh) : Bool := match v with
  | .d (.str _) => true
  | _ => false
section
variable {K : PySem.W.Frag}
theorem tyL_ok : TyOk K mg "list" tyL := fun φ h H x v sm r e => by
  unfold tyL at e
  cases q : asL v h with
  | none => rw [q] at e; cases e
  | some ds =>
    obtain ⟨a, xs, rfl, sq, _⟩ := asL_ok sm r q
    exact .inl ⟨rfl, xs, sq⟩
end
section
variable {X : Cx} {W : WX} {o e : Expr} {es : List Expr} {fo : Ev} {fs : Av} {apos cpos : Pos} {T : String} {name : Str} {id : String} {r : V → List V → Hp → VK → Prop} {ty : Vl → Hh → Bool} {g : GM}
theorem ee_mt (pa : PlainAttrs T) (slot : Slot T name id) (hty : typeOf (.builtin id) = pure (.type "method_descriptor")) (hm : MtR X id r) (tk : TyOk X.K X.mg T ty) (ok : OkM X.K X.mg r g) (ho : EE X W o fo) (ha : EA X W (e :: es) fs)
    (hbase : attributeBase o name X.env (eval o X.env) = eval o X.env := by rfl)
    (hfew : ((backTo cpos (starEach (e :: es) X.env)).all (fun x => !x.1) && (backToKw cpos (keywordEach [] X.env)).all (fun x => x.1.isSome)
      && decide ((e :: es).length + ([] : List Keyword).length + (if ([] : List Keyword).isEmpty then 0 else 1) < 30)) = true := by rfl)
    (hline : (apos.endLine == cpos.line) = true := by rfl) (hs : starEach (e :: es) X.env = (false, eval e X.env) :: starEach es X.env := by rfl) (hplain : (backTo cpos (starEach es X.env)).any (·.1) = false := by rfl) :
    EE X W (.Call (.Attribute o name apos) (e :: es) [] cpos) (eMt ty g fo fs) :=
  PE.of (pe_bm pa slot hty hm ho ha hbase hfew hline hs hplain) fun σ H Q ⟨φ, h, ρ, sm, er, q⟩ => ⟨φ, h, ρ, sm, er, PoX.goE q fun x v h1 H1 φ1 st sm1 rv q1 => by
    split at q1
    · rename_i ht
      refine ⟨tk _ _ _ _ _ sm1 rv ht, φ1, h1, ρ, sm1, er.step st, PoX.goA q1 fun xs vs h2 H2 φ2 st2 sm2 rvs q2 => ?_⟩
      obtain ⟨z, h3, e3, k⟩ := PoX.ofO q2
      exact ok φ2 h2 H2 x xs v vs Q z h3 sm2 (rv.step st2) rvs e3 k
    · exact q1.elim⟩
end
/-! ### lists' methods -/
def gApp : GM := fun o as h => match o, as with
  | .r n, [v] => (appL n v h).map fun h' => (.d .none, h')
  | _, _ => none
theorem ok_app {K : PySem.W.Frag} : OkM K mg rAppend gApp := by
  intro φ h H x xs o as Q v h' sm rx rs e k
  unfold gApp at e
  split at e
  · rename_i n w
    obtain ⟨y, rfl, ry⟩ := rs.one
    obtain ⟨a, ea, rfl⟩ := rx
    cases q : appL n w h with
    | none => rw [q] at e; cases e
    | some h1 =>
      rw [q] at e
      cases e
      obtain ⟨acc, a1, a2, a3, a4⟩ := appL_ok sm ea ry q
      exact ⟨a, acc, y, rfl, rfl, a1, a2, k _ _ _ a3 a4 Rep.non⟩
  · cases e
end Rk

/-! Rk12: rounding, by numbers alone. -/
namespace Rk
open PySem PySem.Spec L2
/-! ### whole and rest -/
theorem fl_lt (t : Rat) : t < (t.floor : Rat) + 1 := by
  have := Rat.lt_floor_add_one (a := t)
  rw [Rat.intCast_add] at this
  exact this
def upB (w : String) (t : Rat) : Bool :=
  if w = "near" then decide (1 < 2 * (t - (t.floor : Rat))) || (decide (2 * (t - (t.floor : Rat)) = 1) && decide (t.floor.fmod 2 = 1))
  else if w = "nought" then decide (t < 0) && decide (0 < t - (t.floor : Rat))
  else decide (w = "up") && decide (0 < t - (t.floor : Rat))
/-- the whole number that a way tells -/
def wb (w : String) (t : Rat) : Int := t.floor + (if upB w t = true then 1 else 0)
noncomputable def Ruler.stp (R : Ruler) (x : Rat) : Rat := R.pw (R.plc x)
noncomputable def Ruler.rnd (R : Ruler) (x : Rat) : Rat := (wb R.w (x / R.stp x) : Rat) * R.stp x
section
variable {R : Ruler} (O : R.Ok)
include O
end
end Rk
namespace Rk
open PySem PySem.Spec L2
end Rk
namespace Rk
open PySem PySem.Spec L2
end Rk
namespace Rk
open PySem PySem.Spec L2
theorem abs_mulP {a c : Rat} (hc : 0 < c) : (a * c).abs = a.abs * c := by
  unfold Rat.abs
  by_cases h : 0 ≤ a
  · rw [if_pos h, if_pos (Rat.mul_nonneg h (Rat.le_of_lt hc))]
  · have : ¬ 0 ≤ a * c := fun z => by
      have h2 := Rat.mul_lt_mul_of_pos_right (Rat.not_le.mp h) hc
      rw [Rat.zero_mul] at h2
      grind
    rw [if_neg h, if_neg this]
    grind
theorem BQ_int {n : Nat} {k : Int} (h : Bd n k) (h0 : 0 < n) : BQ n (k : Rat) := by
  refine ⟨?_, ?_⟩
  · rw [Rat.num_intCast]
    exact h
  · rw [Rat.den_intCast]
    exact Nat.one_lt_two_pow (by omega)
theorem bd_floor {n : Nat} {t : Rat} (h : BQ n t) : Bd n t.floor := by
  rw [Rat.floor_def]
  exact h.1.le (Int.natAbs_ediv_le_natAbs _ _)
/-! ### comprehensions step by step -/
section
variable {gd : Option (Nat × List Da)} {D : Nat} {g : Gv} {tt : Tv} {fe : Ev} {ρ0 ρ1 : En} {d : Da} {ds : List Da} {h h1 h2 h3 h4 : Hh} {v : Vl}
theorem lcL_nil (e : gdOk gd h) : lcL gd D g tt fe ρ0 [] h = .ok (.r D) h := by
  unfold lcL
  rw [if_pos e]
theorem lcL_cons (e : gdOk gd h) (eg : g (.d d) ρ0 h = some (ρ1, h1)) (et : tt ρ1 h1 = .ok true h2) (ef : fe ρ1 h2 = .ok v h3) (ea : appL D v h3 = some h4) : lcL gd D g tt fe ρ0 (d :: ds) h = lcL gd D g tt fe ρ0 ds h4 := by
  rw [lcL]
  rw [if_pos e, eg]
  dsimp only
  rw [et]
  dsimp only
  rw [ef]
  dsimp only
  rw [ea]
theorem lcL_skip (e : gdOk gd h) (eg : g (.d d) ρ0 h = some (ρ1, h1)) (et : tt ρ1 h1 = .ok false h2) : lcL gd D g tt fe ρ0 (d :: ds) h = lcL gd D g tt fe ρ0 ds h2 := by
  rw [lcL]
  rw [if_pos e, eg]
  dsimp only
  rw [et]
theorem appL_end {acc : List Da} {x : Da} {n : Nat} (hn : h.length = n) (hl : acc.length < 16777216) : appL n (.d x) (h ++ [some (.lst acc)]) = some (h ++ [some (.lst (acc ++ [x]))]) := by
  subst hn
  unfold appL fz
  dsimp only [Option.bind_some]
  rw [get_end]
  dsimp only
  rw [if_pos (fitB_ok (by omega)), set_at]
end
end Rk
namespace Rk
open PySem PySem.Spec L2
section
variable {h : Hh} {n : Nat} {l : List Da}
theorem asL_at (e : h[n]? = some (some (.lst l))) : asL (.r n) h = some l := by
  unfold asL
  dsimp only
  rw [e]
theorem tyL_at (e : h[n]? = some (some (.lst l))) : tyL (.r n) h = true := by
  unfold tyL
  rw [asL_at e]
  rfl
theorem gApp_at {d : Da} (e : h[n]? = some (some (.lst l))) (hl : l.length < 16777216) : gApp (.r n) [.d d] h = some (.d .none, h.set n (some (.lst (l ++ [d])))) := by
  unfold gApp appL fz
  dsimp only [Option.bind_some]
  rw [e]
  dsimp only
  rw [if_pos (fitB_ok (by omega))]
  rfl
end
end Rk
namespace Rk
end Rk
namespace Rk
open PySem PySem.Spec L2
def ways : List Da := [.str "near", .str "down", .str "up", .str "nought"]
end Rk

/-! Rk13: repr of data. -/
namespace Rk
open PySem PySem.Spec L2
variable {mg : Str → Option Value}
def rRepr (K : PySem.W.Frag) (xs : List V) (H : Hp) (Q : VK) : Prop := ∃ x d, xs = [x] ∧ Dp K H x d ∧ d.showable = true ∧ d.hasDict = false ∧ d.depth ≤ 60 ∧ d.shown.length ≤ sizeLine ∧ Q (.str d.shown) H
def gRepr : GC := fun as h => match as with
  | [x] => match asD x h with
    | some d => if d.showable && !d.hasDict && decide (d.depth ≤ 60) && fitB d.shown.length then some (.d (.str d.shown), h) else none
    | none => none
  | _ => none
end Rk

/-! Rk14: dicts. -/
namespace Rk
open PySem PySem.Spec L2
variable {mg : Str → Option Value}
def keyOf : Vl → Option Key
  | .d (.int i) => some (.inl i)
  | .d (.str x) => some (.inr x)
  | _ => none
def putD (kds : List (Key × Da)) (k : Key) (d : Da) : List (Key × Da) :=
  if (kds.any fun kv => decide (kv.1 = k)) = true then kds.map (fun kv => if kv.1 = k then (kv.1, d) else kv) else kds ++ [(k, d)]
section
variable {K : PySem.W.Frag}
theorem keyOf_ok {φ : List Addr} {h : Hh} {H : Hp} {y : V} {v : Vl} {k : Key} (r : VRep K mg φ h H y v) (e : keyOf v = some k) : y = kV k := by
  unfold keyOf at e
  split at e
  · cases e
    exact VRep.int r
  · cases e
    exact VRep.str r
  · cases e
section
variable {H : Hp} {M : Addr → Prop}
theorem KvRep.length : ∀ {vs : List (Key × V)} {ds : List (Key × Da)}, KvRep K H M vs ds → vs.length = ds.length
  | _, _, .nil => rfl
  | _, _, .cons _ t => by rw [List.length_cons, List.length_cons, KvRep.length t]
theorem KvRep.get : ∀ {vs : List (Key × V)} {ds : List (Key × Da)} {k : Key}, KvRep K H M vs ds → (valV vs k = none ∧ valD ds k = none) ∨ ∃ v d, valV vs k = some v ∧ valD ds k = some d ∧ Rep K H M v d
  | _, _, _, .nil => .inl ⟨rfl, rfl⟩
  | _, _, k, .cons (k := k0) (v := v) (d := d) r t => by
    by_cases e : k0 = k
    · refine .inr ⟨v, d, valV_pos e, ?_, r⟩
      simp [valD, List.find?_cons, e]
    · have e1 : ∀ l : List (Key × Da), valD ((k0, d) :: l) k = valD l k := fun l => by simp [valD, List.find?_cons, e]
      have e2 : ∀ l : List (Key × V), valV ((k0, v) :: l) k = valV l k := fun l => valV_neg (p := (k0, v)) e
      rw [e1, e2]
      exact KvRep.get t
theorem KvRep.any : ∀ {vs : List (Key × V)} {ds : List (Key × Da)} {k : Key}, KvRep K H M vs ds → (vs.any fun kv => decide (kv.1 = k)) = (ds.any fun kv => decide (kv.1 = k))
  | _, _, _, .nil => rfl
  | _, _, _, .cons r t => by rw [List.any_cons, List.any_cons, KvRep.any t]
theorem KvRep.map {k : Key} {v : V} {d : Da} (q : Rep K H M v d) : ∀ {vs : List (Key × V)} {ds : List (Key × Da)}, KvRep K H M vs ds → KvRep K H M (vs.map fun kv => if kv.1 = k then (kv.1, v) else kv) (ds.map fun kv => if kv.1 = k then (kv.1, d) else kv)
  | _, _, .nil => .nil
  | _, _, .cons (k := k0) r t => by
    rw [List.map_cons, List.map_cons]
    by_cases e : k0 = k
    · rw [if_pos e, if_pos e]
      exact .cons q (KvRep.map q t)
    · rw [if_neg e, if_neg e]
      exact .cons r (KvRep.map q t)
theorem KvRep.snoc {k : Key} {v : V} {d : Da} (q : Rep K H M v d) : ∀ {vs : List (Key × V)} {ds : List (Key × Da)}, KvRep K H M vs ds → KvRep K H M (vs ++ [(k, v)]) (ds ++ [(k, d)])
  | _, _, .nil => .cons q .nil
  | _, _, .cons r t => .cons r (KvRep.snoc q t)
theorem KvRep.put {k : Key} {v : V} {d : Da} (q : Rep K H M v d) {vs : List (Key × V)} {ds : List (Key × Da)} (r : KvRep K H M vs ds) : KvRep K H M (putK vs k v) (putD ds k d) := by
  unfold putK putD
  rw [r.any]
  split
  · exact r.map q
  · exact r.snoc q
end
theorem Sim.atD {φ : List Addr} {h : Hh} {H : Hp} {n : Nat} {a : Addr} {kds : List (Key × Da)} (sm : Sim K φ h H) (e : h[n]? = some (some (.dct kds))) (ea : φ[n]? = some a) : ∃ kvs, H a = some (.dK kvs) ∧ KvRep K H (Live φ h) kvs kds := by
  obtain ⟨b, e1, r⟩ := sm.ob n _ e
  rw [ea] at e1
  cases e1
  exact r
/-! ### d[k] -/
def gDG : G2 := fun x y h => match x, keyOf y with
  | .r n, some k => match h[n]? with
    | some (some (.dct kds)) => (valD kds k).map fun d => (.d d, h)
    | _ => none
  | _, _ => none
def rDG : R2 := fun x y H Q => ∃ a v, x = .ref a ∧ DGet H a y (some v) ∧ Q v H
theorem ok_dg : Ok2 K mg rDG gDG := by
  intro φ h H x y a b Q v h' sm rx ry e k
  unfold gDG at e
  split at e
  · rename_i n key ek
    split at e
    · rename_i kds en
      obtain ⟨p, ep, rfl⟩ := rx
      obtain ⟨kvs, eh, rk⟩ := sm.atD en ep
      rcases rk.get (k := key) with ⟨_, z⟩ | ⟨w, d, e1, e2, r⟩
      · rw [z] at e; cases e
      · rw [e2] at e
        cases e
        rw [keyOf_ok ry ek]
        refine ⟨p, w, rfl, ?_, k w H φ (Step.refl _ _ _) sm r⟩
        rw [← e1]
        exact DGet.k eh
    · cases e
  · cases e
/-- either -/
def gIy : G2 := fun x y h => match gDG x y h with
  | some r => some r
  | none => gIx x y h
end
section
variable {X : Cx} {W : WX} {a b : Expr} {fa fb : Ev} {pos : Pos}
theorem ee_dg (hu : X.A.units + 64 < cLine) (ha : EE X W a fa) (hb : EE X W b fb) (hs : NoSl b := by exact fun _ _ => rfl) : EE X W (.Subscript a b pos) (eOp gDG fa fb) :=
  PE.of (pe_dget (by omega) ha hb hs) fun σ H Q hf => tOp_ok (r := rDG) ok_dg hf
theorem PE.or {e : Expr} {t t' : TE} (h : PE X e t) (h' : PE X e t') : PE X e (fun σ H Q => t σ H Q ∨ t' σ H Q) := ⟨fun pins s σ H Q I w => w.elim (h.run pins s σ H Q I) (h'.run pins s σ H Q I)⟩
theorem ee_iy (hu : X.A.units + 64 < cLine) (ha : EE X W a fa) (hb : EE X W b fb) (hs : NoSl b := by exact fun _ _ => rfl) (hp : PlainIx b := by exact fun _ _ => rfl) : EE X W (.Subscript a b pos) (eOp gIy fa fb) :=
  PE.of (PE.or (ee_dg (pos := pos) hu ha hb hs) (ee_ix (pos := pos) ha hb hp)) fun σ H Q ⟨φ, h, ρ, sm, er, q⟩ => by
    unfold eOp at q
    cases e1 : fa ρ h with
    | no => rw [e1] at q; exact q.elim
    | ex c fs h1 =>
      refine .inr ⟨φ, h, ρ, sm, er, ?_⟩
      unfold eOp
      rw [e1] at q ⊢
      exact q
    | ok x h1 =>
      rw [e1] at q
      cases e2 : fb ρ h1 with
      | no =>
        simp only [Out.bind_ok] at q
        rw [e2] at q
        exact q.elim
      | ex c fs h2 =>
        refine .inr ⟨φ, h, ρ, sm, er, ?_⟩
        unfold eOp
        rw [e1]
        simp only [Out.bind_ok] at q ⊢
        rw [e2] at q ⊢
        exact q
      | ok y h2 =>
        simp only [Out.bind_ok] at q
        rw [e2] at q
        simp only [Out.bind_ok] at q
        unfold gIy at q
        cases e3 : gDG x y h2 with
        | some r =>
          refine .inl ⟨φ, h, ρ, sm, er, ?_⟩
          unfold eOp
          rw [e1]
          simp only [Out.bind_ok]
          rw [e2]
          simp only [Out.bind_ok]
          rw [e3] at q ⊢
          exact q
        | none =>
          refine .inr ⟨φ, h, ρ, sm, er, ?_⟩
          unfold eOp
          rw [e1]
          simp only [Out.bind_ok]
          rw [e2]
          simp only [Out.bind_ok]
          rw [e3] at q
          exact q
end
/-! ### d[k] = v -/
def setD (o i v : Vl) (h : Hh) : Option Hh := match o, keyOf i, fz v h with
  | .r n, some k, some (d, h1) => match h1[n]? with
    | some (some (.dct kds)) => if fitB (kds.length + 1) = true then some (h1.set n (some (.dct (putD kds k d)))) else none
    | _ => none
  | _, _, _ => none
def gSetD (o ix : Ev) : Gv := fun v ρ h => (okO (o ρ h)).bind fun p => (okO (ix ρ p.2)).bind fun q => (setD p.1 q.1 v q.2).map fun h' => (ρ, h')
theorem setD_ok {K : PySem.W.Frag} {φ : List Addr} {h h' : Hh} {H : Hp} {x y z : V} {o i v : Vl} (sm : Sim K φ h H) (rx : VRep K mg φ h H x o) (ry : VRep K mg φ h H y i) (rz : VRep K mg φ h H z v) (e : setD o i v h = some h') :
    ∃ a H', x = .ref a ∧ DPut H a y z H' ∧ Step φ h H φ h' H' ∧ Sim K φ h' H' := by
  unfold setD at e
  split at e
  · rename_i n kk d h1 ek ef
    obtain ⟨s1, s2, s3⟩ := fz_ok sm rz ef
    split at e
    · rename_i kds en
      split at e
      · rename_i ft
        cases e
        obtain ⟨a, ea, rfl⟩ := rx
        obtain ⟨kvs, eh, rk⟩ := s2.atD en ea
        obtain ⟨t1, t2⟩ := s2.write (ob := .dct (putD kds kk d)) (u := .dK (putK kvs kk z)) en ea fun M st => ⟨_, upd_same, KvRep.put (s3.stay st) (rk.stay st)⟩
        rw [keyOf_ok ry ek]
        refine ⟨a, _, rfl, DPut.k eh ?_, s1.trans t1, t2⟩
        have := fitB_le ft
        rw [rk.length]
        omega
      · cases e
    · cases e
  · cases e
section
variable {X : Cx} {W : WX} {o ix e : Expr} {fo fi fe : Ev} {pos pos' : Pos}
theorem PoS.atE {K : PySem.W.Frag} {mg : Str → Option Value} {φ : List Addr} {h : Hh} {H : Hp} {ρ : En} {σ : L2.St} {D : Ends} {W : WX} {f : Ev} {g : Vl → Hh → So} (er : ERep K mg φ h H σ ρ) (q : PoS K mg φ h H (Out.then ρ (f ρ h) g) D W) (sm : Sim K φ h H)
    {Q : VK} (k : ∀ x v h1 H1 φ1, f ρ h = .ok v h1 → Step φ h H φ1 h1 H1 → Sim K φ1 h1 H1 → VRep K mg φ1 h1 H1 x v → PoS K mg φ1 h1 H1 (g v h1) D W → Q x H1) : tE K mg W f σ H Q := by
  refine ⟨φ, h, ρ, sm, er, ?_⟩
  revert q
  cases ef : f ρ h with
  | ok v h1 => exact fun q x H1 φ1 st sm1 rv => k x v h1 H1 φ1 ef st sm1 rv (PoS.pull st q)
  | ex c fs h1 => exact fun q cls dd H' φ' st sm' xr => q cls dd σ H' φ' st sm' (er.step st) xr
  | no => exact fun q => q
theorem es_dput (hu : X.A.units + 64 < cLine) (ho : EE X W o fo) (hi : EE X W ix fi) (he : EE X W e fe) (hs : swapsWith e (some (.Subscript o ix pos')) pos.line X.env = pure false := by rfl) :
    ES X W (.Assign [.Subscript o ix pos'] e pos) (sAsg (gSetD fo fi) fe) :=
  PS.of (ps_dput (by omega) ho hi he hs) fun D σ H ⟨φ, h, ρ, sm, er, q⟩ => by
    refine PoS.atE er q sm fun z v h1 H1 φ1 e1 st1 sm1 rv q1 => ?_
    have er1 := er.step st1
    cases e2 : okO (fo ρ h1) with
    | none => unfold gSetD at q1; rw [e2] at q1; exact q1.elim
    | some p =>
      obtain ⟨ov, h2⟩ := p
      refine ⟨φ1, h1, ρ, sm1, er1, ?_⟩
      rw [okO_some e2]
      intro x H2 φ2 st2 sm2 rx
      cases e3 : okO (fi ρ h2) with
      | none => unfold gSetD at q1; rw [e2] at q1; dsimp only [Option.bind_some] at q1; rw [e3] at q1; exact q1.elim
      | some p3 =>
        obtain ⟨iv, h3⟩ := p3
        refine ⟨φ2, h2, ρ, sm2, er1.step st2, ?_⟩
        rw [okO_some e3]
        intro y H3 φ3 st3 sm3 ry
        cases e4 : setD ov iv v h3 with
        | none => unfold gSetD at q1; rw [e2] at q1; dsimp only [Option.bind_some] at q1; rw [e3] at q1; dsimp only [Option.bind_some] at q1; rw [e4] at q1; exact q1.elim
        | some h4 =>
          unfold gSetD at q1
          rw [e2] at q1
          dsimp only [Option.bind_some] at q1
          rw [e3] at q1
          dsimp only [Option.bind_some] at q1
          rw [e4] at q1
          obtain ⟨a, H4, e5, dp, st4, sm4⟩ := setD_ok sm3 (rx.step st3) ry ((rv.step st2).step st3) e4
          have st := (st2.trans st3).trans st4
          exact ⟨a, H4, e5, dp, q1 σ H4 φ3 st sm4 (er1.step st)⟩
end
/-! ### {k: v, ..} -/
abbrev Pv := En → Hh → Out (List (Key × Da))
def pNil : Pv := fun _ h => .ok [] h
def pCons (k v : Ev) (r : Pv) : Pv := fun ρ h => (k ρ h).bind fun x h1 => (v ρ h1).bind fun y h2 => (r ρ h2).bind fun l h3 => match keyOf x, fz y h3 with
  | some kk, some (d, h4) => .ok ((kk, d) :: l) h4
  | _, _ => .no
def eDct (p : Pv) : Ev := fun ρ h => (p ρ h).bind fun l h1 => if l.length ≤ 15 then .ok (.r h1.length) (h1 ++ [some (.dct (l.foldl (fun acc kv => putD acc kv.1 kv.2) []))]) else .no
end Rk

/-! Rk15: dict displays. -/
namespace Rk
open PySem PySem.Spec L2
def hdel (H : Hp) (p : Addr) : Hp := fun b => if b = p then none else H b
theorem del_ne {H : Hp} {p b : Addr} (h : b ≠ p) : hdel H p b = H b := if_neg h
theorem del_at {H : Hp} {p : Addr} : hdel H p p = none := if_pos rfl
theorem upd_del {H : Hp} {p : Addr} {u : HO} : upd (hdel H p) p u = upd H p u := by
  funext b
  by_cases e : b = p
  · subst e
    rw [upd_same, upd_same]
  · rw [upd_ne e, upd_ne e, del_ne e]
section
variable {K : PySem.W.Frag} {H : Hp} {p : Addr} {l : List (Key × V)}
theorem rd_del {a : Addr} {u : HO} (hp : H p = some (.dK l)) (hu : ∀ l', u ≠ .dK l') (h : Rd H a u) : Rd (hdel H p) a u := by
  have ne : a ≠ p := fun e => by
    subst e
    rcases h with h | ⟨o, h⟩
    · rw [hp] at h
      cases h
      exact hu _ rfl
    · rw [hp] at h
      cases h
  rcases h with h | ⟨o, h⟩
  · exact .inl (by rw [del_ne ne]; exact h)
  · exact .inr ⟨o, by rw [del_ne ne]; exact h⟩
mutual
theorem repDel {K : PySem.W.Frag} {H : Hp} {p : Addr} {M : Addr → Prop} (hp : H p = some (.dK [])) : ∀ {v : V} {d : Da}, Rep K H M v d → Rep K (hdel H p) M v d
  | _, _, .non => .non
  | _, _, .bl b => .bl b
  | _, _, .int i => .int i
  | _, _, .str x => .str x
  | _, _, .tup h n r => .tup (rd_del hp (fun _ z => by cases z) h) n (repsDel hp r)
  | _, _, .tupK h r => .tupK h (repsDel hp r)
  | _, _, .lst h n r => .lst (rd_del hp (fun _ z => by cases z) h) n (repsDel hp r)
  | _, _, .lstK h r => .lstK h (repsDel hp r)
  | _, _, .dct0 h n => .dct0 (by
    rw [del_ne fun e => by
      rw [e, hp] at h
      cases h]
    exact h) n
  | _, _, .dct h n ne r e => .dct (by
    rw [del_ne fun z => by
      rw [z, hp] at h
      cases h
      exact ne rfl]
    exact h) n ne (repsDel hp r) e
  | _, _, .fn x => .fn x
  | _, _, .plt h e n r => .plt (by
    rw [del_ne fun z => by
      rw [z, hp] at h
      cases h]
    exact h) e n (repsDel hp r)
theorem repsDel {K : PySem.W.Frag} {H : Hp} {p : Addr} {M : Addr → Prop} (hp : H p = some (.dK [])) : ∀ {v : List V} {d : List Da}, Reps K H M v d → Reps K (hdel H p) M v d
  | _, _, .nil => .nil
  | _, _, .cons r t => .cons (repDel hp r) (repsDel hp t)
end
theorem KvRep.del {M : Addr → Prop} (hp : H p = some (.dK [])) : ∀ {v : List (Key × V)} {d : List (Key × Da)}, KvRep K H M v d → KvRep K (hdel H p) M v d
  | _, _, .nil => .nil
  | _, _, .cons r t => .cons (repDel hp r) (KvRep.del hp t)
theorem Sim.del {φ : List Addr} {h : Hh} (sm : Sim K φ h H) (hp : H p = some (.dK [])) (nl : ¬ Live φ h p) : Sim K φ h (hdel H p) := by
  refine ⟨sm.len, sm.inj, fun i o e => ?_, fun i ns e => ?_⟩
  rotate_left
  · obtain ⟨a, as, e1, e2, e3, e4⟩ := sm.rf i ns e
    have ne : a ≠ p := fun z => nl (by rw [← z]; exact ⟨i, _, e1, e⟩)
    exact ⟨a, as, e1, by rw [del_ne ne]; exact e2, e3, e4⟩
  obtain ⟨a, e1, r⟩ := sm.ob i o e
  have ne : a ≠ p := fun z => nl (z ▸ ⟨i, o, e1, e⟩)
  refine ⟨a, e1, ?_⟩
  cases o with
  | lst ds =>
    obtain ⟨xs, h1, h2⟩ := r
    exact ⟨xs, by rw [del_ne ne]; exact h1, repsDel hp h2⟩
  | dct ds =>
    obtain ⟨xs, h1, h2⟩ := r
    exact ⟨xs, by rw [del_ne ne]; exact h1, h2.del hp⟩
  | rl ns =>
    obtain ⟨xs, h1⟩ := r
    exact ⟨xs, by rw [del_ne ne]; exact h1⟩
  | tbl x =>
    obtain ⟨c, ps, h1, h2, h3, h4⟩ := r
    refine ⟨c, ps, h1, by rw [del_ne ne]; exact h2, h3, fun pos cv z => (h4 pos cv z).imp fun c' w => ⟨w.1, ?_⟩⟩
    rw [del_ne fun y => by
      rw [y, hp] at w
      have w2 := Option.some.inj w.2
      unfold LamX.CodeO at w2
      cases w2]
    exact w.2
end
def PoP (K : PySem.W.Frag) (mg : Str → Option Value) (φ : List Addr) (h : Hh) (H : Hp) (o : Out (List (Key × Da))) (Q : List (V × V) → Hp → Prop) (E : XK) : Prop := match o with
  | .ok l h' => ∀ kvs H' φ', Step φ h H φ' h' H' → Sim K φ' h' H' → KvRep K H' (Live φ' h') kvs l → Q (kvs.map fun kv => (kV kv.1, kv.2)) H'
  | .ex c fs h' => ∀ cls dd H' φ', Step φ h H φ' h' H' → Sim K φ' h' H' → XRep K mg H' (Live φ' h') c fs cls dd → E cls dd H'
  | .no => False
theorem PoP.pull {K : PySem.W.Frag} {mg : Str → Option Value} {φ φ1 : List Addr} {h h1 : Hh} {H H1 : Hp} {o : Out (List (Key × Da))} {Q : List (V × V) → Hp → Prop} {E : XK} (s : Step φ h H φ1 h1 H1) (q : PoP K mg φ h H o Q E) : PoP K mg φ1 h1 H1 o Q E := by
  cases o with
  | ok l h' => exact fun kvs H' φ' st => q kvs H' φ' (s.trans st)
  | ex c fs h' => exact fun cls dd H' φ' st => q cls dd H' φ' (s.trans st)
  | no => exact q
def EP_ (X : Cx) (W : WX) (pos : Pos) (ks : List (Option Expr)) (vs : List Expr) (f : Pv) : Prop :=
  ∃ trs, PPs X pos ks vs trs ∧ ∀ σ H Q φ h ρ, Sim X.K φ h H → ERep X.K X.mg φ h H σ ρ → PoP X.K X.mg φ h H (f ρ h) Q (WE W σ) → tPairs trs σ H Q
section
variable {X : Cx} {W : WX} {pos : Pos} {ks : List (Option Expr)} {vs : List Expr} {k v : Expr} {fk fv : Ev} {fr : Pv}
theorem ep_nil : EP_ X W pos [] [] pNil := ⟨[], pps_nil, fun σ H Q φ h ρ sm er q => q [] H φ (Step.refl _ _ _) sm .nil⟩
theorem ep_cons (hk : EE X W k fk) (hv : EE X W v fv) (hr : EP_ X W pos ks vs fr) : EP_ X W pos (some k :: ks) (v :: vs) (pCons fk fv fr) := by
  obtain ⟨trs, P, R⟩ := hr
  refine ⟨_, pps_cons hk hv P, fun σ H Q φ h ρ sm er q => ⟨φ, h, ρ, sm, er, ?_⟩⟩
  unfold pCons at q
  revert q
  cases fk ρ h with
  | no => exact fun q => q
  | ex c fs h1 => exact fun q => q
  | ok x h1 =>
    intro q kx H1 φ1 st1 sm1 rx
    have q1 := PoP.pull st1 q
    refine ⟨φ1, h1, ρ, sm1, er.step st1, ?_⟩
    simp only [Out.bind_ok] at q1
    revert q1
    cases fv ρ h1 with
    | no => exact fun q => q
    | ex c fs h2 => exact fun q => q
    | ok y h2 =>
      intro q1 ky H2 φ2 st2 sm2 ry
      have q2 := PoP.pull st2 q1
      refine R σ H2 _ φ2 h2 ρ sm2 ((er.step st1).step st2) ?_
      simp only [Out.bind_ok] at q2
      revert q2
      cases fr ρ h2 with
      | no => exact fun q => q
      | ex c fs h3 => exact fun q => q
      | ok l h3 =>
        intro q2 kvs H3 φ3 st3 sm3 rl
        have q3 := PoP.pull st3 q2
        simp only [Out.bind_ok] at q3
        split at q3
        · rename_i kk d h4 ek ef
          obtain ⟨s1, s2, s3⟩ := fz_ok sm3 (ry.step st3) ef
          rw [keyOf_ok rx ek]
          exact q3 ((kk, ky) :: kvs) H3 φ3 s1 s2 (.cons s3 (rl.stay s1.st))
        · exact q3.elim
theorem merge_rep {K : PySem.W.Frag} {H : Hp} {M : Addr → Prop} : ∀ {vs : List (Key × V)} {ds : List (Key × Da)} {as : List (Key × V)} {bs : List (Key × Da)}, KvRep K H M vs ds → KvRep K H M as bs → KvRep K H M (mergeK as vs) (ds.foldl (fun acc kv => putD acc kv.1 kv.2) bs)
  | _, _, _, _, .nil, r => r
  | _, _, _, _, .cons (k := kk) q t, r => by
    have z := merge_rep t (KvRep.put (k := kk) q r)
    exact z
theorem ee_dct {fp : Pv} (h : EP_ X W pos ks vs fp) (h0 : ks ≠ [] := by exact nofun) (hall : ks.all (·.isSome) = true := by rfl) (hl : ks.length = vs.length := by rfl) (h15 : ks.length ≤ 15 := by decide) : EE X W (.Dict ks vs pos) (eDct fp) := by
  obtain ⟨trs, P, R⟩ := h
  refine PE.of (pe_disp P hall hl h0 h15) fun σ H Q ⟨φ, h, ρ, sm, er, q⟩ p hp => ?_
  obtain ⟨g1, g2⟩ := sm.grow (o := .dK []) hp
  have np := sm.fresh hp
  refine R σ _ _ φ h ρ g2 (er.step g1) ?_
  unfold eDct at q
  revert q
  cases fp ρ h with
  | no => exact fun q => q
  | ex c fs h1 => exact fun q cls dd H' φ' st => q cls dd H' φ' (g1.trans st)
  | ok l h1 =>
    intro q kvs H2 φ2 st2 sm2 rl
    simp only [Out.bind_ok] at q
    split at q
    · rename_i hlen
      have e2 : H2 p = some (.dK []) := (st2.st p _ upd_same nofun np).1
      have n2 : ¬ Live φ2 h1 p := (st2.st p _ upd_same nofun np).2
      refine ⟨e2, kvs, rfl, by rw [rl.length]; exact hlen, ?_⟩
      have smd := sm2.del e2 n2
      have std : Step φ h H φ2 h1 (hdel H2 p) := ⟨(g1.trans st2).pre, fun a o ea nt na => by
        have z := (g1.trans st2).st a o ea nt na
        have ne : a ≠ p := fun w => by rw [w, hp] at ea; cases ea
        exact ⟨by rw [del_ne ne]; exact z.1, z.2⟩⟩
      obtain ⟨s1, s2, s3⟩ := smd.new (ob := .dct (l.foldl (fun acc kv => putD acc kv.1 kv.2) [])) (o := .dK (mergeK [] kvs)) del_at fun M st => ⟨_, upd_same, merge_rep ((rl.del e2).stay st) .nil⟩
      rw [upd_del] at s1 s2 s3
      exact q _ _ _ (std.trans s1) s2 s3
    · exact q.elim
end
end Rk

/-! Rk16: slices of lists with a step. -/
namespace Rk
open PySem PySem.Spec L2 PyProof.Rows
def pickG {α : Type} (xs : List α) (lo hi st : Option Int) : List α :=
  (sliceRange (sliceBounds lo hi st xs.length).1 (sliceBounds lo hi st xs.length).2.1 (sliceBounds lo hi st xs.length).2.2).filterMap (xs[·]?)
theorem Vals.get_some : ∀ {xs : List V} {us : List Value}, Vals xs us → ∀ i : Nat, (xs[i]? = none ∧ us[i]? = none) ∨ ∃ x u, xs[i]? = some x ∧ us[i]? = some u ∧ RelV x u
  | _, _, .nil, i => .inl (by simp)
  | _, _, .cons r t, 0 => .inr ⟨_, _, rfl, rfl, r⟩
  | _, _, .cons r t, i + 1 => by simpa using Vals.get_some t i
theorem vals_pick {xs : List V} {us : List Value} (r : Vals xs us) : ∀ is : List Nat, Vals (is.filterMap (xs[·]?)) (is.filterMap (us[·]?))
  | [] => .nil
  | i :: is => by
    rcases Vals.get_some r i with ⟨e1, e2⟩ | ⟨x, u, e1, e2, q⟩
    · rw [List.filterMap_cons, List.filterMap_cons]
      simp only [e1, e2]
      exact vals_pick r is
    · rw [List.filterMap_cons, List.filterMap_cons]
      simp only [e1, e2]
      exact .cons q (vals_pick r is)
theorem reps_pick {K : PySem.W.Frag} {H : Hp} {M : Addr → Prop} {xs : List V} {ds : List Da} (r : Reps K H M xs ds) : ∀ is : List Nat, Reps K H M (is.filterMap (xs[·]?)) (is.filterMap (ds[·]?))
  | [] => .nil
  | i :: is => by
    have hl := r.length
    rw [List.filterMap_cons, List.filterMap_cons]
    cases e : ds[i]? with
    | none =>
      have : xs[i]? = none := by
        rw [List.getElem?_eq_none_iff] at e ⊢
        omega
      simp only [this]
      exact reps_pick r is
    | some d =>
      obtain ⟨v, e1, q⟩ := Reps.get r e
      simp only [e1]
      exact .cons q (reps_pick r is)
theorem Reps.pickG {K : PySem.W.Frag} {H : Hp} {M : Addr → Prop} {xs : List V} {ds : List Da} (r : Reps K H M xs ds) (lo hi st : Option Int) : Reps K H M (Rk.pickG xs lo hi st) (Rk.pickG ds lo hi st) := by
  unfold Rk.pickG
  rw [r.length]
  exact reps_pick r _
def tStep (K : PySem.W.Frag) (te : TE) (tl th ts : TO) : TE := fun σ H Q => te σ H fun x H1 => tl σ H1 fun lo H2 => th σ H2 fun hi H3 => ts σ H3 fun st H4 => ∃ a xs, x = .ref a ∧ SqL K H4 a xs ∧ st ≠ some 0 ∧ (pickG xs lo hi st).length ≤ sizeLine ∧ ∀ p, H4 p = none → Q (.ref p) (upd H4 p (.lst (pickG xs lo hi st)))
section
variable {X : Cx}
theorem pe_step {e : Expr} {lo hi : Option Expr} {st : Expr} {te : TE} {tl th ts : TO} {p3 pos : Pos} (he : PE X e te) (hl : PO X lo tl) (hh : PO X hi th) (hs : PO X (some st) ts) : PE X (.Subscript e (.Slice lo hi (some st) p3) pos) (tStep X.K te tl th ts) := by
  constructor
  intro pins s σ H Q I h
  refine Subscript_ (thn (he.run pins s σ H _ I h) ?_)
  rintro v s1 ⟨x, H1, I1, r1, q1⟩
  refine wpAny_Slice (thn (hl.run pins s1 σ H1 _ I1 q1) ?_)
  rintro vl s2 ⟨l, H2, I2, pl, q2⟩
  refine thn (hh.run pins s2 σ H2 _ I2 q2) ?_
  rintro vu s3 ⟨u, H3, I3, pu, q3⟩
  refine thn (hs.run pins s3 σ H3 _ I3 q3) ?_
  rintro vs s4 ⟨o, H4, I4, ps, a, xs, ex, hx, h0, hz, q⟩
  subst ex
  cases r1
  have I5 : Inv X pins σ H4 { s4 with heap := s4.heap.push { cls := .type "slice", data := .fields #[vl, vu, vs] } } := I4.kept (t' := s4.toks) fun b ob z => Heap.get?_push_of_some _ z
  obtain ⟨its, r, ht, hsz⟩ := I5.list hx
  have hlen := r.length
  refine tail_any (ops := [.ref a, .ref s4.heap.objs.size]) ht.isList.typeIs PySem.slot_list_getitem.lookup ?_ (by with_unfolding_all rfl)
  refine wpAny_getItem_list_slice ht.isList (Heap.IsSliceOf.new _ vl vu vs) pl pu ps h0 ?_ (by rw [List.size_toArray]; omega)
  have rv : Vals (pickG xs l u o) (slicePick its.toArray l u o).toList := by
    unfold slicePick pickG
    rw [List.size_toArray, hlen]
    simpa using vals_pick r _
  refine ⟨.ref _, _, I5.laid (t' := s4.toks) (o := .lst (pickG xs l u o)) (fun b ob z => Heap.get?_push_of_some _ z) (Nat.le_refl _) ?_, rfl, q _ (I5.hok.fresh (Nat.le_refl _))⟩
  refine ⟨hz, _, 0, rv, ?_⟩
  rw [Array.toArray_toList]
  exact Heap.get?_push_size _ rfl
end
def gSt (x : Vl) (lo hi st : Option Int) (h : Hh) : Option (Vl × Hh) := match asL x h with
  | some xs => if st ≠ some 0 ∧ (pickG xs lo hi st).length ≤ 16777216 then some (.r h.length, h ++ [some (.lst (pickG xs lo hi st))]) else none
  | none => none
def eSt (f : Ev) (lo hi st : Ov) : Ev := fun ρ h => (f ρ h).bind fun x h1 => (lo ρ h1).bind fun l h2 => (hi ρ h2).bind fun u h3 => (st ρ h3).bind fun t h4 => ofO (gSt x l u t h4)
section
variable {X : Cx} {W : WX} {a st : Expr} {fa : Ev} {pos p2 : Pos} {lo hi : Option Expr} {fl fh fs : Ov}
theorem ee_step (ha : EE X W a fa) (hl : EO X W lo fl) (hh : EO X W hi fh) (hs : EO X W (some st) fs) : EE X W (.Subscript a (.Slice lo hi (some st) p2) pos) (eSt fa fl fh fs) :=
  PE.of (pe_step ha hl hh hs) fun σ H Q ⟨φ, h, ρ, sm, er, q⟩ => ⟨φ, h, ρ, sm, er, PoX.goE q fun x v h1 H1 φ1 st1 sm1 rv q1 => ⟨φ1, h1, ρ, sm1, er.step st1, PoX.goO q1 fun l h2 H2 φ2 st2 sm2 q2 =>
    ⟨φ2, h2, ρ, sm2, (er.step st1).step st2, PoX.goO q2 fun u h3 H3 φ3 st3 sm3 q3 => ⟨φ3, h3, ρ, sm3, ((er.step st1).step st2).step st3, PoX.goO q3 fun t h4 H4 φ4 st4 sm4 q4 => by
      obtain ⟨z, h5, e5, k5⟩ := PoX.ofO q4
      unfold gSt at e5
      split at e5
      · rename_i xs ex
        split at e5
        · rename_i hc
          cases e5
          obtain ⟨p, zs, rfl, sq, rs⟩ := asL_ok sm4 (rv.step ((st2.trans st3).trans st4)) ex
          have rp := rs.pickG l u t
          refine ⟨p, zs, rfl, sq, hc.1, ?_, fun q hq => ?_⟩
          · rw [rp.length]
            exact fitB_le (fitB_ok hc.2)
          · obtain ⟨s1, s2, s3⟩ := new_list sm4 rp hq
            exact k5 _ _ _ s1 s2 s3
        · cases e5
      · cases e5⟩⟩⟩⟩
end
end Rk

/-! Rk17: a law's state in a dict. -/
namespace Rk
open PySem PySem.Spec L2
section
variable {a b c d v : Da}
def stD (a b c d : Da) : List (Key × Da) := [(.inr "cells", a), (.inr "left", b), (.inr "mixed", c), (.inr "at", d)]
end
section
variable {h : Hh} {n : Nat} {a b c d v : Da}
theorem dg_of {kds : List (Key × Da)} {x : Str} {w : Da} (e : h[n]? = some (some (.dct kds))) (ew : valD kds (.inr x) = some w) : gDG (.r n) (.d (.str x)) h = some (.d w, h) := by
  unfold gDG keyOf
  dsimp only
  rw [e]
  dsimp only
  rw [ew]
  rfl
theorem set_of {kds kds' : List (Key × Da)} {x : Str} (e : h[n]? = some (some (.dct kds))) (ep : putD kds (.inr x) v = kds') (hl : kds.length < 16777216) : setD (.r n) (.d (.str x)) (.d v) h = some (h.set n (some (.dct kds'))) := by
  unfold setD keyOf fz
  dsimp only
  rw [e]
  dsimp only
  rw [if_pos (fitB_ok (by omega)), ep]
end
end Rk
namespace Rk
open PySem PySem.Spec L2
theorem pick_map {α β : Type} (f : α → β) (xs : List α) (lo hi st : Option Int) : pickG (xs.map f) lo hi st = (pickG xs lo hi st).map f := by
  unfold pickG
  rw [List.length_map, List.map_filterMap]
  congr 1
  funext i
  simp
theorem pick_len {α : Type} (xs : List α) (lo hi st : Option Int) : (pickG xs lo hi st).length ≤ xs.length := by
  have h := slicePick_size_le (xs.map fun _ => Value.none).toArray lo hi st
  have e : (slicePick (xs.map fun _ => Value.none).toArray lo hi st).toList = pickG (xs.map fun _ => Value.none) lo hi st := by
    unfold slicePick pickG
    simp
  have l : (slicePick (xs.map fun _ => Value.none).toArray lo hi st).size = (pickG xs lo hi st).length := by
    rw [← Array.length_toList, e, pick_map, List.length_map]
  rw [l] at h
  simpa using h
theorem sh_ints (ns : List Int) : sh (.list (ns.map PyData.int)) = true := by
  have h1 : ∀ l : List Int, PyData.canLayAll0 (l.map PyData.int) = true := fun l => by
    induction l with
    | nil => rfl
    | cons a l ih => simp [PyData.canLayAll0, PyData.canLay0, ih]
  have h2 : ∀ l : List Int, PyData.depthAll (l.map PyData.int) ≤ 1 := fun l => by
    induction l with
    | nil => simp [PyData.depthAll]
    | cons a l ih => simp [PyData.depthAll, PyData.depth, ih]
  have h2' := h2 ns
  have h3 : ∀ l : List Int, PyData.hasDictAll (l.map PyData.int) = false := fun l => by
    induction l with
    | nil => rfl
    | cons a l ih => simp [PyData.hasDictAll, PyData.hasDict, ih]
  simp [sh, h3, SeqAt.shaped, PyData.hasDict, PyData.hasDictAll, PyData.canLay0, PyData.depth, h1]
  omega
theorem eqv_ints (ns ms : List Int) : PyData.eqv (.list (ns.map PyData.int)) (.list (ms.map PyData.int)) = decide (ns = ms) := by
  have h : ∀ ns ms : List Int, PyData.eqvAll (ns.map PyData.int) (ms.map PyData.int) = decide (ns = ms) := fun ns => by
    induction ns with
    | nil => intro ms; cases ms <;> simp [PyData.eqvAll]
    | cons a l ih =>
      intro ms
      cases ms with
      | nil => simp [PyData.eqvAll]
      | cons b m =>
        simp [PyData.eqvAll, ih, PyData.eqv]
        by_cases z : a = b <;> simp [z]
  simp only [PyData.eqv]
  exact h ns ms
end Rk
namespace Rk
open PySem PySem.Spec L2
section
variable {gd : Option (Nat × List Da)} {g : Gv} {tt : Tv} {fe : Ev} {ρ0 : En} {h : Hh}
end
end Rk
namespace Rk
open PySem PySem.Spec L2
end Rk

/-! Rk18: lists that are never changed: frozen at once. -/
namespace Rk
open PySem PySem.Spec L2
variable {mg : Str → Option Value}
def eFz (f : Ev) : Ev := fun ρ h => match f ρ h with
  | .ok v h1 => match fz v h1 with
    | some p => trunc h.length (.d p.1) p.2
    | none => .no
  | .ex c fs h1 => .ex c fs (h1.take h.length)
  | .no => .no
theorem ex_cut {K : PySem.W.Frag} {mg : Str → Option Value} {φ φ' : List Addr} {h h' : Hh} {H H' : Hp} {c : Str} {fs : List (Str × Da)} {cls : Value} {dd : Option Addr} (sm : Sim K φ h H) (st : Step φ h H φ' h' H') (sm' : Sim K φ' h' H') (xr : XRep K mg H' (Live φ' h') c fs cls dd) :
    Step φ h H φ (h'.take h.length) H' ∧ Sim K φ (h'.take h.length) H' ∧ XRep K mg H' (Live φ (h'.take h.length)) c fs cls dd := by
  obtain ⟨c1, c2⟩ := sm'.cut st.pre sm.len
  have st2 : Stay H' (Live φ' h') H' (Live φ (h'.take h.length)) := fun a u q _ nl => ⟨q, fun l => nl (c2 a l)⟩
  exact ⟨⟨List.prefix_refl _, st.st.trans st2⟩, c1, xr.cl, xr.no, fun z => by
    obtain ⟨a, vs, e1, e2, e3, e4⟩ := xr.yes z
    exact ⟨a, vs, e1, e2, fun l => e3 (c2 a l), e4.stay st2⟩⟩
section
variable {X : Cx} {W : WX} {e : Expr} {f : Ev}
theorem ee_fz (p : EE X W e f) : EE X W e (eFz f) :=
  PE.of p fun σ H Q ⟨φ, h, ρ, sm, er, q⟩ => ⟨φ, h, ρ, sm, er, by
    unfold eFz at q
    revert q
    cases f ρ h with
    | no => exact fun q => q
    | ex c fs h1 =>
      intro q cls dd H' φ' st sm' xr
      obtain ⟨a, b, c⟩ := ex_cut sm st sm' xr
      exact q cls dd H' φ a b c
    | ok v h1 =>
      intro q x H' φ' st sm' rv
      dsimp only at q
      split at q
      · rename_i p e
        obtain ⟨d, h2⟩ := p
        obtain ⟨s1, s2, s3⟩ := fz_ok sm' rv e
        exact trunc_ok (v := .d d) sm (st.trans s1) s2 s3 q
      · exact q.elim⟩
end
/-! ### a statement that stores a list -/
section
variable {K : PySem.W.Frag} {φ φ' : List Addr} {h h' : Hh} {H H' : Hp} {σ σ' : L2.St} {ρ ρ' : En}
/-- which objects a value tells of -/
def RefB (k : Nat) : Vl → Prop
  | .r m => m < k
  | .f D => ∀ j m : Nat, D.ρ[j]? = some (some (Vl0.r m)) → m < k
  | _ => True
theorem VRep.refB {v : V} {x : Vl} (r : VRep K mg φ h H v x) : RefB φ.length x := by
  cases x with
  | d z => trivial
  | x c fs => trivial
  | r m =>
    obtain ⟨a, ea, _⟩ := r
    exact (List.getElem?_eq_some_iff.mp ea).1
  | f D =>
    obtain ⟨_, _, _, _, e5⟩ := r
    intro j m e
    obtain ⟨x, _, a, ea, _⟩ := e5 j _ e
    exact (List.getElem?_eq_some_iff.mp ea).1
theorem ERep.refs (er : ERep K mg φ h H σ ρ) (j : Nat) (v : Vl) (e : ρ[j]? = some (some v)) : RefB φ.length v := by
  obtain ⟨x, _, r⟩ := er.at_ j _ e
  exact r.refB
theorem ERep.cut {n : Nat} (pre : φ <+: φ') (c2 : ∀ a, Live φ (h'.take n) a → Live φ' h' a) (er : ERep K mg φ' h' H' σ' ρ') (hr : ∀ (j : Nat) (v : Vl), ρ'[j]? = some (some v) → RefB φ.length v) : ERep K mg φ (h'.take n) H' σ' ρ' := by
  refine ⟨er.len, fun i v e => ?_⟩
  obtain ⟨x, e1, r⟩ := er.at_ i v e
  refine ⟨x, e1, ?_⟩
  cases v with
  | d z => exact Rep.stay (M := Live φ' h') (fun a u q _ nl => ⟨q, fun l => nl (c2 a l)⟩) r
  | x c fs =>
    obtain ⟨a, cls, dd, rfl, e1, e2, xr⟩ := r
    exact ⟨a, cls, dd, rfl, e1, fun l => e2 (c2 a l), xr.stay (M := Live φ' h') (fun a u q _ nl => ⟨q, fun l => nl (c2 a l)⟩)⟩
  | r m =>
    obtain ⟨a, ea, rfl⟩ := r
    have hm : m < φ.length := hr i _ e
    obtain ⟨t, rfl⟩ := pre
    rw [List.getElem?_append_left hm] at ea
    exact ⟨a, ea, rfl⟩
  | f D =>
    obtain ⟨f1, f2, f3, f4, f5⟩ := r
    have hm : ∀ j m : Nat, D.ρ[j]? = some (some (Vl0.r m)) → m < φ.length := hr i _ e
    refine ⟨f1, f2, fun l => f3 (c2 _ l), f4, fun j w z => ?_⟩
    obtain ⟨x, g1, g2⟩ := f5 j w z
    refine ⟨x, g1, ?_⟩
    cases w with
    | d z => exact Rep.stay (M := Live φ' h') (fun a u q _ nl => ⟨q, fun l => nl (c2 a l)⟩) g2
    | r m =>
      have hm := hm j m z
      obtain ⟨a, ea, rfl⟩ := g2
      obtain ⟨t, rfl⟩ := pre
      rw [List.getElem?_append_left hm] at ea
      exact ⟨a, ea, rfl⟩
end
section
variable {X : Cx} {W : WX} {s : Stmt} {f : Ev}
theorem es_fz {i : Nat} (p : ES X W s (sSet i f)) : ES X W s (sSet i (eFz f)) :=
  PS.of p fun D σ H ⟨φ, h, ρ, sm, er, q⟩ => ⟨φ, h, ρ, sm, er, by
    unfold sSet eFz at q
    unfold sSet
    revert q
    cases f ρ h with
    | no => exact fun q => q
    | ex c fs h1 =>
      intro q cls dd σ' H' φ' st sm' er' xr
      obtain ⟨a, b, c⟩ := ex_cut sm st sm' xr
      exact q cls dd σ' H' φ a b (er'.cut st.pre (sm'.cut st.pre sm.len).2 er.refs) c
    | ok v h1 =>
      intro q σ' H' φ' st sm' er'
      dsimp only at q
      split at q
      · rename_i p e
        obtain ⟨d, h2⟩ := p
        dsimp only [trunc] at q
        by_cases hi : i < ρ.length
        · obtain ⟨x, e1, rv⟩ := er'.at_ i v (by rw [List.getElem?_set_self hi])
          obtain ⟨s1, s2, s3⟩ := fz_ok sm' rv e
          have er2 := er'.step s1
          have st2 := st.trans s1
          obtain ⟨c1, c2⟩ := s2.cut st2.pre sm.len
          have st3 : Stay H' (Live φ' h2) H' (Live φ (h2.take h.length)) := fun a u q _ nl => ⟨q, fun l => nl (c2 a l)⟩
          have er3 : ERep X.K X.mg φ' h2 H' σ' (ρ.set i (some (.d d))) := by
            refine ⟨by rw [er2.len, List.length_set, List.length_set], fun j w e2 => ?_⟩
            by_cases hj : i = j
            · subst hj
              rw [List.getElem?_set_self hi] at e2
              have e3 := Option.some.inj (Option.some.inj e2)
              subst e3
              exact ⟨x, e1, s3⟩
            · rw [List.getElem?_set_ne hj] at e2
              exact er2.at_ j w (by rw [List.getElem?_set_ne hj]; exact e2)
          refine q σ' H' φ ⟨List.prefix_refl _, st2.st.trans st3⟩ c1 (er3.cut st2.pre c2 fun j m e2 => ?_)
          by_cases hj : i = j
          · subst hj
            rw [List.getElem?_set_self hi] at e2
            cases e2
            trivial
          · rw [List.getElem?_set_ne hj] at e2
            exact er.refs j m e2
        · have e0 : ∀ w : Vl, ρ.set i (some w) = ρ := fun w => List.set_eq_of_length_le (by omega)
          rw [e0] at er'
          have hf : ∃ s1 : Step φ' h1 H' φ' h2 H', Sim X.K φ' h2 H' := by
            unfold fz at e
            split at e
            · cases e
              exact ⟨Step.refl _ _ _, sm'⟩
            · split at e
              · cases e
                rename_i n h xs hn
                obtain ⟨a, ea, _⟩ := sm'.ob _ _ hn
                exact ⟨(sm'.freeze hn ea).1, (sm'.freeze hn ea).2.1⟩
              · cases e
            · cases e
          obtain ⟨s1, s2⟩ := hf
          have st2 := st.trans s1
          obtain ⟨c1, c2⟩ := s2.cut st2.pre sm.len
          have st3 : Stay H' (Live φ' h2) H' (Live φ (h2.take h.length)) := fun a u q _ nl => ⟨q, fun l => nl (c2 a l)⟩
          refine q σ' H' φ ⟨List.prefix_refl _, st2.st.trans st3⟩ c1 ?_
          rw [e0]
          exact (er'.step s1).cut st2.pre c2 er.refs
      · exact q.elim⟩
end
end Rk

/-! Rk19: what is wished behind an outcome, rule by rule. -/
namespace Rk
open PySem PySem.Spec L2
abbrev XP := Str → List (Str × Da) → Hh → Prop
def Wp0 {α : Type} (o : Out α) (Q : α → Hh → Prop) (E : XP) : Prop := match o with
  | .ok a h => Q a h
  | .ex c fs h => E c fs h
  | .no => False
structure Wp {α : Type} (o : Out α) (Q : α → Hh → Prop) (E : XP) : Prop where
  w : Wp0 o Q E
abbrev NX : XP := fun _ _ _ => False
structure Ds where
  rt : Vl → Hh → Prop
  bk : En → Hh → Prop
  ct : En → Hh → Prop
  ex : Str → List (Str × Da) → En → Hh → Prop
def Ws0 (s : So) (N : En → Hh → Prop) (D : Ds) : Prop := match s with
  | .nx ρ h => N ρ h
  | .rt v h => D.rt v h
  | .bk ρ h => D.bk ρ h
  | .ct ρ h => D.ct ρ h
  | .ex c fs ρ h => D.ex c fs ρ h
  | .no => False
structure Ws (s : So) (N : En → Hh → Prop) (D : Ds) : Prop where
  w : Ws0 s N D
def Wo {α : Type} (o : Option (α × Hh)) (Q : α → Hh → Prop) : Prop := match o with
  | some p => Q p.1 p.2
  | none => False
def BrK (b : Bool) (A B : Prop) : Prop := if b = true then A else B
def SetK (i : Nat) (ρ : En) (v : Vl) (h : Hh) (N : En → Hh → Prop) : Prop := N (ρ.set i (some v)) h
def TupK (vs : List Vl) (h : Hh) (Q : Vl → Hh → Prop) : Prop := ∃ ds h2, fzs vs h = some (ds, h2) ∧ fitB ds.length = true ∧ Q (.d (.tuple ds)) h2
def LstK (vs : List Vl) (h : Hh) (Q : Vl → Hh → Prop) : Prop := ∃ ds h2, fzs vs h = some (ds, h2) ∧ fitB ds.length = true ∧ Q (.r h2.length) (h2 ++ [some (.lst ds)])
def FzK (v : Vl) (h : Hh) (n : Nat) (Q : Vl → Hh → Prop) : Prop := ∃ d h2, fz v h = some (d, h2) ∧ Q (.d d) (h2.take n)
def TrK (v : Vl) (h : Hh) (K : Bool → Hh → Prop) : Prop := ∃ b, v = .d (.bool b) ∧ K b h
def RetK (n : Nat) (Q : Vl → Hh → Prop) (v : Vl) (h : Hh) : Prop := ∃ v' h', trunc n v h = .ok v' h' ∧ Q v' h'
section
variable {α β : Type} {o : Out α} {Q : α → Hh → Prop} {E : XP} {N : En → Hh → Prop} {D : Ds} {ρ : En} {h h1 : Hh} {b : Bool} {A B : Prop} {K : Bool → Hh → Prop}
theorem wp_eq {a : α} (e : o = .ok a h1) (q : Q a h1) : Wp o Q E := by rw [e]; exact ⟨q⟩
theorem wp_out (w : Wp o Q NX) : ∃ a h1, o = .ok a h1 ∧ Q a h1 := by
  cases o with
  | ok a h1 => exact ⟨a, h1, rfl, w.w⟩
  | ex c fs h1 => exact w.w.elim
  | no => exact w.w.elim
theorem Wp.mono {Q' : α → Hh → Prop} {E' : XP} (w : Wp o Q' E') (k : ∀ a h1, Q' a h1 → Q a h1) (k2 : ∀ c fs h1, E' c fs h1 → E c fs h1) : Wp o Q E := by
  cases o with
  | ok a h1 => exact ⟨k a h1 w.w⟩
  | ex c fs h1 => exact ⟨k2 c fs h1 w.w⟩
  | no => exact w.w.elim
theorem wp_bind {o : Out β} {k : β → Hh → Out α} (w : Wp o (fun a h1 => Wp (k a h1) Q E) E) : Wp (o.bind k) Q E := by
  cases o with
  | ok a h1 => exact w.w
  | ex c fs h1 => exact ⟨w.w⟩
  | no => exact w.w.elim
theorem ws_then {k : α → Hh → So} (w : Wp o (fun a h1 => Ws (k a h1) N D) (fun c fs h1 => D.ex c fs ρ h1)) : Ws (Out.then ρ o k) N D := by
  cases o with
  | ok a h1 => exact w.w
  | ex c fs h1 => exact ⟨w.w⟩
  | no => exact w.w.elim
theorem brk_t (a : A) : BrK true A B := a
theorem brk_f (a : B) : BrK false A B := a
theorem brk_not (w : BrK b B A) : BrK (!b) A B := by cases b <;> exact w
theorem brk_dec {p : Prop} [Decidable p] (ha : p → A) (hb : ¬ p → B) : BrK (decide p) A B := by
  by_cases z : p
  · rw [decide_eq_true z]; exact ha z
  · rw [decide_eq_false z]; exact hb z
theorem brk_dec1 {p : Prop} [Decidable p] (z : p) (ha : A) : BrK (decide p) A B := by
  rw [decide_eq_true z]; exact ha
theorem brk_dec0 {p : Prop} [Decidable p] (z : ¬ p) (hb : B) : BrK (decide p) A B := by
  rw [decide_eq_false z]; exact hb
theorem brk_and {c : Bool} (w : BrK b (BrK c A B) B) : BrK (b && c) A B := by cases b <;> cases c <;> exact w
theorem trk (q : K b h) : TrK (.d (.bool b)) h K := ⟨b, rfl, q⟩
end
section
variable {Q : Vl → Hh → Prop} {E : XP} {ρ : En} {h : Hh} {a b c : Ev} {g g' : G2} {K : Bool → Hh → Prop} {t u : Tv} {m : Fn} {as : Av} {QL : List Vl → Hh → Prop}
theorem wp_D {d : Da} (q : Q (.d d) h) : Wp (eD d ρ h) Q E := ⟨q⟩
theorem wo_of {o : Option (Vl × Hh)} (w : Wo o Q) : Wp (ofO o) Q E := by
  cases o with
  | some p => exact ⟨w⟩
  | none => exact w.elim
theorem wp_op (w : Wp (a ρ h) (fun x h1 => Wp (b ρ h1) (fun y h2 => Wo (g x y h2) Q) E) E) : Wp (eOp g a b ρ h) Q E :=
  wp_bind (w.mono (fun _ _ w => wp_bind (w.mono (fun _ _ w => wo_of w) fun _ _ _ z => z)) fun _ _ _ z => z)
theorem wp_T (w : Wp (a ρ h) (fun v h1 => TrK v h1 K) E) : Wp (eT a ρ h) K E := wp_bind (w.mono (fun _ _ ⟨b, e, q⟩ => by rw [e]; exact ⟨q⟩) fun _ _ _ z => z)
theorem wp_if (w : Wp (t ρ h) (fun k h1 => BrK k (Wp (a ρ h1) Q E) (Wp (b ρ h1) Q E)) E) : Wp (eIf t a b ρ h) Q E :=
  wp_bind (w.mono (fun k _ w => by cases k <;> exact w) fun _ _ _ z => z)
theorem wp_tor (w : Wp (t ρ h) (fun k h1 => BrK k (K true h1) (Wp (u ρ h1) K E)) E) : Wp (tvOr t u ρ h) K E :=
  wp_bind (w.mono (fun k _ w => by cases k <;> first | exact w | exact ⟨w⟩) fun _ _ _ z => z)
theorem wp_tnot (w : Wp (t ρ h) (fun k h1 => K (!k) h1) E) : Wp (tvNot t ρ h) K E := wp_bind (w.mono (fun _ _ w => ⟨w⟩) fun _ _ _ z => z)
theorem wp_and (w : Wp (a ρ h) (fun v h1 => TrK v h1 fun k h2 => BrK k (Wp (b ρ h2) Q E) (Q (.d (.bool false)) h2)) E) : Wp (eAnd a b ρ h) Q E :=
  wp_bind (wp_T (w.mono (fun _ _ ⟨k, e, q⟩ => ⟨k, e, by cases k <;> first | exact q | exact ⟨q⟩⟩) fun _ _ _ z => z))
theorem wp_or (w : Wp (a ρ h) (fun v h1 => TrK v h1 fun k h2 => BrK k (Q (.d (.bool true)) h2) (Wp (b ρ h2) Q E)) E) : Wp (eOr a b ρ h) Q E :=
  wp_bind (wp_T (w.mono (fun _ _ ⟨k, e, q⟩ => ⟨k, e, by cases k <;> first | exact q | exact ⟨q⟩⟩) fun _ _ _ z => z))
theorem wp_not (w : Wp (a ρ h) (fun v h1 => TrK v h1 fun k h2 => Q (.d (.bool (!k))) h2) E) : Wp (eNot a ρ h) Q E :=
  wp_bind (wp_T (w.mono (fun _ _ ⟨k, e, q⟩ => ⟨k, e, ⟨q⟩⟩) fun _ _ _ z => z))
theorem wp_neg (w : Wp (a ρ h) (fun v h1 => ∃ i, v = .d (.int i) ∧ Q (.d (.int (-i))) h1) E) : Wp (eNeg a ρ h) Q E :=
  wp_bind (w.mono (fun _ _ ⟨i, e, q⟩ => by rw [e]; exact ⟨q⟩) fun _ _ _ z => z)
theorem wp_chain (w : Wp (a ρ h) (fun x h1 => Wp (b ρ h1) (fun y h2 => Wo (g x y h2) fun v h3 => TrK v h3 fun k h4 => BrK k (Wp (c ρ h4) (fun z h5 => Wo (g' y z h5) Q) E) (Q (.d (.bool false)) h4)) E) E) : Wp (eChain g g' a b c ρ h) Q E := by
  refine wp_bind (w.mono (fun x h1 w => wp_bind (w.mono (fun y h2 w => wp_bind (wo_of ?_)) fun _ _ _ z => z)) fun _ _ _ z => z)
  cases e : g x y h2 with
  | none => rw [e] at w; exact w
  | some p =>
    rw [e] at w
    obtain ⟨k, e2, w⟩ := w
    show Wp _ _ _
    rw [e2]
    cases k with
    | false => exact ⟨w⟩
    | true => exact wp_bind (Wp.mono w (fun _ _ z => wo_of z) fun _ _ _ z => z)
theorem wp_nil (w : QL [] h) : Wp (aNil ρ h) QL E := ⟨w⟩
theorem wp_cons (w : Wp (a ρ h) (fun x h1 => Wp (as ρ h1) (fun xs h2 => QL (x :: xs) h2) E) E) : Wp (aCons a as ρ h) QL E :=
  wp_bind (w.mono (fun _ _ w => wp_bind (w.mono (fun _ _ w => ⟨w⟩) fun _ _ _ z => z)) fun _ _ _ z => z)
theorem wp_tup (w : Wp (as ρ h) (fun vs h1 => TupK vs h1 Q) E) : Wp (eTup as ρ h) Q E :=
  wp_bind (w.mono (fun _ _ ⟨ds, h2, e, f, q⟩ => by rw [e]; dsimp only; rw [if_pos f]; exact ⟨q⟩) fun _ _ _ z => z)
theorem wp_lst (w : Wp (as ρ h) (fun vs h1 => LstK vs h1 Q) E) : Wp (eLst as ρ h) Q E :=
  wp_bind (w.mono (fun _ _ ⟨ds, h2, e, f, q⟩ => by rw [e]; dsimp only; rw [if_pos f]; exact ⟨q⟩) fun _ _ _ z => z)
theorem wp_call (w : Wp (as ρ h) (fun vs h1 => Wp (m vs h1) Q E) E) : Wp (eCall m as ρ h) Q E := wp_bind w
theorem wp_blt {g : GC} (w : Wp (as ρ h) (fun vs h1 => Wo (g vs h1) Q) E) : Wp (eBlt g as ρ h) Q E := wp_bind (w.mono (fun _ _ w => wo_of w) fun _ _ _ z => z)
theorem wp_isi {T : Ty} (w : Wp (a ρ h) (fun v h1 => ∃ k, isTy T v h1 = some k ∧ Q (.d (.bool k)) h1) E) : Wp (eIsi T a ρ h) Q E :=
  wp_bind (w.mono (fun _ _ ⟨k, e, q⟩ => by rw [e]; exact ⟨q⟩) fun _ _ _ z => z)
theorem wp_fz (w : Wp (a ρ h) (fun v h1 => FzK v h1 h.length Q) (fun c fs h1 => E c fs (h1.take h.length))) : Wp (eFz a ρ h) Q E := by
  unfold eFz
  revert w
  cases a ρ h with
  | no => exact fun w => w.w.elim
  | ex c fs h1 => exact fun w => ⟨w.w⟩
  | ok v h1 =>
    intro w
    obtain ⟨d, h2, e, q⟩ := w.w
    dsimp only
    rw [e]
    exact ⟨q⟩
theorem wp_fzL (w : Wp (eLst as ρ h) (fun v h1 => FzK v h1 h.length Q) (fun c fs h1 => E c fs (h1.take h.length))) : Wp (eFz (eLst as) ρ h) Q E := wp_fz w
theorem wp_fzO (w : Wp (eOp g a b ρ h) (fun v h1 => FzK v h1 h.length Q) (fun c fs h1 => E c fs (h1.take h.length))) : Wp (eFz (eOp g a b) ρ h) Q E := wp_fz w
theorem wp_fzS {lo hi : Ov} (w : Wp (eSl a lo hi ρ h) (fun v h1 => FzK v h1 h.length Q) (fun c fs h1 => E c fs (h1.take h.length))) : Wp (eFz (eSl a lo hi) ρ h) Q E := wp_fz w
theorem wp_fzT {lo hi st : Ov} (w : Wp (eSt a lo hi st ρ h) (fun v h1 => FzK v h1 h.length Q) (fun c fs h1 => E c fs (h1.take h.length))) : Wp (eFz (eSt a lo hi st) ρ h) Q E := wp_fz w
theorem fzk_d {x : Da} {n : Nat} (e : h.length = n) (q : Q (.d x) h) : FzK (.d x) h n Q := ⟨x, h, rfl, by rw [← e, List.take_length]; exact q⟩
theorem fzk_end {ds : List Da} {n : Nat} (e : h.length = n) (q : Q (.d (.list ds)) h) : FzK (.r h.length) (h ++ [some (.lst ds)]) n Q :=
  ⟨.list ds, (h ++ [some (Ob.lst ds)]).set h.length none, by simp [fz], by
    subst e
    simp
    exact q⟩
theorem wp_slice {lo hi : Ov} (w : Wp (a ρ h) (fun x h1 => Wp (lo ρ h1) (fun l h2 => Wp (hi ρ h2) (fun u h3 => Wo (gSl x l u h3) Q) E) E) E) : Wp (eSl a lo hi ρ h) Q E :=
  wp_bind (w.mono (fun _ _ w => wp_bind (w.mono (fun _ _ w => wp_bind (w.mono (fun _ _ w => wo_of w) fun _ _ _ z => z)) fun _ _ _ z => z)) fun _ _ _ z => z)
theorem wp_oN {QO : Option Int → Hh → Prop} (w : QO none h) : Wp (oNone ρ h) QO E := ⟨w⟩
theorem wp_oS {QO : Option Int → Hh → Prop} (w : Wp (a ρ h) (fun v h1 => ∃ i, v = .d (.int i) ∧ QO (some i) h1) E) : Wp (oSome a ρ h) QO E :=
  wp_bind (w.mono (fun _ _ ⟨i, e, q⟩ => by rw [e]; exact ⟨q⟩) fun _ _ _ z => z)
theorem wp_step {lo hi st : Ov} (w : Wp (a ρ h) (fun x h1 => Wp (lo ρ h1) (fun l h2 => Wp (hi ρ h2) (fun u h3 => Wp (st ρ h3) (fun s h4 => Wo (gSt x l u s h4) Q) E) E) E) E) : Wp (eSt a lo hi st ρ h) Q E :=
  wp_bind (w.mono (fun _ _ w => wp_bind (w.mono (fun _ _ w => wp_bind (w.mono (fun _ _ w => wp_bind (w.mono (fun _ _ w => wo_of w) fun _ _ _ z => z)) fun _ _ _ z => z)) fun _ _ _ z => z)) fun _ _ _ z => z)
end
/-! ### statements -/
def ForK (m : Itm) (g : Gv) (b : Sv) (ρ : En) (h : Hh) (N : En → Hh → Prop) (D : Ds) : Prop := Ws (forL m.gd g b m.ds ρ h) N D
def GvK (o : Option (En × Hh)) (N : En → Hh → Prop) : Prop := Wo o N
section
variable {Q : Vl → Hh → Prop} {E : XP} {ρ : En} {h : Hh} {f : Ev} {N : En → Hh → Prop} {R : Vl → Hh → Prop} {B C : En → Hh → Prop} {X : Str → List (Str × Da) → En → Hh → Prop} {s u : Sv} {t : Tv} {g : Gv} {as : Av}
theorem ws_seq (w : Ws (s ρ h) (fun ρ1 h1 => Ws (u ρ1 h1) N ⟨R, B, C, X⟩) ⟨R, B, C, X⟩) : Ws (sSeq s u ρ h) N ⟨R, B, C, X⟩ := by
  unfold sSeq
  revert w
  cases s ρ h with
  | nx ρ1 h1 => exact fun w => w.w
  | no => exact fun w => w.w.elim
  | _ => exact fun w => ⟨w.w⟩
theorem ws_set {i : Nat} (w : Wp (f ρ h) (fun v h1 => SetK i ρ v h1 N) (fun c fs h1 => X c fs ρ h1)) : Ws (sSet i f ρ h) N ⟨R, B, C, X⟩ := ws_then (w.mono (fun _ _ q => ⟨q⟩) fun _ _ _ z => z)
theorem ws_ret (w : Wp (f ρ h) R (fun c fs h1 => X c fs ρ h1)) : Ws (sRet f ρ h) N ⟨R, B, C, X⟩ := ws_then (w.mono (fun _ _ q => ⟨q⟩) fun _ _ _ z => z)
theorem ws_expr (w : Wp (f ρ h) (fun _ h1 => N ρ h1) (fun c fs h1 => X c fs ρ h1)) : Ws (sExpr f ρ h) N ⟨R, B, C, X⟩ := ws_then (w.mono (fun _ _ q => ⟨q⟩) fun _ _ _ z => z)
theorem ws_if (w : Wp (t ρ h) (fun k h1 => BrK k (Ws (s ρ h1) N ⟨R, B, C, X⟩) (Ws (u ρ h1) N ⟨R, B, C, X⟩)) (fun c fs h1 => X c fs ρ h1)) : Ws (sIf t s u ρ h) N ⟨R, B, C, X⟩ :=
  ws_then (w.mono (fun k _ w => by cases k <;> exact w) fun _ _ _ z => z)
theorem ws_nil (w : N ρ h) : Ws (sNil ρ h) N ⟨R, B, C, X⟩ := ⟨w⟩
theorem ws_par {i j : Nat} (w : Wp (as ρ h) (fun vs h1 => ∃ v v', vs = [v, v'] ∧ SetK i ρ v h1 fun ρ1 h1 => SetK j ρ1 v' h1 N) (fun c fs h1 => X c fs ρ h1)) : Ws (sPar i j as ρ h) N ⟨R, B, C, X⟩ :=
  ws_then (w.mono (fun _ _ ⟨v, v', e, q⟩ => by rw [e]; exact ⟨q⟩) fun _ _ _ z => z)
theorem ws_asg (w : Wp (f ρ h) (fun v h1 => GvK (g v ρ h1) N) (fun c fs h1 => X c fs ρ h1)) : Ws (sAsg g f ρ h) N ⟨R, B, C, X⟩ :=
  ws_then (w.mono (fun v h1 w => by
    unfold GvK at w
    revert w
    cases g v ρ h1 with
    | none => exact fun w => w.elim
    | some p => exact fun w => ⟨w⟩) fun _ _ _ z => z)
theorem ws_for {i : Iv} (w : Wp (i ρ h) (fun m h1 => ForK m g s ρ h1 N ⟨R, B, C, X⟩) (fun c fs h1 => X c fs ρ h1)) : Ws (sFor i g s ρ h) N ⟨R, B, C, X⟩ := ws_then w
theorem gk_n {i : Nat} {v : Vl} (w : SetK i ρ v h N) : GvK (gN i v ρ h) N := w
theorem gk_setD {o ix : Ev} {v : Vl} (w : Wp (o ρ h) (fun x h1 => Wp (ix ρ h1) (fun y h2 => ∃ h3, setD x y v h2 = some h3 ∧ N ρ h3) NX) NX) : GvK (gSetD o ix v ρ h) N := by
  obtain ⟨x, h1, e1, w⟩ := wp_out w
  obtain ⟨y, h2, e2, h3, e3, q⟩ := wp_out w
  unfold GvK gSetD
  rw [e1]
  simp only [okO, Option.bind_some]
  rw [e2]
  simp only [okO, Option.bind_some]
  rw [e3]
  exact q
theorem gk_tup2 {i j : Nat} {d0 d1 : Da} (w : SetK i ρ (.d d0) h fun ρ1 h1 => SetK j ρ1 (.d d1) h1 N) : GvK (gTupT 2 (gsCons (gN i) (gsCons (gN j) gsNil)) (.d (.tuple [d0, d1])) ρ h) N := w
theorem forK_nil (w : N ρ h) : ForK ⟨[], none⟩ g s ρ h N ⟨R, B, C, X⟩ := by
  unfold ForK
  show Ws (forL none g s [] ρ h) N ⟨R, B, C, X⟩
  unfold forL
  rw [if_pos (show gdOk none h from trivial)]
  exact ⟨w⟩
theorem forK_gen {gd : Option (Nat × List Da)} {d : Da} {ds : List Da} (hg : gdOk gd h) (w : GvK (g (.d d) ρ h) fun ρ1 h1 => Ws (s ρ1 h1) (fun ρ2 h2 => ForK ⟨ds, gd⟩ g s ρ2 h2 N ⟨R, B, C, X⟩) ⟨R, N, fun ρ2 h2 => ForK ⟨ds, gd⟩ g s ρ2 h2 N ⟨R, B, C, X⟩, X⟩) : ForK ⟨d :: ds, gd⟩ g s ρ h N ⟨R, B, C, X⟩ := by
  unfold ForK
  show Ws (forL gd g s (d :: ds) ρ h) N ⟨R, B, C, X⟩
  unfold forL
  rw [if_pos hg]
  unfold GvK at w
  revert w
  cases g (.d d) ρ h with
  | none => exact fun w => w.elim
  | some p =>
    obtain ⟨ρ1, h1⟩ := p
    show Ws (s ρ1 h1) _ _ → Ws (match s ρ1 h1 with
      | .nx ρ' h' => forL gd g s ds ρ' h'
      | .ct ρ' h' => forL gd g s ds ρ' h'
      | .bk ρ' h' => .nx ρ' h'
      | r => r) N ⟨R, B, C, X⟩
    cases s ρ1 h1 with
    | nx ρ2 h2 => exact fun w => w.w
    | ct ρ2 h2 => exact fun w => w.w
    | no => exact fun w => w.w.elim
    | _ => exact fun w => ⟨w.w⟩
theorem forK_cons {d : Da} {ds : List Da} (w : GvK (g (.d d) ρ h) fun ρ1 h1 => Ws (s ρ1 h1) (fun ρ2 h2 => ForK ⟨ds, none⟩ g s ρ2 h2 N ⟨R, B, C, X⟩) ⟨R, N, fun ρ2 h2 => ForK ⟨ds, none⟩ g s ρ2 h2 N ⟨R, B, C, X⟩, X⟩) : ForK ⟨d :: ds, none⟩ g s ρ h N ⟨R, B, C, X⟩ := forK_gen trivial w
/-- a loop by what stands ahead of each turn -/
theorem forK_inv {ds : List Da} (I : Nat → En → Hh → Prop) (h0 : I 0 ρ h)
    (st : ∀ (k : Nat) (d : Da) (ρ1 : En) (h1 : Hh), ds[k]? = some d → I k ρ1 h1 → GvK (g (.d d) ρ1 h1) fun ρ2 h2 => Ws (s ρ2 h2) (I (k + 1)) ⟨R, N, I (k + 1), X⟩)
    (fin : ∀ ρ1 h1, I ds.length ρ1 h1 → N ρ1 h1) : ForK ⟨ds, none⟩ g s ρ h N ⟨R, B, C, X⟩ := by
  have go : ∀ (n k : Nat) (ρ : En) (h : Hh), n = ds.length - k → k ≤ ds.length → I k ρ h → ForK ⟨ds.drop k, none⟩ g s ρ h N ⟨R, B, C, X⟩ := by
    intro n
    induction n with
    | zero =>
      intro k ρ h hn hk i
      have : k = ds.length := by omega
      subst this
      rw [List.drop_length]
      exact forK_nil (fin _ _ i)
    | succ n ih =>
      intro k ρ h hn hk i
      have hk' : k < ds.length := by omega
      rw [List.drop_eq_getElem_cons hk']
      have w := st k ds[k] ρ h (List.getElem?_eq_getElem hk') i
      refine forK_cons ?_
      unfold GvK at *
      revert w
      cases g (.d ds[k]) ρ h with
      | none => exact fun w => w
      | some p =>
        obtain ⟨ρ1, h1⟩ := p
        show Ws (s ρ1 h1) _ _ → Ws (s ρ1 h1) _ _
        cases s ρ1 h1 with
        | nx ρ2 h2 => exact fun w => ⟨ih (k + 1) ρ2 h2 (by omega) (by omega) w.w⟩
        | ct ρ2 h2 => exact fun w => ⟨ih (k + 1) ρ2 h2 (by omega) (by omega) w.w⟩
        | bk ρ2 h2 => exact fun w => ⟨w.w⟩
        | rt v h2 => exact fun w => ⟨w.w⟩
        | ex c fs ρ2 h2 => exact fun w => ⟨w.w⟩
        | no => exact fun w => w.w.elim
  have := go _ 0 ρ h rfl (Nat.zero_le _) h0
  rwa [List.drop_zero] at this
end
/-! ### a def entered -/
section
variable {Q : Vl → Hh → Prop} {E : XP} {h : Hh} {body : Sv} {as : List Vl} {k n : Nat}
theorem wp_def (hl : as.length = k) {ρ : En} (er : enter n as = ρ) (w : Ws (body ρ h) (fun _ h1 => RetK h.length Q (.d .none) h1) ⟨RetK h.length Q, fun _ _ => False, fun _ _ => False, fun c fs _ h1 => E c fs (h1.take h.length)⟩) : Wp (mkF k n body as h) Q E := by
  unfold mkF
  rw [if_pos hl, er]
  revert w
  cases body ρ h with
  | nx ρ1 h1 => exact fun ⟨v, h2, e, q⟩ => wp_eq e q
  | rt v h1 => exact fun ⟨v, h2, e, q⟩ => wp_eq e q
  | bk ρ1 h1 => exact fun w => w.w.elim
  | ct ρ1 h1 => exact fun w => w.w.elim
  | ex c fs ρ1 h1 => exact fun w => ⟨w.w⟩
  | no => exact fun w => w.w.elim
theorem retK_d {x : Da} (e : h.length = n) (q : Q (.d x) h) : RetK n Q (.d x) h := ⟨.d x, h, by subst e; show Out.ok _ _ = _; rw [List.take_length], q⟩
theorem retK_d' {x : Da} {l : Hh} (e : h.length = n) (q : Q (.d x) h) : RetK n Q (.d x) (h ++ l) := ⟨.d x, h, by subst e; show Out.ok _ _ = _; rw [List.take_left' rfl], q⟩
end

section
variable {Q : Vl → Hh → Prop} {E : XP} {h : Hh} {v : Vl} {N : En → Hh → Prop} {r : En}
variable {o0 o1 o2 o3 o4 o5 o6 o7 o8 o9 o10 o11 o12 o13 o14 o15 o16 o17 o18 o19 o20 o21 o22 o23 o24 o25 : Option Vl}
theorem wp_v0 (q : Q v h) : Wp (eVar 0 (some v :: r) h) Q E := ⟨q⟩
theorem setk0 (q : N (some v :: r) h) : SetK 0 (o0 :: r) v h N := q
theorem wp_v1 (q : Q v h) : Wp (eVar 1 (o0 :: some v :: r) h) Q E := ⟨q⟩
theorem setk1 (q : N (o0 :: some v :: r) h) : SetK 1 (o0 :: o1 :: r) v h N := q
theorem wp_v2 (q : Q v h) : Wp (eVar 2 (o0 :: o1 :: some v :: r) h) Q E := ⟨q⟩
theorem setk2 (q : N (o0 :: o1 :: some v :: r) h) : SetK 2 (o0 :: o1 :: o2 :: r) v h N := q
theorem wp_v3 (q : Q v h) : Wp (eVar 3 (o0 :: o1 :: o2 :: some v :: r) h) Q E := ⟨q⟩
theorem setk3 (q : N (o0 :: o1 :: o2 :: some v :: r) h) : SetK 3 (o0 :: o1 :: o2 :: o3 :: r) v h N := q
theorem wp_v4 (q : Q v h) : Wp (eVar 4 (o0 :: o1 :: o2 :: o3 :: some v :: r) h) Q E := ⟨q⟩
theorem setk4 (q : N (o0 :: o1 :: o2 :: o3 :: some v :: r) h) : SetK 4 (o0 :: o1 :: o2 :: o3 :: o4 :: r) v h N := q
theorem wp_v5 (q : Q v h) : Wp (eVar 5 (o0 :: o1 :: o2 :: o3 :: o4 :: some v :: r) h) Q E := ⟨q⟩
theorem setk5 (q : N (o0 :: o1 :: o2 :: o3 :: o4 :: some v :: r) h) : SetK 5 (o0 :: o1 :: o2 :: o3 :: o4 :: o5 :: r) v h N := q
theorem wp_v6 (q : Q v h) : Wp (eVar 6 (o0 :: o1 :: o2 :: o3 :: o4 :: o5 :: some v :: r) h) Q E := ⟨q⟩
theorem setk6 (q : N (o0 :: o1 :: o2 :: o3 :: o4 :: o5 :: some v :: r) h) : SetK 6 (o0 :: o1 :: o2 :: o3 :: o4 :: o5 :: o6 :: r) v h N := q
theorem wp_v7 (q : Q v h) : Wp (eVar 7 (o0 :: o1 :: o2 :: o3 :: o4 :: o5 :: o6 :: some v :: r) h) Q E := ⟨q⟩
theorem setk7 (q : N (o0 :: o1 :: o2 :: o3 :: o4 :: o5 :: o6 :: some v :: r) h) : SetK 7 (o0 :: o1 :: o2 :: o3 :: o4 :: o5 :: o6 :: o7 :: r) v h N := q
theorem wp_v8 (q : Q v h) : Wp (eVar 8 (o0 :: o1 :: o2 :: o3 :: o4 :: o5 :: o6 :: o7 :: some v :: r) h) Q E := ⟨q⟩
theorem setk8 (q : N (o0 :: o1 :: o2 :: o3 :: o4 :: o5 :: o6 :: o7 :: some v :: r) h) : SetK 8 (o0 :: o1 :: o2 :: o3 :: o4 :: o5 :: o6 :: o7 :: o8 :: r) v h N := q
theorem wp_v9 (q : Q v h) : Wp (eVar 9 (o0 :: o1 :: o2 :: o3 :: o4 :: o5 :: o6 :: o7 :: o8 :: some v :: r) h) Q E := ⟨q⟩
theorem setk9 (q : N (o0 :: o1 :: o2 :: o3 :: o4 :: o5 :: o6 :: o7 :: o8 :: some v :: r) h) : SetK 9 (o0 :: o1 :: o2 :: o3 :: o4 :: o5 :: o6 :: o7 :: o8 :: o9 :: r) v h N := q
end
section
variable {Q : Vl → Hh → Prop} {h : Hh}
variable {d0 d1 d2 d3 d4 d5 d6 d7 d8 d9 d10 d11 d12 d13 d14 d15 d16 d17 d18 d19 d20 d21 d22 d23 d24 d25 : Da}
theorem tupk0 (q : Q (.d (.tuple [])) h) : TupK [] h Q := ⟨[], h, rfl, rfl, q⟩
theorem lstk0 (q : Q (.r h.length) (h ++ [some (.lst [])])) : LstK [] h Q := ⟨[], h, rfl, rfl, q⟩
theorem tupk1 (q : Q (.d (.tuple [d0])) h) : TupK [.d d0] h Q := ⟨[d0], h, rfl, rfl, q⟩
theorem lstk1 (q : Q (.r h.length) (h ++ [some (.lst [d0])])) : LstK [.d d0] h Q := ⟨[d0], h, rfl, rfl, q⟩
theorem tupk2 (q : Q (.d (.tuple [d0, d1])) h) : TupK [.d d0, .d d1] h Q := ⟨[d0, d1], h, rfl, rfl, q⟩
theorem lstk2 (q : Q (.r h.length) (h ++ [some (.lst [d0, d1])])) : LstK [.d d0, .d d1] h Q := ⟨[d0, d1], h, rfl, rfl, q⟩
theorem tupk3 (q : Q (.d (.tuple [d0, d1, d2])) h) : TupK [.d d0, .d d1, .d d2] h Q := ⟨[d0, d1, d2], h, rfl, rfl, q⟩
theorem lstk4 (q : Q (.r h.length) (h ++ [some (.lst [d0, d1, d2, d3])])) : LstK [.d d0, .d d1, .d d2, .d d3] h Q := ⟨[d0, d1, d2, d3], h, rfl, rfl, q⟩
theorem lstk6 (q : Q (.r h.length) (h ++ [some (.lst [d0, d1, d2, d3, d4, d5])])) : LstK [.d d0, .d d1, .d d2, .d d3, .d d4, .d d5] h Q := ⟨[d0, d1, d2, d3, d4, d5], h, rfl, rfl, q⟩
theorem lstk9 (q : Q (.r h.length) (h ++ [some (.lst [d0, d1, d2, d3, d4, d5, d6, d7, d8])])) : LstK [.d d0, .d d1, .d d2, .d d3, .d d4, .d d5, .d d6, .d d7, .d d8] h Q := ⟨[d0, d1, d2, d3, d4, d5, d6, d7, d8], h, rfl, rfl, q⟩
theorem lstk10 (q : Q (.r h.length) (h ++ [some (.lst [d0, d1, d2, d3, d4, d5, d6, d7, d8, d9])])) : LstK [.d d0, .d d1, .d d2, .d d3, .d d4, .d d5, .d d6, .d d7, .d d8, .d d9] h Q := ⟨[d0, d1, d2, d3, d4, d5, d6, d7, d8, d9], h, rfl, rfl, q⟩
end
end Rk

/-! Rk20: the operators' rules; sizes. -/
namespace Rk
open PySem PySem.Spec L2
section
variable {Q : Vl → Hh → Prop} {h : Hh} {a b : Int} {r s : Rat}
theorem wo_eq {o : Option (Vl × Hh)} {v : Vl} {h' : Hh} (e : o = some (v, h')) (q : Q v h') : Wo o Q := by rw [e]; exact q
theorem wo_add (q : Q (.d (.int (a + b))) h) : Wo (gAdd (.d (.int a)) (.d (.int b)) h) Q := q
theorem wo_sub (q : Q (.d (.int (a - b))) h) : Wo (gInt fSub (.d (.int a)) (.d (.int b)) h) Q := q
theorem wo_mul (m : IntMulOk a b) (q : Q (.d (.int (a * b))) h) : Wo (gInt fMul (.d (.int a)) (.d (.int b)) h) Q := wo_eq (by rw [gInt_eq, fMul_eq m]; rfl) q
theorem wo_div (b0 : 0 < b) (m : Builtin.divisionGoesByPylong a b = false) (q : Q (.d (.int (a / b))) h) : Wo (gInt fDiv (.d (.int a)) (.d (.int b)) h) Q :=
  wo_eq (by rw [gInt_eq, fDiv_eq (by omega) m, Int.fdiv_eq_ediv_of_nonneg _ (by omega)]; rfl) q
theorem wo_mod (b0 : 0 < b) (q : Q (.d (.int (a % b))) h) : Wo (gInt fMod (.d (.int a)) (.d (.int b)) h) Q :=
  wo_eq (by rw [gInt_eq, fMod_eq (by omega), Int.fmod_eq_emod_of_nonneg _ (by omega)]; rfl) q
theorem wo_pow {n : Nat} (h1 : n ≤ 1000000) (h2 : a.natAbs < 2 ^ 64) (q : Q (.d (.int (a ^ n))) h) : Wo (gInt fPow (.d (.int a)) (.d (.int (OfNat.ofNat n))) h) Q :=
  wo_eq (by
    rw [gInt_eq, show (OfNat.ofNat n : Int) = (n : Int) from rfl]
    unfold fPow
    rw [if_pos ⟨by omega, by omega, h2⟩]; rfl) q
theorem wo_le (q : Q (.d (.bool (decide (a ≤ b)))) h) : Wo (gInt fLe (.d (.int a)) (.d (.int b)) h) Q := q
theorem wo_gt (q : Q (.d (.bool (decide (b < a)))) h) : Wo (gInt fGt (.d (.int a)) (.d (.int b)) h) Q := q
theorem wo_ge (q : Q (.d (.bool (decide (b ≤ a)))) h) : Wo (gInt fGe (.d (.int a)) (.d (.int b)) h) Q := q
theorem wo_eqI (q : Q (.d (.bool (decide (a = b)))) h) : Wo (gEq (.d (.int a)) (.d (.int b)) h) Q := wo_eq gEq_int q
theorem wo_neI (q : Q (.d (.bool (!decide (a = b)))) h) : Wo (gNe (.d (.int a)) (.d (.int b)) h) Q := wo_eq gNe_int q
theorem wo_eqQ (q : Q (.d (.bool (decide (r = s)))) h) : Wo (gEq (.d (Rk.Q r)) (.d (Rk.Q s)) h) Q := wo_eq gEq_Q q
theorem wo_eqS {x y : Str} (q : Q (.d (.bool (decide (x = y)))) h) : Wo (gEq (.d (.str x)) (.d (.str y)) h) Q := q
theorem wo_neS {x y : Str} (q : Q (.d (.bool (!decide (x = y)))) h) : Wo (gNe (.d (.str x)) (.d (.str y)) h) Q := q
theorem wo_eqB {x y : Bool} (q : Q (.d (.bool (decide (x = y)))) h) : Wo (gEq (.d (.bool x)) (.d (.bool y)) h) Q := wo_eq gEq_bool q
theorem wo_ixQ0 (q : Q (.d (.int r.num)) h) : Wo (gIx (.d (Rk.Q r)) (.d (.int 0)) h) Q := wo_eq ixQ0 q
theorem wo_ixQ1 (q : Q (.d (.int r.den)) h) : Wo (gIx (.d (Rk.Q r)) (.d (.int 1)) h) Q := wo_eq ixQ1 q
theorem wo_iyL {x : Vl} {ds : List Da} (e : x = .d (.list ds)) (w : Wo (gIx x (.d (.int a)) h) Q) : Wo (gIy x (.d (.int a)) h) Q := by subst e; exact w
/-- a written list, or tuple, at a drawn place -/
theorem wo_menu {ds : List Da} (P : Da → Prop) (h0 : 0 ≤ a) (h1 : a < ds.length) (hp : ∀ d ∈ ds, P d) (q : ∀ d, P d → Q (.d d) h) : Wo (gIx (.d (.list ds)) (.d (.int a)) h) Q := by
  have e : ds[a.toNat]? = some (ds[a.toNat]'(by omega)) := List.getElem?_eq_getElem _
  have := gIxF (h := h) e
  rw [show ((a.toNat : Nat) : Int) = a by omega] at this
  exact wo_eq this (q _ (hp _ (List.getElem_mem _)))
def IntIn (lo hi : Int) (d : Da) : Prop := ∃ i, d = .int i ∧ lo ≤ i ∧ i ≤ hi
theorem wo_abs (q : Q (.d (.int (a.natAbs : Int))) h) : Wo (gAbs [.d (.int a)] h) Q := wo_eq (by rw [gAbs_eq, abs_eq]) q
theorem wo_lenT {ds : List Da} (q : Q (.d (.int ds.length)) h) : Wo (gLen [.d (.tuple ds)] h) Q := q
theorem wo_lenL {ds : List Da} (q : Q (.d (.int ds.length)) h) : Wo (gLen [.d (.list ds)] h) Q := q
theorem wo_lenQ (q : Q (.d (.int 2)) h) : Wo (gLen [.d (Rk.Q r)] h) Q := q
theorem wo_tupL {ds : List Da} (q : Q (.d (.tuple ds)) h) : Wo (gTuple [.d (.list ds)] h) Q := q
theorem wo_addL {xs ys : List Da} (hl : xs.length + ys.length ≤ 16777216) (q : Q (.r h.length) (h ++ [some (.lst (xs ++ ys))])) : Wo (gAdd (.d (.list xs)) (.d (.list ys)) h) Q :=
  wo_eq (v := .r h.length) (h' := h ++ [some (.lst (xs ++ ys))]) (by
    unfold gAdd asL
    dsimp only
    rw [if_pos (fitB_ok hl)]) q
theorem wo_addL' {xs ys zs : List Da} (e : xs ++ ys = zs) (hl : xs.length + ys.length ≤ 16777216) (q : Q (.r h.length) (h ++ [some (.lst zs)])) : Wo (gAdd (.d (.list xs)) (.d (.list ys)) h) Q := wo_addL hl (by rw [e]; exact q)
theorem wo_addT' {xs ys zs : List Da} (e : xs ++ ys = zs) (hl : xs.length + ys.length ≤ 16777216) (q : Q (.d (.tuple zs)) h) : Wo (gAdd (.d (.tuple xs)) (.d (.tuple ys)) h) Q :=
  wo_eq (v := .d (.tuple zs)) (h' := h) (by
    unfold gAdd
    dsimp only
    rw [if_pos (fitB_ok hl), e]) q
theorem wo_slL {xs : List Da} {lo hi : Option Int} (q : Q (.r h.length) (h ++ [some (.lst (cutD xs lo hi))])) : Wo (gSl (.d (.list xs)) lo hi h) Q := q
theorem wo_stL {xs : List Da} {lo hi st : Option Int} (h1 : st ≠ some 0) (h2 : (pickG xs lo hi st).length ≤ 16777216) (q : Q (.r h.length) (h ++ [some (.lst (pickG xs lo hi st))])) : Wo (gSt (.d (.list xs)) lo hi st h) Q :=
  wo_eq (v := .r h.length) (h' := h ++ [some (.lst (pickG xs lo hi st))]) (by
    unfold gSt asL
    dsimp only
    rw [if_pos ⟨h1, h2⟩]) q
end
section
variable {Q : Vl → Hh → Prop} {h : Hh} {a0 a1 a2 a3 a4 a5 : Da} {l : List Da}
theorem wo_ix0 (q : Q (.d a0) h) : Wo (gIx (.d (.tuple (a0 :: l))) (.d (.int 0)) h) Q := wo_eq ix0 q
theorem wo_ix1 (q : Q (.d a1) h) : Wo (gIx (.d (.tuple (a0 :: a1 :: l))) (.d (.int 1)) h) Q := wo_eq ix1 q
theorem wo_ix2 (q : Q (.d a2) h) : Wo (gIx (.d (.tuple (a0 :: a1 :: a2 :: l))) (.d (.int 2)) h) Q := wo_eq ix2 q
theorem wo_ix3 (q : Q (.d a3) h) : Wo (gIx (.d (.tuple (a0 :: a1 :: a2 :: a3 :: l))) (.d (.int 3)) h) Q := wo_eq ix3 q
theorem wo_ix4 (q : Q (.d a4) h) : Wo (gIx (.d (.tuple (a0 :: a1 :: a2 :: a3 :: a4 :: l))) (.d (.int 4)) h) Q := wo_eq ix4 q
theorem wo_il0 (q : Q (.d a0) h) : Wo (gIx (.d (.list (a0 :: l))) (.d (.int 0)) h) Q := wo_eq (gIxF (k := 0) rfl) q
theorem wo_il1 (q : Q (.d a1) h) : Wo (gIx (.d (.list (a0 :: a1 :: l))) (.d (.int 1)) h) Q := wo_eq (gIxF (k := 1) rfl) q
theorem wo_il2 (q : Q (.d a2) h) : Wo (gIx (.d (.list (a0 :: a1 :: a2 :: l))) (.d (.int 2)) h) Q := wo_eq (gIxF (k := 2) rfl) q
theorem wo_il3 (q : Q (.d a3) h) : Wo (gIx (.d (.list (a0 :: a1 :: a2 :: a3 :: l))) (.d (.int 3)) h) Q := wo_eq (gIxF (k := 3) rfl) q
end
/-! ### sizes, by form -/
section
variable {n m : Nat} {x y : Int} {r s : Rat}
theorem Bd.lit (x : Int) : Bd (x.natAbs.log2 + 1) x := by
  unfold Bd
  exact Nat.lt_log2_self
theorem BQ.pos (h : BQ n r) : 0 < n := Nat.pos_of_ne_zero fun z => by
  subst z
  have h2 : ((r.den : Int)).natAbs < 1 := h.2
  have := r.den_nz
  omega
theorem BQ.nu (h : BQ n r) : Bd n r.num := h.1
theorem BQ.dn (h : BQ n r) : Bd n (r.den : Int) := h.2
theorem Bd.abs (h : Bd n x) : Bd n (x.natAbs : Int) := h.le (by omega)
theorem BQ.add' (hr : BQ n r) (hs : BQ m s) : BQ (n + m + 1) (r + s) := hr.add hs (by have := hr.pos; omega)
theorem BQ.sub' (hr : BQ n r) (hs : BQ m s) : BQ (n + m + 1) (r - s) := hr.sub hs (by have := hr.pos; omega)
theorem BQ.mul' (hr : BQ n r) (hs : BQ m s) : BQ (n + m) (r * s) := hr.mul hs (by have := hr.pos; omega)
theorem BQ.div' (hr : BQ n r) (hs : BQ m s) : BQ (n + m) (r / s) := hr.div hs (by have := hr.pos; omega)
theorem BQ.ite {c : Prop} [Decidable c] (hr : BQ n r) (hs : BQ m s) : BQ (max n m) (if c then r else s) := by
  split
  · exact hr.mono (Nat.le_max_left ..)
  · exact hs.mono (Nat.le_max_right ..)
theorem BQ.i (h : Bd n x) : BQ (n + 1) (x : Rat) := BQ_int (h.mono (Nat.le_succ _)) (Nat.succ_pos _)
theorem BQ.zero : BQ 1 0 := by unfold BQ Bd; decide
theorem BQ.one : BQ 1 1 := by unfold BQ Bd; decide
end
end Rk

/-! Rk21: heads of goals; what is walked; comprehensions; places of dicts. -/
namespace Rk
open PySem PySem.Spec L2
section
variable {α : Type} {o : Out α} {Q : α → Hh → Prop} {E : XP} {N : En → Hh → Prop} {D : Ds} {s : So} {oo : Option (α × Hh)} {ρ : En} {h : Hh} {i n : Nat} {v : Vl} {vs : List Vl} {QV : Vl → Hh → Prop} {b : Bool} {A B : Prop}
theorem hd_Wp (w : Wp o Q E) : Wp o Q E := w
theorem hd_Ws (w : Ws s N D) : Ws s N D := w
theorem hd_Wo (w : Wo oo Q) : Wo oo Q := w
theorem hd_SetK (w : SetK i ρ v h N) : SetK i ρ v h N := w
theorem hd_TupK (w : TupK vs h QV) : TupK vs h QV := w
theorem hd_LstK (w : LstK vs h QV) : LstK vs h QV := w
theorem hd_BrK (w : BrK b A B) : BrK b A B := w
end
section
variable {h : Hh} {QV : Vl → Hh → Prop}
theorem ex_int {i : Int} {P : Int → Prop} (q : P i) : ∃ j : Int, (Vl.d (.int i) : Vl) = .d (.int j) ∧ P j := ⟨i, rfl, q⟩
theorem ex_par {v w : Vl} {P : Vl → Vl → Prop} (q : P v w) : ∃ v' w', [v, w] = [v', w'] ∧ P v' w' := ⟨v, w, rfl, q⟩
end
/-! ### what is walked -/
section
variable {QI : Itm → Hh → Prop} {E : XP} {ρ : En} {h : Hh} {f : Ev} {as : Av} {QV : Vl → Hh → Prop}
theorem wp_iv (w : Wp (f ρ h) (fun v h1 => Wp (itQ v h1) QI E) E) : Wp (iv itQ f ρ h) QI E := wp_bind w
theorem wp_itT {ds : List Da} (q : QI ⟨ds, none⟩ h) : Wp (itQ (.d (.tuple ds)) h) QI E := ⟨q⟩
theorem wp_itL {ds : List Da} (q : QI ⟨ds, none⟩ h) : Wp (itQ (.d (.list ds)) h) QI E := ⟨q⟩
theorem wp_rng1 (w : Wp (as ρ h) (fun vs h1 => ∃ j : Int, vs = [.d (.int j)] ∧ rgB j = true ∧ QI ⟨rngD 0 j.toNat, none⟩ h1) E) : Wp (iRange1 as ρ h) QI E :=
  wp_bind (w.mono (fun _ _ ⟨j, e, r, q⟩ => by rw [e]; show Wp (if rgB j = true then _ else _) _ _; rw [if_pos r]; exact ⟨q⟩) fun _ _ _ z => z)
theorem ex_rng {j : Int} {P : Int → Prop} (r : rgB j = true) (q : P j) : ∃ k : Int, [Vl.d (.int j)] = [.d (.int k)] ∧ rgB k = true ∧ P k := ⟨j, rfl, r, q⟩
end
theorem rgB_of {j : Int} (h1 : -1000000000000 ≤ j) (h2 : j ≤ 1000000000000) : rgB j = true := by
  unfold rgB
  rw [decide_eq_true h1, decide_eq_true h2]
  rfl
/-! ### comprehensions whose list is never changed -/
section
variable {Q : Vl → Hh → Prop} {E : XP} {ρ : En} {h : Hh} {i : Iv} {g : Gv} {tt : Tv} {fe : Ev} {ws : List Nat}
end
end Rk

/-! Rk22: lesser, greater; truths; texts of data. -/
namespace Rk
open PySem PySem.Spec L2
def mn (r s : Rat) : Rat := if s < r then s else r
def mx (r s : Rat) : Rat := if r < s then s else r
theorem BQ.mn {n m : Nat} {r s : Rat} (hr : BQ n r) (hs : BQ m s) : BQ (max n m) (mn r s) := by
  unfold Rk.mn
  split
  · exact hs.mono (Nat.le_max_right ..)
  · exact hr.mono (Nat.le_max_left ..)
theorem BQ.mx {n m : Nat} {r s : Rat} (hr : BQ n r) (hs : BQ m s) : BQ (max n m) (mx r s) := by
  unfold Rk.mx
  split
  · exact hs.mono (Nat.le_max_right ..)
  · exact hr.mono (Nat.le_max_left ..)
section
variable {Q : Vl → Hh → Prop} {h : Hh} {x y : Da} {b c : Bool}
theorem qb (q : Q (.d (.bool b)) h) (e : c = b) : Q (.d (.bool c)) h := by rw [e]; exact q
end
theorem qq {r s : Rat} (e : r = s) : Q r = Q s := by rw [e]
/-! ### data that can be told as a text -/
structure Shw (k e : Nat) (d : Da) : Prop where
  s : d.showable = true
  n : d.hasDict = false
  p : d.depth ≤ e
  l : d.shown.length ≤ k
structure ShwL (k e : Nat) (ds : List Da) : Prop where
  s : PyData.showableAll ds = true
  n : PyData.hasDictAll ds = false
  d : PyData.depthAll ds ≤ e
  l : piled (PyData.shownAll ds) ≤ k
theorem Shw.none : Shw 4 0 .none := ⟨by simp [PyData.showable], by simp [PyData.hasDict], by simp [PyData.depth], by simp only [PyData.shown]; decide⟩
theorem Shw.bool (b : Bool) : Shw 5 0 (.bool b) := ⟨by simp [PyData.showable], by simp [PyData.hasDict], by simp [PyData.depth], by cases b <;> simp only [PyData.shown] <;> decide⟩
theorem Shw.int {i : Int} {n : Nat} (h : Bd n i) (hn : n ≤ 1920) : Shw 1921 0 (.int i) := by
  have l : i.natAbs.log2 < 1920 := by
    rcases Nat.eq_zero_or_pos i.natAbs with z | z
    · rw [z]; decide
    · exact (Nat.log2_lt (Nat.ne_of_gt z)).mpr (Nat.lt_of_lt_of_le h (Nat.pow_le_pow_right (by decide) hn))
  exact ⟨by simp only [PyData.showable]; exact decide_eq_true l, by simp [PyData.hasDict], by simp [PyData.depth], by simp only [PyData.shown]; rw [ofString_length]; exact int_text_length_le (k := 1920) (by decide) l⟩
theorem ShwL.nil : ShwL 0 0 [] := ⟨by simp [PyData.showableAll], by simp [PyData.hasDictAll], by simp [PyData.depthAll], by simp [PyData.shownAll, piled]⟩
theorem ShwL.cons {k e k' e' : Nat} {d : Da} {ds : List Da} (h : Shw k e d) (t : ShwL k' e' ds) : ShwL (k + 2 + k') (max e e') (d :: ds) := by
  refine ⟨?_, ?_, ?_, ?_⟩
  · simp only [PyData.showableAll, h.s, t.s, Bool.and_self]
  · simp only [PyData.hasDictAll, h.n, t.n, Bool.or_self]
  · simp only [PyData.depthAll]
    have := h.p
    have := t.d
    omega
  · simp only [PyData.shownAll, piled_cons]
    have := h.l
    have := t.l
    omega
theorem Shw.tup {k e : Nat} {ds : List Da} (t : ShwL k e ds) : Shw (k + 3) (e + 1) (.tuple ds) := by
  refine ⟨by simp only [PyData.showable]; exact t.s, by simp only [PyData.hasDict]; exact t.n, by simp only [PyData.depth]; have := t.d; omega, ?_⟩
  simp only [PyData.shown]
  have hl := t.l
  unfold tupleText
  have j : (Str.join ", " (PyData.shownAll ds)).length ≤ piled (PyData.shownAll ds) := by
    by_cases z : PyData.shownAll ds = []
    · rw [z]; decide
    · have := join_length_add _ z
      omega
  rw [Str.length_append, Str.length_append]
  have a : (Str.ofString "(").length = 1 := by decide
  have b : (Str.ofString (if (PyData.shownAll ds).length == 1 then ",)" else ")")).length ≤ 2 := by split <;> decide
  have a' : ("(" : Str).length = 1 := a
  omega
theorem Shw.lst {k e : Nat} {ds : List Da} (t : ShwL k e ds) : Shw (k + 3) (e + 1) (.list ds) := by
  refine ⟨by simp only [PyData.showable]; exact t.s, by simp only [PyData.hasDict]; exact t.n, by simp only [PyData.depth]; have := t.d; omega, ?_⟩
  simp only [PyData.shown]
  have hl := t.l
  unfold listText
  have j : (textFrom 0 "[" (PyData.shownAll ds)).length ≤ 1 + piled (PyData.shownAll ds) := by
    cases e : PyData.shownAll ds with
    | nil => decide
    | cons x xs =>
      have h1 := textFrom_length_pos xs 1 (("[" : Str) ++ ("" : Str) ++ x) (by decide)
      have h2 : textFrom 0 "[" (x :: xs) = textFrom 1 (("[" : Str) ++ ("" : Str) ++ x) xs := rfl
      rw [h2, h1, piled_cons, Str.length_append, Str.length_append]
      have a1 : ("[" : Str).length = 1 := by decide
      have a2 : ("" : Str).length = 0 := by decide
      omega
  rw [Str.length_append]
  have b : ("]" : Str).length = 1 := by decide
  omega
theorem Shw.Q {r : Rat} {n : Nat} (h : BQ n r) (hn : n ≤ 1920) : Shw 4000 1 (Q r) :=
  let t := Shw.tup (ShwL.cons (Shw.int h.1 hn) (ShwL.cons (Shw.int h.2 hn) ShwL.nil))
  ⟨t.s, t.n, t.p, Nat.le_trans t.l (by decide)⟩
theorem Shw.mono {k e k' e' : Nat} {d : Da} (h : Shw k e d) (a : k ≤ k') (b : e ≤ e') : Shw k' e' d := ⟨h.s, h.n, Nat.le_trans h.p b, Nat.le_trans h.l a⟩
section
variable {Q : Vl → Hh → Prop} {h : Hh} {r : Rat}
theorem tq_neg (q : Q (.d (Rk.Q (-r))) h) : TupK [.d (.int (0 - r.num)), .d (.int r.den)] h Q := tupk2 (by rw [Q_neg] at q; exact q)
theorem tq_abs (q : Q (.d (Rk.Q r.abs)) h) : TupK [.d (.int (r.num.natAbs : Int)), .d (.int r.den)] h Q := tupk2 (by rw [Q_abs] at q; exact q)
theorem tq_lit {a b : Int} (r : Rat) (e1 : r.num = a) (e2 : (r.den : Int) = b) (q : Q (.d (Rk.Q r)) h) : TupK [.d (.int a), .d (.int b)] h Q := tupk2 (by unfold Rk.Q at q; rw [e1, e2] at q; exact q)
end
theorem Q_lit {a b : Int} (r : Rat) (e1 : r.num = a) (e2 : (r.den : Int) = b) : (.tuple [.int a, .int b] : Da) = Q r := by unfold Q; rw [e1, e2]
theorem BQ.lit (k : Nat) : BQ (k.log2 + 2) (OfNat.ofNat k : Rat) := by
  have : (OfNat.ofNat k : Rat) = ((k : Int) : Rat) := rfl
  rw [this]
  exact BQ_int (Bd.mono (bd_nat Nat.lt_log2_self) (Nat.le_succ _)) (Nat.succ_pos _)
section
variable {Q : Vl → Hh → Prop} {h : Hh} {d0 d1 d2 d3 d4 d5 d6 d7 d8 d9 d10 d11 d12 d13 d14 d15 : Da}
theorem wo_lenT2 (q : Q (.d (.int 2)) h) : Wo (gLen [.d (.tuple [d0, d1])] h) Q := q
end
end Rk

/-! Rk23: a list that is no more changed from here on. -/
namespace Rk
open PySem PySem.Spec L2
def sFrz (i : Nat) : Sv := fun ρ h => match ρ[i]? with
  | some (some v) => match fz v h with
    | some p => .nx (ρ.set i (some (.d p.1))) p.2
    | none => .no
  | _ => .no
section
variable {X : Cx} {W : WX} {ss : List Stmt} {f : Sv}
theorem ess_frz (i : Nat) (p : ESs X W ss f) : ESs X W ss (sSeq (sFrz i) f) :=
  PSs.of p fun D σ H ⟨φ, h, ρ, sm, er, q⟩ => by
    unfold sSeq sFrz at q
    split at q
    · rename_i v ev
      split at q
      · rename_i p e
        obtain ⟨d, h2⟩ := p
        obtain ⟨x, e1, rv⟩ := er.at_ i v ev
        obtain ⟨s1, s2, s3⟩ := fz_ok sm rv e
        have hi : i < ρ.length := (List.getElem?_eq_some_iff.mp ev).1
        refine ⟨φ, h2, ρ.set i (some (.d d)), s2, ?_, PoS.pull s1 q⟩
        have er2 := er.step s1
        refine ⟨by rw [er2.len, List.length_set], fun j w e2 => ?_⟩
        by_cases hj : i = j
        · subst hj
          rw [List.getElem?_set_self hi] at e2
          have e3 := Option.some.inj (Option.some.inj e2)
          subst e3
          exact ⟨x, e1, s3⟩
        · rw [List.getElem?_set_ne hj] at e2
          exact er2.at_ j w e2
      · exact q.elim
    · exact q.elim
end
section
variable {N : En → Hh → Prop} {D : Ds} {ρ : En} {h l : Hh} {i k : Nat} {ds : List Da}
theorem ws_frz {v : Vl} {d : Da} {h2 : Hh} (ev : ρ[i]? = some (some v)) (e : fz v h = some (d, h2)) (q : SetK i ρ (.d d) h2 N) : Ws (sFrz i ρ h) N D := by
  unfold sFrz
  rw [ev]
  dsimp only
  rw [e]
  exact ⟨q⟩
/-- the list at the end -/
theorem ws_frzE (hk : h.length = k) (ev : ρ[i]? = some (some (.r k))) (q : SetK i ρ (.d (.list ds)) (h ++ none :: l) N) : Ws (sFrz i ρ (h ++ some (.lst ds) :: l)) N D := by
  subst hk
  exact ws_frz (d := .list ds) ev (by unfold fz; dsimp only; rw [get_at, set_at]) q
end
/-! ### comprehensions over typed parts -/
section
variable {gd : Option (Nat × List Da)} {g : Gv} {tt : Tv} {fe : Ev} {ρ0 : En} {h : Hh} {α : Type} {f g' : α → Da} {P : α → Bool}
theorem lc_mapR (hgd : ∀ o, gdOk gd (h ++ [o])) : ∀ (xs : List α) (acc : List Da), (∀ x ∈ xs, ∀ h', ∃ ρ1, g (.d (f x)) ρ0 h' = some (ρ1, h') ∧ tt ρ1 h' = .ok (P x) h' ∧ (P x = true → fe ρ1 h' = .ok (.d (g' x)) h')) → acc.length + xs.length ≤ 16777216 →
    lcL gd h.length g tt fe ρ0 (xs.map f) (h ++ [some (.lst acc)]) = .ok (.r h.length) (h ++ [some (.lst (acc ++ (xs.filter P).map g'))])
  | [], acc, _, _ => by
    rw [List.map_nil, lcL_nil (hgd _)]
    simp
  | d :: ds, acc, H, hl => by
    obtain ⟨ρ1, e1, e2, e3⟩ := H d (List.mem_cons_self ..) (h ++ [some (.lst acc)])
    rw [List.length_cons] at hl
    rw [List.map_cons]
    by_cases p : P d = true
    · rw [p] at e2
      rw [lcL_cons (hgd _) e1 e2 (e3 p) (appL_end rfl (by omega)), lc_mapR hgd ds (acc ++ [g' d]) (fun d hd => H d (List.mem_cons_of_mem _ hd)) (by rw [List.length_append, List.length_singleton]; omega), List.filter_cons_of_pos p]
      simp
    · have p' : P d = false := by simpa using p
      rw [p'] at e2
      rw [lcL_skip (hgd _) e1 e2, lc_mapR hgd ds acc (fun d hd => H d (List.mem_cons_of_mem _ hd)) (by omega), List.filter_cons_of_neg p]
end
section
variable {Q : Vl → Hh → Prop} {E : XP} {ρ : En} {h : Hh} {i : Iv} {g : Gv} {tt : Tv} {fe : Ev} {ws : List Nat}
/-- every part told by a function, some left out by a test -/
theorem wp_lcT {α : Type} (xs : List α) (f g' : α → Da) (P : α → Bool) {ρ0 : En} (e00 : wipeE ρ ws = ρ0) (w : Wp (i ρ h) (fun m h1 => m = ⟨xs.map f, none⟩ ∧ xs.length ≤ 16777216 ∧ h1.length = h.length ∧
      (∀ x ∈ xs, ∀ h', GvK (g (.d (f x)) ρ0 h') fun ρ1 h2 => h2 = h' ∧ Wp (tt ρ1 h') (fun b h3 => h3 = h' ∧ b = P x) NX ∧ (P x = true → Wp (fe ρ1 h') (fun v h3 => h3 = h' ∧ v = .d (g' x)) NX)) ∧
      Q (.d (.list ((xs.filter P).map g'))) h1) (fun c fs h1 => E c fs (h1.take h.length))) : Wp (eFz (eLc ws i g tt fe) ρ h) Q E := by
  subst e00
  refine wp_fz (wp_bind (w.mono ?_ fun _ _ _ z => z))
  rintro m h1 ⟨rfl, hl, hh, H, q⟩
  have lf := lc_mapR (gd := none) (g := g) (tt := tt) (fe := fe) (ρ0 := wipeE ρ ws) (h := h1) (f := f) (g' := g') (P := P) (fun _ => trivial) xs [] (fun d hd h' => by
    have k := H d hd h'
    unfold GvK Wo at k
    revert k
    cases e : g (.d (f d)) (wipeE ρ ws) h' with
    | none => exact fun z => z.elim
    | some p =>
      obtain ⟨ρ1, h2⟩ := p
      rintro ⟨rfl, wt, wf⟩
      obtain ⟨b, h3, e1, rfl, rfl⟩ := wp_out wt
      refine ⟨ρ1, rfl, e1, fun hp => ?_⟩
      obtain ⟨v, h3, e2, rfl, rfl⟩ := wp_out (wf hp)
      exact e2) (by simpa using hl)
  rw [List.nil_append] at lf
  exact wp_eq lf (fzk_end hh q)
/-- every part told by a function -/
theorem wp_lcR {α : Type} (xs : List α) (f g' : α → Da) {ρ0 : En} (e00 : wipeE ρ ws = ρ0) (w : Wp (i ρ h) (fun m h1 => m = ⟨xs.map f, none⟩ ∧ xs.length ≤ 16777216 ∧ h1.length = h.length ∧
      (∀ x ∈ xs, ∀ h', GvK (g (.d (f x)) ρ0 h') fun ρ1 h2 => h2 = h' ∧ Wp (fe ρ1 h') (fun v h3 => h3 = h' ∧ v = .d (g' x)) NX) ∧
      Q (.d (.list (xs.map g'))) h1) (fun c fs h1 => E c fs (h1.take h.length))) : Wp (eFz (eLc ws i g tvYes fe) ρ h) Q E :=
  wp_lcT xs f g' (fun _ => true) e00 (w.mono (fun m h1 ⟨e0, hl, hh, H, q⟩ => ⟨e0, hl, hh, fun d hd h' => by
    have k := H d hd h'
    unfold GvK Wo at *
    revert k
    cases g (.d (f d)) ρ0 h' with
    | none => exact fun z => z
    | some p => exact fun ⟨a, b⟩ => ⟨a, ⟨⟨rfl, rfl⟩⟩, fun _ => b⟩, by
      have e : xs.filter (fun _ => true) = xs := List.filter_eq_self.mpr fun _ _ => rfl
      rw [e]; exact q⟩) fun _ _ _ z => z)
end
/-! ### small ranges; menus -/
section
variable {ρ : En} {h : Hh} {N : En → Hh → Prop} {D : Ds} {g : Gv} {s : Sv}
theorem rng_get {lo : Int} {n k : Nat} {d : Da} (e : (rngD lo n)[k]? = some d) : d = .int (lo + (k : Int)) ∧ k < n := by
  unfold rngD at e
  rw [List.getElem?_map] at e
  cases z : (List.range n)[k]? with
  | none => rw [z] at e; cases e
  | some j =>
    rw [z] at e
    have hk := (List.getElem?_eq_some_iff.mp z).1
    rw [List.length_range] at hk
    rw [List.getElem?_range hk] at z
    cases z
    exact ⟨(Option.some.inj e).symm, hk⟩
end
/-! ### a list at the end of the heap -/
section
variable {h l : Hh} {Q : Vl → Hh → Prop} {k : Nat} {ds : List Da} {v a0 a1 a2 : Da} {r : List Da}
end
/-! ### pairs of fractions, equal or not -/
section
variable {Q : Vl → Hh → Prop} {h : Hh} {a b c d : Rat}
end
end Rk

/-! Rk24: t[::-1]. -/
namespace Rk
open PySem PySem.Spec L2 PyProof.Rows
section
variable {prog : Program} {w : World} {A : Around} {E : Value → Shared → Prop} {s : Shared}
theorem sliceApplied_rev {sl : Addr} {vl vu vs : Value} {n : Nat} {Q : Int × Int × Nat → Shared → Prop} (hs : s.heap.IsSliceOf sl vl vu vs) (pl : IsPart vl none) (pu : IsPart vu none) (ps : IsPart vs (some (-1)))
    (h : Q ((n : Int) - 1, -1, n) s) : wpAny (model prog w) A (Builtin.Slice.sliceApplied (.ref sl) (pure (n : Int))) Q E s := by
  obtain ⟨os, hos, hcs, hds⟩ := id hs
  unfold Builtin.Slice.sliceApplied Builtin.Slice.sliceFields
  refine wpAny_bind (wpAny_bind (wpAny_field hos hds (x := vl) rfl (wpAny_bind (wpAny_field hos hds (x := vu) rfl (wpAny_bind (wpAny_field hos hds (x := vs) rfl (wpAny_pure ?_)))))))
  refine wpAny_bind (HT.slicePart_ ps ?_)
  show wpAny _ _ (if ((-1 : Int) == 0) = true then _ else _) _ _ s
  rw [if_neg (by decide)]
  refine wpAny_bind (HT.slicePart_ pl (wpAny_bind (HT.slicePart_ pu (wpAny_bind (wpAny_pure ?_)))))
  show wpAny _ _ (pure ((n : Int) - 1, (-1 : Int), Builtin.Slice.slicePlaces ((n : Int) - 1) (-1) (-1))) _ _ s
  have e : Builtin.Slice.slicePlaces ((n : Int) - 1) (-1) (-1) = n := by
    unfold Builtin.Slice.slicePlaces
    rw [if_neg (by decide), show -(-1 : Int) = 1 from rfl, Int.ediv_one]
    split <;> omega
  rw [e]
  exact wpAny_pure h
theorem pick_rev (xs : Array Value) : ((List.range xs.size).filterMap fun (m : Nat) => xs[(((xs.size : Nat) : Int) - 1 + (m : Int) * (-1)).toNat]?).toArray = xs.toList.reverse.toArray := by
  congr 1
  apply List.ext_getElem?
  intro i
  have all : ∀ k, k ≤ xs.size → ((List.range k).filterMap fun (m : Nat) => xs[(((xs.size : Nat) : Int) - 1 + (m : Int) * (-1)).toNat]?) = (List.range k).map fun m => xs.getD (xs.size - 1 - m) .none := by
    intro k
    induction k with
    | zero => intro _; rfl
    | succ k ih =>
      intro hk
      rw [List.range_succ, List.filterMap_append, List.map_append, ih (by omega)]
      congr 1
      have e : (((xs.size : Nat) : Int) - 1 + (k : Int) * (-1)).toNat = xs.size - 1 - k := by omega
      have hlt : xs.size - 1 - k < xs.size := by omega
      simp only [List.filterMap_cons, List.filterMap_nil, List.map_cons, List.map_nil, e, Array.getElem?_eq_getElem hlt, Array.getD, dif_pos hlt]
      rfl
  rw [all xs.size (Nat.le_refl _)]
  by_cases hi : i < xs.size
  · rw [List.getElem?_map, List.getElem?_range hi, List.getElem?_reverse (by simpa using hi)]
    have h2 : xs.size - 1 - i < xs.size := by omega
    simp [Array.getD, h2]
  · rw [List.getElem?_eq_none (by simp; omega), List.getElem?_eq_none (by simp; omega)]
theorem getItem_tuple_rev {t sl : Addr} {items : Array Value} {vl vu vs : Value} {Q : Value → Shared → Prop} (ht : IsTup s.heap t items) (hs : s.heap.IsSliceOf sl vl vu vs) (pl : IsPart vl none) (pu : IsPart vu none) (ps : IsPart vs (some (-1)))
    (h : Q (.ref s.heap.objs.size) { s with heap := s.heap.push { cls := .type "tuple", data := .seq items.toList.reverse.toArray } })
    (hsz : items.size ≤ sizeLine) : wpAny (model prog w) A (getItem (.ref t) (.ref sl)) Q E s := by
  have htake : sizeOk (.seq items.toList.reverse.toArray) := by
    show items.toList.reverse.toArray.size ≤ sizeLine
    simpa using hsz
  obtain ⟨os, hos, hcs, hds⟩ := id hs
  have hTs : s.TypeIs (.ref sl) "slice" := ⟨os, hos, hcs⟩
  unfold getItem
  try with_reducible refine wpAny_holding ?_
  first | refine wpAny_bind (wpAny_pure ?_) | skip
  refine wpAny_bind (wpAny_sequenceKey ht.typeIs (by decide) ?_)
  refine wpAny_bind (wpAny_callSpecial?_slot (name := Str.ofString "__getitem__") ht.typeIs PyProof.Rows.slot_tuple_getitem
    (wpAny_call_entry PyProof.Rows.slot_tuple_getitem ht.typeIs entry_tuple_getitem ?_ (args_tuple_getitem _ _)))
  show wpAny _ _ (Builtin.Tuple.tupleItemsOf (.ref t) >>= _) _ _ s
  refine wpAny_bind (tupleItemsOf_ ht ?_)
  refine wpAny_bind (wpAny_typeOf hTs ?_)
  rw [if_pos (by decide)]
  refine wpAny_bind (sliceApplied_rev hs pl pu ps ?_)
  have hno : ¬ ((((items.size : Nat) : Int) - 1 == 0 && (-1 : Int) == 1 && items.size == items.size) = true) := by
    intro q
    rw [Bool.and_eq_true, Bool.and_eq_true] at q
    exact absurd (eq_of_beq q.1.2) (by decide)
  show wpAny _ _ (if (((items.size : Nat) : Int) - 1 == 0 && (-1 : Int) == 1 && items.size == items.size) = true then _ else _) _ _ s
  rw [if_neg hno, pick_rev]
  first
    | exact wpAny_bind (m := Builtin.Tuple.tupleExact _) (wpAny_newObj_type (wpAny_pure ⟨_, rfl, wpAny_pure h⟩) htake)
    | exact wpAny_bind (m := Builtin.Tuple.tupleExact _) (wpAny_newObj_type (wpAny_bind (wpAny_pure (wpAny_pure ⟨_, rfl, wpAny_pure h⟩))) htake)
    | exact wpAny_bind (wpAny_bind (m := Builtin.Tuple.tupleExact _) (wpAny_newObj_type (wpAny_pure (wpAny_pure ⟨_, rfl, wpAny_pure h⟩)) htake))
    | exact wpAny_bind (wpAny_bind (m := Builtin.Tuple.tupleExact _) (wpAny_newObj_type (wpAny_pure ⟨_, rfl, wpAny_pure h⟩) htake))
end
theorem vals_rev {xs : List V} {us : List Value} (r : Vals xs us) : Vals xs.reverse us.reverse := by
  have app : ∀ {a b : List V} {c d : List Value}, Vals a c → Vals b d → Vals (a ++ b) (c ++ d) := by
    intro a b c d h1 h2
    induction h1 with
    | nil => exact h2
    | cons r t ih => exact .cons r ih
  induction r with
  | nil => exact .nil
  | cons r t ih =>
    rw [List.reverse_cons, List.reverse_cons]
    exact app ih (.cons r .nil)
theorem reps_rev {K : PySem.W.Frag} {H : Hp} {M : Addr → Prop} : ∀ {xs : List V} {ds : List Da}, Reps K H M xs ds → Reps K H M xs.reverse ds.reverse
  | _, _, .nil => .nil
  | _, _, .cons r t => by
    rw [List.reverse_cons, List.reverse_cons]
    exact (reps_rev t).append (.cons r .nil)
def tRev (K : PySem.W.Frag) (te : TE) (tl th ts : TO) : TE := fun σ H Q => te σ H fun x H1 => tl σ H1 fun lo H2 => th σ H2 fun hi H3 => ts σ H3 fun st H4 => ∃ a xs, x = .ref a ∧ SqT K H4 a xs ∧ lo = none ∧ hi = none ∧ st = some (-1) ∧ ∀ p, H4 p = none → Q (.ref p) (upd H4 p (.tup xs.reverse))
section
variable {X : Cx}
theorem pe_rev {e : Expr} {lo hi : Option Expr} {st : Expr} {te : TE} {tl th ts : TO} {p3 pos : Pos} (he : PE X e te) (hl : PO X lo tl) (hh : PO X hi th) (hs : PO X (some st) ts) : PE X (.Subscript e (.Slice lo hi (some st) p3) pos) (tRev X.K te tl th ts) := by
  constructor
  intro pins s σ H Q I h
  refine Subscript_ (thn (he.run pins s σ H _ I h) ?_)
  rintro v s1 ⟨x, H1, I1, r1, q1⟩
  refine wpAny_Slice (thn (hl.run pins s1 σ H1 _ I1 q1) ?_)
  rintro vl s2 ⟨l, H2, I2, pl, q2⟩
  refine thn (hh.run pins s2 σ H2 _ I2 q2) ?_
  rintro vu s3 ⟨u, H3, I3, pu, q3⟩
  refine thn (hs.run pins s3 σ H3 _ I3 q3) ?_
  rintro vs s4 ⟨o, H4, I4, ps, a, xs, ex, hx, rfl, rfl, rfl, q⟩
  subst ex
  cases r1
  have I5 : Inv X pins σ H4 { s4 with heap := s4.heap.push { cls := .type "slice", data := .fields #[vl, vu, vs] } } := I4.kept (t' := s4.toks) fun b ob z => Heap.get?_push_of_some _ z
  obtain ⟨its, r, ht, hz⟩ := I5.tuple hx
  have hlen := r.length
  refine tail_any (ops := [.ref a, .ref s4.heap.objs.size]) ht.typeIs PyProof.Rows.slot_tuple_getitem.lookup ?_ (by with_unfolding_all rfl)
  refine getItem_tuple_rev ht (Heap.IsSliceOf.new _ vl vu vs) pl pu ps ?_ (by rw [List.size_toArray, ← hlen]; exact hz)
  refine ⟨.ref _, _, I5.laid (t' := s4.toks) (o := .tup xs.reverse) (fun b ob z => Heap.get?_push_of_some _ z) (Nat.le_refl _) ?_, rfl, q _ (I5.hok.fresh (Nat.le_refl _))⟩
  exact ⟨by rw [List.length_reverse]; exact hz, _, vals_rev r, IsTup.new _ _⟩
theorem PE.orr {e : Expr} {t u : TE} (h : PE X e t) (k : PE X e u) : PE X e (fun σ H Q => t σ H Q ∨ u σ H Q) := ⟨fun pins s σ H Q I w => w.elim (h.run pins s σ H Q I) (k.run pins s σ H Q I)⟩
end
def gRv (x : Vl) (h : Hh) : Option (Vl × Hh) := match x with
  | .d (.tuple xs) => some (.d (.tuple xs.reverse), h)
  | x => gSt x none none (some (-1)) h
def eRv (f : Ev) : Ev := fun ρ h => (f ρ h).bind fun x h1 => ofO (gRv x h1)
section
variable {X : Cx} {W : WX} {a st : Expr} {fa : Ev} {pos p2 : Pos} {fs : Ov}
theorem ee_rv (ha : EE X W a fa) (hs : EO X W (some st) fs) (hf : ∀ ρ h, fs ρ h = .ok (some (-1)) h) : EE X W (.Subscript a (.Slice none none (some st) p2) pos) (eRv fa) :=
  PE.of (PE.orr (ee_step ha eo_none eo_none hs) (pe_rev ha (eo_none (X := X) (W := W)) (eo_none (X := X) (W := W)) hs)) fun σ H Q ⟨φ, h, ρ, sm, er, q⟩ => by
    unfold eRv at q
    by_cases c : ∃ xs h1, fa ρ h = .ok (.d (.tuple xs)) h1
    · right
      obtain ⟨xs, h1, e⟩ := c
      rw [e] at q
      refine ⟨φ, h, ρ, sm, er, ?_⟩
      rw [e]
      intro x H1 φ1 st1 sm1 rv
      refine ⟨φ1, h1, ρ, sm1, er.step st1, fun H2 φ2 st2 sm2 => ⟨φ2, h1, ρ, sm2, (er.step st1).step st2, fun H3 φ3 st3 sm3 => ⟨φ3, h1, ρ, sm3, ((er.step st1).step st2).step st3, ?_⟩⟩⟩
      rw [hf]
      intro H4 φ4 st4 sm4
      have rv4 := rv.step ((st2.trans st3).trans st4)
      obtain ⟨p, zs, rfl, sq, rs⟩ := VRep.tup rv4
      refine ⟨p, zs, rfl, sq, rfl, rfl, rfl, fun n hn => ?_⟩
      obtain ⟨s1, s2, s3⟩ := new_tup sm4 (reps_rev rs) hn
      exact q _ _ _ ((((st1.trans st2).trans st3).trans st4).trans s1) s2 s3
    · left
      refine ⟨φ, h, ρ, sm, er, ?_⟩
      revert q
      unfold eSt
      cases e : fa ρ h with
      | no => exact fun q => q
      | ex c fs h1 => exact fun q => q
      | ok v h1 =>
        show PoX _ _ _ _ _ (ofO (gRv v h1)) _ _ → PoX _ _ _ _ _ ((fs ρ h1).bind _) _ _
        rw [hf]
        have : gRv v h1 = gSt v none none (some (-1)) h1 := by
          unfold gRv
          split
          · exact absurd ⟨_, _, e⟩ c
          · rfl
        rw [this]
        exact fun q => q
end
section
variable {Q : Vl → Hh → Prop} {E : XP} {ρ : En} {h : Hh} {a : Ev} {xs : List Da}
theorem wp_rv (w : Wp (a ρ h) (fun x h1 => Wo (gRv x h1) Q) E) : Wp (eRv a ρ h) Q E := wp_bind (w.mono (fun _ _ w => wo_of w) fun _ _ _ z => z)
theorem wp_fzR (w : Wp (eRv a ρ h) (fun v h1 => FzK v h1 h.length Q) (fun c fs h1 => E c fs (h1.take h.length))) : Wp (eFz (eRv a) ρ h) Q E := wp_fz w
end
/-! ### append to a list at the end -/
section
variable {Q : Vl → Hh → Prop} {E : XP} {ρ : En} {h l : Hh} {o : Ev} {as : Av} {g : GM} {k : Nat} {ds es : List Da} {v : Da} {A : Prop}
theorem wp_mtL (w : Wp (o ρ h) (fun x h1 => tyL x h1 = true ∧ Wp (as ρ h1) (fun vs h2 => Wo (g x vs h2) Q) E) E) : Wp (eMt tyL g o as ρ h) Q E :=
  wp_bind (w.mono (fun _ _ ⟨e, w⟩ => by
    rw [if_pos e]
    exact wp_bind (w.mono (fun _ _ w => wo_of w) fun _ _ _ z => z)) fun _ _ _ z => z)
theorem tyL_E (hk : h.length = k) (a : A) : tyL (.r k) (h ++ some (.lst ds) :: l) = true ∧ A := by
  subst hk
  exact ⟨tyL_at get_at, a⟩
theorem wo_appE (hk : h.length = k) (e : ds ++ [v] = es) (hl : ds.length < 16777216) (q : Q (.d .none) (h ++ some (.lst es) :: l)) : Wo (gApp (.r k) [.d v] (h ++ some (.lst ds) :: l)) Q := by
  subst hk
  refine wo_eq (gApp_at get_at hl) ?_
  rw [set_at, e]
  exact q
end
def mn4 (p q r s : Rat) : Rat := mn (mn (mn p q) r) s
def mx4 (p q r s : Rat) : Rat := mx (mx (mx p q) r) s
section
variable {Q : Vl → Hh → Prop} {h : Hh} {ds : List Da} {r : Rat} {i : Int} {b : Bool} {x : Str}
theorem wo_isNn (q : Q (.d (.bool true)) h) : Wo (gIsN (.d .none) (.d .none) h) Q := q
theorem wo_isNt (q : Q (.d (.bool false)) h) : Wo (gIsN (.d (.tuple ds)) (.d .none) h) Q := q
theorem wo_isNq (q : Q (.d (.bool false)) h) : Wo (gIsN (.d (Rk.Q r)) (.d .none) h) Q := q
theorem wo_ntNn (q : Q (.d (.bool false)) h) : Wo (gNotN (.d .none) (.d .none) h) Q := q
end
end Rk

/-! Rk25: comprehensions part by part; strings; rulers. -/
namespace Rk
open PySem PySem.Spec L2
def LcK (D : Nat) (g : Gv) (fe : Ev) (ρ0 : En) (ds acc : List Da) (hb : Hh) (Q : Vl → Hh → Prop) : Prop :=
  Wp (lcL none D g tvYes fe ρ0 ds (hb ++ [some (.lst acc)])) (fun v h1 => FzK v h1 D Q) NX
section
variable {Q : Vl → Hh → Prop} {E : XP} {ρ ρ0 : En} {h hb : Hh} {i : Iv} {g : Gv} {fe : Ev} {ws : List Nat} {D : Nat} {d : Da} {ds acc acc' : List Da}
theorem wp_lcU (e00 : wipeE ρ ws = ρ0) (w : Wp (i ρ h) (fun m h1 => m.gd = none ∧ h1.length = h.length ∧ LcK h.length g fe ρ0 m.ds [] h1 Q) (fun c fs h1 => E c fs (h1.take h.length))) : Wp (eFz (eLc ws i g tvYes fe) ρ h) Q E := by
  subst e00
  refine wp_fz (wp_bind (w.mono ?_ fun _ _ _ z => z))
  rintro ⟨ds, gd⟩ h1 ⟨e0, hl, w⟩
  dsimp only at e0 w
  subst e0
  dsimp only
  rw [hl]
  exact Wp.mono w (fun _ _ z => z) fun _ _ _ z => z.elim
theorem lck_nil (e : hb.length = D) (q : Q (.d (.list acc)) hb) : LcK D g fe ρ0 [] acc hb Q := by
  subst e
  unfold LcK
  rw [lcL_nil (gd := none) trivial]
  exact wp_eq rfl (fzk_end rfl q)
theorem lck_cons (w : GvK (g (.d d) ρ0 (hb ++ [some (.lst acc)])) fun ρ1 h1 => Wp (fe ρ1 h1) (fun v h2 => ∃ x hb', v = .d x ∧ h2 = hb' ++ [some (.lst acc)] ∧ hb'.length = D ∧ acc.length < 16777216 ∧ LcK D g fe ρ0 ds (acc ++ [x]) hb' Q) NX) : LcK D g fe ρ0 (d :: ds) acc hb Q := by
  unfold LcK
  unfold GvK Wo at w
  revert w
  cases e : g (.d d) ρ0 (hb ++ [some (.lst acc)]) with
  | none => exact fun z => z.elim
  | some p =>
    obtain ⟨ρ1, h1⟩ := p
    intro w
    obtain ⟨v, h2, e2, x, hb', rfl, rfl, e3, hl, w⟩ := wp_out w
    rw [lcL_cons (gd := none) trivial e rfl e2 (appL_end e3 hl)]
    exact w
end
section
variable {Q : Vl → Hh → Prop} {h : Hh} {R : Ruler}
end
end Rk

/-! Rk26: how far rounding goes. -/
namespace Rk
open PySem PySem.Spec L2
section
variable {R : Ruler} {x y : Rat} {n m : Nat}
theorem abs_in {a b x : Rat} (h1 : a ≤ x) (h2 : x ≤ b) : x.abs ≤ mx a.abs b.abs := by
  unfold Rat.abs mx
  grind
end
end Rk

/-! Rk27: a list at the end, beside a state that is drawn from: the heap in the form (h ++ list :: l).set n o. -/
namespace Rk
open PySem PySem.Spec L2
section
variable {h l : Hh} {Q : Vl → Hh → Prop} {E : XP} {k n m : Nat} {ds es : List Da} {v a0 a1 : Da} {r : List Da} {o : Option Ob} {A : Prop} {N : En → Hh → Prop} {D : Ds} {ρ : En} {i : Nat}
theorem wp_norm {f : Fn} {as : List Vl} (hn : n < h.length) (w : n < (h ++ l).length → Wp (f as ((h ++ l).set n o)) Q E) : Wp (f as (h.set n o ++ l)) Q E := by
  have := w (by rw [List.length_append]; omega)
  rwa [set_app hn] at this
theorem wo_appS (hn : n < h.length) (hk : h.length = k) (e : ds ++ [v] = es) (hl : ds.length < 16777216) (q : Q (.d .none) ((h ++ some (.lst es) :: l).set n o)) : Wo (gApp (.r k) [.d v] ((h ++ some (.lst ds) :: l).set n o)) Q := by
  rw [set_app hn]
  rw [set_app hn] at q
  exact wo_appE (by rw [List.length_set]; exact hk) e hl q
theorem tyL_S (hn : n < h.length) (hk : h.length = k) (a : A) : tyL (.r k) ((h ++ some (.lst ds) :: l).set n o) = true ∧ A := by
  rw [set_app hn]
  exact tyL_E (by rw [List.length_set]; exact hk) a
theorem ws_frzS (hn : n < h.length) (hk : h.length = k) (ev : ρ[i]? = some (some (.r k))) (q : SetK i ρ (.d (.list ds)) ((h ++ none :: l).set n o) N) : Ws (sFrz i ρ ((h ++ some (.lst ds) :: l).set n o)) N D := by
  rw [set_app hn]
  rw [set_app hn] at q
  exact ws_frzE (by rw [List.length_set]; exact hk) ev q
theorem retK_S {x : Da} (hn : n < h.length) (e : h.length = m) (q : Q (.d x) (h.set n o)) : RetK m Q (.d x) ((h ++ l).set n o) := by
  rw [set_app hn]
  exact retK_d' (by rw [List.length_set]; exact e) q
end
end Rk

/-! Rk28: zip of two lists or of two tuples of data; all and any of a list of truths. -/
namespace Rk
open PySem PySem.Spec L2
variable {mg : Str → Option Value}
def zipD (xs ys : List Da) : List Da := (xs.zip ys).map fun p => .tuple [p.1, p.2]
section
variable {K : PySem.W.Frag}
end
def iZip (as : Av) : Iv := fun ρ h => (as ρ h).bind fun vs h1 => match vs with
  | [.d (.list xs), .d (.list ys)] => .ok ⟨zipD xs ys, none⟩ h1
  | [.d (.tuple xs), .d (.tuple ys)] => .ok ⟨zipD xs ys, none⟩ h1
  | _ => .no
section
variable {X : Cx} {W : WX} {pos p : Pos} {fs : Av}
end
section
variable {QI : Itm → Hh → Prop} {E : XP} {ρ : En} {h : Hh} {as : Av} {xs ys : List Da}
end
def boolsOf : List Da → Option (List Bool)
  | [] => some []
  | .bool b :: r => (boolsOf r).map (b :: ·)
  | _ => none
def intsOf : List Da → Option (List Int)
  | [] => some []
  | .int b :: r => (intsOf r).map (b :: ·)
  | _ => none
def gAll : GC := fun as h => match as with
  | [.d (.list ds)] => (boolsOf ds).map fun bs => (.d (.bool (bs.all id)), h)
  | _ => none
def gAny : GC := fun as h => match as with
  | [.d (.list ds)] => (boolsOf ds).map fun bs => (.d (.bool (bs.any id)), h)
  | _ => none
def gSum : GC := fun as h => match as with
  | [.d (.list ds)] => (intsOf ds).map fun ns => (.d (.int ns.sum), h)
  | _ => none
def minI : Int → List Int → Int
  | a, [] => a
  | a, b :: r => min a (minI b r)
def maxI : Int → List Int → Int
  | a, [] => a
  | a, b :: r => max a (maxI b r)
def gMinL : GC := fun as h => match as with
  | [.d (.list ds)] => match intsOf ds with
    | some (a :: r) => some (.d (.int (minI a r)), h)
    | _ => none
  | _ => none
def gMaxL : GC := fun as h => match as with
  | [.d (.list ds)] => match intsOf ds with
    | some (a :: r) => some (.d (.int (maxI a r)), h)
    | _ => none
  | _ => none
section
variable {K : PySem.W.Frag} {H : Hp} {L : Nat → Prop}
theorem reps_bools {φ : List Addr} {h : Hh} : ∀ {ds : List Da} {us : List V} {bs : List Bool}, Reps K H (Live φ h) us ds → boolsOf ds = some bs → us = bs.map V.bl
  | [], us, bs, rs, e => by
    cases e
    cases rs
    rfl
  | d :: ds, us, bs, rs, e => by
    cases rs with
    | cons r rr =>
      cases d <;> try (simp only [boolsOf, reduceCtorEq] at e)
      rename_i b
      obtain ⟨cs, e1, rfl⟩ := Option.map_eq_some_iff.mp (show (boolsOf ds).map (b :: ·) = some bs from e)
      rw [reps_bools rr e1]
      cases r
      rfl
theorem reps_ints {φ : List Addr} {h : Hh} : ∀ {ds : List Da} {us : List V} {bs : List Int}, Reps K H (Live φ h) us ds → intsOf ds = some bs → us = bs.map V.int
  | [], us, bs, rs, e => by
    cases e
    cases rs
    rfl
  | d :: ds, us, bs, rs, e => by
    cases rs with
    | cons r rr =>
      cases d <;> try (simp only [intsOf, reduceCtorEq] at e)
      rename_i b
      obtain ⟨cs, e1, rfl⟩ := Option.map_eq_some_iff.mp (show (intsOf ds).map (b :: ·) = some bs from e)
      rw [reps_ints rr e1]
      cases r
      rfl
theorem ok_all : OkC K mg (rAll K) gAll := by
  intro φ h H xs as Q v h' sm rs e k
  unfold gAll at e
  split at e
  · rename_i ds
    obtain ⟨bs, e1, e2⟩ := Option.map_eq_some_iff.mp e
    cases e2
    obtain ⟨x, rfl, r⟩ := rs.one
    obtain ⟨_, gd, a, G, rfl, L, g⟩ := itL_lok sm r rfl
    obtain ⟨us, sq, rs'⟩ := L.sq _ _ _ sm g gd
    rw [reps_bools rs' e1] at sq
    exact ⟨a, bs, rfl, sq, k _ H φ (Step.refl _ _ _) sm (Rep.bl _)⟩
  · cases e
theorem ok_sum : OkC K mg (rSum K) gSum := by
  intro φ h H xs as Q v h' sm rs e k
  unfold gSum at e
  split at e
  · rename_i ds
    obtain ⟨bs, e1, e2⟩ := Option.map_eq_some_iff.mp e
    cases e2
    obtain ⟨x, rfl, r⟩ := rs.one
    obtain ⟨_, gd, a, G, rfl, L, g⟩ := itL_lok sm r rfl
    obtain ⟨us, sq, rs'⟩ := L.sq _ _ _ sm g gd
    rw [reps_ints rs' e1] at sq
    exact ⟨a, bs, rfl, sq, k _ H φ (Step.refl _ _ _) sm (Rep.int _)⟩
  · cases e
end
theorem boolsOf_map {α : Type} (g : α → Bool) : ∀ xs : List α, boolsOf (xs.map fun x => .bool (g x)) = some (xs.map g)
  | [] => rfl
  | x :: xs => by
    show (boolsOf (xs.map fun x => .bool (g x))).map (g x :: ·) = _
    rw [boolsOf_map g xs]
    rfl
theorem intsOf_map {α : Type} (g : α → Int) : ∀ xs : List α, intsOf (xs.map fun x => .int (g x)) = some (xs.map g)
  | [] => rfl
  | x :: xs => by
    show (intsOf (xs.map fun x => .int (g x))).map (g x :: ·) = _
    rw [intsOf_map g xs]
    rfl
section
variable {Q : Vl → Hh → Prop} {h : Hh} {ds : List Da} {bs : List Bool} {ns : List Int} {a : Int}
theorem wo_all (e : boolsOf ds = some bs) (q : Q (.d (.bool (bs.all id))) h) : Wo (gAll [.d (.list ds)] h) Q := wo_eq (v := .d (.bool (bs.all id))) (h' := h) (by unfold gAll; dsimp only; rw [e]; rfl) q
theorem wo_sum (e : intsOf ds = some ns) (q : Q (.d (.int ns.sum)) h) : Wo (gSum [.d (.list ds)] h) Q := wo_eq (v := .d (.int ns.sum)) (h' := h) (by unfold gSum; dsimp only; rw [e]; rfl) q
end
def repB (n : Nat) (k : Int) : Bool := decide (2 ≤ k) && decide (k ≤ 1000) && decide (0 < n) && decide (n ≤ 1000)
def repBL (n : Nat) (k : Int) : Bool := decide (1 ≤ k) && decide (k ≤ 1000) && decide (0 < n) && decide (n ≤ 1000)
def gRepL : G2 := fun x y h => match x, y with
  | .r n, .d (.int k) => match h[n]? with
    | some (some (.lst ds)) => if repBL ds.length k then some (.r h.length, h ++ [some (.lst (List.replicate k.toNat ds).flatten)]) else none
    | _ => none
  | _, _ => none
def gRepT : G2 := fun x y h => match x, y with
  | .d (.tuple ds), .d (.int k) => if repB ds.length k then some (.d (.tuple (List.replicate k.toNat ds).flatten), h) else none
  | _, _ => none
section
variable {K : PySem.W.Frag}
end
section
variable {Q : Vl → Hh → Prop} {h : Hh} {ds es : List Da} {k : Int} {n : Nat}
end
end Rk

/-! Rk29: whole multiples of powers, grains. -/
namespace Rk
open PySem PySem.Spec L2
def Mult (R : Ruler) (x : Rat) (g : Int) : Prop := ∃ k : Int, x = (k : Rat) * R.pw g
section
variable {R : Ruler} {x y a b : Rat} {n m : Nat} {g j : Int}
def IsGrn (R : Ruler) (x : Rat) (g : Int) : Prop := Mult R x g ∧ ¬ Mult R x (g + 1)
noncomputable def Ruler.grn (R : Ruler) (x : Rat) : Int := Classical.epsilon (IsGrn R x)
/-- a whole multiple of the least step that is no greater than another number is no longer by much -/
theorem BQ_in (O : R.Ok) (h : Mult R x g) (hg : g.natAbs ≤ m) (b : BQ n y) (hy : x.abs ≤ y.abs) : BQ (n + 8 * m + 4) x := by
  obtain ⟨k, e⟩ := h
  have hp := BQ_pw O (E := m) hg
  have bk : Bd (n + 4 * m + 2) k := by
    by_cases k0 : k = 0
    · rw [k0]
      unfold Bd
      exact Nat.two_pow_pos _
    have p := pw_pos O g
    have e1 : (k : Rat) = x / R.pw g := by rw [e, Rat.div_def, Rat.mul_assoc, Rat.mul_inv_cancel _ (pw_ne O g), Rat.mul_one]
    have h1 : (k : Rat).abs ≤ y.abs / R.pw g := by
      have e2 : x.abs = (k : Rat).abs * R.pw g := by rw [e, abs_mulP p]
      have e3 : (k : Rat).abs = x.abs / R.pw g := by rw [e2, Rat.div_def, Rat.mul_assoc, Rat.mul_inv_cancel _ (pw_ne O g), Rat.mul_one]
      rw [e3, Rat.div_def, Rat.div_def]
      exact Rat.mul_le_mul_of_nonneg_right hy (Rat.le_of_lt (Rat.inv_pos.mpr p))
    have b2 : BQ (n + (4 * m + 1)) (y.abs / R.pw g) := b.abs.div' hp
    have h2 := fl_lt (y.abs / R.pw g)
    have b3 := bd_floor b2
    have h3 : (k : Rat).abs = ((k.natAbs : Int) : Rat) := by
      unfold Rat.abs
      split
      · rename_i z
        have z1 : 0 ≤ k := Rat.intCast_nonneg.mp z
        rw [show ((k.natAbs : Int)) = k by omega]
      · rename_i z
        have z1 : ¬ 0 ≤ k := fun w => z (Rat.intCast_nonneg.mpr w)
        rw [show ((k.natAbs : Int)) = -k by omega, Rat.intCast_neg]
    rw [h3] at h1
    have h4 : ((k.natAbs : Int) : Rat) < (((y.abs / R.pw g).floor + 1 : Int) : Rat) := by
      rw [Rat.intCast_add]
      exact Std.lt_of_le_of_lt h1 h2
    have h5 : (k.natAbs : Int) < (y.abs / R.pw g).floor + 1 := Rat.intCast_lt_intCast.mp h4
    unfold Bd at b3 ⊢
    have : (2 : Nat) ^ (n + (4 * m + 1)) ≤ 2 ^ (n + 4 * m + 2) := Nat.pow_le_pow_right (by decide) (by omega)
    omega
  rw [e]
  have := (BQ.i bk).mul' hp
  exact BQ.mono this (by omega)
noncomputable def grnV (R : Ruler) (x : Rat) : Option Int := if x = 0 then none else some (R.grn x)
noncomputable def spnG (R : Ruler) (a b : Rat) : Option Int := if a = b then grnV R a else if a ≤ 0 ∧ 0 ≤ b then some R.l else some (R.plc (mn a.abs b.abs))
end
section
variable {α : Type} {h : Hh} {Q : Vl → Hh → Prop}
theorem atI_neg {xs : List α} {k : Nat} {v : α} (hk : 0 < k) (hl : k ≤ xs.length) (e : xs[xs.length - k]? = some v) : atI xs (-(k : Int)) = some v := by
  unfold atI ixN
  rw [if_neg (by omega), if_pos (by omega)]
  show xs[(-(k : Int) + xs.length).toNat]? = some v
  rw [show (-(k : Int) + xs.length).toNat = xs.length - k by omega]
  exact e
theorem wo_ilm1 {zs : List Da} {a : Da} (q : Q (.d a) h) : Wo (gIx (.d (.list (zs ++ [a]))) (.d (.int (-1))) h) Q :=
  wo_eq (by show (atI (zs ++ [a]) (-((1 : Nat) : Int))).map _ = _; rw [atI_neg (v := a) (by decide) (by simp) (by simp)]; rfl) q
end
end Rk

/-! Rk30: data without truths, its equality. -/
namespace Rk
open PySem PySem.Spec L2
mutual
def noB : Da → Bool
  | .none | .int _ | .str _ => true
  | .bool _ | .dict _ => false
  | .list xs | .tuple xs => noBs xs
def noBs : List Da → Bool
  | [] => true
  | x :: xs => noB x && noBs xs
end
mutual
theorem eqv_noB : ∀ (a b : Da), noB a = true → noB b = true → (PyData.eqv a b = true ↔ a = b)
  | .none, b, _, hb => by cases b <;> simp_all [PyData.eqv, noB]
  | .int i, b, _, hb => by cases b <;> simp_all [PyData.eqv, noB]
  | .str s, b, _, hb => by cases b <;> simp_all [PyData.eqv, noB]
  | .list xs, b, ha, hb => by
    cases b with
    | list ys =>
      have := eqv_noBs xs ys (by simpa [noB] using ha) (by simpa [noB] using hb)
      simp [PyData.eqv, this]
    | _ => simp_all [PyData.eqv, noB]
  | .tuple xs, b, ha, hb => by
    cases b with
    | tuple ys =>
      have := eqv_noBs xs ys (by simpa [noB] using ha) (by simpa [noB] using hb)
      simp [PyData.eqv, this]
    | _ => simp_all [PyData.eqv, noB]
  | .bool b, _, h, _ => by simp [noB] at h
  | .dict kvs, _, h, _ => by simp [noB] at h
theorem eqv_noBs : ∀ (a b : List Da), noBs a = true → noBs b = true → (PyData.eqvAll a b = true ↔ a = b)
  | [], [], _, _ => by simp [PyData.eqvAll]
  | [], _ :: _, _, _ => by simp [PyData.eqvAll]
  | _ :: _, [], _, _ => by simp [PyData.eqvAll]
  | x :: xs, y :: ys, ha, hb => by
    simp only [noBs, Bool.and_eq_true] at ha hb
    have h1 := eqv_noB x y ha.1 hb.1
    have h2 := eqv_noBs xs ys ha.2 hb.2
    simp [PyData.eqvAll, h1, h2]
end
mutual
theorem eqv_self : ∀ (a : Da), a.canLay0 = true → PyData.eqv a a = true
  | .none, _ => by simp [PyData.eqv]
  | .int i, _ => by simp [PyData.eqv]
  | .str s, _ => by simp [PyData.eqv]
  | .bool b, _ => by simp [PyData.eqv]
  | .list xs, h => by
    have := eqv_selfs xs (by simpa [PyData.canLay0] using h)
    simp [PyData.eqv, this]
  | .tuple xs, h => by
    have := eqv_selfs xs (by simpa [PyData.canLay0] using h)
    simp [PyData.eqv, this]
  | .dict kvs, h => by simp [PyData.canLay0] at h
theorem eqv_selfs : ∀ (a : List Da), PyData.canLayAll0 a = true → PyData.eqvAll a a = true
  | [], _ => by simp [PyData.eqvAll]
  | x :: xs, h => by
    simp only [PyData.canLayAll0, Bool.and_eq_true] at h
    simp [PyData.eqvAll, eqv_self x h.1, eqv_selfs xs h.2]
end
mutual
theorem nd_lay : ∀ (a : Da), a.canLay0 = true → a.hasDict = false
  | .none, _ => rfl
  | .int i, _ => rfl
  | .str s, _ => rfl
  | .bool b, _ => rfl
  | .list xs, h => by
    unfold PyData.hasDict
    exact nd_lays xs (by simpa [PyData.canLay0] using h)
  | .tuple xs, h => by
    unfold PyData.hasDict
    exact nd_lays xs (by simpa [PyData.canLay0] using h)
  | .dict kvs, h => by simp [PyData.canLay0] at h
theorem nd_lays : ∀ (a : List Da), PyData.canLayAll0 a = true → PyData.hasDictAll a = false
  | [], _ => rfl
  | x :: xs, h => by
    simp only [PyData.canLayAll0, Bool.and_eq_true] at h
    unfold PyData.hasDictAll
    rw [nd_lay x h.1, nd_lays xs h.2]
    rfl
end
/-- data that may be laid and compared: p tells whether it is without truths -/
structure Ly (p : Bool) (e : Nat) (x : Da) : Prop where
  s : x.canLay0 = true
  d : x.depth ≤ e
  n : p = true → noB x = true
structure LyL (p : Bool) (e : Nat) (ds : List Da) : Prop where
  s : PyData.canLayAll0 ds = true
  d : PyData.depthAll ds ≤ e
  n : p = true → noBs ds = true
section
variable {p : Bool} {e e' : Nat} {x y : Da} {ds es : List Da} {i : Int} {r : Rat}
theorem Ly.none : Ly p 0 .none := ⟨by simp [PyData.canLay0], by simp [PyData.depth], fun _ => by simp [noB]⟩
theorem Ly.int : Ly p 0 (.int i) := ⟨by simp [PyData.canLay0], by simp [PyData.depth], fun _ => by simp [noB]⟩
theorem Ly.bool {b : Bool} : Ly false 0 (.bool b) := ⟨by simp [PyData.canLay0], by simp [PyData.depth], fun h => by cases h⟩
theorem Ly.str {s : Str} (h : PyData.strOk s = true) : Ly p 0 (.str s) := ⟨by simp [PyData.canLay0, h], by simp [PyData.depth], fun _ => by simp [noB]⟩
theorem LyL.nil : LyL p 0 [] := ⟨by simp [PyData.canLayAll0], by simp [PyData.depthAll], fun _ => by simp [noBs]⟩
theorem LyL.cons (h : Ly p e x) (t : LyL p e' ds) : LyL p (max e e') (x :: ds) := ⟨by simp [PyData.canLayAll0, h.s, t.s], by
  have h1 := h.d
  have h2 := t.d
  simp only [PyData.depthAll]
  omega, fun z => by simp [noBs, h.n z, t.n z]⟩
theorem Ly.tup (t : LyL p e ds) : Ly p (e + 1) (.tuple ds) := ⟨by simp [PyData.canLay0, t.s], by
  have h2 := t.d
  simp only [PyData.depth]
  omega, fun z => by simp [noB, t.n z]⟩
theorem Ly.lst (t : LyL p e ds) : Ly p (e + 1) (.list ds) := ⟨by simp [PyData.canLay0, t.s], by
  have h2 := t.d
  simp only [PyData.depth]
  omega, fun z => by simp [noB, t.n z]⟩
theorem Ly.Q : Ly p 1 (Q r) := Ly.tup (LyL.cons .int (LyL.cons .int .nil))
theorem Ly.mono (h : Ly p e x) (hl : e ≤ e') : Ly p e' x := ⟨h.s, Nat.le_trans h.d hl, h.n⟩
theorem LyL.of (h : ∀ d ∈ ds, Ly p e d) : LyL p e ds := by
  induction ds with
  | nil => exact ⟨LyL.nil (p := p).s, Nat.le_trans (LyL.nil (p := p)).d (Nat.zero_le _), (LyL.nil (p := p)).n⟩
  | cons d ds ih =>
    have := LyL.cons (h d (List.mem_cons_self ..)) (ih fun z hz => h z (List.mem_cons_of_mem _ hz))
    rwa [Nat.max_self] at this
theorem Ly.sh (h : Ly p e x) (he : e ≤ 64) : sh x = true := by
  unfold Rk.sh SeqAt.shaped
  rw [h.s, decide_eq_true (Nat.le_trans h.d he), nd_lay x h.s]
  rfl
variable {Q : Vl → Hh → Prop} {h : Hh}
theorem gEq_d (x y : Da) (h : Hh) (b : Bool) (e : eqvB x y = some b) (hs : ∀ a c, x = .str a → y = .str c → b = decide (a = c)) : gEq (.d x) (.d y) h = some (.d (.bool b), h) := by
  unfold gEq
  split
  · rename_i a c e1 e2
    cases e1
    cases e2
    rw [hs a c rfl rfl]
  · rename_i hh
    simp only [asD]
    rw [e]
    rfl
theorem gNe_d (x y : Da) (h : Hh) (b : Bool) (e : eqvB x y = some b) (hs : ∀ a c, x = .str a → y = .str c → b = decide (a = c)) : gNe (.d x) (.d y) h = some (.d (.bool (!b)), h) := by
  unfold gNe
  split
  · rename_i a c e1 e2
    cases e1
    cases e2
    rw [hs a c rfl rfl]
  · rename_i hh
    simp only [asD]
    rw [e]
    rfl
theorem eqvB_self (hx : Ly p e x) (he : e ≤ 64) : eqvB x x = some true := by
  unfold eqvB
  rw [hx.sh he, eqv_self x hx.s]
  rfl
open Classical in
theorem eqvB_p (hx : Ly true e x) (hy : Ly true e' y) (he : e ≤ 64) (he' : e' ≤ 64) : eqvB x y = some (decide (x = y)) := by
  unfold eqvB
  rw [hx.sh he, hy.sh he']
  have := eqv_noB x y (hx.n rfl) (hy.n rfl)
  simp only [Bool.and_self, if_true, Option.some.injEq]
  rw [Bool.eq_iff_iff, this, decide_eq_true_iff]
theorem wo_neSelf (hx : Ly p e x) (he : e ≤ 64) (q : Q (.d (.bool false)) h) : Wo (gNe (.d x) (.d x) h) Q := wo_eq (gNe_d x x h true (eqvB_self hx he) (fun a c e1 e2 => by rw [e1] at e2; cases e2; simp)) q
open Classical in
theorem wo_eqP (hx : Ly true e x) (hy : Ly true e' y) (he : e ≤ 64) (he' : e' ≤ 64) (q : Q (.d (.bool (decide (x = y)))) h) : Wo (gEq (.d x) (.d y) h) Q := wo_eq (gEq_d x y h _ (eqvB_p hx hy he he') (fun a c e1 e2 => by subst e1; subst e2; simp)) q
open Classical in
theorem wo_neP (hx : Ly true e x) (hy : Ly true e' y) (he : e ≤ 64) (he' : e' ≤ 64) (q : Q (.d (.bool (!decide (x = y)))) h) : Wo (gNe (.d x) (.d y) h) Q := wo_eq (gNe_d x y h _ (eqvB_p hx hy he he') (fun a c e1 e2 => by subst e1; subst e2; simp)) q
end
end Rk

/-! Rk31: more rules by wishes. -/
namespace Rk
open PySem PySem.Spec L2
theorem wo_neNo {Q : Vl → Hh → Prop} {h : Hh} {x y : Da} {e e' : Nat} (hx : Ly true e x) (hy : Ly true e' y) (he : e ≤ 64) (he' : e' ≤ 64) (ne : x ≠ y) (q : Q (.d (.bool true)) h) : Wo (gNe (.d x) (.d y) h) Q := wo_neP hx hy he he' (by simp only [ne, decide_false, Bool.not_false]; exact q)
theorem wo_eqNo {Q : Vl → Hh → Prop} {h : Hh} {x y : Da} {e e' : Nat} (hx : Ly true e x) (hy : Ly true e' y) (he : e ≤ 64) (he' : e' ≤ 64) (ne : x ≠ y) (q : Q (.d (.bool false)) h) : Wo (gEq (.d x) (.d y) h) Q := wo_eqP hx hy he he' (by simp only [ne, decide_false]; exact q)
theorem wo_eqSS {Q : Vl → Hh → Prop} {h : Hh} {x : Str} (q : Q (.d (.bool true)) h) : Wo (gEq (.d (.str x)) (.d (.str x)) h) Q := wo_eqS (by rw [decide_eq_true rfl]; exact q)
theorem wo_neSS {Q : Vl → Hh → Prop} {h : Hh} {x : Str} (q : Q (.d (.bool false)) h) : Wo (gNe (.d (.str x)) (.d (.str x)) h) Q := wo_neS (by rw [decide_eq_true rfl]; exact q)
section
variable {α : Type} {Q : Vl → Hh → Prop} {h : Hh} {xs ys : List Da} {ρ : En} {N : En → Hh → Prop}
theorem cut_to (xs : List α) (k : Nat) : cutD xs none (some (k : Int)) = xs.take k := by
  unfold cutD
  rw [HT.sIx_nat, HT.sIx_none, List.drop_zero, Nat.sub_zero]
  by_cases h : k ≤ xs.length
  · rw [Nat.min_eq_left h]
  · rw [Nat.min_eq_right (by omega), List.take_length, List.take_of_length_le (by omega)]
theorem cut_from (xs : List α) (k : Nat) : cutD xs (some (k : Int)) none = xs.drop k := by
  unfold cutD
  rw [HT.sIx_nat, HT.sIx_none]
  by_cases h : k ≤ xs.length
  · rw [Nat.min_eq_left h, List.take_of_length_le (by rw [List.length_drop]; omega)]
  · rw [Nat.min_eq_right (by omega), List.drop_of_length_le (by omega), List.drop_of_length_le (by omega), List.take_nil]
theorem cut_mid (xs : List α) (i j : Nat) : cutD xs (some (i : Int)) (some (j : Int)) = (xs.drop i).take (j - i) := by
  unfold cutD
  rw [HT.sIx_nat, HT.sIx_nat]
  by_cases h2 : i ≤ xs.length
  · rw [Nat.min_eq_left h2]
    by_cases h : j ≤ xs.length
    · rw [Nat.min_eq_left h]
    · rw [List.take_of_length_le (by rw [List.length_drop]; omega), List.take_of_length_le (by rw [List.length_drop]; omega)]
  · rw [List.drop_of_length_le (by omega), List.drop_of_length_le (by omega), List.take_nil, List.take_nil]
theorem cut_to0 (xs : List α) : cutD xs none (some 0) = xs.take 0 := cut_to xs 0
theorem cut_from0 (xs : List α) : cutD xs (some 0) none = xs.drop 0 := cut_from xs 0
theorem cut_to1 (xs : List α) : cutD xs none (some 1) = xs.take 1 := cut_to xs 1
theorem cut_from1 (xs : List α) : cutD xs (some 1) none = xs.drop 1 := cut_from xs 1
theorem cut_to2 (xs : List α) : cutD xs none (some 2) = xs.take 2 := cut_to xs 2
theorem cut_from2 (xs : List α) : cutD xs (some 2) none = xs.drop 2 := cut_from xs 2
theorem cut_to3 (xs : List α) : cutD xs none (some 3) = xs.take 3 := cut_to xs 3
theorem cut_from3 (xs : List α) : cutD xs (some 3) none = xs.drop 3 := cut_from xs 3
theorem cut_to4 (xs : List α) : cutD xs none (some 4) = xs.take 4 := cut_to xs 4
theorem cut_from4 (xs : List α) : cutD xs (some 4) none = xs.drop 4 := cut_from xs 4
theorem cut_to5 (xs : List α) : cutD xs none (some 5) = xs.take 5 := cut_to xs 5
theorem cut_from5 (xs : List α) : cutD xs (some 5) none = xs.drop 5 := cut_from xs 5
theorem cut_to6 (xs : List α) : cutD xs none (some 6) = xs.take 6 := cut_to xs 6
theorem cut_from6 (xs : List α) : cutD xs (some 6) none = xs.drop 6 := cut_from xs 6
theorem cut_to7 (xs : List α) : cutD xs none (some 7) = xs.take 7 := cut_to xs 7
theorem cut_from7 (xs : List α) : cutD xs (some 7) none = xs.drop 7 := cut_from xs 7
theorem cut_to8 (xs : List α) : cutD xs none (some 8) = xs.take 8 := cut_to xs 8
theorem cut_from8 (xs : List α) : cutD xs (some 8) none = xs.drop 8 := cut_from xs 8
theorem cut_to9 (xs : List α) : cutD xs none (some 9) = xs.take 9 := cut_to xs 9
theorem cut_from9 (xs : List α) : cutD xs (some 9) none = xs.drop 9 := cut_from xs 9
theorem cut_0_1 (xs : List α) : cutD xs (some 0) (some 1) = (xs.drop 0).take 1 := cut_mid xs 0 1
theorem cut_0_2 (xs : List α) : cutD xs (some 0) (some 2) = (xs.drop 0).take 2 := cut_mid xs 0 2
theorem cut_0_3 (xs : List α) : cutD xs (some 0) (some 3) = (xs.drop 0).take 3 := cut_mid xs 0 3
theorem cut_0_4 (xs : List α) : cutD xs (some 0) (some 4) = (xs.drop 0).take 4 := cut_mid xs 0 4
theorem cut_0_5 (xs : List α) : cutD xs (some 0) (some 5) = (xs.drop 0).take 5 := cut_mid xs 0 5
theorem cut_0_6 (xs : List α) : cutD xs (some 0) (some 6) = (xs.drop 0).take 6 := cut_mid xs 0 6
theorem cut_1_2 (xs : List α) : cutD xs (some 1) (some 2) = (xs.drop 1).take 1 := cut_mid xs 1 2
theorem cut_1_3 (xs : List α) : cutD xs (some 1) (some 3) = (xs.drop 1).take 2 := cut_mid xs 1 3
theorem cut_1_4 (xs : List α) : cutD xs (some 1) (some 4) = (xs.drop 1).take 3 := cut_mid xs 1 4
theorem cut_1_5 (xs : List α) : cutD xs (some 1) (some 5) = (xs.drop 1).take 4 := cut_mid xs 1 5
theorem cut_1_6 (xs : List α) : cutD xs (some 1) (some 6) = (xs.drop 1).take 5 := cut_mid xs 1 6
theorem cut_2_3 (xs : List α) : cutD xs (some 2) (some 3) = (xs.drop 2).take 1 := cut_mid xs 2 3
theorem cut_2_4 (xs : List α) : cutD xs (some 2) (some 4) = (xs.drop 2).take 2 := cut_mid xs 2 4
theorem cut_2_5 (xs : List α) : cutD xs (some 2) (some 5) = (xs.drop 2).take 3 := cut_mid xs 2 5
theorem cut_2_6 (xs : List α) : cutD xs (some 2) (some 6) = (xs.drop 2).take 4 := cut_mid xs 2 6
theorem cut_3_4 (xs : List α) : cutD xs (some 3) (some 4) = (xs.drop 3).take 1 := cut_mid xs 3 4
theorem cut_3_5 (xs : List α) : cutD xs (some 3) (some 5) = (xs.drop 3).take 2 := cut_mid xs 3 5
theorem cut_3_6 (xs : List α) : cutD xs (some 3) (some 6) = (xs.drop 3).take 3 := cut_mid xs 3 6
theorem cut_4_5 (xs : List α) : cutD xs (some 4) (some 5) = (xs.drop 4).take 1 := cut_mid xs 4 5
theorem cut_4_6 (xs : List α) : cutD xs (some 4) (some 6) = (xs.drop 4).take 2 := cut_mid xs 4 6
theorem cut_5_6 (xs : List α) : cutD xs (some 5) (some 6) = (xs.drop 5).take 1 := cut_mid xs 5 6
theorem wo_slT' {lo hi : Option Int} (e : cutD xs lo hi = ys) (q : Q (.d (.tuple ys)) h) : Wo (gSl (.d (.tuple xs)) lo hi h) Q := by subst e; exact q
end
end Rk

/-! Rk32: grains as data, marks, entries. -/
namespace Rk
open PySem PySem.Spec L2
def gD : Option Int → Da
  | none => .none
  | some g => .int g
noncomputable def exactB (R : Ruler) (a b : Rat) : Option Int → Bool
  | none => false
  | some g => decide (R.l ≤ g) && !decide (R.pw (g + R.f) < mx a.abs b.abs)
def gOk (g : Option Int) : Prop := ∀ z, g = some z → z.natAbs ≤ 1000
def slackV (R : Ruler) (a b : Rat) (g : Option Int) (ex : Bool) (sz : Rat) (rd : Rat) : Rat :=
  if a = b then (rd - a).abs else if ex = true then 0 else if R.w = "near" then 1 / 2 * sz else sz
theorem BQ_mxa {a b : Rat} {n : Nat} (ha : BQ n a) (hb : BQ n b) : BQ n (mx a.abs b.abs) := BQ.mono (BQ.mx ha.abs hb.abs) (by omega)
theorem Shw.gD {g : Option Int} (hg : gOk g) : Shw 1921 0 (gD g) := by
  cases g with
  | none => exact Shw.none.mono (by decide) (by decide)
  | some z =>
    have := hg z rfl
    exact Shw.int (n := 64) (bd_lit 1000 (by omega) (by omega) (by decide)) (by decide)
theorem Ly.gD {p : Bool} {g : Option Int} : Ly p 0 (gD g) := by
  cases g with
  | none => exact Ly.none
  | some z => exact Ly.int
structure Mk (R : Ruler) (n : Nat) (x : Rat) : Prop where
  r : R.rnd x = x
  b : BQ n x
theorem Mk.mono {R : Ruler} {n m : Nat} {x : Rat} (h : Mk R n x) (hl : n ≤ m) : Mk R m x := ⟨h.r, h.b.mono hl⟩
def InS (R : Ruler) (a b x : Rat) : Prop := Mult R x R.l ∧ a ≤ x ∧ x ≤ b
theorem InS.bq {R : Ruler} {a b x : Rat} (O : R.Ok) (hl1 : -4 ≤ R.l) (hl2 : R.l ≤ 1) (ha : BQ 140 a) (hb : BQ 140 b) (i : InS R a b x) : BQ 176 x := by
  have h1 := abs_in i.2.1 i.2.2
  have h2 : (mx a.abs b.abs).abs = mx a.abs b.abs := by
    unfold mx Rat.abs
    grind
  exact BQ.mono (BQ_in O (m := 4) i.1 (by omega) (BQ_mxa ha hb) (by rw [h2]; exact h1)) (by decide)
structure Ent where
  lo : Rat
  hi : Rat
  tl : Rat
  th : Rat
  er : Rat
  g : Option Int
def Ent.da (e : Ent) : Da := .tuple [Rk.Q e.lo, Rk.Q e.hi, Rk.Q e.tl, Rk.Q e.th, Rk.Q e.er, gD e.g]
structure Ent.B (n : Nat) (e : Ent) : Prop where
  lo : BQ n e.lo
  hi : BQ n e.hi
  tl : BQ n e.tl
  th : BQ n e.th
  er : BQ n e.er
  g : ∀ z, e.g = some z → z.natAbs ≤ n
structure Ent.Ok (R : Ruler) (e : Ent) : Prop where
  lo : R.rnd e.lo = e.lo
  hi : R.rnd e.hi = e.hi
  lh : e.lo ≤ e.hi
  t : e.tl ≤ e.th
  er : 0 ≤ e.er
  gn : e.g = none ↔ e.lo = 0 ∧ e.hi = 0
  gl : ∀ z, e.g = some z → R.l ≤ z
theorem Ent.B.mono {n m : Nat} {e : Ent} (b : e.B n) (h : n ≤ m) : e.B m := ⟨b.lo.mono h, b.hi.mono h, b.tl.mono h, b.th.mono h, b.er.mono h, fun z x => Nat.le_trans (b.g z x) h⟩
theorem Ent.Ly {p : Bool} (e : Ent) : Ly p 2 e.da := by
  unfold Ent.da
  exact Ly.tup (LyL.cons .Q (LyL.cons .Q (LyL.cons .Q (LyL.cons .Q (LyL.cons .Q (LyL.cons .gD .nil))))))
theorem abs_nonneg' (r : Rat) : 0 ≤ r.abs := by
  unfold Rat.abs
  grind
theorem hd_v {i : Nat} {ρ : En} {h : Hh} {Q : Vl → Hh → Prop} {E : XP} (w : Wp (eVar i ρ h) Q E) : Wp (eVar i ρ h) Q E := w
theorem Ent.mkN {R : Ruler} {a b c d e : Rat} (ha : Mk R 140 a) (hb : Mk R 140 b) (hab : a ≤ b) (hc : BQ 300 c) (hd : BQ 300 d) (hcd : c ≤ d) (he : BQ 140 e) (z : a = 0 ∧ b = 0) : (Ent.mk a b c d e.abs none).Ok R ∧ (Ent.mk a b c d e.abs none).B 300 :=
  ⟨⟨ha.r, hb.r, hab, hcd, abs_nonneg' _, ⟨fun _ => z, fun _ => rfl⟩, fun _ x => nomatch x⟩, ⟨ha.b.mono (by decide), hb.b.mono (by decide), hc, hd, he.abs.mono (by decide), fun _ x => nomatch x⟩⟩
end Rk

/-! Rk33: rounding rises. -/
namespace Rk
open PySem PySem.Spec L2
section
variable {R : Ruler} {x y : Rat} {n m : Nat}
end
end Rk

/-! Rk34: ranks of marks. -/
namespace Rk
open PySem PySem.Spec L2
def Ruler.N (R : Ruler) : Nat := R.b ^ R.f
def Ruler.M (R : Ruler) : Nat := R.b ^ (R.f - 1)
def Ruler.fr (R : Ruler) : Nat := R.N - R.M
def Ruler.far (R : Ruler) (k : Nat) : Nat := if k < R.N then 0 else (k - R.N) / R.fr + 1
def Ruler.st (R : Ruler) (k : Nat) : Nat := k - R.far k * R.fr
def Ruler.mkN (R : Ruler) (k : Nat) : Rat := ((R.st k : Int) : Rat) * R.pw (R.l + R.far k)
def Ruler.mkOf (R : Ruler) (k : Int) : Rat := if 0 ≤ k then R.mkN k.natAbs else -R.mkN k.natAbs
section
variable {R : Ruler} (O : R.Ok)
include O
end
end Rk

/-! Rk35: statements that are never reached. -/
namespace Rk
open PySem PySem.Spec L2
def sNo : Sv := fun _ _ => .no
end Rk

/-! Rk36: enumerate over a tuple. -/
namespace PySem
open Sem (wp)
open AutoSeq1 (wpAny_loadPart')
/-- the iterator of the tuple at t -/
abbrev rkTi (t : Addr) : Obj := { cls := .type "tuple_iterator", data := .fields #[.ref t, .int 0 0] }
abbrev rkEn (j : Addr) : Obj := { cls := .type "enumerate", data := .fields #[.none, .bool false, .ref j, rawInt 0, .none, .none] }
theorem rk_meets_enumT (t : Addr) (us : Array Value) (m : Nat) (od : Option Addr) (ss : Array (Option Value)) :
    Meets (Builtin.«enumerate.__new__» ⟨[.type "enumerate", .ref t], []⟩) (fun _ R s => s.heap.get? t = some { cls := .type "tuple", dict := od, data := .seq us m, slots := ss } ∧ R (.ok (.ret (.ref (s.heap.push (rkTi t)).objs.size))) { s with heap := (s.heap.push (rkTi t)).push (rkEn s.heap.objs.size) }) :=
  .of_wp fun _ _ _ R s0 hyp => by
    obtain ⟨hp, g, d, tk, os⟩ := s0; obtain ⟨ht, hyp⟩ := hyp
    have subE := sub_enumerate
    have isT : Heap.IsTuple (Shared.heap ⟨hp, g, d, tk, os⟩) t us := ⟨_, ht, rfl, m, rfl⟩
    wp_walk using wpAny_loadPart' ht
    refine wpAny_stack_any fun _ => wpAny_pure ?_
    split
    · rename_i c0 _ _ _ _ _
      cases (c0 == Value.type "enumerate") <;> (wp_walk using wpAny_loadPart' ht, wpAny_pyIter_tuple isT; exact ⟨_, rfl, hyp⟩)
    · (wp_walk using wpAny_loadPart' ht, wpAny_pyIter_tuple isT; exact ⟨_, rfl, hyp⟩)
section
variable {prog : Program} {w : World} {A : Around} {E : Value → Shared → Prop} {s : Shared}
theorem rk_call_enumT {t : Addr} {us : Array Value} {Q : Value → Shared → Prop} (isT : s.heap.IsTuple t us)
    (k : ∀ h1, IsEnum h1 (s.heap.objs.size + 1) s.heap.objs.size 0 .none → h1.IsTupleIter s.heap.objs.size t 0 → h1.objs.size = s.heap.objs.size + 2 → (∀ b o, s.heap.get? b = some o → h1.get? b = some o) → Q (.ref (s.heap.objs.size + 1)) { s with heap := h1 }) :
    wpAny (model prog w) A (call (.type "enumerate") [.ref t]) Q E s := by
  obtain ⟨⟨c0, od, dat, ss⟩, ht, hcl, m, hdt⟩ := isT
  dsimp only at hcl hdt
  subst hcl hdt
  refine callType_new F.called_enumerate (by decide) (F.typeCall_enumerate_1 _) (F.newCall_enumerate_1 _) (fun o => F.args_object_init_2 o _) F.entry_enumerate_new (rk_meets_enumT t us m od ss) ⟨ht, ?_⟩
  have sz : (s.heap.push (rkTi t)).objs.size = s.heap.objs.size + 1 := Heap.size_push ..
  show _ ∧ _
  rw [sz]
  have en : IsEnum ((s.heap.push (rkTi t)).push (rkEn s.heap.objs.size)) (s.heap.objs.size + 1) s.heap.objs.size 0 .none := by
    have e0 := Heap.get?_push_size (s.heap.push (rkTi t)) (o := rkEn s.heap.objs.size) rfl
    rw [sz] at e0
    exact e0
  exact ⟨⟨_, en, rfl⟩, k _ en ⟨_, Heap.get?_push_of_some _ (Heap.get?_push_size _ rfl), rfl, rfl⟩ (by rw [Heap.size_push, sz]) fun _ _ x => Heap.get?_push_of_some _ (Heap.get?_push_of_some _ x)⟩
theorem rk_drawsT {it a : Addr} {us : Array Value} (hh : A.handled = none) (hne : it ≠ a) : Draws prog w A it [it, a] us.size (fun i x => us[i]? = some x) (fun i h => h.IsTupleIter it a i ∧ h.IsTuple a us) where
  live := fun i h st => let ⟨⟨o, ho, _⟩, _⟩ := st; ⟨o, ho⟩
  frame := fun i h h' st k => ⟨st.1.at fun o q => k it (by simp) o q, let ⟨o, ho, r⟩ := st.2; ⟨o, k a (by simp) o ho, r⟩⟩
  item := fun i s Q E hi st hQ => by
    have hx : us[i]? = some us[i] := Array.getElem?_eq_getElem hi
    refine RZ.nextOf_tuple_item st.1 st.2 hx fun h' h1 sb => ?_
    obtain ⟨o, ho, r⟩ := st.2
    exact hQ _ h' s.toks hx ⟨h1, ⟨o, (sb.2 a (Ne.symm hne)).trans ho, r⟩⟩ sb
  done := fun s Q E st hE => RZ.nextOf_tuple_end hh st.1 st.2 (by simp) hE
end
end PySem
namespace Rk
open PySem PySem.Spec PyProof.Rows L2
def IteT (K : PySem.W.Frag) (a : Addr) : It :=
  ⟨fun i H => ∃ (xs : List V) (x : V), SqT K H a xs ∧ xs[i]? = some x, fun i H v H' => ∃ T x, v = .ref T ∧ H T = none ∧ H' = upd H T (.tup [.int (i : Nat), x]) ∧ ∀ xs, SqT K H a xs → xs[i]? = some x, fun i H => ∃ xs : List V, SqT K H a xs ∧ xs.length ≤ i⟩
theorem turn_enumT {P : Program} {w : World} {K : PySem.W.Frag} {elts : List Expr} {kk : Nat} {tpos : Pos} (a e it : Addr) :
    Turn P w K (.Tuple elts kk tpos) (IteT K a) [e, it] e (fun i h => (∃ old, IsEnum h e it ((i : Nat) : Int) old) ∧ h.IsTupleIter it a i ∧ e ≠ it ∧ a ≠ e ∧ a ≠ it) where
  mem := by simp
  obj := fun i h st b hb => by
    obtain ⟨⟨_, en⟩, ⟨o, ho, _, hdt⟩, _⟩ := st
    rcases (show b = e ∨ b = it by simpa using hb) with rfl | rfl
    · exact ⟨_, en, fun _ q => nomatch q⟩
    · exact ⟨o, ho, fun _ q => by rw [hdt] at q; cases q⟩
  keep := fun i h h' st k => let ⟨⟨old, en⟩, ti, ne⟩ := st; ⟨⟨old, k e (by simp) _ en⟩, ti.at fun o q => k it (by simp) o q, ne⟩
  item := by
    intro X hP hw hK hc i pins s σ H E I hf st hg
    subst hP hw hK
    obtain ⟨⟨old, en⟩, ti, ne, nae, nai⟩ := st
    obtain ⟨xs, x, sq, hx⟩ := hg
    obtain ⟨us, rv, isT, _⟩ := I.tuple sq
    obtain ⟨u, hu, ru⟩ := rv.get hx
    have le : e < s.heap.objs.size := Heap.lt_size en
    have li : it < s.heap.objs.size := by obtain ⟨_, q, _⟩ := ti; exact Heap.lt_size q
    have isT' : s.heap.IsTuple a us.toArray := isT
    have hd0 : X.A.handled = none := I.ok.hd hc
    have hu' : us.toArray[i]? = some u := by simpa using hu
    refine wpAny_pyNext_enum_itemD (rk_drawsT (A := X.A.in1) hd0 (Ne.symm nai)) en ⟨ti, isT'⟩ (by simpa using (List.getElem?_eq_some_iff.mp hu).1) ne (by simp [ne, Ne.symm nae]) fun y h1 tk py ho st1 hT hsz hk => ?_
    rw [hu'] at py
    cases py
    refine ⟨_, rfl, wpAny_letOwnedTupleGo_enum (s := { s with heap := h1, toks := tk + 1 }) ho fun h2 en2 sb => ?_⟩
    have hT2 : h2.get? s.heap.objs.size = some { cls := .type "tuple", data := .seq #[.int i tk, u] } := (sb.2 _ (Nat.ne_of_gt le)).trans hT
    have nw : ObjOk X.prog X.w (upd H s.heap.objs.size (.tup [.int (i : Nat), x])) h2 s.heap.objs.size (.tup [.int (i : Nat), x]) :=
      ⟨by show 2 ≤ sizeLine; decide, [.int i tk, u], .cons ⟨_, rfl⟩ (.cons ru .nil), ⟨_, hT2, rfl, _, rfl⟩⟩
    have I1 : Inv X pins σ (upd H s.heap.objs.size (.tup [.int (i : Nat), x])) { s with heap := h2, toks := tk + 1 } :=
      I.turnedNew (ch := [e, it]) (fun b ob hb q => (sb.2 b (fun z => hb (by simp [z]))).trans (hk b ob (fun z => hb (by simp [z])) (fun z => hb (by simp [z])) q)) hf (Nat.le_refl _) nw
    refine ⟨.ref s.heap.objs.size, _, I1, rfl, ⟨_, x, rfl, I.hok.fresh (Nat.le_refl _), rfl, fun ys hy => by rw [I.tuple_inj hy sq]; exact hx⟩, ⟨⟨u, ?_⟩, st1.1.at fun o q => (sb.2 it (Ne.symm ne)).trans q, ne, nae, nai⟩, fun b hb => ?_⟩
    · rw [show ((i + 1 : Nat) : Int) = (i : Int) + 1 by omega]
      exact en2
    · have lb : b < s.heap.objs.size := by
        rcases (show b = e ∨ b = it by simpa using hb) with rfl | rfl
        · exact le
        · exact li
      rw [upd_ne (Nat.ne_of_lt lb)]
      exact (hf b hb).1
  done := by
    intro X hP hw hK hc i pins s σ H E I hf st hg
    subst hP hw hK
    obtain ⟨⟨old, en⟩, ti, ne, nae, nai⟩ := st
    obtain ⟨xs, sq, hx⟩ := hg
    obtain ⟨us, rv, isT, _⟩ := I.tuple sq
    obtain ⟨f0, f1, f2, f3, f4, f5⟩ := hf it (by simp)
    have ll := rv.length
    have isT' : s.heap.IsTuple a us.toArray := isT
    have hT : s.TypeIs (.ref e) "enumerate" := ⟨_, en, rfl⟩
    unfold pyNext
    refine wpAny_bind (wpAny_attempt (wpAny_callSpecial?_slot (name := Str.ofString "__next__") hT F.slot_enumerate_next (wpAny_call_entry F.slot_enumerate_next hT F.entry_enumerate_next ?_ (F.args_enumerate_next_1 _))))
    show wpAny _ _ (field (.ref e) 2 >>= _) _ _ _
    refine wpAny_bind (wpAny_field en rfl (x := .ref it) rfl ?_)
    refine wpAny_bind (RZ.nextOf_tuple_end (I.ok.hd hc) ti isT' (by simp; omega) fun h1 x1 eb hx1 => ?_)
    obtain ⟨o1, ho1, hc1⟩ := hx1
    refine wpAny_bind (wpAny_isInstance (T := "StopIteration") (b := true) ⟨o1, ho1, hc1⟩ isSubtype_stop (wpAny_pure ?_))
    exact ⟨rfl, I.turned (t' := s.toks) (fun b o hb q => eb b o hb q) f0 f1 f3 f4 f5⟩
  self := fun A i s Q E st h => let ⟨⟨_, en⟩, _⟩ := st; wpAny_pyIter_enum en h
def iEnumA (K : PySem.W.Frag) (ta : TA) : TI := fun σ H R => ta σ H fun vs H1 => ∃ a xs, vs = [.ref a] ∧ ((SqL K H1 a xs ∧ R (Ite K a) H1) ∨ (SqT K H1 a xs ∧ R (IteT K a) H1))
theorem pi_enumA {X : Cx} {e : Expr} {ta : TA} {p pos tpos : Pos} {elts : List Expr} {kk : Nat} (hg : Gl X "enumerate") (hm : X.mg "enumerate" = none) (ha : PA X [e] ta) (hs : starEach [e] X.env = [(false, eval e X.env)] := by rfl) :
    PI X (.Tuple elts kk tpos) (.Call (.Name "enumerate" p) [e] [] pos) (iEnumA X.K ta) := by
  refine ⟨fun pins s σ H R I h => ?_⟩
  refine Call_ (ld_blt I hg hm boot_enumerate (PyProof.Rows.callWith_type1 (thn (ha.run pos pins s σ H _ I h) fun us s1 ⟨vs, H1, I1, r1, q1⟩ => ?_) hs rfl))
  obtain ⟨a, xs, rfl, q1⟩ := q1
  cases r1 with
  | cons r rr =>
    cases rr
    cases r
    have fin : ∀ b, b ∈ [s1.heap.objs.size + 1, s1.heap.objs.size] → FpOk X pins H1 b := fun b hb => by
      have lb : s1.heap.objs.size ≤ b := by
        rcases (show b = s1.heap.objs.size + 1 ∨ b = s1.heap.objs.size by simpa using hb) with rfl | rfl
        · exact Nat.le_add_right _ _
        · exact Nat.le_refl _
      exact I1.fpOk lb (I1.hok.fresh lb)
    rcases q1 with ⟨sq, q⟩ | ⟨sq, q⟩
    · obtain ⟨its, rv, isL, _⟩ := I1.list sq
      refine call_enumerate_list isL.isList fun h1 en ti _ hk => wpAny_pyIter_enum en ?_
      exact ⟨s1.heap.objs.size + 1, [s1.heap.objs.size + 1, s1.heap.objs.size], _, _, H1, rfl, I1.kept (t' := s1.toks) hk, turn_enum a (s1.heap.objs.size + 1) s1.heap.objs.size, ⟨⟨.none, en⟩, ti, Nat.succ_ne_self _⟩, fin, q⟩
    · obtain ⟨its, rv, isT, _⟩ := I1.tuple sq
      obtain ⟨o0, ho0, _⟩ := id isT
      have la := Heap.lt_size ho0
      refine rk_call_enumT (show s1.heap.IsTuple a its.toArray from isT) fun h1 en ti _ hk => wpAny_pyIter_enum en ?_
      exact ⟨s1.heap.objs.size + 1, [s1.heap.objs.size + 1, s1.heap.objs.size], _, _, H1, rfl, I1.kept (t' := s1.toks) hk, turn_enumT a (s1.heap.objs.size + 1) s1.heap.objs.size, ⟨⟨.none, en⟩, ti, Nat.succ_ne_self _, Nat.ne_of_lt (Nat.lt_succ_of_lt la), Nat.ne_of_lt la⟩, fin, q⟩
end Rk

/-! Rk37: enumerate, of lists and tuples. -/
namespace Rk
open PySem PySem.Spec L2
section
variable {K : PySem.W.Frag}
theorem enumT_it {a : Addr} {ds : List Da} : ItOk K (IteT K a) ⟨ds.mapIdx fun i d => .tuple [.int (i : Nat), d], none⟩ (fun φ h H => Rep K H (Live φ h) (.ref a) (.tuple ds)) where
  go := fun φ h H i sm g gd hi => by
    obtain ⟨us, sq, rs⟩ := Rep.sqT g
    have hi' : i < ds.length := by simpa using hi
    obtain ⟨y, e, _⟩ := rs.get (List.getElem?_eq_getElem hi')
    exact ⟨us, y, sq, e⟩
  yld := fun φ h H i x H' d sm g gd ed ⟨T, y, ex, hT, e, q⟩ => by
    subst ex e
    obtain ⟨us, sq, rs⟩ := Rep.sqT g
    rw [List.getElem?_mapIdx] at ed
    cases e3 : ds[i]? with
    | none => rw [e3] at ed; cases ed
    | some d0 =>
      rw [e3] at ed
      cases ed
      obtain ⟨y2, ey, ry⟩ := rs.get e3
      have e2 := q us sq
      rw [ey] at e2
      cases e2
      obtain ⟨s1, s2, s3⟩ := new_tup (mg := fun _ => none) sm (ds := [.int (i : Nat), d0]) (.cons (.int _) (.cons ry .nil)) hT
      exact ⟨s1, s2, s3⟩
  stop := fun φ h H i sm g gd hi => by
    obtain ⟨us, sq, rs⟩ := Rep.sqT g
    exact ⟨us, sq, by rw [rs.length]; simpa using hi⟩
  keep := fun φ h H φ' h' H' g st => Rep.stay st.st g
end
def iEnumB (as : Av) : Iv := fun ρ h => (as ρ h).bind fun vs h1 => match vs with
  | [.d (.tuple ds)] => .ok ⟨ds.mapIdx fun i d => .tuple [.int (i : Nat), d], none⟩ h1
  | [v] => enumI (itL v h1)
  | _ => .no
section
variable {X : Cx} {W : WX} {pos p : Pos} {fs : Av}
theorem ei_enumB {elts : List Expr} {kk : Nat} {tpos : Pos} {a : Expr} (hg : Gl X "enumerate") (hm : X.mg "enumerate" = none) (ha : EA X W [a] fs) (hs : starEach [a] X.env = [(false, eval a X.env)] := by rfl) : EI X W (.Tuple elts kk tpos) (.Call (.Name "enumerate" p) [a] [] pos) (iEnumB fs) :=
  PI.of (pi_enumA hg hm ha hs) fun σ H R ⟨φ, h, ρ, sm, er, q⟩ => ⟨φ, h, ρ, sm, er, PoI.goA q fun xs vs h1 H1 φ1 st sm1 rv q1 => by
    split at q1
    · obtain ⟨x, rfl, r⟩ := rv.one
      obtain ⟨a, us, rfl, sq, rs⟩ := VRep.tup r
      exact ⟨a, us, rfl, .inr ⟨sq, q1 _ H1 φ1 _ (Step.refl _ _ _) sm1 enumT_it r⟩⟩
    · rename_i v _
      obtain ⟨x, rfl, r⟩ := rv.one
      cases e : itL v h1 with
      | ok m h2 =>
        rw [e] at q1
        obtain ⟨rfl, gd, a, G, rfl, L, g⟩ := itL_lok sm1 r e
        obtain ⟨ys, sq, _⟩ := L.sq _ _ _ sm1 g gd
        exact ⟨a, ys, rfl, .inl ⟨sq, q1 _ H1 φ1 _ (Step.refl _ _ _) sm1 (enum_it L) g⟩⟩
      | ex c fs h2 =>
        unfold itL at e
        split at e
        · cases e
        · split at e <;> cases e
        · cases e
      | no =>
        rw [e] at q1
        exact q1.elim
    · exact q1.elim⟩
end
section
variable {QI : Itm → Hh → Prop} {E : XP} {ρ : En} {h : Hh} {as : Av}
theorem wp_enumB (w : Wp (as ρ h) (fun vs h1 => ∃ ds, (vs = [.d (.list ds)] ∨ vs = [.d (.tuple ds)]) ∧ QI ⟨ds.mapIdx fun i d => .tuple [.int (i : Nat), d], none⟩ h1) E) : Wp (iEnumB as ρ h) QI E :=
  wp_bind (w.mono (fun _ _ ⟨ds, e, q⟩ => by
    rcases e with e | e
    · rw [e]; exact ⟨q⟩
    · rw [e]; exact ⟨q⟩) fun _ _ _ z => z)
theorem ex_enumL {ds : List Da} {P : List Da → Prop} (q : P ds) : ∃ es, ([Vl.d (.list ds)] = [.d (.list es)] ∨ [Vl.d (.list ds)] = [.d (.tuple es)]) ∧ P es := ⟨ds, .inl rfl, q⟩
theorem ex_enumT {ds : List Da} {P : List Da → Prop} (q : P ds) : ∃ es, ([Vl.d (.tuple ds)] = [.d (.list es)] ∨ [Vl.d (.tuple ds)] = [.d (.tuple es)]) ∧ P es := ⟨ds, .inr rfl, q⟩
end
theorem ex_is_str_str {x : Str} {h : Hh} {P : Bool → Prop} (q : P true) : ∃ k, isTy .str (.d (.str x)) h = some k ∧ P k := ⟨true, rfl, q⟩
theorem ex_is_tuple_tuple {ds : List Da} {h : Hh} {P : Bool → Prop} (q : P true) : ∃ k, isTy .tuple (.d (.tuple ds)) h = some k ∧ P k := ⟨true, rfl, q⟩
theorem ex_is_tuple_Q {r : Rat} {h : Hh} {P : Bool → Prop} (q : P true) : ∃ k, isTy .tuple (.d (Rk.Q r)) h = some k ∧ P k := ⟨true, rfl, q⟩
theorem ex_is_list_tuple {ds : List Da} {h : Hh} {P : Bool → Prop} (q : P false) : ∃ k, isTy .list (.d (.tuple ds)) h = some k ∧ P k := ⟨false, rfl, q⟩
theorem ex_is_list_list {ds : List Da} {h : Hh} {P : Bool → Prop} (q : P true) : ∃ k, isTy .list (.d (.list ds)) h = some k ∧ P k := ⟨true, rfl, q⟩
end Rk

/-! Rk38: dicts at the end of the heap; rounding by each way. -/
namespace Rk
open PySem PySem.Spec L2
section
variable {h l : Hh} {k : Nat} {kds kds' : List (Key × Da)} {x : Str} {v d : Da} {Q : Vl → Hh → Prop} {E : XP} {N : Hh → Prop} {ρ : En}
theorem ex_setDE (hk : h.length = k) (e : putD kds (.inr x) v = kds') (hl : kds.length < 16777216) (q : N (h ++ some (.dct kds') :: l)) : ∃ h3, setD (.r k) (.d (.str x)) (.d v) (h ++ some (.dct kds) :: l) = some h3 ∧ N h3 := by
  subst hk e
  refine ⟨_, set_of (kds' := putD kds (.inr x) v) (by simp) rfl hl, ?_⟩
  simpa using q
end
/-! ### rounding by each way -/
end Rk

/-! Rk39: shifts, bit_length, the place of a part in a list. -/
namespace Rk
open PySem PySem.Spec L2
variable {mg : Str → Option Value}
def fShl (a b : Int) : Option Da := if 0 ≤ b ∧ b ≤ 1000000 ∧ a.natAbs < 2 ^ 64 then some (.int (a * 2 ^ b.toNat)) else none
section
variable {K : PySem.W.Frag}
def gIdx : GM := fun o as h => match asL o h, as with
  | some ds, [.d y] => if flatD y && ds.all flatD then (ds.findIdx? fun z => eqF z y).map fun j => (.d (.int (j : Nat)), h) else none
  | _, _ => none
end
def eBits (f : Ev) : Ev := fun ρ h => (f ρ h).bind fun x h1 => match x with
  | .d (.int i) => .ok (.d (.int (Builtin.Int.intBits i : Nat))) h1
  | _ => .no
section
variable {X : Cx} {W : WX} {o : Expr} {fo : Ev} {apos pos : Pos}
end
section
variable {Q : Vl → Hh → Prop} {E : XP} {ρ : En} {h : Hh} {f : Ev} {a b : Int} {ds : List Da}
end
end Rk

/-! Rk40: all, max and places over typed lists. -/
namespace Rk
open PySem PySem.Spec L2
section
variable {α : Type} {Q : Vl → Hh → Prop} {h : Hh}
end
end Rk

/-! Rk41: a target within a target; what many shown things take. -/
namespace Rk
open PySem PySem.Spec L2
section
variable {ρ : En} {h : Hh} {N : En → Hh → Prop} {i j k : Nat} {d0 d1 d2 : Da} {r s : Rat}
theorem gk_tupN (w : SetK i ρ (.d d0) h fun ρ1 h1 => SetK j ρ1 (.d d1) h1 fun ρ2 h2 => SetK k ρ2 (.d d2) h2 N) : GvK (gTupT 2 (gsCons (gN i) (gsCons (gTupT 2 (gsCons (gN j) (gsCons (gN k) gsNil))) gsNil)) (.d (.tuple [d0, .tuple [d1, d2]])) ρ h) N := w
end
theorem ShwL.of {k e n : Nat} {ds : List Da} (h : ∀ d ∈ ds, Shw k e d) (hl : ds.length ≤ n) : ShwL (n * (k + 2)) e ds := by
  induction ds generalizing n with
  | nil => exact ⟨ShwL.nil.s, ShwL.nil.n, Nat.le_trans ShwL.nil.d (Nat.zero_le _), Nat.le_trans ShwL.nil.l (Nat.zero_le _)⟩
  | cons d ds ih =>
    cases n with
    | zero => simp at hl
    | succ n =>
      have a := ih (n := n) (fun x hx => h x (List.mem_cons_of_mem _ hx)) (by simpa using hl)
      have b := ShwL.cons (h d (List.mem_cons_self ..)) a
      rw [Nat.max_self] at b
      refine ⟨b.s, b.n, b.d, Nat.le_trans b.l ?_⟩
      rw [Nat.succ_mul]
      omega
end Rk

/-! Rk42: errors raised, caught and kept; a caught error is told of in the abstract heap from then on. -/
namespace Rk
open PySem PySem.Spec L2
section
variable {X : Cx} {pins : List (Addr × Obj)} {σ : L2.St} {H : Hp} {s : Shared} {a : Addr} {oe : Obj} {vs : Array Value} {cls : Value} {dd : Option Addr}
theorem exO_is {P : Program} {w : World} {HH : Hp} {h : Heap} (e : h.get? a = some oe) (z : Zc cls dd oe) (hd : oe.data = .fields vs) : ObjOk P w HH h a (exO a cls dd) :=
  ⟨⟨oe, vs, e, z, hd⟩, ⟨oe, e⟩, fun _ _ ⟨o, us, e1, z1, d1⟩ k => ⟨o, us, k o e1, z1, d1⟩⟩
/-- an object that was there, untold, is told of from now on -/
theorem tell (I : Inv X pins σ H s) (e : s.heap.get? a = some oe) (z : Zc cls dd oe) (hd : oe.data = .fields vs) (na : H a = none) (n0 : a ∉ X.ex → X.s_0.heap.get? a = none) (nP : ∀ p ∈ X.pn ++ pins, p.1 ≠ a) : Inv X pins σ (upd H a (exO a cls dd)) s := by
  have ne : ∀ {b : Addr} {u : HO}, H b = some u → upd H a (exO a cls dd) b = some u := fun {b u} q => by
    rw [upd_ne fun y => by rw [y, na] at q; cases q]
    exact q
  have nl : X.env.locals ≠ a := fun y => by
    obtain ⟨m, ⟨o, es, ep, ho, hdat, _⟩, _⟩ := I.loc
    rw [y, e] at ho
    cases ho
    rw [hd] at hdat
    cases hdat
  have nc : ∀ x c, X.env.cells.lookup x = some c → c ≠ a := fun x c q y => by
    obtain ⟨v, o, ho, hdat⟩ := I.cell x c q
    rw [y, e] at ho
    cases ho
    rw [hd] at hdat
    cases hdat
  refine ⟨I.ok, I.os, I.bare, ⟨I.base.keep, I.base.slot, fun b o q1 q2 q3 => ?_, I.base.there, fun b xs q => ne (I.base.tups b xs q), fun b o u q => ne (I.base.frzs b o u q), fun b ps q => ?_⟩, I.loc, I.cell, ?_, fun x c q => ?_, fun p hp => ?_, fun b u q => ?_, I.len⟩
  · rw [upd_ne fun y => by rw [y, n0 (by rw [← y]; exact q3)] at q1; cases q1]
    exact I.base.free b o q1 q2 q3
  · obtain ⟨more, q1⟩ := I.base.tbls b ps q
    exact ⟨more, ne q1⟩
  · rw [upd_ne nl]
    exact I.free
  · rw [upd_ne (nc x c q)]
    exact I.freeC x c q
  · obtain ⟨p1, p2, p3⟩ := I.pin p hp
    exact ⟨p1, by rw [upd_ne (nP p hp)]; exact p2, p3⟩
  · by_cases y : b = a
    · subst y
      rw [upd_same] at q
      cases q
      exact exO_is e z hd
    · rw [upd_ne y] at q
      exact (I.hok b u q).stay (fun _ _ _ g => g) (fun _ g => ne g) fun _ _ g => ne g
theorem toSuite (I : Inv X pins σ H s) (a : Addr) : Inv (X.suite a (X.pn ++ pins)) [] σ H s :=
  ⟨I.ok.suite a _, I.os, I.bare, I.base, I.loc, I.cell, I.free, I.freeC, fun p hp => I.pin p (by rw [List.append_nil] at hp; exact hp), I.hok, I.len⟩
theorem offSuite {b : Addr} (I : Inv (X.suite b (X.pn ++ pins)) [] σ H s) (ok : X.Ok) : Inv X pins σ H s :=
  ⟨ok, I.os, I.bare, I.base, I.loc, I.cell, I.free, I.freeC, fun p hp => I.pin p (by rw [List.append_nil]; exact hp), I.hok, I.len⟩
end
/-- what is wished of an error that leaves a try's body: where the clause takes it, what the suite wishes, the error told of, its name gone behind -/
def wTl (K : PySem.W.Frag) (c : Value) (i : Nat) (ts : TS) (Wo : WX) (D : Ends) : WX := fun cls d σ H =>
  ∃ b, PySem.W.exmOne K cls c = some b ∧
    (b = true → ∀ a, H a = none → ts ⟨fun σ1 H1 => D.nx (σ1.set i none) H1, D.rt, fun σ1 H1 => D.bk (σ1.set i none) H1, fun σ1 H1 => D.ct (σ1.set i none) H1⟩ (σ.set i (some (.ref a))) (upd H a (exO a cls d))) ∧
    (b = false → Wo cls d σ H)
section
variable {X : Cx} {x n : Str} {c : Value} {i : Nat} {body suite : List Stmt} {st0 : Stmt} {np p1 p2 : Pos} {tb : WX → TS} {ts : TS} {Wo : WX}
theorem ps_tryT (hs : X.stack = X.env :: X.outer) (hf : X.env.frame = some X.env.locals) (hN : X.N.Nodup) (hi : X.N[i]? = some n) (hk : X.env.kindOf n = some .local) (hc : Names X x c) (tk : Takes X Wo)
    (hb : ∀ (W : WX) (pn : List (Addr × Obj)) (xe : Value → Shared → Prop), Takes (X.tr pn xe) W → PassesOwn (model X.prog X.w) X.A X.env xe → PSs (X.tr pn xe) body (tb W))
    (hsu : ∀ (a : Addr) (pn : List (Addr × Obj)), PSs (X.suite a pn) (st0 :: suite) ts) :
    PS X (.Try body [.ExceptHandler (some (.Name x np)) (some n) (st0 :: suite) p2] [] [] p1) (fun D σ H => tb (wTl X.K c i ts Wo D) D σ H) := by
  refine ⟨fun pins s σ H D I go => ?_⟩
  have ok := I.ok
  have frm : X.A.frames = some (X.env :: X.outer) := by rw [ok.frames, hs]
  have back : ∀ (fl : Flow) (sE : Shared), SP (X.tr (X.pn ++ pins) (fun e s1 => wpAny (model X.prog X.w) X.A (noteFrame e X.env) (fun _ s2 => wpAny (model X.prog X.w) X.A (setFlight e none) (fun _ s3 => wpAny (model X.prog X.w) X.A (handleBy e X.env [.ExceptHandler (some (.Name x np)) (some n) (st0 :: suite) p2]) (SP X pins D) X.xe s3) X.xe s2) X.xe s1)) [] D fl sE →
      SP X pins D fl sE := fun fl sE h => by
    cases fl with
    | ret u =>
      obtain ⟨v, σ9, H9, J9, r9, q9⟩ := h
      exact ⟨v, σ9, H9, J9.ofTry ok, r9, q9⟩
    | next => exact h.imp fun σ9 h => h.imp fun H9 h => ⟨h.1.ofTry ok, h.2⟩
    | brk => exact h.imp fun σ9 h => h.imp fun H9 h => ⟨h.1.ofTry ok, h.2⟩
    | cont => exact h.imp fun σ9 h => h.imp fun H9 h => ⟨h.1.ofTry ok, h.2⟩
  refine wpAny_Try_except (wpAny_mono ((hb (wTl X.K c i ts Wo D) (X.pn ++ pins) _ (fun u sC caught => ?_) PassesOwn.looking).run [] s σ H D (I.toTry _) go) (fun fl sE h => ?_) (fun _ _ z => z))
  · obtain ⟨a, B, sI, pinsT, σC, HC, cls, d, rfl, JT, nb, up, sky, na, os, ag, b, hb1, yes, no⟩ := caught
    have J : Inv X pins σC HC sI := JT.ofTry ok
    have skyC : Sky B (X.env :: X.outer) a (Zc cls d) X.env.locals sC.heap := by
      rw [← hs]
      exact sky
    show wpAny (model X.prog X.w) X.A (noteFrame (.ref a) X.env) _ _ _
    refine Sky.land Zc.steady frm hf skyC fun hA flA upA => ?_
    have JA : Inv X pins σC HC { sC with heap := hA } := J.landed nb flA.1 (up.trans upA) os ag
    obtain ⟨oA, vA, eA, zA, dA⟩ := flA.there
    have notF : a ∉ frs (X.env :: X.outer) := fun hm => by
      obtain ⟨_, oF, eF, nf⟩ := flA.2.2.1.mem hm
      rw [eA] at eF
      cases eF
      exact nf _ dA
    have nI : sI.heap.get? a = none := by
      cases q : sI.heap.get? a with
      | none => rfl
      | some o => exact absurd (nb a o q (by rw [hs]; exact notF)) (by rw [flA.2.1]; exact nofun)
    have n0 : a ∉ X.ex → X.s_0.heap.get? a = none := fun hx => by
      cases q : X.s_0.heap.get? a with
      | none => rfl
      | some o =>
        obtain ⟨o1, q1⟩ := J.base.there a o q hx
        rw [nI] at q1
        cases q1
    have nP : ∀ p ∈ X.pn ++ pins, p.1 ≠ a := fun p hp y => by
      have q1 := (J.pin p hp).1
      rw [y, nI] at q1
      cases q1
    have load : ∀ {Q : Value → Shared → Prop} {E : Value → Shared → Prop}, Q c { sC with heap := hA } → wpAny (model X.prog X.w) (X.A.mark (some (.ref a))) (eval (.Name x np) X.env) Q E { sC with heap := hA } := fun {Q E} q => by
      obtain ⟨g1, g2, g3 | ⟨g3, g4, g5⟩⟩ := hc
      · exact ld_glob (X := X.suite a (X.pn ++ pins)) (toSuite JA a) g1 g3 q g2
      · exact ld_blt (X := X.suite a (X.pn ++ pins)) (toSuite JA a) g1 g3 g4 q g5 g2
    have isC : PySem.W.Looks (model X.prog X.w) hA (typeOf (.ref a)) cls := fun A Q E s k q => wpAny_typeOf_ref (k _ _ eA) (by rw [zA.1]; exact q)
    refine wpAny_handleBy_cons (codeAny_handlers_test (load ((PySem.W.exm_one (M := model X.prog X.w) JA.kIn isC hb1).here ?_))) (fun q => nomatch q)
    cases b with
    | false =>
      show wpAny _ X.A (handleBy (.ref a) X.env []) _ _ _
      obtain ⟨_, _, _, oF, vF, aT, oT, vT, eF, _, dF, e1, _⟩ := id flA
      have on : wpAny (model X.prog X.w) X.A (setFlight (.ref a) X.env.frame) (fun _ sG => wpAny (model X.prog X.w) X.A (throw (.ref a) : Sem Flow) (SP X pins D) X.xe sG) X.xe { sC with heap := hA } := by
        rw [hf]
        exact HandSPX.setFlight_upZ flA fun hG heldG upG => wpAny_throw (tk _ _ ⟨a, B, sI, pins, σC, HC, cls, d, rfl, J, nb, (up.trans upA).trans upG, .inr (.inr (by rw [hs]; exact heldG)), na, os, ag, no rfl⟩)
      refine wpAny_handleBy_nil ?_
      unfold PySem.passOn
      refine wpAny_bind (wpAny_field eF dF e1 ?_)
      rw [if_neg (show ¬ ((Value.ref aT == Value.none) = true) from by simp)]
      first
        | exact wpAny_bind (wpAny_pure (wpAny_bind on))
        | exact wpAny_bind on
    | true =>
      refine codeAny_handlers_suite_as (HandSPX.lands_againZ flA fun hG flG upG => ?_)
      have JG : Inv X pins σC HC { sC with heap := hG } := J.landed nb flG.1 ((up.trans upA).trans upG) os ag
      obtain ⟨oG, vG, eG, zG, dG⟩ := flG.there
      have JT := toSuite (tell JG eG zG dG na n0 nP) a
      have away : ∀ {σ5 : L2.St} {H5 : Hp} {s5 : Shared} {Q : Shared → Prop}, Inv (X.suite a (X.pn ++ pins)) [] σ5 H5 s5 → (∀ s6, Inv X pins (σ5.set i none) H5 s6 → Q s6) → wpAny (model X.prog X.w) X.A (do bindName X.env n .none; unbindBehindTheSuite X.env n p2) (fun _ s6 => Q s6) X.xe s5 := fun {σ5 H5 s5 Q} S5 k => gone_ok (offSuite S5 ok) hN hi hk k
      refine store_ok (X := X.suite a (X.pn ++ pins)) (v := .ref a) JT hN hi (.inl hk) rfl (fun s4 S4 => ?_) (.inr hk)
      refine wpAny_mono ((hsu a (X.pn ++ pins)).run [] s4 _ _ _ S4 (yes rfl a na)) (fun fl s5 h => ?_) (fun _ _ z => z.elim)
      cases fl with
      | ret u =>
        obtain ⟨v, σ5, H5, S5, r5, q5⟩ := h
        exact away S5 fun s6 J6 => ⟨v, _, H5, J6, r5, q5⟩
      | next =>
        obtain ⟨σ5, H5, S5, q5⟩ := h
        exact away S5 fun s6 J6 => ⟨_, H5, J6, q5⟩
      | brk =>
        obtain ⟨σ5, H5, S5, q5⟩ := h
        exact away S5 fun s6 J6 => ⟨_, H5, J6, q5⟩
      | cont =>
        obtain ⟨σ5, H5, S5, q5⟩ := h
        exact away S5 fun s6 J6 => ⟨_, H5, J6, q5⟩
  · have r := back fl sE h
    cases fl with
    | next => exact wpAny_execs_nil r
    | ret u => exact r
    | brk => exact r
    | cont => exact r
end
end Rk

/-! Rk43: raise, try .. except .. as, isinstance of what was caught, as statements and expressions that mean something. -/
namespace Rk
open PySem PySem.Spec L2
/-! ### what the top's classes are -/
structure ErrC (K : PySem.W.Frag) (mg : Str → Option Value) (c : Str) : Prop where
  ex : ∃ C, mg c = some (.ref C) ∧ PySem.W.excIn K C veT "ValueError.__new__" = true ∧ PySem.W.keepIn K (.ref C) = true ∧ PySem.W.subIn K (.ref C) (.type "BaseException") = some true ∧ PySem.W.typeIn K (.ref C) = some (.type "type")
theorem clsAt_ok {K : PySem.W.Frag} {h : Heap} {mg : Str → Option Value} (X : K.In h) (G : h.Ns mainGlobals mg) {c : Str} {C : Addr} (e : clsAt K c = some C) : mg c = some (.ref C) := by
  unfold clsAt at e
  split at e
  · rename_i D q
    cases e
    exact PySem.W.mg_of X G q
  · cases e
theorem errB_ok {K : PySem.W.Frag} {h : Heap} {mg : Str → Option Value} (X : K.In h) (G : h.Ns mainGlobals mg) {c : Str} (e : errB K c = true) : ErrC K mg c := by
  unfold errB at e
  split at e
  · rename_i C q
    simp only [Bool.and_eq_true, decide_eq_true_eq] at e
    exact ⟨C, clsAt_ok X G q, e.1, e.2.1, e.2.2.1, e.2.2.2⟩
  · cases e
/-- which of the top's classes an except clause over x takes -/
structure CatC (K : PySem.W.Frag) (mg : Str → Option Value) (x : Str) (yes no : List Str) : Prop where
  ex : ∃ D, mg x = some (.ref D) ∧ (∀ c ∈ yes, ∃ C, mg c = some (.ref C) ∧ PySem.W.exmOne K (.ref C) (.ref D) = some true) ∧ (∀ c ∈ no, ∃ C, mg c = some (.ref C) ∧ PySem.W.exmOne K (.ref C) (.ref D) = some false)
theorem subB_ok {K : PySem.W.Frag} {h : Heap} {mg : Str → Option Value} (X : K.In h) (G : h.Ns mainGlobals mg) {f : Value → Value → Option Bool} {u : Value} {b : Bool} {c : Str} (e : subB K f u b c = true) : ∃ C, mg c = some (.ref C) ∧ f (.ref C) u = some b := by
  unfold subB at e
  split at e
  · rename_i C q
    exact ⟨C, clsAt_ok X G q, of_decide_eq_true e⟩
  · cases e
theorem catB_ok {K : PySem.W.Frag} {h : Heap} {mg : Str → Option Value} (X : K.In h) (G : h.Ns mainGlobals mg) {x : Str} {yes no : List Str} (e : catB K x yes no = true) : CatC K mg x yes no := by
  unfold catB at e
  split at e
  · rename_i D q
    rw [Bool.and_eq_true, List.all_eq_true, List.all_eq_true] at e
    exact ⟨D, clsAt_ok X G q, fun c hc => subB_ok X G (e.1 c hc), fun c hc => subB_ok X G (e.2 c hc)⟩
  · cases e
/-! ### raise X('..') -/
def sRaise (c : Str) : Sv := fun ρ h => .ex c [] ρ h
section
variable {X : Cx} {W : WX}
theorem es_raise {c m : Str} {j : Nat} {p p2 pos pos' : Pos} (F : ErrC X.K X.mg c) (tk : Takes X W) (hc : X.calm = true := by rfl) (hg : Gl X c := by rfl) (hdb : (c == ("__debug__" : Str)) = false := by decide) :
    ES X W (.Raise (some (.Call (.Name c p) [.Constant (.str m) j p2] [] pos)) none pos') (sRaise c) := by
  obtain ⟨C, g1, g2, g3, g4, g5⟩ := F.ex
  exact PS.of (ps_raise hc tk (pmk_own PySem.F.excBase_ValueError g2 g1 g3 (raises_own g4 g5) hg hdb)) fun D σ H ⟨φ, h, ρ, sm, er, q⟩ => q (.ref C) none σ H φ (Step.refl _ _ _) sm er ⟨g1, fun _ => rfl, fun z => absurd rfl z⟩
end
/-! ### try: .. except X as n: .. -/
def sTry (yes no : List Str) (i : Nat) (b s : Sv) : Sv := fun ρ h => match b ρ h with
  | .ex c fs ρ1 h1 => if c ∈ yes then (match s (ρ1.set i (some (.x c fs))) h1 with
      | .nx ρ2 h2 => .nx (ρ2.set i none) h2
      | .rt v h2 => .rt v h2
      | .bk ρ2 h2 => .bk (ρ2.set i none) h2
      | .ct ρ2 h2 => .ct (ρ2.set i none) h2
      | _ => .no) else if c ∈ no then .ex c fs ρ1 h1 else .no
  | o => o
theorem ERep.unset {K : PySem.W.Frag} {mg : Str → Option Value} {φ : List Addr} {h : Hh} {H : Hp} {σ : L2.St} {ρ : En} {i : Nat} (r : ERep K mg φ h H σ ρ) : ERep K mg φ h H (σ.set i none) (ρ.set i none) := by
  refine ⟨by rw [List.length_set, List.length_set, r.len], fun j w e => ?_⟩
  by_cases hj : i = j
  · subst hj
    rw [List.getElem?_set] at e
    rw [if_pos rfl] at e
    split at e <;> cases e
  · rw [List.getElem?_set_ne hj] at e
    obtain ⟨y, e1, q1⟩ := r.at_ j w e
    exact ⟨y, by rw [List.getElem?_set_ne hj]; exact e1, q1⟩
section
variable {X : Cx} {W : WX} {x n : Str} {i : Nat} {yes no : List Str} {body suite : List Stmt} {st0 : Stmt} {np p1 p2 : Pos} {fb fs : Sv}
theorem es_try (C : CatC X.K X.mg x yes no) (tk : Takes X W) (hN : X.N.Nodup)
    (hb : ∀ (W : WX) (pn : List (Addr × Obj)) (xe : Value → Shared → Prop), Takes (X.tr pn xe) W → PassesOwn (model X.prog X.w) X.A X.env xe → ESs (X.tr pn xe) W body fb)
    (hsu : ∀ (a : Addr) (pn : List (Addr × Obj)), ESs (X.suite a pn) WF (st0 :: suite) fs)
    (hs : X.stack = X.env :: X.outer := by rfl) (hf : X.env.frame = some X.env.locals := by rfl) (hi : X.N[i]? = some n := by rfl) (hk : X.env.kindOf n = some .local := by rfl) (hg : Gl X x := by rfl) (hdb : (x == ("__debug__" : Str)) = false := by decide) :
    ES X W (.Try body [.ExceptHandler (some (.Name x np)) (some n) (st0 :: suite) p2] [] [] p1) (sTry yes no i fb fs) := by
  obtain ⟨D, g1, gy, gn⟩ := C.ex
  refine PS.of (ps_tryT (tb := fun W' => tS X.K X.mg W' fb) (ts := tS X.K X.mg WF fs) hs hf hN hi hk ⟨hg, hdb, .inl g1⟩ tk (fun W' pn xe t po => hb W' pn xe t po) hsu) fun Dn σ H ⟨φ, h, ρ, sm, er, q⟩ => ⟨φ, h, ρ, sm, er, ?_⟩
  unfold sTry at q
  revert q
  cases fb ρ h with
  | nx ρ1 h1 => exact fun q => q
  | rt v h1 => exact fun q => q
  | bk ρ1 h1 => exact fun q => q
  | ct ρ1 h1 => exact fun q => q
  | no => exact fun q => q
  | ex c es ρ1 h1 =>
    dsimp only
    intro q cls dd σ1 H1 φ1 st1 sm1 er1 xr1
    by_cases hy : c ∈ yes
    · rw [if_pos hy] at q
      obtain ⟨C, e1, e2⟩ := gy c hy
      have ec := xr1.cl
      rw [e1] at ec
      cases ec
      refine ⟨true, e2, fun _ a na => ?_, fun z => Bool.noConfusion z⟩
      obtain ⟨w1, w2⟩ := sm1.grow (o := exO a (.ref C) dd) na
      have vx : VRep X.K X.mg φ1 h1 (upd H1 a (exO a (.ref C) dd)) (.ref a) (.x c es) := ⟨a, _, dd, rfl, upd_same, sm1.fresh na, xr1.stay w1.st⟩
      refine ⟨φ1, h1, ρ1.set i (some (.x c es)), w2, (er1.step w1).set vx, ?_⟩
      have q := PoS.pull (st1.trans w1) q
      revert q
      cases fs (ρ1.set i (some (.x c es))) h1 with
      | nx ρ2 h2 => exact fun q σ2 H2 φ2 st2 sm2 er2 => q _ H2 φ2 st2 sm2 er2.unset
      | bk ρ2 h2 => exact fun q σ2 H2 φ2 st2 sm2 er2 => q _ H2 φ2 st2 sm2 er2.unset
      | ct ρ2 h2 => exact fun q σ2 H2 φ2 st2 sm2 er2 => q _ H2 φ2 st2 sm2 er2.unset
      | rt v h2 => exact fun q => q
      | ex c2 es2 ρ2 h2 => exact fun q => q.elim
      | no => exact fun q => q
    · rw [if_neg hy] at q
      by_cases hn : c ∈ no
      · rw [if_pos hn] at q
        obtain ⟨C, e1, e2⟩ := gn c hn
        have ec := xr1.cl
        rw [e1] at ec
        cases ec
        exact ⟨false, e2, fun z => Bool.noConfusion z, fun _ => q _ dd σ1 H1 φ1 st1 sm1 er1 xr1⟩
      · rw [if_neg hn] at q
        exact q.elim
end
end Rk

/-! Rk44: isinstance of what was caught, its fields. -/
namespace Rk
open PySem PySem.Spec L2
/-- what a class of errors must say, so that its errors are asked rightly -/
structure ErrI (K : PySem.W.Frag) (C : Addr) : Prop where
  ga : PySem.W.findIn K (.ref C) "__getattribute__" = some (some (.builtin "BaseException.__getattribute__"))
  gt : PySem.W.findIn K (.ref C) "__getattr__" = some none
  sb : PySem.W.subIn K (.ref C) (.type "BaseException") = some true
  dc : PySem.W.hasDictIn K C = true
  cl : PySem.W.findIn K (.ref C) "__class__" = some (some (.builtin "object.__class__"))
  cg : PySem.W.specialIn K (.builtin "object.__class__") "__get__" = some (some (.builtin "getset_descriptor.__get__"))
  tk : PySem.W.takesIn K (.builtin "object.__class__") = some true
  mo : PySem.W.mroIn K C (.type "object") = some true
  ci : (PySem.W.clsIn K C).isSome = true
theorem errIB_ok {K : PySem.W.Frag} {C : Addr} (e : errIB K C = true) : ErrI K C := by
  unfold errIB at e
  simp only [Bool.and_eq_true, decide_eq_true_eq] at e
  obtain ⟨e1, e2, e3, e4, e5, e6, e7, e8, e9⟩ := e
  exact ⟨e1, e2, e3, e4, e5, e6, e7, e8, e9⟩
/-- an error that is told of, its own dict too -/
def ExAt (H : Hp) (a D : Addr) : Prop := ∃ dd : Option Addr, H a = some (exO a (.ref D) dd) ∧ (dd = none ∨ ∃ d vs, dd = some d ∧ H d = some (.xd vs))
section
variable {X : Cx} {pins : List (Addr × Obj)} {σ : L2.St} {H : Hp} {s : Shared} {a D : Addr}
theorem exat_in (I : Inv X pins σ H s) (e : ExAt H a D) : ∃ ox od, PySem.W.InstAt s.heap a ox D od := by
  obtain ⟨dd, e1, e2⟩ := e
  obtain ⟨⟨oe, vs, g1, g2, g3⟩, _⟩ := (show ObjOk X.prog X.w H s.heap a (exO a (.ref D) dd) from I.hok a _ e1)
  have no : PySem.W.notCls oe = true := by
    unfold PySem.W.notCls
    rw [g3] <;> rfl
  rcases e2 with rfl | ⟨d, ws, rfl, e3⟩
  · exact ⟨oe, none, g1, g2.1, no, by rw [g2.2]; trivial⟩
  · obtain ⟨mA, hns, _⟩ := (show ObjOk X.prog X.w H s.heap d (.xd ws) from I.hok d _ e3)
    obtain ⟨od, ho, _⟩ := lookIn_ns hns
    exact ⟨oe, some od, g1, g2.1, no, by rw [g2.2]; exact ho⟩
/-- isinstance of an error: one class; a tuple of classes -/
def rIs1 (K : PySem.W.Frag) : List V → Hp → VK → Prop := fun xs H Q => ∃ (a D : Addr) (c : V) (u : Value) (b : Bool), xs = [.ref a, c] ∧ ExAt H a D ∧ ErrI K D ∧ ClsV c u ∧ PySem.W.kitOne K (.ref D) u = some b ∧ Q (.bl b) H
def rIsN (K : PySem.W.Frag) : List V → Hp → VK → Prop := fun xs H Q => ∃ (a D tp : Addr) (cs : List V) (us : List Value) (b : Bool), xs = [.ref a, .ref tp] ∧ ExAt H a D ∧ ErrI K D ∧ H tp = some (.tup cs) ∧ Paired ClsV cs us ∧ PySem.W.kitAny K (.ref D) us = some b ∧ Q (.bl b) H
theorem call_is1 : CallR X (.builtin "isinstance") (rIs1 X.K) := by
  intro pins s σ H xs us Q I r ⟨a, D, c, u, b, ex, at_, E, k, e, q⟩
  subst ex
  obtain ⟨u1, u2, rfl, r1, r2⟩ := vals2 r
  cases (show u1 = Value.ref a from r1)
  have e2 := k.eq r2
  subst e2
  obtain ⟨ox, od, J⟩ := exat_in I at_
  exact PySem.W.kia_one (PySem.W.kitx_exc E.ci E.ga E.gt E.sb E.cl E.cg E.tk E.mo) I.kIn J e (fun z => nomatch z) fun tk => ⟨.bl b, H, I.tok tk, rfl, q⟩
theorem callR_or {f : Value} {r1 r2 : List V → Hp → VK → Prop} (a : CallR X f r1) (b : CallR X f r2) : CallR X f (fun xs H Q => r1 xs H Q ∨ r2 xs H Q) := fun pins s σ H xs us Q I r h => h.elim (a pins s σ H xs us Q I r) (b pins s σ H xs us Q I r)
end
theorem XRep.at_ {K : PySem.W.Frag} {mg : Str → Option Value} {H : Hp} {M : Addr → Prop} {c : Str} {fs : List (Str × Da)} {D a : Addr} {dd : Option Addr} (x : XRep K mg H M c fs (.ref D) dd) (e : H a = some (exO a (.ref D) dd)) : ExAt H a D := by
  refine ⟨dd, e, ?_⟩
  by_cases z : fs = []
  · exact .inl (x.no z)
  · obtain ⟨d, vs, e1, e2, _⟩ := x.yes z
    exact .inr ⟨d, vs, e1, e2⟩
/-- what the classes yes and no answer to isinstance over the classes us -/
structure IsF (K : PySem.W.Frag) (mg : Str → Option Value) (f : Value → Option Bool) (yes no : List Str) : Prop where
  nn : f (.type "NoneType") = some false
  y : ∀ c ∈ yes, ∃ C, mg c = some (.ref C) ∧ ErrI K C ∧ f (.ref C) = some true
  n : ∀ c ∈ no, ∃ C, mg c = some (.ref C) ∧ ErrI K C ∧ f (.ref C) = some false
theorem isFB1_ok {K : PySem.W.Frag} {h : Heap} {mg : Str → Option Value} (X : K.In h) (G : h.Ns mainGlobals mg) {f : Value → Option Bool} {b : Bool} {c : Str} (e : isFB1 K f b c = true) : ∃ C, mg c = some (.ref C) ∧ ErrI K C ∧ f (.ref C) = some b := by
  unfold isFB1 at e
  split at e
  · rename_i C q
    rw [Bool.and_eq_true] at e
    exact ⟨C, clsAt_ok X G q, errIB_ok e.1, of_decide_eq_true e.2⟩
  · cases e
theorem isFB_ok {K : PySem.W.Frag} {h : Heap} {mg : Str → Option Value} (X : K.In h) (G : h.Ns mainGlobals mg) {f : Value → Option Bool} {yes no : List Str} (e : isFB K f yes no = true) : IsF K mg f yes no := by
  unfold isFB at e
  rw [Bool.and_eq_true, Bool.and_eq_true, List.all_eq_true, List.all_eq_true] at e
  exact ⟨of_decide_eq_true e.1, fun c hc => isFB1_ok X G (e.2.1 c hc), fun c hc => isFB1_ok X G (e.2.2 c hc)⟩
/-- isinstance(x, C), C a class of the top -/
def IsO (K : PySem.W.Frag) (mg : Str → Option Value) (x : Str) (yes no : List Str) : Prop := ∃ D, mg x = some (.ref D) ∧ IsF K mg (fun t => PySem.W.kitOne K t (.ref D)) yes no
theorem isOB_ok {K : PySem.W.Frag} {h : Heap} {mg : Str → Option Value} (X : K.In h) (G : h.Ns mainGlobals mg) {x : Str} {yes no : List Str} (e : isOB K x yes no = true) : IsO K mg x yes no := by
  unfold isOB at e
  split at e
  · rename_i D q
    exact ⟨D, clsAt_ok X G q, isFB_ok X G e⟩
  · cases e
/-- isinstance(x, T), T a built-in class -/
def IsB (K : PySem.W.Frag) (mg : Str → Option Value) (T : String) (yes no : List Str) : Prop := IsF K mg (fun t => PySem.W.kitOne K t (.type T)) yes no
/-- isinstance(x, (C1, C2, ..)) -/
def IsM (K : PySem.W.Frag) (mg : Str → Option Value) (xs : List Str) (yes no : List Str) : Prop := ∃ Cs : List Addr, Paired (fun x C => mg x = some (.ref C)) xs Cs ∧ IsF K mg (fun t => PySem.W.kitAny K t (Cs.map Value.ref)) yes no
def clsAts (K : PySem.W.Frag) : List Str → Option (List Addr)
  | [] => some []
  | x :: xs => (clsAt K x).bind fun C => (clsAts K xs).map (C :: ·)
def isMB (K : PySem.W.Frag) (xs : List Str) (yes no : List Str) : Bool := match clsAts K xs with
  | some Cs => isFB K (fun t => PySem.W.kitAny K t (Cs.map Value.ref)) yes no
  | none => false
def isE (yes no : List Str) : Vl → Option Bool
  | .d .none => some false
  | .x c _ => if c ∈ yes then some true else if c ∈ no then some false else none
  | _ => none
def eIsE (yes no : List Str) (f : Ev) : Ev := fun ρ h => (f ρ h).bind fun v h1 => match isE yes no v with
  | some b => .ok (.d (.bool b)) h1
  | none => .no
section
variable {X : Cx} {W : WX} {a ce : Expr} {fa : Ev} {pos p q : Pos} {yes no : List Str}
theorem isE_ok {K : PySem.W.Frag} {mg : Str → Option Value} {φ : List Addr} {h : Hh} {H : Hp} {x : V} {v : Vl} {f : Value → Option Bool} {b : Bool} (F : IsF K mg f yes no) (r : VRep K mg φ h H x v) (e : isE yes no v = some b) :
    (x = .non ∧ f (.type "NoneType") = some b) ∨ ∃ a D, x = .ref a ∧ ExAt H a D ∧ ErrI K D ∧ f (.ref D) = some b := by
  unfold isE at e
  split at e
  · cases e
    exact .inl ⟨VRep.non r, F.nn⟩
  · rename_i c fs
    obtain ⟨a, cls, dd, rfl, e1, _, xr⟩ := r
    have e2 := xr.cl
    split at e
    · cases e
      obtain ⟨C, g1, g2, g3⟩ := F.y c (by assumption)
      rw [g1] at e2
      cases e2
      exact .inr ⟨a, C, rfl, xr.at_ e1, g2, g3⟩
    · split at e
      · cases e
        obtain ⟨C, g1, g2, g3⟩ := F.n c (by assumption)
        rw [g1] at e2
        cases e2
        exact .inr ⟨a, C, rfl, xr.at_ e1, g2, g3⟩
      · cases e
  · cases e
theorem ee_is1 {cv : V} {u : Value} (k : ClsV cv u) (F : IsF X.K X.mg (fun t => PySem.W.kitOne X.K t u) yes no) (hc : PE X ce (tC cv)) (hg : Gl X "isinstance") (hm : X.mg "isinstance" = none)
    (ha : EE X W a fa) (he : starEach [a, ce] X.env = (false, eval a X.env) :: starEach [ce] X.env := by rfl) (he2 : starEach [ce] X.env = (false, eval ce X.env) :: starEach [] X.env := by rfl) (hpl : (backTo pos (starEach [ce] X.env)).any (·.1) = false := by rfl) :
    EE X W (.Call (.Name "isinstance" p) [a, ce] [] pos) (eIsE yes no fa) :=
  PE.of (pe_callB (callR_or call_isi call_is1) hg hm PyProof.Rows.boot_isinstance (pa_cons ha (pa_cons hc pa_nil he2) he) (by decide) (by decide) he hpl) fun σ H Q ⟨φ, h, ρ, sm, er, qq⟩ => ⟨φ, h, ρ, sm, er, PoX.goE qq fun x v h1 H1 φ1 st sm1 rv q1 => by
    cases e : isE yes no v with
    | none => rw [e] at q1; exact q1.elim
    | some b =>
      rw [e] at q1
      have fin := PoX.now (v := .d (.bool b)) q1 sm1 (Rep.bl b)
      rcases isE_ok F rv e with ⟨rfl, z⟩ | ⟨a, D, rfl, g1, g2, g3⟩
      · exact .inl ⟨.non, cv, .type "NoneType", u, b, rfl, k, .base .non, z, fin⟩
      · exact .inr ⟨a, D, cv, u, b, rfl, g1, g2, k, g3, fin⟩⟩
theorem ee_isO {x : Str} (F : IsO X.K X.mg x yes no) (hg : Gl X "isinstance") (hm : X.mg "isinstance" = none) (ha : EE X W a fa) (hx : Gl X x := by rfl) (hd : (x == ("__debug__" : Str)) = false := by decide)
    (he : starEach [a, .Name x q] X.env = (false, eval a X.env) :: starEach [.Name x q] X.env := by rfl) (he2 : starEach [.Name x q] X.env = (false, eval (.Name x q) X.env) :: starEach [] X.env := by rfl) (hpl : (backTo pos (starEach [.Name x q] X.env)).any (·.1) = false := by rfl) :
    EE X W (.Call (.Name "isinstance" p) [a, .Name x q] [] pos) (eIsE yes no fa) := by
  obtain ⟨D, g, F⟩ := F
  exact ee_is1 (.own D) F (pe_glob hx g rfl hd) hg hm ha he he2 hpl
theorem ee_isB {x : Str} (T : String) (F : IsB X.K X.mg T yes no) (hv : bootBuiltins x = some (.type T)) (hg : Gl X "isinstance") (hm : X.mg "isinstance" = none) (hm2 : X.mg x = none) (ha : EE X W a fa) (hx : Gl X x := by rfl) (hd : (x == ("__debug__" : Str)) = false := by decide) (hn : x ≠ "__name__" := by decide)
    (he : starEach [a, .Name x q] X.env = (false, eval a X.env) :: starEach [.Name x q] X.env := by rfl) (he2 : starEach [.Name x q] X.env = (false, eval (.Name x q) X.env) :: starEach [] X.env := by rfl) (hpl : (backTo pos (starEach [.Name x q] X.env)).any (·.1) = false := by rfl) :
    EE X W (.Call (.Name "isinstance" p) [a, .Name x q] [] pos) (eIsE yes no fa) :=
  ee_is1 (.ty T) F (pe_bltn (v := .ty T) hx hm2 hv rfl hn hd) hg hm ha he he2 hpl
/-- names of classes, side by side -/
def CN (X : Cx) (es : List Expr) (cs : List V) : Prop := PA X es (fun _ H Q => Q cs H)
end
end Rk

/-! Rk45: errors by wishes; a call without arguments. -/
namespace Rk
open PySem PySem.Spec L2
section
variable {X : Cx} {W : WX}
end
def UnK (i : Nat) (ρ : En) (h : Hh) (N : En → Hh → Prop) : Prop := N (ρ.set i none) h
/-- an error at an except clause -/
structure TryK (yes no : List Str) (i : Nat) (s : Sv) (c : Str) (fs : List (Str × Da)) (ρ : En) (h : Hh) (N : En → Hh → Prop) (D : Ds) : Prop where
  w : if c ∈ yes then SetK i ρ (.x c fs) h (fun ρ1 h1 => Ws (s ρ1 h1) (fun ρ2 h2 => UnK i ρ2 h2 N) ⟨D.rt, fun ρ2 h2 => UnK i ρ2 h2 D.bk, fun ρ2 h2 => UnK i ρ2 h2 D.ct, fun _ _ _ _ => False⟩) else if c ∈ no then D.ex c fs ρ h else False
section
variable {ρ : En} {h : Hh} {N : En → Hh → Prop} {R : Vl → Hh → Prop} {B C : En → Hh → Prop} {X : Str → List (Str × Da) → En → Hh → Prop} {b s : Sv} {yes no : List Str} {i : Nat} {c : Str} {fs : List (Str × Da)} {Q : Vl → Hh → Prop} {E : XP} {f : Ev}
theorem ws_raise (w : X c [] ρ h) : Ws (sRaise c ρ h) N ⟨R, B, C, X⟩ := ⟨w⟩
theorem ws_try (w : Ws (b ρ h) N ⟨R, B, C, fun c fs ρ1 h1 => TryK yes no i s c fs ρ1 h1 N ⟨R, B, C, X⟩⟩) : Ws (sTry yes no i b s ρ h) N ⟨R, B, C, X⟩ := by
  unfold sTry
  revert w
  cases b ρ h with
  | ex c fs ρ1 h1 =>
    intro w
    have w := w.w.w
    dsimp only
    by_cases hy : c ∈ yes
    · rw [if_pos hy] at w ⊢
      have w : Ws (s (ρ1.set i (some (.x c fs))) h1) _ _ := w
      revert w
      cases s (ρ1.set i (some (.x c fs))) h1 with
      | ex c2 fs2 ρ2 h2 => exact fun w => w.w.elim
      | no => exact fun w => w.w.elim
      | _ => exact fun w => ⟨w.w⟩
    · rw [if_neg hy] at w ⊢
      by_cases hn : c ∈ no
      · rw [if_pos hn] at w ⊢
        exact ⟨w⟩
      · rw [if_neg hn] at w
        exact w.elim
  | no => exact fun w => w.w.elim
  | _ => exact fun w => ⟨w.w⟩
theorem tryk_y (e : c ∈ yes) (w : SetK i ρ (.x c fs) h (fun ρ1 h1 => Ws (s ρ1 h1) (fun ρ2 h2 => UnK i ρ2 h2 N) ⟨R, fun ρ2 h2 => UnK i ρ2 h2 B, fun ρ2 h2 => UnK i ρ2 h2 C, fun _ _ _ _ => False⟩)) : TryK yes no i s c fs ρ h N ⟨R, B, C, X⟩ := ⟨by rw [if_pos e]; exact w⟩
theorem wp_isE (w : Wp (f ρ h) (fun v h1 => ∃ b, isE yes no v = some b ∧ Q (.d (.bool b)) h1) E) : Wp (eIsE yes no f ρ h) Q E :=
  wp_bind (w.mono (fun _ _ ⟨k, e, q⟩ => by rw [e]; exact ⟨q⟩) fun _ _ _ z => z)
theorem ex_isE_y {P : Bool → Prop} (e : c ∈ yes) (q : P true) : ∃ b, isE yes no (.x c fs) = some b ∧ P b := ⟨true, if_pos e, q⟩
theorem ex_isE_n {P : Bool → Prop} (e : c ∉ yes) (e2 : c ∈ no) (q : P false) : ∃ b, isE yes no (.x c fs) = some b ∧ P b := ⟨false, (if_neg e).trans (if_pos e2), q⟩
theorem wo_isNx (q : Q (.d (.bool false)) h) : Wo (gIsN (.x c fs) (.d .none) h) Q := q
theorem hd_UnK (w : UnK i ρ h N) : UnK i ρ h N := w
theorem hd_TryK {D : Ds} (w : TryK yes no i s c fs ρ h N D) : TryK yes no i s c fs ρ h N D := w
end

section
variable {h : Hh} {N : En → Hh → Prop} {r : En}
variable {o0 o1 o2 o3 o4 o5 o6 o7 o8 o9 o10 o11 o12 o13 o14 o15 o16 o17 o18 o19 o20 o21 o22 o23 o24 o25 : Option Vl}
theorem unk3 (q : N (o0 :: o1 :: o2 :: none :: r) h) : UnK 3 (o0 :: o1 :: o2 :: o3 :: r) h N := q
end
end Rk

/-! Rk46: an empty dict that is never changed, as data. -/
namespace Rk
open PySem PySem.Spec L2
section
variable {X : Cx} {W : WX} {pos : Pos}
end
end Rk

/-! Rk47: a list walked from its end. -/
namespace Rk
open PySem PySem.Spec L2
section
variable {K : PySem.W.Frag}
end
def iRev (as : Av) : Iv := fun ρ h => (as ρ h).bind fun vs h1 => match vs with
  | [v] => (itL v h1).bind fun m h2 => .ok ⟨m.ds.reverse, m.gd⟩ h2
  | _ => .no
section
variable {X : Cx} {W : WX} {tg : Expr} {pos p : Pos} {fs : Av}
end
section
variable {E : XP} {ρ : En} {h : Hh} {as : Av} {QI : Itm → Hh → Prop}
end
end Rk

/-! Rk48: sorted(t), t a written tuple of texts. -/
namespace Rk
open PySem PySem.Spec L2 PyProof.Rows
section
variable {prog : Program} {w : World} {A : Around} {E : Value → Shared → Prop} {s : Shared}
end
def rSortT (K : PySem.W.Frag) : List V → Hp → VK → Prop := fun vs H Q => ∃ (a : Addr) (xs : List Str), vs = [V.ref a] ∧ SqT K H a (xs.map V.str) ∧ xs.length < 64 ∧ ∀ (ys : List Str) (p : Addr), ys.Perm xs → sortedS ys = true → H p = none → Q (.ref p) (upd H p (.lst (ys.map V.str)))
def strsOf : List Da → Option (List Str)
  | [] => some []
  | .str x :: ds => (strsOf ds).map (x :: ·)
  | _ :: _ => none
def gSortC (src out : List Str) : GC := fun as h => match as with
  | [.d (.tuple ds)] => if strsOf ds = some src then some (.r h.length, h ++ [some (.lst (out.map PyData.str))]) else none
  | _ => none
theorem strsOf_ok {K : PySem.W.Frag} {H : Hp} {M : Addr → Prop} : ∀ {ds : List Da} {vs : List V} {xs : List Str}, Reps K H M vs ds → strsOf ds = some xs → vs = xs.map V.str
  | [], _, xs, .nil, e => by
    cases e
    rfl
  | d :: ds, _, xs, .cons (v := v) r t, e => by
    cases d with
    | str x =>
      unfold strsOf at e
      cases e2 : strsOf ds with
      | none => rw [e2] at e; cases e
      | some ys =>
        rw [e2] at e
        cases e
        cases r
        rw [strsOf_ok t e2]
        rfl
    | _ => cases e
end Rk

/-! Rk49: an exception out of a list comprehension's block (only calls raise in it). -/
namespace Rk
open PySem PySem.Spec L2 PyProof.Rows
section
variable {M : Model} {A : Around} {E : Value → Shared → Prop} {s : Shared} {B : Heap} {env cenv : Env} {outer l : List Env} {a L C : Addr} {Z : Obj → Prop} {m : Str → Option Value}
end
/-- behind the block: as the library's post, an exception with the frame's note -/
def cPost (M : Model) (A : Around) (E : Value → Shared → Prop) (use : Option (Value → Sem Unit)) (Q : Value → Shared → Prop) (acc : Value) (ce : Env) (r : Result) (s' : Shared) : Prop :=
  match r, use with
  | .ok _, none => ∃ m, s'.heap.Ns ce.locals m ∧ ∀ h', Heap.SameBut ce.locals s'.heap h' → Q acc { s' with heap := h' }
  | .ok _, some u => wpAny M A (u acc) (fun _ s'' => ∃ m, s''.heap.Ns ce.locals m ∧ ∀ h', Heap.SameBut ce.locals s''.heap h' → Q .none { s'' with heap := h' }) E s'
  | .error x, _ => ∃ m, s'.heap.Ns ce.locals m ∧ ∀ h', (∃ m', h'.Ns ce.locals m') → Heap.SameBut ce.locals s'.heap h' → ∀ cenv : Env, cenv.frame = ce.frame → wpAny M A (PySem.passOn "comprehension.variables-let-go" x cenv : Sem Value) (fun _ _ => False) E { s' with heap := h' }
section
variable {M : Model} {A : Around} {E : Value → Shared → Prop} {s : Shared} {env : Env}
end
abbrev blkX (X : Cx) (s : Shared) (H : Hp) (scope : Scope) (ce : Env) (fp : List Addr) (xe : Value → Shared → Prop) : Cx := (X.blk s H scope ce fp).tr [] xe
end Rk

/-! Rk50: a list comprehension whose block may let an exception out (of a call). -/
namespace Rk
open PySem PySem.Spec L2 PyProof.Rows
/-- the wish about exceptions, at the def's slots -/
abbrev wAt (W : WX) (σ : L2.St) : WX := fun c d _ H => W c d σ H
def tLcX (W : WX) (wi : TI) (g : TG) (tt : WX → TT) (te : WX → TE) (vs : List Nat) : TE := fun σ H Q => wi σ H fun J H1 => ∀ D, H1 D = none → ∃ V : Nat → Nat → Hp → Prop, (∃ m, V 0 m (L2.upd H1 D (.lst []))) ∧ ∀ i m H, V i m H →
  (J.stop i H ∧ Q (.ref D) H) ∨ (J.go i H ∧ ∃ Nx : Hp → Prop, (∀ H', Nx H' → ∃ m', m' < m ∧ V (i + 1) m' H') ∧ ∀ x H', J.yld i H x H' → g x (L2.wipe σ vs) H' fun σ2 H2 => L2.wipe σ2 vs = L2.wipe σ vs ∧ tt (wAt W σ) σ2 H2 fun b H3 =>
    if b = true then te (wAt W σ) σ2 H3 fun y H4 => ∃ acc, H4 D = some (.lst acc) ∧ acc.length < sizeLine ∧ Nx (L2.upd H4 D (.lst (acc ++ [y]))) else Nx H3)
section
variable {X : Cx} {W : WX}
end
end Rk

/-! Rk51 (printed by mk51.py): list comprehensions that let an exception through. -/
namespace Rk
open PySem PySem.Spec L2
variable {mg : Str → Option Value}
open Classical in
noncomputable def lcLX (gd : Option (Nat × List Da)) (D : Nat) (g : Gv) (tt : Tv) (fe : Ev) (ρ0 : En) : List Da → Hh → Out Vl
  | [], h => if gdOk gd h then .ok (.r D) h else .no
  | d :: ds, h => if gdOk gd h then (match g (.d d) ρ0 h with
      | none => .no
      | some p => match tt p.1 p.2 with
        | .ok true h2 => (match fe p.1 h2 with
          | .ok v h3 => (match appL D v h3 with
            | some h4 => lcLX gd D g tt fe ρ0 ds h4
            | none => .no)
          | .ex c fs h3 => .ex c fs h3
          | .no => .no)
        | .ok false h2 => lcLX gd D g tt fe ρ0 ds h2
        | .ex c fs h2 => .ex c fs h2
        | .no => .no) else .no
noncomputable def eLcX (vs : List Nat) (i : Iv) (g : Gv) (tt : Tv) (fe : Ev) : Ev := fun ρ h => (i ρ h).bind fun m h1 => lcLX m.gd h1.length g tt fe (wipeE ρ vs) m.ds (h1 ++ [some (.lst [])])
section
variable {X : Cx} {W : WX} {elt tg iter : Expr} {ifs : List Expr} {scope : Scope} {own : List (Str × Nat)} {pos spos py : Pos} {fi : Iv} {g : Gv} {tt : Tv} {fe : Ev}
end
end Rk

/-! Rk52: wishes for list comprehensions that may raise. -/
namespace Rk
open PySem PySem.Spec L2
section
variable {gd : Option (Nat × List Da)} {g : Gv} {tt : Tv} {fe : Ev} {ρ0 ρ1 : En} {h h1 h2 h3 h4 : Hh} {D : Nat} {d : Da} {ds : List Da} {v : Vl} {c : Str} {fs : List (Str × Da)}
theorem lcX_nil (e : gdOk gd h) : lcLX gd D g tt fe ρ0 [] h = .ok (.r D) h := by
  unfold lcLX
  rw [if_pos e]
theorem lcX_cons (e : gdOk gd h) (eg : g (.d d) ρ0 h = some (ρ1, h1)) (et : tt ρ1 h1 = .ok true h2) (ef : fe ρ1 h2 = .ok v h3) (ea : appL D v h3 = some h4) : lcLX gd D g tt fe ρ0 (d :: ds) h = lcLX gd D g tt fe ρ0 ds h4 := by
  rw [lcLX]
  rw [if_pos e, eg]
  dsimp only
  rw [et]
  dsimp only
  rw [ef]
  dsimp only
  rw [ea]
theorem lcX_ex (e : gdOk gd h) (eg : g (.d d) ρ0 h = some (ρ1, h1)) (et : tt ρ1 h1 = .ok true h2) (ef : fe ρ1 h2 = .ex c fs h3) : lcLX gd D g tt fe ρ0 (d :: ds) h = .ex c fs h3 := by
  rw [lcLX]
  rw [if_pos e, eg]
  dsimp only
  rw [et]
  dsimp only
  rw [ef]
end
section
variable {gd : Option (Nat × List Da)} {g : Gv} {fe : Ev} {ρ0 : En} {h : Hh} {α : Type} {f g' : α → Da} {P : α → Bool} {c : Str} {fs : List (Str × Da)}
theorem lcX_mapR (hgd : ∀ o, gdOk gd (h ++ [o])) : ∀ (xs : List α) (acc : List Da), (∀ x ∈ xs, ∀ h', ∃ ρ1, g (.d (f x)) ρ0 h' = some (ρ1, h') ∧ ((P x = true ∧ fe ρ1 h' = .ok (.d (g' x)) h') ∨ (P x = false ∧ fe ρ1 h' = .ex c fs h'))) → acc.length + xs.length ≤ 16777216 →
    (xs.all P = true ∧ lcLX gd h.length g tvYes fe ρ0 (xs.map f) (h ++ [some (.lst acc)]) = .ok (.r h.length) (h ++ [some (.lst (acc ++ xs.map g'))])) ∨ (xs.all P = false ∧ ∃ o, lcLX gd h.length g tvYes fe ρ0 (xs.map f) (h ++ [some (.lst acc)]) = .ex c fs (h ++ [o]))
  | [], acc, _, _ => by
    refine .inl ⟨rfl, ?_⟩
    rw [List.map_nil, lcX_nil (hgd _)]
    simp
  | d :: ds, acc, H, hl => by
    obtain ⟨ρ1, e1, e2⟩ := H d (List.mem_cons_self ..) (h ++ [some (.lst acc)])
    rw [List.length_cons] at hl
    rw [List.map_cons]
    rcases e2 with ⟨p, e2⟩ | ⟨p, e2⟩
    · rw [lcX_cons (hgd _) e1 rfl e2 (appL_end rfl (by omega))]
      have := lcX_mapR hgd ds (acc ++ [g' d]) (fun d hd => H d (List.mem_cons_of_mem _ hd)) (by rw [List.length_append, List.length_singleton]; omega)
      simpa [p] using this
    · rw [lcX_ex (hgd _) e1 rfl e2]
      exact .inr ⟨by simp [p], _, rfl⟩
end
section
variable {Q : Vl → Hh → Prop} {E : XP} {ρ : En} {h : Hh} {i : Iv} {g : Gv} {tt : Tv} {fe : Ev} {ws : List Nat}
/-- every part told by a function, or all at an end by the one exception -/
theorem wp_lcX {α : Type} (xs : List α) (f g' : α → Da) (P : α → Bool) (c : Str) (fs : List (Str × Da)) {ρ0 : En} (e00 : wipeE ρ ws = ρ0) (w : Wp (i ρ h) (fun m h1 => m = ⟨xs.map f, none⟩ ∧ xs.length ≤ 16777216 ∧ h1.length = h.length ∧
      (∀ x ∈ xs, ∀ h', GvK (g (.d (f x)) ρ0 h') fun ρ1 h2 => h2 = h' ∧ Wp (fe ρ1 h') (fun v h3 => h3 = h' ∧ P x = true ∧ v = .d (g' x)) (fun c' fs' h3 => h3 = h' ∧ P x = false ∧ c' = c ∧ fs' = fs)) ∧
      (xs.all P = true → Q (.d (.list (xs.map g'))) h1) ∧ (xs.all P = false → E c fs h1)) (fun c fs h1 => E c fs (h1.take h.length))) : Wp (eFz (eLcX ws i g tvYes fe) ρ h) Q E := by
  subst e00
  refine wp_fz (wp_bind (w.mono ?_ fun _ _ _ z => z))
  rintro m h1 ⟨rfl, hl, hh, H, q, qe⟩
  have lf := lcX_mapR (gd := none) (g := g) (fe := fe) (ρ0 := wipeE ρ ws) (h := h1) (f := f) (g' := g') (P := P) (c := c) (fs := fs) (fun _ => trivial) xs [] (fun d hd h' => by
    have k := H d hd h'
    unfold GvK Wo at k
    revert k
    cases e : g (.d (f d)) (wipeE ρ ws) h' with
    | none => exact fun z => z.elim
    | some p =>
      obtain ⟨ρ1, h2⟩ := p
      rintro ⟨rfl, wf⟩
      refine ⟨ρ1, rfl, ?_⟩
      have k := wf.w
      revert k
      cases fe ρ1 h2 with
      | ok v h3 => rintro ⟨rfl, p, rfl⟩; exact .inl ⟨p, rfl⟩
      | ex c' fs' h3 => rintro ⟨rfl, p, rfl, rfl⟩; exact .inr ⟨p, rfl⟩
      | no => exact fun z => z.elim) (by simpa using hl)
  rw [List.nil_append] at lf
  rcases lf with ⟨p, lf⟩ | ⟨p, o, lf⟩
  · exact wp_eq lf (fzk_end hh (q p))
  · refine ⟨?_⟩
    show Wp0 (lcLX none h1.length g tvYes fe (wipeE ρ ws) (xs.map f) (h1 ++ [some (.lst [])])) _ _
    rw [lf]
    show E c fs ((h1 ++ [o]).take h.length)
    rw [← hh, List.take_left]
    exact qe p
end
end Rk

/-! Rk53: name = [..], the block may let an exception out. -/
namespace Rk
open PySem PySem.Spec L2
section
variable {X : Cx} {W : WX} {elt tg iter : Expr} {ifs : List Expr} {scope : Scope} {own : List (Str × Nat)} {pos spos py : Pos} {fi : Iv} {g : Gv} {tt : Tv} {fe : Ev}
end
end Rk

/-! Rk54: as wp_lcX (Rk52), the list kept as one that may be changed. -/
namespace Rk
open PySem PySem.Spec L2
section
variable {Q : Vl → Hh → Prop} {E : XP} {ρ : En} {h : Hh} {i : Iv} {g : Gv} {tt : Tv} {fe : Ev} {ws : List Nat}
end
end Rk

/-! Rk55: deeds: a lambda without parameters, handed to a def that calls it. -/
namespace Rk
open PySem PySem.Spec L2
/-- what stands for the deed, what it tells -/
structure Deed where
  D : Dd
  T : Hh → Out Vl
open Classical in
noncomputable def eDeed (i : Nat) (d : Deed) : Ev := fun ρ h => match ρ[i]? with
  | some (some (.f D)) => if D = d.D then d.T h else .no
  | _ => .no
def cap1 : Option Vl → Option Vl0
  | some (.d x) => some (.d x)
  | some (.r n) => some (.r n)
  | _ => none
def up1 : Option Vl0 → Option Vl
  | some (.d x) => some (.d x)
  | some (.r n) => some (.r n)
  | none => none
def capE (ρ : En) : List (Option Vl0) := ρ.map cap1
def upE (ρ : List (Option Vl0)) : En := ρ.map up1
theorem cap_rep {K : PySem.W.Frag} {mg : Str → Option Value} {φ : List Addr} {h : Hh} {H : Hp} {σ : L2.St} {ρ : En} (er : ERep K mg φ h H σ ρ) : σ.length = (capE ρ).length ∧ ∀ (i : Nat) (w : Vl0), (capE ρ)[i]? = some (some w) → ∃ x, σ[i]? = some (some x) ∧ VRep0 K φ h H x w := by
  refine ⟨by unfold capE; rw [List.length_map]; exact er.len, fun i w e => ?_⟩
  unfold capE at e
  rw [List.getElem?_map] at e
  cases z : ρ[i]? with
  | none => rw [z] at e; cases e
  | some o =>
    rw [z] at e
    have e := Option.some.inj e
    cases o with
    | none => cases e
    | some v =>
      obtain ⟨x, e1, r⟩ := er.at_ i v z
      refine ⟨x, e1, ?_⟩
      cases v with
      | d y => cases e; exact r
      | r n => cases e; exact r
      | x c fs => cases e
      | f D => cases e
theorem up_rep {K : PySem.W.Frag} {mg : Str → Option Value} {φ : List Addr} {h : Hh} {H : Hp} {σ : L2.St} {ρ : List (Option Vl0)} (hl : σ.length = ρ.length) (g : ∀ (i : Nat) (w : Vl0), ρ[i]? = some (some w) → ∃ x, σ[i]? = some (some x) ∧ VRep0 K φ h H x w) : ERep K mg φ h H σ (upE ρ) := by
  refine ⟨by unfold upE; rw [List.length_map]; exact hl, fun i v e => ?_⟩
  unfold upE at e
  rw [List.getElem?_map] at e
  cases z : ρ[i]? with
  | none => rw [z] at e; cases e
  | some o =>
    rw [z] at e
    have e := Option.some.inj e
    cases o with
    | none => cases e
    | some w =>
      obtain ⟨x, e1, r⟩ := g i w z
      refine ⟨x, e1, ?_⟩
      cases w with
      | d y => cases e; exact r
      | r n => cases e; exact r
open Classical in
/-- whatever the addresses are -/
noncomputable def lamO (o : Addr → Addr → List (Option V) → Out Vl) : Out Vl := if z : ∃ r, ∀ f c σ, o f c σ = r then Classical.choose z else .no
theorem lamO_eq {o : Addr → Addr → List (Option V) → Out Vl} {r : Out Vl} (e : ∀ f c σ, o f c σ = r) : lamO o = r := by
  have z : ∃ r, ∀ f c σ, o f c σ = r := ⟨r, e⟩
  unfold lamO
  rw [dif_pos z, ← Classical.choose_spec z 0 0 []]
  exact e 0 0 []
theorem PoX.lam {K : PySem.W.Frag} {mg : Str → Option Value} {φ : List Addr} {h : Hh} {H : Hp} {Q : VK} {E : XK} {o : Addr → Addr → List (Option V) → Out Vl} (q : PoX K mg φ h H (lamO o) Q E) (f c : Addr) (σ : List (Option V)) : PoX K mg φ h H (o f c σ) Q E := by
  unfold lamO at q
  split at q
  · rename_i z
    rw [← Classical.choose_spec z f c σ] at q
    exact q
  · exact q.elim
/-- the maker's table stands where it is to stand -/
def hasTab (n : Nat) (x : Str) (h : Hh) : Bool := match h[n]? with
  | some (some (.tbl y)) => decide (y = x)
  | _ => false
theorem hasTab_ok {n : Nat} {x : Str} {h : Hh} (e : hasTab n x h = true) : h[n]? = some (some (.tbl x)) := by
  unfold hasTab at e
  split at e
  · rename_i y q
    rw [q, of_decide_eq_true e]
  · cases e
noncomputable def eLam (n : Nat) (x : Str) (m : Deed → Fn) (fb : Ev) : Ev := fun ρ h => if hasTab n x h = true then
    lamO fun f c σ => m ⟨⟨f, c, x ++ ".<locals>." ++ "<lambda>", σ, capE ρ⟩, fun h' => fb (upE (capE ρ)) h'⟩ [.f ⟨f, c, x ++ ".<locals>." ++ "<lambda>", σ, capE ρ⟩] h
  else .no
/-! ### the deed done -/
def Act (Z : Cx) (d : Deed) : Prop := ∀ (W : WX) (pn : List (Addr × Obj)) (xe : Value → Shared → Prop) (a : Str) (i : Nat) (p1 p2 : Pos), Takes (Z.tr pn xe) W → Z.N[i]? = some a → Vis Z.env.scope a →
  (a == ("__debug__" : Str)) = false → (a == ("__classdict__" : Str)) = false → EE (Z.tr pn xe) W (.Call (.Name a p1) [] [] p2) (eDeed i d)
theorem ee_deed {Z : Cx} {W : WX} {d : Deed} {pn : List (Addr × Obj)} {xe : Value → Shared → Prop} {a : Str} (i : Nat) {p1 p2 : Pos} (act : Act Z d) (tk : Takes (Z.tr pn xe) W) (hN : Z.N[i]? = some a := by rfl)
    (hv : Vis Z.env.scope a := by first | exact Or.inl rfl | exact Or.inr (Or.inl rfl) | exact Or.inr (Or.inr rfl)) (hd : (a == ("__debug__" : Str)) = false := by decide) (hcd : (a == ("__classdict__" : Str)) = false := by decide) : EE (Z.tr pn xe) W (.Call (.Name a p1) [] [] p2) (eDeed i d) := act W pn xe a i p1 p2 tk hN hv hd hcd
theorem tk_lam {X : Cx} {A : Around} {outer : List Env} {s : Shared} {H : Hp} {E : XK} {scope : Scope} {f c' : Addr} : Takes (LamX.lamCx X A outer s H E scope f c') (WOf E) := takes_of rfl rfl rfl rfl
section
variable {X : Cx} {pins : List (Addr × Obj)} {σ : L2.St} {H : Hp} {s : Shared} {y : Str} {N : List Str} {sc scope : Scope} {g f c' : Addr} {cdv pm ctv : Value} {params : Arguments} {body : Expr} {k : Nat} {E0 : XK} {fb : Ev} {ρ : En}
theorem deed_act (I : Inv X pins σ H s) (L : LamX.LamS X.env.scope scope) (hfn : H f = none) (hfr : f ∉ frs X.stack) (hr : RoomG (k + 2) X.A)
    (hf : s.heap.get? f = some (PySem.W.kla_obj "<lambda>" (X.env.qual ++ "<lambda>") params body scope (cloFrom X.env.cells scope.names []) pm c' ctv))
    (hbind : ∀ (q : Str) (cl : List (Str × Addr)) (pm cv ctv : Value), bindArgs (PySem.W.kla_fn "<lambda>" q params body scope cl pm cv ctv) ⟨[], []⟩ = pure [])
    (hb : ∀ (A : Around) (outer : List Env) (s : Shared) (H : Hp) (E : XK) (f c' : Addr), RoomG k (A.deeper (LamX.lamEnv X scope s.heap.objs.size f c')) → EE (LamX.lamCx X A outer s H E scope f c') (WOf E) body fb) :
    Act (cxOf (L2.CX X.prog X.w) X.prog X.w X.K X.mg X.base N y sc g cdv X.A X.stack s H E0) ⟨⟨f, c', X.env.qual ++ "<lambda>", σ, capE ρ⟩, fun h => fb (upE (capE ρ)) h⟩ := by
  intro W pn xe a i p1 p2 tk hN hv hd hcd
  refine PE.of ⟨?_⟩ fun _ _ _ z => z
  rintro pinsZ sZ σZ HZ Q IZ ⟨φ, h, ρZ, sm, er, q⟩
  unfold eDeed at q
  split at q
  · rename_i D eD
    split at q
    · rename_i e
      subst e
      obtain ⟨xv, e1, e2, e3, -, e5, e6⟩ := er.at_ i _ eD
      dsimp only at e2 e3 e5 e6 q
      subst e2
      have er0 : ERep X.K X.mg φ h HZ σ (upE (capE ρ)) := up_rep e5 e6
      have get := (pe_var (X := (cxOf (L2.CX X.prog X.w) X.prog X.w X.K X.mg X.base N y sc g cdv X.A X.stack s H E0).tr pn xe) (pos := p1) (i := i) hN hv hd hcd).run pinsZ sZ σZ HZ (fun v H1 => v = .ref f ∧ H1 = HZ) IZ ⟨.ref f, e1, rfl, rfl⟩
      refine wpAny_Call_Name_kw (thn get ?_)
      rintro u s1 ⟨_, H1, I1, r1, rfl, eH⟩
      rw [eH] at I1
      have r1 : u = Value.ref f := r1
      subst r1
      have un := I1.base
      have here := un.keep f _ hf hfn hfr nofun
      refine PySem.W.callWith_F0 ⟨_, _, _, _, here⟩ ?_
      obtain ⟨⟨oc, vs, t, o1, o2, o3⟩, _, _⟩ := I1.hok _ _ e3
      have hr1 : RoomG (k + 1) (X.A.deeper (PyProof.Rows.envOfC y sc s.heap.objs.size g cdv)) := hr.deeper _
      refine wpAny_call (codeAny_mono (R := CR (L2.CX X.prog X.w) (PyProof.Rows.envOfC y sc s.heap.objs.size g cdv :: X.stack) X.prog X.w HZ s1 Q (WE W σZ)) ?_ ?_)
      · refine PySem.W.kla_callFunE hr1.r.depth here rfl L.co L.gen rfl ⟨c', oc, vs, t, rfl, o1, o2, o3⟩ ?_
        rw [List.append_nil, hbind]
        refine wpAny_pure (wpAny_newFunctionEnv (fun z hz => (L.own z hz).2) (fun z hz => nomatch hz) (fun h₁ hns hsb => ⟨I1.nolimit.fresh _ hsb, ?_⟩) L.kind)
        have kp : ∀ b o, s1.heap.get? b = some o → h₁.get? b = some o := fun b o e => hsb.extBut b o (Nat.ne_of_lt (Heap.lt_size e)) (Heap.get?_push_of_some _ e)
        have J := LamX.lam_start2 (tk := s1.toks + ([] : List (Str × Value)).length) (f := f) (c' := c') (E := WE W σZ) I L I1.env0 hr1.r.hd un hns kp
        refine PySem.W.kla_codeExpr (wpAny_mono ((hb _ _ s1 _ (WE W σZ) f c' (hr1.deeper _)).run [] _ _ _ Q J ⟨φ, h, _, sm, er0, q⟩) ?_ fun _ _ z => z)
        rintro v s' ⟨w', H', J', rv, q'⟩
        exact ⟨w', H', J'.os, J'.bare, J'.base, J'.hok, rv, q'⟩
      · intro r s' hq
        match r, hq with
        | .error e, hq => exact passAt tk σZ pinsZ _ s1 e s' I1 hq
        | .ok (.ret u), hq => exact I1.after hq
    · exact q.elim
  · exact q.elim
end
/-! ### the def that does it -/
/-- a def whose first argument is a deed: it may do it -/
structure FnL (P : Program) (w : World) (K : PySem.W.Frag) (mg : Str → Option Value) (base : Heap) (k : Nat) (y : Str) (N : List Str) (sc : Scope) (g : Addr) (fd : FuncData) (ps : List Str) (m : Deed → Fn) : Prop where
  run : ∀ (d : Deed) (A : Around) (outer : List Env) (s : Shared) (H : Hp) (args : Args) (us : List Value) (vs : List V) (Q : VK) (E : XK), RoomG k A → (∀ cdv, Act (cxOf (L2.CX P w) P w K mg base N y sc g cdv A outer s H E) d) →
    Env0 P w K mg base A outer s H → BindsTo s fd args (ps.zip us) → Vals vs us → spF K mg (m d) vs H Q E → codeAny (model P w) A (.call (.ref g) args) (CR (L2.CX P w) outer P w H s Q E) s
def DfL (P : Program) (w : World) (K : PySem.W.Frag) (mg : Str → Option Value) (base : Heap) (k : Nat) (y : Str) (ps : List Str) (m : Deed → Fn) : Prop :=
  ∃ (g : Addr) (fd : FuncData) (N : List Str) (sc : Scope), mg y = some (.ref g) ∧ PySem.W.keepIn K (.ref g) = true ∧ Binds K fd ps [] ∧ FnL P w K mg base k y N sc g fd ps m
theorem dfL_of {P : Program} {w : World} {K : PySem.W.Frag} {mg : Str → Option Value} {base : Heap} {x : Str} {st : Stmt} {f : Addr} {fd : FuncData} {N ps : List Str} {k kk NN : Nat} {body : Deed → Sv} (F : FnP K x st f fd) (g : mg x = some (.ref f)) (S : FnScope N ps (defScope st)) (e1 : ps.length = kk) (e2 : N.length = NN)
    (b : ∀ (dV kV doc pm : Value) (an : Option Addr) (cdv ct : Value) (us : List Value), us.length = ps.length → bindArgs (PySem.W.fnOf x x (defArgs st) (defBody st) (defScope st) .none kV doc pm an cdv ct) ⟨us, []⟩ = pure (ps.zip us))
    (hb : ∀ (d : Deed) (cdv : Value) (A : Around) (outer : List Env) (s : Shared) (H : Hp) (E : XK), RoomG k (A.deeper (PyProof.Rows.envOfC x (defScope st) s.heap.objs.size f cdv)) → Act (cxOf (L2.CX P w) P w K mg base N x (defScope st) f cdv A outer s H E) d →
      ESs (cxOf (L2.CX P w) P w K mg base N x (defScope st) f cdv A outer s H E) (WOf E) (defBody st) (body d)) :
    DfL P w K mg base (k + 1) x ps (fun d => mkF kk NN (body d)) := by
  subst e1 e2
  refine ⟨f, fd, N, defScope st, g, F.kp, FunD.bindsN F fun kV doc pm an cdv ct us hl => b .none kV doc pm an cdv ct us hl, ⟨fun d A outer s H args us vs Q E hr act e0 hbd r h => ?_⟩⟩
  exact run_def F S (spF_len h) hr e0 hbd r fun cdv _ hr' => enter_body (hb d cdv A outer s H E hr' (act cdv)) h
/-! ### y(lambda: body) -/
section
variable {K : PySem.W.Frag} {φ : List Addr} {h : Hh} {H H1 : Hp}
/-- the tables that stand -/
def tabsOf : List Addr → Hh → List (Addr × Str)
  | a :: φ, some (.tbl x) :: h => (a, x ++ ".<locals>." ++ "<lambda>") :: tabsOf φ h
  | _ :: φ, _ :: h => tabsOf φ h
  | _, _ => []
theorem tabsOf_mem : ∀ {φ : List Addr} {h : Hh} {p : Addr × Str}, p ∈ tabsOf φ h → ∃ (i : Nat) (x : Str), φ[i]? = some p.1 ∧ h[i]? = some (some (.tbl x)) ∧ p.2 = x ++ ".<locals>." ++ "<lambda>"
  | [], [], _, e => by cases e
  | [], _ :: _, _, e => by cases e
  | _ :: _, [], _, e => by cases e
  | a :: φ, o :: h, p, e => by
    have next : p ∈ tabsOf φ h → ∃ (i : Nat) (x : Str), (a :: φ)[i]? = some p.1 ∧ (o :: h)[i]? = some (some (.tbl x)) ∧ p.2 = x ++ ".<locals>." ++ "<lambda>" := fun e => by
      obtain ⟨i, x, e1, e2, e3⟩ := tabsOf_mem e
      exact ⟨i + 1, x, e1, e2, e3⟩
    match o, e with
    | some (.tbl x), e =>
      rcases List.mem_cons.mp e with rfl | e
      · exact ⟨0, x, rfl, rfl, rfl⟩
      · exact next e
    | none, e => exact next e
    | some (.lst _), e => exact next e
    | some (.dct _), e => exact next e
    | some (.rl _), e => exact next e
theorem mem_tabsOf : ∀ {φ : List Addr} {h : Hh} {i : Nat} {x : Str} {a : Addr}, φ[i]? = some a → h[i]? = some (some (.tbl x)) → (a, x ++ ".<locals>." ++ "<lambda>") ∈ tabsOf φ h
  | [], _, _, _, _, e, _ => by simp at e
  | _ :: _, [], _, _, _, _, e => by simp at e
  | b :: φ, o :: h, 0, x, a, e1, e2 => by
    cases (Option.some.inj e1)
    cases (Option.some.inj e2)
    exact List.mem_cons_self
  | b :: φ, o :: h, i + 1, x, a, e1, e2 => by
    have r := mem_tabsOf (φ := φ) (h := h) (i := i) e1 e2
    match o with
    | some (.tbl y) => exact List.mem_cons_of_mem _ r
    | none => exact r
    | some (.lst _) => exact r
    | some (.dct _) => exact r
    | some (.rl _) => exact r
theorem Sim.tabs (s : Sim K φ h H) : LamX.Tabs (tabsOf φ h) H := fun p hp => by
  obtain ⟨i, x, e1, e2, e3⟩ := tabsOf_mem hp
  obtain ⟨a, e4, r⟩ := s.ob i _ e2
  rw [e1] at e4
  cases (Option.some.inj e4)
  obtain ⟨c, ps, -, f1, f2, f3⟩ := r
  exact ⟨ps, f1, f2, fun pos cv z => by rw [e3]; exact f3 pos cv z⟩
/-- a lambda was made: tables have grown, all else stays -/
theorem Sim.lam (s : Sim K φ h H) (e : LamX.ExtN H H1) (t : LamX.Tabs (tabsOf φ h) H1) : Step φ h H φ h H1 ∧ Sim K φ h H1 := by
  have st : Stay H (Live φ h) H1 (Live φ h) := fun a o q nt nl => ⟨e a o q nt, nl⟩
  refine ⟨⟨List.prefix_refl _, st⟩, s.len, s.inj, fun i o z => ?_, fun i ns z => ?_⟩
  rotate_left
  · obtain ⟨a, as, e1, e2, e3, e4⟩ := s.rf i ns z
    exact ⟨a, as, e1, e _ _ e2 nofun, e3, e4⟩
  obtain ⟨a, e1, r⟩ := s.ob i o z
  refine ⟨a, e1, ?_⟩
  cases o with
  | lst ds =>
    obtain ⟨xs, f1, f2⟩ := r
    exact ⟨xs, e _ _ f1 nofun, f2.stay st⟩
  | dct ds =>
    obtain ⟨xs, f1, f2⟩ := r
    exact ⟨xs, e _ _ f1 nofun, f2.stay st⟩
  | rl ns =>
    obtain ⟨xs, f1⟩ := r
    exact ⟨xs, e _ _ f1 nofun⟩
  | tbl x =>
    obtain ⟨c, ps, f0, -⟩ := r
    obtain ⟨ps', g1, g2, g3⟩ := t _ (mem_tabsOf e1 z)
    exact ⟨c, ps', f0, g1, g2, g3⟩
end
section
variable {X : Cx} {W : WX} {x y : Str} {c pt : Addr} {k j : Nat} {m : Deed → Fn} {params : Arguments} {body : Expr} {scope : Scope} {fb : Ev} {p lpos pos : Pos} {a : Str}
theorem ee_lam (n : Nat) (T : LamT X.K X.mg X.base x c pt) (D : DfL X.prog X.w X.K X.mg X.base k y [a] m) (hr : RoomG j X.A) (tk : Takes X W) (hq : X.env.qual = x ++ ".<locals>.") (hcode : X.env.code = .ref c) (kl : Nat)
    (hb : ∀ (A : Around) (outer : List Env) (s : Shared) (H : Hp) (E : XK) (f c' : Addr), RoomG kl (A.deeper (LamX.lamEnv X scope s.heap.objs.size f c')) → EE (LamX.lamCx X A outer s H E scope f c') (WOf E) body fb)
    (L : LamX.LamS X.env.scope scope) (hdef : defaultsOf params X.env = ([], []) := by rfl)
    (hbind : ∀ (q : Str) (cl : List (Str × Addr)) (pm cv ctv : Value), bindArgs (PySem.W.kla_fn "<lambda>" q params body scope cl pm cv ctv) ⟨[], []⟩ = pure [] := by intros; rfl) (h1 : k ≤ j := by decide) (h2 : kl + 2 ≤ j := by decide)
    (hg : Gl X y := by rfl) (hdb : (y == ("__debug__" : Str)) = false := by decide) :
    EE X W (.Call (.Name y p) [.Lambda params body scope lpos] [] pos) (eLam n x m fb) := by
  obtain ⟨g, fd, N, sc, gm, kp, b, F⟩ := D
  refine PE.of ⟨?_⟩ fun _ _ _ z => z
  rintro pins s σ H Q I ⟨φ, h, ρ, sm, er, q⟩
  unfold eLam at q
  split at q
  · rename_i ht
    have ht := hasTab_ok ht
    obtain ⟨P, eP, rP⟩ := sm.ob _ _ ht
    obtain ⟨c2, ps, f0, -⟩ := rP
    rw [T.at_] at f0
    cases f0
    have mem : (pt, X.env.qual ++ "<lambda>") ∈ tabsOf φ h := by
      rw [hq]
      exact mem_tabsOf eP ht
    refine wpAny_Call_Name_kw (ld_glob I hg gm ?_ hdb)
    refine PySem.W.callWith_K (h₀ := X.base) I.ok.mod.kin kp ?_ (by rfl) (by rfl)
    show wpAny _ _ (spliced ((false, eval (.Lambda params body scope lpos) X.env) :: backTo pos (starEach [] X.env))) _ _ s
    refine Calls.spliced_cons (LamX.lam_make2 I T.tb hcode mem (fun p hp e => ?_) sm.tabs hdef (L.has I.ok) ?_)
    · obtain ⟨i, z, e1, e2, e3⟩ := tabsOf_mem hp
      have := sm.inj i n p.1 _ _ e1 (by rw [e]; exact eP) e2 ht
      subst this
      rw [e2] at ht
      cases ht
      rw [e3, hq]
    · intro f c' pm ctv H1 s' I1 eN T1 hf hfn hfr hco
      obtain ⟨st, sm1⟩ := sm.lam eN T1
      refine Calls.spliced_nil ⟨I1.kIn, ?_⟩
      obtain ⟨k1, k2⟩ := cap_rep (er.step st)
      have vr : VReps X.K X.mg φ h H1 [.ref f] [.f ⟨f, c', x ++ ".<locals>." ++ "<lambda>", σ, capE ρ⟩] := .cons ⟨rfl, by rw [← hq]; exact hco, sm1.notCode hco, k1, k2⟩ .nil
      have act := fun cdv => deed_act (k := kl) (y := y) (N := N) (sc := sc) (g := g) (cdv := cdv) (E0 := WE W σ) (fb := fb) (ρ := ρ) I1 L hfn hfr (hr.mono h2) hf hbind hb
      rw [hq] at act
      have run := F.run _ X.A X.stack s' H1 ⟨[.ref f], []⟩ [.ref f] [.ref f] Q (WE W σ) (hr.mono h1) act I1.env0 (b s' [.ref f] I1.kIn rfl) (.cons rfl .nil) ⟨φ, h, _, sm1, vr, PoX.lam (PoX.pull st q) f c' σ⟩
      refine wpAny_call (codeAny_mono run ?_)
      intro r s2 hq
      match r, hq with
      | .error e, hq => exact passAt tk σ pins _ s' e s2 I1 hq
      | .ok (.ret u), hq => exact I1.after hq
  · exact q.elim
end
end Rk

/-! Rk56: the head where lambdas are made: tables of code objects. -/
namespace Rk
open PySem PySem.Spec L2 PyProof.Rows
/-! ### the fragment without the tables -/
theorem cutT_no {ts : List Addr} {a : Addr} (h : a ∈ ts) : ∀ K : PySem.W.Frag, (cutT K ts).lookup a = none
  | [] => rfl
  | (b, o) :: K => by
    have ih := cutT_no h K
    unfold cutT at ih ⊢
    rw [List.filter_cons]
    split
    · rename_i hb
      rw [List.lookup_cons]
      have : (a == b) = false := beq_eq_false_iff_ne.mpr fun e => by
        subst e
        have : ts.contains a = true := by rw [List.contains_iff_mem]; exact h
        rw [this] at hb
        cases hb
      rw [this]
      exact ih
    · exact ih
theorem cutT_of {ts : List Addr} {a : Addr} {o : Obj} : ∀ {K : PySem.W.Frag}, (cutT K ts).lookup a = some o → K.lookup a = some o
  | [], h => by cases h
  | (b, u) :: K, h => by
    unfold cutT at h
    rw [List.filter_cons] at h
    rw [List.lookup_cons]
    split at h
    · rw [List.lookup_cons] at h
      cases e : a == b with
      | true => rw [e] at h; exact h
      | false => rw [e] at h; exact cutT_of h
    · rename_i hb
      have q := cutT_of (ts := ts) (K := K) h
      cases e : a == b with
      | true =>
        have ea := eq_of_beq e
        subst ea
        have : a ∈ ts := by
          have hb : ¬ (!ts.contains a) = true := hb
          rw [Bool.not_eq_true', Bool.not_eq_false] at hb
          exact List.contains_iff_mem.mp hb
        have n := cutT_no this K
        unfold cutT at n
        rw [n] at h
        cases h
      | false => exact q
theorem emptyT_ok {K : PySem.W.Frag} {h : Heap} {P : Addr} (X : K.In h) (e : emptyT K P = true) : h.get? P = some { cls := .none, data := .fields #[] } := by
  unfold emptyT at e
  split at e
  · rename_i vs sl q
    rw [Bool.and_eq_true, beq_iff_eq, beq_iff_eq] at e
    have e1 : vs = #[] := Array.eq_empty_of_size_eq_zero e.1
    have e2 : sl = #[] := Array.eq_empty_of_size_eq_zero e.2
    subst e1 e2
    exact X _ _ q
  · cases e
/-- what the head's heap has of the makers -/
structure TabsK (K : PySem.W.Frag) (h : Heap) (xs : List Str) (cs : List (Addr × Addr)) : Prop where
  nd : (tsOf cs).Nodup
  at_ : xs.map (PySem.W.tabIn K) = cs.map some
  no : ∀ p ∈ cs, K.lookup p.2 = none
  em : ∀ p ∈ cs, h.get? p.2 = some { cls := .none, data := .fields #[] }
  hd : ∀ p ∈ cs, PySem.W.CodeHd h p.1 p.2
theorem tabsB_ok {K : PySem.W.Frag} {h : Heap} {xs : List Str} (X : K.In h) (e : tabsB K xs = true) : (cutT K (tsOf (csOf K xs))).In h ∧ TabsK (cutT K (tsOf (csOf K xs))) h xs (csOf K xs) := by
  unfold tabsB at e
  simp only [Bool.and_eq_true, decide_eq_true_eq, List.all_eq_true] at e
  obtain ⟨e1, e2, e3⟩ := e
  exact ⟨fun a o q => X a o (cutT_of q), e1, e2, fun p hp => cutT_no (List.mem_map.mpr ⟨p, hp, rfl⟩) K, fun p hp => emptyT_ok X (e3 p hp).1, fun p hp => PySem.W.codeHd_of_K X (e3 p hp).2⟩
/-! ### the Hook -/
def hookRT (n : Nat) (xs : List Str) (fa : List He.Fa) (fn : List He.DefD) (ex : PySem.W.Frag → Bool) : PySem.W.Hook where
  α := AlR
  obs := fun s => obsRT n xs fa fn ex s.heap.get?
  val := fun _ => (He.valD fn, true)
  says := fun _ h => ∃ K : PySem.W.Frag, K.In h ∧ tabsB K xs = true ∧ SaysR fa fn ex (cutT K (tsOf (csOf K xs)))
  of := fun _ _ e => by
    have e2 := (Bool.and_eq_true _ _).mp (congrArg (fun z : AlR => z.2) e)
    exact ⟨_, He.frG_in, e2.2, congrArg (fun z : AlR => z.1) e, e2.1⟩
  keeps := fun _ _ _ ⟨K, hK, t, c⟩ k => ⟨K, PySem.W.Frag.In.keeps hK k, t, c⟩
/-! ### the law's call -/
/-- the makers' tables as objects of the abstract heap -/
def tabH (xs : List Str) : Hh := xs.map fun x => some (.tbl x)
theorem List.getElem_inj_of_nodup' {l : List Addr} (nd : l.Nodup) {i j : Nat} {a : Addr} (e1 : ∃ h, l[i]'h = a) (e2 : ∃ h, l[j]'h = a) : i = j := by
  obtain ⟨h1, e1⟩ := e1
  obtain ⟨h2, e2⟩ := e2
  rcases Nat.lt_trichotomy i j with z | z | z
  · exact absurd (e1.trans e2.symm) (List.pairwise_iff_getElem.mp nd i j h1 h2 z)
  · exact z
  · exact absurd (e2.trans e1.symm) (List.pairwise_iff_getElem.mp nd j i h2 h1 z)
theorem tabs_sim {K : PySem.W.Frag} {H : Hp} : ∀ {xs : List Str} {cs : List (Addr × Addr)}, (tsOf cs).Nodup → xs.map (PySem.W.tabIn K) = cs.map some → (∀ p ∈ cs, H p.2 = some (.tbl #[])) → Sim K (tsOf cs) (tabH xs) H := by
  intro xs cs nd at_ hH
  have ln : xs.length = cs.length := by have := congrArg List.length at_; simpa using this
  refine ⟨by unfold tabH; rw [List.length_map, List.length_map, ln], fun i j a o o' e1 e2 _ _ => ?_, fun i o e => ?_, fun i ns e => ?_⟩
  · have l1 := (List.getElem?_eq_some_iff.mp e1)
    have l2 := (List.getElem?_eq_some_iff.mp e2)
    exact List.getElem_inj_of_nodup' nd l1 l2
  · unfold tabH at e
    rw [List.getElem?_map] at e
    cases ex : xs[i]? with
    | none => rw [ex] at e; cases e
    | some x =>
      rw [ex] at e
      cases e
      have hi : i < cs.length := by rw [← ln]; exact (List.getElem?_eq_some_iff.mp ex).1
      have ec : cs[i]? = some cs[i] := List.getElem?_eq_getElem hi
      have q := congrArg (fun l => l[i]?) at_
      simp only [List.getElem?_map, ex, ec, Option.map_some] at q
      refine ⟨cs[i].2, by rw [List.getElem?_map, ec]; rfl, cs[i].1, #[], Option.some.inj q, hH _ (List.getElem_mem hi), trivial, fun pos cv z => ?_⟩
      have z : codeAmong pos [] = some cv := z
      simp [codeAmong] at z
  · unfold tabH at e
    rw [List.getElem?_map] at e
    cases ex : xs[i]? with
    | none => rw [ex] at e; cases e
    | some x => rw [ex] at e; cases e
theorem law_spT {K : PySem.W.Frag} {mg : Str → Option Value} {m : Fn} {H : Hp} {a : Addr} {ns : List Int} {xs : List Str} {cs : List (Addr × Addr)} {h' : Hh} (nd : (tsOf cs).Nodup) (at_ : xs.map (PySem.W.tabIn K) = cs.map some) (hH : ∀ p ∈ cs, H p.2 = some (.tbl #[]))
    (h : SqL K H a (ns.map V.int)) (e : m [.d (.list (ns.map PyData.int))] (tabH xs) = .ok (.d (.bool true)) h') : spF K mg m [.ref a] H (fun v _ => v = .bl true) fun _ _ _ => False := by
  have sm := tabs_sim nd at_ hH
  have rs : ∀ ns : List Int, Reps K H (Live (tsOf cs) (tabH xs)) (ns.map V.int) (ns.map PyData.int) := fun ns => by
    induction ns with
    | nil => exact .nil
    | cons n ns ih => exact .cons (.int n) ih
  refine ⟨_, _, _, sm, .cons (x := .d (.list (ns.map PyData.int))) ?_ .nil, ?_⟩
  · rcases h with h | h
    · refine Rep.lst h (fun l => ?_) (rs ns)
      obtain ⟨i, o, e1, _⟩ := l
      rw [List.getElem?_map] at e1
      cases ec : cs[i]? with
      | none => rw [ec] at e1; cases e1
      | some p =>
        rw [ec] at e1
        cases e1
        have z := hH p (List.mem_of_getElem? ec)
        rcases h with h | ⟨o, h⟩ <;> rw [z] at h <;> cases h
    · exact Rep.lstK h (rs ns)
  · rw [e]
    exact fun x H' φ' _ _ r => VRep.bl r
def scrT (a : Addr) (vs : List Value) (ns : List Int) (b : Bool) (ts : List Addr) : Hp := fun c => if c ∈ ts then some (.tbl #[]) else if c = a ∧ b = true then some (.frz { cls := .type "list", data := .seq vs.toArray } (.lst (ns.map V.int))) else none
theorem call_fromT {P : Program} {w : World} {K : PySem.W.Frag} {mg mb : Str → Option Value} {k : Nat} {fa a : Addr} {fd : FuncData} {x : Str} {sp : Sp} {s : Shared} {vs : List Value} {ns : List Int} {xs : List Str} {cs : List (Addr × Addr)} {bt : Bool}
    (KX : K.In s.heap) (g1 : s.heap.Ns mainGlobals mg) (g2 : s.heap.Ns builtinsNs mb) (g3 : ∀ x : Str, x ≠ "__name__" → mb x = bootBuiltins x) (g4 : s.heap.NoLimit) (g5 : s.gens = #[])
    (hbm : ∃ (bm : Addr) (ob : Obj), mg "__builtins__" = some (.ref bm) ∧ bm ≠ builtinsNs ∧ s.heap.get? bm = some ob ∧ ob.cls = .type "module" ∧ ob.dict = some builtinsNs ∧ ob.data = .plain)
    (T : TabsK K s.heap xs cs) (ha : s.heap.get? a = some { cls := .type "list", data := .seq vs.toArray }) (rv : Vals (ns.map V.int) vs) (sz : ns.length ≤ sizeLine) (hr : RoomG k callerA)
    (F : ∀ base : Heap, K.In base → base.Ns mainGlobals mg → (∀ p ∈ cs, LamX.TabB base mg p.1 p.2) → FnG P w K mg base k fa fd [x] sp) (hbind : ∀ (s : Shared) (u : Value), BindsTo s fd ⟨[u], []⟩ [(x, u)])
    (hK : bt = true → K.lookup a = none) (hsp : sp [.ref a] (scrT a vs ns bt (tsOf cs)) (fun v _ => v = .bl true) fun _ _ _ => False) :
    codeAny (model P w) callerA (.call (.ref fa) ⟨[.ref a], []⟩) (fun r s' => r = .ok (.ret (.bool true)) ∧ OldK s.heap s'.heap ∧ s'.os = s.os ∧ AllBare s'.gens) s := by
  have emp : ∀ b, b ∈ tsOf cs → s.heap.get? b = some { cls := .none, data := .fields #[] } := fun b hb => by
    obtain ⟨p, hp, rfl⟩ := List.mem_map.mp hb
    exact T.em p hp
  have aT : a ∉ tsOf cs := fun z => by
    have q := emp a z
    rw [ha] at q
    have q2 := congrArg Obj.data (Option.some.inj q)
    cases q2
  generalize hHe : scrT a vs ns bt (tsOf cs) = H at hsp
  have H1 : ∀ b, b ∈ tsOf cs → H b = some (.tbl #[]) := fun b hb => by rw [← hHe]; exact if_pos hb
  have H2 : ∀ b, b ∉ tsOf cs → H b ≠ none → b = a ∧ bt = true := fun b hb z => by
    by_cases e : b = a ∧ bt = true
    · exact e
    · exact absurd (by rw [← hHe]; exact (if_neg hb).trans (if_neg e)) z
  have H3 : bt = true → H a = some (.frz { cls := .type "list", data := .seq vs.toArray } (.lst (ns.map V.int))) := fun z => by rw [← hHe]; exact (if_neg aT).trans (if_pos ⟨rfl, z⟩)
  have hid : ∀ {b : Addr} {o : Obj}, s.heap.get? b = some o → b ∉ tsOf cs → (b = a → bt = true → False) → (hidT s.heap H).get? b = some o := fun {b o} e n1 n2 => hidT_get e (by
    cases q : H b with
    | none => rfl
    | some u => exact (n2 (H2 b n1 (by rw [q]; exact nofun)).1 (H2 b n1 (by rw [q]; exact nofun)).2).elim)
  have apart : ∀ {b : Addr} {o : Obj}, s.heap.get? b = some o → o.data ≠ .fields #[] → (∀ ws n, o.data ≠ .seq ws n) → (hidT s.heap H).get? b = some o := fun {b o} e n1 n2 => by
    refine hid e (fun z => ?_) fun z _ => ?_
    · rw [emp b z] at e
      cases e
      exact n1 rfl
    · rw [z, ha] at e
      cases e
      exact n2 _ _ rfl
  have ns2 : ∀ {b : Addr} {m : Str → Option Value}, s.heap.Ns b m → (hidT s.heap H).Ns b m := fun ⟨o, es, ep, e, d, r⟩ => ⟨o, es, ep, apart e (by rw [d]; exact nofun) (by rw [d]; exact nofun), d, r⟩
  have kin : K.In (hidT s.heap H) := fun b o e => by
    refine hid (KX b o e) (fun z => ?_) fun z zt => ?_
    · obtain ⟨p, hp, rfl⟩ := List.mem_map.mp z
      rw [T.no p hp] at e
      cases e
    · rw [z, hK zt] at e
      cases e
  obtain ⟨mc, l1, l2⟩ := g4
  have M : Mod K mg (hidT s.heap H) := ⟨kin, ns2 g1, ⟨mb, ns2 g2, g3⟩, mc, ns2 l1, l2⟩
  have hok : HOk P w H s.heap := fun b u z => by
    by_cases hb : b ∈ tsOf cs
    · rw [H1 b hb] at z
      cases z
      exact emp b hb
    · obtain ⟨rfl, zt⟩ := H2 b hb (by rw [z]; exact nofun)
      rw [H3 zt] at z
      cases z
      exact ⟨ha, by rw [List.length_map]; exact sz, vs, _, rv, ha⟩
  have e0 : Env0 P w K mg (hidT s.heap H) callerA [] s H := ⟨rfl, M, fun _ _ e => of_hidT e, Nat.le_of_eq (hidT_size _ _), trivial, nofun, hok, .of_eq g5⟩
  have tb : ∀ p ∈ cs, LamX.TabB (hidT s.heap H) mg p.1 p.2 := fun p hp => by
    have em := T.em p hp
    refine ⟨?_, ?_, fun z => ?_⟩
    · obtain ⟨o, us, f1, f2, f3, f4, f5, f6, f7, e1, r1, r2, r3, r⟩ := T.hd p hp
      exact ⟨o, us, f1, f2, f3, f4, f5, f6, f7, apart e1 (by rw [r2]; rintro ⟨⟩; simp at r3) (by rw [r2]; exact nofun), r1, r2, r3, r⟩
    · obtain ⟨bm, ob, b1, b2, b3, b4, b5, b6⟩ := hbm
      refine ⟨bm, ob, b1, b2, fun z => ?_, fun z => ?_, apart b3 (by rw [b6]; exact nofun) (by rw [b6]; exact nofun), b4, b5, b6⟩
      · obtain ⟨o, es, ep, e, d, _⟩ := g1
        rw [z, e] at b3
        cases b3
        rw [d] at b6
        cases b6
      · rw [z, em] at b3
        cases b3
        cases b6
    · obtain ⟨o, es, ep, e, d, _⟩ := g1
      rw [z, em] at e
      cases e
      cases d
  refine codeAny_mono ((F _ kin (ns2 g1) tb).run callerA [] s H ⟨[.ref a], []⟩ [.ref a] [.ref a] _ _ hr e0 (hbind s (.ref a)) (.cons rfl .nil) hsp) ?_
  intro r s' h
  match r, h with
  | .error e, h => exact (cx_no H s e s' h).elim
  | .ok (.ret u), h =>
    obtain ⟨v, H', os, bare, un, hok', r', q⟩ := h
    cases (show v = .bl true from q)
    cases (show u = Value.bool true from r')
    have kept : ∀ (b : Addr) (o : Obj), b ∉ tsOf cs → s.heap.get? b = some o → s'.heap.get? b = some o := fun b o nb e => by
      cases z : H b with
      | none => exact un.keep b o e z nofun nofun
      | some u =>
        obtain ⟨rfl, zt⟩ := H2 b nb (by rw [z]; exact nofun)
        have e1 := (hok b _ (H3 zt)).1
        rw [e] at e1
        cases e1
        exact (hok' _ _ (un.frzs _ _ _ (H3 zt))).1
    have more : ∀ b, b ∈ tsOf cs → ∃ ms : Array Value, s'.heap.get? b = some { cls := .none, data := .fields ms } := fun b hb => by
      obtain ⟨ms, z⟩ := un.tbls b #[] (H1 b hb)
      exact ⟨_, hok' b _ z⟩
    refine ⟨rfl, ⟨?_, ?_⟩, os, bare⟩
    · intro b o e
      by_cases hb : b ∈ tsOf cs
      · obtain ⟨ms, hm⟩ := more b hb
        obtain ⟨p, hp, rfl⟩ := List.mem_map.mp hb
        rw [T.em p hp] at e
        cases e
        exact .inr (.inl ⟨((T.hd p hp).tab (T.em p hp)).isCodeTable, rfl, #[], ms, rfl, by rw [Array.empty_append]; exact hm⟩)
      · exact .inl (kept b o hb e)
    · intro b o e
      by_cases hb : b ∈ tsOf cs
      · obtain ⟨ms, hm⟩ := more b hb
        exact ⟨_, hm⟩
      · exact ⟨o, kept b o hb e⟩
theorem walkGT {l : PySem.W.OpenLaw} {n k : Nat} {q : Program} {loose : List Str} {XP : (Str → Option Value) → Heap → Prop} {YP : World → Heap → Prop} {d : DefRec} {x : Str} {xs : List Str} (hn : l.most = some n) (hn2 : n ≤ sizeLine) (hdf : d.params.defaults = []) (hr : RoomG k callerA)
    (F : ∀ (w : World) (mg : Str → Option Value) (fa : Addr) (h : Heap), YP w h → h.Ns mainGlobals mg → mg d.name = some (.ref fa) → ∃ (K : PySem.W.Frag) (cs : List (Addr × Addr)) (fd : FuncData) (m : Fn), K.In h ∧ TabsK K h xs cs ∧ (∀ (s : Shared) (u : Value), BindsTo s fd ⟨[u], []⟩ [(x, u)]) ∧
        (∀ ns : List Int, ns.length ≤ n → ∃ h', m [.d (.list (ns.map PyData.int))] (tabH xs) = .ok (.d (.bool true)) h') ∧ ∀ base : Heap, K.In base → base.Ns mainGlobals mg → (∀ p ∈ cs, LamX.TabB base mg p.1 p.2) → FnG l.prog w K mg base k fa fd [x] (spF K mg m)) :
    PySem.W.WalkO q loose XP YP l.row.toRowW d [] (fun f vs => PySem.call f vs) := by
  refine Att.attach_call hn hdf ?_
  intro w s₀ s mg mb fa o pm cd doc a vs ns G Y ho hd hcd hmg hobj hints hlen hg
  obtain ⟨K, cs, fd, m, KX, T, hb, hm, hF⟩ := F w mg fa _ Y G.T.g hmg
  have rv := vals_ints hints
  have sz : ns.length ≤ sizeLine := Nat.le_trans hlen hn2
  obtain ⟨h', e⟩ := hm ns hlen
  have tH : ∀ bt, ∀ p ∈ cs, scrT a vs ns bt (tsOf cs) p.2 = some (.tbl #[]) := fun bt p hp => if_pos (List.mem_map.mpr ⟨p, hp, rfl⟩)
  have aT : a ∉ tsOf cs := fun z => by
    obtain ⟨p, hp, e⟩ := List.mem_map.mp z
    have q := T.em p hp
    rw [e, hobj] at q
    have q2 := congrArg Obj.data (Option.some.inj q)
    cases q2
  cases hk : K.lookup a with
  | some o' =>
    have e2 := KX a o' hk
    rw [hobj] at e2
    cases e2
    have sq : ∀ H, SqL K H a (ns.map V.int) := fun H => .inr ⟨_, vs.toArray, _, hk, rfl, rfl, rfl, by rw [List.size_toArray, hints.length]; exact sz, by simpa using rv⟩
    exact call_fromT (bt := false) KX G.T.g G.T.b G.T.builtins G.T.nolimit hg G.T.bmain T hobj rv sz hr hF hb nofun (law_spT T.nd T.at_ (tH _) (sq _) e)
  | none =>
    have at_ : scrT a vs ns true (tsOf cs) a = some (.frz { cls := .type "list", data := .seq vs.toArray } (.lst (ns.map V.int))) := (if_neg aT).trans (if_pos ⟨rfl, rfl⟩)
    exact call_fromT (bt := true) KX G.T.g G.T.b G.T.builtins G.T.nolimit hg G.T.bmain T hobj rv sz hr hF hb (fun _ => hk) (law_spT T.nd T.at_ (tH _) (.inl (.inr ⟨_, at_⟩)) e)
/-- a maker's facts, from the head's -/
theorem lamT_of {K : PySem.W.Frag} {h base : Heap} {mg : Str → Option Value} {xs : List Str} {cs : List (Addr × Addr)} (X : K.In h) (G : h.Ns mainGlobals mg) (T : TabsK K h xs cs) (tb : ∀ p ∈ cs, LamX.TabB base mg p.1 p.2) (i : Nat) {x : Str} (hx : xs[i]? = some x) : ∃ c P, LamT K mg base x c P := by
  have ln : xs.length = cs.length := by have := congrArg List.length T.at_; simpa using this
  have hi : i < cs.length := by rw [← ln]; exact (List.getElem?_eq_some_iff.mp hx).1
  have ec : cs[i]? = some cs[i] := List.getElem?_eq_getElem hi
  have q := congrArg (fun l => l[i]?) T.at_
  simp only [List.getElem?_map, hx, ec, Option.map_some] at q
  have q := Option.some.inj q
  have tbi := tb _ (List.getElem_mem hi)
  revert q tbi
  generalize cs[i] = ci
  intro q tbi
  refine ⟨ci.1, ci.2, q, tbi, fun f cdv hf ⟨oc, od, fd, osl, lk, e⟩ => ?_⟩
  unfold PySem.W.tabIn at q
  split at q
  · rename_i f' hf'
    have := PySem.W.mg_of X G hf'
    rw [hf] at this
    cases this
    rw [lk] at q
    dsimp only at q
    split at q
    · rename_i c hc
      split at q
      · split at q
        · cases q
          rw [← e, hc]
        · cases q
      · cases q
    · cases q
  · cases q
end Rk

/-! Rk57: wishes for deeds. -/
namespace Rk
open PySem PySem.Spec L2
section
variable {Q : Vl → Hh → Prop} {E : XP} {ρ ρ' : En} {h h0 : Hh} {n i : Nat} {x : Str} {m : Deed → Fn} {fb : Ev} {v0 : Vl} {d : Deed}
theorem wp_deed (e : ρ[i]? = some (some (.f d.D))) (w : Wp (d.T h) Q E) : Wp (eDeed i d ρ h) Q E := by
  have z : eDeed i d ρ h = d.T h := by
    unfold eDeed
    rw [e]
    exact if_pos rfl
  rw [z]
  exact w
theorem wp_lam (ht : hasTab n x h = true) (hρ : upE (capE ρ) = ρ') (w : ∀ d : Deed, (∀ h', d.T h' = fb ρ' h') → Wp (m d [.f d.D] h) (fun v h1 => v = v0 ∧ h1 = h0) NX) (q : Q v0 h0) : Wp (eLam n x m fb ρ h) Q E := by
  subst hρ
  have z : eLam n x m fb ρ h = .ok v0 h0 := by
    unfold eLam
    rw [if_pos ht]
    refine lamO_eq fun f c σ => ?_
    obtain ⟨v, h1, e, rfl, rfl⟩ := wp_out (w ⟨⟨f, c, x ++ ".<locals>." ++ "<lambda>", σ, capE ρ⟩, fun h' => fb (upE (capE ρ)) h'⟩ fun _ => rfl)
    exact e
  exact wp_eq z q
end
theorem ex_of_wp {o : Out Vl} {v0 : Vl} (w : Wp o (fun v _ => v = v0) NX) : ∃ h', o = .ok v0 h' := by
  obtain ⟨v, h', e, rfl⟩ := wp_out w
  exact ⟨h', e⟩
theorem retK_any {n : Nat} {h : Hh} {x : Da} {Q : Vl → Hh → Prop} (q : Q (.d x) (h.take n)) : RetK n Q (.d x) h := ⟨_, _, rfl, q⟩
end Rk

/-! Rk58: powers of great numbers. -/
namespace Rk
open PySem PySem.Spec L2
variable {mg : Str → Option Value}
def CPowG (i j : Int) : Prop := 0 ≤ j ∧ j ≤ 10000 ∧ Bd 10000 i
theorem op_powG {X : Cx} : OpR X (binaryOp .Pow) (rI CPowG fun i j => .int (i ^ j.toNat)) := opI fun a b _ _ _ _ _ hc q => PyProof.Rows.pow_int hc.1 (by
  have h1 := bits_le hc.2.2
  have h2 := hc.2.1
  have h0 := hc.1
  have h3 : ((Builtin.Int.intBits a : Nat) : Int) * b ≤ 10000 * 10000 := Int.mul_le_mul (by omega) h2 h0 (by decide)
  omega) q
open Classical in
noncomputable def fPowG (a b : Int) : Option Da := if CPowG a b then some (.int (a ^ b.toNat)) else none
section
variable {K : PySem.W.Frag}
theorem ok_powG : Ok2 K mg (rI CPowG fun i j => .int (i ^ j.toNat)) (gInt fPowG) := gInt_ok fun a b d H Q e k => by
  unfold fPowG at e
  split at e
  · cases e
    exact ⟨a, b, rfl, rfl, by assumption, k _ fun _ => .int _⟩
  · cases e
end
theorem wo_powG {Q : Vl → Hh → Prop} {h : Hh} {a : Int} {n : Nat} (h1 : n ≤ 10000) (h2 : Bd 10000 a) (q : Q (.d (.int (a ^ n))) h) : Wo (gInt fPowG (.d (.int a)) (.d (.int (OfNat.ofNat n))) h) Q :=
  wo_eq (by
    rw [gInt_eq, show (OfNat.ofNat n : Int) = (n : Int) from rfl]
    unfold fPowG
    rw [if_pos ⟨by omega, by omega, h2⟩, Int.toNat_natCast]
    rfl) q
end Rk

/-! Rk59: more wishes: range of two, lists put together. -/
namespace Rk
open PySem PySem.Spec L2
section
variable {QI : Itm → Hh → Prop} {E : XP} {ρ : En} {h : Hh} {as : Av}
end
end Rk

/-! Rk60: a, b, c = x, y, z with plain local names. -/
namespace Rk
open PySem PySem.Spec L2
/-- a, b, c = x, y, z -/
def sPar3 (i j l : Nat) (fs : Av) : Sv := fun ρ h => Out.then ρ (fs ρ h) fun vs h1 => match vs with
  | [x, y, z] => .nx (((ρ.set i (some x)).set j (some y)).set l (some z)) h1
  | _ => .no
section
variable {mg : Str → Option Value}
theorem VReps.three {K : PySem.W.Frag} {φ : List Addr} {h : Hh} {H : Hp} {xs : List V} {v w u : Vl} (r : VReps K mg φ h H xs [v, w, u]) : ∃ x y z, xs = [x, y, z] ∧ VRep K mg φ h H x v ∧ VRep K mg φ h H y w ∧ VRep K mg φ h H z u := by
  cases r with
  | cons r t =>
    cases t with
    | cons r2 t2 =>
      cases t2 with
      | cons r3 t3 =>
        cases t3
        exact ⟨_, _, _, rfl, r, r2, r3⟩
end
section
variable {X : Cx} {W : WX} {pos : Pos}
end
section
variable {as : Av} {ρ : En} {h : Hh} {N : En → Hh → Prop} {R : Vl → Hh → Prop} {B C : En → Hh → Prop} {X : Str → List (Str × Da) → En → Hh → Prop}
end
end Rk

/-! Rk61: d.update(e), both dicts that may be changed. -/
namespace Rk
open PySem PySem.Spec L2
variable {mg : Str → Option Value}
def rUpdate : V → List V → Hp → VK → Prop := fun x vs H Q => ∃ (a b : Addr) (kvs zs : List (Key × V)), x = .ref a ∧ vs = [.ref b] ∧ H a = some (.dK kvs) ∧ H b = some (.dK zs) ∧ a ≠ b ∧ kvs.length + zs.length ≤ sizeLine ∧ Q .non (upd H a (.dK (mergeK kvs zs)))
/-- the dict of a reference -/
def asDk (v : Vl) (h : Hh) : Option (Nat × List (Key × Da)) := match v with
  | .r n => match h[n]? with
    | some (some (.dct kds)) => some (n, kds)
    | _ => none
  | _ => none
def tyDk (v : Vl) (h : Hh) : Bool := (asDk v h).isSome
def gUpd : GM := fun o as h => match as with
  | [w] => match asDk o h, asDk w h with
    | some (n, kds), some (m, zds) => if n ≠ m ∧ fitB (kds.length + zds.length) = true then some (.d .none, h.set n (some (.dct (zds.foldl (fun acc kv => putD acc kv.1 kv.2) kds)))) else none
    | _, _ => none
  | _ => none
section
variable {K : PySem.W.Frag} {φ : List Addr} {h : Hh} {H : Hp} {x : V} {v : Vl} {n : Nat} {kds : List (Key × Da)}
theorem asDk_eq (e : asDk v h = some (n, kds)) : v = .r n ∧ h[n]? = some (some (.dct kds)) := by
  unfold asDk at e
  split at e
  · split at e
    · cases e
      exact ⟨rfl, by assumption⟩
    · cases e
  · cases e
theorem asDk_ok (sm : Sim K φ h H) (r : VRep K mg φ h H x v) (e : asDk v h = some (n, kds)) : ∃ a kvs, x = .ref a ∧ φ[n]? = some a ∧ h[n]? = some (some (.dct kds)) ∧ H a = some (.dK kvs) ∧ KvRep K H (Live φ h) kvs kds := by
  obtain ⟨rfl, en⟩ := asDk_eq e
  obtain ⟨a, ea, rfl⟩ := r
  obtain ⟨kvs, eh, rk⟩ := sm.atD en ea
  exact ⟨a, kvs, rfl, ea, en, eh, rk⟩
end
section
variable {h : Hh} {Q : Vl → Hh → Prop} {E : XP} {ρ : En} {o : Ev} {as : Av} {g : GM}
end
end Rk

/-! Rk62: repr of a dict that may be changed. -/
namespace Rk
open PySem PySem.Spec L2
section
variable {prog : Program} {w : World} {h₀ : Heap} {a : Addr} {A : Around} {E : Value → Shared → Prop} {s : Shared} {Q : Value → Shared → Prop}
end
def dD (kds : List (Key × Da)) : List (Da × Da) := kds.map fun p => (kD p.1, p.2)
def rReprD (K : PySem.W.Frag) (xs : List V) (H : Hp) (Q : VK) : Prop := ∃ (a : Addr) (kvs : List (Key × V)) (kds : List (Key × Da)) (M : Addr → Prop), xs = [.ref a] ∧ H a = some (.dK kvs) ∧ KvRep K H M kvs kds ∧ PyData.hasDictAll (kds.map (·.2)) = false ∧
  PyData.showable (.dict (dD kds)) = true ∧ PyData.depth (.dict (dD kds)) ≤ 60 ∧ (PyData.shown (.dict (dD kds))).length ≤ sizeLine ∧ Q (.str (PyData.shown (.dict (dD kds)))) H
/-- repr, of a dict that may be changed, too -/
def gReprA : GC := fun as h => match as with
  | [x] => match asDk x h with
    | some (_, kds) => if PyData.showable (.dict (dD kds)) && !PyData.hasDictAll (kds.map (·.2)) && decide (PyData.depth (.dict (dD kds)) ≤ 60) && fitB (PyData.shown (.dict (dD kds))).length then some (.d (.str (PyData.shown (.dict (dD kds)))), h) else none
    | none => gRepr [x] h
  | _ => none
variable {mg : Str → Option Value}
end Rk

/-! Rk63: dict(zip(xs, ys)) of two lists of one length. -/
namespace Rk
open PySem PySem.Spec PyProof.Rows L2
theorem kv_zip : ∀ {ks : List Key} {ys : List V} {us : List Value}, Vals ys us → KV (ks.zip ys) (ks.zip us)
  | [], _, _, _ => .nil
  | _ :: _, [], _, .nil => .nil
  | k :: ks, y :: ys, _, .cons r t => .cons ⟨rfl, r⟩ (kv_zip t)
theorem key_vals {P : Program} {w : World} : ∀ {ks : List Key} {us : List Value}, Vals (ks.map kV) us → us.length = ks.length ∧ ∀ (i : Nat) (u : Value), us[i]? = some u → ∃ k, ks[i]? = some k ∧ (mixKind P w).is k u = true
  | [], _, .nil => ⟨rfl, fun i u e => by cases e⟩
  | k :: ks, _, .cons r t => ⟨by rw [List.length_cons, List.length_cons, (key_vals (P := P) (w := w) t).1], fun i u e => by
      cases i with
      | zero =>
        cases e
        exact ⟨k, rfl, kV_is (P := P) (w := w) r⟩
      | succ i => exact (key_vals (P := P) (w := w) t).2 i u e⟩
def tDictZip (K : PySem.W.Frag) (ta : TA) : TE := fun σ H Q => ta σ H fun vs H1 => ∃ (a b : Addr) (ks : List Key) (ys : List V), vs = [.ref a, .ref b] ∧ SqL K H1 a (ks.map kV) ∧ SqL K H1 b ys ∧ ks.length = ys.length ∧ ∀ p, H1 p = none → Q (.ref p) (upd H1 p (.dK (mergeK [] (ks.zip ys))))
/-- the keys of data -/
def keyD : Da → Option Key
  | .int i => some (.inl i)
  | .str x => some (.inr x)
  | _ => none
def keysD : List Da → Option (List Key)
  | [] => some []
  | d :: ds => (keyD d).bind fun k => (keysD ds).map (k :: ·)
/-- dict(zip(..)) -/
def gDZ : GC := fun vs h => match vs with
  | [x, y] => match asL x h, asL y h with
    | some xs, some ds => match keysD xs with
      | some ks => if ks.length = ds.length then some (.r h.length, h ++ [some (.dct ((ks.zip ds).foldl (fun acc kv => putD acc kv.1 kv.2) []))]) else none
      | none => none
    | _, _ => none
  | _ => none
section
variable {K : PySem.W.Frag} {H : Hp} {M : Addr → Prop}
theorem keyD_ok {v : V} {d : Da} {k : Key} (r : Rep K H M v d) (e : keyD d = some k) : v = kV k := by
  cases r with
  | int i => cases e; rfl
  | str x => cases e; rfl
  | _ => cases e
theorem keysD_ok : ∀ {xs : List V} {ds : List Da} {ks : List Key}, Reps K H M xs ds → keysD ds = some ks → xs = ks.map kV
  | _, _, _, .nil, e => by cases e; rfl
  | x :: xs, d :: ds, ks, .cons r t, e => by
    unfold keysD at e
    cases e1 : keyD d with
    | none => rw [e1] at e; cases e
    | some k =>
      rw [e1] at e
      cases e2 : keysD ds with
      | none => rw [e2] at e; cases e
      | some l =>
        rw [e2] at e
        cases e
        rw [List.map_cons, ← keysD_ok t e2, keyD_ok r e1]
theorem zip_rep : ∀ {ks : List Key} {ys : List V} {ds : List Da}, Reps K H M ys ds → KvRep K H M (ks.zip ys) (ks.zip ds)
  | [], _, _, _ => .nil
  | _ :: _, [], _, .nil => .nil
  | k :: ks, y :: ys, _, .cons r t => .cons r (zip_rep t)
theorem Reps.length' : ∀ {ys : List V} {ds : List Da}, Reps K H M ys ds → ys.length = ds.length
  | _, _, .nil => rfl
  | _, _, .cons _ t => by rw [List.length_cons, List.length_cons, Reps.length' t]
end
section
variable {X : Cx} {W : WX} {e e2 : Expr} {fs : Av} {p p2 q pos : Pos}
end
end Rk

/-! Rk64: a dict that is changed no more, as data; its parts by their keys. -/
namespace Rk
open PySem PySem.Spec L2
variable {mg : Str → Option Value}
section
variable {K : PySem.W.Frag} {H : Hp} {M : Addr → Prop}
theorem KvRep.vals : ∀ {kvs : List (Key × V)} {kds : List (Key × Da)}, KvRep K H M kvs kds → Reps K H M (kvs.map (·.2)) (kds.map (·.2)) ∧ kvs.map (·.1) = kds.map (·.1)
  | _, _, .nil => ⟨.nil, rfl⟩
  | _, _, .cons r t => ⟨.cons r (KvRep.vals t).1, by rw [List.map_cons, List.map_cons, (KvRep.vals t).2]⟩
theorem zip_fst_snd : ∀ (kds : List (Key × Da)), (kds.map (·.1)).zip (kds.map (·.2)) = kds
  | [] => rfl
  | p :: r => by
    rw [List.map_cons, List.map_cons, List.zip_cons_cons, zip_fst_snd r]
theorem kv_of : ∀ {kvs : List (Key × V)} {ds : List Da}, Reps K H M (kvs.map (·.2)) ds → KvRep K H M kvs ((kvs.map (·.1)).zip ds)
  | [], _, _ => .nil
  | (k, v) :: r, _, .cons q t => .cons q (kv_of t)
theorem KvRep.dct {a : Addr} {kvs : List (Key × V)} {kds : List (Key × Da)} (e : H a = some (.dK kvs)) (n : ¬ M a) (r : KvRep K H M kvs kds) (ne : kds ≠ []) : Rep K H M (.ref a) (.dict (dD kds)) := by
  obtain ⟨r1, r2⟩ := r.vals
  refine .dct e n (fun z => ne ?_) r1 ?_
  · cases r with
    | nil => rfl
    | cons _ _ => cases z
  · rw [r2, zip_fst_snd]
    rfl
/-- the pairs of a dict as data -/
def unD : List (Da × Da) → Option (List (Key × Da))
  | [] => some []
  | p :: r => (keyD p.1).bind fun k => (unD r).map ((k, p.2) :: ·)
theorem keyD_kD (k : Key) : keyD (kD k) = some k := by cases k <;> rfl
theorem unD_dD : ∀ (kds : List (Key × Da)), unD (dD kds) = some kds
  | [] => rfl
  | p :: r => by
    show (keyD (kD p.1)).bind (fun k => (unD (dD r)).map ((k, p.2) :: ·)) = _
    rw [keyD_kD, unD_dD r]
    rfl
theorem Rep.dctAt {x : V} {kvs : List (Da × Da)} {kds : List (Key × Da)} (r : Rep K H M x (.dict kvs)) (ne : kds ≠ []) (e : unD kvs = some kds) : ∃ a vs, x = .ref a ∧ H a = some (.dK vs) ∧ KvRep K H M vs kds := by
  cases r with
  | dct0 h n => cases e; exact absurd rfl ne
  | fn x => cases e
  | plt _ _ _ _ => cases e
  | @dct a vs ds _ h n ne r e2 =>
    subst e2
    have z : unD (dD ((vs.map (·.1)).zip ds)) = some kds := e
    rw [unD_dD] at z
    cases z
    exact ⟨a, vs, rfl, h, kv_of r⟩
end
/-- d[k], of a dict as data, too -/
def gIz : G2 := fun x y h => match x with
  | .d (.dict kvs) => match keyOf y, unD kvs with
    | some k, some kds => if kds ≠ [] then (valD kds k).map fun d => (.d d, h) else none
    | _, _ => none
  | _ => gDG x y h
theorem ok_iz {K : PySem.W.Frag} : Ok2 K mg rDG gIz := by
  intro φ h H x y a b Q v h' sm rx ry e k
  unfold gIz at e
  split at e
  · rename_i kvs
    split at e
    · rename_i key kds ek ed
      split at e
      · rename_i ne
        obtain ⟨p, vs, rfl, eh, rk⟩ := Rep.dctAt (show Rep K H (Live φ h) x (.dict kvs) from rx) ne ed
        rcases rk.get (k := key) with ⟨_, z⟩ | ⟨w, d, e1, e2, r⟩
        · rw [z] at e; cases e
        · rw [e2] at e
          cases e
          rw [keyOf_ok ry ek]
          refine ⟨p, w, rfl, ?_, k w H φ (Step.refl _ _ _) sm r⟩
          rw [← e1]
          exact DGet.k eh
      · cases e
    · cases e
  · exact ok_dg φ h H x y a b Q v h' sm rx ry e k
theorem ee_iz {X : Cx} {W : WX} {a b : Expr} {fa fb : Ev} {pos : Pos} (hu : X.A.units + 64 < cLine) (ha : EE X W a fa) (hb : EE X W b fb) (hs : NoSl b := by exact fun _ _ => rfl) : EE X W (.Subscript a b pos) (eOp gIz fa fb) :=
  PE.of (pe_dget (by omega) ha hb hs) fun σ H Q hf => tOp_ok (r := rDG) ok_iz hf
/-- a dict, as data from here on -/
def fzD (v : Vl) (h : Hh) : Option (Da × Hh) := match asDk v h with
  | some (n, kds) => if kds ≠ [] then some (.dict (dD kds), h.set n none) else none
  | none => none
def eFzD (f : Ev) : Ev := fun ρ h => match f ρ h with
  | .ok v h1 => match fzD v h1 with
    | some p => trunc h.length (.d p.1) p.2
    | none => .no
  | .ex c fs h1 => .ex c fs (h1.take h.length)
  | .no => .no
/-- either -/
def gIw : G2 := fun x y h => match gIz x y h with
  | some r => some r
  | none => gIx x y h
section
variable {X : Cx} {W : WX} {a b : Expr} {fa fb : Ev} {pos : Pos}
theorem ee_iw (hu : X.A.units + 64 < cLine) (ha : EE X W a fa) (hb : EE X W b fb) (hs : NoSl b := by exact fun _ _ => rfl) (hp : PlainIx b := by exact fun _ _ => rfl) : EE X W (.Subscript a b pos) (eOp gIw fa fb) :=
  PE.of (PE.or (ee_iz (pos := pos) hu ha hb hs) (ee_ix (pos := pos) ha hb hp)) fun σ H Q ⟨φ, h, ρ, sm, er, q⟩ => by
    unfold eOp at q
    cases e1 : fa ρ h with
    | no => rw [e1] at q; exact q.elim
    | ex c fs h1 =>
      refine .inr ⟨φ, h, ρ, sm, er, ?_⟩
      unfold eOp
      rw [e1] at q ⊢
      exact q
    | ok x h1 =>
      rw [e1] at q
      cases e2 : fb ρ h1 with
      | no =>
        simp only [Out.bind_ok] at q
        rw [e2] at q
        exact q.elim
      | ex c fs h2 =>
        refine .inr ⟨φ, h, ρ, sm, er, ?_⟩
        unfold eOp
        rw [e1]
        simp only [Out.bind_ok] at q ⊢
        rw [e2] at q ⊢
        exact q
      | ok y h2 =>
        simp only [Out.bind_ok] at q
        rw [e2] at q
        simp only [Out.bind_ok] at q
        unfold gIw at q
        cases e3 : gIz x y h2 with
        | some r =>
          refine .inl ⟨φ, h, ρ, sm, er, ?_⟩
          unfold eOp
          rw [e1]
          simp only [Out.bind_ok]
          rw [e2]
          simp only [Out.bind_ok]
          rw [e3] at q ⊢
          exact q
        | none =>
          refine .inr ⟨φ, h, ρ, sm, er, ?_⟩
          unfold eOp
          rw [e1]
          simp only [Out.bind_ok]
          rw [e2]
          simp only [Out.bind_ok]
          rw [e3] at q
          exact q
end
/-! ### wishes -/
def FzDK (v : Vl) (h : Hh) (n : Nat) (Q : Vl → Hh → Prop) : Prop := ∃ d h2, fzD v h = some (d, h2) ∧ Q (.d d) (h2.take n)
section
variable {h : Hh} {Q : Vl → Hh → Prop} {E : XP} {ρ : En} {a : Ev} {kds : List (Key × Da)} {x : Str} {d : Da} {n : Nat}
theorem wo_iwR (e : h[n]? = some (some (.dct kds))) (ev : valD kds (.inr x) = some d) (q : Q (.d d) h) : Wo (gIw (.r n) (.d (.str x)) h) Q := by
  refine wo_eq (v := .d d) ?_ q
  unfold gIw gIz
  dsimp only
  rw [dg_of e ev]
end
end Rk

/-! Rk65: raise C(e), C's own __init__ handing a text to its base's and keeping one field. -/
namespace Rk
open PySem PySem.Spec PyProof.Rows L2
section
variable {X : Cx} {e : Expr} {es : List Expr} {ta : TA} {p1 p2 pos : Pos} {r : Str} {R : Addr} {mc : Value}
/-- R.__init__(self, ..), R a class of the top without an __init__ of its own -/
theorem pe_oinit {pl : Sem Bool} (hg : Gl X r) (hm : X.mg r = some (.ref R)) (cr : ClX.CRead X.K R mc) (vV : PySem.W.findCls X.K (.ref R) mc "__init__" = some (.val (.builtin "ValueError.__init__"))) (ha : PA X (e :: es) ta)
    (hc : eval (.Call (.Attribute (.Name r p1) "__init__" p2) (e :: es) [] pos) X.env = (do
      let ov ← eval (.Name r p1) X.env
      standAt p2.atName
      let (f, first) ← holding [ov] (getMethod ov "__init__" pl)
      callWith pos f first (backTo pos (starEach (e :: es) X.env)) (backToKw pos (keywordEach [] X.env))) := by rfl)
    (he : starEach (e :: es) X.env = (false, eval e X.env) :: starEach es X.env := by rfl) (hpl : (backTo pos (starEach es X.env)).any (·.1) = false := by rfl) (hdb : (r == ("__debug__" : Str)) = false := by decide) :
    PE X (.Call (.Attribute (.Name r p1) "__init__" p2) (e :: es) [] pos) (tVeI X.K ta) := by
  refine ⟨fun pins s σ H Q I h => ?_⟩
  refine PySem.W.methodCall_KW (ld_glob I hg hm ?_ hdb) hc
  refine PySem.W.method_cls I.kIn cr.ga (PySem.W.cls_value I.kIn cr.rd vV (by decide +kernel) ?_)
  show wpAny _ _ (callWith pos (Value.builtin "ValueError.__init__") [] (backTo pos (starEach (e :: es) X.env)) []) _ _ _
  refine PyProof.Rows.callWith_method1 (thn (ha.run pos pins _ σ H _ (I.tok _) h) fun us s1 ⟨vs, H1, I1, r1, a, C, ws, ev, hl, T, ea, q⟩ => ?_) he hpl
  subst ev
  cases r1 with
  | @cons _ u0 _ ur ra rw' =>
    obtain rfl : u0 = Value.ref a := ra
    have hlen : ur.length ≤ sizeLine := by
      rw [← Paired.length rw', sizeLine_eq]
      omega
    exact oinit_ok T I1 ea hlen fun s' J => ⟨.non, H1, J, rfl, q⟩
end
/-- what an __init__ that keeps one field does -/
def spI (K : PySem.W.Frag) (C : Addr) (f : Str) : Sp := fun vs H Q _ => ∃ (a : Addr) (y : V), vs = [.ref a, y] ∧ H a = some (exo a C none) ∧ ∀ dx, H dx = none → dx ≠ a → Q .non (upd (upd H dx (exd dx [(f, y)])) a (exo a C (some dx)))
section
variable {P : Program} {w : World} {K : PySem.W.Frag} {mg : Str → Option Value} {base : Heap} {qual r f m : Str} {params : Arguments} {scope : Scope} {fI C R : Addr} {fd : FuncData} {mc : Value} {j : Nat} {p1 p2 p3 p4 p5 p6 p7 p8 p9 p10 : Pos}
theorem init_ok {y : Str} (T : OexC K C) (hno : PySem.W.findIn K (.ref C) f = some none)
    (F : FunD K "__init__" qual params [.Expr (.Call (.Attribute (.Name r p1) "__init__" p2) [.Name "self" p3, .Constant (.str m) j p4] [] p5) p6, .Assign [.Attribute (.Name "self" p7) f p8] (.Name y p9) p10] scope [] [] fI fd)
    (S : FnScope ["self", y] ["self", y] scope)
    (hb : ∀ (cdv : Value) (A : Around) (outer : List Env) (s : Shared) (H : Hp) (E : XK),
      PS (cxOf (L2.CX P w) P w K mg base ["self", y] qual scope fI cdv A outer s H E) (.Expr (.Call (.Attribute (.Name r p1) "__init__" p2) [.Name "self" p3, .Constant (.str m) j p4] [] p5) p6) (tDrop (tVeI K (tCons (tVar 0) (tCons (tC (.str m)) tNil)))) ∧
      PS (cxOf (L2.CX P w) P w K mg base ["self", y] qual scope fI cdv A outer s H E) (.Assign [.Attribute (.Name "self" p7) f p8] (.Name y p9) p10) (tOst K f (tVar 0) (tVar 1))) :
    FnOk P w K mg base (L2.CX P w) 1 fI fd ["self", y] (spI K C f) := by
  refine FunD.ok F S (fun vs H Q E ⟨a, z, e, _⟩ => by rw [e]; rfl) fun cdv A outer s H vs Q E hr hsp => ?_
  obtain ⟨a, z, rfl, ea, q⟩ := hsp
  obtain ⟨h2, h3⟩ := hb cdv A outer s H E
  exact ⟨_, pss_cons h2 (pss_one h3), .ref a, rfl, a, C, [.str m], rfl, Nat.le_add_left 1 999, T, ea, z, rfl, .ref a, rfl, a, C, rfl, T, hno, .inl ⟨ea, fun dx n ne => q dx n ne⟩⟩
end
/-- raise C(e) -/
def sRaise1 (c f : Str) (fe : Ev) : Sv := fun ρ h => Out.then ρ (fe ρ h) fun v h1 => match fz v h1 with
  | some (d, h2) => .ex c [(f, d)] ρ h2
  | none => .no
/-- a class whose __init__ keeps one field -/
def IniC (P : Program) (w : World) (K : PySem.W.Frag) (mg : Str → Option Value) (base : Heap) (c f : Str) : Prop :=
  ∃ (C fI : Addr) (fd : FuncData) (ps : List Str), mg c = some (.ref C) ∧ OexC K C ∧ PySem.W.findIn K (.ref C) "__init__" = some (some (.ref fI)) ∧ PySem.W.typeIn K (.ref fI) = some (.type "function") ∧ Binds K fd ps [] ∧ FnOk P w K mg base (L2.CX P w) 1 fI fd ps (spI K C f)
theorem upd_made {H : Hp} {a dx C : Addr} {o : HO} {fs : List (Str × V)} (ha : H a = none) (ne : dx ≠ a) : upd (L2.del (upd (upd (upd H a (exo a C none)) dx (exd dx fs)) a (exo a C (some dx))) a) dx o = upd H dx o := by
  funext b
  by_cases h1 : b = dx
  · rw [h1, upd_same, upd_same]
  · rw [upd_ne h1, upd_ne h1]
    by_cases h2 : b = a
    · rw [h2, L2.del_same, ha]
    · rw [L2.del_ne h2, upd_ne h2, upd_ne h1, upd_ne h2]
section
variable {X : Cx} {W : WX} {c f : Str} {e : Expr} {fe : Ev} {k : Nat} {p pos pos' : Pos}
theorem es_raise1 (I0 : IniC X.prog X.w X.K X.mg X.base c f) (hr : RoomG k X.A) (tk : Takes X W) (he : EE X W e fe) (hk : 2 ≤ k := by decide) (hc : X.calm = true := by rfl) (hg : Gl X c := by rfl) (hdb : (c == ("__debug__" : Str)) = false := by decide)
    (hs : starEach [e] X.env = (false, eval e X.env) :: starEach [] X.env := by rfl) (hpl : (backTo pos (starEach [] X.env)).any (·.1) = false := by rfl) :
    ES X W (.Raise (some (.Call (.Name c p) [e] [] pos)) none pos') (sRaise1 c f fe) := by
  obtain ⟨C, fI, fd, ps, g, T, iC, tI, hb, F⟩ := I0
  refine PS.of (ps_raise hc tk (pmk_oex T iC tI F (hr.r.mono hk) hb .nil (fun pins σ H s e s' _ z => (cx_no H s e s' z).elim) hg g (pa_cons he pa_nil hs) hdb hs hpl)) fun D σ H ⟨φ, h, ρ, sm, er, q⟩ => ⟨φ, h, ρ, sm, er, ?_⟩
  unfold sRaise1 at q
  refine PoS.goE er q fun x v h1 H1 φ1 st sm1 er1 rv q1 => ?_
  split at q1
  · rename_i d h2 ef
    obtain ⟨s1, s2, s3⟩ := fz_ok sm1 rv ef
    refine ⟨Nat.le_add_left 1 999, fun a ha => ⟨a, x, rfl, upd_same, fun dx hdx ne => ?_⟩⟩
    have hd1 : H1 dx = none := by rwa [upd_ne ne] at hdx
    refine ⟨rfl, dx, _, upd_same, by rw [upd_ne ne, upd_same], hd1, ?_⟩
    rw [upd_made ha ne]
    obtain ⟨w1, w2⟩ := s2.grow (o := .xd [(f, x)]) hd1
    exact q1 (.ref C) (some dx) σ _ φ1 (s1.trans w1) w2 ((er1.step s1).step w1) ⟨g, (fun z => by cases z), fun _ => ⟨dx, [(f, x)], rfl, upd_same, s2.fresh hd1, .cons (s3.stay w1.st) .nil⟩⟩
  · exact q1.elim
end
end Rk

/-! Rk66: what the head tells of a class whose __init__ keeps a field. -/
namespace Rk
open PySem PySem.Spec PyProof.Rows L2
theorem oexB_ok {K : PySem.W.Frag} {C : Addr} (h : oexB K C = true) : OexC K C := by
  unfold oexB at h
  rw [Bool.and_eq_true, Bool.and_eq_true, Bool.and_eq_true, Bool.and_eq_true] at h
  obtain ⟨h0, h1, h2, h3, h4⟩ := h
  refine ⟨?_, of_decide_eq_true h1, of_decide_eq_true h2, of_decide_eq_true h3, h4⟩
  split at h0
  · rename_i t dd cd sl ho
    split at h0
    · rename_i C' bm k0 k1 k2 k3 n k5 hm hs
      simp only [Bool.and_eq_true, beq_iff_eq, Bool.not_eq_true'] at h0
      obtain ⟨rfl, rfl, rfl, hdel, hdict, hbm⟩ := h0
      obtain ⟨nm, bs, mro, ns, qn, hd, sn, sub, ab, col, del⟩ := cd
      dsimp only at hm hdel hdict
      subst hm hdel hdict
      have hsl : sl = #[k0, k1, k2, k3, some (.builtin "ValueError.__new__"), k5] := by
        obtain ⟨l⟩ := sl
        simp only at hs
        rw [hs]
      subst hsl
      exact ⟨nm, qn, ns, bs, bm, sn, sub, ab, col, dd, k0, k1, k2, k3, k5, ho, hbm⟩
    · cases h0
  · cases h0
structure IniT (K : PySem.W.Frag) (mg : Str → Option Value) (c f r : Str) : Prop where
  ex : ∃ C R, mg c = some (.ref C) ∧ mg r = some (.ref R) ∧ OexC K C ∧ PySem.W.findIn K (.ref C) "__init__" = some (some (.ref (He.fAd K (c, some "__init__")))) ∧ PySem.W.typeIn K (.ref (He.fAd K (c, some "__init__"))) = some (.type "function") ∧ PySem.W.findIn K (.ref C) f = some none ∧
    ClX.CRead K R (.type "type") ∧ PySem.W.findCls K (.ref R) (.type "type") "__init__" = some (.val (.builtin "ValueError.__init__"))
theorem iniB_ok {K : PySem.W.Frag} {h : Heap} {mg : Str → Option Value} (X : K.In h) (G : h.Ns mainGlobals mg) {c f r : Str} (e : iniB K c f r = true) : IniT K mg c f r := by
  unfold iniB at e
  split at e
  · rename_i C R q1 q2
    simp only [Bool.and_eq_true, decide_eq_true_eq] at e
    obtain ⟨h1, h2, h3, h4, h5, h6, h7⟩ := e
    refine ⟨C, R, clsAt_ok X G q1, clsAt_ok X G q2, oexB_ok h1, h2, h3, h4, ⟨h5, h6⟩, ?_⟩
    split at h7
    · rename_i n q
      rw [beq_iff_eq] at h7
      subst h7
      exact q
    · cases h7
  · cases e
end Rk

/-! Rk67: a field of a caught error. -/
namespace Rk
open PySem PySem.Spec PyProof.Rows L2
def tXfO (K : PySem.W.Frag) (f : Str) (te : TE) : TE := fun σ H Q => te σ H fun x H1 => ∃ (a C dd : Addr) (fs : List (Str × V)) (v : V), x = .ref a ∧ H1 a = some (exO a (.ref C) (some dd)) ∧ XfC K C ∧ PySem.W.findIn K (.ref C) f = some none ∧ H1 dd = some (.xd fs) ∧ fs.lookup f = some v ∧ Q v H1
theorem pe_xfO {X : Cx} {e : Expr} {te : TE} {pos : Pos} {n : Str} (he : PE X e te) (hb : attributeBase e n X.env (eval e X.env) = eval e X.env := by rfl) : PE X (.Attribute e n pos) (tXfO X.K n te) := by
  refine ⟨fun pins s σ H Q I h => ?_⟩
  refine attr_of hb (thn (he.run pins s σ H _ I h) fun u s1 hh => ?_)
  obtain ⟨x, H1, I1, rx, a, C, dd, fs, v, ex, eo, T, hno, ea, l, q⟩ := hh
  subst ex
  obtain rfl : u = Value.ref a := rx
  obtain ⟨oe, vs, ha, hz, hd⟩ := (show ∃ (oe : Obj) (vs : Array Value), s1.heap.get? a = some oe ∧ Zc (.ref C) (some dd) oe ∧ oe.data = .fields vs from (I1.hok a _ eo).1)
  have hx : ObjOk X.prog X.w H1 s1.heap dd (.xd fs) := I1.hok dd _ ea
  obtain ⟨mA, hns, hr⟩ := hx
  obtain ⟨od, ho, hl⟩ := lookIn_ns hns
  obtain ⟨u, hu, ru⟩ := RelO.some_of (v := v) (o := mA n) (by rw [← l]; exact hr n)
  have J : PySem.W.InstAt s1.heap a oe C (some od) := ⟨ha, hz.1, by unfold PySem.W.notCls; rw [hd] <;> rfl, by rw [hz.2]; exact ho⟩
  exact HandSPX.exc_get I1.kIn J T.ga T.gg T.exC (PySem.W.findObj_own T.hdC hno rfl (by rw [hl, hu])) (handed_of ru) ⟨v, H1, I1.tok _, ru, q⟩
/-- classes whose instances keep the field f -/
structure XfT (K : PySem.W.Frag) (mg : Str → Option Value) (f : Str) (cs : List Str) : Prop where
  ex : ∀ c ∈ cs, ∃ C, mg c = some (.ref C) ∧ XfC K C ∧ PySem.W.findIn K (.ref C) f = some none
theorem xfTB_ok {K : PySem.W.Frag} {h : Heap} {mg : Str → Option Value} (X : K.In h) (G : h.Ns mainGlobals mg) {f : Str} {cs : List Str} (e : xfTB K f cs = true) : XfT K mg f cs := ⟨fun c hc => by
  unfold xfTB at e
  rw [List.all_eq_true] at e
  have z := e c hc
  unfold xfT1 at z
  split at z
  · rename_i C q
    rw [Bool.and_eq_true, decide_eq_true_eq] at z
    exact ⟨C, clsAt_ok X G q, xfB_ok z.1, z.2⟩
  · cases z⟩
/-- e.f, e a caught error -/
def eXf (cs : List Str) (f : Str) (fe : Ev) : Ev := fun ρ h => (fe ρ h).bind fun v h1 => match v with
  | .x c fs => if c ∈ cs then (match fs.lookup f with
    | some d => .ok (.d d) h1
    | none => .no) else .no
  | _ => .no
theorem FsRep.look {K : PySem.W.Frag} {H : Hp} {M : Addr → Prop} {f : Str} {d : Da} : ∀ {vs : List (Str × V)} {fs : List (Str × Da)}, FsRep K H M vs fs → fs.lookup f = some d → ∃ v, vs.lookup f = some v ∧ Rep K H M v d
  | _, _, .nil, e => by cases e
  | _, _, .cons (k := k) r t, e => by
    rw [List.lookup_cons] at e ⊢
    cases q : f == k with
    | true =>
      rw [q] at e
      cases e
      exact ⟨_, rfl, r⟩
    | false =>
      rw [q] at e
      exact FsRep.look t e
theorem ee_xf {X : Cx} {W : WX} {e : Expr} {fe : Ev} {pos : Pos} {f : Str} {cs : List Str} (T : XfT X.K X.mg f cs) (he : EE X W e fe) (hb : attributeBase e f X.env (eval e X.env) = eval e X.env := by rfl) : EE X W (.Attribute e f pos) (eXf cs f fe) :=
  PE.of (pe_xfO he hb) fun σ H Q ⟨φ, h, ρ, sm, er, q⟩ => ⟨φ, h, ρ, sm, er, PoX.goE q fun x v h1 H1 φ1 st sm1 rv q1 => by
    split at q1
    · rename_i c fs
      split at q1
      · rename_i hc
        split at q1
        · rename_i d ed
          obtain ⟨a, cls, dd, rfl, eo, nl, xr⟩ := rv
          obtain ⟨C, g, tc, hno⟩ := T.ex c hc
          have ec := xr.cl
          rw [g] at ec
          cases ec
          obtain ⟨da, vs, rfl, ea, _, rf⟩ := xr.yes (fun z => by rw [z] at ed; cases ed)
          obtain ⟨w, lw, rw'⟩ := rf.look ed
          exact ⟨a, C, da, vs, w, rfl, eo, tc, hno, ea, lw, q1 w H1 φ1 (Step.refl _ _ _) sm1 rw'⟩
        · exact q1.elim
      · exact q1.elim
    · exact q1.elim⟩
theorem wp_xf {ρ : En} {h : Hh} {Q : Vl → Hh → Prop} {E : XP} {cs : List Str} {f : Str} {fe : Ev} (w : Wp (fe ρ h) (fun v h1 => ∃ c fs d, v = .x c fs ∧ c ∈ cs ∧ fs.lookup f = some d ∧ Q (.d d) h1) E) : Wp (eXf cs f fe ρ h) Q E :=
  wp_bind (w.mono (fun v h1 ⟨c, fs, d, e, hc, l, q⟩ => by
    rw [e]
    dsimp only
    rw [if_pos hc, l]
    exact ⟨q⟩) fun _ _ _ z => z)
theorem ws_raise1 {ρ : En} {h : Hh} {N : En → Hh → Prop} {R : Vl → Hh → Prop} {B C : En → Hh → Prop} {X : Str → List (Str × Da) → En → Hh → Prop} {c f : Str} {fe : Ev} (w : Wp (fe ρ h) (fun v h1 => ∃ d h2, fz v h1 = some (d, h2) ∧ X c [(f, d)] ρ h2) (fun c fs h1 => X c fs ρ h1)) : Ws (sRaise1 c f fe ρ h) N ⟨R, B, C, X⟩ :=
  ws_then (w.mono (fun v h1 ⟨d, h2, e, q⟩ => by
    rw [e]
    exact ⟨q⟩) fun _ _ _ z => z)
end Rk

/-! Rk68: targets = values, a tuple on both sides, some of the values things that are changed. -/
namespace Rk
open PySem PySem.Spec L2
/-- targets = x, y, .. -/
def sParN (n : Nat) (g : Gs) (fs : Av) : Sv := fun ρ h => Out.then ρ (fs ρ h) fun vs h1 => if fitB vs.length = true ∧ vs.length = n then ofG (g vs ρ h1) else .no
section
variable {X : Cx} {W : WX} {pos : Pos}
end
/-- a list of n, unpacked -/
def gTupL (n : Nat) (g : Gs) : Gv := fun v ρ h => match v with
  | .d (.list ds) => if ds.length = n then g (ds.map Vl.d) ρ h else none
  | _ => none
section
variable {X : Cx} {pos : Pos}
end
section
variable {h : Hh} {ρ : En} {N : En → Hh → Prop}
end
section
variable {as : Av} {ρ : En} {h : Hh} {N : En → Hh → Prop} {R : Vl → Hh → Prop} {B C : En → Hh → Prop} {X : Str → List (Str × Da) → En → Hh → Prop}
end
end Rk

/-! Rk69: comprehensions whose parts look at the heap that was there (wp_lcP, wp_lcXP), and lists kept for a change. -/
namespace Rk
open PySem PySem.Spec L2
section
variable {gd : Option (Nat × List Da)} {g : Gv} {tt : Tv} {fe : Ev} {ρ0 : En} {h : Hh} {α : Type} {f g' : α → Da} {P : α → Bool} {c : Str} {fs : List (Str × Da)}
theorem lc_mapP (hgd : ∀ o, gdOk gd (h ++ [o])) : ∀ (xs : List α) (acc : List Da), (∀ x ∈ xs, ∀ o, ∃ ρ1, g (.d (f x)) ρ0 (h ++ [o]) = some (ρ1, h ++ [o]) ∧ fe ρ1 (h ++ [o]) = .ok (.d (g' x)) (h ++ [o])) → acc.length + xs.length ≤ 16777216 →
    lcL gd h.length g tvYes fe ρ0 (xs.map f) (h ++ [some (.lst acc)]) = .ok (.r h.length) (h ++ [some (.lst (acc ++ xs.map g'))])
  | [], acc, _, _ => by
    rw [List.map_nil, lcL_nil (hgd _)]
    simp
  | d :: ds, acc, H, hl => by
    obtain ⟨ρ1, e1, e3⟩ := H d (List.mem_cons_self ..) (some (.lst acc))
    rw [List.length_cons] at hl
    rw [List.map_cons]
    rw [lcL_cons (hgd _) e1 rfl e3 (appL_end rfl (by omega)), lc_mapP hgd ds (acc ++ [g' d]) (fun d hd => H d (List.mem_cons_of_mem _ hd)) (by rw [List.length_append, List.length_singleton]; omega)]
    simp
theorem lcX_mapP (hgd : ∀ o, gdOk gd (h ++ [o])) : ∀ (xs : List α) (acc : List Da), (∀ x ∈ xs, ∀ o, ∃ ρ1, g (.d (f x)) ρ0 (h ++ [o]) = some (ρ1, h ++ [o]) ∧ ((P x = true ∧ fe ρ1 (h ++ [o]) = .ok (.d (g' x)) (h ++ [o])) ∨ (P x = false ∧ fe ρ1 (h ++ [o]) = .ex c fs (h ++ [o])))) → acc.length + xs.length ≤ 16777216 →
    (xs.all P = true ∧ lcLX gd h.length g tvYes fe ρ0 (xs.map f) (h ++ [some (.lst acc)]) = .ok (.r h.length) (h ++ [some (.lst (acc ++ xs.map g'))])) ∨ (xs.all P = false ∧ ∃ o, lcLX gd h.length g tvYes fe ρ0 (xs.map f) (h ++ [some (.lst acc)]) = .ex c fs (h ++ [o]))
  | [], acc, _, _ => by
    refine .inl ⟨rfl, ?_⟩
    rw [List.map_nil, lcX_nil (hgd _)]
    simp
  | d :: ds, acc, H, hl => by
    obtain ⟨ρ1, e1, e2⟩ := H d (List.mem_cons_self ..) (some (.lst acc))
    rw [List.length_cons] at hl
    rw [List.map_cons]
    rcases e2 with ⟨p, e2⟩ | ⟨p, e2⟩
    · rw [lcX_cons (hgd _) e1 rfl e2 (appL_end rfl (by omega))]
      have := lcX_mapP hgd ds (acc ++ [g' d]) (fun d hd => H d (List.mem_cons_of_mem _ hd)) (by rw [List.length_append, List.length_singleton]; omega)
      simpa [p] using this
    · rw [lcX_ex (hgd _) e1 rfl e2]
      exact .inr ⟨by simp [p], _, rfl⟩
end
section
variable {Q : Vl → Hh → Prop} {E : XP} {ρ : En} {h : Hh} {i : Iv} {g : Gv} {tt : Tv} {fe : Ev} {ws : List Nat}
theorem wp_lcP {α : Type} (xs : List α) (f g' : α → Da) {ρ0 : En} (e00 : wipeE ρ ws = ρ0) (w : Wp (i ρ h) (fun m h1 => m = ⟨xs.map f, none⟩ ∧ xs.length ≤ 16777216 ∧ h1.length = h.length ∧
      (∀ x ∈ xs, ∀ o, GvK (g (.d (f x)) ρ0 (h1 ++ [o])) fun ρ1 h2 => h2 = h1 ++ [o] ∧ Wp (fe ρ1 (h1 ++ [o])) (fun v h3 => h3 = h1 ++ [o] ∧ v = .d (g' x)) NX) ∧
      Q (.d (.list (xs.map g'))) h1) (fun c fs h1 => E c fs (h1.take h.length))) : Wp (eFz (eLc ws i g tvYes fe) ρ h) Q E := by
  subst e00
  refine wp_fz (wp_bind (w.mono ?_ fun _ _ _ z => z))
  rintro m h1 ⟨rfl, hl, hh, H, q⟩
  have lf := lc_mapP (gd := none) (g := g) (fe := fe) (ρ0 := wipeE ρ ws) (h := h1) (f := f) (g' := g') (fun _ => trivial) xs [] (fun d hd o => by
    have k := H d hd o
    unfold GvK Wo at k
    revert k
    cases e : g (.d (f d)) (wipeE ρ ws) (h1 ++ [o]) with
    | none => exact fun z => z.elim
    | some p =>
      obtain ⟨ρ1, h2⟩ := p
      rintro ⟨rfl, wf⟩
      obtain ⟨v, h3, e2, rfl, rfl⟩ := wp_out wf
      exact ⟨ρ1, rfl, e2⟩) (by simpa using hl)
  rw [List.nil_append] at lf
  exact wp_eq lf (fzk_end hh q)
theorem wp_lcXP {α : Type} (xs : List α) (f g' : α → Da) (P : α → Bool) (c : Str) (fs : List (Str × Da)) {ρ0 : En} (e00 : wipeE ρ ws = ρ0) (w : Wp (i ρ h) (fun m h1 => m = ⟨xs.map f, none⟩ ∧ xs.length ≤ 16777216 ∧ h1.length = h.length ∧
      (∀ x ∈ xs, ∀ o, GvK (g (.d (f x)) ρ0 (h1 ++ [o])) fun ρ1 h2 => h2 = h1 ++ [o] ∧ Wp (fe ρ1 (h1 ++ [o])) (fun v h3 => h3 = h1 ++ [o] ∧ P x = true ∧ v = .d (g' x)) (fun c' fs' h3 => h3 = h1 ++ [o] ∧ P x = false ∧ c' = c ∧ fs' = fs)) ∧
      (xs.all P = true → Q (.d (.list (xs.map g'))) h1) ∧ (xs.all P = false → E c fs h1)) (fun c fs h1 => E c fs (h1.take h.length))) : Wp (eFz (eLcX ws i g tvYes fe) ρ h) Q E := by
  subst e00
  refine wp_fz (wp_bind (w.mono ?_ fun _ _ _ z => z))
  rintro m h1 ⟨rfl, hl, hh, H, q, qe⟩
  have lf := lcX_mapP (gd := none) (g := g) (fe := fe) (ρ0 := wipeE ρ ws) (h := h1) (f := f) (g' := g') (P := P) (c := c) (fs := fs) (fun _ => trivial) xs [] (fun d hd o => by
    have k := H d hd o
    unfold GvK Wo at k
    revert k
    cases e : g (.d (f d)) (wipeE ρ ws) (h1 ++ [o]) with
    | none => exact fun z => z.elim
    | some p =>
      obtain ⟨ρ1, h2⟩ := p
      rintro ⟨rfl, wf⟩
      refine ⟨ρ1, rfl, ?_⟩
      have k := wf.w
      revert k
      cases fe ρ1 (h1 ++ [o]) with
      | ok v h3 => rintro ⟨rfl, p, rfl⟩; exact .inl ⟨p, rfl⟩
      | ex c' fs' h3 => rintro ⟨rfl, p, rfl, rfl⟩; exact .inr ⟨p, rfl⟩
      | no => exact fun z => z.elim) (by simpa using hl)
  rw [List.nil_append] at lf
  rcases lf with ⟨p, lf⟩ | ⟨p, o, lf⟩
  · exact wp_eq lf (fzk_end hh (q p))
  · refine ⟨?_⟩
    show Wp0 (lcLX none h1.length g tvYes fe (wipeE ρ ws) (xs.map f) (h1 ++ [some (.lst [])])) _ _
    rw [lf]
    show E c fs ((h1 ++ [o]).take h.length)
    rw [← hh, List.take_left]
    exact qe p
/-- a name is told its thing -/
def Kn (h : Hh) (kv : Vl) (n : Str) (d : Da) : Prop := ∀ (l : Hh) (Q : Vl → Hh → Prop), Q (.d d) (h ++ l) → Wo (gIw kv (.d (.str n)) (h ++ l)) Q
theorem Kn.app {kv : Vl} {n : Str} {d : Da} {l : Hh} (k : Kn h kv n d) : Kn (h ++ l) kv n d := fun l' Q q => by
  rw [List.append_assoc] at q ⊢
  exact k (l ++ l') Q q
end
end Rk

/-! Rk70: dicts of the top with text keys: d.get(x, y) of a constant dict. -/
namespace Rk
open PySem PySem.Spec L2
def seek (kds : List (Str × Da)) (z : Str) : Option Da := match kds with
  | [] => none
  | (k, d) :: r => if k = z then some d else seek r z
/-- a constant dict: where it stands, what it holds -/
def GDict (K : PySem.W.Frag) (w : World) (mg : Str → Option Value) (x : Str) (kds : List (Str × Da)) : Prop :=
  ∃ a es n, mg x = some (.ref a) ∧ KDict K w a es n ∧ ∀ z, match seek kds z with
    | none => PySem.W.nsIn K a z = some none
    | some d => ∃ v u, PySem.W.nsIn K a z = some (some u) ∧ RelV v u ∧ KRep K v d
theorem kvB_find {K : PySem.W.Frag} (z : Str) : ∀ {kds : List (Str × Da)} {es : List DictEntry}, kvB K kds es = true → (es.any (·.refKey)) = false ∧ match seek kds z with
    | none => es.find? (·.key.isStr z) = none
    | some d => ∃ e v, es.find? (·.key.isStr z) = some e ∧ RelV v e.val ∧ KRep K v d
  | [], [], _ => ⟨rfl, rfl⟩
  | (k, d) :: r, e :: es, h => by
    unfold kvB at h
    rw [Bool.and_eq_true, Bool.and_eq_true] at h
    obtain ⟨h1, h2, h3⟩ := h
    obtain ⟨i1, i2⟩ := kvB_find z h3
    cases ek : e.key with
    | str x t =>
      rw [ek] at h1
      have hx : x = k := of_decide_eq_true h1
      subst hx
      refine ⟨?_, ?_⟩
      · rw [List.any_cons, i1]
        simp [DictEntry.refKey, ek]
      · unfold seek
        by_cases hz : x = z
        · rw [if_pos hz]
          obtain ⟨v, r1, r2⟩ := cB_ok h2
          refine ⟨e, v, ?_, r1, r2⟩
          rw [List.find?_cons_of_pos]
          rw [ek]
          simp [Value.isStr, hz]
        · rw [if_neg hz]
          have hf : ¬ (e.key.isStr z) = true := by
            rw [ek]
            simp [Value.isStr, hz]
          rw [List.find?_cons_of_neg (by simpa using hf)]
          exact i2
    | _ => rw [ek] at h1; cases h1
theorem gdict_ok {K : PySem.W.Frag} {h : Heap} {w : World} {mg : Str → Option Value} (X : K.In h) (G : h.Ns mainGlobals mg) {x : Str} {kds : List (Str × Da)} (c : kdB K x kds = true) (t : dicN K x = some (He.keysIn w.params (kds.map (·.1)))) : GDict K w mg x kds := by
  unfold kdB at c
  unfold dicN at t
  split at c
  · rename_i a e
    rw [e] at t
    dsimp only at t
    obtain ⟨es, n, kd⟩ := He.dicW_ok t
    rw [kd.at_] at c
    dsimp only at c
    refine ⟨a, es, n, PySem.W.mg_of X G e, kd, fun z => ?_⟩
    obtain ⟨f1, f2⟩ := kvB_find z c
    cases hs : seek kds z with
    | none =>
      rw [hs] at f2
      dsimp only at f2 ⊢
      unfold PySem.W.nsIn
      rw [kd.at_]
      dsimp only
      rw [f2]
      dsimp only
      rw [f1]
      rfl
    | some d =>
      rw [hs] at f2
      obtain ⟨e2, v, g1, g2, g3⟩ := f2
      refine ⟨v, e2.val, ?_, g2, g3⟩
      unfold PySem.W.nsIn
      rw [kd.at_]
      dsimp only
      rw [g1]
  · cases c
/-- d.get(x, y) -/
def rGetC (K : PySem.W.Frag) (kds : List (Str × Da)) : R2 := fun x y H Q => ∃ z, x = .str z ∧ match seek kds z with
  | none => Q y H
  | some d => ∀ v, KRep K v d → Q v H
def gGetC (kds : List (Str × Da)) : G2 := fun x y h => match x with
  | .d (.str z) => some ((match seek kds z with | none => y | some d => .d d), h)
  | _ => none
section
variable {X : Cx} {W : WX} {x : Str} {kds : List (Str × Da)} {e f : Expr} {apos npos cpos : Pos} {ty tx : TE} {fe ff : Ev} {mg : Str → Option Value} {K : PySem.W.Frag}
theorem pe_getC (D : GDict X.K X.w X.mg x kds) (hg : Gl X x) (hd : (x == ("__debug__" : Str)) = false) (he : PE X e ty) (hf : PE X f tx) (m : M2 X (.Name x npos) "get" apos e f cpos) : PE X (.Call (.Attribute (.Name x npos) "get" apos) [e, f] [] cpos) (tOp (rGetC X.K kds) ty tx) := by
  obtain ⟨a, es, n, hm, kd, hv⟩ := D
  refine ⟨fun pins s σ H Q I h => ?_⟩
  refine wpAny_Call_method m.base m.few m.line PySem.F.plainAttrs_dict PySem.F.slot_dict_get PySem.F.type_dict_get (thn ((pe_glob hg hm (show RelV (.ref a) (.ref a) from rfl) hd).run pins s σ H (fun x H1 => x = .ref a ∧ tOp (rGetC X.K kds) ty tx σ H1 Q) I ⟨rfl, h⟩) fun u s1 ⟨y, H1, I1, rx, ey, q1⟩ => ?_)
  subst ey
  obtain rfl : u = Value.ref a := rx
  have km : ∀ {s : Shared} {σ : L2.St} {H : Hp} {pins : List (Addr × Obj)}, L2.Inv X pins σ H s → s.heap.MapOf (strKind X.prog X.w) a (fun k => findBy Value.isStrOf es k) := fun I => PySem.W.mapOf_K (prog := X.prog) (w := X.w) I.kIn kd.at_ kd.lit
  refine ⟨(km I1).typeIs, fun b q => ?_, ?_⟩
  · cases q
    exact ⟨_, I1.kIn _ _ kd.at_, rfl⟩
  rw [m.trees]
  refine Calls.callWith_builtin rfl (Calls.evalArgs_plain (Calls.spliced_cons (thn (he.run pins s1 σ H1 _ I1 q1) fun iv s2 ⟨y, H2, I2, ry, q2⟩ =>
    Calls.spliced_cons (thn (hf.run pins s2 σ H2 _ I2 q2) fun fv s3 ⟨z, H3, I3, rz, zz, ez, q3⟩ => Calls.spliced_nil ?_))))
  subst ez
  obtain ⟨t, rfl⟩ := (show ∃ t, iv = Value.str zz t from ry)
  have hz := hv zz
  refine call_meetsIn PySem.F.slot_dict_get (km I3).typeIs PySem.F.entry_dict_get (PySem.F.args_dict_get_3 _ _ _) (meets_dict_get_default (strKind X.prog X.w) a (strKind_is X.prog X.w zz t) kd.low fv) ⟨_, km I3, ?_⟩
  cases hs : seek kds zz with
  | none =>
    rw [hs] at hz q3
    dsimp only at hz q3
    rw [PySem.W.find_K kd.at_ hz]
    exact ⟨z, H3, I3.tok _, rz, q3⟩
  | some d =>
    rw [hs] at hz q3
    obtain ⟨v, w, g1, g2, g3⟩ := hz
    rw [PySem.W.find_K kd.at_ g1]
    exact ⟨v, H3, I3.tok _, g2, q3 v g3⟩
theorem ok_getC : Ok2 K mg (rGetC K kds) (gGetC kds) := by
  intro φ h H x y a b Q v h' sm rx ry e k
  unfold gGetC at e
  split at e
  · rename_i z
    cases e
    cases rx
    refine ⟨z, rfl, ?_⟩
    cases hs : seek kds z with
    | none =>
      dsimp only
      rw [hs] at k
      exact k _ _ _ (Step.refl _ _ _) sm ry
    | some d =>
      dsimp only
      rw [hs] at k
      exact fun v r => k _ _ _ (Step.refl _ _ _) sm (r _ _)
  · cases e
theorem ee_getC (D : GDict X.K X.w X.mg x kds) (ha : EE X W e fe) (hb : EE X W f ff) (m : M2 X (.Name x npos) "get" apos e f cpos) (hg : Gl X x := by rfl) (hd : (x == ("__debug__" : Str)) = false := by decide) : EE X W (.Call (.Attribute (.Name x npos) "get" apos) [e, f] [] cpos) (eOp (gGetC kds) fe ff) :=
  PE.of (pe_getC D hg hd ha hb m) fun σ H Q hf => tOp_ok ok_getC hf
end
end Rk

/-! Rk71: the head with dicts of the top. -/
namespace Rk
open PySem PySem.Spec L2
theorem TabsW.at_ {tn : List (Str × List Str)} {w : World} {K : PySem.W.Frag} (T : TabsW tn w K) (i : Nat) {t : Str × List Str} (h : tn[i]? = some t := by rfl) : dicN K t.1 = some (He.keysIn w.params t.2) := by
  have e2 : (tn.map fun t => dicN K t.1)[i]? = (tn.map fun t => some (He.keysIn w.params t.2))[i]? := by rw [T]
  rw [List.getElem?_map, List.getElem?_map, h] at e2
  exact Option.some.inj e2
def obsRW (n : Nat) (tn : List (Str × List Str)) (fa : List He.Fa) (fn : List He.DefD) (ex : PySem.W.Frag → Bool) (g : Addr → Option Obj) : AlW :=
  (obsR n fa fn ex g, tn.map fun t => dicN (He.frG g (asN g n [mainGlobals] ++ [cStatics])) t.1)
def hookRW (n : Nat) (tn : List (Str × List Str)) (fa : List He.Fa) (fn : List He.DefD) (ex : PySem.W.Frag → Bool) : PySem.W.Hook where
  α := AlW
  obs := fun s => obsRW n tn fa fn ex s.heap.get?
  val := fun w => valRW tn fn w
  says := fun w h => ∃ K : PySem.W.Frag, K.In h ∧ SaysR fa fn ex K ∧ TabsW tn w K
  of := fun _ _ e => ⟨_, He.frG_in, ⟨congrArg (fun z : AlW => z.1.1) e, congrArg (fun z : AlW => z.1.2) e⟩, congrArg (fun z : AlW => z.2) e⟩
  keeps := fun _ _ _ ⟨K, hK, c⟩ k => ⟨K, PySem.W.Frag.In.keeps hK k, c⟩
end Rk

/-! Rk72: len(set(xs)), xs a list or a tuple of any texts. -/
namespace Rk
open PySem PySem.Spec L2 PyProof.Rows
/-- the unlike ones of some texts, as they are met -/
def unl (xs : List Str) : List Str := xs.foldl (fun met x => if x ∈ met then met else met ++ [x]) []
theorem unl_snoc (xs : List Str) (x : Str) : unl (xs ++ [x]) = if x ∈ unl xs then unl xs else unl xs ++ [x] := by
  unfold unl
  rw [List.foldl_append]
  rfl
theorem mem_unl (y : Str) (xs : List Str) : y ∈ unl xs ↔ y ∈ xs := by
  induction h : xs.reverse generalizing xs with
  | nil =>
    have : xs = [] := by simpa using h
    subst this
    exact Iff.rfl
  | cons z zs ih =>
    have e : xs = zs.reverse ++ [z] := by
      have := congrArg List.reverse h
      simpa using this
    subst e
    have i := ih zs.reverse (by simp)
    rw [unl_snoc]
    split
    · rename_i hz
      rw [i]
      simp only [List.mem_append, List.mem_singleton]
      constructor
      · exact .inl
      · rintro (q | rfl)
        · exact q
        · have := ih zs.reverse (by simp)
          exact i.mp hz
    · simp only [List.mem_append, List.mem_singleton, i]
theorem unl_len (xs : List Str) : (unl xs).length ≤ xs.length := by
  induction h : xs.reverse generalizing xs with
  | nil =>
    have : xs = [] := by simpa using h
    subst this
    exact Nat.le_refl _
  | cons z zs ih =>
    have e : xs = zs.reverse ++ [z] := by
      have := congrArg List.reverse h
      simpa using this
    subst e
    have i := ih zs.reverse (by simp)
    rw [unl_snoc]
    split <;> simp only [List.length_append, List.length_singleton] <;> omega
/-- as many as there are just where no two are alike -/
theorem unl_nodup (xs : List Str) : (unl xs).length = xs.length ↔ xs.Nodup := by
  induction h : xs.reverse generalizing xs with
  | nil =>
    have : xs = [] := by simpa using h
    subst this
    exact ⟨fun _ => List.nodup_nil, fun _ => rfl⟩
  | cons z zs ih =>
    have e : xs = zs.reverse ++ [z] := by
      have := congrArg List.reverse h
      simpa using this
    subst e
    have i := ih zs.reverse (by simp)
    have l := unl_len zs.reverse
    have m := mem_unl z zs.reverse
    rw [unl_snoc, List.nodup_append]
    split
    · rename_i hz
      refine ⟨fun q => ?_, fun q => ?_⟩
      · simp only [List.length_append, List.length_singleton] at q
        omega
      · exact absurd rfl (q.2.2 z (m.mp hz) z (List.mem_singleton.mpr rfl))
    · rename_i hz
      simp only [List.length_append, List.length_singleton]
      refine ⟨fun q => ⟨i.mp (by omega), by simp, ?_⟩, fun q => by rw [i.mpr q.1]⟩
      rintro a ha b hb rfl
      rw [List.mem_singleton] at hb
      subst hb
      exact hz (m.mpr ha)
def metB (xs : List Str) : Str → Bool := fun y => decide (y ∈ xs)
section
variable {prog : Program} {w : World} {A : Around} {R : Result → Shared → Prop} {I : Addr} {fp wr : List Addr} {G : Array GenState → Array GenState → Prop} {n : Nat} {P : Nat → Value → Prop} {St : Nat → Shared → Prop}
theorem setOf_moved {S : Addr} {f : Str → Bool} {m : Nat} {h1 h2 : Heap} (k : ∀ o, h1.get? S = some o → h2.get? S = some o) (x : h1.SetOf (PySem.strKind prog w) S f m) : h2.SetOf (PySem.strKind prog w) S f m :=
  let ⟨o, es, ep, t, ho, rest⟩ := x
  ⟨o, es, ep, t, k o ho, rest⟩
/-- the rest of a walk's texts, put into the set one by one -/
theorem fill_texts (walk : WalksS prog w A.in1 I fp wr G n P St) (S : Addr) (out : S ∉ fp) (xs : List Str) (hx : xs.length = n) (room : n + 1 < scanBound) (val : ∀ i v, P i v → ∃ t, v = .str (xs.getD i Str.empty) t) (j : Nat) :
    ∀ (i : Nat) (s : Shared), i + j = n → St i s → s.heap.SetOf (PySem.strKind prog w) S (metB (xs.take i)) (unl (xs.take i)).length →
      (∀ s2, Moved (S :: wr) G s s2 → s2.heap.SetOf (PySem.strKind prog w) S (metB xs) (unl xs).length → R (.ok (.ret .none)) s2) →
      codeAny (model prog w) A (.builtin "set.update.loop" ⟨[.ref S, .ref I], []⟩) R s := by
  have notw : S ∉ wr := fun z => out (walk.sub _ z)
  have more : ∀ b ∈ wr, b ∈ S :: wr := fun _ z => List.mem_cons_of_mem _ z
  induction j with
  | zero =>
    intro i s e st has fin
    have ein : i = n := by omega
    subst ein
    have all : xs.take i = xs := by rw [← hx, List.take_length]
    rw [all] at has
    refine codeAny_builtin PyProof.Rows.F.entry_set_update_loop ?_
    rw [Around.under_plainId PyProof.Rows.F.plain_set_update_loop _]
    show wpAny _ A.in1 (pyNext (.ref I) >>= _) _ _ s
    refine wpAny_bind (walk.done s _ _ st fun s2 mv => ?_)
    show wpAny _ A.in1 (ret Value.none) _ _ s2
    exact wpAny_pure (fin s2 (mv.mono more) (setOf_moved (fun o z => mv.heap S o notw z) has))
  | succ j ih =>
    intro i s e st has fin
    have lt : i < n := by omega
    have ei : xs[i]? = some (xs.getD i Str.empty) := by
      rw [List.getD_eq_getElem?_getD, List.getElem?_eq_getElem (by omega)]
      rfl
    have cut : xs.take (i + 1) = xs.take i ++ [xs.getD i Str.empty] := by rw [List.take_add_one, ei]; rfl
    refine codeAny_builtin PyProof.Rows.F.entry_set_update_loop ?_
    rw [Around.under_plainId PyProof.Rows.F.plain_set_update_loop _]
    show wpAny _ A.in1 (pyNext (.ref I) >>= _) _ _ s
    refine wpAny_bind (walk.item i s _ _ lt st fun v s2 pv st2 mv => ?_)
    obtain ⟨t, rfl⟩ := val i v pv
    have has2 := setOf_moved (fun o z => mv.heap S o notw z) has
    generalize hz : xs.getD i Str.empty = z at *
    show wpAny _ A.in1 (holding [Value.str z t] (setAdd S (.str z t)) >>= _) _ _ s2
    refine wpAny_bind (wpAny_holding ?_)
    unfold setAdd
    refine wpAny_holding ?_
    refine wpAny_bind ((PySem.strKind prog w).pyHash (k := z) (strKind_is _ _ _ _) ?_)
    have small := unl_len (xs.take i)
    have small2 : (xs.take i).length ≤ i := by rw [List.length_take]; omega
    refine wpAny_setAddHashed_of (knd := PySem.strKind prog w) (s := { s2 with toks := s2.toks + 1 }) (strKind_is _ _ _ _) rfl has2 (by omega) fun h2 same has3 => ?_
    have has4 : h2.SetOf (PySem.strKind prog w) S (metB (xs.take (i + 1))) (unl (xs.take (i + 1))).length := by
      refine SetOf_congr has3 (fun y => ?_) ?_
      · unfold metB
        rw [cut]
        by_cases q1 : y ∈ xs.take i <;> by_cases q2 : y = z <;> simp [q1, q2]
      · rw [cut, unl_snoc]
        unfold metB
        by_cases q : z ∈ xs.take i
        · rw [if_pos (decide_eq_true q), if_pos ((mem_unl _ _).mpr q)]
        · rw [if_neg (by simpa using q), if_neg (fun c => q ((mem_unl _ _).mp c)), List.length_append]
          rfl
    have ne : ∀ {b : Addr}, b ∈ fp → b ≠ S := fun hb c => out (c ▸ hb)
    refine wpAny_pure ⟨plainId_quiet PyProof.Rows.F.plain_set_update_loop _, ih (i + 1) _ (by omega) (walk.frame _ s2 _ _ st2 (Nat.le_succ _) fun b hb o z => ?_) has4 fun s3 mv3 has5 => ?_⟩
    · rw [same.2 b (ne hb)]
      exact z
    · refine fin s3 (Moved.trans walk.gtrans ((mv.mono more).then_heap (Nat.le_succ _) fun b o hb z => ?_) mv3) has5
      rw [same.2 b (fun c => hb (by rw [c]; exact List.mem_cons_self))]
      exact z
end
section
variable {prog : Program} {w : World} {A : Around} {E : Value → Shared → Prop} {s : Shared}
abbrev emptySet (led : Bool) : Obj := { cls := .type "set", dict := none, data := .set #[] 0 (.fresh 0 0 led) }
abbrev seqSrc (T : String) (od : Option Addr) (items : Array Value) (nl : Nat) (osl : Array (Option Value)) : Obj := { cls := .type T, dict := od, data := .seq items nl, slots := osl }
abbrev iterOf (itc : String) (src : Addr) : Obj := { cls := .type itc, data := .fields #[.ref src, .int 0 0] }
/-- set(xs): T is list or tuple -/
theorem make_texts {T itc : String} {src : Addr} {items : Array Value} {xs : List Str} {Q : Value → Shared → Prop} {St : Addr → Nat → Heap → Prop} (free : A.handled = none) {od : Option Addr} {nl : Nat} {osl : Array (Option Value)}
    (at_ : s.heap.get? src = some (seqSrc T od items nl osl)) (vals : PyProof.Rows.StrsAre items.toList xs) (room : xs.length + 1 < scanBound)
    (sub1 : isSubtype (.type T) (.type "set") = pure false) (sub2 : isSubtype (.type T) (.type "frozenset") = pure false) (nd : (Value.type T == Value.type "dict") = false)
    (iter : ∀ {A' : Around} {E' : Value → Shared → Prop} {s' : Shared} {Q' : Value → Shared → Prop}, s'.heap.get? src = some (seqSrc T od items nl osl) →
      Q' (.ref s'.heap.objs.size) { s' with heap := s'.heap.push (iterOf itc src) } → wpAny (model prog w) A' (pyIter (.ref src)) Q' E' s')
    (walks : ∀ {A' : Around} (I : Addr), A'.handled = none → src ≠ I → Walks prog w A' I [I, src] [I] items.size (fun i v => items[i]? = some v) (St I))
    (start : ∀ (h : Heap), h.get? src = some (seqSrc T od items nl osl) → St h.objs.size 0 (h.push (iterOf itc src)))
    (h : ∀ (h2 : Heap) (tk : Nat), h2.SetOf (PySem.strKind prog w) s.heap.objs.size (metB xs) (unl xs).length → (∀ b o, b < s.heap.objs.size → s.heap.get? b = some o → h2.get? b = some o) → Q (.ref s.heap.objs.size) { s with heap := h2, toks := tk }) :
    wpAny (model prog w) A (call (.type "set") [.ref src]) Q E s := by
  have tc := PySem.F.called_set
  obtain ⟨c0, tl0, mro0⟩ := tc.mro
  have made0 := tc.made
  have subt0 := tc.sub
  refine wpAny_call (codeAny_of_tree ?_)
  show wpAny _ _ (callAny (.type "set") _) _ _ _
  refine wpAny_pure ⟨Code.quiet_builtin _ (by decide +kernel), codeAny_builtin (PySem.F.entry_type_call) ?_⟩
  rw [Around.under_plain (weight_type_call_type "set" [.ref src] []) rfl]
  have not0 := tc.notType
  have can0 := tc.canCreate
  have chk0 := PySem.F.typeCall_set_1 (.ref src)
  repeat (any_goals (first | wp_step | assumption))
  refine codeAny_mono (code_set_new_1 (.ref src) (E := E) (Q₁ := fun v s1 => ∃ led : Bool, v = .ref s.heap.objs.size ∧ s1 = { s with heap := s.heap.push (emptySet led) }) fun led => ⟨led, rfl, rfl⟩) fun r s1 hr => ?_
  match r, hr with
  | .error _, hr => exact hr
  | .ok (.ret v), hr =>
    obtain ⟨led, rfl, rfl⟩ := hr
    have top : (s.heap.push (emptySet led)).get? s.heap.objs.size = some (emptySet led) := Heap.get?_push_size _ rfl
    have isSet : Shared.TypeIs { s with heap := s.heap.push (emptySet led) } (.ref s.heap.objs.size) "set" := ⟨_, top, rfl⟩
    have init1 := tc.init.lookup
    have init2 := tc.init.bind (.ref s.heap.objs.size)
    repeat (any_goals (first | wp_step | assumption))
    refine codeAny_mono (codeAny_call_builtin (R := wants (fun r s2 => r = .none ∧ ∃ h2 tk, s2 = { s with heap := h2, toks := tk } ∧ h2.SetOf (PySem.strKind prog w) s.heap.objs.size (metB xs) (unl xs).length ∧
        (∀ b o, b < s.heap.objs.size → s.heap.get? b = some o → h2.get? b = some o)) E) tc.init.plain PySem.F.entry_set_init (check_set_init_1 isSet ?_)) fun r2 s2 hr2 => ?_
    · have at1 : (s.heap.push (emptySet led)).get? src = some (seqSrc T od items nl osl) := Heap.get?_push_of_some _ at_
      unfold Builtin.«set.__init__» noKeywords Builtin.Frozenset.updateFrom
      generalize hPI : pyIter = PI
      wp_walk
      subst hPI
      refine iter at1 ?_
      refine wpAny_bind (wpAny_runValue ?_)
      have low : src < s.heap.objs.size := Heap.lt_size at_
      have free3 : A.in1.in1.in1.handled = none := by simp [free]
      have two : (s.heap.push (emptySet led)).objs.size = s.heap.objs.size + 1 := Heap.size_push ..
      have far : src ≠ (s.heap.push (emptySet led)).objs.size := by
        rw [two]
        exact Nat.ne_of_lt (Nat.lt_succ_of_lt low)
      have out : s.heap.objs.size ∉ [(s.heap.push (emptySet led)).objs.size, src] := by
        simp only [List.mem_cons, List.not_mem_nil, or_false, not_or]
        rw [two]
        exact ⟨Nat.ne_of_lt (Nat.lt_succ_self _), Nat.ne_of_gt low⟩
      have len : xs.length = items.size := by rw [← StrsAre.len_eq vals, Array.length_toList]
      refine fill_texts ((walks _ free3 far).toS) s.heap.objs.size out xs len (by omega) (fun i v hv => SS.strs_at vals i v (by rw [Array.getElem?_toList]; exact hv)) items.size 0 _ (by omega) (start _ at1) ?has ?fin
      case has =>
        have top2 : ((s.heap.push (emptySet led)).push (iterOf itc src)).get? s.heap.objs.size = some (emptySet led) := Heap.get?_push_of_some _ top
        exact SetOf_congr ((setObjOf_fresh (knd := PySem.strKind prog w) led).setOf top2 (by unfold scanBound; omega)) (fun y => by simp [metB]) rfl
      case fin =>
        intro s3 mv has
        obtain ⟨h3, g3, d3, t3, o3⟩ := s3
        obtain rfl : g3 = s.gens := mv.gens
        obtain rfl : d3 = s.drawn := mv.drawn
        obtain rfl : o3 = s.os := mv.os
        show wpAny _ _ _ _ _ _
        refine wpAny_pure ?_
        show wpAny _ _ (ret Value.none) _ _ _
        refine wpAny_pure ⟨rfl, h3, t3, rfl, has, fun b o hb z => ?_⟩
        refine mv.heap b o ?_ (Heap.get?_push_of_some _ (Heap.get?_push_of_some _ z))
        simp only [List.mem_cons, List.not_mem_nil, or_false, not_or]
        rw [two]
        exact ⟨Nat.ne_of_lt hb, Nat.ne_of_lt (Nat.lt_succ_of_lt hb)⟩
    · match r2, hr2 with
      | .error _, hr2 => exact hr2
      | .ok (.ret r), hr2 =>
        obtain ⟨rfl, h2, tk, rfl, has, keep⟩ := hr2
        repeat (any_goals (first | wp_step | assumption))
        exact h _ _ has keep
theorem set_list {src : Addr} {items : Array Value} {xs : List Str} {Q : Value → Shared → Prop} (free : A.handled = none) (L : s.heap.IsList src items) (vals : PyProof.Rows.StrsAre items.toList xs) (room : xs.length + 1 < scanBound)
    (h : ∀ (h2 : Heap) (tk : Nat), h2.SetOf (PySem.strKind prog w) s.heap.objs.size (metB xs) (unl xs).length → (∀ b o, b < s.heap.objs.size → s.heap.get? b = some o → h2.get? b = some o) → Q (.ref s.heap.objs.size) { s with heap := h2, toks := tk }) :
    wpAny (model prog w) A (call (.type "set") [.ref src]) Q E s := by
  obtain ⟨⟨cls, od, dt, osl⟩, at_, c, nl, d⟩ := L
  dsimp only at c d
  subst c d
  exact make_texts (itc := "list_iterator") (St := fun I i h => h.IsListIter I src i ∧ h.IsList src items) free at_ vals room PySem.F.sub_list_set PySem.F.sub_list_frozenset (by decide) (fun e q => wpAny_pyIter_list ⟨_, e, rfl, nl, rfl⟩ q) (fun I f n => Walks.list f I src n items)
    (fun h' e => ⟨⟨_, Heap.get?_push_size _ rfl, rfl, rfl⟩, ⟨_, Heap.get?_push_of_some _ e, rfl, nl, rfl⟩⟩) h
theorem set_tuple {src : Addr} {items : Array Value} {xs : List Str} {Q : Value → Shared → Prop} (free : A.handled = none) (L : s.heap.IsTuple src items) (vals : PyProof.Rows.StrsAre items.toList xs) (room : xs.length + 1 < scanBound)
    (h : ∀ (h2 : Heap) (tk : Nat), h2.SetOf (PySem.strKind prog w) s.heap.objs.size (metB xs) (unl xs).length → (∀ b o, b < s.heap.objs.size → s.heap.get? b = some o → h2.get? b = some o) → Q (.ref s.heap.objs.size) { s with heap := h2, toks := tk }) :
    wpAny (model prog w) A (call (.type "set") [.ref src]) Q E s := by
  obtain ⟨⟨cls, od, dt, osl⟩, at_, c, nl, d⟩ := L
  dsimp only at c d
  subst c d
  exact make_texts (itc := "tuple_iterator") (St := fun I i h => h.IsTupleIter I src i ∧ h.IsTuple src items) free at_ vals room PySem.F.sub_tuple_set PySem.F.sub_tuple_frozenset (by decide) (fun e q => wpAny_pyIter_tuple ⟨_, e, rfl, nl, rfl⟩ q) (fun I f n => Walks.tuple f I src n items)
    (fun h' e => ⟨⟨_, Heap.get?_push_size _ rfl, rfl, rfl⟩, ⟨_, Heap.get?_push_of_some _ e, rfl, nl, rfl⟩⟩) h
end
end Rk

/-! Rk73: len(set(xs)) of texts. -/
namespace Rk
open PySem PySem.Spec L2 PyProof.Rows
theorem strsOf_map (xs : List Str) : strsOf (xs.map PyData.str) = some xs := by
  induction xs with
  | nil => rfl
  | cons x xs ih => rw [List.map_cons, strsOf, ih]; rfl
def tUnl (K : PySem.W.Frag) (ta : TE) : TE := fun σ H Q => ta σ H fun x H1 => ∃ (l : Addr) (xs : List Str), x = .ref l ∧ (SqL K H1 l (xs.map V.str) ∨ SqT K H1 l (xs.map V.str)) ∧ xs.length ≤ 4000 ∧ Q (.int ((unl xs).length : Nat)) H1
section
variable {X : Cx} {W : WX} {a : Expr} {ta : TE} {fa : Ev} {p p2 q pos : Pos}
theorem pe_unl (hc : X.calm = true) (g1 : Gl X "len") (m1 : X.mg "len" = none) (g2 : Gl X "set") (m2 : X.mg "set" = none) (ha : PE X a ta) (na : starEach [a] X.env = (false, eval a X.env) :: starEach [] X.env) : PE X (.Call (.Name "len" p) [.Call (.Name "set" p2) [a] [] q] [] pos) (tUnl X.K ta) := by
  refine ⟨fun pins s σ H Q I h => ?_⟩
  refine Call_ (ld_blt I g1 m1 boot_len ?_)
  refine PyProof.Rows.callWith_builtin1 (PyProof.Rows.args_cons ?_ rfl) rfl rfl
  refine Call_ (ld_blt I g2 m2 boot_set ?_)
  refine PyProof.Rows.callWith_type1 (PyProof.Rows.args_cons (thn (ha.run pins s σ H _ I h) fun v s1 ⟨x, H1, I1, r1, l, xs, ex, sq, len, q1⟩ => PyProof.Rows.args_nil ?_) na) na rfl
  subst ex
  obtain rfl : v = Value.ref l := r1
  have last : ∀ (h2 : Heap) (tk : Nat), h2.SetOf (PySem.strKind X.prog X.w) s1.heap.objs.size (metB xs) (unl xs).length → (∀ b o, b < s1.heap.objs.size → s1.heap.get? b = some o → h2.get? b = some o) →
      wpAny (model X.prog X.w) X.A (spliced (backTo pos (starEach [] X.env))) (fun vs s2 => wpAny (model X.prog X.w) X.A (call (.builtin "len") (Value.ref s1.heap.objs.size :: vs)) (EP X pins σ Q) X.xe s2) X.xe { s1 with heap := h2, toks := tk } := fun h2 tk has keep => by
    refine PyProof.Rows.args_nil ?_
    obtain ⟨o, es, ep, t, at_, exact_, dat, _, _, _, fit, num⟩ := has
    have I2 : L2.Inv X pins σ H1 { s1 with heap := h2, toks := tk } := I1.kept fun b o z => keep b o (Heap.lt_size z) z
    have le := unl_len xs
    exact call_len_set at_ exact_ dat fit (by rw [num]; omega) ⟨.int ((unl xs).length : Nat), H1, I2.tok _, ⟨_, by rw [num]⟩, q1⟩
  have room : xs.length + 1 < scanBound := by unfold scanBound; omega
  rcases sq with sq | sq
  · obtain ⟨its, r, pl, hz⟩ := I1.list sq
    exact set_list (I1.ok.hd hc) pl.isList (by simpa using strsAre_of r) room last
  · obtain ⟨its, r, pl, hz⟩ := I1.tuple sq
    exact set_tuple (I1.ok.hd hc) pl (by simpa using strsAre_of r) room last
def eUnl (f : Ev) : Ev := fun ρ h => (f ρ h).bind fun v h1 => match (asQ v h1).bind strsOf with
  | some xs => if xs.length ≤ 4000 then .ok (.d (.int ((unl xs).length : Nat))) h1 else .no
  | none => .no
theorem ee_unl (hc : X.calm = true) (m1 : X.mg "len" = none) (m2 : X.mg "set" = none) (ha : EE X W a fa) (g1 : Gl X "len" := by rfl) (g2 : Gl X "set" := by rfl) (na : starEach [a] X.env = (false, eval a X.env) :: starEach [] X.env := by rfl) :
    EE X W (.Call (.Name "len" p) [.Call (.Name "set" p2) [a] [] q] [] pos) (eUnl fa) :=
  PE.of (pe_unl hc g1 m1 g2 m2 ha na) fun σ H Q ⟨φ, h, ρ, sm, er, k⟩ => ⟨φ, h, ρ, sm, er, PoX.goE k fun x v h1 H1 φ1 st sm1 rv k1 => by
    cases e : (asQ v h1).bind strsOf with
    | none => rw [e] at k1; exact k1.elim
    | some xs =>
      rw [e] at k1
      dsimp only at k1
      cases e1 : asQ v h1 with
      | none => rw [e1] at e; cases e
      | some ds =>
        rw [e1] at e
        obtain ⟨l, vs, rfl, sq, rs⟩ := asQ_ok sm1 rv e1
        have ev := strsOf_ok rs e
        subst ev
        split at k1
        · rename_i len
          exact ⟨l, xs, rfl, sq, len, k1 _ _ _ (Step.refl _ _ _) sm1 (show VRep _ _ _ _ _ _ (.d (.int _)) from Rep.int _)⟩
        · exact k1.elim⟩
end
section
variable {Q : Vl → Hh → Prop} {E : XP} {ρ : En} {h : Hh} {f : Ev}
def UnlK (v : Vl) (h : Hh) (Q : Vl → Hh → Prop) : Prop := ∃ xs, (asQ v h).bind strsOf = some xs ∧ xs.length ≤ 4000 ∧ Q (.d (.int ((unl xs).length : Nat))) h
theorem wp_unl (w : Wp (f ρ h) (fun v h1 => UnlK v h1 Q) E) : Wp (eUnl f ρ h) Q E :=
  wp_bind (w.mono (fun v h1 ⟨xs, e, l, q⟩ => by rw [e]; dsimp only; rw [if_pos l]; exact ⟨q⟩) fun _ _ _ z => z)
theorem unlk_t {xs : List Str} (l : xs.length ≤ 4000) (q : Q (.d (.int ((unl xs).length : Nat))) h) : UnlK (.d (.tuple (xs.map PyData.str))) h Q := ⟨xs, strsOf_map xs, l, q⟩
end
end Rk

/-! Rk74: dict(ps), ps a list of pairs. -/
namespace Rk
open PySem PySem.Spec L2 PyProof.Rows
variable {mg : Str → Option Value}
def pairsD : List Da → Option (List (Key × Da))
  | [] => some []
  | .tuple [k, v] :: r => (keyD k).bind fun q => (pairsD r).map ((q, v) :: ·)
  | _ => none
def gDP : GC := fun vs h => match vs with
  | [v] => match asL v h with
    | some ds => match pairsD ds with
      | some kds => some (.r h.length, h ++ [some (.dct (kds.foldl (fun acc kv => putD acc kv.1 kv.2) []))])
      | none => none
    | none => none
  | _ => none
def rDP (K : PySem.W.Frag) : List V → Hp → VK → Prop := fun xs H Q => ∃ (a : Addr) (ps : List Addr) (kvs : List (Key × V)), xs = [.ref a] ∧ SqL K H a (ps.map V.ref) ∧ Paired (fun p kv => SqT K H p [kV kv.1, kv.2]) ps kvs ∧
    ∀ p, H p = none → Q (.ref p) (upd H p (.dK (mergeK [] kvs)))
section
variable {K : PySem.W.Frag} {H : Hp} {M : Addr → Prop}
theorem pairsD_ok : ∀ {vs : List V} {ds : List Da} {kds : List (Key × Da)}, Reps K H M vs ds → pairsD ds = some kds → ∃ (ps : List Addr) (kvs : List (Key × V)), vs = ps.map V.ref ∧ Paired (fun p kv => SqT K H p [kV kv.1, kv.2]) ps kvs ∧ KvRep K H M kvs kds
  | _, _, _, .nil, e => by cases e; exact ⟨[], [], rfl, .nil, .nil⟩
  | v :: vs, d :: ds, kds, .cons r t, e => by
    unfold pairsD at e
    split at e
    · rename_i q; cases q
    · rename_i k w r' q
      cases q
      cases e1 : keyD k with
      | none => rw [e1] at e; cases e
      | some kk =>
        rw [e1] at e
        cases e2 : pairsD ds with
        | none => rw [e2] at e; cases e
        | some l =>
          rw [e2] at e
          cases e
          obtain ⟨ps, kvs, rfl, p1, p2⟩ := pairsD_ok t e2
          cases v with
          | ref a =>
            obtain ⟨xs, sq, rx⟩ := r.sqT
            cases rx with
            | cons r1 rx => cases rx with
              | cons r2 rx =>
                cases rx
                rw [keyD_ok r1 e1] at sq
                exact ⟨a :: ps, (kk, _) :: kvs, rfl, .cons sq p1, .cons r2 p2⟩
          | _ => cases r
    · cases e
theorem KvRep.stay2 {H' : Hp} {M' : Addr → Prop} (s : Stay H M H' M') {vs : List (Key × V)} {ds : List (Key × Da)} (r : KvRep K H M vs ds) : KvRep K H' M' vs ds := r.stay s
end
theorem ok_dp {K : PySem.W.Frag} : OkC K mg (rDP K) gDP := by
  intro φ h H xs vs Q z h2 sm rvs e k
  unfold gDP at e
  split at e
  · rename_i v
    obtain ⟨x, rfl, rx⟩ := rvs.one
    split at e
    · rename_i ds ed
      split at e
      · rename_i kds ek
        cases e
        obtain ⟨a, zs, rfl, sq, rz⟩ := asL_ok sm rx ed
        obtain ⟨ps, kvs, rfl, pr, kr⟩ := pairsD_ok rz ek
        refine ⟨a, ps, kvs, rfl, sq, pr, fun p hp => ?_⟩
        obtain ⟨s1, s2, s3⟩ := sm.new (ob := .dct (kds.foldl (fun acc kv => putD acc kv.1 kv.2) [])) (o := .dK (mergeK [] kvs)) hp fun M st => ⟨_, upd_same, merge_rep (kr.stay2 st) .nil⟩
        exact k _ _ _ s1 s2 s3
      · cases e
    · cases e
  · cases e
section
variable {h : Hh} {Q : Vl → Hh → Prop} {ds : List Da} {kds : List (Key × Da)}
theorem wo_dp (e : pairsD ds = some kds) (q : Q (.r h.length) (h ++ [some (.dct (kds.foldl (fun acc kv => putD acc kv.1 kv.2) []))])) : Wo (gDP [.d (.list ds)] h) Q := by
  refine wo_eq ?_ q
  unfold gDP asL
  dsimp only
  rw [e]
end
end Rk

/-! Rk75: x in d (a dict), c in t (a sign of a text). -/
namespace Rk
open PySem PySem.Spec L2 PyProof.Rows
variable {mg : Str → Option Value}
def rInDk (neg : Bool) : R2 := fun x y H Q => ∃ (a : Addr) (kvs : List (Key × V)) (k : Key), x = kV k ∧ y = .ref a ∧ H a = some (.dK kvs) ∧ Q (.bl (if neg = true then !(valV kvs k).isSome else (valV kvs k).isSome)) H
theorem op_inDk {X : Cx} : OpR X (compareOp .In) (rInDk false) := by
  intro pins s σ H x y v u Q I rx ry h
  obtain ⟨a, kvs, k, rfl, rfl, e, q⟩ := h
  obtain rfl : u = Value.ref a := ry
  obtain ⟨z, hd, vs, rel, dd⟩ := dk_rd I.hok (.inl e)
  refine wpAny_in_of (kV_is rx) hd dd.mapOf ?_
  rw [← (rel.val k).isSome_eq]
  exact ⟨.bl (valV kvs k).isSome, H, I.tok _, rfl, q⟩
theorem op_notInDk {X : Cx} : OpR X (compareOp .NotIn) (rInDk true) := by
  intro pins s σ H x y v u Q I rx ry h
  obtain ⟨a, kvs, k, rfl, rfl, e, q⟩ := h
  obtain rfl : u = Value.ref a := ry
  obtain ⟨z, hd, vs, rel, dd⟩ := dk_rd I.hok (.inl e)
  refine wpAny_notIn_of (kV_is rx) hd dd.mapOf ?_
  rw [← (rel.val k).isSome_eq]
  exact ⟨.bl (!(valV kvs k).isSome), H, I.tok _, rfl, q⟩
/-- the entries of a dict that may be changed, or is data -/
def asDd (v : Vl) (h : Hh) : Option (List (Key × Da)) := match v with
  | .d (.dict kds) => if kds = [] then none else unD kds
  | v => (asDk v h).map (·.2)
def gInD (neg : Bool) : G2 := fun x y h => match keyOf x, asDd y h with
  | some k, some kds => some (.d (.bool (if neg = true then !(valD kds k).isSome else (valD kds k).isSome)), h)
  | _, _ => none
theorem kvrep_val {K : PySem.W.Frag} {H : Hp} {M : Addr → Prop} (k : Key) : ∀ {vs : List (Key × V)} {ds : List (Key × Da)}, KvRep K H M vs ds → (valV vs k).isSome = (valD ds k).isSome
  | _, _, .nil => rfl
  | _, _, .cons (k := kk) (v := v) (vs := vs) (d := d) (ds := ds) r t => by
    have i := kvrep_val k t
    unfold valV valD at *
    by_cases q : kk = k
    · rw [List.find?_cons_of_pos (by simpa using q), List.find?_cons_of_pos (by simpa using q)]
      rfl
    · rw [List.find?_cons_of_neg (by simpa using q), List.find?_cons_of_neg (by simpa using q)]
      exact i
theorem ok_inD {K : PySem.W.Frag} (neg : Bool) : Ok2 K mg (rInDk neg) (gInD neg) := by
  intro φ h H x y a b Q v h' sm rx ry e k
  unfold gInD at e
  split at e
  · rename_i key kds ek ed
    cases e
    have ex := keyOf_ok rx ek
    unfold asDd at ed
    split at ed
    · rename_i kds0
      split at ed
      · cases ed
      · rename_i ne0
        have ne : kds ≠ [] := fun z => by
          subst z
          cases kds0 with
          | nil => exact ne0 rfl
          | cons p r =>
            unfold unD at ed
            cases e1 : keyD p.1 with
            | none => rw [e1] at ed; cases ed
            | some kk =>
              rw [e1] at ed
              cases e2 : unD r with
              | none => rw [e2] at ed; cases ed
              | some l => rw [e2] at ed; cases ed
        obtain ⟨p, vs, rfl, eh, rk⟩ := Rep.dctAt (show Rep K H (Live φ h) y (.dict kds0) from ry) ne ed
        refine ⟨p, vs, key, ex, rfl, eh, ?_⟩
        rw [kvrep_val key rk]
        exact k _ H φ (Step.refl _ _ _) sm (Rep.bl _)
    · cases e1 : asDk b h with
      | none => rw [e1] at ed; cases ed
      | some pr =>
        rw [e1] at ed
        cases ed
        obtain ⟨n, kd⟩ := pr
        obtain ⟨p, vs, rfl, ea, en, eh, rk⟩ := asDk_ok sm ry e1
        refine ⟨p, vs, key, ex, rfl, eh, ?_⟩
        rw [kvrep_val key rk]
        exact k _ H φ (Step.refl _ _ _) sm (Rep.bl _)
  · cases e
/-- a sign in a text -/
def rInS (neg : Bool) : R2 := fun x y H Q => ∃ (c : Nat) (z : Str), x = .str ⟨#[c]⟩ ∧ y = .str z ∧ Q (.bl (if neg = true then !decide (c ∈ z.cps.toList) else decide (c ∈ z.cps.toList))) H
def gInS (neg : Bool) : G2 := fun x y h => match x, y with
  | .d (.str s), .d (.str z) => (match s.cps.toList with
    | [c] => some (.d (.bool (if neg = true then !decide (c ∈ z.cps.toList) else decide (c ∈ z.cps.toList))), h)
    | _ => none)
  | _, _ => none
theorem op_inS {X : Cx} : OpR X (compareOp .In) (rInS false) := fun pins s σ H x y v u Q I rx ry ⟨c, z, e1, e2, q⟩ => op_in_sign pins s σ H x y v u Q I rx ry ⟨c, z, e1, e2, q⟩
theorem ok_inS {K : PySem.W.Frag} (neg : Bool) : Ok2 K mg (rInS neg) (gInS neg) := by
  intro φ h H x y a b Q v h' sm rx ry e k
  unfold gInS at e
  split at e
  · rename_i s z
    split at e
    · rename_i c ec
      cases e
      cases rx
      cases ry
      have es : s = ⟨#[c]⟩ := by
        obtain ⟨cs⟩ := s
        obtain ⟨l⟩ := cs
        cases ec
        rfl
      subst es
      exact ⟨c, z, rfl, rfl, k _ H φ (Step.refl _ _ _) sm (Rep.bl _)⟩
    · cases e
  · cases e
section
variable {h : Hh} {Q : Vl → Hh → Prop} {n : Nat} {kds : List (Key × Da)} {x : Str} {b : Bool}
theorem wo_inD (e : h[n]? = some (some (.dct kds))) (eb : (valD kds (.inr x)).isSome = b) (q : Q (.d (.bool b)) h) : Wo (gInD false (.d (.str x)) (.r n) h) Q := by
  refine wo_eq ?_ q
  unfold gInD asDd asDk
  simp only [e]
  rw [show keyOf (.d (.str x)) = some (.inr x) from rfl]
  simp only [Option.map_some, eb]
  rfl
theorem wo_notInD (e : h[n]? = some (some (.dct kds))) (eb : (valD kds (.inr x)).isSome = b) (q : Q (.d (.bool (!b))) h) : Wo (gInD true (.d (.str x)) (.r n) h) Q := by
  refine wo_eq ?_ q
  unfold gInD asDd asDk
  simp only [e]
  rw [show keyOf (.d (.str x)) = some (.inr x) from rfl]
  simp only [Option.map_some, eb]
  rfl
theorem wo_inS {c : Nat} {z : Str} (q : Q (.d (.bool (decide (c ∈ z.cps.toList)))) h) : Wo (gInS false (.d (.str ⟨#[c]⟩)) (.d (.str z)) h) Q := wo_eq (v := .d (.bool (decide (c ∈ z.cps.toList)))) (h' := h) rfl q
end
end Rk

/-! Rk76: a text walked sign by sign. -/
namespace Rk
open PySem PySem.Spec L2
/-- the signs of a text, each as a text -/
def sgn (x : Str) : List Da := x.cps.toList.map fun c => .str ⟨#[c]⟩
def itS (v : Vl) (h : Hh) : Out Itm := match v with
  | .d (.str x) => .ok ⟨sgn x, none⟩ h
  | _ => .no
theorem str_it {K : PySem.W.Frag} {x : Str} : ItOk K (Its x) ⟨sgn x, none⟩ (fun _ _ _ => True) where
  go := fun φ h H i sm g gd hi => by
    show i < x.cps.size
    have : (sgn x).length = x.cps.size := by unfold sgn; simp
    have hi : i < (sgn x).length := hi
    omega
  yld := fun φ h H i y H' d sm g gd ed ⟨e, c, ec, ey⟩ => by
    subst e
    subst ey
    have e2 : (sgn x)[i]? = some (.str ⟨#[c]⟩) := by
      unfold sgn
      rw [List.getElem?_map, Array.getElem?_toList, ec]
      rfl
    have e3 : some d = some (PyData.str ⟨#[c]⟩) := ed.symm.trans e2
    cases e3
    exact ⟨Step.refl _ _ _, sm, Rep.str _⟩
  stop := fun φ h H i sm g gd hi => by
    show x.cps.size ≤ i
    have : (sgn x).length = x.cps.size := by unfold sgn; simp
    have hi : (sgn x).length ≤ i := hi
    omega
  keep := fun _ _ _ _ _ _ _ _ => trivial
section
variable {X : Cx} {W : WX} {tg e : Expr} {fe : Ev}
theorem ei_str (he : EE X W e fe) : EI X W tg e (iv itS fe) :=
  PI.of (pi_str he) fun σ H R ⟨φ, h, ρ, sm, er, q⟩ => ⟨φ, h, ρ, sm, er, PoI.goE q fun x v h1 H1 φ1 st sm1 rv q1 => by
    unfold itS at q1
    split at q1
    · rename_i z
      cases (show Rep X.K H1 (Live φ1 h1) x (.str z) from rv)
      exact ⟨z, rfl, q1 _ H1 φ1 _ (Step.refl _ _ _) sm1 str_it trivial⟩
    · exact q1.elim⟩
end
section
variable {E : XP} {h : Hh} {QI : Itm → Hh → Prop} {x : Str}
end
end Rk

/-! Rk77: s.join(xs); sorted(ns). -/
namespace Rk
open PySem PySem.Spec L2
variable {mg : Str → Option Value}
/-- a text's method of one argument -/
def eM1 (g : Str → Vl → Hh → Option (Vl × Hh)) (fo fe : Ev) : Ev := fun ρ h => (fo ρ h).bind fun v h1 => match v with
  | .d (.str a) => (fe ρ h1).bind fun y h2 => ofO (g a y h2)
  | _ => .no
def gJoin (a : Str) (y : Vl) (h : Hh) : Option (Vl × Hh) := match (asQ y h).bind strsOf with
  | some ys => if (ys.map (·.length)).sum + ys.length * a.length ≤ 16777216 then some (.d (.str (Txt.join a ys)), h) else none
  | none => none
section
variable {X : Cx} {W : WX} {o e : Expr} {fo fe : Ev} {apos pos : Pos}
end
/-- whole numbers, rising -/
def isrt (ns : List Int) : List Int := ns.mergeSort fun a b => decide (a ≤ b)
def gSortI : GC := fun vs h => match vs with
  | [v] => match (asL v h).bind intsOf with
    | some ns => some (.r h.length, h ++ [some (.lst ((isrt ns).map PyData.int))])
    | none => none
  | _ => none
section
variable {Q : Vl → Hh → Prop} {E : XP} {ρ : En} {h : Hh} {fo fe : Ev} {g : Str → Vl → Hh → Option (Vl × Hh)} {a : Str} {ys : List Str} {ns : List Int}
end
end Rk

/-! Rk78: reversed(range(n)); list(range(n)). -/
namespace Rk
open PySem PySem.Spec L2
def iRevR (fe : Ev) : Iv := fun ρ h => (fe ρ h).bind fun v h1 => match v with
  | .d (.int j) => if rgB j then .ok ⟨(rngD 0 j.toNat).reverse, none⟩ h1 else .no
  | _ => .no
def eLstR (fe : Ev) : Ev := fun ρ h => (fe ρ h).bind fun v h1 => match v with
  | .d (.int j) => if 0 ≤ j ∧ j ≤ 16777216 then .ok (.r h1.length) (h1 ++ [some (.lst (rngD 0 j.toNat))]) else .no
  | _ => .no
section
variable {X : Cx} {W : WX} {tg a : Expr} {fa : Ev} {p p2 pos q : Pos}
end
section
variable {Q : Vl → Hh → Prop} {E : XP} {ρ : En} {h : Hh} {fa : Ev} {QI : Itm → Hh → Prop}
end
end Rk

/-! Rk79: a world by what its text says of one thing. -/
namespace Rk
open PySem
end Rk

/-! Rk80: wishes for the newer forms. -/
namespace Rk
open PySem PySem.Spec L2
section
variable {Q : Vl → Hh → Prop} {E : XP} {h : Hh} {kds : List (Str × Da)} {z : Str} {y : Vl} {x a b : Str}
theorem wo_getC_y {d : Da} (e : seek kds z = some d) (q : Q (.d d) h) : Wo (gGetC kds (.d (.str z)) y h) Q := by
  refine wo_eq (v := .d d) ?_ q
  unfold gGetC
  dsimp only
  rw [e]
end
end Rk

/-! Rk81: comprehensions whose parts look at the store. -/
namespace Rk
open PySem PySem.Spec L2
section
variable {Q : Vl → Hh → Prop} {E : XP} {ρ ρ0 : En} {h hb : Hh} {i : Iv} {g : Gv} {fe : Ev} {ws : List Nat} {D : Nat}
theorem lck_map {α : Type} (f g' : α → Da) (el : hb.length = D) : ∀ (xs : List α) (acc : List Da), (∀ x ∈ xs, ∀ o, GvK (g (.d (f x)) ρ0 (hb ++ [o])) fun ρ1 h1 => h1 = hb ++ [o] ∧ Wp (fe ρ1 (hb ++ [o])) (fun v h2 => h2 = hb ++ [o] ∧ v = .d (g' x)) NX) → acc.length + xs.length ≤ 16777216 → Q (.d (.list (acc ++ xs.map g'))) hb → LcK D g fe ρ0 (xs.map f) acc hb Q
  | [], acc, _, _, q => lck_nil el (by simpa using q)
  | x :: xs, acc, H, hl, q => by
    rw [List.map_cons]
    rw [List.length_cons] at hl
    refine lck_cons ?_
    have k := H x (List.mem_cons_self ..) (some (.lst acc))
    unfold GvK Wo at k ⊢
    revert k
    cases g (.d (f x)) ρ0 (hb ++ [some (.lst acc)]) with
    | none => exact fun z => z
    | some p =>
      obtain ⟨ρ1, h1⟩ := p
      rintro ⟨rfl, w⟩
      refine w.mono ?_ fun _ _ _ z => z
      rintro v h2 ⟨rfl, rfl⟩
      refine ⟨g' x, hb, rfl, rfl, el, by omega, lck_map f g' el xs _ (fun y hy => H y (List.mem_cons_of_mem _ hy)) (by simp only [List.length_append, List.length_singleton]; omega) ?_⟩
      rw [List.append_assoc]
      exact q
/-- every part told by a function, of the store as it stands -/
theorem wp_lcH {α : Type} (xs : List α) (f g' : α → Da) {ρ0 : En} (e00 : wipeE ρ ws = ρ0) (w : Wp (i ρ h) (fun m h1 => m = ⟨xs.map f, none⟩ ∧ xs.length ≤ 16777216 ∧ h1.length = h.length ∧
      (∀ x ∈ xs, ∀ o, GvK (g (.d (f x)) ρ0 (h1 ++ [o])) fun ρ1 h2 => h2 = h1 ++ [o] ∧ Wp (fe ρ1 (h1 ++ [o])) (fun v h3 => h3 = h1 ++ [o] ∧ v = .d (g' x)) NX) ∧
      Q (.d (.list (xs.map g'))) h1) (fun c fs h1 => E c fs (h1.take h.length))) : Wp (eFz (eLc ws i g tvYes fe) ρ h) Q E := by
  refine wp_lcU e00 (w.mono ?_ fun _ _ _ z => z)
  rintro m h1 ⟨rfl, hl, hh, H, q⟩
  exact ⟨rfl, hh, lck_map f g' hh xs [] H (by simpa using hl) q⟩
end
section
variable {h : Hh} {Q : Vl → Hh → Prop} {n : Nat} {kds : List (Key × Da)} {x : Str} {b : Bool}
end
end Rk

/-! Rk82: texts put together, cut, indexed; loops that draw. -/
namespace Rk
open PySem PySem.Spec L2
section
variable {h : Hh} {Q : Vl → Hh → Prop} {a b z : Str} {i : Int} {c : Nat} {lo hi : Option Int}
theorem wo_addS (l : a.length + b.length ≤ 16777216) (q : Q (.d (.str (a ++ b))) h) : Wo (gAdd (.d (.str a)) (.d (.str b)) h) Q := by
  refine wo_eq ?_ q
  unfold gAdd
  dsimp only
  rw [if_pos (fitB_ok l)]
theorem wo_ixS (l : z.length ≤ 16777216) (e : z.cps.toList[i.toNat]? = some c) (h0 : 0 ≤ i) (q : Q (.d (.str ⟨#[c]⟩)) h) : Wo (gIx (.d (.str z)) (.d (.int i)) h) Q := by
  refine wo_eq ?_ q
  unfold gIx
  dsimp only
  have := atI_get0 e
  rw [show ((i.toNat : Nat) : Int) = i by omega] at this
  rw [if_pos (fitB_ok l), this]
  rfl
theorem wo_slS (l : z.length ≤ 16777216) (q : Q (.d (.str (cutS z lo hi))) h) : Wo (gSl (.d (.str z)) lo hi h) Q := by
  refine wo_eq ?_ q
  unfold gSl
  dsimp only
  rw [if_pos (fitB_ok l)]
theorem inF_strs (x : Str) (xs : List Str) : inF (.str x) (xs.map PyData.str) = decide (x ∈ xs) := by
  unfold inF
  rw [List.any_map]
  induction xs with
  | nil => rfl
  | cons y ys ih =>
    rw [List.any_cons, ih]
    show ((y == x) || _) = _
    by_cases e : y = x
    · subst e
      simp
    · have e' : ¬ x = y := fun z => e z.symm
      simp [e, e']
end
section
variable {h : Hh} {Q : Vl → Hh → Prop} {E : XP} {ρ : En} {p r : Pv} {k v : Ev} {QL : List (Key × Da) → Hh → Prop}
theorem wp_dct (w : Wp (p ρ h) (fun l h1 => l.length ≤ 15 ∧ Q (.r h1.length) (h1 ++ [some (.dct (l.foldl (fun acc kv => putD acc kv.1 kv.2) []))])) E) : Wp (eDct p ρ h) Q E :=
  wp_bind (w.mono (fun l h1 ⟨e, q⟩ => by rw [if_pos e]; exact ⟨q⟩) fun _ _ _ z => z)
theorem wp_pn (q : QL [] h) : Wp (pNil ρ h) QL E := ⟨q⟩
theorem wp_pc (w : Wp (k ρ h) (fun x h1 => Wp (v ρ h1) (fun y h2 => Wp (r ρ h2) (fun l h3 => ∃ s d, x = .d (.str s) ∧ y = .d d ∧ QL ((.inr s, d) :: l) h3) E) E) E) : Wp (pCons k v r ρ h) QL E :=
  wp_bind (w.mono (fun _ _ w => wp_bind (w.mono (fun _ _ w => wp_bind (w.mono (fun _ _ ⟨s, d, e1, e2, q⟩ => by subst e1 e2; exact ⟨q⟩) fun _ _ _ z => z)) fun _ _ _ z => z)) fun _ _ _ z => z)
theorem ex_pc {s : Str} {d : Da} {P : Str → Da → Prop} (q : P s d) : ∃ s' d', Vl.d (.str s) = .d (.str s') ∧ Vl.d d = .d d' ∧ P s' d' := ⟨s, d, rfl, rfl, q⟩
end
section
variable {Q : Vl → Hh → Prop} {ρ0 : En} {hb : Hh} {g : Gv} {fe : Ev} {D : Nat}
/-- a comprehension that draws, by what stands ahead of each part -/
theorem lck_inv {ds : List Da} (I : Nat → List Da → Hh → Prop) (h0 : I 0 [] hb) (dl : ∀ k acc h, I k acc h → h.length = D) (hl : ds.length ≤ 16777216)
    (st : ∀ k d acc hb, ds[k]? = some d → I k acc hb → acc.length = k → GvK (g (.d d) ρ0 (hb ++ [some (.lst acc)])) fun ρ1 h1 => Wp (fe ρ1 h1) (fun v h2 => ∃ x hb', v = .d x ∧ h2 = hb' ++ [some (.lst acc)] ∧ I (k + 1) (acc ++ [x]) hb') NX)
    (fin : ∀ acc hb, I ds.length acc hb → acc.length = ds.length → Q (.d (.list acc)) hb) : LcK D g fe ρ0 ds [] hb Q := by
  have go : ∀ (n k : Nat) (acc : List Da) (hb : Hh), n = ds.length - k → k ≤ ds.length → I k acc hb → acc.length = k → LcK D g fe ρ0 (ds.drop k) acc hb Q := by
    intro n
    induction n with
    | zero =>
      intro k acc hb hn hk i ha
      have : k = ds.length := by omega
      subst this
      rw [List.drop_length]
      exact lck_nil (dl _ _ _ i) (fin _ _ i ha)
    | succ n ih =>
      intro k acc hb hn hk i ha
      have hk' : k < ds.length := by omega
      rw [List.drop_eq_getElem_cons hk']
      refine lck_cons ?_
      have w := st k ds[k] acc hb (List.getElem?_eq_getElem hk') i ha
      unfold GvK Wo at w ⊢
      revert w
      cases g (.d ds[k]) ρ0 (hb ++ [some (.lst acc)]) with
      | none => exact fun z => z
      | some p =>
        obtain ⟨ρ1, h1⟩ := p
        intro w
        refine Wp.mono w ?_ fun _ _ _ z => z
        rintro v h2 ⟨x, hb', rfl, rfl, i'⟩
        exact ⟨x, hb', rfl, rfl, dl _ _ _ i', by omega, ih (k + 1) _ hb' (by omega) (by omega) i' (by simp [ha])⟩
  have := go _ 0 [] hb rfl (Nat.zero_le _) h0 rfl
  rwa [List.drop_zero] at this
end
section
variable {h : Hh} {n : Nat} {kds kds' : List (Key × Da)} {x : Str} {v d : Da} {Q : Vl → Hh → Prop} {N : Hh → Prop}
theorem ex_setDS (hn : n < h.length) (e : putD kds (.inr x) v = kds') (hl : kds.length < 16777216) (q : N (h.set n (some (.dct kds')))) : ∃ h3, setD (.r n) (.d (.str x)) (.d v) (h.set n (some (.dct kds))) = some h3 ∧ N h3 := by
  subst e
  refine ⟨_, set_of (kds' := putD kds (.inr x) v) (get_set hn) rfl hl, ?_⟩
  rw [List.set_set]
  exact q
theorem wo_dgS (hn : n < h.length) (e : valD kds (.inr x) = some d) (q : Q (.d d) (h.set n (some (.dct kds)))) : Wo (gDG (.r n) (.d (.str x)) (h.set n (some (.dct kds)))) Q :=
  wo_eq (dg_of (get_set hn) e) q
/-- a state that draws: three fields -/
def st3 (L M a : Int) : List (Key × Da) := [(.inr "cell", .int L), (.inr "seed", .int M), (.inr "at", .int a)]
theorem mapIdx_map' {α β γ : Type} (f : α → β) (F : Nat → β → γ) (xs : List α) : (xs.map f).mapIdx F = xs.mapIdx fun i x => F i (f x) := by
  apply List.ext_getElem?
  intro i
  simp only [List.getElem?_map, List.getElem?_mapIdx]
  cases xs[i]? <;> rfl
end
section
variable {h : Hh} {Q : Vl → Hh → Prop}
theorem rng_getI {n k : Nat} {d : Da} (e : (rngD 0 ((n : Int)).toNat)[k]? = some d) : k < n ∧ d = .int (k : Int) := by
  rw [Int.toNat_natCast] at e
  obtain ⟨e1, e2⟩ := rng_get e
  exact ⟨e2, by rw [e1, Int.zero_add]⟩
theorem wo_ixLF {k : Nat} {ds : List Da} {v : Da} (ek : ds[k]? = some v) (q : Q (.d v) h) : Wo (gIx (.d (.list ds)) (.d (.int (k : Int))) h) Q := wo_eq (gIxF ek) q
/-- a list of a function's values at the numbers below n -/
def tabD (n : Nat) (f : Nat → Da) : List Da := (List.range n).map f
end
end Rk

/-! Rk83: repr of data with whole numbers of many figures. -/
namespace Rk
open PySem PySem.Spec L2 PyProof.Rows
section
variable {prog : Program} {w : World} {A : Around} {E : Value → Shared → Prop} {s : Shared}
theorem call_int_reprL {a : Int} {t : Tok} {Q : Value → Shared → Prop} (hn : s.heap.NoDigits) (ha : a.natAbs < 10 ^ 4300) (h : Q (.str (toString a) s.toks) { s with toks := s.toks + 1 }) : wpAny (model prog w) A (call (.builtin "int.__repr__") [.int a t]) Q E s := by
  refine wpAny_call (codeAny_call_builtin F.slot_int_repr.plain F.entry_int_repr (F.slot_int_repr.check _ _ _ _ _ _ _ _ (typeIs_int _ a t) (F.args_int_repr_1 _) ?_))
  unfold Builtin.«int.__repr__»
  show wpAny _ _ (do let r ← Builtin.overDigitLimit? a; _) _ _ s
  refine wpAny_bind (overDigitLimit_any hn (fun hlt => ?_) (fun hge => absurd ha (Nat.not_lt.mpr hge)))
  exact wpAny_bind (wpAny_mkStr (wpAny_pure h) (int_text_fits10 hlt))
theorem pyReprObj_intL {a : Int} {t : Tok} {Q : Value → Shared → Prop} (hu : A.units < cLine) (hn : s.heap.NoDigits) (ha : a.natAbs < 10 ^ 4300) (h : Q (.str (toString a) s.toks) { s with toks := s.toks + 1 }) : wpAny (model prog w) A (pyReprObj (.int a t)) Q E s :=
  wpAny_pyReprObj_slot hu (typeIs_int s a t) F.slot_int_repr.toG (call_int_reprL hn ha ⟨_, _, rfl, h⟩)
theorem repr_of_intL {a : Int} {t : Tok} {Q : Value → Shared → Prop} (hu : A.units + 1 < cLine) (hn : s.heap.NoDigits) (ha : a.natAbs < 10 ^ 4300) (h : Q (.str (toString a) s.toks) { s with toks := s.toks + 1 }) : wpAny (model prog w) A (call (.builtin "repr") [.int a t]) Q E s :=
  call_repr_slot (by omega) (typeIs_int s a t) F.slot_int_repr.toG (call_int_reprL hn ha ⟨_, _, rfl, h⟩)
theorem ReprK.intL {h₀ : Heap} {a : Int} (t : Tok) (hn : h₀.NoDigits) (ha : a.natAbs < 10 ^ 4300) (as : List Addr) (d : Nat) : ReprK prog w as h₀ d (.int a t) (toString a) := fun n hb A g E s Q hg hcl hu hk hQ => by
  have hn' : n ≤ sizeLine := by omega
  rw [pyReprUnder_leaf (v := .int a t) hn' (fun _ e => nomatch e)]
  unfold pyRepr
  exact wpAny_bind (pyReprObj_intL (by omega) (hn.keeps hk) ha (wpAny_pure (hQ s.heap _ fun _ _ e => e)))
end
mutual
/-- data without dicts whose whole numbers have less than 12900 bits -/
def shB : Da → Bool
  | .int i => decide (i.natAbs.log2 < 12900)
  | .list ds => shBs ds
  | .tuple ds => shBs ds
  | .dict _ => false
  | .none => true
  | .bool _ => true
  | .str _ => true
def shBs : List Da → Bool
  | [] => true
  | d :: ds => shB d && shBs ds
end
theorem lt_big {n : Nat} (h : n.log2 < 12900) : n < 10 ^ 4300 := Nat.lt_of_lt_of_le (lt_of_log2 h) pow_lo
section
variable {prog : Program} {w : World} {h₀ : Heap}
mutual
theorem big1 (nd : h₀.NoDigits) : ∀ {v : Value} {d : Da} {as : List Addr}, Reads h₀ v d as → shB d = true → d.shown.length ≤ sizeLine → ∃ cs, ReadAtMost h₀ d.depth cs ∧ ReprK prog w cs h₀ d.depth v d.shown
  | _, _, _, .none, _, _ => ⟨[], nofun, by simp only [PyData.shown]; exact .of_is ReprIs.none [] h₀ _⟩
  | _, _, _, .bool c, _, _ => ⟨[], nofun, by simp only [PyData.shown]; exact .of_is (ReprIs.bool c) [] h₀ _⟩
  | _, _, _, .int i t, e, _ => ⟨[], nofun, by simp only [PyData.shown]; exact ReprK.intL t nd (lt_big (of_decide_eq_true (by simpa only [shB] using e))) [] _⟩
  | _, _, _, .str x t, _, z => ⟨[], nofun, by simp only [PyData.shown] at z ⊢; exact .of_is (ReprIs.str x t z) [] h₀ _⟩
  | _, _, _, .list (a := p) (vs := us) (xs := ds) k1 k2 k3 k4, e, z => by
    simp only [PyData.shown] at z
    obtain ⟨cs, m, k⟩ := bigs nd k4 (by simpa only [shB] using e) fun t ht => Nat.le_trans (listText_mem_le ht) z
    have rd : Reads h₀ (.ref p) (.list ds) _ := .list k1 k2 k3 k4
    have np : p ∉ cs := not_mem_of_deeper rd (by simp only [PyData.depth]; omega) m
    refine ⟨p :: cs, ReadAtMost.cons rd (by simp only [PyData.depth]; omega) m, ?_⟩
    simp only [PyData.shown, PyData.depth]
    rcases us with ⟨l⟩
    cases l with
    | nil =>
      have e0 : ReadsAll h₀ [] ds _ := k4
      cases e0
      simp only [PyData.shownAll, listText_nil]
      exact ReprK.listEmpty k1 k2 k3
    | cons y l => exact ReprK.list k1 k2 k3 np (by simpa using k.length_eq) fun i y ey => k.item i y (by simpa using ey)
  | _, _, _, .tuple (a := p) (xs := ds) k1 k2 k3 k4, e, z => by
    simp only [PyData.shown] at z
    obtain ⟨cs, m, k⟩ := bigs nd k4 (by simpa only [shB] using e) fun t ht => Nat.le_trans (tupleText_mem_le ht) z
    have rd : Reads h₀ (.ref p) (.tuple ds) _ := .tuple k1 k2 k3 k4
    have np : p ∉ cs := not_mem_of_deeper rd (by simp only [PyData.depth]; omega) m
    refine ⟨p :: cs, ReadAtMost.cons rd (by simp only [PyData.depth]; omega) m, ?_⟩
    simp only [PyData.shown, PyData.depth]
    exact ReprK.tuple k1 k2 k3 np k
  | _, _, _, .dict _ _ _ _ _, e, _ => by simp only [shB] at e; cases e
theorem bigs (nd : h₀.NoDigits) : ∀ {us : List Value} {ds : List Da} {as : List Addr}, ReadsAll h₀ us ds as → shBs ds = true → (∀ t ∈ PyData.shownAll ds, t.length ≤ sizeLine) →
    ∃ cs, ReadAtMost h₀ (PyData.depthAll ds) cs ∧ ReprAllK prog w cs h₀ (PyData.depthAll ds) us (PyData.shownAll ds)
  | _, _, _, .nil, _, _ => ⟨[], nofun, by simp only [PyData.shownAll]; exact .nil⟩
  | _, _, _, .cons (d := d) (ds := ds) r rs, e, z => by
    simp only [shBs, Bool.and_eq_true] at e
    simp only [PyData.shownAll, List.mem_cons] at z
    obtain ⟨c1, m1, k1⟩ := big1 nd r e.1 (z _ (.inl rfl))
    obtain ⟨c2, m2, k2⟩ := bigs nd rs e.2 fun t ht => z t (.inr ht)
    simp only [PyData.depthAll, PyData.shownAll]
    refine ⟨c1 ++ c2, (m1.mono (Nat.le_max_left ..)).append (m2.mono (Nat.le_max_right ..)), ?_⟩
    refine .cons ((k1.more ?_).level_le (Nat.le_max_left ..)) (k2.more_le ?_ (Nat.le_max_right ..))
    · exact fun b hb => List.mem_append.mpr (.inl hb)
    · exact fun b hb => List.mem_append.mpr (.inr hb)
end
variable {a : Addr} {d : Da} {as : List Addr} {A : Around} {E : Value → Shared → Prop} {s : Shared} {Q : Value → Shared → Prop}
theorem repr_of_readsL (nd : s.heap.NoDigits) (r : Reads s.heap (.ref a) d as) (hs : shB d = true) (hg : A.guards = some []) (hu : A.units + (d.depth + 1) < cLine)
    (hQ : ∀ h' u tk, (∀ b o, s.heap.get? b = some o → h'.get? b = some o) → Q (.str d.shown u) { s with heap := h', toks := tk })
    (z : d.shown.length ≤ sizeLine) : wpAny (model prog w) A (call (.builtin "repr") [.ref a]) Q E s := by
  cases r with
  | list k1 k2 k3 k4 =>
    rename_i o us n ds cs0
    have rd : Reads s.heap (.ref a) (.list ds) _ := .list k1 k2 k3 k4
    simp only [PyData.shown] at z hQ
    simp only [PyData.depth] at hu
    obtain ⟨cs, m, k⟩ := bigs (prog := prog) (w := w) nd k4 (by simpa only [shB] using hs) fun t ht => Nat.le_trans (listText_mem_le ht) z
    have np : a ∉ cs := not_mem_of_deeper rd (by simp only [PyData.depth]; omega) m
    refine call_repr_slot (by omega) (show s.TypeIs (.ref a) "list" from ⟨o, k1, k2⟩) F.slot_list_repr.toG ?_
    rcases us with ⟨l⟩
    cases l with
    | nil =>
      have e0 : ReadsAll s.heap [] ds _ := k4
      cases e0
      simp only [PyData.shownAll, listText_nil] at hQ
      exact call_list_repr_empty ⟨o, k1, k2⟩ k1 k3 ⟨_, _, rfl, hQ s.heap _ _ fun _ _ e => e⟩
    | cons y l =>
      exact call_list_reprK k1 k2 k3 np (by simpa using k.length_eq) (fun i y ey => k.item i y (by simpa using ey)) hg (fun b _ => Clear.nil b) (by show A.units + 1 + _ < _; omega) (fun _ _ e => e) (fun h' u tk hk => ⟨_, _, rfl, hQ h' u tk hk⟩) z
  | tuple k1 k2 k3 k4 =>
    rename_i o us n ds
    have rd : Reads s.heap (.ref a) (.tuple ds) _ := .tuple k1 k2 k3 k4
    simp only [PyData.shown] at z hQ
    simp only [PyData.depth] at hu
    obtain ⟨cs, m, k⟩ := bigs (prog := prog) (w := w) nd k4 (by simpa only [shB] using hs) fun t ht => Nat.le_trans (tupleText_mem_le ht) z
    have np : a ∉ cs := not_mem_of_deeper rd (by simp only [PyData.depth]; omega) m
    refine call_repr_slot (by omega) (show s.TypeIs (.ref a) "tuple" from ⟨o, k1, k2⟩) F.slot_tuple_repr ?_
    exact call_tuple_reprK k1 k2 k3 np k hg (fun b _ => Clear.nil b) (by show A.units + 1 + _ < _; omega) (fun _ _ e => e) (fun h' u tk hk => ⟨_, _, rfl, hQ h' u tk hk⟩) z
  | dict k1 k2 k3 k4 k5 => simp only [shB] at hs; cases hs
end
/-- the top says nothing of the limit on figures -/
def DigN (K : PySem.W.Frag) : Prop := PySem.W.nsOkIn K cStatics = true ∧ PySem.W.nsIn K cStatics "sys.int_max_str_digits" = some none
theorem digB_ok {K : PySem.W.Frag} (e : digB K = true) : DigN K := by
  unfold digB at e
  rw [Bool.and_eq_true] at e
  refine ⟨e.1, ?_⟩
  have e2 := e.2
  split at e2
  · assumption
  · cases e2
theorem DigN.heap {K : PySem.W.Frag} {h : Heap} (X : K.In h) (D : DigN K) : h.NoDigits := ⟨_, .of_isNs (PySem.W.isNs_of_in X D.1), PySem.W.nsMap_none_of_in X D.1 D.2⟩
variable {mg : Str → Option Value}
def rReprL (K : PySem.W.Frag) (xs : List V) (H : Hp) (Q : VK) : Prop := ∃ x d, xs = [x] ∧ Dp K H x d ∧ shB d = true ∧ d.depth ≤ 60 ∧ d.shown.length ≤ sizeLine ∧ Q (.str d.shown) H
theorem call_reprL {X : Cx} (D : DigN X.K) (hg : X.A.guards = some []) (hu : X.A.units + 64 < cLine) : CallR X (.builtin "repr") (rReprL X.K) := by
  intro pins s σ H xs us Q I r h
  obtain ⟨x, d, rfl, dp, sh, dd, sz, q⟩ := h
  have nd : s.heap.NoDigits := (D.heap I.mod.kin).keeps I.bk
  cases r with
  | cons r1 r2 =>
    cases r2
    obtain ⟨as, rd⟩ := Dp.reads I d x _ dp r1
    have big : ∀ a, Reads s.heap (.ref a) d as → wpAny (model X.prog X.w) X.A (call (.builtin "repr") [.ref a]) (EP X pins σ Q) X.xe s := fun a rd =>
      repr_of_readsL nd rd sh hg (by omega) (fun h' u tk hk => ⟨.str _, H, I.kept (t' := tk) hk, ⟨_, rfl⟩, q⟩) sz
    cases rd with
    | none => exact PySem.P.repr_of_none ⟨.str _, H, I.tok _, ⟨_, rfl⟩, q⟩
    | bool b => exact PySem.P.repr_of_bool ⟨.str _, H, I.tok _, ⟨_, rfl⟩, q⟩
    | int i t => exact repr_of_intL (by omega) nd (lt_big (of_decide_eq_true (by simpa only [shB] using sh))) ⟨.str _, H, I.tok _, ⟨_, rfl⟩, q⟩
    | str z t => exact PySem.P.repr_of_str ⟨.str _, H, I.tok _, ⟨_, rfl⟩, q⟩ sz
    | list a b c e => exact big _ (.list a b c e)
    | tuple a b c e => exact big _ (.tuple a b c e)
    | dict a b c e f => exact big _ (.dict a b c e f)
mutual
theorem shB_nd : ∀ d : Da, shB d = true → d.hasDict = false
  | .none, _ => by simp only [PyData.hasDict]
  | .bool _, _ => by simp only [PyData.hasDict]
  | .int _, _ => by simp only [PyData.hasDict]
  | .str _, _ => by simp only [PyData.hasDict]
  | .list ds, e => by
    simp only [PyData.hasDict]
    exact shBs_nd ds (by simpa only [shB] using e)
  | .tuple ds, e => by
    simp only [PyData.hasDict]
    exact shBs_nd ds (by simpa only [shB] using e)
  | .dict _, e => by simp only [shB] at e; cases e
theorem shBs_nd : ∀ ds : List Da, shBs ds = true → PyData.hasDictAll ds = false
  | [], _ => by simp only [PyData.hasDictAll]
  | d :: ds, e => by
    simp only [shBs, Bool.and_eq_true] at e
    simp only [PyData.hasDictAll, Bool.or_eq_false_iff]
    exact ⟨shB_nd d e.1, shBs_nd ds e.2⟩
end
def gReprL : GC := fun as h => match as with
  | [x] => match asD x h with
    | some d => if shB d && decide (d.depth ≤ 60) && fitB d.shown.length then some (.d (.str d.shown), h) else none
    | none => none
  | _ => none
theorem ok_reprL {K : PySem.W.Frag} : OkC K mg (rReprL K) gReprL := by
  intro φ h H xs as Q v h' sm rs e k
  unfold gReprL at e
  split at e
  · rename_i a
    obtain ⟨x, rfl, rx⟩ := rs.one
    split at e
    · rename_i d ed
      split at e
      · rename_i hc
        cases e
        rw [Bool.and_eq_true, Bool.and_eq_true] at hc
        obtain ⟨⟨h1, h3⟩, h4⟩ := hc
        exact ⟨x, d, rfl, asD_ok sm rx ed (shB_nd d h1), h1, of_decide_eq_true h3, fitB_le h4, k _ H φ (Step.refl _ _ _) sm (Rep.str _)⟩
      · cases e
    · cases e
  · cases e
/-- what can be told as a text, with sizes -/
structure ShW (k e : Nat) (d : Da) : Prop where
  s : shB d = true
  p : d.depth ≤ e
  l : d.shown.length ≤ k
structure ShWs (k e : Nat) (ds : List Da) : Prop where
  s : shBs ds = true
  d : PyData.depthAll ds ≤ e
  l : piled (PyData.shownAll ds) ≤ k
theorem ShW.mono {k e k' e' : Nat} {d : Da} (h : ShW k e d) (a : k ≤ k') (b : e ≤ e') : ShW k' e' d := ⟨h.s, Nat.le_trans h.p b, Nat.le_trans h.l a⟩
theorem ShW.str {x : Str} (hx : ∀ c ∈ x.cps.toList, c < 16 ^ 8) : ShW (10 * x.length + 2) 0 (.str x) := ⟨by simp only [shB], by simp [PyData.depth], by simp only [PyData.shown]; exact PySem.StrLaws.reprText_len x hx⟩
theorem ShW.int {i : Int} (h : i.natAbs.log2 < 12900) : ShW 4400 0 (.int i) := by
  refine ⟨by simp only [shB]; exact decide_eq_true h, by simp [PyData.depth], ?_⟩
  simp only [PyData.shown]
  have e := int_text_length_le10 (k := 4300) (by decide) (lt_big h)
  clear h
  rw [PySem.ofString_length]
  omega
theorem ShWs.nil : ShWs 0 0 [] := ⟨by simp only [shBs], by simp [PyData.depthAll], by simp [PyData.shownAll, piled]⟩
theorem ShWs.cons {k e k' e' : Nat} {d : Da} {ds : List Da} (h : ShW k e d) (t : ShWs k' e' ds) : ShWs (k + 2 + k') (max e e') (d :: ds) := by
  refine ⟨by simp only [shBs, h.s, t.s, Bool.and_self], ?_, ?_⟩
  · have := h.p
    have := t.d
    simp only [PyData.depthAll]
    omega
  · have := h.l
    have := t.l
    simp only [PyData.shownAll]
    rw [piled_cons]
    omega
theorem ShWs.of {k e n : Nat} {ds : List Da} (h : ∀ d ∈ ds, ShW k e d) (hl : ds.length ≤ n) : ShWs (n * (k + 2)) e ds := by
  induction ds generalizing n with
  | nil => exact ⟨ShWs.nil.s, Nat.le_trans ShWs.nil.d (Nat.zero_le _), Nat.le_trans ShWs.nil.l (Nat.zero_le _)⟩
  | cons d ds ih =>
    cases n with
    | zero => simp at hl
    | succ n =>
      have a := ih (n := n) (fun x hx => h x (List.mem_cons_of_mem _ hx)) (by simpa using hl)
      have b := ShWs.cons (h d (List.mem_cons_self ..)) a
      rw [Nat.max_self] at b
      refine ⟨b.s, b.d, Nat.le_trans b.l ?_⟩
      rw [Nat.succ_mul]
      omega
theorem ShW.tup {k e : Nat} {ds : List Da} (t : ShWs k e ds) : ShW (k + 3) (e + 1) (.tuple ds) := by
  refine ⟨by simp only [shB]; exact t.s, by simp only [PyData.depth]; have := t.d; omega, ?_⟩
  simp only [PyData.shown]
  have hl := t.l
  unfold tupleText
  have j : (Str.join ", " (PyData.shownAll ds)).length ≤ piled (PyData.shownAll ds) := by
    by_cases z : PyData.shownAll ds = []
    · rw [z]; decide
    · have := join_length_add _ z
      omega
  rw [Str.length_append, Str.length_append]
  have a : (Str.ofString "(").length = 1 := by decide
  have b : (Str.ofString (if (PyData.shownAll ds).length == 1 then ",)" else ")")).length ≤ 2 := by split <;> decide
  have a' : ("(" : Str).length = 1 := a
  omega
theorem ShW.lst {k e : Nat} {ds : List Da} (t : ShWs k e ds) : ShW (k + 3) (e + 1) (.list ds) := by
  refine ⟨by simp only [shB]; exact t.s, by simp only [PyData.depth]; have := t.d; omega, ?_⟩
  simp only [PyData.shown]
  have hl := t.l
  unfold listText
  have j : (textFrom 0 "[" (PyData.shownAll ds)).length ≤ 1 + piled (PyData.shownAll ds) := by
    cases e : PyData.shownAll ds with
    | nil => decide
    | cons x xs =>
      have h1 := textFrom_length_pos xs 1 (("[" : Str) ++ ("" : Str) ++ x) (by decide)
      have h2 : textFrom 0 "[" (x :: xs) = textFrom 1 (("[" : Str) ++ ("" : Str) ++ x) xs := rfl
      rw [h2, h1, piled_cons, Str.length_append, Str.length_append]
      have a1 : ("[" : Str).length = 1 := by decide
      have a2 : ("" : Str).length = 0 := by decide
      omega
  rw [Str.length_append]
  have b : ("]" : Str).length = 1 := by decide
  omega
theorem log2_of {n k : Nat} (h : n < 2 ^ k) (hk : 0 < k) : n.log2 < k := by
  rcases Nat.eq_zero_or_pos n with z | z
  · rw [z]
    exact hk
  · exact (Nat.log2_lt (Nat.ne_of_gt z)).mpr h
theorem p600 : 10 ^ 600 < 2 ^ 2000 := by decide +kernel
theorem ShW.Q {r : Rat} (h1 : r.num.natAbs ≤ 10 ^ 600) (h2 : r.den ≤ 10 ^ 600) : ShW 9000 1 (Rk.Q r) := by
  have l : ∀ n : Nat, n ≤ 10 ^ 600 → n.log2 < 12900 := fun n h => log2_of (Nat.lt_of_le_of_lt h (Nat.lt_trans p600 (Nat.pow_lt_pow_right (by decide) (by decide)))) (by decide)
  have t := ShW.tup (ShWs.cons (ShW.int (i := r.num) (l _ h1)) (ShWs.cons (ShW.int (i := (r.den : Int)) (l _ (by rw [Int.natAbs_natCast]; exact h2))) ShWs.nil))
  exact t.mono (by decide) (by decide)
theorem wo_reprL {Q : Vl → Hh → Prop} {h : Hh} {d : Da} {k e : Nat} (s : ShW k e d) (h1 : k ≤ 16777216) (h2 : e ≤ 60) (q : Q (.d (.str d.shown)) h) : Wo (gReprL [.d d] h) Q :=
  wo_eq (v := .d (.str d.shown)) (h' := h) (by
    unfold gReprL asD
    dsimp only
    rw [s.s, decide_eq_true (Nat.le_trans s.p h2), fitB_ok (Nat.le_trans s.l h1)]
    rfl) q
section
variable {Q : Vl → Hh → Prop} {h : Hh} {n : Nat} {ds : List Da}
end
end Rk

/-! Rk84: y(lambda: body, b, ..): a deed handed on with more things. -/
namespace Rk
open PySem PySem.Spec L2
noncomputable def eLam2 (n np : Nat) (x : Str) (m : Deed → Fn) (fb : Ev) (as : Av) : Ev := fun ρ h => if hasTab n x h = true then
    (as ρ h).bind fun vs h1 => if vs.length = np then lamO fun f c σ => m ⟨⟨f, c, x ++ ".<locals>." ++ "<lambda>", σ, capE ρ⟩, fun h' => fb (upE (capE ρ)) h'⟩ (.f ⟨f, c, x ++ ".<locals>." ++ "<lambda>", σ, capE ρ⟩ :: vs) h1 else .no
  else .no
section
variable {X : Cx} {W : WX} {x y : Str} {c pt : Addr} {k j : Nat} {m : Deed → Fn} {params : Arguments} {body b : Expr} {bs : List Expr} {as : Av} {scope : Scope} {fb : Ev} {p lpos pos : Pos} {ps : List Str} {a : Str}
end
section
variable {Q : Vl → Hh → Prop} {E : XP} {ρ ρ' : En} {h h0 h1 : Hh} {n np i : Nat} {x : Str} {m : Deed → Fn} {fb : Ev} {as : Av} {v0 : Vl} {vs : List Vl} {d : Deed}
end
end Rk

/-! Rk85: for a, b in zip(tuple, list). -/
namespace Rk
open PySem PySem.Spec PyProof.Rows L2
def ItzM (K : PySem.W.Frag) (a b : Addr) : It :=
  ⟨fun i H => ∃ (us ws : List V) (u w : V), SqT K H a us ∧ SqL K H b ws ∧ us[i]? = some u ∧ ws[i]? = some w,
   fun i H v H' => ∃ N u w, v = .ref N ∧ H N = none ∧ H' = upd H N (.tup [u, w]) ∧ (∀ us, SqT K H a us → us[i]? = some u) ∧ ∀ ws, SqL K H b ws → ws[i]? = some w,
   fun i H => ∃ us ws : List V, SqT K H a us ∧ SqL K H b ws ∧ (us.length ≤ i ∨ ws.length ≤ i)⟩
section
variable {prog : Program} {w : World} {A : Around}
end
def zmS (z q o i j a b : Addr) (n : Nat) (h : Heap) : Prop := IsZip h z q o .none ∧ IsTupOf2 h q (.ref i) (.ref j) ∧ (∃ u w, IsTupOf2 h o u w) ∧ h.IsTupleIter i a n ∧ h.IsListIter j b n
def tiZM (K : PySem.W.Frag) (ta : TA) : TI := fun σ H R => ta σ H fun vs H1 => ∃ a b us ws, vs = [.ref a, .ref b] ∧ SqT K H1 a us ∧ SqL K H1 b ws ∧ R (ItzM K a b) H1
def iZM (as : Av) : Iv := fun ρ h => (as ρ h).bind fun vs h1 => match vs with
  | [.d (.tuple xs), .d (.list ys)] => .ok ⟨zipD xs ys, none⟩ h1
  | _ => .no
section
variable {X : Cx} {W : WX} {pos p : Pos} {fs : Av}
end
end Rk

/-! Rk86: tuple(zip(list, list)) of two lists of one length. -/
namespace Rk
open PySem PySem.Spec PyProof.Rows L2
/-- the pairs of two rows, made one behind the other -/
inductive Prs (us ws : List V) (H : Hp) : List V → Hp → Prop
  | nil : Prs us ws H [] H
  | snoc {ts : List V} {H' : Hp} {T : Addr} {u w : V} : Prs us ws H ts H' → us[ts.length]? = some u → ws[ts.length]? = some w → H' T = none → Prs us ws H (ts ++ [.ref T]) (upd H' T (.tup [u, w]))
def zcS (z q o i j a b : Addr) (xs ys : Array Value) (B n : Nat) (h : Heap) : Prop :=
  IsPair h q (.ref i) (.ref j) ∧ h.IsListIter i a n ∧ h.IsListIter j b n ∧ h.IsList a xs ∧ h.IsList b ys ∧ ((IsZip h z q o .none ∧ ∃ u w, IsPair h o u w) ∨ ∃ (T : Addr) (f : Bool) (ob : Obj), IsZipHeld h z q o T f ∧ h.get? T = some ob ∧ B ≤ T)
section
variable {prog : Program} {w : World} {A : Around} {E : Value → Shared → Prop} {s : Shared} {z q o i j a b : Addr} {xs ys : Array Value} {B n : Nat}
end
/-- a list in the making -/
abbrev mkL (acc : Array Value) (c : Nat) : Obj := { cls := .type "list", dict := none, data := .seq acc c, slots := #[] }
section
variable {X : Cx} {pins : List (Addr × Obj)} {σ : L2.St} {A : Around} {z q o i j a b S : Addr} {xs ys : Array Value} {us ws : List V} {H0 : Hp} {R : Result → Shared → Prop} {res : Value}
theorem FpOk.upd {H : Hp} {c T : Addr} {ob : HO} (f : FpOk X pins H c) (n : c ≠ T) : FpOk X pins (upd H T ob) c := ⟨by rw [upd_ne n]; exact f.1, f.2⟩
/-- the zip as it was made, the state around it -/
structure ZcAt (X : Cx) (pins : List (Addr × Obj)) (σ : L2.St) (z q o i j a b : Addr) (xs ys : Array Value) (us ws : List V) (H : Hp) (s : Shared) : Prop where
  D : ZipApart z q o i j a b
  inv : Inv X pins σ H s
  z0 : IsZip s.heap z q o .none
  q0 : IsPair s.heap q (.ref i) (.ref j)
  o0 : ∃ u w, IsPair s.heap o u w
  i0 : s.heap.IsListIter i a 0
  j0 : s.heap.IsListIter j b 0
  a0 : s.heap.IsList a xs
  b0 : s.heap.IsList b ys
  fp : ∀ c ∈ [z, o, i, j], FpOk X pins H c
  eq : xs.size = ys.size
  hn : xs.size ≤ sizeLine
  ra : Vals us xs.toList
  rb : Vals ws ys.toList
end
def tTZ (K : PySem.W.Frag) (ta : TA) : TE := fun σ H Q => ta σ H fun vs H1 => ∃ (a b : Addr) (us ws : List V), vs = [.ref a, .ref b] ∧ SqL K H1 a us ∧ SqL K H1 b ws ∧ us.length = ws.length ∧ ∀ ts H2 p o, Prs us ws H1 ts H2 → ts.length = us.length → H2 p = none → o.dict = none → Q (.ref p) (upd H2 p (.frz o (.tup ts)))
end Rk

/-! Rk87: tuple(zip(xs, ys)) of two lists of one length, as data. -/
namespace Rk
open PySem PySem.Spec PyProof.Rows L2
def gTZ : GC := fun vs h => match vs with
  | [x, y] => match asL x h, asL y h with
    | some xs, some ys => if xs.length = ys.length then some (.d (ptD (zipD xs ys)), h) else none
    | _, _ => none
  | _ => none
section
variable {K : PySem.W.Frag} {φ : List Addr} {h : Hh} {H H' : Hp} {us ws ts : List V} {xs ys : List Da}
end
/-- a plain tuple as a tuple -/
def unp : Vl → Option Vl
  | .d (.dict [(.none, .tuple ds)]) => some (.d (.tuple ds))
  | _ => none
def eUnp (f : Ev) : Ev := fun ρ h => (f ρ h).bind fun v h1 => ofO ((unp v).map fun u => (u, h1))
section
variable {X : Cx} {W : WX} {e e2 : Expr} {fs : Av} {p p2 q pos : Pos}
end
section
variable {Q : Vl → Hh → Prop} {h : Hh} {xs ys : List Da}
end
end Rk

/-! Rk88: for a, b in zip(x, y): two lists, two tuples, or a tuple and a list. -/
namespace Rk
open PySem PySem.Spec PyProof.Rows L2
def mixB : List Vl → Bool
  | [.d (.tuple _), .d (.list _)] => true
  | _ => false
def pickZ : Out (List Vl) → Bool
  | .ok vs _ => mixB vs
  | _ => false
def iZip4 (as : Av) : Iv := fun ρ h => if pickZ (as ρ h) = true then iZM as ρ h else iZip as ρ h
section
variable {X : Cx} {W : WX} {pos p : Pos} {fs : Av}
theorem PI.or {tg e : Expr} {t u : TI} (h : PI X tg e t) (k : PI X tg e u) : PI X tg e (fun σ H R => t σ H R ∨ u σ H R) :=
  ⟨fun pins s σ H Q I w => w.elim (h.run pins s σ H Q I) (k.run pins s σ H Q I)⟩
end
end Rk

/-! Rk89: defs of the top as values: kept in dicts and lists, called from there. -/
namespace Rk
open PySem PySem.Spec PyProof.Rows L2
theorem gfn_ok {K : PySem.W.Frag} {mg : Str → Option Value} {x : Str} (g : mg x = some (.ref (He.ga K x))) : GConst K mg x (fnD x) := ⟨.ref _, _, g, rfl, fun _ _ => .fn x⟩
def seekF : List (Str × Fn) → Str → Option Fn
  | [], _ => none
  | (k, m) :: r, x => if x = k then some m else seekF r x
def lookF (tbl : List (Str × Fn)) : Vl → Option Fn
  | .d (.dict [(.none, .str x)]) => seekF tbl x
  | _ => none
def eCallF (tbl : List (Str × Fn)) (fe : Ev) (as : Av) : Ev := fun ρ h => (fe ρ h).bind fun v h1 => match lookF tbl v with
  | some m => (as ρ h1).bind fun vs h2 => m vs h2
  | none => .no
theorem fn_ref {K : PySem.W.Frag} {H : Hp} {M : Addr → Prop} {v : V} {x : Str} (r : Rep K H M v (.dict [(.none, .str x)])) : v = .ref (He.ga K x) := by
  generalize e : (.dict [(.none, .str x)] : Da) = d at r
  cases r with
  | fn y => cases e; rfl
  | plt _ _ _ _ => cases e
  | dct0 _ _ => cases e
  | @dct a kvs ds kds h n ne r e2 =>
    exfalso
    cases e
    cases kvs with
    | nil => exact ne rfl
    | cons p t =>
      cases r with
      | cons r1 r2 =>
        obtain ⟨k, u⟩ := p
        rw [List.map_cons, List.zip_cons_cons, List.map_cons] at e2
        have := (List.cons.inj e2).1
        have := congrArg Prod.fst this
        cases k with
        | inl i => cases this
        | inr y => cases this
  | _ => cases e
/-- the defs that may be called so -/
structure CalF (X : Cx) (j : Nat) (tbl : List (Str × Fn)) : Prop where
  at_ : ∀ (x : Str) (m : Fn), seekF tbl x = some m → ∃ (k : Nat) (ps : List Str), k ≤ j ∧ X.mg x = some (.ref (He.ga X.K x)) ∧ Df X.prog X.w X.K X.mg X.base k x ps m
theorem cf_nil {X : Cx} {j : Nat} : CalF X j [] := ⟨fun _ _ e => by cases e⟩
theorem gc_fn {K : PySem.W.Frag} {mg : Str → Option Value} {x : Str} (c : GConst K mg x (fnD x)) : mg x = some (.ref (He.ga K x)) := by
  obtain ⟨v, u, g, r, k⟩ := c
  have e := fn_ref (k (fun _ => none) fun _ => False)
  subst e
  rw [g, show u = .ref (He.ga K x) from r]
theorem cf_cons {X : Cx} {j k : Nat} {x : Str} {m : Fn} {ps : List Str} {tbl : List (Str × Fn)} (g : GConst X.K X.mg x (fnD x)) (D : Df X.prog X.w X.K X.mg X.base k x ps m) (C : CalF X j tbl) (hk : k ≤ j := by decide) : CalF X j ((x, m) :: tbl) :=
  ⟨fun y m' e => by
    unfold seekF at e
    split at e
    · rename_i h
      subst h
      cases e
      exact ⟨k, ps, hk, gc_fn g, D⟩
    · exact C.at_ y m' e⟩
section
variable {X : Cx} {W : WX} {j : Nat} {tbl : List (Str × Fn)} {fe e : Expr} {es : List Expr} {ff : Ev} {fs : Av} {pos : Pos}
theorem ee_callF (C : CalF X j tbl) (hr : RoomG j X.A) (tk : Takes X W) (hf : EE X W fe ff) (ha : EA X W (e :: es) fs)
    (hc : eval (fe.Call (e :: es) [] pos) X.env = (do let f ← eval fe X.env; callWith pos f [] (backTo pos (starEach (e :: es) X.env)) (backToKw pos (keywordEach [] X.env))) := by rfl)
    (he : starEach (e :: es) X.env = (false, eval e X.env) :: starEach es X.env := by rfl) (hpl : (backTo pos (starEach es X.env)).any (·.1) = false := by rfl) :
    EE X W (.Call fe (e :: es) [] pos) (eCallF tbl ff fs) := by
  constructor
  rintro pins s σ H Q I ⟨φ, h, ρ, sm, er, q⟩
  refine Call_ (thn (hf.run pins s σ H (fun y H1 => ∃ φ1 h1 v, Sim X.K φ1 h1 H1 ∧ ERep X.K X.mg φ1 h1 H1 σ ρ ∧ VRep X.K X.mg φ1 h1 H1 y v ∧ PoX X.K X.mg φ1 h1 H1 (match lookF tbl v with
    | some m => (fs ρ h1).bind fun vs h2 => m vs h2
    | none => .no) Q (WE W σ)) I ⟨φ, h, ρ, sm, er, PoX.goE q fun x v h1 H1 φ1 st sm1 rv q1 => ⟨φ1, h1, v, sm1, er.step st, rv, q1⟩⟩) ?_) hc
  rintro u s1 ⟨y, H1, I1, ry, φ1, h1, v, sm1, er1, rv, q1⟩
  cases em : lookF tbl v with
  | none => rw [em] at q1; exact q1.elim
  | some m =>
    rw [em] at q1
    dsimp only at q1
    unfold lookF at em
    split at em
    · rename_i x
      obtain ⟨k, ps, hk, g0, f, fd, g, kp, b, F⟩ := C.at_ x m em
      have e0 := fn_ref (show Rep X.K H1 (Live φ1 h1) y _ from rv)
      subst e0
      rw [g0] at g
      cases g
      cases ry
      refine PySem.W.callWith_K (h₀ := X.base) I.ok.mod.kin kp (thn (ha.run pos pins s1 σ H1 (fun xs H2 => ∃ φ2 h2 vs, Sim X.K φ2 h2 H2 ∧ VReps X.K X.mg φ2 h2 H2 xs vs ∧ PoX X.K X.mg φ2 h2 H2 (m vs h2) Q (WE W σ)) I1 ⟨φ1, h1, ρ, sm1, er1, PoX.goA q1 fun xs vs h2 H2 φ2 st2 sm2 rvs q2 => ⟨φ2, h2, vs, sm2, rvs, q2⟩⟩) ?_) he hpl
      rintro us s2 ⟨vs, H2, I2, r, q2⟩
      obtain ⟨φ2, h2, ws, sm2, rvs, q2⟩ := q2
      exact ⟨I2.kIn, run_G (E := fun σ => WE W σ) F (hr.mono hk) b (passAt tk σ) I2 r ⟨φ2, h2, ws, sm2, rvs, q2⟩⟩
    · cases em
end
section
variable {Q : Vl → Hh → Prop} {E : XP} {ρ : En} {h : Hh} {tbl : List (Str × Fn)} {fe : Ev} {as : Av}
/-- which def is called -/
structure FnK (tbl : List (Str × Fn)) (v : Vl) (P : Fn → Prop) : Prop where
  w : ∃ m, lookF tbl v = some m ∧ P m
theorem wp_callF (w : Wp (fe ρ h) (fun v h1 => FnK tbl v fun m => Wp (as ρ h1) (fun vs h2 => Wp (m vs h2) Q E) E) E) : Wp (eCallF tbl fe as ρ h) Q E :=
  wp_bind (w.mono (fun v h1 ⟨m, e, w⟩ => by
    rw [e]
    exact wp_bind w) fun _ _ _ z => z)
theorem fnk {x : Str} {m : Fn} {P : Fn → Prop} (e : seekF tbl x = some m) (q : P m) : FnK tbl (.d (fnD x)) P := ⟨m, e, q⟩
end
end Rk

/-! Rk90: dict(ps), ps a plain tuple of pairs. -/
namespace Rk
open PySem PySem.Spec PyProof.Rows L2
variable {mg : Str → Option Value}
def rDT (K : PySem.W.Frag) : List V → Hp → VK → Prop := fun xs H Q => ∃ (a : Addr) (o : Obj) (ps : List Addr) (kvs : List (Key × V)), xs = [.ref a] ∧ H a = some (.frz o (.tup (ps.map V.ref))) ∧ o.dict = none ∧ Paired (fun p kv => SqT K H p [kV kv.1, kv.2]) ps kvs ∧
    ∀ p, H p = none → Q (.ref p) (upd H p (.dK (mergeK [] kvs)))
def gDT : GC := fun vs h => match vs with
  | [.d (.dict [(.none, .tuple ds)])] => match pairsD ds with
    | some kds => some (.r h.length, h ++ [some (.dct (kds.foldl (fun acc kv => putD acc kv.1 kv.2) []))])
    | none => none
  | _ => none
def tTupZ (t : TA) : TE := fun σ H Q => t σ H fun xs H1 => xs.length ≤ sizeLine ∧ ∀ (p : Addr) (o : Obj), H1 p = none → o.dict = none → Q (.ref p) (upd H1 p (.frz o (.tup xs)))
def eTupZ (as : Av) : Ev := fun ρ h => (as ρ h).bind fun vs h1 => match fzs vs h1 with
  | some (ds, h2) => if fitB ds.length = true then .ok (.d (ptD ds)) h2 else .no
  | none => .no
structure TupZK (vs : List Vl) (h : Hh) (Q : Vl → Hh → Prop) : Prop where
  w : TupK vs h fun v h1 => ∃ ds, v = .d (.tuple ds) ∧ Q (.d (ptD ds)) h1
end Rk

/-! Rk91: a list turned round, a list cut at a number. -/
namespace Rk
open PySem PySem.Spec L2
theorem fm_range {α : Type} (xs : List α) : ∀ k, k ≤ xs.length → (List.range k).filterMap (xs[·]?) = xs.take k := by
  intro k
  induction k with
  | zero => intro _; rfl
  | succ k ih =>
    intro hk
    rw [List.range_succ, List.filterMap_append, ih (by omega), List.take_succ, List.getElem?_eq_getElem (by omega : k < xs.length)]
    simp [List.getElem?_eq_getElem (by omega : k < xs.length)]
theorem pickG_rev {α : Type} (xs : List α) : pickG xs none none (some (-1)) = xs.reverse := by
  have e : sliceRange (sliceBounds none none (some (-1)) xs.length).1 (sliceBounds none none (some (-1)) xs.length).2.1 (sliceBounds none none (some (-1)) xs.length).2.2 = (List.range xs.length).reverse := by
    show sliceRange ((xs.length : Int) - 1) (-1) (-1) = _
    unfold sliceRange
    have c : (if (-1 : Int) > 0 then (if (xs.length : Int) - 1 < -1 then (-1 - ((xs.length : Int) - 1) + -1 - 1) / -1 else 0) else (if (xs.length : Int) - 1 > -1 then ((xs.length : Int) - 1 - -1 - -1 - 1) / -(-1) else 0)) = (xs.length : Int) := by
      rw [if_neg (by decide)]
      split
      · rw [show -(-1 : Int) = 1 from rfl, Int.ediv_one]; omega
      · omega
    dsimp only
    rw [c, Int.toNat_natCast]
    apply List.ext_getElem
    · simp
    · intro i h1 h2
      simp only [List.length_map, List.length_range] at h1
      simp
      omega
  unfold pickG
  rw [e, List.filterMap_reverse, fm_range xs xs.length (Nat.le_refl _), List.take_length]
section
variable {h : Hh} {Q : Vl → Hh → Prop} {xs : List Da}
theorem wo_rvL (hl : xs.length ≤ 16777216) (q : Q (.r h.length) (h ++ [some (.lst xs.reverse)])) : Wo (gRv (.d (.list xs)) h) Q := by
  refine wo_stL (by decide) ?_ ?_
  · rw [pickG_rev, List.length_reverse]; exact hl
  · rw [pickG_rev]; exact q
end
end Rk

/-! Rk92: x == () of any tuple. -/
namespace Rk
open PySem PySem.Spec PyProof.Rows L2
variable {mg : Str → Option Value}
def rEqE (K : PySem.W.Frag) : R2 := fun x y H Q => ∃ a b us, x = .ref a ∧ y = .ref b ∧ SqT K H a us ∧ SqT K H b [] ∧ Q (.bl us.isEmpty) H
def gEqE : G2 := fun x y h => match x, y with
  | .d (.tuple ds), .d (.tuple []) => some (.d (.bool ds.isEmpty), h)
  | x, y => gEq x y h
end Rk

/-! Rk93: lists of objects: made by append, walked. -/
namespace Rk
open PySem PySem.Spec PyProof.Rows L2
variable {mg : Str → Option Value}
section
variable {K : PySem.W.Frag} {φ : List Addr} {h : Hh} {H : Hp} {a : Addr} {m : Nat} {o : Ob} {ys : List V} {ns : List Nat} {as : List Addr}
/-- a list that lives becomes a list of objects, by a new number -/
theorem Sim.putR (s : Sim K φ h H) (e : h[m]? = some (some o)) (ea : φ[m]? = some a) (el : as.length = ns.length) (er : ∀ (k n : Nat), ns[k]? = some n → n < h.length ∧ φ[n]? = as[k]?) :
    Step φ h H (φ ++ [a]) (h.set m none ++ [some (.rl ns)]) (upd H a (.lst (as.map V.ref))) ∧ Sim K (φ ++ [a]) (h.set m none ++ [some (.rl ns)]) (upd H a (.lst (as.map V.ref))) := by
  have la : Live φ h a := ⟨m, o, ea, e⟩
  have hl := (List.getElem?_eq_some_iff.mp e).1
  have ls : φ.length = (h.set m none).length := by rw [List.length_set]; exact s.len
  have old : ∀ (i : Nat) (v : Ob), (h.set m none)[i]? = some (some v) → h[i]? = some (some v) ∧ m ≠ i := fun i v e2 => by
    by_cases hi : m = i
    · subst hi; rw [List.getElem?_set_self hl] at e2; cases e2
    · rw [List.getElem?_set_ne hi] at e2; exact ⟨e2, hi⟩
  have less : ∀ b, Live (φ ++ [a]) (h.set m none ++ [some (.rl ns)]) b → Live φ h b := fun b l => by
    rcases (live_new ls).mp l with ⟨i, v, e1, e2⟩ | rfl
    · exact ⟨i, v, e1, (old i v e2).1⟩
    · exact la
  have st : Stay H (Live φ h) (upd H a (.lst (as.map V.ref))) (Live (φ ++ [a]) (h.set m none ++ [some (.rl ns)])) := fun b v q _ nb => ⟨by rw [upd_ne (fun z => nb (by rw [z]; exact la))]; exact q, fun l => nb (less b l)⟩
  have hgt : ∀ (i : Nat) (b : Addr) (u : Ob), (φ ++ [a])[i]? = some b → (h.set m none ++ [some (Ob.rl ns)])[i]? = some (some u) → (i < φ.length ∧ φ[i]? = some b ∧ h[i]? = some (some u) ∧ m ≠ i) ∨ (i = φ.length ∧ b = a ∧ u = .rl ns) := fun i b u e1 e2 => by
    by_cases hi : i < φ.length
    · rw [List.getElem?_append_left hi] at e1
      rw [List.getElem?_append_left (by rw [← ls]; exact hi)] at e2
      exact .inl ⟨hi, e1, (old i u e2).1, (old i u e2).2⟩
    · have hz : i = φ.length := by
        have := (List.getElem?_eq_some_iff.mp e1).1
        simp at this
        omega
      subst hz
      rw [List.getElem?_append_right (by omega)] at e1
      rw [ls, List.getElem?_append_right (by omega)] at e2
      simp at e1 e2
      exact .inr ⟨rfl, e1.symm, e2.symm⟩
  have ne : ∀ (i : Nat) (b : Addr) (u : Ob), φ[i]? = some b → h[i]? = some (some u) → m ≠ i → b ≠ a := fun i b u e1 e2 n z => n (s.inj m i a o u ea (z ▸ e1) e e2)
  refine ⟨⟨List.prefix_append φ [a], st⟩, ⟨by simp [s.len], fun i j b u u' e1 e2 e3 e4 => ?_, fun i u e2 => ?_, fun i ks e2 => ?_⟩⟩
  · rcases hgt i b u e1 e3 with ⟨h1, h2, h3, h4⟩ | ⟨h1, h2, h3⟩ <;> rcases hgt j b u' e2 e4 with ⟨g1, g2, g3, g4⟩ | ⟨g1, g2, g3⟩
    · exact s.inj i j b u u' h2 g2 h3 g3
    · exact absurd g2 (ne i b u h2 h3 h4)
    · exact absurd h2 (ne j b u' g2 g3 g4)
    · omega
  · by_cases hi : i < φ.length
    · rw [List.getElem?_append_left (by rw [← ls]; exact hi)] at e2
      obtain ⟨e3, n⟩ := old i u e2
      obtain ⟨b, e4, q⟩ := s.ob i u e3
      refine ⟨b, by rw [List.getElem?_append_left hi]; exact e4, q.stay st (fun w hw => ?_) fun _ _ z => s.notCode z⟩
      rw [upd_ne (ne i b u e4 e3 n)]
      exact hw
    · have hz : i = φ.length := by
        have := (List.getElem?_eq_some_iff.mp e2).1
        rw [List.length_append, ← ls] at this
        simp at this
        omega
      subst hz
      rw [ls, List.getElem?_append_right (by omega)] at e2
      simp at e2
      subst e2
      exact ⟨a, by simp, _, upd_same⟩
  · by_cases hi : i < φ.length
    · rw [List.getElem?_append_left (by rw [← ls]; exact hi)] at e2
      obtain ⟨e3, n⟩ := old i _ e2
      obtain ⟨b, bs, f1, f2, f3, f4⟩ := s.rf i ks e3
      refine ⟨b, bs, by rw [List.getElem?_append_left hi]; exact f1, ?_, f3, fun k n0 z => ?_⟩
      · rw [upd_ne (ne i b _ f1 e3 n)]
        exact f2
      · obtain ⟨z1, z2⟩ := f4 k n0 z
        exact ⟨z1, by rw [List.getElem?_append_left (by omega)]; exact z2⟩
    · have hz : i = φ.length := by
        have := (List.getElem?_eq_some_iff.mp e2).1
        rw [List.length_append, ← ls] at this
        simp at this
        omega
      subst hz
      rw [ls, List.getElem?_append_right (by omega)] at e2
      simp at e2
      subst e2
      refine ⟨a, as, by simp, upd_same, el, fun k n0 z => ?_⟩
      obtain ⟨z1, z2⟩ := er k n0 z
      have := s.len
      exact ⟨by omega, by rw [List.getElem?_append_left (by omega)]; exact z2⟩
end
/-! ### append of an object to a list of objects -/
def lstR : Option (Option Ob) → Option (List Nat)
  | some (some (.lst [])) => some []
  | some (some (.rl ns)) => some ns
  | _ => none
theorem lstR_at {K : PySem.W.Frag} {φ : List Addr} {h : Hh} {H : Hp} {a : Addr} {m : Nat} {ns : List Nat} (sm : Sim K φ h H) (e : lstR h[m]? = some ns) (ea : φ[m]? = some a) :
    ∃ (o : Ob) (as : List Addr), h[m]? = some (some o) ∧ H a = some (.lst (as.map V.ref)) ∧ as.length = ns.length ∧ ∀ (k n : Nat), ns[k]? = some n → n < h.length ∧ φ[n]? = as[k]? := by
  unfold lstR at e
  split at e
  · rename_i q
    cases e
    obtain ⟨b, e1, xs, e2, r⟩ := sm.ob m _ q
    rw [ea] at e1
    cases e1
    cases r
    exact ⟨_, [], q, e2, rfl, fun k n z => by cases z⟩
  · rename_i q
    cases e
    obtain ⟨b, as, e1, e2, e3, e4⟩ := sm.rf m _ q
    rw [ea] at e1
    cases e1
    have hl := (List.getElem?_eq_some_iff.mp q).1
    exact ⟨_, as, q, e2, e3, fun k n z => ⟨by have := (e4 k n z).1; omega, (e4 k n z).2⟩⟩
  · cases e
def sApR (i : Nat) (f : Ev) : Sv := fun ρ h => match ρ[i]? with
  | some (some (.r m)) => if (lstR h[m]?).isSome = true then Out.then ρ (f ρ h) fun v h1 => match v with
      | .r d => match lstR h1[m]? with
        | some ns => if ns.length < 1000 then .nx (ρ.set i (some (.r h1.length))) (h1.set m none ++ [some (.rl (ns ++ [d]))]) else .no
        | none => .no
      | _ => .no
    else .no
  | _ => .no
section
variable {X : Cx} {W : WX} {o e : Expr} {f : Ev} {i : Nat} {apos cpos pos : Pos}
theorem es_appR (ho : EE X W o (eVar i)) (ha : EE X W e f)
    (hbase : attributeBase o "append" X.env (eval o X.env) = eval o X.env := by rfl)
    (hfew : ((backTo cpos (starEach [e] X.env)).all (fun x => !x.1) && (backToKw cpos (keywordEach [] X.env)).all (fun x => x.1.isSome)
      && decide ([e].length + ([] : List Keyword).length + (if ([] : List Keyword).isEmpty then 0 else 1) < 30)) = true := by rfl)
    (hline : (apos.endLine == cpos.line) = true := by rfl) (hs : starEach [e] X.env = (false, eval e X.env) :: starEach [] X.env := by rfl) (hplain : (backTo cpos (starEach [] X.env)).any (·.1) = false := by rfl)
    (hw : swapsWith (.Call (.Attribute o "append" apos) [e] [] cpos) none pos.line X.env = pure false := by rfl) :
    ES X W (.Expr (.Call (.Attribute o "append" apos) [e] [] cpos) pos) (sApR i f) :=
  PS.of (ps_expr (pe_bm PySem.F.plainAttrs_list PySem.F.slot_list_append PySem.F.type_list_append mt_append ho (ea_cons ha ea_nil (hs := hs)) hbase hfew hline hs hplain) hw) fun D σ H ⟨φ, h, ρ, sm, er, q⟩ => ⟨φ, h, ρ, sm, er, by
    unfold sApR at q
    split at q
    · rename_i m em
      split at q
      · rename_i hs0
        obtain ⟨ns0, e0⟩ := Option.isSome_iff_exists.mp hs0
        have ev : eVar i ρ h = .ok (.r m) h := by unfold eVar; rw [em]
        rw [ev]
        rintro x H1 φ1 st1 sm1 ⟨a, ea, rfl⟩
        obtain ⟨_, as0, _, g0, _⟩ := lstR_at sm1 e0 ea
        refine ⟨.inl ⟨rfl, _, .of g0⟩, φ1, h, ρ, sm1, er.step st1, ?_⟩
        have q1 := PoS.pull st1 q
        show PoA X.K X.mg φ1 h H1 ((f ρ h).bind fun v h1 => (Out.ok ([] : List Vl) h1).bind fun xs h2 => .ok (v :: xs) h2) _ _
        revert q1
        cases f ρ h with
        | no => exact fun q => q
        | ex c fs h1 => exact fun q1 cls dd H' φ' st sm' xr => q1 cls dd σ H' φ' st sm' ((er.step st1).step st) xr
        | ok v h1 =>
          intro q1 xs H2 φ2 st2 sm2 rvs
          obtain ⟨y, rfl, rv⟩ := rvs.one
          dsimp only [Out.then] at q1
          split at q1
          · rename_i d
            split at q1
            · rename_i ns en
              split at q1
              · rename_i hn
                obtain ⟨b, eb, rfl⟩ := rv
                have ea2 := pre_get st2.pre ea
                obtain ⟨o2, as, f1, f2, f3, f4⟩ := lstR_at sm2 en ea2
                have hd : d < h1.length := by rw [← sm2.len]; exact (List.getElem?_eq_some_iff.mp eb).1
                obtain ⟨s1, s2⟩ := sm2.putR (as := as ++ [b]) (ns := ns ++ [d]) f1 ea2 (by rw [List.length_append, List.length_append, f3]; rfl) fun k n z => by
                  by_cases hk : k < ns.length
                  · rw [List.getElem?_append_left hk] at z
                    rw [List.getElem?_append_left (by omega)]
                    exact f4 k n z
                  · rw [List.getElem?_append_right (by omega)] at z
                    rw [List.getElem?_append_right (by omega)]
                    have : k - ns.length = 0 := by
                      have := (List.getElem?_eq_some_iff.mp z).1
                      simp at this
                      omega
                    rw [this] at z
                    cases z
                    rw [show k - as.length = 0 by omega]
                    exact ⟨hd, eb⟩
                refine ⟨a, as.map V.ref, .ref b, rfl, rfl, f2, by rw [List.length_map, f3]; exact Nat.lt_of_lt_of_le hn (by decide), ?_⟩
                rw [← show (as ++ [b]).map V.ref = as.map V.ref ++ [V.ref b] by rw [List.map_append]; rfl]
                have er2 : ERep X.K X.mg (φ2 ++ [a]) (h1.set m none ++ [some (.rl (ns ++ [d]))]) (upd H2 a (.lst ((as ++ [b]).map V.ref))) σ (ρ.set i (some (.r h1.length))) := by
                  have er3 := ((er.step st1).step st2).step s1
                  refine ⟨by rw [List.length_set]; exact er3.len, fun j w z => ?_⟩
                  by_cases hj : i = j
                  · subst hj
                    have hi := (List.getElem?_eq_some_iff.mp em).1
                    rw [List.getElem?_set_self hi] at z
                    cases z
                    obtain ⟨x, ex, a', ea', rfl⟩ := er3.at_ i (.r m) em
                    have : a' = a := by
                      have := pre_get s1.pre ea2
                      rw [this] at ea'
                      exact (Option.some.inj ea').symm
                    subst this
                    exact ⟨_, ex, a', by rw [← sm2.len]; simp, rfl⟩
                  · rw [List.getElem?_set_ne hj] at z
                    exact er3.at_ j w z
                exact q1 σ _ _ (st2.trans s1) s2 er2
              · exact q1.elim
            · exact q1.elim
          · exact q1.elim
      · exact q.elim
    · exact q.elim⟩
end
end Rk

/-! Rk94: a list of objects walked; a def whose new objects all stay. -/
namespace Rk
open PySem PySem.Spec PyProof.Rows L2
variable {mg : Str → Option Value}
noncomputable def forR (g : Gv) (body : Sv) : List Nat → En → Hh → So
  | [], ρ, h => .nx ρ h
  | n :: ns, ρ, h => match g (.r n) ρ h with
      | none => .no
      | some p => match body p.1 p.2 with
        | .nx ρ' h' => forR g body ns ρ' h'
        | .ct ρ' h' => forR g body ns ρ' h'
        | .bk ρ' h' => .nx ρ' h'
        | r => r
noncomputable def sForR (f : Ev) (g : Gv) (body : Sv) : Sv := fun ρ h => Out.then ρ (f ρ h) fun v h1 => match v with
  | .r m => match h1[m]? with
    | some (some (.rl ns)) => forR g body ns ρ (h1.set m none)
    | _ => .no
  | _ => .no
section
variable {K : PySem.W.Frag} {W : WX} {D : Ends} {a : Addr} {as : List Addr} {g : Gv} {fb : Sv}
theorem forR_ok {ns : List Nat} {φ : List Addr} {h : Hh} {H : Hp} {σ : L2.St} {ρ : En} (sm : Sim K φ h H) (er : ERep K mg φ h H σ ρ) (hL : H a = some (.lst (as.map V.ref))) (nl : ¬ Live φ h a) (el : as.length = ns.length) (rf : ∀ (k n : Nat), ns[k]? = some n → φ[n]? = as[k]?)
    (q : PoS K mg φ h H (forR g fb ns ρ h) D W) : ∃ W' : Nat → Nat → L2.St → Hp → Prop, (∃ n, W' 0 n σ H) ∧ ∀ i n σ H, W' i n σ H →
      ((Itl K a).stop i H ∧ D.nx σ H) ∨ ((Itl K a).go i H ∧ ∃ N : L2.St → Hp → Prop, (∀ σ' H', N σ' H' → ∃ m', m' < n ∧ W' (i + 1) m' σ' H') ∧ ∀ x H', (Itl K a).yld i H x H' → tG K mg g x σ H' fun σ2 H2 => tS K mg W fb { D with nx := N, ct := N, bk := D.nx } σ2 H2) := by
  refine ⟨fun i n σ H => n = ns.length - i ∧ ∃ φ h ρ, Sim K φ h H ∧ ERep K mg φ h H σ ρ ∧ (H a = some (.lst (as.map V.ref)) ∧ ¬ Live φ h a ∧ ∀ (k n : Nat), ns[k]? = some n → φ[n]? = as[k]?) ∧ PoS K mg φ h H (forR g fb (ns.drop i) ρ h) D W, ⟨_, rfl, φ, h, ρ, sm, er, ⟨hL, nl, rf⟩, by rw [List.drop_zero]; exact q⟩, ?_⟩
  rintro i n σ H ⟨rfl, φ, h, ρ, sm, er, ⟨hL, nl, rf⟩, q⟩
  cases ed : ns.drop i with
  | nil =>
    rw [ed] at q
    unfold forR at q
    refine .inl ⟨⟨as.map V.ref, .of hL, ?_⟩, PoS.nxNow q sm er⟩
    rw [List.length_map, el]
    exact List.drop_eq_nil_iff.mp ed
  | cons d ds =>
    have hi : i < ns.length := by
      rcases Nat.lt_or_ge i ns.length with z | z
      · exact z
      · rw [List.drop_eq_nil_of_le z] at ed; cases ed
    have e1 : ns[i]? = some d := by
      have := List.getElem?_drop (xs := ns) (i := i) (j := 0)
      rw [ed] at this
      simpa using this.symm
    have e2 : ns.drop (i + 1) = ds := by
      have := List.drop_drop (i := 1) (j := i) (l := ns)
      rw [ed] at this
      simpa using this.symm
    obtain ⟨b, eb⟩ : ∃ b, as[i]? = some b := ⟨_, List.getElem?_eq_getElem (by omega)⟩
    have em : (as.map V.ref)[i]? = some (.ref b) := by rw [List.getElem?_map, eb]; rfl
    have keep : ∀ {φ' : List Addr} {h' : Hh} {H' : Hp}, Step φ h H φ' h' H' → H' a = some (.lst (as.map V.ref)) ∧ ¬ Live φ' h' a ∧ ∀ (k n : Nat), ns[k]? = some n → φ'[n]? = as[k]? := fun st => by
      obtain ⟨s1, s2⟩ := st.st a _ hL nofun nl
      refine ⟨s1, s2, fun k n z => ?_⟩
      have := rf k n z
      obtain ⟨c, ec⟩ : ∃ c, as[k]? = some c := ⟨_, List.getElem?_eq_getElem (by have := (List.getElem?_eq_some_iff.mp z).1; omega)⟩
      rw [ec] at this ⊢
      exact pre_get st.pre this
    rw [ed] at q
    unfold forR at q
    refine .inr ⟨⟨_, _, .of hL, em⟩, fun σ' H' => ∃ φ h ρ, Sim K φ h H' ∧ ERep K mg φ h H' σ' ρ ∧ (H' a = some (.lst (as.map V.ref)) ∧ ¬ Live φ h a ∧ ∀ (k n : Nat), ns[k]? = some n → φ[n]? = as[k]?) ∧ PoS K mg φ h H' (forR g fb ds ρ h) D W, fun σ' H' hN => ?_, fun x H' hy => ?_⟩
    · obtain ⟨φ', h', ρ', a1, a2, a3, a4⟩ := hN
      exact ⟨ns.length - (i + 1), by omega, rfl, φ', h', ρ', a1, a2, a3, by rw [e2]; exact a4⟩
    · obtain ⟨rfl, hx⟩ := hy
      have ex := hx _ (.of hL)
      rw [em] at ex
      cases ex
      have rv : VRep K mg φ h H' (.ref b) (.r d) := ⟨b, by rw [rf i d e1]; exact eb, rfl⟩
      cases eg : g (.r d) ρ h with
      | none => rw [eg] at q; exact q.elim
      | some p =>
        obtain ⟨ρ1, h1⟩ := p
        rw [eg] at q
        refine ⟨φ, h, ρ, .r d, ρ1, h1, sm, er, rv, eg, fun σ2 H2 φ2 st2 sm2 er2 => ⟨φ2, h1, ρ1, sm2, er2, ?_⟩⟩
        have q2 := PoS.pull st2 q
        dsimp only at q2
        revert q2
        cases fb ρ1 h1 with
        | nx ρ3 h3 => exact fun q2 σ3 H3 φ3 st3 sm3 er3 => ⟨φ3, h3, ρ3, sm3, er3, keep (st2.trans st3), PoS.pull st3 q2⟩
        | ct ρ3 h3 => exact fun q2 σ3 H3 φ3 st3 sm3 er3 => ⟨φ3, h3, ρ3, sm3, er3, keep (st2.trans st3), PoS.pull st3 q2⟩
        | bk ρ3 h3 => exact fun q2 => q2
        | rt v h3 => exact fun q2 => q2
        | ex c fs ρ3 h3 => exact fun q2 => q2
        | no => exact fun q2 => q2
end
section
variable {X : Cx} {W : WX} {tg e : Expr} {f : Ev} {g : Gv} {body : List Stmt} {fb : Sv} {pos : Pos}
theorem es_forR (hp : PassesOwn (model X.prog X.w) X.A X.env X.xe) (hc : X.calm = true) (he : EE X W e f) (hg : EG X tg g) (hb : ESs X W body fb) (hs : ∀ x, foldedSetIterable e X.env x = pure x := by intro _; rfl) : ES X W (.For tg e body [] pos) (sForR f g fb) :=
  PS.of (ps_for hp hc (pi_seq he) hg hb hs) fun D σ H ⟨φ, h, ρ, sm, er, q⟩ => ⟨φ, h, ρ, sm, er, by
    unfold sForR at q
    refine PoS.goE er q fun x v h1 H1 φ1 st sm1 er1 rv q1 => ?_
    split at q1
    · rename_i m
      split at q1
      · rename_i ns en
        obtain ⟨a, ea, rfl⟩ := rv
        obtain ⟨b, as, e1, e2, e3, e4⟩ := sm1.rf m ns en
        rw [ea] at e1
        cases e1
        obtain ⟨s1, s2, s3⟩ := sm1.freeze en ea
        exact ⟨a, rfl, .inl ⟨⟨_, .of e2⟩, forR_ok s2 (er1.step s1) e2 s3 e3 (fun k n z => (e4 k n z).2) (PoS.pull s1 q1)⟩⟩
      · exact q1.elim
    · exact q1.elim⟩
end
/-! ### a def whose new objects all stay -/
def mkFN (n N : Nat) (body : Sv) : Fn := fun vs h => if vs.length = n then (match body (enter N vs) h with
    | .rt v h' => .ok v h'
    | .nx _ h' => .ok (.d .none) h'
    | .ex c fs _ h' => .ex c fs h'
    | _ => .no) else .no
section
variable {P : Program} {w : World} {K : PySem.W.Frag} {base : Heap} {x : Str} {st : Stmt} {f : Addr} {fd : FuncData} {N ps : List Str} {k : Nat}
theorem spFN_len {vs : List V} {H : Hp} {Q : VK} {E : XK} {n N : Nat} {body : Sv} (h : spF K mg (mkFN n N body) vs H Q E) : vs.length = n := by
  obtain ⟨φ, h, as, sm, rv, q⟩ := h
  unfold mkFN at q
  split at q
  · rename_i hl
    rw [rv.length]
    exact hl
  · exact q.elim
theorem enter_bodyN {cdv : Value} {A : Around} {outer : List Env} {s : Shared} {H : Hp} {vs : List V} {Q : VK} {E : XK} {n : Nat} {body : Sv} (hE : ESs (cxOf (L2.CX P w) P w K mg base N x (defScope st) f cdv A outer s H E) (WOf E) (defBody st) body) (h : spF K mg (mkFN n N.length body) vs H Q E) :
    ∃ t, PSs (cxOf (L2.CX P w) P w K mg base N x (defScope st) f cdv A outer s H E) (defBody st) t ∧ t { nx := fun _ H' => Q .non H', rt := Q } (start N vs) H := by
  obtain ⟨φ, h, as, sm, rv, q⟩ := h
  refine ⟨_, hE, φ, h, enter N.length as, sm, enter_ok N rv, ?_⟩
  unfold mkFN at q
  split at q
  · revert q
    cases body (enter N.length as) h with
    | rt v h' => exact fun q => q
    | nx ρ' h' => exact fun q σ' H' φ' st sm' er => q .non H' φ' st sm' Rep.non
    | ex c fs ρ' h' => exact fun q cls dd σ' H' φ' st sm' er xr => q cls dd H' φ' st sm' xr
    | bk ρ' h' => exact fun q => q.elim
    | ct ρ' h' => exact fun q => q.elim
    | no => exact fun q => q.elim
  · exact q.elim
theorem dfN_of {kk NN : Nat} {body : Sv} (F : FnP K x st f fd) (g : mg x = some (.ref f)) (S : FnScope N ps (defScope st)) (e1 : ps.length = kk) (e2 : N.length = NN)
    (b : ∀ (dV kV doc pm : Value) (an : Option Addr) (cdv ct : Value) (us : List Value), us.length = ps.length → bindArgs (PySem.W.fnOf x x (defArgs st) (defBody st) (defScope st) .none kV doc pm an cdv ct) ⟨us, []⟩ = pure (ps.zip us))
    (hb : ∀ (cdv : Value) (A : Around) (outer : List Env) (s : Shared) (H : Hp) (E : XK), RoomG k (A.deeper (PyProof.Rows.envOfC x (defScope st) s.heap.objs.size f cdv)) → ESs (cxOf (L2.CX P w) P w K mg base N x (defScope st) f cdv A outer s H E) (WOf E) (defBody st) body) :
    Df P w K mg base (k + 1) x ps (mkFN kk NN body) := by
  subst e1 e2
  exact ⟨f, fd, g, F.kp, FunD.bindsN F fun kV doc pm an cdv ct us hl => b .none kV doc pm an cdv ct us hl,
    ⟨fun _ _ _ _ h => spFN_len h, fun A outer s H args us vs Q E hr e0 hbd r h => run_def F S (spFN_len h) hr e0 hbd r fun cdv hc hr' => enter_bodyN (hb cdv A outer s H E hr') h⟩⟩
end
end Rk

/-! Rk95: wishes for lists of objects. -/
namespace Rk
open PySem PySem.Spec L2
section
variable {Q : Vl → Hh → Prop} {E : XP} {h : Hh} {vs : List Vl} {n M : Nat} {body : Sv} {ρ : En}
theorem wp_defN (e1 : vs.length = n) (e2 : enter M vs = ρ) (w : Ws (body ρ h) (fun _ h1 => Q (.d .none) h1) ⟨Q, fun _ _ => False, fun _ _ => False, fun c fs _ h1 => E c fs h1⟩) : Wp (mkFN n M body vs h) Q E := by
  subst e1 e2
  unfold mkFN
  rw [if_pos rfl]
  revert w
  cases body (enter M vs) h with
  | nx ρ1 h1 => exact fun w => ⟨w.w⟩
  | rt v h1 => exact fun w => ⟨w.w⟩
  | bk ρ1 h1 => exact fun w => w.w.elim
  | ct ρ1 h1 => exact fun w => w.w.elim
  | ex c fs ρ1 h1 => exact fun w => ⟨w.w⟩
  | no => exact fun w => w.w.elim
end
section
variable {ρ : En} {h : Hh} {N : En → Hh → Prop} {R : Vl → Hh → Prop} {B C : En → Hh → Prop} {X : Str → List (Str × Da) → En → Hh → Prop} {f : Ev} {g : Gv} {body : Sv} {i : Nat}
/-- behind the thing that is put to a list of objects -/
structure ApK (i m : Nat) (ρ : En) (v : Vl) (h : Hh) (N : En → Hh → Prop) : Prop where
  w : ∃ d ns, v = .r d ∧ lstR h[m]? = some ns ∧ ns.length < 1000 ∧ N (ρ.set i (some (.r h.length))) (h.set m none ++ [some (.rl (ns ++ [d]))])
theorem ws_apR {m : Nat} {ns0 : List Nat} (er : ρ[i]? = some (some (.r m))) (e0 : lstR h[m]? = some ns0) (w : Wp (f ρ h) (fun v h1 => ApK i m ρ v h1 N) (fun c fs h1 => X c fs ρ h1)) : Ws (sApR i f ρ h) N ⟨R, B, C, X⟩ := by
  unfold sApR
  rw [er]
  dsimp only
  rw [e0, if_pos (show (some ns0).isSome = true from rfl)]
  refine ws_then (w.mono (fun v h1 ⟨d, ns, e1, e2, e3, q⟩ => ?_) fun _ _ _ z => z)
  subst e1
  dsimp only
  rw [e2]
  dsimp only
  rw [if_pos e3]
  exact ⟨q⟩
structure ForRK (g : Gv) (body : Sv) (v : Vl) (ρ : En) (h : Hh) (N : En → Hh → Prop) (D : Ds) : Prop where
  w : ∃ m ns, v = .r m ∧ h[m]? = some (some (.rl ns)) ∧ Ws (forR g body ns ρ (h.set m none)) N D
theorem ws_forR (w : Wp (f ρ h) (fun v h1 => ForRK g body v ρ h1 N ⟨R, B, C, X⟩) (fun c fs h1 => X c fs ρ h1)) : Ws (sForR f g body ρ h) N ⟨R, B, C, X⟩ :=
  ws_then (w.mono (fun v h1 ⟨m, ns, e1, e2, q⟩ => by
    subst e1
    dsimp only
    rw [e2]
    exact q) fun _ _ _ z => z)
theorem forR_inv {ns : List Nat} (I : Nat → En → Hh → Prop) (h0 : I 0 ρ h)
    (st : ∀ (k n : Nat) (ρ1 : En) (h1 : Hh), ns[k]? = some n → I k ρ1 h1 → GvK (g (.r n) ρ1 h1) fun ρ2 h2 => Ws (body ρ2 h2) (I (k + 1)) ⟨R, N, I (k + 1), X⟩)
    (fin : ∀ ρ1 h1, I ns.length ρ1 h1 → N ρ1 h1) : Ws (forR g body ns ρ h) N ⟨R, B, C, X⟩ := by
  have go : ∀ (n k : Nat) (ρ : En) (h : Hh), n = ns.length - k → k ≤ ns.length → I k ρ h → Ws (forR g body (ns.drop k) ρ h) N ⟨R, B, C, X⟩ := by
    intro n
    induction n with
    | zero =>
      intro k ρ h hn hk i
      have : k = ns.length := by omega
      subst this
      rw [List.drop_length]
      exact ⟨fin _ _ i⟩
    | succ n ih =>
      intro k ρ h hn hk i
      have hk' : k < ns.length := by omega
      rw [List.drop_eq_getElem_cons hk']
      have w := st k ns[k] ρ h (List.getElem?_eq_getElem hk') i
      unfold forR
      unfold GvK at *
      revert w
      cases g (.r ns[k]) ρ h with
      | none => exact fun w => w.elim
      | some p =>
        obtain ⟨ρ1, h1⟩ := p
        show Ws (body ρ1 h1) _ _ → _
        dsimp only
        cases body ρ1 h1 with
        | nx ρ2 h2 => exact fun w => ih (k + 1) ρ2 h2 (by omega) (by omega) w.w
        | ct ρ2 h2 => exact fun w => ih (k + 1) ρ2 h2 (by omega) (by omega) w.w
        | bk ρ2 h2 => exact fun w => ⟨w.w⟩
        | rt v h2 => exact fun w => ⟨w.w⟩
        | ex c fs ρ2 h2 => exact fun w => ⟨w.w⟩
        | no => exact fun w => w.w.elim
  have := go _ 0 ρ h rfl (Nat.zero_le _) h0
  rwa [List.drop_zero] at this
end
end Rk

/-! Rk96: an object out of a list of objects, by its number. -/
namespace Rk
open PySem PySem.Spec L2
def gIxO : G2 := fun x y h => match x, y with
  | .r m, .d (.int i) => match h[m]? with
    | some (some (.rl ns)) => (L2.atI ns i).map fun n => (.r n, h)
    | _ => none
  | _, _ => none
section
variable {mg : Str → Option Value} {K : PySem.W.Frag}
theorem ok_ixO : Ok2 K mg (rIx K) gIxO := by
  intro φ h H x y a b Q v h' sm rx ry e k
  unfold gIxO at e
  split at e
  · rename_i m i
    split at e
    · rename_i ns en
      obtain ⟨a, as, ea, e2, e3, e4⟩ := sm.rf m ns en
      obtain ⟨a', ea', rfl⟩ := rx
      rw [ea] at ea'
      cases ea'
      cases q : L2.atI ns i with
      | none => rw [q] at e; cases e
      | some n =>
        rw [q] at e
        cases e
        unfold L2.atI at q
        cases q2 : ixN ns.length i with
        | none => rw [q2] at q; cases q
        | some j =>
          rw [q2] at q
          have q : ns[j]? = some n := q
          obtain ⟨_, e5⟩ := e4 j n q
          obtain ⟨c, ec⟩ : ∃ c, as[j]? = some c := ⟨_, List.getElem?_eq_getElem (by have := (List.getElem?_eq_some_iff.mp q).1; omega)⟩
          rw [ec] at e5
          refine .inl ⟨a, as.map V.ref, i, .ref c, rfl, VRep.int ry, .inl (.of e2), ?_, k _ H φ (Step.refl _ _ _) sm ⟨c, e5, rfl⟩⟩
          unfold L2.atI
          rw [List.length_map, e3, q2]
          show (as.map V.ref)[j]? = _
          rw [List.getElem?_map, ec]
          rfl
    · cases e
  · cases e
end
section
variable {X : Cx} {W : WX} {a b : Expr} {fa fb : Ev} {pos : Pos}
theorem ee_ixO (ha : EE X W a fa) (hb : EE X W b fb) (hs : PlainIx b := by exact fun _ _ => rfl) : EE X W (.Subscript a b pos) (eOp gIxO fa fb) :=
  PE.of (pe_ix ix_seq ha hb hs) fun σ H Q hf => tOp_ok ok_ixO hf
end
theorem wo_ixO {h : Hh} {Q : Vl → Hh → Prop} {m : Nat} {ns : List Nat} (e : h[m]? = some (some (.rl ns))) (q : ∀ n ∈ ns, ns[0]? = some n → Q (.r n) h) (h1 : 1 ≤ ns.length) : Wo (gIxO (.r m) (.d (.int 0)) h) Q := by
  cases ns with
  | nil => cases h1
  | cons n t =>
    refine wo_eq (v := .r n) (h' := h) ?_ (q n (List.mem_cons_self ..) rfl)
    unfold gIxO
    dsimp only
    rw [e]
    have i0 : L2.atI (n :: t) 0 = some n := atI_get0 (k := 0) rfl
    show (L2.atI (n :: t) 0).map _ = _
    rw [i0]
    rfl
end Rk

/-! Rk97: dict(zip(xs, ys)) of two tuples of one length. -/
namespace Rk
open PySem PySem.Spec PyProof.Rows L2
section
variable {prog : Program} {w : World} {A : Around} {E : Value → Shared → Prop} {s : Shared} {z q o i j a b T : Addr} {f : Bool} {oT : Obj} {m n : Nat} {xs ys : Array Value}
/-- the next pair while the last one is still held -/
theorem zh_item {x y : Value} {Q : Option Value → Shared → Prop} (D : ZipApart z q o i j a b) (hz : IsZipHeld s.heap z q o T f) (hT : s.heap.get? T = some oT) (hq : IsPair s.heap q (.ref i) (.ref j))
    (h1 : s.heap.IsTupleIter i a m) (h2 : s.heap.IsTupleIter j b n) (hl1 : s.heap.IsTuple a xs) (hl2 : s.heap.IsTuple b ys) (hx : xs[m]? = some x) (hy : ys[n]? = some y)
    (hQ : ∀ h', IsZipHeld h' z q o T true → h'.IsTupleIter i a (m + 1) → h'.IsTupleIter j b (n + 1) → IsPair h' s.heap.objs.size x y → h'.objs.size = s.heap.objs.size + 1 →
      (∀ c ob, c ≠ z → c ≠ i → c ≠ j → s.heap.get? c = some ob → h'.get? c = some ob) → Q (some (.ref s.heap.objs.size)) { s with heap := h' }) : wpAny (model prog w) A (pyNext (.ref z)) Q E s := by
  have ty : s.TypeIs (.ref z) "zip" := ⟨_, hz, rfl⟩
  unfold pyNext
  refine wpAny_bind (wpAny_attempt (wpAny_callSpecial?_slot (name := Str.ofString "__next__") ty F.slot_zip_next (wpAny_call_entry F.slot_zip_next ty F.entry_zip_next ?_ (F.args_zip_next_1 _))))
  show wpAny _ _ (field (.ref z) 2 >>= _) _ _ _
  refine wpAny_bind (wpAny_field hz rfl (x := .bool false) rfl ?_)
  show wpAny _ _ (field (.ref z) 3 >>= _) _ _ _
  refine wpAny_bind (wpAny_field hz rfl (x := .ref q) rfl (wpAny_bind (wpAny_seqItems hq rfl ?_)))
  show wpAny _ _ (Builtin.SmallTypes.ownedTupleIsFree (.ref z) >>= _) _ _ _
  refine wpAny_bind (wpAny_tupleHeld_zip hz hT fun g1 z1 b1 => ?_)
  simp only [Bool.false_eq_true, if_false]
  refine wpAny_bind ?_
  rw [← Array.forIn_toList]
  simp only [List.forIn_cons, List.forIn_nil]
  refine wpAny_bind (wpAny_bind (wpAny_holding ?_))
  show wpAny _ _ (Builtin.SmallTypes.nextOf (.ref i) >>= _) _ _ _
  refine wpAny_bind (wpAny_nextOf_tuple_item (s := { s with heap := g1 }) (h1.extBut b1.extBut D.i1z) (hl1.extBut b1.extBut D.l1z) hx fun g2 t2 b2 => wpAny_pure (wpAny_pure ?_))
  refine wpAny_bind (wpAny_bind (wpAny_holding ?_))
  show wpAny _ _ (Builtin.SmallTypes.nextOf (.ref j) >>= _) _ _ _
  refine wpAny_bind (wpAny_nextOf_tuple_item (s := { s with heap := g2 }) ((h2.extBut b1.extBut D.i2z).extBut b2.extBut D.i12.symm) ((hl2.extBut b1.extBut D.l2z).extBut b2.extBut D.l2i1) hy fun g3 t3 b3 => wpAny_pure (wpAny_pure (wpAny_pure ?_)))
  show wpAny _ _ (newTuple [x, y] >>= _) _ _ _
  refine wpAny_bind (wpAny_newTuple (wpAny_pure ⟨_, rfl, wpAny_pure ?_⟩))
  have sz : g3.objs.size = s.heap.objs.size := by rw [b3.1, b2.1, b1.1]
  have k3 : ∀ c ob, c ≠ z → c ≠ i → c ≠ j → s.heap.get? c = some ob → g3.get? c = some ob := fun c ob c1 c2 c3 e => b3.extBut _ _ c3 (b2.extBut _ _ c2 (b1.extBut _ _ c1 e))
  have z3 : IsZipHeld g3 z q o T true := b3.extBut _ _ D.i2z.symm (b2.extBut _ _ D.i1z.symm z1)
  have t2' := t2.extBut b3.extBut D.i12
  show Q (some (.ref g3.objs.size)) _
  have p4 : IsPair (g3.push { cls := .type "tuple", data := .seq #[x, y] }) g3.objs.size x y := Heap.get?_push_size _ rfl
  have s4 : (g3.push { cls := .type "tuple", data := .seq #[x, y] }).objs.size = g3.objs.size + 1 := Heap.size_push ..
  rw [sz] at p4 s4 ⊢
  exact hQ _ (Heap.get?_push_of_some _ z3) (t2'.at fun ob e => Heap.get?_push_of_some _ e) (t3.at fun ob e => Heap.get?_push_of_some _ e) p4 s4 fun c ob c1 c2 c3 e => Heap.get?_push_of_some _ (k3 c ob c1 c2 c3 e)
theorem zh_end {Q : Option Value → Shared → Prop} (hh : A.handled = none) (D : ZipApart z q o i j a b) (hz : IsZipHeld s.heap z q o T f) (hT : s.heap.get? T = some oT) (hq : IsPair s.heap q (.ref i) (.ref j))
    (h1 : s.heap.IsTupleIter i a m) (h2 : s.heap.IsTupleIter j b n) (hl1 : s.heap.IsTuple a xs) (hl2 : s.heap.IsTuple b ys) (hend : xs[m]? = none)
    (hQ : ∀ h', (∀ c ob, c ≠ z → c ≠ i → c ≠ j → s.heap.get? c = some ob → h'.get? c = some ob) → Q none { s with heap := h' }) : wpAny (model prog w) A (pyNext (.ref z)) Q E s := by
  have ty : s.TypeIs (.ref z) "zip" := ⟨_, hz, rfl⟩
  unfold pyNext
  refine wpAny_bind (wpAny_attempt (wpAny_callSpecial?_slot (name := Str.ofString "__next__") ty F.slot_zip_next (wpAny_call_entry F.slot_zip_next ty F.entry_zip_next ?_ (F.args_zip_next_1 _))))
  show wpAny _ _ (field (.ref z) 2 >>= _) _ _ _
  refine wpAny_bind (wpAny_field hz rfl (x := .bool false) rfl ?_)
  show wpAny _ _ (field (.ref z) 3 >>= _) _ _ _
  refine wpAny_bind (wpAny_field hz rfl (x := .ref q) rfl (wpAny_bind (wpAny_seqItems hq rfl ?_)))
  show wpAny _ _ (Builtin.SmallTypes.ownedTupleIsFree (.ref z) >>= _) _ _ _
  refine wpAny_bind (wpAny_tupleHeld_zip hz hT fun g1 z1 b1 => ?_)
  simp only [Bool.false_eq_true, if_false]
  refine wpAny_bind ?_
  rw [← Array.forIn_toList]
  simp only [List.forIn_cons, List.forIn_nil]
  refine wpAny_bind (wpAny_bind (wpAny_holding ?_))
  show wpAny _ _ (Builtin.SmallTypes.nextOf (.ref i) >>= _) _ _ _
  refine wpAny_bind (wpAny_nextOf_tuple_end (s := { s with heap := g1 }) hh (h1.extBut b1.extBut D.i1z) (hl1.extBut b1.extBut D.l1z) hend fun g2 e b2 he => ?_)
  obtain ⟨ob, ho, hc⟩ := he
  refine wpAny_bind (wpAny_isInstance (T := "StopIteration") (b := true) ⟨ob, ho, hc⟩ isSubtype_stop ?_)
  exact wpAny_pure (hQ _ fun c ob c1 c2 _ e => b2 _ _ c2 (b1.extBut _ _ c1 e))
end
/-- how far a zip of two tuples has come; d: what must not be touched -/
def ztS (z q o i j a b d : Addr) (xs ys : Array Value) (n : Nat) (h : Heap) : Prop :=
  IsPair h q (.ref i) (.ref j) ∧ h.IsTupleIter i a n ∧ h.IsTupleIter j b n ∧ h.IsTuple a xs ∧ h.IsTuple b ys ∧
    ((IsZip h z q o .none ∧ ∃ u w, IsPair h o u w) ∨ ∃ (T : Addr) (f : Bool) (ob : Obj), IsZipHeld h z q o T f ∧ h.get? T = some ob ∧ T ≠ z ∧ T ≠ i ∧ T ≠ j ∧ T ≠ d)
section
variable {prog : Program} {w : World}
theorem pairs_zt (z q o i j a b : Addr) (D : ZipApart z q o i j a b) (xs ys : Array Value) (hl : xs.size = ys.size) :
    PairArg prog w "zip" z [z, q, o, i, j, a, b] [z, o, i, j] xs.size (fun n k v => xs[n]? = some k ∧ ys[n]? = some v)
      (fun h => IsZip h z q o .none ∧ IsPair h q (.ref i) (.ref j) ∧ (∃ u w, IsPair h o u w) ∧ h.IsTupleIter i a 0 ∧ h.IsTupleIter j b 0 ∧ h.IsTuple a xs ∧ h.IsTuple b ys) where
  type := fun s ok => ⟨_, ok.1, rfl⟩
  notDict := by decide
  keep := fun h h' ⟨g1, g2, ⟨u, w, g3⟩, g4, g5, g6, g7⟩ hk =>
    ⟨hk _ _ g1, hk _ _ g2, ⟨u, w, hk _ _ g3⟩, g4.at fun o e => hk _ o e, g5.at fun o e => hk _ o e, g6.at fun o e => hk _ o e, g7.at fun o e => hk _ o e⟩
  there := fun h ⟨g1, g2, ⟨u, w, g3⟩, ⟨o4, g4, _⟩, ⟨o5, g5, _⟩, ⟨o6, g6, _⟩, ⟨o7, g7, _⟩⟩ c hc => by
    simp only [List.mem_cons, List.not_mem_nil, or_false] at hc
    rcases hc with rfl | rfl | rfl | rfl | rfl | rfl | rfl
    · exact ⟨_, g1⟩
    · exact ⟨_, g2⟩
    · exact ⟨_, g3⟩
    · exact ⟨_, g4⟩
    · exact ⟨_, g5⟩
    · exact ⟨_, g6⟩
    · exact ⟨_, g7⟩
  sub := fun c hc => by
    simp only [List.mem_cons, List.not_mem_nil, or_false] at hc ⊢
    rcases hc with e | e | e | e <;> simp [e]
  noKeys := fun A s Q E hA ok h => getAttrOr_miss_zip ok.1 rfl rfl rfl zip_no_keys (by decide +kernel) hA h
  iter := fun A s d Q E hA ok hd hdf h => by
    obtain ⟨g1, g2, ⟨u, w', g3⟩, g4, g5, g6, g7⟩ := ok
    simp only [List.mem_cons, List.not_mem_nil, or_false, not_or] at hdf
    obtain ⟨dz, dq, d0, di, dj, da, db⟩ := hdf
    refine wpAny_pyIter_zip g1 (h z [z, o, i, j] (ztS z q o i j a b d xs ys) s.heap s.toks ?_ ⟨g2, g4, g5, g6, g7, .inl ⟨g1, u, w', g3⟩⟩ (fun _ _ e => e) fun c hc => .inl hc)
    exact {
      off := fun hm => by
        simp only [List.mem_cons, List.not_mem_nil, or_false] at hm
        rcases hm with e | e | e | e
        · exact dz e
        · exact d0 e
        · exact di e
        · exact dj e
      frame := fun n h₁ h₂ st hk => by
        obtain ⟨t2, t4, t5, t6, t7, t⟩ := st
        refine ⟨hk _ _ (Ne.symm dq) t2, t4.at fun o e => hk _ o (Ne.symm di) e, t5.at fun o e => hk _ o (Ne.symm dj) e, t6.at fun o e => hk _ o (Ne.symm da) e, t7.at fun o e => hk _ o (Ne.symm db) e, ?_⟩
        rcases t with ⟨t1, u, w, t3⟩ | ⟨T, f, ob, t1, tT, r⟩
        · exact .inl ⟨hk _ _ (Ne.symm dz) t1, u, w, hk _ _ (Ne.symm d0) t3⟩
        · exact .inr ⟨T, f, ob, hk _ _ (Ne.symm dz) t1, hk _ _ r.2.2.2 tT, r⟩
      item := fun n s₁ Q₁ E₁ hn st hds hQ => by
        obtain ⟨t2, t4, t5, t6, t7, t⟩ := st
        have ex := Array.getElem?_eq_getElem hn
        have ey := Array.getElem?_eq_getElem (xs := ys) (i := n) (by omega)
        have lt : ∀ {c ob}, s₁.heap.get? c = some ob → s₁.heap.objs.size ≠ c := fun e => Nat.ne_of_gt (Heap.lt_size e)
        have n1 : s₁.heap.objs.size ≠ i := let ⟨_, e, _⟩ := t4; lt e
        have n2 : s₁.heap.objs.size ≠ j := let ⟨_, e, _⟩ := t5; lt e
        rcases t with ⟨t1, u, w, t3⟩ | ⟨T, f, ob, t1, tT, r1, r2, r3, r4⟩
        · refine RZ.pyNext_zipT_item D t1 t2 t3 t4 t5 t6 t7 ex ey fun h' a1 a2 a3 a4 a5 a6 hk => ?_
          exact hQ s₁.heap.objs.size _ _ h' s₁.toks ⟨ex, ey⟩ (.inl ⟨_, a5, rfl, _, rfl⟩)
            ⟨hk _ _ D.TIz D.TITO D.TIi1 D.TIi2 t2, a3, a4, t6.at fun o e => hk _ o D.l1z D.l1TO D.l1i1 D.l1i2 e, t7.at fun o e => hk _ o D.l2z D.l2TO D.l2i1 D.l2i2 e,
              .inr ⟨s₁.heap.objs.size, false, _, a1, a5, lt t1, n1, n2, Nat.ne_of_gt hds⟩⟩
            fun c o hc e => hk c o (fun x => hc (by simp [x])) (fun x => hc (by simp [x])) (fun x => hc (by simp [x])) (fun x => hc (by simp [x])) e
        · refine zh_item D t1 tT t2 t4 t5 t6 t7 ex ey fun h' a1 a3 a4 a5 a6 hk => ?_
          exact hQ s₁.heap.objs.size _ _ h' s₁.toks ⟨ex, ey⟩ (.inl ⟨_, a5, rfl, _, rfl⟩)
            ⟨hk _ _ D.TIz D.TIi1 D.TIi2 t2, a3, a4, t6.at fun o e => hk _ o D.l1z D.l1i1 D.l1i2 e, t7.at fun o e => hk _ o D.l2z D.l2i1 D.l2i2 e,
              .inr ⟨T, true, ob, a1, hk _ _ r1 r2 r3 tT, r1, r2, r3, r4⟩⟩
            fun c o hc e => hk c o (fun x => hc (by simp [x])) (fun x => hc (by simp [x])) (fun x => hc (by simp [x])) e
      done := fun s₁ Q₁ E₁ st hQ => by
        obtain ⟨t2, t4, t5, t6, t7, t⟩ := st
        have en : xs[xs.size]? = none := Array.getElem?_eq_none (Nat.le_refl _)
        rcases t with ⟨t1, u, w, t3⟩ | ⟨T, f, ob, t1, tT, r⟩
        · exact RZ.pyNext_zipT_end hA D t1 t2 t3 t4 t5 t6 t7 (.inl en) fun h' hk => hQ h' s₁.toks fun c o hc e => hk c o (fun x => hc (by simp [x])) (fun x => hc (by simp [x])) (fun x => hc (by simp [x])) (fun x => hc (by simp [x])) e
        · exact zh_end hA D t1 tT t2 t4 t5 t6 t7 en fun h' hk => hQ h' s₁.toks fun c o hc e => hk c o (fun x => hc (by simp [x])) (fun x => hc (by simp [x])) (fun x => hc (by simp [x])) e }
end
def tDictZipT (K : PySem.W.Frag) (ta : TA) : TE := fun σ H Q => ta σ H fun vs H1 => ∃ (a b : Addr) (ks : List Key) (ys : List V), vs = [.ref a, .ref b] ∧ SqT K H1 a (ks.map kV) ∧ SqT K H1 b ys ∧ ks.length = ys.length ∧ ∀ p, H1 p = none → Q (.ref p) (upd H1 p (.dK (mergeK [] (ks.zip ys))))
theorem pe_dictZipT {X : Cx} {e e2 : Expr} {ta : TA} {p p2 q pos : Pos} (hg : Gl X "dict") (hm : X.mg "dict" = none) (hg2 : Gl X "zip") (hm2 : X.mg "zip" = none) (hc : X.calm = true) (ha : PA X [e, e2] ta)
    (na : starEach [.Call (.Name "zip" p2) [e, e2] [] q] X.env = (false, eval (.Call (.Name "zip" p2) [e, e2] [] q) X.env) :: starEach [] X.env := by rfl)
    (hs : starEach [e, e2] X.env = (false, eval e X.env) :: starEach [e2] X.env := by rfl) (hpl : (backTo q (starEach [e2] X.env)).any (·.1) = false := by rfl) :
    PE X (.Call (.Name "dict" p) [.Call (.Name "zip" p2) [e, e2] [] q] [] pos) (tDictZipT X.K ta) := by
  refine ⟨fun pins s σ H Q I h => ?_⟩
  refine Call_ (ld_blt I hg hm PyProof.Rows.boot_dict ?_)
  refine PyProof.Rows.callWith_type1 (PyProof.Rows.args_cons ?_ na) na rfl
  refine Call_ (ld_blt I hg2 hm2 PyProof.Rows.boot_zip (PyProof.Rows.callWith_type1 (thn (ha.run q pins s σ H _ I h) fun us s1 ⟨vs, H1, I1, r1, q1⟩ => ?_) hs hpl))
  obtain ⟨a, b, ks, ys, rfl, hqx, hqy, hl, q1⟩ := q1
  cases r1 with
  | cons r rr =>
    cases rr with
    | cons r' rr =>
      cases rr
      cases r
      cases r'
      obtain ⟨its, rv, p1, z1⟩ := I1.tuple hqx
      obtain ⟨its2, rv2, p2, z2⟩ := I1.tuple hqy
      refine RZ.call_zipT p1 p2 fun h' hz hTI hTO h1 h2 hsz hk => ?_
      refine PyProof.Rows.args_nil ?_
      obtain ⟨kl, kk⟩ := key_vals (P := X.prog) (w := X.w) rv
      have l2 : its2.length = ys.length := rv2.length.symm
      have hle : s1.heap.objs.size ≤ h'.objs.size := by omega
      have al : a < s1.heap.objs.size := let ⟨_, e, _⟩ := p1; Heap.lt_size e
      have bl : b < s1.heap.objs.size := let ⟨_, e, _⟩ := p2; Heap.lt_size e
      refine PySem.call_dict_pairs (knd := mixKind X.prog X.w) (kvs := ks.zip its2) (pairs_zt (s1.heap.objs.size + 4) (s1.heap.objs.size + 2) (s1.heap.objs.size + 3) s1.heap.objs.size (s1.heap.objs.size + 1) a b (PySem.W.ktu_apart s1.heap.objs.size a b al bl) its.toArray its2.toArray (by rw [List.size_toArray, List.size_toArray]; omega)) (I1.ok.hd hc)
        ⟨hz, hTI, ⟨_, _, hTO⟩, h1, h2, Heap.IsTuple.at p1 fun o e => hk _ o e, Heap.IsTuple.at p2 fun o e => hk _ o e⟩ ⟨?_, ?_⟩ ?_ fun h'' tk hd' hk' => ?_
      · rw [List.length_zip, List.size_toArray]
        omega
      · rintro i key v ⟨ek, ev⟩
        obtain ⟨k, e1, e2⟩ := kk i key (by simpa using ek)
        refine ⟨k, ?_, e2⟩
        rw [List.getElem?_zip_eq_some]
        exact ⟨e1, by simpa using ev⟩
      · rw [List.size_toArray]
        omega
      · have hm' : (h'.objs.size == sysModules) = false := beq_eq_false_iff_ne.mpr (Nat.ne_of_gt (Nat.lt_of_lt_of_le I1.big hle))
        have k2 : ∀ c o, s1.heap.get? c = some o → h''.get? c = some o := fun c o ec => hk' c o (fun hw => by
          have := Heap.lt_size ec
          simp only [List.mem_cons, List.not_mem_nil, or_false] at hw
          rcases hw with e | e | e | e
          · exact absurd (e ▸ this) (Nat.not_lt.mpr (Nat.le_add_right _ _))
          · exact absurd (e ▸ this) (Nat.not_lt.mpr (Nat.le_add_right _ _))
          · exact absurd (e ▸ this) (Nat.lt_irrefl _)
          · exact absurd (e ▸ this) (Nat.not_lt.mpr (Nat.le_add_right _ _))) (hk c o ec)
        have hlen : (mergeK [] (ks.zip ys)).length ≤ sizeLine := by
          refine Nat.le_trans (length_mergeK _ []) ?_
          rw [List.length_nil, Nat.zero_add, List.length_zip]
          omega
        exact ⟨.ref h'.objs.size, upd H1 h'.objs.size (.dK (mergeK [] (ks.zip ys))), I1.laid (t' := tk) k2 hle (dk_new hlen hm' (KV.merge (kv_zip rv2) .nil) hd'), rfl, q1 _ (I1.hok.fresh hle)⟩
/-- dict(zip(..)) of two tuples -/
def gDZT : GC := fun vs h => match vs with
  | [.d (.tuple xs), .d (.tuple ds)] => match keysD xs with
    | some ks => if ks.length = ds.length then some (.r h.length, h ++ [some (.dct ((ks.zip ds).foldl (fun acc kv => putD acc kv.1 kv.2) []))]) else none
    | none => none
  | _ => none
section
variable {X : Cx} {W : WX} {e e2 : Expr} {fs : Av} {p p2 q pos : Pos}
theorem ee_dictZipT (hg : Gl X "dict") (hm : X.mg "dict" = none) (hg2 : Gl X "zip") (hm2 : X.mg "zip" = none) (hc : X.calm = true) (ha : EA X W [e, e2] fs)
    (na : starEach [.Call (.Name "zip" p2) [e, e2] [] q] X.env = (false, eval (.Call (.Name "zip" p2) [e, e2] [] q) X.env) :: starEach [] X.env := by rfl)
    (hs : starEach [e, e2] X.env = (false, eval e X.env) :: starEach [e2] X.env := by rfl) (hpl : (backTo q (starEach [e2] X.env)).any (·.1) = false := by rfl) :
    EE X W (.Call (.Name "dict" p) [.Call (.Name "zip" p2) [e, e2] [] q] [] pos) (eBlt gDZT fs) :=
  PE.of (pe_dictZipT hg hm hg2 hm2 hc ha na hs hpl) fun σ H Q ⟨φ, h, ρ, sm, er, q⟩ => ⟨φ, h, ρ, sm, er, PoX.goA q fun xs vs h1 H1 φ1 st sm1 rvs q1 => by
    obtain ⟨z, h2, e2, k⟩ := PoX.ofO q1
    unfold gDZT at e2
    split at e2
    · rename_i as ds
      obtain ⟨u, v, rfl, ru, rv⟩ := rvs.two
      split at e2
      · rename_i ks ek
        split at e2
        · rename_i hl
          cases e2
          obtain ⟨a, zs, rfl, sq, rz⟩ := VRep.tup ru
          obtain ⟨b, ys, rfl, sq2, ry⟩ := VRep.tup rv
          have ez := keysD_ok rz ek
          subst ez
          refine ⟨a, b, ks, ys, rfl, sq, sq2, by rw [hl, ry.length'], fun p hp => ?_⟩
          obtain ⟨s1, s2, s3⟩ := sm1.new (ob := .dct ((ks.zip ds).foldl (fun acc kv => putD acc kv.1 kv.2) [])) (o := .dK (mergeK [] (ks.zip ys))) hp fun M st => ⟨_, upd_same, merge_rep (zip_rep (ry.stay st)) .nil⟩
          exact k _ _ _ s1 s2 s3
        · cases e2
      · cases e2
    · cases e2⟩
end
theorem keys_strs (xs : List Str) : keysD (xs.map PyData.str) = some (xs.map Sum.inr) := by
  induction xs with
  | nil => rfl
  | cons x t ih =>
    rw [List.map_cons, keysD, ih]
    rfl
theorem wo_dzT {h : Hh} {Q : Vl → Hh → Prop} {xs : List Str} {ds : List Da} (hl : xs.length = ds.length) (q : Q (.r h.length) (h ++ [some (.dct (((xs.map (Sum.inr : Str → Key)).zip ds).foldl (fun acc kv => putD acc kv.1 kv.2) []))])) : Wo (gDZT [.d (.tuple (xs.map PyData.str)), .d (.tuple ds)] h) Q := by
  refine wo_eq ?_ q
  unfold gDZT
  dsimp only
  rw [keys_strs]
  dsimp only
  rw [if_pos (by rw [List.length_map]; exact hl)]
end Rk

/-! Rk98: x in y, x not in y where the items are data of any depth. -/
namespace Rk
open PySem PySem.Spec PyProof.Rows L2
variable {mg : Str → Option Value}
def rInP (K : PySem.W.Frag) (neg : Bool) : R2 := fun x y H Q => ∃ d ds, Dp K H x d ∧ (Dp K H y (.tuple ds) ∨ Dp K H y (.list ds)) ∧ SeqAt.shaped d = true ∧ SeqAt.shaped (.tuple ds) = true ∧ d.depth ≤ 60 ∧ Q (.bl (if neg then !(ds.any fun z => PyData.eqv z d) else ds.any fun z => PyData.eqv z d)) H
theorem op_inP {X : Cx} (hu : X.A.units + 64 < cLine) : OpR X (compareOp .In) (fun x y H Q => rIn X.K false x y H Q ∨ rInP X.K false x y H Q) := by
  refine OpR.or op_in_seq ?_
  intro pins s σ H x y v u Q I rx ry h
  obtain ⟨d, ds, hd, he, sd, se, dd, q⟩ := h
  obtain ⟨as, r1⟩ := Dp.reads I d x v hd rx
  have cs : PyData.canLayAll0 ds = true := by
    have := SeqAt.canLay_of_shaped se
    simpa only [PyData.canLay0] using this
  rcases he with he | he
  · obtain ⟨bs, r2⟩ := Dp.reads I (.tuple ds) y u he ry
    exact SeqAt.in_tuple_reads r2 r1 cs (SeqAt.canLay_of_shaped sd) (by omega) ⟨.bl _, H, I, rfl, q⟩
  · obtain ⟨bs, r2⟩ := Dp.reads I (.list ds) y u he ry
    exact SeqAt.in_list_reads r2 r1 cs (SeqAt.canLay_of_shaped sd) (by omega) ⟨.bl _, H, I, rfl, q⟩
def inV' (neg : Bool) (a : Da) (ds : List Da) : Bool := if neg then !(ds.any fun z => PyData.eqv z a) else ds.any fun z => PyData.eqv z a
def gInP (neg : Bool) : G2 := fun x y h => match gIn neg x y h with
  | some r => some r
  | none => match x, asD y h with
    | .d a, some (.tuple ds) => if sh a && decide (a.depth ≤ 60) && sh (.tuple ds) then some (.d (.bool (inV' neg a ds)), h) else none
    | .d a, some (.list ds) => if sh a && decide (a.depth ≤ 60) && sh (.tuple ds) && !(PyData.list ds).hasDict then some (.d (.bool (inV' neg a ds)), h) else none
    | _, _ => none
theorem ok_inP {K : PySem.W.Frag} (neg : Bool) : Ok2 K mg (fun x y H Q => rIn K neg x y H Q ∨ rInP K neg x y H Q) (gInP neg) := by
  intro φ h H x y a b Q v h' sm rx ry e k
  unfold gInP at e
  split at e
  · rename_i r er
    cases e
    exact .inl (ok_in neg φ h H x y a b Q v h' sm rx ry er k)
  · split at e
    · rename_i da ds eb _
      split at e
      · rename_i hs
        simp only [Bool.and_eq_true] at hs
        obtain ⟨⟨h1, h2⟩, h3⟩ := hs
        cases e
        have p1 := sh_parts h1
        have p3 := sh_parts h3
        exact .inr ⟨da, ds, asD_ok sm rx rfl p1.2, .inl (asD_ok sm ry eb p3.2), p1.1, p3.1, of_decide_eq_true h2, k _ H φ (Step.refl _ _ _) sm (Rep.bl _)⟩
      · cases e
    · rename_i da ds eb _
      split at e
      · rename_i hs
        simp only [Bool.and_eq_true] at hs
        obtain ⟨⟨⟨h1, h2⟩, h3⟩, h4⟩ := hs
        cases e
        have p1 := sh_parts h1
        have p3 := sh_parts h3
        exact .inr ⟨da, ds, asD_ok sm rx rfl p1.2, .inr (asD_ok sm ry eb (by simpa using h4)), p1.1, p3.1, of_decide_eq_true h2, k _ H φ (Step.refl _ _ _) sm (Rep.bl _)⟩
      · cases e
    · cases e
section
variable {h : Hh} {Q : Vl → Hh → Prop}
end
end Rk

namespace Lw
open PySem PySem.Spec L2 Rk
theorem wk_GREATEST {ρ : En} {h : Hh} {Q : Vl → Hh → Prop} {E : XP} (q : Q (.d (.int ((10 ^ 600)))) h) : Wp (eD c_GREATEST ρ h) Q E := ⟨q⟩
theorem wk_LETTERS {ρ : En} {h : Hh} {Q : Vl → Hh → Prop} {E : XP} (q : Q (.d (.str "abcdefghijklmnopqrstuvwxyz")) h) : Wp (eD c_LETTERS ρ h) Q E := ⟨q⟩
theorem wk_MOST_INS {ρ : En} {h : Hh} {Q : Vl → Hh → Prop} {E : XP} (q : Q (.d (.int 6)) h) : Wp (eD c_MOST_INS ρ h) Q E := ⟨q⟩
theorem wk_MOST_LETTERS {ρ : En} {h : Hh} {Q : Vl → Hh → Prop} {E : XP} (q : Q (.d (.int 6)) h) : Wp (eD c_MOST_LETTERS ρ h) Q E := ⟨q⟩
theorem wk_MOST_ROWS {ρ : En} {h : Hh} {Q : Vl → Hh → Prop} {E : XP} (q : Q (.d (.int 40)) h) : Wp (eD c_MOST_ROWS ρ h) Q E := ⟨q⟩
theorem wk_NOUGHT {ρ : En} {h : Hh} {Q : Vl → Hh → Prop} {E : XP} (q : Q (.d (Rk.Q 0)) h) : Wp (eD c_NOUGHT ρ h) Q E := by
  refine wp_D ?_
  unfold c_NOUGHT
  rw [Q_lit 0 (by decide +kernel) (by decide +kernel)]
  exact q
theorem tq_0_1 {h : Hh} {Q : Vl → Hh → Prop} (q : Q (.d (Rk.Q 0)) h) : TupK [.d (.int 0), .d (.int 1)] h Q := tq_lit 0 (by decide +kernel) (by decide +kernel) q
noncomputable def b_is_whole : Sv := sRet (eAnd (eIsi .int (eVar 0)) (eNot (eIsi .bool (eVar 0))))
noncomputable def m_is_whole : Fn := mkF 1 1 b_is_whole
theorem en_is_whole {v0 : Vl} {h : Hh} {Q : Vl → Hh → Prop} {E : XP} (w : Ws (b_is_whole [some v0] h) (fun _ h1 => RetK h.length Q (.d .none) h1) ⟨RetK h.length Q, fun _ _ => False, fun _ _ => False, fun c fs _ h1 => E c fs (h1.take h.length)⟩) : Wp (m_is_whole [v0] h) Q E := wp_def rfl rfl w
noncomputable def b_shared : Sv := sSeq (sSet 0 (eBlt gAbs (aCons (eVar 0) (aNil))))
    (sSeq (sSet 1 (eBlt gAbs (aCons (eVar 1) (aNil))))
    (sSeq (sWhile (eT (eOp (gInt fGt) (eVar 1) (eD (.int 0)))) (sPar 0 1 (aCons (eVar 1) (aCons (eOp (gInt fMod) (eVar 0) (eVar 1)) (aNil)))))
    (sRet (eVar 0))))
noncomputable def m_shared : Fn := mkF 2 2 b_shared
theorem en_shared {v0 v1 : Vl} {h : Hh} {Q : Vl → Hh → Prop} {E : XP} (w : Ws (b_shared [some v0, some v1] h) (fun _ h1 => RetK h.length Q (.d .none) h1) ⟨RetK h.length Q, fun _ _ => False, fun _ _ => False, fun c fs _ h1 => E c fs (h1.take h.length)⟩) : Wp (m_shared [v0, v1] h) Q E := wp_def rfl rfl w
noncomputable def b_fraction : Sv := sSeq (sSet 2 (eCall m_shared (aCons (eVar 0) (aCons (eVar 1) (aNil)))))
    (sSeq (sIf (eT (eOp (gInt fLt) (eVar 1) (eD (.int 0)))) (sSet 2 (eOp (gInt fSub) (eD (.int 0)) (eVar 2))) (sNil))
    (sRet (eTup (aCons (eOp (gInt fDiv) (eVar 0) (eVar 2)) (aCons (eOp (gInt fDiv) (eVar 1) (eVar 2)) (aNil))))))
noncomputable def m_fraction : Fn := mkF 2 3 b_fraction
theorem en_fraction {v0 v1 : Vl} {h : Hh} {Q : Vl → Hh → Prop} {E : XP} (w : Ws (b_fraction [some v0, some v1, none] h) (fun _ h1 => RetK h.length Q (.d .none) h1) ⟨RetK h.length Q, fun _ _ => False, fun _ _ => False, fun c fs _ h1 => E c fs (h1.take h.length)⟩) : Wp (m_fraction [v0, v1] h) Q E := wp_def rfl rfl w
noncomputable def b_is_fraction : Sv := sSeq (sIf (tvOr (tvNot (eT (eIsi .tuple (eVar 0)))) (tvOr (eT (eOp gNe (eBlt gLen (aCons (eVar 0) (aNil))) (eD (.int 2)))) (tvOr (tvNot (eT (eCall m_is_whole (aCons (eOp gIx (eVar 0) (eD (.int 0))) (aNil))))) (tvNot (eT (eCall m_is_whole (aCons (eOp gIx (eVar 0) (eD (.int 1))) (aNil)))))))) (sRet (eD (.bool false))) (sNil))
    (sRet (eAnd (eOp (gInt fGt) (eOp gIx (eVar 0) (eD (.int 1))) (eD (.int 0))) (eOp gEq (eCall m_shared (aCons (eOp gIx (eVar 0) (eD (.int 0))) (aCons (eOp gIx (eVar 0) (eD (.int 1))) (aNil)))) (eD (.int 1)))))
noncomputable def m_is_fraction : Fn := mkF 1 1 b_is_fraction
theorem en_is_fraction {v0 : Vl} {h : Hh} {Q : Vl → Hh → Prop} {E : XP} (w : Ws (b_is_fraction [some v0] h) (fun _ h1 => RetK h.length Q (.d .none) h1) ⟨RetK h.length Q, fun _ _ => False, fun _ _ => False, fun c fs _ h1 => E c fs (h1.take h.length)⟩) : Wp (m_is_fraction [v0] h) Q E := wp_def rfl rfl w
noncomputable def b_is_great : Sv := sRet (eOr (eOp (gInt fGt) (eBlt gAbs (aCons (eOp gIx (eVar 0) (eD (.int 0))) (aNil))) (eD c_GREATEST)) (eOp (gInt fGt) (eOp gIx (eVar 0) (eD (.int 1))) (eD c_GREATEST)))
noncomputable def m_is_great : Fn := mkF 1 1 b_is_great
theorem en_is_great {v0 : Vl} {h : Hh} {Q : Vl → Hh → Prop} {E : XP} (w : Ws (b_is_great [some v0] h) (fun _ h1 => RetK h.length Q (.d .none) h1) ⟨RetK h.length Q, fun _ _ => False, fun _ _ => False, fun c fs _ h1 => E c fs (h1.take h.length)⟩) : Wp (m_is_great [v0] h) Q E := wp_def rfl rfl w
noncomputable def b_need_small : Sv := sSeq (sIf (eT (eCall m_is_great (aCons (eVar 0) (aNil)))) (sRaise "TooGreat") (sNil))
    (sRet (eVar 0))
noncomputable def m_need_small : Fn := mkF 1 1 b_need_small
theorem en_need_small {v0 : Vl} {h : Hh} {Q : Vl → Hh → Prop} {E : XP} (w : Ws (b_need_small [some v0] h) (fun _ h1 => RetK h.length Q (.d .none) h1) ⟨RetK h.length Q, fun _ _ => False, fun _ _ => False, fun c fs _ h1 => E c fs (h1.take h.length)⟩) : Wp (m_need_small [v0] h) Q E := wp_def rfl rfl w
noncomputable def b_whole_of : Sv := sRet (eTup (aCons (eVar 0) (aCons (eD (.int 1)) (aNil))))
noncomputable def m_whole_of : Fn := mkF 1 1 b_whole_of
theorem en_whole_of {v0 : Vl} {h : Hh} {Q : Vl → Hh → Prop} {E : XP} (w : Ws (b_whole_of [some v0] h) (fun _ h1 => RetK h.length Q (.d .none) h1) ⟨RetK h.length Q, fun _ _ => False, fun _ _ => False, fun c fs _ h1 => E c fs (h1.take h.length)⟩) : Wp (m_whole_of [v0] h) Q E := wp_def rfl rfl w
noncomputable def b_plus : Sv := sRet (eCall m_fraction (aCons (eOp gAdd (eOp (gInt fMul) (eOp gIx (eVar 0) (eD (.int 0))) (eOp gIx (eVar 1) (eD (.int 1)))) (eOp (gInt fMul) (eOp gIx (eVar 1) (eD (.int 0))) (eOp gIx (eVar 0) (eD (.int 1))))) (aCons (eOp (gInt fMul) (eOp gIx (eVar 0) (eD (.int 1))) (eOp gIx (eVar 1) (eD (.int 1)))) (aNil))))
noncomputable def m_plus : Fn := mkF 2 2 b_plus
theorem en_plus {v0 v1 : Vl} {h : Hh} {Q : Vl → Hh → Prop} {E : XP} (w : Ws (b_plus [some v0, some v1] h) (fun _ h1 => RetK h.length Q (.d .none) h1) ⟨RetK h.length Q, fun _ _ => False, fun _ _ => False, fun c fs _ h1 => E c fs (h1.take h.length)⟩) : Wp (m_plus [v0, v1] h) Q E := wp_def rfl rfl w
noncomputable def b_turned : Sv := sRet (eTup (aCons (eOp (gInt fSub) (eD (.int 0)) (eOp gIx (eVar 0) (eD (.int 0)))) (aCons (eOp gIx (eVar 0) (eD (.int 1))) (aNil))))
noncomputable def m_turned : Fn := mkF 1 1 b_turned
theorem en_turned {v0 : Vl} {h : Hh} {Q : Vl → Hh → Prop} {E : XP} (w : Ws (b_turned [some v0] h) (fun _ h1 => RetK h.length Q (.d .none) h1) ⟨RetK h.length Q, fun _ _ => False, fun _ _ => False, fun c fs _ h1 => E c fs (h1.take h.length)⟩) : Wp (m_turned [v0] h) Q E := wp_def rfl rfl w
noncomputable def b_less : Sv := sRet (eCall m_plus (aCons (eVar 0) (aCons (eCall m_turned (aCons (eVar 1) (aNil))) (aNil))))
noncomputable def m_less : Fn := mkF 2 2 b_less
theorem en_less {v0 v1 : Vl} {h : Hh} {Q : Vl → Hh → Prop} {E : XP} (w : Ws (b_less [some v0, some v1] h) (fun _ h1 => RetK h.length Q (.d .none) h1) ⟨RetK h.length Q, fun _ _ => False, fun _ _ => False, fun c fs _ h1 => E c fs (h1.take h.length)⟩) : Wp (m_less [v0, v1] h) Q E := wp_def rfl rfl w
noncomputable def b_times : Sv := sRet (eCall m_fraction (aCons (eOp (gInt fMul) (eOp gIx (eVar 0) (eD (.int 0))) (eOp gIx (eVar 1) (eD (.int 0)))) (aCons (eOp (gInt fMul) (eOp gIx (eVar 0) (eD (.int 1))) (eOp gIx (eVar 1) (eD (.int 1)))) (aNil))))
noncomputable def m_times : Fn := mkF 2 2 b_times
theorem en_times {v0 v1 : Vl} {h : Hh} {Q : Vl → Hh → Prop} {E : XP} (w : Ws (b_times [some v0, some v1] h) (fun _ h1 => RetK h.length Q (.d .none) h1) ⟨RetK h.length Q, fun _ _ => False, fun _ _ => False, fun c fs _ h1 => E c fs (h1.take h.length)⟩) : Wp (m_times [v0, v1] h) Q E := wp_def rfl rfl w
noncomputable def b_over : Sv := sRet (eCall m_fraction (aCons (eOp (gInt fMul) (eOp gIx (eVar 0) (eD (.int 0))) (eOp gIx (eVar 1) (eD (.int 1)))) (aCons (eOp (gInt fMul) (eOp gIx (eVar 0) (eD (.int 1))) (eOp gIx (eVar 1) (eD (.int 0)))) (aNil))))
noncomputable def m_over : Fn := mkF 2 2 b_over
theorem en_over {v0 v1 : Vl} {h : Hh} {Q : Vl → Hh → Prop} {E : XP} (w : Ws (b_over [some v0, some v1] h) (fun _ h1 => RetK h.length Q (.d .none) h1) ⟨RetK h.length Q, fun _ _ => False, fun _ _ => False, fun c fs _ h1 => E c fs (h1.take h.length)⟩) : Wp (m_over [v0, v1] h) Q E := wp_def rfl rfl w
noncomputable def b_size_of : Sv := sRet (eTup (aCons (eBlt gAbs (aCons (eOp gIx (eVar 0) (eD (.int 0))) (aNil))) (aCons (eOp gIx (eVar 0) (eD (.int 1))) (aNil))))
noncomputable def m_size_of : Fn := mkF 1 1 b_size_of
theorem en_size_of {v0 : Vl} {h : Hh} {Q : Vl → Hh → Prop} {E : XP} (w : Ws (b_size_of [some v0] h) (fun _ h1 => RetK h.length Q (.d .none) h1) ⟨RetK h.length Q, fun _ _ => False, fun _ _ => False, fun c fs _ h1 => E c fs (h1.take h.length)⟩) : Wp (m_size_of [v0] h) Q E := wp_def rfl rfl w
noncomputable def b_is_less : Sv := sRet (eOp (gInt fLt) (eOp (gInt fMul) (eOp gIx (eVar 0) (eD (.int 0))) (eOp gIx (eVar 1) (eD (.int 1)))) (eOp (gInt fMul) (eOp gIx (eVar 1) (eD (.int 0))) (eOp gIx (eVar 0) (eD (.int 1)))))
noncomputable def m_is_less : Fn := mkF 2 2 b_is_less
theorem en_is_less {v0 v1 : Vl} {h : Hh} {Q : Vl → Hh → Prop} {E : XP} (w : Ws (b_is_less [some v0, some v1] h) (fun _ h1 => RetK h.length Q (.d .none) h1) ⟨RetK h.length Q, fun _ _ => False, fun _ _ => False, fun c fs _ h1 => E c fs (h1.take h.length)⟩) : Wp (m_is_less [v0, v1] h) Q E := wp_def rfl rfl w
noncomputable def b_lesser : Sv := sRet (eIf (eT (eCall m_is_less (aCons (eVar 1) (aCons (eVar 0) (aNil))))) (eVar 1) (eVar 0))
noncomputable def m_lesser : Fn := mkF 2 2 b_lesser
theorem en_lesser {v0 v1 : Vl} {h : Hh} {Q : Vl → Hh → Prop} {E : XP} (w : Ws (b_lesser [some v0, some v1] h) (fun _ h1 => RetK h.length Q (.d .none) h1) ⟨RetK h.length Q, fun _ _ => False, fun _ _ => False, fun c fs _ h1 => E c fs (h1.take h.length)⟩) : Wp (m_lesser [v0, v1] h) Q E := wp_def rfl rfl w
noncomputable def b_greater : Sv := sRet (eIf (eT (eCall m_is_less (aCons (eVar 0) (aCons (eVar 1) (aNil))))) (eVar 1) (eVar 0))
noncomputable def m_greater : Fn := mkF 2 2 b_greater
theorem en_greater {v0 v1 : Vl} {h : Hh} {Q : Vl → Hh → Prop} {E : XP} (w : Ws (b_greater [some v0, some v1] h) (fun _ h1 => RetK h.length Q (.d .none) h1) ⟨RetK h.length Q, fun _ _ => False, fun _ _ => False, fun c fs _ h1 => E c fs (h1.take h.length)⟩) : Wp (m_greater [v0, v1] h) Q E := wp_def rfl rfl w
noncomputable def b_power : Sv := sSeq (sSet 2 (eD (.int 1)))
    (sSeq (sSet 3 (eVar 0))
    (sSeq (sSet 4 (eBlt gAbs (aCons (eVar 1) (aNil))))
    (sSeq (sWhile (eT (eOp (gInt fGt) (eVar 4) (eD (.int 0)))) (sSeq (sIf (eT (eOp gEq (eOp (gInt fMod) (eVar 4) (eD (.int 2))) (eD (.int 1)))) (sSet 2 (eOp (gInt fMul) (eVar 2) (eVar 3))) (sNil))
    (sSeq (sSet 4 (eOp (gInt fDiv) (eVar 4) (eD (.int 2))))
    (sSet 3 (eIf (eT (eOp (gInt fGt) (eVar 4) (eD (.int 0)))) (eOp (gInt fMul) (eVar 3) (eVar 3)) (eVar 3))))))
    (sRet (eIf (eT (eOp (gInt fGe) (eVar 1) (eD (.int 0)))) (eTup (aCons (eVar 2) (aCons (eD (.int 1)) (aNil)))) (eTup (aCons (eD (.int 1)) (aCons (eVar 2) (aNil)))))))))
noncomputable def m_power : Fn := mkF 2 5 b_power
theorem en_power {v0 v1 : Vl} {h : Hh} {Q : Vl → Hh → Prop} {E : XP} (w : Ws (b_power [some v0, some v1, none, none, none] h) (fun _ h1 => RetK h.length Q (.d .none) h1) ⟨RetK h.length Q, fun _ _ => False, fun _ _ => False, fun c fs _ h1 => E c fs (h1.take h.length)⟩) : Wp (m_power [v0, v1] h) Q E := wp_def rfl rfl w
noncomputable def b_is_name : Sv := sSeq (sIf (tvOr (tvNot (eT (eIsi .str (eVar 0)))) (tvNot (eT (eChain (gInt fLe) (gInt fLe) (eD (.int 1)) (eBlt gLen (aCons (eVar 0) (aNil))) (eD c_MOST_LETTERS))))) (sRet (eD (.bool false))) (sNil))
    (sRet (eBlt gAll (aCons (eFz (eLc [1] (iv itS (eVar 0)) (gN 1) (tvYes) (eOp (gInS false) (eVar 1) (eD c_LETTERS)))) (aNil))))
noncomputable def m_is_name : Fn := mkF 1 2 b_is_name
theorem en_is_name {v0 : Vl} {h : Hh} {Q : Vl → Hh → Prop} {E : XP} (w : Ws (b_is_name [some v0, none] h) (fun _ h1 => RetK h.length Q (.d .none) h1) ⟨RetK h.length Q, fun _ _ => False, fun _ _ => False, fun c fs _ h1 => E c fs (h1.take h.length)⟩) : Wp (m_is_name [v0] h) Q E := wp_def rfl rfl w
noncomputable def b_is_work : Sv := sSeq (sIf (tvOr (tvNot (eT (eIsi .tuple (eVar 0)))) (tvOr (eT (eOp gEq (eVar 0) (eTup (aNil)))) (tvNot (eT (eIsi .str (eOp gIx (eVar 0) (eD (.int 0)))))))) (sRet (eD (.bool false))) (sNil))
    (sSeq (sIf (eT (eOp gEq (eOp gIx (eVar 0) (eD (.int 0))) (eD (.str "number")))) (sRet (eAnd (eOp gEq (eBlt gLen (aCons (eVar 0) (aNil))) (eD (.int 2))) (eAnd (eCall m_is_fraction (aCons (eOp gIx (eVar 0) (eD (.int 1))) (aNil))) (eNot (eCall m_is_great (aCons (eOp gIx (eVar 0) (eD (.int 1))) (aNil))))))) (sNil))
    (sSeq (sIf (tvOr (eT (eOp gNe (eOp (gGetC d_WANTS) (eOp gIx (eVar 0) (eD (.int 0))) (eD (.int 0))) (eOp (gInt fSub) (eBlt gLen (aCons (eVar 0) (aNil))) (eD (.int 1))))) (eT (eOp gEq (eBlt gLen (aCons (eVar 0) (aNil))) (eD (.int 1))))) (sRet (eD (.bool false))) (sNil))
    (sRet (eBlt gAll (aCons (eFz (eLc [2] (iv itQ (eFz (eSl (eVar 0) (oSome (eD (.int 1))) (oNone)))) (gN 2) (tvYes) (eAnd (eCall m_is_name (aCons (eVar 2) (aNil))) (eOp (gInD false) (eVar 2) (eVar 1))))) (aNil))))))
noncomputable def m_is_work : Fn := mkF 2 3 b_is_work
theorem en_is_work {v0 v1 : Vl} {h : Hh} {Q : Vl → Hh → Prop} {E : XP} (w : Ws (b_is_work [some v0, some v1, none] h) (fun _ h1 => RetK h.length Q (.d .none) h1) ⟨RetK h.length Q, fun _ _ => False, fun _ _ => False, fun c fs _ h1 => E c fs (h1.take h.length)⟩) : Wp (m_is_work [v0, v1] h) Q E := wp_def rfl rfl w
noncomputable def b_are_ins : Sv := sSeq (sIf (tvOr (tvNot (eT (eIsi .tuple (eVar 0)))) (tvOr (eT (eOp (gInt fGt) (eBlt gLen (aCons (eVar 0) (aNil))) (eD c_MOST_INS))) (tvNot (eT (eBlt gAll (aCons (eFz (eLc [1] (iv itQ (eVar 0)) (gN 1) (tvYes) (eCall m_is_name (aCons (eVar 1) (aNil))))) (aNil))))))) (sRet (eD (.bool false))) (sNil))
    (sRet (eOp gEq (eUnl (eVar 0)) (eBlt gLen (aCons (eVar 0) (aNil)))))
noncomputable def m_are_ins : Fn := mkF 1 2 b_are_ins
theorem en_are_ins {v0 : Vl} {h : Hh} {Q : Vl → Hh → Prop} {E : XP} (w : Ws (b_are_ins [some v0, none] h) (fun _ h1 => RetK h.length Q (.d .none) h1) ⟨RetK h.length Q, fun _ _ => False, fun _ _ => False, fun c fs _ h1 => E c fs (h1.take h.length)⟩) : Wp (m_are_ins [v0] h) Q E := wp_def rfl rfl w
noncomputable def b_is_row : Sv := sSeq (sIf (tvOr (tvNot (eT (eIsi .tuple (eVar 0)))) (tvOr (eT (eOp gNe (eBlt gLen (aCons (eVar 0) (aNil))) (eD (.int 2)))) (tvNot (eT (eCall m_is_name (aCons (eOp gIx (eVar 0) (eD (.int 0))) (aNil))))))) (sRet (eD (.bool false))) (sNil))
    (sRet (eAnd (eOp (gInD true) (eOp gIx (eVar 0) (eD (.int 0))) (eVar 1)) (eCall m_is_work (aCons (eOp gIx (eVar 0) (eD (.int 1))) (aCons (eVar 1) (aNil))))))
noncomputable def m_is_row : Fn := mkF 2 2 b_is_row
theorem en_is_row {v0 v1 : Vl} {h : Hh} {Q : Vl → Hh → Prop} {E : XP} (w : Ws (b_is_row [some v0, some v1] h) (fun _ h1 => RetK h.length Q (.d .none) h1) ⟨RetK h.length Q, fun _ _ => False, fun _ _ => False, fun c fs _ h1 => E c fs (h1.take h.length)⟩) : Wp (m_is_row [v0, v1] h) Q E := wp_def rfl rfl w
noncomputable def bl_wrong_row_1 : Sv := sSeq (sIf (tvNot (eT (eCall m_is_row (aCons (eVar 4) (aCons (eVar 1) (aNil)))))) (sRet (eVar 3)) (sNil))
    (sAsg (gSetD (eVar 1) (eOp gIx (eVar 4) (eD (.int 0)))) (eD (.bool true)))
noncomputable def b_wrong_row : Sv := sSeq (sIf (tvOr (tvNot (eT (eIsi .tuple (eVar 0)))) (tvOr (eT (eOp gNe (eBlt gLen (aCons (eVar 0) (aNil))) (eD (.int 2)))) (tvNot (eT (eCall m_are_ins (aCons (eOp gIx (eVar 0) (eD (.int 0))) (aNil))))))) (sRet (eNeg (eD (.int 1)))) (sNil))
    (sSeq (sIf (tvOr (tvNot (eT (eIsi .tuple (eOp gIx (eVar 0) (eD (.int 1)))))) (tvNot (eT (eChain (gInt fLe) (gInt fLe) (eD (.int 1)) (eBlt gLen (aCons (eOp gIx (eVar 0) (eD (.int 1))) (aNil))) (eD c_MOST_ROWS))))) (sRet (eNeg (eD (.int 1)))) (sNil))
    (sSeq (sSet 1 (eBlt gDP (aCons (eFz (eLc [2] (iv itQ (eOp gIx (eVar 0) (eD (.int 0)))) (gN 2) (tvYes) (eTup (aCons (eVar 2) (aCons (eD (.bool true)) (aNil)))))) (aNil))))
    (sSeq (sFor (iEnumB (aCons (eOp gIx (eVar 0) (eD (.int 1))) (aNil))) (gTupT 2 (gsCons (gN 3) (gsCons (gN 4) (gsNil)))) bl_wrong_row_1)
    (sRet (eD .none)))))
noncomputable def m_wrong_row : Fn := mkF 1 5 b_wrong_row
theorem en_wrong_row {v0 : Vl} {h : Hh} {Q : Vl → Hh → Prop} {E : XP} (w : Ws (b_wrong_row [some v0, none, none, none, none] h) (fun _ h1 => RetK h.length Q (.d .none) h1) ⟨RetK h.length Q, fun _ _ => False, fun _ _ => False, fun c fs _ h1 => E c fs (h1.take h.length)⟩) : Wp (m_wrong_row [v0] h) Q E := wp_def rfl rfl w
noncomputable def b_need_program : Sv := sSeq (sSet 1 (eCall m_wrong_row (aCons (eVar 0) (aNil))))
    (sIf (eT (eOp gNotN (eVar 1) (eD .none))) (sRaise1 "BadProgram" "row" (eVar 1)) (sNil))
noncomputable def m_need_program : Fn := mkF 1 2 b_need_program
theorem en_need_program {v0 : Vl} {h : Hh} {Q : Vl → Hh → Prop} {E : XP} (w : Ws (b_need_program [some v0, none] h) (fun _ h1 => RetK h.length Q (.d .none) h1) ⟨RetK h.length Q, fun _ _ => False, fun _ _ => False, fun c fs _ h1 => E c fs (h1.take h.length)⟩) : Wp (m_need_program [v0] h) Q E := wp_def rfl rfl w
noncomputable def b_is_enough : Sv := sRet (eCall m_is_less (aCons (eVar 1) (aCons (eCall m_power (aCons (eOp gIx (eVar 0) (eD (.int 0))) (aCons (eOp gAdd (eVar 2) (eOp gIx (eVar 0) (eD (.int 1)))) (aNil)))) (aNil))))
noncomputable def m_is_enough : Fn := mkF 3 3 b_is_enough
theorem en_is_enough {v0 v1 v2 : Vl} {h : Hh} {Q : Vl → Hh → Prop} {E : XP} (w : Ws (b_is_enough [some v0, some v1, some v2] h) (fun _ h1 => RetK h.length Q (.d .none) h1) ⟨RetK h.length Q, fun _ _ => False, fun _ _ => False, fun c fs _ h1 => E c fs (h1.take h.length)⟩) : Wp (m_is_enough [v0, v1, v2] h) Q E := wp_def rfl rfl w
noncomputable def b_place_of : Sv := sSeq (sSet 2 (eCall m_size_of (aCons (eVar 1) (aNil))))
    (sSeq (sSet 3 (eOp gIx (eVar 0) (eD (.int 2))))
    (sSeq (sIf (eT (eCall m_is_enough (aCons (eVar 0) (aCons (eVar 2) (aCons (eVar 3) (aNil)))))) (sRet (eVar 3)) (sNil))
    (sSeq (sSet 4 (eD (.int 1)))
    (sSeq (sWhile (tvNot (eT (eCall m_is_enough (aCons (eVar 0) (aCons (eVar 2) (aCons (eOp gAdd (eVar 3) (eVar 4)) (aNil))))))) (sSet 4 (eOp (gInt fMul) (eVar 4) (eD (.int 2)))))
    (sSeq (sSet 5 (eOp gAdd (eVar 3) (eVar 4)))
    (sSeq (sSet 3 (eOp gAdd (eVar 3) (eOp (gInt fDiv) (eVar 4) (eD (.int 2)))))
    (sSeq (sWhile (eT (eOp (gInt fGt) (eOp (gInt fSub) (eVar 5) (eVar 3)) (eD (.int 1)))) (sSeq (sSet 6 (eOp (gInt fDiv) (eOp gAdd (eVar 3) (eVar 5)) (eD (.int 2))))
    (sIf (eT (eCall m_is_enough (aCons (eVar 0) (aCons (eVar 2) (aCons (eVar 6) (aNil)))))) (sSet 5 (eVar 6)) (sSet 3 (eVar 6)))))
    (sRet (eVar 5)))))))))
noncomputable def m_place_of : Fn := mkF 2 7 b_place_of
theorem en_place_of {v0 v1 : Vl} {h : Hh} {Q : Vl → Hh → Prop} {E : XP} (w : Ws (b_place_of [some v0, some v1, none, none, none, none, none] h) (fun _ h1 => RetK h.length Q (.d .none) h1) ⟨RetK h.length Q, fun _ _ => False, fun _ _ => False, fun c fs _ h1 => E c fs (h1.take h.length)⟩) : Wp (m_place_of [v0, v1] h) Q E := wp_def rfl rfl w
noncomputable def b_step_of : Sv := sRet (eCall m_power (aCons (eOp gIx (eVar 0) (eD (.int 0))) (aCons (eCall m_place_of (aCons (eVar 0) (aCons (eVar 1) (aNil)))) (aNil))))
noncomputable def m_step_of : Fn := mkF 2 2 b_step_of
theorem en_step_of {v0 v1 : Vl} {h : Hh} {Q : Vl → Hh → Prop} {E : XP} (w : Ws (b_step_of [some v0, some v1] h) (fun _ h1 => RetK h.length Q (.d .none) h1) ⟨RetK h.length Q, fun _ _ => False, fun _ _ => False, fun c fs _ h1 => E c fs (h1.take h.length)⟩) : Wp (m_step_of [v0, v1] h) Q E := wp_def rfl rfl w
noncomputable def b_whole_by : Sv := sSeq (sSet 3 (eOp (gInt fDiv) (eVar 1) (eVar 2)))
    (sSeq (sSet 4 (eOp (gInt fMod) (eVar 1) (eVar 2)))
    (sSeq (sIf (eT (eOp gEq (eVar 0) (eD (.str "near")))) (sSet 5 (eOr (eOp (gInt fGt) (eOp (gInt fMul) (eVar 4) (eD (.int 2))) (eVar 2)) (eAnd (eOp gEq (eOp (gInt fMul) (eVar 4) (eD (.int 2))) (eVar 2)) (eOp gEq (eOp (gInt fMod) (eVar 3) (eD (.int 2))) (eD (.int 1)))))) (sIf (eT (eOp gEq (eVar 0) (eD (.str "nought")))) (sSet 5 (eAnd (eOp (gInt fLt) (eVar 1) (eD (.int 0))) (eOp (gInt fGt) (eVar 4) (eD (.int 0))))) (sSet 5 (eAnd (eOp gEq (eVar 0) (eD (.str "up"))) (eOp (gInt fGt) (eVar 4) (eD (.int 0)))))))
    (sRet (eOp gAdd (eVar 3) (eBlt gInt1 (aCons (eVar 5) (aNil)))))))
noncomputable def m_whole_by : Fn := mkF 3 6 b_whole_by
theorem en_whole_by {v0 v1 v2 : Vl} {h : Hh} {Q : Vl → Hh → Prop} {E : XP} (w : Ws (b_whole_by [some v0, some v1, some v2, none, none, none] h) (fun _ h1 => RetK h.length Q (.d .none) h1) ⟨RetK h.length Q, fun _ _ => False, fun _ _ => False, fun c fs _ h1 => E c fs (h1.take h.length)⟩) : Wp (m_whole_by [v0, v1, v2] h) Q E := wp_def rfl rfl w
noncomputable def b_rounded : Sv := sSeq (sSet 2 (eCall m_step_of (aCons (eVar 0) (aCons (eVar 1) (aNil)))))
    (sSeq (sSet 3 (eCall m_over (aCons (eVar 1) (aCons (eVar 2) (aNil)))))
    (sRet (eCall m_times (aCons (eCall m_whole_of (aCons (eCall m_whole_by (aCons (eOp gIx (eVar 0) (eD (.int 3))) (aCons (eOp gIx (eVar 3) (eD (.int 0))) (aCons (eOp gIx (eVar 3) (eD (.int 1))) (aNil))))) (aNil))) (aCons (eVar 2) (aNil))))))
noncomputable def m_rounded : Fn := mkF 2 4 b_rounded
theorem en_rounded {v0 v1 : Vl} {h : Hh} {Q : Vl → Hh → Prop} {E : XP} (w : Ws (b_rounded [some v0, some v1, none, none] h) (fun _ h1 => RetK h.length Q (.d .none) h1) ⟨RetK h.length Q, fun _ _ => False, fun _ _ => False, fun c fs _ h1 => E c fs (h1.take h.length)⟩) : Wp (m_rounded [v0, v1] h) Q E := wp_def rfl rfl w
noncomputable def b_exact : Sv := sSeq (sSet 2 (eOp gIx (eVar 0) (eD (.int 0))))
    (sSeq (sIf (eT (eOp gEq (eVar 2) (eD (.str "number")))) (sRet (eOp gIx (eVar 0) (eD (.int 1)))) (sNil))
    (sSeq (sSet 3 (eOp gIw (eVar 1) (eOp gIx (eVar 0) (eD (.int 1)))))
    (sSeq (sIf (eT (eOp gEq (eVar 2) (eD (.str "turned")))) (sRet (eCall m_turned (aCons (eVar 3) (aNil)))) (sNil))
    (sSeq (sIf (eT (eOp gEq (eVar 2) (eD (.str "size")))) (sRet (eCall m_size_of (aCons (eVar 3) (aNil)))) (sNil))
    (sSeq (sSet 4 (eOp gIw (eVar 1) (eOp gIx (eVar 0) (eD (.int 2)))))
    (sSeq (sIf (eT (eOp gEq (eVar 2) (eD (.str "pick")))) (sRet (eIf (eT (eCall m_is_less (aCons (eVar 3) (aCons (eVar 4) (aNil))))) (eOp gIw (eVar 1) (eOp gIx (eVar 0) (eD (.int 3)))) (eOp gIw (eVar 1) (eOp gIx (eVar 0) (eD (.int 4)))))) (sNil))
    (sSeq (sIf (eT (eOp gEq (eVar 2) (eD (.str "over")))) (sRet (eIf (eT (eOp gEq (eVar 4) (eD c_NOUGHT))) (eD .none) (eCall m_over (aCons (eVar 3) (aCons (eVar 4) (aNil)))))) (sNil))
    (sSeq (sSet 5 (eDct (pCons (eD (.str "plus")) (eD (fnD "plus")) (pCons (eD (.str "less")) (eD (fnD "less")) (pCons (eD (.str "times")) (eD (fnD "times")) (pCons (eD (.str "least")) (eD (fnD "lesser")) (pCons (eD (.str "most")) (eD (fnD "greater")) (pNil))))))))
    (sRet (eCallF [("plus", m_plus), ("less", m_less), ("times", m_times), ("lesser", m_lesser), ("greater", m_greater)] (eOp gIw (eVar 5) (eVar 2)) (aCons (eVar 3) (aCons (eVar 4) (aNil)))))))))))))
noncomputable def m_exact : Fn := mkF 2 6 b_exact
theorem en_exact {v0 v1 : Vl} {h : Hh} {Q : Vl → Hh → Prop} {E : XP} (w : Ws (b_exact [some v0, some v1, none, none, none, none] h) (fun _ h1 => RetK h.length Q (.d .none) h1) ⟨RetK h.length Q, fun _ _ => False, fun _ _ => False, fun c fs _ h1 => E c fs (h1.take h.length)⟩) : Wp (m_exact [v0, v1] h) Q E := wp_def rfl rfl w
noncomputable def bl_done_1 : Sv := sSeq (sSet 8 (eCall m_exact (aCons (eVar 7) (aCons (eVar 3) (aNil)))))
    (sSeq (sIf (eT (eOp gIsN (eVar 8) (eD .none))) (sRaise1 "ByNought" "row" (eVar 5)) (sNil))
    (sSeq (sAsg (gSetD (eVar 3) (eVar 6)) (eCall m_need_small (aCons (eIf (eT (eOp gIsN (eVar 2) (eD .none))) (eVar 8) (eCall m_rounded (aCons (eVar 2) (aCons (eVar 8) (aNil))))) (aNil))))
    (sExpr (eMt tyL gApp (eVar 4) (aCons (eOp gIw (eVar 3) (eVar 6)) (aNil))))))
noncomputable def b_done : Sv := sSeq (sSet 3 (eBlt gDZT (aCons (eOp gIx (eVar 0) (eD (.int 0))) (aCons (eVar 1) (aNil)))))
    (sSeq (sSet 4 (eLst (aNil)))
    (sSeq (sFor (iEnumB (aCons (eOp gIx (eVar 0) (eD (.int 1))) (aNil))) (gTupT 2 (gsCons (gN 5) (gsCons (gTupT 2 (gsCons (gN 6) (gsCons (gN 7) (gsNil)))) (gsNil)))) bl_done_1)
    (sSeq (sFrz 4)
    (sRet (eBlt gTuple (aCons (eVar 4) (aNil)))))))
noncomputable def m_done : Fn := mkF 3 9 b_done
theorem en_done {v0 v1 v2 : Vl} {h : Hh} {Q : Vl → Hh → Prop} {E : XP} (w : Ws (b_done [some v0, some v1, some v2, none, none, none, none, none, none] h) (fun _ h1 => RetK h.length Q (.d .none) h1) ⟨RetK h.length Q, fun _ _ => False, fun _ _ => False, fun c fs _ h1 => E c fs (h1.take h.length)⟩) : Wp (m_done [v0, v1, v2] h) Q E := wp_def rfl rfl w
noncomputable def b_are_fractions : Sv := sSeq (sIf (tvOr (tvNot (eT (eIsi .tuple (eVar 1)))) (eT (eOp gNe (eBlt gLen (aCons (eVar 1) (aNil))) (eBlt gLen (aCons (eOp gIx (eVar 0) (eD (.int 0))) (aNil)))))) (sRet (eD (.bool false))) (sNil))
    (sRet (eBlt gAll (aCons (eFz (eLc [2] (iv itQ (eVar 1)) (gN 2) (tvYes) (eAnd (eCall m_is_fraction (aCons (eVar 2) (aNil))) (eNot (eCall m_is_great (aCons (eVar 2) (aNil))))))) (aNil))))
noncomputable def m_are_fractions : Fn := mkF 2 3 b_are_fractions
theorem en_are_fractions {v0 v1 : Vl} {h : Hh} {Q : Vl → Hh → Prop} {E : XP} (w : Ws (b_are_fractions [some v0, some v1, none] h) (fun _ h1 => RetK h.length Q (.d .none) h1) ⟨RetK h.length Q, fun _ _ => False, fun _ _ => False, fun c fs _ h1 => E c fs (h1.take h.length)⟩) : Wp (m_are_fractions [v0, v1] h) Q E := wp_def rfl rfl w
noncomputable def b_true_run : Sv := sSeq (sExpr (eCall m_need_program (aCons (eVar 0) (aNil))))
    (sSeq (sIf (tvNot (eT (eCall m_are_fractions (aCons (eVar 0) (aCons (eVar 1) (aNil)))))) (sRaise "BadInput") (sNil))
    (sRet (eCall m_done (aCons (eVar 0) (aCons (eVar 1) (aCons (eD .none) (aNil)))))))
noncomputable def m_true_run : Fn := mkF 2 2 b_true_run
theorem en_true_run {v0 v1 : Vl} {h : Hh} {Q : Vl → Hh → Prop} {E : XP} (w : Ws (b_true_run [some v0, some v1] h) (fun _ h1 => RetK h.length Q (.d .none) h1) ⟨RetK h.length Q, fun _ _ => False, fun _ _ => False, fun c fs _ h1 => E c fs (h1.take h.length)⟩) : Wp (m_true_run [v0, v1] h) Q E := wp_def rfl rfl w
noncomputable def b__law_mixed : Sv := sSeq (sSet 0 (eOp (gInt fMod) (eOp (gInt fMul) (eOp gAdd (eOp gAdd (eOp gAdd (eOp (gInt fMod) (eVar 0) (eD (.int 2147483647))) (eOp (gInt fMul) (eOp (gInt fMul) (eD (.int 7919)) (eVar 1)) (eVar 1))) (eOp (gInt fMul) (eD (.int 31)) (eVar 1))) (eD (.int 5))) (eD (.int 48271))) (eD (.int 2147483647))))
    (sRet (eOp (gInt fMod) (eOp (gInt fMul) (eVar 0) (eD (.int 69621))) (eD (.int 2147483629))))
noncomputable def m__law_mixed : Fn := mkF 2 2 b__law_mixed
theorem en__law_mixed {v0 v1 : Vl} {h : Hh} {Q : Vl → Hh → Prop} {E : XP} (w : Ws (b__law_mixed [some v0, some v1] h) (fun _ h1 => RetK h.length Q (.d .none) h1) ⟨RetK h.length Q, fun _ _ => False, fun _ _ => False, fun c fs _ h1 => E c fs (h1.take h.length)⟩) : Wp (m__law_mixed [v0, v1] h) Q E := wp_def rfl rfl w
noncomputable def bl__law_draws_1 : Sv := sSeq (sSet 5 (eOp gAdd (eVar 4) (eOp (gInt fMul) (eD (.int 7)) (eBlt gSum (aCons (eFz (eSt (eVar 0) (oSome (eOp gAdd (eD (.int 12)) (eVar 3))) (oNone) (oSome (eD (.int 12))))) (aNil))))))
    (sApR 2 (eDct (pCons (eD (.str "cell")) (eIf (eT (eOp (gInt fGe) (eVar 4) (eOp (gInt fPow) (eD (.int 10)) (eD (.int 18))))) (eVar 4) (eD (.int 0))) (pCons (eD (.str "seed")) (eCall m__law_mixed (aCons (eVar 5) (aCons (eOp gAdd (eVar 3) (eD (.int 1))) (aNil)))) (pNil)))))
noncomputable def b__law_draws : Sv := sSeq (sSet 1 (eIf (eT (eOp gNe (eVar 0) (eFz (eLst (aNil))))) (eFz (eSl (eVar 0) (oNone) (oSome (eD (.int 12))))) (eFz (eLst (aCons (eD (.int 0)) (aNil))))))
    (sSeq (sSet 2 (eLst (aNil)))
    (sSeq (sFor (iEnumB (aCons (eVar 1) (aNil))) (gTupT 2 (gsCons (gN 3) (gsCons (gN 4) (gsNil)))) bl__law_draws_1)
    (sRet (eVar 2))))
noncomputable def m__law_draws : Fn := mkFN 1 6 b__law_draws
theorem en__law_draws {v0 : Vl} {h : Hh} {Q : Vl → Hh → Prop} {E : XP} (w : Ws (b__law_draws [some v0, none, none, none, none, none] h) (fun _ h1 => Q (.d .none) h1) ⟨Q, fun _ _ => False, fun _ _ => False, fun c fs _ h1 => E c fs h1⟩) : Wp (m__law_draws [v0] h) Q E := wp_defN rfl rfl w
noncomputable def b__law_take : Sv := sSeq (sIf (eT (eOp (gInt fGt) (eOp gDG (eVar 0) (eD (.str "cell"))) (eD (.int 0)))) (sSeq (sSet 2 (eOp (gInt fMod) (eOp gDG (eVar 0) (eD (.str "cell"))) (eVar 1)))
    (sSeq (sAsg (gSetD (eVar 0) (eD (.str "cell"))) (eOp (gInt fDiv) (eOp gDG (eVar 0) (eD (.str "cell"))) (eVar 1)))
    (sRet (eVar 2)))) (sNil))
    (sSeq (sAsg (gSetD (eVar 0) (eD (.str "seed"))) (eCall m__law_mixed (aCons (eOp gDG (eVar 0) (eD (.str "seed"))) (aCons (eVar 1) (aNil)))))
    (sRet (eOp (gInt fMod) (eOp (gInt fDiv) (eOp gDG (eVar 0) (eD (.str "seed"))) (eD (.int 7))) (eVar 1))))
noncomputable def m__law_take : Fn := mkF 2 3 b__law_take
theorem en__law_take {v0 v1 : Vl} {h : Hh} {Q : Vl → Hh → Prop} {E : XP} (w : Ws (b__law_take [some v0, some v1, none] h) (fun _ h1 => RetK h.length Q (.d .none) h1) ⟨RetK h.length Q, fun _ _ => False, fun _ _ => False, fun c fs _ h1 => E c fs (h1.take h.length)⟩) : Wp (m__law_take [v0, v1] h) Q E := wp_def rfl rfl w
noncomputable def b__law_share : Sv := sSeq (sPar 2 3 (aCons (eBlt gAbs (aCons (eVar 0) (aNil))) (aCons (eBlt gAbs (aCons (eVar 1) (aNil))) (aNil))))
    (sSeq (sWhile (eT (eOp (gInt fGt) (eVar 3) (eD (.int 0)))) (sPar 2 3 (aCons (eVar 3) (aCons (eOp (gInt fMod) (eVar 2) (eVar 3)) (aNil)))))
    (sSeq (sSet 2 (eIf (eT (eOp (gInt fGt) (eVar 1) (eD (.int 0)))) (eVar 2) (eOp (gInt fSub) (eD (.int 0)) (eVar 2))))
    (sRet (eTup (aCons (eOp (gInt fDiv) (eVar 0) (eVar 2)) (aCons (eOp (gInt fDiv) (eVar 1) (eVar 2)) (aNil)))))))
noncomputable def m__law_share : Fn := mkF 2 4 b__law_share
theorem en__law_share {v0 v1 : Vl} {h : Hh} {Q : Vl → Hh → Prop} {E : XP} (w : Ws (b__law_share [some v0, some v1, none, none] h) (fun _ h1 => RetK h.length Q (.d .none) h1) ⟨RetK h.length Q, fun _ _ => False, fun _ _ => False, fun c fs _ h1 => E c fs (h1.take h.length)⟩) : Wp (m__law_share [v0, v1] h) Q E := wp_def rfl rfl w
noncomputable def b__law_sum : Sv := sRet (eCall m__law_share (aCons (eOp gAdd (eOp (gInt fMul) (eOp gIx (eVar 0) (eD (.int 0))) (eOp gIx (eVar 1) (eD (.int 1)))) (eOp (gInt fMul) (eOp (gInt fMul) (eVar 2) (eOp gIx (eVar 1) (eD (.int 0)))) (eOp gIx (eVar 0) (eD (.int 1))))) (aCons (eOp (gInt fMul) (eOp gIx (eVar 0) (eD (.int 1))) (eOp gIx (eVar 1) (eD (.int 1)))) (aNil))))
noncomputable def m__law_sum : Fn := mkF 3 3 b__law_sum
theorem en__law_sum {v0 v1 v2 : Vl} {h : Hh} {Q : Vl → Hh → Prop} {E : XP} (w : Ws (b__law_sum [some v0, some v1, some v2] h) (fun _ h1 => RetK h.length Q (.d .none) h1) ⟨RetK h.length Q, fun _ _ => False, fun _ _ => False, fun c fs _ h1 => E c fs (h1.take h.length)⟩) : Wp (m__law_sum [v0, v1, v2] h) Q E := wp_def rfl rfl w
noncomputable def b__law_is_less : Sv := sRet (eOp (gInt fLt) (eOp (gInt fMul) (eOp gIx (eVar 0) (eD (.int 0))) (eOp gIx (eVar 1) (eD (.int 1)))) (eOp (gInt fMul) (eOp gIx (eVar 1) (eD (.int 0))) (eOp gIx (eVar 0) (eD (.int 1)))))
noncomputable def m__law_is_less : Fn := mkF 2 2 b__law_is_less
theorem en__law_is_less {v0 v1 : Vl} {h : Hh} {Q : Vl → Hh → Prop} {E : XP} (w : Ws (b__law_is_less [some v0, some v1] h) (fun _ h1 => RetK h.length Q (.d .none) h1) ⟨RetK h.length Q, fun _ _ => False, fun _ _ => False, fun c fs _ h1 => E c fs (h1.take h.length)⟩) : Wp (m__law_is_less [v0, v1] h) Q E := wp_def rfl rfl w
noncomputable def bl__law_names_1 : Sv := sSeq (sSet 9 (eOp gIx (eVar 2) (eOp (gInt fMod) (eOp gAdd (eVar 3) (eOp (gInt fMul) (eVar 4) (eVar 8))) (eD (.int 26)))))
    (sExpr (eMt tyL gApp (eVar 7) (aCons (eIf (eT (eOp gEq (eVar 6) (eD (.int 0)))) (eOp gAdd (eVar 9) (eFz (eSl (eD (.str "maple")) (oNone) (oSome (eCall m__law_take (aCons (eVar 0) (aCons (eD (.int 6)) (aNil)))))))) (eOp gAdd (eVar 5) (eVar 9))) (aNil))))
noncomputable def b__law_names : Sv := sSeq (sSet 2 (eD (.str "abcdefghijklmnopqrstuvwxyz")))
    (sSeq (sPar 3 4 (aCons (eCall m__law_take (aCons (eVar 0) (aCons (eD (.int 26)) (aNil)))) (aCons (eOp gIx (eFz (eLst (aCons (eD (.int 1)) (aCons (eD (.int 3)) (aCons (eD (.int 5)) (aCons (eD (.int 7)) (aCons (eD (.int 9)) (aCons (eD (.int 11)) (aNil))))))))) (eCall m__law_take (aCons (eVar 0) (aCons (eD (.int 6)) (aNil))))) (aNil))))
    (sSeq (sSet 5 (eFz (eSl (eD (.str "zebra")) (oNone) (oSome (eCall m__law_take (aCons (eVar 0) (aCons (eD (.int 6)) (aNil))))))))
    (sSeq (sSet 6 (eCall m__law_take (aCons (eVar 0) (aCons (eD (.int 2)) (aNil)))))
    (sSeq (sSet 7 (eLst (aNil)))
    (sSeq (sFor (iRange1 (aCons (eVar 1) (aNil))) (gN 8) bl__law_names_1)
    (sSeq (sFrz 7)
    (sRet (eVar 7))))))))
noncomputable def m__law_names : Fn := mkF 2 10 b__law_names
theorem en__law_names {v0 v1 : Vl} {h : Hh} {Q : Vl → Hh → Prop} {E : XP} (w : Ws (b__law_names [some v0, some v1, none, none, none, none, none, none, none, none] h) (fun _ h1 => RetK h.length Q (.d .none) h1) ⟨RetK h.length Q, fun _ _ => False, fun _ _ => False, fun c fs _ h1 => E c fs (h1.take h.length)⟩) : Wp (m__law_names [v0, v1] h) Q E := wp_def rfl rfl w
noncomputable def b__law_constant : Sv := sSeq (sPar 1 2 (aCons (eOp (gInt fSub) (eCall m__law_take (aCons (eVar 0) (aCons (eD (.int 61)) (aNil)))) (eD (.int 30))) (aCons (eOp gAdd (eD (.int 1)) (eCall m__law_take (aCons (eVar 0) (aCons (eD (.int 12)) (aNil))))) (aNil))))
    (sSeq (sIf (eT (eOp gEq (eCall m__law_take (aCons (eVar 0) (aCons (eD (.int 12)) (aNil)))) (eD (.int 0)))) (sSet 1 (eOp gAdd (eOp (gInt fMul) (eVar 1) (eOp (gInt fPow) (eD (.int 10)) (eD (.int 20)))) (eCall m__law_take (aCons (eVar 0) (aCons (eOp (gInt fPow) (eD (.int 10)) (eD (.int 9))) (aNil)))))) (sNil))
    (sRet (eCall m__law_share (aCons (eVar 1) (aCons (eVar 2) (aNil))))))
noncomputable def m__law_constant : Fn := mkF 1 3 b__law_constant
theorem en__law_constant {v0 : Vl} {h : Hh} {Q : Vl → Hh → Prop} {E : XP} (w : Ws (b__law_constant [some v0, none, none] h) (fun _ h1 => RetK h.length Q (.d .none) h1) ⟨RetK h.length Q, fun _ _ => False, fun _ _ => False, fun c fs _ h1 => E c fs (h1.take h.length)⟩) : Wp (m__law_constant [v0] h) Q E := wp_def rfl rfl w
noncomputable def b__law_work : Sv := sSeq (sSet 2 (eFz (eLst (aCons (eD (.str "plus")) (aCons (eD (.str "less")) (aCons (eD (.str "times")) (aCons (eD (.str "over")) (aCons (eD (.str "turned")) (aCons (eD (.str "size")) (aCons (eD (.str "least")) (aCons (eD (.str "most")) (aCons (eD (.str "pick")) (aCons (eD (.str "number")) (aNil))))))))))))))
    (sSeq (sSet 3 (eIf (eT (eOp gNe (eVar 1) (eFz (eLst (aNil))))) (eCall m__law_take (aCons (eVar 0) (aCons (eD (.int 10)) (aNil)))) (eD (.int 9))))
    (sSeq (sIf (eT (eOp gEq (eVar 3) (eD (.int 9)))) (sRet (eTup (aCons (eD (.str "number")) (aCons (eCall m__law_constant (aCons (eVar 0) (aNil))) (aNil))))) (sNil))
    (sSeq (sSet 4 (eOp gIx (eFz (eLst (aCons (eD (.int 2)) (aCons (eD (.int 2)) (aCons (eD (.int 2)) (aCons (eD (.int 2)) (aCons (eD (.int 1)) (aCons (eD (.int 1)) (aCons (eD (.int 2)) (aCons (eD (.int 2)) (aCons (eD (.int 4)) (aNil)))))))))))) (eVar 3)))
    (sRet (eOp gAdd (eTup (aCons (eOp gIy (eVar 2) (eVar 3)) (aNil))) (eBlt gTuple (aCons (eFz (eLc [5] (iRange1 (aCons (eVar 4) (aNil))) (gN 5) (tvYes) (eOp gIx (eVar 1) (eCall m__law_take (aCons (eVar 0) (aCons (eBlt gLen (aCons (eVar 1) (aNil))) (aNil))))))) (aNil))))))))
noncomputable def m__law_work : Fn := mkF 2 6 b__law_work
theorem en__law_work {v0 v1 : Vl} {h : Hh} {Q : Vl → Hh → Prop} {E : XP} (w : Ws (b__law_work [some v0, some v1, none, none, none, none] h) (fun _ h1 => RetK h.length Q (.d .none) h1) ⟨RetK h.length Q, fun _ _ => False, fun _ _ => False, fun c fs _ h1 => E c fs (h1.take h.length)⟩) : Wp (m__law_work [v0, v1] h) Q E := wp_def rfl rfl w
noncomputable def bl__law_program_1 : Sv := sExpr (eMt tyL gApp (eVar 6) (aCons (eTup (aCons (eOp gIy (eVar 5) (eOp gAdd (eVar 3) (eVar 7))) (aCons (eCall m__law_work (aCons (eVar 0) (aCons (eFz (eSl (eVar 5) (oNone) (oSome (eOp gAdd (eVar 3) (eVar 7))))) (aNil)))) (aNil)))) (aNil)))
noncomputable def b__law_program : Sv := sSeq (sPar 3 4 (aCons (eCall m__law_take (aCons (eVar 0) (aCons (eOp gAdd (eVar 1) (eD (.int 1))) (aNil)))) (aCons (eOp gAdd (eD (.int 1)) (eCall m__law_take (aCons (eVar 0) (aCons (eVar 2) (aNil))))) (aNil))))
    (sSeq (sSet 5 (eCall m__law_names (aCons (eVar 0) (aCons (eOp gAdd (eVar 3) (eVar 4)) (aNil)))))
    (sSeq (sSet 6 (eLst (aNil)))
    (sSeq (sFor (iRange1 (aCons (eVar 4) (aNil))) (gN 7) bl__law_program_1)
    (sSeq (sFrz 6)
    (sRet (eTup (aCons (eBlt gTuple (aCons (eFz (eSl (eVar 5) (oNone) (oSome (eVar 3)))) (aNil))) (aCons (eBlt gTuple (aCons (eVar 6) (aNil))) (aNil)))))))))
noncomputable def m__law_program : Fn := mkF 3 8 b__law_program
theorem en__law_program {v0 v1 v2 : Vl} {h : Hh} {Q : Vl → Hh → Prop} {E : XP} (w : Ws (b__law_program [some v0, some v1, some v2, none, none, none, none, none] h) (fun _ h1 => RetK h.length Q (.d .none) h1) ⟨RetK h.length Q, fun _ _ => False, fun _ _ => False, fun c fs _ h1 => E c fs (h1.take h.length)⟩) : Wp (m__law_program [v0, v1, v2] h) Q E := wp_def rfl rfl w
noncomputable def b__law_exact : Sv := sSeq (sSet 2 (eOp gIx (eVar 0) (eD (.int 0))))
    (sSeq (sIf (eT (eOp gEq (eVar 2) (eD (.str "number")))) (sRet (eOp gIx (eVar 0) (eD (.int 1)))) (sNil))
    (sSeq (sSet 3 (eFz (eLc [4] (iv itQ (eFz (eSl (eVar 0) (oSome (eD (.int 1))) (oNone)))) (gN 4) (tvYes) (eOp gIw (eVar 1) (eVar 4)))))
    (sSeq (sPar 5 6 (aCons (eOp gIx (eVar 3) (eD (.int 0))) (aCons (eOp gIx (eVar 3) (eNeg (eD (.int 1)))) (aNil))))
    (sSeq (sIf (eT (eOp (gIn false) (eVar 2) (eTup (aCons (eD (.str "plus")) (aCons (eD (.str "less")) (aNil)))))) (sRet (eCall m__law_sum (aCons (eVar 5) (aCons (eVar 6) (aCons (eIf (eT (eOp gEq (eVar 2) (eD (.str "plus")))) (eD (.int 1)) (eNeg (eD (.int 1)))) (aNil)))))) (sNil))
    (sSeq (sIf (eT (eOp gEq (eVar 2) (eD (.str "times")))) (sRet (eCall m__law_share (aCons (eOp (gInt fMul) (eOp gIx (eVar 5) (eD (.int 0))) (eOp gIx (eVar 6) (eD (.int 0)))) (aCons (eOp (gInt fMul) (eOp gIx (eVar 5) (eD (.int 1))) (eOp gIx (eVar 6) (eD (.int 1)))) (aNil))))) (sNil))
    (sSeq (sIf (eT (eOp gEq (eVar 2) (eD (.str "over")))) (sRet (eIf (eT (eOp gEq (eOp gIx (eVar 6) (eD (.int 0))) (eD (.int 0)))) (eD .none) (eCall m__law_share (aCons (eOp (gInt fMul) (eOp gIx (eVar 5) (eD (.int 0))) (eOp gIx (eVar 6) (eD (.int 1)))) (aCons (eOp (gInt fMul) (eOp gIx (eVar 5) (eD (.int 1))) (eOp gIx (eVar 6) (eD (.int 0)))) (aNil)))))) (sNil))
    (sSeq (sIf (eT (eOp (gIn false) (eVar 2) (eTup (aCons (eD (.str "turned")) (aCons (eD (.str "size")) (aNil)))))) (sRet (eTup (aCons (eIf (eT (eOp gEq (eVar 2) (eD (.str "size")))) (eBlt gAbs (aCons (eOp gIx (eVar 5) (eD (.int 0))) (aNil))) (eOp (gInt fSub) (eD (.int 0)) (eOp gIx (eVar 5) (eD (.int 0))))) (aCons (eOp gIx (eVar 5) (eD (.int 1))) (aNil))))) (sNil))
    (sSeq (sIf (eT (eOp gEq (eVar 2) (eD (.str "pick")))) (sRet (eIf (eT (eCall m__law_is_less (aCons (eVar 5) (aCons (eOp gIx (eVar 3) (eD (.int 1))) (aNil))))) (eOp gIx (eVar 3) (eD (.int 2))) (eOp gIx (eVar 3) (eD (.int 3))))) (sNil))
    (sRet (eIf (eT (eOp gEq (eCall m__law_is_less (aCons (eVar 6) (aCons (eVar 5) (aNil)))) (eOp gEq (eVar 2) (eD (.str "least"))))) (eVar 6) (eVar 5)))))))))))
noncomputable def m__law_exact : Fn := mkF 2 7 b__law_exact
theorem en__law_exact {v0 v1 : Vl} {h : Hh} {Q : Vl → Hh → Prop} {E : XP} (w : Ws (b__law_exact [some v0, some v1, none, none, none, none, none] h) (fun _ h1 => RetK h.length Q (.d .none) h1) ⟨RetK h.length Q, fun _ _ => False, fun _ _ => False, fun c fs _ h1 => E c fs (h1.take h.length)⟩) : Wp (m__law_exact [v0, v1] h) Q E := wp_def rfl rfl w
noncomputable def bl__law_run_1 : Sv := sSeq (sSet 7 (eCall m__law_exact (aCons (eVar 6) (aCons (eVar 2) (aNil)))))
    (sSeq (sIf (eT (eOp gIsN (eVar 7) (eD .none))) (sRet (eTup (aCons (eD (.str "nought")) (aCons (eVar 4) (aNil))))) (sNil))
    (sSeq (sIf (tvOr (eT (eOp (gInt fGt) (eBlt gAbs (aCons (eOp gIx (eVar 7) (eD (.int 0))) (aNil))) (eOp (gInt fPowG) (eOp (gInt fPow) (eD (.int 10)) (eD (.int 60))) (eD (.int 10))))) (eT (eOp (gInt fGt) (eOp gIx (eVar 7) (eD (.int 1))) (eOp (gInt fPowG) (eOp (gInt fPow) (eD (.int 10)) (eD (.int 60))) (eD (.int 10)))))) (sRet (eTup (aCons (eD (.str "great")) (aNil)))) (sNil))
    (sSeq (sAsg (gSetD (eVar 2) (eVar 5)) (eVar 7))
    (sExpr (eMt tyL gApp (eVar 3) (aCons (eVar 7) (aNil)))))))
noncomputable def b__law_run : Sv := sSeq (sSet 2 (eBlt gDZT (aCons (eOp gIx (eVar 0) (eD (.int 0))) (aCons (eVar 1) (aNil)))))
    (sSeq (sSet 3 (eLst (aNil)))
    (sSeq (sFor (iEnumB (aCons (eOp gIx (eVar 0) (eD (.int 1))) (aNil))) (gTupT 2 (gsCons (gN 4) (gsCons (gTupT 2 (gsCons (gN 5) (gsCons (gN 6) (gsNil)))) (gsNil)))) bl__law_run_1)
    (sSeq (sFrz 3)
    (sRet (eVar 3)))))
noncomputable def m__law_run : Fn := mkF 2 8 b__law_run
theorem en__law_run {v0 v1 : Vl} {h : Hh} {Q : Vl → Hh → Prop} {E : XP} (w : Ws (b__law_run [some v0, some v1, none, none, none, none, none, none] h) (fun _ h1 => RetK h.length Q (.d .none) h1) ⟨RetK h.length Q, fun _ _ => False, fun _ _ => False, fun c fs _ h1 => E c fs (h1.take h.length)⟩) : Wp (m__law_run [v0, v1] h) Q E := wp_def rfl rfl w
noncomputable def b__law_told (d : Deed) : Sv := sSeq (sSet 1 (eD .none))
    (sSeq (sSet 2 (eD .none))
    (sSeq (sTry ["BadInput", "TooGreat", "BadProgram", "ByNought"] [] 3 (sSet 2 (eDeed 0 d)) (sSet 1 (eVar 3)))
    (sSeq (sIf (eT (eOp gIsN (eVar 1) (eD .none))) (sRet (eTup (aCons (eD (.str "told")) (aCons (eVar 2) (aNil))))) (sNil))
    (sSeq (sSet 4 (eFz (eLst (aCons (eTup (aCons (eD (.str "nought")) (aCons (eIsE ["ByNought"] ["BadInput", "TooGreat", "BadProgram"] (eVar 1)) (aNil)))) (aCons (eTup (aCons (eD (.str "great")) (aCons (eIsE ["TooGreat"] ["BadInput", "BadProgram", "ByNought"] (eVar 1)) (aNil)))) (aNil))))))
    (sSeq (sSet 4 (eFz (eOp gAdd (eVar 4) (eFz (eLst (aCons (eTup (aCons (eD (.str "input")) (aCons (eIsE ["BadInput"] ["TooGreat", "BadProgram", "ByNought"] (eVar 1)) (aNil)))) (aCons (eTup (aCons (eD (.str "program")) (aCons (eIsE ["BadProgram"] ["BadInput", "TooGreat", "ByNought"] (eVar 1)) (aNil)))) (aNil))))))))
    (sSeq (sSet 4 (eFz (eOp gAdd (eVar 4) (eFz (eLst (aCons (eTup (aCons (eD (.str "ruler")) (aCons (eIsE [] ["BadInput", "TooGreat", "BadProgram", "ByNought"] (eVar 1)) (aNil)))) (aCons (eTup (aCons (eD (.str "box")) (aCons (eIsE [] ["BadInput", "TooGreat", "BadProgram", "ByNought"] (eVar 1)) (aNil)))) (aNil))))))))
    (sSeq (sSet 4 (eOp gAdd (eVar 4) (eFz (eLst (aCons (eTup (aCons (eD (.str "asked")) (aCons (eIsE [] ["BadInput", "TooGreat", "BadProgram", "ByNought"] (eVar 1)) (aNil)))) (aCons (eTup (aCons (eD (.str "mark")) (aCons (eIsE [] ["BadInput", "TooGreat", "BadProgram", "ByNought"] (eVar 1)) (aNil)))) (aNil)))))))
    (sSeq (sExpr (eMt tyL gApp (eVar 4) (aCons (eTup (aCons (eD (.str "other")) (aCons (eNot (eIsE ["BadInput", "TooGreat", "BadProgram", "ByNought"] [] (eVar 1))) (aNil)))) (aNil))))
    (sSeq (sFrz 4)
    (sSeq (sSet 5 (eBlt gTuple (aCons (eFz (eLc [6, 7] (iv itQ (eVar 4)) (gTupT 2 (gsCons (gN 6) (gsCons (gN 7) (gsNil)))) (eT (eVar 7)) (eVar 6))) (aNil))))
    (sRet (eIf (eT (eOp (gInP false) (eVar 5) (eTup (aCons (eTup (aCons (eD (.str "nought")) (aNil))) (aCons (eTup (aCons (eD (.str "program")) (aNil))) (aNil)))))) (eOp gAdd (eVar 5) (eTup (aCons (eXf ["BadProgram", "ByNought"] "row" (eVar 1)) (aNil)))) (eVar 5)))))))))))))
noncomputable def m__law_told (d : Deed) : Fn := mkF 1 8 (b__law_told d)
theorem en__law_told {d : Deed} {v0 : Vl} {h : Hh} {Q : Vl → Hh → Prop} {E : XP} (w : Ws (b__law_told d [some v0, none, none, none, none, none, none, none] h) (fun _ h1 => RetK h.length Q (.d .none) h1) ⟨RetK h.length Q, fun _ _ => False, fun _ _ => False, fun c fs _ h1 => E c fs (h1.take h.length)⟩) : Wp (m__law_told d [v0] h) Q E := wp_def rfl rfl w
noncomputable def b__law_due : Sv := sSeq (sSet 2 (eCall m__law_run (aCons (eVar 0) (aCons (eVar 1) (aNil)))))
    (sRet (eIf (eT (eIsi .list (eVar 2))) (eTup (aCons (eD (.str "told")) (aCons (eBlt gTuple (aCons (eVar 2) (aNil))) (aNil)))) (eVar 2)))
noncomputable def m__law_due : Fn := mkF 2 3 b__law_due
theorem en__law_due {v0 v1 : Vl} {h : Hh} {Q : Vl → Hh → Prop} {E : XP} (w : Ws (b__law_due [some v0, some v1, none] h) (fun _ h1 => RetK h.length Q (.d .none) h1) ⟨RetK h.length Q, fun _ _ => False, fun _ _ => False, fun c fs _ h1 => E c fs (h1.take h.length)⟩) : Wp (m__law_due [v0, v1] h) Q E := wp_def rfl rfl w
noncomputable def bl__law_by_hand_1 : Sv := sExpr (eMt tyL gApp (eVar 1) (aCons (eTup (aCons (eOp gAdd (eD (.str "t")) (eOp gIy (eD (.str "abcdefghijkl")) (eVar 2))) (aCons (eTup (aCons (eD (.str "times")) (aCons (eOp gIx (eOp gIx (eVar 1) (eNeg (eD (.int 1)))) (eD (.int 0))) (aCons (eOp gIx (eOp gIx (eVar 1) (eNeg (eD (.int 1)))) (eD (.int 0))) (aNil))))) (aNil)))) (aNil)))
noncomputable def bl__law_by_hand_2 : Sv := sSeq (sSet 6 (eOp gAdd (eOp gAdd (eD (.str "z")) (eOp gIx (eD (.str "abcd")) (eOp (gInt fDiv) (eVar 2) (eD (.int 10))))) (eOp gIx (eD (.str "abcdefghij")) (eOp (gInt fMod) (eVar 2) (eD (.int 10))))))
    (sExpr (eMt tyL gApp (eVar 5) (aCons (eTup (aCons (eVar 6) (aCons (eTup (aCons (eD (.str "plus")) (aCons (eOp gIx (eVar 4) (eOp (gInt fMod) (eVar 2) (eD (.int 6)))) (aCons (eOp gIx (eVar 4) (eOp (gInt fSub) (eD (.int 5)) (eOp (gInt fMod) (eVar 2) (eD (.int 6))))) (aNil))))) (aNil)))) (aNil))))
noncomputable def bl__law_by_hand_3 : Sv := sSeq (sSet 6 (eOp gAdd (eOp gAdd (eD (.str "t")) (eOp gIx (eD (.str "abcd")) (eOp (gInt fDiv) (eVar 2) (eD (.int 10))))) (eOp gIx (eD (.str "abcdefghij")) (eOp (gInt fMod) (eVar 2) (eD (.int 10))))))
    (sExpr (eMt tyL gApp (eVar 8) (aCons (eTup (aCons (eVar 6) (aCons (eTup (aCons (eOp gIx (eFz (eLst (aCons (eD (.str "plus")) (aCons (eD (.str "most")) (aCons (eD (.str "plus")) (aCons (eD (.str "least")) (aNil))))))) (eOp (gInt fMod) (eVar 2) (eD (.int 4)))) (aCons (eOp gIx (eOp gIx (eVar 8) (eNeg (eD (.int 1)))) (eD (.int 0))) (aCons (eOp gIx (eOp gIx (eVar 8) (eNeg (eD (.int 1)))) (eD (.int 0))) (aNil))))) (aNil)))) (aNil))))
noncomputable def b__law_by_hand : Sv := sSeq (sSet 1 (eLst (aCons (eTup (aCons (eD (.str "s")) (aCons (eTup (aCons (eD (.str "number")) (aCons (eTup (aCons (eOp gAdd (eD (.int 2)) (eCall m__law_take (aCons (eVar 0) (aCons (eOp (gInt fPow) (eD (.int 10)) (eD (.int 9))) (aNil))))) (aCons (eD (.int 1)) (aNil)))) (aNil)))) (aNil)))) (aNil))))
    (sSeq (sFor (iRange1 (aCons (eD (.int 11)) (aNil))) (gN 2) bl__law_by_hand_1)
    (sSeq (sFrz 1)
    (sSeq (sSet 3 (eLst (aCons (eTup (aCons (eTup (aCons (eTup (aNil)) (aCons (eBlt gTuple (aCons (eVar 1) (aNil))) (aNil)))) (aCons (eTup (aNil)) (aNil)))) (aNil))))
    (sSeq (sSet 4 (eCall m__law_names (aCons (eVar 0) (aCons (eD (.int 6)) (aNil)))))
    (sSeq (sSet 5 (eLst (aNil)))
    (sSeq (sFor (iRange1 (aCons (eD (.int 40)) (aNil))) (gN 2) bl__law_by_hand_2)
    (sSeq (sFrz 5)
    (sSeq (sSet 7 (eBlt gTuple (aCons (eFz (eLc [2] (iRange1 (aCons (eD (.int 6)) (aNil))) (gN 2) (tvYes) (eCall m__law_constant (aCons (eVar 0) (aNil))))) (aNil))))
    (sSeq (sExpr (eMt tyL gApp (eVar 3) (aCons (eTup (aCons (eTup (aCons (eBlt gTuple (aCons (eVar 4) (aNil))) (aCons (eBlt gTuple (aCons (eVar 5) (aNil))) (aNil)))) (aCons (eVar 7) (aNil)))) (aNil))))
    (sSeq (sSet 8 (eLst (aCons (eTup (aCons (eD (.str "s")) (aCons (eTup (aCons (eD (.str "number")) (aCons (eCall m__law_share (aCons (eOp gAdd (eD (.int 1)) (eCall m__law_take (aCons (eVar 0) (aCons (eD (.int 9)) (aNil))))) (aCons (eD (.int 7)) (aNil)))) (aNil)))) (aNil)))) (aNil))))
    (sSeq (sFor (iRange1 (aCons (eD (.int 39)) (aNil))) (gN 2) bl__law_by_hand_3)
    (sSeq (sFrz 8)
    (sSeq (sExpr (eMt tyL gApp (eVar 3) (aCons (eTup (aCons (eTup (aCons (eTup (aNil)) (aCons (eBlt gTuple (aCons (eVar 8) (aNil))) (aNil)))) (aCons (eTup (aNil)) (aNil)))) (aNil))))
    (sSeq (sSet 9 (eTup (aCons (eTup (aCons (eD (.str "zaa")) (aCons (eTup (aCons (eD (.str "over")) (aCons (eOp gIx (eVar 4) (eD (.int 0))) (aCons (eOp gIx (eVar 4) (eD (.int 1))) (aNil))))) (aNil)))) (aNil))))
    (sSeq (sExpr (eMt tyL gApp (eVar 3) (aCons (eTup (aCons (eTup (aCons (eBlt gTuple (aCons (eVar 4) (aNil))) (aCons (eVar 9) (aNil)))) (aCons (eVar 7) (aNil)))) (aNil))))
    (sSeq (sFrz 3)
    (sRet (eFz (eOp gAdd (eVar 3) (eFz (eLst (aCons (eTup (aCons (eTup (aCons (eBlt gTuple (aCons (eVar 4) (aNil))) (aCons (eVar 9) (aNil)))) (aCons (eOp gAdd (eOp gAdd (eFz (eSl (eVar 7) (oNone) (oSome (eD (.int 1))))) (eTup (aCons (eTup (aCons (eD (.int 0)) (aCons (eD (.int 1)) (aNil)))) (aNil)))) (eFz (eSl (eVar 7) (oSome (eD (.int 2))) (oNone)))) (aNil)))) (aNil)))))))))))))))))))))))
noncomputable def m__law_by_hand : Fn := mkF 1 10 b__law_by_hand
theorem en__law_by_hand {v0 : Vl} {h : Hh} {Q : Vl → Hh → Prop} {E : XP} (w : Ws (b__law_by_hand [some v0, none, none, none, none, none, none, none, none, none] h) (fun _ h1 => RetK h.length Q (.d .none) h1) ⟨RetK h.length Q, fun _ _ => False, fun _ _ => False, fun c fs _ h1 => E c fs (h1.take h.length)⟩) : Wp (m__law_by_hand [v0] h) Q E := wp_def rfl rfl w
noncomputable def bl_law_1 : Sv := sSeq (sSet 3 (eCall m__law_program (aCons (eVar 2) (aCons (eD (.int 3)) (aCons (eD (.int 7)) (aNil))))))
    (sSeq (sExpr (eMt tyL gApp (eVar 1) (aCons (eTup (aCons (eVar 3) (aCons (eBlt gTuple (aCons (eFz (eLc [4] (iv itQ (eOp gIx (eVar 3) (eD (.int 0)))) (gN 4) (tvYes) (eCall m__law_constant (aCons (eVar 2) (aNil))))) (aNil))) (aNil)))) (aNil))))
    (sIf (eT (eOp gEq (eCall m__law_take (aCons (eVar 2) (aCons (eD (.int 6)) (aNil)))) (eD (.int 0)))) (sSet 1 (eOp gAdd (eVar 1) (eCall m__law_by_hand (aCons (eVar 2) (aNil))))) (sNil)))
noncomputable def bl_law_2 : Sv := sIf (eT (eOp gNe (eBlt gReprL (aCons (eLam 0 "law" m__law_told (eCall m_true_run (aCons (eVar 3) (aCons (eVar 5) (aNil))))) (aNil))) (eBlt gReprL (aCons (eCall m__law_due (aCons (eVar 3) (aCons (eVar 5) (aNil)))) (aNil))))) (sRet (eD (.bool false))) (sNil)
noncomputable def b_law : Sv := sSeq (sSet 1 (eLst (aNil)))
    (sSeq (sForR (eCall m__law_draws (aCons (eVar 0) (aNil))) (gN 2) bl_law_1)
    (sSeq (sFor (iv itQ (eFz (eOp gAdd (eFz (eOp gAdd (eVar 1) (eCall m__law_by_hand (aCons (eOp gIxO (eCall m__law_draws (aCons (eVar 0) (aNil))) (eD (.int 0))) (aNil))))) (eFz (eRv (eVar 1)))))) (gTupT 2 (gsCons (gN 3) (gsCons (gN 5) (gsNil)))) bl_law_2)
    (sRet (eD (.bool true)))))
noncomputable def m_law : Fn := mkF 1 6 b_law
theorem en_law {v0 : Vl} {h : Hh} {Q : Vl → Hh → Prop} {E : XP} (w : Ws (b_law [some v0, none, none, none, none, none] h) (fun _ h1 => RetK h.length Q (.d .none) h1) ⟨RetK h.length Q, fun _ _ => False, fun _ _ => False, fun c fs _ h1 => E c fs (h1.take h.length)⟩) : Wp (m_law [v0] h) Q E := wp_def rfl rfl w
structure Top (K : PySem.W.Frag) (w : World) (mg : Str → Option Value) : Prop where
  d_WANTS : GDict K w mg "WANTS" d_WANTS
  f_ValueError : mg "ValueError" = none
  f_abs : mg "abs" = none
  f_all : mg "all" = none
  f_bool : mg "bool" = none
  f_dict : mg "dict" = none
  f_enumerate : mg "enumerate" = none
  f_int : mg "int" = none
  f_isinstance : mg "isinstance" = none
  f_len : mg "len" = none
  f_list : mg "list" = none
  f_range : mg "range" = none
  f_repr : mg "repr" = none
  f_set : mg "set" = none
  f_str : mg "str" = none
  f_sum : mg "sum" = none
  f_tuple : mg "tuple" = none
  f_zip : mg "zip" = none
  c_GREATEST : GConst K mg "GREATEST" c_GREATEST
  c_LETTERS : GConst K mg "LETTERS" c_LETTERS
  c_MOST_INS : GConst K mg "MOST_INS" c_MOST_INS
  c_MOST_LETTERS : GConst K mg "MOST_LETTERS" c_MOST_LETTERS
  c_MOST_ROWS : GConst K mg "MOST_ROWS" c_MOST_ROWS
  c_NOUGHT : GConst K mg "NOUGHT" c_NOUGHT
  dig : DigN K
  g_row : XfT K mg "row" ["BadProgram", "ByNought"]
  i_BadAsked : IsO K mg "BadAsked" [] ["BadInput", "TooGreat", "BadProgram", "ByNought"]
  i_BadBox : IsO K mg "BadBox" [] ["BadInput", "TooGreat", "BadProgram", "ByNought"]
  i_BadInput : IsO K mg "BadInput" ["BadInput"] ["TooGreat", "BadProgram", "ByNought"]
  i_BadMark : IsO K mg "BadMark" [] ["BadInput", "TooGreat", "BadProgram", "ByNought"]
  i_BadProgram : IsO K mg "BadProgram" ["BadProgram"] ["BadInput", "TooGreat", "ByNought"]
  i_BadRuler : IsO K mg "BadRuler" [] ["BadInput", "TooGreat", "BadProgram", "ByNought"]
  i_ByNought : IsO K mg "ByNought" ["ByNought"] ["BadInput", "TooGreat", "BadProgram"]
  i_TooGreat : IsO K mg "TooGreat" ["TooGreat"] ["BadInput", "BadProgram", "ByNought"]
  i_ValueError : IsB K mg "ValueError" ["BadInput", "TooGreat", "BadProgram", "ByNought"] []
  n_BadProgram : IniT K mg "BadProgram" "row" "RoundError"
  n_ByNought : IniT K mg "ByNought" "row" "RoundError"
  t_RoundError : CatC K mg "RoundError" ["BadInput", "TooGreat", "BadProgram", "ByNought"] []
  x_BadInput : ErrC K mg "BadInput"
  x_TooGreat : ErrC K mg "TooGreat"
  v_greater : GConst K mg "greater" (fnD "greater")
  v_less : GConst K mg "less" (fnD "less")
  v_lesser : GConst K mg "lesser" (fnD "lesser")
  v_plus : GConst K mg "plus" (fnD "plus")
  v_times : GConst K mg "times" (fnD "times")
section
variable {P : Program} {w : World} {K : PySem.W.Frag} {mg : Str → Option Value} {base : Heap}
theorem sc_i_BadProgram : FnScope ["self", "row"] ["self", "row"] (defScope s_i_BadProgram) := ⟨rfl, rfl, rfl, by decide +kernel, rfl, by decide +kernel, by decide +kernel⟩
theorem ini_BadProgram {fd : FuncData} (T : Top K w mg) (F : FunD K "__init__" "BadProgram.__init__" (defArgs s_i_BadProgram) (defBody s_i_BadProgram) (defScope s_i_BadProgram) [] [] (He.fAd K ("BadProgram", some "__init__")) fd) : IniC P w K mg base "BadProgram" "row" := by
  obtain ⟨C, R, g, gR, TC, iC, tI, hno, cr, vV⟩ := T.n_BadProgram.ex
  exact ⟨C, _, fd, ["self", "row"], g, TC, iC, tI, FunD.bindsN F (fun _ _ _ _ _ _ us hl => match us, hl with | [_, _], _ => rfl), init_ok TC hno F sc_i_BadProgram fun cdv A outer s H E =>
    ⟨ps_expr (pe_oinit rfl gR cr vV (pa_cons (pe_var (i := 0) rfl (by first | exact .inl rfl | exact .inr rfl)) (pa_cons pe_str pa_nil))), ps_ost (pe_var (i := 0) rfl (by first | exact .inl rfl | exact .inr rfl)) (pe_var (i := 1) rfl (by first | exact .inl rfl | exact .inr rfl))⟩⟩
theorem sc_i_ByNought : FnScope ["self", "row"] ["self", "row"] (defScope s_i_ByNought) := ⟨rfl, rfl, rfl, by decide +kernel, rfl, by decide +kernel, by decide +kernel⟩
theorem ini_ByNought {fd : FuncData} (T : Top K w mg) (F : FunD K "__init__" "ByNought.__init__" (defArgs s_i_ByNought) (defBody s_i_ByNought) (defScope s_i_ByNought) [] [] (He.fAd K ("ByNought", some "__init__")) fd) : IniC P w K mg base "ByNought" "row" := by
  obtain ⟨C, R, g, gR, TC, iC, tI, hno, cr, vV⟩ := T.n_ByNought.ex
  exact ⟨C, _, fd, ["self", "row"], g, TC, iC, tI, FunD.bindsN F (fun _ _ _ _ _ _ us hl => match us, hl with | [_, _], _ => rfl), init_ok TC hno F sc_i_ByNought fun cdv A outer s H E =>
    ⟨ps_expr (pe_oinit rfl gR cr vV (pa_cons (pe_var (i := 0) rfl (by first | exact .inl rfl | exact .inr rfl)) (pa_cons pe_str pa_nil))), ps_ost (pe_var (i := 0) rfl (by first | exact .inl rfl | exact .inr rfl)) (pe_var (i := 1) rfl (by first | exact .inl rfl | exact .inr rfl))⟩⟩
theorem sc_is_whole : FnScope ["thing"] ["thing"] (defScope s_is_whole) := ⟨rfl, rfl, rfl, by decide +kernel, rfl, by decide +kernel, by decide +kernel⟩
theorem ok_is_whole {f : Addr} {fd : FuncData} (T : Top K w mg)   (F : FnP K "is_whole" s_is_whole f fd) (g : mg "is_whole" = some (.ref f)) : Df P w K mg base 1 "is_whole" ["thing"] m_is_whole :=
  have nd := sc_is_whole.nd
  df_of (kk := 1) (NN := 1) (body := b_is_whole) F g sc_is_whole rfl rfl (fun _ _ _ _ _ _ _ us hl => match us, hl with | [_], _ => rfl) fun cdv A outer s H E hr =>
    ess_one (es_ret (ee_and (ee_isi .int rfl T.f_isinstance rfl T.f_int (by decide +kernel) (by decide) (by decide) (ee_var 0)) (ee_one (ee_not (ee_isi .bool rfl T.f_isinstance rfl T.f_bool (by decide +kernel) (by decide) (by decide) (ee_var 0))))))
theorem sc_shared : FnScope ["one", "other"] ["one", "other"] (defScope s_shared) := ⟨rfl, rfl, rfl, by decide +kernel, rfl, by decide +kernel, by decide +kernel⟩
theorem ok_shared {f : Addr} {fd : FuncData} (T : Top K w mg)   (F : FnP K "shared" s_shared f fd) (g : mg "shared" = some (.ref f)) : Df P w K mg base 1 "shared" ["one", "other"] m_shared :=
  have nd := sc_shared.nd
  df_of (kk := 2) (NN := 2) (body := b_shared) F g sc_shared rfl rfl (fun _ _ _ _ _ _ _ us hl => match us, hl with | [_, _], _ => rfl) fun cdv A outer s H E hr =>
    ess_cons (es_set (i := 0) nd (ee_blt call_abs ok_abs (by rfl) T.f_abs (by decide +kernel) (ea_cons (ee_var 0) (ea_nil))))
    (ess_cons (es_set (i := 1) nd (ee_blt call_abs ok_abs (by rfl) T.f_abs (by decide +kernel) (ea_cons (ee_var 1) (ea_nil))))
    (ess_cons (es_while po_of (et_cmp op_gt ok_gt (ee_var 1) (ee_int) (nomark _)) (ess_one (es_par (i := 0) (j := 1) rfl nd (ea_cons (ee_var 1) (ea_cons (ee_op op_modN ok_mod (ee_var 0) (ee_var 1)) (ea_nil))))))
    (ess_one (es_ret (ee_var 0)))))
theorem sc_fraction : FnScope ["above", "below", "part"] ["above", "below"] (defScope s_fraction) := ⟨rfl, rfl, rfl, by decide +kernel, rfl, by decide +kernel, by decide +kernel⟩
theorem ok_fraction {f : Addr} {fd : FuncData} (T : Top K w mg)  (D_shared : Df P w K mg base 1 "shared" ["one", "other"] m_shared) (F : FnP K "fraction" s_fraction f fd) (g : mg "fraction" = some (.ref f)) : Df P w K mg base 2 "fraction" ["above", "below"] m_fraction :=
  have nd := sc_fraction.nd
  df_of (kk := 2) (NN := 3) (body := b_fraction) F g sc_fraction rfl rfl (fun _ _ _ _ _ _ _ us hl => match us, hl with | [_, _], _ => rfl) fun cdv A outer s H E hr =>
    ess_cons (es_set (i := 2) nd (ec D_shared hr tk_of (ea_cons (ee_var 0) (ea_cons (ee_var 1) (ea_nil)))))
    (ess_cons (es_if (et_cmp op_lt ok_lt (ee_var 1) (ee_int) (nomark _)) (ess_one (es_set (i := 2) nd (ee_op op_sub ok_sub (ee_int) (ee_var 2)))) (ess_nil))
    (ess_one (es_ret (ee_tup (ea_cons (ee_op op_fdivC ok_div (ee_var 0) (ee_var 2)) (ea_cons (ee_op op_fdivC ok_div (ee_var 1) (ee_var 2)) (ea_nil)))))))
theorem sc_is_fraction : FnScope ["thing"] ["thing"] (defScope s_is_fraction) := ⟨rfl, rfl, rfl, by decide +kernel, rfl, by decide +kernel, by decide +kernel⟩
theorem ok_is_fraction {f : Addr} {fd : FuncData} (T : Top K w mg)  (D_is_whole : Df P w K mg base 1 "is_whole" ["thing"] m_is_whole) (D_shared : Df P w K mg base 1 "shared" ["one", "other"] m_shared) (F : FnP K "is_fraction" s_is_fraction f fd) (g : mg "is_fraction" = some (.ref f)) : Df P w K mg base 2 "is_fraction" ["thing"] m_is_fraction :=
  have nd := sc_is_fraction.nd
  df_of (kk := 1) (NN := 1) (body := b_is_fraction) F g sc_is_fraction rfl rfl (fun _ _ _ _ _ _ _ us hl => match us, hl with | [_], _ => rfl) fun cdv A outer s H E hr =>
    ess_cons (es_if (EW.et (ew_or (et_not (et_val (ee_isi .tuple rfl T.f_isinstance rfl T.f_tuple (by decide +kernel) (by decide) (by decide) (ee_var 0)))) (ew_or (et_cmp (OpR.or op_ne (op_neD hr.units)) ok_ne (ee_blt call_len ok_len (by rfl) T.f_len PySem.boot_len (ea_cons (ee_var 0) (ea_nil))) (ee_int) (nomark _)) (ew_or (et_not (et_val (ec D_is_whole hr tk_of (ea_cons (ee_ix (ee_var 0) (ee_int)) (ea_nil))))) (ew_or1 (et_not (et_val (ec D_is_whole hr tk_of (ea_cons (ee_ix (ee_var 0) (ee_int)) (ea_nil)))))))))) (ess_one (es_ret (ee_bl))) (ess_nil))
    (ess_one (es_ret (ee_and (ee_cmp op_gt ok_gt (ee_ix (ee_var 0) (ee_int)) (ee_int) (nomark _)) (ee_one (ee_cmp (OpR.or op_eq (op_eqD hr.units)) ok_eq (ec D_shared hr tk_of (ea_cons (ee_ix (ee_var 0) (ee_int)) (ea_cons (ee_ix (ee_var 0) (ee_int)) (ea_nil)))) (ee_int) (nomark _))))))
theorem sc_is_great : FnScope ["number"] ["number"] (defScope s_is_great) := ⟨rfl, rfl, rfl, by decide +kernel, rfl, by decide +kernel, by decide +kernel⟩
theorem ok_is_great {f : Addr} {fd : FuncData} (T : Top K w mg)   (F : FnP K "is_great" s_is_great f fd) (g : mg "is_great" = some (.ref f)) : Df P w K mg base 1 "is_great" ["number"] m_is_great :=
  have nd := sc_is_great.nd
  df_of (kk := 1) (NN := 1) (body := b_is_great) F g sc_is_great rfl rfl (fun _ _ _ _ _ _ _ us hl => match us, hl with | [_], _ => rfl) fun cdv A outer s H E hr =>
    ess_one (es_ret (ee_or (ee_cmp op_gt ok_gt (ee_blt call_abs ok_abs (by rfl) T.f_abs (by decide +kernel) (ea_cons (ee_ix (ee_var 0) (ee_int)) (ea_nil))) (eg T.c_GREATEST) (nomark _)) (ee_one (ee_cmp op_gt ok_gt (ee_ix (ee_var 0) (ee_int)) (eg T.c_GREATEST) (nomark _)))))
theorem sc_need_small : FnScope ["number"] ["number"] (defScope s_need_small) := ⟨rfl, rfl, rfl, by decide +kernel, rfl, by decide +kernel, by decide +kernel⟩
theorem ok_need_small {f : Addr} {fd : FuncData} (T : Top K w mg)  (D_is_great : Df P w K mg base 1 "is_great" ["number"] m_is_great) (F : FnP K "need_small" s_need_small f fd) (g : mg "need_small" = some (.ref f)) : Df P w K mg base 2 "need_small" ["number"] m_need_small :=
  have nd := sc_need_small.nd
  df_of (kk := 1) (NN := 1) (body := b_need_small) F g sc_need_small rfl rfl (fun _ _ _ _ _ _ _ us hl => match us, hl with | [_], _ => rfl) fun cdv A outer s H E hr =>
    ess_cons (es_if (et_val (ec D_is_great hr tk_of (ea_cons (ee_var 0) (ea_nil)))) (ess_one (es_raise T.x_TooGreat tk_of)) (ess_nil))
    (ess_one (es_ret (ee_var 0)))
theorem sc_whole_of : FnScope ["number"] ["number"] (defScope s_whole_of) := ⟨rfl, rfl, rfl, by decide +kernel, rfl, by decide +kernel, by decide +kernel⟩
theorem ok_whole_of {f : Addr} {fd : FuncData} (T : Top K w mg)   (F : FnP K "whole_of" s_whole_of f fd) (g : mg "whole_of" = some (.ref f)) : Df P w K mg base 1 "whole_of" ["number"] m_whole_of :=
  have nd := sc_whole_of.nd
  df_of (kk := 1) (NN := 1) (body := b_whole_of) F g sc_whole_of rfl rfl (fun _ _ _ _ _ _ _ us hl => match us, hl with | [_], _ => rfl) fun cdv A outer s H E hr =>
    ess_one (es_ret (ee_tup (ea_cons (ee_var 0) (ea_cons (ee_int) (ea_nil)))))
theorem sc_plus : FnScope ["one", "other"] ["one", "other"] (defScope s_plus) := ⟨rfl, rfl, rfl, by decide +kernel, rfl, by decide +kernel, by decide +kernel⟩
theorem ok_plus {f : Addr} {fd : FuncData} (T : Top K w mg)  (D_fraction : Df P w K mg base 2 "fraction" ["above", "below"] m_fraction) (F : FnP K "plus" s_plus f fd) (g : mg "plus" = some (.ref f)) : Df P w K mg base 3 "plus" ["one", "other"] m_plus :=
  have nd := sc_plus.nd
  df_of (kk := 2) (NN := 2) (body := b_plus) F g sc_plus rfl rfl (fun _ _ _ _ _ _ _ us hl => match us, hl with | [_, _], _ => rfl) fun cdv A outer s H E hr =>
    ess_one (es_ret (ec D_fraction hr tk_of (ea_cons (ee_op op_addA ok_add (ee_op op_mulC ok_mul (ee_ix (ee_var 0) (ee_int)) (ee_ix (ee_var 1) (ee_int))) (ee_op op_mulC ok_mul (ee_ix (ee_var 1) (ee_int)) (ee_ix (ee_var 0) (ee_int)))) (ea_cons (ee_op op_mulC ok_mul (ee_ix (ee_var 0) (ee_int)) (ee_ix (ee_var 1) (ee_int))) (ea_nil)))))
theorem sc_turned : FnScope ["one"] ["one"] (defScope s_turned) := ⟨rfl, rfl, rfl, by decide +kernel, rfl, by decide +kernel, by decide +kernel⟩
theorem ok_turned {f : Addr} {fd : FuncData} (T : Top K w mg)   (F : FnP K "turned" s_turned f fd) (g : mg "turned" = some (.ref f)) : Df P w K mg base 1 "turned" ["one"] m_turned :=
  have nd := sc_turned.nd
  df_of (kk := 1) (NN := 1) (body := b_turned) F g sc_turned rfl rfl (fun _ _ _ _ _ _ _ us hl => match us, hl with | [_], _ => rfl) fun cdv A outer s H E hr =>
    ess_one (es_ret (ee_tup (ea_cons (ee_op op_sub ok_sub (ee_int) (ee_ix (ee_var 0) (ee_int))) (ea_cons (ee_ix (ee_var 0) (ee_int)) (ea_nil)))))
theorem sc_less : FnScope ["one", "other"] ["one", "other"] (defScope s_less) := ⟨rfl, rfl, rfl, by decide +kernel, rfl, by decide +kernel, by decide +kernel⟩
theorem ok_less {f : Addr} {fd : FuncData} (T : Top K w mg)  (D_plus : Df P w K mg base 3 "plus" ["one", "other"] m_plus) (D_turned : Df P w K mg base 1 "turned" ["one"] m_turned) (F : FnP K "less" s_less f fd) (g : mg "less" = some (.ref f)) : Df P w K mg base 4 "less" ["one", "other"] m_less :=
  have nd := sc_less.nd
  df_of (kk := 2) (NN := 2) (body := b_less) F g sc_less rfl rfl (fun _ _ _ _ _ _ _ us hl => match us, hl with | [_, _], _ => rfl) fun cdv A outer s H E hr =>
    ess_one (es_ret (ec D_plus hr tk_of (ea_cons (ee_var 0) (ea_cons (ec D_turned hr tk_of (ea_cons (ee_var 1) (ea_nil))) (ea_nil)))))
theorem sc_times : FnScope ["one", "other"] ["one", "other"] (defScope s_times) := ⟨rfl, rfl, rfl, by decide +kernel, rfl, by decide +kernel, by decide +kernel⟩
theorem ok_times {f : Addr} {fd : FuncData} (T : Top K w mg)  (D_fraction : Df P w K mg base 2 "fraction" ["above", "below"] m_fraction) (F : FnP K "times" s_times f fd) (g : mg "times" = some (.ref f)) : Df P w K mg base 3 "times" ["one", "other"] m_times :=
  have nd := sc_times.nd
  df_of (kk := 2) (NN := 2) (body := b_times) F g sc_times rfl rfl (fun _ _ _ _ _ _ _ us hl => match us, hl with | [_, _], _ => rfl) fun cdv A outer s H E hr =>
    ess_one (es_ret (ec D_fraction hr tk_of (ea_cons (ee_op op_mulC ok_mul (ee_ix (ee_var 0) (ee_int)) (ee_ix (ee_var 1) (ee_int))) (ea_cons (ee_op op_mulC ok_mul (ee_ix (ee_var 0) (ee_int)) (ee_ix (ee_var 1) (ee_int))) (ea_nil)))))
theorem sc_over : FnScope ["one", "other"] ["one", "other"] (defScope s_over) := ⟨rfl, rfl, rfl, by decide +kernel, rfl, by decide +kernel, by decide +kernel⟩
theorem ok_over {f : Addr} {fd : FuncData} (T : Top K w mg)  (D_fraction : Df P w K mg base 2 "fraction" ["above", "below"] m_fraction) (F : FnP K "over" s_over f fd) (g : mg "over" = some (.ref f)) : Df P w K mg base 3 "over" ["one", "other"] m_over :=
  have nd := sc_over.nd
  df_of (kk := 2) (NN := 2) (body := b_over) F g sc_over rfl rfl (fun _ _ _ _ _ _ _ us hl => match us, hl with | [_, _], _ => rfl) fun cdv A outer s H E hr =>
    ess_one (es_ret (ec D_fraction hr tk_of (ea_cons (ee_op op_mulC ok_mul (ee_ix (ee_var 0) (ee_int)) (ee_ix (ee_var 1) (ee_int))) (ea_cons (ee_op op_mulC ok_mul (ee_ix (ee_var 0) (ee_int)) (ee_ix (ee_var 1) (ee_int))) (ea_nil)))))
theorem sc_size_of : FnScope ["one"] ["one"] (defScope s_size_of) := ⟨rfl, rfl, rfl, by decide +kernel, rfl, by decide +kernel, by decide +kernel⟩
theorem ok_size_of {f : Addr} {fd : FuncData} (T : Top K w mg)   (F : FnP K "size_of" s_size_of f fd) (g : mg "size_of" = some (.ref f)) : Df P w K mg base 1 "size_of" ["one"] m_size_of :=
  have nd := sc_size_of.nd
  df_of (kk := 1) (NN := 1) (body := b_size_of) F g sc_size_of rfl rfl (fun _ _ _ _ _ _ _ us hl => match us, hl with | [_], _ => rfl) fun cdv A outer s H E hr =>
    ess_one (es_ret (ee_tup (ea_cons (ee_blt call_abs ok_abs (by rfl) T.f_abs (by decide +kernel) (ea_cons (ee_ix (ee_var 0) (ee_int)) (ea_nil))) (ea_cons (ee_ix (ee_var 0) (ee_int)) (ea_nil)))))
theorem sc_is_less : FnScope ["one", "other"] ["one", "other"] (defScope s_is_less) := ⟨rfl, rfl, rfl, by decide +kernel, rfl, by decide +kernel, by decide +kernel⟩
theorem ok_is_less {f : Addr} {fd : FuncData} (T : Top K w mg)   (F : FnP K "is_less" s_is_less f fd) (g : mg "is_less" = some (.ref f)) : Df P w K mg base 1 "is_less" ["one", "other"] m_is_less :=
  have nd := sc_is_less.nd
  df_of (kk := 2) (NN := 2) (body := b_is_less) F g sc_is_less rfl rfl (fun _ _ _ _ _ _ _ us hl => match us, hl with | [_, _], _ => rfl) fun cdv A outer s H E hr =>
    ess_one (es_ret (ee_cmp op_lt ok_lt (ee_op op_mulC ok_mul (ee_ix (ee_var 0) (ee_int)) (ee_ix (ee_var 1) (ee_int))) (ee_op op_mulC ok_mul (ee_ix (ee_var 1) (ee_int)) (ee_ix (ee_var 0) (ee_int))) (nomark _)))
theorem sc_lesser : FnScope ["one", "other"] ["one", "other"] (defScope s_lesser) := ⟨rfl, rfl, rfl, by decide +kernel, rfl, by decide +kernel, by decide +kernel⟩
theorem ok_lesser {f : Addr} {fd : FuncData} (T : Top K w mg)  (D_is_less : Df P w K mg base 1 "is_less" ["one", "other"] m_is_less) (F : FnP K "lesser" s_lesser f fd) (g : mg "lesser" = some (.ref f)) : Df P w K mg base 2 "lesser" ["one", "other"] m_lesser :=
  have nd := sc_lesser.nd
  df_of (kk := 2) (NN := 2) (body := b_lesser) F g sc_lesser rfl rfl (fun _ _ _ _ _ _ _ us hl => match us, hl with | [_, _], _ => rfl) fun cdv A outer s H E hr =>
    ess_one (es_ret (ee_ifExp (et_val (ec D_is_less hr tk_of (ea_cons (ee_var 1) (ea_cons (ee_var 0) (ea_nil))))) (ee_var 1) (ee_var 0)))
theorem sc_greater : FnScope ["one", "other"] ["one", "other"] (defScope s_greater) := ⟨rfl, rfl, rfl, by decide +kernel, rfl, by decide +kernel, by decide +kernel⟩
theorem ok_greater {f : Addr} {fd : FuncData} (T : Top K w mg)  (D_is_less : Df P w K mg base 1 "is_less" ["one", "other"] m_is_less) (F : FnP K "greater" s_greater f fd) (g : mg "greater" = some (.ref f)) : Df P w K mg base 2 "greater" ["one", "other"] m_greater :=
  have nd := sc_greater.nd
  df_of (kk := 2) (NN := 2) (body := b_greater) F g sc_greater rfl rfl (fun _ _ _ _ _ _ _ us hl => match us, hl with | [_, _], _ => rfl) fun cdv A outer s H E hr =>
    ess_one (es_ret (ee_ifExp (et_val (ec D_is_less hr tk_of (ea_cons (ee_var 0) (ea_cons (ee_var 1) (ea_nil))))) (ee_var 1) (ee_var 0)))
theorem sc_power : FnScope ["base", "exponent", "found", "square", "left"] ["base", "exponent"] (defScope s_power) := ⟨rfl, rfl, rfl, by decide +kernel, rfl, by decide +kernel, by decide +kernel⟩
theorem ok_power {f : Addr} {fd : FuncData} (T : Top K w mg)   (F : FnP K "power" s_power f fd) (g : mg "power" = some (.ref f)) : Df P w K mg base 1 "power" ["base", "exponent"] m_power :=
  have nd := sc_power.nd
  df_of (kk := 2) (NN := 5) (body := b_power) F g sc_power rfl rfl (fun _ _ _ _ _ _ _ us hl => match us, hl with | [_, _], _ => rfl) fun cdv A outer s H E hr =>
    ess_cons (es_set (i := 2) nd (ee_int))
    (ess_cons (es_set (i := 3) nd (ee_var 0))
    (ess_cons (es_set (i := 4) nd (ee_blt call_abs ok_abs (by rfl) T.f_abs (by decide +kernel) (ea_cons (ee_var 1) (ea_nil))))
    (ess_cons (es_while po_of (et_cmp op_gt ok_gt (ee_var 4) (ee_int) (nomark _)) (ess_cons (es_if (et_cmp (OpR.or op_eq (op_eqD hr.units)) ok_eq (ee_op op_modN ok_mod (ee_var 4) (ee_int)) (ee_int) (nomark _)) (ess_one (es_set (i := 2) nd (ee_op op_mulC ok_mul (ee_var 2) (ee_var 3)))) (ess_nil))
    (ess_cons (es_set (i := 4) nd (ee_op op_fdivC ok_div (ee_var 4) (ee_int)))
    (ess_one (es_set (i := 3) nd (ee_ifExp (et_cmp op_gt ok_gt (ee_var 4) (ee_int) (nomark _)) (ee_op op_mulC ok_mul (ee_var 3) (ee_var 3)) (ee_var 3)))))))
    (ess_one (es_ret (ee_ifExp (et_cmp op_ge ok_ge (ee_var 1) (ee_int) (nomark _)) (ee_tup (ea_cons (ee_var 2) (ea_cons (ee_int) (ea_nil)))) (ee_tup (ea_cons (ee_int) (ea_cons (ee_var 2) (ea_nil))))))))))
theorem sc_is_name : FnScope ["thing", "sign"] ["thing"] (defScope s_is_name) := ⟨rfl, rfl, rfl, by decide +kernel, rfl, by decide +kernel, by decide +kernel⟩
theorem ok_is_name {f : Addr} {fd : FuncData} (T : Top K w mg)   (F : FnP K "is_name" s_is_name f fd) (g : mg "is_name" = some (.ref f)) : Df P w K mg base 1 "is_name" ["thing"] m_is_name :=
  have nd := sc_is_name.nd
  df_of (kk := 1) (NN := 2) (body := b_is_name) F g sc_is_name rfl rfl (fun _ _ _ _ _ _ _ us hl => match us, hl with | [_], _ => rfl) fun cdv A outer s H E hr =>
    ess_cons (es_if (EW.et (ew_or (et_not (et_val (ee_isi .str rfl T.f_isinstance rfl T.f_str (by decide +kernel) (by decide) (by decide) (ee_var 0)))) (ew_or1 (et_not (et_chain op_le op_le ok_le ok_le (ee_int) (ee_blt call_len ok_len (by rfl) T.f_len PySem.boot_len (ea_cons (ee_var 0) (ea_nil))) (eg T.c_MOST_LETTERS)))))) (ess_one (es_ret (ee_bl))) (ess_nil))
    (ess_one (es_ret (ee_blt (cr_all rfl) ok_all (by rfl) T.f_all (by decide +kernel) (ea_cons (ee_fz (ee_lc [1] [("sign", 1)] rfl nd (ei_str (ee_var 0)) (blkOk_by (N := ["thing", "sign"]) (sc := defScope s_is_name) (by decide +kernel)) (fun _ _ _ _ _ => egw_name (i := 1) nd) (fun _ _ _ _ _ => ets_nil) (fun _ _ _ _ _ => ee_cmp op_inS (ok_inS false) (ee_var 1) (eg T.c_LETTERS) (by with_unfolding_all rfl)))) (ea_nil)))))
theorem sc_is_work : FnScope ["thing", "names", "name"] ["thing", "names"] (defScope s_is_work) := ⟨rfl, rfl, rfl, by decide +kernel, rfl, by decide +kernel, by decide +kernel⟩
theorem ok_is_work {f : Addr} {fd : FuncData} (T : Top K w mg)  (D_is_fraction : Df P w K mg base 2 "is_fraction" ["thing"] m_is_fraction) (D_is_great : Df P w K mg base 1 "is_great" ["number"] m_is_great) (D_is_name : Df P w K mg base 1 "is_name" ["thing"] m_is_name) (F : FnP K "is_work" s_is_work f fd) (g : mg "is_work" = some (.ref f)) : Df P w K mg base 3 "is_work" ["thing", "names"] m_is_work :=
  have nd := sc_is_work.nd
  df_of (kk := 2) (NN := 3) (body := b_is_work) F g sc_is_work rfl rfl (fun _ _ _ _ _ _ _ us hl => match us, hl with | [_, _], _ => rfl) fun cdv A outer s H E hr =>
    ess_cons (es_if (EW.et (ew_or (et_not (et_val (ee_isi .tuple rfl T.f_isinstance rfl T.f_tuple (by decide +kernel) (by decide) (by decide) (ee_var 0)))) (ew_or (et_cmp (OpR.or op_eq (op_eqD hr.units)) ok_eq (ee_var 0) (ee_tup (ea_nil)) (nomark _)) (ew_or1 (et_not (et_val (ee_isi .str rfl T.f_isinstance rfl T.f_str (by decide +kernel) (by decide) (by decide) (ee_ix (ee_var 0) (ee_int))))))))) (ess_one (es_ret (ee_bl))) (ess_nil))
    (ess_cons (es_if (et_cmp (OpR.or op_eq (op_eqD hr.units)) ok_eq (ee_ix (ee_var 0) (ee_int)) (ee_str) (nomark _)) (ess_one (es_ret (ee_and (ee_cmp (OpR.or op_eq (op_eqD hr.units)) ok_eq (ee_blt call_len ok_len (by rfl) T.f_len PySem.boot_len (ea_cons (ee_var 0) (ea_nil))) (ee_int) (nomark _)) (ee_and (ec D_is_fraction hr tk_of (ea_cons (ee_ix (ee_var 0) (ee_int)) (ea_nil))) (ee_one (ee_not (ec D_is_great hr tk_of (ea_cons (ee_ix (ee_var 0) (ee_int)) (ea_nil))))))))) (ess_nil))
    (ess_cons (es_if (EW.et (ew_or (et_cmp (OpR.or op_ne (op_neD hr.units)) ok_ne (ee_getC T.d_WANTS (ee_ix (ee_var 0) (ee_int)) (ee_int) ⟨by rfl, by rfl, by rfl, by rfl⟩) (ee_op op_sub ok_sub (ee_blt call_len ok_len (by rfl) T.f_len PySem.boot_len (ea_cons (ee_var 0) (ea_nil))) (ee_int)) (nomark _)) (ew_or1 (et_cmp (OpR.or op_eq (op_eqD hr.units)) ok_eq (ee_blt call_len ok_len (by rfl) T.f_len PySem.boot_len (ea_cons (ee_var 0) (ea_nil))) (ee_int) (nomark _))))) (ess_one (es_ret (ee_bl))) (ess_nil))
    (ess_one (es_ret (ee_blt (cr_all rfl) ok_all (by rfl) T.f_all (by decide +kernel) (ea_cons (ee_fz (ee_lc [2] [("name", 2)] rfl nd (ei_seq (ee_fz (ee_slice (ee_var 0) (eo_some (ee_int)) (eo_none)))) (blkOk_by (N := ["thing", "names", "name"]) (sc := defScope s_is_work) (by decide +kernel)) (fun _ _ _ _ _ => egw_name (i := 2) nd) (fun _ _ _ _ _ => ets_nil) (fun _ _ _ _ _ => ee_and (ec D_is_name hr tk_blk (ea_cons (ee_var 2) (ea_nil))) (ee_one (ee_cmp op_inDk (ok_inD false) (ee_var 2) (ee_var 1) (by with_unfolding_all rfl)))))) (ea_nil)))))))
theorem sc_are_ins : FnScope ["thing", "name"] ["thing"] (defScope s_are_ins) := ⟨rfl, rfl, rfl, by decide +kernel, rfl, by decide +kernel, by decide +kernel⟩
theorem ok_are_ins {f : Addr} {fd : FuncData} (T : Top K w mg)  (D_is_name : Df P w K mg base 1 "is_name" ["thing"] m_is_name) (F : FnP K "are_ins" s_are_ins f fd) (g : mg "are_ins" = some (.ref f)) : Df P w K mg base 2 "are_ins" ["thing"] m_are_ins :=
  have nd := sc_are_ins.nd
  df_of (kk := 1) (NN := 2) (body := b_are_ins) F g sc_are_ins rfl rfl (fun _ _ _ _ _ _ _ us hl => match us, hl with | [_], _ => rfl) fun cdv A outer s H E hr =>
    ess_cons (es_if (EW.et (ew_or (et_not (et_val (ee_isi .tuple rfl T.f_isinstance rfl T.f_tuple (by decide +kernel) (by decide) (by decide) (ee_var 0)))) (ew_or (et_cmp op_gt ok_gt (ee_blt call_len ok_len (by rfl) T.f_len PySem.boot_len (ea_cons (ee_var 0) (ea_nil))) (eg T.c_MOST_INS) (nomark _)) (ew_or1 (et_not (et_val (ee_blt (cr_all rfl) ok_all (by rfl) T.f_all (by decide +kernel) (ea_cons (ee_fz (ee_lc [1] [("name", 1)] rfl nd (ei_seq (ee_var 0)) (blkOk_by (N := ["thing", "name"]) (sc := defScope s_are_ins) (by decide +kernel)) (fun _ _ _ _ _ => egw_name (i := 1) nd) (fun _ _ _ _ _ => ets_nil) (fun _ _ _ _ _ => ec D_is_name hr tk_blk (ea_cons (ee_var 1) (ea_nil))))) (ea_nil))))))))) (ess_one (es_ret (ee_bl))) (ess_nil))
    (ess_one (es_ret (ee_cmp (OpR.or op_eq (op_eqD hr.units)) ok_eq (ee_unl rfl T.f_len T.f_set (ee_var 0)) (ee_blt call_len ok_len (by rfl) T.f_len PySem.boot_len (ea_cons (ee_var 0) (ea_nil))) (nomark _))))
theorem sc_is_row : FnScope ["thing", "names"] ["thing", "names"] (defScope s_is_row) := ⟨rfl, rfl, rfl, by decide +kernel, rfl, by decide +kernel, by decide +kernel⟩
theorem ok_is_row {f : Addr} {fd : FuncData} (T : Top K w mg)  (D_is_name : Df P w K mg base 1 "is_name" ["thing"] m_is_name) (D_is_work : Df P w K mg base 3 "is_work" ["thing", "names"] m_is_work) (F : FnP K "is_row" s_is_row f fd) (g : mg "is_row" = some (.ref f)) : Df P w K mg base 4 "is_row" ["thing", "names"] m_is_row :=
  have nd := sc_is_row.nd
  df_of (kk := 2) (NN := 2) (body := b_is_row) F g sc_is_row rfl rfl (fun _ _ _ _ _ _ _ us hl => match us, hl with | [_, _], _ => rfl) fun cdv A outer s H E hr =>
    ess_cons (es_if (EW.et (ew_or (et_not (et_val (ee_isi .tuple rfl T.f_isinstance rfl T.f_tuple (by decide +kernel) (by decide) (by decide) (ee_var 0)))) (ew_or (et_cmp (OpR.or op_ne (op_neD hr.units)) ok_ne (ee_blt call_len ok_len (by rfl) T.f_len PySem.boot_len (ea_cons (ee_var 0) (ea_nil))) (ee_int) (nomark _)) (ew_or1 (et_not (et_val (ec D_is_name hr tk_of (ea_cons (ee_ix (ee_var 0) (ee_int)) (ea_nil))))))))) (ess_one (es_ret (ee_bl))) (ess_nil))
    (ess_one (es_ret (ee_and (ee_cmp op_notInDk (ok_inD true) (ee_ix (ee_var 0) (ee_int)) (ee_var 1) (by with_unfolding_all rfl)) (ee_one (ec D_is_work hr tk_of (ea_cons (ee_ix (ee_var 0) (ee_int)) (ea_cons (ee_var 1) (ea_nil))))))))
theorem sc_wrong_row : FnScope ["thing", "names", "name", "number", "row"] ["thing"] (defScope s_wrong_row) := ⟨rfl, rfl, rfl, by decide +kernel, rfl, by decide +kernel, by decide +kernel⟩
theorem ok_wrong_row {f : Addr} {fd : FuncData} (T : Top K w mg)  (D_are_ins : Df P w K mg base 2 "are_ins" ["thing"] m_are_ins) (D_is_row : Df P w K mg base 4 "is_row" ["thing", "names"] m_is_row) (F : FnP K "wrong_row" s_wrong_row f fd) (g : mg "wrong_row" = some (.ref f)) : Df P w K mg base 5 "wrong_row" ["thing"] m_wrong_row :=
  have nd := sc_wrong_row.nd
  df_of (kk := 1) (NN := 5) (body := b_wrong_row) F g sc_wrong_row rfl rfl (fun _ _ _ _ _ _ _ us hl => match us, hl with | [_], _ => rfl) fun cdv A outer s H E hr =>
    ess_cons (es_if (EW.et (ew_or (et_not (et_val (ee_isi .tuple rfl T.f_isinstance rfl T.f_tuple (by decide +kernel) (by decide) (by decide) (ee_var 0)))) (ew_or (et_cmp (OpR.or op_ne (op_neD hr.units)) ok_ne (ee_blt call_len ok_len (by rfl) T.f_len PySem.boot_len (ea_cons (ee_var 0) (ea_nil))) (ee_int) (nomark _)) (ew_or1 (et_not (et_val (ec D_are_ins hr tk_of (ea_cons (ee_ix (ee_var 0) (ee_int)) (ea_nil))))))))) (ess_one (es_ret (ee_neg (ee_int)))) (ess_nil))
    (ess_cons (es_if (EW.et (ew_or (et_not (et_val (ee_isi .tuple rfl T.f_isinstance rfl T.f_tuple (by decide +kernel) (by decide) (by decide) (ee_ix (ee_var 0) (ee_int))))) (ew_or1 (et_not (et_chain op_le op_le ok_le ok_le (ee_int) (ee_blt call_len ok_len (by rfl) T.f_len PySem.boot_len (ea_cons (ee_ix (ee_var 0) (ee_int)) (ea_nil))) (eg T.c_MOST_ROWS)))))) (ess_one (es_ret (ee_neg (ee_int)))) (ess_nil))
    (ess_cons (es_set (i := 1) nd (ee_bltT (call_dictP rfl) ok_dp (by rfl) T.f_dict (by decide +kernel) (ea_cons (ee_fz (ee_lc [2] [("name", 2)] rfl nd (ei_seq (ee_ix (ee_var 0) (ee_int))) (blkOk_by (N := ["thing", "names", "name", "number", "row"]) (sc := defScope s_wrong_row) (by decide +kernel)) (fun _ _ _ _ _ => egw_name (i := 2) nd) (fun _ _ _ _ _ => ets_nil) (fun _ _ _ _ _ => ee_tup (ea_cons (ee_var 2) (ea_cons (ee_bl) (ea_nil)))))) (ea_nil))))
    (ess_cons (es_for (fb := bl_wrong_row_1) po_of rfl (ei_enumB (by rfl) T.f_enumerate (ea_cons (ee_ix (ee_var 0) (ee_int)) (ea_nil))) (eg_tup rfl (egs_cons (eg_name (i := 3) nd) (egs_cons (eg_name (i := 4) nd) (egs_nil)))) (ess_cons (es_if (et_not (et_val (ec D_is_row hr tk_of (ea_cons (ee_var 4) (ea_cons (ee_var 1) (ea_nil)))))) (ess_one (es_ret (ee_var 3))) (ess_nil))
    (ess_one (es_dput hr.units (ee_var 1) (ee_ix (ee_var 4) (ee_int)) (ee_bl)))))
    (ess_one (es_ret (ee_non))))))
theorem sc_need_program : FnScope ["thing", "number"] ["thing"] (defScope s_need_program) := ⟨rfl, rfl, rfl, by decide +kernel, rfl, by decide +kernel, by decide +kernel⟩
theorem ok_need_program {f : Addr} {fd : FuncData} (T : Top K w mg) (I_BadProgram : IniC P w K mg base "BadProgram" "row") (D_wrong_row : Df P w K mg base 5 "wrong_row" ["thing"] m_wrong_row) (F : FnP K "need_program" s_need_program f fd) (g : mg "need_program" = some (.ref f)) : Df P w K mg base 6 "need_program" ["thing"] m_need_program :=
  have nd := sc_need_program.nd
  df_of (kk := 1) (NN := 2) (body := b_need_program) F g sc_need_program rfl rfl (fun _ _ _ _ _ _ _ us hl => match us, hl with | [_], _ => rfl) fun cdv A outer s H E hr =>
    ess_cons (es_set (i := 1) nd (ec D_wrong_row hr tk_of (ea_cons (ee_var 0) (ea_nil))))
    (ess_one (es_if (et_cmp op_notN ok_notN (ee_var 1) (ee_non) (nomark _)) (ess_one (es_raise1 I_BadProgram hr tk_of (ee_var 1))) (ess_nil)))
theorem sc_is_enough : FnScope ["ruler", "size", "place"] ["ruler", "size", "place"] (defScope s_is_enough) := ⟨rfl, rfl, rfl, by decide +kernel, rfl, by decide +kernel, by decide +kernel⟩
theorem ok_is_enough {f : Addr} {fd : FuncData} (T : Top K w mg)  (D_is_less : Df P w K mg base 1 "is_less" ["one", "other"] m_is_less) (D_power : Df P w K mg base 1 "power" ["base", "exponent"] m_power) (F : FnP K "is_enough" s_is_enough f fd) (g : mg "is_enough" = some (.ref f)) : Df P w K mg base 2 "is_enough" ["ruler", "size", "place"] m_is_enough :=
  have nd := sc_is_enough.nd
  df_of (kk := 3) (NN := 3) (body := b_is_enough) F g sc_is_enough rfl rfl (fun _ _ _ _ _ _ _ us hl => match us, hl with | [_, _, _], _ => rfl) fun cdv A outer s H E hr =>
    ess_one (es_ret (ec D_is_less hr tk_of (ea_cons (ee_var 1) (ea_cons (ec D_power hr tk_of (ea_cons (ee_ix (ee_var 0) (ee_int)) (ea_cons (ee_op op_addA ok_add (ee_var 2) (ee_ix (ee_var 0) (ee_int))) (ea_nil)))) (ea_nil)))))
theorem sc_place_of : FnScope ["ruler", "number", "size", "low", "far", "high", "middle"] ["ruler", "number"] (defScope s_place_of) := ⟨rfl, rfl, rfl, by decide +kernel, rfl, by decide +kernel, by decide +kernel⟩
theorem ok_place_of {f : Addr} {fd : FuncData} (T : Top K w mg)  (D_size_of : Df P w K mg base 1 "size_of" ["one"] m_size_of) (D_is_enough : Df P w K mg base 2 "is_enough" ["ruler", "size", "place"] m_is_enough) (F : FnP K "place_of" s_place_of f fd) (g : mg "place_of" = some (.ref f)) : Df P w K mg base 3 "place_of" ["ruler", "number"] m_place_of :=
  have nd := sc_place_of.nd
  df_of (kk := 2) (NN := 7) (body := b_place_of) F g sc_place_of rfl rfl (fun _ _ _ _ _ _ _ us hl => match us, hl with | [_, _], _ => rfl) fun cdv A outer s H E hr =>
    ess_cons (es_set (i := 2) nd (ec D_size_of hr tk_of (ea_cons (ee_var 1) (ea_nil))))
    (ess_cons (es_set (i := 3) nd (ee_ix (ee_var 0) (ee_int)))
    (ess_cons (es_if (et_val (ec D_is_enough hr tk_of (ea_cons (ee_var 0) (ea_cons (ee_var 2) (ea_cons (ee_var 3) (ea_nil)))))) (ess_one (es_ret (ee_var 3))) (ess_nil))
    (ess_cons (es_set (i := 4) nd (ee_int))
    (ess_cons (es_while po_of (et_not (et_val (ec D_is_enough hr tk_of (ea_cons (ee_var 0) (ea_cons (ee_var 2) (ea_cons (ee_op op_addA ok_add (ee_var 3) (ee_var 4)) (ea_nil))))))) (ess_one (es_set (i := 4) nd (ee_op op_mulC ok_mul (ee_var 4) (ee_int)))))
    (ess_cons (es_set (i := 5) nd (ee_op op_addA ok_add (ee_var 3) (ee_var 4)))
    (ess_cons (es_set (i := 3) nd (ee_op op_addA ok_add (ee_var 3) (ee_op op_fdivC ok_div (ee_var 4) (ee_int))))
    (ess_cons (es_while po_of (et_cmp op_gt ok_gt (ee_op op_sub ok_sub (ee_var 5) (ee_var 3)) (ee_int) (nomark _)) (ess_cons (es_set (i := 6) nd (ee_op op_fdivC ok_div (ee_op op_addA ok_add (ee_var 3) (ee_var 5)) (ee_int)))
    (ess_one (es_if (et_val (ec D_is_enough hr tk_of (ea_cons (ee_var 0) (ea_cons (ee_var 2) (ea_cons (ee_var 6) (ea_nil)))))) (ess_one (es_set (i := 5) nd (ee_var 6))) (ess_one (es_set (i := 3) nd (ee_var 6)))))))
    (ess_one (es_ret (ee_var 5))))))))))
theorem sc_step_of : FnScope ["ruler", "number"] ["ruler", "number"] (defScope s_step_of) := ⟨rfl, rfl, rfl, by decide +kernel, rfl, by decide +kernel, by decide +kernel⟩
theorem ok_step_of {f : Addr} {fd : FuncData} (T : Top K w mg)  (D_power : Df P w K mg base 1 "power" ["base", "exponent"] m_power) (D_place_of : Df P w K mg base 3 "place_of" ["ruler", "number"] m_place_of) (F : FnP K "step_of" s_step_of f fd) (g : mg "step_of" = some (.ref f)) : Df P w K mg base 4 "step_of" ["ruler", "number"] m_step_of :=
  have nd := sc_step_of.nd
  df_of (kk := 2) (NN := 2) (body := b_step_of) F g sc_step_of rfl rfl (fun _ _ _ _ _ _ _ us hl => match us, hl with | [_, _], _ => rfl) fun cdv A outer s H E hr =>
    ess_one (es_ret (ec D_power hr tk_of (ea_cons (ee_ix (ee_var 0) (ee_int)) (ea_cons (ec D_place_of hr tk_of (ea_cons (ee_var 0) (ea_cons (ee_var 1) (ea_nil)))) (ea_nil)))))
theorem sc_whole_by : FnScope ["way", "above", "below", "found", "rest", "is_up"] ["way", "above", "below"] (defScope s_whole_by) := ⟨rfl, rfl, rfl, by decide +kernel, rfl, by decide +kernel, by decide +kernel⟩
theorem ok_whole_by {f : Addr} {fd : FuncData} (T : Top K w mg)   (F : FnP K "whole_by" s_whole_by f fd) (g : mg "whole_by" = some (.ref f)) : Df P w K mg base 1 "whole_by" ["way", "above", "below"] m_whole_by :=
  have nd := sc_whole_by.nd
  df_of (kk := 3) (NN := 6) (body := b_whole_by) F g sc_whole_by rfl rfl (fun _ _ _ _ _ _ _ us hl => match us, hl with | [_, _, _], _ => rfl) fun cdv A outer s H E hr =>
    ess_cons (es_set (i := 3) nd (ee_op op_fdivC ok_div (ee_var 1) (ee_var 2)))
    (ess_cons (es_set (i := 4) nd (ee_op op_modN ok_mod (ee_var 1) (ee_var 2)))
    (ess_cons (es_if (et_cmp (OpR.or op_eq (op_eqD hr.units)) ok_eq (ee_var 0) (ee_str) (nomark _)) (ess_one (es_set (i := 5) nd (ee_or (ee_cmp op_gt ok_gt (ee_op op_mulC ok_mul (ee_var 4) (ee_int)) (ee_var 2) (nomark _)) (ee_one (ee_and (ee_cmp (OpR.or op_eq (op_eqD hr.units)) ok_eq (ee_op op_mulC ok_mul (ee_var 4) (ee_int)) (ee_var 2) (nomark _)) (ee_one (ee_cmp (OpR.or op_eq (op_eqD hr.units)) ok_eq (ee_op op_modN ok_mod (ee_var 3) (ee_int)) (ee_int) (nomark _)))))))) (ess_one (es_if (et_cmp (OpR.or op_eq (op_eqD hr.units)) ok_eq (ee_var 0) (ee_str) (nomark _)) (ess_one (es_set (i := 5) nd (ee_and (ee_cmp op_lt ok_lt (ee_var 1) (ee_int) (nomark _)) (ee_one (ee_cmp op_gt ok_gt (ee_var 4) (ee_int) (nomark _)))))) (ess_one (es_set (i := 5) nd (ee_and (ee_cmp (OpR.or op_eq (op_eqD hr.units)) ok_eq (ee_var 0) (ee_str) (nomark _)) (ee_one (ee_cmp op_gt ok_gt (ee_var 4) (ee_int) (nomark _)))))))))
    (ess_one (es_ret (ee_op op_addA ok_add (ee_var 3) (ee_bltT call_int1 ok_int1 (by rfl) T.f_int (by decide +kernel) (ea_cons (ee_var 5) (ea_nil))))))))
theorem sc_rounded : FnScope ["ruler", "number", "step", "turns"] ["ruler", "number"] (defScope s_rounded) := ⟨rfl, rfl, rfl, by decide +kernel, rfl, by decide +kernel, by decide +kernel⟩
theorem ok_rounded {f : Addr} {fd : FuncData} (T : Top K w mg)  (D_step_of : Df P w K mg base 4 "step_of" ["ruler", "number"] m_step_of) (D_over : Df P w K mg base 3 "over" ["one", "other"] m_over) (D_times : Df P w K mg base 3 "times" ["one", "other"] m_times) (D_whole_of : Df P w K mg base 1 "whole_of" ["number"] m_whole_of) (D_whole_by : Df P w K mg base 1 "whole_by" ["way", "above", "below"] m_whole_by) (F : FnP K "rounded" s_rounded f fd) (g : mg "rounded" = some (.ref f)) : Df P w K mg base 5 "rounded" ["ruler", "number"] m_rounded :=
  have nd := sc_rounded.nd
  df_of (kk := 2) (NN := 4) (body := b_rounded) F g sc_rounded rfl rfl (fun _ _ _ _ _ _ _ us hl => match us, hl with | [_, _], _ => rfl) fun cdv A outer s H E hr =>
    ess_cons (es_set (i := 2) nd (ec D_step_of hr tk_of (ea_cons (ee_var 0) (ea_cons (ee_var 1) (ea_nil)))))
    (ess_cons (es_set (i := 3) nd (ec D_over hr tk_of (ea_cons (ee_var 1) (ea_cons (ee_var 2) (ea_nil)))))
    (ess_one (es_ret (ec D_times hr tk_of (ea_cons (ec D_whole_of hr tk_of (ea_cons (ec D_whole_by hr tk_of (ea_cons (ee_ix (ee_var 0) (ee_int)) (ea_cons (ee_ix (ee_var 3) (ee_int)) (ea_cons (ee_ix (ee_var 3) (ee_int)) (ea_nil))))) (ea_nil))) (ea_cons (ee_var 2) (ea_nil)))))))
theorem sc_exact : FnScope ["work", "known", "word", "one", "other", "pairs"] ["work", "known"] (defScope s_exact) := ⟨rfl, rfl, rfl, by decide +kernel, rfl, by decide +kernel, by decide +kernel⟩
theorem ok_exact {f : Addr} {fd : FuncData} (T : Top K w mg)  (D_turned : Df P w K mg base 1 "turned" ["one"] m_turned) (D_size_of : Df P w K mg base 1 "size_of" ["one"] m_size_of) (D_is_less : Df P w K mg base 1 "is_less" ["one", "other"] m_is_less) (D_over : Df P w K mg base 3 "over" ["one", "other"] m_over) (D_greater : Df P w K mg base 2 "greater" ["one", "other"] m_greater) (D_lesser : Df P w K mg base 2 "lesser" ["one", "other"] m_lesser) (D_times : Df P w K mg base 3 "times" ["one", "other"] m_times) (D_less : Df P w K mg base 4 "less" ["one", "other"] m_less) (D_plus : Df P w K mg base 3 "plus" ["one", "other"] m_plus) (F : FnP K "exact" s_exact f fd) (g : mg "exact" = some (.ref f)) : Df P w K mg base 5 "exact" ["work", "known"] m_exact :=
  have nd := sc_exact.nd
  df_of (kk := 2) (NN := 6) (body := b_exact) F g sc_exact rfl rfl (fun _ _ _ _ _ _ _ us hl => match us, hl with | [_, _], _ => rfl) fun cdv A outer s H E hr =>
    ess_cons (es_set (i := 2) nd (ee_ix (ee_var 0) (ee_int)))
    (ess_cons (es_if (et_cmp (OpR.or op_eq (op_eqD hr.units)) ok_eq (ee_var 2) (ee_str) (nomark _)) (ess_one (es_ret (ee_ix (ee_var 0) (ee_int)))) (ess_nil))
    (ess_cons (es_set (i := 3) nd (ee_iw hr.units (ee_var 1) (ee_ix (ee_var 0) (ee_int))))
    (ess_cons (es_if (et_cmp (OpR.or op_eq (op_eqD hr.units)) ok_eq (ee_var 2) (ee_str) (nomark _)) (ess_one (es_ret (ec D_turned hr tk_of (ea_cons (ee_var 3) (ea_nil))))) (ess_nil))
    (ess_cons (es_if (et_cmp (OpR.or op_eq (op_eqD hr.units)) ok_eq (ee_var 2) (ee_str) (nomark _)) (ess_one (es_ret (ec D_size_of hr tk_of (ea_cons (ee_var 3) (ea_nil))))) (ess_nil))
    (ess_cons (es_set (i := 4) nd (ee_iw hr.units (ee_var 1) (ee_ix (ee_var 0) (ee_int))))
    (ess_cons (es_if (et_cmp (OpR.or op_eq (op_eqD hr.units)) ok_eq (ee_var 2) (ee_str) (nomark _)) (ess_one (es_ret (ee_ifExp (et_val (ec D_is_less hr tk_of (ea_cons (ee_var 3) (ea_cons (ee_var 4) (ea_nil))))) (ee_iw hr.units (ee_var 1) (ee_ix (ee_var 0) (ee_int))) (ee_iw hr.units (ee_var 1) (ee_ix (ee_var 0) (ee_int)))))) (ess_nil))
    (ess_cons (es_if (et_cmp (OpR.or op_eq (op_eqD hr.units)) ok_eq (ee_var 2) (ee_str) (nomark _)) (ess_one (es_ret (ee_ifExp (et_cmp (OpR.or op_eq (op_eqD hr.units)) ok_eq (ee_var 4) (eg T.c_NOUGHT) (nomark _)) (ee_non) (ec D_over hr tk_of (ea_cons (ee_var 3) (ea_cons (ee_var 4) (ea_nil))))))) (ess_nil))
    (ess_cons (es_set (i := 5) nd (ee_dct (ep_cons (ee_str) (eg T.v_plus) (ep_cons (ee_str) (eg T.v_less) (ep_cons (ee_str) (eg T.v_times) (ep_cons (ee_str) (eg T.v_lesser) (ep_cons (ee_str) (eg T.v_greater) (ep_nil))))))))
    (ess_one (es_ret (ee_callF (cf_cons T.v_plus D_plus (cf_cons T.v_less D_less (cf_cons T.v_times D_times (cf_cons T.v_lesser D_lesser (cf_cons T.v_greater D_greater (cf_nil)))))) hr tk_of (ee_iw hr.units (ee_var 5) (ee_var 2)) (ea_cons (ee_var 3) (ea_cons (ee_var 4) (ea_nil))))))))))))))
theorem sc_done : FnScope ["program", "numbers", "ruler", "known", "found", "place", "name", "work", "number"] ["program", "numbers", "ruler"] (defScope s_done) := ⟨rfl, rfl, rfl, by decide +kernel, rfl, by decide +kernel, by decide +kernel⟩
theorem ok_done {f : Addr} {fd : FuncData} (T : Top K w mg) (I_ByNought : IniC P w K mg base "ByNought" "row") (D_exact : Df P w K mg base 5 "exact" ["work", "known"] m_exact) (D_need_small : Df P w K mg base 2 "need_small" ["number"] m_need_small) (D_rounded : Df P w K mg base 5 "rounded" ["ruler", "number"] m_rounded) (F : FnP K "done" s_done f fd) (g : mg "done" = some (.ref f)) : Df P w K mg base 6 "done" ["program", "numbers", "ruler"] m_done :=
  have nd := sc_done.nd
  df_of (kk := 3) (NN := 9) (body := b_done) F g sc_done rfl rfl (fun _ _ _ _ _ _ _ us hl => match us, hl with | [_, _, _], _ => rfl) fun cdv A outer s H E hr =>
    ess_cons (es_set (i := 3) nd (ee_dictZipT (by rfl) T.f_dict (by rfl) T.f_zip rfl (ea_cons (ee_ix (ee_var 0) (ee_int)) (ea_cons (ee_var 1) (ea_nil)))))
    (ess_cons (es_set (i := 4) nd (ee_lst (ea_nil)))
    (ess_cons (es_for (fb := bl_done_1) po_of rfl (ei_enumB (by rfl) T.f_enumerate (ea_cons (ee_ix (ee_var 0) (ee_int)) (ea_nil))) (eg_tup rfl (egs_cons (eg_name (i := 5) nd) (egs_cons (eg_tup rfl (egs_cons (eg_name (i := 6) nd) (egs_cons (eg_name (i := 7) nd) (egs_nil)))) (egs_nil)))) (ess_cons (es_set (i := 8) nd (ec D_exact hr tk_of (ea_cons (ee_var 7) (ea_cons (ee_var 3) (ea_nil)))))
    (ess_cons (es_if (et_cmp op_isN ok_isN (ee_var 8) (ee_non) (nomark _)) (ess_one (es_raise1 I_ByNought hr tk_of (ee_var 5))) (ess_nil))
    (ess_cons (es_dput hr.units (ee_var 3) (ee_var 6) (ec D_need_small hr tk_of (ea_cons (ee_ifExp (et_cmp op_isN ok_isN (ee_var 2) (ee_non) (nomark _)) (ee_var 8) (ec D_rounded hr tk_of (ea_cons (ee_var 2) (ea_cons (ee_var 8) (ea_nil))))) (ea_nil))))
    (ess_one (es_expr (ee_mt PySem.F.plainAttrs_list PySem.F.slot_list_append PySem.F.type_list_append mt_append tyL_ok ok_app (ee_var 4) (ea_cons (ee_iw hr.units (ee_var 3) (ee_var 6)) (ea_nil)))))))))
    (ess_frz 4 (ess_one (es_ret (ee_bltT call_tuple_of ok_tuple (by rfl) T.f_tuple (by decide +kernel) (ea_cons (ee_var 4) (ea_nil))))))))
theorem sc_are_fractions : FnScope ["program", "thing", "one"] ["program", "thing"] (defScope s_are_fractions) := ⟨rfl, rfl, rfl, by decide +kernel, rfl, by decide +kernel, by decide +kernel⟩
theorem ok_are_fractions {f : Addr} {fd : FuncData} (T : Top K w mg)  (D_is_fraction : Df P w K mg base 2 "is_fraction" ["thing"] m_is_fraction) (D_is_great : Df P w K mg base 1 "is_great" ["number"] m_is_great) (F : FnP K "are_fractions" s_are_fractions f fd) (g : mg "are_fractions" = some (.ref f)) : Df P w K mg base 3 "are_fractions" ["program", "thing"] m_are_fractions :=
  have nd := sc_are_fractions.nd
  df_of (kk := 2) (NN := 3) (body := b_are_fractions) F g sc_are_fractions rfl rfl (fun _ _ _ _ _ _ _ us hl => match us, hl with | [_, _], _ => rfl) fun cdv A outer s H E hr =>
    ess_cons (es_if (EW.et (ew_or (et_not (et_val (ee_isi .tuple rfl T.f_isinstance rfl T.f_tuple (by decide +kernel) (by decide) (by decide) (ee_var 1)))) (ew_or1 (et_cmp (OpR.or op_ne (op_neD hr.units)) ok_ne (ee_blt call_len ok_len (by rfl) T.f_len PySem.boot_len (ea_cons (ee_var 1) (ea_nil))) (ee_blt call_len ok_len (by rfl) T.f_len PySem.boot_len (ea_cons (ee_ix (ee_var 0) (ee_int)) (ea_nil))) (nomark _))))) (ess_one (es_ret (ee_bl))) (ess_nil))
    (ess_one (es_ret (ee_blt (cr_all rfl) ok_all (by rfl) T.f_all (by decide +kernel) (ea_cons (ee_fz (ee_lc [2] [("one", 2)] rfl nd (ei_seq (ee_var 1)) (blkOk_by (N := ["program", "thing", "one"]) (sc := defScope s_are_fractions) (by decide +kernel)) (fun _ _ _ _ _ => egw_name (i := 2) nd) (fun _ _ _ _ _ => ets_nil) (fun _ _ _ _ _ => ee_and (ec D_is_fraction hr tk_blk (ea_cons (ee_var 2) (ea_nil))) (ee_one (ee_not (ec D_is_great hr tk_blk (ea_cons (ee_var 2) (ea_nil)))))))) (ea_nil)))))
theorem sc_true_run : FnScope ["program", "numbers"] ["program", "numbers"] (defScope s_true_run) := ⟨rfl, rfl, rfl, by decide +kernel, rfl, by decide +kernel, by decide +kernel⟩
theorem ok_true_run {f : Addr} {fd : FuncData} (T : Top K w mg)  (D_need_program : Df P w K mg base 6 "need_program" ["thing"] m_need_program) (D_are_fractions : Df P w K mg base 3 "are_fractions" ["program", "thing"] m_are_fractions) (D_done : Df P w K mg base 6 "done" ["program", "numbers", "ruler"] m_done) (F : FnP K "true_run" s_true_run f fd) (g : mg "true_run" = some (.ref f)) : Df P w K mg base 7 "true_run" ["program", "numbers"] m_true_run :=
  have nd := sc_true_run.nd
  df_of (kk := 2) (NN := 2) (body := b_true_run) F g sc_true_run rfl rfl (fun _ _ _ _ _ _ _ us hl => match us, hl with | [_, _], _ => rfl) fun cdv A outer s H E hr =>
    ess_cons (es_expr (ec D_need_program hr tk_of (ea_cons (ee_var 0) (ea_nil))))
    (ess_cons (es_if (et_not (et_val (ec D_are_fractions hr tk_of (ea_cons (ee_var 0) (ea_cons (ee_var 1) (ea_nil)))))) (ess_one (es_raise T.x_BadInput tk_of)) (ess_nil))
    (ess_one (es_ret (ec D_done hr tk_of (ea_cons (ee_var 0) (ea_cons (ee_var 1) (ea_cons (ee_non) (ea_nil))))))))
theorem sc__law_mixed : FnScope ["_law_number", "_law_k"] ["_law_number", "_law_k"] (defScope s__law_mixed) := ⟨rfl, rfl, rfl, by decide +kernel, rfl, by decide +kernel, by decide +kernel⟩
theorem ok__law_mixed {f : Addr} {fd : FuncData} (T : Top K w mg)   (F : FnP K "_law_mixed" s__law_mixed f fd) (g : mg "_law_mixed" = some (.ref f)) : Df P w K mg base 1 "_law_mixed" ["_law_number", "_law_k"] m__law_mixed :=
  have nd := sc__law_mixed.nd
  df_of (kk := 2) (NN := 2) (body := b__law_mixed) F g sc__law_mixed rfl rfl (fun _ _ _ _ _ _ _ us hl => match us, hl with | [_, _], _ => rfl) fun cdv A outer s H E hr =>
    ess_cons (es_set (i := 0) nd (ee_op op_modN ok_mod (ee_op op_mulC ok_mul (ee_op op_addA ok_add (ee_op op_addA ok_add (ee_op op_addA ok_add (ee_op op_modN ok_mod (ee_var 0) (ee_int)) (ee_op op_mulC ok_mul (ee_op op_mulC ok_mul (ee_int) (ee_var 1)) (ee_var 1))) (ee_op op_mulC ok_mul (ee_int) (ee_var 1))) (ee_int)) (ee_int)) (ee_int)))
    (ess_one (es_ret (ee_op op_modN ok_mod (ee_op op_mulC ok_mul (ee_var 0) (ee_int)) (ee_int))))
theorem sc__law_draws : FnScope ["_law_script", "_law_cells", "_law_found", "_law_k", "_law_cell", "_law_whole"] ["_law_script"] (defScope s__law_draws) := ⟨rfl, rfl, rfl, by decide +kernel, rfl, by decide +kernel, by decide +kernel⟩
theorem ok__law_draws {f : Addr} {fd : FuncData} (T : Top K w mg)  (D__law_mixed : Df P w K mg base 1 "_law_mixed" ["_law_number", "_law_k"] m__law_mixed) (F : FnP K "_law_draws" s__law_draws f fd) (g : mg "_law_draws" = some (.ref f)) : Df P w K mg base 2 "_law_draws" ["_law_script"] m__law_draws :=
  have nd := sc__law_draws.nd
  dfN_of (kk := 1) (NN := 6) (body := b__law_draws) F g sc__law_draws rfl rfl (fun _ _ _ _ _ _ _ us hl => match us, hl with | [_], _ => rfl) fun cdv A outer s H E hr =>
    ess_cons (es_set (i := 1) nd (ee_ifExp (et_cmp (OpR.or op_ne (op_neD hr.units)) ok_ne (ee_var 0) (ee_fz (ee_lst (ea_nil))) (nomark _)) (ee_fz (ee_slice (ee_var 0) (eo_none) (eo_some (ee_int)))) (ee_fz (ee_lst (ea_cons (ee_int) (ea_nil))))))
    (ess_cons (es_set (i := 2) nd (ee_lst (ea_nil)))
    (ess_cons (es_for (fb := bl__law_draws_1) po_of rfl (ei_enumB (by rfl) T.f_enumerate (ea_cons (ee_var 1) (ea_nil))) (eg_tup rfl (egs_cons (eg_name (i := 3) nd) (egs_cons (eg_name (i := 4) nd) (egs_nil)))) (ess_cons (es_set (i := 5) nd (ee_op op_addA ok_add (ee_var 4) (ee_op op_mulC ok_mul (ee_int) (ee_blt (cr_sum rfl) ok_sum (by rfl) T.f_sum (by decide +kernel) (ea_cons (ee_fz (ee_step (ee_var 0) (eo_some (ee_op op_addA ok_add (ee_int) (ee_var 3))) (eo_none) (eo_some (ee_int)))) (ea_nil))))))
    (ess_one (es_appR (ee_var 2) (ee_dct (ep_cons (ee_str) (ee_ifExp (et_cmp op_ge ok_ge (ee_var 4) (ee_op op_pow ok_pow (ee_int) (ee_int)) (nomark _)) (ee_var 4) (ee_int)) (ep_cons (ee_str) (ec D__law_mixed hr tk_of (ea_cons (ee_var 5) (ea_cons (ee_op op_addA ok_add (ee_var 3) (ee_int)) (ea_nil)))) (ep_nil))))))))
    (ess_one (es_ret (ee_var 2)))))
theorem sc__law_take : FnScope ["_law_draw", "_law_many", "_law_found"] ["_law_draw", "_law_many"] (defScope s__law_take) := ⟨rfl, rfl, rfl, by decide +kernel, rfl, by decide +kernel, by decide +kernel⟩
theorem ok__law_take {f : Addr} {fd : FuncData} (T : Top K w mg)  (D__law_mixed : Df P w K mg base 1 "_law_mixed" ["_law_number", "_law_k"] m__law_mixed) (F : FnP K "_law_take" s__law_take f fd) (g : mg "_law_take" = some (.ref f)) : Df P w K mg base 2 "_law_take" ["_law_draw", "_law_many"] m__law_take :=
  have nd := sc__law_take.nd
  df_of (kk := 2) (NN := 3) (body := b__law_take) F g sc__law_take rfl rfl (fun _ _ _ _ _ _ _ us hl => match us, hl with | [_, _], _ => rfl) fun cdv A outer s H E hr =>
    ess_cons (es_if (et_cmp op_gt ok_gt (ee_dg hr.units (ee_var 0) (ee_str)) (ee_int) (nomark _)) (ess_cons (es_set (i := 2) nd (ee_op op_modN ok_mod (ee_dg hr.units (ee_var 0) (ee_str)) (ee_var 1)))
    (ess_cons (es_dput hr.units (ee_var 0) (ee_str) (ee_op op_fdivC ok_div (ee_dg hr.units (ee_var 0) (ee_str)) (ee_var 1)))
    (ess_one (es_ret (ee_var 2))))) (ess_nil))
    (ess_cons (es_dput hr.units (ee_var 0) (ee_str) (ec D__law_mixed hr tk_of (ea_cons (ee_dg hr.units (ee_var 0) (ee_str)) (ea_cons (ee_var 1) (ea_nil)))))
    (ess_one (es_ret (ee_op op_modN ok_mod (ee_op op_fdivC ok_div (ee_dg hr.units (ee_var 0) (ee_str)) (ee_int)) (ee_var 1)))))
theorem sc__law_share : FnScope ["_law_above", "_law_below", "_law_one", "_law_other"] ["_law_above", "_law_below"] (defScope s__law_share) := ⟨rfl, rfl, rfl, by decide +kernel, rfl, by decide +kernel, by decide +kernel⟩
theorem ok__law_share {f : Addr} {fd : FuncData} (T : Top K w mg)   (F : FnP K "_law_share" s__law_share f fd) (g : mg "_law_share" = some (.ref f)) : Df P w K mg base 1 "_law_share" ["_law_above", "_law_below"] m__law_share :=
  have nd := sc__law_share.nd
  df_of (kk := 2) (NN := 4) (body := b__law_share) F g sc__law_share rfl rfl (fun _ _ _ _ _ _ _ us hl => match us, hl with | [_, _], _ => rfl) fun cdv A outer s H E hr =>
    ess_cons (es_par (i := 2) (j := 3) rfl nd (ea_cons (ee_blt call_abs ok_abs (by rfl) T.f_abs (by decide +kernel) (ea_cons (ee_var 0) (ea_nil))) (ea_cons (ee_blt call_abs ok_abs (by rfl) T.f_abs (by decide +kernel) (ea_cons (ee_var 1) (ea_nil))) (ea_nil))))
    (ess_cons (es_while po_of (et_cmp op_gt ok_gt (ee_var 3) (ee_int) (nomark _)) (ess_one (es_par (i := 2) (j := 3) rfl nd (ea_cons (ee_var 3) (ea_cons (ee_op op_modN ok_mod (ee_var 2) (ee_var 3)) (ea_nil))))))
    (ess_cons (es_set (i := 2) nd (ee_ifExp (et_cmp op_gt ok_gt (ee_var 1) (ee_int) (nomark _)) (ee_var 2) (ee_op op_sub ok_sub (ee_int) (ee_var 2))))
    (ess_one (es_ret (ee_tup (ea_cons (ee_op op_fdivC ok_div (ee_var 0) (ee_var 2)) (ea_cons (ee_op op_fdivC ok_div (ee_var 1) (ee_var 2)) (ea_nil))))))))
theorem sc__law_sum : FnScope ["_law_one", "_law_other", "_law_sign"] ["_law_one", "_law_other", "_law_sign"] (defScope s__law_sum) := ⟨rfl, rfl, rfl, by decide +kernel, rfl, by decide +kernel, by decide +kernel⟩
theorem ok__law_sum {f : Addr} {fd : FuncData} (T : Top K w mg)  (D__law_share : Df P w K mg base 1 "_law_share" ["_law_above", "_law_below"] m__law_share) (F : FnP K "_law_sum" s__law_sum f fd) (g : mg "_law_sum" = some (.ref f)) : Df P w K mg base 2 "_law_sum" ["_law_one", "_law_other", "_law_sign"] m__law_sum :=
  have nd := sc__law_sum.nd
  df_of (kk := 3) (NN := 3) (body := b__law_sum) F g sc__law_sum rfl rfl (fun _ _ _ _ _ _ _ us hl => match us, hl with | [_, _, _], _ => rfl) fun cdv A outer s H E hr =>
    ess_one (es_ret (ec D__law_share hr tk_of (ea_cons (ee_op op_addA ok_add (ee_op op_mulC ok_mul (ee_ix (ee_var 0) (ee_int)) (ee_ix (ee_var 1) (ee_int))) (ee_op op_mulC ok_mul (ee_op op_mulC ok_mul (ee_var 2) (ee_ix (ee_var 1) (ee_int))) (ee_ix (ee_var 0) (ee_int)))) (ea_cons (ee_op op_mulC ok_mul (ee_ix (ee_var 0) (ee_int)) (ee_ix (ee_var 1) (ee_int))) (ea_nil)))))
theorem sc__law_is_less : FnScope ["_law_one", "_law_other"] ["_law_one", "_law_other"] (defScope s__law_is_less) := ⟨rfl, rfl, rfl, by decide +kernel, rfl, by decide +kernel, by decide +kernel⟩
theorem ok__law_is_less {f : Addr} {fd : FuncData} (T : Top K w mg)   (F : FnP K "_law_is_less" s__law_is_less f fd) (g : mg "_law_is_less" = some (.ref f)) : Df P w K mg base 1 "_law_is_less" ["_law_one", "_law_other"] m__law_is_less :=
  have nd := sc__law_is_less.nd
  df_of (kk := 2) (NN := 2) (body := b__law_is_less) F g sc__law_is_less rfl rfl (fun _ _ _ _ _ _ _ us hl => match us, hl with | [_, _], _ => rfl) fun cdv A outer s H E hr =>
    ess_one (es_ret (ee_cmp op_lt ok_lt (ee_op op_mulC ok_mul (ee_ix (ee_var 0) (ee_int)) (ee_ix (ee_var 1) (ee_int))) (ee_op op_mulC ok_mul (ee_ix (ee_var 1) (ee_int)) (ee_ix (ee_var 0) (ee_int))) (nomark _)))
theorem sc__law_names : FnScope ["_law_draw", "_law_many", "_law_letters", "_law_first", "_law_step", "_law_same", "_law_way", "_law_found", "_law_k", "_law_sign"] ["_law_draw", "_law_many"] (defScope s__law_names) := ⟨rfl, rfl, rfl, by decide +kernel, rfl, by decide +kernel, by decide +kernel⟩
theorem ok__law_names {f : Addr} {fd : FuncData} (T : Top K w mg)  (D__law_take : Df P w K mg base 2 "_law_take" ["_law_draw", "_law_many"] m__law_take) (F : FnP K "_law_names" s__law_names f fd) (g : mg "_law_names" = some (.ref f)) : Df P w K mg base 3 "_law_names" ["_law_draw", "_law_many"] m__law_names :=
  have nd := sc__law_names.nd
  df_of (kk := 2) (NN := 10) (body := b__law_names) F g sc__law_names rfl rfl (fun _ _ _ _ _ _ _ us hl => match us, hl with | [_, _], _ => rfl) fun cdv A outer s H E hr =>
    ess_cons (es_set (i := 2) nd (ee_str))
    (ess_cons (es_par (i := 3) (j := 4) rfl nd (ea_cons (ec D__law_take hr tk_of (ea_cons (ee_var 0) (ea_cons (ee_int) (ea_nil)))) (ea_cons (ee_ix (ee_fz (ee_lst (ea_cons (ee_int) (ea_cons (ee_int) (ea_cons (ee_int) (ea_cons (ee_int) (ea_cons (ee_int) (ea_cons (ee_int) (ea_nil))))))))) (ec D__law_take hr tk_of (ea_cons (ee_var 0) (ea_cons (ee_int) (ea_nil))))) (ea_nil))))
    (ess_cons (es_set (i := 5) nd (ee_fz (ee_slice (ee_str) (eo_none) (eo_some (ec D__law_take hr tk_of (ea_cons (ee_var 0) (ea_cons (ee_int) (ea_nil))))))))
    (ess_cons (es_set (i := 6) nd (ec D__law_take hr tk_of (ea_cons (ee_var 0) (ea_cons (ee_int) (ea_nil)))))
    (ess_cons (es_set (i := 7) nd (ee_lst (ea_nil)))
    (ess_cons (es_for (fb := bl__law_names_1) po_of rfl (ei_range1 (by rfl) T.f_range (ea_cons (ee_var 1) (ea_nil))) (eg_name (i := 8) nd) (ess_cons (es_set (i := 9) nd (ee_ix (ee_var 2) (ee_op op_modN ok_mod (ee_op op_addA ok_add (ee_var 3) (ee_op op_mulC ok_mul (ee_var 4) (ee_var 8))) (ee_int))))
    (ess_one (es_expr (ee_mt PySem.F.plainAttrs_list PySem.F.slot_list_append PySem.F.type_list_append mt_append tyL_ok ok_app (ee_var 7) (ea_cons (ee_ifExp (et_cmp (OpR.or op_eq (op_eqD hr.units)) ok_eq (ee_var 6) (ee_int) (nomark _)) (ee_op op_addA ok_add (ee_var 9) (ee_fz (ee_slice (ee_str) (eo_none) (eo_some (ec D__law_take hr tk_of (ea_cons (ee_var 0) (ea_cons (ee_int) (ea_nil)))))))) (ee_op op_addA ok_add (ee_var 5) (ee_var 9))) (ea_nil)))))))
    (ess_frz 7 (ess_one (es_ret (ee_var 7)))))))))
theorem sc__law_constant : FnScope ["_law_draw", "_law_above", "_law_below"] ["_law_draw"] (defScope s__law_constant) := ⟨rfl, rfl, rfl, by decide +kernel, rfl, by decide +kernel, by decide +kernel⟩
theorem ok__law_constant {f : Addr} {fd : FuncData} (T : Top K w mg)  (D__law_take : Df P w K mg base 2 "_law_take" ["_law_draw", "_law_many"] m__law_take) (D__law_share : Df P w K mg base 1 "_law_share" ["_law_above", "_law_below"] m__law_share) (F : FnP K "_law_constant" s__law_constant f fd) (g : mg "_law_constant" = some (.ref f)) : Df P w K mg base 3 "_law_constant" ["_law_draw"] m__law_constant :=
  have nd := sc__law_constant.nd
  df_of (kk := 1) (NN := 3) (body := b__law_constant) F g sc__law_constant rfl rfl (fun _ _ _ _ _ _ _ us hl => match us, hl with | [_], _ => rfl) fun cdv A outer s H E hr =>
    ess_cons (es_par (i := 1) (j := 2) rfl nd (ea_cons (ee_op op_sub ok_sub (ec D__law_take hr tk_of (ea_cons (ee_var 0) (ea_cons (ee_int) (ea_nil)))) (ee_int)) (ea_cons (ee_op op_addA ok_add (ee_int) (ec D__law_take hr tk_of (ea_cons (ee_var 0) (ea_cons (ee_int) (ea_nil))))) (ea_nil))))
    (ess_cons (es_if (et_cmp (OpR.or op_eq (op_eqD hr.units)) ok_eq (ec D__law_take hr tk_of (ea_cons (ee_var 0) (ea_cons (ee_int) (ea_nil)))) (ee_int) (nomark _)) (ess_one (es_set (i := 1) nd (ee_op op_addA ok_add (ee_op op_mulC ok_mul (ee_var 1) (ee_op op_pow ok_pow (ee_int) (ee_int))) (ec D__law_take hr tk_of (ea_cons (ee_var 0) (ea_cons (ee_op op_pow ok_pow (ee_int) (ee_int)) (ea_nil))))))) (ess_nil))
    (ess_one (es_ret (ec D__law_share hr tk_of (ea_cons (ee_var 1) (ea_cons (ee_var 2) (ea_nil)))))))
theorem sc__law_work : FnScope ["_law_draw", "_law_names_here", "_law_words", "_law_way", "_law_many", "_law_k"] ["_law_draw", "_law_names_here"] (defScope s__law_work) := ⟨rfl, rfl, rfl, by decide +kernel, rfl, by decide +kernel, by decide +kernel⟩
theorem ok__law_work {f : Addr} {fd : FuncData} (T : Top K w mg)  (D__law_take : Df P w K mg base 2 "_law_take" ["_law_draw", "_law_many"] m__law_take) (D__law_constant : Df P w K mg base 3 "_law_constant" ["_law_draw"] m__law_constant) (F : FnP K "_law_work" s__law_work f fd) (g : mg "_law_work" = some (.ref f)) : Df P w K mg base 4 "_law_work" ["_law_draw", "_law_names_here"] m__law_work :=
  have nd := sc__law_work.nd
  df_of (kk := 2) (NN := 6) (body := b__law_work) F g sc__law_work rfl rfl (fun _ _ _ _ _ _ _ us hl => match us, hl with | [_, _], _ => rfl) fun cdv A outer s H E hr =>
    ess_cons (es_set (i := 2) nd (ee_fz (ee_lst (ea_cons (ee_str) (ea_cons (ee_str) (ea_cons (ee_str) (ea_cons (ee_str) (ea_cons (ee_str) (ea_cons (ee_str) (ea_cons (ee_str) (ea_cons (ee_str) (ea_cons (ee_str) (ea_cons (ee_str) (ea_nil))))))))))))))
    (ess_cons (es_set (i := 3) nd (ee_ifExp (et_cmp (OpR.or op_ne (op_neD hr.units)) ok_ne (ee_var 1) (ee_fz (ee_lst (ea_nil))) (nomark _)) (ec D__law_take hr tk_of (ea_cons (ee_var 0) (ea_cons (ee_int) (ea_nil)))) (ee_int)))
    (ess_cons (es_if (et_cmp (OpR.or op_eq (op_eqD hr.units)) ok_eq (ee_var 3) (ee_int) (nomark _)) (ess_one (es_ret (ee_tup (ea_cons (ee_str) (ea_cons (ec D__law_constant hr tk_of (ea_cons (ee_var 0) (ea_nil))) (ea_nil)))))) (ess_nil))
    (ess_cons (es_set (i := 4) nd (ee_ix (ee_fz (ee_lst (ea_cons (ee_int) (ea_cons (ee_int) (ea_cons (ee_int) (ea_cons (ee_int) (ea_cons (ee_int) (ea_cons (ee_int) (ea_cons (ee_int) (ea_cons (ee_int) (ea_cons (ee_int) (ea_nil)))))))))))) (ee_var 3)))
    (ess_one (es_ret (ee_op op_addA ok_add (ee_tup (ea_cons (ee_iy hr.units (ee_var 2) (ee_var 3)) (ea_nil))) (ee_bltT call_tuple_of ok_tuple (by rfl) T.f_tuple (by decide +kernel) (ea_cons (ee_fz (ee_lc [5] [("_law_k", 5)] rfl nd (ei_range1 (by rfl) T.f_range (ea_cons (ee_var 4) (ea_nil))) (blkOk_by (N := ["_law_draw", "_law_names_here", "_law_words", "_law_way", "_law_many", "_law_k"]) (sc := defScope s__law_work) (by decide +kernel)) (fun _ _ _ _ _ => egw_name (i := 5) nd) (fun _ _ _ _ _ => ets_nil) (fun _ _ _ _ _ => ee_ix (ee_var 1) (ec D__law_take hr tk_blk (ea_cons (ee_var 0) (ea_cons (ee_blt call_len ok_len (by rfl) T.f_len PySem.boot_len (ea_cons (ee_var 1) (ea_nil))) (ea_nil))))))) (ea_nil)))))))))
theorem sc__law_program : FnScope ["_law_draw", "_law_most_ins", "_law_most_rows", "_law_ins", "_law_rows", "_law_names_here", "_law_found", "_law_k"] ["_law_draw", "_law_most_ins", "_law_most_rows"] (defScope s__law_program) := ⟨rfl, rfl, rfl, by decide +kernel, rfl, by decide +kernel, by decide +kernel⟩
theorem ok__law_program {f : Addr} {fd : FuncData} (T : Top K w mg)  (D__law_take : Df P w K mg base 2 "_law_take" ["_law_draw", "_law_many"] m__law_take) (D__law_names : Df P w K mg base 3 "_law_names" ["_law_draw", "_law_many"] m__law_names) (D__law_work : Df P w K mg base 4 "_law_work" ["_law_draw", "_law_names_here"] m__law_work) (F : FnP K "_law_program" s__law_program f fd) (g : mg "_law_program" = some (.ref f)) : Df P w K mg base 5 "_law_program" ["_law_draw", "_law_most_ins", "_law_most_rows"] m__law_program :=
  have nd := sc__law_program.nd
  df_of (kk := 3) (NN := 8) (body := b__law_program) F g sc__law_program rfl rfl (fun _ _ _ _ _ _ _ us hl => match us, hl with | [_, _, _], _ => rfl) fun cdv A outer s H E hr =>
    ess_cons (es_par (i := 3) (j := 4) rfl nd (ea_cons (ec D__law_take hr tk_of (ea_cons (ee_var 0) (ea_cons (ee_op op_addA ok_add (ee_var 1) (ee_int)) (ea_nil)))) (ea_cons (ee_op op_addA ok_add (ee_int) (ec D__law_take hr tk_of (ea_cons (ee_var 0) (ea_cons (ee_var 2) (ea_nil))))) (ea_nil))))
    (ess_cons (es_set (i := 5) nd (ec D__law_names hr tk_of (ea_cons (ee_var 0) (ea_cons (ee_op op_addA ok_add (ee_var 3) (ee_var 4)) (ea_nil)))))
    (ess_cons (es_set (i := 6) nd (ee_lst (ea_nil)))
    (ess_cons (es_for (fb := bl__law_program_1) po_of rfl (ei_range1 (by rfl) T.f_range (ea_cons (ee_var 4) (ea_nil))) (eg_name (i := 7) nd) (ess_one (es_expr (ee_mt PySem.F.plainAttrs_list PySem.F.slot_list_append PySem.F.type_list_append mt_append tyL_ok ok_app (ee_var 6) (ea_cons (ee_tup (ea_cons (ee_iy hr.units (ee_var 5) (ee_op op_addA ok_add (ee_var 3) (ee_var 7))) (ea_cons (ec D__law_work hr tk_of (ea_cons (ee_var 0) (ea_cons (ee_fz (ee_slice (ee_var 5) (eo_none) (eo_some (ee_op op_addA ok_add (ee_var 3) (ee_var 7))))) (ea_nil)))) (ea_nil)))) (ea_nil))))))
    (ess_frz 6 (ess_one (es_ret (ee_tup (ea_cons (ee_bltT call_tuple_of ok_tuple (by rfl) T.f_tuple (by decide +kernel) (ea_cons (ee_fz (ee_slice (ee_var 5) (eo_none) (eo_some (ee_var 3)))) (ea_nil))) (ea_cons (ee_bltT call_tuple_of ok_tuple (by rfl) T.f_tuple (by decide +kernel) (ea_cons (ee_var 6) (ea_nil))) (ea_nil))))))))))
theorem sc__law_exact : FnScope ["_law_work_here", "_law_known", "_law_word", "_law_parts", "_law_name", "_law_one", "_law_other"] ["_law_work_here", "_law_known"] (defScope s__law_exact) := ⟨rfl, rfl, rfl, by decide +kernel, rfl, by decide +kernel, by decide +kernel⟩
theorem ok__law_exact {f : Addr} {fd : FuncData} (T : Top K w mg)  (D__law_sum : Df P w K mg base 2 "_law_sum" ["_law_one", "_law_other", "_law_sign"] m__law_sum) (D__law_share : Df P w K mg base 1 "_law_share" ["_law_above", "_law_below"] m__law_share) (D__law_is_less : Df P w K mg base 1 "_law_is_less" ["_law_one", "_law_other"] m__law_is_less) (F : FnP K "_law_exact" s__law_exact f fd) (g : mg "_law_exact" = some (.ref f)) : Df P w K mg base 3 "_law_exact" ["_law_work_here", "_law_known"] m__law_exact :=
  have nd := sc__law_exact.nd
  df_of (kk := 2) (NN := 7) (body := b__law_exact) F g sc__law_exact rfl rfl (fun _ _ _ _ _ _ _ us hl => match us, hl with | [_, _], _ => rfl) fun cdv A outer s H E hr =>
    ess_cons (es_set (i := 2) nd (ee_ix (ee_var 0) (ee_int)))
    (ess_cons (es_if (et_cmp (OpR.or op_eq (op_eqD hr.units)) ok_eq (ee_var 2) (ee_str) (nomark _)) (ess_one (es_ret (ee_ix (ee_var 0) (ee_int)))) (ess_nil))
    (ess_cons (es_fz (es_setLc (i := 3) [4] [("_law_name", 4)] rfl nd (ei_seq (ee_fz (ee_slice (ee_var 0) (eo_some (ee_int)) (eo_none)))) (blkOk_by (N := ["_law_work_here", "_law_known", "_law_word", "_law_parts", "_law_name", "_law_one", "_law_other"]) (sc := defScope s__law_exact) (by decide +kernel)) (fun _ _ _ _ _ => egw_name (i := 4) nd) (fun _ _ _ _ _ => ets_nil) (fun _ _ _ _ _ => ee_iw hr.units (ee_var 1) (ee_var 4)) (sw_true rfl rfl rfl (by decide +kernel))))
    (ess_cons (es_par (i := 5) (j := 6) rfl nd (ea_cons (ee_ix (ee_var 3) (ee_int)) (ea_cons (ee_ix (ee_var 3) (ee_neg (ee_int))) (ea_nil))))
    (ess_cons (es_if (et_cmp op_in_seq (ok_in false) (ee_var 2) (ee_tup (ea_cons (ee_str) (ea_cons (ee_str) (ea_nil)))) (by with_unfolding_all rfl)) (ess_one (es_ret (ec D__law_sum hr tk_of (ea_cons (ee_var 5) (ea_cons (ee_var 6) (ea_cons (ee_ifExp (et_cmp (OpR.or op_eq (op_eqD hr.units)) ok_eq (ee_var 2) (ee_str) (nomark _)) (ee_int) (ee_neg (ee_int))) (ea_nil))))))) (ess_nil))
    (ess_cons (es_if (et_cmp (OpR.or op_eq (op_eqD hr.units)) ok_eq (ee_var 2) (ee_str) (nomark _)) (ess_one (es_ret (ec D__law_share hr tk_of (ea_cons (ee_op op_mulC ok_mul (ee_ix (ee_var 5) (ee_int)) (ee_ix (ee_var 6) (ee_int))) (ea_cons (ee_op op_mulC ok_mul (ee_ix (ee_var 5) (ee_int)) (ee_ix (ee_var 6) (ee_int))) (ea_nil)))))) (ess_nil))
    (ess_cons (es_if (et_cmp (OpR.or op_eq (op_eqD hr.units)) ok_eq (ee_var 2) (ee_str) (nomark _)) (ess_one (es_ret (ee_ifExp (et_cmp (OpR.or op_eq (op_eqD hr.units)) ok_eq (ee_ix (ee_var 6) (ee_int)) (ee_int) (nomark _)) (ee_non) (ec D__law_share hr tk_of (ea_cons (ee_op op_mulC ok_mul (ee_ix (ee_var 5) (ee_int)) (ee_ix (ee_var 6) (ee_int))) (ea_cons (ee_op op_mulC ok_mul (ee_ix (ee_var 5) (ee_int)) (ee_ix (ee_var 6) (ee_int))) (ea_nil))))))) (ess_nil))
    (ess_cons (es_if (et_cmp op_in_seq (ok_in false) (ee_var 2) (ee_tup (ea_cons (ee_str) (ea_cons (ee_str) (ea_nil)))) (by with_unfolding_all rfl)) (ess_one (es_ret (ee_tup (ea_cons (ee_ifExp (et_cmp (OpR.or op_eq (op_eqD hr.units)) ok_eq (ee_var 2) (ee_str) (nomark _)) (ee_blt call_abs ok_abs (by rfl) T.f_abs (by decide +kernel) (ea_cons (ee_ix (ee_var 5) (ee_int)) (ea_nil))) (ee_op op_sub ok_sub (ee_int) (ee_ix (ee_var 5) (ee_int)))) (ea_cons (ee_ix (ee_var 5) (ee_int)) (ea_nil)))))) (ess_nil))
    (ess_cons (es_if (et_cmp (OpR.or op_eq (op_eqD hr.units)) ok_eq (ee_var 2) (ee_str) (nomark _)) (ess_one (es_ret (ee_ifExp (et_val (ec D__law_is_less hr tk_of (ea_cons (ee_var 5) (ea_cons (ee_ix (ee_var 3) (ee_int)) (ea_nil))))) (ee_ix (ee_var 3) (ee_int)) (ee_ix (ee_var 3) (ee_int))))) (ess_nil))
    (ess_one (es_ret (ee_ifExp (et_cmp (OpR.or op_eq (op_eqD hr.units)) ok_eq (ec D__law_is_less hr tk_of (ea_cons (ee_var 6) (ea_cons (ee_var 5) (ea_nil)))) (ee_cmp (OpR.or op_eq (op_eqD hr.units)) ok_eq (ee_var 2) (ee_str) (nomark _)) (nomark _)) (ee_var 6) (ee_var 5))))))))))))
theorem sc__law_run : FnScope ["_law_program_here", "_law_numbers", "_law_known", "_law_found", "_law_at", "_law_name", "_law_work_here", "_law_number"] ["_law_program_here", "_law_numbers"] (defScope s__law_run) := ⟨rfl, rfl, rfl, by decide +kernel, rfl, by decide +kernel, by decide +kernel⟩
theorem ok__law_run {f : Addr} {fd : FuncData} (T : Top K w mg)  (D__law_exact : Df P w K mg base 3 "_law_exact" ["_law_work_here", "_law_known"] m__law_exact) (F : FnP K "_law_run" s__law_run f fd) (g : mg "_law_run" = some (.ref f)) : Df P w K mg base 4 "_law_run" ["_law_program_here", "_law_numbers"] m__law_run :=
  have nd := sc__law_run.nd
  df_of (kk := 2) (NN := 8) (body := b__law_run) F g sc__law_run rfl rfl (fun _ _ _ _ _ _ _ us hl => match us, hl with | [_, _], _ => rfl) fun cdv A outer s H E hr =>
    ess_cons (es_set (i := 2) nd (ee_dictZipT (by rfl) T.f_dict (by rfl) T.f_zip rfl (ea_cons (ee_ix (ee_var 0) (ee_int)) (ea_cons (ee_var 1) (ea_nil)))))
    (ess_cons (es_set (i := 3) nd (ee_lst (ea_nil)))
    (ess_cons (es_for (fb := bl__law_run_1) po_of rfl (ei_enumB (by rfl) T.f_enumerate (ea_cons (ee_ix (ee_var 0) (ee_int)) (ea_nil))) (eg_tup rfl (egs_cons (eg_name (i := 4) nd) (egs_cons (eg_tup rfl (egs_cons (eg_name (i := 5) nd) (egs_cons (eg_name (i := 6) nd) (egs_nil)))) (egs_nil)))) (ess_cons (es_set (i := 7) nd (ec D__law_exact hr tk_of (ea_cons (ee_var 6) (ea_cons (ee_var 2) (ea_nil)))))
    (ess_cons (es_if (et_cmp op_isN ok_isN (ee_var 7) (ee_non) (nomark _)) (ess_one (es_ret (ee_tup (ea_cons (ee_str) (ea_cons (ee_var 4) (ea_nil)))))) (ess_nil))
    (ess_cons (es_if (EW.et (ew_or (et_cmp op_gt ok_gt (ee_blt call_abs ok_abs (by rfl) T.f_abs (by decide +kernel) (ea_cons (ee_ix (ee_var 7) (ee_int)) (ea_nil))) (ee_op op_powG ok_powG (ee_op op_pow ok_pow (ee_int) (ee_int)) (ee_int)) (nomark _)) (ew_or1 (et_cmp op_gt ok_gt (ee_ix (ee_var 7) (ee_int)) (ee_op op_powG ok_powG (ee_op op_pow ok_pow (ee_int) (ee_int)) (ee_int)) (nomark _))))) (ess_one (es_ret (ee_tup (ea_cons (ee_str) (ea_nil))))) (ess_nil))
    (ess_cons (es_dput hr.units (ee_var 2) (ee_var 5) (ee_var 7))
    (ess_one (es_expr (ee_mt PySem.F.plainAttrs_list PySem.F.slot_list_append PySem.F.type_list_append mt_append tyL_ok ok_app (ee_var 3) (ea_cons (ee_var 7) (ea_nil))))))))))
    (ess_frz 3 (ess_one (es_ret (ee_var 3))))))
theorem sc__law_told : FnScope ["_law_deed", "_law_caught", "_law_found", "e", "_law_some", "_law_words", "_law_word", "_law_is_so"] ["_law_deed"] (defScope s__law_told) := ⟨rfl, rfl, rfl, by decide +kernel, rfl, by decide +kernel, by decide +kernel⟩
theorem ok__law_told {f : Addr} {fd : FuncData} (T : Top K w mg)   (F : FnP K "_law_told" s__law_told f fd) (g : mg "_law_told" = some (.ref f)) : DfL P w K mg base 1 "_law_told" ["_law_deed"] m__law_told :=
  have nd := sc__law_told.nd
  dfL_of (kk := 1) (NN := 8) (body := fun d => b__law_told d) F g sc__law_told rfl rfl (fun _ _ _ _ _ _ _ us hl => match us, hl with | [_], _ => rfl) fun d cdv A outer s H E hr act =>
    ess_cons (es_set (i := 1) nd (ee_non))
    (ess_cons (es_set (i := 2) nd (ee_non))
    (ess_cons (es_try (i := 3) T.t_RoundError tk_of nd (fun W pn xe tk po => ess_one (es_set (i := 2) nd (ee_deed 0 act tk))) (fun a pn => ess_one (es_set (i := 1) nd (ee_var 3))))
    (ess_cons (es_if (et_cmp op_isN ok_isN (ee_var 1) (ee_non) (nomark _)) (ess_one (es_ret (ee_tup (ea_cons (ee_str) (ea_cons (ee_var 2) (ea_nil)))))) (ess_nil))
    (ess_cons (es_set (i := 4) nd (ee_fz (ee_lst (ea_cons (ee_tup (ea_cons (ee_str) (ea_cons (ee_isO T.i_ByNought rfl T.f_isinstance (ee_var 1)) (ea_nil)))) (ea_cons (ee_tup (ea_cons (ee_str) (ea_cons (ee_isO T.i_TooGreat rfl T.f_isinstance (ee_var 1)) (ea_nil)))) (ea_nil))))))
    (ess_cons (es_set (i := 4) nd (ee_fz (ee_op op_addA ok_add (ee_var 4) (ee_fz (ee_lst (ea_cons (ee_tup (ea_cons (ee_str) (ea_cons (ee_isO T.i_BadInput rfl T.f_isinstance (ee_var 1)) (ea_nil)))) (ea_cons (ee_tup (ea_cons (ee_str) (ea_cons (ee_isO T.i_BadProgram rfl T.f_isinstance (ee_var 1)) (ea_nil)))) (ea_nil))))))))
    (ess_cons (es_set (i := 4) nd (ee_fz (ee_op op_addA ok_add (ee_var 4) (ee_fz (ee_lst (ea_cons (ee_tup (ea_cons (ee_str) (ea_cons (ee_isO T.i_BadRuler rfl T.f_isinstance (ee_var 1)) (ea_nil)))) (ea_cons (ee_tup (ea_cons (ee_str) (ea_cons (ee_isO T.i_BadBox rfl T.f_isinstance (ee_var 1)) (ea_nil)))) (ea_nil))))))))
    (ess_cons (es_set (i := 4) nd (ee_op op_addA ok_add (ee_var 4) (ee_fz (ee_lst (ea_cons (ee_tup (ea_cons (ee_str) (ea_cons (ee_isO T.i_BadAsked rfl T.f_isinstance (ee_var 1)) (ea_nil)))) (ea_cons (ee_tup (ea_cons (ee_str) (ea_cons (ee_isO T.i_BadMark rfl T.f_isinstance (ee_var 1)) (ea_nil)))) (ea_nil)))))))
    (ess_cons (es_expr (ee_mt PySem.F.plainAttrs_list PySem.F.slot_list_append PySem.F.type_list_append mt_append tyL_ok ok_app (ee_var 4) (ea_cons (ee_tup (ea_cons (ee_str) (ea_cons (ee_not (ee_isB "ValueError" T.i_ValueError (by decide +kernel) rfl T.f_isinstance T.f_ValueError (ee_var 1))) (ea_nil)))) (ea_nil))))
    (ess_frz 4 (ess_cons (es_set (i := 5) nd (ee_bltT call_tuple_of ok_tuple (by rfl) T.f_tuple (by decide +kernel) (ea_cons (ee_fz (ee_lc [6, 7] [("_law_word", 6), ("_law_is_so", 7)] rfl nd (ei_seq (ee_var 4)) (blkOk_by (N := ["_law_deed", "_law_caught", "_law_found", "e", "_law_some", "_law_words", "_law_word", "_law_is_so"]) (sc := defScope s__law_told) (by decide +kernel)) (fun _ _ _ _ _ => egw_tup rfl (egsw_cons (egw_name (i := 6) nd) (egsw_cons (egw_name (i := 7) nd) (egsw_nil)))) (fun _ _ _ _ _ => ets_one (et_val (ee_var 7))) (fun _ _ _ _ _ => ee_var 6))) (ea_nil))))
    (ess_one (es_ret (ee_ifExp (et_cmp (op_inP hr.units) (ok_inP false) (ee_var 5) (ee_tup (ea_cons (ee_tup (ea_cons (ee_str) (ea_nil))) (ea_cons (ee_tup (ea_cons (ee_str) (ea_nil))) (ea_nil)))) (by with_unfolding_all rfl)) (ee_op op_addA ok_add (ee_var 5) (ee_tup (ea_cons (ee_xf T.g_row (ee_var 1)) (ea_nil)))) (ee_var 5))))))))))))))
theorem sc__law_due : FnScope ["_law_program_here", "_law_numbers", "_law_found"] ["_law_program_here", "_law_numbers"] (defScope s__law_due) := ⟨rfl, rfl, rfl, by decide +kernel, rfl, by decide +kernel, by decide +kernel⟩
theorem ok__law_due {f : Addr} {fd : FuncData} (T : Top K w mg)  (D__law_run : Df P w K mg base 4 "_law_run" ["_law_program_here", "_law_numbers"] m__law_run) (F : FnP K "_law_due" s__law_due f fd) (g : mg "_law_due" = some (.ref f)) : Df P w K mg base 5 "_law_due" ["_law_program_here", "_law_numbers"] m__law_due :=
  have nd := sc__law_due.nd
  df_of (kk := 2) (NN := 3) (body := b__law_due) F g sc__law_due rfl rfl (fun _ _ _ _ _ _ _ us hl => match us, hl with | [_, _], _ => rfl) fun cdv A outer s H E hr =>
    ess_cons (es_set (i := 2) nd (ec D__law_run hr tk_of (ea_cons (ee_var 0) (ea_cons (ee_var 1) (ea_nil)))))
    (ess_one (es_ret (ee_ifExp (et_val (ee_isi .list rfl T.f_isinstance rfl T.f_list (by decide +kernel) (by decide) (by decide) (ee_var 2))) (ee_tup (ea_cons (ee_str) (ea_cons (ee_bltT call_tuple_of ok_tuple (by rfl) T.f_tuple (by decide +kernel) (ea_cons (ee_var 2) (ea_nil))) (ea_nil)))) (ee_var 2))))
theorem sc__law_by_hand : FnScope ["_law_draw", "_law_rows", "_law_k", "_law_found", "_law_names_here", "_law_many", "_law_own", "_law_numbers", "_law_twice", "_law_last"] ["_law_draw"] (defScope s__law_by_hand) := ⟨rfl, rfl, rfl, by decide +kernel, rfl, by decide +kernel, by decide +kernel⟩
theorem ok__law_by_hand {f : Addr} {fd : FuncData} (T : Top K w mg)  (D__law_take : Df P w K mg base 2 "_law_take" ["_law_draw", "_law_many"] m__law_take) (D__law_names : Df P w K mg base 3 "_law_names" ["_law_draw", "_law_many"] m__law_names) (D__law_constant : Df P w K mg base 3 "_law_constant" ["_law_draw"] m__law_constant) (D__law_share : Df P w K mg base 1 "_law_share" ["_law_above", "_law_below"] m__law_share) (F : FnP K "_law_by_hand" s__law_by_hand f fd) (g : mg "_law_by_hand" = some (.ref f)) : Df P w K mg base 4 "_law_by_hand" ["_law_draw"] m__law_by_hand :=
  have nd := sc__law_by_hand.nd
  df_of (kk := 1) (NN := 10) (body := b__law_by_hand) F g sc__law_by_hand rfl rfl (fun _ _ _ _ _ _ _ us hl => match us, hl with | [_], _ => rfl) fun cdv A outer s H E hr =>
    ess_cons (es_set (i := 1) nd (ee_lst (ea_cons (ee_tup (ea_cons (ee_str) (ea_cons (ee_tup (ea_cons (ee_str) (ea_cons (ee_tup (ea_cons (ee_op op_addA ok_add (ee_int) (ec D__law_take hr tk_of (ea_cons (ee_var 0) (ea_cons (ee_op op_pow ok_pow (ee_int) (ee_int)) (ea_nil))))) (ea_cons (ee_int) (ea_nil)))) (ea_nil)))) (ea_nil)))) (ea_nil))))
    (ess_cons (es_for (fb := bl__law_by_hand_1) po_of rfl (ei_range1 (by rfl) T.f_range (ea_cons (ee_int) (ea_nil))) (eg_name (i := 2) nd) (ess_one (es_expr (ee_mt PySem.F.plainAttrs_list PySem.F.slot_list_append PySem.F.type_list_append mt_append tyL_ok ok_app (ee_var 1) (ea_cons (ee_tup (ea_cons (ee_op op_addA ok_add (ee_str) (ee_iy hr.units (ee_str) (ee_var 2))) (ea_cons (ee_tup (ea_cons (ee_str) (ea_cons (ee_ix (ee_ix (ee_var 1) (ee_neg (ee_int))) (ee_int)) (ea_cons (ee_ix (ee_ix (ee_var 1) (ee_neg (ee_int))) (ee_int)) (ea_nil))))) (ea_nil)))) (ea_nil))))))
    (ess_frz 1 (ess_cons (es_set (i := 3) nd (ee_lst (ea_cons (ee_tup (ea_cons (ee_tup (ea_cons (ee_tup (ea_nil)) (ea_cons (ee_bltT call_tuple_of ok_tuple (by rfl) T.f_tuple (by decide +kernel) (ea_cons (ee_var 1) (ea_nil))) (ea_nil)))) (ea_cons (ee_tup (ea_nil)) (ea_nil)))) (ea_nil))))
    (ess_cons (es_set (i := 4) nd (ec D__law_names hr tk_of (ea_cons (ee_var 0) (ea_cons (ee_int) (ea_nil)))))
    (ess_cons (es_set (i := 5) nd (ee_lst (ea_nil)))
    (ess_cons (es_for (fb := bl__law_by_hand_2) po_of rfl (ei_range1 (by rfl) T.f_range (ea_cons (ee_int) (ea_nil))) (eg_name (i := 2) nd) (ess_cons (es_set (i := 6) nd (ee_op op_addA ok_add (ee_op op_addA ok_add (ee_str) (ee_ix (ee_str) (ee_op op_fdivC ok_div (ee_var 2) (ee_int)))) (ee_ix (ee_str) (ee_op op_modN ok_mod (ee_var 2) (ee_int)))))
    (ess_one (es_expr (ee_mt PySem.F.plainAttrs_list PySem.F.slot_list_append PySem.F.type_list_append mt_append tyL_ok ok_app (ee_var 5) (ea_cons (ee_tup (ea_cons (ee_var 6) (ea_cons (ee_tup (ea_cons (ee_str) (ea_cons (ee_ix (ee_var 4) (ee_op op_modN ok_mod (ee_var 2) (ee_int))) (ea_cons (ee_ix (ee_var 4) (ee_op op_sub ok_sub (ee_int) (ee_op op_modN ok_mod (ee_var 2) (ee_int)))) (ea_nil))))) (ea_nil)))) (ea_nil)))))))
    (ess_frz 5 (ess_cons (es_set (i := 7) nd (ee_bltT call_tuple_of ok_tuple (by rfl) T.f_tuple (by decide +kernel) (ea_cons (ee_fz (ee_lc [2] [("_law_k", 2)] rfl nd (ei_range1 (by rfl) T.f_range (ea_cons (ee_int) (ea_nil))) (blkOk_by (N := ["_law_draw", "_law_rows", "_law_k", "_law_found", "_law_names_here", "_law_many", "_law_own", "_law_numbers", "_law_twice", "_law_last"]) (sc := defScope s__law_by_hand) (by decide +kernel)) (fun _ _ _ _ _ => egw_name (i := 2) nd) (fun _ _ _ _ _ => ets_nil) (fun _ _ _ _ _ => ec D__law_constant hr tk_blk (ea_cons (ee_var 0) (ea_nil))))) (ea_nil))))
    (ess_cons (es_expr (ee_mt PySem.F.plainAttrs_list PySem.F.slot_list_append PySem.F.type_list_append mt_append tyL_ok ok_app (ee_var 3) (ea_cons (ee_tup (ea_cons (ee_tup (ea_cons (ee_bltT call_tuple_of ok_tuple (by rfl) T.f_tuple (by decide +kernel) (ea_cons (ee_var 4) (ea_nil))) (ea_cons (ee_bltT call_tuple_of ok_tuple (by rfl) T.f_tuple (by decide +kernel) (ea_cons (ee_var 5) (ea_nil))) (ea_nil)))) (ea_cons (ee_var 7) (ea_nil)))) (ea_nil))))
    (ess_cons (es_set (i := 8) nd (ee_lst (ea_cons (ee_tup (ea_cons (ee_str) (ea_cons (ee_tup (ea_cons (ee_str) (ea_cons (ec D__law_share hr tk_of (ea_cons (ee_op op_addA ok_add (ee_int) (ec D__law_take hr tk_of (ea_cons (ee_var 0) (ea_cons (ee_int) (ea_nil))))) (ea_cons (ee_int) (ea_nil)))) (ea_nil)))) (ea_nil)))) (ea_nil))))
    (ess_cons (es_for (fb := bl__law_by_hand_3) po_of rfl (ei_range1 (by rfl) T.f_range (ea_cons (ee_int) (ea_nil))) (eg_name (i := 2) nd) (ess_cons (es_set (i := 6) nd (ee_op op_addA ok_add (ee_op op_addA ok_add (ee_str) (ee_ix (ee_str) (ee_op op_fdivC ok_div (ee_var 2) (ee_int)))) (ee_ix (ee_str) (ee_op op_modN ok_mod (ee_var 2) (ee_int)))))
    (ess_one (es_expr (ee_mt PySem.F.plainAttrs_list PySem.F.slot_list_append PySem.F.type_list_append mt_append tyL_ok ok_app (ee_var 8) (ea_cons (ee_tup (ea_cons (ee_var 6) (ea_cons (ee_tup (ea_cons (ee_ix (ee_fz (ee_lst (ea_cons (ee_str) (ea_cons (ee_str) (ea_cons (ee_str) (ea_cons (ee_str) (ea_nil))))))) (ee_op op_modN ok_mod (ee_var 2) (ee_int))) (ea_cons (ee_ix (ee_ix (ee_var 8) (ee_neg (ee_int))) (ee_int)) (ea_cons (ee_ix (ee_ix (ee_var 8) (ee_neg (ee_int))) (ee_int)) (ea_nil))))) (ea_nil)))) (ea_nil)))))))
    (ess_frz 8 (ess_cons (es_expr (ee_mt PySem.F.plainAttrs_list PySem.F.slot_list_append PySem.F.type_list_append mt_append tyL_ok ok_app (ee_var 3) (ea_cons (ee_tup (ea_cons (ee_tup (ea_cons (ee_tup (ea_nil)) (ea_cons (ee_bltT call_tuple_of ok_tuple (by rfl) T.f_tuple (by decide +kernel) (ea_cons (ee_var 8) (ea_nil))) (ea_nil)))) (ea_cons (ee_tup (ea_nil)) (ea_nil)))) (ea_nil))))
    (ess_cons (es_set (i := 9) nd (ee_tup (ea_cons (ee_tup (ea_cons (ee_str) (ea_cons (ee_tup (ea_cons (ee_str) (ea_cons (ee_ix (ee_var 4) (ee_int)) (ea_cons (ee_ix (ee_var 4) (ee_int)) (ea_nil))))) (ea_nil)))) (ea_nil))))
    (ess_cons (es_expr (ee_mt PySem.F.plainAttrs_list PySem.F.slot_list_append PySem.F.type_list_append mt_append tyL_ok ok_app (ee_var 3) (ea_cons (ee_tup (ea_cons (ee_tup (ea_cons (ee_bltT call_tuple_of ok_tuple (by rfl) T.f_tuple (by decide +kernel) (ea_cons (ee_var 4) (ea_nil))) (ea_cons (ee_var 9) (ea_nil)))) (ea_cons (ee_var 7) (ea_nil)))) (ea_nil))))
    (ess_frz 3 (ess_one (es_ret (ee_fz (ee_op op_addA ok_add (ee_var 3) (ee_fz (ee_lst (ea_cons (ee_tup (ea_cons (ee_tup (ea_cons (ee_bltT call_tuple_of ok_tuple (by rfl) T.f_tuple (by decide +kernel) (ea_cons (ee_var 4) (ea_nil))) (ea_cons (ee_var 9) (ea_nil)))) (ea_cons (ee_op op_addA ok_add (ee_op op_addA ok_add (ee_fz (ee_slice (ee_var 7) (eo_none) (eo_some (ee_int)))) (ee_tup (ea_cons (ee_tup (ea_cons (ee_int) (ea_cons (ee_int) (ea_nil)))) (ea_nil)))) (ee_fz (ee_slice (ee_var 7) (eo_some (ee_int)) (eo_none)))) (ea_nil)))) (ea_nil))))))))))))))))))))))))
theorem sc_law : FnScope ["_law_script", "_law_held", "_law_draw", "_law_program_here", "_law_name", "_law_numbers"] ["_law_script"] (defScope s_law) := ⟨rfl, rfl, rfl, by decide +kernel, rfl, by decide +kernel, by decide +kernel⟩
theorem ok_law {f : Addr} {fd : FuncData} (T : Top K w mg) {c pt : Addr} (LT : LamT K mg base "law" c pt)  (D__law_draws : Df P w K mg base 2 "_law_draws" ["_law_script"] m__law_draws) (D__law_program : Df P w K mg base 5 "_law_program" ["_law_draw", "_law_most_ins", "_law_most_rows"] m__law_program) (D__law_constant : Df P w K mg base 3 "_law_constant" ["_law_draw"] m__law_constant) (D__law_take : Df P w K mg base 2 "_law_take" ["_law_draw", "_law_many"] m__law_take) (D__law_by_hand : Df P w K mg base 4 "_law_by_hand" ["_law_draw"] m__law_by_hand) (D__law_told : DfL P w K mg base 1 "_law_told" ["_law_deed"] m__law_told) (D_true_run : Df P w K mg base 7 "true_run" ["program", "numbers"] m_true_run) (D__law_due : Df P w K mg base 5 "_law_due" ["_law_program_here", "_law_numbers"] m__law_due) (g : mg "law" = some (.ref f)) (F : FnP K "law" s_law f fd) : FnG P w K mg base 10 f fd ["_law_script"] (spF K mg m_law) :=
  have nd := sc_law.nd
  law_ofT (kk := 1) (NN := 6) (body := b_law) LT g F sc_law rfl rfl fun A outer s H E hr =>
    ess_cons (es_set (i := 1) nd (ee_lst (ea_nil)))
    (ess_cons (es_forR (fb := bl_law_1) po_of rfl (ec D__law_draws hr tk_of (ea_cons (ee_var 0) (ea_nil))) (eg_name (i := 2) nd) (ess_cons (es_set (i := 3) nd (ec D__law_program hr tk_of (ea_cons (ee_var 2) (ea_cons (ee_int) (ea_cons (ee_int) (ea_nil))))))
    (ess_cons (es_expr (ee_mt PySem.F.plainAttrs_list PySem.F.slot_list_append PySem.F.type_list_append mt_append tyL_ok ok_app (ee_var 1) (ea_cons (ee_tup (ea_cons (ee_var 3) (ea_cons (ee_bltT call_tuple_of ok_tuple (by rfl) T.f_tuple (by decide +kernel) (ea_cons (ee_fz (ee_lc [4] [("_law_name", 4)] rfl nd (ei_seq (ee_ix (ee_var 3) (ee_int))) (blkOk_by (N := ["_law_script", "_law_held", "_law_draw", "_law_program_here", "_law_name", "_law_numbers"]) (sc := defScope s_law) (by decide +kernel)) (fun _ _ _ _ _ => egw_name (i := 4) nd) (fun _ _ _ _ _ => ets_nil) (fun _ _ _ _ _ => ec D__law_constant hr tk_blk (ea_cons (ee_var 2) (ea_nil))))) (ea_nil))) (ea_nil)))) (ea_nil))))
    (ess_one (es_if (et_cmp (OpR.or op_eq (op_eqD hr.units)) ok_eq (ec D__law_take hr tk_of (ea_cons (ee_var 2) (ea_cons (ee_int) (ea_nil)))) (ee_int) (nomark _)) (ess_one (es_set (i := 1) nd (ee_op op_addA ok_add (ee_var 1) (ec D__law_by_hand hr tk_of (ea_cons (ee_var 2) (ea_nil)))))) (ess_nil))))))
    (ess_cons (es_for (fb := bl_law_2) po_of rfl (ei_seq (ee_fz (ee_op op_addA ok_add (ee_fz (ee_op op_addA ok_add (ee_var 1) (ec D__law_by_hand hr tk_of (ea_cons (ee_ixO (ec D__law_draws hr tk_of (ea_cons (ee_var 0) (ea_nil))) (ee_int)) (ea_nil))))) (ee_fz (ee_rv (ee_var 1) (eo_some (ee_neg (ee_int))) (fun _ _ => rfl)))))) (eg_tup rfl (egs_cons (eg_name (i := 3) nd) (egs_cons (eg_name (i := 5) nd) (egs_nil)))) (ess_one (es_if (et_cmp (OpR.or op_ne (op_neD hr.units)) ok_ne (ee_blt (call_reprL T.dig hr.g hr.units) ok_reprL (by rfl) T.f_repr (by decide +kernel) (ea_cons (ee_lam 0 LT D__law_told hr tk_of rfl rfl 7 (fun A outer s H E f c2 hr => ec D_true_run hr tk_lam (ea_cons (ee_var 3) (ea_cons (ee_var 5) (ea_nil)))) (LamX.lamS_by (sc := defScope s_law) (by decide +kernel))) (ea_nil))) (ee_blt (call_reprL T.dig hr.g hr.units) ok_reprL (by rfl) T.f_repr (by decide +kernel) (ea_cons (ec D__law_due hr tk_of (ea_cons (ee_var 3) (ea_cons (ee_var 5) (ea_nil)))) (ea_nil))) (nomark _)) (ess_one (es_ret (ee_bl))) (ess_nil))))
    (ess_one (es_ret (ee_bl)))))
end
theorem facts {P : Program} {w : World} {K : PySem.W.Frag} {h : Heap} {mg : Str → Option Value} {f : Addr} {cs : List (Addr × Addr)} (X : K.In h) (G : h.Ns mainGlobals mg) (hfa : mg ("law" : Str) = some (.ref f)) (c : SaysR fa fn ex K) (tw : TabsW tn w K) (TK : TabsK K h lams cs) :
    ∃ fd : FuncData, (∀ (s : Shared) (v : Value), BindsTo s fd ⟨[v], []⟩ [("_law_script", v)]) ∧ ∀ base : Heap, K.In base → base.Ns mainGlobals mg → (∀ p ∈ cs, LamX.TabB base mg p.1 p.2) → FnG P w K mg base 10 f fd ["_law_script"] (spF K mg m_law) := by
  obtain ⟨c, cx⟩ := c
  obtain ⟨fd_is_whole, F_is_whole⟩ := c.def_ 0 (d := d_is_whole) rfl
  obtain ⟨fd_shared, F_shared⟩ := c.def_ 1 (d := d_shared) rfl
  obtain ⟨fd_fraction, F_fraction⟩ := c.def_ 2 (d := d_fraction) rfl
  obtain ⟨fd_is_fraction, F_is_fraction⟩ := c.def_ 3 (d := d_is_fraction) rfl
  obtain ⟨fd_is_great, F_is_great⟩ := c.def_ 4 (d := d_is_great) rfl
  obtain ⟨fd_need_small, F_need_small⟩ := c.def_ 5 (d := d_need_small) rfl
  obtain ⟨fd_whole_of, F_whole_of⟩ := c.def_ 6 (d := d_whole_of) rfl
  obtain ⟨fd_plus, F_plus⟩ := c.def_ 7 (d := d_plus) rfl
  obtain ⟨fd_turned, F_turned⟩ := c.def_ 8 (d := d_turned) rfl
  obtain ⟨fd_less, F_less⟩ := c.def_ 9 (d := d_less) rfl
  obtain ⟨fd_times, F_times⟩ := c.def_ 10 (d := d_times) rfl
  obtain ⟨fd_over, F_over⟩ := c.def_ 11 (d := d_over) rfl
  obtain ⟨fd_size_of, F_size_of⟩ := c.def_ 12 (d := d_size_of) rfl
  obtain ⟨fd_is_less, F_is_less⟩ := c.def_ 13 (d := d_is_less) rfl
  obtain ⟨fd_lesser, F_lesser⟩ := c.def_ 14 (d := d_lesser) rfl
  obtain ⟨fd_greater, F_greater⟩ := c.def_ 15 (d := d_greater) rfl
  obtain ⟨fd_power, F_power⟩ := c.def_ 16 (d := d_power) rfl
  obtain ⟨fd_is_name, F_is_name⟩ := c.def_ 17 (d := d_is_name) rfl
  obtain ⟨fd_is_work, F_is_work⟩ := c.def_ 18 (d := d_is_work) rfl
  obtain ⟨fd_are_ins, F_are_ins⟩ := c.def_ 19 (d := d_are_ins) rfl
  obtain ⟨fd_is_row, F_is_row⟩ := c.def_ 20 (d := d_is_row) rfl
  obtain ⟨fd_wrong_row, F_wrong_row⟩ := c.def_ 21 (d := d_wrong_row) rfl
  obtain ⟨fd_need_program, F_need_program⟩ := c.def_ 22 (d := d_need_program) rfl
  obtain ⟨fd_is_enough, F_is_enough⟩ := c.def_ 23 (d := d_is_enough) rfl
  obtain ⟨fd_place_of, F_place_of⟩ := c.def_ 24 (d := d_place_of) rfl
  obtain ⟨fd_step_of, F_step_of⟩ := c.def_ 25 (d := d_step_of) rfl
  obtain ⟨fd_whole_by, F_whole_by⟩ := c.def_ 26 (d := d_whole_by) rfl
  obtain ⟨fd_rounded, F_rounded⟩ := c.def_ 27 (d := d_rounded) rfl
  obtain ⟨fd_exact, F_exact⟩ := c.def_ 28 (d := d_exact) rfl
  obtain ⟨fd_done, F_done⟩ := c.def_ 29 (d := d_done) rfl
  obtain ⟨fd_are_fractions, F_are_fractions⟩ := c.def_ 30 (d := d_are_fractions) rfl
  obtain ⟨fd_true_run, F_true_run⟩ := c.def_ 31 (d := d_true_run) rfl
  obtain ⟨fd__law_mixed, F__law_mixed⟩ := c.def_ 32 (d := d__law_mixed) rfl
  obtain ⟨fd__law_draws, F__law_draws⟩ := c.def_ 33 (d := d__law_draws) rfl
  obtain ⟨fd__law_take, F__law_take⟩ := c.def_ 34 (d := d__law_take) rfl
  obtain ⟨fd__law_share, F__law_share⟩ := c.def_ 35 (d := d__law_share) rfl
  obtain ⟨fd__law_sum, F__law_sum⟩ := c.def_ 36 (d := d__law_sum) rfl
  obtain ⟨fd__law_is_less, F__law_is_less⟩ := c.def_ 37 (d := d__law_is_less) rfl
  obtain ⟨fd__law_names, F__law_names⟩ := c.def_ 38 (d := d__law_names) rfl
  obtain ⟨fd__law_constant, F__law_constant⟩ := c.def_ 39 (d := d__law_constant) rfl
  obtain ⟨fd__law_work, F__law_work⟩ := c.def_ 40 (d := d__law_work) rfl
  obtain ⟨fd__law_program, F__law_program⟩ := c.def_ 41 (d := d__law_program) rfl
  obtain ⟨fd__law_exact, F__law_exact⟩ := c.def_ 42 (d := d__law_exact) rfl
  obtain ⟨fd__law_run, F__law_run⟩ := c.def_ 43 (d := d__law_run) rfl
  obtain ⟨fd__law_told, F__law_told⟩ := c.def_ 44 (d := d__law_told) rfl
  obtain ⟨fd__law_due, F__law_due⟩ := c.def_ 45 (d := d__law_due) rfl
  obtain ⟨fd__law_by_hand, F__law_by_hand⟩ := c.def_ 46 (d := d__law_by_hand) rfl
  obtain ⟨fd_law, F_law⟩ := c.def_ 47 (d := d_law) rfl
  obtain ⟨fd_i_BadProgram, F_i_BadProgram⟩ := c.def_ 48 (d := d_i_BadProgram) rfl
  obtain ⟨fd_i_ByNought, F_i_ByNought⟩ := c.def_ 49 (d := d_i_ByNought) rfl
  have g_is_whole := He.glo_ok X G (c.fact 0 (f := .glo "is_whole") rfl)
  have g_shared := He.glo_ok X G (c.fact 1 (f := .glo "shared") rfl)
  have g_fraction := He.glo_ok X G (c.fact 2 (f := .glo "fraction") rfl)
  have g_is_fraction := He.glo_ok X G (c.fact 3 (f := .glo "is_fraction") rfl)
  have g_is_great := He.glo_ok X G (c.fact 4 (f := .glo "is_great") rfl)
  have g_need_small := He.glo_ok X G (c.fact 5 (f := .glo "need_small") rfl)
  have g_whole_of := He.glo_ok X G (c.fact 6 (f := .glo "whole_of") rfl)
  have g_plus := He.glo_ok X G (c.fact 7 (f := .glo "plus") rfl)
  have g_turned := He.glo_ok X G (c.fact 8 (f := .glo "turned") rfl)
  have g_less := He.glo_ok X G (c.fact 9 (f := .glo "less") rfl)
  have g_times := He.glo_ok X G (c.fact 10 (f := .glo "times") rfl)
  have g_over := He.glo_ok X G (c.fact 11 (f := .glo "over") rfl)
  have g_size_of := He.glo_ok X G (c.fact 12 (f := .glo "size_of") rfl)
  have g_is_less := He.glo_ok X G (c.fact 13 (f := .glo "is_less") rfl)
  have g_lesser := He.glo_ok X G (c.fact 14 (f := .glo "lesser") rfl)
  have g_greater := He.glo_ok X G (c.fact 15 (f := .glo "greater") rfl)
  have g_power := He.glo_ok X G (c.fact 16 (f := .glo "power") rfl)
  have g_is_name := He.glo_ok X G (c.fact 17 (f := .glo "is_name") rfl)
  have g_is_work := He.glo_ok X G (c.fact 18 (f := .glo "is_work") rfl)
  have g_are_ins := He.glo_ok X G (c.fact 19 (f := .glo "are_ins") rfl)
  have g_is_row := He.glo_ok X G (c.fact 20 (f := .glo "is_row") rfl)
  have g_wrong_row := He.glo_ok X G (c.fact 21 (f := .glo "wrong_row") rfl)
  have g_need_program := He.glo_ok X G (c.fact 22 (f := .glo "need_program") rfl)
  have g_is_enough := He.glo_ok X G (c.fact 23 (f := .glo "is_enough") rfl)
  have g_place_of := He.glo_ok X G (c.fact 24 (f := .glo "place_of") rfl)
  have g_step_of := He.glo_ok X G (c.fact 25 (f := .glo "step_of") rfl)
  have g_whole_by := He.glo_ok X G (c.fact 26 (f := .glo "whole_by") rfl)
  have g_rounded := He.glo_ok X G (c.fact 27 (f := .glo "rounded") rfl)
  have g_exact := He.glo_ok X G (c.fact 28 (f := .glo "exact") rfl)
  have g_done := He.glo_ok X G (c.fact 29 (f := .glo "done") rfl)
  have g_are_fractions := He.glo_ok X G (c.fact 30 (f := .glo "are_fractions") rfl)
  have g_true_run := He.glo_ok X G (c.fact 31 (f := .glo "true_run") rfl)
  have g__law_mixed := He.glo_ok X G (c.fact 32 (f := .glo "_law_mixed") rfl)
  have g__law_draws := He.glo_ok X G (c.fact 33 (f := .glo "_law_draws") rfl)
  have g__law_take := He.glo_ok X G (c.fact 34 (f := .glo "_law_take") rfl)
  have g__law_share := He.glo_ok X G (c.fact 35 (f := .glo "_law_share") rfl)
  have g__law_sum := He.glo_ok X G (c.fact 36 (f := .glo "_law_sum") rfl)
  have g__law_is_less := He.glo_ok X G (c.fact 37 (f := .glo "_law_is_less") rfl)
  have g__law_names := He.glo_ok X G (c.fact 38 (f := .glo "_law_names") rfl)
  have g__law_constant := He.glo_ok X G (c.fact 39 (f := .glo "_law_constant") rfl)
  have g__law_work := He.glo_ok X G (c.fact 40 (f := .glo "_law_work") rfl)
  have g__law_program := He.glo_ok X G (c.fact 41 (f := .glo "_law_program") rfl)
  have g__law_exact := He.glo_ok X G (c.fact 42 (f := .glo "_law_exact") rfl)
  have g__law_run := He.glo_ok X G (c.fact 43 (f := .glo "_law_run") rfl)
  have g__law_told := He.glo_ok X G (c.fact 44 (f := .glo "_law_told") rfl)
  have g__law_due := He.glo_ok X G (c.fact 45 (f := .glo "_law_due") rfl)
  have g__law_by_hand := He.glo_ok X G (c.fact 46 (f := .glo "_law_by_hand") rfl)
  have g_law := He.glo_ok X G (c.fact 47 (f := .glo "law") rfl)
  have cx2 := cx
  unfold ex at cx2
  simp only [Bool.and_eq_true] at cx2
  have T : Top K w mg := ⟨gdict_ok X G cx2.2 (tw.at_ 0), He.free_ok X G (c.fact 48 (f := .free "ValueError") rfl), He.free_ok X G (c.fact 49 (f := .free "abs") rfl), He.free_ok X G (c.fact 50 (f := .free "all") rfl), He.free_ok X G (c.fact 51 (f := .free "bool") rfl), He.free_ok X G (c.fact 52 (f := .free "dict") rfl), He.free_ok X G (c.fact 53 (f := .free "enumerate") rfl), He.free_ok X G (c.fact 54 (f := .free "int") rfl), He.free_ok X G (c.fact 55 (f := .free "isinstance") rfl), He.free_ok X G (c.fact 56 (f := .free "len") rfl), He.free_ok X G (c.fact 57 (f := .free "list") rfl), He.free_ok X G (c.fact 58 (f := .free "range") rfl), He.free_ok X G (c.fact 59 (f := .free "repr") rfl), He.free_ok X G (c.fact 60 (f := .free "set") rfl), He.free_ok X G (c.fact 61 (f := .free "str") rfl), He.free_ok X G (c.fact 62 (f := .free "sum") rfl), He.free_ok X G (c.fact 63 (f := .free "tuple") rfl), He.free_ok X G (c.fact 64 (f := .free "zip") rfl), gB_ok X G cx2.1.1.1.1.1.1.1.1.1.1.1.1.1.1.1.1.1.1.1.1.1.1, gB_ok X G cx2.1.1.1.1.1.1.1.1.1.1.1.1.1.1.1.1.1.1.1.1.1.2, gB_ok X G cx2.1.1.1.1.1.1.1.1.1.1.1.1.1.1.1.1.1.1.1.1.2, gB_ok X G cx2.1.1.1.1.1.1.1.1.1.1.1.1.1.1.1.1.1.1.1.2, gB_ok X G cx2.1.1.1.1.1.1.1.1.1.1.1.1.1.1.1.1.1.1.2, gB_ok X G cx2.1.1.1.1.1.1.1.1.1.1.1.1.1.1.1.1.1.2, digB_ok cx2.1.1.1.1.1.1.1.1.1.1.1.1.1.1.1.1.2, xfTB_ok X G cx2.1.1.1.1.1.1.1.1.1.1.1.1.1.1.1.2, isOB_ok X G cx2.1.1.1.1.1.1.1.1.1.1.1.1.1.1.2, isOB_ok X G cx2.1.1.1.1.1.1.1.1.1.1.1.1.1.2, isOB_ok X G cx2.1.1.1.1.1.1.1.1.1.1.1.1.2, isOB_ok X G cx2.1.1.1.1.1.1.1.1.1.1.1.2, isOB_ok X G cx2.1.1.1.1.1.1.1.1.1.1.2, isOB_ok X G cx2.1.1.1.1.1.1.1.1.1.2, isOB_ok X G cx2.1.1.1.1.1.1.1.1.2, isOB_ok X G cx2.1.1.1.1.1.1.1.2, isFB_ok X G cx2.1.1.1.1.1.1.2, iniB_ok X G cx2.1.1.1.1.1.2, iniB_ok X G cx2.1.1.1.1.2, catB_ok X G cx2.1.1.1.2, errB_ok X G cx2.1.1.2, errB_ok X G cx2.1.2, gfn_ok g_greater, gfn_ok g_less, gfn_ok g_lesser, gfn_ok g_plus, gfn_ok g_times⟩
  have e := hfa.symm.trans g_law
  cases e
  have b := FunD.bindsA (ps := ["_law_script"]) F_law fun _ _ _ _ _ _ us hl => match us, hl with | [_], _ => rfl
  refine ⟨fd_law, fun s v => b s [v] rfl, fun base _ _ tb => ?_⟩
  obtain ⟨c_law, P_law, LT_law⟩ := lamT_of X G TK tb 0 (x := "law") rfl
  have I_BadProgram : IniC P w K mg base "BadProgram" "row" := ini_BadProgram T F_i_BadProgram
  have I_ByNought : IniC P w K mg base "ByNought" "row" := ini_ByNought T F_i_ByNought
  have D_is_whole : Df P w K mg base 1 "is_whole" ["thing"] m_is_whole := ok_is_whole T  F_is_whole g_is_whole
  have D_shared : Df P w K mg base 1 "shared" ["one", "other"] m_shared := ok_shared T  F_shared g_shared
  have D_fraction : Df P w K mg base 2 "fraction" ["above", "below"] m_fraction := ok_fraction T D_shared F_fraction g_fraction
  have D_is_fraction : Df P w K mg base 2 "is_fraction" ["thing"] m_is_fraction := ok_is_fraction T D_is_whole D_shared F_is_fraction g_is_fraction
  have D_is_great : Df P w K mg base 1 "is_great" ["number"] m_is_great := ok_is_great T  F_is_great g_is_great
  have D_need_small : Df P w K mg base 2 "need_small" ["number"] m_need_small := ok_need_small T D_is_great F_need_small g_need_small
  have D_whole_of : Df P w K mg base 1 "whole_of" ["number"] m_whole_of := ok_whole_of T  F_whole_of g_whole_of
  have D_plus : Df P w K mg base 3 "plus" ["one", "other"] m_plus := ok_plus T D_fraction F_plus g_plus
  have D_turned : Df P w K mg base 1 "turned" ["one"] m_turned := ok_turned T  F_turned g_turned
  have D_less : Df P w K mg base 4 "less" ["one", "other"] m_less := ok_less T D_plus D_turned F_less g_less
  have D_times : Df P w K mg base 3 "times" ["one", "other"] m_times := ok_times T D_fraction F_times g_times
  have D_over : Df P w K mg base 3 "over" ["one", "other"] m_over := ok_over T D_fraction F_over g_over
  have D_size_of : Df P w K mg base 1 "size_of" ["one"] m_size_of := ok_size_of T  F_size_of g_size_of
  have D_is_less : Df P w K mg base 1 "is_less" ["one", "other"] m_is_less := ok_is_less T  F_is_less g_is_less
  have D_lesser : Df P w K mg base 2 "lesser" ["one", "other"] m_lesser := ok_lesser T D_is_less F_lesser g_lesser
  have D_greater : Df P w K mg base 2 "greater" ["one", "other"] m_greater := ok_greater T D_is_less F_greater g_greater
  have D_power : Df P w K mg base 1 "power" ["base", "exponent"] m_power := ok_power T  F_power g_power
  have D_is_name : Df P w K mg base 1 "is_name" ["thing"] m_is_name := ok_is_name T  F_is_name g_is_name
  have D_is_work : Df P w K mg base 3 "is_work" ["thing", "names"] m_is_work := ok_is_work T D_is_fraction D_is_great D_is_name F_is_work g_is_work
  have D_are_ins : Df P w K mg base 2 "are_ins" ["thing"] m_are_ins := ok_are_ins T D_is_name F_are_ins g_are_ins
  have D_is_row : Df P w K mg base 4 "is_row" ["thing", "names"] m_is_row := ok_is_row T D_is_name D_is_work F_is_row g_is_row
  have D_wrong_row : Df P w K mg base 5 "wrong_row" ["thing"] m_wrong_row := ok_wrong_row T D_are_ins D_is_row F_wrong_row g_wrong_row
  have D_need_program : Df P w K mg base 6 "need_program" ["thing"] m_need_program := ok_need_program T I_BadProgram D_wrong_row F_need_program g_need_program
  have D_is_enough : Df P w K mg base 2 "is_enough" ["ruler", "size", "place"] m_is_enough := ok_is_enough T D_is_less D_power F_is_enough g_is_enough
  have D_place_of : Df P w K mg base 3 "place_of" ["ruler", "number"] m_place_of := ok_place_of T D_size_of D_is_enough F_place_of g_place_of
  have D_step_of : Df P w K mg base 4 "step_of" ["ruler", "number"] m_step_of := ok_step_of T D_power D_place_of F_step_of g_step_of
  have D_whole_by : Df P w K mg base 1 "whole_by" ["way", "above", "below"] m_whole_by := ok_whole_by T  F_whole_by g_whole_by
  have D_rounded : Df P w K mg base 5 "rounded" ["ruler", "number"] m_rounded := ok_rounded T D_step_of D_over D_times D_whole_of D_whole_by F_rounded g_rounded
  have D_exact : Df P w K mg base 5 "exact" ["work", "known"] m_exact := ok_exact T D_turned D_size_of D_is_less D_over D_greater D_lesser D_times D_less D_plus F_exact g_exact
  have D_done : Df P w K mg base 6 "done" ["program", "numbers", "ruler"] m_done := ok_done T I_ByNought D_exact D_need_small D_rounded F_done g_done
  have D_are_fractions : Df P w K mg base 3 "are_fractions" ["program", "thing"] m_are_fractions := ok_are_fractions T D_is_fraction D_is_great F_are_fractions g_are_fractions
  have D_true_run : Df P w K mg base 7 "true_run" ["program", "numbers"] m_true_run := ok_true_run T D_need_program D_are_fractions D_done F_true_run g_true_run
  have D__law_mixed : Df P w K mg base 1 "_law_mixed" ["_law_number", "_law_k"] m__law_mixed := ok__law_mixed T  F__law_mixed g__law_mixed
  have D__law_draws : Df P w K mg base 2 "_law_draws" ["_law_script"] m__law_draws := ok__law_draws T D__law_mixed F__law_draws g__law_draws
  have D__law_take : Df P w K mg base 2 "_law_take" ["_law_draw", "_law_many"] m__law_take := ok__law_take T D__law_mixed F__law_take g__law_take
  have D__law_share : Df P w K mg base 1 "_law_share" ["_law_above", "_law_below"] m__law_share := ok__law_share T  F__law_share g__law_share
  have D__law_sum : Df P w K mg base 2 "_law_sum" ["_law_one", "_law_other", "_law_sign"] m__law_sum := ok__law_sum T D__law_share F__law_sum g__law_sum
  have D__law_is_less : Df P w K mg base 1 "_law_is_less" ["_law_one", "_law_other"] m__law_is_less := ok__law_is_less T  F__law_is_less g__law_is_less
  have D__law_names : Df P w K mg base 3 "_law_names" ["_law_draw", "_law_many"] m__law_names := ok__law_names T D__law_take F__law_names g__law_names
  have D__law_constant : Df P w K mg base 3 "_law_constant" ["_law_draw"] m__law_constant := ok__law_constant T D__law_take D__law_share F__law_constant g__law_constant
  have D__law_work : Df P w K mg base 4 "_law_work" ["_law_draw", "_law_names_here"] m__law_work := ok__law_work T D__law_take D__law_constant F__law_work g__law_work
  have D__law_program : Df P w K mg base 5 "_law_program" ["_law_draw", "_law_most_ins", "_law_most_rows"] m__law_program := ok__law_program T D__law_take D__law_names D__law_work F__law_program g__law_program
  have D__law_exact : Df P w K mg base 3 "_law_exact" ["_law_work_here", "_law_known"] m__law_exact := ok__law_exact T D__law_sum D__law_share D__law_is_less F__law_exact g__law_exact
  have D__law_run : Df P w K mg base 4 "_law_run" ["_law_program_here", "_law_numbers"] m__law_run := ok__law_run T D__law_exact F__law_run g__law_run
  have D__law_told : DfL P w K mg base 1 "_law_told" ["_law_deed"] m__law_told := ok__law_told T  F__law_told g__law_told
  have D__law_due : Df P w K mg base 5 "_law_due" ["_law_program_here", "_law_numbers"] m__law_due := ok__law_due T D__law_run F__law_due g__law_due
  have D__law_by_hand : Df P w K mg base 4 "_law_by_hand" ["_law_draw"] m__law_by_hand := ok__law_by_hand T D__law_take D__law_names D__law_constant D__law_share F__law_by_hand g__law_by_hand
  exact ok_law T LT_law D__law_draws D__law_program D__law_constant D__law_take D__law_by_hand D__law_told D_true_run D__law_due g_law F_law
local macro_rules | `(tactic| walk_at "ev") => `(tactic| simp only [mkF, enter, retF, trunc, sSeq, So.then_nx, So.then_rt, sSet, sRet, sRetN, sIf, sExpr, sNil, sPar, sAsg, ofG, gN, gsCons, gsNil, gTupT_tup, gTupT_Q, Out.then_ok, Out.then_ex, Out.bind_ok, Out.bind_ex, eVar, eD_eq, eOp, eCall, eBlt, aCons, aNil, eTup, eIf, eT, eNot, eAnd, eOr, tvAnd, tvOr, tvNot, eNeg, eIsi, isTy_d, isQ_tup, isQ_bool, isQ_int, isI_bool, isI_int, isI_tup, isB_bool, isB_int, ixQ0, ixQ1, truO_b, fzs_nil, fzs_d, gInt_eq, gAdd_int, gAbs_eq, fAdd_eq, fSub_eq, fLt_eq, fLe_eq, fGt_eq, fGe_eq, ix0, ix1, ix2, ix3, ix4, ix5, ofO_some, Option.map_some, Option.bind_some, List.length_cons, List.length_nil, List.map_cons, List.map_nil, List.replicate_succ, List.replicate_zero, List.cons_append, List.nil_append, List.getElem?_cons_zero, List.getElem?_cons_succ, List.set_cons_zero, List.set_cons_succ, List.take_length, Int.reduceEq, Int.reduceLT, Int.reduceLE, Nat.reduceSub, Nat.reduceAdd, Nat.reduceLeDiff, Nat.reduceLT, Nat.zero_add, Nat.add_zero, Nat.sub_self, if_true, if_false, reduceIte, Bool.false_eq_true, fitB, decide_true, decide_false, Bool.not_true, Bool.not_false])
local macro_rules | `(tactic| walk_at "rg") => `(tactic| first | rfl | exact rgB_of (by omega) (by omega))
local macro_rules | `(tactic| walk_at "len") => `(tactic| first | rfl | (simp only [List.length_set, List.length_append, List.length_cons, List.length_nil]; done))
local macro_rules | `(tactic| walk_at "bd") => `(tactic| with_reducible first
    | assumption
    | (apply BQ.nu; walk_at "bq")
    | (apply BQ.dn; walk_at "bq")
    | (apply Bd.mul <;> walk_at "bd")
    | (apply Bd.add <;> walk_at "bd")
    | (apply Bd.sub <;> walk_at "bd")
    | (apply Bd.neg; walk_at "bd")
    | (apply Bd.abs; walk_at "bd")
    | (apply Bd.ediv; walk_at "bd")
    | (apply Bd.emod; walk_at "bd"; walk_at "pos")
    | exact Bd.lit _)
local macro_rules | `(tactic| walk_at "bq") => `(tactic| with_reducible first
    | assumption
    | exact BQ.zero
    | exact BQ.one
    | (apply BQ.add' <;> walk_at "bq")
    | (apply BQ.sub' <;> walk_at "bq")
    | (apply BQ.mul' <;> walk_at "bq")
    | (apply BQ.div' <;> walk_at "bq")
    | (apply BQ.neg; walk_at "bq")
    | (apply BQ.abs; walk_at "bq")
    | (apply BQ.mn <;> walk_at "bq")
    | (apply BQ.mx <;> walk_at "bq")
    | (apply BQ.ite <;> walk_at "bq")
    | exact BQ.lit _
    | (apply BQ.i; walk_at "bd")
    | (apply BQ.dv <;> walk_at "bd"))
local macro_rules | `(tactic| walk_at "pos") => `(tactic| first | exact den_pos _ | omega | decide)
local macro_rules | `(tactic| walk_at "mok") => `(tactic| first | exact mulOk_smallR (Bd.mono (by walk_at "bd") (by walk_at "sm")) | exact mulOk_small (Bd.mono (by walk_at "bd") (by walk_at "sm")) | exact Bd.mulOk (by walk_at "bd") (by walk_at "bd") (by walk_at "sm"))
local macro_rules | `(tactic| walk_at "dok") => `(tactic| exact Bd.divOk (Bd.mono (m := 9000) (by walk_at "bd") (by walk_at "sm")) (by decide) (by decide))
local macro_rules | `(tactic| walk_at "nz") => `(tactic| assumption)
local macro_rules | `(tactic| walk_at "shw") => `(tactic| first
    | assumption
    | exact Shw.none
    | exact Shw.bool _
    | (apply Shw.Q; (walk_at "bq"); walk_at "sm")
    | (apply Shw.int; (walk_at "bd"); walk_at "sm")
    | (apply Shw.tup; walk_at "shwl")
    | (apply Shw.lst; walk_at "shwl"))
local macro_rules | `(tactic| walk_at "shwl") => `(tactic| first
    | exact ShwL.nil
    | (apply ShwL.cons; (walk_at "shw"); walk_at "shwl"))
local macro_rules | `(tactic| walk_at "sm") => `(tactic| first | decide | omega)
local macro_rules | `(tactic| walk_at "wp") => `(tactic| first
    | (refine hd_v ?_; first | refine wp_v0 ?_ | refine wp_v1 ?_ | refine wp_v2 ?_ | refine wp_v3 ?_ | refine wp_v4 ?_ | refine wp_v5 ?_ | refine wp_v6 ?_ | refine wp_v7 ?_ | refine wp_v8 ?_ | refine wp_v9 ?_ | refine wp_v10 ?_ | refine wp_v11 ?_ | refine wp_v12 ?_ | refine wp_v13 ?_ | refine wp_v14 ?_ | refine wp_v15 ?_ | refine wp_v16 ?_ | refine wp_v17 ?_ | refine wp_v18 ?_ | refine wp_v19 ?_ | refine wp_v20 ?_ | refine wp_v21 ?_ | refine wp_v22 ?_ | refine wp_v23 ?_ | refine wp_v24 ?_ | refine wp_v25 ?_)
    | walk_at "wk"
    | refine wp_D ?_
    | refine wp_op ?_
    | refine wp_call ?_
    | refine wp_cons ?_
    | refine wp_nil ?_
    | refine wp_T ?_
    | refine wp_if ?_
    | refine wp_tup ?_
    | refine wp_blt ?_
    | refine wp_fzL ?_
    | refine wp_fzO ?_
    | refine wp_fzB ?_
    | refine wp_fzS ?_
    | refine wp_fzT ?_
    | refine wp_fzR ?_
    | refine wp_rv ?_
    | refine wp_mtL ?_
    | refine wp_mtD ?_
    | refine wp_lst ?_
    | refine wp_tand ?_
    | refine wp_tor ?_
    | refine wp_tnot ?_
    | refine wp_and ?_
    | refine wp_or ?_
    | refine wp_not ?_
    | refine wp_chain ?_
    | refine wp_slice ?_
    | refine wp_oN ?_
    | refine wp_oS ?_
    | refine wp_step ?_
    | refine wp_tyes ?_
    | refine wp_isi ?_
    | refine wp_isE ?_
    | refine wp_neg ?_
    | refine wp_iv ?_
    | refine wp_itT ?_
    | refine wp_itL ?_
    | refine wp_rng1 ?_
    | refine wp_rng2 ?_
    | refine wp_zip ?_
    | refine wp_zip4 ?_
    | refine wp_enumB ?_
    | refine wp_rev ?_
    | refine wp_dct0 ?_
    | refine wp_dct ?_
    | refine wp_pn ?_
    | refine wp_pc ?_
    | refine wp_bits ?_
    | refine wp_unl ?_
    | refine wp_m1 ?_
    | refine wp_unp ?_
    | refine wp_tupZ ?_
    | refine wp_callF ?_
    | refine wp_itS ?_
    | refine wp_revR ?_
    | refine wp_lstR ?_
    | walk_at "wc")
local macro_rules | `(tactic| walk_at "ws") => `(tactic| first
    | refine ws_seq ?_
    | refine ws_set ?_
    | refine ws_if ?_
    | refine ws_ret ?_
    | refine ws_asg ?_
    | refine ws_expr ?_
    | refine ws_nil ?_
    | refine ws_for ?_
    | refine ws_par ?_
    | refine ws_par3 ?_
    | refine ws_parN2 ?_
    | refine ws_parN3 ?_
    | refine ws_parN4 ?_
    | refine ws_aug ?_
    | refine ws_retN ?_
    | refine ws_cont ?_
    | refine ws_brk ?_
    | refine ws_raise ?_
    | refine ws_try ?_
    | (apply ws_frzE; exact (by walk_at "len"); (with_unfolding_all rfl))
    | (apply ws_frzS; assumption; exact (by walk_at "len"); (with_unfolding_all rfl))
    | walk_at "wsc")
local macro_rules | `(tactic| walk_at "wsc") => `(tactic| fail)
local macro_rules | `(tactic| walk_at "bqm") => `(tactic| exact BQ.mono (by walk_at "bq") (by walk_at "sm"))
local macro_rules | `(tactic| walk_at "wo") => `(tactic| first
    | refine wo_eqE0 ?_
    | refine wo_eqE1 ?_
    | refine wo_add ?_
    | refine wo_sub ?_
    | refine wo_ixQ0 ?_
    | refine wo_ixQ1 ?_
    | refine wo_ix0 ?_
    | refine wo_ix1 ?_
    | refine wo_lt ?_
    | refine wo_le ?_
    | refine wo_gt ?_
    | refine wo_ge ?_
    | refine wo_eqI ?_
    | refine wo_neI ?_
    | refine wo_eqQ ?_
    | refine wo_neQ ?_
    | refine wo_eqQQ ?_
    | refine wo_neQQ ?_
    | refine wo_eqSS ?_
    | refine wo_neSS ?_
    | refine wo_eqS ?_
    | refine wo_neS ?_
    | refine wo_eqB ?_
    | refine wo_neB ?_
    | refine wo_isNn ?_
    | refine wo_isNt ?_
    | refine wo_isNl ?_
    | refine wo_isNq ?_
    | refine wo_isNi ?_
    | refine wo_isNb ?_
    | refine wo_isNs ?_
    | refine wo_isNx ?_
    | refine wo_ntNx ?_
    | refine wo_isNy ?_
    | refine wo_ntNy ?_
    | refine wo_ntNn ?_
    | refine wo_ntNt ?_
    | refine wo_ntNl ?_
    | refine wo_ntNq ?_
    | refine wo_ntNi ?_
    | (refine wo_mul ?_ ?_; (walk_at "mok"))
    | (refine wo_mod ?_ ?_; (walk_at "pos"))
    | (refine wo_div ?_ ?_ ?_; (walk_at "pos"); (walk_at "dok"))
    | (apply wo_pow; exact (by decide); exact (by decide))
    | (apply wo_powG; exact (by decide); exact (Bd.mono (by walk_at "bd") (by walk_at "sm")))
    | (apply wo_shl; exact (by walk_at "sm"); exact (by walk_at "sm"); exact (Bd.mono (by walk_at "bd") (by walk_at "sm")))
    | refine wo_ntNb ?_
    | refine wo_ntNs ?_
    | refine wo_isB ?_
    | refine wo_notB ?_
    | refine wo_abs ?_
    | refine wo_max ?_
    | refine wo_min ?_
    | refine wo_int1b ?_
    | refine wo_int1i ?_
    | refine wo_lenQ ?_
    | refine wo_lenT0 ?_
    | refine wo_lenL0 ?_
    | refine wo_lenT1 ?_
    | refine wo_lenL1 ?_
    | refine wo_lenT2 ?_
    | refine wo_lenL2 ?_
    | refine wo_lenT3 ?_
    | refine wo_lenL3 ?_
    | refine wo_lenT4 ?_
    | refine wo_lenL4 ?_
    | refine wo_lenT5 ?_
    | refine wo_lenL5 ?_
    | refine wo_lenT6 ?_
    | refine wo_lenL6 ?_
    | refine wo_lenT7 ?_
    | refine wo_lenL7 ?_
    | refine wo_lenT8 ?_
    | refine wo_lenL8 ?_
    | refine wo_lenT9 ?_
    | refine wo_lenL9 ?_
    | refine wo_lenT10 ?_
    | refine wo_lenL10 ?_
    | refine wo_lenT11 ?_
    | refine wo_lenL11 ?_
    | refine wo_lenT12 ?_
    | refine wo_lenL12 ?_
    | refine wo_lenT13 ?_
    | refine wo_lenL13 ?_
    | refine wo_lenT14 ?_
    | refine wo_lenL14 ?_
    | refine wo_lenT15 ?_
    | refine wo_lenL15 ?_
    | refine wo_lenT ?_
    | refine wo_lenL ?_
    | refine wo_listT ?_
    | refine wo_listL ?_
    | refine wo_tupT ?_
    | refine wo_tupL ?_
    | refine wo_rv2 ?_
    | refine wo_rvT ?_
    | refine wo_iadd ?_
    | refine wo_ix2 ?_
    | refine wo_ix3 ?_
    | refine wo_ix4 ?_
    | refine wo_ix5 ?_
    | refine wo_il0 ?_
    | refine wo_il1 ?_
    | refine wo_il2 ?_
    | refine wo_il3 ?_
    | refine wo_ilm2 ?_
    | refine wo_ilm1' ?_
    | refine wo_ilm1 ?_
    | refine wo_ix6 ?_
    | refine wo_ix7 ?_
    | refine wo_ix8 ?_
    | refine wo_ix9 ?_
    | refine wo_ix10 ?_
    | refine wo_il4 ?_
    | refine wo_il5 ?_
    | refine wo_il6 ?_
    | refine wo_il7 ?_
    | refine wo_il8 ?_
    | refine wo_il9 ?_
    | refine wo_il10 ?_
    | refine wo_iyQ ?_
    | refine wo_iyT rfl ?_
    | refine wo_iyL rfl ?_
    | (apply wo_slT'; exact (by walk_at "cut"))
    | (apply wo_slL'; exact (by walk_at "cut"))
    | refine wo_slT ?_
    | refine wo_slL ?_
    | (apply wo_addL'; exact (by walk_at "app"); exact (by walk_at "lsz"))
    | (apply wo_addT'; exact (by walk_at "app"); exact (by walk_at "lsz"))
    | (apply wo_repr; exact (by walk_at "shw"); exact (by walk_at "sm"); exact (by walk_at "sm"))
    | refine wo_repT rfl rfl ?_
    | (apply wo_rep2; exact (by walk_at "len"))
    | (apply wo_repE; exact (by walk_at "len"); exact rfl; exact rfl)
    | (apply wo_appE; exact (by walk_at "len"); exact (by walk_at "app"); exact (by walk_at "lsz"))
    | (apply wo_appS; assumption; exact (by walk_at "len"); exact (by walk_at "app"); exact (by walk_at "lsz"))
    | (apply wo_ixS0'; assumption; exact (by walk_at "len"))
    | (apply wo_ixS1'; assumption; exact (by walk_at "len"))
    | (apply wo_ixE0; exact (by walk_at "len"))
    | (apply wo_ixE1; exact (by walk_at "len"))
    | (apply wo_dgE; exact (by walk_at "len"); exact (by walk_at "dval"))
    | (apply wo_iyE; exact (by walk_at "len"); exact (by walk_at "dval"))
    | walk_at "woc"
    | refine wo_eqSelf (p := false) (by walk_at "ly") (by decide) ?_
    | refine wo_neSelf (p := false) (by walk_at "ly") (by decide) ?_)
local macro_rules | `(tactic| walk_at "app") => `(tactic| first | (simp only [List.cons_append, List.nil_append] <;> rfl) | rfl)
local macro_rules | `(tactic| walk_at "lsz") => `(tactic| first | omega | (simp only [List.length_cons, List.length_nil, List.length_append, List.length_map] <;> first | decide | omega))
local macro_rules | `(tactic| walk_at "cut") => `(tactic| simp only [cut_to0, cut_from0, cut_to1, cut_from1, cut_to2, cut_from2, cut_to3, cut_from3, cut_to4, cut_from4, cut_to5, cut_from5, cut_to6, cut_from6, cut_to7, cut_from7, cut_to8, cut_from8, cut_to9, cut_from9, cut_0_1, cut_0_2, cut_0_3, cut_0_4, cut_0_5, cut_0_6, cut_1_2, cut_1_3, cut_1_4, cut_1_5, cut_1_6, cut_2_3, cut_2_4, cut_2_5, cut_2_6, cut_3_4, cut_3_5, cut_3_6, cut_4_5, cut_4_6, cut_5_6, List.take_succ_cons, List.take_zero, List.drop_succ_cons, List.drop_zero, List.take_nil, List.drop_nil] <;> rfl)
local macro_rules | `(tactic| walk_at "ly") => `(tactic| first
    | assumption
    | exact Ly.none
    | exact Ly.int
    | exact Ly.bool
    | exact Ly.Q
    | (apply Ly.tup; walk_at "lyl")
    | (apply Ly.lst; walk_at "lyl"))
local macro_rules | `(tactic| walk_at "lyl") => `(tactic| first
    | exact LyL.nil
    | (apply LyL.cons; (walk_at "ly"); walk_at "lyl"))
local macro_rules | `(tactic| walk_at "le") => `(tactic| first | exact Rat.le_refl | exact Rat.not_lt.mp ‹_› | exact Rat.le_of_lt ‹_› | assumption)
local macro_rules | `(tactic| walk_at "hn") => `(tactic| first | assumption | (simp only [List.length_append, List.length_cons, List.length_nil, List.length_set]; omega))
local macro_rules | `(tactic| walk_at "wk") => `(tactic| fail)
local macro_rules | `(tactic| walk_at "dval") => `(tactic| fail)
local macro_rules | `(tactic| walk_at "dput") => `(tactic| fail)
local macro_rules | `(tactic| walk_at "tupq") => `(tactic| first | refine tq_neg ?_ | refine tq_abs ?_ | refine tq_self ?_)
local macro_rules | `(tactic| walk_at "wc") => `(tactic| first | (apply wp_norm; assumption; intro _)| (apply wp_norm2; assumption; intro _ _))
local macro_rules | `(tactic| walk_at "wx") => `(tactic| fail)
local macro_rules | `(tactic| walk_at "woc") => `(tactic| fail)
local macro_rules | `(tactic| walk_at "wipe") => `(tactic| simp only [wipeE, List.set_cons_zero, List.set_cons_succ] <;> rfl)
local macro_rules | `(tactic| walk_at "setk") => `(tactic| first
    | refine setk0 ?_
    | refine setk1 ?_
    | refine setk2 ?_
    | refine setk3 ?_
    | refine setk4 ?_
    | refine setk5 ?_
    | refine setk6 ?_
    | refine setk7 ?_
    | refine setk8 ?_
    | refine setk9 ?_
    | refine setk10 ?_
    | refine setk11 ?_
    | refine setk12 ?_
    | refine setk13 ?_
    | refine setk14 ?_
    | refine setk15 ?_
    | refine setk16 ?_
    | refine setk17 ?_
    | refine setk18 ?_
    | refine setk19 ?_
    | refine setk20 ?_
    | refine setk21 ?_
    | refine setk22 ?_
    | refine setk23 ?_
    | refine setk24 ?_
    | refine setk25 ?_)
local macro_rules | `(tactic| walk_at "tupk") => `(tactic| first
    | walk_at "tupq"
    | refine tupk0 ?_
    | refine tupk1 ?_
    | refine tupk2 ?_
    | refine tupk3 ?_
    | refine tupk4 ?_
    | refine tupk5 ?_
    | refine tupk6 ?_
    | refine tupk7 ?_
    | refine tupk8 ?_
    | refine tupk9 ?_
    | refine tupk10 ?_
    | refine tupk11 ?_
    | refine tupk12 ?_
    | refine tupk13 ?_
    | refine tupk14 ?_
    | refine tupk15 ?_)
local macro_rules | `(tactic| walk_at "lstk") => `(tactic| first
    | refine lstk0 ?_
    | refine lstk1 ?_
    | refine lstk2 ?_
    | refine lstk3 ?_
    | refine lstk4 ?_
    | refine lstk5 ?_
    | refine lstk6 ?_
    | refine lstk7 ?_
    | refine lstk8 ?_
    | refine lstk9 ?_
    | refine lstk10 ?_
    | refine lstk11 ?_
    | refine lstk12 ?_
    | refine lstk13 ?_
    | refine lstk14 ?_
    | refine lstk15 ?_)
local macro_rules | `(tactic| walk_at "dc") => `(tactic| first | rfl | decide | exact decide_eq_true ‹_› | omega)
local macro_rules | `(tactic| walk_at "ai") => `(tactic| repeat' (first | exact ai_nil | (apply ai_cons; exact (by walk_at "sm"); exact (by walk_at "sm"))))
local macro_rules | `(tactic| walk_at "brk") => `(tactic| first
    | refine brk_t ?_
    | refine brk_f ?_
    | refine brk_not ?_
    | refine brk_and ?_
    | refine brk_or ?_
    | (apply brk_dec1; assumption)
    | (apply brk_dec0; assumption)
    | (apply brk_dec1; exact (by walk_at "dc"))
    | (apply brk_dec0; exact (by walk_at "dc"))
    | refine brk_dec (fun _ => ?_) (fun _ => ?_))
local macro_rules | `(tactic| walk_at "unk") => `(tactic| first
    | refine unk0 ?_
    | refine unk1 ?_
    | refine unk2 ?_
    | refine unk3 ?_
    | refine unk4 ?_
    | refine unk5 ?_
    | refine unk6 ?_
    | refine unk7 ?_
    | refine unk8 ?_
    | refine unk9 ?_
    | refine unk10 ?_
    | refine unk11 ?_
    | refine unk12 ?_
    | refine unk13 ?_
    | refine unk14 ?_
    | refine unk15 ?_
    | refine unk16 ?_
    | refine unk17 ?_
    | refine unk18 ?_
    | refine unk19 ?_
    | refine unk20 ?_
    | refine unk21 ?_
    | refine unk22 ?_
    | refine unk23 ?_
    | refine unk24 ?_
    | refine unk25 ?_)
local macro_rules | `(tactic| walk_at "w1") => `(tactic| with_reducible first
    | (refine hd_Wp ?_; walk_at "wp")
    | (refine hd_Ws ?_; walk_at "ws")
    | (refine hd_Wo ?_; walk_at "wo")
    | (refine hd_SetK ?_; walk_at "setk")
    | (refine hd_TupK ?_; walk_at "tupk")
    | (refine hd_BrK ?_; walk_at "brk")
    | refine trk ?_
    | (apply retK_d; exact (by walk_at "len"))
    | (apply retK_d'; exact (by walk_at "len"))
    | (apply retK_S; assumption; exact (by walk_at "len"))
    | (apply fzk_d; exact (by walk_at "len"))
    | (apply fzk_end; exact (by walk_at "len"))
    | (refine hd_LstK ?_; walk_at "lstk")
    | refine ex_is_int_none ?_
    | refine ex_is_int_bool ?_
    | refine ex_is_int_int ?_
    | refine ex_is_int_str ?_
    | refine ex_is_int_tuple ?_
    | refine ex_is_int_list ?_
    | refine ex_is_int_Q ?_
    | refine ex_is_bool_none ?_
    | refine ex_is_bool_bool ?_
    | refine ex_is_bool_int ?_
    | refine ex_is_bool_str ?_
    | refine ex_is_bool_tuple ?_
    | refine ex_is_bool_list ?_
    | refine ex_is_bool_Q ?_
    | refine ex_is_str_none ?_
    | refine ex_is_str_bool ?_
    | refine ex_is_str_int ?_
    | refine ex_is_str_str ?_
    | refine ex_is_str_tuple ?_
    | refine ex_is_str_list ?_
    | refine ex_is_str_Q ?_
    | refine ex_is_tuple_none ?_
    | refine ex_is_tuple_bool ?_
    | refine ex_is_tuple_int ?_
    | refine ex_is_tuple_str ?_
    | refine ex_is_tuple_tuple ?_
    | refine ex_is_tuple_list ?_
    | refine ex_is_tuple_Q ?_
    | refine ex_is_list_none ?_
    | refine ex_is_list_bool ?_
    | refine ex_is_list_int ?_
    | refine ex_is_list_str ?_
    | refine ex_is_list_tuple ?_
    | refine ex_is_list_list ?_
    | refine ex_is_list_Q ?_
    | refine ex_is_dict_none ?_
    | refine ex_is_dict_bool ?_
    | refine ex_is_dict_int ?_
    | refine ex_is_dict_str ?_
    | refine ex_is_dict_tuple ?_
    | refine ex_is_dict_list ?_
    | refine ex_is_dict_Q ?_
    | refine ex_int ?_
    | refine ex_par ?_
    | refine ex_par3 ?_
    | refine ex_par4 ?_
    | refine ex_rev ?_
    | refine ex_txt ?_
    | refine ex_pc ?_
    | (apply ex_revR; exact (by walk_at "rg"))
    | (apply ex_lstR; exact (by omega); exact (by omega))
    | refine ex_enumL ?_
    | refine ex_enumT ?_
    | refine ex_zip4LL ?_
    | refine ex_unp ?_
    | refine tupZk ?_
    | refine ex_tupZ ?_
    | refine ex_zip4TT ?_
    | refine ex_zip4TL ?_
    | refine ex_zipL ?_
    | refine ex_zipT ?_
    | (apply fzk_end2; exact (by walk_at "len"))
    | (apply ex_rng; exact (by walk_at "rg"))
    | (apply ex_rng2; exact (by walk_at "rg"); exact (by walk_at "rg"))
    | refine tyL_D ?_
    | (apply tyL_S; assumption; exact (by walk_at "len"))
    | (apply tyL_E; exact (by walk_at "len"))
    | (apply ex_setS0; assumption; exact (by walk_at "len"))
    | (apply ex_setS1; assumption; exact (by walk_at "len"))
    | (apply ex_setL0; exact (by walk_at "len"))
    | (apply ex_setL1; exact (by walk_at "len"))
    | (apply ex_setDE; exact (by walk_at "len"); exact (by walk_at "dput"); exact (by walk_at "lsz"))
    | walk_at "wx"
    | refine gk_n ?_
    | refine gk_tup2 ?_
    | refine gk_tup3 ?_
    | refine gk_tup4 ?_
    | refine gk_lst4 ?_
    | refine gk_tup5 ?_
    | refine gk_tup6 ?_
    | refine gk_tupQ ?_
    | refine gk_tupN ?_
    | refine gk_tupM ?_
    | refine gk_setD ?_
    | refine gk_setL ?_
    | refine forK_r2 ?_
    | refine forK_r3 ?_
    | refine forK_r4 ?_
    | refine forK_nil ?_
    | refine forK_cons ?_
    | refine ex_isy_int ?_
    | refine ex_isy_bool ?_
    | refine ex_isy_str ?_
    | refine ex_isy_tuple ?_
    | refine ex_isy_list ?_
    | refine ex_isy_dict ?_
    | refine ex_isE_none ?_
    | (apply ex_isE_y; exact (by decide +kernel))
    | (apply ex_isE_n; exact (by decide +kernel); exact (by decide +kernel))
    | (refine hd_UnK ?_; walk_at "unk")
    | (refine hd_TryK ?_; first | (apply tryk_y; exact (by decide +kernel))| (apply tryk_n; exact (by decide +kernel); exact (by decide +kernel))))
local macro_rules | `(tactic| walk_at "w") => `(tactic| repeat' (with_reducible first | (refine hd_Wp ?_; (first | (refine hd_v ?_; first | refine wp_v0 ?_ | refine wp_v1 ?_ | refine wp_v2 ?_ | refine wp_v3 ?_ | refine wp_v4 ?_ | refine wp_v5 ?_ | refine wp_v6 ?_ | refine wp_v7 ?_ | refine wp_v8 ?_ | refine wp_v9 ?_ | refine wp_v10 ?_ | refine wp_v11 ?_ | refine wp_v12 ?_ | refine wp_v13 ?_ | refine wp_v14 ?_ | refine wp_v15 ?_ | refine wp_v16 ?_ | refine wp_v17 ?_ | refine wp_v18 ?_ | refine wp_v19 ?_ | refine wp_v20 ?_ | refine wp_v21 ?_ | refine wp_v22 ?_ | refine wp_v23 ?_ | refine wp_v24 ?_ | refine wp_v25 ?_) | walk_at "wk" | refine wp_D ?_ | refine wp_op ?_ | refine wp_call ?_ | refine wp_cons ?_ | refine wp_nil ?_ | refine wp_T ?_ | refine wp_if ?_ | refine wp_tup ?_ | refine wp_blt ?_ | refine wp_fzL ?_ | refine wp_fzO ?_ | refine wp_fzB ?_ | refine wp_fzS ?_ | refine wp_fzT ?_ | refine wp_fzR ?_ | refine wp_rv ?_ | refine wp_mtL ?_ | refine wp_mtD ?_ | refine wp_lst ?_ | refine wp_tand ?_ | refine wp_tor ?_ | refine wp_tnot ?_ | refine wp_and ?_ | refine wp_or ?_ | refine wp_not ?_ | refine wp_chain ?_ | refine wp_slice ?_ | refine wp_oN ?_ | refine wp_oS ?_ | refine wp_step ?_ | refine wp_tyes ?_ | refine wp_isi ?_ | refine wp_isE ?_ | refine wp_neg ?_ | refine wp_iv ?_ | refine wp_itT ?_ | refine wp_itL ?_ | refine wp_rng1 ?_ | refine wp_rng2 ?_ | refine wp_zip ?_ | refine wp_zip4 ?_ | refine wp_enumB ?_ | refine wp_rev ?_ | refine wp_dct0 ?_ | refine wp_dct ?_ | refine wp_pn ?_ | refine wp_pc ?_ | refine wp_bits ?_ | refine wp_unl ?_ | refine wp_m1 ?_ | refine wp_unp ?_ | refine wp_tupZ ?_ | refine wp_callF ?_ | refine wp_itS ?_ | refine wp_revR ?_ | refine wp_lstR ?_ | walk_at "wc")) | (refine hd_Ws ?_; (first | refine ws_seq ?_ | refine ws_set ?_ | refine ws_if ?_ | refine ws_ret ?_ | refine ws_asg ?_ | refine ws_expr ?_ | refine ws_nil ?_ | refine ws_for ?_ | refine ws_par ?_ | refine ws_par3 ?_ | refine ws_parN2 ?_ | refine ws_parN3 ?_ | refine ws_parN4 ?_ | refine ws_aug ?_ | refine ws_retN ?_ | refine ws_cont ?_ | refine ws_brk ?_ | refine ws_raise ?_ | refine ws_try ?_ | (apply ws_frzE; exact (by walk_at "len"); (with_unfolding_all rfl))| (apply ws_frzS; assumption; exact (by walk_at "len"); (with_unfolding_all rfl))| walk_at "wsc")) | (refine hd_Wo ?_; (first | refine wo_eqE0 ?_ | refine wo_eqE1 ?_ | refine wo_add ?_ | refine wo_sub ?_ | refine wo_ixQ0 ?_ | refine wo_ixQ1 ?_ | refine wo_ix0 ?_ | refine wo_ix1 ?_ | refine wo_lt ?_ | refine wo_le ?_ | refine wo_gt ?_ | refine wo_ge ?_ | refine wo_eqI ?_ | refine wo_neI ?_ | refine wo_eqQ ?_ | refine wo_neQ ?_ | refine wo_eqQQ ?_ | refine wo_neQQ ?_ | refine wo_eqSS ?_ | refine wo_neSS ?_ | refine wo_eqS ?_ | refine wo_neS ?_ | refine wo_eqB ?_ | refine wo_neB ?_ | refine wo_isNn ?_ | refine wo_isNt ?_ | refine wo_isNl ?_ | refine wo_isNq ?_ | refine wo_isNi ?_ | refine wo_isNb ?_ | refine wo_isNs ?_ | refine wo_isNx ?_ | refine wo_ntNx ?_ | refine wo_isNy ?_ | refine wo_ntNy ?_ | refine wo_ntNn ?_ | refine wo_ntNt ?_ | refine wo_ntNl ?_ | refine wo_ntNq ?_ | refine wo_ntNi ?_ | (refine wo_mul ?_ ?_; (walk_at "mok")) | (refine wo_mod ?_ ?_; (walk_at "pos")) | (refine wo_div ?_ ?_ ?_; (walk_at "pos"); (walk_at "dok")) | (apply wo_pow; exact (by decide); exact (by decide))| (apply wo_powG; exact (by decide); exact (Bd.mono (by walk_at "bd") (by walk_at "sm")))| (apply wo_shl; exact (by walk_at "sm"); exact (by walk_at "sm"); exact (Bd.mono (by walk_at "bd") (by walk_at "sm")))| refine wo_ntNb ?_ | refine wo_ntNs ?_ | refine wo_isB ?_ | refine wo_notB ?_ | refine wo_abs ?_ | refine wo_max ?_ | refine wo_min ?_ | refine wo_int1b ?_ | refine wo_int1i ?_ | refine wo_lenQ ?_ | refine wo_lenT0 ?_ | refine wo_lenL0 ?_ | refine wo_lenT1 ?_ | refine wo_lenL1 ?_ | refine wo_lenT2 ?_ | refine wo_lenL2 ?_ | refine wo_lenT3 ?_ | refine wo_lenL3 ?_ | refine wo_lenT4 ?_ | refine wo_lenL4 ?_ | refine wo_lenT5 ?_ | refine wo_lenL5 ?_ | refine wo_lenT6 ?_ | refine wo_lenL6 ?_ | refine wo_lenT7 ?_ | refine wo_lenL7 ?_ | refine wo_lenT8 ?_ | refine wo_lenL8 ?_ | refine wo_lenT9 ?_ | refine wo_lenL9 ?_ | refine wo_lenT10 ?_ | refine wo_lenL10 ?_ | refine wo_lenT11 ?_ | refine wo_lenL11 ?_ | refine wo_lenT12 ?_ | refine wo_lenL12 ?_ | refine wo_lenT13 ?_ | refine wo_lenL13 ?_ | refine wo_lenT14 ?_ | refine wo_lenL14 ?_ | refine wo_lenT15 ?_ | refine wo_lenL15 ?_ | refine wo_lenT ?_ | refine wo_lenL ?_ | refine wo_listT ?_ | refine wo_listL ?_ | refine wo_tupT ?_ | refine wo_tupL ?_ | refine wo_rv2 ?_ | refine wo_rvT ?_ | refine wo_iadd ?_ | refine wo_ix2 ?_ | refine wo_ix3 ?_ | refine wo_ix4 ?_ | refine wo_ix5 ?_ | refine wo_il0 ?_ | refine wo_il1 ?_ | refine wo_il2 ?_ | refine wo_il3 ?_ | refine wo_ilm2 ?_ | refine wo_ilm1' ?_ | refine wo_ilm1 ?_ | refine wo_ix6 ?_ | refine wo_ix7 ?_ | refine wo_ix8 ?_ | refine wo_ix9 ?_ | refine wo_ix10 ?_ | refine wo_il4 ?_ | refine wo_il5 ?_ | refine wo_il6 ?_ | refine wo_il7 ?_ | refine wo_il8 ?_ | refine wo_il9 ?_ | refine wo_il10 ?_ | refine wo_iyQ ?_ | refine wo_iyT rfl ?_ | refine wo_iyL rfl ?_ | (apply wo_slT'; exact (by walk_at "cut"))| (apply wo_slL'; exact (by walk_at "cut"))| refine wo_slT ?_ | refine wo_slL ?_ | (apply wo_addL'; exact (by walk_at "app"); exact (by walk_at "lsz"))| (apply wo_addT'; exact (by walk_at "app"); exact (by walk_at "lsz"))| (apply wo_repr; exact (by walk_at "shw"); exact (by walk_at "sm"); exact (by walk_at "sm"))| refine wo_repT rfl rfl ?_ | (apply wo_rep2; exact (by walk_at "len"))| (apply wo_repE; exact (by walk_at "len"); exact rfl; exact rfl)| (apply wo_appE; exact (by walk_at "len"); exact (by walk_at "app"); exact (by walk_at "lsz"))| (apply wo_appS; assumption; exact (by walk_at "len"); exact (by walk_at "app"); exact (by walk_at "lsz"))| (apply wo_ixS0'; assumption; exact (by walk_at "len"))| (apply wo_ixS1'; assumption; exact (by walk_at "len"))| (apply wo_ixE0; exact (by walk_at "len"))| (apply wo_ixE1; exact (by walk_at "len"))| (apply wo_dgE; exact (by walk_at "len"); exact (by walk_at "dval"))| (apply wo_iyE; exact (by walk_at "len"); exact (by walk_at "dval"))| walk_at "woc" | refine wo_eqSelf (p := false) (by walk_at "ly") (by decide) ?_ | refine wo_neSelf (p := false) (by walk_at "ly") (by decide) ?_)) | (refine hd_SetK ?_; (first | refine setk0 ?_ | refine setk1 ?_ | refine setk2 ?_ | refine setk3 ?_ | refine setk4 ?_ | refine setk5 ?_ | refine setk6 ?_ | refine setk7 ?_ | refine setk8 ?_ | refine setk9 ?_ | refine setk10 ?_ | refine setk11 ?_ | refine setk12 ?_ | refine setk13 ?_ | refine setk14 ?_ | refine setk15 ?_ | refine setk16 ?_ | refine setk17 ?_ | refine setk18 ?_ | refine setk19 ?_ | refine setk20 ?_ | refine setk21 ?_ | refine setk22 ?_ | refine setk23 ?_ | refine setk24 ?_ | refine setk25 ?_)) | (refine hd_TupK ?_; (first | walk_at "tupq" | refine tupk0 ?_ | refine tupk1 ?_ | refine tupk2 ?_ | refine tupk3 ?_ | refine tupk4 ?_ | refine tupk5 ?_ | refine tupk6 ?_ | refine tupk7 ?_ | refine tupk8 ?_ | refine tupk9 ?_ | refine tupk10 ?_ | refine tupk11 ?_ | refine tupk12 ?_ | refine tupk13 ?_ | refine tupk14 ?_ | refine tupk15 ?_)) | (refine hd_BrK ?_; (first | refine brk_t ?_ | refine brk_f ?_ | refine brk_not ?_ | refine brk_and ?_ | refine brk_or ?_ | (apply brk_dec1; assumption)| (apply brk_dec0; assumption)| (apply brk_dec1; exact (by walk_at "dc"))| (apply brk_dec0; exact (by walk_at "dc"))| refine brk_dec (fun _ => ?_) (fun _ => ?_))) | refine trk ?_ | (apply retK_d; exact (by walk_at "len"))| (apply retK_d'; exact (by walk_at "len"))| (apply retK_S; assumption; exact (by walk_at "len"))| (apply fzk_d; exact (by walk_at "len"))| (apply fzk_end; exact (by walk_at "len"))| (refine hd_LstK ?_; (first | refine lstk0 ?_ | refine lstk1 ?_ | refine lstk2 ?_ | refine lstk3 ?_ | refine lstk4 ?_ | refine lstk5 ?_ | refine lstk6 ?_ | refine lstk7 ?_ | refine lstk8 ?_ | refine lstk9 ?_ | refine lstk10 ?_ | refine lstk11 ?_ | refine lstk12 ?_ | refine lstk13 ?_ | refine lstk14 ?_ | refine lstk15 ?_)) | refine ex_is_int_none ?_ | refine ex_is_int_bool ?_ | refine ex_is_int_int ?_ | refine ex_is_int_str ?_ | refine ex_is_int_tuple ?_ | refine ex_is_int_list ?_ | refine ex_is_int_Q ?_ | refine ex_is_bool_none ?_ | refine ex_is_bool_bool ?_ | refine ex_is_bool_int ?_ | refine ex_is_bool_str ?_ | refine ex_is_bool_tuple ?_ | refine ex_is_bool_list ?_ | refine ex_is_bool_Q ?_ | refine ex_is_str_none ?_ | refine ex_is_str_bool ?_ | refine ex_is_str_int ?_ | refine ex_is_str_str ?_ | refine ex_is_str_tuple ?_ | refine ex_is_str_list ?_ | refine ex_is_str_Q ?_ | refine ex_is_tuple_none ?_ | refine ex_is_tuple_bool ?_ | refine ex_is_tuple_int ?_ | refine ex_is_tuple_str ?_ | refine ex_is_tuple_tuple ?_ | refine ex_is_tuple_list ?_ | refine ex_is_tuple_Q ?_ | refine ex_is_list_none ?_ | refine ex_is_list_bool ?_ | refine ex_is_list_int ?_ | refine ex_is_list_str ?_ | refine ex_is_list_tuple ?_ | refine ex_is_list_list ?_ | refine ex_is_list_Q ?_ | refine ex_is_dict_none ?_ | refine ex_is_dict_bool ?_ | refine ex_is_dict_int ?_ | refine ex_is_dict_str ?_ | refine ex_is_dict_tuple ?_ | refine ex_is_dict_list ?_ | refine ex_is_dict_Q ?_ | refine ex_int ?_ | refine ex_par ?_ | refine ex_par3 ?_ | refine ex_par4 ?_ | refine ex_rev ?_ | refine ex_txt ?_ | refine ex_pc ?_ | (apply ex_revR; exact (by walk_at "rg"))| (apply ex_lstR; exact (by omega); exact (by omega))| refine ex_enumL ?_ | refine ex_enumT ?_ | refine ex_zip4LL ?_ | refine ex_unp ?_ | refine tupZk ?_ | refine ex_tupZ ?_ | refine ex_zip4TT ?_ | refine ex_zip4TL ?_ | refine ex_zipL ?_ | refine ex_zipT ?_ | (apply fzk_end2; exact (by walk_at "len"))| (apply ex_rng; exact (by walk_at "rg"))| (apply ex_rng2; exact (by walk_at "rg"); exact (by walk_at "rg"))| refine tyL_D ?_ | (apply tyL_S; assumption; exact (by walk_at "len"))| (apply tyL_E; exact (by walk_at "len"))| (apply ex_setS0; assumption; exact (by walk_at "len"))| (apply ex_setS1; assumption; exact (by walk_at "len"))| (apply ex_setL0; exact (by walk_at "len"))| (apply ex_setL1; exact (by walk_at "len"))| (apply ex_setDE; exact (by walk_at "len"); exact (by walk_at "dput"); exact (by walk_at "lsz"))| walk_at "wx" | refine gk_n ?_ | refine gk_tup2 ?_ | refine gk_tup3 ?_ | refine gk_tup4 ?_ | refine gk_lst4 ?_ | refine gk_tup5 ?_ | refine gk_tup6 ?_ | refine gk_tupQ ?_ | refine gk_tupN ?_ | refine gk_tupM ?_ | refine gk_setD ?_ | refine gk_setL ?_ | refine forK_r2 ?_ | refine forK_r3 ?_ | refine forK_r4 ?_ | refine forK_nil ?_ | refine forK_cons ?_ | refine ex_isy_int ?_ | refine ex_isy_bool ?_ | refine ex_isy_str ?_ | refine ex_isy_tuple ?_ | refine ex_isy_list ?_ | refine ex_isy_dict ?_ | refine ex_isE_none ?_ | (apply ex_isE_y; exact (by decide +kernel))| (apply ex_isE_n; exact (by decide +kernel); exact (by decide +kernel))| (refine hd_UnK ?_; (first | refine unk0 ?_ | refine unk1 ?_ | refine unk2 ?_ | refine unk3 ?_ | refine unk4 ?_ | refine unk5 ?_ | refine unk6 ?_ | refine unk7 ?_ | refine unk8 ?_ | refine unk9 ?_ | refine unk10 ?_ | refine unk11 ?_ | refine unk12 ?_ | refine unk13 ?_ | refine unk14 ?_ | refine unk15 ?_ | refine unk16 ?_ | refine unk17 ?_ | refine unk18 ?_ | refine unk19 ?_ | refine unk20 ?_ | refine unk21 ?_ | refine unk22 ?_ | refine unk23 ?_ | refine unk24 ?_ | refine unk25 ?_)) | (refine hd_TryK ?_; first | (apply tryk_y; exact (by decide +kernel))| (apply tryk_n; exact (by decide +kernel); exact (by decide +kernel)))))
local macro_rules | `(tactic| walk_at "wk") => `(tactic| refine wk_GREATEST ?_)
local macro_rules | `(tactic| walk_at "wk") => `(tactic| refine wk_LETTERS ?_)
local macro_rules | `(tactic| walk_at "wk") => `(tactic| refine wk_MOST_INS ?_)
local macro_rules | `(tactic| walk_at "wk") => `(tactic| refine wk_MOST_LETTERS ?_)
local macro_rules | `(tactic| walk_at "wk") => `(tactic| refine wk_MOST_ROWS ?_)
local macro_rules | `(tactic| walk_at "wk") => `(tactic| refine wk_NOUGHT ?_)
local macro_rules | `(tactic| walk_at "tupq") => `(tactic| refine tq_0_1 ?_)
/-! the numbers' defs -/
theorem w_shared (h : Hh) : ∀ (y x : Nat), ∃ z, sWhile (eT (eOp (gInt fGt) (eVar 1) (eD (.int 0)))) (sPar 0 1 (aCons (eVar 1) (aCons (eOp (gInt fMod) (eVar 0) (eVar 1)) (aNil)))) [some (.d (.int (x : Int))), some (.d (.int (y : Int)))] h = .nx [some (.d (.int (Nat.gcd x y : Nat))), some z] h := by
  intro y
  induction y using Nat.strongRecOn with
  | ind y ih =>
    intro x
    rw [sWhile_eq]
    by_cases hy : y = 0
    · subst hy
      refine ⟨.d (.int 0), ?_⟩
      walk_at "ev"
      simp
    · have hp : (0 : Int) < (y : Int) := by omega
      obtain ⟨z, e⟩ := ih (x % y) (Nat.mod_lt _ (by omega)) y
      refine ⟨z, ?_⟩
      have hn : ((y : Int)) ≠ 0 := by omega
      walk_at "ev"
      rw [decide_eq_true hp, fMod_eq hn, fmod_nat]
      walk_at "ev"
      rw [e, Nat.gcd_comm x y, Nat.gcd_rec y x, Nat.gcd_comm (x % y) y]
theorem sp_shared (x y : Int) (h : Hh) : m_shared [.d (.int x), .d (.int y)] h = .ok (.d (.int (Int.gcd x y : Nat))) h := by
  obtain ⟨z, e⟩ := w_shared h y.natAbs x.natAbs
  unfold m_shared b_shared
  walk_at "ev"
  rw [abs_eq, abs_eq, e]
  walk_at "ev"
  rfl
theorem sp_fraction {x y : Int} (hy : y ≠ 0) {n : Nat} (b : Bd n y) (hn : n ≤ 9000) (h : Hh) : m_fraction [.d (.int x), .d (.int y)] h = .ok (.d (Q (Rat.divInt x y))) h := by
  have hn0 : 0 < n := Nat.pos_of_ne_zero fun z => by
    subst z
    unfold Bd at b
    omega
  have hg : Int.gcd x y ≠ 0 := fun z => hy (Int.gcd_eq_zero_iff.mp z).2
  have hl : Int.gcd x y ≤ y.natAbs := Nat.gcd_le_right _ (by omega)
  obtain ⟨p1, p2⟩ := divInt_parts (x := x) hy
  unfold m_fraction b_fraction
  walk_at "ev"
  rw [sp_shared]
  walk_at "ev"
  by_cases hs : y < 0
  · rw [if_pos hs] at p1 p2
    have h0 : 0 - ((Int.gcd x y : Nat) : Int) ≠ 0 := by omega
    have hb : Bd n (0 - ((Int.gcd x y : Nat) : Int)) := b.le (by omega)
    rw [decide_eq_true hs]
    walk_at "ev"
    rw [fDiv_eq h0 (hb.divOk hn0 hn), fDiv_eq h0 (hb.divOk hn0 hn), p1, p2]
    walk_at "ev" <;> rfl
  · rw [if_neg hs] at p1 p2
    have h0 : ((Int.gcd x y : Nat) : Int) ≠ 0 := by omega
    have hb : Bd n ((Int.gcd x y : Nat) : Int) := b.le (by omega)
    rw [decide_eq_false hs]
    walk_at "ev"
    rw [fDiv_eq h0 (hb.divOk hn0 hn), fDiv_eq h0 (hb.divOk hn0 hn), p1, p2]
    walk_at "ev" <;> rfl
theorem sp_plus {r s : Rat} {n m : Nat} (hr : BQ n r) (hs : BQ m s) (hl : n + m ≤ 9000) (h : Hh) : m_plus [.d (Q r), .d (Q s)] h = .ok (.d (Q (r + s))) h := by
  unfold m_plus b_plus Q
  walk_at "ev"
  rw [fMul_eq (hr.1.mulOk hs.2 (by omega)), fMul_eq (hs.1.mulOk hr.2 (by omega)), fMul_eq (hr.2.mulOk hs.2 (by omega))]
  walk_at "ev"
  rw [sp_fraction (Int.mul_ne_zero (den_ne r) (den_ne s)) (hr.2.mul hs.2) hl, add_divInt]
  walk_at "ev" <;> rfl
theorem sp_turned (r : Rat) (h : Hh) : m_turned [.d (Q r)] h = .ok (.d (Q (-r))) h := by
  rw [Q_neg]
  unfold m_turned b_turned Q
  walk_at "ev"
theorem sp_less {r s : Rat} {n m : Nat} (hr : BQ n r) (hs : BQ m s) (hl : n + m ≤ 9000) (h : Hh) : m_less [.d (Q r), .d (Q s)] h = .ok (.d (Q (r - s))) h := by
  unfold m_less b_less
  walk_at "ev"
  rw [sp_turned]
  walk_at "ev"
  rw [sp_plus hr hs.neg hl, ← Rat.sub_eq_add_neg]
  walk_at "ev"
theorem sp_times {r s : Rat} {n m : Nat} (hr : BQ n r) (hs : BQ m s) (hl : n + m ≤ 9000) (h : Hh) : m_times [.d (Q r), .d (Q s)] h = .ok (.d (Q (r * s))) h := by
  unfold m_times b_times Q
  walk_at "ev"
  rw [fMul_eq (hr.1.mulOk hs.1 (by omega)), fMul_eq (hr.2.mulOk hs.2 (by omega))]
  walk_at "ev"
  rw [sp_fraction (Int.mul_ne_zero (den_ne r) (den_ne s)) (hr.2.mul hs.2) hl, mul_divInt]
  walk_at "ev" <;> rfl
theorem sp_over {r s : Rat} {n m : Nat} (hr : BQ n r) (hs : BQ m s) (hl : n + m ≤ 9000) (h0 : s ≠ 0) (h : Hh) : m_over [.d (Q r), .d (Q s)] h = .ok (.d (Q (r / s))) h := by
  have hn : s.num ≠ 0 := fun z => h0 (Rat.num_eq_zero.mp z)
  unfold m_over b_over Q
  walk_at "ev"
  rw [fMul_eq (hr.1.mulOk hs.2 (by omega)), fMul_eq (hr.2.mulOk hs.1 (by omega))]
  walk_at "ev"
  rw [sp_fraction (Int.mul_ne_zero (den_ne r) hn) (hr.2.mul hs.1) hl, div_divInt]
  walk_at "ev" <;> rfl
theorem sp_size_of (r : Rat) (h : Hh) : m_size_of [.d (Q r)] h = .ok (.d (Q r.abs)) h := by
  rw [Q_abs]
  unfold m_size_of b_size_of Q
  walk_at "ev"
  rw [abs_eq]
theorem sp_is_less {r s : Rat} {n m : Nat} (hr : BQ n r) (hs : BQ m s) (hl : n + m ≤ 134217728) (h : Hh) : m_is_less [.d (Q r), .d (Q s)] h = .ok (.d (.bool (decide (r < s)))) h := by
  unfold m_is_less b_is_less Q
  walk_at "ev"
  rw [fMul_eq (hr.1.mulOk hs.2 (by omega)), fMul_eq (hs.1.mulOk hr.2 (by omega))]
  walk_at "ev"
  simp only [lt_num]
theorem sp_lesser {r s : Rat} {n m : Nat} (hr : BQ n r) (hs : BQ m s) (hl : n + m ≤ 134217728) (h : Hh) : m_lesser [.d (Q r), .d (Q s)] h = .ok (.d (Q (if s < r then s else r))) h := by
  unfold m_lesser b_lesser
  walk_at "ev"
  rw [sp_is_less hs hr (by omega)]
  walk_at "ev"
  by_cases z : s < r
  · rw [decide_eq_true z, if_pos z]
    walk_at "ev"
  · rw [decide_eq_false z, if_neg z]
    walk_at "ev"
theorem sp_greater {r s : Rat} {n m : Nat} (hr : BQ n r) (hs : BQ m s) (hl : n + m ≤ 134217728) (h : Hh) : m_greater [.d (Q r), .d (Q s)] h = .ok (.d (Q (if r < s then s else r))) h := by
  unfold m_greater b_greater
  walk_at "ev"
  rw [sp_is_less hr hs (by omega)]
  walk_at "ev"
  by_cases z : r < s
  · rw [decide_eq_true z, if_pos z]
    walk_at "ev"
  · rw [decide_eq_false z, if_neg z]
    walk_at "ev"
/-! the numbers' defs, by wishes -/
section
variable {h : Hh} {Q : Vl → Hh → Prop} {E : XP} {r s : Rat} {n m : Nat}
theorem wp_plus (hr : BQ n r) (hs : BQ m s) (hl : n + m ≤ 9000) (q : Q (.d (Rk.Q (r + s))) h) : Wp (m_plus [.d (Rk.Q r), .d (Rk.Q s)] h) Q E := wp_eq (sp_plus hr hs hl h) q
theorem wp_less (hr : BQ n r) (hs : BQ m s) (hl : n + m ≤ 9000) (q : Q (.d (Rk.Q (r - s))) h) : Wp (m_less [.d (Rk.Q r), .d (Rk.Q s)] h) Q E := wp_eq (sp_less hr hs hl h) q
theorem wp_times (hr : BQ n r) (hs : BQ m s) (hl : n + m ≤ 9000) (q : Q (.d (Rk.Q (r * s))) h) : Wp (m_times [.d (Rk.Q r), .d (Rk.Q s)] h) Q E := wp_eq (sp_times hr hs hl h) q
theorem wp_over (hr : BQ n r) (hs : BQ m s) (hl : n + m ≤ 9000) (h0 : s ≠ 0) (q : Q (.d (Rk.Q (r / s))) h) : Wp (m_over [.d (Rk.Q r), .d (Rk.Q s)] h) Q E := wp_eq (sp_over hr hs hl h0 h) q
theorem wp_turned (q : Q (.d (Rk.Q (-r))) h) : Wp (m_turned [.d (Rk.Q r)] h) Q E := wp_eq (sp_turned r h) q
theorem wp_size_of (q : Q (.d (Rk.Q r.abs)) h) : Wp (m_size_of [.d (Rk.Q r)] h) Q E := wp_eq (sp_size_of r h) q
theorem wp_is_less (hr : BQ n r) (hs : BQ m s) (hl : n + m ≤ 134217728) (q : Q (.d (.bool (decide (r < s)))) h) : Wp (m_is_less [.d (Rk.Q r), .d (Rk.Q s)] h) Q E := wp_eq (sp_is_less hr hs hl h) q
theorem wp_lesser (hr : BQ n r) (hs : BQ m s) (hl : n + m ≤ 134217728) (q : Q (.d (Rk.Q (mn r s))) h) : Wp (m_lesser [.d (Rk.Q r), .d (Rk.Q s)] h) Q E := wp_eq (sp_lesser hr hs hl h) q
theorem wp_greater (hr : BQ n r) (hs : BQ m s) (hl : n + m ≤ 134217728) (q : Q (.d (Rk.Q (mx r s))) h) : Wp (m_greater [.d (Rk.Q r), .d (Rk.Q s)] h) Q E := wp_eq (sp_greater hr hs hl h) q
theorem wp_shared {x y : Int} (q : Q (.d (.int (Int.gcd x y : Nat))) h) : Wp (m_shared [.d (.int x), .d (.int y)] h) Q E := wp_eq (sp_shared x y h) q
end
local macro_rules | `(tactic| walk_at "wc") => `(tactic| (apply wp_plus; exact (by walk_at "bq"); exact (by walk_at "bq"); exact (by walk_at "sm")))
local macro_rules | `(tactic| walk_at "wc") => `(tactic| (apply wp_less; exact (by walk_at "bq"); exact (by walk_at "bq"); exact (by walk_at "sm")))
local macro_rules | `(tactic| walk_at "wc") => `(tactic| (apply wp_times; exact (by walk_at "bq"); exact (by walk_at "bq"); exact (by walk_at "sm")))
local macro_rules | `(tactic| walk_at "wc") => `(tactic| (apply wp_over; exact (by walk_at "bq"); exact (by walk_at "bq"); exact (by walk_at "sm"); exact (by walk_at "nz")))
local macro_rules | `(tactic| walk_at "wc") => `(tactic| refine wp_turned ?_)
local macro_rules | `(tactic| walk_at "wc") => `(tactic| refine wp_size_of ?_)
local macro_rules | `(tactic| walk_at "wc") => `(tactic| refine wp_whole_of ?_)
local macro_rules | `(tactic| walk_at "wc") => `(tactic| (apply wp_is_less; exact (by walk_at "bq"); exact (by walk_at "bq"); exact (by walk_at "sm")))
local macro_rules | `(tactic| walk_at "wc") => `(tactic| (apply wp_lesser; exact (by walk_at "bq"); exact (by walk_at "bq"); exact (by walk_at "sm")))
local macro_rules | `(tactic| walk_at "wc") => `(tactic| (apply wp_greater; exact (by walk_at "bq"); exact (by walk_at "bq"); exact (by walk_at "sm")))

/-! programs: fractions -/
section
variable {h : Hh} {Q : Vl → Hh → Prop} {E : XP} {i j : Int}
theorem gcd_one (r : Rat) : Int.gcd r.num (r.den : Int) = 1 := r.reduced
local macro_rules | `(tactic| walk_at "wc") => `(tactic| refine wp_shared ?_)
theorem wp_is_whole {x : Da} {b c : Bool} (e : isTyD .int x = some b) (e2 : isTyD .bool x = some c) (q : Q (.d (.bool (b && !c))) h) : Wp (m_is_whole [.d x] h) Q E := by
  refine en_is_whole ?_
  unfold b_is_whole
  walk_at "w"
  refine ⟨b, e, ?_⟩
  walk_at "w"
  cases b with
  | true =>
    walk_at "w"
    refine ⟨c, e2, ?_⟩
    walk_at "w"
    exact q
  | false =>
    walk_at "w"
    exact q
theorem wp_is_fraction {r : Rat} (q : Q (.d (.bool true)) h) : Wp (m_is_fraction [.d (Rk.Q r)] h) Q E := by
  have hd := den_pos r
  have hg := gcd_one r
  refine en_is_fraction ?_
  unfold b_is_fraction
  walk_at "w"
  refine wp_is_whole rfl rfl ?_
  walk_at "w"
  refine wp_is_whole rfl rfl ?_
  walk_at "w"
  refine qb q ?_
  simp only [hg]
  rfl
theorem wp_igp (q : Q (.d (.bool (decide ((10 : Int) ^ 600 < (i.natAbs : Int) ∨ (10 : Int) ^ 600 < j)))) h) : Wp (m_is_great [.d (.tuple [.int i, .int j])] h) Q E := by
  refine en_is_great ?_
  unfold b_is_great
  walk_at "w"
  · rw [decide_eq_true (Or.inl (by assumption))] at q
    exact q
  · rw [show decide ((10 : Int) ^ 600 < (i.natAbs : Int) ∨ (10 : Int) ^ 600 < j) = decide ((10 : Int) ^ 600 < j) from decide_eq_decide.mpr ⟨fun z => z.resolve_left (by assumption), .inr⟩] at q
    exact q
end

/-! programs: names -/
def LET : Str := "abcdefghijklmnopqrstuvwxyz"
def isNm (x : Str) : Bool := decide (1 ≤ x.length ∧ x.length ≤ 6) && x.cps.toList.all fun c => decide (c ∈ LET.cps.toList)
theorem wo_lenS {h : Hh} {Q : Vl → Hh → Prop} {x : Str} (l : x.length ≤ 16777216) (q : Q (.d (.int (x.length : Nat))) h) : Wo (gLen [.d (.str x)] h) Q := by
  refine wo_eq (v := .d (.int (x.length : Nat))) (h' := h) ?_ q
  unfold gLen
  dsimp only
  rw [if_pos (fitB_ok l)]
section
variable {h : Hh} {Q : Vl → Hh → Prop} {E : XP} {x : Str}
theorem wp_is_name (l : x.length ≤ 1000) (q : Q (.d (.bool (isNm x))) h) : Wp (m_is_name [.d (.str x)] h) Q E := by
  have all : ∀ xs : List Nat, boolsOf (xs.map fun c => .bool (decide (c ∈ LET.cps.toList))) = some (xs.map fun c => decide (c ∈ LET.cps.toList)) := fun xs => by
    induction xs with
    | nil => rfl
    | cons c xs ih => rw [List.map_cons, boolsOf, ih]; rfl
  refine en_is_name ?_
  unfold b_is_name
  unfold isNm at q
  walk_at "w"
  refine wo_lenS (by omega) ?_
  walk_at "w"
  · rename_i h1 h2
    rw [decide_eq_true (⟨by omega, by omega⟩ : 1 ≤ x.length ∧ x.length ≤ 6), Bool.true_and] at q
    refine wp_lcR x.cps.toList (fun c => .str ⟨#[c]⟩) (fun c => .bool (decide (c ∈ LET.cps.toList))) (by walk_at "wipe") ?_
    walk_at "w"
    refine ⟨rfl, ?_, rfl, fun c hc h' => ?_, ?_⟩
    · show x.cps.toList.length ≤ _
      have : x.cps.toList.length = x.length := by simp [Str.length]
      omega
    · walk_at "w"
      refine ⟨rfl, ?_⟩
      walk_at "w"
      exact wo_inS ⟨rfl, rfl⟩
    walk_at "w"
    refine wo_all (all _) ?_
    walk_at "w"
    rw [List.all_map]
    exact q
  all_goals
    rw [decide_eq_false (by omega : ¬ (1 ≤ x.length ∧ x.length ≤ 6))] at q
    exact q
end
/-! works, rows, programs as they are meant -/
inductive Work where
  | num (r : Rat)
  | op (w : Str) (xs : List Str)
def Work.da : Work → Da
  | .num r => .tuple [.str "number", Rk.Q r]
  | .op w xs => .tuple (.str w :: xs.map PyData.str)
def Work.Ok (ns : List Str) : Work → Prop
  | .num r => r.num.natAbs ≤ 10 ^ 600 ∧ r.den ≤ 10 ^ 600
  | .op w xs => seek d_WANTS w = some (.int (xs.length : Nat)) ∧ ∀ x ∈ xs, x ∈ ns
structure Prg where
  ins : List Str
  rows : List (Str × Work)
def Prg.da (p : Prg) : Da := .tuple [.tuple (p.ins.map PyData.str), .tuple (p.rows.map fun r => .tuple [.str r.1, r.2.da])]
structure Prg.Ok (p : Prg) : Prop where
  i6 : p.ins.length ≤ 6
  r1 : 1 ≤ p.rows.length
  r40 : p.rows.length ≤ 40
  nd : (p.ins ++ p.rows.map (·.1)).Nodup
  nm : ∀ x ∈ p.ins ++ p.rows.map (·.1), isNm x = true
  wk : ∀ (k : Nat) (r : Str × Work), p.rows[k]? = some r → r.2.Ok (p.ins ++ (p.rows.take k).map (·.1))
theorem seek_mem {kds : List (Str × Da)} {z : Str} {d : Da} (e : seek kds z = some d) : (z, d) ∈ kds := by
  induction kds with
  | nil => cases e
  | cons p r ih =>
    obtain ⟨k, v⟩ := p
    unfold seek at e
    split at e
    · rename_i h
      cases e
      rw [h]
      exact List.mem_cons_self ..
    · exact List.mem_cons_of_mem _ (ih e)
theorem isNm_len {x : Str} (e : isNm x = true) : 1 ≤ x.length ∧ x.length ≤ 6 := by
  unfold isNm at e
  rw [Bool.and_eq_true] at e
  exact of_decide_eq_true e.1

/-! programs: works -/
theorem isNm_ok {x : Str} (e : isNm x = true) : PyData.strOk x = true := by
  unfold isNm at e
  rw [Bool.and_eq_true] at e
  have e2 := e.2
  rw [List.all_eq_true] at e2
  unfold PyData.strOk
  rw [← Array.all_toList, List.all_eq_true]
  intro c hc
  have := of_decide_eq_true (e2 c hc)
  have all : ∀ c ∈ LET.cps.toList, c < 0x110000 := by decide +kernel
  exact decide_eq_true (all c this)
def wOk : Str × Da → Bool
  | (w, .int n) => PyData.strOk w && decide (1 ≤ n ∧ n ≤ 4) && decide (w ≠ "number")
  | _ => false
theorem wants_ok {w : Str} {d : Da} (e : seek d_WANTS w = some d) : wOk (w, d) = true := by
  have all : ∀ p ∈ d_WANTS, wOk p = true := by decide +kernel
  exact all _ (seek_mem e)
theorem wants_n {w : Str} {n : Nat} (e : seek d_WANTS w = some (.int n)) : PyData.strOk w = true ∧ 1 ≤ n ∧ n ≤ 4 ∧ w ≠ "number" := by
  have := wants_ok e
  unfold wOk at this
  simp only [Bool.and_eq_true, decide_eq_true_eq] at this
  exact ⟨this.1.1, by omega, by omega, this.2⟩
theorem names_ly {xs : List Str} (h : ∀ x ∈ xs, PyData.strOk x = true) : LyL true 0 (xs.map PyData.str) := LyL.of fun d hd => by
  obtain ⟨x, hx, rfl⟩ := List.mem_map.mp hd
  exact Ly.str (h x hx)
section
variable {h : Hh} {Q : Vl → Hh → Prop} {E : XP} {n : Nat} {ns : List Str} {kds : List (Key × Da)} {w : Work}
/-- a dict whose keys are these names -/
def Nms (kds : List (Key × Da)) (ns : List Str) : Prop := ∀ x, (valD kds (.inr x)).isSome = decide (x ∈ ns)
theorem ly_num {r : Rat} : Ly true 2 (.tuple [.str "number", Rk.Q r]) := Ly.tup (LyL.cons (Ly.str (by decide +kernel)) (LyL.cons .Q .nil))
theorem wp_is_work (ok : w.Ok ns) (nm : ∀ x ∈ ns, isNm x = true) (e : h[n]? = some (some (.dct kds))) (hk : Nms kds ns) (q : Q (.d (.bool true)) h) : Wp (m_is_work [.d w.da, .r n] h) Q E := by
  cases w with
  | num r =>
    obtain ⟨s1, s2⟩ := ok
    rw [show (Work.num r).da = .tuple [.str "number", Rk.Q r] from rfl]
    refine en_is_work ?_
    unfold b_is_work
    walk_at "w"
    refine wo_eqNo (y := .tuple []) ly_num (Ly.tup .nil) (by decide) (by decide) (by intro z; cases z) ?_
    walk_at "w"
    refine wp_is_fraction ?_
    walk_at "w"
    refine wp_igp ?_
    have z0 : ¬ ((10 : Int) ^ 600 < (r.num.natAbs : Int) ∨ (10 : Int) ^ 600 < (r.den : Int)) := by
      have h1 := s1
      have h2 := s2
      rw [← Nat.not_lt] at h1 h2
      intro z
      rcases z with z | z
      · exact h1 (by exact_mod_cast z)
      · exact h2 (by exact_mod_cast z)
    rw [decide_eq_false z0]
    walk_at "w"
    exact q
  | op w xs =>
    obtain ⟨s1, s2⟩ := ok
    obtain ⟨w1, w2, w3, w4⟩ := wants_n s1
    have ly : Ly true 1 (.tuple (.str w :: xs.map PyData.str)) := Ly.tup (LyL.cons (Ly.str w1) (names_ly fun x hx => isNm_ok (nm x (s2 x hx))))
    have ln : (PyData.str w :: xs.map PyData.str).length = xs.length + 1 := by rw [List.length_cons, List.length_map]
    rw [show (Work.op w xs).da = .tuple (.str w :: xs.map PyData.str) from rfl]
    refine en_is_work ?_
    unfold b_is_work
    walk_at "w"
    refine wo_eqNo (y := .tuple []) ly (Ly.tup .nil) (by decide) (by decide) (by intro z; cases z) ?_
    walk_at "w"
    refine wo_getC_y s1 ?_
    walk_at "w"
    refine wp_lcH xs PyData.str (fun x => .bool true) (by walk_at "wipe") ?_
    walk_at "w"
    refine ⟨rfl, by omega, rfl, fun x hx o => ?_, ?_⟩
    · walk_at "w"
      refine ⟨rfl, ?_⟩
      have nx := nm x (s2 x hx)
      walk_at "w"
      refine wp_is_name (by have := isNm_len nx; omega) ?_
      rw [nx]
      walk_at "w"
      have nh : n < h.length := (List.getElem?_eq_some_iff.mp e).1
      exact wo_inD (kds := kds) (by rw [get_app nh]; exact e) (by rw [hk]; exact decide_eq_true (s2 x hx)) ⟨rfl, rfl⟩
    walk_at "w"
    refine wo_all (boolsOf_map (fun _ => true) xs) ?_
    rw [List.all_map, show (id ∘ fun (_ : Str) => true) = fun _ => true from rfl, show xs.all (fun _ => true) = true from List.all_eq_true.mpr fun _ _ => rfl]
    walk_at "w"
    exact q
end

/-! programs: rows -/
section
variable {h : Hh} {Q : Vl → Hh → Prop} {E : XP} {n : Nat} {ns : List Str} {kds : List (Key × Da)} {w : Work} {x : Str}
theorem wp_are_ins (l6 : ns.length ≤ 6) (nd : ns.Nodup) (nm : ∀ x ∈ ns, isNm x = true) (q : Q (.d (.bool true)) h) : Wp (m_are_ins [.d (.tuple (ns.map PyData.str))] h) Q E := by
  refine en_are_ins ?_
  unfold b_are_ins
  have ln : (ns.map PyData.str).length = ns.length := List.length_map ..
  walk_at "w"
  refine wp_lcR ns PyData.str (fun x => .bool true) (by walk_at "wipe") ?_
  walk_at "w"
  refine ⟨rfl, by omega, rfl, fun x hx h' => ?_, ?_⟩
  · walk_at "w"
    refine ⟨rfl, ?_⟩
    have nx := nm x hx
    walk_at "w"
    refine wp_is_name (by have := isNm_len nx; omega) ?_
    rw [nx]
    exact ⟨rfl, rfl⟩
  walk_at "w"
  refine wo_all (boolsOf_map (fun _ => true) ns) ?_
  rw [List.all_map, show (id ∘ fun (_ : Str) => true) = fun _ => true from rfl, show ns.all (fun _ => true) = true from List.all_eq_true.mpr fun _ _ => rfl]
  walk_at "w"
  refine unlk_t (by omega) ?_
  rw [(unl_nodup ns).mpr nd]
  walk_at "w"
  rw [ln, decide_eq_true rfl] 
  exact q
theorem wp_is_row (ok : w.Ok ns) (nm : ∀ x ∈ ns, isNm x = true) (nx : isNm x = true) (ni : x ∉ ns) (e : h[n]? = some (some (.dct kds))) (hk : Nms kds ns) (q : Q (.d (.bool true)) h) : Wp (m_is_row [.d (.tuple [.str x, w.da]), .r n] h) Q E := by
  refine en_is_row ?_
  unfold b_is_row
  walk_at "w"
  refine wp_is_name (by have := isNm_len nx; omega) ?_
  rw [nx]
  walk_at "w"
  refine wo_notInD (b := false) e (by rw [hk]; exact decide_eq_false ni) ?_
  walk_at "w"
  refine wp_is_work ok nm e hk ?_
  walk_at "w"
  exact q
end

/-! programs: whole -/
theorem valD_put {kds : List (Key × Da)} {a b : Key} {v : Da} : valD (putD kds a v) b = if b = a then some v else valD kds b := by
  unfold valD putD
  by_cases hany : (kds.any fun kv => decide (kv.1 = a)) = true
  · rw [if_pos hany]
    by_cases hb : b = a
    · subst hb
      rw [if_pos rfl]
      induction kds with
      | nil => cases hany
      | cons p r ih =>
        rw [List.map_cons, List.find?_cons]
        by_cases hp : p.1 = b
        · simp only [hp, if_true, decide_true, Option.map_some]
        · have : (r.any fun kv => decide (kv.1 = b)) = true := by
            rw [List.any_cons, decide_eq_false hp, Bool.false_or] at hany
            exact hany
          rw [if_neg hp, decide_eq_false hp]
          exact ih this
    · rw [if_neg hb]
      clear hany
      induction kds with
      | nil => rfl
      | cons p r ih =>
        rw [List.map_cons, List.find?_cons, List.find?_cons]
        by_cases hp : p.1 = a
        · have hq : ¬ p.1 = b := fun z => hb (z ▸ hp)
          simp only [hp, if_true]
          rw [decide_eq_false (fun z => hb z.symm : ¬ a = b)]
          exact ih
        · rw [if_neg hp]
          by_cases hq : p.1 = b
          · rw [decide_eq_true hq]
          · rw [decide_eq_false hq]
            exact ih
  · rw [if_neg hany, List.find?_append]
    by_cases hb : b = a
    · subst hb
      have none' : kds.find? (fun kv => decide (kv.1 = b)) = none := by
        rw [List.find?_eq_none]
        intro kv m z
        exact hany (List.any_eq_true.mpr ⟨kv, m, z⟩)
      rw [none', if_pos rfl]
      simp
    · rw [if_neg hb]
      have hb' : ¬ a = b := fun z => hb z.symm
      cases e : kds.find? (fun kv => decide (kv.1 = b)) with
      | none => simp [hb']
      | some z => rfl
theorem nms_put {kds : List (Key × Da)} {ns : List Str} {x : Str} {v : Da} (k : Nms kds ns) : Nms (putD kds (.inr x) v) (ns ++ [x]) := fun y => by
  rw [valD_put]
  by_cases e : y = x
  · subst e
    rw [if_pos rfl]
    simp
  · have : (Sum.inr y : Key) ≠ .inr x := fun z => e (Sum.inr.inj z)
    rw [if_neg this, k y]
    simp [e]
theorem nms_nil : Nms [] [] := fun _ => by rfl
theorem nms_fold (v : Da) (xs : List Str) : ∀ (kds : List (Key × Da)) (ns : List Str), Nms kds ns → Nms ((xs.map fun x => ((.inr x : Key), v)).foldl (fun acc kv => putD acc kv.1 kv.2) kds) (ns ++ xs) := by
  induction xs with
  | nil => intro kds ns k; simpa using k
  | cons x xs ih =>
    intro kds ns k
    rw [List.map_cons, List.foldl_cons]
    have := ih _ _ (nms_put (x := x) (v := v) k)
    rw [List.append_assoc] at this
    exact this
theorem put_len {kds : List (Key × Da)} {a : Key} {v : Da} : (putD kds a v).length ≤ kds.length + 1 := by
  unfold putD
  split
  · rw [List.length_map]; omega
  · rw [List.length_append]; simp
theorem fold_len (zs : List (Key × Da)) : ∀ kds : List (Key × Da), (zs.foldl (fun acc kv => putD acc kv.1 kv.2) kds).length ≤ kds.length + zs.length := by
  induction zs with
  | nil => intro kds; simp
  | cons z zs ih =>
    intro kds
    rw [List.foldl_cons, List.length_cons]
    have := ih (putD kds z.1 z.2)
    have := put_len (kds := kds) (a := z.1) (v := z.2)
    omega
theorem pairs_names (v : Da) (xs : List Str) : pairsD (xs.map fun x => PyData.tuple [.str x, v]) = some (xs.map fun x => ((.inr x : Key), v)) := by
  induction xs with
  | nil => rfl
  | cons x xs ih =>
    rw [List.map_cons, pairsD, ih]
    rfl
section
variable {h : Hh} {Q : Vl → Hh → Prop} {E : XP} {p : Prg}
theorem wp_wrong_row (ok : p.Ok) (q : Q (.d .none) h) : Wp (m_wrong_row [.d p.da] h) Q E := by
  have l1 : (p.ins.map PyData.str).length = p.ins.length := List.length_map ..
  have l2 : (p.rows.map fun r => PyData.tuple [.str r.1, r.2.da]).length = p.rows.length := List.length_map ..
  have i6 := ok.i6
  have r1 := ok.r1
  have r40 := ok.r40
  rw [show p.da = .tuple [.tuple (p.ins.map PyData.str), .tuple (p.rows.map fun r => .tuple [.str r.1, r.2.da])] from rfl]
  refine en_wrong_row ?_
  unfold b_wrong_row
  walk_at "w"
  refine wp_are_ins i6 (List.nodup_append.mp ok.nd).1 (fun x hx => ok.nm x (List.mem_append.mpr (.inl hx))) ?_
  walk_at "w"
  refine wp_lcR p.ins PyData.str (fun x => .tuple [.str x, .bool true]) (by walk_at "wipe") ?_
  walk_at "w"
  refine ⟨rfl, by omega, rfl, fun x hx h' => ?_, ?_⟩
  · walk_at "w"
    refine ⟨rfl, ?_⟩
    walk_at "w"
    exact ⟨rfl, rfl⟩
  walk_at "w"
  refine wo_dp (pairs_names (.bool true) p.ins) ?_
  walk_at "w"
  refine forK_inv (I := fun k ρ1 h1 => ∃ kds a b, ρ1 = [some (.d (.tuple [.tuple (p.ins.map PyData.str), .tuple (p.rows.map fun r => .tuple [.str r.1, r.2.da])])), some (.r h.length), none, a, b] ∧ h1 = h ++ [some (.dct kds)] ∧ Nms kds (p.ins ++ (p.rows.take k).map (·.1)) ∧ kds.length ≤ p.ins.length + k) ?_ ?_ ?_
  · refine ⟨_, none, none, rfl, rfl, ?_, ?_⟩
    · have := nms_fold (.bool true) p.ins [] [] nms_nil
      simpa using this
    · have := fold_len (p.ins.map fun x => ((.inr x : Key), (.bool true : Da))) []
      simpa using this
  · rintro k d ρ1 h1 ed ⟨kds, a, b, rfl, rfl, hk, hl⟩
    rw [List.getElem?_mapIdx, List.getElem?_map] at ed
    cases er : p.rows[k]? with
    | none => rw [er] at ed; cases ed
    | some r =>
      rw [er] at ed
      cases ed
      have hkl := (List.getElem?_eq_some_iff.mp er).1
      walk_at "w"
      unfold bl_wrong_row_1
      walk_at "w"
      have nd := ok.nd
      have tk : p.rows.take (k + 1) = p.rows.take k ++ [r] := by rw [List.take_succ, er]; rfl
      have sub : ∀ x ∈ p.ins ++ (p.rows.take k).map (·.1), isNm x = true := fun x hx => ok.nm x (by
        rcases List.mem_append.mp hx with z | z
        · exact List.mem_append.mpr (.inl z)
        · obtain ⟨y, hy, rfl⟩ := List.mem_map.mp z
          exact List.mem_append.mpr (.inr (List.mem_map_of_mem (List.mem_of_mem_take hy))))
      have mr : r ∈ p.rows := List.mem_of_getElem? er
      have ni : r.1 ∉ p.ins ++ (p.rows.take k).map (·.1) := by
        have e2 : p.rows = p.rows.take k ++ r :: p.rows.drop (k + 1) := by
          have := List.take_append_drop (k + 1) p.rows
          rw [tk, List.append_assoc] at this
          exact this.symm
        rw [e2, List.map_append, List.map_cons, ← List.append_assoc] at nd
        intro hm
        exact (List.nodup_append.mp nd).2.2 _ hm _ (List.mem_cons_self ..) rfl
      refine wp_is_row (ns := p.ins ++ (p.rows.take k).map (·.1)) (kds := kds) (ok.wk k r er) sub (ok.nm _ (List.mem_append.mpr (.inr (List.mem_map_of_mem mr)))) ni (by simp) hk ?_
      walk_at "w"
      refine ex_setDE rfl rfl (by omega) ?_
      refine ⟨_, _, _, rfl, rfl, ?_, ?_⟩
      · rw [tk, List.map_append, ← List.append_assoc]
        exact nms_put hk
      · have := put_len (kds := kds) (a := .inr r.1) (v := .bool true)
        omega
  · rintro ρ1 h1 ⟨kds, a, b, rfl, rfl, hk, hl⟩
    walk_at "w"
    exact q
end

/-! programs: asked, needed -/
section
variable {h : Hh} {Q : Vl → Hh → Prop} {E : XP} {p : Prg} {w : Work} {ns : List Str}
def Work.asks : Work → List Str
  | .num _ => []
  | .op _ xs => xs
theorem wp_need_program (ok : p.Ok) (q : Q (.d .none) h) : Wp (m_need_program [.d p.da] h) Q E := by
  refine en_need_program ?_
  unfold b_need_program
  walk_at "w"
  refine wp_wrong_row ok ?_
  walk_at "w"
  exact q
end

/-! a draw: a dict of two fields; drawing -/
def st2 (L M : Int) : List (Key × Da) := [(.inr "cell", .int L), (.inr "seed", .int M)]
theorem st2_cell (L M : Int) : valD (st2 L M) (.inr "cell") = some (.int L) := rfl
theorem st2_seed (L M : Int) : valD (st2 L M) (.inr "seed") = some (.int M) := rfl
theorem st2_pc (L M L' : Int) : putD (st2 L M) (.inr "cell") (.int L') = st2 L' M := rfl
theorem st2_ps (L M M' : Int) : putD (st2 L M) (.inr "seed") (.int M') = st2 L M' := rfl
theorem st2_len (L M : Int) : (st2 L M).length < 16777216 := by unfold st2; simp
theorem ex_st2c {n : Nat} {h : Hh} {N : Hh → Prop} {L M L' : Int} (hn : n < h.length) (q : N (h.set n (some (.dct (st2 L' M))))) : ∃ h3, setD (.r n) (.d (.str "cell")) (.d (.int L')) (h.set n (some (.dct (st2 L M)))) = some h3 ∧ N h3 := ex_setDS hn (st2_pc L M L') (st2_len L M) q
theorem ex_st2s {n : Nat} {h : Hh} {N : Hh → Prop} {L M M' : Int} (hn : n < h.length) (q : N (h.set n (some (.dct (st2 L M'))))) : ∃ h3, setD (.r n) (.d (.str "seed")) (.d (.int M')) (h.set n (some (.dct (st2 L M)))) = some h3 ∧ N h3 := ex_setDS hn (st2_ps L M M') (st2_len L M) q
def Dk (kds : List (Key × Da)) : Prop := ∃ L M : Int, kds = st2 L M ∧ 0 ≤ L ∧ 0 ≤ M ∧ M < 2147483629
section
variable {h : Hh} {Q : Vl → Hh → Prop} {E : XP} {n : Nat} {S : List (Key × Da)}
theorem wp_mixed {c : Int} {k : Nat} (hk : k < 2 ^ 32) (q : ∀ v : Int, 0 ≤ v → v < 2147483629 → Q (.d (.int v)) h) : Wp (m__law_mixed [.d (.int c), .d (.int (k : Int))] h) Q E := by
  have bk : Bd 64 (k : Int) := bd_nat (Nat.lt_trans hk (by decide))
  refine en__law_mixed ?_
  unfold b__law_mixed
  walk_at "w"
  refine q _ ?_ ?_
  · exact Int.emod_nonneg _ (by decide)
  · exact Int.emod_lt_of_pos _ (by decide)
theorem wp_mixed_ {c : Int} {k : Nat} (hk : k < 2 ^ 32) (q : ∀ v : Int, 0 ≤ v → v < 2147483629 → Q (.d (.int v)) h) {d : Int} (e : (k : Int) = d := by omega) : Wp (m__law_mixed [.d (.int c), .d (.int d)] h) Q E := by
  subst e
  exact wp_mixed hk q
local macro_rules | `(tactic| walk_at "woc") => `(tactic| first | (apply wo_dgS; assumption; exact (st2_cell _ _))| (apply wo_dgS; assumption; exact (st2_seed _ _)))
local macro_rules | `(tactic| walk_at "wx") => `(tactic| first | (apply ex_st2c; assumption)| (apply ex_st2s; assumption))
theorem wp_take (st : Dk S) (hn : n < h.length) {many : Int} (hm : 0 < many) (hm2 : many < 2 ^ 32)
    (q : ∀ (v : Int) (S' : List (Key × Da)), 0 ≤ v → v < many → Bd 200 v → Dk S' → Q (.d (.int v)) (h.set n (some (.dct S')))) : Wp (m__law_take [.r n, .d (.int many)] (h.set n (some (.dct S)))) Q E := by
  obtain ⟨L, M, rfl, h0, h1, h2⟩ := st
  have tl : ∀ o : Option Ob, (h.set n o).length = h.length := fun o => List.length_set ..
  have hm0 : many ≠ 0 := by omega
  have bm : Bd 201 many := bd_lit (2 ^ 200) (by omega) (by omega) (by decide)
  refine en__law_take ?_
  unfold b__law_take
  walk_at "w"
  · refine q _ (st2 (L / many) M) (Int.emod_nonneg _ hm0) (Int.emod_lt_of_pos _ hm) (bd_lit (2 ^ 200 - 1) ?_ ?_ (by decide)) ⟨L / many, M, rfl, Int.ediv_nonneg h0 (by omega), h1, h2⟩
    · have := Int.emod_nonneg L hm0
      omega
    · have := Int.emod_lt_of_pos L hm
      omega
  all_goals
    refine wp_mixed_ (k := many.toNat) (by omega) (fun v v0 v1 => ?_)
    walk_at "w"
    refine q _ _ (Int.emod_nonneg _ hm0) (Int.emod_lt_of_pos _ hm) (bd_lit (2 ^ 200 - 1) ?_ ?_ (by decide)) ⟨L, v, rfl, h0, v0, v1⟩
    · have := Int.emod_nonneg (v / 7) hm0
      omega
    · have := Int.emod_lt_of_pos (v / 7) hm
      omega
end

/-! the draws: a list of dicts that are changed -/
structure Drs (h hh : Hh) (m : Nat) (ns : List Nat) : Prop where
  ls : lstR hh[m]? = some ns
  m0 : h.length ≤ m
  lt : m < hh.length
  le : h.length ≤ hh.length
  old : hh.take h.length = h
  nd : ns.Nodup
  at' : ∀ n ∈ ns, h.length ≤ n ∧ n < hh.length ∧ n ≠ m ∧ ∃ S, hh[n]? = some (some (.dct S)) ∧ Dk S
theorem drs_next {h hh : Hh} {m : Nat} {ns : List Nat} {S : List (Key × Da)} (D : Drs h hh m ns) (hS : Dk S) :
    Drs h (((hh ++ [some (Ob.dct S)]).set m none) ++ [some (.rl (ns ++ [hh.length]))]) (hh.length + 1) (ns ++ [hh.length]) := by
  obtain ⟨ls, m0, lt, le, old, nd, at'⟩ := D
  have g0 : ∀ n, n < hh.length → n ≠ m → (((hh ++ [some (Ob.dct S)]).set m none) ++ [some (.rl (ns ++ [hh.length]))])[n]? = hh[n]? := by
    intro n hn hm
    rw [List.getElem?_append_left (by simp; omega), List.getElem?_set_ne (by omega), List.getElem?_append_left hn]
  refine ⟨?_, by omega, by simp, by simp; omega, ?_, ?_, ?_⟩
  · rw [List.getElem?_append_right (by simp)]
    simp [lstR]
  · rw [List.take_append_of_le_length (by simp; omega), List.take_set_of_le m0, List.take_append_of_le_length le, old]
  · rw [List.nodup_append]
    refine ⟨nd, by simp, ?_⟩
    intro a ha b hb
    rw [List.mem_singleton] at hb
    subst hb
    have := (at' a ha).2.1
    omega
  · intro n hn
    rw [List.mem_append, List.mem_singleton] at hn
    rcases hn with hn | rfl
    · obtain ⟨a1, a2, a3, S', a4, a5⟩ := at' n hn
      refine ⟨a1, by simp; omega, by omega, S', ?_, a5⟩; rw [g0 n a2 a3]; exact a4
    · refine ⟨le, by simp; omega, by omega, S, ?_, hS⟩
      rw [List.getElem?_append_left (by simp), List.getElem?_set_ne (by omega), List.getElem?_append_right (Nat.le_refl _), Nat.sub_self]
      rfl
section
variable {h : Hh} {Q : Vl → Hh → Prop} {E : XP}
theorem wo_neL0 {h : Hh} {Q : Vl → Hh → Prop} (ns : List Int) (q : Q (.d (.bool (!decide (ns = [])))) h) : Wo (gNe (.d (.list (ns.map PyData.int))) (.d (.list [])) h) Q := by
  have s0 := sh_ints []
  have e0 : PyData.eqv (.list (ns.map PyData.int)) (.list []) = decide (ns = []) := by
    have := eqv_ints ns []
    simpa using this
  rw [List.map_nil] at s0
  exact wo_eq (v := .d (.bool (!decide (ns = [])))) (h' := h) (by
    show (eqvB (.list (ns.map PyData.int)) (.list [])).map (fun z => (Vl.d (.bool (!z)), h)) = _
    simp [eqvB, sh_ints ns, s0, e0]) q
theorem w_draws2 {cs ds : List Int} (hl : cs.length ≤ 63) (h1 : 1 ≤ ds.length) (h2 : ds.length ≤ 12) (q : ∀ m ns hh, Drs h hh m ns → 1 ≤ ns.length → ns.length ≤ 12 → hh[m]? = some (some (.rl ns)) → Q (.r m) hh) :
    ForK ⟨List.mapIdx (fun i d => PyData.tuple [PyData.int (i : Nat), d]) (ds.map PyData.int), none⟩ (gTupT 2 (gsCons (gN 3) (gsCons (gN 4) gsNil))) bl__law_draws_1 [some (.d (.list (cs.map PyData.int))), some (.d (.list (ds.map PyData.int))), some (.r h.length), none, none, none] (h ++ [some (Ob.lst [])])
      (fun ρ1 h1 => Ws (sRet (eVar 2) ρ1 h1) (fun _ h1 => Q (Vl.d PyData.none) h1) ⟨Q, fun _ _ => False, fun _ _ => False, fun c fs _ h1 => E c fs h1⟩) ⟨Q, fun _ _ => False, fun _ _ => False, fun c fs _ h1 => E c fs h1⟩ := by
  rw [mapIdx_map']
  refine forK_inv (I := fun k ρ1 h1 => ∃ m ns a3 a4 a5, ρ1 = [some (.d (.list (cs.map PyData.int))), some (.d (.list (ds.map PyData.int))), some (.r m), a3, a4, a5] ∧ Drs h h1 m ns ∧ ns.length = k) ?_ ?_ ?_
  · refine ⟨_, [], _, _, _, rfl, ⟨?_, Nat.le_refl _, by simp, by simp, by simp, List.nodup_nil, fun n hn => by cases hn⟩, rfl⟩
    simp [lstR]
  · rintro k d ρ1 h1 ed ⟨m, ns, a3, a4, a5, rfl, D, ek⟩
    rw [List.getElem?_mapIdx] at ed
    cases ex : ds[k]? with
    | none => rw [ex] at ed; cases ed
    | some c =>
      have hk : k < ds.length := (List.getElem?_eq_some_iff.mp ex).1
      rw [ex] at ed
      cases ed
      walk_at "w"
      unfold bl__law_draws_1
      walk_at "w"
      have pl := pick_len cs (some (12 + (k : Int))) none (some 12)
      refine wo_stL (by decide) (by rw [pick_map, List.length_map]; omega) ?_
      walk_at "w"
      rw [pick_map]
      refine wo_sum (intsOf_map (fun x => x) _) ?_
      walk_at "w"
      have rest : ∀ L : Int, 0 ≤ L → ∀ (v : Int), 0 ≤ v → v < 2147483629 → ApK 2 m [some (.d (.list (cs.map PyData.int))), some (.d (.list (ds.map PyData.int))), some (.r m), some (.d (.int (k : Int))), some (.d (.int c)), some (.d (.int (c + 7 * (List.map (fun x => x) (pickG cs (some (12 + (k : Int))) none (some 12))).sum)))] (.r h1.length) (h1 ++ [some (.dct (st2 L v))]) (fun ρ1 h1 => ∃ m ns a3 a4 a5, ρ1 = [some (.d (.list (cs.map PyData.int))), some (.d (.list (ds.map PyData.int))), some (.r m), a3, a4, a5] ∧ Drs h h1 m ns ∧ ns.length = k + 1) := by
        intro L hL v v0 v1
        refine ⟨h1.length, ns, rfl, ?_, by omega, ?_⟩
        · rw [List.getElem?_append_left D.lt]
          exact D.ls
        · refine ⟨h1.length + 1, ns ++ [h1.length], some (.d (.int (k : Int))), some (.d (.int c)), some (.d (.int (c + 7 * (List.map (fun x => x) (pickG cs (some (12 + (k : Int))) none (some 12))).sum))), ?_, drs_next D ⟨L, v, rfl, hL, v0, v1⟩, by rw [List.length_append, ek]; rfl⟩
          rw [List.length_append]
          rfl
      refine ws_apR (m := m) (ns0 := ns) rfl D.ls ?_
      refine wp_dct ?_
      walk_at "w"
      all_goals
        refine wp_mixed_ (k := k + 1) (by omega) (fun v v0 v1 => ?_)
        walk_at "w"
        refine ⟨by simp, ?_⟩
      · exact rest c (Int.le_trans (by decide : (0 : Int) ≤ 10 ^ 18) ‹_›) v v0 v1
      · exact rest 0 (by omega) v v0 v1
  · rintro ρ1 h1 ⟨m, ns, a3, a4, a5, rfl, D, ek⟩
    rw [List.length_mapIdx] at ek
    walk_at "w"
    refine q m ns h1 D (by omega) (by omega) ?_
    have l0 := D.ls
    unfold lstR at l0
    split at l0
    · cases l0
      simp at ek
      omega
    · rename_i e
      cases l0
      exact e
    · cases l0
theorem wp_draws {cs : List Int} (hl : cs.length ≤ 63) (q : ∀ m ns hh, Drs h hh m ns → 1 ≤ ns.length → ns.length ≤ 12 → hh[m]? = some (some (.rl ns)) → Q (.r m) hh) : Wp (m__law_draws [.d (.list (cs.map PyData.int))] h) Q E := by
  refine en__law_draws ?_
  unfold b__law_draws
  walk_at "w"
  refine wo_neL0 cs ?_
  by_cases e : cs = []
  · subst e
    rw [decide_eq_true rfl]
    walk_at "w"
    exact w_draws2 (cs := []) (ds := [0]) (by decide) (by decide) (by decide) q
  · rw [decide_eq_false e]
    have h0 := List.length_pos_iff.mpr e
    walk_at "w"
    rw [show cutD (cs.map PyData.int) none (some 12) = (cs.map PyData.int).take 12 from cut_to _ 12, ← List.map_take]
    exact w_draws2 hl (by rw [List.length_take]; omega) (by rw [List.length_take]; omega) q
end

/-! what a work comes to -/
def valW (g : Str → Rat) : Work → Option Rat
  | .num r => some r
  | .op w xs => match xs with
    | [a] => if w = "turned" then some (-(g a)) else some (g a).abs
    | [a, b] => if w = "plus" then some (g a + g b) else if w = "less" then some (g a - g b) else if w = "times" then some (g a * g b)
      else if w = "over" then (if g b = 0 then none else some (g a / g b)) else if w = "least" then some (mn (g a) (g b)) else some (mx (g a) (g b))
    | [a, b, c, d] => some (if g a < g b then g c else g d)
    | _ => none
def Kn (kds : List (Key × Da)) (ns : List Str) (g : Str → Rat) : Prop := ∀ x ∈ ns, valD kds (.inr x) = some (Rk.Q (g x)) ∧ BQ 2000 (g x)
def oQ : Option Rat → Da
  | none => .none
  | some r => Rk.Q r
theorem work_op {w : Str} {xs : List Str} (e : seek d_WANTS w = some (.int (xs.length : Nat))) :
    (w = "plus" ∧ ∃ a b, xs = [a, b]) ∨ (w = "less" ∧ ∃ a b, xs = [a, b]) ∨ (w = "times" ∧ ∃ a b, xs = [a, b]) ∨ (w = "over" ∧ ∃ a b, xs = [a, b]) ∨ (w = "turned" ∧ ∃ a, xs = [a]) ∨ (w = "size" ∧ ∃ a, xs = [a]) ∨
    (w = "least" ∧ ∃ a b, xs = [a, b]) ∨ (w = "most" ∧ ∃ a b, xs = [a, b]) ∨ (w = "pick" ∧ ∃ a b c d, xs = [a, b, c, d]) := by
  have l1 : xs.length = 1 → ∃ a, xs = [a] := fun h => List.length_eq_one_iff.mp h
  have l2 : xs.length = 2 → ∃ a b, xs = [a, b] := fun h => by
    match xs, h with
    | [a, b], _ => exact ⟨a, b, rfl⟩
  have l4 : xs.length = 4 → ∃ a b c d, xs = [a, b, c, d] := fun h => by
    match xs, h with
    | [a, b, c, d], _ => exact ⟨a, b, c, d, rfl⟩
  have m := seek_mem e
  have m2 : ∀ n : Nat, (PyData.int (xs.length : Nat) : Da) = .int (n : Int) → xs.length = n := fun n h => by
    injection h with h
    omega
  unfold d_WANTS at m
  simp only [List.mem_cons, Prod.mk.injEq, List.not_mem_nil, or_false] at m
  rcases m with ⟨rfl, h⟩ | ⟨rfl, h⟩ | ⟨rfl, h⟩ | ⟨rfl, h⟩ | ⟨rfl, h⟩ | ⟨rfl, h⟩ | ⟨rfl, h⟩ | ⟨rfl, h⟩ | ⟨rfl, h⟩
  · exact .inl ⟨rfl, l2 (m2 2 h)⟩
  · exact .inr (.inl ⟨rfl, l2 (m2 2 h)⟩)
  · exact .inr (.inr (.inl ⟨rfl, l2 (m2 2 h)⟩))
  · exact .inr (.inr (.inr (.inl ⟨rfl, l2 (m2 2 h)⟩)))
  · exact .inr (.inr (.inr (.inr (.inl ⟨rfl, l1 (m2 1 h)⟩))))
  · exact .inr (.inr (.inr (.inr (.inr (.inl ⟨rfl, l1 (m2 1 h)⟩)))))
  · exact .inr (.inr (.inr (.inr (.inr (.inr (.inl ⟨rfl, l2 (m2 2 h)⟩))))))
  · exact .inr (.inr (.inr (.inr (.inr (.inr (.inr (.inl ⟨rfl, l2 (m2 2 h)⟩)))))))
  · exact .inr (.inr (.inr (.inr (.inr (.inr (.inr (.inr ⟨rfl, l4 (m2 4 h)⟩)))))))
section
variable {h : Hh} {Q : Vl → Hh → Prop} {E : XP} {w : Work} {ns : List Str} {kds : List (Key × Da)} {g : Str → Rat} {m : Nat}
local macro_rules | `(tactic| walk_at "woc") => `(tactic| (apply wo_iwR; assumption; assumption))
theorem wp_exact (ok : w.Ok ns) (e : h[m]? = some (some (.dct kds))) (k : Kn kds ns g) (q : Q (.d (oQ (valW g w))) h) : Wp (m_exact [.d w.da, .r m] h) Q E := by
  refine en_exact ?_
  unfold b_exact
  cases w with
  | num r =>
    show Ws _ _ _
    rw [show (Work.num r).da = .tuple [.str "number", Rk.Q r] from rfl]
    walk_at "w"
    exact q
  | op w xs =>
    obtain ⟨e1, e2⟩ := ok
    rw [show (Work.op w xs).da = .tuple (.str w :: xs.map PyData.str) from rfl]
    rcases work_op e1 with ⟨rfl, a, b, rfl⟩ | ⟨rfl, a, b, rfl⟩ | ⟨rfl, a, b, rfl⟩ | ⟨rfl, a, b, rfl⟩ | ⟨rfl, a, rfl⟩ | ⟨rfl, a, rfl⟩ | ⟨rfl, a, b, rfl⟩ | ⟨rfl, a, b, rfl⟩ | ⟨rfl, a, b, c, d, rfl⟩
    · obtain ⟨va, ba⟩ := k a (e2 a (by simp))
      obtain ⟨vb, bb⟩ := k b (e2 b (by simp))
      simp only [List.map_cons, List.map_nil]
      walk_at "w"
      refine ⟨by simp, ?_⟩
      walk_at "w"
      refine wo_iwR get_at (d := fnD "plus") (by rfl) ?_
      walk_at "w"
      refine fnk (m := m_plus) (by rfl) ?_
      walk_at "w"
      exact q
    · obtain ⟨va, ba⟩ := k a (e2 a (by simp))
      obtain ⟨vb, bb⟩ := k b (e2 b (by simp))
      simp only [List.map_cons, List.map_nil]
      walk_at "w"
      refine ⟨by simp, ?_⟩
      walk_at "w"
      refine wo_iwR get_at (d := fnD "less") (by rfl) ?_
      walk_at "w"
      refine fnk (m := m_less) (by rfl) ?_
      walk_at "w"
      exact q
    · obtain ⟨va, ba⟩ := k a (e2 a (by simp))
      obtain ⟨vb, bb⟩ := k b (e2 b (by simp))
      simp only [List.map_cons, List.map_nil]
      walk_at "w"
      refine ⟨by simp, ?_⟩
      walk_at "w"
      refine wo_iwR get_at (d := fnD "times") (by rfl) ?_
      walk_at "w"
      refine fnk (m := m_times) (by rfl) ?_
      walk_at "w"
      exact q
    · obtain ⟨va, ba⟩ := k a (e2 a (by simp))
      obtain ⟨vb, bb⟩ := k b (e2 b (by simp))
      simp only [List.map_cons, List.map_nil]
      walk_at "w"
      · rename_i z
        rw [show valW g (Work.op "over" [a, b]) = none from if_pos (by simpa using z)] at q
        exact q
      · rename_i z
        rw [show valW g (Work.op "over" [a, b]) = some (g a / g b) from if_neg (by simpa using z)] at q
        exact q
    · obtain ⟨va, ba⟩ := k a (e2 a (by simp))
      simp only [List.map_cons, List.map_nil]
      walk_at "w"
      exact q
    · obtain ⟨va, ba⟩ := k a (e2 a (by simp))
      simp only [List.map_cons, List.map_nil]
      walk_at "w"
      exact q
    · obtain ⟨va, ba⟩ := k a (e2 a (by simp))
      obtain ⟨vb, bb⟩ := k b (e2 b (by simp))
      simp only [List.map_cons, List.map_nil]
      walk_at "w"
      refine ⟨by simp, ?_⟩
      walk_at "w"
      refine wo_iwR get_at (d := fnD "lesser") (by rfl) ?_
      walk_at "w"
      refine fnk (m := m_lesser) (by rfl) ?_
      walk_at "w"
      exact q
    · obtain ⟨va, ba⟩ := k a (e2 a (by simp))
      obtain ⟨vb, bb⟩ := k b (e2 b (by simp))
      simp only [List.map_cons, List.map_nil]
      walk_at "w"
      refine ⟨by simp, ?_⟩
      walk_at "w"
      refine wo_iwR get_at (d := fnD "greater") (by rfl) ?_
      walk_at "w"
      refine fnk (m := m_greater) (by rfl) ?_
      walk_at "w"
      exact q
    · obtain ⟨va, ba⟩ := k a (e2 a (by simp))
      obtain ⟨vb, bb⟩ := k b (e2 b (by simp))
      obtain ⟨vc, bc⟩ := k c (e2 c (by simp))
      obtain ⟨vd, bd⟩ := k d (e2 d (by simp))
      simp only [List.map_cons, List.map_nil]
      walk_at "w"
      · rename_i z
        rw [show valW g (Work.op "pick" [a, b, c, d]) = some (if g a < g b then g c else g d) from rfl, if_pos (by simpa using z)] at q
        exact q
      · rename_i z
        rw [show valW g (Work.op "pick" [a, b, c, d]) = some (if g a < g b then g c else g d) from rfl, if_neg (by simpa using z)] at q
        exact q
end

/-! the law's own numbers -/
theorem w_lshare (h : Hh) (a b : Vl) : ∀ (y x : Nat), ∃ z, sWhile (eT (eOp (gInt fGt) (eVar 3) (eD (.int 0)))) (sPar 2 3 (aCons (eVar 3) (aCons (eOp (gInt fMod) (eVar 2) (eVar 3)) (aNil)))) [some a, some b, some (.d (.int (x : Int))), some (.d (.int (y : Int)))] h = .nx [some a, some b, some (.d (.int (Nat.gcd x y : Nat))), some z] h := by
  intro y
  induction y using Nat.strongRecOn with
  | ind y ih =>
    intro x
    rw [sWhile_eq]
    by_cases hy : y = 0
    · subst hy
      refine ⟨.d (.int 0), ?_⟩
      walk_at "ev"
      simp
    · have hp : (0 : Int) < (y : Int) := by omega
      obtain ⟨z, e⟩ := ih (x % y) (Nat.mod_lt _ (by omega)) y
      refine ⟨z, ?_⟩
      have hn : ((y : Int)) ≠ 0 := by omega
      walk_at "ev"
      rw [decide_eq_true hp, fMod_eq hn, fmod_nat]
      walk_at "ev"
      rw [e, Nat.gcd_comm x y, Nat.gcd_rec y x, Nat.gcd_comm (x % y) y]
theorem sp_lshare {x y : Int} (hy : y ≠ 0) {n : Nat} (b : Bd n y) (hn : n ≤ 9000) (h : Hh) : m__law_share [.d (.int x), .d (.int y)] h = .ok (.d (Q (Rat.divInt x y))) h := by
  have hn0 : 0 < n := Nat.pos_of_ne_zero fun z => by
    subst z
    unfold Bd at b
    omega
  have hg : Int.gcd x y ≠ 0 := fun z => hy (Int.gcd_eq_zero_iff.mp z).2
  have hl : Int.gcd x y ≤ y.natAbs := Nat.gcd_le_right _ (by omega)
  obtain ⟨p1, p2⟩ := divInt_parts (x := x) hy
  obtain ⟨z, e⟩ := w_lshare h (.d (.int x)) (.d (.int y)) y.natAbs x.natAbs
  unfold m__law_share b__law_share
  walk_at "ev"
  rw [abs_eq, abs_eq, e]
  walk_at "ev"
  rw [show Nat.gcd x.natAbs y.natAbs = Int.gcd x y from rfl]
  by_cases hs : y < 0
  · rw [if_pos hs] at p1 p2
    have h0 : 0 - ((Int.gcd x y : Nat) : Int) ≠ 0 := by omega
    have hb : Bd n (0 - ((Int.gcd x y : Nat) : Int)) := b.le (by omega)
    rw [decide_eq_false (by omega : ¬ (0 < y))]
    walk_at "ev"
    rw [fDiv_eq h0 (hb.divOk hn0 hn), fDiv_eq h0 (hb.divOk hn0 hn), p1, p2]
    walk_at "ev" <;> rfl
  · rw [if_neg hs] at p1 p2
    have h0 : ((Int.gcd x y : Nat) : Int) ≠ 0 := by omega
    have hb : Bd n ((Int.gcd x y : Nat) : Int) := b.le (by omega)
    rw [decide_eq_true (by omega : 0 < y)]
    walk_at "ev"
    rw [fDiv_eq h0 (hb.divOk hn0 hn), fDiv_eq h0 (hb.divOk hn0 hn), p1, p2]
    walk_at "ev" <;> rfl
section
variable {h : Hh} {Q : Vl → Hh → Prop} {E : XP} {r s : Rat} {n m : Nat}
theorem wp_lshare {x y : Int} (hy : y ≠ 0) (b : Bd n y) (hl : n ≤ 9000) (q : Q (.d (Rk.Q (Rat.divInt x y))) h) : Wp (m__law_share [.d (.int x), .d (.int y)] h) Q E := wp_eq (sp_lshare hy b hl h) q
theorem sp_lsum1 (hr : BQ n r) (hs : BQ m s) (hl : n + m ≤ 9000) (h : Hh) : m__law_sum [.d (Rk.Q r), .d (Rk.Q s), .d (.int 1)] h = .ok (.d (Rk.Q (r + s))) h := by
  unfold m__law_sum b__law_sum Rk.Q
  walk_at "ev"
  rw [fMul_eq (hr.1.mulOk hs.2 (by omega)), fMul_eq (Bd.mulOk (n := 2) (x := 1) (bd_lit 1 (by decide) (by decide) (by decide)) hs.1 (by omega)), fMul_eq (hr.2.mulOk hs.2 (by omega))]
  walk_at "ev"
  rw [Int.one_mul, fMul_eq (hs.1.mulOk hr.2 (by omega))]
  walk_at "ev"
  rw [sp_lshare (Int.mul_ne_zero (den_ne r) (den_ne s)) (hr.2.mul hs.2) hl, add_divInt]
  walk_at "ev" <;> rfl
theorem sp_lsum2 (hr : BQ n r) (hs : BQ m s) (hl : n + m ≤ 9000) (h : Hh) : m__law_sum [.d (Rk.Q r), .d (Rk.Q s), .d (.int (-1))] h = .ok (.d (Rk.Q (r - s))) h := by
  have hs' : BQ m (-s) := hs.neg
  unfold m__law_sum b__law_sum Rk.Q
  walk_at "ev"
  rw [fMul_eq (hr.1.mulOk hs.2 (by omega)), fMul_eq (Bd.mulOk (n := 2) (x := -1) (bd_lit 1 (by decide) (by decide) (by decide)) hs.1 (by omega)), fMul_eq (hr.2.mulOk hs.2 (by omega))]
  walk_at "ev"
  rw [show -1 * s.num = (-s).num by rw [Rat.neg_num]; omega, show (s.den : Int) = ((-s).den : Int) by rw [Rat.neg_den], fMul_eq (hs'.1.mulOk hr.2 (by omega))]
  walk_at "ev"
  rw [sp_lshare (Int.mul_ne_zero (den_ne r) (den_ne (-s))) (hr.2.mul hs'.2) hl, add_divInt, ← Rat.sub_eq_add_neg]
  walk_at "ev" <;> rfl
theorem sp_lless (hr : BQ n r) (hs : BQ m s) (hl : n + m ≤ 134217728) (h : Hh) : m__law_is_less [.d (Rk.Q r), .d (Rk.Q s)] h = .ok (.d (.bool (decide (r < s)))) h := by
  have e : m__law_is_less = m_is_less := rfl
  rw [e]
  exact sp_is_less hr hs hl h
end

/-! what a work comes to, by the law -/
section
variable {h : Hh} {Q : Vl → Hh → Prop} {E : XP} {w : Work} {ns : List Str} {kds : List (Key × Da)} {g : Str → Rat} {m n1 n2 : Nat} {r s : Rat}
theorem wp_lsum1 (hr : BQ n1 r) (hs : BQ n2 s) (hl : n1 + n2 ≤ 9000) (q : Q (.d (Rk.Q (r + s))) h) : Wp (m__law_sum [.d (Rk.Q r), .d (Rk.Q s), .d (.int 1)] h) Q E := wp_eq (sp_lsum1 hr hs hl h) q
theorem wp_lsum2 (hr : BQ n1 r) (hs : BQ n2 s) (hl : n1 + n2 ≤ 9000) (q : Q (.d (Rk.Q (r - s))) h) : Wp (m__law_sum [.d (Rk.Q r), .d (Rk.Q s), .d (.int (-1))] h) Q E := wp_eq (sp_lsum2 hr hs hl h) q
theorem wp_lless (hr : BQ n1 r) (hs : BQ n2 s) (hl : n1 + n2 ≤ 134217728) (q : Q (.d (.bool (decide (r < s)))) h) : Wp (m__law_is_less [.d (Rk.Q r), .d (Rk.Q s)] h) Q E := wp_eq (sp_lless hr hs hl h) q
theorem wo_inT2 {x a b : Str} {c : Bool} (hc : decide (x ∈ [a, b]) = c) (q : Q (.d (.bool c)) h) : Wo (gIn false (.d (.str x)) (.d (.tuple [.str a, .str b])) h) Q := by
  refine wo_eq ?_ q
  unfold gIn asQ asL
  dsimp only
  have fl : [PyData.str a, PyData.str b].all flatD = true := rfl
  have fx : flatD (.str x) = true := rfl
  have e := inF_strs x [a, b]
  rw [hc] at e
  have e : inF (.str x) [.str a, .str b] = c := e
  rw [fx, fl, e]
  rfl
local macro_rules | `(tactic| walk_at "woc") => `(tactic| first | refine wo_inT2 (c := true) (by decide +kernel) ?_ | refine wo_inT2 (c := false) (by decide +kernel) ?_)
local macro_rules | `(tactic| walk_at "woc") => `(tactic| (apply wo_iwR; assumption; assumption))
local macro_rules | `(tactic| walk_at "wc") => `(tactic| first | (apply wp_lsum1; exact (by walk_at "bq"); exact (by walk_at "bq"); exact (by walk_at "sm"))| (apply wp_lsum2; exact (by walk_at "bq"); exact (by walk_at "bq"); exact (by walk_at "sm"))| (apply wp_lless; exact (by walk_at "bq"); exact (by walk_at "bq"); exact (by walk_at "sm")))
theorem wp_lexact (ok : w.Ok ns) (e : h[m]? = some (some (.dct kds))) (k : Kn kds ns g) (q : Q (.d (oQ (valW g w))) h) : Wp (m__law_exact [.d w.da, .r m] h) Q E := by
  have hm : m < h.length := (List.getElem?_eq_some_iff.mp e).1
  refine en__law_exact ?_
  unfold b__law_exact
  cases w with
  | num r =>
    show Ws _ _ _
    rw [show (Work.num r).da = .tuple [.str "number", Rk.Q r] from rfl]
    walk_at "w"
    exact q
  | op w xs =>
    obtain ⟨e1, e2⟩ := ok
    rw [show (Work.op w xs).da = .tuple (.str w :: xs.map PyData.str) from rfl]
    have parts : ∀ {Q2 : Vl → Hh → Prop} {E2 : XP} {v2 o3 o4 o5 o6 : Option Vl}, Q2 (.d (.list (xs.map fun x => Rk.Q (g x)))) h → Wp (eFz (eLc [4] (iv itQ (eFz (eSl (eVar 0) (oSome (eD (.int 1))) (oNone)))) (gN 4) (tvYes) (eOp gIw (eVar 1) (eVar 4))) [some (.d (.tuple (.str w :: xs.map PyData.str))), some (.r m), v2, o3, o4, o5, o6] h) Q2 E2 := by
      intro Q2 E2 v2 o3 o4 o5 o6 q2
      have l4 : xs.length ≤ 4 := (wants_n e1).2.2.1
      refine wp_lcH xs PyData.str (fun x => Rk.Q (g x)) (by walk_at "wipe") ?_
      walk_at "w"
      refine ⟨rfl, by omega, rfl, fun x hx o => ?_, ?_⟩
      · have e' : (h ++ [o])[m]? = some (some (.dct kds)) := by rw [List.getElem?_append_left hm]; exact e
        have vx := (k x (e2 x hx)).1
        walk_at "w"
        refine ⟨rfl, ?_⟩
        walk_at "w"
        exact ⟨rfl, rfl⟩
      · exact q2
    rcases work_op e1 with ⟨rfl, a, b, rfl⟩ | ⟨rfl, a, b, rfl⟩ | ⟨rfl, a, b, rfl⟩ | ⟨rfl, a, b, rfl⟩ | ⟨rfl, a, rfl⟩ | ⟨rfl, a, rfl⟩ | ⟨rfl, a, b, rfl⟩ | ⟨rfl, a, b, rfl⟩ | ⟨rfl, a, b, c, d, rfl⟩
    · obtain ⟨va, ba⟩ := k a (e2 a (by simp))
      obtain ⟨vb, bb⟩ := k b (e2 b (by simp))
      simp only [List.map_cons, List.map_nil] at parts ⊢
      walk_at "w"
      refine parts ?_
      walk_at "w"
      refine wo_ilm1 (zs := [Rk.Q (g a)]) ?_
      walk_at "w"
      exact q
    · obtain ⟨va, ba⟩ := k a (e2 a (by simp))
      obtain ⟨vb, bb⟩ := k b (e2 b (by simp))
      simp only [List.map_cons, List.map_nil] at parts ⊢
      walk_at "w"
      refine parts ?_
      walk_at "w"
      refine wo_ilm1 (zs := [Rk.Q (g a)]) ?_
      walk_at "w"
      exact q
    · obtain ⟨va, ba⟩ := k a (e2 a (by simp))
      obtain ⟨vb, bb⟩ := k b (e2 b (by simp))
      simp only [List.map_cons, List.map_nil] at parts ⊢
      walk_at "w"
      refine parts ?_
      walk_at "w"
      refine wo_ilm1 (zs := [Rk.Q (g a)]) ?_
      walk_at "w"
      refine wp_lshare (Int.mul_ne_zero (den_ne _) (den_ne _)) (ba.2.mul bb.2) (by decide) ?_
      rw [mul_divInt]
      walk_at "w"
      exact q
    · obtain ⟨va, ba⟩ := k a (e2 a (by simp))
      obtain ⟨vb, bb⟩ := k b (e2 b (by simp))
      simp only [List.map_cons, List.map_nil] at parts ⊢
      walk_at "w"
      refine parts ?_
      walk_at "w"
      refine wo_ilm1 (zs := [Rk.Q (g a)]) ?_
      walk_at "w"
      · rename_i z
        rw [show valW g (Work.op "over" [a, b]) = none from if_pos (Rat.num_eq_zero.mp z)] at q
        exact q
      · rename_i z
        rw [show valW g (Work.op "over" [a, b]) = some (g a / g b) from if_neg fun y => z (Rat.num_eq_zero.mpr y)] at q
        refine wp_lshare (Int.mul_ne_zero (den_ne _) z) (ba.2.mul bb.1) (by decide) ?_
        rw [div_divInt]
        walk_at "w"
        exact q
    · obtain ⟨va, ba⟩ := k a (e2 a (by simp))
      simp only [List.map_cons, List.map_nil] at parts ⊢
      walk_at "w"
      refine parts ?_
      walk_at "w"
      refine wo_ilm1 (zs := []) ?_
      walk_at "w"
      exact q
    · obtain ⟨va, ba⟩ := k a (e2 a (by simp))
      simp only [List.map_cons, List.map_nil] at parts ⊢
      walk_at "w"
      refine parts ?_
      walk_at "w"
      refine wo_ilm1 (zs := []) ?_
      walk_at "w"
      exact q
    · obtain ⟨va, ba⟩ := k a (e2 a (by simp))
      obtain ⟨vb, bb⟩ := k b (e2 b (by simp))
      simp only [List.map_cons, List.map_nil] at parts ⊢
      walk_at "w"
      refine parts ?_
      walk_at "w"
      refine wo_ilm1 (zs := [Rk.Q (g a)]) ?_
      walk_at "w"
      · rename_i z
        rw [show valW g (Work.op "least" [a, b]) = some (if g b < g a then g b else g a) from rfl, if_pos (of_decide_eq_true z)] at q
        exact q
      · rename_i z
        rw [show valW g (Work.op "least" [a, b]) = some (if g b < g a then g b else g a) from rfl, if_neg fun y => z (decide_eq_true y)] at q
        exact q
    · obtain ⟨va, ba⟩ := k a (e2 a (by simp))
      obtain ⟨vb, bb⟩ := k b (e2 b (by simp))
      simp only [List.map_cons, List.map_nil] at parts ⊢
      walk_at "w"
      refine parts ?_
      walk_at "w"
      refine wo_ilm1 (zs := [Rk.Q (g a)]) ?_
      walk_at "w"
      · rename_i z
        have z : decide (g b < g a) = false := z
        have z := of_decide_eq_false z
        rw [show valW g (Work.op "most" [a, b]) = some (if g a < g b then g b else g a) from rfl] at q
        by_cases y : g a < g b
        · rw [if_pos y] at q
          exact q
        · rw [if_neg y] at q
          have e : g a = g b := Rat.le_antisymm (Rat.not_lt.mp z) (Rat.not_lt.mp y)
          rw [e] at q
          exact q
      · rename_i z
        have z : ¬ decide (g b < g a) = false := z
        have z : g b < g a := Classical.byContradiction fun y => z (decide_eq_false y)
        rw [show valW g (Work.op "most" [a, b]) = some (if g a < g b then g b else g a) from rfl, if_neg (Rat.not_lt.mpr (Rat.le_of_lt z))] at q
        exact q
    · obtain ⟨va, ba⟩ := k a (e2 a (by simp))
      obtain ⟨vb, bb⟩ := k b (e2 b (by simp))
      obtain ⟨vc, bc⟩ := k c (e2 c (by simp))
      obtain ⟨vd, bd⟩ := k d (e2 d (by simp))
      simp only [List.map_cons, List.map_nil] at parts ⊢
      walk_at "w"
      refine parts ?_
      walk_at "w"
      refine wo_ilm1 (zs := [Rk.Q (g a), Rk.Q (g b), Rk.Q (g c)]) ?_
      walk_at "w"
      · rename_i z
        rw [show valW g (Work.op "pick" [a, b, c, d]) = some (if g a < g b then g c else g d) from rfl, if_pos z] at q
        exact q
      · rename_i z
        rw [show valW g (Work.op "pick" [a, b, c, d]) = some (if g a < g b then g c else g d) from rfl, if_neg z] at q
        exact q
end

/-! runs -/
inductive Res where
  | told (xs : List Rat)
  | nought (k : Nat)
  | great
def goG (f : Rat → Rat) : List (Str × Work) → Nat → (Str → Rat) → List Rat → Res
  | [], _, _, acc => .told acc
  | r :: t, k, g, acc => match valW g r.2 with
    | none => .nought k
    | some u => if 10 ^ 600 < (f u).num.natAbs ∨ 10 ^ 600 < (f u).den then .great else goG f t (k + 1) (fun x => if x = r.1 then f u else g x) (acc ++ [f u])
def envZ (xs : List Str) (rs : List Rat) (x : Str) : Rat := match (xs.zip rs).find? fun p => decide (p.1 = x) with
  | some p => p.2
  | none => 0
def Prg.run (p : Prg) (f : Rat → Rat) (rs : List Rat) : Res := goG f p.rows 0 (envZ p.ins rs) []
theorem bq_small {v : Rat} (ng : ¬ (10 ^ 600 < v.num.natAbs ∨ 10 ^ 600 < v.den)) : BQ 2000 v := by
  have l : (10 : Nat) ^ 600 < 2 ^ 2000 := by decide +kernel
  have h1 : v.num.natAbs < 2 ^ 2000 := Nat.lt_of_le_of_lt (Nat.not_lt.mp fun z => ng (.inl z)) l
  have h2 : v.den < 2 ^ 2000 := Nat.lt_of_le_of_lt (Nat.not_lt.mp fun z => ng (.inr z)) l
  exact ⟨h1, bd_nat h2⟩
theorem valW_bq {kds : List (Key × Da)} {ns : List Str} {g : Str → Rat} {w : Work} {u : Rat} (k : Kn kds ns g) (ok : w.Ok ns) (e : valW g w = some u) : BQ 4002 u := by
  cases w with
  | num r =>
    cases e
    refine (bq_small fun z => ?_).mono (by decide)
    rcases z with z | z
    · exact Nat.not_lt.mpr ok.1 z
    · exact Nat.not_lt.mpr ok.2 z
  | op w xs =>
    obtain ⟨e1, e2⟩ := ok
    have b : ∀ x ∈ xs, BQ 2000 (g x) := fun x hx => (k x (e2 x hx)).2
    rcases work_op e1 with ⟨rfl, x, y, rfl⟩ | ⟨rfl, x, y, rfl⟩ | ⟨rfl, x, y, rfl⟩ | ⟨rfl, x, y, rfl⟩ | ⟨rfl, x, rfl⟩ | ⟨rfl, x, rfl⟩ | ⟨rfl, x, y, rfl⟩ | ⟨rfl, x, y, rfl⟩ | ⟨rfl, x, y, z, t, rfl⟩
    · have e : g x + g y = u := Option.some.inj e
      subst e
      exact ((b x (by simp)).add' (b y (by simp))).mono (by decide)
    · have e : g x - g y = u := Option.some.inj e
      subst e
      exact ((b x (by simp)).sub' (b y (by simp))).mono (by decide)
    · have e : g x * g y = u := Option.some.inj e
      subst e
      exact ((b x (by simp)).mul' (b y (by simp))).mono (by decide)
    · have e : (if g y = 0 then none else some (g x / g y)) = some u := e
      split at e
      · cases e
      · cases e
        exact ((b x (by simp)).div' (b y (by simp))).mono (by decide)
    · have e : -(g x) = u := Option.some.inj e
      subst e
      exact (b x (by simp)).neg.mono (by decide)
    · have e : (g x).abs = u := Option.some.inj e
      subst e
      exact (b x (by simp)).abs.mono (by decide)
    · have e : mn (g x) (g y) = u := Option.some.inj e
      subst e
      exact ((b x (by simp)).mn (b y (by simp))).mono (by decide)
    · have e : mx (g x) (g y) = u := Option.some.inj e
      subst e
      exact ((b x (by simp)).mx (b y (by simp))).mono (by decide)
    · have e : (if g x < g y then g z else g t) = u := Option.some.inj e
      subst e
      exact (BQ.ite (b z (by simp)) (b t (by simp))).mono (by decide)
theorem kn_put {kds : List (Key × Da)} {ns : List Str} {g : Str → Rat} {x : Str} {v : Rat} (k : Kn kds ns g) (b : BQ 2000 v) : Kn (putD kds (.inr x) (Rk.Q v)) (ns ++ [x]) (fun y => if y = x then v else g y) := fun y hy => by
  rw [valD_put]
  by_cases e : y = x
  · subst e
    simp [b]
  · have hy : y ∈ ns := by
      rw [List.mem_append, List.mem_singleton] at hy
      exact hy.resolve_right e
    have e' : ¬ ((.inr y : Key) = .inr x) := fun z => e (by injection z)
    rw [if_neg e']
    dsimp only
    rw [if_neg e]
    exact k y hy
theorem env_get : ∀ {xs : List Str} {rs : List Rat} {i : Nat} {x : Str} {r : Rat}, xs.Nodup → xs[i]? = some x → rs[i]? = some r → envZ xs rs x = r
  | [], _, i, _, _, _, h, _ => by simp at h
  | _ :: _, [], i, _, _, _, _, h => by simp at h
  | a :: xs, b :: rs, 0, x, r, _, h1, h2 => by
    simp only [List.getElem?_cons_zero, Option.some.injEq] at h1 h2
    subst h1 h2
    simp [envZ]
  | a :: xs, b :: rs, i + 1, x, r, nd, h1, h2 => by
    rw [List.getElem?_cons_succ] at h1 h2
    obtain ⟨n1, n2⟩ := List.nodup_cons.mp nd
    have ne : a ≠ x := fun z => by
      subst z
      exact n1 (List.mem_of_getElem? h1)
    have := env_get n2 h1 h2
    unfold envZ at this ⊢
    rw [List.zip_cons_cons, List.find?_cons_of_neg (by simpa using ne)]
    exact this
theorem fold_no (b : Key) : ∀ (zs kds : List (Key × Da)), b ∉ zs.map (·.1) → valD (zs.foldl (fun acc kv => putD acc kv.1 kv.2) kds) b = valD kds b
  | [], _, _ => rfl
  | z :: zs, kds, h => by
    rw [List.foldl_cons, fold_no b zs _ (fun m => h (by rw [List.map_cons]; exact List.mem_cons_of_mem _ m)), valD_put, if_neg]
    intro e
    exact h (by rw [List.map_cons, e]; exact List.mem_cons_self ..)
theorem fold_yes {b : Key} {v : Da} : ∀ (zs kds : List (Key × Da)), (zs.map (·.1)).Nodup → (b, v) ∈ zs → valD (zs.foldl (fun acc kv => putD acc kv.1 kv.2) kds) b = some v
  | z :: zs, kds, nd, m => by
    rw [List.foldl_cons]
    rw [List.map_cons, List.nodup_cons] at nd
    rcases List.mem_cons.mp m with e | e
    · subst e
      rw [fold_no b zs _ nd.1, valD_put, if_pos rfl]
    · exact fold_yes zs _ nd.2 e
theorem kn_zip {xs : List Str} {rs : List Rat} (nd : xs.Nodup) (hl : xs.length = rs.length) (hb : ∀ r ∈ rs, BQ 2000 r) :
    Kn (((xs.map (Sum.inr : Str → Key)).zip (rs.map Rk.Q)).foldl (fun acc kv => putD acc kv.1 kv.2) []) xs (envZ xs rs) := fun x hx => by
  obtain ⟨i, hi⟩ := List.mem_iff_getElem?.mp hx
  have hi' : i < xs.length := (List.getElem?_eq_some_iff.mp hi).1
  obtain ⟨r, hr⟩ : ∃ r, rs[i]? = some r := ⟨_, List.getElem?_eq_getElem (by omega)⟩
  rw [env_get nd hi hr]
  refine ⟨fold_yes _ _ ?_ ?_, hb r (List.mem_of_getElem? hr)⟩
  · rw [List.map_fst_zip (by rw [List.length_map, List.length_map]; omega)]
    exact List.pairwise_map.mpr (List.Pairwise.imp (fun ne z => ne (by injection z)) nd)
  · refine List.mem_of_getElem? (i := i) ?_
    rw [List.getElem?_zip_eq_some, List.getElem?_map, List.getElem?_map, hi, hr]
    exact ⟨rfl, rfl⟩
theorem da_rows (p : Prg) : p.da = .tuple [.tuple (p.ins.map PyData.str), .tuple (p.rows.map fun r => .tuple [.str r.1, r.2.da])] := rfl

/-! a program's run, walked -/
def Prg.nms (p : Prg) (k : Nat) : List Str := p.ins ++ (p.rows.take k).map (·.1)
section
variable {h : Hh} {Q : Vl → Hh → Prop} {E : XP} {p : Prg} {rs : List Rat}
theorem wp_need_smallG {v : Rat} (q : ¬ (10 ^ 600 < v.num.natAbs ∨ 10 ^ 600 < v.den) → Q (.d (Rk.Q v)) h) (e : (10 ^ 600 < v.num.natAbs ∨ 10 ^ 600 < v.den) → E "TooGreat" [] h) : Wp (m_need_small [.d (Rk.Q v)] h) Q E := by
  refine en_need_small ?_
  unfold b_need_small
  walk_at "w"
  refine wp_igp ?_
  have c0 : ((10 : Int) ^ 600 < (v.num.natAbs : Int) ∨ (10 : Int) ^ 600 < (v.den : Int)) ↔ (10 ^ 600 < v.num.natAbs ∨ 10 ^ 600 < v.den) := by
    have c : ((10 : Int) ^ 600) = ((10 ^ 600 : Nat) : Int) := (Int.natCast_pow 10 600).symm
    rw [c, Int.ofNat_lt, Int.ofNat_lt]
  by_cases g : 10 ^ 600 < v.num.natAbs ∨ 10 ^ 600 < v.den
  · rw [decide_eq_true (c0.mpr g)]
    walk_at "w"
    rw [List.take_length]
    exact e g
  · rw [decide_eq_false fun z => g (c0.mp z)]
    walk_at "w"
    exact q g
/-- a ruler, or none, as data; f: what it makes of a number -/
def RulF (R : Da) (f : Rat → Rat) : Prop := (R = .none ∧ f = id) ∨ (∃ ds, R = .tuple ds ∧ ∀ (v : Rat) (h : Hh) (Q : Vl → Hh → Prop) (E : XP), BQ 4002 v → Q (.d (Rk.Q (f v))) h → Wp (m_rounded [.d R, .d (Rk.Q v)] h) Q E)
theorem w_rul {R : Da} {f : Rat → Rat} {v : Rat} {o0 o1 o3 o4 o5 o6 o7 : Option Vl} (hR : RulF R f) (b : BQ 4002 v) (q : Q (.d (Rk.Q (f v))) h) :
    Wp (eIf (eT (eOp gIsN (eVar 2) (eD .none))) (eVar 8) (eCall m_rounded (aCons (eVar 2) (aCons (eVar 8) (aNil)))) [o0, o1, some (.d R), o3, o4, o5, o6, o7, some (.d (Rk.Q v))] h) Q E := by
  rcases hR with ⟨rfl, rfl⟩ | ⟨ds, rfl, hr⟩
  · walk_at "w"
    exact q
  · walk_at "w"
    exact hr v _ _ _ b q
local macro_rules | `(tactic| walk_at "wk") => `(tactic| (apply w_rul; assumption; assumption))
theorem wp_done {R : Da} {f : Rat → Rat} (hR : RulF R f) (ok : p.Ok) (hl : p.ins.length = rs.length) (hb : ∀ r ∈ rs, BQ 2000 r)
    (q1 : ∀ xs, p.run f rs = .told xs → Q (.d (.tuple (xs.map Rk.Q))) h) (q2 : ∀ k : Nat, p.run f rs = .nought k → E "ByNought" [("row", .int (k : Nat))] h) (q3 : p.run f rs = .great → E "TooGreat" [] h) :
    Wp (m_done [.d p.da, .d (.tuple (rs.map Rk.Q)), .d R] h) Q E := by
  have ni : p.ins.Nodup := (List.nodup_append.mp ok.nd).1
  have r40 := ok.r40
  refine en_done ?_
  unfold b_done
  rw [da_rows]
  walk_at "w"
  refine wo_dzT (by rw [List.length_map]; exact hl) ?_
  walk_at "w"
  rw [mapIdx_map']
  refine forK_inv (I := fun k ρ1 h1 => ∃ kds acc g a5 a6 a7 a8, ρ1 = [some (.d (.tuple [.tuple (p.ins.map PyData.str), .tuple (p.rows.map fun r => .tuple [.str r.1, r.2.da])])), some (.d (.tuple (rs.map Rk.Q))), some (.d R), some (.r h.length), some (.r (h.length + 1)), a5, a6, a7, a8] ∧
      h1 = h ++ [some (.dct kds)] ++ [some (.lst (acc.map Rk.Q))] ∧ kds.length ≤ 6 + k ∧ Kn kds (p.nms k) g ∧ acc.length = k ∧ goG f (p.rows.drop k) k g acc = p.run f rs) ?_ ?_ ?_
  · refine ⟨_, [], _, none, none, none, none, ?_, rfl, ?_, ?_, rfl, rfl⟩
    · rw [List.length_append]
      rfl
    · refine Nat.le_trans (fold_len _ _) ?_
      have := ok.i6
      rw [List.length_zip, List.length_map, List.length_map, List.length_nil]
      omega
    · unfold Prg.nms
      rw [List.take_zero, List.map_nil, List.append_nil]
      exact kn_zip ni hl hb
  · rintro k d ρ1 h1 ed ⟨kds, acc, g, a5, a6, a7, a8, rfl, rfl, kl, K, al, eg⟩
    rw [List.getElem?_mapIdx] at ed
    cases er : p.rows[k]? with
    | none => rw [er] at ed; cases ed
    | some r =>
      rw [er] at ed
      cases ed
      have hk : k < p.rows.length := (List.getElem?_eq_some_iff.mp er).1
      walk_at "w"
      unfold bl_done_1
      walk_at "w"
      refine wp_exact (ok.wk k r er) (by simp) K ?_
      walk_at "w"
      have e2 : p.rows.drop k = r :: p.rows.drop (k + 1) := by
        obtain ⟨hk, e⟩ := List.getElem?_eq_some_iff.mp er
        rw [List.drop_eq_getElem_cons hk, e]
      rw [e2] at eg
      have tk : (h ++ [some (Ob.dct kds)] ++ [some (Ob.lst (acc.map Rk.Q))]).take h.length = h := by rw [List.append_assoc, List.take_left']; rfl
      cases ev : valW g r.2 with
      | none =>
        have eg : p.run f rs = .nought k := by
          rw [← eg, goG, ev]
        show Wo (gIsN (.d .none) (.d .none) _) _
        walk_at "w"
        refine ws_raise1 ?_
        walk_at "w"
        refine ⟨_, _, rfl, ?_⟩
        rw [tk]
        exact q2 k eg
      | some u =>
        have bu : BQ 4002 u := valW_bq K (ok.wk k r er) ev
        rw [goG, ev] at eg
        dsimp only at eg
        rw [show oQ (some u) = Rk.Q u from rfl]
        walk_at "w"
        refine wp_need_smallG (fun ng => ?_) (fun gg => ?_)
        · walk_at "w"
          have e0 : (h ++ [some (Ob.dct kds)] ++ [some (Ob.lst (acc.map Rk.Q))])[h.length]? = some (some (.dct kds)) := by simp
          refine ⟨_, set_of (kds' := putD kds (.inr r.1) (Rk.Q (f u))) e0 rfl (by omega), ?_⟩
          rw [show (h ++ [some (Ob.dct kds)] ++ [some (Ob.lst (acc.map Rk.Q))]).set h.length (some (.dct (putD kds (.inr r.1) (Rk.Q (f u))))) = h ++ [some (Ob.dct (putD kds (.inr r.1) (Rk.Q (f u))))] ++ [some (Ob.lst (acc.map Rk.Q))] by simp]
          walk_at "w"
          refine wo_iwR (kds := putD kds (.inr r.1) (Rk.Q (f u))) (d := Rk.Q (f u)) (by simp) (by rw [valD_put, if_pos rfl]) ?_
          walk_at "w"
          have bv : BQ 2000 (f u) := bq_small ng
          refine ⟨putD kds (.inr r.1) (Rk.Q (f u)), acc ++ [f u], fun y => if y = r.1 then f u else g y, some (.d (.int (k : Nat))), some (.d (.str r.1)), some (.d r.2.da), some (.d (Rk.Q u)), rfl, by rw [List.map_append]; rfl, ?_, ?_, ?_, ?_⟩
          · exact Nat.le_trans put_len (by omega)
          · have := kn_put (x := r.1) K bv
            have en : p.nms (k + 1) = p.nms k ++ [r.1] := by
              unfold Prg.nms
              rw [List.take_add_one, er]
              simp
            rw [en]
            exact this
          · simp [al]
          · rw [if_neg ng] at eg
            exact eg
        · rw [if_pos gg] at eg
          rw [tk]
          exact q3 eg.symm
  · rintro ρ1 h1 ⟨kds, acc, g, a5, a6, a7, a8, rfl, rfl, kl, K, al, eg⟩
    rw [List.length_mapIdx, List.drop_length] at eg
    walk_at "w"
    refine ws_frzE (h := h ++ [some (Ob.dct kds)]) (l := []) (by simp) rfl ?_
    walk_at "w"
    rw [List.append_assoc]
    exact retK_d' rfl (q1 acc eg.symm)
theorem wp_are_fractions (hl : p.ins.length = rs.length) (h6 : p.ins.length ≤ 6) (hb : ∀ r ∈ rs, ¬ (10 ^ 600 < r.num.natAbs ∨ 10 ^ 600 < r.den)) (q : Q (.d (.bool true)) h) : Wp (m_are_fractions [.d p.da, .d (.tuple (rs.map Rk.Q))] h) Q E := by
  refine en_are_fractions ?_
  unfold b_are_fractions
  rw [da_rows]
  have l1 : (rs.map Rk.Q).length = rs.length := List.length_map ..
  have l2 : (p.ins.map PyData.str).length = p.ins.length := List.length_map ..
  walk_at "w"
  refine wp_lcR rs Rk.Q (fun x => .bool true) (by walk_at "wipe") ?_
  walk_at "w"
  refine ⟨rfl, by omega, rfl, fun x hx h' => ?_, ?_⟩
  · walk_at "w"
    refine ⟨rfl, ?_⟩
    walk_at "w"
    refine wp_is_fraction ?_
    walk_at "w"
    refine wp_igp ?_
    have c0 : ¬ ((10 : Int) ^ 600 < (x.num.natAbs : Int) ∨ (10 : Int) ^ 600 < (x.den : Int)) := by
      have c : ((10 : Int) ^ 600) = ((10 ^ 600 : Nat) : Int) := (Int.natCast_pow 10 600).symm
      rw [c, Int.ofNat_lt, Int.ofNat_lt]
      exact hb x hx
    rw [decide_eq_false c0]
    walk_at "w"
    exact ⟨rfl, rfl⟩
  walk_at "w"
  refine wo_all (boolsOf_map (fun _ => true) rs) ?_
  rw [List.all_map, show (id ∘ fun (_ : Rat) => true) = fun _ => true from rfl, show rs.all (fun _ => true) = true from List.all_eq_true.mpr fun _ _ => rfl]
  walk_at "w"
  exact q
theorem wp_true_run (ok : p.Ok) (hl : p.ins.length = rs.length) (hb : ∀ r ∈ rs, ¬ (10 ^ 600 < r.num.natAbs ∨ 10 ^ 600 < r.den))
    (q1 : ∀ xs, p.run id rs = .told xs → Q (.d (.tuple (xs.map Rk.Q))) h) (q2 : ∀ k : Nat, p.run id rs = .nought k → E "ByNought" [("row", .int (k : Nat))] h) (q3 : p.run id rs = .great → E "TooGreat" [] h) :
    Wp (m_true_run [.d p.da, .d (.tuple (rs.map Rk.Q))] h) Q E := by
  refine en_true_run ?_
  unfold b_true_run
  walk_at "w"
  refine wp_need_program ok ?_
  walk_at "w"
  refine wp_are_fractions hl ok.i6 hb ?_
  walk_at "w"
  have tk : h.take h.length = h := List.take_length
  refine wp_done (.inl ⟨rfl, rfl⟩) ok hl (fun r hr => bq_small (hb r hr)) (fun xs e => ?_) (fun k e => ?_) (fun e => ?_)
  · exact retK_d rfl (q1 xs e)
  · rw [tk]
    exact q2 k e
  · rw [tk]
    exact q3 e
end

/-! names, fractions, works that are drawn -/
def Lt (x : Str) : Prop := ∀ c ∈ x.cps.toList, c ∈ LET.cps.toList
theorem let_get : ∀ j < 26, LET.cps.toList[j]? = some (97 + j) := by decide +kernel
def sg (c : Nat) : Str := ⟨#[c]⟩
def lnB (x : Str) : Bool := isNm x && (decide (x.length ≠ 3) || decide (x.cps.toList[1]? = some 109) || decide (x.cps.toList[1]? = some 101))
theorem lnB_nm {x : Str} (e : lnB x = true) : isNm x = true := by
  unfold lnB at e
  rw [Bool.and_eq_true] at e
  exact e.1
def kf (w : Int) (x : Str) : Option Nat := if w = 0 then x.cps.toList.head? else x.cps.toList.getLast?
theorem lnA : ∀ t < 26, ∀ j < 6, lnB (sg (97 + t) ++ cutS "maple" none (some ((j : Nat) : Int))) = true ∧ kf 0 (sg (97 + t) ++ cutS "maple" none (some ((j : Nat) : Int))) = some (97 + t) := by decide +kernel
theorem lnC : ∀ t < 26, ∀ j < 6, lnB (cutS "zebra" none (some ((j : Nat) : Int)) ++ sg (97 + t)) = true ∧ kf 1 (cutS "zebra" none (some ((j : Nat) : Int)) ++ sg (97 + t)) = some (97 + t) := by decide +kernel
theorem lcA : ∀ j < 6, (cutS "maple" none (some ((j : Nat) : Int))).length ≤ 6 := by decide +kernel
theorem lcC : ∀ j < 6, (cutS "zebra" none (some ((j : Nat) : Int))).length ≤ 6 := by decide +kernel
theorem get_snoc {α : Type} {P : Nat → α → Prop} {fs : List α} {y : α} {k : Nat} (fl : fs.length = k) (hf : ∀ i x, fs[i]? = some x → P i x) (hy : P k y) : ∀ i x, (fs ++ [y])[i]? = some x → P i x := by
  intro i x hi
  by_cases e : i < fs.length
  · rw [List.getElem?_append_left e] at hi
    exact hf i x hi
  · rw [List.getElem?_append_right (by omega)] at hi
    have e0 : i - fs.length = 0 := by
      have := (List.getElem?_eq_some_iff.mp hi).1
      simp at this
      omega
    rw [e0] at hi
    cases hi
    rw [show i = k by omega]
    exact hy
theorem nodup_kf {fs : List Str} {a s : Nat} {f : Str → Option Nat} (hs : s ∈ [1, 3, 5, 7, 9, 11]) (hl : fs.length ≤ 26) (hf : ∀ i x, fs[i]? = some x → f x = some (97 + (a + s * i) % 26)) : fs.Nodup := by
  unfold List.Nodup
  rw [List.pairwise_iff_getElem]
  intro i j hi hj hij e
  have h1 := hf i _ (List.getElem?_eq_getElem hi)
  have h2 := hf j _ (List.getElem?_eq_getElem hj)
  rw [e, h2] at h1
  have h3 := Option.some.inj h1
  simp only [List.mem_cons, List.not_mem_nil, or_false] at hs
  rcases hs with rfl | rfl | rfl | rfl | rfl | rfl <;> omega
def Sm (r : Rat) : Prop := r.num.natAbs ≤ 10 ^ 600 ∧ r.den ≤ 10 ^ 600
theorem Sm.not {r : Rat} (s : Sm r) : ¬ (10 ^ 600 < r.num.natAbs ∨ 10 ^ 600 < r.den) := fun z => z.elim (Nat.not_lt.mpr s.1) (Nat.not_lt.mpr s.2)
theorem Sm.bq {r : Rat} (s : Sm r) : BQ 2000 r := bq_small s.not
theorem sm_divInt {x y : Int} (hy : 0 < y) (b1 : x.natAbs ≤ 10 ^ 600) (b2 : y.natAbs ≤ 10 ^ 600) : Sm (Rat.divInt x y) := by
  unfold Sm
  generalize 10 ^ 600 = M at b1 b2 ⊢
  have hy0 : y ≠ 0 := by omega
  obtain ⟨p1, p2⟩ := divInt_parts (x := x) hy0
  rw [if_neg (by omega)] at p1 p2
  have hg : 0 < Int.gcd x y := Nat.pos_of_ne_zero fun z => hy0 (Int.gcd_eq_zero_iff.mp z).2
  have hgi : ((Int.gcd x y : Nat) : Int) ≠ 0 := by omega
  obtain ⟨k, ek⟩ : ((Int.gcd x y : Nat) : Int) ∣ x := Int.gcd_dvd_left ..
  obtain ⟨l, el⟩ : ((Int.gcd x y : Nat) : Int) ∣ y := Int.gcd_dvd_right ..
  generalize Int.gcd x y = g at *
  have e1 : x.fdiv (g : Int) = k := by rw [ek, Int.mul_fdiv_cancel_left _ hgi]
  have e2 : y.fdiv (g : Int) = l := by rw [el, Int.mul_fdiv_cancel_left _ hgi]
  rw [e1] at p1
  rw [e2] at p2
  rw [ek, Int.natAbs_mul, Int.natAbs_natCast] at b1
  rw [el, Int.natAbs_mul, Int.natAbs_natCast] at b2
  have m1 : k.natAbs ≤ g * k.natAbs := Nat.le_mul_of_pos_left _ hg
  have m2 : l.natAbs ≤ g * l.natAbs := Nat.le_mul_of_pos_left _ hg
  rw [← p1]
  exact ⟨by omega, by omega⟩
theorem sm_int {a : Int} (b1 : a.natAbs ≤ 10 ^ 600) : ∃ r : Rat, Sm r ∧ (.tuple [.int a, .int 1] : Da) = Rk.Q r :=
  ⟨⟨a, 1, by decide, Nat.coprime_one_right _⟩, ⟨b1, Nat.pow_pos (by decide)⟩, rfl⟩
theorem le600 {a k : Nat} (h : a ≤ 10 ^ k) (hk : k ≤ 600) : a ≤ 10 ^ 600 := Nat.le_trans h (Nat.pow_le_pow_right (by decide) hk)
section
variable {h : Hh} {Q : Vl → Hh → Prop} {E : XP} {n : Nat} {S : List (Key × Da)}
local macro_rules | `(tactic| walk_at "wc") => `(tactic| (apply wp_take; assumption; assumption; exact (by first | omega | decide); exact (by first | omega | decide); intro _ _ _ _ _ _))
theorem wp_names (st : Dk S) (hn : n < h.length) {m : Nat} (hm : m ≤ 10)
    (q : ∀ (fs : List Str) (S' : List (Key × Da)), fs.length = m → fs.Nodup → (∀ x ∈ fs, lnB x = true) → Dk S' → Q (.d (.list (fs.map PyData.str))) (h.set n (some (Ob.dct S')))) :
    Wp (m__law_names [.r n, .d (.int (m : Int))] (h.set n (some (Ob.dct S)))) Q E := by
  refine en__law_names ?_
  unfold b__law_names
  walk_at "w"
  rename_i start S1 s0 s1 sb st1 v2 S2 t0 t1 tb st2
  refine wo_menu (fun d => ∃ s : Nat, d = .int (s : Int) ∧ s ∈ [1, 3, 5, 7, 9, 11]) t0 t1 ?_ ?_
  · intro d hd
    simp only [List.mem_cons, List.not_mem_nil, or_false] at hd
    rcases hd with rfl | rfl | rfl | rfl | rfl | rfl
    · exact ⟨1, rfl, by simp⟩
    · exact ⟨3, rfl, by simp⟩
    · exact ⟨5, rfl, by simp⟩
    · exact ⟨7, rfl, by simp⟩
    · exact ⟨9, rfl, by simp⟩
    · exact ⟨11, rfl, by simp⟩
  rintro _ ⟨s, rfl, hs⟩
  have hs12 : s < 12 := by
    simp only [List.mem_cons, List.not_mem_nil, or_false] at hs
    omega
  have bs : Bd 64 (s : Int) := bd_nat (Nat.lt_trans hs12 (by decide))
  walk_at "w"
  rename_i v3 S3 z0 z1 zb st3
  refine wo_slS (by decide +kernel) ?_
  walk_at "w"
  rename_i way S4 w0 w1 wb st4
  obtain ⟨a, rfl⟩ : ∃ a : Nat, start = (a : Int) := ⟨start.toNat, by omega⟩
  obtain ⟨j, rfl⟩ : ∃ j : Nat, v3 = (j : Int) := ⟨v3.toNat, by omega⟩
  have hj : j < 6 := by omega
  refine forK_inv (I := fun k ρ1 h1 => ∃ (fs : List Str) (S' : List (Key × Da)) (x8 x9 : Option Vl), ρ1 = [some (.r n), some (.d (.int (m : Int))), some (.d (.str LET)), some (.d (.int (a : Int))), some (.d (.int (s : Int))), some (.d (.str (cutS "zebra" none (some (j : Int))))), some (.d (.int way)), some (.r h.length), x8, x9] ∧ h1 = (h ++ [some (Ob.lst (fs.map PyData.str))]).set n (some (Ob.dct S')) ∧ Dk S' ∧ fs.length = k ∧ ∀ i x, fs[i]? = some x → lnB x = true ∧ kf way x = some (97 + (a + s * i) % 26)) ?_ ?_ ?_
  · refine ⟨[], S4, none, none, ?_, ?_, st4, rfl, nofun⟩
    · rw [List.length_set]
      rfl
    · rw [set_app hn]
      rfl
  · rintro k d ρ1 h1 ed ⟨fs, S', x8, x9, rfl, rfl, st', fl, hf⟩
    obtain ⟨hk, rfl⟩ := rng_getI ed
    have hn2 : n < (h ++ [some (Ob.lst (fs.map PyData.str))]).length := by rw [List.length_append]; omega
    have bk : Bd 64 (k : Int) := bd_nat (Nat.lt_trans (show k < 100 by omega) (by decide))
    have ht : (a + s * k) % 26 < 26 := Nat.mod_lt _ (by decide)
    walk_at "w"
    unfold bl__law_names_1
    walk_at "w"
    rw [show ((a : Int) + (s : Int) * (k : Int)) % 26 = (((a + s * k) % 26 : Nat) : Int) by rw [Int.natCast_emod, Int.natCast_add, Int.natCast_mul]; rfl]
    refine wo_ixS (c := 97 + (a + s * k) % 26) (by decide +kernel) (by rw [Int.toNat_natCast]; exact let_get _ ht) (by omega) ?_
    walk_at "w"
    · rename_i hw v S5 v0 v1 vb st5
      subst hw
      obtain ⟨i, rfl⟩ : ∃ i : Nat, v = (i : Int) := ⟨v.toNat, by omega⟩
      have hi : i < 6 := by omega
      refine wo_slS (by decide +kernel) ?_
      walk_at "w"
      refine wo_addS (a := sg (97 + (a + s * k) % 26)) (by have := lcA i hi; have : (sg (97 + (a + s * k) % 26)).length = 1 := rfl; omega) ?_
      walk_at "w"
      refine ⟨fs ++ [sg (97 + (a + s * k) % 26) ++ cutS "maple" none (some (i : Int))], S5, _, _, rfl, by rw [List.map_append]; rfl, st5, by simp [fl], get_snoc fl hf (lnA _ ht i hi)⟩
    · rename_i hw
      have hw : way = 1 := by omega
      subst hw
      refine wo_addS (b := sg (97 + (a + s * k) % 26)) (by have := lcC j hj; have : (sg (97 + (a + s * k) % 26)).length = 1 := rfl; omega) ?_
      walk_at "w"
      refine ⟨fs ++ [cutS "zebra" none (some (j : Int)) ++ sg (97 + (a + s * k) % 26)], S', _, _, rfl, by rw [List.map_append]; rfl, st', by simp [fl], get_snoc fl hf (lnC _ ht j hj)⟩
  · rintro ρ1 h1 ⟨fs, S', x8, x9, rfl, rfl, st', fl, hf⟩
    have fl : fs.length = m := by
      rw [fl]
      unfold rngD
      simp
    walk_at "w"
    refine q fs S' fl (nodup_kf hs (by omega) fun i x e => (hf i x e).2) (fun x hx => ?_) st'
    obtain ⟨i, hi⟩ := List.mem_iff_getElem?.mp hx
    exact (hf i x hi).1
theorem wp_constant (st : Dk S) (hn : n < h.length)
    (q : ∀ (r : Rat) (S' : List (Key × Da)), Sm r → Dk S' → Q (.d (Rk.Q r)) (h.set n (some (Ob.dct S')))) :
    Wp (m__law_constant [.r n] (h.set n (some (Ob.dct S)))) Q E := by
  refine en__law_constant ?_
  unfold b__law_constant
  walk_at "w"
  · rename_i v1 S1 a0 a1 ab st1 v2 S2 b0 b1 bb st2 v3 S3 c0 c1 cb st3 hz v4 S4 d0 d1 db st4
    have p20 : (10 : Int) ^ 20 = 100000000000000000000 := by decide
    have p9 : (10 : Int) ^ 9 = 1000000000 := by decide
    rw [p9] at d1
    rw [p20]
    refine wp_lshare (n := 201) (by omega) (bd_lit (2 ^ 200) (by omega) (by omega) (by decide)) (by decide) ?_
    walk_at "w"
    exact q _ _ (sm_divInt (by omega) (le600 (k := 30) (by omega) (by decide)) (le600 (k := 2) (by omega) (by decide))) ‹_›
  · rename_i v1 S1 a0 a1 ab st1 v2 S2 b0 b1 bb st2 v3 S3 c0 c1 cb st3 hz
    refine wp_lshare (n := 201) (by omega) (bd_lit (2 ^ 200) (by omega) (by omega) (by decide)) (by decide) ?_
    walk_at "w"
    exact q _ _ (sm_divInt (by omega) (le600 (k := 2) (by omega) (by decide)) (le600 (k := 2) (by omega) (by decide))) ‹_›
local macro_rules | `(tactic| walk_at "wc") => `(tactic| (apply wp_constant; assumption; assumption; intro _ _ _ _))
def WRD : List Str := ["plus", "less", "times", "over", "turned", "size", "least", "most", "pick", "number"]
def CNT : List Nat := [2, 2, 2, 2, 1, 1, 2, 2, 4]
def wk9B (v : Nat) : Bool := match WRD[v]?, CNT[v]? with
  | some w, some c => (match seek d_WANTS w with | some (.int n) => decide (n = (c : Nat) ∧ c ≤ 4) | _ => false)
  | _, _ => false
theorem wk9 {v : Nat} (hv : v < 9) : ∃ w c, WRD[v]? = some w ∧ CNT[v]? = some c ∧ seek d_WANTS w = some (.int (c : Nat)) ∧ c ≤ 4 := by
  have all : ∀ v < 9, wk9B v = true := by decide +kernel
  have e := all v hv
  unfold wk9B at e
  split at e
  · rename_i w c e1 e2
    split at e
    · rename_i n e3
      have e4 := of_decide_eq_true e
      exact ⟨w, c, e1, e2, by rw [e3, e4.1], e4.2⟩
    · cases e
  · cases e
theorem names_ly' {ns : List Str} (nm : ∀ x ∈ ns, isNm x = true) : Ly true 1 (.list (ns.map PyData.str)) := Ly.lst (names_ly fun x hx => isNm_ok (nm x hx))
theorem wp_work (st : Dk S) (hn : n < h.length) {ns : List Str} (nm : ∀ x ∈ ns, isNm x = true) (hl : ns.length ≤ 100)
    (q : ∀ (w : Work) (S' : List (Key × Da)), w.Ok ns → Dk S' → Q (.d w.da) (h.set n (some (Ob.dct S')))) :
    Wp (m__law_work [.r n, .d (.list (ns.map PyData.str))] (h.set n (some (Ob.dct S)))) Q E := by
  have num : ∀ (r : Rat) (S' : List (Key × Da)), Sm r → Dk S' → Q (.d (.tuple [.str "number", Rk.Q r])) (h.set n (some (Ob.dct S'))) := fun r S' sm st => q (.num r) S' sm st
  refine en__law_work ?_
  unfold b__law_work
  cases ns with
  | nil =>
    rw [List.map_nil]
    walk_at "w"
    rename_i r S' sm st'
    exact num r S' sm st'
  | cons x0 xr =>
    have hl0 : 1 ≤ (x0 :: xr).length := by rw [List.length_cons]; omega
    generalize hns : x0 :: xr = ns at *
    have ln : (ns.map PyData.str).length = ns.length := List.length_map ..
    walk_at "w"
    refine wo_neNo (y := .list []) (names_ly' nm) (Ly.lst .nil) (by decide) (by decide) (by rw [← hns]; nofun) ?_
    walk_at "w"
    · rename_i hz r S' sm st'
      exact num r S' sm st'
    · rename_i v S1 a0 a1 ab st1 hz
      obtain ⟨v, rfl⟩ : ∃ u : Nat, v = (u : Int) := ⟨v.toNat, by omega⟩
      obtain ⟨w, c, e1, e2, e3, e4⟩ := wk9 (v := v) (by omega)
      refine wo_ixLF (v := .int (c : Nat)) (show (CNT.map fun c => PyData.int (c : Nat))[v]? = _ by rw [List.getElem?_map, e2]; rfl) ?_
      walk_at "w"
      refine wo_iyL rfl (wo_ixLF (v := .str w) (show (WRD.map PyData.str)[v]? = _ by rw [List.getElem?_map, e1]; rfl) ?_)
      walk_at "w"
      refine wp_lcU (by walk_at "wipe") ?_
      walk_at "w"
      refine ⟨rfl, rfl, ?_⟩
      refine lck_inv (I := fun j acc hb => ∃ (xs : List Str) (S' : List (Key × Da)), acc = xs.map PyData.str ∧ xs.length = j ∧ (∀ x ∈ xs, x ∈ ns) ∧ hb = h.set n (some (Ob.dct S')) ∧ Dk S') ⟨[], S1, rfl, rfl, nofun, rfl, st1⟩ ?_ ?_ ?_ ?_
      · rintro k acc hb ⟨rows, S', _, _, _, rfl, _⟩
        rw [List.length_set, List.length_set]
      · unfold rngD
        simp
        omega
      · rintro j d acc hb ed ⟨xs, S', rfl, rl, ro, rfl, st8⟩ hj
        obtain ⟨hj2, rfl⟩ := rng_getI ed
        walk_at "w"
        rename_i v' S4 d0 d1 d2 d3
        refine wo_menu (fun d => ∃ x, x ∈ ns ∧ PyData.str x = d) d0 d1 (fun d hd => List.mem_map.mp hd) ?_
        rintro _ ⟨x, hx, rfl⟩
        rw [set_app hn]
        refine ⟨.str x, _, rfl, rfl, xs ++ [x], S4, by rw [List.map_append]; rfl, by rw [List.length_append, rl]; rfl, fun y hy => ?_, rfl, d3⟩
        rcases List.mem_append.mp hy with z | z
        · exact ro y z
        · rw [List.mem_singleton] at z
          rw [z]
          exact hx
      rintro acc hb ⟨xs, S', rfl, rl, ro, rfl, st8⟩ _
      have rl : xs.length = c := by
        rw [rl]
        unfold rngD
        simp
      have lx : (xs.map PyData.str).length ≤ 4 := by rw [List.length_map]; omega
      walk_at "w"
      exact q (.op w xs) S' ⟨by rw [rl]; exact e3, ro⟩ st8
end

/-! programs that are drawn; the law's run -/
section
variable {h : Hh} {Q : Vl → Hh → Prop} {E : XP} {n : Nat} {S : List (Key × Da)}
local macro_rules | `(tactic| walk_at "wc") => `(tactic| (apply wp_take; assumption; assumption; exact (by first | omega | decide); exact (by first | omega | decide); intro _ _ _ _ _ _))
theorem wp_program (st : Dk S) (hn : n < h.length) {mi mr : Int} (i0 : 0 ≤ mi) (i3 : mi ≤ 3) (r1 : 1 ≤ mr) (r7 : mr ≤ 7)
    (q : ∀ (p : Prg) (S' : List (Key × Da)), p.Ok → p.ins.length ≤ 3 → Dk S' → Q (.d p.da) (h.set n (some (Ob.dct S')))) :
    Wp (m__law_program [.r n, .d (.int mi), .d (.int mr)] (h.set n (some (Ob.dct S)))) Q E := by
  refine en__law_program ?_
  unfold b__law_program
  walk_at "w"
  rename_i ins S1 a0 a1 ab st1 v S2 b0 b1 bb st2
  obtain ⟨ins, rfl⟩ : ∃ z : Nat, ins = (z : Int) := ⟨ins.toNat, by omega⟩
  obtain ⟨v, rfl⟩ : ∃ z : Nat, v = (z : Int) := ⟨v.toNat, by omega⟩
  have hi : ins ≤ 3 := by omega
  have hv : v < 7 := by omega
  rw [show (ins : Int) + (1 + (v : Int)) = ((ins + (1 + v) : Nat) : Int) by omega]
  refine wp_names st2 hn (by omega) fun fs S3 fl nd nm st3 => ?_
  walk_at "w"
  rw [show (1 + (v : Int)) = ((1 + v : Nat) : Int) by omega]
  refine forK_inv (I := fun j ρ1 h1 => ∃ (rows : List (Str × Work)) (S' : List (Key × Da)) (x7 : Option Vl), ρ1 = [some (.r n), some (.d (.int mi)), some (.d (.int mr)), some (.d (.int (ins : Int))), some (.d (.int ((1 + v : Nat) : Int))), some (.d (.list (fs.map PyData.str))), some (.r h.length), x7] ∧ h1 = (h ++ [some (Ob.lst (rows.map fun r => .tuple [.str r.1, r.2.da]))]).set n (some (Ob.dct S')) ∧ Dk S' ∧ rows.length = j ∧ ∀ i r, rows[i]? = some r → fs[ins + i]? = some r.1 ∧ r.2.Ok (fs.take (ins + i))) ?_ ?_ ?_
  · refine ⟨[], S3, none, ?_, ?_, st3, rfl, nofun⟩
    · rw [List.length_set]
    · rw [set_app hn]
      rfl
  · rintro j d ρ1 h1 ed ⟨rows, S', x7, rfl, rfl, st', rl, ro⟩
    obtain ⟨hk, rfl⟩ := rng_getI ed
    have hn2 : n < (h ++ [some (Ob.lst (rows.map fun r => .tuple [.str r.1, r.2.da]))]).length := by rw [List.length_append]; omega
    walk_at "w"
    unfold bl__law_program_1
    walk_at "w"
    rw [show (ins : Int) + (j : Int) = ((ins + j : Nat) : Int) by omega]
    obtain ⟨x, ex⟩ : ∃ x, fs[ins + j]? = some x := ⟨_, List.getElem?_eq_getElem (by omega)⟩
    refine wo_iyL rfl (wo_ixLF (v := .str x) (by rw [List.getElem?_map, ex]; rfl) ?_)
    walk_at "w"
    rw [show cutD (fs.map PyData.str) none (some ((ins : Int) + (j : Int))) = (fs.take (ins + j)).map PyData.str by rw [show (ins : Int) + (j : Int) = ((ins + j : Nat) : Int) by omega, cut_to, List.map_take]]
    refine wp_work st' hn2 (fun y hy => lnB_nm (nm y (List.mem_of_mem_take hy))) (by rw [List.length_take]; omega) fun w S8 wk st9 => ?_
    walk_at "w"
    refine ⟨rows ++ [(x, w)], S8, _, rfl, by rw [List.map_append]; rfl, st9, by simp [rl], get_snoc rl ro ⟨ex, wk⟩⟩
  · rintro ρ1 h1 ⟨rows, S', x7, rfl, rfl, st', rl, ro⟩
    have rl : rows.length = 1 + v := by
      rw [rl]
      unfold rngD
      simp
      omega
    walk_at "w"
    rw [show cutD (fs.map PyData.str) none (some (ins : Int)) = (fs.take ins).map PyData.str by rw [cut_to, List.map_take]]
    have enm : fs.take ins ++ rows.map (·.1) = fs := by
      apply List.ext_getElem?
      intro i
      by_cases e : i < ins
      · rw [List.getElem?_append_left (by rw [List.length_take]; omega), List.getElem?_take_of_lt e]
      · rw [List.getElem?_append_right (by rw [List.length_take]; omega), List.length_take, show min ins fs.length = ins by omega, List.getElem?_map]
        cases er : rows[i - ins]? with
        | none =>
          rw [List.getElem?_eq_none_iff] at er
          exact (List.getElem?_eq_none_iff.mpr (by omega)).symm
        | some r =>
          have := (ro _ _ er).1
          rw [show ins + (i - ins) = i by omega] at this
          rw [this]
          rfl
    refine q ⟨fs.take ins, rows⟩ S' ?_ (by dsimp only; rw [List.length_take]; omega) st'
    refine ⟨by dsimp only; rw [List.length_take]; omega, by dsimp only; omega, by dsimp only; omega, by dsimp only; rw [enm]; exact nd, by dsimp only; rw [enm]; exact fun x hx => lnB_nm (nm x hx), fun i r hr => ?_⟩
    have h1 := (ro i r hr).2
    have e2 : fs.take ins ++ (rows.take i).map (·.1) = fs.take (ins + i) := by
      have := congrArg (List.take (ins + i)) enm
      rw [List.take_append, List.take_of_length_le (by rw [List.length_take]; omega), List.length_take, show ins + i - min ins fs.length = i by omega, ← List.map_take] at this
      exact this
    dsimp only
    rw [e2]
    exact h1
end

/-! the law's run (k17) -/
section
variable {h : Hh} {Q : Vl → Hh → Prop} {E : XP} {p : Prg} {rs : List Rat}
theorem big_iff {v : Rat} : ((10 ^ 60 : Int) ^ 10 < (v.num.natAbs : Int) ∨ (10 ^ 60 : Int) ^ 10 < (v.den : Int)) ↔ (10 ^ 600 < v.num.natAbs ∨ 10 ^ 600 < v.den) := by
  have e : (10 ^ 60 : Int) ^ 10 = ((10 ^ 600 : Nat) : Int) := by rw [← Int.pow_mul, Int.natCast_pow]; rfl
  rw [e, Int.ofNat_lt, Int.ofNat_lt]
theorem wp_lrun (ok : p.Ok) (hl : p.ins.length = rs.length) (hb : ∀ r ∈ rs, BQ 2000 r)
    (q1 : ∀ xs, p.run id rs = .told xs → Q (.d (.list (xs.map Rk.Q))) h) (q2 : ∀ k : Nat, p.run id rs = .nought k → Q (.d (.tuple [.str "nought", .int (k : Nat)])) h) (q3 : p.run id rs = .great → Q (.d (.tuple [.str "great"])) h) :
    Wp (m__law_run [.d p.da, .d (.tuple (rs.map Rk.Q))] h) Q E := by
  have ni : p.ins.Nodup := (List.nodup_append.mp ok.nd).1
  have r40 := ok.r40
  refine en__law_run ?_
  unfold b__law_run
  rw [da_rows]
  walk_at "w"
  refine wo_dzT (by rw [List.length_map]; exact hl) ?_
  walk_at "w"
  rw [mapIdx_map']
  refine forK_inv (I := fun k ρ1 h1 => ∃ kds acc g a4 a5 a6 a7, ρ1 = [some (.d (.tuple [.tuple (p.ins.map PyData.str), .tuple (p.rows.map fun r => .tuple [.str r.1, r.2.da])])), some (.d (.tuple (rs.map Rk.Q))), some (.r h.length), some (.r (h.length + 1)), a4, a5, a6, a7] ∧
      h1 = h ++ [some (.dct kds)] ++ [some (.lst (acc.map Rk.Q))] ∧ kds.length ≤ 6 + k ∧ Kn kds (p.nms k) g ∧ acc.length = k ∧ goG id (p.rows.drop k) k g acc = p.run id rs) ?_ ?_ ?_
  · refine ⟨_, [], _, none, none, none, none, ?_, rfl, ?_, ?_, rfl, rfl⟩
    · rw [List.length_append]
      rfl
    · refine Nat.le_trans (fold_len _ _) ?_
      have := ok.i6
      rw [List.length_zip, List.length_map, List.length_map, List.length_nil]
      omega
    · unfold Prg.nms
      rw [List.take_zero, List.map_nil, List.append_nil]
      exact kn_zip ni hl hb
  · rintro k d ρ1 h1 ed ⟨kds, acc, g, a5, a6, a7, a8, rfl, rfl, kl, K, al, eg⟩
    rw [List.getElem?_mapIdx] at ed
    cases er : p.rows[k]? with
    | none => rw [er] at ed; cases ed
    | some r =>
      rw [er] at ed
      cases ed
      have hk : k < p.rows.length := (List.getElem?_eq_some_iff.mp er).1
      walk_at "w"
      unfold bl__law_run_1
      walk_at "w"
      refine wp_lexact (ok.wk k r er) (by simp) K ?_
      walk_at "w"
      have e2 : p.rows.drop k = r :: p.rows.drop (k + 1) := by
        obtain ⟨hk, e⟩ := List.getElem?_eq_some_iff.mp er
        rw [List.drop_eq_getElem_cons hk, e]
      rw [e2] at eg
      have tk : ∀ {o1 o2 : Option Ob} {x : Da}, Q (.d x) h → RetK h.length Q (.d x) (h ++ [o1] ++ [o2]) := fun qx => by
        rw [List.append_assoc]
        exact retK_d' rfl qx
      cases ev : valW g r.2 with
      | none =>
        have eg : p.run id rs = .nought k := by
          rw [← eg, goG, ev]
        show Wo (gIsN (.d .none) (.d .none) _) _
        walk_at "w"
        exact tk (q2 k eg)
      | some u =>
        have bu : BQ 4002 u := valW_bq K (ok.wk k r er) ev
        rw [goG, ev] at eg
        dsimp only [id] at eg
        rw [show oQ (some u) = Rk.Q u from rfl]
        walk_at "w"
        · rename_i hc
          have gg := big_iff.mp (Or.inl hc)
          rw [if_pos gg] at eg
          exact tk (q3 eg.symm)
        · rename_i hc0 hc
          have gg := big_iff.mp (Or.inr hc)
          rw [if_pos gg] at eg
          exact tk (q3 eg.symm)
        · rename_i hc0 hc
          have ng : ¬ (10 ^ 600 < u.num.natAbs ∨ 10 ^ 600 < u.den) := fun z => (big_iff.mpr z).elim hc0 hc
          rw [if_neg ng] at eg
          have e0 : (h ++ [some (Ob.dct kds)] ++ [some (Ob.lst (acc.map Rk.Q))])[h.length]? = some (some (.dct kds)) := by simp
          refine ⟨_, set_of (kds' := putD kds (.inr r.1) (Rk.Q u)) e0 rfl (by omega), ?_⟩
          rw [show (h ++ [some (Ob.dct kds)] ++ [some (Ob.lst (acc.map Rk.Q))]).set h.length (some (.dct (putD kds (.inr r.1) (Rk.Q u)))) = h ++ [some (Ob.dct (putD kds (.inr r.1) (Rk.Q u)))] ++ [some (Ob.lst (acc.map Rk.Q))] by simp]
          walk_at "w"
          refine ⟨putD kds (.inr r.1) (Rk.Q u), acc ++ [u], fun y => if y = r.1 then u else g y, some (.d (.int (k : Nat))), some (.d (.str r.1)), some (.d r.2.da), some (.d (Rk.Q u)), rfl, by rw [List.map_append]; rfl, ?_, ?_, by simp [al], eg⟩
          · exact Nat.le_trans put_len (by omega)
          · have := kn_put (x := r.1) K (bq_small ng)
            have en : p.nms (k + 1) = p.nms k ++ [r.1] := by
              unfold Prg.nms
              rw [List.take_add_one, er]
              simp
            rw [en]
            exact this
  · rintro ρ1 h1 ⟨kds, acc, g, a5, a6, a7, a8, rfl, rfl, kl, K, al, eg⟩
    rw [List.length_mapIdx, List.drop_length] at eg
    walk_at "w"
    refine ws_frzE (h := h ++ [some (Ob.dct kds)]) (l := []) (by simp) rfl ?_
    walk_at "w"
    rw [List.append_assoc]
    exact retK_d' rfl (q1 acc eg.symm)
def Res.da : Res → Da
  | .told xs => .tuple [.str "told", .tuple (xs.map Rk.Q)]
  | .nought k => .tuple [.str "nought", .int (k : Nat)]
  | .great => .tuple [.str "great"]
theorem wp_ldue (ok : p.Ok) (hl : p.ins.length = rs.length) (hb : ∀ r ∈ rs, BQ 2000 r) (q : Q (.d (p.run id rs).da) h) : Wp (m__law_due [.d p.da, .d (.tuple (rs.map Rk.Q))] h) Q E := by
  refine en__law_due ?_
  unfold b__law_due
  walk_at "w"
  refine wp_lrun ok hl hb (fun xs e => ?_) (fun k e => ?_) (fun e => ?_)
  · rw [e] at q
    walk_at "w"
    exact q
  · rw [e] at q
    walk_at "w"
    exact q
  · rw [e] at q
    walk_at "w"
    exact q
end

/-! what is told of a deed -/
section
variable {d : Deed} {h : Hh} {Q : Vl → Hh → Prop} {E : XP}
theorem wp_told_t {x : Da} (hT : Wp (d.T h) (fun v h1 => v = .d x ∧ h1 = h) (fun _ _ _ => False)) (q : Q (.d (.tuple [.str "told", x])) h) : Wp (m__law_told d [.f d.D] h) Q E := by
  refine en__law_told ?_
  unfold b__law_told
  walk_at "w"
  refine wp_deed rfl ?_
  refine hT.mono ?_ (fun _ _ _ z => z.elim)
  rintro v h1 ⟨rfl, rfl⟩
  walk_at "w"
  exact q
theorem wp_told_g (hT : Wp (d.T h) (fun _ _ => False) (fun c fs h1 => c = "TooGreat" ∧ fs = ([] : List (Str × Da)) ∧ h1 = h)) (q : Q (.d (.tuple [.str "great"])) h) : Wp (m__law_told d [.f d.D] h) Q E := by
  refine en__law_told ?_
  unfold b__law_told
  walk_at "w"
  refine wp_deed rfl ?_
  refine hT.mono (fun v h1 e => e.elim) ?_
  rintro c fs h1 ⟨rfl, rfl, rfl⟩
  walk_at "w"
  refine wp_lcT [(("nought" : Str), false), ("great", true), ("input", false), ("program", false), ("ruler", false), ("box", false), ("asked", false), ("mark", false), ("other", false)] (fun p => .tuple [.str p.1, .bool p.2]) (fun p => .str p.1) (fun p => p.2) (by walk_at "wipe") ?_
  walk_at "w"
  refine ⟨rfl, by decide, rfl, fun p hp h' => ?_, ?_⟩
  · obtain ⟨a, b⟩ := p
    dsimp only
    walk_at "w"
    refine ⟨rfl, ?_, fun _ => ?_⟩
    · walk_at "w"
      exact ⟨rfl, rfl⟩
    · walk_at "w"
      exact ⟨rfl, rfl⟩
  walk_at "w"
  refine wo_eq (v := .d (.bool false)) (h' := h1 ++ [none]) (by kernel_rfl) ?_
  walk_at "w"
  exact q
theorem wp_told_n {k : Int} (hT : Wp (d.T h) (fun _ _ => False) (fun c fs h1 => c = "ByNought" ∧ fs = ([(("row" : Str), .int k)] : List (Str × Da)) ∧ h1 = h)) (q : Q (.d (.tuple [.str "nought", .int k])) h) : Wp (m__law_told d [.f d.D] h) Q E := by
  refine en__law_told ?_
  unfold b__law_told
  walk_at "w"
  refine wp_deed rfl ?_
  refine hT.mono (fun v h1 e => e.elim) ?_
  rintro c fs h1 ⟨rfl, rfl, rfl⟩
  walk_at "w"
  refine wp_lcT [(("nought" : Str), true), ("great", false), ("input", false), ("program", false), ("ruler", false), ("box", false), ("asked", false), ("mark", false), ("other", false)] (fun p => .tuple [.str p.1, .bool p.2]) (fun p => .str p.1) (fun p => p.2) (by walk_at "wipe") ?_
  walk_at "w"
  refine ⟨rfl, by decide, rfl, fun p hp h' => ?_, ?_⟩
  · obtain ⟨a, b⟩ := p
    dsimp only
    walk_at "w"
    refine ⟨rfl, ?_, fun _ => ?_⟩
    · walk_at "w"
      exact ⟨rfl, rfl⟩
    · walk_at "w"
      exact ⟨rfl, rfl⟩
  walk_at "w"
  refine wo_eq (v := .d (.bool true)) (h' := h1 ++ [none]) (by kernel_rfl) ?_
  walk_at "w"
  refine wp_xf ?_
  walk_at "w"
  refine ⟨_, _, .int k, rfl, by decide +kernel, rfl, ?_⟩
  walk_at "w"
  exact q
end

/-! programs by hand -/
section
variable {h : Hh} {Q : Vl → Hh → Prop}
theorem wo_iyS {z : Str} {a : Int} (w : Wo (gIx (.d (.str z)) (.d (.int a)) h) Q) : Wo (gIy (.d (.str z)) (.d (.int a)) h) Q := w
theorem wo_ixRl {n : Nat} {ds : List Da} {v : Da} (e : h[n]? = some (some (Ob.lst (ds ++ [v])))) (q : Q (.d v) h) : Wo (gIx (.r n) (.d (.int (-1))) h) Q :=
  wo_eq (v := .d v) (h' := h) (by
    unfold gIx asL
    dsimp only
    rw [e]
    dsimp only
    rw [show (-1 : Int) = (-((1 : Nat) : Int)) from rfl, atI_neg (v := v) (by decide) (by simp) (by simp)]
    rfl) q
end
/-- a row, then rows each of which tells the one ahead twice -/
def chn (nm : Nat → Str) (w : Nat → Str) (w0 : Work) : Nat → List (Str × Work)
  | 0 => [(nm 0, w0)]
  | k + 1 => chn nm w w0 k ++ [(nm (k + 1), .op (w k) [nm k, nm k])]
theorem chn_len {nm : Nat → Str} {w : Nat → Str} {w0 : Work} : ∀ k, (chn nm w w0 k).length = k + 1
  | 0 => rfl
  | k + 1 => by rw [chn, List.length_append, chn_len k]; rfl
theorem chn_names {nm : Nat → Str} {w : Nat → Str} {w0 : Work} : ∀ k, (chn nm w w0 k).map (·.1) = (List.range (k + 1)).map nm
  | 0 => rfl
  | k + 1 => by rw [chn, List.map_append, chn_names k, List.range_succ (n := k + 1), List.map_append]; rfl
theorem chn_get {nm : Nat → Str} {w : Nat → Str} {w0 : Work} : ∀ {k i : Nat} {r : Str × Work}, (chn nm w w0 k)[i]? = some r → (i = 0 ∧ r.2 = w0) ∨ ∃ j, i = j + 1 ∧ j < k ∧ r.2 = .op (w j) [nm j, nm j]
  | 0, i, r, h => by
    cases i with
    | zero => cases h; exact .inl ⟨rfl, rfl⟩
    | succ i => simp [chn] at h
  | k + 1, i, r, h => by
    rw [chn] at h
    by_cases e : i < (chn nm w w0 k).length
    · rw [List.getElem?_append_left e] at h
      rcases chn_get h with ⟨a, b⟩ | ⟨j, a, b, c⟩
      · exact .inl ⟨a, b⟩
      · exact .inr ⟨j, a, by omega, c⟩
    · rw [List.getElem?_append_right (by omega), chn_len] at h
      rw [chn_len] at e
      have e0 : i - (k + 1) = 0 := by
        have := (List.getElem?_eq_some_iff.mp h).1
        simp at this
        omega
      rw [e0] at h
      cases h
      exact .inr ⟨k, by omega, by omega, rfl⟩
theorem chn_take {nm : Nat → Str} {w : Nat → Str} {w0 : Work} {k i j : Nat} (hi : i < j) (hj : j ≤ k + 1) : nm i ∈ ((chn nm w w0 k).take j).map (·.1) := by
  rw [List.map_take, chn_names, ← List.map_take, List.take_range]
  exact List.mem_map_of_mem (List.mem_range.mpr (by omega))
theorem chn_ok {nm : Nat → Str} {w : Nat → Str} {w0 : Work} {k : Nat} (hk : k < 40) (hw : w0.Ok []) (h2 : ∀ j < k, seek d_WANTS (w j) = some (.int 2)) (nd : ((List.range (k + 1)).map nm).Nodup) (hn : ∀ x ∈ (List.range (k + 1)).map nm, isNm x = true) : (Prg.mk [] (chn nm w w0 k)).Ok := by
  refine ⟨by simp, by dsimp only; rw [chn_len]; omega, by dsimp only; rw [chn_len]; omega, ?_, ?_, ?_⟩
  · dsimp only
    rw [List.nil_append, chn_names]
    exact nd
  · dsimp only
    rw [List.nil_append, chn_names]
    exact hn
  · intro i r hr
    dsimp only at hr ⊢
    rw [List.nil_append]
    rcases chn_get hr with ⟨rfl, e⟩ | ⟨j, rfl, hj, e⟩
    · rw [e]
      exact hw
    · rw [e]
      refine ⟨h2 j hj, fun x hx => ?_⟩
      have : x = nm j := by simpa using hx
      rw [this]
      exact chn_take (by omega) (by omega)
def nmA : Nat → Str
  | 0 => "s"
  | k + 1 => "t" ++ sg (97 + k)
def nmB : Nat → Str
  | 0 => "s"
  | k + 1 => "t" ++ sg (97 + k / 10) ++ sg (97 + k % 10)
def nmZ (k : Nat) : Str := "z" ++ sg (97 + k / 10) ++ sg (97 + k % 10)
def wB (k : Nat) : Str := if k % 4 = 0 then "plus" else if k % 4 = 1 then "most" else if k % 4 = 2 then "plus" else "least"
theorem nmA_nd : ((List.range 12).map nmA).Nodup := by decide +kernel
theorem nmA_nm : ∀ x ∈ (List.range 12).map nmA, isNm x = true := by decide +kernel
theorem nmB_nd : ((List.range 40).map nmB).Nodup := by decide +kernel
theorem nmB_nm : ∀ x ∈ (List.range 40).map nmB, isNm x = true := by decide +kernel
theorem nmZ_nd : ((List.range 40).map nmZ).Nodup := by decide +kernel
theorem nmZ_nm : ∀ x ∈ (List.range 40).map nmZ, isNm x = true ∧ lnB x = false := by decide +kernel
theorem wB_2 {j : Nat} : seek d_WANTS (wB j) = some (.int 2) := by
  unfold wB
  split
  · kernel_rfl
  · split
    · kernel_rfl
    · split <;> kernel_rfl
def rowsZ (I : List Str) (k : Nat) : List (Str × Work) := (List.range k).map fun j => (nmZ j, .op "plus" [I.getD (j % 6) "", I.getD (5 - j % 6) ""])
theorem rowsZ_names {I : List Str} {k : Nat} : (rowsZ I k).map (·.1) = (List.range k).map nmZ := by
  unfold rowsZ
  rw [List.map_map]
  rfl
theorem getD_mem {I : List Str} {j : Nat} (h : j < I.length) : I.getD j "" ∈ I := by
  rw [List.getD_eq_getElem?_getD, List.getElem?_eq_getElem h]
  exact List.getElem_mem _
theorem rowsZ_ok {I : List Str} (h6 : I.length = 6) (nd : I.Nodup) (nm : ∀ x ∈ I, lnB x = true) : (Prg.mk I (rowsZ I 40)).Ok := by
  refine ⟨by dsimp only; omega, by dsimp only [rowsZ]; simp, by dsimp only [rowsZ]; simp, ?_, ?_, ?_⟩
  · dsimp only
    rw [rowsZ_names, List.nodup_append]
    refine ⟨nd, nmZ_nd, fun a ha b hb e => ?_⟩
    subst e
    have := nm a ha
    rw [(nmZ_nm a hb).2] at this
    cases this
  · dsimp only
    rw [rowsZ_names]
    intro x hx
    rcases List.mem_append.mp hx with z | z
    · exact lnB_nm (nm x z)
    · exact (nmZ_nm x z).1
  · intro i r hr
    dsimp only [rowsZ] at hr ⊢
    rw [List.getElem?_map] at hr
    cases e : (List.range 40)[i]? with
    | none => rw [e] at hr; cases hr
    | some j =>
      rw [e] at hr
      cases hr
      refine ⟨by kernel_rfl, fun x hx => List.mem_append.mpr (.inl ?_)⟩
      simp only [List.mem_cons, List.not_mem_nil, or_false] at hx
      rcases hx with rfl | rfl
      · exact getD_mem (by omega)
      · exact getD_mem (by omega)
theorem zaa_ok {I : List Str} (h6 : I.length = 6) (nd : I.Nodup) (nm : ∀ x ∈ I, lnB x = true) : (Prg.mk I [("zaa", .op "over" [I.getD 0 "", I.getD 1 ""])]).Ok := by
  refine ⟨by dsimp only; omega, by simp, by simp, ?_, ?_, ?_⟩
  · dsimp only
    rw [List.nodup_append]
    refine ⟨nd, by simp, fun a ha b hb e => ?_⟩
    subst e
    have hb : a = "zaa" := by simpa using hb
    have := nm a ha
    rw [hb] at this
    exact absurd this (by decide +kernel)
  · dsimp only
    intro x hx
    rcases List.mem_append.mp hx with z | z
    · exact lnB_nm (nm x z)
    · have z : x = "zaa" := by simpa using z
      rw [z]
      decide +kernel
  · intro i r hr
    cases i with
    | succ i => simp at hr
    | zero =>
      cases hr
      refine ⟨by kernel_rfl, fun x hx => List.mem_append.mpr (.inl ?_)⟩
      simp only [List.mem_cons, List.not_mem_nil, or_false] at hx
      rcases hx with rfl | rfl
      · exact getD_mem (I := I) (by omega)
      · exact getD_mem (I := I) (by omega)
/-- a program with its numbers -/
def Gd (d : Da) : Prop := ∃ (p : Prg) (rs : List Rat), d = .tuple [p.da, .tuple (rs.map Rk.Q)] ∧ p.Ok ∧ p.ins.length = rs.length ∧ ∀ r ∈ rs, Sm r

/-! programs by hand: the walk -/
theorem abc_get : ∀ j < 12, ("abcdefghijkl" : Str).cps.toList[j]? = some (97 + j) := by decide +kernel
theorem abd_get : ∀ j < 4, ("abcd" : Str).cps.toList[j]? = some (97 + j) := by decide +kernel
theorem abj_get : ∀ j < 10, ("abcdefghij" : Str).cps.toList[j]? = some (97 + j) := by decide +kernel
theorem chn_last {nm : Nat → Str} {w : Nat → Str} {w0 : Work} : ∀ k, ∃ pre w', chn nm w w0 k = pre ++ [(nm k, w')]
  | 0 => ⟨[], w0, rfl⟩
  | k + 1 => ⟨_, _, rfl⟩
theorem sg_len (c : Nat) : (sg c).length = 1 := rfl
theorem app_len (a b : Str) : (a ++ b).length = a.length + b.length := Array.size_append
theorem t_len : ("t" : Str).length = 1 := by decide +kernel
theorem z_len : ("z" : Str).length = 1 := by decide +kernel
def rwD (r : Str × Work) : Da := .tuple [.str r.1, r.2.da]
section
variable {h : Hh} {Q : Vl → Hh → Prop} {E : XP} {n : Nat} {S : List (Key × Da)}
theorem get_end {H : Hh} {o x : Option Ob} {k : Nat} (hn : n < H.length) (hk : H.length = k) : ((H ++ [x]).set n o)[k]? = some x := by
  subst hk
  rw [List.getElem?_set_ne (by omega), List.getElem?_append_right (Nat.le_refl _), Nat.sub_self]
  rfl
theorem w_hand1 {H : Hh} {hl : Nat} {w0 : Work} {o : Option Ob} (hn : n < H.length) (eL : H.length = hl) {o0 o2 o3 o4 o5 o6 o7 o8 o9 : Option Vl} {N : En → Hh → Prop} {D : Ds}
    (q : ∀ o2, N [o0, some (.r hl), o2, o3, o4, o5, o6, o7, o8, o9] ((H ++ [some (Ob.lst ((chn nmA (fun _ => "times") w0 11).map rwD))]).set n o)) :
    ForK ⟨rngD 0 (11 : Int).toNat, none⟩ (gN 2) bl__law_by_hand_1 [o0, some (.r hl), o2, o3, o4, o5, o6, o7, o8, o9] ((H ++ [some (Ob.lst [.tuple [.str "s", w0.da]])]).set n o) N D := by
  subst eL
  obtain ⟨R, B, C, X⟩ := D
  refine forK_inv (I := fun k ρ1 h1 => k ≤ 11 ∧ ∃ o2, ρ1 = [o0, some (.r H.length), o2, o3, o4, o5, o6, o7, o8, o9] ∧ h1 = (H ++ [some (Ob.lst ((chn nmA (fun _ => "times") w0 k).map rwD))]).set n o) ⟨by decide, _, rfl, rfl⟩ ?_ ?_
  · rintro k d ρ1 h1 ed ⟨k11, o2, rfl, rfl⟩
    obtain ⟨hk, rfl⟩ := rng_getI (n := 11) ed
    obtain ⟨pre, w', ep⟩ := chn_last (nm := nmA) (w := fun _ => "times") (w0 := w0) k
    have eg := get_end (o := o) (x := some (Ob.lst ((chn nmA (fun _ => "times") w0 k).map rwD))) hn rfl
    rw [ep, List.map_append, List.map_singleton] at eg
    rw [show (pre.map rwD ++ [rwD (nmA k, w')]) = (pre.map rwD ++ [.tuple [.str (nmA k), w'.da]]) from rfl] at eg
    have ll : ((chn nmA (fun _ => "times") w0 k).map rwD).length < 16777216 := by rw [List.length_map, chn_len]; omega
    have e2 : pre.map rwD ++ [rwD (nmA k, w')] = (chn nmA (fun _ => "times") w0 k).map rwD := by rw [ep, List.map_append, List.map_singleton]
    walk_at "w"
    unfold bl__law_by_hand_1
    walk_at "w"
    refine wo_iyS ?_
    refine wo_ixS (c := 97 + k) (by decide +kernel) (by rw [Int.toNat_natCast]; exact abc_get k (by omega)) (by omega) ?_
    walk_at "w"
    refine wo_addS (b := sg (97 + k)) (by rw [sg_len, t_len]; decide) ?_
    walk_at "w"
    refine wo_ixRl (by rw [← e2]; exact eg) ?_
    walk_at "w"
    refine wo_ixRl (by rw [← e2]; exact eg) ?_
    walk_at "w"
    exact ⟨by omega, _, rfl, by rw [chn, List.map_append]; rfl⟩
  · rintro ρ1 h1 ⟨k11, o2, rfl, rfl⟩
    exact q o2
theorem w_hand3 {H : Hh} {hl : Nat} {w0 : Work} {o : Option Ob} (hn : n < H.length) (eL : H.length = hl) {o0 o1 o2 o3 o4 o5 o6 o7 o9 : Option Vl} {N : En → Hh → Prop} {D : Ds}
    (q : ∀ o2 o6, N [o0, o1, o2, o3, o4, o5, o6, o7, some (.r hl), o9] ((H ++ [some (Ob.lst ((chn nmB wB w0 39).map rwD))]).set n o)) :
    ForK ⟨rngD 0 (39 : Int).toNat, none⟩ (gN 2) bl__law_by_hand_3 [o0, o1, o2, o3, o4, o5, o6, o7, some (.r hl), o9] ((H ++ [some (Ob.lst [.tuple [.str "s", w0.da]])]).set n o) N D := by
  subst eL
  obtain ⟨R, B, C, X⟩ := D
  refine forK_inv (I := fun k ρ1 h1 => k ≤ 39 ∧ ∃ o2 o6, ρ1 = [o0, o1, o2, o3, o4, o5, o6, o7, some (.r H.length), o9] ∧ h1 = (H ++ [some (Ob.lst ((chn nmB wB w0 k).map rwD))]).set n o) ⟨by decide, _, _, rfl, rfl⟩ ?_ ?_
  · rintro k d ρ1 h1 ed ⟨k11, o2, o6, rfl, rfl⟩
    obtain ⟨hk, rfl⟩ := rng_getI (n := 39) ed
    obtain ⟨pre, w', ep⟩ := chn_last (nm := nmB) (w := wB) (w0 := w0) k
    have eg := get_end (o := o) (x := some (Ob.lst ((chn nmB wB w0 k).map rwD))) hn rfl
    rw [ep, List.map_append, List.map_singleton] at eg
    rw [show (pre.map rwD ++ [rwD (nmB k, w')]) = (pre.map rwD ++ [.tuple [.str (nmB k), w'.da]]) from rfl] at eg
    have ll : ((chn nmB wB w0 k).map rwD).length < 16777216 := by rw [List.length_map, chn_len]; omega
    have e2 : pre.map rwD ++ [rwD (nmB k, w')] = (chn nmB wB w0 k).map rwD := by rw [ep, List.map_append, List.map_singleton]
    walk_at "w"
    unfold bl__law_by_hand_3
    walk_at "w"
    rw [show (k : Int) / 10 = ((k / 10 : Nat) : Int) by omega]
    refine wo_ixS (c := 97 + k / 10) (by decide +kernel) (by rw [Int.toNat_natCast]; exact abd_get _ (by omega)) (by omega) ?_
    walk_at "w"
    refine wo_addS (b := sg (97 + k / 10)) (by rw [sg_len, t_len]; decide) ?_
    walk_at "w"
    rw [show (k : Int) % 10 = ((k % 10 : Nat) : Int) by omega]
    refine wo_ixS (c := 97 + k % 10) (by decide +kernel) (by rw [Int.toNat_natCast]; exact abj_get _ (by omega)) (by omega) ?_
    walk_at "w"
    refine wo_addS (b := sg (97 + k % 10)) (by rw [app_len, sg_len, sg_len, t_len]; decide) ?_
    walk_at "w"
    rw [show (k : Int) % 4 = ((k % 4 : Nat) : Int) by omega]
    refine wo_ixLF (v := .str (wB k)) (by
      unfold wB
      have : k % 4 < 4 := Nat.mod_lt _ (by decide)
      generalize k % 4 = j at this ⊢
      match j, this with
      | 0, _ => rfl
      | 1, _ => rfl
      | 2, _ => rfl
      | 3, _ => rfl) ?_
    walk_at "w"
    refine wo_ixRl (by rw [← e2]; exact eg) ?_
    walk_at "w"
    refine wo_ixRl (by rw [← e2]; exact eg) ?_
    walk_at "w"
    exact ⟨by omega, _, _, rfl, by rw [chn, List.map_append]; rfl⟩
  · rintro ρ1 h1 ⟨k11, o2, o6, rfl, rfl⟩
    exact q o2 o6
theorem rowsZ_succ {I : List Str} {k : Nat} : rowsZ I (k + 1) = rowsZ I k ++ [(nmZ k, .op "plus" [I.getD (k % 6) "", I.getD (5 - k % 6) ""])] := by
  unfold rowsZ
  rw [List.range_succ, List.map_append]
  rfl
theorem w_hand2 {H : Hh} {hl : Nat} {I : List Str} {o : Option Ob} (h6 : I.length = 6) (hn : n < H.length) (eL : H.length = hl) {o0 o1 o2 o3 o6 o7 o8 o9 : Option Vl} {N : En → Hh → Prop} {D : Ds}
    (q : ∀ o2 o6, N [o0, o1, o2, o3, some (.d (.list (I.map PyData.str))), some (.r hl), o6, o7, o8, o9] ((H ++ [some (Ob.lst ((rowsZ I 40).map rwD))]).set n o)) :
    ForK ⟨rngD 0 (40 : Int).toNat, none⟩ (gN 2) bl__law_by_hand_2 [o0, o1, o2, o3, some (.d (.list (I.map PyData.str))), some (.r hl), o6, o7, o8, o9] ((H ++ [some (Ob.lst [])]).set n o) N D := by
  subst eL
  obtain ⟨R, B, C, X⟩ := D
  refine forK_inv (I := fun k ρ1 h1 => k ≤ 40 ∧ ∃ o2 o6, ρ1 = [o0, o1, o2, o3, some (.d (.list (I.map PyData.str))), some (.r H.length), o6, o7, o8, o9] ∧ h1 = (H ++ [some (Ob.lst ((rowsZ I k).map rwD))]).set n o) ⟨by decide, _, _, rfl, rfl⟩ ?_ ?_
  · rintro k d ρ1 h1 ed ⟨k11, o2, o6, rfl, rfl⟩
    obtain ⟨hk, rfl⟩ := rng_getI (n := 40) ed
    have ll : ((rowsZ I k).map rwD).length < 16777216 := by unfold rowsZ; simp; omega
    have gI : ∀ j < 6, (I.map PyData.str)[j]? = some (.str (I.getD j "")) := fun j hj => by
      rw [List.getElem?_map, List.getD_eq_getElem?_getD, List.getElem?_eq_getElem (by omega)]
      rfl
    walk_at "w"
    unfold bl__law_by_hand_2
    walk_at "w"
    rw [show (k : Int) / 10 = ((k / 10 : Nat) : Int) by omega]
    refine wo_ixS (c := 97 + k / 10) (by decide +kernel) (by rw [Int.toNat_natCast]; exact abd_get _ (by omega)) (by omega) ?_
    walk_at "w"
    refine wo_addS (b := sg (97 + k / 10)) (by rw [sg_len, z_len]; decide) ?_
    walk_at "w"
    rw [show (k : Int) % 10 = ((k % 10 : Nat) : Int) by omega]
    refine wo_ixS (c := 97 + k % 10) (by decide +kernel) (by rw [Int.toNat_natCast]; exact abj_get _ (by omega)) (by omega) ?_
    walk_at "w"
    refine wo_addS (b := sg (97 + k % 10)) (by rw [app_len, sg_len, sg_len, z_len]; decide) ?_
    walk_at "w"
    rw [show (k : Int) % 6 = ((k % 6 : Nat) : Int) by omega]
    refine wo_ixLF (gI _ (by omega)) ?_
    walk_at "w"
    rw [show 5 - (k : Int) % 6 = ((5 - k % 6 : Nat) : Int) by omega]
    refine wo_ixLF (gI _ (by omega)) ?_
    walk_at "w"
    exact ⟨by omega, _, _, rfl, by rw [rowsZ_succ, List.map_append]; rfl⟩
  · rintro ρ1 h1 ⟨k11, o2, o6, rfl, rfl⟩
    exact q o2 o6
end

/-! programs by hand, all of them -/
section
variable {h : Hh} {Q : Vl → Hh → Prop} {E : XP} {n : Nat} {S : List (Key × Da)}
local macro_rules | `(tactic| walk_at "wc") => `(tactic| (apply wp_take; assumption; assumption; exact (by first | omega | decide); exact (by first | omega | decide); intro _ _ _ _ _ _))
local macro_rules | `(tactic| walk_at "wc") => `(tactic| (apply wp_constant; assumption; assumption; intro _ _ _ _))
theorem wp_by_hand (st : Dk S) (hn : n < h.length)
    (q : ∀ (ds : List Da) (S' : List (Key × Da)), (∀ d ∈ ds, Gd d) → ds.length = 5 → Dk S' → Q (.d (.list ds)) (h.set n (some (.dct S')))) :
    Wp (m__law_by_hand [.r n] (h.set n (some (.dct S)))) Q E := by
  refine en__law_by_hand ?_
  unfold b__law_by_hand
  walk_at "w"
  rename_i v S1 a0 a1 ab st1
  have p9 : (10 : Int) ^ 9 = 1000000000 := by decide
  rw [p9] at a1
  obtain ⟨r0, s0, e0⟩ := sm_int (a := 2 + v) (le600 (k := 10) (by omega) (by decide))
  rw [e0, ← set_app hn, List.length_set, List.length_set]
  rw [show (PyData.tuple [.str "number", Rk.Q r0]) = (Work.num r0).da from rfl]
  refine w_hand1 hn rfl fun o2 => ?_
  walk_at "w"
  have hn1 : n < (h ++ [(none : Option Ob)]).length := by rw [List.length_append]; omega
  have tk1 : ∀ (l : Hh) (o : Option Ob), ((h ++ [none] ++ l).set n o).take h.length = h.set n o := fun l o => by
    rw [List.append_assoc, set_app hn, List.take_left']
    rw [List.length_set]
  generalize h ++ [(none : Option Ob)] = H1 at hn1 tk1 ⊢
  rw [List.length_set, ← set_app hn1]
  have hn2 : ∀ l : Hh, n < (H1 ++ l).length := fun l => by rw [List.length_append]; omega
  have gX : Gd (PyData.tuple [PyData.tuple [PyData.tuple [], PyData.tuple (List.map rwD (chn nmA (fun x => "times") (Work.num r0) 11))], PyData.tuple []]) :=
    ⟨⟨[], chn nmA (fun x => "times") (.num r0) 11⟩, [], rfl, chn_ok (by decide) s0 (fun j _ => by kernel_rfl) nmA_nd nmA_nm, rfl, nofun⟩
  generalize PyData.tuple [PyData.tuple [PyData.tuple [], PyData.tuple (List.map rwD (chn nmA (fun x => "times") (Work.num r0) 11))], PyData.tuple []] = X at gX ⊢
  have hn2a := hn2 [some (Ob.lst [X])]
  refine wp_names (m := 6) st1 hn2a (by decide) fun I S2 fl nd nm st2 => ?_
  walk_at "w"
  rw [List.length_set, ← set_app hn2a]
  refine w_hand2 fl (hn2 _) rfl fun o2 o6 => ?_
  walk_at "w"
  rw [show H1 ++ [some (Ob.lst [X])] ++ [none] = H1 ++ some (Ob.lst [X]) :: [none] by rw [List.append_assoc]; rfl]
  have hn3 := hn2 (some (Ob.lst [X]) :: [none])
  refine wp_lcU (by walk_at "wipe") ?_
  walk_at "w"
  refine ⟨rfl, rfl, ?_⟩
  refine lck_inv (I := fun j acc hb => ∃ (rs : List Rat) (S' : List (Key × Da)), acc = rs.map Rk.Q ∧ rs.length = j ∧ (∀ r ∈ rs, Sm r) ∧ hb = (H1 ++ some (Ob.lst [X]) :: [none]).set n (some (.dct S')) ∧ Dk S') ⟨[], S2, rfl, rfl, nofun, rfl, st2⟩ ?_ ?_ ?_ ?_
  · rintro k acc hb ⟨rows, S', _, _, _, rfl, _⟩
    rw [List.length_set, List.length_set]
  · decide
  · rintro j d acc hb ed ⟨rs, S', rfl, rl, ro, rfl, st8⟩ hj
    obtain ⟨hj2, rfl⟩ := rng_getI (n := 6) ed
    walk_at "w"
    rename_i r S4 sr st4
    rw [set_app hn3]
    refine ⟨Rk.Q r, _, rfl, rfl, rs ++ [r], S4, by rw [List.map_append]; rfl, by rw [List.length_append, rl]; rfl, fun y hy => ?_, rfl, st4⟩
    rcases List.mem_append.mp hy with z | z
    · exact ro y z
    · rw [List.mem_singleton] at z
      rw [z]
      exact sr
  rintro acc hb ⟨rs, S3, rfl, rl, ro, rfl, st3⟩ _
  have rl : rs.length = 6 := by rw [rl]; rfl
  have gY : Gd (PyData.tuple [PyData.tuple [PyData.tuple (I.map PyData.str), PyData.tuple ((rowsZ I 40).map rwD)], PyData.tuple (rs.map Rk.Q)]) :=
    ⟨⟨I, rowsZ I 40⟩, rs, rfl, rowsZ_ok fl nd nm, by rw [fl, rl], ro⟩
  have okz := zaa_ok fl nd nm
  have gI : ∀ j < 6, (I.map PyData.str)[j]? = some (.str (I.getD j "")) := fun j hj => by
    rw [List.getElem?_map, List.getD_eq_getElem?_getD, List.getElem?_eq_getElem (by omega)]
    rfl
  generalize (rowsZ I 40).map rwD = Z at gY ⊢
  walk_at "w"
  generalize PyData.tuple [PyData.tuple [PyData.tuple (I.map PyData.str), PyData.tuple Z], PyData.tuple (rs.map Rk.Q)] = Y at gY ⊢
  have hn4 := hn2 (some (Ob.lst [X, Y]) :: [none])
  walk_at "w"
  rename_i v1 S4 b0 b1 bb st4
  refine wp_lshare (n := 201) (by decide) (bd_lit (2 ^ 200) (by omega) (by omega) (by decide)) (by decide) ?_
  walk_at "w"
  have sr1 : Sm (Rat.divInt (1 + v1) 7) := sm_divInt (by decide) (le600 (k := 2) (by omega) (by decide)) (le600 (k := 2) (by decide) (by decide))
  generalize Rat.divInt (1 + v1) 7 = r1 at sr1 ⊢
  rw [List.length_set, ← set_app hn4]
  rw [show (PyData.tuple [.str "number", Rk.Q r1]) = (Work.num r1).da from rfl]
  refine w_hand3 hn4 rfl fun o2 o6 => ?_
  walk_at "w"
  rw [show H1 ++ some (Ob.lst [X, Y]) :: [none] ++ [none] = H1 ++ some (Ob.lst [X, Y]) :: [none, none] by rw [List.append_assoc]; rfl]
  have gW : Gd (PyData.tuple [PyData.tuple [PyData.tuple [], PyData.tuple (List.map rwD (chn nmB wB (Work.num r1) 39))], PyData.tuple []]) :=
    ⟨⟨[], chn nmB wB (.num r1) 39⟩, [], rfl, chn_ok (by decide) sr1 (fun j _ => wB_2) nmB_nd nmB_nm, rfl, nofun⟩
  generalize (chn nmB wB (Work.num r1) 39).map rwD = W at gW ⊢
  have hn5 := hn2 (some (Ob.lst [X, Y]) :: [none, none])
  walk_at "w"
  generalize PyData.tuple [PyData.tuple [PyData.tuple [], PyData.tuple W], PyData.tuple []] = W1 at gW ⊢
  have hn6 := hn2 (some (Ob.lst [X, Y, W1]) :: [none, none])
  refine wo_ixLF (gI 0 (by decide)) ?_
  walk_at "w"
  refine wo_ixLF (gI 1 (by decide)) ?_
  walk_at "w"
  have lr : (rs.map Rk.Q).length = 6 := by rw [List.length_map]; exact rl
  refine wo_addT' rfl (by rw [List.length_take, List.length_singleton]; omega) ?_
  walk_at "w"
  refine wo_addT' rfl (by rw [List.length_append, List.length_take, List.length_singleton, List.length_drop]; omega) ?_
  walk_at "w"
  refine retK_any ?_
  rw [tk1]
  have gV : Gd (PyData.tuple [PyData.tuple [PyData.tuple (I.map PyData.str), PyData.tuple [PyData.tuple [PyData.str "zaa", PyData.tuple [PyData.str "over", PyData.str (I.getD 0 ""), PyData.str (I.getD 1 "")]]]], PyData.tuple (rs.map Rk.Q)]) :=
    ⟨⟨I, [("zaa", .op "over" [I.getD 0 "", I.getD 1 ""])]⟩, rs, rfl, okz, by rw [fl, rl], ro⟩
  have gU : Gd (PyData.tuple [PyData.tuple [PyData.tuple (I.map PyData.str), PyData.tuple [PyData.tuple [PyData.str "zaa", PyData.tuple [PyData.str "over", PyData.str (I.getD 0 ""), PyData.str (I.getD 1 "")]]]], PyData.tuple (List.take 1 (rs.map Rk.Q) ++ [Rk.Q 0] ++ List.drop 2 (rs.map Rk.Q))]) :=
    ⟨⟨I, [("zaa", .op "over" [I.getD 0 "", I.getD 1 ""])]⟩, rs.take 1 ++ [0] ++ rs.drop 2, by rw [List.map_append, List.map_append, List.map_take, List.map_drop]; rfl, okz, by rw [List.length_append, List.length_append, List.length_take, List.length_drop, List.length_singleton]; dsimp only; omega, fun r hr => by
      rcases List.mem_append.mp hr with z | z
      · rcases List.mem_append.mp z with z | z
        · exact ro r (List.mem_of_mem_take z)
        · rw [List.mem_singleton] at z
          rw [z]
          exact ⟨Nat.zero_le _, Nat.pow_pos (by decide)⟩
      · exact ro r (List.mem_of_mem_drop z)⟩
  refine q _ S4 ?_ ?_ st4
  · intro d hd
    simp only [List.cons_append, List.nil_append, List.mem_cons, List.not_mem_nil, or_false] at hd
    rcases hd with rfl | rfl | rfl | rfl | rfl
    · exact gX
    · exact gY
    · exact gW
    · exact gV
    · exact gU
  · rfl
end

/-! law_k17: rules for objects anywhere -/
section
variable {h : Hh} {Q : Vl → Hh → Prop} {m : Nat} {ds : List Da}
theorem wo_appR {v : Da} {es : List Da} (e : h[m]? = some (some (.lst ds))) (ee : ds ++ [v] = es) (hl : ds.length < 16777216) (q : Q (.d .none) (h.set m (some (.lst es)))) : Wo (gApp (.r m) [.d v] h) Q := by
  subst ee
  refine wo_eq (v := .d .none) (h' := h.set m (some (.lst (ds ++ [v])))) ?_ q
  have a : appL m (.d v) h = some (h.set m (some (.lst (ds ++ [v])))) := by
    unfold appL fz
    dsimp only [Option.bind]
    rw [e]
    dsimp only
    rw [if_pos (fitB_ok (by omega))]
  show (appL m (.d v) h).map _ = _
  rw [a]
  rfl
theorem wo_addR {es : List Da} (e : h[m]? = some (some (.lst ds))) (hl : ds.length + es.length ≤ 16777216) (q : Q (.r h.length) (h ++ [some (.lst (ds ++ es))])) : Wo (gAdd (.r m) (.d (.list es)) h) Q := by
  refine wo_eq (v := .r h.length) (h' := h ++ [some (.lst (ds ++ es))]) ?_ q
  unfold gAdd asL
  dsimp only
  rw [e]
  dsimp only
  rw [if_pos (fitB_ok hl)]
theorem fzk_at {i n : Nat} (e : h[i]? = some (some (.lst ds))) (q : Q (.d (.list ds)) ((h.set i none).take n)) : FzK (.r i) h n Q := ⟨.list ds, h.set i none, by unfold fz; dsimp only; rw [e], q⟩
theorem tyL_R {P : Prop} (e : h[m]? = some (some (.lst ds))) (q : P) : tyL (.r m) h = true ∧ P := ⟨by unfold tyL asL; dsimp only; rw [e]; rfl, q⟩
theorem set_same {o : Option Ob} (e : h[m]? = some o) : h.set m o = h := by
  apply List.ext_getElem?
  intro j
  by_cases z : m = j
  · subst z
    rw [List.getElem?_set_self (List.getElem?_eq_some_iff.mp e).1, e]
  · rw [List.getElem?_set_ne z]
end
theorem go_told {f : Rat → Rat} : ∀ {rows : List (Str × Work)} {k : Nat} {g : Str → Rat} {acc xs : List Rat}, goG f rows k g acc = .told xs → xs.length = acc.length + rows.length ∧ ∀ x ∈ xs, x ∈ acc ∨ Sm x
  | [], _, _, acc, xs, h => by
    cases h
    exact ⟨rfl, fun x hx => .inl hx⟩
  | r :: t, k, g, acc, xs, h => by
    unfold goG at h
    split at h
    · cases h
    · rename_i u eu
      split at h
      · cases h
      · rename_i ng
        obtain ⟨a, b⟩ := go_told h
        rw [List.length_append, List.length_singleton] at a
        refine ⟨by rw [a, List.length_cons]; omega, fun x hx => ?_⟩
        rcases b x hx with z | z
        · rcases List.mem_append.mp z with z | z
          · exact .inl z
          · rw [List.mem_singleton] at z
            rw [z]
            exact .inr ⟨Nat.not_lt.mp fun y => ng (.inl y), Nat.not_lt.mp fun y => ng (.inr y)⟩
        · exact .inr z
theorem go_nought {f : Rat → Rat} : ∀ {rows : List (Str × Work)} {k j : Nat} {g : Str → Rat} {acc : List Rat}, goG f rows k g acc = .nought j → j < k + rows.length
  | [], _, _, _, _, h => by cases h
  | r :: t, k, j, g, acc, h => by
    unfold goG at h
    rw [List.length_cons]
    split at h
    · cases h
      omega
    · split at h
      · cases h
      · have := go_nought h
        omega
theorem shw_word {x : Str} (h : x.length ≤ 20) (e : ∀ c ∈ x.cps.toList, c < 16 ^ 8) : ShW 202 0 (.str x) := (ShW.str e).mono (by omega) (by decide)
theorem res_shw {p : Prg} {f : Rat → Rat} {rs : List Rat} (ok : p.Ok) : ShW 400000 3 (p.run f rs).da := by
  have r40 := ok.r40
  cases e : p.run f rs with
  | told xs =>
    obtain ⟨a, b⟩ := go_told e
    have t : ShW _ _ (.tuple [.str "told", .tuple (xs.map Rk.Q)]) := ShW.tup (ShWs.cons (shw_word (by decide +kernel) (by decide +kernel)) (ShWs.cons (ShW.tup (ShWs.of (n := 40) (k := 9000) (e := 1) (ds := xs.map Rk.Q) (fun d hd => by
      obtain ⟨x, hx, rfl⟩ := List.mem_map.mp hd
      rcases b x hx with z | z
      · cases z
      · exact ShW.Q z.1 z.2) (by rw [List.length_map, a]; simpa using r40))) ShWs.nil))
    exact t.mono (by decide) (by decide)
  | nought k =>
    have hk := go_nought e
    have t : ShW _ _ (.tuple [.str "nought", .int (k : Nat)]) := ShW.tup (ShWs.cons (shw_word (by decide +kernel) (by decide +kernel)) (ShWs.cons (ShW.int (log2_of (k := 12900) (by rw [Int.natAbs_natCast]; exact Nat.lt_of_lt_of_le (show k < 2 ^ 6 by omega) (Nat.pow_le_pow_right (by decide) (by decide))) (by decide))) ShWs.nil))
    exact t.mono (by decide) (by decide)
  | great =>
    have t : ShW _ _ (.tuple [.str "great"]) := ShW.tup (ShWs.cons (shw_word (by decide +kernel) (by decide +kernel)) ShWs.nil)
    exact t.mono (by decide) (by decide)

/-! law_k17: the law -/
theorem wo_rvR {h : Hh} {Q : Vl → Hh → Prop} {m : Nat} {xs : List Da} (e : h[m]? = some (some (.lst xs))) (hl : xs.length ≤ 16777216) (q : Q (.r h.length) (h ++ [some (.lst xs.reverse)])) : Wo (gRv (.r m) h) Q := by
  refine wo_eq (v := .r h.length) (h' := h ++ [some (.lst xs.reverse)]) ?_ q
  have w : Wo (gRv (.d (.list xs)) h) (fun v h1 => v = .r h.length ∧ h1 = h ++ [some (.lst xs.reverse)]) := wo_rvL hl ⟨rfl, rfl⟩
  have z : gRv (.r m) h = gRv (.d (.list xs)) h := by
    unfold gRv
    dsimp only
    unfold gSt asL
    dsimp only
    rw [e]
  rw [z]
  revert w
  generalize gRv (.d (.list xs)) h = o
  intro w
  unfold Wo at w
  cases o with
  | none => exact w.elim
  | some p =>
    obtain ⟨v, h1⟩ := p
    obtain ⟨rfl, rfl⟩ := w
    rfl
section
variable {h : Hh} {N : En → Hh → Prop} {D : Ds} {n mm : Nat} {S : List (Key × Da)} {ds : List Da}
local macro_rules | `(tactic| walk_at "wc") => `(tactic| (apply wp_take; assumption; assumption; exact (by first | omega | decide); exact (by first | omega | decide); intro _ _ _ _ _ _))
local macro_rules | `(tactic| walk_at "wc") => `(tactic| (apply wp_constant; assumption; assumption; intro _ _ _ _))
theorem w_law1 {a0 a3 a4 a5 : Option Vl} (hm : h[mm]? = some (some (.lst ds))) (hn : n < h.length) (st : Dk S) (ne : n ≠ mm) (gd : ∀ d ∈ ds, Gd d) (hl : ds.length ≤ 1000)
    (q : ∀ (mm' : Nat) (ds' : List Da) (S' : List (Key × Da)) (a3 a4 : Option Vl) (h' : Hh), h'[mm']? = some (some (.lst ds')) → (∀ d ∈ ds', Gd d) → ds'.length ≤ ds.length + 6 → Dk S' → h'[n]? = some (some (.dct S')) → (∀ j, j ≠ n → j ≠ mm → j < h.length → h'[j]? = h[j]?) → (mm' = mm ∨ h.length ≤ mm') → h.length ≤ h'.length → N [a0, some (.r mm'), some (.r n), a3, a4, a5] h') :
    Ws (bl_law_1 [a0, some (.r mm), some (.r n), a3, a4, a5] (h.set n (some (.dct S)))) N D := by
  obtain ⟨R, B, C, X⟩ := D
  have lm : mm < h.length := (List.getElem?_eq_some_iff.mp hm).1
  unfold bl_law_1
  walk_at "w"
  refine wp_program st hn (by decide) (by decide) (by decide) (by decide) fun p S1 ok i3 st1 => ?_
  rw [da_rows]
  walk_at "w"
  refine tyL_R (ds := ds) (by rw [List.getElem?_set_ne ne]; exact hm) ?_
  walk_at "w"
  refine wp_lcU (by walk_at "wipe") ?_
  walk_at "w"
  refine ⟨rfl, rfl, ?_⟩
  refine lck_inv (I := fun j acc hb => ∃ (rs : List Rat) (S' : List (Key × Da)), acc = rs.map Rk.Q ∧ rs.length = j ∧ (∀ r ∈ rs, Sm r) ∧ hb = h.set n (some (.dct S')) ∧ Dk S') ⟨[], S1, rfl, rfl, nofun, rfl, st1⟩ ?_ ?_ ?_ ?_
  · rintro k acc hb ⟨rows, S', _, _, _, rfl, _⟩
    rw [List.length_set, List.length_set]
  · rw [List.length_map]
    omega
  · rintro j d acc hb ed ⟨rs, S', rfl, rl, ro, rfl, st8⟩ hj
    walk_at "w"
    rename_i r S4 sr st4
    rw [set_app hn]
    refine ⟨Rk.Q r, _, rfl, rfl, rs ++ [r], S4, by rw [List.map_append]; rfl, by rw [List.length_append, rl]; rfl, fun y hy => ?_, rfl, st4⟩
    rcases List.mem_append.mp hy with z | z
    · exact ro y z
    · rw [List.mem_singleton] at z
      rw [z]
      exact sr
  rintro acc hb ⟨rs, S2, rfl, rl, ro, rfl, st2⟩ _
  rw [List.length_map] at rl
  have gX : Gd (.tuple [p.da, .tuple (rs.map Rk.Q)]) := ⟨p, rs, rfl, ok, rl.symm, ro⟩
  rw [da_rows] at gX
  walk_at "w"
  refine wo_appR (ds := ds) (by rw [List.getElem?_set_ne ne]; exact hm) rfl (by omega) ?_
  generalize PyData.tuple [.tuple [.tuple (p.ins.map PyData.str), .tuple (p.rows.map fun r => .tuple [.str r.1, r.2.da])], .tuple (rs.map Rk.Q)] = X at gX ⊢
  have gds : ∀ d ∈ ds ++ [X], Gd d := fun d hd => by
    rcases List.mem_append.mp hd with z | z
    · exact gd d z
    · rw [List.mem_singleton] at z
      rw [z]
      exact gX
  rw [List.set_comm _ _ ne]
  have hn2 : n < (h.set mm (some (Ob.lst (ds ++ [X])))).length := by rw [List.length_set]; exact hn
  have hm2 : ∀ o, ((h.set mm (some (Ob.lst (ds ++ [X])))).set n o)[mm]? = some (some (Ob.lst (ds ++ [X]))) := fun o => by
    rw [List.getElem?_set_ne ne, List.getElem?_set_self lm]
  walk_at "w"
  · rename_i v S3 b0 b1 bb st3 hz
    refine wp_by_hand st3 hn2 fun fs S4 gf f5 st4 => ?_
    refine wo_addR (hm2 _) (by rw [List.length_append, List.length_singleton]; omega) ?_
    walk_at "w"
    refine q _ (ds ++ [X] ++ fs) S4 _ _ _ (by rw [List.getElem?_append_right (Nat.le_refl _), Nat.sub_self]; rfl) ?_ ?_ st4 ?_ ?_ (.inr ?_) ?_
    · intro d hd
      rcases List.mem_append.mp hd with z | z
      · exact gds d z
      · exact gf d z
    · rw [List.length_append, List.length_append, f5, List.length_singleton]
      omega
    · rw [List.getElem?_append_left (by rw [List.length_set]; exact hn2), List.getElem?_set_self hn2]
    · intro j j1 j2 j3
      rw [List.getElem?_append_left (by rw [List.length_set, List.length_set]; exact j3), List.getElem?_set_ne (Ne.symm j1), List.getElem?_set_ne (Ne.symm j2)]
    · rw [List.length_set, List.length_set]
      exact Nat.le_refl _
    · rw [List.length_append, List.length_set, List.length_set]
      omega
  · rename_i v S3 b0 b1 bb st3 hz
    refine q mm (ds ++ [X]) S3 _ _ _ (hm2 _) gds ?_ st3 ?_ ?_ (.inl rfl) ?_
    · rw [List.length_append, List.length_singleton]
      omega
    · rw [List.getElem?_set_self hn2]
    · intro j j1 j2 j3
      rw [List.getElem?_set_ne (Ne.symm j1), List.getElem?_set_ne (Ne.symm j2)]
    · rw [List.length_set, List.length_set]
      exact Nat.le_refl _
local macro_rules | `(tactic| walk_at "cap") => `(tactic| simp only [capE, upE, List.map_cons, List.map_nil, cap1, up1] <;> rfl)
theorem w_law2 {p : Prg} {rs : List Rat} (ok : p.Ok) (rl : p.ins.length = rs.length) (ro : ∀ r ∈ rs, Sm r) (ht : hasTab 0 "law" h = true) {a0 a1 a2 a4 : Option Vl}
    (q : N [a0, a1, a2, some (.d p.da), a4, some (.d (.tuple (rs.map Rk.Q)))] h) :
    Ws (bl_law_2 [a0, a1, a2, some (.d p.da), a4, some (.d (.tuple (rs.map Rk.Q)))] h) N D := by
  obtain ⟨R, B, C, X⟩ := D
  unfold bl_law_2
  walk_at "w"
  refine wp_lam (v0 := .d (p.run id rs).da) (h0 := h) ht (by walk_at "cap") (fun d hT => ?_) ?_
  · cases e : p.run id rs with
    | told xs =>
      refine wp_told_t (x := .tuple (xs.map Rk.Q)) ?_ ⟨rfl, rfl⟩
      rw [hT]
      walk_at "w"
      refine wp_true_run ok rl (fun r hr => (ro r hr).not) (fun ys e2 => ?_) (fun k e2 => ?_) (fun e2 => ?_)
      · rw [e] at e2
        cases e2
        exact ⟨rfl, rfl⟩
      · rw [e] at e2
        cases e2
      · rw [e] at e2
        cases e2
    | nought k =>
      refine wp_told_n (k := (k : Int)) ?_ ⟨rfl, rfl⟩
      rw [hT]
      walk_at "w"
      refine wp_true_run ok rl (fun r hr => (ro r hr).not) (fun ys e2 => ?_) (fun k e2 => ?_) (fun e2 => ?_)
      · rw [e] at e2
        cases e2
      · rw [e] at e2
        cases e2
        exact ⟨rfl, rfl, rfl⟩
      · rw [e] at e2
        cases e2
    | great =>
      refine wp_told_g ?_ ⟨rfl, rfl⟩
      rw [hT]
      walk_at "w"
      refine wp_true_run ok rl (fun r hr => (ro r hr).not) (fun ys e2 => ?_) (fun k e2 => ?_) (fun e2 => ?_)
      · rw [e] at e2
        cases e2
      · rw [e] at e2
        cases e2
      · exact ⟨rfl, rfl, rfl⟩
  walk_at "w"
  refine wo_reprL (res_shw ok) (by decide) (by decide) ?_
  walk_at "w"
  refine wp_ldue ok rl (fun r hr => (ro r hr).bq) ?_
  walk_at "w"
  refine wo_reprL (res_shw ok) (by decide) (by decide) ?_
  walk_at "w"
  exact q
end
theorem wp_by_hand' {h : Hh} {Q : Vl → Hh → Prop} {E : XP} {n : Nat} {S : List (Key × Da)} (e : h[n]? = some (some (.dct S))) (st : Dk S)
    (q : ∀ (ds : List Da) (S' : List (Key × Da)), (∀ d ∈ ds, Gd d) → ds.length = 5 → Dk S' → Q (.d (.list ds)) (h.set n (some (.dct S')))) :
    Wp (m__law_by_hand [.r n] h) Q E := by
  have w := wp_by_hand (E := E) st (List.getElem?_eq_some_iff.mp e).1 q
  rwa [set_same e] at w
theorem law_true (cs : List Int) (hl : cs.length ≤ 63) : ∃ h', m_law [.d (.list (cs.map PyData.int))] (tabH ["law"]) = .ok (.d (.bool true)) h' := by
  refine ex_of_wp ?_
  refine en_law ?_
  unfold b_law
  walk_at "w"
  refine ws_forR ?_
  walk_at "w"
  refine wp_draws hl fun m ns hh Dr n1 n12 em => ?_
  have hh0 : hh[0]? = some (some (.tbl "law")) := by
    have := congrArg (fun l : Hh => l[0]?) Dr.old
    rw [List.getElem?_take_of_lt (by decide)] at this
    exact this
  have hh1 : hh[1]? = some (some (.lst [])) := by
    have := congrArg (fun l : Hh => l[1]?) Dr.old
    rw [List.getElem?_take_of_lt (by decide)] at this
    exact this
  have m2 : 2 ≤ m := Dr.m0
  refine ⟨m, ns, rfl, em, ?_⟩
  refine forR_inv (I := fun k ρ1 h1 => ∃ mm ds a2 a3 a4, ρ1 = [some (.d (.list (cs.map PyData.int))), some (.r mm), a2, a3, a4, none] ∧ h1[mm]? = some (some (.lst ds)) ∧ (∀ d ∈ ds, Gd d) ∧ ds.length ≤ 6 * k ∧ h1[0]? = some (some (.tbl "law")) ∧ mm ≠ 0 ∧ ∀ n ∈ ns, n ≠ 0 ∧ n ≠ mm ∧ ∃ S, h1[n]? = some (some (.dct S)) ∧ Dk S) ?_ ?_ ?_
  · refine ⟨1, [], _, _, _, rfl, ?_, nofun, Nat.zero_le _, ?_, by decide, fun n hn => ?_⟩
    · rw [List.getElem?_set_ne (by omega)]
      exact hh1
    · rw [List.getElem?_set_ne (by omega)]
      exact hh0
    · obtain ⟨a1, a2, a3, S, a4, a5⟩ := Dr.at' n hn
      have a1 : 2 ≤ n := a1
      refine ⟨by omega, by omega, S, ?_, a5⟩
      rw [List.getElem?_set_ne (Ne.symm a3)]
      exact a4
  · rintro k n ρ1 h1 en ⟨mm, ds, a2, a3, a4, rfl, hm, gd, dl, h0, m0, al⟩
    have hn := List.mem_of_getElem? en
    have hk : k < ns.length := (List.getElem?_eq_some_iff.mp en).1
    obtain ⟨z0, z1, S, z2, z3⟩ := al n hn
    have ln : n < h1.length := (List.getElem?_eq_some_iff.mp z2).1
    walk_at "w"
    rw [← set_same z2]
    refine w_law1 hm ln z3 z1 gd (by omega) ?_
    intro mm' ds' S' a3 a4 h' e1 e2 e3 e4 e5 e6 e7 e8
    refine ⟨mm', ds', _, _, _, rfl, e1, e2, by omega, ?_, ?_, fun j hj => ?_⟩
    · rw [e6 0 (Ne.symm z0) (Ne.symm m0) (by omega)]
      exact h0
    · rcases e7 with rfl | e7
      · exact m0
      · omega
    · obtain ⟨y0, y1, T, y2, y3⟩ := al j hj
      have lj : j < h1.length := (List.getElem?_eq_some_iff.mp y2).1
      refine ⟨y0, ?_, ?_⟩
      · rcases e7 with rfl | e7
        · exact y1
        · omega
      · by_cases jn : j = n
        · subst jn
          exact ⟨S', e5, e4⟩
        · exact ⟨T, by rw [e6 j jn y1 lj]; exact y2, y3⟩
  · rintro ρ1 h1 ⟨mm, ds, a2, a3, a4, rfl, hm, gd, dl, h0, m0, al⟩
    have lm : mm < h1.length := (List.getElem?_eq_some_iff.mp hm).1
    walk_at "w"
    refine wp_draws hl fun m2 ns2 hh2 D2 n21 n212 em2 => ?_
    walk_at "w"
    refine wo_ixO em2 (fun n hn e0 => ?_) n21
    obtain ⟨b1, b2, b3, S, b4, b5⟩ := D2.at' n hn
    have om : hh2[mm]? = some (some (.lst ds)) := by
      have := congrArg (fun l : Hh => l[mm]?) D2.old
      rw [List.getElem?_take_of_lt lm] at this
      rw [this]
      exact hm
    walk_at "w"
    refine wp_by_hand' b4 b5 fun fs S' gf f5 st' => ?_
    walk_at "w"
    have ne : n ≠ mm := by omega
    have d72 : ds.length ≤ 72 := by omega
    refine wo_addR (ds := ds) (es := fs) (by rw [List.getElem?_set_ne ne]; exact om) (by omega) ?_
    refine fzk_at (ds := ds ++ fs) (by rw [List.getElem?_append_right (Nat.le_refl _), Nat.sub_self]; rfl) ?_
    have back : ((hh2.set n (some (Ob.dct S')) ++ [some (Ob.lst (ds ++ fs))]).set (hh2.set n (some (Ob.dct S'))).length none).take h1.length = h1 := by
      rw [List.take_set_of_le (by rw [List.length_set]; exact D2.le), List.take_append_of_le_length (by rw [List.length_set]; exact D2.le), List.take_set_of_le b1]
      exact D2.old
    rw [back]
    walk_at "w"
    refine wo_rvR hm (by omega) ?_
    walk_at "w"
    have gall : ∀ d ∈ ds ++ fs ++ ds.reverse, Gd d := fun d hd => by
      rcases List.mem_append.mp hd with z | z
      · rcases List.mem_append.mp z with z | z
        · exact gd d z
        · exact gf d z
      · exact gd d (List.mem_reverse.mp z)
    have ll : (ds ++ fs ++ ds.reverse).length ≤ 1000 := by
      rw [List.length_append, List.length_append, List.length_reverse]
      omega
    have lb : (ds ++ fs).length + ds.reverse.length ≤ 16777216 := by
      rw [List.length_append, List.length_reverse]
      omega
    refine wo_addL' rfl (by omega) ?_
    walk_at "w"
    generalize ds ++ fs ++ ds.reverse = all at gall
    refine forK_inv (I := fun _ ρ1 h2 => h2 = h1 ∧ ∃ a2 a3 a4 a5, ρ1 = [some (.d (.list (cs.map PyData.int))), some (.r mm), a2, a3, a4, a5]) ⟨rfl, _, _, _, _, rfl⟩ ?_ ?_
    · rintro k d ρ1 h2 ek ⟨rfl, a2, a3, a4, a5, rfl⟩
      obtain ⟨p, rs, rfl, ok, rl, ro⟩ := gall d (List.mem_of_getElem? ek)
      walk_at "w"
      refine w_law2 ok rl ro ?_ ⟨rfl, _, _, _, _, rfl⟩
      unfold hasTab
      rw [h0]
      exact decide_eq_true rfl
    · rintro ρ1 h2 ⟨rfl, a2, a3, a4, a5, rfl⟩
      walk_at "w"
      exact retK_any rfl

end Lw
open PySem PySem.W PySem.Calls PyProof.Rows
theorem PySem.Challenge.cw_roundsure_k17_true_runs_holds : PySem.Challenge.rw_roundsure_k17_true_runs.Holds := by
  refine Lw.early ?_
  refine Rk.walkGT (l := PySem.Challenge.rw_roundsure_k17_true_runs) (n := 63) (k := 10) (x := "_law_script") (xs := Lw.lams) rfl (by decide) (by kernel_rfl) ⟨⟨rfl, by decide, by decide⟩, rfl⟩ ?F
  intro w mg fa h Y G hmg0
  obtain ⟨K1, KX1, tB, c, tw⟩ := Y
  obtain ⟨KX, TK⟩ := Rk.tabsB_ok KX1 tB
  have hmg : mg ("law" : PySem.Str) = some (.ref fa) := by
    have e : (HandSHeadRun.topDef (OpenLaw.row PySem.Challenge.rw_roundsure_k17_true_runs).prog 69).name = ("law" : PySem.Str) := by kernel_rfl
    rw [← e]
    exact hmg0
  obtain ⟨fd, hb, hF⟩ := Lw.facts (P := (PySem.Challenge.rw_roundsure_k17_true_runs).prog) (w := w) KX G hmg c tw TK
  exact ⟨_, _, fd, Lw.m_law, KX, TK, hb, fun ns hl => Lw.law_true ns hl, hF⟩
#print axioms PySem.Challenge.cw_roundsure_k17_true_runs_holds
