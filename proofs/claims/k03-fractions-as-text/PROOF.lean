import PyProof.Rows.All
import Wide.All
import OpenK.AllK
import Wide.FinOn
import KE.KStateDown
import HandS.ForMost
import HandS.Exc
import HandS.ExcOwn
import HandS.TryOnly
import HandS.WordsExc
import HandS.CallSlots
import HandS.Wide
import HandS.WideBits
import HandS.IsInst
import HandS.Flow
import HandS.TupAny
import HandS.Style
import HandS.Deep
import HandS.Zip
import HandS.Comp
import HandS.Lambda
import KE.KNestM
import HandS.HeadHook1
import HandS.Defaults
import HandS.Head0
import HandS.Head1
import HandS.Head2
import HandS.HeadEnd
import HandS.HeadHook2
import PyProof.ReprRoads
import HandS.Dict
import PyProof.SliceList
import HandS.TupMul
import HandS.Zip0
import KE.KIsAll
import KE.KTryMore
import HandS.ExcIs
import HandS.ExcField
import KE.KExcIs
import HandS.EndTab
import HandS.Finally
import PyProof.DictUpdate
import PyProof.FactsAll.dict_3
import PyProof.FactsAll.dict_4
import KE.KDictZip
import HandS.ExcInit
import HandS.ClsMeth
import HandS.NoneIn
import HandS.HeadHook3
import HandS.More
import HandS.Strs
import HandS.Text
import HandS.Iter
import HandS.SortInts
import HandS.RevRange
import HandS.Conv
import PyProof.StrLawsRepr
import PyProof.Rows.Digits
import OpenK.KOwn
import KE.GoesMore
import KE.GoesEnum
import KE.KTurns
import HandS.MapObj
import HandS.RevTup
import PyProof.P3In
import KE.KEqDict
import KE.KxIndex
import PyProof.Rows.StrOr
import PyProof.ReprLen
import KE.KIntText
import HandS.Replace
import PySem.Challenge.RW_roundsure_k03_fractions_as_text
set_option Elab.async false
set_option linter.all false
set_option maxRecDepth 100000
set_option maxHeartbeats 4000000
set_option autoImplicit false
namespace Rk
open PySem PySem.Spec L2 PyProof.Rows
abbrev Da := PyData
mutual
def cB (K : PySem.W.Frag) : Da → Value → Bool
  | .none, .none => true
  | .bool b, .bool c => b == c
  | .int i, .int j _ => decide (i = j)
  | .str x, .str y _ => decide (x = y)
  | .tuple ds, .ref a => match K.lookup a with
    | some ⟨.type c, _, .seq its _, _⟩ => decide (c = "tuple") && (decide (its.size ≤ sizeLine) && cBs K ds its.toList)
    | _ => false
  | _, _ => false
def cBs (K : PySem.W.Frag) : List Da → List Value → Bool
  | [], [] => true
  | d :: ds, u :: us => cB K d u && cBs K ds us
  | _, _ => false
end
def gB (K : PySem.W.Frag) (x : Str) (d : Da) : Bool := match PySem.W.nsIn K mainGlobals x with
  | some (some u) => cB K d u
  | _ => false
abbrev AlR : Type := He.AlD × Bool
/-- what the module's names reach in n steps, step by step, nothing struck out -/
def stepN (g : Addr → Option Obj) (as : List Addr) : List Addr := as.flatMap fun a => match g a with
  | some o => He.refsD o
  | none => []
def asN (g : Addr → Option Obj) : Nat → List Addr → List Addr
  | 0, as => as
  | n + 1, as => as ++ asN g n (stepN g as)
def obsR (n : Nat) (fa : List He.Fa) (fn : List He.DefD) (ex : PySem.W.Frag → Bool) (g : Addr → Option Obj) : AlR := (He.obsD fa fn (He.frG g (asN g n [mainGlobals] ++ [cStatics])), ex (He.frG g (asN g n [mainGlobals] ++ [cStatics])))
def SaysR (fa : List He.Fa) (fn : List He.DefD) (ex : PySem.W.Frag → Bool) (K : PySem.W.Frag) : Prop := He.SaysD fa fn K ∧ ex K = true
def hookR (n : Nat) (fa : List He.Fa) (fn : List He.DefD) (ex : PySem.W.Frag → Bool) : PySem.W.Hook where
  α := AlR
  obs := fun s => obsR n fa fn ex s.heap.get?
  val := fun _ => (He.valD fn, true)
  says := fun _ h => ∃ K : PySem.W.Frag, K.In h ∧ SaysR fa fn ex K
  of := fun _ _ e => ⟨_, He.frG_in, congrArg (fun z : AlR => z.1) e, congrArg (fun z : AlR => z.2) e⟩
  keeps := fun _ _ _ ⟨K, hK, c⟩ k => ⟨K, PySem.W.Frag.In.keeps hK k, c⟩
theorem obsR_eq {n : Nat} {fa : List He.Fa} {fn : List He.DefD} {ex : PySem.W.Frag → Bool} {g : Addr → Option Obj} {s : Shared} (h : ∀ a, g a = s.heap.get? a) : obsR n fa fn ex g = (hookR n fa fn ex).obs s := by
  have e : g = s.heap.get? := funext h
  rw [e] <;> rfl
def valD (kds : List (Key × Da)) (k : Key) : Option Da := (kds.find? fun kv => decide (kv.1 = k)).map (·.2)
def digB (K : PySem.W.Frag) : Bool := PySem.W.nsOkIn K cStatics && (match PySem.W.nsIn K cStatics "sys.int_max_str_digits" with
  | some none => true
  | _ => false)
end Rk
namespace Lw
open PySem PySem.Spec L2 Rk
def topS (i : Nat) : Stmt := PySem.Challenge.pw_roundsure_k03_fractions_as_text.main.body.getD i (.Pass ⟨0, 0, 0, 0⟩)
abbrev s_is_whole : Stmt := topS 4
abbrev s_shared : Stmt := topS 5
abbrev s_is_fraction : Stmt := topS 6
abbrev s_whole_text : Stmt := topS 7
abbrev s_number_text : Stmt := topS 8
abbrev s_is_written : Stmt := topS 9
abbrev s_number_in : Stmt := topS 10
abbrev s__law_mixed : Stmt := topS 12
abbrev s__law_stream : Stmt := topS 13
abbrev s__law_take : Stmt := topS 14
abbrev s__law_lowest : Stmt := topS 15
abbrev s__law_number_by : Stmt := topS 16
abbrev s__law_figures : Stmt := topS 17
abbrev s__law_text : Stmt := topS 18
abbrev s__law_bent : Stmt := topS 19
abbrev s__law_number_of : Stmt := topS 20
abbrev s__law_read : Stmt := topS 21
abbrev s__law_put_right : Stmt := topS 22
abbrev s__law_long_right : Stmt := topS 23
abbrev s_law : Stmt := topS 24
def c_FIGURES : Da := (.str "0123456789")
def c_MOST_FIGURES : Da := (.int 601)
def c_PIECE : Da := (.int ((10 ^ 1000)))
def d_is_whole : He.DefD := ⟨("is_whole", none), "is_whole", "is_whole", defArgs s_is_whole, defBody s_is_whole, defScope s_is_whole, [], []⟩
def d_shared : He.DefD := ⟨("shared", none), "shared", "shared", defArgs s_shared, defBody s_shared, defScope s_shared, [], []⟩
def d_is_fraction : He.DefD := ⟨("is_fraction", none), "is_fraction", "is_fraction", defArgs s_is_fraction, defBody s_is_fraction, defScope s_is_fraction, [], []⟩
def d_whole_text : He.DefD := ⟨("whole_text", none), "whole_text", "whole_text", defArgs s_whole_text, defBody s_whole_text, defScope s_whole_text, [], []⟩
def d_number_text : He.DefD := ⟨("number_text", none), "number_text", "number_text", defArgs s_number_text, defBody s_number_text, defScope s_number_text, [], []⟩
def d_is_written : He.DefD := ⟨("is_written", none), "is_written", "is_written", defArgs s_is_written, defBody s_is_written, defScope s_is_written, [], []⟩
def d_number_in : He.DefD := ⟨("number_in", none), "number_in", "number_in", defArgs s_number_in, defBody s_number_in, defScope s_number_in, [], []⟩
def d__law_mixed : He.DefD := ⟨("_law_mixed", none), "_law_mixed", "_law_mixed", defArgs s__law_mixed, defBody s__law_mixed, defScope s__law_mixed, [], []⟩
def d__law_stream : He.DefD := ⟨("_law_stream", none), "_law_stream", "_law_stream", defArgs s__law_stream, defBody s__law_stream, defScope s__law_stream, [], []⟩
def d__law_take : He.DefD := ⟨("_law_take", none), "_law_take", "_law_take", defArgs s__law_take, defBody s__law_take, defScope s__law_take, [], []⟩
def d__law_lowest : He.DefD := ⟨("_law_lowest", none), "_law_lowest", "_law_lowest", defArgs s__law_lowest, defBody s__law_lowest, defScope s__law_lowest, [], []⟩
def d__law_number_by : He.DefD := ⟨("_law_number_by", none), "_law_number_by", "_law_number_by", defArgs s__law_number_by, defBody s__law_number_by, defScope s__law_number_by, [], []⟩
def d__law_figures : He.DefD := ⟨("_law_figures", none), "_law_figures", "_law_figures", defArgs s__law_figures, defBody s__law_figures, defScope s__law_figures, [], []⟩
def d__law_text : He.DefD := ⟨("_law_text", none), "_law_text", "_law_text", defArgs s__law_text, defBody s__law_text, defScope s__law_text, [], []⟩
def d__law_bent : He.DefD := ⟨("_law_bent", none), "_law_bent", "_law_bent", defArgs s__law_bent, defBody s__law_bent, defScope s__law_bent, [], []⟩
def d__law_number_of : He.DefD := ⟨("_law_number_of", none), "_law_number_of", "_law_number_of", defArgs s__law_number_of, defBody s__law_number_of, defScope s__law_number_of, [], []⟩
def d__law_read : He.DefD := ⟨("_law_read", none), "_law_read", "_law_read", defArgs s__law_read, defBody s__law_read, defScope s__law_read, [], []⟩
def d__law_put_right : He.DefD := ⟨("_law_put_right", none), "_law_put_right", "_law_put_right", defArgs s__law_put_right, defBody s__law_put_right, defScope s__law_put_right, [], []⟩
def d__law_long_right : He.DefD := ⟨("_law_long_right", none), "_law_long_right", "_law_long_right", defArgs s__law_long_right, defBody s__law_long_right, defScope s__law_long_right, [], []⟩
def d_law : He.DefD := ⟨("law", none), "law", "law", defArgs s_law, defBody s_law, defScope s_law, [], []⟩
def fn : List He.DefD := [d_is_whole, d_shared, d_is_fraction, d_whole_text, d_number_text, d_is_written, d_number_in, d__law_mixed, d__law_stream, d__law_take, d__law_lowest, d__law_number_by, d__law_figures, d__law_text, d__law_bent, d__law_number_of, d__law_read, d__law_put_right, d__law_long_right, d_law]
def fa : List He.Fa := [.glo "is_whole", .glo "shared", .glo "is_fraction", .glo "whole_text", .glo "number_text", .glo "is_written", .glo "number_in", .glo "_law_mixed", .glo "_law_stream", .glo "_law_take", .glo "_law_lowest", .glo "_law_number_by", .glo "_law_figures", .glo "_law_text", .glo "_law_bent", .glo "_law_number_of", .glo "_law_read", .glo "_law_put_right", .glo "_law_long_right", .glo "law", .free "abs", .free "all", .free "bool", .free "enumerate", .free "int", .free "isinstance", .free "len", .free "range", .free "repr", .free "str", .free "tuple"]
def ex (K : PySem.W.Frag) : Bool := (gB K "FIGURES" c_FIGURES) && (gB K "MOST_FIGURES" c_MOST_FIGURES) && (gB K "PIECE" c_PIECE) && (digB K)
abbrev R : PySem.W.OpenRow := PySem.W.OpenLaw.row PySem.Challenge.rw_roundsure_k03_fractions_as_text
abbrev hk : PySem.W.Hook := hookR 4 fa fn ex
def ob (s : PySem.W.SharedT) : AlR := obsR 4 fa fn ex (HandSHeadRun.getT s)
theorem ob_eq (s : PySem.W.SharedT) : ob s = hk.obs s.abs := obsR_eq (HandSHeadRun.getT_eq s)
def loose : List Str := (["PIECE", "FIGURES", "MOST_FIGURES", "is_whole", "shared", "is_fraction", "whole_text", "number_text", "is_written", "number_in", "_law_mixed", "_law_stream", "_law_take", "_law_lowest", "_law_number_by", "_law_figures", "_law_text", "_law_bent", "_law_number_of", "_law_read", "_law_put_right", "_law_long_right"] : List Str)
theorem run (w : World) : HandSHeadRun.RunEq R (PySem.W.view R.prog [24]) hk ob 40000 loose w := by
  intro os
  kernel_rfl

end Lw
section
open PySem PySem.W PySem.Calls PyProof.Rows
theorem Lw.early (hc : WalkO (view (OpenLaw.row PySem.Challenge.rw_roundsure_k03_fractions_as_text).prog [24]) Lw.loose (XL (view (OpenLaw.row PySem.Challenge.rw_roundsure_k03_fractions_as_text).prog [24]) []) (PySem.W.Hook.says Lw.hk) (OpenLaw.row PySem.Challenge.rw_roundsure_k03_fractions_as_text).toRowW (HandSHeadRun.topDef (OpenLaw.row PySem.Challenge.rw_roundsure_k03_fractions_as_text).prog 24) [] fun f vs => PySem.call f vs) : PySem.Challenge.rw_roundsure_k03_fractions_as_text.Holds := by
  w_on; o_law
  refine HandSHeadRun.head_any (r := OpenLaw.row PySem.Challenge.rw_roundsure_k03_fractions_as_text) (q := view (OpenLaw.row PySem.Challenge.rw_roundsure_k03_fractions_as_text).prog [24]) (H := Lw.hk) (ob := Lw.ob) (M := 40000) (loose := Lw.loose) (d := HandSHeadRun.topDef (OpenLaw.row PySem.Challenge.rw_roundsure_k03_fractions_as_text).prog 24) (kwd := []) Lw.ob_eq
    (by kernel_rfl) (fun s => by kernel_rfl) Lw.run (by kernel_rfl) (by kernel_rfl) (by kernel_rfl) (by rfl) (by first | assumption | decide +kernel) (by decide +kernel) ⟨rfl, rfl, rfl, rfl, rfl, by decide +kernel⟩ ?hw hc
  case hw => w_witness2
end
/-! Rk0: pure data, an abstract heap of lists and dicts by number, outcomes; what stands for what. -/
namespace Rk
open PySem PySem.Spec L2

/-- an object that changes, by its number -/
inductive Ob where
  | lst (xs : List Da)
  | dct (kvs : List (Key × Da))
  | tbl (x : Str)
  | rl (ns : List Nat)
/-- what a function object has kept of its maker's slots -/
inductive Vl0 where
  | d (x : Da)
  | r (n : Nat)
/-- a function object made by a lambda: its address, its code object, that one's name, its maker's slots as they were -/
structure Dd where
  f : Addr
  c : Addr
  q : Str
  σ : List (Option V)
  ρ : List (Option Vl0)
/-- a value: data, an object by its number, an error that was caught -/
inductive Vl where
  | d (x : Da)
  | r (n : Nat)
  | x (c : Str) (fs : List (Str × Da))
  | f (a : Dd)
abbrev Hh := List (Option Ob)
inductive Out (α : Type) where
  | ok (a : α) (h : Hh)
  | ex (c : Str) (fs : List (Str × Da)) (h : Hh)
  | no
abbrev En := List (Option Vl)
inductive So where
  | nx (ρ : En) (h : Hh)
  | rt (v : Vl) (h : Hh)
  | bk (ρ : En) (h : Hh)
  | ct (ρ : En) (h : Hh)
  | ex (c : Str) (fs : List (Str × Da)) (ρ : En) (h : Hh)
  | no
def Out.bind {α β : Type} : Out α → (α → Hh → Out β) → Out β
  | .ok a h, f => f a h
  | .ex c fs h, _ => .ex c fs h
  | .no, _ => .no
theorem Out.bind_ok {α β : Type} (a : α) (h : Hh) (f : α → Hh → Out β) : (Out.ok a h).bind f = f a h := rfl
theorem Out.bind_ex {α β : Type} (c : Str) (fs : List (Str × Da)) (h : Hh) (f : α → Hh → Out β) : (Out.ex c fs h).bind f = .ex c fs h := rfl
abbrev Ev := En → Hh → Out Vl
abbrev Tv := En → Hh → Out Bool
abbrev Av := En → Hh → Out (List Vl)
abbrev Sv := En → Hh → So
abbrev Fn := List Vl → Hh → Out Vl

/-! ### what stands for what -/
def KT (K : PySem.W.Frag) (a : Addr) (xs : List V) : Prop :=
  ∃ (o : Obj) (its : Array Value) (n : Nat), K.lookup a = some o ∧ o.cls = .type "tuple" ∧ o.data = .seq its n ∧ its.size ≤ sizeLine ∧ Vals xs its.toList
def KL (K : PySem.W.Frag) (a : Addr) (xs : List V) : Prop :=
  ∃ (o : Obj) (its : Array Value) (n : Nat), K.lookup a = some o ∧ o.cls = .type "list" ∧ o.dict = none ∧ o.data = .seq its n ∧ its.size ≤ sizeLine ∧ Vals xs its.toList
/-- a key as data -/
def kD : Key → Da
  | .inl i => .int i
  | .inr x => .str x
mutual
inductive Rep (K : PySem.W.Frag) (H : Hp) (M : Addr → Prop) : V → Da → Prop
  | non : Rep K H M .non .none
  | bl (b : Bool) : Rep K H M (.bl b) (.bool b)
  | int (i : Int) : Rep K H M (.int i) (.int i)
  | str (x : Str) : Rep K H M (.str x) (.str x)
  | tup {a : Addr} {xs : List V} {ds : List Da} : Rd H a (.tup xs) → ¬ M a → Reps K H M xs ds → Rep K H M (.ref a) (.tuple ds)
  | tupK {a : Addr} {xs : List V} {ds : List Da} : KT K a xs → Reps K H M xs ds → Rep K H M (.ref a) (.tuple ds)
  | lst {a : Addr} {xs : List V} {ds : List Da} : Rd H a (.lst xs) → ¬ M a → Reps K H M xs ds → Rep K H M (.ref a) (.list ds)
  | lstK {a : Addr} {xs : List V} {ds : List Da} : KL K a xs → Reps K H M xs ds → Rep K H M (.ref a) (.list ds)
  | dct0 {a : Addr} : H a = some (.dT []) → ¬ M a → Rep K H M (.ref a) (.dict [])
  | dct {a : Addr} {kvs : List (Key × V)} {ds : List Da} {kds : List (Da × Da)} : H a = some (.dK kvs) → ¬ M a → kvs ≠ [] → Reps K H M (kvs.map (·.2)) ds → kds = ((kvs.map (·.1)).zip ds).map (fun p => (kD p.1, p.2)) → Rep K H M (.ref a) (.dict kds)
  | fn (x : Str) : Rep K H M (.ref (He.ga K x)) (.dict [(.none, .str x)])
  | plt {a : Addr} {o : Obj} {xs : List V} {ds : List Da} : H a = some (.frz o (.tup xs)) → o.dict = none → ¬ M a → Reps K H M xs ds → Rep K H M (.ref a) (.dict [(.none, .tuple ds)])
inductive Reps (K : PySem.W.Frag) (H : Hp) (M : Addr → Prop) : List V → List Da → Prop
  | nil : Reps K H M [] []
  | cons {v : V} {vs : List V} {d : Da} {ds : List Da} : Rep K H M v d → Reps K H M vs ds → Reps K H M (v :: vs) (d :: ds)
end
/-- no table of code objects -/
abbrev Nt (o : HO) : Prop := ∀ ps, o ≠ .tbl ps
/-- what is not M stands still -/
def Stay (H : Hp) (M : Addr → Prop) (H' : Hp) (M' : Addr → Prop) : Prop := ∀ a o, H a = some o → Nt o → ¬ M a → H' a = some o ∧ ¬ M' a
inductive Seq' : HO → Prop
  | l (xs) : Seq' (.lst xs)
  | t (xs) : Seq' (.tup xs)
theorem Seq'.nt {u : HO} (s : Seq' u) : Nt u := fun ps z => by cases s <;> cases z
theorem Stay.rd {H H' : Hp} {M M' : Addr → Prop} (s : Stay H M H' M') {a : Addr} {u : HO} (w : Seq' u) (h : Rd H a u) (n : ¬ M a) : Rd H' a u ∧ ¬ M' a := by
  rcases h with h | ⟨o, h⟩
  · exact ⟨.inl (s a _ h w.nt n).1, (s a _ h w.nt n).2⟩
  · exact ⟨.inr ⟨o, (s a _ h nofun n).1⟩, (s a _ h nofun n).2⟩
mutual
theorem Rep.stay {K : PySem.W.Frag} {H H' : Hp} {M M' : Addr → Prop} (s : Stay H M H' M') : ∀ {v : V} {d : Da}, Rep K H M v d → Rep K H' M' v d
  | _, _, .non => .non
  | _, _, .bl b => .bl b
  | _, _, .int i => .int i
  | _, _, .str x => .str x
  | _, _, .tup h n r => .tup (s.rd (.t _) h n).1 (s.rd (.t _) h n).2 (Reps.stay s r)
  | _, _, .tupK h r => .tupK h (Reps.stay s r)
  | _, _, .lst h n r => .lst (s.rd (.l _) h n).1 (s.rd (.l _) h n).2 (Reps.stay s r)
  | _, _, .lstK h r => .lstK h (Reps.stay s r)
  | _, _, .dct0 h n => .dct0 (s _ _ h nofun n).1 (s _ _ h nofun n).2
  | _, _, .dct h n ne r e => .dct (s _ _ h nofun n).1 (s _ _ h nofun n).2 ne (Reps.stay s r) e
  | _, _, .fn x => .fn x
  | _, _, .plt h e n r => .plt (s _ _ h nofun n).1 e (s _ _ h nofun n).2 (Reps.stay s r)
theorem Reps.stay {K : PySem.W.Frag} {H H' : Hp} {M M' : Addr → Prop} (s : Stay H M H' M') : ∀ {v : List V} {d : List Da}, Reps K H M v d → Reps K H' M' v d
  | _, _, .nil => .nil
  | _, _, .cons r t => .cons (Rep.stay s r) (Reps.stay s t)
end
theorem Stay.refl (H : Hp) (M : Addr → Prop) : Stay H M H M := fun _ _ h _ n => ⟨h, n⟩
theorem Stay.trans {H H1 H2 : Hp} {M M1 M2 : Addr → Prop} (a : Stay H M H1 M1) (b : Stay H1 M1 H2 M2) : Stay H M H2 M2 := fun x o h w n => b x o (a x o h w n).1 w (a x o h w n).2
section
variable {K : PySem.W.Frag} {H : Hp} {M : Addr → Prop}
theorem Reps.length : ∀ {vs : List V} {ds : List Da}, Reps K H M vs ds → vs.length = ds.length
  | _, _, .nil => rfl
  | _, _, .cons _ t => by rw [List.length_cons, List.length_cons, Reps.length t]
theorem Reps.get : ∀ {vs : List V} {ds : List Da} {i : Nat} {d : Da}, Reps K H M vs ds → ds[i]? = some d → ∃ v, vs[i]? = some v ∧ Rep K H M v d
  | _, _, _, _, .nil, h => by simp at h
  | _, _, 0, _, .cons r _, h => by
    have e := Option.some.inj h
    subst e
    exact ⟨_, rfl, r⟩
  | _, _, i + 1, _, .cons _ t, h => by
    obtain ⟨v, e, r⟩ := Reps.get (i := i) t h
    exact ⟨v, e, r⟩
theorem Reps.append : ∀ {vs ws : List V} {ds es : List Da}, Reps K H M vs ds → Reps K H M ws es → Reps K H M (vs ++ ws) (ds ++ es)
  | _, _, _, _, .nil, s => s
  | _, _, _, _, .cons r t, s => .cons r (Reps.append t s)
theorem Reps.take : ∀ {vs : List V} {ds : List Da} (n : Nat), Reps K H M vs ds → Reps K H M (vs.take n) (ds.take n)
  | _, _, 0, _ => .nil
  | _, _, _ + 1, .nil => .nil
  | _, _, n + 1, .cons r t => .cons r (Reps.take n t)
theorem Reps.drop : ∀ {vs : List V} {ds : List Da} (n : Nat), Reps K H M vs ds → Reps K H M (vs.drop n) (ds.drop n)
  | _, _, 0, s => s
  | _, _, _ + 1, .nil => .nil
  | _, _, n + 1, .cons _ t => Reps.drop n t
theorem Reps.set {v : V} {d : Da} (r : Rep K H M v d) : ∀ {vs : List V} {ds : List Da} (i : Nat), Reps K H M vs ds → Reps K H M (vs.set i v) (ds.set i d)
  | _, _, _, .nil => .nil
  | _, _, 0, .cons _ t => .cons r t
  | _, _, i + 1, .cons q t => .cons q (Reps.set r i t)
theorem Rep.sqT {a : Addr} {ds : List Da} (r : Rep K H M (.ref a) (.tuple ds)) : ∃ xs, SqT K H a xs ∧ Reps K H M xs ds := by
  cases r with
  | tup h _ r => exact ⟨_, .inl h, r⟩
  | tupK h r => exact ⟨_, .inr h, r⟩
theorem Rep.sqL {a : Addr} {ds : List Da} (r : Rep K H M (.ref a) (.list ds)) : ∃ xs, SqL K H a xs ∧ Reps K H M xs ds := by
  cases r with
  | lst h _ r => exact ⟨_, .inl h, r⟩
  | lstK h r => exact ⟨_, .inr h, r⟩
end
/-- a def of the top as data; a tuple that is known to be a plain one -/
def fnD (x : Str) : Da := .dict [(.none, .str x)]
def ptD (ds : List Da) : Da := .dict [(.none, .tuple ds)]
/-- the constants of the top: the same whatever the heap -/
def KRep (K : PySem.W.Frag) (v : V) (d : Da) : Prop := ∀ H M, Rep K H M v d

/-! ### the abstract heap's objects, where they stand -/
def Live (φ : List Addr) (h : Hh) (a : Addr) : Prop := ∃ (i : Nat) (o : Ob), φ[i]? = some a ∧ h[i]? = some (some o)
inductive KvRep (K : PySem.W.Frag) (H : Hp) (M : Addr → Prop) : List (Key × V) → List (Key × Da) → Prop
  | nil : KvRep K H M [] []
  | cons {k : Key} {v : V} {vs : List (Key × V)} {d : Da} {ds : List (Key × Da)} : Rep K H M v d → KvRep K H M vs ds → KvRep K H M ((k, v) :: vs) ((k, d) :: ds)
theorem KvRep.stay {K : PySem.W.Frag} {H H' : Hp} {M M' : Addr → Prop} (s : Stay H M H' M') : ∀ {vs : List (Key × V)} {ds : List (Key × Da)}, KvRep K H M vs ds → KvRep K H' M' vs ds
  | _, _, .nil => .nil
  | _, _, .cons r t => .cons (r.stay s) (KvRep.stay s t)
def ORep (K : PySem.W.Frag) (H : Hp) (M : Addr → Prop) (a : Addr) : Ob → Prop
  | .lst ds => ∃ xs, H a = some (.lst xs) ∧ Reps K H M xs ds
  | .dct kds => ∃ kvs, H a = some (.dK kvs) ∧ KvRep K H M kvs kds
  | .tbl x => ∃ (c : Addr) (ps : Array Value), PySem.W.tabIn K x = some (c, a) ∧ H a = some (.tbl ps) ∧ TriplesOk ps.toList ∧ ∀ (pos : Pos) (cv : Value), codeAmong pos ps.toList = some cv → ∃ c', cv = .ref c' ∧ H c' = some (LamX.CodeO c' (x ++ ".<locals>." ++ "<lambda>"))
  | .rl _ => ∃ xs, H a = some (.lst xs)
structure Sim (K : PySem.W.Frag) (φ : List Addr) (h : Hh) (H : Hp) : Prop where
  len : φ.length = h.length
  inj : ∀ (i j : Nat) (a : Addr) (o o' : Ob), φ[i]? = some a → φ[j]? = some a → h[i]? = some (some o) → h[j]? = some (some o') → i = j
  ob : ∀ (i : Nat) (o : Ob), h[i]? = some (some o) → ∃ a, φ[i]? = some a ∧ ORep K H (Live φ h) a o
  rf : ∀ (i : Nat) (ns : List Nat), h[i]? = some (some (.rl ns)) → ∃ (a : Addr) (as : List Addr), φ[i]? = some a ∧ H a = some (.lst (as.map V.ref)) ∧ as.length = ns.length ∧ ∀ (k n : Nat), ns[k]? = some n → n < i ∧ φ[n]? = as[k]?
structure Step (φ : List Addr) (h : Hh) (H : Hp) (φ' : List Addr) (h' : Hh) (H' : Hp) : Prop where
  pre : φ <+: φ'
  st : Stay H (Live φ h) H' (Live φ' h')
theorem Step.refl (φ : List Addr) (h : Hh) (H : Hp) : Step φ h H φ h H := ⟨List.prefix_refl φ, Stay.refl _ _⟩
theorem Step.trans {φ φ1 φ2 : List Addr} {h h1 h2 : Hh} {H H1 H2 : Hp} (a : Step φ h H φ1 h1 H1) (b : Step φ1 h1 H1 φ2 h2 H2) : Step φ h H φ2 h2 H2 := ⟨a.pre.trans b.pre, a.st.trans b.st⟩
theorem pre_get {φ φ' : List Addr} (p : φ <+: φ') {n : Nat} {a : Addr} (e : φ[n]? = some a) : φ'[n]? = some a := by
  obtain ⟨t, rfl⟩ := p
  rw [List.getElem?_append_left (List.getElem?_eq_some_iff.mp e).1]
  exact e
/-- the own dict of a caught error, its fields -/
inductive FsRep (K : PySem.W.Frag) (H : Hp) (M : Addr → Prop) : List (Str × V) → List (Str × Da) → Prop
  | nil : FsRep K H M [] []
  | cons {k : Str} {v : V} {vs : List (Str × V)} {d : Da} {ds : List (Str × Da)} : Rep K H M v d → FsRep K H M vs ds → FsRep K H M ((k, v) :: vs) ((k, d) :: ds)
theorem FsRep.stay {K : PySem.W.Frag} {H H' : Hp} {M M' : Addr → Prop} (s : Stay H M H' M') : ∀ {vs : List (Str × V)} {ds : List (Str × Da)}, FsRep K H M vs ds → FsRep K H' M' vs ds
  | _, _, .nil => .nil
  | _, _, .cons r t => .cons (r.stay s) (FsRep.stay s t)
/-- an error in the air: its class by its name, its fields -/
structure XRep (K : PySem.W.Frag) (mg : Str → Option Value) (H : Hp) (M : Addr → Prop) (c : Str) (fs : List (Str × Da)) (cls : Value) (dd : Option Addr) : Prop where
  cl : mg c = some cls
  no : fs = [] → dd = none
  yes : fs ≠ [] → ∃ a vs, dd = some a ∧ H a = some (.xd vs) ∧ ¬ M a ∧ FsRep K H M vs fs
/-- a value of the def's -/
def exO (a : Addr) (cls : Value) (dd : Option Addr) : HO := .ext fun h => ∃ (oe : Obj) (vs : Array Value), h.get? a = some oe ∧ Zc cls dd oe ∧ oe.data = .fields vs
theorem XRep.stay {K : PySem.W.Frag} {mg : Str → Option Value} {H H' : Hp} {M M' : Addr → Prop} {c : Str} {fs : List (Str × Da)} {cls : Value} {dd : Option Addr} (s : Stay H M H' M') (x : XRep K mg H M c fs cls dd) : XRep K mg H' M' c fs cls dd :=
  ⟨x.cl, x.no, fun z => by
    obtain ⟨a, vs, e1, e2, e3, e4⟩ := x.yes z
    obtain ⟨f1, f2⟩ := s a _ e2 nofun e3
    exact ⟨a, vs, e1, f1, f2, e4.stay s⟩⟩
def VRep0 (K : PySem.W.Frag) (φ : List Addr) (h : Hh) (H : Hp) (v : V) : Vl0 → Prop
  | .d x => Rep K H (Live φ h) v x
  | .r n => ∃ a, φ[n]? = some a ∧ v = .ref a
theorem exO_nt {a : Addr} {cls : Value} {dd : Option Addr} : Nt (exO a cls dd) := fun ps z => by
  unfold exO at z
  cases z
theorem VRep0.step {K : PySem.W.Frag} {φ φ' : List Addr} {h h' : Hh} {H H' : Hp} {v : V} {x : Vl0} (s : Step φ h H φ' h' H') (r : VRep0 K φ h H v x) : VRep0 K φ' h' H' v x := by
  cases x with
  | d x => exact Rep.stay s.st r
  | r n =>
    obtain ⟨a, e, rfl⟩ := r
    exact ⟨a, pre_get s.pre e, rfl⟩
def VRep (K : PySem.W.Frag) (mg : Str → Option Value) (φ : List Addr) (h : Hh) (H : Hp) (v : V) : Vl → Prop
  | .d x => Rep K H (Live φ h) v x
  | .r n => ∃ a, φ[n]? = some a ∧ v = .ref a
  | .x c fs => ∃ (a : Addr) (cls : Value) (dd : Option Addr), v = .ref a ∧ H a = some (exO a cls dd) ∧ ¬ Live φ h a ∧ XRep K mg H (Live φ h) c fs cls dd
  | .f D => v = .ref D.f ∧ H D.c = some (LamX.CodeO D.c D.q) ∧ ¬ Live φ h D.c ∧ D.σ.length = D.ρ.length ∧ ∀ (i : Nat) (w : Vl0), D.ρ[i]? = some (some w) → ∃ x, D.σ[i]? = some (some x) ∧ VRep0 K φ h H x w
variable {mg : Str → Option Value}
theorem VRep.step {K : PySem.W.Frag} {φ φ' : List Addr} {h h' : Hh} {H H' : Hp} {v : V} {x : Vl} (s : Step φ h H φ' h' H') (r : VRep K mg φ h H v x) : VRep K mg φ' h' H' v x := by
  cases x with
  | d x => exact Rep.stay s.st r
  | r n =>
    obtain ⟨a, e, rfl⟩ := r
    exact ⟨a, pre_get s.pre e, rfl⟩
  | x c fs =>
    obtain ⟨a, cls, dd, rfl, e1, e2, xr⟩ := r
    obtain ⟨f1, f2⟩ := s.st a _ e1 exO_nt e2
    exact ⟨a, cls, dd, rfl, f1, f2, xr.stay s.st⟩
  | f D =>
    obtain ⟨e1, e2, e3, e4, e5⟩ := r
    obtain ⟨f1, f2⟩ := s.st _ _ e2 LamX.codeO_ne e3
    exact ⟨e1, f1, f2, e4, fun i w z => (e5 i w z).imp fun x q => ⟨q.1, q.2.step s⟩⟩
inductive VReps (K : PySem.W.Frag) (mg : Str → Option Value) (φ : List Addr) (h : Hh) (H : Hp) : List V → List Vl → Prop
  | nil : VReps K mg φ h H [] []
  | cons {v : V} {vs : List V} {x : Vl} {xs : List Vl} : VRep K mg φ h H v x → VReps K mg φ h H vs xs → VReps K mg φ h H (v :: vs) (x :: xs)
theorem VReps.step {K : PySem.W.Frag} {φ φ' : List Addr} {h h' : Hh} {H H' : Hp} (s : Step φ h H φ' h' H') : ∀ {vs : List V} {xs : List Vl}, VReps K mg φ h H vs xs → VReps K mg φ' h' H' vs xs
  | _, _, .nil => .nil
  | _, _, .cons r t => .cons (r.step s) (VReps.step s t)
theorem VReps.length {K : PySem.W.Frag} {φ : List Addr} {h : Hh} {H : Hp} : ∀ {vs : List V} {xs : List Vl}, VReps K mg φ h H vs xs → vs.length = xs.length
  | _, _, .nil => rfl
  | _, _, .cons _ t => by rw [List.length_cons, List.length_cons, VReps.length t]
/-- the slots -/
structure ERep (K : PySem.W.Frag) (mg : Str → Option Value) (φ : List Addr) (h : Hh) (H : Hp) (σ : St) (ρ : En) : Prop where
  len : σ.length = ρ.length
  at_ : ∀ (i : Nat) (v : Vl), ρ[i]? = some (some v) → ∃ x, σ[i]? = some (some x) ∧ VRep K mg φ h H x v
theorem ERep.step {K : PySem.W.Frag} {φ φ' : List Addr} {h h' : Hh} {H H' : Hp} {σ : St} {ρ : En} (s : Step φ h H φ' h' H') (r : ERep K mg φ h H σ ρ) : ERep K mg φ' h' H' σ ρ :=
  ⟨r.len, fun i v e => let ⟨x, e1, q⟩ := r.at_ i v e; ⟨x, e1, q.step s⟩⟩
theorem ERep.set {K : PySem.W.Frag} {φ : List Addr} {h : Hh} {H : Hp} {σ : St} {ρ : En} {i : Nat} {x : V} {v : Vl} (r : ERep K mg φ h H σ ρ) (q : VRep K mg φ h H x v) : ERep K mg φ h H (σ.set i (some x)) (ρ.set i (some v)) := by
  refine ⟨by rw [List.length_set, List.length_set, r.len], fun j w e => ?_⟩
  by_cases hj : i = j
  · subst hj
    have hl : i < ρ.length := by
      have := (List.getElem?_eq_some_iff.mp e).1
      rw [List.length_set] at this
      exact this
    rw [List.getElem?_set_self hl] at e
    have e' := Option.some.inj (Option.some.inj e)
    subst e'
    exact ⟨x, by rw [List.getElem?_set_self (by rw [r.len]; exact hl)], q⟩
  · rw [List.getElem?_set_ne hj] at e
    obtain ⟨y, e1, q1⟩ := r.at_ j w e
    exact ⟨y, by rw [List.getElem?_set_ne hj]; exact e1, q1⟩

/-! ### readings made of outcomes -/
section
variable (K : PySem.W.Frag) (mg : Str → Option Value)
/-- behind an outcome: Q of a value -/
def PoV (φ : List Addr) (h : Hh) (H : Hp) (o : Out Vl) (Q : VK) : Prop := match o with
  | .ok v h' => ∀ x H' φ', Step φ h H φ' h' H' → Sim K φ' h' H' → VRep K mg φ' h' H' x v → Q x H'
  | _ => False
def PoX (φ : List Addr) (h : Hh) (H : Hp) (o : Out Vl) (Q : VK) (E : XK) : Prop := match o with
  | .ok v h' => ∀ x H' φ', Step φ h H φ' h' H' → Sim K φ' h' H' → VRep K mg φ' h' H' x v → Q x H'
  | .ex c fs h' => ∀ cls dd H' φ', Step φ h H φ' h' H' → Sim K φ' h' H' → XRep K mg H' (Live φ' h') c fs cls dd → E cls dd H'
  | .no => False
def PoT (φ : List Addr) (h : Hh) (H : Hp) (o : Out Bool) (Q : Bool → Hp → Prop) (E : XK) : Prop := match o with
  | .ok b h' => ∀ H' φ', Step φ h H φ' h' H' → Sim K φ' h' H' → Q b H'
  | .ex c fs h' => ∀ cls dd H' φ', Step φ h H φ' h' H' → Sim K φ' h' H' → XRep K mg H' (Live φ' h') c fs cls dd → E cls dd H'
  | .no => False
def PoA (φ : List Addr) (h : Hh) (H : Hp) (o : Out (List Vl)) (Q : List V → Hp → Prop) (E : XK) : Prop := match o with
  | .ok vs h' => ∀ xs H' φ', Step φ h H φ' h' H' → Sim K φ' h' H' → VReps K mg φ' h' H' xs vs → Q xs H'
  | .ex c fs h' => ∀ cls dd H' φ', Step φ h H φ' h' H' → Sim K φ' h' H' → XRep K mg H' (Live φ' h') c fs cls dd → E cls dd H'
  | .no => False
def PoS (φ : List Addr) (h : Hh) (H : Hp) (o : So) (D : Ends) (W : WX) : Prop := match o with
  | .nx ρ h' => ∀ σ' H' φ', Step φ h H φ' h' H' → Sim K φ' h' H' → ERep K mg φ' h' H' σ' ρ → D.nx σ' H'
  | .bk ρ h' => ∀ σ' H' φ', Step φ h H φ' h' H' → Sim K φ' h' H' → ERep K mg φ' h' H' σ' ρ → D.bk σ' H'
  | .ct ρ h' => ∀ σ' H' φ', Step φ h H φ' h' H' → Sim K φ' h' H' → ERep K mg φ' h' H' σ' ρ → D.ct σ' H'
  | .rt v h' => ∀ x H' φ', Step φ h H φ' h' H' → Sim K φ' h' H' → VRep K mg φ' h' H' x v → D.rt x H'
  | .ex c fs ρ h' => ∀ cls dd σ' H' φ', Step φ h H φ' h' H' → Sim K φ' h' H' → ERep K mg φ' h' H' σ' ρ → XRep K mg H' (Live φ' h') c fs cls dd → W cls dd σ' H'
  | .no => False
def tE (W : WX) (f : Ev) : TE := fun σ H Q => ∃ φ h ρ, Sim K φ h H ∧ ERep K mg φ h H σ ρ ∧ PoX K mg φ h H (f ρ h) Q (WE W σ)
def tT (W : WX) (f : Tv) : TT := fun σ H Q => ∃ φ h ρ, Sim K φ h H ∧ ERep K mg φ h H σ ρ ∧ PoT K mg φ h H (f ρ h) Q (WE W σ)
def tA (W : WX) (f : Av) : TA := fun σ H Q => ∃ φ h ρ, Sim K φ h H ∧ ERep K mg φ h H σ ρ ∧ PoA K mg φ h H (f ρ h) Q (WE W σ)
def tS (W : WX) (f : Sv) : TS := fun D σ H => ∃ φ h ρ, Sim K φ h H ∧ ERep K mg φ h H σ ρ ∧ PoS K mg φ h H (f ρ h) D W
end
/-- the judgements: X's code e means f; W: what is wished of errors -/
def EE (X : Cx) (W : WX) (e : Expr) (f : Ev) : Prop := PE X e (tE X.K X.mg W f)
def ET (X : Cx) (W : WX) (e : Expr) (f : Tv) : Prop := PT X e (tT X.K X.mg W f)
def EA (X : Cx) (W : WX) (es : List Expr) (f : Av) : Prop := PA X es (tA X.K X.mg W f)
def ES (X : Cx) (W : WX) (st : Stmt) (f : Sv) : Prop := PS X st (tS X.K X.mg W f)
def ESs (X : Cx) (W : WX) (st : List Stmt) (f : Sv) : Prop := PSs X st (tS X.K X.mg W f)

theorem PE.of {X : Cx} {e : Expr} {t t' : TE} (h : PE X e t) (i : ∀ σ H Q, t' σ H Q → t σ H Q) : PE X e t' := ⟨fun pins s σ H Q I w => h.run pins s σ H Q I (i σ H Q w)⟩
theorem PT.of {X : Cx} {e : Expr} {t t' : TT} (h : PT X e t) (i : ∀ σ H Q, t' σ H Q → t σ H Q) : PT X e t' := ⟨fun pins s σ H Q I w => h.run pins s σ H Q I (i σ H Q w)⟩
theorem PW.of {X : Cx} {e : Expr} {t t' : TT} (h : PW X e t) (i : ∀ σ H Q, t' σ H Q → t σ H Q) : PW X e t' := ⟨fun wh pins s σ H Q I w => h.run wh pins s σ H Q I (i σ H Q w)⟩
theorem PA.of {X : Cx} {e : List Expr} {t t' : TA} (h : PA X e t) (i : ∀ σ H Q, t' σ H Q → t σ H Q) : PA X e t' := ⟨fun pos pins s σ H Q I w => h.run pos pins s σ H Q I (i σ H Q w)⟩
theorem PS.of {X : Cx} {e : Stmt} {t t' : TS} (h : PS X e t) (i : ∀ D σ H, t' D σ H → t D σ H) : PS X e t' := ⟨fun pins s σ H Q I w => h.run pins s σ H Q I (i Q σ H w)⟩
theorem PSs.of {X : Cx} {e : List Stmt} {t t' : TS} (h : PSs X e t) (i : ∀ D σ H, t' D σ H → t D σ H) : PSs X e t' := ⟨fun pins s σ H Q I w => h.run pins s σ H Q I (i Q σ H w)⟩
end Rk

/-! Rk1: the abstract heap grows, changes, is frozen; readings in a row. -/
namespace Rk
open PySem PySem.Spec L2
variable {mg : Str → Option Value}
section
variable {K : PySem.W.Frag} {mg : Str → Option Value} {φ φ' φ1 : List Addr} {h h' h1 : Hh} {H H' H1 : Hp} {a p : Addr} {n : Nat}

theorem Sim.live (s : Sim K φ h H) {a : Addr} (l : Live φ h a) : ∃ o, H a = some o := by
  obtain ⟨i, o, e1, e2⟩ := l
  obtain ⟨b, e3, r⟩ := s.ob i o e2
  rw [e1] at e3
  have e4 := Option.some.inj e3
  subst e4
  cases o with
  | lst xs => obtain ⟨xs, e, _⟩ := r; exact ⟨_, e⟩
  | dct kvs => obtain ⟨xs, e, _⟩ := r; exact ⟨_, e⟩
  | tbl x => obtain ⟨c, ps, _, e, _⟩ := r; exact ⟨_, e⟩
  | rl ns => obtain ⟨xs, e⟩ := r; exact ⟨_, e⟩
/-- what stands where a live object is -/
theorem Sim.kind (s : Sim K φ h H) {a : Addr} (l : Live φ h a) : (∃ xs, H a = some (.lst xs)) ∨ (∃ kvs, H a = some (.dK kvs)) ∨ ∃ ps, H a = some (.tbl ps) := by
  obtain ⟨i, o, e1, e2⟩ := l
  obtain ⟨b, e3, r⟩ := s.ob i o e2
  rw [e1] at e3
  have e4 := Option.some.inj e3
  subst e4
  cases o with
  | lst xs => obtain ⟨xs, e, _⟩ := r; exact .inl ⟨_, e⟩
  | dct kvs => obtain ⟨xs, e, _⟩ := r; exact .inr (.inl ⟨_, e⟩)
  | tbl x => obtain ⟨c, ps, _, e, _⟩ := r; exact .inr (.inr ⟨_, e⟩)
  | rl ns => obtain ⟨xs, e⟩ := r; exact .inl ⟨_, e⟩
theorem Sim.notCode (s : Sim K φ h H) {a c : Addr} {q : Str} (e : H a = some (LamX.CodeO c q)) : ¬ Live φ h a := fun l => by
  rcases s.kind l with ⟨xs, z⟩ | ⟨kvs, z⟩ | ⟨ps, z⟩ <;> rw [e] at z <;> unfold LamX.CodeO at z <;> cases z
theorem Sim.fresh (s : Sim K φ h H) (e : H p = none) : ¬ Live φ h p := fun l => by
  obtain ⟨o, q⟩ := s.live l
  rw [e] at q
  cases q
theorem ORep.stay {M M' : Addr → Prop} {o : Ob} (st : Stay H M H' M') (k : ∀ u, H a = some u → H' a = some u) (nc : ∀ (c : Addr) (q : Str), H c = some (LamX.CodeO c q) → ¬ M c) (r : ORep K H M a o) : ORep K H' M' a o := by
  cases o with
  | lst xs => obtain ⟨xs, e, q⟩ := r; exact ⟨xs, k _ e, q.stay st⟩
  | dct kvs => obtain ⟨xs, e, q⟩ := r; exact ⟨xs, k _ e, q.stay st⟩
  | tbl x =>
    obtain ⟨c, ps, e1, e2, e3, e4⟩ := r
    exact ⟨c, ps, e1, k _ e2, e3, fun pos cv z => (e4 pos cv z).imp fun c' w => ⟨w.1, (st _ _ w.2 LamX.codeO_ne (nc _ _ w.2)).1⟩⟩
  | rl ns => obtain ⟨xs, e⟩ := r; exact ⟨xs, k _ e⟩
/-- a new object that is not numbered -/
theorem Sim.grow (s : Sim K φ h H) {o : HO} (e : H p = none) : Step φ h H φ h (upd H p o) ∧ Sim K φ h (upd H p o) := by
  have k : ∀ b u, H b = some u → upd H p o b = some u := fun b u q => by rw [upd_ne (ne_of_none q e)]; exact q
  have st : Stay H (Live φ h) (upd H p o) (Live φ h) := fun b u q _ n => ⟨k b u q, n⟩
  refine ⟨⟨List.prefix_refl φ, st⟩, s.len, s.inj, fun i ob e2 => ?_, fun i ns e2 => ?_⟩
  · obtain ⟨b, e3, r⟩ := s.ob i ob e2
    exact ⟨b, e3, r.stay st (k b) fun _ _ z => s.notCode z⟩
  · obtain ⟨b, as, e3, e4, e5, e6⟩ := s.rf i ns e2
    exact ⟨b, as, e3, k b _ e4, e5, e6⟩
theorem live_new {o : Ob} (hl : φ.length = h.length) {b : Addr} : Live (φ ++ [p]) (h ++ [some o]) b ↔ Live φ h b ∨ b = p := by
  constructor
  · rintro ⟨i, u, e1, e2⟩
    by_cases hi : i < φ.length
    · rw [List.getElem?_append_left hi] at e1
      rw [List.getElem?_append_left (by omega)] at e2
      exact .inl ⟨i, u, e1, e2⟩
    · rw [List.getElem?_append_right (by omega)] at e1
      have : i - φ.length = 0 := by
        have := (List.getElem?_eq_some_iff.mp e1).1
        simp at this
        omega
      rw [this] at e1
      exact .inr (Option.some.inj e1).symm
  · rintro (⟨i, u, e1, e2⟩ | rfl)
    · exact ⟨i, u, by rw [List.getElem?_append_left (List.getElem?_eq_some_iff.mp e1).1]; exact e1, by rw [List.getElem?_append_left (List.getElem?_eq_some_iff.mp e2).1]; exact e2⟩
    · exact ⟨φ.length, o, by simp, by rw [hl]; simp⟩
/-- a new object that is numbered -/
theorem Sim.new (s : Sim K φ h H) {o : HO} {ob : Ob} (e : H p = none) (r : ∀ M, Stay H (Live φ h) (upd H p o) M → ORep K (upd H p o) M p ob) (nr : ∀ ns, ob ≠ .rl ns := by intro _ z; cases z) :
    Step φ h H (φ ++ [p]) (h ++ [some ob]) (upd H p o) ∧ Sim K (φ ++ [p]) (h ++ [some ob]) (upd H p o) ∧ VRep K mg (φ ++ [p]) (h ++ [some ob]) (upd H p o) (.ref p) (.r h.length) := by
  have k : ∀ b u, H b = some u → upd H p o b = some u := fun b u q => by rw [upd_ne (ne_of_none q e)]; exact q
  have st : Stay H (Live φ h) (upd H p o) (Live (φ ++ [p]) (h ++ [some ob])) := fun b u q _ n => ⟨k b u q, fun l => by
    rcases (live_new s.len).mp l with l | rfl
    · exact n l
    · rw [e] at q; cases q⟩
  have nl := s.fresh e
  have hgt : ∀ (i : Nat) (b : Addr) (u : Ob), (φ ++ [p])[i]? = some b → (h ++ [some ob])[i]? = some (some u) → (i < φ.length ∧ φ[i]? = some b ∧ h[i]? = some (some u)) ∨ (i = φ.length ∧ b = p ∧ u = ob) := fun i b u e1 e2 => by
    by_cases hi : i < φ.length
    · rw [List.getElem?_append_left hi] at e1
      rw [List.getElem?_append_left (by rw [← s.len]; exact hi)] at e2
      exact .inl ⟨hi, e1, e2⟩
    · have hz : i = φ.length := by
        have := (List.getElem?_eq_some_iff.mp e1).1
        simp at this
        omega
      subst hz
      rw [List.getElem?_append_right (by omega)] at e1
      rw [s.len, List.getElem?_append_right (by omega)] at e2
      simp at e1 e2
      exact .inr ⟨rfl, e1.symm, e2.symm⟩
  refine ⟨⟨List.prefix_append φ [p], st⟩, ⟨by simp [s.len], fun i j b u u' e1 e2 e3 e4 => ?_, fun i u e2 => ?_, fun i ns e2 => ?_⟩, ?_⟩
  · rcases hgt i b u e1 e3 with ⟨h1, h2, h3⟩ | ⟨h1, h2, h3⟩ <;> rcases hgt j b u' e2 e4 with ⟨g1, g2, g3⟩ | ⟨g1, g2, g3⟩
    · exact s.inj i j b u u' h2 g2 h3 g3
    · subst g2; exact absurd ⟨i, u, h2, h3⟩ nl
    · subst h2; exact absurd ⟨j, u', g2, g3⟩ nl
    · omega
  · by_cases hi : i < φ.length
    · have e2' : h[i]? = some (some u) := by
        rw [List.getElem?_append_left (by rw [← s.len]; exact hi)] at e2
        exact e2
      obtain ⟨b, e3, q⟩ := s.ob i u e2'
      exact ⟨b, by rw [List.getElem?_append_left hi]; exact e3, q.stay st (k b) fun _ _ z => s.notCode z⟩
    · have hz : i = h.length := by
        have := (List.getElem?_eq_some_iff.mp e2).1
        have := s.len
        simp at *
        omega
      subst hz
      rw [List.getElem?_append_right (by omega)] at e2
      simp at e2
      subst e2
      exact ⟨p, by rw [← s.len]; simp, r _ st⟩
  · by_cases hi : i < φ.length
    · have e2' : h[i]? = some (some (.rl ns)) := by
        rw [List.getElem?_append_left (by rw [← s.len]; exact hi)] at e2
        exact e2
      obtain ⟨b, as, e3, e4, e5, e6⟩ := s.rf i ns e2'
      refine ⟨b, as, by rw [List.getElem?_append_left hi]; exact e3, k b _ e4, e5, fun k0 n0 z => ?_⟩
      obtain ⟨z1, z2⟩ := e6 k0 n0 z
      exact ⟨z1, by rw [List.getElem?_append_left (by omega)]; exact z2⟩
    · have hz : i = h.length := by
        have := (List.getElem?_eq_some_iff.mp e2).1
        have := s.len
        simp at *
        omega
      subst hz
      rw [List.getElem?_append_right (by omega)] at e2
      simp at e2
      exact absurd e2 (nr ns)
  · exact ⟨p, by rw [← s.len]; simp, rfl⟩
theorem live_set {o ob : Ob} (e : h[n]? = some (some o)) {b : Addr} : Live φ (h.set n (some ob)) b ↔ Live φ h b := by
  have hl := (List.getElem?_eq_some_iff.mp e).1
  constructor
  · rintro ⟨i, u, e1, e2⟩
    by_cases hi : n = i
    · subst hi; exact ⟨n, o, e1, e⟩
    · rw [List.getElem?_set_ne hi] at e2; exact ⟨i, u, e1, e2⟩
  · rintro ⟨i, u, e1, e2⟩
    by_cases hi : n = i
    · subst hi; exact ⟨n, ob, e1, by rw [List.getElem?_set_self hl]⟩
    · exact ⟨i, u, e1, by rw [List.getElem?_set_ne hi]; exact e2⟩
/-- an object changes -/
theorem Sim.write (s : Sim K φ h H) {o ob : Ob} {u : HO} (e : h[n]? = some (some o)) (ea : φ[n]? = some a) (r : ∀ M, Stay H (Live φ h) (upd H a u) M → ORep K (upd H a u) M a ob) (nr : ∀ ns, ob ≠ .rl ns := by intro _ z; cases z) :
    Step φ h H φ (h.set n (some ob)) (upd H a u) ∧ Sim K φ (h.set n (some ob)) (upd H a u) := by
  have la : Live φ h a := ⟨n, o, ea, e⟩
  have hl := (List.getElem?_eq_some_iff.mp e).1
  have st : Stay H (Live φ h) (upd H a u) (Live φ (h.set n (some ob))) := fun b v q _ nb => ⟨by rw [upd_ne (fun z => nb (by rw [z]; exact la))]; exact q, fun l => nb ((live_set e).mp l)⟩
  have back : ∀ (i : Nat) (v : Ob), (h.set n (some ob))[i]? = some (some v) → ∃ v', h[i]? = some (some v') := fun i v e2 => by
    by_cases hi : n = i
    · subst hi; exact ⟨o, e⟩
    · rw [List.getElem?_set_ne hi] at e2; exact ⟨v, e2⟩
  refine ⟨⟨List.prefix_refl φ, st⟩, ⟨by rw [List.length_set]; exact s.len, fun i j b v v' e1 e2 e3 e4 => ?_, fun i v e2 => ?_, fun i ns e2 => ?_⟩⟩
  · obtain ⟨w, f3⟩ := back i v e3
    obtain ⟨w', f4⟩ := back j v' e4
    exact s.inj i j b w w' e1 e2 f3 f4
  · by_cases hi : n = i
    · subst hi
      rw [List.getElem?_set_self hl] at e2
      have e3 := Option.some.inj (Option.some.inj e2)
      subst e3
      exact ⟨a, ea, r _ st⟩
    · rw [List.getElem?_set_ne hi] at e2
      obtain ⟨b, e3, q⟩ := s.ob i v e2
      refine ⟨b, e3, q.stay st (fun w hw => ?_) fun _ _ z => s.notCode z⟩
      rw [upd_ne (fun z => hi (s.inj n i a o v ea (by rw [← z]; exact e3) e e2))]
      exact hw
  · by_cases hi : n = i
    · subst hi
      rw [List.getElem?_set_self hl] at e2
      exact absurd (Option.some.inj (Option.some.inj e2)) (nr ns)
    · rw [List.getElem?_set_ne hi] at e2
      obtain ⟨b, as, e3, e4, e5, e6⟩ := s.rf i ns e2
      refine ⟨b, as, e3, ?_, e5, e6⟩
      rw [upd_ne (fun z => hi (s.inj n i a o _ ea (by rw [← z]; exact e3) e e2))]
      exact e4
/-- an object is frozen: it never changes from now on -/
theorem Sim.freeze (s : Sim K φ h H) {o : Ob} (e : h[n]? = some (some o)) (ea : φ[n]? = some a) : Step φ h H φ (h.set n none) H ∧ Sim K φ (h.set n none) H ∧ ¬ Live φ (h.set n none) a := by
  have hl := (List.getElem?_eq_some_iff.mp e).1
  have less : ∀ b, Live φ (h.set n none) b → Live φ h b := fun b ⟨i, u, e1, e2⟩ => by
    by_cases hi : n = i
    · subst hi; rw [List.getElem?_set_self hl] at e2; cases e2
    · rw [List.getElem?_set_ne hi] at e2; exact ⟨i, u, e1, e2⟩
  have st : Stay H (Live φ h) H (Live φ (h.set n none)) := fun b v q _ nb => ⟨q, fun l => nb (less b l)⟩
  have back : ∀ (i : Nat) (v : Ob), (h.set n none)[i]? = some (some v) → h[i]? = some (some v) ∧ n ≠ i := fun i v e2 => by
    by_cases hi : n = i
    · subst hi; rw [List.getElem?_set_self hl] at e2; cases e2
    · rw [List.getElem?_set_ne hi] at e2; exact ⟨e2, hi⟩
  refine ⟨⟨List.prefix_refl φ, st⟩, ⟨by rw [List.length_set]; exact s.len, fun i j b v v' e1 e2 e3 e4 => s.inj i j b v v' e1 e2 (back i v e3).1 (back j v' e4).1, fun i v e2 => ?_, fun i ns e2 => s.rf i ns (back i _ e2).1⟩, ?_⟩
  · obtain ⟨b, e3, q⟩ := s.ob i v (back i v e2).1
    exact ⟨b, e3, q.stay st (fun _ hw => hw) fun _ _ z => s.notCode z⟩
  · rintro ⟨i, v, e1, e2⟩
    have q := back i v e2
    exact q.2 (s.inj n i a o v ea e1 e q.1)

/-! ### readings in a row -/
theorem PoX.pull {o : Out Vl} {Q : VK} {E : XK} (s : Step φ h H φ1 h1 H1) (q : PoX K mg φ h H o Q E) : PoX K mg φ1 h1 H1 o Q E := by
  cases o with
  | ok v h2 => exact fun x H' φ' st => q x H' φ' (s.trans st)
  | ex c fs h2 => exact fun cls dd H' φ' st => q cls dd H' φ' (s.trans st)
  | no => exact q
theorem PoT.pull {o : Out Bool} {Q : Bool → Hp → Prop} {E : XK} (s : Step φ h H φ1 h1 H1) (q : PoT K mg φ h H o Q E) : PoT K mg φ1 h1 H1 o Q E := by
  cases o with
  | ok v h2 => exact fun H' φ' st => q H' φ' (s.trans st)
  | ex c fs h2 => exact fun cls dd H' φ' st => q cls dd H' φ' (s.trans st)
  | no => exact q
theorem PoA.pull {o : Out (List Vl)} {Q : List V → Hp → Prop} {E : XK} (s : Step φ h H φ1 h1 H1) (q : PoA K mg φ h H o Q E) : PoA K mg φ1 h1 H1 o Q E := by
  cases o with
  | ok v h2 => exact fun x H' φ' st => q x H' φ' (s.trans st)
  | ex c fs h2 => exact fun cls dd H' φ' st => q cls dd H' φ' (s.trans st)
  | no => exact q
theorem PoS.pull {o : So} {D : Ends} {W : WX} (s : Step φ h H φ1 h1 H1) (q : PoS K mg φ h H o D W) : PoS K mg φ1 h1 H1 o D W := by
  cases o with
  | nx ρ h2 => exact fun x H' φ' st => q x H' φ' (s.trans st)
  | rt v h2 => exact fun x H' φ' st => q x H' φ' (s.trans st)
  | bk ρ h2 => exact fun x H' φ' st => q x H' φ' (s.trans st)
  | ct ρ h2 => exact fun x H' φ' st => q x H' φ' (s.trans st)
  | ex c fs ρ h2 => exact fun cls dd x H' φ' st => q cls dd x H' φ' (s.trans st)
  | no => exact q
/-- the outcome's own end, at once -/
theorem PoX.now {v : Vl} {x : V} {Q : VK} {E : XK} (q : PoX K mg φ h H (.ok v h) Q E) (s : Sim K φ h H) (r : VRep K mg φ h H x v) : Q x H := q x H φ (Step.refl _ _ _) s r
variable {E : XK}
theorem PoX.goE {o : Out Vl} {k : Vl → Hh → Out Vl} {Q : VK} {Q1 : VK} (q : PoX K mg φ h H (o.bind k) Q E)
    (hk : ∀ (x : V) (v : Vl) (h1 : Hh) (H1 : Hp) (φ1 : List Addr), Step φ h H φ1 h1 H1 → Sim K φ1 h1 H1 → VRep K mg φ1 h1 H1 x v → PoX K mg φ1 h1 H1 (k v h1) Q E → Q1 x H1) : PoX K mg φ h H o Q1 E := by
  cases o with
  | ok v h1 => exact fun x H' φ' st sm' rv => hk x v h1 H' φ' st sm' rv (PoX.pull st q)
  | ex c fs h1 => exact q
  | no => exact q
theorem PoX.goT {o : Out Bool} {k : Bool → Hh → Out Vl} {Q : VK} {Q1 : (Bool → Hp → Prop)} (q : PoX K mg φ h H (o.bind k) Q E)
    (hk : ∀ (v : Bool) (h1 : Hh) (H1 : Hp) (φ1 : List Addr), Step φ h H φ1 h1 H1 → Sim K φ1 h1 H1 → PoX K mg φ1 h1 H1 (k v h1) Q E → Q1 v H1) : PoT K mg φ h H o Q1 E := by
  cases o with
  | ok v h1 => exact fun H' φ' st sm' => hk v h1 H' φ' st sm' (PoX.pull st q)
  | ex c fs h1 => exact q
  | no => exact q
theorem PoX.goA {o : Out (List Vl)} {k : (List Vl) → Hh → Out Vl} {Q : VK} {Q1 : (List V → Hp → Prop)} (q : PoX K mg φ h H (o.bind k) Q E)
    (hk : ∀ (x : List V) (v : List Vl) (h1 : Hh) (H1 : Hp) (φ1 : List Addr), Step φ h H φ1 h1 H1 → Sim K φ1 h1 H1 → VReps K mg φ1 h1 H1 x v → PoX K mg φ1 h1 H1 (k v h1) Q E → Q1 x H1) : PoA K mg φ h H o Q1 E := by
  cases o with
  | ok v h1 => exact fun x H' φ' st sm' rv => hk x v h1 H' φ' st sm' rv (PoX.pull st q)
  | ex c fs h1 => exact q
  | no => exact q
theorem PoT.goE {o : Out Vl} {k : Vl → Hh → Out Bool} {Q : (Bool → Hp → Prop)} {Q1 : VK} (q : PoT K mg φ h H (o.bind k) Q E)
    (hk : ∀ (x : V) (v : Vl) (h1 : Hh) (H1 : Hp) (φ1 : List Addr), Step φ h H φ1 h1 H1 → Sim K φ1 h1 H1 → VRep K mg φ1 h1 H1 x v → PoT K mg φ1 h1 H1 (k v h1) Q E → Q1 x H1) : PoX K mg φ h H o Q1 E := by
  cases o with
  | ok v h1 => exact fun x H' φ' st sm' rv => hk x v h1 H' φ' st sm' rv (PoT.pull st q)
  | ex c fs h1 => exact q
  | no => exact q
theorem PoT.goT {o : Out Bool} {k : Bool → Hh → Out Bool} {Q : (Bool → Hp → Prop)} {Q1 : (Bool → Hp → Prop)} (q : PoT K mg φ h H (o.bind k) Q E)
    (hk : ∀ (v : Bool) (h1 : Hh) (H1 : Hp) (φ1 : List Addr), Step φ h H φ1 h1 H1 → Sim K φ1 h1 H1 → PoT K mg φ1 h1 H1 (k v h1) Q E → Q1 v H1) : PoT K mg φ h H o Q1 E := by
  cases o with
  | ok v h1 => exact fun H' φ' st sm' => hk v h1 H' φ' st sm' (PoT.pull st q)
  | ex c fs h1 => exact q
  | no => exact q
theorem PoT.goA {o : Out (List Vl)} {k : (List Vl) → Hh → Out Bool} {Q : (Bool → Hp → Prop)} {Q1 : (List V → Hp → Prop)} (q : PoT K mg φ h H (o.bind k) Q E)
    (hk : ∀ (x : List V) (v : List Vl) (h1 : Hh) (H1 : Hp) (φ1 : List Addr), Step φ h H φ1 h1 H1 → Sim K φ1 h1 H1 → VReps K mg φ1 h1 H1 x v → PoT K mg φ1 h1 H1 (k v h1) Q E → Q1 x H1) : PoA K mg φ h H o Q1 E := by
  cases o with
  | ok v h1 => exact fun x H' φ' st sm' rv => hk x v h1 H' φ' st sm' rv (PoT.pull st q)
  | ex c fs h1 => exact q
  | no => exact q
theorem PoA.goE {o : Out Vl} {k : Vl → Hh → Out (List Vl)} {Q : (List V → Hp → Prop)} {Q1 : VK} (q : PoA K mg φ h H (o.bind k) Q E)
    (hk : ∀ (x : V) (v : Vl) (h1 : Hh) (H1 : Hp) (φ1 : List Addr), Step φ h H φ1 h1 H1 → Sim K φ1 h1 H1 → VRep K mg φ1 h1 H1 x v → PoA K mg φ1 h1 H1 (k v h1) Q E → Q1 x H1) : PoX K mg φ h H o Q1 E := by
  cases o with
  | ok v h1 => exact fun x H' φ' st sm' rv => hk x v h1 H' φ' st sm' rv (PoA.pull st q)
  | ex c fs h1 => exact q
  | no => exact q
theorem PoA.goT {o : Out Bool} {k : Bool → Hh → Out (List Vl)} {Q : (List V → Hp → Prop)} {Q1 : (Bool → Hp → Prop)} (q : PoA K mg φ h H (o.bind k) Q E)
    (hk : ∀ (v : Bool) (h1 : Hh) (H1 : Hp) (φ1 : List Addr), Step φ h H φ1 h1 H1 → Sim K φ1 h1 H1 → PoA K mg φ1 h1 H1 (k v h1) Q E → Q1 v H1) : PoT K mg φ h H o Q1 E := by
  cases o with
  | ok v h1 => exact fun H' φ' st sm' => hk v h1 H' φ' st sm' (PoA.pull st q)
  | ex c fs h1 => exact q
  | no => exact q
theorem PoA.goA {o : Out (List Vl)} {k : (List Vl) → Hh → Out (List Vl)} {Q : (List V → Hp → Prop)} {Q1 : (List V → Hp → Prop)} (q : PoA K mg φ h H (o.bind k) Q E)
    (hk : ∀ (x : List V) (v : List Vl) (h1 : Hh) (H1 : Hp) (φ1 : List Addr), Step φ h H φ1 h1 H1 → Sim K φ1 h1 H1 → VReps K mg φ1 h1 H1 x v → PoA K mg φ1 h1 H1 (k v h1) Q E → Q1 x H1) : PoA K mg φ h H o Q1 E := by
  cases o with
  | ok v h1 => exact fun x H' φ' st sm' rv => hk x v h1 H' φ' st sm' rv (PoA.pull st q)
  | ex c fs h1 => exact q
  | no => exact q
/-- outcome of an expression, then a statement's end -/
def Out.then {α : Type} (ρ : En) : Out α → (α → Hh → So) → So
  | .ok a h, f => f a h
  | .ex c fs h, _ => .ex c fs ρ h
  | .no, _ => .no
theorem Out.then_ok {α : Type} (ρ : En) (a : α) (h : Hh) (f : α → Hh → So) : Out.then ρ (Out.ok a h) f = f a h := rfl
theorem Out.then_ex {α : Type} (ρ : En) (c : Str) (fs : List (Str × Da)) (h : Hh) (f : α → Hh → So) : Out.then ρ (Out.ex c fs h) f = .ex c fs ρ h := rfl
variable {W : WX} {σ : L2.St} {ρ : En} {D : Ends}
theorem PoS.goE {o : Out Vl} {k : Vl → Hh → So} {Q1 : VK} (er : ERep K mg φ h H σ ρ) (q : PoS K mg φ h H (Out.then ρ o k) D W)
    (hk : ∀ (x : V) (v : Vl) (h1 : Hh) (H1 : Hp) (φ1 : List Addr), Step φ h H φ1 h1 H1 → Sim K φ1 h1 H1 → ERep K mg φ1 h1 H1 σ ρ → VRep K mg φ1 h1 H1 x v → PoS K mg φ1 h1 H1 (k v h1) D W → Q1 x H1) : PoX K mg φ h H o Q1 (WE W σ) := by
  cases o with
  | ok v h1 => exact fun x H' φ' st sm' rv => hk x v h1 H' φ' st sm' (er.step st) rv (PoS.pull st q)
  | ex c fs h1 => exact fun cls dd H' φ' st sm' xr => q cls dd σ H' φ' st sm' (er.step st) xr
  | no => exact q
theorem PoS.goT {o : Out Bool} {k : Bool → Hh → So} {Q1 : (Bool → Hp → Prop)} (er : ERep K mg φ h H σ ρ) (q : PoS K mg φ h H (Out.then ρ o k) D W)
    (hk : ∀ (v : Bool) (h1 : Hh) (H1 : Hp) (φ1 : List Addr), Step φ h H φ1 h1 H1 → Sim K φ1 h1 H1 → ERep K mg φ1 h1 H1 σ ρ → PoS K mg φ1 h1 H1 (k v h1) D W → Q1 v H1) : PoT K mg φ h H o Q1 (WE W σ) := by
  cases o with
  | ok v h1 => exact fun H' φ' st sm' => hk v h1 H' φ' st sm' (er.step st) (PoS.pull st q)
  | ex c fs h1 => exact fun cls dd H' φ' st sm' xr => q cls dd σ H' φ' st sm' (er.step st) xr
  | no => exact q
theorem PoS.goA {o : Out (List Vl)} {k : (List Vl) → Hh → So} {Q1 : (List V → Hp → Prop)} (er : ERep K mg φ h H σ ρ) (q : PoS K mg φ h H (Out.then ρ o k) D W)
    (hk : ∀ (x : List V) (v : List Vl) (h1 : Hh) (H1 : Hp) (φ1 : List Addr), Step φ h H φ1 h1 H1 → Sim K φ1 h1 H1 → ERep K mg φ1 h1 H1 σ ρ → VReps K mg φ1 h1 H1 x v → PoS K mg φ1 h1 H1 (k v h1) D W → Q1 x H1) : PoA K mg φ h H o Q1 (WE W σ) := by
  cases o with
  | ok v h1 => exact fun x H' φ' st sm' rv => hk x v h1 H' φ' st sm' (er.step st) rv (PoS.pull st q)
  | ex c fs h1 => exact fun cls dd H' φ' st sm' xr => q cls dd σ H' φ' st sm' (er.step st) xr
  | no => exact q
end
end Rk

/-! Rk2: expressions. -/
namespace Rk
open PySem PySem.Spec L2
variable {mg : Str → Option Value}
/-! ### data out of values -/
def fitB (n : Nat) : Bool := decide (n ≤ 16777216)
theorem fitB_ok {n : Nat} (h : n ≤ 16777216) : fitB n = true := decide_eq_true h
theorem fitB_le {n : Nat} (h : fitB n = true) : n ≤ sizeLine := by
  rw [sizeLine_eq]
  exact of_decide_eq_true h
/-- a list that is read -/
def asL : Vl → Hh → Option (List Da)
  | .d (.list xs), _ => some xs
  | .r n, h => match h[n]? with
    | some (some (.lst xs)) => some xs
    | _ => none
  | _, _ => none
/-- the data of a value, as it stands now -/
def asD : Vl → Hh → Option Da
  | .d x, _ => some x
  | .r n, h => match h[n]? with
    | some (some (.lst xs)) => some (.list xs)
    | _ => none
  | _, _ => none
/-- data for ever: an object is frozen -/
def fz : Vl → Hh → Option (Da × Hh)
  | .d x, h => some (x, h)
  | .r n, h => match h[n]? with
    | some (some (.lst xs)) => some (.list xs, h.set n none)
    | _ => none
  | _, _ => none
def fzs : List Vl → Hh → Option (List Da × Hh)
  | [], h => some ([], h)
  | v :: vs, h => (fz v h).bind fun p => (fzs vs p.2).map fun q => (p.1 :: q.1, q.2)
section
variable {K : PySem.W.Frag} {φ : List Addr} {h h' : Hh} {H : Hp} {x : V} {v : Vl}
theorem Sim.at_ (s : Sim K φ h H) {n : Nat} {o : Ob} {a : Addr} (e : h[n]? = some (some o)) (ea : φ[n]? = some a) : ORep K H (Live φ h) a o := by
  obtain ⟨b, e1, r⟩ := s.ob n o e
  rw [ea] at e1
  have := Option.some.inj e1
  subst this
  exact r
theorem asL_ok {ds : List Da} (s : Sim K φ h H) (r : VRep K mg φ h H x v) (e : asL v h = some ds) : ∃ a xs, x = .ref a ∧ SqL K H a xs ∧ Reps K H (Live φ h) xs ds := by
  unfold asL at e
  split at e
  · cases e
    cases r with
    | lst h1 n r => exact ⟨_, _, rfl, .inl h1, r⟩
    | lstK h1 r => exact ⟨_, _, rfl, .inr h1, r⟩
  · split at e
    · cases e
      obtain ⟨a, ea, rfl⟩ := r
      obtain ⟨xs, e2, q⟩ := s.at_ (by assumption) ea
      exact ⟨a, xs, rfl, .of e2, q⟩
    · cases e
  · cases e
mutual
theorem Rep.dp {M : Addr → Prop} : ∀ {v : V} {d : Da}, Rep K H M v d → d.hasDict = false → Dp K H v d
  | _, _, .non, _ => .non
  | _, _, .bl b, _ => .bl b
  | _, _, .int i, _ => .int i
  | _, _, .str x, _ => .str x
  | _, _, .tup h n r, e => .tup (.inl h) (Reps.dp r (by unfold PyData.hasDict at e; exact e))
  | _, _, .tupK h r, e => .tup (.inr h) (Reps.dp r (by unfold PyData.hasDict at e; exact e))
  | _, _, .lst h n r, e => .lst (.inl h) (Reps.dp r (by unfold PyData.hasDict at e; exact e))
  | _, _, .lstK h r, e => .lst (.inr h) (Reps.dp r (by unfold PyData.hasDict at e; exact e))
  | _, _, .dct0 h n, e => by
    unfold PyData.hasDict at e
    cases e
  | _, _, .dct _ _ _ _ _, e => by
    unfold PyData.hasDict at e
    cases e
  | _, _, .fn _, e => by
    unfold PyData.hasDict at e
    cases e
  | _, _, .plt _ _ _ _, e => by
    unfold PyData.hasDict at e
    cases e
theorem Reps.dp {M : Addr → Prop} : ∀ {vs : List V} {ds : List Da}, Reps K H M vs ds → PyData.hasDictAll ds = false → DpAll K H vs ds
  | _, _, .nil, _ => .nil
  | _, _, .cons r t, e => by
    unfold PyData.hasDictAll at e
    rw [Bool.or_eq_false_iff] at e
    exact .cons (Rep.dp r e.1) (Reps.dp t e.2)
end
theorem asD_ok {d : Da} (s : Sim K φ h H) (r : VRep K mg φ h H x v) (e : asD v h = some d) (nd : d.hasDict = false) : Dp K H x d := by
  unfold asD at e
  split at e
  · cases e
    exact Rep.dp r nd
  · split at e
    · cases e
      obtain ⟨a, ea, rfl⟩ := r
      obtain ⟨xs, e2, q⟩ := s.at_ (by assumption) ea
      exact .lst (.of e2) (Reps.dp q (by unfold PyData.hasDict at nd; exact nd))
    · cases e
  · cases e
theorem fz_ok {d : Da} (s : Sim K φ h H) (r : VRep K mg φ h H x v) (e : fz v h = some (d, h')) : Step φ h H φ h' H ∧ Sim K φ h' H ∧ Rep K H (Live φ h') x d := by
  unfold fz at e
  split at e
  · cases e
    exact ⟨Step.refl _ _ _, s, r⟩
  · split at e
    · cases e
      obtain ⟨a, ea, rfl⟩ := r
      rename_i hn
      obtain ⟨xs, e2, q⟩ := s.at_ hn ea
      obtain ⟨s1, s2, s3⟩ := s.freeze hn ea
      exact ⟨s1, s2, .lst (.inl e2) s3 (q.stay s1.st)⟩
    · cases e
  · cases e
theorem fzs_ok : ∀ {vs : List Vl} {xs : List V} {ds : List Da} {h h' : Hh}, Sim K φ h H → VReps K mg φ h H xs vs → fzs vs h = some (ds, h') → Step φ h H φ h' H ∧ Sim K φ h' H ∧ Reps K H (Live φ h') xs ds
  | [], _, _, _, _, s, .nil, e => by
    cases e
    exact ⟨Step.refl _ _ _, s, .nil⟩
  | v :: vs, _, ds, h, h', s, .cons r t, e => by
    unfold fzs at e
    cases e1 : fz v h with
    | none => rw [e1] at e; cases e
    | some p =>
      obtain ⟨d, h1⟩ := p
      rw [e1] at e
      dsimp only [Option.bind_some] at e
      obtain ⟨s1, s2, s3⟩ := fz_ok s r e1
      cases e2 : fzs vs h1 with
      | none => rw [e2] at e; cases e
      | some q =>
        obtain ⟨es, h2⟩ := q
        rw [e2] at e
        cases e
        obtain ⟨t1, t2, t3⟩ := fzs_ok s2 (t.step s1) e2
        exact ⟨s1.trans t1, t2, .cons (s3.stay t1.st) t3⟩
end

/-! ### names, constants -/
def eVar (i : Nat) : Ev := fun ρ h => match ρ[i]? with
  | some (some v) => .ok v h
  | _ => .no
def eD (d : Da) : Ev := fun _ h => .ok (.d d) h
section
variable {X : Cx} {W : WX}
theorem ee_var (i : Nat) {x : Str} {pos : Pos} (hN : X.N[i]? = some x := by rfl) (hv : Vis X.env.scope x := by first | exact Or.inl rfl | exact Or.inr (Or.inl rfl) | exact Or.inr (Or.inr rfl)) (hd : (x == ("__debug__" : Str)) = false := by decide)
    (hcd : (x == ("__classdict__" : Str)) = false := by decide) : EE X W (.Name x pos) (eVar i) :=
  PE.of (pe_var hN hv hd hcd) fun σ H Q ⟨φ, h, ρ, sm, er, q⟩ => by
    unfold eVar at q
    split at q
    · rename_i v e
      obtain ⟨y, e1, r⟩ := er.at_ i v e
      exact ⟨y, e1, q.now sm r⟩
    · exact q.elim
theorem ee_c {e : Expr} {v : V} {d : Da} (p : PE X e (tC v)) (k : KRep X.K v d) : EE X W e (eD d) :=
  PE.of p fun σ H Q ⟨φ, h, ρ, sm, er, q⟩ => PoX.now (v := .d d) q sm (k _ _)
theorem ee_int {i : Int} {j : Nat} {pos : Pos} : EE X W (.Constant (.int i) j pos) (eD (.int i)) := ee_c pe_int fun _ _ => .int i
theorem ee_bl {b : Bool} {j : Nat} {pos : Pos} : EE X W (.Constant (.bool b) j pos) (eD (.bool b)) := ee_c pe_bl fun _ _ => .bl b
theorem ee_non {j : Nat} {pos : Pos} : EE X W (.Constant .none j pos) (eD .none) := ee_c pe_non fun _ _ => .non
theorem ee_str {x : Str} {j : Nat} {pos : Pos} : EE X W (.Constant (.str x) j pos) (eD (.str x)) := ee_c pe_str fun _ _ => .str x
theorem ee_glob {x : Str} {v : V} {u : Value} {d : Da} {pos : Pos} (hg : Gl X x) (hm : X.mg x = some u) (r : RelV v u) (k : KRep X.K v d) (hd : (x == ("__debug__" : Str)) = false := by decide) : EE X W (.Name x pos) (eD d) := ee_c (pe_glob hg hm r hd) k
end

/-! ### operators -/
def ofO : Option (Vl × Hh) → Out Vl
  | some p => .ok p.1 p.2
  | none => .no
theorem ofO_some (v : Vl) (h : Hh) : ofO (some (v, h)) = .ok v h := rfl
abbrev G2 := Vl → Vl → Hh → Option (Vl × Hh)
def eOp (g : G2) (a b : Ev) : Ev := fun ρ h => (a ρ h).bind fun x h1 => (b ρ h1).bind fun y h2 => ofO (g x y h2)
def Ok2 (K : PySem.W.Frag) (mg : Str → Option Value) (r : R2) (g : G2) : Prop := ∀ (φ : List Addr) (h : Hh) (H : Hp) (x y : V) (a b : Vl) (Q : VK) (v : Vl) (h' : Hh), Sim K φ h H → VRep K mg φ h H x a → VRep K mg φ h H y b → g a b h = some (v, h') →
  (∀ z H' φ', Step φ h H φ' h' H' → Sim K φ' h' H' → VRep K mg φ' h' H' z v → Q z H') → r x y H Q
theorem PoX.ofO {K : PySem.W.Frag} {mg : Str → Option Value} {φ : List Addr} {h : Hh} {H : Hp} {o : Option (Vl × Hh)} {Q : VK} {E : XK} (q : PoX K mg φ h H (Rk.ofO o) Q E) :
    ∃ v h', o = some (v, h') ∧ ∀ z H' φ', Step φ h H φ' h' H' → Sim K φ' h' H' → VRep K mg φ' h' H' z v → Q z H' := by
  cases o with
  | none => exact q.elim
  | some p => exact ⟨p.1, p.2, rfl, q⟩
section
variable {X : Cx} {W : WX} {a b c : Expr} {fa fb fc : Ev} {pos : Pos} {r r' : R2} {g g' : G2}
theorem tOp_ok {σ : L2.St} {H : Hp} {Q : VK} (ok : Ok2 X.K X.mg r g) (hf : tE X.K X.mg W (eOp g fa fb) σ H Q) : tOp r (tE X.K X.mg W fa) (tE X.K X.mg W fb) σ H Q := by
  obtain ⟨φ, h, ρ, sm, er, q⟩ := hf
  refine ⟨φ, h, ρ, sm, er, PoX.goE q fun x v h1 H1 φ1 st sm1 rv q1 => ⟨φ1, h1, ρ, sm1, er.step st, PoX.goE q1 fun y w h2 H2 φ2 st2 sm2 rw q2 => ?_⟩⟩
  obtain ⟨z, h3, e, k⟩ := PoX.ofO q2
  exact ok φ2 h2 H2 x y v w Q z h3 sm2 (rv.step st2) rw e k
theorem ee_op {op : Operator} (ho : OpR X (binaryOp op) r) (ok : Ok2 X.K X.mg r g) (ha : EE X W a fa) (hb : EE X W b fb) : EE X W (.BinOp a op b pos) (eOp g fa fb) :=
  PE.of (pe_op ho ha hb) fun σ H Q hf => tOp_ok ok hf
theorem ee_cmp {op : CmpOp} (ho : OpR X (compareOp op) r) (ok : Ok2 X.K X.mg r g) (ha : EE X W a fa) (hb : EE X W b fb) (hm : behindInMarks op b = false) : EE X W (.Compare a [op] [b] pos) (eOp g fa fb) :=
  PE.of (pe_cmpR ho ha hb hm) fun σ H Q hf => tOp_ok ok hf
/-- a value that is a truth -/
def truO : Vl → Hh → Out Bool
  | .d (.bool b), h => .ok b h
  | _, _ => .no
def eT (f : Ev) : Tv := fun ρ h => (f ρ h).bind truO
theorem VRep.bl {K : PySem.W.Frag} {φ : List Addr} {h : Hh} {H : Hp} {x : V} {c : Bool} (r : VRep K mg φ h H x (.d (.bool c))) : x = .bl c := by
  cases r
  rfl
theorem PoT.bl {K : PySem.W.Frag} {mg : Str → Option Value} {φ : List Addr} {h : Hh} {H : Hp} {v : Vl} {x : V} {Q : Bool → Hp → Prop} {E : XK} (sm : Sim K φ h H) (rv : VRep K mg φ h H x v)
    (q : PoT K mg φ h H (truO v h) Q E) : ∃ k, x = .bl k ∧ Q k H := by
  unfold truO at q
  split at q
  · exact ⟨_, VRep.bl rv, q H φ (Step.refl _ _ _) sm⟩
  · exact q.elim
theorem tTest_ok {f : Ev} {t : TE} {σ : L2.St} {H : Hp} {Q : Bool → Hp → Prop} (i : ∀ Q, tE X.K X.mg W f σ H Q → t σ H Q) (hf : tT X.K X.mg W (eT f) σ H Q) : tTest t σ H Q := by
  obtain ⟨φ, h, ρ, sm, er, q⟩ := hf
  exact i _ ⟨φ, h, ρ, sm, er, PoT.goE q fun x v h1 H1 φ1 st sm1 rv q1 => PoT.bl sm1 rv q1⟩
theorem et_cmp {op : CmpOp} (ho : OpR X (compareOp op) r) (ok : Ok2 X.K X.mg r g) (ha : EE X W a fa) (hb : EE X W b fb) (hm : behindInMarks op b = false) : ET X W (.Compare a [op] [b] pos) (eT (eOp g fa fb)) :=
  PT.of (pt_cmpR ho ha hb hm) fun σ H Q hf => tTest_ok (fun Q hf => tOp_ok ok hf) hf
theorem et_val (ha : EE X W a fa) (he : ∀ whole, isTrue a X.env whole = (do let v ← whole; standAt a.pos; holding [v] (truthy v)) := by intro _; rfl) : ET X W a (eT fa) :=
  PT.of (pt_val ha he) fun σ H Q hf => tTest_ok (t := tE X.K X.mg W fa) (fun Q hf => hf) hf
/-- a op b op' c -/
def eChain (g g' : G2) (a b c : Ev) : Ev := fun ρ h => (a ρ h).bind fun x h1 => (b ρ h1).bind fun y h2 => (ofO (g x y h2)).bind fun z h3 => match z with
  | .d (.bool true) => (c ρ h3).bind fun w h4 => ofO (g' y w h4)
  | .d (.bool false) => .ok (.d (.bool false)) h3
  | _ => .no
theorem tChain_ok {σ : L2.St} {H : Hp} {Q : VK} (ok : Ok2 X.K X.mg r g) (ok' : Ok2 X.K X.mg r' g') (hf : tE X.K X.mg W (eChain g g' fa fb fc) σ H Q) : tChain r r' (tE X.K X.mg W fa) (tE X.K X.mg W fb) (tE X.K X.mg W fc) σ H Q := by
  obtain ⟨φ, h, ρ, sm, er, q⟩ := hf
  refine ⟨φ, h, ρ, sm, er, PoX.goE q fun x v h1 H1 φ1 st sm1 rv q1 => ⟨φ1, h1, ρ, sm1, er.step st, PoX.goE q1 fun y w h2 H2 φ2 st2 sm2 rw q2 => ?_⟩⟩
  have q3 := PoX.goE (Q1 := fun z H3 => ∃ k, z = .bl k ∧ if k = true then tE X.K X.mg W fc σ H3 (fun zz H4 => r' y zz H4 Q) else Q (.bl false) H3) q2 fun z u h3 H3 φ3 st3 sm3 ru q3 => by
    split at q3
    · refine ⟨true, VRep.bl ru, ?_⟩
      rw [if_pos rfl]
      refine ⟨φ3, h3, ρ, sm3, (er.step (st.trans st2)).step st3, PoX.goE q3 fun zz ww h4 H4 φ4 st4 sm4 rw4 q4 => ?_⟩
      obtain ⟨z5, h5, e5, k5⟩ := PoX.ofO q4
      exact ok' φ4 h4 H4 y zz w ww Q z5 h5 sm4 (rw.step (st3.trans st4)) rw4 e5 k5
    · refine ⟨false, VRep.bl ru, ?_⟩
      rw [if_neg Bool.false_ne_true]
      exact PoX.now (v := .d (.bool false)) q3 sm3 (Rep.bl false)
    · exact q3.elim
  obtain ⟨z, h3, e, k⟩ := PoX.ofO q3
  exact ok φ2 h2 H2 x y v w _ z h3 sm2 (rv.step st2) rw e k
theorem et_chain {op op' : CmpOp} (ho : OpR X (compareOp op) r) (ho' : OpR X (compareOp op') r') (ok : Ok2 X.K X.mg r g) (ok' : Ok2 X.K X.mg r' g') (ha : EE X W a fa) (hb : EE X W b fb) (hc : EE X W c fc)
    (hm : lastMarks [op, op'] [b, c] = false := by with_unfolding_all rfl) : ET X W (.Compare a [op, op'] [b, c] pos) (eT (eChain g g' fa fb fc)) :=
  PT.of (pt_chain ho ho' ha hb hc hm) fun σ H Q hf => tTest_ok (fun Q hf => tChain_ok ok ok' hf) hf
end
end Rk

/-! Rk3: the operators themselves. -/
namespace Rk
open PySem PySem.Spec L2
variable {mg : Str → Option Value}
/-! ### ints -/
def gInt (f : Int → Int → Option Da) : G2 := fun x y h => match x, y with
  | .d (.int a), .d (.int b) => (f a b).map fun z => (.d z, h)
  | _, _ => none
section
variable {K : PySem.W.Frag}
theorem VRep.int {φ : List Addr} {h : Hh} {H : Hp} {x : V} {c : Int} (r : VRep K mg φ h H x (.d (.int c))) : x = .int c := by
  cases r
  rfl
theorem VRep.str {φ : List Addr} {h : Hh} {H : Hp} {x : V} {c : Str} (r : VRep K mg φ h H x (.d (.str c))) : x = .str c := by
  cases r
  rfl
theorem VRep.non {φ : List Addr} {h : Hh} {H : Hp} {x : V} (r : VRep K mg φ h H x (.d .none)) : x = .non := by
  cases r
  rfl
theorem gInt_ok {f : Int → Int → Option Da} {r : R2} (hr : ∀ (a b : Int) (d : Da) (H : Hp) (Q : VK), f a b = some d → (∀ z, (∀ M, Rep K H M z d) → Q z H) → r (.int a) (.int b) H Q) : Ok2 K mg r (gInt f) := by
  intro φ h H x y a b Q v h' sm rx ry e k
  unfold gInt at e
  split at e
  · rw [VRep.int rx, VRep.int ry]
    rename_i a b
    cases e1 : f a b with
    | none => rw [e1] at e; cases e
    | some d =>
      rw [e1] at e
      cases e
      exact hr a b d H Q e1 fun z hz => k z H φ (Step.refl _ _ _) sm (hz _)
  · cases e
instance (a b : Int) : Decidable (IntMulOk a b) := by unfold IntMulOk; infer_instance
def fAdd (a b : Int) : Option Da := some (.int (a + b))
def fSub (a b : Int) : Option Da := some (.int (a - b))
def fMul (a b : Int) : Option Da := if IntMulOk a b then some (.int (a * b)) else none
def fDiv (a b : Int) : Option Da := if b ≠ 0 ∧ Builtin.divisionGoesByPylong a b = false then some (.int (a.fdiv b)) else none
def fMod (a b : Int) : Option Da := if b ≠ 0 then some (.int (a.fmod b)) else none
def fPow (a b : Int) : Option Da := if 0 ≤ b ∧ b ≤ 1000000 ∧ a.natAbs < 2 ^ 64 then some (.int (a ^ b.toNat)) else none
def fLt (a b : Int) : Option Da := some (.bool (decide (a < b)))
def fLe (a b : Int) : Option Da := some (.bool (decide (a ≤ b)))
def fGt (a b : Int) : Option Da := some (.bool (decide (b < a)))
def fGe (a b : Int) : Option Da := some (.bool (decide (b ≤ a)))
theorem ok_sub : Ok2 K mg (rI0 fun i j => .int (i - j)) (gInt fSub) := gInt_ok fun a b d H Q e k => by
  cases e
  exact ⟨a, b, rfl, rfl, k _ fun _ => .int _⟩
theorem ok_mod : Ok2 K mg (rI (fun _ j => j ≠ 0) fun i j => .int (i.fmod j)) (gInt fMod) := gInt_ok fun a b d H Q e k => by
  unfold fMod at e
  split at e
  · cases e
    exact ⟨a, b, rfl, rfl, by assumption, k _ fun _ => .int _⟩
  · cases e
/-- // where C divides -/
def CDivC (i j : Int) : Prop := j ≠ 0 ∧ Builtin.divisionGoesByPylong i j = false
theorem op_fdivC {X : Cx} : OpR X (binaryOp .FloorDiv) (rI CDivC fun i j => .int (i.fdiv j)) := opI fun i j _ _ _ _ _ hc q => PyProof.Rows.floordiv_int hc.1 q (.inl hc.2)
theorem ok_div : Ok2 K mg (rI CDivC fun i j => .int (i.fdiv j)) (gInt fDiv) := gInt_ok fun a b d H Q e k => by
  unfold fDiv at e
  split at e
  · cases e
    exact ⟨a, b, rfl, rfl, by assumption, k _ fun _ => .int _⟩
  · cases e
theorem op_mulC {X : Cx} : OpR X (binaryOp .Mult) (rI IntMulOk fun i j => .int (i * j)) := opI fun _ _ _ _ _ _ _ hc q => PyProof.Rows.mul_int q hc
theorem ok_mul : Ok2 K mg (rI IntMulOk fun i j => .int (i * j)) (gInt fMul) := gInt_ok fun a b d H Q e k => by
  unfold fMul at e
  split at e
  · cases e
    exact ⟨a, b, rfl, rfl, by assumption, k _ fun _ => .int _⟩
  · cases e
theorem ok_pow : Ok2 K mg (rI CPow fun i j => .int (i ^ j.toNat)) (gInt fPow) := gInt_ok fun a b d H Q e k => by
  unfold fPow at e
  split at e
  · cases e
    exact ⟨a, b, rfl, rfl, by assumption, k _ fun _ => .int _⟩
  · cases e
theorem ok_lt : Ok2 K mg (rI0 fun i j => .bl (decide (i < j))) (gInt fLt) := gInt_ok fun a b d H Q e k => by
  cases e
  exact ⟨a, b, rfl, rfl, k _ fun _ => .bl _⟩
theorem ok_le : Ok2 K mg (rI0 fun i j => .bl (decide (i ≤ j))) (gInt fLe) := gInt_ok fun a b d H Q e k => by
  cases e
  exact ⟨a, b, rfl, rfl, k _ fun _ => .bl _⟩
theorem ok_gt : Ok2 K mg (rI0 fun i j => .bl (decide (j < i))) (gInt fGt) := gInt_ok fun a b d H Q e k => by
  cases e
  exact ⟨a, b, rfl, rfl, k _ fun _ => .bl _⟩
theorem ok_ge : Ok2 K mg (rI0 fun i j => .bl (decide (j ≤ i))) (gInt fGe) := gInt_ok fun a b d H Q e k => by
  cases e
  exact ⟨a, b, rfl, rfl, k _ fun _ => .bl _⟩
end
/-! ### + -/
def gAdd : G2 := fun x y h => match x, y with
  | .d (.int a), .d (.int b) => some (.d (.int (a + b)), h)
  | .d (.str a), .d (.str b) => if fitB (a.length + b.length) then some (.d (.str (a ++ b)), h) else none
  | .d (.tuple a), .d (.tuple b) => if fitB (a.length + b.length) then some (.d (.tuple (a ++ b)), h) else none
  | x, y => match asL x h, asL y h with
    | some a, some b => if fitB (a.length + b.length) then some (.r h.length, h ++ [some (.lst (a ++ b))]) else none
    | _, _ => none
def rCatL (K : PySem.W.Frag) : R2 := fun x y H Q => ∃ a b xs ys, x = .ref a ∧ y = .ref b ∧ SqL K H a xs ∧ SqL K H b ys ∧ xs.length + ys.length ≤ sizeLine ∧ ∀ p, H p = none → Q (.ref p) (upd H p (.lst (xs ++ ys)))
def rAddA (K : PySem.W.Frag) : R2 := fun x y H Q => (∃ i j, x = .int i ∧ y = .int j ∧ Q (.int (i + j)) H) ∨ (∃ i j, x = .str i ∧ y = .str j ∧ i.length + j.length ≤ sizeLine ∧ Q (.str (i ++ j)) H) ∨ rCatA K x y H Q ∨ rCatL K x y H Q
section
variable {X : Cx}
theorem op_catL : OpR X (binaryOp .Add) (rCatL X.K) := by
  intro pins s σ H x y v u Q I rx ry h
  obtain ⟨a, b, xs, ys, rfl, rfl, ha, hb, hz, q⟩ := h
  cases rx
  cases ry
  obtain ⟨its, r1, ⟨⟨c1, dd1, da1, sl1⟩, n1, e1, f1, g1, k1⟩, z1⟩ := I.list ha
  obtain ⟨its2, r2, ⟨⟨c2, dd2, da2, sl2⟩, n2, e2, f2, g2, k2⟩, z2⟩ := I.list hb
  simp only at f1 g1 k1 f2 g2 k2
  subst f1 g1 k1 f2 g2 k2
  have e : its.toArray ++ its2.toArray = (its ++ its2).toArray := by simp
  have l1 := r1.length
  have l2 := r2.length
  refine PySem.concat_meets ⟨_, e1, rfl⟩ ⟨_, e2, rfl⟩ PySem.noFill_list_add PySem.seq_list_add PySem.F.slot_list_add PySem.F.entry_list_add (PySem.F.args_list_add_2 _ _) (PyProof.Rows.list_addW a b its.toArray its2.toArray n1 n2 none none sl1 sl2 (by simp; omega)) ⟨e1, e2, ?_⟩
  rw [e]
  exact ⟨.ref _, _, I.lnew (t' := s.toks) (r1.append r2) (by rw [List.length_append]; omega), rfl, q _ I.fresh⟩
theorem op_addA : OpR X (binaryOp .Add) (rAddA X.K) := op_add.or (op_add_str.or (op_catA.or op_catL))
end
section
variable {K : PySem.W.Frag}
/-- a new list of data -/
theorem new_list {φ : List Addr} {h : Hh} {H : Hp} {p : Addr} {xs : List V} {ds : List Da} (sm : Sim K φ h H) (r : Reps K H (Live φ h) xs ds) (hp : H p = none) :
    Step φ h H (φ ++ [p]) (h ++ [some (.lst ds)]) (upd H p (.lst xs)) ∧ Sim K (φ ++ [p]) (h ++ [some (.lst ds)]) (upd H p (.lst xs)) ∧ VRep K mg (φ ++ [p]) (h ++ [some (.lst ds)]) (upd H p (.lst xs)) (.ref p) (.r h.length) :=
  sm.new hp fun M st => ⟨xs, upd_same, r.stay st⟩
theorem new_tup {φ : List Addr} {h : Hh} {H : Hp} {p : Addr} {xs : List V} {ds : List Da} (sm : Sim K φ h H) (r : Reps K H (Live φ h) xs ds) (hp : H p = none) :
    Step φ h H φ h (upd H p (.tup xs)) ∧ Sim K φ h (upd H p (.tup xs)) ∧ VRep K mg φ h (upd H p (.tup xs)) (.ref p) (.d (.tuple ds)) := by
  obtain ⟨s1, s2⟩ := sm.grow (o := .tup xs) hp
  exact ⟨s1, s2, Rep.tup (.inl upd_same) (sm.fresh hp) (r.stay s1.st)⟩
theorem VRep.tup {φ : List Addr} {h : Hh} {H : Hp} {x : V} {ds : List Da} (r : VRep K mg φ h H x (.d (.tuple ds))) : ∃ a xs, x = .ref a ∧ SqT K H a xs ∧ Reps K H (Live φ h) xs ds := by
  cases r with
  | tup h n r => exact ⟨_, _, rfl, .inl h, r⟩
  | tupK h r => exact ⟨_, _, rfl, .inr h, r⟩
theorem Reps.ne {H : Hp} {M : Addr → Prop} {xs : List V} {ds : List Da} (r : Reps K H M xs ds) : xs = [] ↔ ds = [] := by
  cases r with
  | nil => simp
  | cons _ _ => simp
theorem ok_add : Ok2 K mg (rAddA K) gAdd := by
  intro φ h H x y a b Q v h' sm rx ry e k
  unfold gAdd at e
  split at e
  · cases e
    exact .inl ⟨_, _, VRep.int rx, VRep.int ry, k _ H φ (Step.refl _ _ _) sm (Rep.int _)⟩
  · split at e
    · cases e
      exact .inr (.inl ⟨_, _, VRep.str rx, VRep.str ry, fitB_le (by assumption), k _ H φ (Step.refl _ _ _) sm (Rep.str _)⟩)
    · cases e
  · split at e
    · rename_i da db hz
      cases e
      obtain ⟨pa, xs, rfl, sa, ra⟩ := VRep.tup rx
      obtain ⟨pb, ys, rfl, sb, rb⟩ := VRep.tup ry
      refine .inr (.inr (.inl ⟨pa, pb, xs, ys, rfl, rfl, sa, sb, by rw [ra.length, rb.length]; exact fitB_le hz, fun z => ?_, fun _ z => ?_, fun _ _ p hp => ?_⟩))
      · have : da = [] := ra.ne.mp z
        subst this
        exact k _ H φ (Step.refl _ _ _) sm ry
      · have : db = [] := rb.ne.mp z
        subst this
        rw [List.append_nil] at k
        exact k _ H φ (Step.refl _ _ _) sm rx
      · obtain ⟨s1, s2, s3⟩ := new_tup sm (ra.append rb) hp
        exact k _ _ _ s1 s2 s3
    · cases e
  · split at e
    · rename_i la lb ea eb
      split at e
      · rename_i hz
        cases e
        obtain ⟨pa, xs, rfl, sa, ra⟩ := asL_ok sm rx ea
        obtain ⟨pb, ys, rfl, sb, rb⟩ := asL_ok sm ry eb
        refine .inr (.inr (.inr ⟨pa, pb, xs, ys, rfl, rfl, sa, sb, by rw [ra.length, rb.length]; exact fitB_le hz, fun p hp => ?_⟩))
        obtain ⟨s1, s2, s3⟩ := new_list sm (ra.append rb) hp
        exact k _ _ _ s1 s2 s3
      · cases e
    · cases e
/-! ### ==, !=, is, in -/
/-- told by == and !=, no dict within -/
def sh (d : Da) : Bool := SeqAt.shaped d && !d.hasDict
theorem sh_parts {d : Da} (e : sh d = true) : SeqAt.shaped d = true ∧ d.hasDict = false := by
  unfold sh at e
  rw [Bool.and_eq_true] at e
  exact ⟨e.1, by simpa using e.2⟩
def eqvB (a b : Da) : Option Bool := if sh a && sh b then some (PyData.eqv a b) else none
def gEq : G2 := fun x y h => match x, y with
  | .d (.str a), .d (.str b) => some (.d (.bool (decide (a = b))), h)
  | x, y => match asD x h, asD y h with
    | some a, some b => (eqvB a b).map fun z => (.d (.bool z), h)
    | _, _ => none
def gNe : G2 := fun x y h => match x, y with
  | .d (.str a), .d (.str b) => some (.d (.bool (!decide (a = b))), h)
  | x, y => match asD x h, asD y h with
    | some a, some b => (eqvB a b).map fun z => (.d (.bool (!z)), h)
    | _, _ => none
theorem ok_eq : Ok2 K mg (fun x y H Q => rEq x y H Q ∨ rEqD K x y H Q) gEq := by
  intro φ h H x y a b Q v h' sm rx ry e k
  unfold gEq at e
  split at e
  · rename_i p q
    cases e
    rw [VRep.str rx, VRep.str ry]
    have d : decide (V.str p = V.str q) = decide (p = q) := decide_eq_decide.mpr ⟨fun z => by injection z, fun z => by rw [z]⟩
    exact .inl ⟨rfl, by rw [d]; exact k _ H φ (Step.refl _ _ _) sm (Rep.bl _)⟩
  · split at e
    · rename_i da db ea eb
      unfold eqvB at e
      split at e
      · rename_i hs
        rw [Bool.and_eq_true] at hs
        cases e
        have h1 := sh_parts hs.1
        have h2 := sh_parts hs.2
        exact .inr ⟨da, db, asD_ok sm rx ea h1.2, asD_ok sm ry eb h2.2, h1.1, h2.1, k _ H φ (Step.refl _ _ _) sm (Rep.bl _)⟩
      · cases e
    · cases e
theorem ok_ne : Ok2 K mg (fun x y H Q => rNe x y H Q ∨ rNeD K x y H Q) gNe := by
  intro φ h H x y a b Q v h' sm rx ry e k
  unfold gNe at e
  split at e
  · rename_i p q
    cases e
    rw [VRep.str rx, VRep.str ry]
    have d : decide (V.str p = V.str q) = decide (p = q) := decide_eq_decide.mpr ⟨fun z => by injection z, fun z => by rw [z]⟩
    exact .inl ⟨rfl, by rw [d]; exact k _ H φ (Step.refl _ _ _) sm (Rep.bl _)⟩
  · split at e
    · rename_i da db ea eb
      unfold eqvB at e
      split at e
      · rename_i hs
        rw [Bool.and_eq_true] at hs
        cases e
        have h1 := sh_parts hs.1
        have h2 := sh_parts hs.2
        exact .inr ⟨da, db, asD_ok sm rx ea h1.2, asD_ok sm ry eb h2.2, h1.1, h2.1, k _ H φ (Step.refl _ _ _) sm (Rep.bl _)⟩
      · cases e
    · cases e
def isN : Vl → Bool
  | .d .none => true
  | _ => false
def gIsN : G2 := fun x y h => match y with
  | .d .none => some (.d (.bool (isN x)), h)
  | _ => none
def gNotN : G2 := fun x y h => match y with
  | .d .none => some (.d (.bool (!isN x)), h)
  | _ => none
theorem isN_ok {φ : List Addr} {h : Hh} {H : Hp} {x : V} {v : Vl} (r : VRep K mg φ h H x v) : decide (x = .non) = isN v := by
  cases v with
  | d z =>
    cases r <;> first | rfl | exact decide_eq_false (fun q => nomatch q)
  | r n =>
    obtain ⟨a, _, rfl⟩ := r
    exact decide_eq_false (fun q => nomatch q)
  | x c fs =>
    obtain ⟨a, _, _, rfl, _⟩ := r
    exact decide_eq_false (fun q => nomatch q)
  | f D =>
    obtain ⟨rfl, _⟩ := r
    exact decide_eq_false (fun q => nomatch q)
theorem ok_isN : Ok2 K mg (fun x y H Q => y = .non ∧ Q (.bl (decide (x = .non))) H) gIsN := by
  intro φ h H x y a b Q v h' sm rx ry e k
  unfold gIsN at e
  split at e
  · cases e
    refine ⟨VRep.non ry, ?_⟩
    rw [isN_ok rx]
    exact k _ H φ (Step.refl _ _ _) sm (Rep.bl _)
  · cases e
theorem ok_notN : Ok2 K mg (fun x y H Q => y = .non ∧ Q (.bl (!decide (x = .non))) H) gNotN := by
  intro φ h H x y a b Q v h' sm rx ry e k
  unfold gNotN at e
  split at e
  · cases e
    refine ⟨VRep.non ry, ?_⟩
    rw [isN_ok rx]
    exact k _ H φ (Step.refl _ _ _) sm (Rep.bl _)
  · cases e
/-- is, is not of two truths -/
def gIsB : G2 := fun x y h => match x, y with
  | .d (.bool a), .d (.bool b) => some (.d (.bool (decide (a = b))), h)
  | _, _ => none
def gNotB : G2 := fun x y h => match x, y with
  | .d (.bool a), .d (.bool b) => some (.d (.bool (!decide (a = b))), h)
  | _, _ => none
/-- in, not in, of a list or a tuple of flat data -/
def flatD : Da → Bool
  | .none => true
  | .bool _ => true
  | .int _ => true
  | .str _ => true
  | _ => false
def eqF : Da → Da → Bool
  | .none, .none => true
  | .bool a, .bool b => a == b
  | .bool a, .int b => (if a then 1 else 0) == b
  | .int a, .bool b => a == (if b then 1 else 0)
  | .int a, .int b => a == b
  | .str a, .str b => a == b
  | _, _ => false
def inF (x : Da) (xs : List Da) : Bool := xs.any fun y => eqF y x
def asQ : Vl → Hh → Option (List Da)
  | .d (.tuple xs), _ => some xs
  | v, h => asL v h
def gIn (neg : Bool) : G2 := fun x y h => match x, asQ y h with
  | .d a, some bs => if flatD a && bs.all flatD then some (.d (.bool (if neg then !inF a bs else inF a bs)), h) else none
  | _, _ => none
theorem flat_ok {H : Hp} {M : Addr → Prop} {x : V} {d : Da} (r : Rep K H M x d) (f : flatD d = true) : flatV x = true := by
  cases r <;> first | rfl | cases f
theorem flats_ok {H : Hp} {M : Addr → Prop} : ∀ {xs : List V} {ds : List Da}, Reps K H M xs ds → ds.all flatD = true → xs.all flatV = true
  | _, _, .nil, _ => rfl
  | _, _, .cons r t, f => by
    rw [List.all_cons, Bool.and_eq_true] at f
    rw [List.all_cons, flat_ok r f.1, flats_ok t f.2]
    rfl
theorem eqF_ok {H H' : Hp} {M M' : Addr → Prop} {x y : V} {d e : Da} (r : Rep K H M x d) (q : Rep K H' M' y e) (f : flatD d = true) (g : flatD e = true) : eqV x y = eqF d e := by
  cases r <;> first | (cases f; done) | (cases q <;> first | rfl | (cases g; done))
theorem inF_ok {H : Hp} {M : Addr → Prop} {x : V} {d : Da} (r : Rep K H M x d) (f : flatD d = true) : ∀ {xs : List V} {ds : List Da}, Reps K H M xs ds → ds.all flatD = true → inV x xs = inF d ds
  | _, _, .nil, _ => rfl
  | _, _, .cons q t, g => by
    rw [List.all_cons, Bool.and_eq_true] at g
    have ih := inF_ok r f t g.2
    unfold inV inF at *
    rw [List.any_cons, List.any_cons, eqF_ok q r g.1 f, ih]
theorem asQ_ok {φ : List Addr} {h : Hh} {H : Hp} {x : V} {v : Vl} {ds : List Da} (s : Sim K φ h H) (r : VRep K mg φ h H x v) (e : asQ v h = some ds) : ∃ a xs, x = .ref a ∧ (SqL K H a xs ∨ SqT K H a xs) ∧ Reps K H (Live φ h) xs ds := by
  unfold asQ at e
  split at e
  · cases e
    obtain ⟨a, xs, rfl, q, z⟩ := VRep.tup r
    exact ⟨a, xs, rfl, .inr q, z⟩
  · obtain ⟨a, xs, rfl, q, z⟩ := asL_ok s r e
    exact ⟨a, xs, rfl, .inl q, z⟩
theorem ok_in (neg : Bool) : Ok2 K mg (rIn K neg) (gIn neg) := by
  intro φ h H x y a b Q v h' sm rx ry e k
  unfold gIn at e
  split at e
  · rename_i da bs eb
    split at e
    · rename_i hf
      rw [Bool.and_eq_true] at hf
      cases e
      obtain ⟨p, xs, rfl, sq, rs⟩ := asQ_ok sm ry eb
      refine ⟨p, xs, rfl, sq, flat_ok rx hf.1, flats_ok rs hf.2, ?_⟩
      rw [inF_ok rx hf.1 rs hf.2]
      exact k _ H φ (Step.refl _ _ _) sm (Rep.bl _)
    · cases e
  · cases e
end
/-! ### and, or, not, if .. else -/
def tvAnd (a b : Tv) : Tv := fun ρ h => (a ρ h).bind fun c h1 => if c then b ρ h1 else .ok false h1
def tvOr (a b : Tv) : Tv := fun ρ h => (a ρ h).bind fun c h1 => if c then .ok true h1 else b ρ h1
def tvNot (a : Tv) : Tv := fun ρ h => (a ρ h).bind fun c h1 => .ok (!c) h1
def eAnd (a b : Ev) : Ev := fun ρ h => (eT a ρ h).bind fun c h1 => if c then b ρ h1 else .ok (.d (.bool false)) h1
def eOr (a b : Ev) : Ev := fun ρ h => (eT a ρ h).bind fun c h1 => if c then .ok (.d (.bool true)) h1 else b ρ h1
def eNot (a : Ev) : Ev := fun ρ h => (eT a ρ h).bind fun c h1 => .ok (.d (.bool (!c))) h1
def eIf (c : Tv) (a b : Ev) : Ev := fun ρ h => (c ρ h).bind fun k h1 => if k then a ρ h1 else b ρ h1
def EW (X : Cx) (W : WX) (e : Expr) (f : Tv) : Prop := PW X e (tT X.K X.mg W f)
section
variable {X : Cx} {W : WX} {a b c : Expr} {fa fb : Ev} {ta tb tc : Tv} {pos : Pos} {rest : List Expr}
theorem EW.et (h : EW X W a ta) : ET X W a ta := PW.pt h
theorem ew_and1 (ha : ET X W a ta) : EW X W (.BoolOp .And [a] pos) ta := pw_and1 ha
theorem ew_or1 (ha : ET X W a ta) : EW X W (.BoolOp .Or [a] pos) ta := pw_or1 ha
theorem PoT.now {K : PySem.W.Frag} {mg : Str → Option Value} {φ : List Addr} {h : Hh} {H : Hp} {v : Bool} {Q : Bool → Hp → Prop} {E : XK} (q : PoT K mg φ h H (.ok v h) Q E) (s : Sim K φ h H) : Q v H := q H φ (Step.refl _ _ _) s
theorem ew_and (ha : ET X W a ta) (hb : EW X W (.BoolOp .And (b :: rest) pos) tb) : EW X W (.BoolOp .And (a :: b :: rest) pos) (tvAnd ta tb) :=
  PW.of (pw_and ha hb) fun σ H Q ⟨φ, h, ρ, sm, er, q⟩ => ⟨φ, h, ρ, sm, er, PoT.goT q fun v h1 H1 φ1 st sm1 q1 => by
    cases v with
    | true => exact iteT ⟨φ1, h1, ρ, sm1, er.step st, q1⟩
    | false => exact iteF (PoT.now q1 sm1)⟩
theorem ew_or (ha : ET X W a ta) (hb : EW X W (.BoolOp .Or (b :: rest) pos) tb) : EW X W (.BoolOp .Or (a :: b :: rest) pos) (tvOr ta tb) :=
  PW.of (pw_or ha hb) fun σ H Q ⟨φ, h, ρ, sm, er, q⟩ => ⟨φ, h, ρ, sm, er, PoT.goT q fun v h1 H1 φ1 st sm1 q1 => by
    cases v with
    | true => exact iteT (PoT.now q1 sm1)
    | false => exact iteF ⟨φ1, h1, ρ, sm1, er.step st, q1⟩⟩
theorem et_not (ha : ET X W a ta) : ET X W (.UnaryOp .Not a pos) (tvNot ta) :=
  PT.of (pt_not ha) fun σ H Q ⟨φ, h, ρ, sm, er, q⟩ => ⟨φ, h, ρ, sm, er, PoT.goT q fun v h1 H1 φ1 st sm1 q1 => PoT.now q1 sm1⟩
theorem ee_ifExp (hc : ET X W c tc) (ha : EE X W a fa) (hb : EE X W b fb) : EE X W (.IfExp c a b pos) (eIf tc fa fb) :=
  PE.of (pe_ifExp hc ha hb) fun σ H Q ⟨φ, h, ρ, sm, er, q⟩ => ⟨φ, h, ρ, sm, er, PoX.goT q fun v h1 H1 φ1 st sm1 q1 => by
    cases v with
    | true => exact iteT ⟨φ1, h1, ρ, sm1, er.step st, q1⟩
    | false => exact iteF ⟨φ1, h1, ρ, sm1, er.step st, q1⟩⟩
theorem ee_one {op : BoolOp} (ha : EE X W a fa) : EE X W (.BoolOp op [a] pos) fa := pe_one ha
theorem PoX.goV {K : PySem.W.Frag} {mg : Str → Option Value} {φ : List Addr} {h : Hh} {H : Hp} {E : XK} {o : Out Vl} {k : Bool → Hh → Out Vl} {Q : VK} {Q1 : VK} (q : PoX K mg φ h H ((o.bind truO).bind k) Q E)
    (hk : ∀ (c : Bool) (h1 : Hh) (H1 : Hp) (φ1 : List Addr), Step φ h H φ1 h1 H1 → Sim K φ1 h1 H1 → PoX K mg φ1 h1 H1 (k c h1) Q E → Q1 (.bl c) H1) : PoX K mg φ h H o Q1 E := by
  cases o with
  | ok v h1 =>
    intro x H1 φ1 st sm1 rv
    have q2 : PoX K mg φ h H ((truO v h1).bind k) Q E := q
    unfold truO at q2
    split at q2
    · rw [VRep.bl rv]
      exact hk _ _ _ φ1 st sm1 (PoX.pull st q2)
    · exact q2.elim
  | ex c fs h1 => exact q
  | no => exact q
theorem ee_and (ha : EE X W a fa) (hb : EE X W (.BoolOp .And (b :: rest) pos) fb) : EE X W (.BoolOp .And (a :: b :: rest) pos) (eAnd fa fb) :=
  PE.of (pe_and ha hb) fun σ H Q ⟨φ, h, ρ, sm, er, q⟩ => ⟨φ, h, ρ, sm, er, PoX.goV q fun v h1 H1 φ1 st sm1 q1 => ⟨v, rfl, by
    cases v with
    | true => exact iteT ⟨φ1, h1, ρ, sm1, er.step st, q1⟩
    | false => exact iteF (PoX.now (v := .d (.bool false)) q1 sm1 (Rep.bl false))⟩⟩
theorem ee_or (ha : EE X W a fa) (hb : EE X W (.BoolOp .Or (b :: rest) pos) fb) : EE X W (.BoolOp .Or (a :: b :: rest) pos) (eOr fa fb) :=
  PE.of (pe_or ha hb) fun σ H Q ⟨φ, h, ρ, sm, er, q⟩ => ⟨φ, h, ρ, sm, er, PoX.goV q fun v h1 H1 φ1 st sm1 q1 => ⟨v, rfl, by
    cases v with
    | true => exact iteT (PoX.now (v := .d (.bool true)) q1 sm1 (Rep.bl true))
    | false => exact iteF ⟨φ1, h1, ρ, sm1, er.step st, q1⟩⟩⟩
theorem ee_not (ha : EE X W a fa) : EE X W (.UnaryOp .Not a pos) (eNot fa) :=
  PE.of (pe_not ha) fun σ H Q ⟨φ, h, ρ, sm, er, q⟩ => ⟨φ, h, ρ, sm, er, PoX.goV q fun v h1 H1 φ1 st sm1 q1 => ⟨v, rfl, PoX.now (v := .d (.bool (!v))) q1 sm1 (Rep.bl (!v))⟩⟩
/-- - n -/
def eNeg (a : Ev) : Ev := fun ρ h => (a ρ h).bind fun x h1 => match x with
  | .d (.int i) => .ok (.d (.int (-i))) h1
  | _ => .no
theorem ee_neg (ha : EE X W a fa) : EE X W (.UnaryOp .USub a pos) (eNeg fa) :=
  PE.of (pe_un un_neg ha) fun σ H Q ⟨φ, h, ρ, sm, er, q⟩ => ⟨φ, h, ρ, sm, er, PoX.goE q fun x v h1 H1 φ1 st sm1 rv q1 => by
    cases v with
    | d z =>
      cases z with
      | int i => exact ⟨i, VRep.int rv, PoX.now (v := .d (.int (-i))) q1 sm1 (Rep.int _)⟩
      | _ => exact q1.elim
    | r n => exact q1.elim
    | x c fs => exact q1.elim
    | f D => exact q1.elim⟩
end
/-! ### argument lists, displays, calls -/
def aNil : Av := fun _ h => .ok [] h
def aCons (a : Ev) (r : Av) : Av := fun ρ h => (a ρ h).bind fun x h1 => (r ρ h1).bind fun xs h2 => .ok (x :: xs) h2
def eTup (as : Av) : Ev := fun ρ h => (as ρ h).bind fun vs h1 => match fzs vs h1 with
  | some (ds, h2) => if fitB ds.length then .ok (.d (.tuple ds)) h2 else .no
  | none => .no
def eLst (as : Av) : Ev := fun ρ h => (as ρ h).bind fun vs h1 => match fzs vs h1 with
  | some (ds, h2) => if fitB ds.length then .ok (.r h2.length) (h2 ++ [some (.lst ds)]) else .no
  | none => .no
def spF (K : PySem.W.Frag) (mg : Str → Option Value) (m : Fn) : Sp := fun vs H Q E => ∃ φ h as, Sim K φ h H ∧ VReps K mg φ h H vs as ∧ PoX K mg φ h H (m as h) Q E
def eCall (m : Fn) (as : Av) : Ev := fun ρ h => (as ρ h).bind m
abbrev GC := List Vl → Hh → Option (Vl × Hh)
def eBlt (g : GC) (as : Av) : Ev := fun ρ h => (as ρ h).bind fun vs h1 => ofO (g vs h1)
def OkC (K : PySem.W.Frag) (mg : Str → Option Value) (r : List V → Hp → VK → Prop) (g : GC) : Prop := ∀ (φ : List Addr) (h : Hh) (H : Hp) (xs : List V) (as : List Vl) (Q : VK) (v : Vl) (h' : Hh), Sim K φ h H → VReps K mg φ h H xs as → g as h = some (v, h') →
  (∀ z H' φ', Step φ h H φ' h' H' → Sim K φ' h' H' → VRep K mg φ' h' H' z v → Q z H') → r xs H Q
section
variable {X : Cx} {W : WX} {e : Expr} {es : List Expr} {fe : Ev} {fs : Av} {pos : Pos}
theorem ea_nil : EA X W [] aNil := PA.of pa_nil fun σ H Q ⟨φ, h, ρ, sm, er, q⟩ => q [] H φ (Step.refl _ _ _) sm .nil
theorem ea_cons (ha : EE X W e fe) (hr : EA X W es fs) (hs : starEach (e :: es) X.env = (false, eval e X.env) :: starEach es X.env := by rfl) : EA X W (e :: es) (aCons fe fs) :=
  PA.of (pa_cons ha hr hs) fun σ H Q ⟨φ, h, ρ, sm, er, q⟩ => ⟨φ, h, ρ, sm, er, PoA.goE q fun x v h1 H1 φ1 st sm1 rv q1 => ⟨φ1, h1, ρ, sm1, er.step st, PoA.goA q1 fun xs vs h2 H2 φ2 st2 sm2 rvs q2 =>
    q2 (x :: xs) H2 φ2 (Step.refl _ _ _) sm2 (.cons (rv.step st2) rvs)⟩⟩
theorem ee_tup {k : Nat} (ha : EA X W es fs) : EE X W (.Tuple es k pos) (eTup fs) :=
  PE.of (pe_tup ha) fun σ H Q ⟨φ, h, ρ, sm, er, q⟩ => ⟨φ, h, ρ, sm, er, PoX.goA q fun xs vs h1 H1 φ1 st sm1 rvs q1 => by
    cases e : fzs vs h1 with
    | none => rw [e] at q1; exact q1.elim
    | some p =>
      obtain ⟨ds, h2⟩ := p
      rw [e] at q1
      dsimp only at q1
      split at q1
      · obtain ⟨s1, s2, s3⟩ := fzs_ok sm1 rvs e
        refine ⟨by rw [s3.length]; exact fitB_le (by assumption), fun p hp => ?_⟩
        obtain ⟨t1, t2, t3⟩ := new_tup s2 s3 hp
        exact q1 _ _ _ (s1.trans t1) t2 t3
      · exact q1.elim⟩
theorem ee_lst (ha : EA X W es fs) : EE X W (.List es pos) (eLst fs) :=
  PE.of (pe_lst ha) fun σ H Q ⟨φ, h, ρ, sm, er, q⟩ => ⟨φ, h, ρ, sm, er, PoX.goA q fun xs vs h1 H1 φ1 st sm1 rvs q1 => by
    cases e : fzs vs h1 with
    | none => rw [e] at q1; exact q1.elim
    | some p =>
      obtain ⟨ds, h2⟩ := p
      rw [e] at q1
      dsimp only at q1
      split at q1
      · obtain ⟨s1, s2, s3⟩ := fzs_ok sm1 rvs e
        refine ⟨by rw [s3.length]; exact fitB_le (by assumption), fun p hp => ?_⟩
        obtain ⟨t1, t2, t3⟩ := new_list s2 s3 hp
        exact q1 _ _ _ (s1.trans t1) t2 t3
      · exact q1.elim⟩
theorem ee_blt {x : Str} {id : String} {p : Pos} {r : List V → Hp → VK → Prop} {g : GC} (hc : CallR X (.builtin id) r) (ok : OkC X.K X.mg r g) (hg : Gl X x) (hm : X.mg x = none) (hv : bootBuiltins x = some (.builtin id)) (ha : EA X W (e :: es) fs) (hn : x ≠ "__name__" := by decide) (hdb : (x == ("__debug__" : Str)) = false := by decide)
    (he : starEach (e :: es) X.env = (false, eval e X.env) :: starEach es X.env := by rfl) (hpl : (backTo pos (starEach es X.env)).any (·.1) = false := by rfl) : EE X W (.Call (.Name x p) (e :: es) [] pos) (eBlt g fs) :=
  PE.of (pe_callB hc hg hm hv ha hn hdb he hpl) fun σ H Q ⟨φ, h, ρ, sm, er, q⟩ => ⟨φ, h, ρ, sm, er, PoX.goA q fun xs vs h1 H1 φ1 st sm1 rvs q1 => by
    obtain ⟨z, h2, e2, k⟩ := PoX.ofO q1
    exact ok φ1 h1 H1 xs vs Q z h2 sm1 rvs e2 k⟩
theorem ee_bltT {x : Str} {T : String} {p : Pos} {r : List V → Hp → VK → Prop} {g : GC} (hc : CallR X (.type T) r) (ok : OkC X.K X.mg r g) (hg : Gl X x) (hm : X.mg x = none) (hv : bootBuiltins x = some (.type T)) (ha : EA X W (e :: es) fs) (hn : x ≠ "__name__" := by decide) (hdb : (x == ("__debug__" : Str)) = false := by decide)
    (he : starEach (e :: es) X.env = (false, eval e X.env) :: starEach es X.env := by rfl) (hpl : (backTo pos (starEach es X.env)).any (·.1) = false := by rfl) : EE X W (.Call (.Name x p) (e :: es) [] pos) (eBlt g fs) :=
  PE.of (pe_callTy hc hg hm hv ha hn hdb he hpl) fun σ H Q ⟨φ, h, ρ, sm, er, q⟩ => ⟨φ, h, ρ, sm, er, PoX.goA q fun xs vs h1 H1 φ1 st sm1 rvs q1 => by
    obtain ⟨z, h2, e2, k⟩ := PoX.ofO q1
    exact ok φ1 h1 H1 xs vs Q z h2 sm1 rvs e2 k⟩
end
end Rk

/-! Rk4: subscripts, slices, built-in functions. -/
namespace Rk
open PySem PySem.Spec L2
variable {mg : Str → Option Value}
section
variable {K : PySem.W.Frag}
theorem Reps.atI {H : Hp} {M : Addr → Prop} {xs : List V} {ds : List Da} {i : Int} {d : Da} (r : Reps K H M xs ds) (e : atI ds i = some d) : ∃ v, L2.atI xs i = some v ∧ Rep K H M v d := by
  unfold L2.atI at *
  rw [r.length]
  cases q : ixN ds.length i with
  | none => rw [q] at e; cases e
  | some j =>
    rw [q] at e
    exact Reps.get r e
def gIx : G2 := fun x y h => match x, y with
  | .d (.tuple xs), .d (.int i) => (atI xs i).map fun d => (.d d, h)
  | .d (.str z), .d (.int i) => if fitB z.length then (atI z.cps.toList i).map fun c => (.d (.str ⟨#[c]⟩), h) else none
  | x, .d (.int i) => match asL x h with
    | some xs => (atI xs i).map fun d => (.d d, h)
    | none => none
  | _, _ => none
theorem ok_ix : Ok2 K mg (rIx K) gIx := by
  intro φ h H x y a b Q v h' sm rx ry e k
  unfold gIx at e
  split at e
  · rename_i xs i
    cases q : atI xs i with
    | none => rw [q] at e; cases e
    | some d =>
      rw [q] at e
      cases e
      obtain ⟨p, zs, rfl, sq, rs⟩ := VRep.tup rx
      obtain ⟨z, e1, rz⟩ := rs.atI q
      exact .inr (.inl ⟨p, zs, i, z, rfl, VRep.int ry, sq, e1, k z H φ (Step.refl _ _ _) sm rz⟩)
  · rename_i z i
    split at e
    · cases q : atI z.cps.toList i with
      | none => rw [q] at e; cases e
      | some c =>
        rw [q] at e
        cases e
        exact .inr (.inr ⟨z, i, c, VRep.str rx, VRep.int ry, fitB_le (by assumption), q, k _ H φ (Step.refl _ _ _) sm (Rep.str _)⟩)
    · cases e
  · rename_i i _ _
    split at e
    · rename_i xs ex
      cases q : atI xs i with
      | none => rw [q] at e; cases e
      | some d =>
        rw [q] at e
        cases e
        obtain ⟨p, zs, rfl, sq, rs⟩ := asL_ok sm rx ex
        obtain ⟨z, e1, rz⟩ := rs.atI q
        exact .inl ⟨p, zs, i, z, rfl, VRep.int ry, sq, e1, k z H φ (Step.refl _ _ _) sm rz⟩
    · cases e
  · cases e
end
section
variable {X : Cx} {W : WX} {a b : Expr} {fa fb : Ev} {pos : Pos}
theorem ee_ix (ha : EE X W a fa) (hb : EE X W b fb) (hs : PlainIx b := by exact fun _ _ => rfl) : EE X W (.Subscript a b pos) (eOp gIx fa fb) :=
  PE.of (pe_ix ix_seq ha hb hs) fun σ H Q hf => tOp_ok ok_ix hf
end
/-! ### slices -/
def cutD {α : Type} (xs : List α) (lo hi : Option Int) : List α := (xs.drop (HT.sIx xs.length 0 lo)).take (HT.sIx xs.length xs.length hi - HT.sIx xs.length 0 lo)
abbrev Ov := En → Hh → Out (Option Int)
def oNone : Ov := fun _ h => .ok none h
def oInt : Vl → Hh → Out (Option Int)
  | .d (.int i), h => .ok (some i) h
  | _, _ => .no
def oSome (f : Ev) : Ov := fun ρ h => (f ρ h).bind oInt
def gSl (x : Vl) (lo hi : Option Int) (h : Hh) : Option (Vl × Hh) := match x with
  | .d (.tuple xs) => some (.d (.tuple (cutD xs lo hi)), h)
  | .d (.str z) => if fitB z.length then some (.d (.str (cutS z lo hi)), h) else none
  | x => match asL x h with
    | some xs => some (.r h.length, h ++ [some (.lst (cutD xs lo hi))])
    | none => none
def eSl (f : Ev) (lo hi : Ov) : Ev := fun ρ h => (f ρ h).bind fun x h1 => (lo ρ h1).bind fun l h2 => (hi ρ h2).bind fun u h3 => ofO (gSl x l u h3)
def PoO (K : PySem.W.Frag) (mg : Str → Option Value) (φ : List Addr) (h : Hh) (H : Hp) (o : Out (Option Int)) (Q : Option Int → Hp → Prop) (E : XK) : Prop := match o with
  | .ok v h' => ∀ H' φ', Step φ h H φ' h' H' → Sim K φ' h' H' → Q v H'
  | .ex c fs h' => ∀ cls dd H' φ', Step φ h H φ' h' H' → Sim K φ' h' H' → XRep K mg H' (Live φ' h') c fs cls dd → E cls dd H'
  | .no => False
def tO (K : PySem.W.Frag) (mg : Str → Option Value) (W : WX) (f : Ov) : TO := fun σ H Q => ∃ φ h ρ, Sim K φ h H ∧ ERep K mg φ h H σ ρ ∧ PoO K mg φ h H (f ρ h) Q (WE W σ)
def EO (X : Cx) (W : WX) (e : Option Expr) (f : Ov) : Prop := PO X e (tO X.K X.mg W f)
theorem PO.of {X : Cx} {e : Option Expr} {t t' : TO} (h : PO X e t) (i : ∀ σ H Q, t' σ H Q → t σ H Q) : PO X e t' := ⟨fun pins s σ H Q I w => h.run pins s σ H Q I (i σ H Q w)⟩
section
variable {K : PySem.W.Frag} {mg : Str → Option Value} {φ : List Addr} {h : Hh} {H : Hp} {E : XK}
theorem PoX.goO {o : Out (Option Int)} {k : Option Int → Hh → Out Vl} {Q : VK} {Q1 : Option Int → Hp → Prop} (q : PoX K mg φ h H (o.bind k) Q E)
    (hk : ∀ (v : Option Int) (h1 : Hh) (H1 : Hp) (φ1 : List Addr), Step φ h H φ1 h1 H1 → Sim K φ1 h1 H1 → PoX K mg φ1 h1 H1 (k v h1) Q E → Q1 v H1) : PoO K mg φ h H o Q1 E := by
  cases o with
  | ok v h1 => exact fun H' φ' st sm' => hk v h1 H' φ' st sm' (PoX.pull st q)
  | ex c fs h1 => exact q
  | no => exact q
theorem PoO.goE {o : Out Vl} {Q : Option Int → Hp → Prop} {Q1 : VK} (q : PoO K mg φ h H (o.bind oInt) Q E)
    (hk : ∀ (i : Int) (H1 : Hp), Q (some i) H1 → Q1 (.int i) H1) : PoX K mg φ h H o Q1 E := by
  cases o with
  | ok v h1 =>
    intro x H' φ' st sm' rv
    have q2 : PoO K mg φ h H (oInt v h1) Q E := q
    unfold oInt at q2
    split at q2
    · rw [VRep.int rv]
      exact hk _ _ (q2 H' φ' st sm')
    · exact q2.elim
  | ex c fs h1 => exact q
  | no => exact q
theorem Reps.cut {H : Hp} {M : Addr → Prop} {xs : List V} {ds : List Da} (lo hi : Option Int) (r : Reps K H M xs ds) : Reps K H M (cutV xs lo hi) (cutD ds lo hi) := by
  unfold cutV cutD
  rw [r.length]
  exact (r.drop _).take _
def rSlAll (K : PySem.W.Frag) : V → Option Int → Option Int → Hp → VK → Prop := fun x lo hi H Q => rSlA K x lo hi H Q ∨ rSlS x lo hi H Q ∨ rSlL K x lo hi H Q
theorem sl_all {X : Cx} : SlR X (rSlAll X.K) := sl_tupA.or (sl_str.or sl_list)
theorem cutD_all {α : Type} {xs : List α} {lo hi : Option Int} (h : HT.sIx xs.length 0 lo = 0 ∧ HT.sIx xs.length xs.length hi = xs.length) : cutD xs lo hi = xs := by
  unfold cutD
  rw [h.1, h.2]
  simp
theorem gSl_ok {x : V} {v : Vl} {lo hi : Option Int} {Q : VK} {w : Vl} {h' : Hh} (sm : Sim K φ h H) (rx : VRep K mg φ h H x v) (e : gSl v lo hi h = some (w, h'))
    (k : ∀ z H' φ', Step φ h H φ' h' H' → Sim K φ' h' H' → VRep K mg φ' h' H' z w → Q z H') : rSlAll K x lo hi H Q := by
  unfold gSl at e
  split at e
  · cases e
    obtain ⟨p, zs, rfl, sq, rs⟩ := VRep.tup rx
    refine .inl ⟨p, zs, rfl, sq, fun hw => ?_, fun _ q hq => ?_⟩
    · rw [rs.length] at hw
      rw [cutD_all hw] at k
      exact k _ H φ (Step.refl _ _ _) sm rx
    · obtain ⟨s1, s2, s3⟩ := new_tup sm (rs.cut lo hi) hq
      exact k _ _ _ s1 s2 s3
  · split at e
    · cases e
      exact .inr (.inl ⟨_, VRep.str rx, fitB_le (by assumption), k _ H φ (Step.refl _ _ _) sm (Rep.str _)⟩)
    · cases e
  · split at e
    · rename_i xs ex
      cases e
      obtain ⟨p, zs, rfl, sq, rs⟩ := asL_ok sm rx ex
      refine .inr (.inr ⟨p, zs, rfl, sq, fun q hq => ?_⟩)
      obtain ⟨s1, s2, s3⟩ := new_list sm (rs.cut lo hi) hq
      exact k _ _ _ s1 s2 s3
    · cases e
end
section
variable {X : Cx} {W : WX} {a : Expr} {fa : Ev} {pos p2 : Pos} {lo hi : Option Expr} {fl fh : Ov}
theorem eo_none : EO X W none oNone := PO.of po_none fun σ H Q ⟨φ, h, ρ, sm, er, q⟩ => q H φ (Step.refl _ _ _) sm
theorem eo_some (ha : EE X W a fa) : EO X W (some a) (oSome fa) := PO.of (po_some ha) fun σ H Q ⟨φ, h, ρ, sm, er, q⟩ => ⟨φ, h, ρ, sm, er, PoO.goE q fun i H1 z => ⟨i, rfl, z⟩⟩
theorem ee_slice (ha : EE X W a fa) (hl : EO X W lo fl) (hh : EO X W hi fh) : EE X W (.Subscript a (.Slice lo hi none p2) pos) (eSl fa fl fh) :=
  PE.of (pe_slice sl_all ha hl hh) fun σ H Q ⟨φ, h, ρ, sm, er, q⟩ => ⟨φ, h, ρ, sm, er, PoX.goE q fun x v h1 H1 φ1 st sm1 rv q1 => ⟨φ1, h1, ρ, sm1, er.step st, PoX.goO q1 fun l h2 H2 φ2 st2 sm2 q2 =>
    ⟨φ2, h2, ρ, sm2, (er.step st).step st2, PoX.goO q2 fun u h3 H3 φ3 st3 sm3 q3 => by
      obtain ⟨z, h4, e4, k4⟩ := PoX.ofO q3
      exact gSl_ok sm3 (rv.step (st2.trans st3)) e4 k4⟩⟩⟩
end
/-! ### built-in functions -/
section
variable {K : PySem.W.Frag}
def gLen : GC := fun as h => match as with
  | [.d (.tuple xs)] => some (.d (.int xs.length), h)
  | [.d (.str z)] => if fitB z.length then some (.d (.int z.length), h) else none
  | [x] => match asL x h with
    | some xs => some (.d (.int xs.length), h)
    | none => none
  | _ => none
theorem VReps.one {φ : List Addr} {h : Hh} {H : Hp} {xs : List V} {v : Vl} (r : VReps K mg φ h H xs [v]) : ∃ x, xs = [x] ∧ VRep K mg φ h H x v := by
  cases r with
  | cons r t =>
    cases t
    exact ⟨_, rfl, r⟩
theorem VReps.two {φ : List Addr} {h : Hh} {H : Hp} {xs : List V} {v w : Vl} (r : VReps K mg φ h H xs [v, w]) : ∃ x y, xs = [x, y] ∧ VRep K mg φ h H x v ∧ VRep K mg φ h H y w := by
  cases r with
  | cons r t =>
    obtain ⟨y, e, q⟩ := VReps.one t
    subst e
    exact ⟨_, _, rfl, r, q⟩
theorem ok_len : OkC K mg (fun xs H Q => ∃ x n, xs = [x] ∧ LenV K x H n ∧ Q (.int n) H) gLen := by
  intro φ h H xs as Q v h' sm rs e k
  unfold gLen at e
  split at e
  · cases e
    obtain ⟨x, rfl, r⟩ := rs.one
    obtain ⟨p, zs, rfl, sq, rr⟩ := VRep.tup r
    refine ⟨_, zs.length, rfl, .inr ⟨zs, sq, rfl⟩, ?_⟩
    rw [rr.length]
    exact k _ H φ (Step.refl _ _ _) sm (Rep.int _)
  · split at e
    · cases e
      obtain ⟨x, rfl, r⟩ := rs.one
      rw [VRep.str r]
      exact ⟨_, _, rfl, ⟨fitB_le (by assumption), rfl⟩, k _ H φ (Step.refl _ _ _) sm (Rep.int _)⟩
    · cases e
  · split at e
    · rename_i ys ey
      cases e
      obtain ⟨x, rfl, r⟩ := rs.one
      obtain ⟨p, zs, rfl, sq, rr⟩ := asL_ok sm r ey
      refine ⟨_, zs.length, rfl, .inl ⟨zs, sq, rfl⟩, ?_⟩
      rw [rr.length]
      exact k _ H φ (Step.refl _ _ _) sm (Rep.int _)
    · cases e
  · cases e
def gAbs : GC := fun as h => match as with
  | [.d (.int i)] => some (.d (.int (if i < 0 then -i else i)), h)
  | _ => none
theorem ok_abs : OkC K mg (fun xs H Q => ∃ i, xs = [.int i] ∧ Q (.int (if i < 0 then -i else i)) H) gAbs := by
  intro φ h H xs as Q v h' sm rs e k
  unfold gAbs at e
  split at e
  · cases e
    obtain ⟨x, rfl, r⟩ := rs.one
    rw [VRep.int r]
    exact ⟨_, rfl, k _ H φ (Step.refl _ _ _) sm (Rep.int _)⟩
  · cases e
def gMax : GC := fun as h => match as with
  | [.d (.int i), .d (.int j)] => some (.d (.int (if j > i then j else i)), h)
  | _ => none
def gMin : GC := fun as h => match as with
  | [.d (.int i), .d (.int j)] => some (.d (.int (if j < i then j else i)), h)
  | _ => none
def gInt1 : GC := fun as h => match as with
  | [.d (.int i)] => some (.d (.int i), h)
  | [.d (.bool b)] => some (.d (.int (if b then 1 else 0)), h)
  | _ => none
/-- list(x), tuple(x) -/
def gList : GC := fun as h => match as with
  | [x] => match asQ x h with
    | some xs => some (.r h.length, h ++ [some (.lst xs)])
    | none => none
  | _ => none
def gTuple : GC := fun as h => match as with
  | [x] => match asQ x h with
    | some xs => some (.d (.tuple xs), h)
    | none => none
  | _ => none
/-! ### isinstance with a built-in class -/
inductive Ty where
  | int | bool | str | tuple | list | dict
def Ty.name : Ty → String
  | .int => "int" | .bool => "bool" | .str => "str" | .tuple => "tuple" | .list => "list" | .dict => "dict"
def isTyD : Ty → Da → Option Bool
  | .int, .int _ => some true
  | .int, .bool _ => some true
  | .bool, .bool _ => some true
  | .str, .str _ => some true
  | .tuple, .tuple _ => some true
  | .list, .list _ => some true
  | .dict, .dict [] => some true
  | _, .dict [] => some false
  | _, .dict _ => none
  | _, _ => some false
def isTy (T : Ty) (v : Vl) (h : Hh) : Option Bool := match v with
  | .d x => isTyD T x
  | .r n => match h[n]? with
    | some (some (.lst xs)) => isTyD T (.list xs)
    | some (some (.dct _)) => some (match T with | .dict => true | _ => false)
    | _ => none
  | .x _ _ => none
  | .f _ => none
def eIsi (T : Ty) (a : Ev) : Ev := fun ρ h => (a ρ h).bind fun v h1 => match isTy T v h1 with
  | some b => .ok (.d (.bool b)) h1
  | none => .no
theorem kt_nn (T : Ty) : kitB "NoneType" T.name = some false := by cases T <;> decide +kernel
theorem kt_bl (T : Ty) : kitB "bool" T.name = some (match T with | .int => true | .bool => true | _ => false) := by cases T <;> decide +kernel
theorem kt_int (T : Ty) : kitB "int" T.name = some (match T with | .int => true | _ => false) := by cases T <;> decide +kernel
theorem kt_str (T : Ty) : kitB "str" T.name = some (match T with | .str => true | _ => false) := by cases T <;> decide +kernel
theorem kt_tup (T : Ty) : kitB "tuple" T.name = some (match T with | .tuple => true | _ => false) := by cases T <;> decide +kernel
theorem kt_lst (T : Ty) : kitB "list" T.name = some (match T with | .list => true | _ => false) := by cases T <;> decide +kernel
theorem kt_dct (T : Ty) : kitB "dict" T.name = some (match T with | .dict => true | _ => false) := by cases T <;> decide +kernel
theorem isTyD_ok {H : Hp} {M : Addr → Prop} {x : V} {d : Da} {T : Ty} {b : Bool} (r : Rep K H M x d) (e : isTyD T d = some b) : ∃ t, TyX K H x (.type t) ∧ kitB t T.name = some b := by
  cases r with
  | non => exact ⟨_, .base .non, by rw [kt_nn]; cases T <;> cases e <;> rfl⟩
  | bl c => exact ⟨_, .base (.bl c), by rw [kt_bl]; cases T <;> cases e <;> rfl⟩
  | int c => exact ⟨_, .base (.int c), by rw [kt_int]; cases T <;> cases e <;> rfl⟩
  | str c => exact ⟨_, .base (.str c), by rw [kt_str]; cases T <;> cases e <;> rfl⟩
  | tup h n r =>
    rcases h with h | ⟨o, h⟩
    · exact ⟨_, .base (.tup h), by rw [kt_tup]; cases T <;> cases e <;> rfl⟩
    · exact ⟨_, .fTuple h, by rw [kt_tup]; cases T <;> cases e <;> rfl⟩
  | tupK h r =>
    obtain ⟨o, its, n, h1, h2, _⟩ := h
    exact ⟨_, .kTuple h1 h2, by rw [kt_tup]; cases T <;> cases e <;> rfl⟩
  | lst h n r =>
    rcases h with h | ⟨o, h⟩
    · exact ⟨_, .base (.lst h), by rw [kt_lst]; cases T <;> cases e <;> rfl⟩
    · exact ⟨_, .base (.frz h), by rw [kt_lst]; cases T <;> cases e <;> rfl⟩
  | lstK h r =>
    obtain ⟨o, its, n, h1, h2, _⟩ := h
    exact ⟨_, .kList h1 h2, by rw [kt_lst]; cases T <;> cases e <;> rfl⟩
  | dct0 h n =>
    exact ⟨_, .base (.dT h), by rw [kt_dct]; cases T <;> cases e <;> rfl⟩
  | @dct a kvs ds kds h n ne r e2 =>
    refine ⟨_, .base (.dK h), ?_⟩
    rw [kt_dct]
    clear e2
    cases kds with
    | nil => cases T <;> cases e <;> rfl
    | cons p t => cases T <;> cases e
  | fn x => cases T <;> cases e
  | plt _ _ _ _ => cases T <;> cases e
theorem isTy_ok {φ : List Addr} {h : Hh} {H : Hp} {x : V} {v : Vl} {T : Ty} {b : Bool} (sm : Sim K φ h H) (r : VRep K mg φ h H x v) (e : isTy T v h = some b) : ∃ t, TyX K H x (.type t) ∧ kitB t T.name = some b := by
  cases v with
  | d d => exact isTyD_ok (show Rep K H (Live φ h) x d from r) e
  | r n =>
    obtain ⟨a, ea, rfl⟩ := r
    unfold isTy at e
    dsimp only at e
    split at e
    · rename_i xs ex
      obtain ⟨zs, e2, q⟩ := sm.at_ ex ea
      exact ⟨_, .base (.lst e2), by rw [kt_lst]; cases T <;> cases e <;> rfl⟩
    · rename_i kvs ex
      obtain ⟨zs, e2, q⟩ := sm.at_ ex ea
      exact ⟨_, .base (.dK e2), by rw [kt_dct]; cases T <;> cases e <;> rfl⟩
    · cases e
  | x c fs =>
    unfold isTy at e
    cases e
  | f D =>
    unfold isTy at e
    cases e
end
section
variable {X : Cx} {W : WX} {a : Expr} {fa : Ev} {pos p q : Pos}
theorem ee_isi {x : Str} (T : Ty) (hg : Gl X "isinstance") (hm : X.mg "isinstance" = none) (hg2 : Gl X x) (hm2 : X.mg x = none) (hv2 : bootBuiltins x = some (.type T.name)) (hn2 : x ≠ "__name__" := by decide) (hd2 : (x == ("__debug__" : Str)) = false := by decide)
    (ha : EE X W a fa) (he : starEach [a, .Name x q] X.env = (false, eval a X.env) :: starEach [.Name x q] X.env := by rfl) (he2 : starEach [.Name x q] X.env = (false, eval (.Name x q) X.env) :: starEach [] X.env := by rfl) (hpl : (backTo pos (starEach [.Name x q] X.env)).any (·.1) = false := by rfl) :
    EE X W (.Call (.Name "isinstance" p) [a, .Name x q] [] pos) (eIsi T fa) :=
  PE.of (pe_callB call_isi hg hm PyProof.Rows.boot_isinstance (pa_cons ha (pa_cons (pe_bltn (v := .ty T.name) hg2 hm2 hv2 rfl hn2 hd2) pa_nil he2) he) (by decide) (by decide) he hpl) fun σ H Q ⟨φ, h, ρ, sm, er, qq⟩ => ⟨φ, h, ρ, sm, er, PoX.goE qq fun x v h1 H1 φ1 st sm1 rv q1 => by
    cases e : isTy T v h1 with
    | none => rw [e] at q1; exact q1.elim
    | some b =>
      rw [e] at q1
      obtain ⟨t, ty, kt⟩ := isTy_ok sm1 rv e
      exact ⟨x, .ty T.name, .type t, .type T.name, b, rfl, .ty _, ty, kit_ty kt, PoX.now (v := .d (.bool b)) q1 sm1 (Rep.bl b)⟩⟩
end
end Rk

/-! Rk5: targets, statements, loops, a def. -/
namespace Rk
open PySem PySem.Spec L2
variable {mg : Str → Option Value}
/-! ### targets -/
abbrev Gv := Vl → En → Hh → Option (En × Hh)
abbrev Gs := List Vl → En → Hh → Option (En × Hh)
def tG (K : PySem.W.Frag) (mg : Str → Option Value) (g : Gv) : TG := fun x σ H Q => ∃ φ h ρ v ρ' h', Sim K φ h H ∧ ERep K mg φ h H σ ρ ∧ VRep K mg φ h H x v ∧ g v ρ h = some (ρ', h') ∧ ∀ σ' H' φ', Step φ h H φ' h' H' → Sim K φ' h' H' → ERep K mg φ' h' H' σ' ρ' → Q σ' H'
def tGs (K : PySem.W.Frag) (mg : Str → Option Value) (g : Gs) : TGs := fun xs σ H Q => ∃ φ h ρ vs ρ' h', Sim K φ h H ∧ ERep K mg φ h H σ ρ ∧ VReps K mg φ h H xs vs ∧ g vs ρ h = some (ρ', h') ∧ ∀ σ' H' φ', Step φ h H φ' h' H' → Sim K φ' h' H' → ERep K mg φ' h' H' σ' ρ' → Q σ' H'
def EG (X : Cx) (tg : Expr) (g : Gv) : Prop := PG X tg (tG X.K X.mg g)
def EGs (X : Cx) (tg : List Expr) (g : Gs) : Prop := PGs X tg (tGs X.K X.mg g)
theorem PG.of {X : Cx} {e : Expr} {t t' : TG} (h : PG X e t) (i : ∀ x σ H Q, t' x σ H Q → t x σ H Q) : PG X e t' := ⟨fun pins s σ H v u Q I r w => h.run pins s σ H v u Q I r (i v σ H Q w)⟩
theorem PGs.of {X : Cx} {e : List Expr} {t t' : TGs} (h : PGs X e t) (i : ∀ x σ H Q, t' x σ H Q → t x σ H Q) : PGs X e t' := ⟨fun pins s σ H v u Q I r w => h.run pins s σ H v u Q I r (i v σ H Q w)⟩
def gN (i : Nat) : Gv := fun v ρ h => some (ρ.set i (some v), h)
def gsNil : Gs := fun vs ρ h => match vs with
  | [] => some (ρ, h)
  | _ => none
def gsCons (g : Gv) (r : Gs) : Gs := fun vs ρ h => match vs with
  | v :: t => (g v ρ h).bind fun p => r t p.1 p.2
  | [] => none
/-- a tuple, or a list, of n -/
def gTupT (n : Nat) (g : Gs) : Gv := fun v ρ h => match v with
  | .d (.tuple ds) => if ds.length = n then g (ds.map Vl.d) ρ h else none
  | _ => none
theorem Reps.vreps {K : PySem.W.Frag} {φ : List Addr} {h : Hh} {H : Hp} : ∀ {xs : List V} {ds : List Da}, Reps K H (Live φ h) xs ds → VReps K mg φ h H xs (ds.map Vl.d)
  | _, _, .nil => .nil
  | _, _, .cons r t => .cons r (Reps.vreps t)
section
variable {X : Cx} {pos : Pos}
theorem eg_name {i : Nat} {x : Str} (hN : X.N.Nodup) (hi : X.N[i]? = some x := by rfl) (hx : Loc X.env.scope x := by first | exact .inl rfl | exact .inr rfl) (hf : X.fn x = true ∨ X.env.scope.names.lookup x = some .local := by first | exact .inl rfl | exact .inr rfl | assumption) : EG X (.Name x pos) (gN i) :=
  PG.of (pg_name (i := i) hN hi hx hf) fun x σ H Q ⟨φ, h, ρ, v, ρ', h', sm, er, rv, e, k⟩ => by
    cases e
    exact k _ H φ (Step.refl _ _ _) sm (er.set rv)
theorem egs_nil : EGs X [] gsNil := PGs.of pgs_nil fun xs σ H Q ⟨φ, h, ρ, vs, ρ', h', sm, er, rv, e, k⟩ => by
  cases rv with
  | nil =>
    cases e
    exact ⟨rfl, k _ H φ (Step.refl _ _ _) sm er⟩
  | cons _ _ => cases e
theorem egs_cons {e : Expr} {es : List Expr} {g : Gv} {gs : Gs} (h1 : EG X e g) (h2 : EGs X es gs)
    (hs : (assignEach (e :: es) X.env).map (·.2) = assign e X.env :: (assignEach es X.env).map (·.2) := by rfl) : EGs X (e :: es) (gsCons g gs) :=
  PGs.of (pgs_cons h1 h2 hs) fun xs σ H Q ⟨φ, h, ρ, vs, ρ', h', sm, er, rv, e, k⟩ => by
    cases rv with
    | nil => cases e
    | @cons x xs v vs r t =>
      have e' : ((g v ρ h).bind fun p => gs vs p.1 p.2) = some (ρ', h') := e
      cases q : g v ρ h with
      | none => rw [q] at e'; cases e'
      | some p =>
        obtain ⟨ρ1, h1⟩ := p
        rw [q] at e'
        exact ⟨x, xs, rfl, φ, h, ρ, v, ρ1, h1, sm, er, r, q, fun σ1 H1 φ1 st sm1 er1 => ⟨φ1, h1, ρ1, vs, ρ', h', sm1, er1, t.step st, e', fun σ2 H2 φ2 st2 => k σ2 H2 φ2 (st.trans st2)⟩⟩
theorem eg_tup {es : List Expr} {k n : Nat} {gs : Gs} (hc : X.calm = true) (h : EGs X es gs) (hn : (assignEach es X.env).length = n := by rfl) (hst : (assignEach es X.env).findIdx? (·.1) = none := by rfl) : EG X (.Tuple es k pos) (gTupT n gs) :=
  PG.of (pg_tup hc h hn hst) fun x σ H Q ⟨φ, h, ρ, v, ρ', h', sm, er, rv, e, k⟩ => by
    unfold gTupT at e
    split at e
    · rename_i ds
      split at e
      · obtain ⟨a, xs, rfl, sq, rs⟩ := VRep.tup rv
        exact ⟨a, xs, rfl, sq, by rw [rs.length]; assumption, φ, h, ρ, _, ρ', h', sm, er, rs.vreps, e, k⟩
      · cases e
    · cases e
end
/-! ### statements -/
def ofG : Option (En × Hh) → So
  | some p => .nx p.1 p.2
  | none => .no
def sAsg (g : Gv) (f : Ev) : Sv := fun ρ h => Out.then ρ (f ρ h) fun v h1 => ofG (g v ρ h1)
def sSet (i : Nat) (f : Ev) : Sv := fun ρ h => Out.then ρ (f ρ h) fun v h1 => .nx (ρ.set i (some v)) h1
def sRet (f : Ev) : Sv := fun ρ h => Out.then ρ (f ρ h) fun v h1 => .rt v h1
def sRetN : Sv := fun _ h => .rt (.d .none) h
def sExpr (f : Ev) : Sv := fun ρ h => Out.then ρ (f ρ h) fun _ h1 => .nx ρ h1
def sIf (c : Tv) (a b : Sv) : Sv := fun ρ h => Out.then ρ (c ρ h) fun k h1 => if k then a ρ h1 else b ρ h1
def So.then : So → Sv → So
  | .nx ρ h, f => f ρ h
  | r, _ => r
def sSeq (a b : Sv) : Sv := fun ρ h => (a ρ h).then b
def sNil : Sv := fun ρ h => .nx ρ h
def sBrk : Sv := fun ρ h => .bk ρ h
def sCont : Sv := fun ρ h => .ct ρ h
def sPar (i j : Nat) (as : Av) : Sv := fun ρ h => Out.then ρ (as ρ h) fun vs h1 => match vs with
  | [v, w] => .nx ((ρ.set i (some v)).set j (some w)) h1
  | _ => .no
section
variable {X : Cx} {W : WX} {e : Expr} {fe : Ev} {pos : Pos}
theorem PoS.nxNow {K : PySem.W.Frag} {mg : Str → Option Value} {φ : List Addr} {h : Hh} {H : Hp} {ρ : En} {σ : L2.St} {D : Ends} {W : WX} (q : PoS K mg φ h H (.nx ρ h) D W) (sm : Sim K φ h H) (er : ERep K mg φ h H σ ρ) : D.nx σ H := q σ H φ (Step.refl _ _ _) sm er
theorem es_asg {tg : Expr} {g : Gv} (he : EE X W e fe) (hg : EG X tg g) (hs : swapsWithSole [tg] e pos.line X.env = pure false := by rfl) (hw : swappedStores [tg] e X.env = pure none := by rfl)
    (h1 : (assignEach [tg] X.env).map (·.2) = [assign tg X.env] := by rfl) : ES X W (.Assign [tg] e pos) (sAsg g fe) :=
  PS.of (ps_asg he hg hs hw h1) fun D σ H ⟨φ, h, ρ, sm, er, q⟩ => ⟨φ, h, ρ, sm, er, PoS.goE er q fun x v h1 H1 φ1 st sm1 er1 rv q1 => by
    cases e : g v ρ h1 with
    | none => rw [e] at q1; exact q1.elim
    | some p =>
      rw [e] at q1
      exact ⟨φ1, h1, ρ, v, p.1, p.2, sm1, er1, rv, e, q1⟩⟩
theorem es_set {i : Nat} {x : Str} {pos' : Pos} (hN : X.N.Nodup) (he : EE X W e fe) (hi : X.N[i]? = some x := by rfl) (hx : Loc X.env.scope x := by first | exact .inl rfl | exact .inr rfl) (hs : swapsWith e (some (.Name x pos')) pos.line X.env = pure false := by rfl) (hf : X.fn x = true ∨ X.env.scope.names.lookup x = some .local := by first | exact .inl rfl | exact .inr rfl | assumption) :
    ES X W (.Assign [.Name x pos'] e pos) (sSet i fe) :=
  PS.of (ps_set hN hi hx he hs hf) fun D σ H ⟨φ, h, ρ, sm, er, q⟩ => ⟨φ, h, ρ, sm, er, PoS.goE er q fun x v h1 H1 φ1 st sm1 er1 rv q1 => PoS.nxNow q1 sm1 (er1.set rv)⟩
theorem es_ret (he : EE X W e fe) : ES X W (.Return (some e) pos) (sRet fe) :=
  PS.of (ps_ret he) fun D σ H ⟨φ, h, ρ, sm, er, q⟩ => ⟨φ, h, ρ, sm, er, PoS.goE er q fun x v h1 H1 φ1 st sm1 er1 rv q1 => q1 x H1 φ1 (Step.refl _ _ _) sm1 rv⟩
theorem es_expr (he : EE X W e fe) (hs : swapsWith e none pos.line X.env = pure false := by rfl) : ES X W (.Expr e pos) (sExpr fe) :=
  PS.of (ps_expr he hs) fun D σ H ⟨φ, h, ρ, sm, er, q⟩ => ⟨φ, h, ρ, sm, er, PoS.goE er q fun x v h1 H1 φ1 st sm1 er1 rv q1 => PoS.nxNow q1 sm1 er1⟩
theorem es_if {c : Expr} {a b : List Stmt} {tc : Tv} {fa fb : Sv} (hc : ET X W c tc) (ha : ESs X W a fa) (hb : ESs X W b fb) : ES X W (.If c a b pos) (sIf tc fa fb) :=
  PS.of (ps_if hc ha hb) fun D σ H ⟨φ, h, ρ, sm, er, q⟩ => ⟨φ, h, ρ, sm, er, PoS.goT er q fun v h1 H1 φ1 st sm1 er1 q1 => by
    cases v with
    | true => exact iteT ⟨φ1, h1, ρ, sm1, er1, q1⟩
    | false => exact iteF ⟨φ1, h1, ρ, sm1, er1, q1⟩⟩
theorem ess_nil : ESs X W [] sNil := PSs.of pss_nil fun D σ H ⟨φ, h, ρ, sm, er, q⟩ => PoS.nxNow q sm er
theorem ess_one {st : Stmt} {f : Sv} (h : ES X W st f) : ESs X W [st] f := pss_one h
theorem ess_cons {st : Stmt} {rest : List Stmt} {f g : Sv} (h1 : ES X W st f) (h2 : ESs X W rest g) : ESs X W (st :: rest) (sSeq f g) :=
  PSs.of (pss_cons h1 h2) fun D σ H ⟨φ, h, ρ, sm, er, q⟩ => ⟨φ, h, ρ, sm, er, by
    unfold sSeq at q
    revert q
    cases f ρ h with
    | nx ρ1 h1 => exact fun q σ1 H1 φ1 st sm1 er1 => ⟨φ1, h1, ρ1, sm1, er1, PoS.pull st q⟩
    | rt v h1 => exact fun q => q
    | bk ρ1 h1 => exact fun q => q
    | ct ρ1 h1 => exact fun q => q
    | ex c fs ρ1 h1 => exact fun q => q
    | no => exact fun q => q⟩
theorem es_par {i j : Nat} {x y : Str} {a b : Expr} {fs : Av} {px py pt : Pos} {kt k2 : Nat} {pt2 : Pos} (hc : X.calm = true) (hN : X.N.Nodup) (ha : EA X W [a, b] fs) (hi : X.N[i]? = some x := by rfl) (hj : X.N[j]? = some y := by rfl) (hij : i ≠ j := by decide)
    (hx : X.env.scope.names.lookup x = some .local := by rfl) (hy : X.env.scope.names.lookup y = some .local := by rfl)
    (hw : swappedStores [.Tuple [.Name x px, .Name y py] kt pt] (.Tuple [a, b] k2 pt2) X.env = pure (some [x, y]) := by rfl)
    (hs : swapsWithSole [.Tuple [.Name x px, .Name y py] kt pt] (.Tuple [a, b] k2 pt2) pos.line X.env = pure false := by rfl) :
    ES X W (.Assign [.Tuple [.Name x px, .Name y py] kt pt] (.Tuple [a, b] k2 pt2) pos) (sPar i j fs) :=
  PS.of (ps_par hc hN hi hj hij hx hy ha hw hs) fun D σ H ⟨φ, h, ρ, sm, er, q⟩ => ⟨φ, h, ρ, sm, er, PoS.goA er q fun xs vs h1 H1 φ1 st sm1 er1 rv q1 => by
    split at q1
    · obtain ⟨x, y, rfl, r1, r2⟩ := rv.two
      exact ⟨x, y, rfl, PoS.nxNow q1 sm1 ((er1.set r1).set r2)⟩
    · exact q1.elim⟩
/-- name op= e -/
def sAug (i : Nat) (g : G2) (f : Ev) : Sv := fun ρ h => Out.then ρ (eVar i ρ h) fun x h0 => Out.then ρ (f ρ h0) fun y h1 => Out.then ρ (ofO (g x y h1)) fun z h2 => .nx (ρ.set i (some z)) h2
/-- o[i] = e, o a list -/
def okO : Out Vl → Option (Vl × Hh)
  | .ok v h => some (v, h)
  | _ => none
def setL (o i v : Vl) (h : Hh) : Option Hh := match o, i, fz v h with
  | .r n, .d (.int k), some (d, h1) => match h1[n]? with
    | some (some (.lst xs)) => (ixN xs.length k).map fun j => h1.set n (some (.lst (xs.set j d)))
    | _ => none
  | _, _, _ => none
def gSetL (o ix : Ev) : Gv := fun v ρ h => (okO (o ρ h)).bind fun p => (okO (ix ρ p.2)).bind fun q => (setL p.1 q.1 v q.2).map fun h' => (ρ, h')
theorem okO_some {o : Out Vl} {v : Vl} {h : Hh} (e : okO o = some (v, h)) : o = .ok v h := by
  cases o <;> cases e
  rfl
theorem setL_ok {K : PySem.W.Frag} {φ : List Addr} {h h' : Hh} {H : Hp} {x y z : V} {o i v : Vl} {Q : Hp → Prop} (sm : Sim K φ h H) (rx : VRep K mg φ h H x o) (ry : VRep K mg φ h H y i) (rz : VRep K mg φ h H z v) (e : setL o i v h = some h')
    (k : ∀ H' φ', Step φ h H φ' h' H' → Sim K φ' h' H' → Q H') : rSetL x y z H Q := by
  unfold setL at e
  split at e
  · rename_i n kk d h1 ef
    obtain ⟨s1, s2, s3⟩ := fz_ok sm rz ef
    split at e
    · rename_i xs en
      obtain ⟨a, ea, rfl⟩ := rx
      cases q : ixN xs.length kk with
      | none => rw [q] at e; cases e
      | some j =>
        rw [q] at e
        cases e
        obtain ⟨ys, eh, rs⟩ := s2.at_ en ea
        obtain ⟨t1, t2⟩ := s2.write (ob := .lst (xs.set j d)) (u := .lst (ys.set j z)) en ea fun M st => ⟨_, upd_same, Reps.set (s3.stay st) j (rs.stay st)⟩
        exact ⟨a, ys, kk, j, rfl, VRep.int ry, eh, by rw [rs.length]; exact q, k _ _ (s1.trans t1) t2⟩
    · cases e
  · cases e
theorem eg_setL {o ix : Expr} {fo fi : Ev} (ho : EE X W o fo) (hi : EE X W ix fi)
    (ha : ∀ v, assign (.Subscript o ix pos) X.env v = (do
      let ov ← holding [v] (eval o X.env)
      let iv ← holding [v, ov] (eval ix X.env)
      standAt pos
      holding [v, ov, iv] (setItem ov iv v)
      release [v, ov, iv] []) := by intro _; rfl) : EG X (.Subscript o ix pos) (gSetL fo fi) :=
  PG.of (pg_sub ho hi set_list ha) fun x σ H Q ⟨φ, h, ρ, v, ρ', h', sm, er, rv, e, k⟩ => by
    unfold gSetL at e
    cases e1 : okO (fo ρ h) with
    | none => rw [e1] at e; cases e
    | some p =>
      obtain ⟨ov, h1⟩ := p
      rw [e1] at e
      dsimp only [Option.bind_some] at e
      cases e2 : okO (fi ρ h1) with
      | none => rw [e2] at e; cases e
      | some p2 =>
        obtain ⟨iv, h2⟩ := p2
        rw [e2] at e
        dsimp only [Option.bind_some] at e
        cases e3 : setL ov iv v h2 with
        | none => rw [e3] at e; cases e
        | some h3 =>
          rw [e3] at e
          cases e
          refine ⟨φ, h, ρ, sm, er, ?_⟩
          rw [okO_some e1]
          intro y H1 φ1 st1 sm1 ry
          refine ⟨φ1, h1, ρ, sm1, er.step st1, ?_⟩
          rw [okO_some e2]
          intro z H2 φ2 st2 sm2 rz
          exact setL_ok sm2 (ry.step st2) rz (rv.step (st1.trans st2)) e3 fun H3 φ3 st3 sm3 => k σ H3 φ3 ((st1.trans st2).trans st3) sm3 (er.step ((st1.trans st2).trans st3))
end
end Rk

/-! Rk6: loops, defs. -/
namespace Rk
open PySem PySem.Spec L2
variable {mg : Str → Option Value}
/-! ### what is walked -/
/-- a list that must stand still -/
def gdOk (gd : Option (Nat × List Da)) (h : Hh) : Prop := match gd with
  | none => True
  | some (n, xs) => h[n]? = some (some (.lst xs))
structure Itm where
  ds : List Da
  gd : Option (Nat × List Da)
abbrev Iv := En → Hh → Out Itm
structure ItOk (K : PySem.W.Frag) (J : It) (m : Itm) (G : List Addr → Hh → Hp → Prop) : Prop where
  go : ∀ (φ : List Addr) (h : Hh) (H : Hp) (i : Nat), Sim K φ h H → G φ h H → gdOk m.gd h → i < m.ds.length → J.go i H
  yld : ∀ (φ : List Addr) (h : Hh) (H : Hp) (i : Nat) (x : V) (H' : Hp) (d : Da), Sim K φ h H → G φ h H → gdOk m.gd h → m.ds[i]? = some d → J.yld i H x H' → Step φ h H φ h H' ∧ Sim K φ h H' ∧ Rep K H' (Live φ h) x d
  stop : ∀ (φ : List Addr) (h : Hh) (H : Hp) (i : Nat), Sim K φ h H → G φ h H → gdOk m.gd h → m.ds.length ≤ i → J.stop i H
  keep : ∀ (φ : List Addr) (h : Hh) (H : Hp) (φ' : List Addr) (h' : Hh) (H' : Hp), G φ h H → Step φ h H φ' h' H' → G φ' h' H'
def PoI (K : PySem.W.Frag) (mg : Str → Option Value) (φ : List Addr) (h : Hh) (H : Hp) (o : Out Itm) (R : It → Hp → Prop) (E : XK) : Prop := match o with
  | .ok m h' => ∀ J H' φ' G, Step φ h H φ' h' H' → Sim K φ' h' H' → ItOk K J m G → G φ' h' H' → R J H'
  | .ex c fs h' => ∀ cls dd H' φ', Step φ h H φ' h' H' → Sim K φ' h' H' → XRep K mg H' (Live φ' h') c fs cls dd → E cls dd H'
  | .no => False
def tI (K : PySem.W.Frag) (mg : Str → Option Value) (W : WX) (f : Iv) : TI := fun σ H R => ∃ φ h ρ, Sim K φ h H ∧ ERep K mg φ h H σ ρ ∧ PoI K mg φ h H (f ρ h) R (WE W σ)
def EI (X : Cx) (W : WX) (tg iter : Expr) (f : Iv) : Prop := PI X tg iter (tI X.K X.mg W f)
theorem PI.of {X : Cx} {tg e : Expr} {t t' : TI} (h : PI X tg e t) (i : ∀ σ H Q, t' σ H Q → t σ H Q) : PI X tg e t' := ⟨fun pins s σ H Q I w => h.run pins s σ H Q I (i σ H Q w)⟩
section
variable {K : PySem.W.Frag} {mg : Str → Option Value} {φ φ1 : List Addr} {h h1 : Hh} {H H1 : Hp} {E : XK}
theorem PoI.pull {o : Out Itm} {Q : It → Hp → Prop} (s : Step φ h H φ1 h1 H1) (q : PoI K mg φ h H o Q E) : PoI K mg φ1 h1 H1 o Q E := by
  cases o with
  | ok v h2 => exact fun J H' φ' G st => q J H' φ' G (s.trans st)
  | ex c fs h2 => exact fun cls dd H' φ' st => q cls dd H' φ' (s.trans st)
  | no => exact q
theorem PoI.goE {o : Out Vl} {k : Vl → Hh → Out Itm} {Q : It → Hp → Prop} {Q1 : VK} (q : PoI K mg φ h H (o.bind k) Q E)
    (hk : ∀ (x : V) (v : Vl) (h1 : Hh) (H1 : Hp) (φ1 : List Addr), Step φ h H φ1 h1 H1 → Sim K φ1 h1 H1 → VRep K mg φ1 h1 H1 x v → PoI K mg φ1 h1 H1 (k v h1) Q E → Q1 x H1) : PoX K mg φ h H o Q1 E := by
  cases o with
  | ok v h1 => exact fun x H' φ' st sm' rv => hk x v h1 H' φ' st sm' rv (PoI.pull st q)
  | ex c fs h1 => exact q
  | no => exact q
theorem PoI.goA {o : Out (List Vl)} {k : List Vl → Hh → Out Itm} {Q : It → Hp → Prop} {Q1 : List V → Hp → Prop} (q : PoI K mg φ h H (o.bind k) Q E)
    (hk : ∀ (x : List V) (v : List Vl) (h1 : Hh) (H1 : Hp) (φ1 : List Addr), Step φ h H φ1 h1 H1 → Sim K φ1 h1 H1 → VReps K mg φ1 h1 H1 x v → PoI K mg φ1 h1 H1 (k v h1) Q E → Q1 x H1) : PoA K mg φ h H o Q1 E := by
  cases o with
  | ok v h1 => exact fun x H' φ' st sm' rv => hk x v h1 H' φ' st sm' rv (PoI.pull st q)
  | ex c fs h1 => exact q
  | no => exact q
end
/-- a list: data, or an object that must stand still -/
def itL : Vl → Hh → Out Itm
  | .d (.list ds), h => .ok ⟨ds, none⟩ h
  | .r n, h => match h[n]? with
    | some (some (.lst ds)) => .ok ⟨ds, some (n, ds)⟩ h
    | _ => .no
  | _, _ => .no
def itT : Vl → Hh → Out Itm
  | .d (.tuple ds), h => .ok ⟨ds, none⟩ h
  | _, _ => .no
def itQ : Vl → Hh → Out Itm
  | .d (.tuple ds), h => .ok ⟨ds, none⟩ h
  | v, h => itL v h
def iv (it : Vl → Hh → Out Itm) (f : Ev) : Iv := fun ρ h => (f ρ h).bind it
def iSeq (K : PySem.W.Frag) (tl : TE) : TI := fun σ H R => tl σ H fun x H1 => ∃ a, x = .ref a ∧ (((∃ xs, SqL K H1 a xs) ∧ R (Itl K a) H1) ∨ ((∃ xs, SqT K H1 a xs) ∧ R (Itt K a) H1))
section
variable {K : PySem.W.Frag}
/-- how a list stands, for a walk -/
structure LOk (K : PySem.W.Frag) (a : Addr) (m : Itm) (G : List Addr → Hh → Hp → Prop) : Prop where
  sq : ∀ (φ : List Addr) (h : Hh) (H : Hp), Sim K φ h H → G φ h H → gdOk m.gd h → ∃ xs, SqL K H a xs ∧ Reps K H (Live φ h) xs m.ds
  keep : ∀ (φ : List Addr) (h : Hh) (H : Hp) (φ' : List Addr) (h' : Hh) (H' : Hp), G φ h H → Step φ h H φ' h' H' → G φ' h' H'
theorem itL_lok {φ : List Addr} {h h' : Hh} {H : Hp} {x : V} {v : Vl} {m : Itm} (sm : Sim K φ h H) (r : VRep K mg φ h H x v) (e : itL v h = .ok m h') : h' = h ∧ gdOk m.gd h ∧ ∃ a G, x = .ref a ∧ LOk K a m G ∧ G φ h H := by
  unfold itL at e
  split at e
  · cases e
    rename_i ds
    have r' : Rep K H (Live φ h) x (.list ds) := r
    cases r' with
    | @lst a xs _ h1 n r1 =>
      exact ⟨rfl, trivial, a, fun φ h H => Rep K H (Live φ h) (.ref a) (.list ds), rfl, ⟨fun φ h H _ g _ => Rep.sqL g, fun φ h H φ' h' H' g st => Rep.stay st.st g⟩, r⟩
    | @lstK a xs _ h1 r1 =>
      exact ⟨rfl, trivial, a, fun φ h H => Rep K H (Live φ h) (.ref a) (.list ds), rfl, ⟨fun φ h H _ g _ => Rep.sqL g, fun φ h H φ' h' H' g st => Rep.stay st.st g⟩, r⟩
  · split at e
    · rename_i n _ ds en
      cases e
      obtain ⟨a, ea, rfl⟩ := r
      refine ⟨rfl, en, a, fun (φ : List Addr) (h : Hh) (H : Hp) => φ[n]? = some a, rfl, ⟨fun φ h H sm g gd => ?_, fun φ h H φ' h' H' g st => pre_get st.pre g⟩, ea⟩
      obtain ⟨xs, e2, q⟩ := sm.at_ gd g
      exact ⟨xs, .of e2, q⟩
    · cases e
  · cases e
theorem LOk.it {a : Addr} {m : Itm} {G : List Addr → Hh → Hp → Prop} (L : LOk K a m G) : ItOk K (Itl K a) m G where
  go := fun φ h H i sm g gd hi => by
    obtain ⟨xs, sq, rs⟩ := L.sq φ h H sm g gd
    obtain ⟨y, e, _⟩ := rs.get (List.getElem?_eq_getElem hi)
    exact ⟨xs, y, sq, e⟩
  yld := fun φ h H i x H' d sm g gd ed ⟨e, q⟩ => by
    subst e
    obtain ⟨xs, sq, rs⟩ := L.sq φ h H' sm g gd
    obtain ⟨y, ey, ry⟩ := rs.get ed
    have e2 := q xs sq
    rw [ey] at e2
    cases e2
    exact ⟨Step.refl _ _ _, sm, ry⟩
  stop := fun φ h H i sm g gd hi => by
    obtain ⟨xs, sq, rs⟩ := L.sq φ h H sm g gd
    exact ⟨xs, sq, by rw [rs.length]; exact hi⟩
  keep := L.keep
theorem enum_it {a : Addr} {m : Itm} {G : List Addr → Hh → Hp → Prop} (L : LOk K a m G) : ItOk K (Ite K a) ⟨m.ds.mapIdx fun i d => .tuple [.int (i : Nat), d], m.gd⟩ G where
  go := fun φ h H i sm g gd hi => by
    obtain ⟨xs, sq, rs⟩ := L.sq φ h H sm g gd
    obtain ⟨y, e, _⟩ := rs.get (List.getElem?_eq_getElem (show i < m.ds.length by simpa using hi))
    exact ⟨xs, y, sq, e⟩
  yld := fun φ h H i x H' d sm g gd ed ⟨T, y, ex, hT, e, q⟩ => by
    subst ex e
    obtain ⟨xs, sq, rs⟩ := L.sq φ h H sm g gd
    rw [List.getElem?_mapIdx] at ed
    cases e3 : m.ds[i]? with
    | none => rw [e3] at ed; cases ed
    | some d0 =>
      rw [e3] at ed
      cases ed
      obtain ⟨y2, ey, ry⟩ := rs.get e3
      have e2 := q xs sq
      rw [ey] at e2
      cases e2
      obtain ⟨s1, s2, s3⟩ := new_tup (mg := fun _ => none) sm (ds := [.int (i : Nat), d0]) (.cons (.int _) (.cons ry .nil)) hT
      exact ⟨s1, s2, s3⟩
  stop := fun φ h H i sm g gd hi => by
    obtain ⟨xs, sq, rs⟩ := L.sq φ h H sm g gd
    exact ⟨xs, sq, by rw [rs.length]; simpa using hi⟩
  keep := L.keep
def rngD (lo : Int) (n : Nat) : List Da := (List.range n).map fun k => .int (lo + (k : Nat))
theorem range_it {lo : Int} {n : Nat} : ItOk K (Itr lo n) ⟨rngD lo n, none⟩ (fun _ _ _ => True) where
  go := fun φ h H i sm g gd hi => by
    show i < n
    simpa [rngD] using hi
  yld := fun φ h H i x H' d sm g gd ed ⟨e, q⟩ => by
    subst e q
    unfold rngD at ed
    rw [List.getElem?_map] at ed
    cases e3 : (List.range n)[i]? with
    | none => rw [e3] at ed; cases ed
    | some k =>
      rw [e3] at ed
      have e4 := (List.getElem?_eq_some_iff.mp e3)
      obtain ⟨h1, h2⟩ := e4
      rw [List.getElem_range] at h2
      subst h2
      cases ed
      exact ⟨Step.refl _ _ _, sm, .int _⟩
  stop := fun φ h H i sm g gd hi => by
    show n ≤ i
    simpa [rngD] using hi
  keep := fun _ _ _ _ _ _ _ _ => trivial
end
def rgB (j : Int) : Bool := decide (-1000000000000 ≤ j) && decide (j ≤ 1000000000000)
theorem rgB_ok {j : Int} (h : rgB j = true) : -(2 ^ 62) ≤ j ∧ j < 2 ^ 62 := by
  unfold rgB at h
  rw [Bool.and_eq_true] at h
  exact ⟨Int.le_trans (by decide) (of_decide_eq_true h.1), Int.lt_of_le_of_lt (of_decide_eq_true h.2) (by decide)⟩
def iRange1 (as : Av) : Iv := fun ρ h => (as ρ h).bind fun vs h1 => match vs with
  | [.d (.int j)] => if rgB j then .ok ⟨rngD 0 j.toNat, none⟩ h1 else .no
  | _ => .no
def iRange2 (as : Av) : Iv := fun ρ h => (as ρ h).bind fun vs h1 => match vs with
  | [.d (.int i), .d (.int j)] => if rgB i && rgB j then .ok ⟨rngD i (j - i).toNat, none⟩ h1 else .no
  | _ => .no
def enumI (o : Out Itm) : Out Itm := o.bind fun m h => .ok ⟨m.ds.mapIdx fun i d => .tuple [.int (i : Nat), d], m.gd⟩ h
def iEnumL (as : Av) : Iv := fun ρ h => (as ρ h).bind fun vs h1 => match vs with
  | [v] => enumI (itL v h1)
  | _ => .no
section
variable {X : Cx} {W : WX} {tg e : Expr} {fe : Ev} {pos p : Pos} {fs : Av}
theorem ei_range1 {a : Expr} (hg : Gl X "range") (hm : X.mg "range" = none) (ha : EA X W [a] fs) (hs : starEach [a] X.env = [(false, eval a X.env)] := by rfl) : EI X W tg (.Call (.Name "range" p) [a] [] pos) (iRange1 fs) :=
  PI.of (pi_range1 hg hm ha hs) fun σ H R ⟨φ, h, ρ, sm, er, q⟩ => ⟨φ, h, ρ, sm, er, PoI.goA q fun xs vs h1 H1 φ1 st sm1 rv q1 => by
    split at q1
    · obtain ⟨x, rfl, r⟩ := rv.one
      split at q1
      · rename_i j hj
        rw [VRep.int r]
        exact ⟨j, rfl, (rgB_ok hj).1, (rgB_ok hj).2, q1 _ H1 φ1 _ (Step.refl _ _ _) sm1 range_it trivial⟩
      · exact q1.elim
    · exact q1.elim⟩
end
/-! ### for -/
open Classical in
noncomputable def forL (gd : Option (Nat × List Da)) (g : Gv) (body : Sv) : List Da → En → Hh → So
  | [], ρ, h => if gdOk gd h then .nx ρ h else .no
  | d :: ds, ρ, h => if gdOk gd h then (match g (.d d) ρ h with
      | none => .no
      | some p => match body p.1 p.2 with
        | .nx ρ' h' => forL gd g body ds ρ' h'
        | .ct ρ' h' => forL gd g body ds ρ' h'
        | .bk ρ' h' => .nx ρ' h'
        | r => r) else .no
noncomputable def sFor (i : Iv) (g : Gv) (body : Sv) : Sv := fun ρ h => Out.then ρ (i ρ h) fun m h1 => forL m.gd g body m.ds ρ h1
section
variable {X : Cx} {W : WX} {tg iter : Expr} {fi : Iv} {g : Gv} {body : List Stmt} {fb : Sv} {pos : Pos}
theorem for_ok {K : PySem.W.Frag} {mg : Str → Option Value} {W : WX} {D : Ends} {J : It} {m : Itm} {G : List Addr → Hh → Hp → Prop} (ok : ItOk K J m G) {φ : List Addr} {h : Hh} {H : Hp} {σ : L2.St} {ρ : En} (sm : Sim K φ h H) (er : ERep K mg φ h H σ ρ) (gg : G φ h H)
    (q : PoS K mg φ h H (forL m.gd g fb m.ds ρ h) D W) : ∃ W' : Nat → Nat → L2.St → Hp → Prop, (∃ n, W' 0 n σ H) ∧ ∀ i n σ H, W' i n σ H →
      (J.stop i H ∧ D.nx σ H) ∨ (J.go i H ∧ ∃ N : L2.St → Hp → Prop, (∀ σ' H', N σ' H' → ∃ m', m' < n ∧ W' (i + 1) m' σ' H') ∧ ∀ x H', J.yld i H x H' → tG K mg g x σ H' fun σ2 H2 => tS K mg W fb { D with nx := N, ct := N, bk := D.nx } σ2 H2) := by
  refine ⟨fun i n σ H => n = m.ds.length - i ∧ ∃ φ h ρ, Sim K φ h H ∧ ERep K mg φ h H σ ρ ∧ G φ h H ∧ PoS K mg φ h H (forL m.gd g fb (m.ds.drop i) ρ h) D W, ⟨_, rfl, φ, h, ρ, sm, er, gg, by rw [List.drop_zero]; exact q⟩, ?_⟩
  rintro i n σ H ⟨rfl, φ, h, ρ, sm, er, gg, q⟩
  cases ed : m.ds.drop i with
  | nil =>
    rw [ed] at q
    unfold forL at q
    split at q
    · rename_i gd
      exact .inl ⟨ok.stop φ h H i sm gg gd (List.drop_eq_nil_iff.mp ed), PoS.nxNow q sm er⟩
    · exact q.elim
  | cons d ds =>
    have hi : i < m.ds.length := by
      rcases Nat.lt_or_ge i m.ds.length with z | z
      · exact z
      · rw [List.drop_eq_nil_of_le z] at ed; cases ed
    have e1 : m.ds[i]? = some d := by
      have := List.getElem?_drop (xs := m.ds) (i := i) (j := 0)
      rw [ed] at this
      simpa using this.symm
    have e2 : m.ds.drop (i + 1) = ds := by
      have := List.drop_drop (i := 1) (j := i) (l := m.ds)
      rw [ed] at this
      simpa using this.symm
    rw [ed] at q
    unfold forL at q
    split at q
    · rename_i gd
      refine .inr ⟨ok.go φ h H i sm gg gd hi, fun σ' H' => ∃ φ h ρ, Sim K φ h H' ∧ ERep K mg φ h H' σ' ρ ∧ G φ h H' ∧ PoS K mg φ h H' (forL m.gd g fb ds ρ h) D W, fun σ' H' hN => ?_, fun x H' hy => ?_⟩
      · obtain ⟨φ', h', ρ', a1, a2, a3, a4⟩ := hN
        exact ⟨m.ds.length - (i + 1), by omega, rfl, φ', h', ρ', a1, a2, a3, by rw [e2]; exact a4⟩
      · obtain ⟨s1, s2, s3⟩ := ok.yld φ h H i x H' d sm gg gd e1 hy
        have q' := PoS.pull s1 q
        have gg' := ok.keep _ _ _ _ _ _ gg s1
        cases eg : g (.d d) ρ h with
        | none => rw [eg] at q'; exact q'.elim
        | some p =>
          obtain ⟨ρ1, h1⟩ := p
          rw [eg] at q'
          refine ⟨φ, h, ρ, .d d, ρ1, h1, s2, er.step s1, s3, eg, fun σ2 H2 φ2 st2 sm2 er2 => ⟨φ2, h1, ρ1, sm2, er2, ?_⟩⟩
          have q2 := PoS.pull st2 q'
          have gg2 := ok.keep _ _ _ _ _ _ gg' st2
          dsimp only at q2
          revert q2
          cases fb ρ1 h1 with
          | nx ρ3 h3 => exact fun q2 σ3 H3 φ3 st3 sm3 er3 => ⟨φ3, h3, ρ3, sm3, er3, ok.keep _ _ _ _ _ _ gg2 st3, PoS.pull st3 q2⟩
          | ct ρ3 h3 => exact fun q2 σ3 H3 φ3 st3 sm3 er3 => ⟨φ3, h3, ρ3, sm3, er3, ok.keep _ _ _ _ _ _ gg2 st3, PoS.pull st3 q2⟩
          | bk ρ3 h3 => exact fun q2 => q2
          | rt v h3 => exact fun q2 => q2
          | ex c fs ρ3 h3 => exact fun q2 => q2
          | no => exact fun q2 => q2
    · exact q.elim
theorem es_for (hp : PassesOwn (model X.prog X.w) X.A X.env X.xe) (hc : X.calm = true) (hi : EI X W tg iter fi) (hg : EG X tg g) (hb : ESs X W body fb) (hs : ∀ x, foldedSetIterable iter X.env x = pure x := by intro _; rfl) : ES X W (.For tg iter body [] pos) (sFor fi g fb) :=
  PS.of (ps_for hp hc hi hg hb hs) fun D σ H ⟨φ, h, ρ, sm, er, q⟩ => ⟨φ, h, ρ, sm, er, by
    unfold sFor at q
    revert q
    cases fi ρ h with
    | ok m h1 => exact fun q J H1 φ1 G st sm1 ok gg => for_ok ok sm1 (er.step st) gg (PoS.pull st q)
    | ex c fs h1 => exact fun q cls dd H' φ' st sm' xr => q cls dd σ H' φ' st sm' (er.step st) xr
    | no => exact fun q => q⟩
end
/-! ### while -/
def whileN (c : Tv) (b : Sv) : Nat → En → Hh → Option So
  | 0, _, _ => none
  | n + 1, ρ, h => match c ρ h with
    | .no => some .no
    | .ex k fs h1 => some (.ex k fs ρ h1)
    | .ok false h1 => some (.nx ρ h1)
    | .ok true h1 => match b ρ h1 with
      | .nx ρ' h' => whileN c b n ρ' h'
      | .ct ρ' h' => whileN c b n ρ' h'
      | .bk ρ' h' => some (.nx ρ' h')
      | r => some r
theorem whileN_mono (c : Tv) (b : Sv) : ∀ (n : Nat) (ρ : En) (h : Hh) (r : So), whileN c b n ρ h = some r → whileN c b (n + 1) ρ h = some r
  | 0, _, _, _, e => by cases e
  | n + 1, ρ, h, r, e => by
    unfold whileN at e ⊢
    split at e <;> try exact e
    split at e
    · exact whileN_mono c b n _ _ r e
    · exact whileN_mono c b n _ _ r e
    · exact e
    · exact e
theorem whileN_le (c : Tv) (b : Sv) {n m : Nat} (hl : n ≤ m) {ρ : En} {h : Hh} {r : So} (e : whileN c b n ρ h = some r) : whileN c b m ρ h = some r := by
  induction hl with
  | refl => exact e
  | step _ ih => exact whileN_mono c b _ ρ h r ih
theorem whileN_det (c : Tv) (b : Sv) {n m : Nat} {ρ : En} {h : Hh} {r r' : So} (e : whileN c b n ρ h = some r) (e' : whileN c b m ρ h = some r') : r = r' := by
  have a := whileN_le c b (Nat.le_max_left n m) e
  have b' := whileN_le c b (Nat.le_max_right n m) e'
  rw [a] at b'
  exact Option.some.inj b'
open Classical in
noncomputable def sWhile (c : Tv) (b : Sv) : Sv := fun ρ h => if H : ∃ r, ∃ n, whileN c b n ρ h = some r then Classical.choose H else .no
theorem sWhile_of {c : Tv} {b : Sv} {n : Nat} {ρ : En} {h : Hh} {r : So} (e : whileN c b n ρ h = some r) : sWhile c b ρ h = r := by
  have H : ∃ r, ∃ n, whileN c b n ρ h = some r := ⟨r, n, e⟩
  unfold sWhile
  rw [dif_pos H]
  obtain ⟨m, e'⟩ := Classical.choose_spec H
  exact whileN_det c b e' e
theorem sWhile_none {c : Tv} {b : Sv} {ρ : En} {h : Hh} (e : ∀ n, whileN c b n ρ h = none) : sWhile c b ρ h = .no := by
  unfold sWhile
  rw [dif_neg]
  rintro ⟨r, n, q⟩
  rw [e n] at q
  cases q
/-- one turn -/
theorem sWhile_eq (c : Tv) (b : Sv) (ρ : En) (h : Hh) : sWhile c b ρ h = Out.then ρ (c ρ h) fun k h1 => if k then (match b ρ h1 with
      | .nx ρ' h' => sWhile c b ρ' h'
      | .ct ρ' h' => sWhile c b ρ' h'
      | .bk ρ' h' => .nx ρ' h'
      | r => r) else .nx ρ h1 := by
  have step : ∀ n, whileN c b (n + 1) ρ h = match c ρ h with
    | .no => some .no
    | .ex k fs h1 => some (.ex k fs ρ h1)
    | .ok false h1 => some (.nx ρ h1)
    | .ok true h1 => match b ρ h1 with
      | .nx ρ' h' => whileN c b n ρ' h'
      | .ct ρ' h' => whileN c b n ρ' h'
      | .bk ρ' h' => some (.nx ρ' h')
      | r => some r := fun n => rfl
  cases ec : c ρ h with
  | no => exact sWhile_of (n := 1) (by rw [step, ec]; rfl)
  | ex k fs h1 => exact sWhile_of (n := 1) (by rw [step, ec]; rfl)
  | ok k h1 =>
    cases k with
    | false => exact sWhile_of (n := 1) (by rw [step, ec]; rfl)
    | true =>
      show sWhile c b ρ h = match b ρ h1 with
        | .nx ρ' h' => sWhile c b ρ' h'
        | .ct ρ' h' => sWhile c b ρ' h'
        | .bk ρ' h' => .nx ρ' h'
        | r => r
      have again : ∀ ρ' h', (∀ n, whileN c b (n + 1) ρ h = whileN c b n ρ' h') → sWhile c b ρ h = sWhile c b ρ' h' := fun ρ' h' z => by
        by_cases q : ∃ r, ∃ n, whileN c b n ρ' h' = some r
        · obtain ⟨r, n, e⟩ := q
          rw [sWhile_of e]
          exact sWhile_of (n := n + 1) (by rw [z]; exact e)
        · have n1 : ∀ n, whileN c b n ρ' h' = none := fun n => by
            cases e : whileN c b n ρ' h' with
            | none => rfl
            | some r => exact absurd ⟨r, n, e⟩ q
          rw [sWhile_none n1]
          refine sWhile_none fun n => ?_
          cases n with
          | zero => rfl
          | succ n => rw [z]; exact n1 n
      cases eb : b ρ h1 with
      | nx ρ' h' => exact again ρ' h' fun n => by rw [step, ec]; dsimp only; rw [eb]
      | ct ρ' h' => exact again ρ' h' fun n => by rw [step, ec]; dsimp only; rw [eb]
      | bk ρ' h' => exact sWhile_of (n := 1) (by rw [step, ec]; dsimp only; rw [eb])
      | rt v h' => exact sWhile_of (n := 1) (by rw [step, ec]; dsimp only; rw [eb])
      | ex k fs ρ' h' => exact sWhile_of (n := 1) (by rw [step, ec]; dsimp only; rw [eb])
      | no => exact sWhile_of (n := 1) (by rw [step, ec]; dsimp only; rw [eb])
section
variable {X : Cx} {W : WX} {c : Expr} {tc : Tv} {body : List Stmt} {fb : Sv} {pos : Pos}
theorem es_while (hp : PassesOwn (model X.prog X.w) X.A X.env X.xe) (hc : ET X W c tc) (hb : ESs X W body fb) : ES X W (.While c body [] pos) (sWhile tc fb) :=
  PS.of (ps_while hp hc hb) fun D σ H ⟨φ, h, ρ, sm, er, q⟩ => by
    by_cases ex : ∃ r, ∃ n, whileN tc fb n ρ h = some r
    · obtain ⟨r, n, e⟩ := ex
      rw [sWhile_of e] at q
      refine ⟨fun m σ H => ∃ φ h ρ r, Sim X.K φ h H ∧ ERep X.K X.mg φ h H σ ρ ∧ whileN tc fb m ρ h = some r ∧ PoS X.K X.mg φ h H r D W, ⟨n, φ, h, ρ, r, sm, er, e, q⟩, ?_⟩
      rintro m σ H ⟨φ, h, ρ, r, sm, er, e, q⟩
      refine ⟨φ, h, ρ, sm, er, ?_⟩
      cases m with
      | zero => cases e
      | succ m =>
        unfold whileN at e
        revert e
        cases tc ρ h with
        | no => intro e; cases e; exact q
        | ex k fs h1 => intro e; cases e; exact fun cls dd H' φ' st sm' xr => q cls dd σ H' φ' st sm' (er.step st) xr
        | ok k h1 =>
          cases k with
          | false =>
            intro e
            cases e
            intro H1 φ1 st sm1
            exact iteF (q σ H1 φ1 st sm1 (er.step st))
          | true =>
            intro e
            intro H1 φ1 st sm1
            refine iteT ⟨fun σ' H' => ∃ φ h ρ r, Sim X.K φ h H' ∧ ERep X.K X.mg φ h H' σ' ρ ∧ whileN tc fb m ρ h = some r ∧ PoS X.K X.mg φ h H' r D W, fun σ' H' z => ⟨m, Nat.lt_succ_self m, z⟩, φ1, h1, ρ, sm1, er.step st, ?_⟩
            dsimp only at e
            revert e
            cases fb ρ h1 with
            | nx ρ' h' => exact fun e σ2 H2 φ2 st2 sm2 er2 => ⟨φ2, h', ρ', r, sm2, er2, e, PoS.pull (st.trans st2) q⟩
            | ct ρ' h' => exact fun e σ2 H2 φ2 st2 sm2 er2 => ⟨φ2, h', ρ', r, sm2, er2, e, PoS.pull (st.trans st2) q⟩
            | bk ρ' h' => intro e; cases e; exact PoS.pull st q
            | rt v h' => intro e; cases e; exact PoS.pull st q
            | ex k fs ρ' h' => intro e; cases e; exact PoS.pull st q
            | no => intro e; cases e; exact PoS.pull st q
    · have n1 : ∀ n, whileN tc fb n ρ h = none := fun n => by
        cases e : whileN tc fb n ρ h with
        | none => rfl
        | some r => exact absurd ⟨r, n, e⟩ ex
      rw [sWhile_none n1] at q
      exact q.elim
end
/-! ### a def -/
def trunc (n : Nat) (v : Vl) (h : Hh) : Out Vl := match v with
  | .r i => if i < n then .ok (.r i) (h.take n) else match h[i]? with
    | some (some (.rl _)) => .no
    | some (some o) => .ok (.r n) (h.take n ++ [some o])
    | _ => .no
  | .f _ => .no
  | v => .ok v (h.take n)
def retF (n : Nat) : So → Out Vl
  | .rt v h => trunc n v h
  | .nx _ h => trunc n (.d .none) h
  | .ex c fs _ h => .ex c fs (h.take n)
  | _ => .no
def enter (N : Nat) (as : List Vl) : En := as.map some ++ List.replicate (N - as.length) none
def mkF (k N : Nat) (body : Sv) : Fn := fun as h => if as.length = k then retF h.length (body (enter N as) h) else .no
section
variable {K : PySem.W.Frag} {mg : Str → Option Value}
theorem enter_ok {φ : List Addr} {h : Hh} {H : Hp} {vs : List V} {as : List Vl} (N : List Str) (r : VReps K mg φ h H vs as) : ERep K mg φ h H (start N vs) (enter N.length as) := by
  have hl := r.length
  refine ⟨by unfold L2.start enter; simp [hl], fun i v e => ?_⟩
  unfold enter at e
  unfold L2.start
  by_cases hi : i < as.length
  · rw [List.getElem?_append_left (by simpa using hi), List.getElem?_map] at e
    rw [List.getElem?_append_left (by simp; omega), List.getElem?_map]
    have get : ∀ {vs : List V} {as : List Vl} {i : Nat} {v : Vl}, VReps K mg φ h H vs as → as[i]? = some v → ∃ x, vs[i]? = some x ∧ VRep K mg φ h H x v := by
      intro vs as i v r
      induction r generalizing i with
      | nil => intro e; simp at e
      | cons q t ih =>
        cases i with
        | zero => intro e; simp at e; subst e; exact ⟨_, rfl, q⟩
        | succ i => intro e; exact ih (by simpa using e)
    cases e2 : as[i]? with
    | none => rw [e2] at e; cases e
    | some w =>
      rw [e2] at e
      cases e
      obtain ⟨x, e3, q⟩ := get r e2
      exact ⟨x, by rw [e3]; rfl, q⟩
  · rw [List.getElem?_append_right (by simpa using Nat.le_of_not_lt hi)] at e
    rw [List.getElem?_replicate] at e
    split at e <;> cases e
/-- the numbers above n are forgotten -/
theorem Sim.cut {φ φ' : List Addr} {h' : Hh} {H' : Hp} {n : Nat} (sm : Sim K φ' h' H') (pre : φ <+: φ') (hn : φ.length = n) :
    Sim K φ (h'.take n) H' ∧ (∀ a, Live φ (h'.take n) a → Live φ' h' a) := by
  have le : n ≤ h'.length := by rw [← sm.len, ← hn]; exact pre.length_le
  have back : ∀ (i : Nat) (o : Option Ob), (h'.take n)[i]? = some o → h'[i]? = some o ∧ i < n := fun i o e => by
    rw [List.getElem?_take] at e
    split at e
    · exact ⟨e, by assumption⟩
    · cases e
  have less : ∀ a, Live φ (h'.take n) a → Live φ' h' a := fun a ⟨i, o, e1, e2⟩ => ⟨i, o, pre_get pre e1, (back i _ e2).1⟩
  have st : Stay H' (Live φ' h') H' (Live φ (h'.take n)) := fun a u q _ nl => ⟨q, fun l => nl (less a l)⟩
  refine ⟨⟨by rw [List.length_take, hn]; omega, fun i j a o o' e1 e2 e3 e4 => sm.inj i j a o o' (pre_get pre e1) (pre_get pre e2) (back i _ e3).1 (back j _ e4).1, fun i o e => ?_, fun i ns e => ?_⟩, less⟩
  · obtain ⟨e1, hi⟩ := back i _ e
    obtain ⟨a, e2, r⟩ := sm.ob i o e1
    obtain ⟨t, rfl⟩ := pre
    rw [List.getElem?_append_left (by omega)] at e2
    exact ⟨a, e2, r.stay st (fun _ z => z) fun _ _ z => sm.notCode z⟩
  · obtain ⟨e1, hi⟩ := back i _ e
    obtain ⟨a, as, e2, e3, e4, e5⟩ := sm.rf i ns e1
    obtain ⟨t, rfl⟩ := pre
    rw [List.getElem?_append_left (by omega)] at e2
    refine ⟨a, as, e2, e3, e4, fun k m z => ?_⟩
    obtain ⟨z1, z2⟩ := e5 k m z
    rw [List.getElem?_append_left (by omega)] at z2
    exact ⟨z1, z2⟩
theorem trunc_ok {φ φ' : List Addr} {h h' : Hh} {H H' : Hp} {v : Vl} {x : V} {Q : VK} {E : XK} (sm : Sim K φ h H) (st : Step φ h H φ' h' H') (sm' : Sim K φ' h' H') (rv : VRep K mg φ' h' H' x v)
    (q : PoX K mg φ h H (trunc h.length v h') Q E) : Q x H' := by
  obtain ⟨c1, c2⟩ := sm'.cut st.pre sm.len
  have st2 : Stay H' (Live φ' h') H' (Live φ (h'.take h.length)) := fun a u q _ nl => ⟨q, fun l => nl (c2 a l)⟩
  have st1 : Step φ h H φ (h'.take h.length) H' := ⟨List.prefix_refl _, st.st.trans st2⟩
  cases v with
  | d z => exact q x H' φ st1 c1 (Rep.stay st2 rv)
  | x c fs =>
    obtain ⟨a, cls, dd, rfl, e1, e2, xr⟩ := rv
    exact q _ H' φ st1 c1 ⟨a, cls, dd, rfl, e1, fun l => e2 (c2 a l), xr.stay st2⟩
  | f D => exact q.elim
  | r i =>
    obtain ⟨a, ea, rfl⟩ := rv
    unfold trunc at q
    dsimp only at q
    split at q
    · rename_i hi
      have hi' : i < φ.length := by rw [sm.len]; exact hi
      obtain ⟨t, rfl⟩ := st.pre
      rw [List.getElem?_append_left hi'] at ea
      exact q _ H' φ st1 c1 ⟨a, ea, rfl⟩
    · rename_i hi
      split at q
      · exact q.elim
      · rename_i o nrl eo
        -- the object i becomes the object n
        have hl : h.length ≤ h'.length := by rw [← sm'.len, ← sm.len]; exact st.pre.length_le
        have lk : (h'.take h.length).length = h.length := by rw [List.length_take]; omega
        have nl : ¬ Live φ (h'.take h.length) a := fun ⟨j, u, e1, e2⟩ => by
          rw [List.getElem?_take] at e2
          split at e2
          · have := sm'.inj i j a o u ea (pre_get st.pre e1) eo e2
            omega
          · cases e2
        have lv : ∀ b, Live (φ ++ [a]) (h'.take h.length ++ [some o]) b ↔ Live φ (h'.take h.length) b ∨ b = a := fun b => live_new (by rw [lk, sm.len])
        have less : ∀ b, Live (φ ++ [a]) (h'.take h.length ++ [some o]) b → Live φ' h' b := fun b l => by
          rcases (lv b).mp l with l | rfl
          · exact c2 b l
          · exact ⟨i, o, ea, eo⟩
        have st3 : Stay H' (Live φ' h') H' (Live (φ ++ [a]) (h'.take h.length ++ [some o])) := fun b u q _ nb => ⟨q, fun l => nb (less b l)⟩
        have ora := sm'.at_ eo ea
        refine q _ H' (φ ++ [a]) ⟨List.prefix_append _ _, st.st.trans st3⟩ ⟨by simp [lk, sm.len], fun i1 j1 b u u' e1 e2 e3 e4 => ?_, fun i1 u e => ?_, fun i1 ns e => ?_⟩ ⟨a, by rw [← sm.len]; simp, rfl⟩
        · have hgt : ∀ (k : Nat) (u : Ob), (φ ++ [a])[k]? = some b → (h'.take h.length ++ [some o])[k]? = some (some u) → (k < φ.length ∧ φ[k]? = some b ∧ (h'.take h.length)[k]? = some (some u)) ∨ (k = φ.length ∧ b = a) := fun k u e1 e2 => by
            by_cases hk : k < φ.length
            · rw [List.getElem?_append_left hk] at e1
              rw [List.getElem?_append_left (by rw [lk, ← sm.len]; exact hk)] at e2
              exact .inl ⟨hk, e1, e2⟩
            · have : k = φ.length := by
                have := (List.getElem?_eq_some_iff.mp e1).1
                simp at this
                omega
              subst this
              simp at e1
              exact .inr ⟨rfl, e1.symm⟩
          rcases hgt i1 u e1 e3 with ⟨a1, a2, a3⟩ | ⟨a1, a2⟩ <;> rcases hgt j1 u' e2 e4 with ⟨b1, b2, b3⟩ | ⟨b1, b2⟩
          · exact c1.inj i1 j1 b u u' a2 b2 a3 b3
          · subst b2; exact absurd ⟨i1, u, a2, a3⟩ nl
          · subst a2; exact absurd ⟨j1, u', b2, b3⟩ nl
          · omega
        · by_cases hk : i1 < h.length
          · rw [List.getElem?_append_left (by rw [lk]; exact hk)] at e
            obtain ⟨b, e2, r2⟩ := sm'.ob i1 u (by rw [List.getElem?_take, if_pos hk] at e; exact e)
            obtain ⟨t, et⟩ := st.pre
            rw [← et, List.getElem?_append_left (by rw [sm.len]; exact hk)] at e2
            exact ⟨b, by rw [List.getElem?_append_left (by rw [sm.len]; exact hk)]; exact e2, r2.stay st3 (fun _ z => z) fun _ _ z => sm'.notCode z⟩
          · have e0 : i1 = h.length := by
              have := (List.getElem?_eq_some_iff.mp e).1
              simp [lk] at this
              omega
            subst e0
            rw [List.getElem?_append_right (by rw [lk]; omega), lk] at e
            simp at e
            subst e
            exact ⟨a, by rw [← sm.len]; simp, ora.stay st3 (fun _ z => z) fun _ _ z => sm'.notCode z⟩
        · by_cases hk : i1 < h.length
          · rw [List.getElem?_append_left (by rw [lk]; exact hk)] at e
            obtain ⟨b, as, f1, f2, f3, f4⟩ := c1.rf i1 ns e
            refine ⟨b, as, by rw [List.getElem?_append_left (by rw [sm.len]; exact hk)]; exact f1, f2, f3, fun k m z => ?_⟩
            obtain ⟨z1, z2⟩ := f4 k m z
            exact ⟨z1, by rw [List.getElem?_append_left (by rw [sm.len]; omega)]; exact z2⟩
          · have hz : i1 = h.length := by
              have := (List.getElem?_eq_some_iff.mp e).1
              rw [List.length_append, lk] at this
              simp at this
              omega
            subst hz
            rw [List.getElem?_append_right (by omega), lk] at e
            simp at e
            subst e
            exact absurd rfl (nrl ns)
      · exact q.elim
end
end Rk

/-! Rk7: defs of the text, constants of the top, the head. -/
namespace Rk
open PySem PySem.Spec L2
variable {mg : Str → Option Value}
abbrev FnP (K : PySem.W.Frag) (x : Str) (st : Stmt) (f : Addr) (fd : FuncData) : Prop := FunD K x x (defArgs st) (defBody st) (defScope st) [] [] f fd
/-! ### room: no guard stands -/
structure RoomG (k : Nat) (A : Around) : Prop where
  r : Room k A
  g : A.guards = some []
theorem RoomG.mono {j k : Nat} {A : Around} (h : RoomG k A) (hl : j ≤ k) : RoomG j A := ⟨h.r.mono hl, h.g⟩
theorem RoomG.units {k : Nat} {A : Around} (h : RoomG k A) : A.units + 64 < cLine := h.r.units
theorem RoomG.deeper {k : Nat} {A : Around} (h : RoomG (k + 1) A) (env : Env) : RoomG k (A.deeper env) := ⟨h.r.deeper env, h.g⟩
/-- what a function object keeps, where no guard stands -/
structure FnG (P : Program) (w : World) (K : PySem.W.Frag) (mg : Str → Option Value) (base : Heap) (k : Nat) (f : Addr) (fd : FuncData) (ps : List Str) (sp : Sp) : Prop where
  len : ∀ vs H Q E, sp vs H Q E → vs.length = ps.length
  run : ∀ (A : Around) (outer : List Env) (s : Shared) (H : Hp) (args : Args) (us : List Value) (vs : List V) (Q : VK) (E : XK),
    RoomG k A → Env0 P w K mg base A outer s H → BindsTo s fd args (ps.zip us) → Vals vs us → sp vs H Q E → codeAny (model P w) A (.call (.ref f) args) (CR (L2.CX P w) outer P w H s Q E) s
/-- a def by its name: what it means -/
def Df (P : Program) (w : World) (K : PySem.W.Frag) (mg : Str → Option Value) (base : Heap) (k : Nat) (x : Str) (ps : List Str) (m : Fn) : Prop :=
  ∃ f fd, mg x = some (.ref f) ∧ PySem.W.keepIn K (.ref f) = true ∧ Binds K fd ps [] ∧ FnG P w K mg base k f fd ps (spF K mg m)
abbrev WOf (E : XK) : WX := fun cls d _ H => E cls d H
/-- a function object's code -/
def CodeAt (K : PySem.W.Frag) (f : Addr) (cdv : Value) : Prop := ∃ (oc : Value) (od : Option Addr) (fd : FuncData) (osl : Array (Option Value)), K.lookup f = some ⟨oc, od, .func fd, osl⟩ ∧ fd.code = cdv
section
variable {P : Program} {w : World} {K : PySem.W.Frag} {mg : Str → Option Value} {base : Heap} {x : Str} {st : Stmt} {f : Addr} {fd : FuncData} {N ps : List Str} {k : Nat}
/-- a def of the text runs -/
theorem run_def (F : FnP K x st f fd) (S : FnScope N ps (defScope st)) {A : Around} {outer : List Env} {s : Shared} {H : Hp} {args : Args} {us : List Value} {vs : List V} {Q : VK} {E : XK} (len : vs.length = ps.length) (hr : RoomG (k + 1) A)
    (e0 : Env0 P w K mg base A outer s H) (hbd : BindsTo s fd args (ps.zip us)) (r : Vals vs us)
    (hb : ∀ cdv : Value, CodeAt K f cdv → RoomG k (A.deeper (PyProof.Rows.envOfC x (defScope st) s.heap.objs.size f cdv)) →
      ∃ t, PSs (cxOf (L2.CX P w) P w K mg base N x (defScope st) f cdv A outer s H E) (defBody st) t ∧ t { nx := fun _ H' => Q .non H', rt := Q } (start N vs) H) :
    codeAny (model P w) A (.call (.ref f) args) (CR (L2.CX P w) outer P w H s Q E) s := by
  obtain ⟨oc, od, dV, kV, doc, pm, an, cdv, ct, osl, rfl, lk, hcd, -, -⟩ := F.ex
  have old : ∀ b o, base.get? b = some o → s.heap.get? b = some o := fun b o e => (e0.bs b o e).1
  have KX : K.In s.heap := e0.mod.kin.keeps old
  have kinds : ∀ y ∈ ps.zip us, (defScope st).names.lookup y.1 = some .local ∨ ((defScope st).names.lookup y.1 = some .cell ∧ ((cellsFrom (s.heap.objs.size + 1) (defScope st).names []).lookup y.1).isSome = true) := by
    rintro ⟨n, v⟩ hy
    exact (S.par n (List.of_mem_zip hy).1).imp id fun q => ⟨q, PySem.W.cellsFrom_some _ _ _ (.inl q)⟩
  refine codeAny_call_function hr.r.depth (KX _ _ lk) rfl S.co S.gen rfl (PySem.W.codeRec_of KX hcd) (hbd _ _ _ _ (wpAny_newFunctionEnv_cells S.kind kinds ?_))
  rintro env rfl s1 x1
  refine ⟨(e0.mod.nolimit.keeps old).keeps x1.toInCall.keep, codeAny_func ?_⟩
  obtain ⟨t, ht, hq⟩ := hb cdv ⟨_, _, _, _, lk, rfl⟩ (hr.deeper _)
  have I := inv_start (CX := L2.CX P w) (E := E) S hr.r.hd e0 len r x1
  refine wpAny_mono (ht.run [] s1 (start N vs) H _ I hq) ?_ fun _ _ z => z
  intro fl s' hs
  cases fl with
  | ret u =>
    obtain ⟨v, σ', H', J, rv, q⟩ := hs
    exact ⟨v, H', J.os, J.bare, J.base, J.hok, rv, q⟩
  | next =>
    obtain ⟨σ', H', J, q⟩ := hs
    exact ⟨.non, H', J.os, J.bare, J.base, J.hok, rfl, q⟩
  | brk => exact hs.elim fun _ z => z.elim fun _ z => z.2.elim
  | cont => exact hs.elim fun _ z => z.elim fun _ z => z.2.elim
theorem spF_len {vs : List V} {H : Hp} {Q : VK} {E : XK} {n N : Nat} {body : Sv} (h : spF K mg (mkF n N body) vs H Q E) : vs.length = n := by
  obtain ⟨φ, h, as, sm, rv, q⟩ := h
  unfold mkF at q
  split at q
  · rename_i hl
    rw [rv.length]
    exact hl
  · exact q.elim
/-- a def's body, entered -/
theorem enter_body {cdv : Value} {A : Around} {outer : List Env} {s : Shared} {H : Hp} {vs : List V} {Q : VK} {E : XK} {n : Nat} {body : Sv} (hE : ESs (cxOf (L2.CX P w) P w K mg base N x (defScope st) f cdv A outer s H E) (WOf E) (defBody st) body) (h : spF K mg (mkF n N.length body) vs H Q E) :
    ∃ t, PSs (cxOf (L2.CX P w) P w K mg base N x (defScope st) f cdv A outer s H E) (defBody st) t ∧ t { nx := fun _ H' => Q .non H', rt := Q } (start N vs) H := by
  obtain ⟨φ, h, as, sm, rv, q⟩ := h
  refine ⟨_, hE, φ, h, enter N.length as, sm, enter_ok N rv, ?_⟩
  unfold mkF at q
  split at q
  · revert q
    show PoX K mg φ h H (retF h.length (body (enter N.length as) h)) Q E → _
    cases body (enter N.length as) h with
    | rt v h' => exact fun q x H' φ' st sm' rv => trunc_ok sm st sm' rv q
    | nx ρ' h' => exact fun q σ' H' φ' st sm' er => trunc_ok (v := .d .none) sm st sm' Rep.non q
    | ex c fs ρ' h' =>
      intro q cls dd σ' H' φ' st sm' er xr
      obtain ⟨c1, c2⟩ := sm'.cut st.pre sm.len
      have st2 : Stay H' (Live φ' h') H' (Live φ (h'.take h.length)) := fun a u q _ nl => ⟨q, fun l => nl (c2 a l)⟩
      exact q cls dd H' φ ⟨List.prefix_refl _, st.st.trans st2⟩ c1 ⟨xr.cl, xr.no, fun z => by
        obtain ⟨a, vs, e1, e2, e3, e4⟩ := xr.yes z
        exact ⟨a, vs, e1, e2, fun l => e3 (c2 a l), e4.stay st2⟩⟩
    | bk ρ' h' => exact fun q => q.elim
    | ct ρ' h' => exact fun q => q.elim
    | no => exact fun q => q.elim
  · exact q.elim
theorem fnOk_of {body : Sv} (F : FnP K x st f fd) (S : FnScope N ps (defScope st))
    (hb : ∀ (cdv : Value) (A : Around) (outer : List Env) (s : Shared) (H : Hp) (E : XK), CodeAt K f cdv → RoomG k (A.deeper (PyProof.Rows.envOfC x (defScope st) s.heap.objs.size f cdv)) → ESs (cxOf (L2.CX P w) P w K mg base N x (defScope st) f cdv A outer s H E) (WOf E) (defBody st) body) :
    FnG P w K mg base (k + 1) f fd ps (spF K mg (mkF ps.length N.length body)) :=
  ⟨fun _ _ _ _ h => spF_len h, fun A outer s H args us vs Q E hr e0 hbd r h => run_def F S (spF_len h) hr e0 hbd r fun cdv hc hr' => enter_body (hb cdv A outer s H E hc hr') h⟩
end
theorem cx_no {P : Program} {w : World} {outer : List Env} (H : Hp) (s : Shared) (e : Value) (s' : Shared) (h : L2.CX P w outer H s (fun _ _ _ => False) e s') : False := by
  obtain ⟨_, _, _, _, _, _, _, _, _, _, _, _, z⟩ := h
  exact z
theorem df_of {P : Program} {w : World} {K : PySem.W.Frag} {mg : Str → Option Value} {base : Heap} {x : Str} {st : Stmt} {f : Addr} {fd : FuncData} {N ps : List Str} {k kk NN : Nat} {body : Sv} (F : FnP K x st f fd) (g : mg x = some (.ref f)) (S : FnScope N ps (defScope st)) (e1 : ps.length = kk) (e2 : N.length = NN)
    (b : ∀ (dV kV doc pm : Value) (an : Option Addr) (cdv ct : Value) (us : List Value), us.length = ps.length → bindArgs (PySem.W.fnOf x x (defArgs st) (defBody st) (defScope st) .none kV doc pm an cdv ct) ⟨us, []⟩ = pure (ps.zip us))
    (hb : ∀ (cdv : Value) (A : Around) (outer : List Env) (s : Shared) (H : Hp) (E : XK), RoomG k (A.deeper (PyProof.Rows.envOfC x (defScope st) s.heap.objs.size f cdv)) → ESs (cxOf (L2.CX P w) P w K mg base N x (defScope st) f cdv A outer s H E) (WOf E) (defBody st) body) :
    Df P w K mg base (k + 1) x ps (mkF kk NN body) := by
  subst e1 e2
  exact ⟨f, fd, g, F.kp, FunD.bindsN F fun kV doc pm an cdv ct us hl => b .none kV doc pm an cdv ct us hl, fnOk_of F S fun cdv A outer s H E _ => hb cdv A outer s H E⟩
theorem law_of {P : Program} {w : World} {K : PySem.W.Frag} {mg : Str → Option Value} {base : Heap} {x : Str} {st : Stmt} {f : Addr} {fd : FuncData} {N ps : List Str} {k kk NN : Nat} {body : Sv} (F : FnP K x st f fd) (S : FnScope N ps (defScope st)) (e1 : ps.length = kk) (e2 : N.length = NN)
    (hb : ∀ (cdv : Value) (A : Around) (outer : List Env) (s : Shared) (H : Hp) (E : XK), RoomG k (A.deeper (PyProof.Rows.envOfC x (defScope st) s.heap.objs.size f cdv)) → ESs (cxOf (L2.CX P w) P w K mg base N x (defScope st) f cdv A outer s H E) (WOf E) (defBody st) body) :
    FnG P w K mg base (k + 1) f fd ps (spF K mg (mkF kk NN body)) := by
  subst e1 e2
  exact fnOk_of F S fun cdv A outer s H E _ => hb cdv A outer s H E
/-- the maker of lambdas: where its code object and that one's table stand -/
structure LamT (K : PySem.W.Frag) (mg : Str → Option Value) (base : Heap) (x : Str) (c P : Addr) : Prop where
  at_ : PySem.W.tabIn K x = some (c, P)
  tb : LamX.TabB base mg c P
  cd : ∀ f cdv, mg x = some (.ref f) → CodeAt K f cdv → cdv = .ref c
/-! ### in a def's body -/
section
variable {P : Program} {w : World} {K : PySem.W.Frag} {mg : Str → Option Value} {base : Heap} {N : List Str} {x : Str} {sc : Scope} {f : Addr} {cdv : Value} {A : Around} {outer : List Env} {s : Shared} {H : Hp} {E : XK}
theorem tk_of : Takes (cxOf (L2.CX P w) P w K mg base N x sc f cdv A outer s H E) (WOf E) := takes_of rfl rfl rfl rfl
theorem po_of : PassesOwn (model (cxOf (L2.CX P w) P w K mg base N x sc f cdv A outer s H E).prog (cxOf (L2.CX P w) P w K mg base N x sc f cdv A outer s H E).w) (cxOf (L2.CX P w) P w K mg base N x sc f cdv A outer s H E).A (cxOf (L2.CX P w) P w K mg base N x sc f cdv A outer s H E).env (cxOf (L2.CX P w) P w K mg base N x sc f cdv A outer s H E).xe := passes_of rfl
end
theorem run_G {X : Cx} {k : Nat} {f : Addr} {fd : FuncData} {ps : List Str} {sp : Sp} {E : L2.St → XK} {pins : List (Addr × Obj)} {σ : L2.St} {H : Hp} {s : Shared} {Q : VK} {us : List Value} {vs : List V} (F : FnG X.prog X.w X.K X.mg X.base k f fd ps sp) (hr : RoomG k X.A) (hb : Binds X.K fd ps [])
    (hx : PassesAt (L2.CX X.prog X.w) X σ (E σ)) (I : Inv X pins σ H s) (r : Vals vs us) (h : sp vs H Q (E σ)) : wpAny (model X.prog X.w) X.A (call (.ref f) us) (EP X pins σ Q) X.xe s := by
  have b := hb s us I.kIn (by rw [List.append_nil, ← r.length]; exact F.len _ _ _ _ h)
  rw [List.append_nil] at b
  refine wpAny_call (codeAny_mono (F.run X.A X.stack s H ⟨us, []⟩ us vs Q (E σ) hr I.env0 b r h) ?_)
  intro r s' hq
  match r, hq with
  | .error e, hq => exact hx pins H s e s' I hq
  | .ok (.ret u), hq => exact I.after hq
/-- a call of a def by its name -/
theorem ec {X : Cx} {W : WX} {k j : Nat} {y : Str} {ps : List Str} {m : Fn} {e : Expr} {es : List Expr} {fs : Av} {p pos : Pos} (D : Df X.prog X.w X.K X.mg X.base k y ps m) (hr : RoomG j X.A) (tk : Takes X W) (ha : EA X W (e :: es) fs) (hkj : k ≤ j := by decide) (hg : Gl X y := by rfl)
    (hdb : (y == ("__debug__" : Str)) = false := by decide) (he : starEach (e :: es) X.env = (false, eval e X.env) :: starEach es X.env := by rfl) (hpl : (backTo pos (starEach es X.env)).any (·.1) = false := by rfl) :
    EE X W (.Call (.Name y p) (e :: es) [] pos) (eCall m fs) := by
  obtain ⟨f, fd, g, kp, b, F⟩ := D
  have rd : PE X (.Call (.Name y p) (e :: es) [] pos) (tCallS (spF X.K X.mg m) (fun σ => WE W σ) (tA X.K X.mg W fs)) := by
    constructor
    intro pins s σ H Q I h
    refine wpAny_Call_Name_kw (ld_glob I hg g (PySem.W.callWith_K (h₀ := X.base) I.ok.mod.kin kp (thn (ha.run pos pins s σ H _ I h) ?_) he hpl) hdb)
    rintro us s1 ⟨vs, H1, I1, r, q⟩
    exact ⟨I1.kIn, run_G (E := fun σ => WE W σ) F (hr.mono hkj) b (passAt tk σ) I1 r q⟩
  exact PE.of rd fun σ H Q ⟨φ, h, ρ, sm, er, q⟩ => ⟨φ, h, ρ, sm, er, PoX.goA q fun xs vs h1 H1 φ1 st sm1 rvs q1 => ⟨φ1, h1, vs, sm1, rvs, q1⟩⟩
/-! ### constants of the top -/
def GConst (K : PySem.W.Frag) (mg : Str → Option Value) (x : Str) (d : Da) : Prop := ∃ v u, mg x = some u ∧ RelV v u ∧ KRep K v d
theorem eg {X : Cx} {W : WX} {y : Str} {d : Da} {pos : Pos} (c : GConst X.K X.mg y d) (hg : Gl X y := by rfl) (hd : (y == ("__debug__" : Str)) = false := by decide) : EE X W (.Name y pos) (eD d) := by
  obtain ⟨v, u, h1, h2, h3⟩ := c
  exact ee_glob hg h1 h2 h3 hd
mutual
theorem cB_ok {K : PySem.W.Frag} : ∀ {d : Da} {u : Value}, cB K d u = true → ∃ v, RelV v u ∧ KRep K v d
  | .none, .none, _ => ⟨.non, rfl, fun _ _ => .non⟩
  | .bool b, .bool c, h => by
    have e : b = c := by
      unfold cB at h
      exact eq_of_beq h
    subst e
    exact ⟨.bl b, rfl, fun _ _ => .bl b⟩
  | .int i, .int j t, h => by
    have e : i = j := by
      unfold cB at h
      exact of_decide_eq_true h
    subst e
    exact ⟨.int i, ⟨t, rfl⟩, fun _ _ => .int i⟩
  | .str i, .str j t, h => by
    have e : i = j := by
      unfold cB at h
      exact of_decide_eq_true h
    subst e
    exact ⟨.str i, ⟨t, rfl⟩, fun _ _ => .str i⟩
  | .tuple ds, .ref a, h => by
    unfold cB at h
    split at h
    · rename_i c dd its n sl q
      rw [Bool.and_eq_true, Bool.and_eq_true] at h
      obtain ⟨h1, h2, h3⟩ := h
      obtain ⟨vs, r1, r2⟩ := cBs_ok h3
      exact ⟨.ref a, rfl, fun H M => .tupK ⟨_, its, n, q, congrArg Value.type (of_decide_eq_true h1), rfl, of_decide_eq_true h2, r1⟩ (r2 H M)⟩
    · cases h
theorem cBs_ok {K : PySem.W.Frag} : ∀ {ds : List Da} {us : List Value}, cBs K ds us = true → ∃ vs, Vals vs us ∧ ∀ H M, Reps K H M vs ds
  | [], [], _ => ⟨[], .nil, fun _ _ => .nil⟩
  | d :: ds, u :: us, h => by
    unfold cBs at h
    rw [Bool.and_eq_true] at h
    obtain ⟨v, r1, r2⟩ := cB_ok h.1
    obtain ⟨vs, s1, s2⟩ := cBs_ok h.2
    exact ⟨v :: vs, .cons r1 s1, fun H M => .cons (r2 H M) (s2 H M)⟩
end
theorem gB_ok {K : PySem.W.Frag} {h : Heap} {mg : Str → Option Value} (X : K.In h) (G : h.Ns mainGlobals mg) {x : Str} {d : Da} (c : gB K x d = true) : GConst K mg x d := by
  unfold gB at c
  split at c
  · rename_i u e
    obtain ⟨v, r1, r2⟩ := cB_ok c
    exact ⟨v, u, PySem.W.mg_of X G e, r1, r2⟩
  · cases c
/-! ### the Hook -/
/-- the script's data -/
theorem script_rep {K : PySem.W.Frag} {H : Hp} {a : Addr} {ns : List Int} (h : SqL K H a (ns.map V.int)) : Sim K [] [] H ∧ VReps K mg [] [] H [.ref a] [.d (.list (ns.map PyData.int))] := by
  have nl : ∀ b, ¬ Live [] [] b := fun b ⟨i, o, e, _⟩ => by simp at e
  have rs : ∀ ns : List Int, Reps K H (Live [] []) (ns.map V.int) (ns.map PyData.int) := fun ns => by
    induction ns with
    | nil => exact .nil
    | cons n ns ih => exact .cons (.int n) ih
  refine ⟨⟨rfl, fun i j a o o' e => by simp at e, fun i o e => by simp at e, fun i ns e => by simp at e⟩, .cons ?_ .nil⟩
  rcases h with h | h
  · exact Rep.lst h (nl a) (rs ns)
  · exact Rep.lstK h (rs ns)
/-- the law's end -/
theorem law_sp {K : PySem.W.Frag} {mg : Str → Option Value} {m : Fn} {H : Hp} {a : Addr} {ns : List Int} (h : SqL K H a (ns.map V.int)) {h' : Hh} (e : m [.d (.list (ns.map PyData.int))] [] = .ok (.d (.bool true)) h') :
    spF K mg m [.ref a] H (fun v _ => v = .bl true) fun _ _ _ => False := by
  obtain ⟨s1, s2⟩ := script_rep h
  refine ⟨[], [], _, s1, s2, ?_⟩
  rw [e]
  exact fun x H' φ' _ _ r => VRep.bl r
end Rk
namespace Rk
open PySem PySem.Spec L2 PyProof.Rows
/-- the script's abstract heap: nothing but the script, as it stands -/
def scrH (a : Addr) (vs : List Value) (ns : List Int) : Hp := fun b => if b = a then some (.frz { cls := .type "list", data := .seq vs.toArray } (.lst (ns.map V.int))) else none
/-- the law's call from a ground -/
theorem call_from {P : Program} {w : World} {K : PySem.W.Frag} {mg mb : Str → Option Value} {k : Nat} {fa a : Addr} {fd : FuncData} {x : Str} {sp : Sp} {s : Shared} {vs : List Value} {H : Hp}
    (KX : K.In s.heap) (g1 : s.heap.Ns mainGlobals mg) (g2 : s.heap.Ns builtinsNs mb) (g3 : ∀ x : Str, x ≠ "__name__" → mb x = bootBuiltins x) (g4 : s.heap.NoLimit) (g5 : s.gens = #[])
    (ha : s.heap.get? a = some { cls := .type "list", data := .seq vs.toArray }) (hr : RoomG k callerA)
    (F : ∀ base : Heap, K.In base → base.Ns mainGlobals mg → FnG P w K mg base k fa fd [x] sp) (hbind : ∀ (s : Shared) (u : Value), BindsTo s fd ⟨[u], []⟩ [(x, u)])
    (hO : Only H) (hsp : sp [.ref a] H (fun v _ => v = .bl true) fun _ _ _ => False) (hok : HOk P w H s.heap) (hA : ∀ b, H b ≠ none → b = a) (hK : H a ≠ none → K.lookup a = none) :
    codeAny (model P w) callerA (.call (.ref fa) ⟨[.ref a], []⟩) (fun r s' => r = .ok (.ret (.bool true)) ∧ OldK s.heap s'.heap ∧ s'.os = s.os ∧ AllBare s'.gens) s := by
  have hid : ∀ {b : Addr} {o : Obj}, s.heap.get? b = some o → (H b ≠ none → False) → (hidT s.heap H).get? b = some o := fun {b o} e n => hidT_get e (by
    cases q : H b with
    | none => rfl
    | some u => exact (n (by rw [q]; exact nofun)).elim)
  have dic : ∀ {b : Addr} {o : Obj} {es : Array DictEntry} {ep : Nat}, s.heap.get? b = some o → o.data = .dict es ep → H b ≠ none → False := fun {b o es ep} e d n => by
    have := hA b n
    subst this
    rw [ha] at e
    cases e
    cases d
  have ns2 : ∀ {b : Addr} {m : Str → Option Value}, s.heap.Ns b m → (hidT s.heap H).Ns b m := fun ⟨o, es, ep, e, d, r⟩ => ⟨o, es, ep, hid e (dic e d), d, r⟩
  have kin : K.In (hidT s.heap H) := fun b o e => hid (KX b o e) fun n => by
    have := hA b n
    subst this
    rw [hK n] at e
    cases e
  obtain ⟨mc, l1, l2⟩ := g4
  have M : Mod K mg (hidT s.heap H) := ⟨kin, ns2 g1, ⟨mb, ns2 g2, g3⟩, mc, ns2 l1, l2⟩
  have e0 : Env0 P w K mg (hidT s.heap H) callerA [] s H := ⟨rfl, M, fun _ _ e => of_hidT e, Nat.le_of_eq (hidT_size _ _), trivial, nofun, hok, .of_eq g5⟩
  refine codeAny_mono ((F _ kin (ns2 g1)).run callerA [] s H ⟨[.ref a], []⟩ [.ref a] [.ref a] _ _ hr e0 (hbind s (.ref a)) (.cons rfl .nil) hsp) ?_
  intro r s' h
  match r, h with
  | .error e, h => exact (cx_no H s e s' h).elim
  | .ok (.ret u), h =>
    obtain ⟨v, H', os, bare, un, hok', r', q⟩ := h
    cases (show v = .bl true from q)
    cases (show u = Value.bool true from r')
    refine ⟨rfl, OldK.of_keep fun b o e => ?_, os, bare⟩
    rcases hO b with z | ⟨ob, xs, z⟩
    · exact un.keep b o e z nofun nofun
    · have e1 := (hok b _ z).1
      rw [e] at e1
      cases e1
      exact (hok' b _ (un.frzs b o _ z)).1
theorem walkG {l : PySem.W.OpenLaw} {n k : Nat} {q : Program} {loose : List Str} {XP : (Str → Option Value) → Heap → Prop} {YP : World → Heap → Prop} {d : DefRec} {x : Str} (hn : l.most = some n) (hn2 : n ≤ sizeLine) (hdf : d.params.defaults = []) (hr : RoomG k callerA)
    (F : ∀ (w : World) (mg : Str → Option Value) (fa : Addr) (h : Heap), YP w h → h.Ns mainGlobals mg → mg d.name = some (.ref fa) → ∃ (K : PySem.W.Frag) (fd : FuncData) (sp : Sp), K.In h ∧ (∀ (s : Shared) (u : Value), BindsTo s fd ⟨[u], []⟩ [(x, u)]) ∧
        (∀ (H : Hp) (a : Addr) (ns : List Int), ns.length ≤ n → Only H → SqL K H a (ns.map V.int) → sp [.ref a] H (fun v _ => v = .bl true) fun _ _ _ => False) ∧ ∀ base : Heap, K.In base → base.Ns mainGlobals mg → FnG l.prog w K mg base k fa fd [x] sp) :
    PySem.W.WalkO q loose XP YP l.row.toRowW d [] (fun f vs => PySem.call f vs) := by
  refine Att.attach_call hn hdf ?_
  intro w s₀ s mg mb fa o pm cd doc a vs ns G Y ho hd hcd hmg hobj hints hlen hg
  obtain ⟨K, fd, sp, KX, hb, hsp, hF⟩ := F w mg fa _ Y G.T.g hmg
  have rv := vals_ints hints
  have sz : ns.length ≤ sizeLine := Nat.le_trans hlen hn2
  have go := fun H => call_from (H := H) KX G.T.g G.T.b G.T.builtins G.T.nolimit hg hobj hr hF hb
  cases hk : K.lookup a with
  | some o' =>
    have e := KX a o' hk
    rw [hobj] at e
    cases e
    have sq : SqL K (fun _ => none) a (ns.map V.int) := .inr ⟨_, vs.toArray, _, hk, rfl, rfl, rfl, by rw [List.size_toArray, hints.length]; exact sz, by simpa using rv⟩
    exact go _ (fun _ => .inl rfl) (hsp _ a ns hlen (fun _ => .inl rfl) sq) (fun b u z => by cases (show (none : Option HO) = some u from z)) (fun b z => absurd rfl z) fun z => absurd rfl z
  | none =>
    have at_ : scrH a vs ns a = some (.frz { cls := .type "list", data := .seq vs.toArray } (.lst (ns.map V.int))) := if_pos rfl
    have only : Only (scrH a vs ns) := fun b => by
      by_cases e : b = a
      · exact .inr ⟨_, _, if_pos e⟩
      · exact .inl (if_neg e)
    have sq : SqL K (scrH a vs ns) a (ns.map V.int) := .inl (.inr ⟨_, at_⟩)
    have only_a : ∀ b, scrH a vs ns b ≠ none → b = a := fun b z => by
      by_cases e : b = a
      · exact e
      · exact absurd (if_neg e) z
    refine go _ only (hsp _ a ns hlen only sq) (fun b u z => ?_) only_a fun _ => hk
    have e := only_a b (by rw [z]; exact nofun)
    subst e
    rw [at_] at z
    cases z
    exact ⟨hobj, by rw [List.length_map]; exact sz, vs, _, rv, hobj⟩
end Rk

/-! Rk8: reckoning with meanings. -/
namespace Rk
open PySem PySem.Spec L2
/-! ### places of written tuples -/
section
variable {a0 a1 a2 a3 a4 a5 a6 : Da} {r : List Da} {h : Hh}
theorem ixN_nat {n k : Nat} (hk : k < n) : ixN n (k : Int) = some k := by
  unfold ixN
  rw [if_pos (by omega), if_pos (by omega)]
  simp
theorem atI_get0 {α : Type} {xs : List α} {k : Nat} {v : α} (e : xs[k]? = some v) : atI xs (k : Int) = some v := L2.atI_nat e
theorem gIx_nat {xs : List Da} {k : Nat} {v : Da} (e : xs[k]? = some v) : gIx (.d (.tuple xs)) (.d (.int (k : Int))) h = some (.d v, h) := by
  unfold gIx
  dsimp only
  rw [atI_get0 e]
  rfl
theorem ix0 : gIx (.d (.tuple (a0 :: r))) (.d (.int 0)) h = some (.d a0, h) := gIx_nat (k := 0) rfl
theorem ix1 : gIx (.d (.tuple (a0 :: a1 :: r))) (.d (.int 1)) h = some (.d a1, h) := gIx_nat (k := 1) rfl
theorem ix2 : gIx (.d (.tuple (a0 :: a1 :: a2 :: r))) (.d (.int 2)) h = some (.d a2, h) := gIx_nat (k := 2) rfl
theorem ix3 : gIx (.d (.tuple (a0 :: a1 :: a2 :: a3 :: r))) (.d (.int 3)) h = some (.d a3, h) := gIx_nat (k := 3) rfl
theorem ix4 : gIx (.d (.tuple (a0 :: a1 :: a2 :: a3 :: a4 :: r))) (.d (.int 4)) h = some (.d a4, h) := gIx_nat (k := 4) rfl
theorem ix5 : gIx (.d (.tuple (a0 :: a1 :: a2 :: a3 :: a4 :: a5 :: r))) (.d (.int 5)) h = some (.d a5, h) := gIx_nat (k := 5) rfl
theorem gIxL {n : Nat} {xs : List Da} {k : Nat} {v : Da} (e : h[n]? = some (some (.lst xs))) (ev : xs[k]? = some v) : gIx (.r n) (.d (.int (k : Int))) h = some (.d v, h) := by
  unfold gIx asL
  dsimp only
  rw [e]
  dsimp only
  rw [atI_get0 ev]
  rfl
theorem gIxF {xs : List Da} {k : Nat} {v : Da} (ev : xs[k]? = some v) : gIx (.d (.list xs)) (.d (.int (k : Int))) h = some (.d v, h) := by
  unfold gIx asL
  dsimp only
  rw [atI_get0 ev]
  rfl
end
/-! ### one step each -/
section
variable {ρ : En} {h h1 : Hh} {v w : Vl} {f g : Ev} {i : Nat} {a b : Int}
theorem eD_eq {d : Da} : eD d ρ h = .ok (.d d) h := rfl
theorem fAdd_eq : fAdd a b = some (.int (a + b)) := rfl
theorem fSub_eq : fSub a b = some (.int (a - b)) := rfl
theorem fMul_eq (h : IntMulOk a b) : fMul a b = some (.int (a * b)) := if_pos h
theorem fDiv_eq (h0 : b ≠ 0) (h1 : Builtin.divisionGoesByPylong a b = false) : fDiv a b = some (.int (a.fdiv b)) := if_pos ⟨h0, h1⟩
theorem fMod_eq (h0 : b ≠ 0) : fMod a b = some (.int (a.fmod b)) := if_pos h0
theorem fLt_eq : fLt a b = some (.bool (decide (a < b))) := rfl
theorem fLe_eq : fLe a b = some (.bool (decide (a ≤ b))) := rfl
theorem fGt_eq : fGt a b = some (.bool (decide (b < a))) := rfl
theorem fGe_eq : fGe a b = some (.bool (decide (b ≤ a))) := rfl
theorem gInt_eq {F : Int → Int → Option Da} : gInt F (.d (.int a)) (.d (.int b)) h = (F a b).map fun z => (.d z, h) := rfl
theorem gAdd_int : gAdd (.d (.int a)) (.d (.int b)) h = some (.d (.int (a + b)), h) := rfl
theorem gAbs_eq : gAbs [.d (.int a)] h = some (.d (.int (if a < 0 then -a else a)), h) := rfl
theorem truO_b {b : Bool} : truO (.d (.bool b)) h = .ok b h := rfl
theorem fzs_nil : fzs [] h = some ([], h) := rfl
theorem fzs_d {x : Da} {vs : List Vl} : fzs (.d x :: vs) h = (fzs vs h).map fun q => (x :: q.1, q.2) := rfl
theorem So.then_nx {f : Sv} : (So.nx ρ h).then f = f ρ h := rfl
theorem So.then_rt {f : Sv} : (So.rt v h).then f = .rt v h := rfl
end
/-! ### sizes -/
/-- below 2 ^ n in size -/
def Bd (n : Nat) (x : Int) : Prop := x.natAbs < 2 ^ n
theorem Bd.mono {n m : Nat} {x : Int} (h : Bd n x) (hl : n ≤ m) : Bd m x := Nat.lt_of_lt_of_le h (Nat.pow_le_pow_right (by decide) hl)
theorem Bd.mul {n m : Nat} {x y : Int} (hx : Bd n x) (hy : Bd m y) : Bd (n + m) (x * y) := by
  unfold Bd at *
  rw [Int.natAbs_mul, Nat.pow_add]
  exact Nat.mul_lt_mul'' hx hy
theorem Bd.add {n m : Nat} {x y : Int} (hx : Bd n x) (hy : Bd m y) : Bd (max n m + 1) (x + y) := by
  have h1 := hx.mono (Nat.le_max_left n m)
  have h2 := hy.mono (Nat.le_max_right n m)
  unfold Bd at *
  rw [Nat.pow_succ]
  omega
theorem Bd.neg {n : Nat} {x : Int} (hx : Bd n x) : Bd n (-x) := by
  unfold Bd at *
  omega
theorem Bd.sub {n m : Nat} {x y : Int} (hx : Bd n x) (hy : Bd m y) : Bd (max n m + 1) (x - y) := by
  rw [Int.sub_eq_add_neg]
  exact hx.add hy.neg
theorem Bd.of {n : Nat} {x : Int} (m : Nat) (h : x.natAbs ≤ m) (hm : m < 2 ^ n) : Bd n x := Nat.lt_of_le_of_lt h hm
theorem Bd.le {n : Nat} {x y : Int} (hy : Bd n y) (h : x.natAbs ≤ y.natAbs) : Bd n x := Nat.lt_of_le_of_lt h hy
theorem bits_le {n : Nat} {x : Int} (h : Bd n x) : Builtin.Int.intBits x ≤ n := by
  unfold Builtin.Int.intBits
  split
  · exact Nat.zero_le _
  · rename_i hx
    have h0 : x.natAbs ≠ 0 := fun z => hx (by simp; omega)
    exact (Nat.log2_lt h0).mpr h
theorem mulOk_small {x y : Int} (h : Bd 64 x) : IntMulOk x y := IntMulOk.of_left (bits_le h)
theorem mulOk_smallR {x y : Int} (h : Bd 64 y) : IntMulOk x y := IntMulOk.of_right (bits_le h)
theorem Bd.divOk {n : Nat} {x y : Int} (hy : Bd n y) (h0 : 0 < n) (h : n ≤ 9000) : Builtin.divisionGoesByPylong x y = false := PyProof.noPylong_of_log2 (by
  rcases Nat.eq_zero_or_pos y.natAbs with z | z
  · rw [z]; decide
  · exact (Nat.log2_lt (Nat.ne_of_gt z)).mpr (Nat.lt_of_lt_of_le hy (Nat.pow_le_pow_right (by decide) h)))
/-! ### fractions -/
/-- a fraction's data -/
def Q (r : Rat) : Da := .tuple [.int r.num, .int r.den]
theorem abs_eq (a : Int) : (if a < 0 then -a else a) = (a.natAbs : Int) := by
  split <;> omega
theorem fmod_nat (x y : Nat) : Int.fmod (x : Int) (y : Int) = ((x % y : Nat) : Int) := by
  rw [Int.fmod_eq_emod_of_nonneg _ (by omega)]
  rfl
/-- above and below, parted by the greatest common part with below's sign -/
theorem divInt_parts {x y : Int} (hy : y ≠ 0) : x.fdiv (if y < 0 then 0 - (Int.gcd x y : Int) else (Int.gcd x y : Int)) = (Rat.divInt x y).num ∧
    y.fdiv (if y < 0 then 0 - (Int.gcd x y : Int) else (Int.gcd x y : Int)) = ((Rat.divInt x y).den : Int) := by
  have hg : 0 < Int.gcd x y := Nat.pos_of_ne_zero fun z => hy (Int.gcd_eq_zero_iff.mp z).2
  have dx : (Int.gcd x y : Int) ∣ x := Int.gcd_dvd_left ..
  have dy : (Int.gcd x y : Int) ∣ y := Int.gcd_dvd_right ..
  rw [Rat.num_divInt, Rat.den_divInt, if_neg hy, Int.gcd_comm y x]
  obtain ⟨k, ek⟩ := dx
  obtain ⟨l, el⟩ := dy
  generalize hG : (Int.gcd x y : Int) = G at *
  have hG0 : 0 < G := by omega
  have hGn : G ≠ 0 := by omega
  have fx : ∀ s : Int, s ≠ 0 → ∀ z : Int, (s * z).fdiv s = z := fun s hs z => by
    rw [Int.mul_comm]
    exact Int.mul_fdiv_cancel _ hs
  by_cases hn : y < 0
  · rw [if_pos hn]
    have hs : y.sign = -1 := Int.sign_eq_neg_one_of_neg hn
    have e1 : x.fdiv (0 - G) = -k := by
      have : x = (0 - G) * (-k) := by rw [ek]; grind
      rw [this]
      exact fx _ (by omega) _
    have e2 : y.fdiv (0 - G) = -l := by
      have : y = (0 - G) * (-l) := by rw [el]; grind
      rw [this]
      exact fx _ (by omega) _
    refine ⟨?_, ?_⟩
    · rw [e1, hs, ek, show (-1 : Int) * (G * k) = G * (-k) by grind, Int.mul_ediv_cancel_left _ hGn]
    · rw [e2]
      have : (y.natAbs : Int) = G * (-l) := by
        have : (y.natAbs : Int) = -y := by omega
        rw [this, el]; grind
      rw [Int.natCast_ediv, this, hG, Int.mul_ediv_cancel_left _ hGn]
  · rw [if_neg hn]
    have hs : y.sign = 1 := Int.sign_eq_one_of_pos (by omega)
    have e1 : x.fdiv G = k := by rw [ek]; exact fx _ hGn _
    have e2 : y.fdiv G = l := by
      have : y.fdiv G = (G * l).fdiv G := by rw [← el]
      rw [this]; exact fx _ hGn _
    refine ⟨?_, ?_⟩
    · rw [e1, hs, ek, Int.one_mul, Int.mul_ediv_cancel_left _ hGn]
    · rw [e2]
      have : (y.natAbs : Int) = G * l := by
        have : (y.natAbs : Int) = y := by omega
        rw [this]; exact el
      rw [Int.natCast_ediv, this, hG, Int.mul_ediv_cancel_left _ hGn]
theorem bd_num {n : Nat} {x y : Int} (h : Bd n x) : Bd n (Rat.divInt x y).num := by
  rw [Rat.num_divInt]
  refine h.le ?_
  have h1 : (y.sign * x / (Int.gcd y x : Int)).natAbs ≤ (y.sign * x).natAbs := Int.natAbs_ediv_le_natAbs _ _
  rw [Int.natAbs_mul] at h1
  have h2 : y.sign.natAbs ≤ 1 := by
    rcases Int.lt_trichotomy y 0 with z | z | z
    · rw [Int.sign_eq_neg_one_of_neg z]; decide
    · rw [z]; decide
    · rw [Int.sign_eq_one_of_pos z]; decide
  have h3 : y.sign.natAbs * x.natAbs ≤ 1 * x.natAbs := Nat.mul_le_mul_right _ h2
  omega
theorem bd_den {n : Nat} {x y : Int} (h : Bd n y) (h0 : 0 < n) : Bd n ((Rat.divInt x y).den : Int) := by
  rw [Rat.den_divInt]
  split
  · exact Nat.one_lt_two_pow (by omega)
  · exact h.le (by rw [Int.natAbs_natCast]; exact Nat.div_le_self _ _)
end Rk
namespace Rk
open PySem PySem.Spec L2
/-- a fraction's numbers below 2 ^ n -/
def BQ (n : Nat) (r : Rat) : Prop := Bd n r.num ∧ Bd n (r.den : Int)
theorem BQ.mono {n m : Nat} {r : Rat} (h : BQ n r) (hl : n ≤ m) : BQ m r := ⟨h.1.mono hl, h.2.mono hl⟩
theorem den_pos (r : Rat) : (0 : Int) < (r.den : Int) := by
  have := r.den_nz
  omega
theorem add_divInt (r s : Rat) : Rat.divInt (r.num * s.den + s.num * r.den) (r.den * s.den) = r + s := by
  rw [Rat.add_def', ← Int.natCast_mul, Rat.divInt_ofNat]
theorem sub_divInt (r s : Rat) : Rat.divInt (r.num * s.den - s.num * r.den) (r.den * s.den) = r - s := by
  rw [Rat.sub_def', ← Int.natCast_mul, Rat.divInt_ofNat]
theorem mul_divInt (r s : Rat) : Rat.divInt (r.num * s.num) (r.den * s.den) = r * s := by
  rw [Rat.mul_def', ← Int.natCast_mul, Rat.divInt_ofNat]
theorem div_divInt (r s : Rat) : Rat.divInt (r.num * s.den) (r.den * s.num) = r / s := by
  rw [← Rat.divInt_mul_divInt, Rat.num_divInt_den, ← Rat.inv_divInt, Rat.num_divInt_den, Rat.div_def]
theorem BQ.add {n m : Nat} {r s : Rat} (hr : BQ n r) (hs : BQ m s) (h0 : 0 < n + m) : BQ (n + m + 1) (r + s) := by
  rw [← add_divInt]
  refine ⟨bd_num ?_, bd_den ((hr.2.mul hs.2).mono (Nat.le_succ _)) (Nat.succ_pos _)⟩
  exact ((hr.1.mul hs.2).add (hs.1.mul hr.2)).mono (by omega)
theorem BQ.sub {n m : Nat} {r s : Rat} (hr : BQ n r) (hs : BQ m s) (h0 : 0 < n + m) : BQ (n + m + 1) (r - s) := by
  rw [← sub_divInt]
  refine ⟨bd_num ?_, bd_den ((hr.2.mul hs.2).mono (Nat.le_succ _)) (Nat.succ_pos _)⟩
  exact ((hr.1.mul hs.2).sub (hs.1.mul hr.2)).mono (by omega)
theorem BQ.mul {n m : Nat} {r s : Rat} (hr : BQ n r) (hs : BQ m s) (h0 : 0 < n + m) : BQ (n + m) (r * s) := by
  rw [← mul_divInt]
  exact ⟨bd_num (hr.1.mul hs.1), bd_den (hr.2.mul hs.2) h0⟩
theorem BQ.div {n m : Nat} {r s : Rat} (hr : BQ n r) (hs : BQ m s) (h0 : 0 < n + m) : BQ (n + m) (r / s) := by
  rw [← div_divInt]
  exact ⟨bd_num (hr.1.mul hs.2), bd_den (hr.2.mul hs.1) h0⟩
theorem BQ.neg {n : Nat} {r : Rat} (hr : BQ n r) : BQ n (-r) := ⟨by rw [Rat.neg_num]; exact hr.1.neg, by rw [Rat.neg_den]; exact hr.2⟩
theorem Q_int (n : Int) : Q (n : Rat) = .tuple [.int n, .int 1] := by
  unfold Q
  rw [Rat.num_intCast, Rat.den_intCast]
  rfl
end Rk
namespace Rk
open PySem PySem.Spec L2
theorem sh_int (a : Int) : sh (.int a) = true := by
  simp [sh, SeqAt.shaped, PyData.hasDict, PyData.hasDictAll, PyData.canLay0, PyData.depth]
theorem sh_Q (r : Rat) : sh (Q r) = true := by
  simp [Q, sh, SeqAt.shaped, PyData.hasDict, PyData.hasDictAll, PyData.canLay0, PyData.canLayAll0, PyData.depth, PyData.depthAll]
theorem eqv_int (a b : Int) : PyData.eqv (.int a) (.int b) = decide (a = b) := by
  show (a == b) = decide (a = b)
  by_cases e : a = b <;> simp [e]
theorem eqv_Q (r s : Rat) : PyData.eqv (Q r) (Q s) = decide (r = s) := by
  have e : (r = s) ↔ (r.num = s.num ∧ r.den = s.den) := ⟨fun z => by rw [z]; exact ⟨rfl, rfl⟩, fun ⟨z1, z2⟩ => Rat.ext z1 z2⟩
  simp only [Q, PyData.eqv, PyData.eqvAll]
  by_cases h1 : r.num = s.num <;> by_cases h2 : r.den = s.den <;> simp [e, h1, h2] <;> omega
section
variable {h : Hh}
theorem gEq_int {a b : Int} : gEq (.d (.int a)) (.d (.int b)) h = some (.d (.bool (decide (a = b))), h) := by
  simp [gEq, asD, eqvB, sh_int, eqv_int]
theorem gNe_int {a b : Int} : gNe (.d (.int a)) (.d (.int b)) h = some (.d (.bool (!decide (a = b))), h) := by
  simp [gNe, asD, eqvB, sh_int, eqv_int]
theorem gNe_Q {r s : Rat} : gNe (.d (Q r)) (.d (Q s)) h = some (.d (.bool (!decide (r = s))), h) := by
  show (eqvB (Q r) (Q s)).map (fun z => (Vl.d (.bool (!z)), h)) = _
  simp [eqvB, sh_Q, eqv_Q]
end
theorem bd_nat {n : Nat} {a : Nat} (h : a < 2 ^ n) : Bd n (a : Int) := by
  unfold Bd
  rw [Int.natAbs_natCast]
  exact h
theorem zpow_neg_nat (b : Rat) (n : Nat) : b ^ (-(n : Int)) = (b ^ n)⁻¹ := by
  rw [Rat.zpow_neg, Rat.zpow_natCast]
theorem Q_pow (b : Nat) (n : Nat) : Q ((b : Rat) ^ (n : Int)) = .tuple [.int ((b ^ n : Nat) : Int), .int 1] := by
  unfold Q
  rw [Rat.zpow_natCast, Rat.num_pow, Rat.den_pow]
  simp
theorem Q_powneg (b : Nat) (n : Nat) (hb : 0 < b) : Q ((b : Rat) ^ (-(n : Int))) = .tuple [.int 1, .int ((b ^ n : Nat) : Int)] := by
  have hp : 0 < b ^ n := Nat.pow_pos hb
  have e : (b : Rat) ^ (-(n : Int)) = Rat.divInt 1 ((b ^ n : Nat) : Int) := by
    rw [zpow_neg_nat, show ((b : Rat) ^ n) = Rat.divInt ((b ^ n : Nat) : Int) 1 by rw [← Rat.natCast_pow]; exact (Rat.num_divInt_den ((b ^ n : Nat) : Rat)).symm, Rat.inv_divInt]
  unfold Q
  rw [e, Rat.num_divInt, Rat.den_divInt, if_neg (by omega)]
  have hs : ((b ^ n : Nat) : Int).sign = 1 := Int.sign_eq_one_of_pos (by omega)
  rw [hs]
  simp
end Rk
namespace Rk
open PySem PySem.Spec L2
/-! ### a law's stream: four places -/
def Strm (K : Nat) (xs : List Da) : Prop := ∃ (c : Bool) (x : Int) (k : Nat) (m : Int), xs = [.bool c, .int x, .int (k : Int), .int m] ∧ k ≤ K
section
variable {h : Hh} {n : Nat} {a b c d : Da} {ρ : En}
theorem ixS0 (e : h[n]? = some (some (.lst [a, b, c, d]))) : gIx (.r n) (.d (.int 0)) h = some (.d a, h) := gIxL (k := 0) e rfl
theorem ixS1 (e : h[n]? = some (some (.lst [a, b, c, d]))) : gIx (.r n) (.d (.int 1)) h = some (.d b, h) := gIxL (k := 1) e rfl
theorem ixS2 (e : h[n]? = some (some (.lst [a, b, c, d]))) : gIx (.r n) (.d (.int 2)) h = some (.d c, h) := gIxL (k := 2) e rfl
theorem ixS3 (e : h[n]? = some (some (.lst [a, b, c, d]))) : gIx (.r n) (.d (.int 3)) h = some (.d d, h) := gIxL (k := 3) e rfl
theorem setS1 {v : Da} (e : h[n]? = some (some (.lst [a, b, c, d]))) : setL (.r n) (.d (.int 1)) (.d v) h = some (h.set n (some (.lst [a, v, c, d]))) := by
  have q : ixN [a, b, c, d].length 1 = some 1 := ixN_nat (k := 1) (by simp)
  unfold setL fz
  dsimp only
  rw [e]
  dsimp only
  rw [q]
  rfl
theorem setS2 {v : Da} (e : h[n]? = some (some (.lst [a, b, c, d]))) : setL (.r n) (.d (.int 2)) (.d v) h = some (h.set n (some (.lst [a, b, v, d]))) := by
  have q : ixN [a, b, c, d].length 2 = some 2 := ixN_nat (k := 2) (by simp)
  unfold setL fz
  dsimp only
  rw [e]
  dsimp only
  rw [q]
  rfl
theorem gIn01 {x : Int} : gIn false (.d (.int x)) (.d (.tuple [.int 0, .int (-1)])) h = some (.d (.bool (decide (x = 0) || decide (x = -1))), h) := by
  have e : inF (.int x) [.int 0, .int (-1)] = (decide (x = 0) || decide (x = -1)) := by
    simp only [inF, List.any_cons, List.any_nil, eqF, Bool.or_false]
    by_cases h1 : x = 0 <;> by_cases h2 : x = -1 <;> simp [h1, h2] <;> omega
  simp [gIn, asQ, flatD, e]
theorem okO_ok {v : Vl} : okO (.ok v h) = some (v, h) := rfl
theorem gSetL_eq {o ix : Ev} {v : Vl} : gSetL o ix v ρ h = (okO (o ρ h)).bind fun p => (okO (ix ρ p.2)).bind fun q => (setL p.1 q.1 v q.2).map fun h' => (ρ, h') := rfl
theorem get_set {o : Option Ob} (hn : n < h.length) : (h.set n o)[n]? = some o := List.getElem?_set_self hn
end
theorem fmod_bd {x p : Int} (hp : 0 < p) : 0 ≤ x.fmod p ∧ x.fmod p < p := by
  rw [Int.fmod_eq_emod_of_nonneg _ (by omega)]
  exact ⟨Int.emod_nonneg _ (by omega), Int.emod_lt_of_pos _ hp⟩
theorem bd_lit {n : Nat} {x : Int} (m : Nat) (h1 : -(m : Int) ≤ x) (h2 : x ≤ m) (hm : m < 2 ^ n) : Bd n x := Nat.lt_of_le_of_lt (by omega) hm
end Rk
namespace Rk
open PySem PySem.Spec L2
theorem set_app {h : Hh} {n : Nat} {o : Option Ob} {l : Hh} (hn : n < h.length) : (h ++ l).set n o = h.set n o ++ l := by
  rw [List.set_append, if_pos hn]
end Rk
namespace Rk
open PySem PySem.Spec L2
section
variable {r : Rat} {h : Hh} {ρ : En} {g : Gs}
theorem gTupT_tup {n : Nat} {ds : List Da} : gTupT n g (.d (.tuple ds)) ρ h = if ds.length = n then g (ds.map Vl.d) ρ h else none := rfl
theorem gTupT_Q : gTupT 2 g (.d (Q r)) ρ h = g [.d (.int r.num), .d (.int r.den)] ρ h := rfl
theorem ixQ0 : gIx (.d (Q r)) (.d (.int 0)) h = some (.d (.int r.num), h) := ix0
theorem ixQ1 : gIx (.d (Q r)) (.d (.int 1)) h = some (.d (.int r.den), h) := ix1
theorem isQ_tup : isTyD .tuple (Q r) = some true := rfl
theorem isQ_bool : isTyD .bool (Q r) = some false := rfl
theorem isQ_int : isTyD .int (Q r) = some false := rfl
theorem isI_bool {i : Int} : isTyD .bool (.int i) = some false := rfl
theorem isI_int {i : Int} : isTyD .int (.int i) = some true := rfl
theorem isI_tup {i : Int} : isTyD .tuple (.int i) = some false := rfl
theorem isB_bool {i : Bool} : isTyD .bool (.bool i) = some true := rfl
theorem isB_int {i : Bool} : isTyD .int (.bool i) = some true := rfl
theorem isTy_d {T : Ty} {x : Da} : isTy T (.d x) h = isTyD T x := rfl
end
end Rk
namespace Rk
open PySem PySem.Spec L2
section
variable {a0 a1 a2 : Da} {l : List Da} {h : Hh}
theorem get_end {o : Option Ob} : (h ++ [o])[h.length]? = some o := by simp
end
end Rk
namespace Rk
end Rk
namespace Rk
open PySem PySem.Spec L2
end Rk

/-! Rk9: rulers, by numbers alone; loops' steps. -/
namespace Rk
open PySem PySem.Spec L2
theorem set_at {h l : Hh} {a b : Option Ob} : (h ++ a :: l).set h.length b = h ++ b :: l := by
  rw [List.set_append, if_neg (by omega)]
  simp
theorem get_at {h l : Hh} {a : Option Ob} : (h ++ a :: l)[h.length]? = some a := by simp
/-! ### powers -/
structure Ruler where
  b : Nat
  f : Nat
  l : Int
  w : String
def Ruler.da (R : Ruler) : Da := .tuple [.int R.b, .int R.f, .int R.l, .str R.w]
structure Ruler.Ok (R : Ruler) : Prop where
  b2 : 2 ≤ R.b
  b16 : R.b ≤ 16
  f1 : 1 ≤ R.f
  f24 : R.f ≤ 24
  l1 : -100 ≤ R.l
  l2 : R.l ≤ 100
  w4 : R.w = "near" ∨ R.w = "down" ∨ R.w = "up" ∨ R.w = "nought"
def Ruler.pw (R : Ruler) (e : Int) : Rat := (R.b : Rat) ^ e
section
variable {R : Ruler} (O : R.Ok)
include O
theorem pw_pos (e : Int) : 0 < R.pw e := Rat.zpow_pos (by
  have h : ((0 : Nat) : Rat) < (R.b : Rat) := Rat.natCast_lt_natCast.mpr (by have := O.b2; omega)
  exact h)
theorem pw_ne (e : Int) : R.pw e ≠ 0 := fun z => by
  have := pw_pos O e
  rw [z] at this
  exact absurd this (by decide)
theorem BQ_pw {E : Nat} {e : Int} (h : e.natAbs ≤ E) : BQ (4 * E + 1) (R.pw e) := by
  have hb : R.b ^ e.natAbs < 2 ^ (4 * E + 1) := by
    refine Nat.lt_of_le_of_lt (Nat.pow_le_pow_left O.b16 _) ?_
    rw [show (16 : Nat) = 2 ^ 4 from rfl, ← Nat.pow_mul]
    exact Nat.pow_lt_pow_right (by decide) (by omega)
  have h1 : Bd (4 * E + 1) 1 := Nat.one_lt_two_pow (by omega)
  rcases Int.le_total 0 e with z | z
  · have q := Q_pow R.b e.natAbs
    rw [show ((e.natAbs : Nat) : Int) = e by omega] at q
    injection q with q
    injection q with q1 q2
    injection q2 with q2
    injection q1 with q1
    injection q2 with q2
    refine ⟨?_, ?_⟩
    · show Bd _ ((R.b : Rat) ^ e).num
      rw [q1]
      exact bd_nat hb
    · show Bd _ (((R.b : Rat) ^ e).den : Int)
      rw [q2]
      exact h1
  · have q := Q_powneg R.b e.natAbs (by have := O.b2; omega)
    rw [show -((e.natAbs : Nat) : Int) = e by omega] at q
    injection q with q
    injection q with q1 q2
    injection q2 with q2
    injection q1 with q1
    injection q2 with q2
    refine ⟨?_, ?_⟩
    · show Bd _ ((R.b : Rat) ^ e).num
      rw [q1]
      exact h1
    · show Bd _ (((R.b : Rat) ^ e).den : Int)
      rw [q2]
      exact bd_nat hb
omit O in
theorem BQ.abs {n : Nat} {r : Rat} (h : BQ n r) : BQ n r.abs := by
  unfold Rat.abs
  split
  · exact h
  · exact h.neg
end
/-! ### places -/
def IsPlc (R : Ruler) (x : Rat) (p : Int) : Prop := R.l ≤ p ∧ x.abs < R.pw (p + R.f) ∧ (p = R.l ∨ R.pw (p - 1 + R.f) ≤ x.abs)
noncomputable def Ruler.plc (R : Ruler) (x : Rat) : Int := Classical.epsilon (IsPlc R x)
section
variable {R : Ruler} (O : R.Ok)
include O
end
end Rk
namespace Rk
end Rk
namespace Rk
end Rk

/-! Rk10: list comprehensions, append. -/
namespace Rk
open PySem PySem.Spec L2
variable {mg : Str → Option Value}
def wipeE (ρ : En) : List Nat → En
  | [] => ρ
  | v :: vs => (wipeE ρ vs).set v none
theorem ERep.setN {K : PySem.W.Frag} {φ : List Addr} {h : Hh} {H : Hp} {σ : L2.St} {ρ : En} (i : Nat) (r : ERep K mg φ h H σ ρ) : ERep K mg φ h H (σ.set i none) (ρ.set i none) := by
  refine ⟨by rw [List.length_set, List.length_set, r.len], fun j w e => ?_⟩
  by_cases hj : i = j
  · subst hj
    have hl : i < ρ.length := by
      have := (List.getElem?_eq_some_iff.mp e).1
      rwa [List.length_set] at this
    rw [List.getElem?_set_self hl] at e
    cases e
  · rw [List.getElem?_set_ne hj] at e
    rw [List.getElem?_set_ne hj]
    exact r.at_ j w e
theorem ERep.wipe {K : PySem.W.Frag} {φ : List Addr} {h : Hh} {H : Hp} {σ : L2.St} {ρ : En} (r : ERep K mg φ h H σ ρ) : ∀ vs : List Nat, ERep K mg φ h H (L2.wipe σ vs) (wipeE ρ vs)
  | [] => r
  | v :: vs => (ERep.wipe r vs).setN v
theorem wipe_get (σ : L2.St) (j : Nat) : ∀ vs : List Nat, (L2.wipe σ vs)[j]? = if j ∈ vs then (if j < σ.length then some none else none) else σ[j]?
  | [] => by simp [L2.wipe]
  | v :: vs => by
    unfold L2.wipe
    have ih := wipe_get σ j vs
    have hl := L2.wipe_length σ vs
    by_cases hj : v = j
    · subst hj
      by_cases hv : v < σ.length
      · rw [List.getElem?_set_self (by rw [hl]; exact hv)]
        simp [hv]
      · rw [List.getElem?_eq_none (by simp; omega)]
        simp [hv]
    · rw [List.getElem?_set_ne hj, ih]
      have : j ∈ v :: vs ↔ j ∈ vs := by
        rw [List.mem_cons]
        exact ⟨fun z => z.elim (fun z => absurd z.symm hj) id, .inr⟩
      simp only [this]
theorem wipe_set {σ : L2.St} {i : Nat} {o : Option V} {vs : List Nat} (hi : i ∈ vs) : L2.wipe (σ.set i o) vs = L2.wipe σ vs := by
  apply List.ext_getElem?
  intro j
  rw [wipe_get, wipe_get, List.length_set]
  by_cases hj : j ∈ vs
  · simp [hj]
  · have : i ≠ j := fun z => hj (z ▸ hi)
    simp [hj, List.getElem?_set_ne this]
/-! ### a block's targets -/
def tGw (K : PySem.W.Frag) (mg : Str → Option Value) (vs : List Nat) (g : Gv) : TG := fun x σ H Q => ∃ φ h ρ v ρ' h', Sim K φ h H ∧ ERep K mg φ h H σ ρ ∧ VRep K mg φ h H x v ∧ g v ρ h = some (ρ', h') ∧ ∀ σ' H' φ', Step φ h H φ' h' H' → Sim K φ' h' H' → ERep K mg φ' h' H' σ' ρ' → L2.wipe σ' vs = L2.wipe σ vs → Q σ' H'
def tGsw (K : PySem.W.Frag) (mg : Str → Option Value) (ws : List Nat) (g : Gs) : TGs := fun xs σ H Q => ∃ φ h ρ vs ρ' h', Sim K φ h H ∧ ERep K mg φ h H σ ρ ∧ VReps K mg φ h H xs vs ∧ g vs ρ h = some (ρ', h') ∧ ∀ σ' H' φ', Step φ h H φ' h' H' → Sim K φ' h' H' → ERep K mg φ' h' H' σ' ρ' → L2.wipe σ' ws = L2.wipe σ ws → Q σ' H'
def EGw (X : Cx) (vs : List Nat) (tg : Expr) (g : Gv) : Prop := PG X tg (tGw X.K X.mg vs g)
def EGsw (X : Cx) (vs : List Nat) (tg : List Expr) (g : Gs) : Prop := PGs X tg (tGsw X.K X.mg vs g)
section
variable {X : Cx} {pos : Pos} {ws : List Nat}
theorem egw_name {i : Nat} {x : Str} (hN : X.N.Nodup) (hw : i ∈ ws := by decide) (hi : X.N[i]? = some x := by rfl) (hx : Loc X.env.scope x := by first | exact .inl rfl | exact .inr rfl) (hf : X.fn x = true ∨ X.env.scope.names.lookup x = some .local := by first | exact .inl rfl | exact .inr rfl | assumption) : EGw X ws (.Name x pos) (gN i) :=
  PG.of (pg_name (i := i) hN hi hx hf) fun x σ H Q ⟨φ, h, ρ, v, ρ', h', sm, er, rv, e, k⟩ => by
    cases e
    exact k _ H φ (Step.refl _ _ _) sm (er.set rv) (wipe_set hw)
end
/-! ### append -/
def appL (D : Nat) (v : Vl) (h : Hh) : Option Hh := (fz v h).bind fun p => match p.2[D]? with
  | some (some (.lst xs)) => if fitB (xs.length + 1) = true then some (p.2.set D (some (.lst (xs ++ [p.1])))) else none
  | _ => none
theorem Reps.snoc {K : PySem.W.Frag} {H : Hp} {M : Addr → Prop} : ∀ {xs : List V} {ds : List Da} {x : V} {d : Da}, Reps K H M xs ds → Rep K H M x d → Reps K H M (xs ++ [x]) (ds ++ [d])
  | _, _, _, _, .nil, r => .cons r .nil
  | _, _, _, _, .cons a t, r => .cons a (Reps.snoc t r)
theorem appL_ok {K : PySem.W.Frag} {φ : List Addr} {h h' : Hh} {H : Hp} {D : Nat} {a : Addr} {z : V} {v : Vl} (sm : Sim K φ h H) (ea : φ[D]? = some a) (rz : VRep K mg φ h H z v) (e : appL D v h = some h') :
    ∃ acc, H a = some (.lst acc) ∧ acc.length < sizeLine ∧ Step φ h H φ h' (upd H a (.lst (acc ++ [z]))) ∧ Sim K φ h' (upd H a (.lst (acc ++ [z]))) := by
  unfold appL at e
  cases ef : fz v h with
  | none => rw [ef] at e; cases e
  | some p =>
    obtain ⟨d, h1⟩ := p
    rw [ef] at e
    dsimp only [Option.bind_some] at e
    obtain ⟨s1, s2, s3⟩ := fz_ok sm rz ef
    split at e
    · rename_i xs en
      split at e
      · rename_i ft
        cases e
        obtain ⟨ys, eh, rs⟩ := s2.at_ en ea
        obtain ⟨t1, t2⟩ := s2.write (ob := .lst (xs ++ [d])) (u := .lst (ys ++ [z])) en ea fun M st => ⟨_, upd_same, Reps.snoc (rs.stay st) (s3.stay st)⟩
        refine ⟨ys, eh, ?_, s1.trans t1, t2⟩
        have := fitB_le ft
        rw [rs.length]
        omega
      · cases e
    · cases e
/-! ### comprehensions -/
def tvYes : Tv := fun _ h => .ok true h
def ETs (X : Cx) (W : WX) (es : List Expr) (f : Tv) : Prop := PTs X es (tT X.K X.mg W f)
theorem PTs.of {X : Cx} {es : List Expr} {t t' : TT} (h : PTs X es t) (i : ∀ σ H Q, t' σ H Q → t σ H Q) : PTs X es t' := ⟨fun pins s σ H Q I w => h.run pins s σ H Q I (i σ H Q w)⟩
theorem ets_nil {X : Cx} {W : WX} : ETs X W [] tvYes := PTs.of pts_nil fun σ H Q ⟨φ, h, ρ, sm, er, q⟩ => q H φ (Step.refl _ _ _) sm
theorem ets_one {X : Cx} {W : WX} {c : Expr} {t : Tv} (h : ET X W c t) : ETs X W [c] t := pts_one h
open Classical in
noncomputable def lcL (gd : Option (Nat × List Da)) (D : Nat) (g : Gv) (tt : Tv) (fe : Ev) (ρ0 : En) : List Da → Hh → Out Vl
  | [], h => if gdOk gd h then .ok (.r D) h else .no
  | d :: ds, h => if gdOk gd h then (match g (.d d) ρ0 h with
      | none => .no
      | some p => match tt p.1 p.2 with
        | .ok true h2 => (match fe p.1 h2 with
          | .ok v h3 => (match appL D v h3 with
            | some h4 => lcL gd D g tt fe ρ0 ds h4
            | none => .no)
          | _ => .no)
        | .ok false h2 => lcL gd D g tt fe ρ0 ds h2
        | _ => .no) else .no
noncomputable def eLc (vs : List Nat) (i : Iv) (g : Gv) (tt : Tv) (fe : Ev) : Ev := fun ρ h => (i ρ h).bind fun m h1 => lcL m.gd h1.length g tt fe (wipeE ρ vs) m.ds (h1 ++ [some (.lst [])])
abbrev WF : WX := fun _ _ _ _ => False
theorem lc_ok {K : PySem.W.Frag} {mg : Str → Option Value} {J : It} {m : Itm} {G : List Addr → Hh → Hp → Prop} (ok : ItOk K J m G) {g : Gv} {tt : Tv} {fe : Ev} {vs : List Nat} {φ : List Addr} {h : Hh} {H : Hp} {σ : L2.St} {ρ : En} {Q : VK} {E : XK} (sm : Sim K φ h H) (er : ERep K mg φ h H σ ρ) (gg : G φ h H)
    (q : PoX K mg φ h H (lcL m.gd h.length g tt fe (wipeE ρ vs) m.ds (h ++ [some (.lst [])])) Q E) (D : Addr) (nd : H D = none) : ∃ W' : Nat → Nat → Hp → Prop, (∃ n, W' 0 n (upd H D (.lst []))) ∧ ∀ i n H, W' i n H →
      (J.stop i H ∧ Q (.ref D) H) ∨ (J.go i H ∧ ∃ Nx : Hp → Prop, (∀ H', Nx H' → ∃ m', m' < n ∧ W' (i + 1) m' H') ∧ ∀ x H', J.yld i H x H' → tGw K mg vs g x (L2.wipe σ vs) H' fun σ2 H2 => L2.wipe σ2 vs = L2.wipe σ vs ∧ tT K mg WF tt σ2 H2 fun b H3 => if b = true then tE K mg WF fe σ2 H3 fun y H4 => ∃ acc, H4 D = some (.lst acc) ∧ acc.length < sizeLine ∧ Nx (upd H4 D (.lst (acc ++ [y]))) else Nx H3) := by
  obtain ⟨n1, n2, n3⟩ := sm.new (mg := mg) (ob := .lst []) (o := .lst []) nd fun M st => ⟨[], upd_same, .nil⟩
  have jD : (φ ++ [D])[h.length]? = some D := by
    rw [← sm.len]
    simp
  generalize h.length = j at *
  refine ⟨fun i n H => n = m.ds.length - i ∧ ∃ φ h, Sim K φ h H ∧ φ[j]? = some D ∧ ERep K mg φ h H (L2.wipe σ vs) (wipeE ρ vs) ∧ G φ h H ∧ PoX K mg φ h H (lcL m.gd j g tt fe (wipeE ρ vs) (m.ds.drop i) h) Q E, ⟨_, rfl, φ ++ [D], h ++ [some (.lst [])], n2, jD, (er.step n1).wipe vs, ok.keep _ _ _ _ _ _ gg n1, by rw [List.drop_zero]; exact PoX.pull n1 q⟩, ?_⟩
  rintro i n H ⟨rfl, φ, h, sm, jD, er, gg, q⟩
  cases ed : m.ds.drop i with
  | nil =>
    rw [ed] at q
    unfold lcL at q
    split at q
    · rename_i gd
      exact .inl ⟨ok.stop φ h H i sm gg gd (List.drop_eq_nil_iff.mp ed), q _ H φ (Step.refl _ _ _) sm ⟨D, jD, rfl⟩⟩
    · exact q.elim
  | cons d ds =>
    have hi : i < m.ds.length := by
      rcases Nat.lt_or_ge i m.ds.length with z | z
      · exact z
      · rw [List.drop_eq_nil_of_le z] at ed; cases ed
    have e1 : m.ds[i]? = some d := by
      have := List.getElem?_drop (xs := m.ds) (i := i) (j := 0)
      rw [ed] at this
      simpa using this.symm
    have e2 : m.ds.drop (i + 1) = ds := by
      have := List.drop_drop (i := 1) (j := i) (l := m.ds)
      rw [ed] at this
      simpa using this.symm
    rw [ed] at q
    unfold lcL at q
    split at q
    · rename_i gd
      refine .inr ⟨ok.go φ h H i sm gg gd hi, fun H' => ∃ φ h, Sim K φ h H' ∧ φ[j]? = some D ∧ ERep K mg φ h H' (L2.wipe σ vs) (wipeE ρ vs) ∧ G φ h H' ∧ PoX K mg φ h H' (lcL m.gd j g tt fe (wipeE ρ vs) ds h) Q E, fun H' hN => ?_, fun x H' hy => ?_⟩
      · obtain ⟨φ', h', a1, a2, a3, a4, a5⟩ := hN
        exact ⟨m.ds.length - (i + 1), by omega, rfl, φ', h', a1, a2, a3, a4, by rw [e2]; exact a5⟩
      · obtain ⟨s1, s2, s3⟩ := ok.yld φ h H i x H' d sm gg gd e1 hy
        have q' := PoX.pull s1 q
        have gg' := ok.keep _ _ _ _ _ _ gg s1
        have er' := er.step s1
        cases eg : g (.d d) (wipeE ρ vs) h with
        | none => rw [eg] at q'; exact q'.elim
        | some p =>
          obtain ⟨ρ1, h1⟩ := p
          rw [eg] at q'
          refine ⟨φ, h, _, .d d, ρ1, h1, s2, er', s3, eg, fun σ2 H2 φ2 st2 sm2 er2 w2 => ⟨by
            have idm : L2.wipe (L2.wipe σ vs) vs = L2.wipe σ vs := by
              apply List.ext_getElem?
              intro k
              rw [wipe_get, wipe_get, L2.wipe_length]
              by_cases hk : k ∈ vs <;> simp [hk]
            rw [w2, idm], φ2, h1, ρ1, sm2, er2, ?_⟩⟩
          have q2 := PoX.pull st2 q'
          have gg2 := ok.keep _ _ _ _ _ _ gg' st2
          have er3 := er'.step st2
          have jD2 := pre_get st2.pre jD
          dsimp only at q2
          revert q2
          cases tt ρ1 h1 with
          | no => exact fun q2 => q2
          | ex c fs h2 => exact fun q2 => q2.elim
          | ok b h2 =>
            intro q2 H3 φ3 st3 sm3
            have q3 := PoX.pull st3 q2
            have gg3 := ok.keep _ _ _ _ _ _ gg2 st3
            have jD3 := pre_get st3.pre jD2
            cases b with
            | false =>
              rw [if_neg (by decide)]
              exact ⟨φ3, h2, sm3, jD3, er3.step st3, gg3, q3⟩
            | true =>
              rw [if_pos rfl]
              refine ⟨φ3, h2, ρ1, sm3, er2.step st3, ?_⟩
              dsimp only at q3
              revert q3
              cases fe ρ1 h2 with
              | no => exact fun q3 => q3
              | ex c fs h3 => exact fun q3 => q3.elim
              | ok v h3 =>
                intro q3 y H4 φ4 st4 sm4 rv
                have q4 := PoX.pull st4 q3
                have gg4 := ok.keep _ _ _ _ _ _ gg3 st4
                have jD4 := pre_get st4.pre jD3
                dsimp only at q4
                cases ea : appL j v h3 with
                | none => rw [ea] at q4; exact q4.elim
                | some h4 =>
                  rw [ea] at q4
                  obtain ⟨acc, a1, a2, a3, a4⟩ := appL_ok sm4 jD4 rv ea
                  exact ⟨acc, a1, a2, φ4, h4, a4, jD4, ((er3.step st3).step st4).step a3, ok.keep _ _ _ _ _ _ gg4 a3, PoX.pull a3 q4⟩
    · exact q.elim
section
variable {X : Cx} {W : WX} {elt tg iter : Expr} {ifs : List Expr} {scope : Scope} {own : List (Str × Nat)} {pos spos py : Pos} {fi : Iv} {g : Gv} {tt : Tv} {fe : Ev}
theorem lc_read {σ : L2.St} {H : Hp} {Q : VK} {ws : List Nat} (hw : ws = own.map (·.2)) (t : tE X.K X.mg W (eLc ws fi g tt fe) σ H Q) : tLc (tI X.K X.mg W fi) (tGw X.K X.mg ws g) (tT X.K X.mg WF tt) (tE X.K X.mg WF fe) (own.map (·.2)) σ H Q := by
  subst hw
  obtain ⟨φ, h, ρ, sm, er, q⟩ := t
  refine ⟨φ, h, ρ, sm, er, ?_⟩
  unfold eLc at q
  revert q
  cases fi ρ h with
  | ok m h1 => exact fun q J H1 φ1 G st sm1 ok gg D nd => lc_ok ok sm1 (er.step st) gg (PoX.pull st q) D nd
  | ex c fs h1 => exact fun q => q
  | no => exact fun q => q
theorem ee_lc (ws : List Nat) (own : List (Str × Nat)) (hc : X.calm = true) (hN : X.N.Nodup) (hi : EI X W tg iter fi) (ok : BlkOk X.N X.env.scope scope own)
    (hg : ∀ (s : Shared) (H : Hp) (C : Addr) (cl : List (Str × Addr)) (fp : List Addr), EGw (X.blk s H scope (compEnvC scope cl C X.env) fp) ws tg g)
    (ht : ∀ (s : Shared) (H : Hp) (C : Addr) (cl : List (Str × Addr)) (fp : List Addr), ETs (X.blk s H scope (compEnvC scope cl C X.env) fp) WF ifs tt)
    (he : ∀ (s : Shared) (H : Hp) (C : Addr) (cl : List (Str × Addr)) (fp : List Addr), EE (X.blk s H scope (compEnvC scope cl C X.env) fp) WF elt fe)
    (hw : ws = own.map (·.2) := by rfl) (hs : ∀ x, foldedSetIterable iter X.env x = pure x := by intro _; rfl) : EE X W (.ListComp elt [⟨tg, iter, ifs, 0⟩] scope pos) (eLc ws fi g tt fe) :=
  PE.of (pe_lc (own := own) (g := tGw X.K X.mg ws g) (tt := tT X.K X.mg WF tt) (te := tE X.K X.mg WF fe) hc hN hi ok hg ht he hs) fun σ H Q t => lc_read hw t
end
end Rk

/-! Rk11: methods of built-in types. -/
namespace Rk
open PySem PySem.Spec L2
variable {mg : Str → Option Value}
abbrev GM := Vl → List Vl → Hh → Option (Vl × Hh)
def eMt (ty : Vl → Hh → Bool) (g : GM) (o : Ev) (as : Av) : Ev := fun ρ h => (o ρ h).bind fun x h1 => if ty x h1 = true then (as ρ h1).bind fun vs h2 => ofO (g x vs h2) else .no
def TyOk (K : PySem.W.Frag) (mg : Str → Option Value) (T : String) (ty : Vl → Hh → Bool) : Prop := ∀ (φ : List Addr) (h : Hh) (H : Hp) (x : V) (v : Vl), Sim K φ h H → VRep K mg φ h H x v → ty v h = true → tyV K T x H
def OkM (K : PySem.W.Frag) (mg : Str → Option Value) (r : V → List V → Hp → VK → Prop) (g : GM) : Prop := ∀ (φ : List Addr) (h : Hh) (H : Hp) (x : V) (xs : List V) (o : Vl) (as : List Vl) (Q : VK) (v : Vl) (h' : Hh), Sim K φ h H → VRep K mg φ h H x o → VReps K mg φ h H xs as → g o as h = some (v, h') →
  (∀ z H' φ', Step φ h H φ' h' H' → Sim K φ' h' H' → VRep K mg φ' h' H' z v → Q z H') → r x xs H Q
def tyL (v : Vl) (h : Hh) : Bool := (asL v h).isSome
def tyS (v : Vl) (_ : Hh) : Bool := match v with
  | .d (.str _) => true
  | _ => false
section
variable {K : PySem.W.Frag}
theorem tyL_ok : TyOk K mg "list" tyL := fun φ h H x v sm r e => by
  unfold tyL at e
  cases q : asL v h with
  | none => rw [q] at e; cases e
  | some ds =>
    obtain ⟨a, xs, rfl, sq, _⟩ := asL_ok sm r q
    exact .inl ⟨rfl, xs, sq⟩
theorem tyS_ok : TyOk K mg "str" tyS := fun φ h H x v sm r e => by
  unfold tyS at e
  split at e
  · rw [VRep.str r]
    rfl
  · cases e
end
section
variable {X : Cx} {W : WX} {o e : Expr} {es : List Expr} {fo : Ev} {fs : Av} {apos cpos : Pos} {T : String} {name : Str} {id : String} {r : V → List V → Hp → VK → Prop} {ty : Vl → Hh → Bool} {g : GM}
theorem ee_mt (pa : PlainAttrs T) (slot : Slot T name id) (hty : typeOf (.builtin id) = pure (.type "method_descriptor")) (hm : MtR X id r) (tk : TyOk X.K X.mg T ty) (ok : OkM X.K X.mg r g) (ho : EE X W o fo) (ha : EA X W (e :: es) fs)
    (hbase : attributeBase o name X.env (eval o X.env) = eval o X.env := by rfl)
    (hfew : ((backTo cpos (starEach (e :: es) X.env)).all (fun x => !x.1) && (backToKw cpos (keywordEach [] X.env)).all (fun x => x.1.isSome)
      && decide ((e :: es).length + ([] : List Keyword).length + (if ([] : List Keyword).isEmpty then 0 else 1) < 30)) = true := by rfl)
    (hline : (apos.endLine == cpos.line) = true := by rfl) (hs : starEach (e :: es) X.env = (false, eval e X.env) :: starEach es X.env := by rfl) (hplain : (backTo cpos (starEach es X.env)).any (·.1) = false := by rfl) :
    EE X W (.Call (.Attribute o name apos) (e :: es) [] cpos) (eMt ty g fo fs) :=
  PE.of (pe_bm pa slot hty hm ho ha hbase hfew hline hs hplain) fun σ H Q ⟨φ, h, ρ, sm, er, q⟩ => ⟨φ, h, ρ, sm, er, PoX.goE q fun x v h1 H1 φ1 st sm1 rv q1 => by
    split at q1
    · rename_i ht
      refine ⟨tk _ _ _ _ _ sm1 rv ht, φ1, h1, ρ, sm1, er.step st, PoX.goA q1 fun xs vs h2 H2 φ2 st2 sm2 rvs q2 => ?_⟩
      obtain ⟨z, h3, e3, k⟩ := PoX.ofO q2
      exact ok φ2 h2 H2 x xs v vs Q z h3 sm2 (rv.step st2) rvs e3 k
    · exact q1.elim⟩
end
/-! ### lists' methods -/
def gApp : GM := fun o as h => match o, as with
  | .r n, [v] => (appL n v h).map fun h' => (.d .none, h')
  | _, _ => none
theorem ok_app {K : PySem.W.Frag} : OkM K mg rAppend gApp := by
  intro φ h H x xs o as Q v h' sm rx rs e k
  unfold gApp at e
  split at e
  · rename_i n w
    obtain ⟨y, rfl, ry⟩ := rs.one
    obtain ⟨a, ea, rfl⟩ := rx
    cases q : appL n w h with
    | none => rw [q] at e; cases e
    | some h1 =>
      rw [q] at e
      cases e
      obtain ⟨acc, a1, a2, a3, a4⟩ := appL_ok sm ea ry q
      exact ⟨a, acc, y, rfl, rfl, a1, a2, k _ _ _ a3 a4 Rep.non⟩
  · cases e
end Rk

/-! Rk12: rounding, by numbers alone. -/
namespace Rk
open PySem PySem.Spec L2
/-! ### whole and rest -/
theorem fl_lt (t : Rat) : t < (t.floor : Rat) + 1 := by
  have := Rat.lt_floor_add_one (a := t)
  rw [Rat.intCast_add] at this
  exact this
def upB (w : String) (t : Rat) : Bool :=
  if w = "near" then decide (1 < 2 * (t - (t.floor : Rat))) || (decide (2 * (t - (t.floor : Rat)) = 1) && decide (t.floor.fmod 2 = 1))
  else if w = "nought" then decide (t < 0) && decide (0 < t - (t.floor : Rat))
  else decide (w = "up") && decide (0 < t - (t.floor : Rat))
/-- the whole number that a way tells -/
def wb (w : String) (t : Rat) : Int := t.floor + (if upB w t = true then 1 else 0)
noncomputable def Ruler.stp (R : Ruler) (x : Rat) : Rat := R.pw (R.plc x)
noncomputable def Ruler.rnd (R : Ruler) (x : Rat) : Rat := (wb R.w (x / R.stp x) : Rat) * R.stp x
section
variable {R : Ruler} (O : R.Ok)
include O
end
end Rk
namespace Rk
open PySem PySem.Spec L2
end Rk
namespace Rk
open PySem PySem.Spec L2
end Rk
namespace Rk
open PySem PySem.Spec L2
theorem abs_mulP {a c : Rat} (hc : 0 < c) : (a * c).abs = a.abs * c := by
  unfold Rat.abs
  by_cases h : 0 ≤ a
  · rw [if_pos h, if_pos (Rat.mul_nonneg h (Rat.le_of_lt hc))]
  · have : ¬ 0 ≤ a * c := fun z => by
      have h2 := Rat.mul_lt_mul_of_pos_right (Rat.not_le.mp h) hc
      rw [Rat.zero_mul] at h2
      grind
    rw [if_neg h, if_neg this]
    grind
theorem BQ_int {n : Nat} {k : Int} (h : Bd n k) (h0 : 0 < n) : BQ n (k : Rat) := by
  refine ⟨?_, ?_⟩
  · rw [Rat.num_intCast]
    exact h
  · rw [Rat.den_intCast]
    exact Nat.one_lt_two_pow (by omega)
theorem bd_floor {n : Nat} {t : Rat} (h : BQ n t) : Bd n t.floor := by
  rw [Rat.floor_def]
  exact h.1.le (Int.natAbs_ediv_le_natAbs _ _)
/-! ### comprehensions step by step -/
section
variable {gd : Option (Nat × List Da)} {D : Nat} {g : Gv} {tt : Tv} {fe : Ev} {ρ0 ρ1 : En} {d : Da} {ds : List Da} {h h1 h2 h3 h4 : Hh} {v : Vl}
theorem lcL_nil (e : gdOk gd h) : lcL gd D g tt fe ρ0 [] h = .ok (.r D) h := by
  unfold lcL
  rw [if_pos e]
theorem lcL_cons (e : gdOk gd h) (eg : g (.d d) ρ0 h = some (ρ1, h1)) (et : tt ρ1 h1 = .ok true h2) (ef : fe ρ1 h2 = .ok v h3) (ea : appL D v h3 = some h4) : lcL gd D g tt fe ρ0 (d :: ds) h = lcL gd D g tt fe ρ0 ds h4 := by
  rw [lcL]
  rw [if_pos e, eg]
  dsimp only
  rw [et]
  dsimp only
  rw [ef]
  dsimp only
  rw [ea]
theorem lcL_skip (e : gdOk gd h) (eg : g (.d d) ρ0 h = some (ρ1, h1)) (et : tt ρ1 h1 = .ok false h2) : lcL gd D g tt fe ρ0 (d :: ds) h = lcL gd D g tt fe ρ0 ds h2 := by
  rw [lcL]
  rw [if_pos e, eg]
  dsimp only
  rw [et]
theorem appL_end {acc : List Da} {x : Da} {n : Nat} (hn : h.length = n) (hl : acc.length < 16777216) : appL n (.d x) (h ++ [some (.lst acc)]) = some (h ++ [some (.lst (acc ++ [x]))]) := by
  subst hn
  unfold appL fz
  dsimp only [Option.bind_some]
  rw [get_end]
  dsimp only
  rw [if_pos (fitB_ok (by omega)), set_at]
end
end Rk
namespace Rk
open PySem PySem.Spec L2
section
variable {h : Hh} {n : Nat} {l : List Da}
theorem asL_at (e : h[n]? = some (some (.lst l))) : asL (.r n) h = some l := by
  unfold asL
  dsimp only
  rw [e]
theorem tyL_at (e : h[n]? = some (some (.lst l))) : tyL (.r n) h = true := by
  unfold tyL
  rw [asL_at e]
  rfl
theorem gApp_at {d : Da} (e : h[n]? = some (some (.lst l))) (hl : l.length < 16777216) : gApp (.r n) [.d d] h = some (.d .none, h.set n (some (.lst (l ++ [d])))) := by
  unfold gApp appL fz
  dsimp only [Option.bind_some]
  rw [e]
  dsimp only
  rw [if_pos (fitB_ok (by omega))]
  rfl
end
end Rk
namespace Rk
end Rk
namespace Rk
open PySem PySem.Spec L2
def ways : List Da := [.str "near", .str "down", .str "up", .str "nought"]
end Rk

/-! Rk13: repr of data. -/
namespace Rk
open PySem PySem.Spec L2
variable {mg : Str → Option Value}
def rRepr (K : PySem.W.Frag) (xs : List V) (H : Hp) (Q : VK) : Prop := ∃ x d, xs = [x] ∧ Dp K H x d ∧ d.showable = true ∧ d.hasDict = false ∧ d.depth ≤ 60 ∧ d.shown.length ≤ sizeLine ∧ Q (.str d.shown) H
theorem call_repr {X : Cx} (hg : X.A.guards = some []) (hu : X.A.units + 64 < cLine) : CallR X (.builtin "repr") (rRepr X.K) := by
  intro pins s σ H xs us Q I r h
  obtain ⟨x, d, rfl, dp, sh, nd, dd, sz, q⟩ := h
  cases r with
  | cons r1 r2 =>
    cases r2
    obtain ⟨as, rd⟩ := Dp.reads I d x _ dp r1
    have big : ∀ a, Reads s.heap (.ref a) d as → wpAny (model X.prog X.w) X.A (call (.builtin "repr") [.ref a]) (EP X pins σ Q) X.xe s := fun a rd =>
      repr_of_reads' rd sh (fun z => by rw [nd] at z; cases z) hg (by omega) (fun _ _ e => e) (fun h' u tk hk => ⟨.str _, H, I.kept (t' := tk) hk, ⟨_, rfl⟩, q⟩) sz
    cases rd with
    | none => exact PySem.P.repr_of_none ⟨.str _, H, I.tok _, ⟨_, rfl⟩, q⟩
    | bool b => exact PySem.P.repr_of_bool ⟨.str _, H, I.tok _, ⟨_, rfl⟩, q⟩
    | int i t => exact PySem.P.repr_of_int (of_decide_eq_true sh) ⟨.str _, H, I.tok _, ⟨_, rfl⟩, q⟩
    | str z t => exact PySem.P.repr_of_str ⟨.str _, H, I.tok _, ⟨_, rfl⟩, q⟩ sz
    | list a b c e => exact big _ (.list a b c e)
    | tuple a b c e => exact big _ (.tuple a b c e)
    | dict a b c e f => exact big _ (.dict a b c e f)
def gRepr : GC := fun as h => match as with
  | [x] => match asD x h with
    | some d => if d.showable && !d.hasDict && decide (d.depth ≤ 60) && fitB d.shown.length then some (.d (.str d.shown), h) else none
    | none => none
  | _ => none
theorem ok_repr {K : PySem.W.Frag} : OkC K mg (rRepr K) gRepr := by
  intro φ h H xs as Q v h' sm rs e k
  unfold gRepr at e
  split at e
  · rename_i a
    obtain ⟨x, rfl, rx⟩ := rs.one
    split at e
    · rename_i d ed
      split at e
      · rename_i hc
        cases e
        rw [Bool.and_eq_true, Bool.and_eq_true, Bool.and_eq_true] at hc
        obtain ⟨⟨⟨h1, h2⟩, h3⟩, h4⟩ := hc
        exact ⟨x, d, rfl, asD_ok sm rx ed (by simpa using h2), h1, by simpa using h2, of_decide_eq_true h3, fitB_le h4, k _ H φ (Step.refl _ _ _) sm (Rep.str _)⟩
      · cases e
    · cases e
  · cases e
end Rk

/-! Rk14: dicts. -/
namespace Rk
open PySem PySem.Spec L2
variable {mg : Str → Option Value}
def keyOf : Vl → Option Key
  | .d (.int i) => some (.inl i)
  | .d (.str x) => some (.inr x)
  | _ => none
def putD (kds : List (Key × Da)) (k : Key) (d : Da) : List (Key × Da) :=
  if (kds.any fun kv => decide (kv.1 = k)) = true then kds.map (fun kv => if kv.1 = k then (kv.1, d) else kv) else kds ++ [(k, d)]
section
variable {K : PySem.W.Frag}
section
variable {H : Hp} {M : Addr → Prop}
theorem KvRep.length : ∀ {vs : List (Key × V)} {ds : List (Key × Da)}, KvRep K H M vs ds → vs.length = ds.length
  | _, _, .nil => rfl
  | _, _, .cons _ t => by rw [List.length_cons, List.length_cons, KvRep.length t]
theorem KvRep.get : ∀ {vs : List (Key × V)} {ds : List (Key × Da)} {k : Key}, KvRep K H M vs ds → (valV vs k = none ∧ valD ds k = none) ∨ ∃ v d, valV vs k = some v ∧ valD ds k = some d ∧ Rep K H M v d
  | _, _, _, .nil => .inl ⟨rfl, rfl⟩
  | _, _, k, .cons (k := k0) (v := v) (d := d) r t => by
    by_cases e : k0 = k
    · refine .inr ⟨v, d, valV_pos e, ?_, r⟩
      simp [valD, List.find?_cons, e]
    · have e1 : ∀ l : List (Key × Da), valD ((k0, d) :: l) k = valD l k := fun l => by simp [valD, List.find?_cons, e]
      have e2 : ∀ l : List (Key × V), valV ((k0, v) :: l) k = valV l k := fun l => valV_neg (p := (k0, v)) e
      rw [e1, e2]
      exact KvRep.get t
theorem KvRep.any : ∀ {vs : List (Key × V)} {ds : List (Key × Da)} {k : Key}, KvRep K H M vs ds → (vs.any fun kv => decide (kv.1 = k)) = (ds.any fun kv => decide (kv.1 = k))
  | _, _, _, .nil => rfl
  | _, _, _, .cons r t => by rw [List.any_cons, List.any_cons, KvRep.any t]
theorem KvRep.map {k : Key} {v : V} {d : Da} (q : Rep K H M v d) : ∀ {vs : List (Key × V)} {ds : List (Key × Da)}, KvRep K H M vs ds → KvRep K H M (vs.map fun kv => if kv.1 = k then (kv.1, v) else kv) (ds.map fun kv => if kv.1 = k then (kv.1, d) else kv)
  | _, _, .nil => .nil
  | _, _, .cons (k := k0) r t => by
    rw [List.map_cons, List.map_cons]
    by_cases e : k0 = k
    · rw [if_pos e, if_pos e]
      exact .cons q (KvRep.map q t)
    · rw [if_neg e, if_neg e]
      exact .cons r (KvRep.map q t)
theorem KvRep.snoc {k : Key} {v : V} {d : Da} (q : Rep K H M v d) : ∀ {vs : List (Key × V)} {ds : List (Key × Da)}, KvRep K H M vs ds → KvRep K H M (vs ++ [(k, v)]) (ds ++ [(k, d)])
  | _, _, .nil => .cons q .nil
  | _, _, .cons r t => .cons r (KvRep.snoc q t)
theorem KvRep.put {k : Key} {v : V} {d : Da} (q : Rep K H M v d) {vs : List (Key × V)} {ds : List (Key × Da)} (r : KvRep K H M vs ds) : KvRep K H M (putK vs k v) (putD ds k d) := by
  unfold putK putD
  rw [r.any]
  split
  · exact r.map q
  · exact r.snoc q
end
/-! ### d[k] -/
def gDG : G2 := fun x y h => match x, keyOf y with
  | .r n, some k => match h[n]? with
    | some (some (.dct kds)) => (valD kds k).map fun d => (.d d, h)
    | _ => none
  | _, _ => none
def rDG : R2 := fun x y H Q => ∃ a v, x = .ref a ∧ DGet H a y (some v) ∧ Q v H
/-- either -/
def gIy : G2 := fun x y h => match gDG x y h with
  | some r => some r
  | none => gIx x y h
end
section
variable {X : Cx} {W : WX} {a b : Expr} {fa fb : Ev} {pos : Pos}
theorem PE.or {e : Expr} {t t' : TE} (h : PE X e t) (h' : PE X e t') : PE X e (fun σ H Q => t σ H Q ∨ t' σ H Q) := ⟨fun pins s σ H Q I w => w.elim (h.run pins s σ H Q I) (h'.run pins s σ H Q I)⟩
end
/-! ### d[k] = v -/
def setD (o i v : Vl) (h : Hh) : Option Hh := match o, keyOf i, fz v h with
  | .r n, some k, some (d, h1) => match h1[n]? with
    | some (some (.dct kds)) => if fitB (kds.length + 1) = true then some (h1.set n (some (.dct (putD kds k d)))) else none
    | _ => none
  | _, _, _ => none
def gSetD (o ix : Ev) : Gv := fun v ρ h => (okO (o ρ h)).bind fun p => (okO (ix ρ p.2)).bind fun q => (setD p.1 q.1 v q.2).map fun h' => (ρ, h')
section
variable {X : Cx} {W : WX} {o ix e : Expr} {fo fi fe : Ev} {pos pos' : Pos}
end
/-! ### {k: v, ..} -/
abbrev Pv := En → Hh → Out (List (Key × Da))
def pNil : Pv := fun _ h => .ok [] h
def pCons (k v : Ev) (r : Pv) : Pv := fun ρ h => (k ρ h).bind fun x h1 => (v ρ h1).bind fun y h2 => (r ρ h2).bind fun l h3 => match keyOf x, fz y h3 with
  | some kk, some (d, h4) => .ok ((kk, d) :: l) h4
  | _, _ => .no
def eDct (p : Pv) : Ev := fun ρ h => (p ρ h).bind fun l h1 => if l.length ≤ 15 then .ok (.r h1.length) (h1 ++ [some (.dct (l.foldl (fun acc kv => putD acc kv.1 kv.2) []))]) else .no
end Rk

/-! Rk15: dict displays. -/
namespace Rk
open PySem PySem.Spec L2
def hdel (H : Hp) (p : Addr) : Hp := fun b => if b = p then none else H b
theorem del_ne {H : Hp} {p b : Addr} (h : b ≠ p) : hdel H p b = H b := if_neg h
section
variable {K : PySem.W.Frag} {H : Hp} {p : Addr} {l : List (Key × V)}
theorem rd_del {a : Addr} {u : HO} (hp : H p = some (.dK l)) (hu : ∀ l', u ≠ .dK l') (h : Rd H a u) : Rd (hdel H p) a u := by
  have ne : a ≠ p := fun e => by
    subst e
    rcases h with h | ⟨o, h⟩
    · rw [hp] at h
      cases h
      exact hu _ rfl
    · rw [hp] at h
      cases h
  rcases h with h | ⟨o, h⟩
  · exact .inl (by rw [del_ne ne]; exact h)
  · exact .inr ⟨o, by rw [del_ne ne]; exact h⟩
mutual
theorem repDel {K : PySem.W.Frag} {H : Hp} {p : Addr} {M : Addr → Prop} (hp : H p = some (.dK [])) : ∀ {v : V} {d : Da}, Rep K H M v d → Rep K (hdel H p) M v d
  | _, _, .non => .non
  | _, _, .bl b => .bl b
  | _, _, .int i => .int i
  | _, _, .str x => .str x
  | _, _, .tup h n r => .tup (rd_del hp (fun _ z => by cases z) h) n (repsDel hp r)
  | _, _, .tupK h r => .tupK h (repsDel hp r)
  | _, _, .lst h n r => .lst (rd_del hp (fun _ z => by cases z) h) n (repsDel hp r)
  | _, _, .lstK h r => .lstK h (repsDel hp r)
  | _, _, .dct0 h n => .dct0 (by
    rw [del_ne fun e => by
      rw [e, hp] at h
      cases h]
    exact h) n
  | _, _, .dct h n ne r e => .dct (by
    rw [del_ne fun z => by
      rw [z, hp] at h
      cases h
      exact ne rfl]
    exact h) n ne (repsDel hp r) e
  | _, _, .fn x => .fn x
  | _, _, .plt h e n r => .plt (by
    rw [del_ne fun z => by
      rw [z, hp] at h
      cases h]
    exact h) e n (repsDel hp r)
theorem repsDel {K : PySem.W.Frag} {H : Hp} {p : Addr} {M : Addr → Prop} (hp : H p = some (.dK [])) : ∀ {v : List V} {d : List Da}, Reps K H M v d → Reps K (hdel H p) M v d
  | _, _, .nil => .nil
  | _, _, .cons r t => .cons (repDel hp r) (repsDel hp t)
end
end
def PoP (K : PySem.W.Frag) (mg : Str → Option Value) (φ : List Addr) (h : Hh) (H : Hp) (o : Out (List (Key × Da))) (Q : List (V × V) → Hp → Prop) (E : XK) : Prop := match o with
  | .ok l h' => ∀ kvs H' φ', Step φ h H φ' h' H' → Sim K φ' h' H' → KvRep K H' (Live φ' h') kvs l → Q (kvs.map fun kv => (kV kv.1, kv.2)) H'
  | .ex c fs h' => ∀ cls dd H' φ', Step φ h H φ' h' H' → Sim K φ' h' H' → XRep K mg H' (Live φ' h') c fs cls dd → E cls dd H'
  | .no => False
theorem PoP.pull {K : PySem.W.Frag} {mg : Str → Option Value} {φ φ1 : List Addr} {h h1 : Hh} {H H1 : Hp} {o : Out (List (Key × Da))} {Q : List (V × V) → Hp → Prop} {E : XK} (s : Step φ h H φ1 h1 H1) (q : PoP K mg φ h H o Q E) : PoP K mg φ1 h1 H1 o Q E := by
  cases o with
  | ok l h' => exact fun kvs H' φ' st => q kvs H' φ' (s.trans st)
  | ex c fs h' => exact fun cls dd H' φ' st => q cls dd H' φ' (s.trans st)
  | no => exact q
def EP_ (X : Cx) (W : WX) (pos : Pos) (ks : List (Option Expr)) (vs : List Expr) (f : Pv) : Prop :=
  ∃ trs, PPs X pos ks vs trs ∧ ∀ σ H Q φ h ρ, Sim X.K φ h H → ERep X.K X.mg φ h H σ ρ → PoP X.K X.mg φ h H (f ρ h) Q (WE W σ) → tPairs trs σ H Q
section
variable {X : Cx} {W : WX} {pos : Pos} {ks : List (Option Expr)} {vs : List Expr} {k v : Expr} {fk fv : Ev} {fr : Pv}
end
end Rk

/-! Rk16: slices of lists with a step. -/
namespace Rk
open PySem PySem.Spec L2 PyProof.Rows
def pickG {α : Type} (xs : List α) (lo hi st : Option Int) : List α :=
  (sliceRange (sliceBounds lo hi st xs.length).1 (sliceBounds lo hi st xs.length).2.1 (sliceBounds lo hi st xs.length).2.2).filterMap (xs[·]?)
theorem reps_pick {K : PySem.W.Frag} {H : Hp} {M : Addr → Prop} {xs : List V} {ds : List Da} (r : Reps K H M xs ds) : ∀ is : List Nat, Reps K H M (is.filterMap (xs[·]?)) (is.filterMap (ds[·]?))
  | [] => .nil
  | i :: is => by
    have hl := r.length
    rw [List.filterMap_cons, List.filterMap_cons]
    cases e : ds[i]? with
    | none =>
      have : xs[i]? = none := by
        rw [List.getElem?_eq_none_iff] at e ⊢
        omega
      simp only [this]
      exact reps_pick r is
    | some d =>
      obtain ⟨v, e1, q⟩ := Reps.get r e
      simp only [e1]
      exact .cons q (reps_pick r is)
theorem Reps.pickG {K : PySem.W.Frag} {H : Hp} {M : Addr → Prop} {xs : List V} {ds : List Da} (r : Reps K H M xs ds) (lo hi st : Option Int) : Reps K H M (Rk.pickG xs lo hi st) (Rk.pickG ds lo hi st) := by
  unfold Rk.pickG
  rw [r.length]
  exact reps_pick r _
def tStep (K : PySem.W.Frag) (te : TE) (tl th ts : TO) : TE := fun σ H Q => te σ H fun x H1 => tl σ H1 fun lo H2 => th σ H2 fun hi H3 => ts σ H3 fun st H4 => ∃ a xs, x = .ref a ∧ SqL K H4 a xs ∧ st ≠ some 0 ∧ (pickG xs lo hi st).length ≤ sizeLine ∧ ∀ p, H4 p = none → Q (.ref p) (upd H4 p (.lst (pickG xs lo hi st)))
section
variable {X : Cx}
end
def gSt (x : Vl) (lo hi st : Option Int) (h : Hh) : Option (Vl × Hh) := match asL x h with
  | some xs => if st ≠ some 0 ∧ (pickG xs lo hi st).length ≤ 16777216 then some (.r h.length, h ++ [some (.lst (pickG xs lo hi st))]) else none
  | none => none
def eSt (f : Ev) (lo hi st : Ov) : Ev := fun ρ h => (f ρ h).bind fun x h1 => (lo ρ h1).bind fun l h2 => (hi ρ h2).bind fun u h3 => (st ρ h3).bind fun t h4 => ofO (gSt x l u t h4)
section
variable {X : Cx} {W : WX} {a st : Expr} {fa : Ev} {pos p2 : Pos} {lo hi : Option Expr} {fl fh fs : Ov}
end
end Rk

/-! Rk17: a law's state in a dict. -/
namespace Rk
open PySem PySem.Spec L2
section
variable {a b c d v : Da}
def stD (a b c d : Da) : List (Key × Da) := [(.inr "cells", a), (.inr "left", b), (.inr "mixed", c), (.inr "at", d)]
end
section
variable {h : Hh} {n : Nat} {a b c d v : Da}
end
end Rk
namespace Rk
open PySem PySem.Spec L2
end Rk
namespace Rk
open PySem PySem.Spec L2
section
variable {gd : Option (Nat × List Da)} {g : Gv} {tt : Tv} {fe : Ev} {ρ0 : En} {h : Hh}
theorem lc_filter {F : Da → Da} {P : Da → Bool} (hgd : ∀ o, gdOk gd (h ++ [o])) : ∀ (ds acc : List Da), (∀ d ∈ ds, ∀ h', ∃ ρ1, g (.d d) ρ0 h' = some (ρ1, h') ∧ tt ρ1 h' = .ok (P d) h' ∧ (P d = true → fe ρ1 h' = .ok (.d (F d)) h')) → acc.length + ds.length ≤ 16777216 →
    lcL gd h.length g tt fe ρ0 ds (h ++ [some (.lst acc)]) = .ok (.r h.length) (h ++ [some (.lst (acc ++ (ds.filter P).map F))])
  | [], acc, _, _ => by
    rw [lcL_nil (hgd _)]
    simp
  | d :: ds, acc, H, hl => by
    obtain ⟨ρ1, e1, e2, e3⟩ := H d (List.mem_cons_self ..) (h ++ [some (.lst acc)])
    rw [List.length_cons] at hl
    by_cases p : P d = true
    · rw [p] at e2
      rw [lcL_cons (hgd _) e1 e2 (e3 p) (appL_end rfl (by omega)), lc_filter hgd ds (acc ++ [F d]) (fun d hd => H d (List.mem_cons_of_mem _ hd)) (by rw [List.length_append, List.length_singleton]; omega), List.filter_cons_of_pos p]
      simp
    · have p' : P d = false := by simpa using p
      rw [p'] at e2
      rw [lcL_skip (hgd _) e1 e2, lc_filter hgd ds acc (fun d hd => H d (List.mem_cons_of_mem _ hd)) (by omega), List.filter_cons_of_neg p]
end
end Rk
namespace Rk
open PySem PySem.Spec L2
end Rk

/-! Rk18: lists that are never changed: frozen at once. -/
namespace Rk
open PySem PySem.Spec L2
variable {mg : Str → Option Value}
def eFz (f : Ev) : Ev := fun ρ h => match f ρ h with
  | .ok v h1 => match fz v h1 with
    | some p => trunc h.length (.d p.1) p.2
    | none => .no
  | .ex c fs h1 => .ex c fs (h1.take h.length)
  | .no => .no
theorem ex_cut {K : PySem.W.Frag} {mg : Str → Option Value} {φ φ' : List Addr} {h h' : Hh} {H H' : Hp} {c : Str} {fs : List (Str × Da)} {cls : Value} {dd : Option Addr} (sm : Sim K φ h H) (st : Step φ h H φ' h' H') (sm' : Sim K φ' h' H') (xr : XRep K mg H' (Live φ' h') c fs cls dd) :
    Step φ h H φ (h'.take h.length) H' ∧ Sim K φ (h'.take h.length) H' ∧ XRep K mg H' (Live φ (h'.take h.length)) c fs cls dd := by
  obtain ⟨c1, c2⟩ := sm'.cut st.pre sm.len
  have st2 : Stay H' (Live φ' h') H' (Live φ (h'.take h.length)) := fun a u q _ nl => ⟨q, fun l => nl (c2 a l)⟩
  exact ⟨⟨List.prefix_refl _, st.st.trans st2⟩, c1, xr.cl, xr.no, fun z => by
    obtain ⟨a, vs, e1, e2, e3, e4⟩ := xr.yes z
    exact ⟨a, vs, e1, e2, fun l => e3 (c2 a l), e4.stay st2⟩⟩
section
variable {X : Cx} {W : WX} {e : Expr} {f : Ev}
theorem ee_fz (p : EE X W e f) : EE X W e (eFz f) :=
  PE.of p fun σ H Q ⟨φ, h, ρ, sm, er, q⟩ => ⟨φ, h, ρ, sm, er, by
    unfold eFz at q
    revert q
    cases f ρ h with
    | no => exact fun q => q
    | ex c fs h1 =>
      intro q cls dd H' φ' st sm' xr
      obtain ⟨a, b, c⟩ := ex_cut sm st sm' xr
      exact q cls dd H' φ a b c
    | ok v h1 =>
      intro q x H' φ' st sm' rv
      dsimp only at q
      split at q
      · rename_i p e
        obtain ⟨d, h2⟩ := p
        obtain ⟨s1, s2, s3⟩ := fz_ok sm' rv e
        exact trunc_ok (v := .d d) sm (st.trans s1) s2 s3 q
      · exact q.elim⟩
end
/-! ### a statement that stores a list -/
section
variable {K : PySem.W.Frag} {φ φ' : List Addr} {h h' : Hh} {H H' : Hp} {σ σ' : L2.St} {ρ ρ' : En}
/-- which objects a value tells of -/
def RefB (k : Nat) : Vl → Prop
  | .r m => m < k
  | .f D => ∀ j m : Nat, D.ρ[j]? = some (some (Vl0.r m)) → m < k
  | _ => True
theorem ERep.cut {n : Nat} (pre : φ <+: φ') (c2 : ∀ a, Live φ (h'.take n) a → Live φ' h' a) (er : ERep K mg φ' h' H' σ' ρ') (hr : ∀ (j : Nat) (v : Vl), ρ'[j]? = some (some v) → RefB φ.length v) : ERep K mg φ (h'.take n) H' σ' ρ' := by
  refine ⟨er.len, fun i v e => ?_⟩
  obtain ⟨x, e1, r⟩ := er.at_ i v e
  refine ⟨x, e1, ?_⟩
  cases v with
  | d z => exact Rep.stay (M := Live φ' h') (fun a u q _ nl => ⟨q, fun l => nl (c2 a l)⟩) r
  | x c fs =>
    obtain ⟨a, cls, dd, rfl, e1, e2, xr⟩ := r
    exact ⟨a, cls, dd, rfl, e1, fun l => e2 (c2 a l), xr.stay (M := Live φ' h') (fun a u q _ nl => ⟨q, fun l => nl (c2 a l)⟩)⟩
  | r m =>
    obtain ⟨a, ea, rfl⟩ := r
    have hm : m < φ.length := hr i _ e
    obtain ⟨t, rfl⟩ := pre
    rw [List.getElem?_append_left hm] at ea
    exact ⟨a, ea, rfl⟩
  | f D =>
    obtain ⟨f1, f2, f3, f4, f5⟩ := r
    have hm : ∀ j m : Nat, D.ρ[j]? = some (some (Vl0.r m)) → m < φ.length := hr i _ e
    refine ⟨f1, f2, fun l => f3 (c2 _ l), f4, fun j w z => ?_⟩
    obtain ⟨x, g1, g2⟩ := f5 j w z
    refine ⟨x, g1, ?_⟩
    cases w with
    | d z => exact Rep.stay (M := Live φ' h') (fun a u q _ nl => ⟨q, fun l => nl (c2 a l)⟩) g2
    | r m =>
      have hm := hm j m z
      obtain ⟨a, ea, rfl⟩ := g2
      obtain ⟨t, rfl⟩ := pre
      rw [List.getElem?_append_left hm] at ea
      exact ⟨a, ea, rfl⟩
end
section
variable {X : Cx} {W : WX} {s : Stmt} {f : Ev}
end
end Rk

/-! Rk19: what is wished behind an outcome, rule by rule. -/
namespace Rk
open PySem PySem.Spec L2
abbrev XP := Str → List (Str × Da) → Hh → Prop
def Wp0 {α : Type} (o : Out α) (Q : α → Hh → Prop) (E : XP) : Prop := match o with
  | .ok a h => Q a h
  | .ex c fs h => E c fs h
  | .no => False
structure Wp {α : Type} (o : Out α) (Q : α → Hh → Prop) (E : XP) : Prop where
  w : Wp0 o Q E
abbrev NX : XP := fun _ _ _ => False
structure Ds where
  rt : Vl → Hh → Prop
  bk : En → Hh → Prop
  ct : En → Hh → Prop
  ex : Str → List (Str × Da) → En → Hh → Prop
def Ws0 (s : So) (N : En → Hh → Prop) (D : Ds) : Prop := match s with
  | .nx ρ h => N ρ h
  | .rt v h => D.rt v h
  | .bk ρ h => D.bk ρ h
  | .ct ρ h => D.ct ρ h
  | .ex c fs ρ h => D.ex c fs ρ h
  | .no => False
structure Ws (s : So) (N : En → Hh → Prop) (D : Ds) : Prop where
  w : Ws0 s N D
def Wo {α : Type} (o : Option (α × Hh)) (Q : α → Hh → Prop) : Prop := match o with
  | some p => Q p.1 p.2
  | none => False
def BrK (b : Bool) (A B : Prop) : Prop := if b = true then A else B
def SetK (i : Nat) (ρ : En) (v : Vl) (h : Hh) (N : En → Hh → Prop) : Prop := N (ρ.set i (some v)) h
def TupK (vs : List Vl) (h : Hh) (Q : Vl → Hh → Prop) : Prop := ∃ ds h2, fzs vs h = some (ds, h2) ∧ fitB ds.length = true ∧ Q (.d (.tuple ds)) h2
def LstK (vs : List Vl) (h : Hh) (Q : Vl → Hh → Prop) : Prop := ∃ ds h2, fzs vs h = some (ds, h2) ∧ fitB ds.length = true ∧ Q (.r h2.length) (h2 ++ [some (.lst ds)])
def FzK (v : Vl) (h : Hh) (n : Nat) (Q : Vl → Hh → Prop) : Prop := ∃ d h2, fz v h = some (d, h2) ∧ Q (.d d) (h2.take n)
def TrK (v : Vl) (h : Hh) (K : Bool → Hh → Prop) : Prop := ∃ b, v = .d (.bool b) ∧ K b h
def RetK (n : Nat) (Q : Vl → Hh → Prop) (v : Vl) (h : Hh) : Prop := ∃ v' h', trunc n v h = .ok v' h' ∧ Q v' h'
section
variable {α β : Type} {o : Out α} {Q : α → Hh → Prop} {E : XP} {N : En → Hh → Prop} {D : Ds} {ρ : En} {h h1 : Hh} {b : Bool} {A B : Prop} {K : Bool → Hh → Prop}
theorem wp_eq {a : α} (e : o = .ok a h1) (q : Q a h1) : Wp o Q E := by rw [e]; exact ⟨q⟩
theorem wp_out (w : Wp o Q NX) : ∃ a h1, o = .ok a h1 ∧ Q a h1 := by
  cases o with
  | ok a h1 => exact ⟨a, h1, rfl, w.w⟩
  | ex c fs h1 => exact w.w.elim
  | no => exact w.w.elim
theorem Wp.mono {Q' : α → Hh → Prop} {E' : XP} (w : Wp o Q' E') (k : ∀ a h1, Q' a h1 → Q a h1) (k2 : ∀ c fs h1, E' c fs h1 → E c fs h1) : Wp o Q E := by
  cases o with
  | ok a h1 => exact ⟨k a h1 w.w⟩
  | ex c fs h1 => exact ⟨k2 c fs h1 w.w⟩
  | no => exact w.w.elim
theorem wp_bind {o : Out β} {k : β → Hh → Out α} (w : Wp o (fun a h1 => Wp (k a h1) Q E) E) : Wp (o.bind k) Q E := by
  cases o with
  | ok a h1 => exact w.w
  | ex c fs h1 => exact ⟨w.w⟩
  | no => exact w.w.elim
theorem ws_then {k : α → Hh → So} (w : Wp o (fun a h1 => Ws (k a h1) N D) (fun c fs h1 => D.ex c fs ρ h1)) : Ws (Out.then ρ o k) N D := by
  cases o with
  | ok a h1 => exact w.w
  | ex c fs h1 => exact ⟨w.w⟩
  | no => exact w.w.elim
theorem brk_t (a : A) : BrK true A B := a
theorem brk_f (a : B) : BrK false A B := a
theorem brk_not (w : BrK b B A) : BrK (!b) A B := by cases b <;> exact w
theorem brk_dec {p : Prop} [Decidable p] (ha : p → A) (hb : ¬ p → B) : BrK (decide p) A B := by
  by_cases z : p
  · rw [decide_eq_true z]; exact ha z
  · rw [decide_eq_false z]; exact hb z
theorem brk_dec1 {p : Prop} [Decidable p] (z : p) (ha : A) : BrK (decide p) A B := by
  rw [decide_eq_true z]; exact ha
theorem brk_dec0 {p : Prop} [Decidable p] (z : ¬ p) (hb : B) : BrK (decide p) A B := by
  rw [decide_eq_false z]; exact hb
theorem trk (q : K b h) : TrK (.d (.bool b)) h K := ⟨b, rfl, q⟩
end
section
variable {Q : Vl → Hh → Prop} {E : XP} {ρ : En} {h : Hh} {a b c : Ev} {g g' : G2} {K : Bool → Hh → Prop} {t u : Tv} {m : Fn} {as : Av} {QL : List Vl → Hh → Prop}
theorem wp_D {d : Da} (q : Q (.d d) h) : Wp (eD d ρ h) Q E := ⟨q⟩
theorem wo_of {o : Option (Vl × Hh)} (w : Wo o Q) : Wp (ofO o) Q E := by
  cases o with
  | some p => exact ⟨w⟩
  | none => exact w.elim
theorem wp_op (w : Wp (a ρ h) (fun x h1 => Wp (b ρ h1) (fun y h2 => Wo (g x y h2) Q) E) E) : Wp (eOp g a b ρ h) Q E :=
  wp_bind (w.mono (fun _ _ w => wp_bind (w.mono (fun _ _ w => wo_of w) fun _ _ _ z => z)) fun _ _ _ z => z)
theorem wp_T (w : Wp (a ρ h) (fun v h1 => TrK v h1 K) E) : Wp (eT a ρ h) K E := wp_bind (w.mono (fun _ _ ⟨b, e, q⟩ => by rw [e]; exact ⟨q⟩) fun _ _ _ z => z)
theorem wp_if (w : Wp (t ρ h) (fun k h1 => BrK k (Wp (a ρ h1) Q E) (Wp (b ρ h1) Q E)) E) : Wp (eIf t a b ρ h) Q E :=
  wp_bind (w.mono (fun k _ w => by cases k <;> exact w) fun _ _ _ z => z)
theorem wp_tand (w : Wp (t ρ h) (fun k h1 => BrK k (Wp (u ρ h1) K E) (K false h1)) E) : Wp (tvAnd t u ρ h) K E :=
  wp_bind (w.mono (fun k _ w => by cases k <;> first | exact w | exact ⟨w⟩) fun _ _ _ z => z)
theorem wp_tor (w : Wp (t ρ h) (fun k h1 => BrK k (K true h1) (Wp (u ρ h1) K E)) E) : Wp (tvOr t u ρ h) K E :=
  wp_bind (w.mono (fun k _ w => by cases k <;> first | exact w | exact ⟨w⟩) fun _ _ _ z => z)
theorem wp_tnot (w : Wp (t ρ h) (fun k h1 => K (!k) h1) E) : Wp (tvNot t ρ h) K E := wp_bind (w.mono (fun _ _ w => ⟨w⟩) fun _ _ _ z => z)
theorem wp_and (w : Wp (a ρ h) (fun v h1 => TrK v h1 fun k h2 => BrK k (Wp (b ρ h2) Q E) (Q (.d (.bool false)) h2)) E) : Wp (eAnd a b ρ h) Q E :=
  wp_bind (wp_T (w.mono (fun _ _ ⟨k, e, q⟩ => ⟨k, e, by cases k <;> first | exact q | exact ⟨q⟩⟩) fun _ _ _ z => z))
theorem wp_or (w : Wp (a ρ h) (fun v h1 => TrK v h1 fun k h2 => BrK k (Q (.d (.bool true)) h2) (Wp (b ρ h2) Q E)) E) : Wp (eOr a b ρ h) Q E :=
  wp_bind (wp_T (w.mono (fun _ _ ⟨k, e, q⟩ => ⟨k, e, by cases k <;> first | exact q | exact ⟨q⟩⟩) fun _ _ _ z => z))
theorem wp_not (w : Wp (a ρ h) (fun v h1 => TrK v h1 fun k h2 => Q (.d (.bool (!k))) h2) E) : Wp (eNot a ρ h) Q E :=
  wp_bind (wp_T (w.mono (fun _ _ ⟨k, e, q⟩ => ⟨k, e, ⟨q⟩⟩) fun _ _ _ z => z))
theorem wp_neg (w : Wp (a ρ h) (fun v h1 => ∃ i, v = .d (.int i) ∧ Q (.d (.int (-i))) h1) E) : Wp (eNeg a ρ h) Q E :=
  wp_bind (w.mono (fun _ _ ⟨i, e, q⟩ => by rw [e]; exact ⟨q⟩) fun _ _ _ z => z)
theorem wp_chain (w : Wp (a ρ h) (fun x h1 => Wp (b ρ h1) (fun y h2 => Wo (g x y h2) fun v h3 => TrK v h3 fun k h4 => BrK k (Wp (c ρ h4) (fun z h5 => Wo (g' y z h5) Q) E) (Q (.d (.bool false)) h4)) E) E) : Wp (eChain g g' a b c ρ h) Q E := by
  refine wp_bind (w.mono (fun x h1 w => wp_bind (w.mono (fun y h2 w => wp_bind (wo_of ?_)) fun _ _ _ z => z)) fun _ _ _ z => z)
  cases e : g x y h2 with
  | none => rw [e] at w; exact w
  | some p =>
    rw [e] at w
    obtain ⟨k, e2, w⟩ := w
    show Wp _ _ _
    rw [e2]
    cases k with
    | false => exact ⟨w⟩
    | true => exact wp_bind (Wp.mono w (fun _ _ z => wo_of z) fun _ _ _ z => z)
theorem wp_nil (w : QL [] h) : Wp (aNil ρ h) QL E := ⟨w⟩
theorem wp_cons (w : Wp (a ρ h) (fun x h1 => Wp (as ρ h1) (fun xs h2 => QL (x :: xs) h2) E) E) : Wp (aCons a as ρ h) QL E :=
  wp_bind (w.mono (fun _ _ w => wp_bind (w.mono (fun _ _ w => ⟨w⟩) fun _ _ _ z => z)) fun _ _ _ z => z)
theorem wp_tup (w : Wp (as ρ h) (fun vs h1 => TupK vs h1 Q) E) : Wp (eTup as ρ h) Q E :=
  wp_bind (w.mono (fun _ _ ⟨ds, h2, e, f, q⟩ => by rw [e]; dsimp only; rw [if_pos f]; exact ⟨q⟩) fun _ _ _ z => z)
theorem wp_lst (w : Wp (as ρ h) (fun vs h1 => LstK vs h1 Q) E) : Wp (eLst as ρ h) Q E :=
  wp_bind (w.mono (fun _ _ ⟨ds, h2, e, f, q⟩ => by rw [e]; dsimp only; rw [if_pos f]; exact ⟨q⟩) fun _ _ _ z => z)
theorem wp_call (w : Wp (as ρ h) (fun vs h1 => Wp (m vs h1) Q E) E) : Wp (eCall m as ρ h) Q E := wp_bind w
theorem wp_blt {g : GC} (w : Wp (as ρ h) (fun vs h1 => Wo (g vs h1) Q) E) : Wp (eBlt g as ρ h) Q E := wp_bind (w.mono (fun _ _ w => wo_of w) fun _ _ _ z => z)
theorem wp_isi {T : Ty} (w : Wp (a ρ h) (fun v h1 => ∃ k, isTy T v h1 = some k ∧ Q (.d (.bool k)) h1) E) : Wp (eIsi T a ρ h) Q E :=
  wp_bind (w.mono (fun _ _ ⟨k, e, q⟩ => by rw [e]; exact ⟨q⟩) fun _ _ _ z => z)
theorem wp_fz (w : Wp (a ρ h) (fun v h1 => FzK v h1 h.length Q) (fun c fs h1 => E c fs (h1.take h.length))) : Wp (eFz a ρ h) Q E := by
  unfold eFz
  revert w
  cases a ρ h with
  | no => exact fun w => w.w.elim
  | ex c fs h1 => exact fun w => ⟨w.w⟩
  | ok v h1 =>
    intro w
    obtain ⟨d, h2, e, q⟩ := w.w
    dsimp only
    rw [e]
    exact ⟨q⟩
theorem wp_fzL (w : Wp (eLst as ρ h) (fun v h1 => FzK v h1 h.length Q) (fun c fs h1 => E c fs (h1.take h.length))) : Wp (eFz (eLst as) ρ h) Q E := wp_fz w
theorem wp_fzO (w : Wp (eOp g a b ρ h) (fun v h1 => FzK v h1 h.length Q) (fun c fs h1 => E c fs (h1.take h.length))) : Wp (eFz (eOp g a b) ρ h) Q E := wp_fz w
theorem wp_fzS {lo hi : Ov} (w : Wp (eSl a lo hi ρ h) (fun v h1 => FzK v h1 h.length Q) (fun c fs h1 => E c fs (h1.take h.length))) : Wp (eFz (eSl a lo hi) ρ h) Q E := wp_fz w
theorem fzk_d {x : Da} {n : Nat} (e : h.length = n) (q : Q (.d x) h) : FzK (.d x) h n Q := ⟨x, h, rfl, by rw [← e, List.take_length]; exact q⟩
theorem fzk_end {ds : List Da} {n : Nat} (e : h.length = n) (q : Q (.d (.list ds)) h) : FzK (.r h.length) (h ++ [some (.lst ds)]) n Q :=
  ⟨.list ds, (h ++ [some (Ob.lst ds)]).set h.length none, by simp [fz], by
    subst e
    simp
    exact q⟩
theorem wp_slice {lo hi : Ov} (w : Wp (a ρ h) (fun x h1 => Wp (lo ρ h1) (fun l h2 => Wp (hi ρ h2) (fun u h3 => Wo (gSl x l u h3) Q) E) E) E) : Wp (eSl a lo hi ρ h) Q E :=
  wp_bind (w.mono (fun _ _ w => wp_bind (w.mono (fun _ _ w => wp_bind (w.mono (fun _ _ w => wo_of w) fun _ _ _ z => z)) fun _ _ _ z => z)) fun _ _ _ z => z)
theorem wp_oN {QO : Option Int → Hh → Prop} (w : QO none h) : Wp (oNone ρ h) QO E := ⟨w⟩
theorem wp_oS {QO : Option Int → Hh → Prop} (w : Wp (a ρ h) (fun v h1 => ∃ i, v = .d (.int i) ∧ QO (some i) h1) E) : Wp (oSome a ρ h) QO E :=
  wp_bind (w.mono (fun _ _ ⟨i, e, q⟩ => by rw [e]; exact ⟨q⟩) fun _ _ _ z => z)
theorem wp_step {lo hi st : Ov} (w : Wp (a ρ h) (fun x h1 => Wp (lo ρ h1) (fun l h2 => Wp (hi ρ h2) (fun u h3 => Wp (st ρ h3) (fun s h4 => Wo (gSt x l u s h4) Q) E) E) E) E) : Wp (eSt a lo hi st ρ h) Q E :=
  wp_bind (w.mono (fun _ _ w => wp_bind (w.mono (fun _ _ w => wp_bind (w.mono (fun _ _ w => wp_bind (w.mono (fun _ _ w => wo_of w) fun _ _ _ z => z)) fun _ _ _ z => z)) fun _ _ _ z => z)) fun _ _ _ z => z)
end
/-! ### statements -/
def ForK (m : Itm) (g : Gv) (b : Sv) (ρ : En) (h : Hh) (N : En → Hh → Prop) (D : Ds) : Prop := Ws (forL m.gd g b m.ds ρ h) N D
def GvK (o : Option (En × Hh)) (N : En → Hh → Prop) : Prop := Wo o N
section
variable {Q : Vl → Hh → Prop} {E : XP} {ρ : En} {h : Hh} {f : Ev} {N : En → Hh → Prop} {R : Vl → Hh → Prop} {B C : En → Hh → Prop} {X : Str → List (Str × Da) → En → Hh → Prop} {s u : Sv} {t : Tv} {g : Gv} {as : Av}
theorem ws_seq (w : Ws (s ρ h) (fun ρ1 h1 => Ws (u ρ1 h1) N ⟨R, B, C, X⟩) ⟨R, B, C, X⟩) : Ws (sSeq s u ρ h) N ⟨R, B, C, X⟩ := by
  unfold sSeq
  revert w
  cases s ρ h with
  | nx ρ1 h1 => exact fun w => w.w
  | no => exact fun w => w.w.elim
  | _ => exact fun w => ⟨w.w⟩
theorem ws_set {i : Nat} (w : Wp (f ρ h) (fun v h1 => SetK i ρ v h1 N) (fun c fs h1 => X c fs ρ h1)) : Ws (sSet i f ρ h) N ⟨R, B, C, X⟩ := ws_then (w.mono (fun _ _ q => ⟨q⟩) fun _ _ _ z => z)
theorem ws_ret (w : Wp (f ρ h) R (fun c fs h1 => X c fs ρ h1)) : Ws (sRet f ρ h) N ⟨R, B, C, X⟩ := ws_then (w.mono (fun _ _ q => ⟨q⟩) fun _ _ _ z => z)
theorem ws_expr (w : Wp (f ρ h) (fun _ h1 => N ρ h1) (fun c fs h1 => X c fs ρ h1)) : Ws (sExpr f ρ h) N ⟨R, B, C, X⟩ := ws_then (w.mono (fun _ _ q => ⟨q⟩) fun _ _ _ z => z)
theorem ws_if (w : Wp (t ρ h) (fun k h1 => BrK k (Ws (s ρ h1) N ⟨R, B, C, X⟩) (Ws (u ρ h1) N ⟨R, B, C, X⟩)) (fun c fs h1 => X c fs ρ h1)) : Ws (sIf t s u ρ h) N ⟨R, B, C, X⟩ :=
  ws_then (w.mono (fun k _ w => by cases k <;> exact w) fun _ _ _ z => z)
theorem ws_nil (w : N ρ h) : Ws (sNil ρ h) N ⟨R, B, C, X⟩ := ⟨w⟩
theorem ws_par {i j : Nat} (w : Wp (as ρ h) (fun vs h1 => ∃ v v', vs = [v, v'] ∧ SetK i ρ v h1 fun ρ1 h1 => SetK j ρ1 v' h1 N) (fun c fs h1 => X c fs ρ h1)) : Ws (sPar i j as ρ h) N ⟨R, B, C, X⟩ :=
  ws_then (w.mono (fun _ _ ⟨v, v', e, q⟩ => by rw [e]; exact ⟨q⟩) fun _ _ _ z => z)
theorem ws_asg (w : Wp (f ρ h) (fun v h1 => GvK (g v ρ h1) N) (fun c fs h1 => X c fs ρ h1)) : Ws (sAsg g f ρ h) N ⟨R, B, C, X⟩ :=
  ws_then (w.mono (fun v h1 w => by
    unfold GvK at w
    revert w
    cases g v ρ h1 with
    | none => exact fun w => w.elim
    | some p => exact fun w => ⟨w⟩) fun _ _ _ z => z)
theorem ws_for {i : Iv} (w : Wp (i ρ h) (fun m h1 => ForK m g s ρ h1 N ⟨R, B, C, X⟩) (fun c fs h1 => X c fs ρ h1)) : Ws (sFor i g s ρ h) N ⟨R, B, C, X⟩ := ws_then w
theorem gk_n {i : Nat} {v : Vl} (w : SetK i ρ v h N) : GvK (gN i v ρ h) N := w
theorem gk_tup2 {i j : Nat} {d0 d1 : Da} (w : SetK i ρ (.d d0) h fun ρ1 h1 => SetK j ρ1 (.d d1) h1 N) : GvK (gTupT 2 (gsCons (gN i) (gsCons (gN j) gsNil)) (.d (.tuple [d0, d1])) ρ h) N := w
theorem gk_tup3 {i j k : Nat} {d0 d1 d2 : Da} (w : SetK i ρ (.d d0) h fun ρ1 h1 => SetK j ρ1 (.d d1) h1 fun ρ2 h2 => SetK k ρ2 (.d d2) h2 N) : GvK (gTupT 3 (gsCons (gN i) (gsCons (gN j) (gsCons (gN k) gsNil))) (.d (.tuple [d0, d1, d2])) ρ h) N := w
theorem forK_nil (w : N ρ h) : ForK ⟨[], none⟩ g s ρ h N ⟨R, B, C, X⟩ := by
  unfold ForK
  show Ws (forL none g s [] ρ h) N ⟨R, B, C, X⟩
  unfold forL
  rw [if_pos (show gdOk none h from trivial)]
  exact ⟨w⟩
theorem forK_gen {gd : Option (Nat × List Da)} {d : Da} {ds : List Da} (hg : gdOk gd h) (w : GvK (g (.d d) ρ h) fun ρ1 h1 => Ws (s ρ1 h1) (fun ρ2 h2 => ForK ⟨ds, gd⟩ g s ρ2 h2 N ⟨R, B, C, X⟩) ⟨R, N, fun ρ2 h2 => ForK ⟨ds, gd⟩ g s ρ2 h2 N ⟨R, B, C, X⟩, X⟩) : ForK ⟨d :: ds, gd⟩ g s ρ h N ⟨R, B, C, X⟩ := by
  unfold ForK
  show Ws (forL gd g s (d :: ds) ρ h) N ⟨R, B, C, X⟩
  unfold forL
  rw [if_pos hg]
  unfold GvK at w
  revert w
  cases g (.d d) ρ h with
  | none => exact fun w => w.elim
  | some p =>
    obtain ⟨ρ1, h1⟩ := p
    show Ws (s ρ1 h1) _ _ → Ws (match s ρ1 h1 with
      | .nx ρ' h' => forL gd g s ds ρ' h'
      | .ct ρ' h' => forL gd g s ds ρ' h'
      | .bk ρ' h' => .nx ρ' h'
      | r => r) N ⟨R, B, C, X⟩
    cases s ρ1 h1 with
    | nx ρ2 h2 => exact fun w => w.w
    | ct ρ2 h2 => exact fun w => w.w
    | no => exact fun w => w.w.elim
    | _ => exact fun w => ⟨w.w⟩
theorem forK_cons {d : Da} {ds : List Da} (w : GvK (g (.d d) ρ h) fun ρ1 h1 => Ws (s ρ1 h1) (fun ρ2 h2 => ForK ⟨ds, none⟩ g s ρ2 h2 N ⟨R, B, C, X⟩) ⟨R, N, fun ρ2 h2 => ForK ⟨ds, none⟩ g s ρ2 h2 N ⟨R, B, C, X⟩, X⟩) : ForK ⟨d :: ds, none⟩ g s ρ h N ⟨R, B, C, X⟩ := forK_gen trivial w
/-- a loop by what stands ahead of each turn -/
theorem forK_inv {ds : List Da} (I : Nat → En → Hh → Prop) (h0 : I 0 ρ h)
    (st : ∀ (k : Nat) (d : Da) (ρ1 : En) (h1 : Hh), ds[k]? = some d → I k ρ1 h1 → GvK (g (.d d) ρ1 h1) fun ρ2 h2 => Ws (s ρ2 h2) (I (k + 1)) ⟨R, N, I (k + 1), X⟩)
    (fin : ∀ ρ1 h1, I ds.length ρ1 h1 → N ρ1 h1) : ForK ⟨ds, none⟩ g s ρ h N ⟨R, B, C, X⟩ := by
  have go : ∀ (n k : Nat) (ρ : En) (h : Hh), n = ds.length - k → k ≤ ds.length → I k ρ h → ForK ⟨ds.drop k, none⟩ g s ρ h N ⟨R, B, C, X⟩ := by
    intro n
    induction n with
    | zero =>
      intro k ρ h hn hk i
      have : k = ds.length := by omega
      subst this
      rw [List.drop_length]
      exact forK_nil (fin _ _ i)
    | succ n ih =>
      intro k ρ h hn hk i
      have hk' : k < ds.length := by omega
      rw [List.drop_eq_getElem_cons hk']
      have w := st k ds[k] ρ h (List.getElem?_eq_getElem hk') i
      refine forK_cons ?_
      unfold GvK at *
      revert w
      cases g (.d ds[k]) ρ h with
      | none => exact fun w => w
      | some p =>
        obtain ⟨ρ1, h1⟩ := p
        show Ws (s ρ1 h1) _ _ → Ws (s ρ1 h1) _ _
        cases s ρ1 h1 with
        | nx ρ2 h2 => exact fun w => ⟨ih (k + 1) ρ2 h2 (by omega) (by omega) w.w⟩
        | ct ρ2 h2 => exact fun w => ⟨ih (k + 1) ρ2 h2 (by omega) (by omega) w.w⟩
        | bk ρ2 h2 => exact fun w => ⟨w.w⟩
        | rt v h2 => exact fun w => ⟨w.w⟩
        | ex c fs ρ2 h2 => exact fun w => ⟨w.w⟩
        | no => exact fun w => w.w.elim
  have := go _ 0 ρ h rfl (Nat.zero_le _) h0
  rwa [List.drop_zero] at this
/-- a while by what stands ahead of each turn, and a number that grows less -/
theorem ws_while (I : Nat → En → Hh → Prop) {n : Nat} (h0 : I n ρ h)
    (st : ∀ (k : Nat) (ρ1 : En) (h1 : Hh), I k ρ1 h1 → Wp (t ρ1 h1) (fun b h2 => BrK b (Ws (s ρ1 h2) (fun ρ2 h3 => ∃ j, j < k ∧ I j ρ2 h3) ⟨R, N, fun ρ2 h3 => ∃ j, j < k ∧ I j ρ2 h3, X⟩) (N ρ1 h2)) (fun c fs h1 => X c fs ρ1 h1)) : Ws (sWhile t s ρ h) N ⟨R, B, C, X⟩ := by
  induction n using Nat.strongRecOn generalizing ρ h with
  | ind n ih =>
    have w := st n ρ h h0
    rw [sWhile_eq]
    revert w
    cases t ρ h with
    | no => exact fun w => w.w.elim
    | ex c fs h1 => exact fun w => ⟨w.w⟩
    | ok b h1 =>
      cases b with
      | false => exact fun w => ⟨w.w⟩
      | true =>
        intro w
        have w := w.w
        revert w
        show Ws (s ρ h1) _ _ → Ws (match s ρ h1 with
          | .nx ρ' h' => sWhile t s ρ' h'
          | .ct ρ' h' => sWhile t s ρ' h'
          | .bk ρ' h' => .nx ρ' h'
          | r => r) N ⟨R, B, C, X⟩
        cases s ρ h1 with
        | nx ρ2 h2 => exact fun ⟨j, hj, i⟩ => ih j hj i
        | ct ρ2 h2 => exact fun ⟨j, hj, i⟩ => ih j hj i
        | bk ρ2 h2 => exact fun w => ⟨w.w⟩
        | rt v h2 => exact fun w => ⟨w.w⟩
        | ex c fs ρ2 h2 => exact fun w => ⟨w.w⟩
        | no => exact fun w => w.w.elim
end
/-! ### a def entered -/
section
variable {Q : Vl → Hh → Prop} {E : XP} {h : Hh} {body : Sv} {as : List Vl} {k n : Nat}
theorem wp_def (hl : as.length = k) {ρ : En} (er : enter n as = ρ) (w : Ws (body ρ h) (fun _ h1 => RetK h.length Q (.d .none) h1) ⟨RetK h.length Q, fun _ _ => False, fun _ _ => False, fun c fs _ h1 => E c fs (h1.take h.length)⟩) : Wp (mkF k n body as h) Q E := by
  unfold mkF
  rw [if_pos hl, er]
  revert w
  cases body ρ h with
  | nx ρ1 h1 => exact fun ⟨v, h2, e, q⟩ => wp_eq e q
  | rt v h1 => exact fun ⟨v, h2, e, q⟩ => wp_eq e q
  | bk ρ1 h1 => exact fun w => w.w.elim
  | ct ρ1 h1 => exact fun w => w.w.elim
  | ex c fs ρ1 h1 => exact fun w => ⟨w.w⟩
  | no => exact fun w => w.w.elim
theorem retK_d {x : Da} (e : h.length = n) (q : Q (.d x) h) : RetK n Q (.d x) h := ⟨.d x, h, by subst e; show Out.ok _ _ = _; rw [List.take_length], q⟩
theorem retK_d' {x : Da} {l : Hh} (e : h.length = n) (q : Q (.d x) h) : RetK n Q (.d x) (h ++ l) := ⟨.d x, h, by subst e; show Out.ok _ _ = _; rw [List.take_left' rfl], q⟩
theorem trunc_at {n i : Nat} {o : Ob} {h : Hh} (hi : n ≤ i) (e : h[i]? = some (some o)) (nr : ∀ ns, o ≠ .rl ns) : trunc n (.r i) h = .ok (.r n) (h.take n ++ [some o]) := by
  unfold trunc
  dsimp only
  rw [if_neg (by omega), e]
  cases o with
  | rl ns => exact absurd rfl (nr ns)
  | _ => rfl
theorem retK_r {i : Nat} {o : Ob} {r : Hh} {l : Hh} (hr : h.length = n) (hi : i = n) (q : Q (.r n) (h ++ [some o])) (nr : ∀ ns, o ≠ .rl ns := by intro _ z; cases z) : RetK n Q (.r i) (h ++ some o :: l) := by
  subst hr hi
  refine ⟨.r h.length, h ++ [some o], ?_, q⟩
  rw [trunc_at (Nat.le_refl _) (by simp) nr, List.take_left' rfl]
end

section
variable {Q : Vl → Hh → Prop} {E : XP} {h : Hh} {v : Vl} {N : En → Hh → Prop} {r : En}
variable {o0 o1 o2 o3 o4 o5 o6 o7 o8 o9 o10 o11 o12 o13 o14 o15 o16 o17 o18 o19 o20 o21 o22 o23 o24 o25 : Option Vl}
theorem wp_v0 (q : Q v h) : Wp (eVar 0 (some v :: r) h) Q E := ⟨q⟩
theorem setk0 (q : N (some v :: r) h) : SetK 0 (o0 :: r) v h N := q
theorem wp_v1 (q : Q v h) : Wp (eVar 1 (o0 :: some v :: r) h) Q E := ⟨q⟩
theorem setk1 (q : N (o0 :: some v :: r) h) : SetK 1 (o0 :: o1 :: r) v h N := q
theorem wp_v2 (q : Q v h) : Wp (eVar 2 (o0 :: o1 :: some v :: r) h) Q E := ⟨q⟩
theorem setk2 (q : N (o0 :: o1 :: some v :: r) h) : SetK 2 (o0 :: o1 :: o2 :: r) v h N := q
theorem wp_v3 (q : Q v h) : Wp (eVar 3 (o0 :: o1 :: o2 :: some v :: r) h) Q E := ⟨q⟩
theorem setk3 (q : N (o0 :: o1 :: o2 :: some v :: r) h) : SetK 3 (o0 :: o1 :: o2 :: o3 :: r) v h N := q
theorem wp_v4 (q : Q v h) : Wp (eVar 4 (o0 :: o1 :: o2 :: o3 :: some v :: r) h) Q E := ⟨q⟩
theorem setk4 (q : N (o0 :: o1 :: o2 :: o3 :: some v :: r) h) : SetK 4 (o0 :: o1 :: o2 :: o3 :: o4 :: r) v h N := q
theorem wp_v5 (q : Q v h) : Wp (eVar 5 (o0 :: o1 :: o2 :: o3 :: o4 :: some v :: r) h) Q E := ⟨q⟩
theorem setk5 (q : N (o0 :: o1 :: o2 :: o3 :: o4 :: some v :: r) h) : SetK 5 (o0 :: o1 :: o2 :: o3 :: o4 :: o5 :: r) v h N := q
theorem wp_v6 (q : Q v h) : Wp (eVar 6 (o0 :: o1 :: o2 :: o3 :: o4 :: o5 :: some v :: r) h) Q E := ⟨q⟩
theorem setk6 (q : N (o0 :: o1 :: o2 :: o3 :: o4 :: o5 :: some v :: r) h) : SetK 6 (o0 :: o1 :: o2 :: o3 :: o4 :: o5 :: o6 :: r) v h N := q
theorem wp_v7 (q : Q v h) : Wp (eVar 7 (o0 :: o1 :: o2 :: o3 :: o4 :: o5 :: o6 :: some v :: r) h) Q E := ⟨q⟩
theorem setk7 (q : N (o0 :: o1 :: o2 :: o3 :: o4 :: o5 :: o6 :: some v :: r) h) : SetK 7 (o0 :: o1 :: o2 :: o3 :: o4 :: o5 :: o6 :: o7 :: r) v h N := q
end
section
variable {Q : Vl → Hh → Prop} {h : Hh}
variable {d0 d1 d2 d3 d4 d5 d6 d7 d8 d9 d10 d11 d12 d13 d14 d15 d16 d17 d18 d19 d20 d21 d22 d23 d24 d25 : Da}
theorem tupk0 (q : Q (.d (.tuple [])) h) : TupK [] h Q := ⟨[], h, rfl, rfl, q⟩
theorem lstk0 (q : Q (.r h.length) (h ++ [some (.lst [])])) : LstK [] h Q := ⟨[], h, rfl, rfl, q⟩
theorem lstk1 (q : Q (.r h.length) (h ++ [some (.lst [d0])])) : LstK [.d d0] h Q := ⟨[d0], h, rfl, rfl, q⟩
theorem tupk2 (q : Q (.d (.tuple [d0, d1])) h) : TupK [.d d0, .d d1] h Q := ⟨[d0, d1], h, rfl, rfl, q⟩
theorem lstk2 (q : Q (.r h.length) (h ++ [some (.lst [d0, d1])])) : LstK [.d d0, .d d1] h Q := ⟨[d0, d1], h, rfl, rfl, q⟩
theorem lstk3 (q : Q (.r h.length) (h ++ [some (.lst [d0, d1, d2])])) : LstK [.d d0, .d d1, .d d2] h Q := ⟨[d0, d1, d2], h, rfl, rfl, q⟩
theorem lstk4 (q : Q (.r h.length) (h ++ [some (.lst [d0, d1, d2, d3])])) : LstK [.d d0, .d d1, .d d2, .d d3] h Q := ⟨[d0, d1, d2, d3], h, rfl, rfl, q⟩
theorem lstk5 (q : Q (.r h.length) (h ++ [some (.lst [d0, d1, d2, d3, d4])])) : LstK [.d d0, .d d1, .d d2, .d d3, .d d4] h Q := ⟨[d0, d1, d2, d3, d4], h, rfl, rfl, q⟩
theorem lstk8 (q : Q (.r h.length) (h ++ [some (.lst [d0, d1, d2, d3, d4, d5, d6, d7])])) : LstK [.d d0, .d d1, .d d2, .d d3, .d d4, .d d5, .d d6, .d d7] h Q := ⟨[d0, d1, d2, d3, d4, d5, d6, d7], h, rfl, rfl, q⟩
theorem lstk10 (q : Q (.r h.length) (h ++ [some (.lst [d0, d1, d2, d3, d4, d5, d6, d7, d8, d9])])) : LstK [.d d0, .d d1, .d d2, .d d3, .d d4, .d d5, .d d6, .d d7, .d d8, .d d9] h Q := ⟨[d0, d1, d2, d3, d4, d5, d6, d7, d8, d9], h, rfl, rfl, q⟩
end
end Rk

/-! Rk20: the operators' rules; sizes. -/
namespace Rk
open PySem PySem.Spec L2
section
variable {Q : Vl → Hh → Prop} {h : Hh} {a b : Int} {r s : Rat}
theorem wo_eq {o : Option (Vl × Hh)} {v : Vl} {h' : Hh} (e : o = some (v, h')) (q : Q v h') : Wo o Q := by rw [e]; exact q
theorem wo_add (q : Q (.d (.int (a + b))) h) : Wo (gAdd (.d (.int a)) (.d (.int b)) h) Q := q
theorem wo_sub (q : Q (.d (.int (a - b))) h) : Wo (gInt fSub (.d (.int a)) (.d (.int b)) h) Q := q
theorem wo_mul (m : IntMulOk a b) (q : Q (.d (.int (a * b))) h) : Wo (gInt fMul (.d (.int a)) (.d (.int b)) h) Q := wo_eq (by rw [gInt_eq, fMul_eq m]; rfl) q
theorem wo_div (b0 : 0 < b) (m : Builtin.divisionGoesByPylong a b = false) (q : Q (.d (.int (a / b))) h) : Wo (gInt fDiv (.d (.int a)) (.d (.int b)) h) Q :=
  wo_eq (by rw [gInt_eq, fDiv_eq (by omega) m, Int.fdiv_eq_ediv_of_nonneg _ (by omega)]; rfl) q
theorem wo_mod (b0 : 0 < b) (q : Q (.d (.int (a % b))) h) : Wo (gInt fMod (.d (.int a)) (.d (.int b)) h) Q :=
  wo_eq (by rw [gInt_eq, fMod_eq (by omega), Int.fmod_eq_emod_of_nonneg _ (by omega)]; rfl) q
theorem wo_pow {n : Nat} (h1 : n ≤ 1000000) (h2 : a.natAbs < 2 ^ 64) (q : Q (.d (.int (a ^ n))) h) : Wo (gInt fPow (.d (.int a)) (.d (.int (OfNat.ofNat n))) h) Q :=
  wo_eq (by
    rw [gInt_eq, show (OfNat.ofNat n : Int) = (n : Int) from rfl]
    unfold fPow
    rw [if_pos ⟨by omega, by omega, h2⟩]; rfl) q
theorem wo_lt (q : Q (.d (.bool (decide (a < b)))) h) : Wo (gInt fLt (.d (.int a)) (.d (.int b)) h) Q := q
theorem wo_le (q : Q (.d (.bool (decide (a ≤ b)))) h) : Wo (gInt fLe (.d (.int a)) (.d (.int b)) h) Q := q
theorem wo_gt (q : Q (.d (.bool (decide (b < a)))) h) : Wo (gInt fGt (.d (.int a)) (.d (.int b)) h) Q := q
theorem wo_ge (q : Q (.d (.bool (decide (b ≤ a)))) h) : Wo (gInt fGe (.d (.int a)) (.d (.int b)) h) Q := q
theorem wo_eqI (q : Q (.d (.bool (decide (a = b)))) h) : Wo (gEq (.d (.int a)) (.d (.int b)) h) Q := wo_eq gEq_int q
theorem wo_neI (q : Q (.d (.bool (!decide (a = b)))) h) : Wo (gNe (.d (.int a)) (.d (.int b)) h) Q := wo_eq gNe_int q
theorem wo_neQ (q : Q (.d (.bool (!decide (r = s)))) h) : Wo (gNe (.d (Rk.Q r)) (.d (Rk.Q s)) h) Q := wo_eq gNe_Q q
theorem wo_eqS {x y : Str} (q : Q (.d (.bool (decide (x = y)))) h) : Wo (gEq (.d (.str x)) (.d (.str y)) h) Q := q
theorem wo_neS {x y : Str} (q : Q (.d (.bool (!decide (x = y)))) h) : Wo (gNe (.d (.str x)) (.d (.str y)) h) Q := q
/-- a written list, or tuple, at a drawn place -/
theorem wo_menu {ds : List Da} (P : Da → Prop) (h0 : 0 ≤ a) (h1 : a < ds.length) (hp : ∀ d ∈ ds, P d) (q : ∀ d, P d → Q (.d d) h) : Wo (gIx (.d (.list ds)) (.d (.int a)) h) Q := by
  have e : ds[a.toNat]? = some (ds[a.toNat]'(by omega)) := List.getElem?_eq_getElem _
  have := gIxF (h := h) e
  rw [show ((a.toNat : Nat) : Int) = a by omega] at this
  exact wo_eq this (q _ (hp _ (List.getElem_mem _)))
def IntIn (lo hi : Int) (d : Da) : Prop := ∃ i, d = .int i ∧ lo ≤ i ∧ i ≤ hi
theorem wo_menuI (lo hi : Int) {ds : List Da} (h0 : 0 ≤ a) (h1 : a < ds.length) (hp : ∀ d ∈ ds, IntIn lo hi d) (q : ∀ i, lo ≤ i → i ≤ hi → Q (.d (.int i)) h) : Wo (gIx (.d (.list ds)) (.d (.int a)) h) Q :=
  wo_menu (IntIn lo hi) h0 h1 hp fun d ⟨i, e, l1, l2⟩ => by subst e; exact q i l1 l2
theorem wo_abs (q : Q (.d (.int (a.natAbs : Int))) h) : Wo (gAbs [.d (.int a)] h) Q := wo_eq (by rw [gAbs_eq, abs_eq]) q
theorem wo_lenL {ds : List Da} (q : Q (.d (.int ds.length)) h) : Wo (gLen [.d (.list ds)] h) Q := q
theorem wo_addL {xs ys : List Da} (hl : xs.length + ys.length ≤ 16777216) (q : Q (.r h.length) (h ++ [some (.lst (xs ++ ys))])) : Wo (gAdd (.d (.list xs)) (.d (.list ys)) h) Q :=
  wo_eq (v := .r h.length) (h' := h ++ [some (.lst (xs ++ ys))]) (by
    unfold gAdd asL
    dsimp only
    rw [if_pos (fitB_ok hl)]) q
theorem wo_addL' {xs ys zs : List Da} (e : xs ++ ys = zs) (hl : xs.length + ys.length ≤ 16777216) (q : Q (.r h.length) (h ++ [some (.lst zs)])) : Wo (gAdd (.d (.list xs)) (.d (.list ys)) h) Q := wo_addL hl (by rw [e]; exact q)
theorem wo_slL {xs : List Da} {lo hi : Option Int} (q : Q (.r h.length) (h ++ [some (.lst (cutD xs lo hi))])) : Wo (gSl (.d (.list xs)) lo hi h) Q := q
end
section
variable {Q : Vl → Hh → Prop} {h : Hh} {a0 a1 a2 a3 a4 a5 : Da} {l : List Da}
theorem wo_ix0 (q : Q (.d a0) h) : Wo (gIx (.d (.tuple (a0 :: l))) (.d (.int 0)) h) Q := wo_eq ix0 q
theorem wo_ix1 (q : Q (.d a1) h) : Wo (gIx (.d (.tuple (a0 :: a1 :: l))) (.d (.int 1)) h) Q := wo_eq ix1 q
theorem wo_il0 (q : Q (.d a0) h) : Wo (gIx (.d (.list (a0 :: l))) (.d (.int 0)) h) Q := wo_eq (gIxF (k := 0) rfl) q
theorem wo_il1 (q : Q (.d a1) h) : Wo (gIx (.d (.list (a0 :: a1 :: l))) (.d (.int 1)) h) Q := wo_eq (gIxF (k := 1) rfl) q
end
/-! ### sizes, by form -/
section
variable {n m : Nat} {x y : Int} {r s : Rat}
theorem Bd.lit (x : Int) : Bd (x.natAbs.log2 + 1) x := by
  unfold Bd
  exact Nat.lt_log2_self
theorem BQ.pos (h : BQ n r) : 0 < n := Nat.pos_of_ne_zero fun z => by
  subst z
  have h2 : ((r.den : Int)).natAbs < 1 := h.2
  have := r.den_nz
  omega
theorem BQ.nu (h : BQ n r) : Bd n r.num := h.1
theorem BQ.dn (h : BQ n r) : Bd n (r.den : Int) := h.2
theorem Bd.abs (h : Bd n x) : Bd n (x.natAbs : Int) := h.le (by omega)
theorem Bd.ediv (h : Bd n x) : Bd n (x / y) := h.le (Int.natAbs_ediv_le_natAbs _ _)
theorem Bd.emod (hy : Bd m y) (h0 : 0 < y) : Bd m (x % y) := hy.le (by
  have h1 := Int.emod_nonneg x (show y ≠ 0 by omega)
  have h2 := Int.emod_lt_of_pos x h0
  omega)
theorem BQ.mul' (hr : BQ n r) (hs : BQ m s) : BQ (n + m) (r * s) := hr.mul hs (by have := hr.pos; omega)
theorem BQ.div' (hr : BQ n r) (hs : BQ m s) : BQ (n + m) (r / s) := hr.div hs (by have := hr.pos; omega)
theorem BQ.i (h : Bd n x) : BQ (n + 1) (x : Rat) := BQ_int (h.mono (Nat.le_succ _)) (Nat.succ_pos _)
theorem BQ.zero : BQ 1 0 := by unfold BQ Bd; decide
theorem BQ.one : BQ 1 1 := by unfold BQ Bd; decide
theorem BQ.dv (hx : Bd n x) (hy : Bd m y) : BQ (max n m + 1) (Rat.divInt x y) := ⟨bd_num (hx.mono (by omega)), bd_den (hy.mono (by omega)) (by omega)⟩
theorem Bd.rg {lo hi : Int} (h1 : lo ≤ x) (h2 : x ≤ hi) : Bd (max (lo.natAbs.log2 + 1) (hi.natAbs.log2 + 1)) x := by
  have a := (Bd.lit lo).mono (Nat.le_max_left _ (hi.natAbs.log2 + 1))
  have b := (Bd.lit hi).mono (Nat.le_max_right (lo.natAbs.log2 + 1) _)
  unfold Bd at *
  omega
end
end Rk

/-! Rk21: heads of goals; what is walked; comprehensions; places of dicts. -/
namespace Rk
open PySem PySem.Spec L2
section
variable {α : Type} {o : Out α} {Q : α → Hh → Prop} {E : XP} {N : En → Hh → Prop} {D : Ds} {s : So} {oo : Option (α × Hh)} {ρ : En} {h : Hh} {i n : Nat} {v : Vl} {vs : List Vl} {QV : Vl → Hh → Prop} {b : Bool} {A B : Prop}
theorem hd_Wp (w : Wp o Q E) : Wp o Q E := w
theorem hd_Ws (w : Ws s N D) : Ws s N D := w
theorem hd_Wo (w : Wo oo Q) : Wo oo Q := w
theorem hd_SetK (w : SetK i ρ v h N) : SetK i ρ v h N := w
theorem hd_TupK (w : TupK vs h QV) : TupK vs h QV := w
theorem hd_LstK (w : LstK vs h QV) : LstK vs h QV := w
theorem hd_BrK (w : BrK b A B) : BrK b A B := w
end
section
variable {h : Hh} {QV : Vl → Hh → Prop}
theorem ex_int {i : Int} {P : Int → Prop} (q : P i) : ∃ j : Int, (Vl.d (.int i) : Vl) = .d (.int j) ∧ P j := ⟨i, rfl, q⟩
theorem ex_par {v w : Vl} {P : Vl → Vl → Prop} (q : P v w) : ∃ v' w', [v, w] = [v', w'] ∧ P v' w' := ⟨v, w, rfl, q⟩
end
/-! ### what is walked -/
section
variable {QI : Itm → Hh → Prop} {E : XP} {ρ : En} {h : Hh} {f : Ev} {as : Av} {QV : Vl → Hh → Prop}
theorem wp_rng1 (w : Wp (as ρ h) (fun vs h1 => ∃ j : Int, vs = [.d (.int j)] ∧ rgB j = true ∧ QI ⟨rngD 0 j.toNat, none⟩ h1) E) : Wp (iRange1 as ρ h) QI E :=
  wp_bind (w.mono (fun _ _ ⟨j, e, r, q⟩ => by rw [e]; show Wp (if rgB j = true then _ else _) _ _; rw [if_pos r]; exact ⟨q⟩) fun _ _ _ z => z)
theorem ex_rng {j : Int} {P : Int → Prop} (r : rgB j = true) (q : P j) : ∃ k : Int, [Vl.d (.int j)] = [.d (.int k)] ∧ rgB k = true ∧ P k := ⟨j, rfl, r, q⟩
end
theorem rgB_of {j : Int} (h1 : -1000000000000 ≤ j) (h2 : j ≤ 1000000000000) : rgB j = true := by
  unfold rgB
  rw [decide_eq_true h1, decide_eq_true h2]
  rfl
/-! ### comprehensions whose list is never changed -/
section
variable {Q : Vl → Hh → Prop} {E : XP} {ρ : En} {h : Hh} {i : Iv} {g : Gv} {tt : Tv} {fe : Ev} {ws : List Nat}
/-- every part told by a function, some left out by a test -/
theorem wp_lc {ρ0 : En} (e00 : wipeE ρ ws = ρ0) (w : Wp (i ρ h) (fun m h1 => ∃ (F : Da → Da) (P : Da → Bool), m.gd = none ∧ m.ds.length ≤ 16777216 ∧ h1.length = h.length ∧
      (∀ d ∈ m.ds, ∀ h', GvK (g (.d d) ρ0 h') fun ρ1 h2 => h2 = h' ∧ Wp (tt ρ1 h') (fun b h3 => h3 = h' ∧ b = P d) NX ∧ (P d = true → Wp (fe ρ1 h') (fun v h3 => h3 = h' ∧ v = .d (F d)) NX)) ∧
      Q (.d (.list ((m.ds.filter P).map F))) h1) (fun c fs h1 => E c fs (h1.take h.length))) : Wp (eFz (eLc ws i g tt fe) ρ h) Q E := by
  subst e00
  refine wp_fz (wp_bind (w.mono ?_ fun _ _ _ z => z))
  rintro ⟨ds, gd⟩ h1 ⟨F, P, e0, hl, hh, H, q⟩
  dsimp only at e0 hl H q
  subst e0
  have lf := lc_filter (gd := none) (g := g) (tt := tt) (fe := fe) (ρ0 := wipeE ρ ws) (h := h1) (F := F) (P := P) (fun _ => trivial) ds [] (fun d hd h' => by
    have k := H d hd h'
    unfold GvK Wo at k
    revert k
    cases e : g (.d d) (wipeE ρ ws) h' with
    | none => exact fun z => z.elim
    | some p =>
      obtain ⟨ρ1, h2⟩ := p
      rintro ⟨rfl, wt, wf⟩
      obtain ⟨b, h3, e1, rfl, rfl⟩ := wp_out wt
      refine ⟨ρ1, rfl, e1, fun hp => ?_⟩
      obtain ⟨v, h3, e2, rfl, rfl⟩ := wp_out (wf hp)
      exact e2) (by simpa using hl)
  rw [List.nil_append] at lf
  exact wp_eq lf (fzk_end hh q)
end
end Rk

/-! Rk22: lesser, greater; truths; texts of data. -/
namespace Rk
open PySem PySem.Spec L2
def mn (r s : Rat) : Rat := if s < r then s else r
def mx (r s : Rat) : Rat := if r < s then s else r
theorem BQ.mn {n m : Nat} {r s : Rat} (hr : BQ n r) (hs : BQ m s) : BQ (max n m) (mn r s) := by
  unfold Rk.mn
  split
  · exact hs.mono (Nat.le_max_right ..)
  · exact hr.mono (Nat.le_max_left ..)
theorem BQ.mx {n m : Nat} {r s : Rat} (hr : BQ n r) (hs : BQ m s) : BQ (max n m) (mx r s) := by
  unfold Rk.mx
  split
  · exact hs.mono (Nat.le_max_right ..)
  · exact hr.mono (Nat.le_max_left ..)
section
variable {Q : Vl → Hh → Prop} {h : Hh} {x y : Da} {b c : Bool}
end
theorem qq {r s : Rat} (e : r = s) : Q r = Q s := by rw [e]
/-! ### data that can be told as a text -/
structure Shw (k e : Nat) (d : Da) : Prop where
  s : d.showable = true
  n : d.hasDict = false
  p : d.depth ≤ e
  l : d.shown.length ≤ k
structure ShwL (k e : Nat) (ds : List Da) : Prop where
  s : PyData.showableAll ds = true
  n : PyData.hasDictAll ds = false
  d : PyData.depthAll ds ≤ e
  l : piled (PyData.shownAll ds) ≤ k
theorem Shw.none : Shw 4 0 .none := ⟨by simp [PyData.showable], by simp [PyData.hasDict], by simp [PyData.depth], by simp only [PyData.shown]; decide⟩
theorem Shw.bool (b : Bool) : Shw 5 0 (.bool b) := ⟨by simp [PyData.showable], by simp [PyData.hasDict], by simp [PyData.depth], by cases b <;> simp only [PyData.shown] <;> decide⟩
theorem Shw.int {i : Int} {n : Nat} (h : Bd n i) (hn : n ≤ 1920) : Shw 1921 0 (.int i) := by
  have l : i.natAbs.log2 < 1920 := by
    rcases Nat.eq_zero_or_pos i.natAbs with z | z
    · rw [z]; decide
    · exact (Nat.log2_lt (Nat.ne_of_gt z)).mpr (Nat.lt_of_lt_of_le h (Nat.pow_le_pow_right (by decide) hn))
  exact ⟨by simp only [PyData.showable]; exact decide_eq_true l, by simp [PyData.hasDict], by simp [PyData.depth], by simp only [PyData.shown]; rw [ofString_length]; exact int_text_length_le (k := 1920) (by decide) l⟩
theorem ShwL.nil : ShwL 0 0 [] := ⟨by simp [PyData.showableAll], by simp [PyData.hasDictAll], by simp [PyData.depthAll], by simp [PyData.shownAll, piled]⟩
theorem ShwL.cons {k e k' e' : Nat} {d : Da} {ds : List Da} (h : Shw k e d) (t : ShwL k' e' ds) : ShwL (k + 2 + k') (max e e') (d :: ds) := by
  refine ⟨?_, ?_, ?_, ?_⟩
  · simp only [PyData.showableAll, h.s, t.s, Bool.and_self]
  · simp only [PyData.hasDictAll, h.n, t.n, Bool.or_self]
  · simp only [PyData.depthAll]
    have := h.p
    have := t.d
    omega
  · simp only [PyData.shownAll, piled_cons]
    have := h.l
    have := t.l
    omega
theorem Shw.tup {k e : Nat} {ds : List Da} (t : ShwL k e ds) : Shw (k + 3) (e + 1) (.tuple ds) := by
  refine ⟨by simp only [PyData.showable]; exact t.s, by simp only [PyData.hasDict]; exact t.n, by simp only [PyData.depth]; have := t.d; omega, ?_⟩
  simp only [PyData.shown]
  have hl := t.l
  unfold tupleText
  have j : (Str.join ", " (PyData.shownAll ds)).length ≤ piled (PyData.shownAll ds) := by
    by_cases z : PyData.shownAll ds = []
    · rw [z]; decide
    · have := join_length_add _ z
      omega
  rw [Str.length_append, Str.length_append]
  have a : (Str.ofString "(").length = 1 := by decide
  have b : (Str.ofString (if (PyData.shownAll ds).length == 1 then ",)" else ")")).length ≤ 2 := by split <;> decide
  have a' : ("(" : Str).length = 1 := a
  omega
theorem Shw.lst {k e : Nat} {ds : List Da} (t : ShwL k e ds) : Shw (k + 3) (e + 1) (.list ds) := by
  refine ⟨by simp only [PyData.showable]; exact t.s, by simp only [PyData.hasDict]; exact t.n, by simp only [PyData.depth]; have := t.d; omega, ?_⟩
  simp only [PyData.shown]
  have hl := t.l
  unfold listText
  have j : (textFrom 0 "[" (PyData.shownAll ds)).length ≤ 1 + piled (PyData.shownAll ds) := by
    cases e : PyData.shownAll ds with
    | nil => decide
    | cons x xs =>
      have h1 := textFrom_length_pos xs 1 (("[" : Str) ++ ("" : Str) ++ x) (by decide)
      have h2 : textFrom 0 "[" (x :: xs) = textFrom 1 (("[" : Str) ++ ("" : Str) ++ x) xs := rfl
      rw [h2, h1, piled_cons, Str.length_append, Str.length_append]
      have a1 : ("[" : Str).length = 1 := by decide
      have a2 : ("" : Str).length = 0 := by decide
      omega
  rw [Str.length_append]
  have b : ("]" : Str).length = 1 := by decide
  omega
theorem Shw.Q {r : Rat} {n : Nat} (h : BQ n r) (hn : n ≤ 1920) : Shw 4000 1 (Q r) :=
  let t := Shw.tup (ShwL.cons (Shw.int h.1 hn) (ShwL.cons (Shw.int h.2 hn) ShwL.nil))
  ⟨t.s, t.n, t.p, Nat.le_trans t.l (by decide)⟩
theorem Shw.mono {k e k' e' : Nat} {d : Da} (h : Shw k e d) (a : k ≤ k') (b : e ≤ e') : Shw k' e' d := ⟨h.s, h.n, Nat.le_trans h.p b, Nat.le_trans h.l a⟩
theorem wo_repr {Q : Vl → Hh → Prop} {h : Hh} {d : Da} {k e : Nat} (s : Shw k e d) (h1 : k ≤ 16777216) (h2 : e ≤ 60) (q : Q (.d (.str d.shown)) h) : Wo (gRepr [.d d] h) Q :=
  wo_eq (v := .d (.str d.shown)) (h' := h) (by
    unfold gRepr asD
    dsimp only
    rw [if_pos]
    rw [s.s, s.n, decide_eq_true (Nat.le_trans s.p h2), fitB_ok (Nat.le_trans s.l h1)]
    rfl) q
section
variable {Q : Vl → Hh → Prop} {h : Hh} {r : Rat}
end
theorem BQ.lit (k : Nat) : BQ (k.log2 + 2) (OfNat.ofNat k : Rat) := by
  have : (OfNat.ofNat k : Rat) = ((k : Int) : Rat) := rfl
  rw [this]
  exact BQ_int (Bd.mono (bd_nat Nat.lt_log2_self) (Nat.le_succ _)) (Nat.succ_pos _)
section
variable {Q : Vl → Hh → Prop} {h : Hh} {d0 d1 d2 d3 d4 d5 d6 d7 d8 d9 d10 d11 d12 d13 d14 d15 : Da}
theorem wo_lenL1 (q : Q (.d (.int 1)) h) : Wo (gLen [.d (.list [d0])] h) Q := q
theorem wo_lenT2 (q : Q (.d (.int 2)) h) : Wo (gLen [.d (.tuple [d0, d1])] h) Q := q
theorem wo_lenL2 (q : Q (.d (.int 2)) h) : Wo (gLen [.d (.list [d0, d1])] h) Q := q
end
end Rk

/-! Rk23: a list that is no more changed from here on. -/
namespace Rk
open PySem PySem.Spec L2
def sFrz (i : Nat) : Sv := fun ρ h => match ρ[i]? with
  | some (some v) => match fz v h with
    | some p => .nx (ρ.set i (some (.d p.1))) p.2
    | none => .no
  | _ => .no
section
variable {X : Cx} {W : WX} {ss : List Stmt} {f : Sv}
theorem ess_frz (i : Nat) (p : ESs X W ss f) : ESs X W ss (sSeq (sFrz i) f) :=
  PSs.of p fun D σ H ⟨φ, h, ρ, sm, er, q⟩ => by
    unfold sSeq sFrz at q
    split at q
    · rename_i v ev
      split at q
      · rename_i p e
        obtain ⟨d, h2⟩ := p
        obtain ⟨x, e1, rv⟩ := er.at_ i v ev
        obtain ⟨s1, s2, s3⟩ := fz_ok sm rv e
        have hi : i < ρ.length := (List.getElem?_eq_some_iff.mp ev).1
        refine ⟨φ, h2, ρ.set i (some (.d d)), s2, ?_, PoS.pull s1 q⟩
        have er2 := er.step s1
        refine ⟨by rw [er2.len, List.length_set], fun j w e2 => ?_⟩
        by_cases hj : i = j
        · subst hj
          rw [List.getElem?_set_self hi] at e2
          have e3 := Option.some.inj (Option.some.inj e2)
          subst e3
          exact ⟨x, e1, s3⟩
        · rw [List.getElem?_set_ne hj] at e2
          exact er2.at_ j w e2
      · exact q.elim
    · exact q.elim
end
section
variable {N : En → Hh → Prop} {D : Ds} {ρ : En} {h l : Hh} {i k : Nat} {ds : List Da}
theorem ws_frz {v : Vl} {d : Da} {h2 : Hh} (ev : ρ[i]? = some (some v)) (e : fz v h = some (d, h2)) (q : SetK i ρ (.d d) h2 N) : Ws (sFrz i ρ h) N D := by
  unfold sFrz
  rw [ev]
  dsimp only
  rw [e]
  exact ⟨q⟩
/-- the list at the end -/
theorem ws_frzE (hk : h.length = k) (ev : ρ[i]? = some (some (.r k))) (q : SetK i ρ (.d (.list ds)) (h ++ none :: l) N) : Ws (sFrz i ρ (h ++ some (.lst ds) :: l)) N D := by
  subst hk
  exact ws_frz (d := .list ds) ev (by unfold fz; dsimp only; rw [get_at, set_at]) q
end
/-! ### comprehensions over typed parts -/
section
variable {gd : Option (Nat × List Da)} {g : Gv} {tt : Tv} {fe : Ev} {ρ0 : En} {h : Hh} {α : Type} {f g' : α → Da} {P : α → Bool}
theorem lc_mapR (hgd : ∀ o, gdOk gd (h ++ [o])) : ∀ (xs : List α) (acc : List Da), (∀ x ∈ xs, ∀ h', ∃ ρ1, g (.d (f x)) ρ0 h' = some (ρ1, h') ∧ tt ρ1 h' = .ok (P x) h' ∧ (P x = true → fe ρ1 h' = .ok (.d (g' x)) h')) → acc.length + xs.length ≤ 16777216 →
    lcL gd h.length g tt fe ρ0 (xs.map f) (h ++ [some (.lst acc)]) = .ok (.r h.length) (h ++ [some (.lst (acc ++ (xs.filter P).map g'))])
  | [], acc, _, _ => by
    rw [List.map_nil, lcL_nil (hgd _)]
    simp
  | d :: ds, acc, H, hl => by
    obtain ⟨ρ1, e1, e2, e3⟩ := H d (List.mem_cons_self ..) (h ++ [some (.lst acc)])
    rw [List.length_cons] at hl
    rw [List.map_cons]
    by_cases p : P d = true
    · rw [p] at e2
      rw [lcL_cons (hgd _) e1 e2 (e3 p) (appL_end rfl (by omega)), lc_mapR hgd ds (acc ++ [g' d]) (fun d hd => H d (List.mem_cons_of_mem _ hd)) (by rw [List.length_append, List.length_singleton]; omega), List.filter_cons_of_pos p]
      simp
    · have p' : P d = false := by simpa using p
      rw [p'] at e2
      rw [lcL_skip (hgd _) e1 e2, lc_mapR hgd ds acc (fun d hd => H d (List.mem_cons_of_mem _ hd)) (by omega), List.filter_cons_of_neg p]
end
section
variable {Q : Vl → Hh → Prop} {E : XP} {ρ : En} {h : Hh} {i : Iv} {g : Gv} {tt : Tv} {fe : Ev} {ws : List Nat}
/-- every part told by a function, some left out by a test -/
theorem wp_lcT {α : Type} (xs : List α) (f g' : α → Da) (P : α → Bool) {ρ0 : En} (e00 : wipeE ρ ws = ρ0) (w : Wp (i ρ h) (fun m h1 => m = ⟨xs.map f, none⟩ ∧ xs.length ≤ 16777216 ∧ h1.length = h.length ∧
      (∀ x ∈ xs, ∀ h', GvK (g (.d (f x)) ρ0 h') fun ρ1 h2 => h2 = h' ∧ Wp (tt ρ1 h') (fun b h3 => h3 = h' ∧ b = P x) NX ∧ (P x = true → Wp (fe ρ1 h') (fun v h3 => h3 = h' ∧ v = .d (g' x)) NX)) ∧
      Q (.d (.list ((xs.filter P).map g'))) h1) (fun c fs h1 => E c fs (h1.take h.length))) : Wp (eFz (eLc ws i g tt fe) ρ h) Q E := by
  subst e00
  refine wp_fz (wp_bind (w.mono ?_ fun _ _ _ z => z))
  rintro m h1 ⟨rfl, hl, hh, H, q⟩
  have lf := lc_mapR (gd := none) (g := g) (tt := tt) (fe := fe) (ρ0 := wipeE ρ ws) (h := h1) (f := f) (g' := g') (P := P) (fun _ => trivial) xs [] (fun d hd h' => by
    have k := H d hd h'
    unfold GvK Wo at k
    revert k
    cases e : g (.d (f d)) (wipeE ρ ws) h' with
    | none => exact fun z => z.elim
    | some p =>
      obtain ⟨ρ1, h2⟩ := p
      rintro ⟨rfl, wt, wf⟩
      obtain ⟨b, h3, e1, rfl, rfl⟩ := wp_out wt
      refine ⟨ρ1, rfl, e1, fun hp => ?_⟩
      obtain ⟨v, h3, e2, rfl, rfl⟩ := wp_out (wf hp)
      exact e2) (by simpa using hl)
  rw [List.nil_append] at lf
  exact wp_eq lf (fzk_end hh q)
/-- every part told by a function -/
theorem wp_lcR {α : Type} (xs : List α) (f g' : α → Da) {ρ0 : En} (e00 : wipeE ρ ws = ρ0) (w : Wp (i ρ h) (fun m h1 => m = ⟨xs.map f, none⟩ ∧ xs.length ≤ 16777216 ∧ h1.length = h.length ∧
      (∀ x ∈ xs, ∀ h', GvK (g (.d (f x)) ρ0 h') fun ρ1 h2 => h2 = h' ∧ Wp (fe ρ1 h') (fun v h3 => h3 = h' ∧ v = .d (g' x)) NX) ∧
      Q (.d (.list (xs.map g'))) h1) (fun c fs h1 => E c fs (h1.take h.length))) : Wp (eFz (eLc ws i g tvYes fe) ρ h) Q E :=
  wp_lcT xs f g' (fun _ => true) e00 (w.mono (fun m h1 ⟨e0, hl, hh, H, q⟩ => ⟨e0, hl, hh, fun d hd h' => by
    have k := H d hd h'
    unfold GvK Wo at *
    revert k
    cases g (.d (f d)) ρ0 h' with
    | none => exact fun z => z
    | some p => exact fun ⟨a, b⟩ => ⟨a, ⟨⟨rfl, rfl⟩⟩, fun _ => b⟩, by
      have e : xs.filter (fun _ => true) = xs := List.filter_eq_self.mpr fun _ _ => rfl
      rw [e]; exact q⟩) fun _ _ _ z => z)
end
/-! ### small ranges; menus -/
section
variable {ρ : En} {h : Hh} {N : En → Hh → Prop} {D : Ds} {g : Gv} {s : Sv}
theorem forK_r4 (w : ForK ⟨[.int 0, .int 1, .int 2, .int 3], none⟩ g s ρ h N D) : ForK ⟨rngD 0 (Int.toNat 4), none⟩ g s ρ h N D := w
theorem ai_nil {lo hi : Int} : ∀ d ∈ ([] : List Da), IntIn lo hi d := fun _ h => nomatch h
theorem ai_cons {lo hi i : Int} {ds : List Da} (h1 : lo ≤ i) (h2 : i ≤ hi) (t : ∀ d ∈ ds, IntIn lo hi d) : ∀ d ∈ (.int i : Da) :: ds, IntIn lo hi d := fun d hd => by
  rcases List.mem_cons.mp hd with rfl | z
  · exact ⟨i, rfl, h1, h2⟩
  · exact t d z
end
/-! ### a list at the end of the heap -/
section
variable {h l : Hh} {Q : Vl → Hh → Prop} {k : Nat} {ds : List Da} {v a0 a1 a2 : Da} {r : List Da}
end
/-! ### pairs of fractions, equal or not -/
section
variable {Q : Vl → Hh → Prop} {h : Hh} {a b c d : Rat}
end
theorem eq_of_wp {o : Out Vl} {v : Vl} {h : Hh} (w : Wp o (fun a h1 => a = v ∧ h1 = h) NX) : o = .ok v h := by
  obtain ⟨a, h1, e, rfl, rfl⟩ := wp_out w
  exact e
end Rk

/-! Rk24: t[::-1]. -/
namespace Rk
open PySem PySem.Spec L2 PyProof.Rows
section
variable {prog : Program} {w : World} {A : Around} {E : Value → Shared → Prop} {s : Shared}
end
def tRev (K : PySem.W.Frag) (te : TE) (tl th ts : TO) : TE := fun σ H Q => te σ H fun x H1 => tl σ H1 fun lo H2 => th σ H2 fun hi H3 => ts σ H3 fun st H4 => ∃ a xs, x = .ref a ∧ SqT K H4 a xs ∧ lo = none ∧ hi = none ∧ st = some (-1) ∧ ∀ p, H4 p = none → Q (.ref p) (upd H4 p (.tup xs.reverse))
section
variable {X : Cx}
end
def gRv (x : Vl) (h : Hh) : Option (Vl × Hh) := match x with
  | .d (.tuple xs) => some (.d (.tuple xs.reverse), h)
  | x => gSt x none none (some (-1)) h
def eRv (f : Ev) : Ev := fun ρ h => (f ρ h).bind fun x h1 => ofO (gRv x h1)
section
variable {X : Cx} {W : WX} {a st : Expr} {fa : Ev} {pos p2 : Pos} {fs : Ov}
end
section
variable {Q : Vl → Hh → Prop} {E : XP} {ρ : En} {h : Hh} {a : Ev} {xs : List Da}
end
/-! ### append to a list at the end -/
section
variable {Q : Vl → Hh → Prop} {E : XP} {ρ : En} {h l : Hh} {o : Ev} {as : Av} {g : GM} {k : Nat} {ds es : List Da} {v : Da} {A : Prop}
theorem wp_mtL (w : Wp (o ρ h) (fun x h1 => tyL x h1 = true ∧ Wp (as ρ h1) (fun vs h2 => Wo (g x vs h2) Q) E) E) : Wp (eMt tyL g o as ρ h) Q E :=
  wp_bind (w.mono (fun _ _ ⟨e, w⟩ => by
    rw [if_pos e]
    exact wp_bind (w.mono (fun _ _ w => wo_of w) fun _ _ _ z => z)) fun _ _ _ z => z)
theorem tyL_E (hk : h.length = k) (a : A) : tyL (.r k) (h ++ some (.lst ds) :: l) = true ∧ A := by
  subst hk
  exact ⟨tyL_at get_at, a⟩
theorem wo_appE (hk : h.length = k) (e : ds ++ [v] = es) (hl : ds.length < 16777216) (q : Q (.d .none) (h ++ some (.lst es) :: l)) : Wo (gApp (.r k) [.d v] (h ++ some (.lst ds) :: l)) Q := by
  subst hk
  refine wo_eq (gApp_at get_at hl) ?_
  rw [set_at, e]
  exact q
end
def mn4 (p q r s : Rat) : Rat := mn (mn (mn p q) r) s
def mx4 (p q r s : Rat) : Rat := mx (mx (mx p q) r) s
section
variable {Q : Vl → Hh → Prop} {h : Hh} {ds : List Da} {r : Rat} {i : Int} {b : Bool} {x : Str}
theorem wo_isNn (q : Q (.d (.bool true)) h) : Wo (gIsN (.d .none) (.d .none) h) Q := q
theorem wo_isNi (q : Q (.d (.bool false)) h) : Wo (gIsN (.d (.int i)) (.d .none) h) Q := q
theorem wo_ntNn (q : Q (.d (.bool false)) h) : Wo (gNotN (.d .none) (.d .none) h) Q := q
end
end Rk

/-! Rk25: comprehensions part by part; strings; rulers. -/
namespace Rk
open PySem PySem.Spec L2
def LcK (D : Nat) (g : Gv) (fe : Ev) (ρ0 : En) (ds acc : List Da) (hb : Hh) (Q : Vl → Hh → Prop) : Prop :=
  Wp (lcL none D g tvYes fe ρ0 ds (hb ++ [some (.lst acc)])) (fun v h1 => FzK v h1 D Q) NX
section
variable {Q : Vl → Hh → Prop} {E : XP} {ρ ρ0 : En} {h hb : Hh} {i : Iv} {g : Gv} {fe : Ev} {ws : List Nat} {D : Nat} {d : Da} {ds acc acc' : List Da}
end
theorem Q_k1 (k : Int) : (.tuple [.int k, .int 1] : Da) = Q (k : Rat) := (Q_int k).symm
section
variable {Q : Vl → Hh → Prop} {h : Hh} {R : Ruler}
end
end Rk

/-! Rk26: how far rounding goes. -/
namespace Rk
open PySem PySem.Spec L2
section
variable {R : Ruler} {x y : Rat} {n m : Nat}
theorem abs_in {a b x : Rat} (h1 : a ≤ x) (h2 : x ≤ b) : x.abs ≤ mx a.abs b.abs := by
  unfold Rat.abs mx
  grind
end
end Rk

/-! Rk27: a list at the end, beside a state that is drawn from: the heap in the form (h ++ list :: l).set n o. -/
namespace Rk
open PySem PySem.Spec L2
section
variable {h l : Hh} {Q : Vl → Hh → Prop} {E : XP} {k n m : Nat} {ds es : List Da} {v a0 a1 : Da} {r : List Da} {o : Option Ob} {A : Prop} {N : En → Hh → Prop} {D : Ds} {ρ : En} {i : Nat}
theorem wp_norm {f : Fn} {as : List Vl} (hn : n < h.length) (w : n < (h ++ l).length → Wp (f as ((h ++ l).set n o)) Q E) : Wp (f as (h.set n o ++ l)) Q E := by
  have := w (by rw [List.length_append]; omega)
  rwa [set_app hn] at this
theorem wo_appS (hn : n < h.length) (hk : h.length = k) (e : ds ++ [v] = es) (hl : ds.length < 16777216) (q : Q (.d .none) ((h ++ some (.lst es) :: l).set n o)) : Wo (gApp (.r k) [.d v] ((h ++ some (.lst ds) :: l).set n o)) Q := by
  rw [set_app hn]
  rw [set_app hn] at q
  exact wo_appE (by rw [List.length_set]; exact hk) e hl q
theorem tyL_S (hn : n < h.length) (hk : h.length = k) (a : A) : tyL (.r k) ((h ++ some (.lst ds) :: l).set n o) = true ∧ A := by
  rw [set_app hn]
  exact tyL_E (by rw [List.length_set]; exact hk) a
theorem ws_frzS (hn : n < h.length) (hk : h.length = k) (ev : ρ[i]? = some (some (.r k))) (q : SetK i ρ (.d (.list ds)) ((h ++ none :: l).set n o) N) : Ws (sFrz i ρ ((h ++ some (.lst ds) :: l).set n o)) N D := by
  rw [set_app hn]
  rw [set_app hn] at q
  exact ws_frzE (by rw [List.length_set]; exact hk) ev q
theorem retK_S {x : Da} (hn : n < h.length) (e : h.length = m) (q : Q (.d x) (h.set n o)) : RetK m Q (.d x) ((h ++ l).set n o) := by
  rw [set_app hn]
  exact retK_d' (by rw [List.length_set]; exact e) q
end
end Rk

/-! Rk28: zip of two lists or of two tuples of data; all and any of a list of truths. -/
namespace Rk
open PySem PySem.Spec L2
variable {mg : Str → Option Value}
def zipD (xs ys : List Da) : List Da := (xs.zip ys).map fun p => .tuple [p.1, p.2]
section
variable {K : PySem.W.Frag}
end
def iZip (as : Av) : Iv := fun ρ h => (as ρ h).bind fun vs h1 => match vs with
  | [.d (.list xs), .d (.list ys)] => .ok ⟨zipD xs ys, none⟩ h1
  | [.d (.tuple xs), .d (.tuple ys)] => .ok ⟨zipD xs ys, none⟩ h1
  | _ => .no
section
variable {X : Cx} {W : WX} {pos p : Pos} {fs : Av}
end
section
variable {QI : Itm → Hh → Prop} {E : XP} {ρ : En} {h : Hh} {as : Av} {xs ys : List Da}
end
def boolsOf : List Da → Option (List Bool)
  | [] => some []
  | .bool b :: r => (boolsOf r).map (b :: ·)
  | _ => none
def intsOf : List Da → Option (List Int)
  | [] => some []
  | .int b :: r => (intsOf r).map (b :: ·)
  | _ => none
def gAll : GC := fun as h => match as with
  | [.d (.list ds)] => (boolsOf ds).map fun bs => (.d (.bool (bs.all id)), h)
  | _ => none
def gAny : GC := fun as h => match as with
  | [.d (.list ds)] => (boolsOf ds).map fun bs => (.d (.bool (bs.any id)), h)
  | _ => none
def gSum : GC := fun as h => match as with
  | [.d (.list ds)] => (intsOf ds).map fun ns => (.d (.int ns.sum), h)
  | _ => none
def minI : Int → List Int → Int
  | a, [] => a
  | a, b :: r => min a (minI b r)
def maxI : Int → List Int → Int
  | a, [] => a
  | a, b :: r => max a (maxI b r)
def gMinL : GC := fun as h => match as with
  | [.d (.list ds)] => match intsOf ds with
    | some (a :: r) => some (.d (.int (minI a r)), h)
    | _ => none
  | _ => none
def gMaxL : GC := fun as h => match as with
  | [.d (.list ds)] => match intsOf ds with
    | some (a :: r) => some (.d (.int (maxI a r)), h)
    | _ => none
  | _ => none
section
variable {K : PySem.W.Frag} {H : Hp} {L : Nat → Prop}
theorem reps_bools {φ : List Addr} {h : Hh} : ∀ {ds : List Da} {us : List V} {bs : List Bool}, Reps K H (Live φ h) us ds → boolsOf ds = some bs → us = bs.map V.bl
  | [], us, bs, rs, e => by
    cases e
    cases rs
    rfl
  | d :: ds, us, bs, rs, e => by
    cases rs with
    | cons r rr =>
      cases d <;> try (simp only [boolsOf, reduceCtorEq] at e)
      rename_i b
      obtain ⟨cs, e1, rfl⟩ := Option.map_eq_some_iff.mp (show (boolsOf ds).map (b :: ·) = some bs from e)
      rw [reps_bools rr e1]
      cases r
      rfl
theorem ok_all : OkC K mg (rAll K) gAll := by
  intro φ h H xs as Q v h' sm rs e k
  unfold gAll at e
  split at e
  · rename_i ds
    obtain ⟨bs, e1, e2⟩ := Option.map_eq_some_iff.mp e
    cases e2
    obtain ⟨x, rfl, r⟩ := rs.one
    obtain ⟨_, gd, a, G, rfl, L, g⟩ := itL_lok sm r rfl
    obtain ⟨us, sq, rs'⟩ := L.sq _ _ _ sm g gd
    rw [reps_bools rs' e1] at sq
    exact ⟨a, bs, rfl, sq, k _ H φ (Step.refl _ _ _) sm (Rep.bl _)⟩
  · cases e
end
section
variable {Q : Vl → Hh → Prop} {h : Hh} {ds : List Da} {bs : List Bool} {ns : List Int} {a : Int}
theorem wo_all (e : boolsOf ds = some bs) (q : Q (.d (.bool (bs.all id))) h) : Wo (gAll [.d (.list ds)] h) Q := wo_eq (v := .d (.bool (bs.all id))) (h' := h) (by unfold gAll; dsimp only; rw [e]; rfl) q
end
def repB (n : Nat) (k : Int) : Bool := decide (2 ≤ k) && decide (k ≤ 1000) && decide (0 < n) && decide (n ≤ 1000)
def repBL (n : Nat) (k : Int) : Bool := decide (1 ≤ k) && decide (k ≤ 1000) && decide (0 < n) && decide (n ≤ 1000)
def gRepL : G2 := fun x y h => match x, y with
  | .r n, .d (.int k) => match h[n]? with
    | some (some (.lst ds)) => if repBL ds.length k then some (.r h.length, h ++ [some (.lst (List.replicate k.toNat ds).flatten)]) else none
    | _ => none
  | _, _ => none
def gRepT : G2 := fun x y h => match x, y with
  | .d (.tuple ds), .d (.int k) => if repB ds.length k then some (.d (.tuple (List.replicate k.toNat ds).flatten), h) else none
  | _, _ => none
section
variable {K : PySem.W.Frag}
end
section
variable {Q : Vl → Hh → Prop} {h : Hh} {ds es : List Da} {k : Int} {n : Nat}
end
end Rk

/-! Rk29: whole multiples of powers, grains. -/
namespace Rk
open PySem PySem.Spec L2
def Mult (R : Ruler) (x : Rat) (g : Int) : Prop := ∃ k : Int, x = (k : Rat) * R.pw g
section
variable {R : Ruler} {x y a b : Rat} {n m : Nat} {g j : Int}
def IsGrn (R : Ruler) (x : Rat) (g : Int) : Prop := Mult R x g ∧ ¬ Mult R x (g + 1)
noncomputable def Ruler.grn (R : Ruler) (x : Rat) : Int := Classical.epsilon (IsGrn R x)
/-- a whole multiple of the least step that is no greater than another number is no longer by much -/
theorem BQ_in (O : R.Ok) (h : Mult R x g) (hg : g.natAbs ≤ m) (b : BQ n y) (hy : x.abs ≤ y.abs) : BQ (n + 8 * m + 4) x := by
  obtain ⟨k, e⟩ := h
  have hp := BQ_pw O (E := m) hg
  have bk : Bd (n + 4 * m + 2) k := by
    by_cases k0 : k = 0
    · rw [k0]
      unfold Bd
      exact Nat.two_pow_pos _
    have p := pw_pos O g
    have e1 : (k : Rat) = x / R.pw g := by rw [e, Rat.div_def, Rat.mul_assoc, Rat.mul_inv_cancel _ (pw_ne O g), Rat.mul_one]
    have h1 : (k : Rat).abs ≤ y.abs / R.pw g := by
      have e2 : x.abs = (k : Rat).abs * R.pw g := by rw [e, abs_mulP p]
      have e3 : (k : Rat).abs = x.abs / R.pw g := by rw [e2, Rat.div_def, Rat.mul_assoc, Rat.mul_inv_cancel _ (pw_ne O g), Rat.mul_one]
      rw [e3, Rat.div_def, Rat.div_def]
      exact Rat.mul_le_mul_of_nonneg_right hy (Rat.le_of_lt (Rat.inv_pos.mpr p))
    have b2 : BQ (n + (4 * m + 1)) (y.abs / R.pw g) := b.abs.div' hp
    have h2 := fl_lt (y.abs / R.pw g)
    have b3 := bd_floor b2
    have h3 : (k : Rat).abs = ((k.natAbs : Int) : Rat) := by
      unfold Rat.abs
      split
      · rename_i z
        have z1 : 0 ≤ k := Rat.intCast_nonneg.mp z
        rw [show ((k.natAbs : Int)) = k by omega]
      · rename_i z
        have z1 : ¬ 0 ≤ k := fun w => z (Rat.intCast_nonneg.mpr w)
        rw [show ((k.natAbs : Int)) = -k by omega, Rat.intCast_neg]
    rw [h3] at h1
    have h4 : ((k.natAbs : Int) : Rat) < (((y.abs / R.pw g).floor + 1 : Int) : Rat) := by
      rw [Rat.intCast_add]
      exact Std.lt_of_le_of_lt h1 h2
    have h5 : (k.natAbs : Int) < (y.abs / R.pw g).floor + 1 := Rat.intCast_lt_intCast.mp h4
    unfold Bd at b3 ⊢
    have : (2 : Nat) ^ (n + (4 * m + 1)) ≤ 2 ^ (n + 4 * m + 2) := Nat.pow_le_pow_right (by decide) (by omega)
    omega
  rw [e]
  have := (BQ.i bk).mul' hp
  exact BQ.mono this (by omega)
noncomputable def grnV (R : Ruler) (x : Rat) : Option Int := if x = 0 then none else some (R.grn x)
noncomputable def spnG (R : Ruler) (a b : Rat) : Option Int := if a = b then grnV R a else if a ≤ 0 ∧ 0 ≤ b then some R.l else some (R.plc (mn a.abs b.abs))
end
section
variable {α : Type} {h : Hh} {Q : Vl → Hh → Prop}
end
end Rk

/-! Rk30: data without truths, its equality. -/
namespace Rk
open PySem PySem.Spec L2
mutual
def noB : Da → Bool
  | .none | .int _ | .str _ => true
  | .bool _ | .dict _ => false
  | .list xs | .tuple xs => noBs xs
def noBs : List Da → Bool
  | [] => true
  | x :: xs => noB x && noBs xs
end
mutual
theorem eqv_noB : ∀ (a b : Da), noB a = true → noB b = true → (PyData.eqv a b = true ↔ a = b)
  | .none, b, _, hb => by cases b <;> simp_all [PyData.eqv, noB]
  | .int i, b, _, hb => by cases b <;> simp_all [PyData.eqv, noB]
  | .str s, b, _, hb => by cases b <;> simp_all [PyData.eqv, noB]
  | .list xs, b, ha, hb => by
    cases b with
    | list ys =>
      have := eqv_noBs xs ys (by simpa [noB] using ha) (by simpa [noB] using hb)
      simp [PyData.eqv, this]
    | _ => simp_all [PyData.eqv, noB]
  | .tuple xs, b, ha, hb => by
    cases b with
    | tuple ys =>
      have := eqv_noBs xs ys (by simpa [noB] using ha) (by simpa [noB] using hb)
      simp [PyData.eqv, this]
    | _ => simp_all [PyData.eqv, noB]
  | .bool b, _, h, _ => by simp [noB] at h
  | .dict kvs, _, h, _ => by simp [noB] at h
theorem eqv_noBs : ∀ (a b : List Da), noBs a = true → noBs b = true → (PyData.eqvAll a b = true ↔ a = b)
  | [], [], _, _ => by simp [PyData.eqvAll]
  | [], _ :: _, _, _ => by simp [PyData.eqvAll]
  | _ :: _, [], _, _ => by simp [PyData.eqvAll]
  | x :: xs, y :: ys, ha, hb => by
    simp only [noBs, Bool.and_eq_true] at ha hb
    have h1 := eqv_noB x y ha.1 hb.1
    have h2 := eqv_noBs xs ys ha.2 hb.2
    simp [PyData.eqvAll, h1, h2]
end
mutual
theorem eqv_self : ∀ (a : Da), a.canLay0 = true → PyData.eqv a a = true
  | .none, _ => by simp [PyData.eqv]
  | .int i, _ => by simp [PyData.eqv]
  | .str s, _ => by simp [PyData.eqv]
  | .bool b, _ => by simp [PyData.eqv]
  | .list xs, h => by
    have := eqv_selfs xs (by simpa [PyData.canLay0] using h)
    simp [PyData.eqv, this]
  | .tuple xs, h => by
    have := eqv_selfs xs (by simpa [PyData.canLay0] using h)
    simp [PyData.eqv, this]
  | .dict kvs, h => by simp [PyData.canLay0] at h
theorem eqv_selfs : ∀ (a : List Da), PyData.canLayAll0 a = true → PyData.eqvAll a a = true
  | [], _ => by simp [PyData.eqvAll]
  | x :: xs, h => by
    simp only [PyData.canLayAll0, Bool.and_eq_true] at h
    simp [PyData.eqvAll, eqv_self x h.1, eqv_selfs xs h.2]
end
mutual
theorem nd_lay : ∀ (a : Da), a.canLay0 = true → a.hasDict = false
  | .none, _ => rfl
  | .int i, _ => rfl
  | .str s, _ => rfl
  | .bool b, _ => rfl
  | .list xs, h => by
    unfold PyData.hasDict
    exact nd_lays xs (by simpa [PyData.canLay0] using h)
  | .tuple xs, h => by
    unfold PyData.hasDict
    exact nd_lays xs (by simpa [PyData.canLay0] using h)
  | .dict kvs, h => by simp [PyData.canLay0] at h
theorem nd_lays : ∀ (a : List Da), PyData.canLayAll0 a = true → PyData.hasDictAll a = false
  | [], _ => rfl
  | x :: xs, h => by
    simp only [PyData.canLayAll0, Bool.and_eq_true] at h
    unfold PyData.hasDictAll
    rw [nd_lay x h.1, nd_lays xs h.2]
    rfl
end
/-- data that may be laid and compared: p tells whether it is without truths -/
structure Ly (p : Bool) (e : Nat) (x : Da) : Prop where
  s : x.canLay0 = true
  d : x.depth ≤ e
  n : p = true → noB x = true
structure LyL (p : Bool) (e : Nat) (ds : List Da) : Prop where
  s : PyData.canLayAll0 ds = true
  d : PyData.depthAll ds ≤ e
  n : p = true → noBs ds = true
section
variable {p : Bool} {e e' : Nat} {x y : Da} {ds es : List Da} {i : Int} {r : Rat}
theorem Ly.none : Ly p 0 .none := ⟨by simp [PyData.canLay0], by simp [PyData.depth], fun _ => by simp [noB]⟩
theorem Ly.int : Ly p 0 (.int i) := ⟨by simp [PyData.canLay0], by simp [PyData.depth], fun _ => by simp [noB]⟩
theorem Ly.bool {b : Bool} : Ly false 0 (.bool b) := ⟨by simp [PyData.canLay0], by simp [PyData.depth], fun h => by cases h⟩
theorem Ly.str {s : Str} (h : PyData.strOk s = true) : Ly p 0 (.str s) := ⟨by simp [PyData.canLay0, h], by simp [PyData.depth], fun _ => by simp [noB]⟩
theorem LyL.nil : LyL p 0 [] := ⟨by simp [PyData.canLayAll0], by simp [PyData.depthAll], fun _ => by simp [noBs]⟩
theorem LyL.cons (h : Ly p e x) (t : LyL p e' ds) : LyL p (max e e') (x :: ds) := ⟨by simp [PyData.canLayAll0, h.s, t.s], by
  have h1 := h.d
  have h2 := t.d
  simp only [PyData.depthAll]
  omega, fun z => by simp [noBs, h.n z, t.n z]⟩
theorem Ly.tup (t : LyL p e ds) : Ly p (e + 1) (.tuple ds) := ⟨by simp [PyData.canLay0, t.s], by
  have h2 := t.d
  simp only [PyData.depth]
  omega, fun z => by simp [noB, t.n z]⟩
theorem Ly.lst (t : LyL p e ds) : Ly p (e + 1) (.list ds) := ⟨by simp [PyData.canLay0, t.s], by
  have h2 := t.d
  simp only [PyData.depth]
  omega, fun z => by simp [noB, t.n z]⟩
theorem Ly.Q : Ly p 1 (Q r) := Ly.tup (LyL.cons .int (LyL.cons .int .nil))
theorem Ly.mono (h : Ly p e x) (hl : e ≤ e') : Ly p e' x := ⟨h.s, Nat.le_trans h.d hl, h.n⟩
theorem LyL.of (h : ∀ d ∈ ds, Ly p e d) : LyL p e ds := by
  induction ds with
  | nil => exact ⟨LyL.nil (p := p).s, Nat.le_trans (LyL.nil (p := p)).d (Nat.zero_le _), (LyL.nil (p := p)).n⟩
  | cons d ds ih =>
    have := LyL.cons (h d (List.mem_cons_self ..)) (ih fun z hz => h z (List.mem_cons_of_mem _ hz))
    rwa [Nat.max_self] at this
theorem Ly.sh (h : Ly p e x) (he : e ≤ 64) : sh x = true := by
  unfold Rk.sh SeqAt.shaped
  rw [h.s, decide_eq_true (Nat.le_trans h.d he), nd_lay x h.s]
  rfl
variable {Q : Vl → Hh → Prop} {h : Hh}
theorem gNe_d (x y : Da) (h : Hh) (b : Bool) (e : eqvB x y = some b) (hs : ∀ a c, x = .str a → y = .str c → b = decide (a = c)) : gNe (.d x) (.d y) h = some (.d (.bool (!b)), h) := by
  unfold gNe
  split
  · rename_i a c e1 e2
    cases e1
    cases e2
    rw [hs a c rfl rfl]
  · rename_i hh
    simp only [asD]
    rw [e]
    rfl
theorem eqvB_self (hx : Ly p e x) (he : e ≤ 64) : eqvB x x = some true := by
  unfold eqvB
  rw [hx.sh he, eqv_self x hx.s]
  rfl
open Classical in
theorem eqvB_p (hx : Ly true e x) (hy : Ly true e' y) (he : e ≤ 64) (he' : e' ≤ 64) : eqvB x y = some (decide (x = y)) := by
  unfold eqvB
  rw [hx.sh he, hy.sh he']
  have := eqv_noB x y (hx.n rfl) (hy.n rfl)
  simp only [Bool.and_self, if_true, Option.some.injEq]
  rw [Bool.eq_iff_iff, this, decide_eq_true_iff]
theorem wo_neSelf (hx : Ly p e x) (he : e ≤ 64) (q : Q (.d (.bool false)) h) : Wo (gNe (.d x) (.d x) h) Q := wo_eq (gNe_d x x h true (eqvB_self hx he) (fun a c e1 e2 => by rw [e1] at e2; cases e2; simp)) q
open Classical in
theorem wo_neP (hx : Ly true e x) (hy : Ly true e' y) (he : e ≤ 64) (he' : e' ≤ 64) (q : Q (.d (.bool (!decide (x = y)))) h) : Wo (gNe (.d x) (.d y) h) Q := wo_eq (gNe_d x y h _ (eqvB_p hx hy he he') (fun a c e1 e2 => by subst e1; subst e2; simp)) q
end
end Rk

/-! Rk31: more rules by wishes. -/
namespace Rk
open PySem PySem.Spec L2
theorem wo_neNo {Q : Vl → Hh → Prop} {h : Hh} {x y : Da} {e e' : Nat} (hx : Ly true e x) (hy : Ly true e' y) (he : e ≤ 64) (he' : e' ≤ 64) (ne : x ≠ y) (q : Q (.d (.bool true)) h) : Wo (gNe (.d x) (.d y) h) Q := wo_neP hx hy he he' (by simp only [ne, decide_false, Bool.not_false]; exact q)
theorem wo_eqSS {Q : Vl → Hh → Prop} {h : Hh} {x : Str} (q : Q (.d (.bool true)) h) : Wo (gEq (.d (.str x)) (.d (.str x)) h) Q := wo_eqS (by rw [decide_eq_true rfl]; exact q)
theorem wo_neSS {Q : Vl → Hh → Prop} {h : Hh} {x : Str} (q : Q (.d (.bool false)) h) : Wo (gNe (.d (.str x)) (.d (.str x)) h) Q := wo_neS (by rw [decide_eq_true rfl]; exact q)
theorem retK_nil {h : Hh} {x : Da} {Q : Vl → Hh → Prop} (q : Q (.d x) []) : RetK ([] : Hh).length Q (.d x) h := ⟨.d x, [], by show Out.ok _ _ = _; simp, q⟩
section
variable {α : Type} {Q : Vl → Hh → Prop} {h : Hh} {xs ys : List Da} {ρ : En} {N : En → Hh → Prop}
theorem cut_to (xs : List α) (k : Nat) : cutD xs none (some (k : Int)) = xs.take k := by
  unfold cutD
  rw [HT.sIx_nat, HT.sIx_none, List.drop_zero, Nat.sub_zero]
  by_cases h : k ≤ xs.length
  · rw [Nat.min_eq_left h]
  · rw [Nat.min_eq_right (by omega), List.take_length, List.take_of_length_le (by omega)]
theorem cut_from (xs : List α) (k : Nat) : cutD xs (some (k : Int)) none = xs.drop k := by
  unfold cutD
  rw [HT.sIx_nat, HT.sIx_none]
  by_cases h : k ≤ xs.length
  · rw [Nat.min_eq_left h, List.take_of_length_le (by rw [List.length_drop]; omega)]
  · rw [Nat.min_eq_right (by omega), List.drop_of_length_le (by omega), List.drop_of_length_le (by omega), List.take_nil]
theorem cut_mid (xs : List α) (i j : Nat) : cutD xs (some (i : Int)) (some (j : Int)) = (xs.drop i).take (j - i) := by
  unfold cutD
  rw [HT.sIx_nat, HT.sIx_nat]
  by_cases h2 : i ≤ xs.length
  · rw [Nat.min_eq_left h2]
    by_cases h : j ≤ xs.length
    · rw [Nat.min_eq_left h]
    · rw [List.take_of_length_le (by rw [List.length_drop]; omega), List.take_of_length_le (by rw [List.length_drop]; omega)]
  · rw [List.drop_of_length_le (by omega), List.drop_of_length_le (by omega), List.take_nil, List.take_nil]
theorem cut_to0 (xs : List α) : cutD xs none (some 0) = xs.take 0 := cut_to xs 0
theorem cut_from0 (xs : List α) : cutD xs (some 0) none = xs.drop 0 := cut_from xs 0
theorem cut_to1 (xs : List α) : cutD xs none (some 1) = xs.take 1 := cut_to xs 1
theorem cut_from1 (xs : List α) : cutD xs (some 1) none = xs.drop 1 := cut_from xs 1
theorem cut_to2 (xs : List α) : cutD xs none (some 2) = xs.take 2 := cut_to xs 2
theorem cut_from2 (xs : List α) : cutD xs (some 2) none = xs.drop 2 := cut_from xs 2
theorem cut_to3 (xs : List α) : cutD xs none (some 3) = xs.take 3 := cut_to xs 3
theorem cut_from3 (xs : List α) : cutD xs (some 3) none = xs.drop 3 := cut_from xs 3
theorem cut_to4 (xs : List α) : cutD xs none (some 4) = xs.take 4 := cut_to xs 4
theorem cut_from4 (xs : List α) : cutD xs (some 4) none = xs.drop 4 := cut_from xs 4
theorem cut_to5 (xs : List α) : cutD xs none (some 5) = xs.take 5 := cut_to xs 5
theorem cut_from5 (xs : List α) : cutD xs (some 5) none = xs.drop 5 := cut_from xs 5
theorem cut_to6 (xs : List α) : cutD xs none (some 6) = xs.take 6 := cut_to xs 6
theorem cut_from6 (xs : List α) : cutD xs (some 6) none = xs.drop 6 := cut_from xs 6
theorem cut_to7 (xs : List α) : cutD xs none (some 7) = xs.take 7 := cut_to xs 7
theorem cut_from7 (xs : List α) : cutD xs (some 7) none = xs.drop 7 := cut_from xs 7
theorem cut_to8 (xs : List α) : cutD xs none (some 8) = xs.take 8 := cut_to xs 8
theorem cut_from8 (xs : List α) : cutD xs (some 8) none = xs.drop 8 := cut_from xs 8
theorem cut_to9 (xs : List α) : cutD xs none (some 9) = xs.take 9 := cut_to xs 9
theorem cut_from9 (xs : List α) : cutD xs (some 9) none = xs.drop 9 := cut_from xs 9
theorem cut_0_1 (xs : List α) : cutD xs (some 0) (some 1) = (xs.drop 0).take 1 := cut_mid xs 0 1
theorem cut_0_2 (xs : List α) : cutD xs (some 0) (some 2) = (xs.drop 0).take 2 := cut_mid xs 0 2
theorem cut_0_3 (xs : List α) : cutD xs (some 0) (some 3) = (xs.drop 0).take 3 := cut_mid xs 0 3
theorem cut_0_4 (xs : List α) : cutD xs (some 0) (some 4) = (xs.drop 0).take 4 := cut_mid xs 0 4
theorem cut_0_5 (xs : List α) : cutD xs (some 0) (some 5) = (xs.drop 0).take 5 := cut_mid xs 0 5
theorem cut_0_6 (xs : List α) : cutD xs (some 0) (some 6) = (xs.drop 0).take 6 := cut_mid xs 0 6
theorem cut_1_2 (xs : List α) : cutD xs (some 1) (some 2) = (xs.drop 1).take 1 := cut_mid xs 1 2
theorem cut_1_3 (xs : List α) : cutD xs (some 1) (some 3) = (xs.drop 1).take 2 := cut_mid xs 1 3
theorem cut_1_4 (xs : List α) : cutD xs (some 1) (some 4) = (xs.drop 1).take 3 := cut_mid xs 1 4
theorem cut_1_5 (xs : List α) : cutD xs (some 1) (some 5) = (xs.drop 1).take 4 := cut_mid xs 1 5
theorem cut_1_6 (xs : List α) : cutD xs (some 1) (some 6) = (xs.drop 1).take 5 := cut_mid xs 1 6
theorem cut_2_3 (xs : List α) : cutD xs (some 2) (some 3) = (xs.drop 2).take 1 := cut_mid xs 2 3
theorem cut_2_4 (xs : List α) : cutD xs (some 2) (some 4) = (xs.drop 2).take 2 := cut_mid xs 2 4
theorem cut_2_5 (xs : List α) : cutD xs (some 2) (some 5) = (xs.drop 2).take 3 := cut_mid xs 2 5
theorem cut_2_6 (xs : List α) : cutD xs (some 2) (some 6) = (xs.drop 2).take 4 := cut_mid xs 2 6
theorem cut_3_4 (xs : List α) : cutD xs (some 3) (some 4) = (xs.drop 3).take 1 := cut_mid xs 3 4
theorem cut_3_5 (xs : List α) : cutD xs (some 3) (some 5) = (xs.drop 3).take 2 := cut_mid xs 3 5
theorem cut_3_6 (xs : List α) : cutD xs (some 3) (some 6) = (xs.drop 3).take 3 := cut_mid xs 3 6
theorem cut_4_5 (xs : List α) : cutD xs (some 4) (some 5) = (xs.drop 4).take 1 := cut_mid xs 4 5
theorem cut_4_6 (xs : List α) : cutD xs (some 4) (some 6) = (xs.drop 4).take 2 := cut_mid xs 4 6
theorem cut_5_6 (xs : List α) : cutD xs (some 5) (some 6) = (xs.drop 5).take 1 := cut_mid xs 5 6
end
end Rk

/-! Rk32: grains as data, marks, entries. -/
namespace Rk
open PySem PySem.Spec L2
def gD : Option Int → Da
  | none => .none
  | some g => .int g
noncomputable def exactB (R : Ruler) (a b : Rat) : Option Int → Bool
  | none => false
  | some g => decide (R.l ≤ g) && !decide (R.pw (g + R.f) < mx a.abs b.abs)
def gOk (g : Option Int) : Prop := ∀ z, g = some z → z.natAbs ≤ 1000
def slackV (R : Ruler) (a b : Rat) (g : Option Int) (ex : Bool) (sz : Rat) (rd : Rat) : Rat :=
  if a = b then (rd - a).abs else if ex = true then 0 else if R.w = "near" then 1 / 2 * sz else sz
theorem BQ_mxa {a b : Rat} {n : Nat} (ha : BQ n a) (hb : BQ n b) : BQ n (mx a.abs b.abs) := BQ.mono (BQ.mx ha.abs hb.abs) (by omega)
theorem Shw.gD {g : Option Int} (hg : gOk g) : Shw 1921 0 (gD g) := by
  cases g with
  | none => exact Shw.none.mono (by decide) (by decide)
  | some z =>
    have := hg z rfl
    exact Shw.int (n := 64) (bd_lit 1000 (by omega) (by omega) (by decide)) (by decide)
theorem Ly.gD {p : Bool} {g : Option Int} : Ly p 0 (gD g) := by
  cases g with
  | none => exact Ly.none
  | some z => exact Ly.int
structure Mk (R : Ruler) (n : Nat) (x : Rat) : Prop where
  r : R.rnd x = x
  b : BQ n x
theorem Mk.mono {R : Ruler} {n m : Nat} {x : Rat} (h : Mk R n x) (hl : n ≤ m) : Mk R m x := ⟨h.r, h.b.mono hl⟩
def InS (R : Ruler) (a b x : Rat) : Prop := Mult R x R.l ∧ a ≤ x ∧ x ≤ b
theorem InS.bq {R : Ruler} {a b x : Rat} (O : R.Ok) (hl1 : -4 ≤ R.l) (hl2 : R.l ≤ 1) (ha : BQ 140 a) (hb : BQ 140 b) (i : InS R a b x) : BQ 176 x := by
  have h1 := abs_in i.2.1 i.2.2
  have h2 : (mx a.abs b.abs).abs = mx a.abs b.abs := by
    unfold mx Rat.abs
    grind
  exact BQ.mono (BQ_in O (m := 4) i.1 (by omega) (BQ_mxa ha hb) (by rw [h2]; exact h1)) (by decide)
structure Ent where
  lo : Rat
  hi : Rat
  tl : Rat
  th : Rat
  er : Rat
  g : Option Int
def Ent.da (e : Ent) : Da := .tuple [Rk.Q e.lo, Rk.Q e.hi, Rk.Q e.tl, Rk.Q e.th, Rk.Q e.er, gD e.g]
structure Ent.B (n : Nat) (e : Ent) : Prop where
  lo : BQ n e.lo
  hi : BQ n e.hi
  tl : BQ n e.tl
  th : BQ n e.th
  er : BQ n e.er
  g : ∀ z, e.g = some z → z.natAbs ≤ n
structure Ent.Ok (R : Ruler) (e : Ent) : Prop where
  lo : R.rnd e.lo = e.lo
  hi : R.rnd e.hi = e.hi
  lh : e.lo ≤ e.hi
  t : e.tl ≤ e.th
  er : 0 ≤ e.er
  gn : e.g = none ↔ e.lo = 0 ∧ e.hi = 0
  gl : ∀ z, e.g = some z → R.l ≤ z
theorem Ent.B.mono {n m : Nat} {e : Ent} (b : e.B n) (h : n ≤ m) : e.B m := ⟨b.lo.mono h, b.hi.mono h, b.tl.mono h, b.th.mono h, b.er.mono h, fun z x => Nat.le_trans (b.g z x) h⟩
theorem Ent.Ly {p : Bool} (e : Ent) : Ly p 2 e.da := by
  unfold Ent.da
  exact Ly.tup (LyL.cons .Q (LyL.cons .Q (LyL.cons .Q (LyL.cons .Q (LyL.cons .Q (LyL.cons .gD .nil))))))
theorem abs_nonneg' (r : Rat) : 0 ≤ r.abs := by
  unfold Rat.abs
  grind
theorem hd_v {i : Nat} {ρ : En} {h : Hh} {Q : Vl → Hh → Prop} {E : XP} (w : Wp (eVar i ρ h) Q E) : Wp (eVar i ρ h) Q E := w
theorem Ent.mkN {R : Ruler} {a b c d e : Rat} (ha : Mk R 140 a) (hb : Mk R 140 b) (hab : a ≤ b) (hc : BQ 300 c) (hd : BQ 300 d) (hcd : c ≤ d) (he : BQ 140 e) (z : a = 0 ∧ b = 0) : (Ent.mk a b c d e.abs none).Ok R ∧ (Ent.mk a b c d e.abs none).B 300 :=
  ⟨⟨ha.r, hb.r, hab, hcd, abs_nonneg' _, ⟨fun _ => z, fun _ => rfl⟩, fun _ x => nomatch x⟩, ⟨ha.b.mono (by decide), hb.b.mono (by decide), hc, hd, he.abs.mono (by decide), fun _ x => nomatch x⟩⟩
end Rk

/-! Rk33: rounding rises. -/
namespace Rk
open PySem PySem.Spec L2
section
variable {R : Ruler} {x y : Rat} {n m : Nat}
end
end Rk

/-! Rk34: ranks of marks. -/
namespace Rk
open PySem PySem.Spec L2
def Ruler.N (R : Ruler) : Nat := R.b ^ R.f
def Ruler.M (R : Ruler) : Nat := R.b ^ (R.f - 1)
def Ruler.fr (R : Ruler) : Nat := R.N - R.M
def Ruler.far (R : Ruler) (k : Nat) : Nat := if k < R.N then 0 else (k - R.N) / R.fr + 1
def Ruler.st (R : Ruler) (k : Nat) : Nat := k - R.far k * R.fr
def Ruler.mkN (R : Ruler) (k : Nat) : Rat := ((R.st k : Int) : Rat) * R.pw (R.l + R.far k)
def Ruler.mkOf (R : Ruler) (k : Int) : Rat := if 0 ≤ k then R.mkN k.natAbs else -R.mkN k.natAbs
section
variable {R : Ruler} (O : R.Ok)
include O
end
end Rk

/-! Rk35: statements that are never reached. -/
namespace Rk
open PySem PySem.Spec L2
def sNo : Sv := fun _ _ => .no
theorem es_no {X : Cx} {W : WX} {st : Stmt} : ES X W st sNo := ⟨fun _ _ _ _ _ _ ⟨_, _, _, _, _, q⟩ => q.elim⟩
end Rk

/-! Rk36: enumerate over a tuple. -/
namespace PySem
open Sem (wp)
open AutoSeq1 (wpAny_loadPart')
/-- the iterator of the tuple at t -/
abbrev rkTi (t : Addr) : Obj := { cls := .type "tuple_iterator", data := .fields #[.ref t, .int 0 0] }
abbrev rkEn (j : Addr) : Obj := { cls := .type "enumerate", data := .fields #[.none, .bool false, .ref j, rawInt 0, .none, .none] }
theorem rk_meets_enumT (t : Addr) (us : Array Value) (m : Nat) (od : Option Addr) (ss : Array (Option Value)) :
    Meets (Builtin.«enumerate.__new__» ⟨[.type "enumerate", .ref t], []⟩) (fun _ R s => s.heap.get? t = some { cls := .type "tuple", dict := od, data := .seq us m, slots := ss } ∧ R (.ok (.ret (.ref (s.heap.push (rkTi t)).objs.size))) { s with heap := (s.heap.push (rkTi t)).push (rkEn s.heap.objs.size) }) :=
  .of_wp fun _ _ _ R s0 hyp => by
    obtain ⟨hp, g, d, tk, os⟩ := s0; obtain ⟨ht, hyp⟩ := hyp
    have subE := sub_enumerate
    have isT : Heap.IsTuple (Shared.heap ⟨hp, g, d, tk, os⟩) t us := ⟨_, ht, rfl, m, rfl⟩
    wp_walk using wpAny_loadPart' ht
    refine wpAny_stack_any fun _ => wpAny_pure ?_
    split
    · rename_i c0 _ _ _ _ _
      cases (c0 == Value.type "enumerate") <;> (wp_walk using wpAny_loadPart' ht, wpAny_pyIter_tuple isT; exact ⟨_, rfl, hyp⟩)
    · (wp_walk using wpAny_loadPart' ht, wpAny_pyIter_tuple isT; exact ⟨_, rfl, hyp⟩)
section
variable {prog : Program} {w : World} {A : Around} {E : Value → Shared → Prop} {s : Shared}
theorem rk_call_enumT {t : Addr} {us : Array Value} {Q : Value → Shared → Prop} (isT : s.heap.IsTuple t us)
    (k : ∀ h1, IsEnum h1 (s.heap.objs.size + 1) s.heap.objs.size 0 .none → h1.IsTupleIter s.heap.objs.size t 0 → h1.objs.size = s.heap.objs.size + 2 → (∀ b o, s.heap.get? b = some o → h1.get? b = some o) → Q (.ref (s.heap.objs.size + 1)) { s with heap := h1 }) :
    wpAny (model prog w) A (call (.type "enumerate") [.ref t]) Q E s := by
  obtain ⟨⟨c0, od, dat, ss⟩, ht, hcl, m, hdt⟩ := isT
  dsimp only at hcl hdt
  subst hcl hdt
  refine callType_new F.called_enumerate (by decide) (F.typeCall_enumerate_1 _) (F.newCall_enumerate_1 _) (fun o => F.args_object_init_2 o _) F.entry_enumerate_new (rk_meets_enumT t us m od ss) ⟨ht, ?_⟩
  have sz : (s.heap.push (rkTi t)).objs.size = s.heap.objs.size + 1 := Heap.size_push ..
  show _ ∧ _
  rw [sz]
  have en : IsEnum ((s.heap.push (rkTi t)).push (rkEn s.heap.objs.size)) (s.heap.objs.size + 1) s.heap.objs.size 0 .none := by
    have e0 := Heap.get?_push_size (s.heap.push (rkTi t)) (o := rkEn s.heap.objs.size) rfl
    rw [sz] at e0
    exact e0
  exact ⟨⟨_, en, rfl⟩, k _ en ⟨_, Heap.get?_push_of_some _ (Heap.get?_push_size _ rfl), rfl, rfl⟩ (by rw [Heap.size_push, sz]) fun _ _ x => Heap.get?_push_of_some _ (Heap.get?_push_of_some _ x)⟩
theorem rk_drawsT {it a : Addr} {us : Array Value} (hh : A.handled = none) (hne : it ≠ a) : Draws prog w A it [it, a] us.size (fun i x => us[i]? = some x) (fun i h => h.IsTupleIter it a i ∧ h.IsTuple a us) where
  live := fun i h st => let ⟨⟨o, ho, _⟩, _⟩ := st; ⟨o, ho⟩
  frame := fun i h h' st k => ⟨st.1.at fun o q => k it (by simp) o q, let ⟨o, ho, r⟩ := st.2; ⟨o, k a (by simp) o ho, r⟩⟩
  item := fun i s Q E hi st hQ => by
    have hx : us[i]? = some us[i] := Array.getElem?_eq_getElem hi
    refine RZ.nextOf_tuple_item st.1 st.2 hx fun h' h1 sb => ?_
    obtain ⟨o, ho, r⟩ := st.2
    exact hQ _ h' s.toks hx ⟨h1, ⟨o, (sb.2 a (Ne.symm hne)).trans ho, r⟩⟩ sb
  done := fun s Q E st hE => RZ.nextOf_tuple_end hh st.1 st.2 (by simp) hE
end
end PySem
namespace Rk
open PySem PySem.Spec PyProof.Rows L2
def IteT (K : PySem.W.Frag) (a : Addr) : It :=
  ⟨fun i H => ∃ (xs : List V) (x : V), SqT K H a xs ∧ xs[i]? = some x, fun i H v H' => ∃ T x, v = .ref T ∧ H T = none ∧ H' = upd H T (.tup [.int (i : Nat), x]) ∧ ∀ xs, SqT K H a xs → xs[i]? = some x, fun i H => ∃ xs : List V, SqT K H a xs ∧ xs.length ≤ i⟩
theorem turn_enumT {P : Program} {w : World} {K : PySem.W.Frag} {elts : List Expr} {kk : Nat} {tpos : Pos} (a e it : Addr) :
    Turn P w K (.Tuple elts kk tpos) (IteT K a) [e, it] e (fun i h => (∃ old, IsEnum h e it ((i : Nat) : Int) old) ∧ h.IsTupleIter it a i ∧ e ≠ it ∧ a ≠ e ∧ a ≠ it) where
  mem := by simp
  obj := fun i h st b hb => by
    obtain ⟨⟨_, en⟩, ⟨o, ho, _, hdt⟩, _⟩ := st
    rcases (show b = e ∨ b = it by simpa using hb) with rfl | rfl
    · exact ⟨_, en, fun _ q => nomatch q⟩
    · exact ⟨o, ho, fun _ q => by rw [hdt] at q; cases q⟩
  keep := fun i h h' st k => let ⟨⟨old, en⟩, ti, ne⟩ := st; ⟨⟨old, k e (by simp) _ en⟩, ti.at fun o q => k it (by simp) o q, ne⟩
  item := by
    intro X hP hw hK hc i pins s σ H E I hf st hg
    subst hP hw hK
    obtain ⟨⟨old, en⟩, ti, ne, nae, nai⟩ := st
    obtain ⟨xs, x, sq, hx⟩ := hg
    obtain ⟨us, rv, isT, _⟩ := I.tuple sq
    obtain ⟨u, hu, ru⟩ := rv.get hx
    have le : e < s.heap.objs.size := Heap.lt_size en
    have li : it < s.heap.objs.size := by obtain ⟨_, q, _⟩ := ti; exact Heap.lt_size q
    have isT' : s.heap.IsTuple a us.toArray := isT
    have hd0 : X.A.handled = none := I.ok.hd hc
    have hu' : us.toArray[i]? = some u := by simpa using hu
    refine wpAny_pyNext_enum_itemD (rk_drawsT (A := X.A.in1) hd0 (Ne.symm nai)) en ⟨ti, isT'⟩ (by simpa using (List.getElem?_eq_some_iff.mp hu).1) ne (by simp [ne, Ne.symm nae]) fun y h1 tk py ho st1 hT hsz hk => ?_
    rw [hu'] at py
    cases py
    refine ⟨_, rfl, wpAny_letOwnedTupleGo_enum (s := { s with heap := h1, toks := tk + 1 }) ho fun h2 en2 sb => ?_⟩
    have hT2 : h2.get? s.heap.objs.size = some { cls := .type "tuple", data := .seq #[.int i tk, u] } := (sb.2 _ (Nat.ne_of_gt le)).trans hT
    have nw : ObjOk X.prog X.w (upd H s.heap.objs.size (.tup [.int (i : Nat), x])) h2 s.heap.objs.size (.tup [.int (i : Nat), x]) :=
      ⟨by show 2 ≤ sizeLine; decide, [.int i tk, u], .cons ⟨_, rfl⟩ (.cons ru .nil), ⟨_, hT2, rfl, _, rfl⟩⟩
    have I1 : Inv X pins σ (upd H s.heap.objs.size (.tup [.int (i : Nat), x])) { s with heap := h2, toks := tk + 1 } :=
      I.turnedNew (ch := [e, it]) (fun b ob hb q => (sb.2 b (fun z => hb (by simp [z]))).trans (hk b ob (fun z => hb (by simp [z])) (fun z => hb (by simp [z])) q)) hf (Nat.le_refl _) nw
    refine ⟨.ref s.heap.objs.size, _, I1, rfl, ⟨_, x, rfl, I.hok.fresh (Nat.le_refl _), rfl, fun ys hy => by rw [I.tuple_inj hy sq]; exact hx⟩, ⟨⟨u, ?_⟩, st1.1.at fun o q => (sb.2 it (Ne.symm ne)).trans q, ne, nae, nai⟩, fun b hb => ?_⟩
    · rw [show ((i + 1 : Nat) : Int) = (i : Int) + 1 by omega]
      exact en2
    · have lb : b < s.heap.objs.size := by
        rcases (show b = e ∨ b = it by simpa using hb) with rfl | rfl
        · exact le
        · exact li
      rw [upd_ne (Nat.ne_of_lt lb)]
      exact (hf b hb).1
  done := by
    intro X hP hw hK hc i pins s σ H E I hf st hg
    subst hP hw hK
    obtain ⟨⟨old, en⟩, ti, ne, nae, nai⟩ := st
    obtain ⟨xs, sq, hx⟩ := hg
    obtain ⟨us, rv, isT, _⟩ := I.tuple sq
    obtain ⟨f0, f1, f2, f3, f4, f5⟩ := hf it (by simp)
    have ll := rv.length
    have isT' : s.heap.IsTuple a us.toArray := isT
    have hT : s.TypeIs (.ref e) "enumerate" := ⟨_, en, rfl⟩
    unfold pyNext
    refine wpAny_bind (wpAny_attempt (wpAny_callSpecial?_slot (name := Str.ofString "__next__") hT F.slot_enumerate_next (wpAny_call_entry F.slot_enumerate_next hT F.entry_enumerate_next ?_ (F.args_enumerate_next_1 _))))
    show wpAny _ _ (field (.ref e) 2 >>= _) _ _ _
    refine wpAny_bind (wpAny_field en rfl (x := .ref it) rfl ?_)
    refine wpAny_bind (RZ.nextOf_tuple_end (I.ok.hd hc) ti isT' (by simp; omega) fun h1 x1 eb hx1 => ?_)
    obtain ⟨o1, ho1, hc1⟩ := hx1
    refine wpAny_bind (wpAny_isInstance (T := "StopIteration") (b := true) ⟨o1, ho1, hc1⟩ isSubtype_stop (wpAny_pure ?_))
    exact ⟨rfl, I.turned (t' := s.toks) (fun b o hb q => eb b o hb q) f0 f1 f3 f4 f5⟩
  self := fun A i s Q E st h => let ⟨⟨_, en⟩, _⟩ := st; wpAny_pyIter_enum en h
def iEnumA (K : PySem.W.Frag) (ta : TA) : TI := fun σ H R => ta σ H fun vs H1 => ∃ a xs, vs = [.ref a] ∧ ((SqL K H1 a xs ∧ R (Ite K a) H1) ∨ (SqT K H1 a xs ∧ R (IteT K a) H1))
theorem pi_enumA {X : Cx} {e : Expr} {ta : TA} {p pos tpos : Pos} {elts : List Expr} {kk : Nat} (hg : Gl X "enumerate") (hm : X.mg "enumerate" = none) (ha : PA X [e] ta) (hs : starEach [e] X.env = [(false, eval e X.env)] := by rfl) :
    PI X (.Tuple elts kk tpos) (.Call (.Name "enumerate" p) [e] [] pos) (iEnumA X.K ta) := by
  refine ⟨fun pins s σ H R I h => ?_⟩
  refine Call_ (ld_blt I hg hm boot_enumerate (PyProof.Rows.callWith_type1 (thn (ha.run pos pins s σ H _ I h) fun us s1 ⟨vs, H1, I1, r1, q1⟩ => ?_) hs rfl))
  obtain ⟨a, xs, rfl, q1⟩ := q1
  cases r1 with
  | cons r rr =>
    cases rr
    cases r
    have fin : ∀ b, b ∈ [s1.heap.objs.size + 1, s1.heap.objs.size] → FpOk X pins H1 b := fun b hb => by
      have lb : s1.heap.objs.size ≤ b := by
        rcases (show b = s1.heap.objs.size + 1 ∨ b = s1.heap.objs.size by simpa using hb) with rfl | rfl
        · exact Nat.le_add_right _ _
        · exact Nat.le_refl _
      exact I1.fpOk lb (I1.hok.fresh lb)
    rcases q1 with ⟨sq, q⟩ | ⟨sq, q⟩
    · obtain ⟨its, rv, isL, _⟩ := I1.list sq
      refine call_enumerate_list isL.isList fun h1 en ti _ hk => wpAny_pyIter_enum en ?_
      exact ⟨s1.heap.objs.size + 1, [s1.heap.objs.size + 1, s1.heap.objs.size], _, _, H1, rfl, I1.kept (t' := s1.toks) hk, turn_enum a (s1.heap.objs.size + 1) s1.heap.objs.size, ⟨⟨.none, en⟩, ti, Nat.succ_ne_self _⟩, fin, q⟩
    · obtain ⟨its, rv, isT, _⟩ := I1.tuple sq
      obtain ⟨o0, ho0, _⟩ := id isT
      have la := Heap.lt_size ho0
      refine rk_call_enumT (show s1.heap.IsTuple a its.toArray from isT) fun h1 en ti _ hk => wpAny_pyIter_enum en ?_
      exact ⟨s1.heap.objs.size + 1, [s1.heap.objs.size + 1, s1.heap.objs.size], _, _, H1, rfl, I1.kept (t' := s1.toks) hk, turn_enumT a (s1.heap.objs.size + 1) s1.heap.objs.size, ⟨⟨.none, en⟩, ti, Nat.succ_ne_self _, Nat.ne_of_lt (Nat.lt_succ_of_lt la), Nat.ne_of_lt la⟩, fin, q⟩
end Rk

/-! Rk37: enumerate, of lists and tuples. -/
namespace Rk
open PySem PySem.Spec L2
section
variable {K : PySem.W.Frag}
theorem enumT_it {a : Addr} {ds : List Da} : ItOk K (IteT K a) ⟨ds.mapIdx fun i d => .tuple [.int (i : Nat), d], none⟩ (fun φ h H => Rep K H (Live φ h) (.ref a) (.tuple ds)) where
  go := fun φ h H i sm g gd hi => by
    obtain ⟨us, sq, rs⟩ := Rep.sqT g
    have hi' : i < ds.length := by simpa using hi
    obtain ⟨y, e, _⟩ := rs.get (List.getElem?_eq_getElem hi')
    exact ⟨us, y, sq, e⟩
  yld := fun φ h H i x H' d sm g gd ed ⟨T, y, ex, hT, e, q⟩ => by
    subst ex e
    obtain ⟨us, sq, rs⟩ := Rep.sqT g
    rw [List.getElem?_mapIdx] at ed
    cases e3 : ds[i]? with
    | none => rw [e3] at ed; cases ed
    | some d0 =>
      rw [e3] at ed
      cases ed
      obtain ⟨y2, ey, ry⟩ := rs.get e3
      have e2 := q us sq
      rw [ey] at e2
      cases e2
      obtain ⟨s1, s2, s3⟩ := new_tup (mg := fun _ => none) sm (ds := [.int (i : Nat), d0]) (.cons (.int _) (.cons ry .nil)) hT
      exact ⟨s1, s2, s3⟩
  stop := fun φ h H i sm g gd hi => by
    obtain ⟨us, sq, rs⟩ := Rep.sqT g
    exact ⟨us, sq, by rw [rs.length]; simpa using hi⟩
  keep := fun φ h H φ' h' H' g st => Rep.stay st.st g
end
def iEnumB (as : Av) : Iv := fun ρ h => (as ρ h).bind fun vs h1 => match vs with
  | [.d (.tuple ds)] => .ok ⟨ds.mapIdx fun i d => .tuple [.int (i : Nat), d], none⟩ h1
  | [v] => enumI (itL v h1)
  | _ => .no
section
variable {X : Cx} {W : WX} {pos p : Pos} {fs : Av}
theorem ei_enumB {elts : List Expr} {kk : Nat} {tpos : Pos} {a : Expr} (hg : Gl X "enumerate") (hm : X.mg "enumerate" = none) (ha : EA X W [a] fs) (hs : starEach [a] X.env = [(false, eval a X.env)] := by rfl) : EI X W (.Tuple elts kk tpos) (.Call (.Name "enumerate" p) [a] [] pos) (iEnumB fs) :=
  PI.of (pi_enumA hg hm ha hs) fun σ H R ⟨φ, h, ρ, sm, er, q⟩ => ⟨φ, h, ρ, sm, er, PoI.goA q fun xs vs h1 H1 φ1 st sm1 rv q1 => by
    split at q1
    · obtain ⟨x, rfl, r⟩ := rv.one
      obtain ⟨a, us, rfl, sq, rs⟩ := VRep.tup r
      exact ⟨a, us, rfl, .inr ⟨sq, q1 _ H1 φ1 _ (Step.refl _ _ _) sm1 enumT_it r⟩⟩
    · rename_i v _
      obtain ⟨x, rfl, r⟩ := rv.one
      cases e : itL v h1 with
      | ok m h2 =>
        rw [e] at q1
        obtain ⟨rfl, gd, a, G, rfl, L, g⟩ := itL_lok sm1 r e
        obtain ⟨ys, sq, _⟩ := L.sq _ _ _ sm1 g gd
        exact ⟨a, ys, rfl, .inl ⟨sq, q1 _ H1 φ1 _ (Step.refl _ _ _) sm1 (enum_it L) g⟩⟩
      | ex c fs h2 =>
        unfold itL at e
        split at e
        · cases e
        · split at e <;> cases e
        · cases e
      | no =>
        rw [e] at q1
        exact q1.elim
    · exact q1.elim⟩
end
section
variable {QI : Itm → Hh → Prop} {E : XP} {ρ : En} {h : Hh} {as : Av}
theorem wp_enumB (w : Wp (as ρ h) (fun vs h1 => ∃ ds, (vs = [.d (.list ds)] ∨ vs = [.d (.tuple ds)]) ∧ QI ⟨ds.mapIdx fun i d => .tuple [.int (i : Nat), d], none⟩ h1) E) : Wp (iEnumB as ρ h) QI E :=
  wp_bind (w.mono (fun _ _ ⟨ds, e, q⟩ => by
    rcases e with e | e
    · rw [e]; exact ⟨q⟩
    · rw [e]; exact ⟨q⟩) fun _ _ _ z => z)
theorem ex_enumL {ds : List Da} {P : List Da → Prop} (q : P ds) : ∃ es, ([Vl.d (.list ds)] = [.d (.list es)] ∨ [Vl.d (.list ds)] = [.d (.tuple es)]) ∧ P es := ⟨ds, .inl rfl, q⟩
end
theorem ex_is_int_int {i : Int} {h : Hh} {P : Bool → Prop} (q : P true) : ∃ k, isTy .int (.d (.int i)) h = some k ∧ P k := ⟨true, rfl, q⟩
theorem ex_is_bool_int {i : Int} {h : Hh} {P : Bool → Prop} (q : P false) : ∃ k, isTy .bool (.d (.int i)) h = some k ∧ P k := ⟨false, rfl, q⟩
theorem ex_is_str_str {x : Str} {h : Hh} {P : Bool → Prop} (q : P true) : ∃ k, isTy .str (.d (.str x)) h = some k ∧ P k := ⟨true, rfl, q⟩
theorem ex_is_tuple_tuple {ds : List Da} {h : Hh} {P : Bool → Prop} (q : P true) : ∃ k, isTy .tuple (.d (.tuple ds)) h = some k ∧ P k := ⟨true, rfl, q⟩
theorem ex_is_tuple_Q {r : Rat} {h : Hh} {P : Bool → Prop} (q : P true) : ∃ k, isTy .tuple (.d (Rk.Q r)) h = some k ∧ P k := ⟨true, rfl, q⟩
end Rk

/-! Rk38: dicts at the end of the heap; rounding by each way. -/
namespace Rk
open PySem PySem.Spec L2
section
variable {h l : Hh} {k : Nat} {kds kds' : List (Key × Da)} {x : Str} {v d : Da} {Q : Vl → Hh → Prop} {E : XP} {N : Hh → Prop} {ρ : En}
end
/-! ### rounding by each way -/
end Rk

/-! Rk39: shifts, bit_length, the place of a part in a list. -/
namespace Rk
open PySem PySem.Spec L2
variable {mg : Str → Option Value}
def fShl (a b : Int) : Option Da := if 0 ≤ b ∧ b ≤ 1000000 ∧ a.natAbs < 2 ^ 64 then some (.int (a * 2 ^ b.toNat)) else none
section
variable {K : PySem.W.Frag}
def gIdx : GM := fun o as h => match asL o h, as with
  | some ds, [.d y] => if flatD y && ds.all flatD then (ds.findIdx? fun z => eqF z y).map fun j => (.d (.int (j : Nat)), h) else none
  | _, _ => none
end
def eBits (f : Ev) : Ev := fun ρ h => (f ρ h).bind fun x h1 => match x with
  | .d (.int i) => .ok (.d (.int (Builtin.Int.intBits i : Nat))) h1
  | _ => .no
section
variable {X : Cx} {W : WX} {o : Expr} {fo : Ev} {apos pos : Pos}
end
section
variable {Q : Vl → Hh → Prop} {E : XP} {ρ : En} {h : Hh} {f : Ev} {a b : Int} {ds : List Da}
end
end Rk

/-! Rk40: all, max and places over typed lists. -/
namespace Rk
open PySem PySem.Spec L2
section
variable {α : Type} {Q : Vl → Hh → Prop} {h : Hh}
end
end Rk

/-! Rk41: a target within a target; what many shown things take. -/
namespace Rk
open PySem PySem.Spec L2
section
variable {ρ : En} {h : Hh} {N : En → Hh → Prop} {i j k : Nat} {d0 d1 d2 : Da} {r s : Rat}
end
theorem ShwL.of {k e n : Nat} {ds : List Da} (h : ∀ d ∈ ds, Shw k e d) (hl : ds.length ≤ n) : ShwL (n * (k + 2)) e ds := by
  induction ds generalizing n with
  | nil => exact ⟨ShwL.nil.s, ShwL.nil.n, Nat.le_trans ShwL.nil.d (Nat.zero_le _), Nat.le_trans ShwL.nil.l (Nat.zero_le _)⟩
  | cons d ds ih =>
    cases n with
    | zero => simp at hl
    | succ n =>
      have a := ih (n := n) (fun x hx => h x (List.mem_cons_of_mem _ hx)) (by simpa using hl)
      have b := ShwL.cons (h d (List.mem_cons_self ..)) a
      rw [Nat.max_self] at b
      refine ⟨b.s, b.n, b.d, Nat.le_trans b.l ?_⟩
      rw [Nat.succ_mul]
      omega
end Rk

/-! Rk42: errors raised, caught and kept; a caught error is told of in the abstract heap from then on. -/
namespace Rk
open PySem PySem.Spec L2
section
variable {X : Cx} {pins : List (Addr × Obj)} {σ : L2.St} {H : Hp} {s : Shared} {a : Addr} {oe : Obj} {vs : Array Value} {cls : Value} {dd : Option Addr}
end
/-- what is wished of an error that leaves a try's body: where the clause takes it, what the suite wishes, the error told of, its name gone behind -/
def wTl (K : PySem.W.Frag) (c : Value) (i : Nat) (ts : TS) (Wo : WX) (D : Ends) : WX := fun cls d σ H =>
  ∃ b, PySem.W.exmOne K cls c = some b ∧
    (b = true → ∀ a, H a = none → ts ⟨fun σ1 H1 => D.nx (σ1.set i none) H1, D.rt, fun σ1 H1 => D.bk (σ1.set i none) H1, fun σ1 H1 => D.ct (σ1.set i none) H1⟩ (σ.set i (some (.ref a))) (upd H a (exO a cls d))) ∧
    (b = false → Wo cls d σ H)
section
variable {X : Cx} {x n : Str} {c : Value} {i : Nat} {body suite : List Stmt} {st0 : Stmt} {np p1 p2 : Pos} {tb : WX → TS} {ts : TS} {Wo : WX}
end
end Rk

/-! Rk43: raise, try .. except .. as, isinstance of what was caught, as statements and expressions that mean something. -/
namespace Rk
open PySem PySem.Spec L2
/-! ### what the top's classes are -/
abbrev veT : List Value := [.type "ValueError", .type "Exception", .type "BaseException", .type "object"]
structure ErrC (K : PySem.W.Frag) (mg : Str → Option Value) (c : Str) : Prop where
  ex : ∃ C, mg c = some (.ref C) ∧ PySem.W.excIn K C veT "ValueError.__new__" = true ∧ PySem.W.keepIn K (.ref C) = true ∧ PySem.W.subIn K (.ref C) (.type "BaseException") = some true ∧ PySem.W.typeIn K (.ref C) = some (.type "type")
def clsAt (K : PySem.W.Frag) (c : Str) : Option Addr := match PySem.W.nsIn K mainGlobals c with
  | some (some (.ref C)) => some C
  | _ => none
def errB (K : PySem.W.Frag) (c : Str) : Bool := match clsAt K c with
  | some C => PySem.W.excIn K C veT "ValueError.__new__" && (PySem.W.keepIn K (.ref C) && (decide (PySem.W.subIn K (.ref C) (.type "BaseException") = some true) && decide (PySem.W.typeIn K (.ref C) = some (.type "type"))))
  | none => false
/-- which of the top's classes an except clause over x takes -/
structure CatC (K : PySem.W.Frag) (mg : Str → Option Value) (x : Str) (yes no : List Str) : Prop where
  ex : ∃ D, mg x = some (.ref D) ∧ (∀ c ∈ yes, ∃ C, mg c = some (.ref C) ∧ PySem.W.exmOne K (.ref C) (.ref D) = some true) ∧ (∀ c ∈ no, ∃ C, mg c = some (.ref C) ∧ PySem.W.exmOne K (.ref C) (.ref D) = some false)
def subB (K : PySem.W.Frag) (f : Value → Value → Option Bool) (u : Value) (b : Bool) (c : Str) : Bool := match clsAt K c with
  | some C => decide (f (.ref C) u = some b)
  | none => false
def catB (K : PySem.W.Frag) (x : Str) (yes no : List Str) : Bool := match clsAt K x with
  | some D => yes.all (subB K (PySem.W.exmOne K) (.ref D) true) && no.all (subB K (PySem.W.exmOne K) (.ref D) false)
  | none => false
/-! ### raise X('..') -/
def sRaise (c : Str) : Sv := fun ρ h => .ex c [] ρ h
section
variable {X : Cx} {W : WX}
end
/-! ### try: .. except X as n: .. -/
def sTry (yes no : List Str) (i : Nat) (b s : Sv) : Sv := fun ρ h => match b ρ h with
  | .ex c fs ρ1 h1 => if c ∈ yes then (match s (ρ1.set i (some (.x c fs))) h1 with
      | .nx ρ2 h2 => .nx (ρ2.set i none) h2
      | .rt v h2 => .rt v h2
      | .bk ρ2 h2 => .bk (ρ2.set i none) h2
      | .ct ρ2 h2 => .ct (ρ2.set i none) h2
      | _ => .no) else if c ∈ no then .ex c fs ρ1 h1 else .no
  | o => o
section
variable {X : Cx} {W : WX} {x n : Str} {i : Nat} {yes no : List Str} {body suite : List Stmt} {st0 : Stmt} {np p1 p2 : Pos} {fb fs : Sv}
end
end Rk

/-! Rk44: isinstance of what was caught, its fields. -/
namespace Rk
open PySem PySem.Spec L2
/-- what a class of errors must say, so that its errors are asked rightly -/
structure ErrI (K : PySem.W.Frag) (C : Addr) : Prop where
  ga : PySem.W.findIn K (.ref C) "__getattribute__" = some (some (.builtin "BaseException.__getattribute__"))
  gt : PySem.W.findIn K (.ref C) "__getattr__" = some none
  sb : PySem.W.subIn K (.ref C) (.type "BaseException") = some true
  dc : PySem.W.hasDictIn K C = true
  cl : PySem.W.findIn K (.ref C) "__class__" = some (some (.builtin "object.__class__"))
  cg : PySem.W.specialIn K (.builtin "object.__class__") "__get__" = some (some (.builtin "getset_descriptor.__get__"))
  tk : PySem.W.takesIn K (.builtin "object.__class__") = some true
  mo : PySem.W.mroIn K C (.type "object") = some true
  ci : (PySem.W.clsIn K C).isSome = true
def errIB (K : PySem.W.Frag) (C : Addr) : Bool :=
  decide (PySem.W.findIn K (.ref C) "__getattribute__" = some (some (.builtin "BaseException.__getattribute__"))) && (decide (PySem.W.findIn K (.ref C) "__getattr__" = some none) && (decide (PySem.W.subIn K (.ref C) (.type "BaseException") = some true) && (PySem.W.hasDictIn K C &&
  (decide (PySem.W.findIn K (.ref C) "__class__" = some (some (.builtin "object.__class__"))) && (decide (PySem.W.specialIn K (.builtin "object.__class__") "__get__" = some (some (.builtin "getset_descriptor.__get__"))) && (decide (PySem.W.takesIn K (.builtin "object.__class__") = some true) && (decide (PySem.W.mroIn K C (.type "object") = some true) && (PySem.W.clsIn K C).isSome)))))))
/-- an error that is told of, its own dict too -/
def ExAt (H : Hp) (a D : Addr) : Prop := ∃ dd : Option Addr, H a = some (exO a (.ref D) dd) ∧ (dd = none ∨ ∃ d vs, dd = some d ∧ H d = some (.xd vs))
section
variable {X : Cx} {pins : List (Addr × Obj)} {σ : L2.St} {H : Hp} {s : Shared} {a D : Addr}
/-- isinstance of an error: one class; a tuple of classes -/
def rIs1 (K : PySem.W.Frag) : List V → Hp → VK → Prop := fun xs H Q => ∃ (a D : Addr) (c : V) (u : Value) (b : Bool), xs = [.ref a, c] ∧ ExAt H a D ∧ ErrI K D ∧ ClsV c u ∧ PySem.W.kitOne K (.ref D) u = some b ∧ Q (.bl b) H
def rIsN (K : PySem.W.Frag) : List V → Hp → VK → Prop := fun xs H Q => ∃ (a D tp : Addr) (cs : List V) (us : List Value) (b : Bool), xs = [.ref a, .ref tp] ∧ ExAt H a D ∧ ErrI K D ∧ H tp = some (.tup cs) ∧ Paired ClsV cs us ∧ PySem.W.kitAny K (.ref D) us = some b ∧ Q (.bl b) H
end
theorem XRep.at_ {K : PySem.W.Frag} {mg : Str → Option Value} {H : Hp} {M : Addr → Prop} {c : Str} {fs : List (Str × Da)} {D a : Addr} {dd : Option Addr} (x : XRep K mg H M c fs (.ref D) dd) (e : H a = some (exO a (.ref D) dd)) : ExAt H a D := by
  refine ⟨dd, e, ?_⟩
  by_cases z : fs = []
  · exact .inl (x.no z)
  · obtain ⟨d, vs, e1, e2, _⟩ := x.yes z
    exact .inr ⟨d, vs, e1, e2⟩
/-- what the classes yes and no answer to isinstance over the classes us -/
structure IsF (K : PySem.W.Frag) (mg : Str → Option Value) (f : Value → Option Bool) (yes no : List Str) : Prop where
  nn : f (.type "NoneType") = some false
  y : ∀ c ∈ yes, ∃ C, mg c = some (.ref C) ∧ ErrI K C ∧ f (.ref C) = some true
  n : ∀ c ∈ no, ∃ C, mg c = some (.ref C) ∧ ErrI K C ∧ f (.ref C) = some false
def isFB1 (K : PySem.W.Frag) (f : Value → Option Bool) (b : Bool) (c : Str) : Bool := match clsAt K c with
  | some C => errIB K C && decide (f (.ref C) = some b)
  | none => false
def isFB (K : PySem.W.Frag) (f : Value → Option Bool) (yes no : List Str) : Bool := decide (f (.type "NoneType") = some false) && (yes.all (isFB1 K f true) && no.all (isFB1 K f false))
/-- isinstance(x, C), C a class of the top -/
def IsO (K : PySem.W.Frag) (mg : Str → Option Value) (x : Str) (yes no : List Str) : Prop := ∃ D, mg x = some (.ref D) ∧ IsF K mg (fun t => PySem.W.kitOne K t (.ref D)) yes no
def isOB (K : PySem.W.Frag) (x : Str) (yes no : List Str) : Bool := match clsAt K x with
  | some D => isFB K (fun t => PySem.W.kitOne K t (.ref D)) yes no
  | none => false
/-- isinstance(x, T), T a built-in class -/
def IsB (K : PySem.W.Frag) (mg : Str → Option Value) (T : String) (yes no : List Str) : Prop := IsF K mg (fun t => PySem.W.kitOne K t (.type T)) yes no
def isBB (K : PySem.W.Frag) (T : String) (yes no : List Str) : Bool := isFB K (fun t => PySem.W.kitOne K t (.type T)) yes no
/-- isinstance(x, (C1, C2, ..)) -/
def IsM (K : PySem.W.Frag) (mg : Str → Option Value) (xs : List Str) (yes no : List Str) : Prop := ∃ Cs : List Addr, Paired (fun x C => mg x = some (.ref C)) xs Cs ∧ IsF K mg (fun t => PySem.W.kitAny K t (Cs.map Value.ref)) yes no
def clsAts (K : PySem.W.Frag) : List Str → Option (List Addr)
  | [] => some []
  | x :: xs => (clsAt K x).bind fun C => (clsAts K xs).map (C :: ·)
def isMB (K : PySem.W.Frag) (xs : List Str) (yes no : List Str) : Bool := match clsAts K xs with
  | some Cs => isFB K (fun t => PySem.W.kitAny K t (Cs.map Value.ref)) yes no
  | none => false
def isE (yes no : List Str) : Vl → Option Bool
  | .d .none => some false
  | .x c _ => if c ∈ yes then some true else if c ∈ no then some false else none
  | _ => none
def eIsE (yes no : List Str) (f : Ev) : Ev := fun ρ h => (f ρ h).bind fun v h1 => match isE yes no v with
  | some b => .ok (.d (.bool b)) h1
  | none => .no
section
variable {X : Cx} {W : WX} {a ce : Expr} {fa : Ev} {pos p q : Pos} {yes no : List Str}
/-- names of classes, side by side -/
def CN (X : Cx) (es : List Expr) (cs : List V) : Prop := PA X es (fun _ H Q => Q cs H)
end
end Rk

/-! Rk45: errors by wishes; a call without arguments. -/
namespace Rk
open PySem PySem.Spec L2
section
variable {X : Cx} {W : WX}
end
def UnK (i : Nat) (ρ : En) (h : Hh) (N : En → Hh → Prop) : Prop := N (ρ.set i none) h
/-- an error at an except clause -/
structure TryK (yes no : List Str) (i : Nat) (s : Sv) (c : Str) (fs : List (Str × Da)) (ρ : En) (h : Hh) (N : En → Hh → Prop) (D : Ds) : Prop where
  w : if c ∈ yes then SetK i ρ (.x c fs) h (fun ρ1 h1 => Ws (s ρ1 h1) (fun ρ2 h2 => UnK i ρ2 h2 N) ⟨D.rt, fun ρ2 h2 => UnK i ρ2 h2 D.bk, fun ρ2 h2 => UnK i ρ2 h2 D.ct, fun _ _ _ _ => False⟩) else if c ∈ no then D.ex c fs ρ h else False
section
variable {ρ : En} {h : Hh} {N : En → Hh → Prop} {R : Vl → Hh → Prop} {B C : En → Hh → Prop} {X : Str → List (Str × Da) → En → Hh → Prop} {b s : Sv} {yes no : List Str} {i : Nat} {c : Str} {fs : List (Str × Da)} {Q : Vl → Hh → Prop} {E : XP} {f : Ev}
end

section
variable {h : Hh} {N : En → Hh → Prop} {r : En}
variable {o0 o1 o2 o3 o4 o5 o6 o7 o8 o9 o10 o11 o12 o13 o14 o15 o16 o17 o18 o19 o20 o21 o22 o23 o24 o25 : Option Vl}
end
end Rk

/-! Rk46: an empty dict that is never changed, as data. -/
namespace Rk
open PySem PySem.Spec L2
section
variable {X : Cx} {W : WX} {pos : Pos}
theorem ee_dnew : EE X W (.Dict [] [] pos) (eD (.dict [])) := PE.of pe_dnewT fun σ H Q ⟨φ, h, ρ, sm, er, q⟩ p hp => by
  obtain ⟨w1, w2⟩ := sm.grow (o := .dT []) hp
  exact q (.ref p) _ φ w1 w2 (Rep.dct0 upd_same (sm.fresh hp))
end
end Rk

/-! Rk47: a list walked from its end. -/
namespace Rk
open PySem PySem.Spec L2
section
variable {K : PySem.W.Frag}
end
def iRev (as : Av) : Iv := fun ρ h => (as ρ h).bind fun vs h1 => match vs with
  | [v] => (itL v h1).bind fun m h2 => .ok ⟨m.ds.reverse, m.gd⟩ h2
  | _ => .no
section
variable {X : Cx} {W : WX} {tg : Expr} {pos p : Pos} {fs : Av}
end
section
variable {E : XP} {ρ : En} {h : Hh} {as : Av} {QI : Itm → Hh → Prop}
end
end Rk

/-! Rk48: sorted(t), t a written tuple of texts. -/
namespace Rk
open PySem PySem.Spec L2 PyProof.Rows
section
variable {prog : Program} {w : World} {A : Around} {E : Value → Shared → Prop} {s : Shared}
end
def rSortT (K : PySem.W.Frag) : List V → Hp → VK → Prop := fun vs H Q => ∃ (a : Addr) (xs : List Str), vs = [V.ref a] ∧ SqT K H a (xs.map V.str) ∧ xs.length < 64 ∧ ∀ (ys : List Str) (p : Addr), ys.Perm xs → sortedS ys = true → H p = none → Q (.ref p) (upd H p (.lst (ys.map V.str)))
def strsOf : List Da → Option (List Str)
  | [] => some []
  | .str x :: ds => (strsOf ds).map (x :: ·)
  | _ :: _ => none
def gSortC (src out : List Str) : GC := fun as h => match as with
  | [.d (.tuple ds)] => if strsOf ds = some src then some (.r h.length, h ++ [some (.lst (out.map PyData.str))]) else none
  | _ => none
end Rk

/-! Rk49: an exception out of a list comprehension's block (only calls raise in it). -/
namespace Rk
open PySem PySem.Spec L2 PyProof.Rows
section
variable {M : Model} {A : Around} {E : Value → Shared → Prop} {s : Shared} {B : Heap} {env cenv : Env} {outer l : List Env} {a L C : Addr} {Z : Obj → Prop} {m : Str → Option Value}
end
/-- behind the block: as the library's post, an exception with the frame's note -/
def cPost (M : Model) (A : Around) (E : Value → Shared → Prop) (use : Option (Value → Sem Unit)) (Q : Value → Shared → Prop) (acc : Value) (ce : Env) (r : Result) (s' : Shared) : Prop :=
  match r, use with
  | .ok _, none => ∃ m, s'.heap.Ns ce.locals m ∧ ∀ h', Heap.SameBut ce.locals s'.heap h' → Q acc { s' with heap := h' }
  | .ok _, some u => wpAny M A (u acc) (fun _ s'' => ∃ m, s''.heap.Ns ce.locals m ∧ ∀ h', Heap.SameBut ce.locals s''.heap h' → Q .none { s'' with heap := h' }) E s'
  | .error x, _ => ∃ m, s'.heap.Ns ce.locals m ∧ ∀ h', (∃ m', h'.Ns ce.locals m') → Heap.SameBut ce.locals s'.heap h' → ∀ cenv : Env, cenv.frame = ce.frame → wpAny M A (PySem.passOn "comprehension.variables-let-go" x cenv : Sem Value) (fun _ _ => False) E { s' with heap := h' }
section
variable {M : Model} {A : Around} {E : Value → Shared → Prop} {s : Shared} {env : Env}
end
abbrev blkX (X : Cx) (s : Shared) (H : Hp) (scope : Scope) (ce : Env) (fp : List Addr) (xe : Value → Shared → Prop) : Cx := (X.blk s H scope ce fp).tr [] xe
end Rk

/-! Rk50: a list comprehension whose block may let an exception out (of a call). -/
namespace Rk
open PySem PySem.Spec L2 PyProof.Rows
/-- the wish about exceptions, at the def's slots -/
abbrev wAt (W : WX) (σ : L2.St) : WX := fun c d _ H => W c d σ H
def tLcX (W : WX) (wi : TI) (g : TG) (tt : WX → TT) (te : WX → TE) (vs : List Nat) : TE := fun σ H Q => wi σ H fun J H1 => ∀ D, H1 D = none → ∃ V : Nat → Nat → Hp → Prop, (∃ m, V 0 m (L2.upd H1 D (.lst []))) ∧ ∀ i m H, V i m H →
  (J.stop i H ∧ Q (.ref D) H) ∨ (J.go i H ∧ ∃ Nx : Hp → Prop, (∀ H', Nx H' → ∃ m', m' < m ∧ V (i + 1) m' H') ∧ ∀ x H', J.yld i H x H' → g x (L2.wipe σ vs) H' fun σ2 H2 => L2.wipe σ2 vs = L2.wipe σ vs ∧ tt (wAt W σ) σ2 H2 fun b H3 =>
    if b = true then te (wAt W σ) σ2 H3 fun y H4 => ∃ acc, H4 D = some (.lst acc) ∧ acc.length < sizeLine ∧ Nx (L2.upd H4 D (.lst (acc ++ [y]))) else Nx H3)
section
variable {X : Cx} {W : WX}
end
end Rk

/-! Rk51 (printed by mk51.py): list comprehensions that let an exception through. -/
namespace Rk
open PySem PySem.Spec L2
variable {mg : Str → Option Value}
open Classical in
noncomputable def lcLX (gd : Option (Nat × List Da)) (D : Nat) (g : Gv) (tt : Tv) (fe : Ev) (ρ0 : En) : List Da → Hh → Out Vl
  | [], h => if gdOk gd h then .ok (.r D) h else .no
  | d :: ds, h => if gdOk gd h then (match g (.d d) ρ0 h with
      | none => .no
      | some p => match tt p.1 p.2 with
        | .ok true h2 => (match fe p.1 h2 with
          | .ok v h3 => (match appL D v h3 with
            | some h4 => lcLX gd D g tt fe ρ0 ds h4
            | none => .no)
          | .ex c fs h3 => .ex c fs h3
          | .no => .no)
        | .ok false h2 => lcLX gd D g tt fe ρ0 ds h2
        | .ex c fs h2 => .ex c fs h2
        | .no => .no) else .no
noncomputable def eLcX (vs : List Nat) (i : Iv) (g : Gv) (tt : Tv) (fe : Ev) : Ev := fun ρ h => (i ρ h).bind fun m h1 => lcLX m.gd h1.length g tt fe (wipeE ρ vs) m.ds (h1 ++ [some (.lst [])])
section
variable {X : Cx} {W : WX} {elt tg iter : Expr} {ifs : List Expr} {scope : Scope} {own : List (Str × Nat)} {pos spos py : Pos} {fi : Iv} {g : Gv} {tt : Tv} {fe : Ev}
end
end Rk

/-! Rk52: wishes for list comprehensions that may raise. -/
namespace Rk
open PySem PySem.Spec L2
section
variable {gd : Option (Nat × List Da)} {g : Gv} {tt : Tv} {fe : Ev} {ρ0 ρ1 : En} {h h1 h2 h3 h4 : Hh} {D : Nat} {d : Da} {ds : List Da} {v : Vl} {c : Str} {fs : List (Str × Da)}
theorem lcX_nil (e : gdOk gd h) : lcLX gd D g tt fe ρ0 [] h = .ok (.r D) h := by
  unfold lcLX
  rw [if_pos e]
theorem lcX_cons (e : gdOk gd h) (eg : g (.d d) ρ0 h = some (ρ1, h1)) (et : tt ρ1 h1 = .ok true h2) (ef : fe ρ1 h2 = .ok v h3) (ea : appL D v h3 = some h4) : lcLX gd D g tt fe ρ0 (d :: ds) h = lcLX gd D g tt fe ρ0 ds h4 := by
  rw [lcLX]
  rw [if_pos e, eg]
  dsimp only
  rw [et]
  dsimp only
  rw [ef]
  dsimp only
  rw [ea]
theorem lcX_ex (e : gdOk gd h) (eg : g (.d d) ρ0 h = some (ρ1, h1)) (et : tt ρ1 h1 = .ok true h2) (ef : fe ρ1 h2 = .ex c fs h3) : lcLX gd D g tt fe ρ0 (d :: ds) h = .ex c fs h3 := by
  rw [lcLX]
  rw [if_pos e, eg]
  dsimp only
  rw [et]
  dsimp only
  rw [ef]
end
section
variable {gd : Option (Nat × List Da)} {g : Gv} {fe : Ev} {ρ0 : En} {h : Hh} {α : Type} {f g' : α → Da} {P : α → Bool} {c : Str} {fs : List (Str × Da)}
theorem lcX_mapR (hgd : ∀ o, gdOk gd (h ++ [o])) : ∀ (xs : List α) (acc : List Da), (∀ x ∈ xs, ∀ h', ∃ ρ1, g (.d (f x)) ρ0 h' = some (ρ1, h') ∧ ((P x = true ∧ fe ρ1 h' = .ok (.d (g' x)) h') ∨ (P x = false ∧ fe ρ1 h' = .ex c fs h'))) → acc.length + xs.length ≤ 16777216 →
    (xs.all P = true ∧ lcLX gd h.length g tvYes fe ρ0 (xs.map f) (h ++ [some (.lst acc)]) = .ok (.r h.length) (h ++ [some (.lst (acc ++ xs.map g'))])) ∨ (xs.all P = false ∧ ∃ o, lcLX gd h.length g tvYes fe ρ0 (xs.map f) (h ++ [some (.lst acc)]) = .ex c fs (h ++ [o]))
  | [], acc, _, _ => by
    refine .inl ⟨rfl, ?_⟩
    rw [List.map_nil, lcX_nil (hgd _)]
    simp
  | d :: ds, acc, H, hl => by
    obtain ⟨ρ1, e1, e2⟩ := H d (List.mem_cons_self ..) (h ++ [some (.lst acc)])
    rw [List.length_cons] at hl
    rw [List.map_cons]
    rcases e2 with ⟨p, e2⟩ | ⟨p, e2⟩
    · rw [lcX_cons (hgd _) e1 rfl e2 (appL_end rfl (by omega))]
      have := lcX_mapR hgd ds (acc ++ [g' d]) (fun d hd => H d (List.mem_cons_of_mem _ hd)) (by rw [List.length_append, List.length_singleton]; omega)
      simpa [p] using this
    · rw [lcX_ex (hgd _) e1 rfl e2]
      exact .inr ⟨by simp [p], _, rfl⟩
end
section
variable {Q : Vl → Hh → Prop} {E : XP} {ρ : En} {h : Hh} {i : Iv} {g : Gv} {tt : Tv} {fe : Ev} {ws : List Nat}
/-- every part told by a function, or all at an end by the one exception -/
theorem wp_lcX {α : Type} (xs : List α) (f g' : α → Da) (P : α → Bool) (c : Str) (fs : List (Str × Da)) {ρ0 : En} (e00 : wipeE ρ ws = ρ0) (w : Wp (i ρ h) (fun m h1 => m = ⟨xs.map f, none⟩ ∧ xs.length ≤ 16777216 ∧ h1.length = h.length ∧
      (∀ x ∈ xs, ∀ h', GvK (g (.d (f x)) ρ0 h') fun ρ1 h2 => h2 = h' ∧ Wp (fe ρ1 h') (fun v h3 => h3 = h' ∧ P x = true ∧ v = .d (g' x)) (fun c' fs' h3 => h3 = h' ∧ P x = false ∧ c' = c ∧ fs' = fs)) ∧
      (xs.all P = true → Q (.d (.list (xs.map g'))) h1) ∧ (xs.all P = false → E c fs h1)) (fun c fs h1 => E c fs (h1.take h.length))) : Wp (eFz (eLcX ws i g tvYes fe) ρ h) Q E := by
  subst e00
  refine wp_fz (wp_bind (w.mono ?_ fun _ _ _ z => z))
  rintro m h1 ⟨rfl, hl, hh, H, q, qe⟩
  have lf := lcX_mapR (gd := none) (g := g) (fe := fe) (ρ0 := wipeE ρ ws) (h := h1) (f := f) (g' := g') (P := P) (c := c) (fs := fs) (fun _ => trivial) xs [] (fun d hd h' => by
    have k := H d hd h'
    unfold GvK Wo at k
    revert k
    cases e : g (.d (f d)) (wipeE ρ ws) h' with
    | none => exact fun z => z.elim
    | some p =>
      obtain ⟨ρ1, h2⟩ := p
      rintro ⟨rfl, wf⟩
      refine ⟨ρ1, rfl, ?_⟩
      have k := wf.w
      revert k
      cases fe ρ1 h2 with
      | ok v h3 => rintro ⟨rfl, p, rfl⟩; exact .inl ⟨p, rfl⟩
      | ex c' fs' h3 => rintro ⟨rfl, p, rfl, rfl⟩; exact .inr ⟨p, rfl⟩
      | no => exact fun z => z.elim) (by simpa using hl)
  rw [List.nil_append] at lf
  rcases lf with ⟨p, lf⟩ | ⟨p, o, lf⟩
  · exact wp_eq lf (fzk_end hh (q p))
  · refine ⟨?_⟩
    show Wp0 (lcLX none h1.length g tvYes fe (wipeE ρ ws) (xs.map f) (h1 ++ [some (.lst [])])) _ _
    rw [lf]
    show E c fs ((h1 ++ [o]).take h.length)
    rw [← hh, List.take_left]
    exact qe p
end
end Rk

/-! Rk53: name = [..], the block may let an exception out. -/
namespace Rk
open PySem PySem.Spec L2
section
variable {X : Cx} {W : WX} {elt tg iter : Expr} {ifs : List Expr} {scope : Scope} {own : List (Str × Nat)} {pos spos py : Pos} {fi : Iv} {g : Gv} {tt : Tv} {fe : Ev}
end
end Rk

/-! Rk54: as wp_lcX (Rk52), the list kept as one that may be changed. -/
namespace Rk
open PySem PySem.Spec L2
section
variable {Q : Vl → Hh → Prop} {E : XP} {ρ : En} {h : Hh} {i : Iv} {g : Gv} {tt : Tv} {fe : Ev} {ws : List Nat}
end
end Rk

/-! Rk55: deeds: a lambda without parameters, handed to a def that calls it. -/
namespace Rk
open PySem PySem.Spec L2
/-- what stands for the deed, what it tells -/
structure Deed where
  D : Dd
  T : Hh → Out Vl
open Classical in
noncomputable def eDeed (i : Nat) (d : Deed) : Ev := fun ρ h => match ρ[i]? with
  | some (some (.f D)) => if D = d.D then d.T h else .no
  | _ => .no
def cap1 : Option Vl → Option Vl0
  | some (.d x) => some (.d x)
  | some (.r n) => some (.r n)
  | _ => none
def up1 : Option Vl0 → Option Vl
  | some (.d x) => some (.d x)
  | some (.r n) => some (.r n)
  | none => none
def capE (ρ : En) : List (Option Vl0) := ρ.map cap1
def upE (ρ : List (Option Vl0)) : En := ρ.map up1
open Classical in
/-- whatever the addresses are -/
noncomputable def lamO (o : Addr → Addr → List (Option V) → Out Vl) : Out Vl := if z : ∃ r, ∀ f c σ, o f c σ = r then Classical.choose z else .no
/-- the maker's table stands where it is to stand -/
def hasTab (n : Nat) (x : Str) (h : Hh) : Bool := match h[n]? with
  | some (some (.tbl y)) => decide (y = x)
  | _ => false
noncomputable def eLam (n : Nat) (x : Str) (m : Deed → Fn) (fb : Ev) : Ev := fun ρ h => if hasTab n x h = true then
    lamO fun f c σ => m ⟨⟨f, c, x ++ ".<locals>." ++ "<lambda>", σ, capE ρ⟩, fun h' => fb (upE (capE ρ)) h'⟩ [.f ⟨f, c, x ++ ".<locals>." ++ "<lambda>", σ, capE ρ⟩] h
  else .no
/-! ### the deed done -/
def Act (Z : Cx) (d : Deed) : Prop := ∀ (W : WX) (pn : List (Addr × Obj)) (xe : Value → Shared → Prop) (a : Str) (i : Nat) (p1 p2 : Pos), Takes (Z.tr pn xe) W → Z.N[i]? = some a → Vis Z.env.scope a →
  (a == ("__debug__" : Str)) = false → (a == ("__classdict__" : Str)) = false → EE (Z.tr pn xe) W (.Call (.Name a p1) [] [] p2) (eDeed i d)
section
variable {X : Cx} {pins : List (Addr × Obj)} {σ : L2.St} {H : Hp} {s : Shared} {y : Str} {N : List Str} {sc scope : Scope} {g f c' : Addr} {cdv pm ctv : Value} {params : Arguments} {body : Expr} {k : Nat} {E0 : XK} {fb : Ev} {ρ : En}
end
/-! ### the def that does it -/
/-- a def whose first argument is a deed: it may do it -/
structure FnL (P : Program) (w : World) (K : PySem.W.Frag) (mg : Str → Option Value) (base : Heap) (k : Nat) (y : Str) (N : List Str) (sc : Scope) (g : Addr) (fd : FuncData) (ps : List Str) (m : Deed → Fn) : Prop where
  run : ∀ (d : Deed) (A : Around) (outer : List Env) (s : Shared) (H : Hp) (args : Args) (us : List Value) (vs : List V) (Q : VK) (E : XK), RoomG k A → (∀ cdv, Act (cxOf (L2.CX P w) P w K mg base N y sc g cdv A outer s H E) d) →
    Env0 P w K mg base A outer s H → BindsTo s fd args (ps.zip us) → Vals vs us → spF K mg (m d) vs H Q E → codeAny (model P w) A (.call (.ref g) args) (CR (L2.CX P w) outer P w H s Q E) s
def DfL (P : Program) (w : World) (K : PySem.W.Frag) (mg : Str → Option Value) (base : Heap) (k : Nat) (y : Str) (ps : List Str) (m : Deed → Fn) : Prop :=
  ∃ (g : Addr) (fd : FuncData) (N : List Str) (sc : Scope), mg y = some (.ref g) ∧ PySem.W.keepIn K (.ref g) = true ∧ Binds K fd ps [] ∧ FnL P w K mg base k y N sc g fd ps m
/-! ### y(lambda: body) -/
section
variable {K : PySem.W.Frag} {φ : List Addr} {h : Hh} {H H1 : Hp}
/-- the tables that stand -/
def tabsOf : List Addr → Hh → List (Addr × Str)
  | a :: φ, some (.tbl x) :: h => (a, x ++ ".<locals>." ++ "<lambda>") :: tabsOf φ h
  | _ :: φ, _ :: h => tabsOf φ h
  | _, _ => []
end
section
variable {X : Cx} {W : WX} {x y : Str} {c pt : Addr} {k j : Nat} {m : Deed → Fn} {params : Arguments} {body : Expr} {scope : Scope} {fb : Ev} {p lpos pos : Pos} {a : Str}
end
end Rk

/-! Rk56: the head where lambdas are made: tables of code objects. -/
namespace Rk
open PySem PySem.Spec L2 PyProof.Rows
/-! ### the fragment without the tables -/
abbrev tsOf (cs : List (Addr × Addr)) : List Addr := cs.map fun p => p.2
def csOf (K : PySem.W.Frag) (xs : List Str) : List (Addr × Addr) := xs.filterMap (PySem.W.tabIn K)
def cutT (K : PySem.W.Frag) (ts : List Addr) : PySem.W.Frag := K.filter fun p => !ts.contains p.1
def emptyT (K : PySem.W.Frag) (P : Addr) : Bool := match K.lookup P with
  | some ⟨.none, none, .fields vs, sl⟩ => vs.size == 0 && sl.size == 0
  | _ => false
def tabsB (K : PySem.W.Frag) (xs : List Str) : Bool := decide ((tsOf (csOf K xs)).Nodup) && (decide (xs.map (PySem.W.tabIn (cutT K (tsOf (csOf K xs)))) = (csOf K xs).map some) && (csOf K xs).all fun p => emptyT K p.2 && PySem.W.codeHdIn K p.1 p.2)
/-- what the head's heap has of the makers -/
structure TabsK (K : PySem.W.Frag) (h : Heap) (xs : List Str) (cs : List (Addr × Addr)) : Prop where
  nd : (tsOf cs).Nodup
  at_ : xs.map (PySem.W.tabIn K) = cs.map some
  no : ∀ p ∈ cs, K.lookup p.2 = none
  em : ∀ p ∈ cs, h.get? p.2 = some { cls := .none, data := .fields #[] }
  hd : ∀ p ∈ cs, PySem.W.CodeHd h p.1 p.2
/-! ### the Hook -/
def obsRT (n : Nat) (xs : List Str) (fa : List He.Fa) (fn : List He.DefD) (ex : PySem.W.Frag → Bool) (g : Addr → Option Obj) : AlR :=
  let K := He.frG g (asN g n [mainGlobals] ++ [cStatics])
  let K' := cutT K (tsOf (csOf K xs))
  (He.obsD fa fn K', ex K' && tabsB K xs)
def hookRT (n : Nat) (xs : List Str) (fa : List He.Fa) (fn : List He.DefD) (ex : PySem.W.Frag → Bool) : PySem.W.Hook where
  α := AlR
  obs := fun s => obsRT n xs fa fn ex s.heap.get?
  val := fun _ => (He.valD fn, true)
  says := fun _ h => ∃ K : PySem.W.Frag, K.In h ∧ tabsB K xs = true ∧ SaysR fa fn ex (cutT K (tsOf (csOf K xs)))
  of := fun _ _ e => by
    have e2 := (Bool.and_eq_true _ _).mp (congrArg (fun z : AlR => z.2) e)
    exact ⟨_, He.frG_in, e2.2, congrArg (fun z : AlR => z.1) e, e2.1⟩
  keeps := fun _ _ _ ⟨K, hK, t, c⟩ k => ⟨K, PySem.W.Frag.In.keeps hK k, t, c⟩
/-! ### the law's call -/
/-- the makers' tables as objects of the abstract heap -/
def tabH (xs : List Str) : Hh := xs.map fun x => some (.tbl x)
def scrT (a : Addr) (vs : List Value) (ns : List Int) (b : Bool) (ts : List Addr) : Hp := fun c => if c ∈ ts then some (.tbl #[]) else if c = a ∧ b = true then some (.frz { cls := .type "list", data := .seq vs.toArray } (.lst (ns.map V.int))) else none
end Rk

/-! Rk57: wishes for deeds. -/
namespace Rk
open PySem PySem.Spec L2
section
variable {Q : Vl → Hh → Prop} {E : XP} {ρ ρ' : En} {h h0 : Hh} {n i : Nat} {x : Str} {m : Deed → Fn} {fb : Ev} {v0 : Vl} {d : Deed}
end
end Rk

/-! Rk58: powers of great numbers. -/
namespace Rk
open PySem PySem.Spec L2
variable {mg : Str → Option Value}
def CPowG (i j : Int) : Prop := 0 ≤ j ∧ j ≤ 10000 ∧ Bd 10000 i
open Classical in
noncomputable def fPowG (a b : Int) : Option Da := if CPowG a b then some (.int (a ^ b.toNat)) else none
section
variable {K : PySem.W.Frag}
end
end Rk

/-! Rk59: more wishes: range of two, lists put together. -/
namespace Rk
open PySem PySem.Spec L2
section
variable {QI : Itm → Hh → Prop} {E : XP} {ρ : En} {h : Hh} {as : Av}
end
end Rk

/-! Rk60: a, b, c = x, y, z with plain local names. -/
namespace Rk
open PySem PySem.Spec L2
/-- a, b, c = x, y, z -/
def sPar3 (i j l : Nat) (fs : Av) : Sv := fun ρ h => Out.then ρ (fs ρ h) fun vs h1 => match vs with
  | [x, y, z] => .nx (((ρ.set i (some x)).set j (some y)).set l (some z)) h1
  | _ => .no
section
variable {mg : Str → Option Value}
theorem VReps.three {K : PySem.W.Frag} {φ : List Addr} {h : Hh} {H : Hp} {xs : List V} {v w u : Vl} (r : VReps K mg φ h H xs [v, w, u]) : ∃ x y z, xs = [x, y, z] ∧ VRep K mg φ h H x v ∧ VRep K mg φ h H y w ∧ VRep K mg φ h H z u := by
  cases r with
  | cons r t =>
    cases t with
    | cons r2 t2 =>
      cases t2 with
      | cons r3 t3 =>
        cases t3
        exact ⟨_, _, _, rfl, r, r2, r3⟩
end
section
variable {X : Cx} {W : WX} {pos : Pos}
end
section
variable {as : Av} {ρ : En} {h : Hh} {N : En → Hh → Prop} {R : Vl → Hh → Prop} {B C : En → Hh → Prop} {X : Str → List (Str × Da) → En → Hh → Prop}
end
end Rk

/-! Rk61: d.update(e), both dicts that may be changed. -/
namespace Rk
open PySem PySem.Spec L2
variable {mg : Str → Option Value}
def rUpdate : V → List V → Hp → VK → Prop := fun x vs H Q => ∃ (a b : Addr) (kvs zs : List (Key × V)), x = .ref a ∧ vs = [.ref b] ∧ H a = some (.dK kvs) ∧ H b = some (.dK zs) ∧ a ≠ b ∧ kvs.length + zs.length ≤ sizeLine ∧ Q .non (upd H a (.dK (mergeK kvs zs)))
/-- the dict of a reference -/
def asDk (v : Vl) (h : Hh) : Option (Nat × List (Key × Da)) := match v with
  | .r n => match h[n]? with
    | some (some (.dct kds)) => some (n, kds)
    | _ => none
  | _ => none
def tyDk (v : Vl) (h : Hh) : Bool := (asDk v h).isSome
def gUpd : GM := fun o as h => match as with
  | [w] => match asDk o h, asDk w h with
    | some (n, kds), some (m, zds) => if n ≠ m ∧ fitB (kds.length + zds.length) = true then some (.d .none, h.set n (some (.dct (zds.foldl (fun acc kv => putD acc kv.1 kv.2) kds)))) else none
    | _, _ => none
  | _ => none
section
variable {K : PySem.W.Frag} {φ : List Addr} {h : Hh} {H : Hp} {x : V} {v : Vl} {n : Nat} {kds : List (Key × Da)}
end
section
variable {h : Hh} {Q : Vl → Hh → Prop} {E : XP} {ρ : En} {o : Ev} {as : Av} {g : GM}
end
end Rk

/-! Rk62: repr of a dict that may be changed. -/
namespace Rk
open PySem PySem.Spec L2
section
variable {prog : Program} {w : World} {h₀ : Heap} {a : Addr} {A : Around} {E : Value → Shared → Prop} {s : Shared} {Q : Value → Shared → Prop}
end
def dD (kds : List (Key × Da)) : List (Da × Da) := kds.map fun p => (kD p.1, p.2)
def rReprD (K : PySem.W.Frag) (xs : List V) (H : Hp) (Q : VK) : Prop := ∃ (a : Addr) (kvs : List (Key × V)) (kds : List (Key × Da)) (M : Addr → Prop), xs = [.ref a] ∧ H a = some (.dK kvs) ∧ KvRep K H M kvs kds ∧ PyData.hasDictAll (kds.map (·.2)) = false ∧
  PyData.showable (.dict (dD kds)) = true ∧ PyData.depth (.dict (dD kds)) ≤ 60 ∧ (PyData.shown (.dict (dD kds))).length ≤ sizeLine ∧ Q (.str (PyData.shown (.dict (dD kds)))) H
/-- repr, of a dict that may be changed, too -/
def gReprA : GC := fun as h => match as with
  | [x] => match asDk x h with
    | some (_, kds) => if PyData.showable (.dict (dD kds)) && !PyData.hasDictAll (kds.map (·.2)) && decide (PyData.depth (.dict (dD kds)) ≤ 60) && fitB (PyData.shown (.dict (dD kds))).length then some (.d (.str (PyData.shown (.dict (dD kds)))), h) else none
    | none => gRepr [x] h
  | _ => none
variable {mg : Str → Option Value}
end Rk

/-! Rk63: dict(zip(xs, ys)) of two lists of one length. -/
namespace Rk
open PySem PySem.Spec PyProof.Rows L2
def tDictZip (K : PySem.W.Frag) (ta : TA) : TE := fun σ H Q => ta σ H fun vs H1 => ∃ (a b : Addr) (ks : List Key) (ys : List V), vs = [.ref a, .ref b] ∧ SqL K H1 a (ks.map kV) ∧ SqL K H1 b ys ∧ ks.length = ys.length ∧ ∀ p, H1 p = none → Q (.ref p) (upd H1 p (.dK (mergeK [] (ks.zip ys))))
/-- the keys of data -/
def keyD : Da → Option Key
  | .int i => some (.inl i)
  | .str x => some (.inr x)
  | _ => none
def keysD : List Da → Option (List Key)
  | [] => some []
  | d :: ds => (keyD d).bind fun k => (keysD ds).map (k :: ·)
/-- dict(zip(..)) -/
def gDZ : GC := fun vs h => match vs with
  | [x, y] => match asL x h, asL y h with
    | some xs, some ds => match keysD xs with
      | some ks => if ks.length = ds.length then some (.r h.length, h ++ [some (.dct ((ks.zip ds).foldl (fun acc kv => putD acc kv.1 kv.2) []))]) else none
      | none => none
    | _, _ => none
  | _ => none
section
variable {K : PySem.W.Frag} {H : Hp} {M : Addr → Prop}
end
section
variable {X : Cx} {W : WX} {e e2 : Expr} {fs : Av} {p p2 q pos : Pos}
end
end Rk

/-! Rk64: a dict that is changed no more, as data; its parts by their keys. -/
namespace Rk
open PySem PySem.Spec L2
variable {mg : Str → Option Value}
section
variable {K : PySem.W.Frag} {H : Hp} {M : Addr → Prop}
theorem KvRep.vals : ∀ {kvs : List (Key × V)} {kds : List (Key × Da)}, KvRep K H M kvs kds → Reps K H M (kvs.map (·.2)) (kds.map (·.2)) ∧ kvs.map (·.1) = kds.map (·.1)
  | _, _, .nil => ⟨.nil, rfl⟩
  | _, _, .cons r t => ⟨.cons r (KvRep.vals t).1, by rw [List.map_cons, List.map_cons, (KvRep.vals t).2]⟩
theorem zip_fst_snd : ∀ (kds : List (Key × Da)), (kds.map (·.1)).zip (kds.map (·.2)) = kds
  | [] => rfl
  | p :: r => by
    rw [List.map_cons, List.map_cons, List.zip_cons_cons, zip_fst_snd r]
theorem KvRep.dct {a : Addr} {kvs : List (Key × V)} {kds : List (Key × Da)} (e : H a = some (.dK kvs)) (n : ¬ M a) (r : KvRep K H M kvs kds) (ne : kds ≠ []) : Rep K H M (.ref a) (.dict (dD kds)) := by
  obtain ⟨r1, r2⟩ := r.vals
  refine .dct e n (fun z => ne ?_) r1 ?_
  · cases r with
    | nil => rfl
    | cons _ _ => cases z
  · rw [r2, zip_fst_snd]
    rfl
/-- the pairs of a dict as data -/
def unD : List (Da × Da) → Option (List (Key × Da))
  | [] => some []
  | p :: r => (keyD p.1).bind fun k => (unD r).map ((k, p.2) :: ·)
end
/-- d[k], of a dict as data, too -/
def gIz : G2 := fun x y h => match x with
  | .d (.dict kvs) => match keyOf y, unD kvs with
    | some k, some kds => if kds ≠ [] then (valD kds k).map fun d => (.d d, h) else none
    | _, _ => none
  | _ => gDG x y h
/-- a dict, as data from here on -/
def fzD (v : Vl) (h : Hh) : Option (Da × Hh) := match asDk v h with
  | some (n, kds) => if kds ≠ [] then some (.dict (dD kds), h.set n none) else none
  | none => none
def eFzD (f : Ev) : Ev := fun ρ h => match f ρ h with
  | .ok v h1 => match fzD v h1 with
    | some p => trunc h.length (.d p.1) p.2
    | none => .no
  | .ex c fs h1 => .ex c fs (h1.take h.length)
  | .no => .no
/-- either -/
def gIw : G2 := fun x y h => match gIz x y h with
  | some r => some r
  | none => gIx x y h
section
variable {X : Cx} {W : WX} {a b : Expr} {fa fb : Ev} {pos : Pos}
end
/-! ### wishes -/
def FzDK (v : Vl) (h : Hh) (n : Nat) (Q : Vl → Hh → Prop) : Prop := ∃ d h2, fzD v h = some (d, h2) ∧ Q (.d d) (h2.take n)
section
variable {h : Hh} {Q : Vl → Hh → Prop} {E : XP} {ρ : En} {a : Ev} {kds : List (Key × Da)} {x : Str} {d : Da} {n : Nat}
end
end Rk

/-! Rk65: raise C(e), C's own __init__ handing a text to its base's and keeping one field. -/
namespace Rk
open PySem PySem.Spec PyProof.Rows L2
section
variable {X : Cx} {e : Expr} {es : List Expr} {ta : TA} {p1 p2 pos : Pos} {r : Str} {R : Addr} {mc : Value}
end
/-- what an __init__ that keeps one field does -/
def spI (K : PySem.W.Frag) (C : Addr) (f : Str) : Sp := fun vs H Q _ => ∃ (a : Addr) (y : V), vs = [.ref a, y] ∧ H a = some (exo a C none) ∧ ∀ dx, H dx = none → dx ≠ a → Q .non (upd (upd H dx (exd dx [(f, y)])) a (exo a C (some dx)))
section
variable {P : Program} {w : World} {K : PySem.W.Frag} {mg : Str → Option Value} {base : Heap} {qual r f m : Str} {params : Arguments} {scope : Scope} {fI C R : Addr} {fd : FuncData} {mc : Value} {j : Nat} {p1 p2 p3 p4 p5 p6 p7 p8 p9 p10 : Pos}
end
/-- raise C(e) -/
def sRaise1 (c f : Str) (fe : Ev) : Sv := fun ρ h => Out.then ρ (fe ρ h) fun v h1 => match fz v h1 with
  | some (d, h2) => .ex c [(f, d)] ρ h2
  | none => .no
/-- a class whose __init__ keeps one field -/
def IniC (P : Program) (w : World) (K : PySem.W.Frag) (mg : Str → Option Value) (base : Heap) (c f : Str) : Prop :=
  ∃ (C fI : Addr) (fd : FuncData) (ps : List Str), mg c = some (.ref C) ∧ OexC K C ∧ PySem.W.findIn K (.ref C) "__init__" = some (some (.ref fI)) ∧ PySem.W.typeIn K (.ref fI) = some (.type "function") ∧ Binds K fd ps [] ∧ FnOk P w K mg base (L2.CX P w) 1 fI fd ps (spI K C f)
section
variable {X : Cx} {W : WX} {c f : Str} {e : Expr} {fe : Ev} {k : Nat} {p pos pos' : Pos}
end
end Rk

/-! Rk66: what the head tells of a class whose __init__ keeps a field. -/
namespace Rk
open PySem PySem.Spec PyProof.Rows L2
def oexB (K : PySem.W.Frag) (C : Addr) : Bool := (match K.lookup C with
  | some ⟨.type t, _, .cls cd, sl⟩ => (match cd.mro, sl.toList with
    | .ref C' :: bm, [_, _, _, _, some (.builtin n), _] => t == "type" && (C' == C && (n == "ValueError.__new__" && (!cd.hasDel && (cd.hasDict && PySem.HandSPX.refsVE bm))))
    | _, _ => false)
  | _ => false) && (decide (PySem.W.findIn K (.ref C) "__setattr__" = some (some (.builtin "object.__setattr__"))) && (decide (PySem.W.subIn K (.ref C) (.type "BaseException") = some true) && (decide (PySem.W.typeIn K (.ref C) = some (.type "type")) && PySem.W.keepIn K (.ref C))))
/-- the class c, its __init__, its field f, its base r -/
def iniB (K : PySem.W.Frag) (c f r : Str) : Bool := match clsAt K c, clsAt K r with
  | some C, some R => oexB K C && (decide (PySem.W.findIn K (.ref C) "__init__" = some (some (.ref (He.fAd K (c, some "__init__"))))) && (decide (PySem.W.typeIn K (.ref (He.fAd K (c, some "__init__"))) = some (.type "function")) && (decide (PySem.W.findIn K (.ref C) f = some none) &&
      (PySem.W.readsIn K R (.type "type") && (decide (PySem.W.specialIn K (.ref R) "__getattribute__" = some (some (.builtin "type.__getattribute__"))) && (match PySem.W.findCls K (.ref R) (.type "type") "__init__" with
        | some (.val (.builtin n)) => n == "ValueError.__init__"
        | _ => false))))))
  | _, _ => false
structure IniT (K : PySem.W.Frag) (mg : Str → Option Value) (c f r : Str) : Prop where
  ex : ∃ C R, mg c = some (.ref C) ∧ mg r = some (.ref R) ∧ OexC K C ∧ PySem.W.findIn K (.ref C) "__init__" = some (some (.ref (He.fAd K (c, some "__init__")))) ∧ PySem.W.typeIn K (.ref (He.fAd K (c, some "__init__"))) = some (.type "function") ∧ PySem.W.findIn K (.ref C) f = some none ∧
    ClX.CRead K R (.type "type") ∧ PySem.W.findCls K (.ref R) (.type "type") "__init__" = some (.val (.builtin "ValueError.__init__"))
/-- a def in a class's body -/
def inS (s : Stmt) (k : Nat) : Stmt := match s with
  | .ClassDef _ _ _ body _ _ _ _ _ _ _ => body.getD k (.Pass ⟨0, 0, 0, 0⟩)
  | _ => .Pass ⟨0, 0, 0, 0⟩
end Rk

/-! Rk67: a field of a caught error. -/
namespace Rk
open PySem PySem.Spec PyProof.Rows L2
def tXfO (K : PySem.W.Frag) (f : Str) (te : TE) : TE := fun σ H Q => te σ H fun x H1 => ∃ (a C dd : Addr) (fs : List (Str × V)) (v : V), x = .ref a ∧ H1 a = some (exO a (.ref C) (some dd)) ∧ XfC K C ∧ PySem.W.findIn K (.ref C) f = some none ∧ H1 dd = some (.xd fs) ∧ fs.lookup f = some v ∧ Q v H1
/-- classes whose instances keep the field f -/
structure XfT (K : PySem.W.Frag) (mg : Str → Option Value) (f : Str) (cs : List Str) : Prop where
  ex : ∀ c ∈ cs, ∃ C, mg c = some (.ref C) ∧ XfC K C ∧ PySem.W.findIn K (.ref C) f = some none
def xfT1 (K : PySem.W.Frag) (f c : Str) : Bool := match clsAt K c with
  | some C => xfB K C && decide (PySem.W.findIn K (.ref C) f = some none)
  | none => false
def xfTB (K : PySem.W.Frag) (f : Str) (cs : List Str) : Bool := cs.all (xfT1 K f)
/-- e.f, e a caught error -/
def eXf (cs : List Str) (f : Str) (fe : Ev) : Ev := fun ρ h => (fe ρ h).bind fun v h1 => match v with
  | .x c fs => if c ∈ cs then (match fs.lookup f with
    | some d => .ok (.d d) h1
    | none => .no) else .no
  | _ => .no
theorem FsRep.look {K : PySem.W.Frag} {H : Hp} {M : Addr → Prop} {f : Str} {d : Da} : ∀ {vs : List (Str × V)} {fs : List (Str × Da)}, FsRep K H M vs fs → fs.lookup f = some d → ∃ v, vs.lookup f = some v ∧ Rep K H M v d
  | _, _, .nil, e => by cases e
  | _, _, .cons (k := k) r t, e => by
    rw [List.lookup_cons] at e ⊢
    cases q : f == k with
    | true =>
      rw [q] at e
      cases e
      exact ⟨_, rfl, r⟩
    | false =>
      rw [q] at e
      exact FsRep.look t e
end Rk

/-! Rk68: targets = values, a tuple on both sides, some of the values things that are changed. -/
namespace Rk
open PySem PySem.Spec L2
/-- targets = x, y, .. -/
def sParN (n : Nat) (g : Gs) (fs : Av) : Sv := fun ρ h => Out.then ρ (fs ρ h) fun vs h1 => if fitB vs.length = true ∧ vs.length = n then ofG (g vs ρ h1) else .no
section
variable {X : Cx} {W : WX} {pos : Pos}
end
/-- a list of n, unpacked -/
def gTupL (n : Nat) (g : Gs) : Gv := fun v ρ h => match v with
  | .d (.list ds) => if ds.length = n then g (ds.map Vl.d) ρ h else none
  | _ => none
section
variable {X : Cx} {pos : Pos}
end
section
variable {h : Hh} {ρ : En} {N : En → Hh → Prop}
end
section
variable {as : Av} {ρ : En} {h : Hh} {N : En → Hh → Prop} {R : Vl → Hh → Prop} {B C : En → Hh → Prop} {X : Str → List (Str × Da) → En → Hh → Prop}
end
end Rk

/-! Rk69: comprehensions whose parts look at the heap that was there (wp_lcP, wp_lcXP), and lists kept for a change. -/
namespace Rk
open PySem PySem.Spec L2
section
variable {gd : Option (Nat × List Da)} {g : Gv} {tt : Tv} {fe : Ev} {ρ0 : En} {h : Hh} {α : Type} {f g' : α → Da} {P : α → Bool} {c : Str} {fs : List (Str × Da)}
theorem lc_mapP (hgd : ∀ o, gdOk gd (h ++ [o])) : ∀ (xs : List α) (acc : List Da), (∀ x ∈ xs, ∀ o, ∃ ρ1, g (.d (f x)) ρ0 (h ++ [o]) = some (ρ1, h ++ [o]) ∧ fe ρ1 (h ++ [o]) = .ok (.d (g' x)) (h ++ [o])) → acc.length + xs.length ≤ 16777216 →
    lcL gd h.length g tvYes fe ρ0 (xs.map f) (h ++ [some (.lst acc)]) = .ok (.r h.length) (h ++ [some (.lst (acc ++ xs.map g'))])
  | [], acc, _, _ => by
    rw [List.map_nil, lcL_nil (hgd _)]
    simp
  | d :: ds, acc, H, hl => by
    obtain ⟨ρ1, e1, e3⟩ := H d (List.mem_cons_self ..) (some (.lst acc))
    rw [List.length_cons] at hl
    rw [List.map_cons]
    rw [lcL_cons (hgd _) e1 rfl e3 (appL_end rfl (by omega)), lc_mapP hgd ds (acc ++ [g' d]) (fun d hd => H d (List.mem_cons_of_mem _ hd)) (by rw [List.length_append, List.length_singleton]; omega)]
    simp
theorem lcX_mapP (hgd : ∀ o, gdOk gd (h ++ [o])) : ∀ (xs : List α) (acc : List Da), (∀ x ∈ xs, ∀ o, ∃ ρ1, g (.d (f x)) ρ0 (h ++ [o]) = some (ρ1, h ++ [o]) ∧ ((P x = true ∧ fe ρ1 (h ++ [o]) = .ok (.d (g' x)) (h ++ [o])) ∨ (P x = false ∧ fe ρ1 (h ++ [o]) = .ex c fs (h ++ [o])))) → acc.length + xs.length ≤ 16777216 →
    (xs.all P = true ∧ lcLX gd h.length g tvYes fe ρ0 (xs.map f) (h ++ [some (.lst acc)]) = .ok (.r h.length) (h ++ [some (.lst (acc ++ xs.map g'))])) ∨ (xs.all P = false ∧ ∃ o, lcLX gd h.length g tvYes fe ρ0 (xs.map f) (h ++ [some (.lst acc)]) = .ex c fs (h ++ [o]))
  | [], acc, _, _ => by
    refine .inl ⟨rfl, ?_⟩
    rw [List.map_nil, lcX_nil (hgd _)]
    simp
  | d :: ds, acc, H, hl => by
    obtain ⟨ρ1, e1, e2⟩ := H d (List.mem_cons_self ..) (some (.lst acc))
    rw [List.length_cons] at hl
    rw [List.map_cons]
    rcases e2 with ⟨p, e2⟩ | ⟨p, e2⟩
    · rw [lcX_cons (hgd _) e1 rfl e2 (appL_end rfl (by omega))]
      have := lcX_mapP hgd ds (acc ++ [g' d]) (fun d hd => H d (List.mem_cons_of_mem _ hd)) (by rw [List.length_append, List.length_singleton]; omega)
      simpa [p] using this
    · rw [lcX_ex (hgd _) e1 rfl e2]
      exact .inr ⟨by simp [p], _, rfl⟩
end
section
variable {Q : Vl → Hh → Prop} {E : XP} {ρ : En} {h : Hh} {i : Iv} {g : Gv} {tt : Tv} {fe : Ev} {ws : List Nat}
theorem wp_lcP {α : Type} (xs : List α) (f g' : α → Da) {ρ0 : En} (e00 : wipeE ρ ws = ρ0) (w : Wp (i ρ h) (fun m h1 => m = ⟨xs.map f, none⟩ ∧ xs.length ≤ 16777216 ∧ h1.length = h.length ∧
      (∀ x ∈ xs, ∀ o, GvK (g (.d (f x)) ρ0 (h1 ++ [o])) fun ρ1 h2 => h2 = h1 ++ [o] ∧ Wp (fe ρ1 (h1 ++ [o])) (fun v h3 => h3 = h1 ++ [o] ∧ v = .d (g' x)) NX) ∧
      Q (.d (.list (xs.map g'))) h1) (fun c fs h1 => E c fs (h1.take h.length))) : Wp (eFz (eLc ws i g tvYes fe) ρ h) Q E := by
  subst e00
  refine wp_fz (wp_bind (w.mono ?_ fun _ _ _ z => z))
  rintro m h1 ⟨rfl, hl, hh, H, q⟩
  have lf := lc_mapP (gd := none) (g := g) (fe := fe) (ρ0 := wipeE ρ ws) (h := h1) (f := f) (g' := g') (fun _ => trivial) xs [] (fun d hd o => by
    have k := H d hd o
    unfold GvK Wo at k
    revert k
    cases e : g (.d (f d)) (wipeE ρ ws) (h1 ++ [o]) with
    | none => exact fun z => z.elim
    | some p =>
      obtain ⟨ρ1, h2⟩ := p
      rintro ⟨rfl, wf⟩
      obtain ⟨v, h3, e2, rfl, rfl⟩ := wp_out wf
      exact ⟨ρ1, rfl, e2⟩) (by simpa using hl)
  rw [List.nil_append] at lf
  exact wp_eq lf (fzk_end hh q)
theorem wp_lcXP {α : Type} (xs : List α) (f g' : α → Da) (P : α → Bool) (c : Str) (fs : List (Str × Da)) {ρ0 : En} (e00 : wipeE ρ ws = ρ0) (w : Wp (i ρ h) (fun m h1 => m = ⟨xs.map f, none⟩ ∧ xs.length ≤ 16777216 ∧ h1.length = h.length ∧
      (∀ x ∈ xs, ∀ o, GvK (g (.d (f x)) ρ0 (h1 ++ [o])) fun ρ1 h2 => h2 = h1 ++ [o] ∧ Wp (fe ρ1 (h1 ++ [o])) (fun v h3 => h3 = h1 ++ [o] ∧ P x = true ∧ v = .d (g' x)) (fun c' fs' h3 => h3 = h1 ++ [o] ∧ P x = false ∧ c' = c ∧ fs' = fs)) ∧
      (xs.all P = true → Q (.d (.list (xs.map g'))) h1) ∧ (xs.all P = false → E c fs h1)) (fun c fs h1 => E c fs (h1.take h.length))) : Wp (eFz (eLcX ws i g tvYes fe) ρ h) Q E := by
  subst e00
  refine wp_fz (wp_bind (w.mono ?_ fun _ _ _ z => z))
  rintro m h1 ⟨rfl, hl, hh, H, q, qe⟩
  have lf := lcX_mapP (gd := none) (g := g) (fe := fe) (ρ0 := wipeE ρ ws) (h := h1) (f := f) (g' := g') (P := P) (c := c) (fs := fs) (fun _ => trivial) xs [] (fun d hd o => by
    have k := H d hd o
    unfold GvK Wo at k
    revert k
    cases e : g (.d (f d)) (wipeE ρ ws) (h1 ++ [o]) with
    | none => exact fun z => z.elim
    | some p =>
      obtain ⟨ρ1, h2⟩ := p
      rintro ⟨rfl, wf⟩
      refine ⟨ρ1, rfl, ?_⟩
      have k := wf.w
      revert k
      cases fe ρ1 (h1 ++ [o]) with
      | ok v h3 => rintro ⟨rfl, p, rfl⟩; exact .inl ⟨p, rfl⟩
      | ex c' fs' h3 => rintro ⟨rfl, p, rfl, rfl⟩; exact .inr ⟨p, rfl⟩
      | no => exact fun z => z.elim) (by simpa using hl)
  rw [List.nil_append] at lf
  rcases lf with ⟨p, lf⟩ | ⟨p, o, lf⟩
  · exact wp_eq lf (fzk_end hh (q p))
  · refine ⟨?_⟩
    show Wp0 (lcLX none h1.length g tvYes fe (wipeE ρ ws) (xs.map f) (h1 ++ [some (.lst [])])) _ _
    rw [lf]
    show E c fs ((h1 ++ [o]).take h.length)
    rw [← hh, List.take_left]
    exact qe p
/-- a name is told its thing -/
def Kn (h : Hh) (kv : Vl) (n : Str) (d : Da) : Prop := ∀ (l : Hh) (Q : Vl → Hh → Prop), Q (.d d) (h ++ l) → Wo (gIw kv (.d (.str n)) (h ++ l)) Q
theorem Kn.app {kv : Vl} {n : Str} {d : Da} {l : Hh} (k : Kn h kv n d) : Kn (h ++ l) kv n d := fun l' Q q => by
  rw [List.append_assoc] at q ⊢
  exact k (l ++ l') Q q
end
end Rk

/-! Rk70: dicts of the top with text keys: d.get(x, y) of a constant dict. -/
namespace Rk
open PySem PySem.Spec L2
def seek (kds : List (Str × Da)) (z : Str) : Option Da := match kds with
  | [] => none
  | (k, d) :: r => if k = z then some d else seek r z
def kvB (K : PySem.W.Frag) : List (Str × Da) → List DictEntry → Bool
  | [], [] => true
  | (k, d) :: r, e :: es => (match e.key with | .str x _ => decide (x = k) | _ => false) && (cB K d e.val && kvB K r es)
  | _, _ => false
def kdB (K : PySem.W.Frag) (x : Str) (kds : List (Str × Da)) : Bool := match PySem.W.nsIn K mainGlobals x with
  | some (some (.ref a)) => (match K.lookup a with
    | some ⟨_, _, .dict es _, _⟩ => kvB K kds es.toList
    | _ => false)
  | _ => false
def dicN (K : PySem.W.Frag) (x : Str) : Option (List (Option (Str × Int))) := match PySem.W.nsIn K mainGlobals x with
  | some (some (.ref a)) => He.dicW K a
  | _ => none
/-- a constant dict: where it stands, what it holds -/
def GDict (K : PySem.W.Frag) (w : World) (mg : Str → Option Value) (x : Str) (kds : List (Str × Da)) : Prop :=
  ∃ a es n, mg x = some (.ref a) ∧ KDict K w a es n ∧ ∀ z, match seek kds z with
    | none => PySem.W.nsIn K a z = some none
    | some d => ∃ v u, PySem.W.nsIn K a z = some (some u) ∧ RelV v u ∧ KRep K v d
/-- d.get(x, y) -/
def rGetC (K : PySem.W.Frag) (kds : List (Str × Da)) : R2 := fun x y H Q => ∃ z, x = .str z ∧ match seek kds z with
  | none => Q y H
  | some d => ∀ v, KRep K v d → Q v H
def gGetC (kds : List (Str × Da)) : G2 := fun x y h => match x with
  | .d (.str z) => some ((match seek kds z with | none => y | some d => .d d), h)
  | _ => none
section
variable {X : Cx} {W : WX} {x : Str} {kds : List (Str × Da)} {e f : Expr} {apos npos cpos : Pos} {ty tx : TE} {fe ff : Ev} {mg : Str → Option Value} {K : PySem.W.Frag}
end
end Rk

/-! Rk71: the head with dicts of the top. -/
namespace Rk
open PySem PySem.Spec L2
abbrev AlW : Type := AlR × List (Option (List (Option (Str × Int))))
def TabsW (tn : List (Str × List Str)) (w : World) (K : PySem.W.Frag) : Prop := tn.map (fun t => dicN K t.1) = tn.map fun t => some (He.keysIn w.params t.2)
theorem TabsW.at_ {tn : List (Str × List Str)} {w : World} {K : PySem.W.Frag} (T : TabsW tn w K) (i : Nat) {t : Str × List Str} (h : tn[i]? = some t := by rfl) : dicN K t.1 = some (He.keysIn w.params t.2) := by
  have e2 : (tn.map fun t => dicN K t.1)[i]? = (tn.map fun t => some (He.keysIn w.params t.2))[i]? := by rw [T]
  rw [List.getElem?_map, List.getElem?_map, h] at e2
  exact Option.some.inj e2
def obsRW (n : Nat) (tn : List (Str × List Str)) (fa : List He.Fa) (fn : List He.DefD) (ex : PySem.W.Frag → Bool) (g : Addr → Option Obj) : AlW :=
  (obsR n fa fn ex g, tn.map fun t => dicN (He.frG g (asN g n [mainGlobals] ++ [cStatics])) t.1)
def valRW (tn : List (Str × List Str)) (fn : List He.DefD) (w : World) : AlW := ((He.valD fn, true), tn.map fun t => some (He.keysIn w.params t.2))
def hookRW (n : Nat) (tn : List (Str × List Str)) (fa : List He.Fa) (fn : List He.DefD) (ex : PySem.W.Frag → Bool) : PySem.W.Hook where
  α := AlW
  obs := fun s => obsRW n tn fa fn ex s.heap.get?
  val := fun w => valRW tn fn w
  says := fun w h => ∃ K : PySem.W.Frag, K.In h ∧ SaysR fa fn ex K ∧ TabsW tn w K
  of := fun _ _ e => ⟨_, He.frG_in, ⟨congrArg (fun z : AlW => z.1.1) e, congrArg (fun z : AlW => z.1.2) e⟩, congrArg (fun z : AlW => z.2) e⟩
  keeps := fun _ _ _ ⟨K, hK, c⟩ k => ⟨K, PySem.W.Frag.In.keeps hK k, c⟩
def obsRTW (n : Nat) (tn : List (Str × List Str)) (xs : List Str) (fa : List He.Fa) (fn : List He.DefD) (ex : PySem.W.Frag → Bool) (g : Addr → Option Obj) : AlW :=
  let K := He.frG g (asN g n [mainGlobals] ++ [cStatics])
  (obsRT n xs fa fn ex g, tn.map fun t => dicN (cutT K (tsOf (csOf K xs))) t.1)
def hookRTW (n : Nat) (tn : List (Str × List Str)) (xs : List Str) (fa : List He.Fa) (fn : List He.DefD) (ex : PySem.W.Frag → Bool) : PySem.W.Hook where
  α := AlW
  obs := fun s => obsRTW n tn xs fa fn ex s.heap.get?
  val := fun w => valRW tn fn w
  says := fun w h => ∃ K : PySem.W.Frag, K.In h ∧ tabsB K xs = true ∧ SaysR fa fn ex (cutT K (tsOf (csOf K xs))) ∧ TabsW tn w (cutT K (tsOf (csOf K xs)))
  of := fun _ _ e => by
    have e2 := (Bool.and_eq_true _ _).mp (congrArg (fun z : AlW => z.1.2) e)
    exact ⟨_, He.frG_in, e2.2, ⟨congrArg (fun z : AlW => z.1.1) e, e2.1⟩, congrArg (fun z : AlW => z.2) e⟩
  keeps := fun _ _ _ ⟨K, hK, t, c⟩ k => ⟨K, PySem.W.Frag.In.keeps hK k, t, c⟩
end Rk

/-! Rk72: len(set(xs)), xs a list or a tuple of any texts. -/
namespace Rk
open PySem PySem.Spec L2 PyProof.Rows
/-- the unlike ones of some texts, as they are met -/
def unl (xs : List Str) : List Str := xs.foldl (fun met x => if x ∈ met then met else met ++ [x]) []
theorem unl_snoc (xs : List Str) (x : Str) : unl (xs ++ [x]) = if x ∈ unl xs then unl xs else unl xs ++ [x] := by
  unfold unl
  rw [List.foldl_append]
  rfl
theorem mem_unl (y : Str) (xs : List Str) : y ∈ unl xs ↔ y ∈ xs := by
  induction h : xs.reverse generalizing xs with
  | nil =>
    have : xs = [] := by simpa using h
    subst this
    exact Iff.rfl
  | cons z zs ih =>
    have e : xs = zs.reverse ++ [z] := by
      have := congrArg List.reverse h
      simpa using this
    subst e
    have i := ih zs.reverse (by simp)
    rw [unl_snoc]
    split
    · rename_i hz
      rw [i]
      simp only [List.mem_append, List.mem_singleton]
      constructor
      · exact .inl
      · rintro (q | rfl)
        · exact q
        · have := ih zs.reverse (by simp)
          exact i.mp hz
    · simp only [List.mem_append, List.mem_singleton, i]
theorem unl_len (xs : List Str) : (unl xs).length ≤ xs.length := by
  induction h : xs.reverse generalizing xs with
  | nil =>
    have : xs = [] := by simpa using h
    subst this
    exact Nat.le_refl _
  | cons z zs ih =>
    have e : xs = zs.reverse ++ [z] := by
      have := congrArg List.reverse h
      simpa using this
    subst e
    have i := ih zs.reverse (by simp)
    rw [unl_snoc]
    split <;> simp only [List.length_append, List.length_singleton] <;> omega
def metB (xs : List Str) : Str → Bool := fun y => decide (y ∈ xs)
section
variable {prog : Program} {w : World} {A : Around} {R : Result → Shared → Prop} {I : Addr} {fp wr : List Addr} {G : Array GenState → Array GenState → Prop} {n : Nat} {P : Nat → Value → Prop} {St : Nat → Shared → Prop}
theorem setOf_moved {S : Addr} {f : Str → Bool} {m : Nat} {h1 h2 : Heap} (k : ∀ o, h1.get? S = some o → h2.get? S = some o) (x : h1.SetOf (PySem.strKind prog w) S f m) : h2.SetOf (PySem.strKind prog w) S f m :=
  let ⟨o, es, ep, t, ho, rest⟩ := x
  ⟨o, es, ep, t, k o ho, rest⟩
/-- the rest of a walk's texts, put into the set one by one -/
theorem fill_texts (walk : WalksS prog w A.in1 I fp wr G n P St) (S : Addr) (out : S ∉ fp) (xs : List Str) (hx : xs.length = n) (room : n + 1 < scanBound) (val : ∀ i v, P i v → ∃ t, v = .str (xs.getD i Str.empty) t) (j : Nat) :
    ∀ (i : Nat) (s : Shared), i + j = n → St i s → s.heap.SetOf (PySem.strKind prog w) S (metB (xs.take i)) (unl (xs.take i)).length →
      (∀ s2, Moved (S :: wr) G s s2 → s2.heap.SetOf (PySem.strKind prog w) S (metB xs) (unl xs).length → R (.ok (.ret .none)) s2) →
      codeAny (model prog w) A (.builtin "set.update.loop" ⟨[.ref S, .ref I], []⟩) R s := by
  have notw : S ∉ wr := fun z => out (walk.sub _ z)
  have more : ∀ b ∈ wr, b ∈ S :: wr := fun _ z => List.mem_cons_of_mem _ z
  induction j with
  | zero =>
    intro i s e st has fin
    have ein : i = n := by omega
    subst ein
    have all : xs.take i = xs := by rw [← hx, List.take_length]
    rw [all] at has
    refine codeAny_builtin PyProof.Rows.F.entry_set_update_loop ?_
    rw [Around.under_plainId PyProof.Rows.F.plain_set_update_loop _]
    show wpAny _ A.in1 (pyNext (.ref I) >>= _) _ _ s
    refine wpAny_bind (walk.done s _ _ st fun s2 mv => ?_)
    show wpAny _ A.in1 (ret Value.none) _ _ s2
    exact wpAny_pure (fin s2 (mv.mono more) (setOf_moved (fun o z => mv.heap S o notw z) has))
  | succ j ih =>
    intro i s e st has fin
    have lt : i < n := by omega
    have ei : xs[i]? = some (xs.getD i Str.empty) := by
      rw [List.getD_eq_getElem?_getD, List.getElem?_eq_getElem (by omega)]
      rfl
    have cut : xs.take (i + 1) = xs.take i ++ [xs.getD i Str.empty] := by rw [List.take_add_one, ei]; rfl
    refine codeAny_builtin PyProof.Rows.F.entry_set_update_loop ?_
    rw [Around.under_plainId PyProof.Rows.F.plain_set_update_loop _]
    show wpAny _ A.in1 (pyNext (.ref I) >>= _) _ _ s
    refine wpAny_bind (walk.item i s _ _ lt st fun v s2 pv st2 mv => ?_)
    obtain ⟨t, rfl⟩ := val i v pv
    have has2 := setOf_moved (fun o z => mv.heap S o notw z) has
    generalize hz : xs.getD i Str.empty = z at *
    show wpAny _ A.in1 (holding [Value.str z t] (setAdd S (.str z t)) >>= _) _ _ s2
    refine wpAny_bind (wpAny_holding ?_)
    unfold setAdd
    refine wpAny_holding ?_
    refine wpAny_bind ((PySem.strKind prog w).pyHash (k := z) (strKind_is _ _ _ _) ?_)
    have small := unl_len (xs.take i)
    have small2 : (xs.take i).length ≤ i := by rw [List.length_take]; omega
    refine wpAny_setAddHashed_of (knd := PySem.strKind prog w) (s := { s2 with toks := s2.toks + 1 }) (strKind_is _ _ _ _) rfl has2 (by omega) fun h2 same has3 => ?_
    have has4 : h2.SetOf (PySem.strKind prog w) S (metB (xs.take (i + 1))) (unl (xs.take (i + 1))).length := by
      refine SetOf_congr has3 (fun y => ?_) ?_
      · unfold metB
        rw [cut]
        by_cases q1 : y ∈ xs.take i <;> by_cases q2 : y = z <;> simp [q1, q2]
      · rw [cut, unl_snoc]
        unfold metB
        by_cases q : z ∈ xs.take i
        · rw [if_pos (decide_eq_true q), if_pos ((mem_unl _ _).mpr q)]
        · rw [if_neg (by simpa using q), if_neg (fun c => q ((mem_unl _ _).mp c)), List.length_append]
          rfl
    have ne : ∀ {b : Addr}, b ∈ fp → b ≠ S := fun hb c => out (c ▸ hb)
    refine wpAny_pure ⟨plainId_quiet PyProof.Rows.F.plain_set_update_loop _, ih (i + 1) _ (by omega) (walk.frame _ s2 _ _ st2 (Nat.le_succ _) fun b hb o z => ?_) has4 fun s3 mv3 has5 => ?_⟩
    · rw [same.2 b (ne hb)]
      exact z
    · refine fin s3 (Moved.trans walk.gtrans ((mv.mono more).then_heap (Nat.le_succ _) fun b o hb z => ?_) mv3) has5
      rw [same.2 b (fun c => hb (by rw [c]; exact List.mem_cons_self))]
      exact z
end
section
variable {prog : Program} {w : World} {A : Around} {E : Value → Shared → Prop} {s : Shared}
abbrev emptySet (led : Bool) : Obj := { cls := .type "set", dict := none, data := .set #[] 0 (.fresh 0 0 led) }
abbrev seqSrc (T : String) (od : Option Addr) (items : Array Value) (nl : Nat) (osl : Array (Option Value)) : Obj := { cls := .type T, dict := od, data := .seq items nl, slots := osl }
abbrev iterOf (itc : String) (src : Addr) : Obj := { cls := .type itc, data := .fields #[.ref src, .int 0 0] }
/-- set(xs): T is list or tuple -/
theorem make_texts {T itc : String} {src : Addr} {items : Array Value} {xs : List Str} {Q : Value → Shared → Prop} {St : Addr → Nat → Heap → Prop} (free : A.handled = none) {od : Option Addr} {nl : Nat} {osl : Array (Option Value)}
    (at_ : s.heap.get? src = some (seqSrc T od items nl osl)) (vals : PyProof.Rows.StrsAre items.toList xs) (room : xs.length + 1 < scanBound)
    (sub1 : isSubtype (.type T) (.type "set") = pure false) (sub2 : isSubtype (.type T) (.type "frozenset") = pure false) (nd : (Value.type T == Value.type "dict") = false)
    (iter : ∀ {A' : Around} {E' : Value → Shared → Prop} {s' : Shared} {Q' : Value → Shared → Prop}, s'.heap.get? src = some (seqSrc T od items nl osl) →
      Q' (.ref s'.heap.objs.size) { s' with heap := s'.heap.push (iterOf itc src) } → wpAny (model prog w) A' (pyIter (.ref src)) Q' E' s')
    (walks : ∀ {A' : Around} (I : Addr), A'.handled = none → src ≠ I → Walks prog w A' I [I, src] [I] items.size (fun i v => items[i]? = some v) (St I))
    (start : ∀ (h : Heap), h.get? src = some (seqSrc T od items nl osl) → St h.objs.size 0 (h.push (iterOf itc src)))
    (h : ∀ (h2 : Heap) (tk : Nat), h2.SetOf (PySem.strKind prog w) s.heap.objs.size (metB xs) (unl xs).length → (∀ b o, b < s.heap.objs.size → s.heap.get? b = some o → h2.get? b = some o) → Q (.ref s.heap.objs.size) { s with heap := h2, toks := tk }) :
    wpAny (model prog w) A (call (.type "set") [.ref src]) Q E s := by
  have tc := PySem.F.called_set
  obtain ⟨c0, tl0, mro0⟩ := tc.mro
  have made0 := tc.made
  have subt0 := tc.sub
  refine wpAny_call (codeAny_of_tree ?_)
  show wpAny _ _ (callAny (.type "set") _) _ _ _
  refine wpAny_pure ⟨Code.quiet_builtin _ (by decide +kernel), codeAny_builtin (PySem.F.entry_type_call) ?_⟩
  rw [Around.under_plain (weight_type_call_type "set" [.ref src] []) rfl]
  have not0 := tc.notType
  have can0 := tc.canCreate
  have chk0 := PySem.F.typeCall_set_1 (.ref src)
  repeat (any_goals (first | wp_step | assumption))
  refine codeAny_mono (code_set_new_1 (.ref src) (E := E) (Q₁ := fun v s1 => ∃ led : Bool, v = .ref s.heap.objs.size ∧ s1 = { s with heap := s.heap.push (emptySet led) }) fun led => ⟨led, rfl, rfl⟩) fun r s1 hr => ?_
  match r, hr with
  | .error _, hr => exact hr
  | .ok (.ret v), hr =>
    obtain ⟨led, rfl, rfl⟩ := hr
    have top : (s.heap.push (emptySet led)).get? s.heap.objs.size = some (emptySet led) := Heap.get?_push_size _ rfl
    have isSet : Shared.TypeIs { s with heap := s.heap.push (emptySet led) } (.ref s.heap.objs.size) "set" := ⟨_, top, rfl⟩
    have init1 := tc.init.lookup
    have init2 := tc.init.bind (.ref s.heap.objs.size)
    repeat (any_goals (first | wp_step | assumption))
    refine codeAny_mono (codeAny_call_builtin (R := wants (fun r s2 => r = .none ∧ ∃ h2 tk, s2 = { s with heap := h2, toks := tk } ∧ h2.SetOf (PySem.strKind prog w) s.heap.objs.size (metB xs) (unl xs).length ∧
        (∀ b o, b < s.heap.objs.size → s.heap.get? b = some o → h2.get? b = some o)) E) tc.init.plain PySem.F.entry_set_init (check_set_init_1 isSet ?_)) fun r2 s2 hr2 => ?_
    · have at1 : (s.heap.push (emptySet led)).get? src = some (seqSrc T od items nl osl) := Heap.get?_push_of_some _ at_
      unfold Builtin.«set.__init__» noKeywords Builtin.Frozenset.updateFrom
      generalize hPI : pyIter = PI
      wp_walk
      subst hPI
      refine iter at1 ?_
      refine wpAny_bind (wpAny_runValue ?_)
      have low : src < s.heap.objs.size := Heap.lt_size at_
      have free3 : A.in1.in1.in1.handled = none := by simp [free]
      have two : (s.heap.push (emptySet led)).objs.size = s.heap.objs.size + 1 := Heap.size_push ..
      have far : src ≠ (s.heap.push (emptySet led)).objs.size := by
        rw [two]
        exact Nat.ne_of_lt (Nat.lt_succ_of_lt low)
      have out : s.heap.objs.size ∉ [(s.heap.push (emptySet led)).objs.size, src] := by
        simp only [List.mem_cons, List.not_mem_nil, or_false, not_or]
        rw [two]
        exact ⟨Nat.ne_of_lt (Nat.lt_succ_self _), Nat.ne_of_gt low⟩
      have len : xs.length = items.size := by rw [← StrsAre.len_eq vals, Array.length_toList]
      refine fill_texts ((walks _ free3 far).toS) s.heap.objs.size out xs len (by omega) (fun i v hv => SS.strs_at vals i v (by rw [Array.getElem?_toList]; exact hv)) items.size 0 _ (by omega) (start _ at1) ?has ?fin
      case has =>
        have top2 : ((s.heap.push (emptySet led)).push (iterOf itc src)).get? s.heap.objs.size = some (emptySet led) := Heap.get?_push_of_some _ top
        exact SetOf_congr ((setObjOf_fresh (knd := PySem.strKind prog w) led).setOf top2 (by unfold scanBound; omega)) (fun y => by simp [metB]) rfl
      case fin =>
        intro s3 mv has
        obtain ⟨h3, g3, d3, t3, o3⟩ := s3
        obtain rfl : g3 = s.gens := mv.gens
        obtain rfl : d3 = s.drawn := mv.drawn
        obtain rfl : o3 = s.os := mv.os
        show wpAny _ _ _ _ _ _
        refine wpAny_pure ?_
        show wpAny _ _ (ret Value.none) _ _ _
        refine wpAny_pure ⟨rfl, h3, t3, rfl, has, fun b o hb z => ?_⟩
        refine mv.heap b o ?_ (Heap.get?_push_of_some _ (Heap.get?_push_of_some _ z))
        simp only [List.mem_cons, List.not_mem_nil, or_false, not_or]
        rw [two]
        exact ⟨Nat.ne_of_lt hb, Nat.ne_of_lt (Nat.lt_succ_of_lt hb)⟩
    · match r2, hr2 with
      | .error _, hr2 => exact hr2
      | .ok (.ret r), hr2 =>
        obtain ⟨rfl, h2, tk, rfl, has, keep⟩ := hr2
        repeat (any_goals (first | wp_step | assumption))
        exact h _ _ has keep
theorem set_list {src : Addr} {items : Array Value} {xs : List Str} {Q : Value → Shared → Prop} (free : A.handled = none) (L : s.heap.IsList src items) (vals : PyProof.Rows.StrsAre items.toList xs) (room : xs.length + 1 < scanBound)
    (h : ∀ (h2 : Heap) (tk : Nat), h2.SetOf (PySem.strKind prog w) s.heap.objs.size (metB xs) (unl xs).length → (∀ b o, b < s.heap.objs.size → s.heap.get? b = some o → h2.get? b = some o) → Q (.ref s.heap.objs.size) { s with heap := h2, toks := tk }) :
    wpAny (model prog w) A (call (.type "set") [.ref src]) Q E s := by
  obtain ⟨⟨cls, od, dt, osl⟩, at_, c, nl, d⟩ := L
  dsimp only at c d
  subst c d
  exact make_texts (itc := "list_iterator") (St := fun I i h => h.IsListIter I src i ∧ h.IsList src items) free at_ vals room PySem.F.sub_list_set PySem.F.sub_list_frozenset (by decide) (fun e q => wpAny_pyIter_list ⟨_, e, rfl, nl, rfl⟩ q) (fun I f n => Walks.list f I src n items)
    (fun h' e => ⟨⟨_, Heap.get?_push_size _ rfl, rfl, rfl⟩, ⟨_, Heap.get?_push_of_some _ e, rfl, nl, rfl⟩⟩) h
end
end Rk

/-! Rk73: len(set(xs)) of texts. -/
namespace Rk
open PySem PySem.Spec L2 PyProof.Rows
def tUnl (K : PySem.W.Frag) (ta : TE) : TE := fun σ H Q => ta σ H fun x H1 => ∃ (l : Addr) (xs : List Str), x = .ref l ∧ (SqL K H1 l (xs.map V.str) ∨ SqT K H1 l (xs.map V.str)) ∧ xs.length ≤ 4000 ∧ Q (.int ((unl xs).length : Nat)) H1
section
variable {X : Cx} {W : WX} {a : Expr} {ta : TE} {fa : Ev} {p p2 q pos : Pos}
def eUnl (f : Ev) : Ev := fun ρ h => (f ρ h).bind fun v h1 => match (asQ v h1).bind strsOf with
  | some xs => if xs.length ≤ 4000 then .ok (.d (.int ((unl xs).length : Nat))) h1 else .no
  | none => .no
end
section
variable {Q : Vl → Hh → Prop} {E : XP} {ρ : En} {h : Hh} {f : Ev}
def UnlK (v : Vl) (h : Hh) (Q : Vl → Hh → Prop) : Prop := ∃ xs, (asQ v h).bind strsOf = some xs ∧ xs.length ≤ 4000 ∧ Q (.d (.int ((unl xs).length : Nat))) h
end
end Rk

/-! Rk74: dict(ps), ps a list of pairs. -/
namespace Rk
open PySem PySem.Spec L2 PyProof.Rows
variable {mg : Str → Option Value}
def pairsD : List Da → Option (List (Key × Da))
  | [] => some []
  | .tuple [k, v] :: r => (keyD k).bind fun q => (pairsD r).map ((q, v) :: ·)
  | _ => none
def gDP : GC := fun vs h => match vs with
  | [v] => match asL v h with
    | some ds => match pairsD ds with
      | some kds => some (.r h.length, h ++ [some (.dct (kds.foldl (fun acc kv => putD acc kv.1 kv.2) []))])
      | none => none
    | none => none
  | _ => none
def rDP (K : PySem.W.Frag) : List V → Hp → VK → Prop := fun xs H Q => ∃ (a : Addr) (ps : List Addr) (kvs : List (Key × V)), xs = [.ref a] ∧ SqL K H a (ps.map V.ref) ∧ Paired (fun p kv => SqT K H p [kV kv.1, kv.2]) ps kvs ∧
    ∀ p, H p = none → Q (.ref p) (upd H p (.dK (mergeK [] kvs)))
section
variable {K : PySem.W.Frag} {H : Hp} {M : Addr → Prop}
end
section
variable {h : Hh} {Q : Vl → Hh → Prop} {ds : List Da} {kds : List (Key × Da)}
end
end Rk

/-! Rk75: x in d (a dict), c in t (a sign of a text). -/
namespace Rk
open PySem PySem.Spec L2 PyProof.Rows
variable {mg : Str → Option Value}
def rInDk (neg : Bool) : R2 := fun x y H Q => ∃ (a : Addr) (kvs : List (Key × V)) (k : Key), x = kV k ∧ y = .ref a ∧ H a = some (.dK kvs) ∧ Q (.bl (if neg = true then !(valV kvs k).isSome else (valV kvs k).isSome)) H
/-- the entries of a dict that may be changed, or is data -/
def asDd (v : Vl) (h : Hh) : Option (List (Key × Da)) := match v with
  | .d (.dict kds) => if kds = [] then none else unD kds
  | v => (asDk v h).map (·.2)
def gInD (neg : Bool) : G2 := fun x y h => match keyOf x, asDd y h with
  | some k, some kds => some (.d (.bool (if neg = true then !(valD kds k).isSome else (valD kds k).isSome)), h)
  | _, _ => none
/-- a sign in a text -/
def rInS (neg : Bool) : R2 := fun x y H Q => ∃ (c : Nat) (z : Str), x = .str ⟨#[c]⟩ ∧ y = .str z ∧ Q (.bl (if neg = true then !decide (c ∈ z.cps.toList) else decide (c ∈ z.cps.toList))) H
def gInS (neg : Bool) : G2 := fun x y h => match x, y with
  | .d (.str s), .d (.str z) => (match s.cps.toList with
    | [c] => some (.d (.bool (if neg = true then !decide (c ∈ z.cps.toList) else decide (c ∈ z.cps.toList))), h)
    | _ => none)
  | _, _ => none
theorem op_inS {X : Cx} : OpR X (compareOp .In) (rInS false) := fun pins s σ H x y v u Q I rx ry ⟨c, z, e1, e2, q⟩ => op_in_sign pins s σ H x y v u Q I rx ry ⟨c, z, e1, e2, q⟩
theorem op_notInS {X : Cx} : OpR X (compareOp .NotIn) (rInS true) := fun pins s σ H x y v u Q I rx ry ⟨c, z, e1, e2, q⟩ => op_notIn_sign pins s σ H x y v u Q I rx ry ⟨c, z, e1, e2, q⟩
theorem ok_inS {K : PySem.W.Frag} (neg : Bool) : Ok2 K mg (rInS neg) (gInS neg) := by
  intro φ h H x y a b Q v h' sm rx ry e k
  unfold gInS at e
  split at e
  · rename_i s z
    split at e
    · rename_i c ec
      cases e
      cases rx
      cases ry
      have es : s = ⟨#[c]⟩ := by
        obtain ⟨cs⟩ := s
        obtain ⟨l⟩ := cs
        cases ec
        rfl
      subst es
      exact ⟨c, z, rfl, rfl, k _ H φ (Step.refl _ _ _) sm (Rep.bl _)⟩
    · cases e
  · cases e
section
variable {h : Hh} {Q : Vl → Hh → Prop} {n : Nat} {kds : List (Key × Da)} {x : Str} {b : Bool}
theorem wo_inS {c : Nat} {z : Str} (q : Q (.d (.bool (decide (c ∈ z.cps.toList)))) h) : Wo (gInS false (.d (.str ⟨#[c]⟩)) (.d (.str z)) h) Q := wo_eq (v := .d (.bool (decide (c ∈ z.cps.toList)))) (h' := h) rfl q
end
end Rk

/-! Rk76: a text walked sign by sign. -/
namespace Rk
open PySem PySem.Spec L2
/-- the signs of a text, each as a text -/
def sgn (x : Str) : List Da := x.cps.toList.map fun c => .str ⟨#[c]⟩
def itS (v : Vl) (h : Hh) : Out Itm := match v with
  | .d (.str x) => .ok ⟨sgn x, none⟩ h
  | _ => .no
theorem str_it {K : PySem.W.Frag} {x : Str} : ItOk K (Its x) ⟨sgn x, none⟩ (fun _ _ _ => True) where
  go := fun φ h H i sm g gd hi => by
    show i < x.cps.size
    have : (sgn x).length = x.cps.size := by unfold sgn; simp
    have hi : i < (sgn x).length := hi
    omega
  yld := fun φ h H i y H' d sm g gd ed ⟨e, c, ec, ey⟩ => by
    subst e
    subst ey
    have e2 : (sgn x)[i]? = some (.str ⟨#[c]⟩) := by
      unfold sgn
      rw [List.getElem?_map, Array.getElem?_toList, ec]
      rfl
    have e3 : some d = some (PyData.str ⟨#[c]⟩) := ed.symm.trans e2
    cases e3
    exact ⟨Step.refl _ _ _, sm, Rep.str _⟩
  stop := fun φ h H i sm g gd hi => by
    show x.cps.size ≤ i
    have : (sgn x).length = x.cps.size := by unfold sgn; simp
    have hi : (sgn x).length ≤ i := hi
    omega
  keep := fun _ _ _ _ _ _ _ _ => trivial
section
variable {X : Cx} {W : WX} {tg e : Expr} {fe : Ev}
theorem ei_str (he : EE X W e fe) : EI X W tg e (iv itS fe) :=
  PI.of (pi_str he) fun σ H R ⟨φ, h, ρ, sm, er, q⟩ => ⟨φ, h, ρ, sm, er, PoI.goE q fun x v h1 H1 φ1 st sm1 rv q1 => by
    unfold itS at q1
    split at q1
    · rename_i z
      cases (show Rep X.K H1 (Live φ1 h1) x (.str z) from rv)
      exact ⟨z, rfl, q1 _ H1 φ1 _ (Step.refl _ _ _) sm1 str_it trivial⟩
    · exact q1.elim⟩
end
section
variable {E : XP} {h : Hh} {QI : Itm → Hh → Prop} {x : Str}
theorem wp_itS (q : QI ⟨sgn x, none⟩ h) : Wp (itS (.d (.str x)) h) QI E := ⟨q⟩
end
end Rk

/-! Rk77: s.join(xs); sorted(ns). -/
namespace Rk
open PySem PySem.Spec L2
variable {mg : Str → Option Value}
/-- a text's method of one argument -/
def eM1 (g : Str → Vl → Hh → Option (Vl × Hh)) (fo fe : Ev) : Ev := fun ρ h => (fo ρ h).bind fun v h1 => match v with
  | .d (.str a) => (fe ρ h1).bind fun y h2 => ofO (g a y h2)
  | _ => .no
def gJoin (a : Str) (y : Vl) (h : Hh) : Option (Vl × Hh) := match (asQ y h).bind strsOf with
  | some ys => if (ys.map (·.length)).sum + ys.length * a.length ≤ 16777216 then some (.d (.str (Txt.join a ys)), h) else none
  | none => none
section
variable {X : Cx} {W : WX} {o e : Expr} {fo fe : Ev} {apos pos : Pos}
end
/-- whole numbers, rising -/
def isrt (ns : List Int) : List Int := ns.mergeSort fun a b => decide (a ≤ b)
def gSortI : GC := fun vs h => match vs with
  | [v] => match (asL v h).bind intsOf with
    | some ns => some (.r h.length, h ++ [some (.lst ((isrt ns).map PyData.int))])
    | none => none
  | _ => none
section
variable {Q : Vl → Hh → Prop} {E : XP} {ρ : En} {h : Hh} {fo fe : Ev} {g : Str → Vl → Hh → Option (Vl × Hh)} {a : Str} {ys : List Str} {ns : List Int}
theorem wp_m1 (w : Wp (fo ρ h) (fun v h1 => ∃ a, v = .d (.str a) ∧ Wp (fe ρ h1) (fun y h2 => Wo (g a y h2) Q) E) E) : Wp (eM1 g fo fe ρ h) Q E :=
  wp_bind (w.mono (fun v h1 ⟨a, e, w⟩ => by
    subst e
    exact wp_bind (w.mono (fun _ _ w => wo_of w) fun _ _ _ z => z)) fun _ _ _ z => z)
theorem ex_txt {P : Str → Prop} (q : P a) : ∃ b, Vl.d (.str a) = .d (.str b) ∧ P b := ⟨a, rfl, q⟩
end
end Rk

/-! Rk78: reversed(range(n)); list(range(n)). -/
namespace Rk
open PySem PySem.Spec L2
def iRevR (fe : Ev) : Iv := fun ρ h => (fe ρ h).bind fun v h1 => match v with
  | .d (.int j) => if rgB j then .ok ⟨(rngD 0 j.toNat).reverse, none⟩ h1 else .no
  | _ => .no
def eLstR (fe : Ev) : Ev := fun ρ h => (fe ρ h).bind fun v h1 => match v with
  | .d (.int j) => if 0 ≤ j ∧ j ≤ 16777216 then .ok (.r h1.length) (h1 ++ [some (.lst (rngD 0 j.toNat))]) else .no
  | _ => .no
section
variable {X : Cx} {W : WX} {tg a : Expr} {fa : Ev} {p p2 pos q : Pos}
end
section
variable {Q : Vl → Hh → Prop} {E : XP} {ρ : En} {h : Hh} {fa : Ev} {QI : Itm → Hh → Prop}
end
end Rk

/-! Rk79: a world by what its text says of one thing. -/
namespace Rk
open PySem
def ftN : String := "special-get-raises"
def setFT (w : World) (b : Bool) : World := { w with params := { w.params with followText := fun s => bif decide (s = ftN) then b else w.params.followText s } }
end Rk

/-! Rk80: wishes for the newer forms. -/
namespace Rk
open PySem PySem.Spec L2
section
variable {Q : Vl → Hh → Prop} {E : XP} {h : Hh} {kds : List (Str × Da)} {z : Str} {y : Vl} {x a b : Str}
end
end Rk

/-! Rk81: comprehensions whose parts look at the store. -/
namespace Rk
open PySem PySem.Spec L2
section
variable {Q : Vl → Hh → Prop} {E : XP} {ρ ρ0 : En} {h hb : Hh} {i : Iv} {g : Gv} {fe : Ev} {ws : List Nat} {D : Nat}
end
section
variable {h : Hh} {Q : Vl → Hh → Prop} {n : Nat} {kds : List (Key × Da)} {x : Str} {b : Bool}
end
end Rk

/-! Rk82: texts put together, cut, indexed; loops that draw. -/
namespace Rk
open PySem PySem.Spec L2
section
variable {h : Hh} {Q : Vl → Hh → Prop} {a b z : Str} {i : Int} {c : Nat} {lo hi : Option Int}
theorem wo_addS (l : a.length + b.length ≤ 16777216) (q : Q (.d (.str (a ++ b))) h) : Wo (gAdd (.d (.str a)) (.d (.str b)) h) Q := by
  refine wo_eq ?_ q
  unfold gAdd
  dsimp only
  rw [if_pos (fitB_ok l)]
theorem wo_ixS (l : z.length ≤ 16777216) (e : z.cps.toList[i.toNat]? = some c) (h0 : 0 ≤ i) (q : Q (.d (.str ⟨#[c]⟩)) h) : Wo (gIx (.d (.str z)) (.d (.int i)) h) Q := by
  refine wo_eq ?_ q
  unfold gIx
  dsimp only
  have := atI_get0 e
  rw [show ((i.toNat : Nat) : Int) = i by omega] at this
  rw [if_pos (fitB_ok l), this]
  rfl
theorem wo_slS (l : z.length ≤ 16777216) (q : Q (.d (.str (cutS z lo hi))) h) : Wo (gSl (.d (.str z)) lo hi h) Q := by
  refine wo_eq ?_ q
  unfold gSl
  dsimp only
  rw [if_pos (fitB_ok l)]
end
section
variable {h : Hh} {Q : Vl → Hh → Prop} {E : XP} {ρ : En} {p r : Pv} {k v : Ev} {QL : List (Key × Da) → Hh → Prop}
end
section
variable {Q : Vl → Hh → Prop} {ρ0 : En} {hb : Hh} {g : Gv} {fe : Ev} {D : Nat}
end
section
variable {h : Hh} {n : Nat} {kds kds' : List (Key × Da)} {x : Str} {v d : Da} {Q : Vl → Hh → Prop} {N : Hh → Prop}
/-- a state that draws: three fields -/
def st3 (L M a : Int) : List (Key × Da) := [(.inr "cell", .int L), (.inr "seed", .int M), (.inr "at", .int a)]
end
section
variable {h : Hh} {Q : Vl → Hh → Prop}
/-- a list of a function's values at the numbers below n -/
def tabD (n : Nat) (f : Nat → Da) : List Da := (List.range n).map f
end
end Rk

/-! Rk83: repr of data with whole numbers of many figures. -/
namespace Rk
open PySem PySem.Spec L2 PyProof.Rows
section
variable {prog : Program} {w : World} {A : Around} {E : Value → Shared → Prop} {s : Shared}
theorem call_int_reprL {a : Int} {t : Tok} {Q : Value → Shared → Prop} (hn : s.heap.NoDigits) (ha : a.natAbs < 10 ^ 4300) (h : Q (.str (toString a) s.toks) { s with toks := s.toks + 1 }) : wpAny (model prog w) A (call (.builtin "int.__repr__") [.int a t]) Q E s := by
  refine wpAny_call (codeAny_call_builtin F.slot_int_repr.plain F.entry_int_repr (F.slot_int_repr.check _ _ _ _ _ _ _ _ (typeIs_int _ a t) (F.args_int_repr_1 _) ?_))
  unfold Builtin.«int.__repr__»
  show wpAny _ _ (do let r ← Builtin.overDigitLimit? a; _) _ _ s
  refine wpAny_bind (overDigitLimit_any hn (fun hlt => ?_) (fun hge => absurd ha (Nat.not_lt.mpr hge)))
  exact wpAny_bind (wpAny_mkStr (wpAny_pure h) (int_text_fits10 hlt))
theorem pyReprObj_intL {a : Int} {t : Tok} {Q : Value → Shared → Prop} (hu : A.units < cLine) (hn : s.heap.NoDigits) (ha : a.natAbs < 10 ^ 4300) (h : Q (.str (toString a) s.toks) { s with toks := s.toks + 1 }) : wpAny (model prog w) A (pyReprObj (.int a t)) Q E s :=
  wpAny_pyReprObj_slot hu (typeIs_int s a t) F.slot_int_repr.toG (call_int_reprL hn ha ⟨_, _, rfl, h⟩)
theorem ReprK.intL {h₀ : Heap} {a : Int} (t : Tok) (hn : h₀.NoDigits) (ha : a.natAbs < 10 ^ 4300) (as : List Addr) (d : Nat) : ReprK prog w as h₀ d (.int a t) (toString a) := fun n hb A g E s Q hg hcl hu hk hQ => by
  have hn' : n ≤ sizeLine := by omega
  rw [pyReprUnder_leaf (v := .int a t) hn' (fun _ e => nomatch e)]
  unfold pyRepr
  exact wpAny_bind (pyReprObj_intL (by omega) (hn.keeps hk) ha (wpAny_pure (hQ s.heap _ fun _ _ e => e)))
end
mutual
/-- data without dicts whose whole numbers have less than 12900 bits -/
def shB : Da → Bool
  | .int i => decide (i.natAbs.log2 < 12900)
  | .list ds => shBs ds
  | .tuple ds => shBs ds
  | .dict _ => false
  | .none => true
  | .bool _ => true
  | .str _ => true
def shBs : List Da → Bool
  | [] => true
  | d :: ds => shB d && shBs ds
end
theorem lt_big {n : Nat} (h : n.log2 < 12900) : n < 10 ^ 4300 := Nat.lt_of_lt_of_le (lt_of_log2 h) pow_lo
section
variable {prog : Program} {w : World} {h₀ : Heap}
mutual
theorem big1 (nd : h₀.NoDigits) : ∀ {v : Value} {d : Da} {as : List Addr}, Reads h₀ v d as → shB d = true → d.shown.length ≤ sizeLine → ∃ cs, ReadAtMost h₀ d.depth cs ∧ ReprK prog w cs h₀ d.depth v d.shown
  | _, _, _, .none, _, _ => ⟨[], nofun, by simp only [PyData.shown]; exact .of_is ReprIs.none [] h₀ _⟩
  | _, _, _, .bool c, _, _ => ⟨[], nofun, by simp only [PyData.shown]; exact .of_is (ReprIs.bool c) [] h₀ _⟩
  | _, _, _, .int i t, e, _ => ⟨[], nofun, by simp only [PyData.shown]; exact ReprK.intL t nd (lt_big (of_decide_eq_true (by simpa only [shB] using e))) [] _⟩
  | _, _, _, .str x t, _, z => ⟨[], nofun, by simp only [PyData.shown] at z ⊢; exact .of_is (ReprIs.str x t z) [] h₀ _⟩
  | _, _, _, .list (a := p) (vs := us) (xs := ds) k1 k2 k3 k4, e, z => by
    simp only [PyData.shown] at z
    obtain ⟨cs, m, k⟩ := bigs nd k4 (by simpa only [shB] using e) fun t ht => Nat.le_trans (listText_mem_le ht) z
    have rd : Reads h₀ (.ref p) (.list ds) _ := .list k1 k2 k3 k4
    have np : p ∉ cs := not_mem_of_deeper rd (by simp only [PyData.depth]; omega) m
    refine ⟨p :: cs, ReadAtMost.cons rd (by simp only [PyData.depth]; omega) m, ?_⟩
    simp only [PyData.shown, PyData.depth]
    rcases us with ⟨l⟩
    cases l with
    | nil =>
      have e0 : ReadsAll h₀ [] ds _ := k4
      cases e0
      simp only [PyData.shownAll, listText_nil]
      exact ReprK.listEmpty k1 k2 k3
    | cons y l => exact ReprK.list k1 k2 k3 np (by simpa using k.length_eq) fun i y ey => k.item i y (by simpa using ey)
  | _, _, _, .tuple (a := p) (xs := ds) k1 k2 k3 k4, e, z => by
    simp only [PyData.shown] at z
    obtain ⟨cs, m, k⟩ := bigs nd k4 (by simpa only [shB] using e) fun t ht => Nat.le_trans (tupleText_mem_le ht) z
    have rd : Reads h₀ (.ref p) (.tuple ds) _ := .tuple k1 k2 k3 k4
    have np : p ∉ cs := not_mem_of_deeper rd (by simp only [PyData.depth]; omega) m
    refine ⟨p :: cs, ReadAtMost.cons rd (by simp only [PyData.depth]; omega) m, ?_⟩
    simp only [PyData.shown, PyData.depth]
    exact ReprK.tuple k1 k2 k3 np k
  | _, _, _, .dict _ _ _ _ _, e, _ => by simp only [shB] at e; cases e
theorem bigs (nd : h₀.NoDigits) : ∀ {us : List Value} {ds : List Da} {as : List Addr}, ReadsAll h₀ us ds as → shBs ds = true → (∀ t ∈ PyData.shownAll ds, t.length ≤ sizeLine) →
    ∃ cs, ReadAtMost h₀ (PyData.depthAll ds) cs ∧ ReprAllK prog w cs h₀ (PyData.depthAll ds) us (PyData.shownAll ds)
  | _, _, _, .nil, _, _ => ⟨[], nofun, by simp only [PyData.shownAll]; exact .nil⟩
  | _, _, _, .cons (d := d) (ds := ds) r rs, e, z => by
    simp only [shBs, Bool.and_eq_true] at e
    simp only [PyData.shownAll, List.mem_cons] at z
    obtain ⟨c1, m1, k1⟩ := big1 nd r e.1 (z _ (.inl rfl))
    obtain ⟨c2, m2, k2⟩ := bigs nd rs e.2 fun t ht => z t (.inr ht)
    simp only [PyData.depthAll, PyData.shownAll]
    refine ⟨c1 ++ c2, (m1.mono (Nat.le_max_left ..)).append (m2.mono (Nat.le_max_right ..)), ?_⟩
    refine .cons ((k1.more ?_).level_le (Nat.le_max_left ..)) (k2.more_le ?_ (Nat.le_max_right ..))
    · exact fun b hb => List.mem_append.mpr (.inl hb)
    · exact fun b hb => List.mem_append.mpr (.inr hb)
end
variable {a : Addr} {d : Da} {as : List Addr} {A : Around} {E : Value → Shared → Prop} {s : Shared} {Q : Value → Shared → Prop}
end
/-- the top says nothing of the limit on figures -/
def DigN (K : PySem.W.Frag) : Prop := PySem.W.nsOkIn K cStatics = true ∧ PySem.W.nsIn K cStatics "sys.int_max_str_digits" = some none
theorem digB_ok {K : PySem.W.Frag} (e : digB K = true) : DigN K := by
  unfold digB at e
  rw [Bool.and_eq_true] at e
  refine ⟨e.1, ?_⟩
  have e2 := e.2
  split at e2
  · assumption
  · cases e2
theorem DigN.heap {K : PySem.W.Frag} {h : Heap} (X : K.In h) (D : DigN K) : h.NoDigits := ⟨_, .of_isNs (PySem.W.isNs_of_in X D.1), PySem.W.nsMap_none_of_in X D.1 D.2⟩
variable {mg : Str → Option Value}
def rReprL (K : PySem.W.Frag) (xs : List V) (H : Hp) (Q : VK) : Prop := ∃ x d, xs = [x] ∧ Dp K H x d ∧ shB d = true ∧ d.depth ≤ 60 ∧ d.shown.length ≤ sizeLine ∧ Q (.str d.shown) H
mutual
theorem shB_nd : ∀ d : Da, shB d = true → d.hasDict = false
  | .none, _ => by simp only [PyData.hasDict]
  | .bool _, _ => by simp only [PyData.hasDict]
  | .int _, _ => by simp only [PyData.hasDict]
  | .str _, _ => by simp only [PyData.hasDict]
  | .list ds, e => by
    simp only [PyData.hasDict]
    exact shBs_nd ds (by simpa only [shB] using e)
  | .tuple ds, e => by
    simp only [PyData.hasDict]
    exact shBs_nd ds (by simpa only [shB] using e)
  | .dict _, e => by simp only [shB] at e; cases e
theorem shBs_nd : ∀ ds : List Da, shBs ds = true → PyData.hasDictAll ds = false
  | [], _ => by simp only [PyData.hasDictAll]
  | d :: ds, e => by
    simp only [shBs, Bool.and_eq_true] at e
    simp only [PyData.hasDictAll, Bool.or_eq_false_iff]
    exact ⟨shB_nd d e.1, shBs_nd ds e.2⟩
end
def gReprL : GC := fun as h => match as with
  | [x] => match asD x h with
    | some d => if shB d && decide (d.depth ≤ 60) && fitB d.shown.length then some (.d (.str d.shown), h) else none
    | none => none
  | _ => none
/-- what can be told as a text, with sizes -/
structure ShW (k e : Nat) (d : Da) : Prop where
  s : shB d = true
  p : d.depth ≤ e
  l : d.shown.length ≤ k
structure ShWs (k e : Nat) (ds : List Da) : Prop where
  s : shBs ds = true
  d : PyData.depthAll ds ≤ e
  l : piled (PyData.shownAll ds) ≤ k
theorem ShW.mono {k e k' e' : Nat} {d : Da} (h : ShW k e d) (a : k ≤ k') (b : e ≤ e') : ShW k' e' d := ⟨h.s, Nat.le_trans h.p b, Nat.le_trans h.l a⟩
theorem ShW.str {x : Str} (hx : ∀ c ∈ x.cps.toList, c < 16 ^ 8) : ShW (10 * x.length + 2) 0 (.str x) := ⟨by simp only [shB], by simp [PyData.depth], by simp only [PyData.shown]; exact PySem.StrLaws.reprText_len x hx⟩
theorem ShW.int {i : Int} (h : i.natAbs.log2 < 12900) : ShW 4400 0 (.int i) := by
  refine ⟨by simp only [shB]; exact decide_eq_true h, by simp [PyData.depth], ?_⟩
  simp only [PyData.shown]
  have e := int_text_length_le10 (k := 4300) (by decide) (lt_big h)
  clear h
  rw [PySem.ofString_length]
  omega
theorem ShWs.nil : ShWs 0 0 [] := ⟨by simp only [shBs], by simp [PyData.depthAll], by simp [PyData.shownAll, piled]⟩
theorem ShWs.cons {k e k' e' : Nat} {d : Da} {ds : List Da} (h : ShW k e d) (t : ShWs k' e' ds) : ShWs (k + 2 + k') (max e e') (d :: ds) := by
  refine ⟨by simp only [shBs, h.s, t.s, Bool.and_self], ?_, ?_⟩
  · have := h.p
    have := t.d
    simp only [PyData.depthAll]
    omega
  · have := h.l
    have := t.l
    simp only [PyData.shownAll]
    rw [piled_cons]
    omega
theorem ShWs.of {k e n : Nat} {ds : List Da} (h : ∀ d ∈ ds, ShW k e d) (hl : ds.length ≤ n) : ShWs (n * (k + 2)) e ds := by
  induction ds generalizing n with
  | nil => exact ⟨ShWs.nil.s, Nat.le_trans ShWs.nil.d (Nat.zero_le _), Nat.le_trans ShWs.nil.l (Nat.zero_le _)⟩
  | cons d ds ih =>
    cases n with
    | zero => simp at hl
    | succ n =>
      have a := ih (n := n) (fun x hx => h x (List.mem_cons_of_mem _ hx)) (by simpa using hl)
      have b := ShWs.cons (h d (List.mem_cons_self ..)) a
      rw [Nat.max_self] at b
      refine ⟨b.s, b.d, Nat.le_trans b.l ?_⟩
      rw [Nat.succ_mul]
      omega
theorem ShW.tup {k e : Nat} {ds : List Da} (t : ShWs k e ds) : ShW (k + 3) (e + 1) (.tuple ds) := by
  refine ⟨by simp only [shB]; exact t.s, by simp only [PyData.depth]; have := t.d; omega, ?_⟩
  simp only [PyData.shown]
  have hl := t.l
  unfold tupleText
  have j : (Str.join ", " (PyData.shownAll ds)).length ≤ piled (PyData.shownAll ds) := by
    by_cases z : PyData.shownAll ds = []
    · rw [z]; decide
    · have := join_length_add _ z
      omega
  rw [Str.length_append, Str.length_append]
  have a : (Str.ofString "(").length = 1 := by decide
  have b : (Str.ofString (if (PyData.shownAll ds).length == 1 then ",)" else ")")).length ≤ 2 := by split <;> decide
  have a' : ("(" : Str).length = 1 := a
  omega
theorem ShW.lst {k e : Nat} {ds : List Da} (t : ShWs k e ds) : ShW (k + 3) (e + 1) (.list ds) := by
  refine ⟨by simp only [shB]; exact t.s, by simp only [PyData.depth]; have := t.d; omega, ?_⟩
  simp only [PyData.shown]
  have hl := t.l
  unfold listText
  have j : (textFrom 0 "[" (PyData.shownAll ds)).length ≤ 1 + piled (PyData.shownAll ds) := by
    cases e : PyData.shownAll ds with
    | nil => decide
    | cons x xs =>
      have h1 := textFrom_length_pos xs 1 (("[" : Str) ++ ("" : Str) ++ x) (by decide)
      have h2 : textFrom 0 "[" (x :: xs) = textFrom 1 (("[" : Str) ++ ("" : Str) ++ x) xs := rfl
      rw [h2, h1, piled_cons, Str.length_append, Str.length_append]
      have a1 : ("[" : Str).length = 1 := by decide
      have a2 : ("" : Str).length = 0 := by decide
      omega
  rw [Str.length_append]
  have b : ("]" : Str).length = 1 := by decide
  omega
theorem log2_of {n k : Nat} (h : n < 2 ^ k) (hk : 0 < k) : n.log2 < k := by
  rcases Nat.eq_zero_or_pos n with z | z
  · rw [z]
    exact hk
  · exact (Nat.log2_lt (Nat.ne_of_gt z)).mpr h
theorem p600 : 10 ^ 600 < 2 ^ 2000 := by decide +kernel
theorem ShW.Q {r : Rat} (h1 : r.num.natAbs ≤ 10 ^ 600) (h2 : r.den ≤ 10 ^ 600) : ShW 9000 1 (Rk.Q r) := by
  have l : ∀ n : Nat, n ≤ 10 ^ 600 → n.log2 < 12900 := fun n h => log2_of (Nat.lt_of_le_of_lt h (Nat.lt_trans p600 (Nat.pow_lt_pow_right (by decide) (by decide)))) (by decide)
  have t := ShW.tup (ShWs.cons (ShW.int (i := r.num) (l _ h1)) (ShWs.cons (ShW.int (i := (r.den : Int)) (l _ (by rw [Int.natAbs_natCast]; exact h2))) ShWs.nil))
  exact t.mono (by decide) (by decide)
section
variable {Q : Vl → Hh → Prop} {h : Hh} {n : Nat} {ds : List Da}
end
end Rk

/-! Rk84: y(lambda: body, b, ..): a deed handed on with more things. -/
namespace Rk
open PySem PySem.Spec L2
noncomputable def eLam2 (n np : Nat) (x : Str) (m : Deed → Fn) (fb : Ev) (as : Av) : Ev := fun ρ h => if hasTab n x h = true then
    (as ρ h).bind fun vs h1 => if vs.length = np then lamO fun f c σ => m ⟨⟨f, c, x ++ ".<locals>." ++ "<lambda>", σ, capE ρ⟩, fun h' => fb (upE (capE ρ)) h'⟩ (.f ⟨f, c, x ++ ".<locals>." ++ "<lambda>", σ, capE ρ⟩ :: vs) h1 else .no
  else .no
section
variable {X : Cx} {W : WX} {x y : Str} {c pt : Addr} {k j : Nat} {m : Deed → Fn} {params : Arguments} {body b : Expr} {bs : List Expr} {as : Av} {scope : Scope} {fb : Ev} {p lpos pos : Pos} {ps : List Str} {a : Str}
end
section
variable {Q : Vl → Hh → Prop} {E : XP} {ρ ρ' : En} {h h0 h1 : Hh} {n np i : Nat} {x : Str} {m : Deed → Fn} {fb : Ev} {as : Av} {v0 : Vl} {vs : List Vl} {d : Deed}
end
end Rk

/-! Rk85: for a, b in zip(tuple, list). -/
namespace Rk
open PySem PySem.Spec PyProof.Rows L2
def ItzM (K : PySem.W.Frag) (a b : Addr) : It :=
  ⟨fun i H => ∃ (us ws : List V) (u w : V), SqT K H a us ∧ SqL K H b ws ∧ us[i]? = some u ∧ ws[i]? = some w,
   fun i H v H' => ∃ N u w, v = .ref N ∧ H N = none ∧ H' = upd H N (.tup [u, w]) ∧ (∀ us, SqT K H a us → us[i]? = some u) ∧ ∀ ws, SqL K H b ws → ws[i]? = some w,
   fun i H => ∃ us ws : List V, SqT K H a us ∧ SqL K H b ws ∧ (us.length ≤ i ∨ ws.length ≤ i)⟩
section
variable {prog : Program} {w : World} {A : Around}
end
def zmS (z q o i j a b : Addr) (n : Nat) (h : Heap) : Prop := IsZip h z q o .none ∧ IsTupOf2 h q (.ref i) (.ref j) ∧ (∃ u w, IsTupOf2 h o u w) ∧ h.IsTupleIter i a n ∧ h.IsListIter j b n
def tiZM (K : PySem.W.Frag) (ta : TA) : TI := fun σ H R => ta σ H fun vs H1 => ∃ a b us ws, vs = [.ref a, .ref b] ∧ SqT K H1 a us ∧ SqL K H1 b ws ∧ R (ItzM K a b) H1
def iZM (as : Av) : Iv := fun ρ h => (as ρ h).bind fun vs h1 => match vs with
  | [.d (.tuple xs), .d (.list ys)] => .ok ⟨zipD xs ys, none⟩ h1
  | _ => .no
section
variable {X : Cx} {W : WX} {pos p : Pos} {fs : Av}
end
end Rk

/-! Rk86: tuple(zip(list, list)) of two lists of one length. -/
namespace Rk
open PySem PySem.Spec PyProof.Rows L2
/-- the pairs of two rows, made one behind the other -/
inductive Prs (us ws : List V) (H : Hp) : List V → Hp → Prop
  | nil : Prs us ws H [] H
  | snoc {ts : List V} {H' : Hp} {T : Addr} {u w : V} : Prs us ws H ts H' → us[ts.length]? = some u → ws[ts.length]? = some w → H' T = none → Prs us ws H (ts ++ [.ref T]) (upd H' T (.tup [u, w]))
def zcS (z q o i j a b : Addr) (xs ys : Array Value) (B n : Nat) (h : Heap) : Prop :=
  IsPair h q (.ref i) (.ref j) ∧ h.IsListIter i a n ∧ h.IsListIter j b n ∧ h.IsList a xs ∧ h.IsList b ys ∧ ((IsZip h z q o .none ∧ ∃ u w, IsPair h o u w) ∨ ∃ (T : Addr) (f : Bool) (ob : Obj), IsZipHeld h z q o T f ∧ h.get? T = some ob ∧ B ≤ T)
section
variable {prog : Program} {w : World} {A : Around} {E : Value → Shared → Prop} {s : Shared} {z q o i j a b : Addr} {xs ys : Array Value} {B n : Nat}
end
/-- a list in the making -/
abbrev mkL (acc : Array Value) (c : Nat) : Obj := { cls := .type "list", dict := none, data := .seq acc c, slots := #[] }
section
variable {X : Cx} {pins : List (Addr × Obj)} {σ : L2.St} {A : Around} {z q o i j a b S : Addr} {xs ys : Array Value} {us ws : List V} {H0 : Hp} {R : Result → Shared → Prop} {res : Value}
theorem FpOk.upd {H : Hp} {c T : Addr} {ob : HO} (f : FpOk X pins H c) (n : c ≠ T) : FpOk X pins (upd H T ob) c := ⟨by rw [upd_ne n]; exact f.1, f.2⟩
/-- the zip as it was made, the state around it -/
structure ZcAt (X : Cx) (pins : List (Addr × Obj)) (σ : L2.St) (z q o i j a b : Addr) (xs ys : Array Value) (us ws : List V) (H : Hp) (s : Shared) : Prop where
  D : ZipApart z q o i j a b
  inv : Inv X pins σ H s
  z0 : IsZip s.heap z q o .none
  q0 : IsPair s.heap q (.ref i) (.ref j)
  o0 : ∃ u w, IsPair s.heap o u w
  i0 : s.heap.IsListIter i a 0
  j0 : s.heap.IsListIter j b 0
  a0 : s.heap.IsList a xs
  b0 : s.heap.IsList b ys
  fp : ∀ c ∈ [z, o, i, j], FpOk X pins H c
  eq : xs.size = ys.size
  hn : xs.size ≤ sizeLine
  ra : Vals us xs.toList
  rb : Vals ws ys.toList
end
def tTZ (K : PySem.W.Frag) (ta : TA) : TE := fun σ H Q => ta σ H fun vs H1 => ∃ (a b : Addr) (us ws : List V), vs = [.ref a, .ref b] ∧ SqL K H1 a us ∧ SqL K H1 b ws ∧ us.length = ws.length ∧ ∀ ts H2 p o, Prs us ws H1 ts H2 → ts.length = us.length → H2 p = none → o.dict = none → Q (.ref p) (upd H2 p (.frz o (.tup ts)))
end Rk

/-! Rk87: tuple(zip(xs, ys)) of two lists of one length, as data. -/
namespace Rk
open PySem PySem.Spec PyProof.Rows L2
def gTZ : GC := fun vs h => match vs with
  | [x, y] => match asL x h, asL y h with
    | some xs, some ys => if xs.length = ys.length then some (.d (ptD (zipD xs ys)), h) else none
    | _, _ => none
  | _ => none
section
variable {K : PySem.W.Frag} {φ : List Addr} {h : Hh} {H H' : Hp} {us ws ts : List V} {xs ys : List Da}
end
/-- a plain tuple as a tuple -/
def unp : Vl → Option Vl
  | .d (.dict [(.none, .tuple ds)]) => some (.d (.tuple ds))
  | _ => none
def eUnp (f : Ev) : Ev := fun ρ h => (f ρ h).bind fun v h1 => ofO ((unp v).map fun u => (u, h1))
section
variable {X : Cx} {W : WX} {e e2 : Expr} {fs : Av} {p p2 q pos : Pos}
end
section
variable {Q : Vl → Hh → Prop} {h : Hh} {xs ys : List Da}
end
end Rk

/-! Rk88: for a, b in zip(x, y): two lists, two tuples, or a tuple and a list. -/
namespace Rk
open PySem PySem.Spec PyProof.Rows L2
def mixB : List Vl → Bool
  | [.d (.tuple _), .d (.list _)] => true
  | _ => false
def pickZ : Out (List Vl) → Bool
  | .ok vs _ => mixB vs
  | _ => false
def iZip4 (as : Av) : Iv := fun ρ h => if pickZ (as ρ h) = true then iZM as ρ h else iZip as ρ h
section
variable {X : Cx} {W : WX} {pos p : Pos} {fs : Av}
theorem PI.or {tg e : Expr} {t u : TI} (h : PI X tg e t) (k : PI X tg e u) : PI X tg e (fun σ H R => t σ H R ∨ u σ H R) :=
  ⟨fun pins s σ H Q I w => w.elim (h.run pins s σ H Q I) (k.run pins s σ H Q I)⟩
end
end Rk

/-! Rk89: defs of the top as values: kept in dicts and lists, called from there. -/
namespace Rk
open PySem PySem.Spec PyProof.Rows L2
def seekF : List (Str × Fn) → Str → Option Fn
  | [], _ => none
  | (k, m) :: r, x => if x = k then some m else seekF r x
def lookF (tbl : List (Str × Fn)) : Vl → Option Fn
  | .d (.dict [(.none, .str x)]) => seekF tbl x
  | _ => none
def eCallF (tbl : List (Str × Fn)) (fe : Ev) (as : Av) : Ev := fun ρ h => (fe ρ h).bind fun v h1 => match lookF tbl v with
  | some m => (as ρ h1).bind fun vs h2 => m vs h2
  | none => .no
/-- the defs that may be called so -/
structure CalF (X : Cx) (j : Nat) (tbl : List (Str × Fn)) : Prop where
  at_ : ∀ (x : Str) (m : Fn), seekF tbl x = some m → ∃ (k : Nat) (ps : List Str), k ≤ j ∧ X.mg x = some (.ref (He.ga X.K x)) ∧ Df X.prog X.w X.K X.mg X.base k x ps m
section
variable {X : Cx} {W : WX} {j : Nat} {tbl : List (Str × Fn)} {fe e : Expr} {es : List Expr} {ff : Ev} {fs : Av} {pos : Pos}
end
section
variable {Q : Vl → Hh → Prop} {E : XP} {ρ : En} {h : Hh} {tbl : List (Str × Fn)} {fe : Ev} {as : Av}
/-- which def is called -/
structure FnK (tbl : List (Str × Fn)) (v : Vl) (P : Fn → Prop) : Prop where
  w : ∃ m, lookF tbl v = some m ∧ P m
end
end Rk

/-! Rk90: dict(ps), ps a plain tuple of pairs. -/
namespace Rk
open PySem PySem.Spec PyProof.Rows L2
variable {mg : Str → Option Value}
def rDT (K : PySem.W.Frag) : List V → Hp → VK → Prop := fun xs H Q => ∃ (a : Addr) (o : Obj) (ps : List Addr) (kvs : List (Key × V)), xs = [.ref a] ∧ H a = some (.frz o (.tup (ps.map V.ref))) ∧ o.dict = none ∧ Paired (fun p kv => SqT K H p [kV kv.1, kv.2]) ps kvs ∧
    ∀ p, H p = none → Q (.ref p) (upd H p (.dK (mergeK [] kvs)))
def gDT : GC := fun vs h => match vs with
  | [.d (.dict [(.none, .tuple ds)])] => match pairsD ds with
    | some kds => some (.r h.length, h ++ [some (.dct (kds.foldl (fun acc kv => putD acc kv.1 kv.2) []))])
    | none => none
  | _ => none
def tTupZ (t : TA) : TE := fun σ H Q => t σ H fun xs H1 => xs.length ≤ sizeLine ∧ ∀ (p : Addr) (o : Obj), H1 p = none → o.dict = none → Q (.ref p) (upd H1 p (.frz o (.tup xs)))
def eTupZ (as : Av) : Ev := fun ρ h => (as ρ h).bind fun vs h1 => match fzs vs h1 with
  | some (ds, h2) => if fitB ds.length = true then .ok (.d (ptD ds)) h2 else .no
  | none => .no
structure TupZK (vs : List Vl) (h : Hh) (Q : Vl → Hh → Prop) : Prop where
  w : TupK vs h fun v h1 => ∃ ds, v = .d (.tuple ds) ∧ Q (.d (ptD ds)) h1
end Rk

/-! Rk91: a list turned round, a list cut at a number. -/
namespace Rk
open PySem PySem.Spec L2
section
variable {h : Hh} {Q : Vl → Hh → Prop} {xs : List Da}
end
end Rk

/-! Rk92: x == () of any tuple. -/
namespace Rk
open PySem PySem.Spec PyProof.Rows L2
variable {mg : Str → Option Value}
def rEqE (K : PySem.W.Frag) : R2 := fun x y H Q => ∃ a b us, x = .ref a ∧ y = .ref b ∧ SqT K H a us ∧ SqT K H b [] ∧ Q (.bl us.isEmpty) H
def gEqE : G2 := fun x y h => match x, y with
  | .d (.tuple ds), .d (.tuple []) => some (.d (.bool ds.isEmpty), h)
  | x, y => gEq x y h
end Rk

/-! Rk93: lists of objects: made by append, walked. -/
namespace Rk
open PySem PySem.Spec PyProof.Rows L2
variable {mg : Str → Option Value}
section
variable {K : PySem.W.Frag} {φ : List Addr} {h : Hh} {H : Hp} {a : Addr} {m : Nat} {o : Ob} {ys : List V} {ns : List Nat} {as : List Addr}
end
/-! ### append of an object to a list of objects -/
def lstR : Option (Option Ob) → Option (List Nat)
  | some (some (.lst [])) => some []
  | some (some (.rl ns)) => some ns
  | _ => none
def sApR (i : Nat) (f : Ev) : Sv := fun ρ h => match ρ[i]? with
  | some (some (.r m)) => if (lstR h[m]?).isSome = true then Out.then ρ (f ρ h) fun v h1 => match v with
      | .r d => match lstR h1[m]? with
        | some ns => if ns.length < 1000 then .nx (ρ.set i (some (.r h1.length))) (h1.set m none ++ [some (.rl (ns ++ [d]))]) else .no
        | none => .no
      | _ => .no
    else .no
  | _ => .no
section
variable {X : Cx} {W : WX} {o e : Expr} {f : Ev} {i : Nat} {apos cpos pos : Pos}
end
end Rk

/-! Rk94: a list of objects walked; a def whose new objects all stay. -/
namespace Rk
open PySem PySem.Spec PyProof.Rows L2
variable {mg : Str → Option Value}
noncomputable def forR (g : Gv) (body : Sv) : List Nat → En → Hh → So
  | [], ρ, h => .nx ρ h
  | n :: ns, ρ, h => match g (.r n) ρ h with
      | none => .no
      | some p => match body p.1 p.2 with
        | .nx ρ' h' => forR g body ns ρ' h'
        | .ct ρ' h' => forR g body ns ρ' h'
        | .bk ρ' h' => .nx ρ' h'
        | r => r
noncomputable def sForR (f : Ev) (g : Gv) (body : Sv) : Sv := fun ρ h => Out.then ρ (f ρ h) fun v h1 => match v with
  | .r m => match h1[m]? with
    | some (some (.rl ns)) => forR g body ns ρ (h1.set m none)
    | _ => .no
  | _ => .no
section
variable {K : PySem.W.Frag} {W : WX} {D : Ends} {a : Addr} {as : List Addr} {g : Gv} {fb : Sv}
end
section
variable {X : Cx} {W : WX} {tg e : Expr} {f : Ev} {g : Gv} {body : List Stmt} {fb : Sv} {pos : Pos}
end
/-! ### a def whose new objects all stay -/
def mkFN (n N : Nat) (body : Sv) : Fn := fun vs h => if vs.length = n then (match body (enter N vs) h with
    | .rt v h' => .ok v h'
    | .nx _ h' => .ok (.d .none) h'
    | .ex c fs _ h' => .ex c fs h'
    | _ => .no) else .no
section
variable {P : Program} {w : World} {K : PySem.W.Frag} {base : Heap} {x : Str} {st : Stmt} {f : Addr} {fd : FuncData} {N ps : List Str} {k : Nat}
end
end Rk

/-! Rk95: wishes for lists of objects. -/
namespace Rk
open PySem PySem.Spec L2
section
variable {Q : Vl → Hh → Prop} {E : XP} {h : Hh} {vs : List Vl} {n M : Nat} {body : Sv} {ρ : En}
end
section
variable {ρ : En} {h : Hh} {N : En → Hh → Prop} {R : Vl → Hh → Prop} {B C : En → Hh → Prop} {X : Str → List (Str × Da) → En → Hh → Prop} {f : Ev} {g : Gv} {body : Sv} {i : Nat}
/-- behind the thing that is put to a list of objects -/
structure ApK (i m : Nat) (ρ : En) (v : Vl) (h : Hh) (N : En → Hh → Prop) : Prop where
  w : ∃ d ns, v = .r d ∧ lstR h[m]? = some ns ∧ ns.length < 1000 ∧ N (ρ.set i (some (.r h.length))) (h.set m none ++ [some (.rl (ns ++ [d]))])
structure ForRK (g : Gv) (body : Sv) (v : Vl) (ρ : En) (h : Hh) (N : En → Hh → Prop) (D : Ds) : Prop where
  w : ∃ m ns, v = .r m ∧ h[m]? = some (some (.rl ns)) ∧ Ws (forR g body ns ρ (h.set m none)) N D
end
end Rk

/-! Rk96: an object out of a list of objects, by its number. -/
namespace Rk
open PySem PySem.Spec L2
def gIxO : G2 := fun x y h => match x, y with
  | .r m, .d (.int i) => match h[m]? with
    | some (some (.rl ns)) => (L2.atI ns i).map fun n => (.r n, h)
    | _ => none
  | _, _ => none
section
variable {mg : Str → Option Value} {K : PySem.W.Frag}
end
section
variable {X : Cx} {W : WX} {a b : Expr} {fa fb : Ev} {pos : Pos}
end
end Rk

/-! Rk97: dict(zip(xs, ys)) of two tuples of one length. -/
namespace Rk
open PySem PySem.Spec PyProof.Rows L2
section
variable {prog : Program} {w : World} {A : Around} {E : Value → Shared → Prop} {s : Shared} {z q o i j a b T : Addr} {f : Bool} {oT : Obj} {m n : Nat} {xs ys : Array Value}
end
/-- how far a zip of two tuples has come; d: what must not be touched -/
def ztS (z q o i j a b d : Addr) (xs ys : Array Value) (n : Nat) (h : Heap) : Prop :=
  IsPair h q (.ref i) (.ref j) ∧ h.IsTupleIter i a n ∧ h.IsTupleIter j b n ∧ h.IsTuple a xs ∧ h.IsTuple b ys ∧
    ((IsZip h z q o .none ∧ ∃ u w, IsPair h o u w) ∨ ∃ (T : Addr) (f : Bool) (ob : Obj), IsZipHeld h z q o T f ∧ h.get? T = some ob ∧ T ≠ z ∧ T ≠ i ∧ T ≠ j ∧ T ≠ d)
section
variable {prog : Program} {w : World}
end
def tDictZipT (K : PySem.W.Frag) (ta : TA) : TE := fun σ H Q => ta σ H fun vs H1 => ∃ (a b : Addr) (ks : List Key) (ys : List V), vs = [.ref a, .ref b] ∧ SqT K H1 a (ks.map kV) ∧ SqT K H1 b ys ∧ ks.length = ys.length ∧ ∀ p, H1 p = none → Q (.ref p) (upd H1 p (.dK (mergeK [] (ks.zip ys))))
/-- dict(zip(..)) of two tuples -/
def gDZT : GC := fun vs h => match vs with
  | [.d (.tuple xs), .d (.tuple ds)] => match keysD xs with
    | some ks => if ks.length = ds.length then some (.r h.length, h ++ [some (.dct ((ks.zip ds).foldl (fun acc kv => putD acc kv.1 kv.2) []))]) else none
    | none => none
  | _ => none
section
variable {X : Cx} {W : WX} {e e2 : Expr} {fs : Av} {p p2 q pos : Pos}
end
end Rk

/-! Rk98: x in y, x not in y where the items are data of any depth. -/
namespace Rk
open PySem PySem.Spec PyProof.Rows L2
variable {mg : Str → Option Value}
def rInP (K : PySem.W.Frag) (neg : Bool) : R2 := fun x y H Q => ∃ d ds, Dp K H x d ∧ (Dp K H y (.tuple ds) ∨ Dp K H y (.list ds)) ∧ SeqAt.shaped d = true ∧ SeqAt.shaped (.tuple ds) = true ∧ d.depth ≤ 60 ∧ Q (.bl (if neg then !(ds.any fun z => PyData.eqv z d) else ds.any fun z => PyData.eqv z d)) H
def inV' (neg : Bool) (a : Da) (ds : List Da) : Bool := if neg then !(ds.any fun z => PyData.eqv z a) else ds.any fun z => PyData.eqv z a
def gInP (neg : Bool) : G2 := fun x y h => match gIn neg x y h with
  | some r => some r
  | none => match x, asD y h with
    | .d a, some (.tuple ds) => if sh a && decide (a.depth ≤ 60) && sh (.tuple ds) then some (.d (.bool (inV' neg a ds)), h) else none
    | .d a, some (.list ds) => if sh a && decide (a.depth ≤ 60) && sh (.tuple ds) && !(PyData.list ds).hasDict then some (.d (.bool (inV' neg a ds)), h) else none
    | _, _ => none
section
variable {h : Hh} {Q : Vl → Hh → Prop}
end
end Rk

/-! Rk99: dict(d) of a dict that is changed; d != e of two such dicts. -/
namespace Rk
open PySem PySem.Spec L2 PyProof.Rows
variable {mg : Str → Option Value}
def rDC : List V → Hp → VK → Prop := fun xs H Q => ∃ (a : Addr) (kvs : List (Key × V)), xs = [.ref a] ∧ H a = some (.dK kvs) ∧ ∀ p, H p = none → Q (.ref p) (upd H p (.dK kvs))
def gDC : GC := fun vs h => match vs with
  | [v] => match asDk v h with
    | some (_, kds) => some (.r h.length, h ++ [some (.dct kds)])
    | none => none
  | _ => none
/-- equal dicts: as many keys, each of the one in the other, equal values -/
def hitD (zds : List (Key × Da)) (p : Key × Da) : Bool := match valD zds p.1 with
  | some v => PyData.eqv p.2 v
  | none => false
def eqDD (kds zds : List (Key × Da)) : Bool := kds.length == zds.length && kds.all (hitD zds)
def shD (d : Da) : Bool := sh d && decide (d.depth ≤ 60)
theorem KvRep.find {K : PySem.W.Frag} {H : Hp} {M : Addr → Prop} {zvs : List (Key × V)} {zds : List (Key × Da)} {k : Key} {d : Da} (al : zds.all (fun p => shD p.2) = true) (e : valD zds k = some d) : shD d = true := by
  unfold valD at e
  cases f : zds.find? fun kv => decide (kv.1 = k) with
  | none => rw [f] at e; cases e
  | some p =>
    rw [f] at e
    cases e
    exact List.all_eq_true.mp al p (List.mem_of_find?_eq_some f)
def rNeDD (K : PySem.W.Frag) : R2 := fun x y H Q => ∃ (M : Addr → Prop) (a b : Addr) (kvs zvs : List (Key × V)) (kds zds : List (Key × Da)), x = .ref a ∧ y = .ref b ∧ H a = some (.dK kvs) ∧ H b = some (.dK zvs) ∧
  KvRep K H M kvs kds ∧ KvRep K H M zvs zds ∧ kds.all (fun p => shD p.2) = true ∧ zds.all (fun p => shD p.2) = true ∧ Q (.bl (!eqDD kds zds)) H
def gNeDD : G2 := fun x y h => match asDk x h, asDk y h with
  | some (_, kds), some (_, zds) => if kds.all (fun p => shD p.2) && zds.all (fun p => shD p.2) then some (.d (.bool (!eqDD kds zds)), h) else none
  | _, _ => none
section
variable {h : Hh} {Q : Vl → Hh → Prop} {n m : Nat} {kds zds : List (Key × Da)}
end
end Rk

/-! Rk100: xs.extend([..]): a list that is changed, by a list just made. -/
namespace Rk
open PySem PySem.Spec L2 PyProof.Rows
variable {mg : Str → Option Value}
def gExt : GM := fun o as h => match o, as with
  | .r n, [.r m] => match h[m]? with
    | some (some (.lst ys)) => match (h.set m none)[n]? with
      | some (some (.lst xs)) => if fitB (xs.length + ys.length) = true then some (.d .none, (h.set m none).set n (some (.lst (xs ++ ys)))) else none
      | _ => none
    | _ => none
  | _, _ => none
section
variable {h : Hh} {Q : Vl → Hh → Prop} {n m : Nat} {xs ys : List Da}
end
end Rk

/-! Rk101: for .. in zip(x, y, z): each a list or a tuple. -/
namespace Rk
open PySem PySem.Spec PyProof.Rows L2
/-- what a source is -/
inductive SK where
  | t
  | l
def SqK (K : PySem.W.Frag) (H : Hp) : SK → Addr → List V → Prop
  | .t => SqT K H
  | .l => SqL K H
def ItK (h : Heap) : SK → Addr → Addr → Nat → Prop
  | .t => h.IsTupleIter
  | .l => h.IsListIter
def SeqK (h : Heap) : SK → Addr → Array Value → Prop
  | .t => h.IsTuple
  | .l => h.IsList
section
variable {prog : Program} {w : World} {A : Around}
end
theorem ItK.at {h h' : Heap} {k : SK} {it t : Addr} {n : Nat} (x : ItK h k it t n) (e : ∀ o, h.get? it = some o → h'.get? it = some o) : ItK h' k it t n := by
  cases k with
  | t => exact Heap.IsTupleIter.at x e
  | l => exact Heap.IsListIter.at x e
theorem ItK.obj {h : Heap} {k : SK} {it t : Addr} {n : Nat} (x : ItK h k it t n) : ∃ o, h.get? it = some o ∧ ∃ fs, o.data = .fields fs := by
  cases k with
  | t =>
    obtain ⟨o, e, _, d⟩ := x
    exact ⟨o, e, _, d⟩
  | l =>
    obtain ⟨o, e, _, d⟩ := x
    exact ⟨o, e, _, d⟩
def Itz3 (K : PySem.W.Frag) (k1 k2 k3 : SK) (a b c : Addr) : It :=
  ⟨fun i H => ∃ (us ws zs : List V) (u w z : V), SqK K H k1 a us ∧ SqK K H k2 b ws ∧ SqK K H k3 c zs ∧ us[i]? = some u ∧ ws[i]? = some w ∧ zs[i]? = some z,
   fun i H v H' => ∃ N u w z, v = .ref N ∧ H N = none ∧ H' = upd H N (.tup [u, w, z]) ∧ (∀ us, SqK K H k1 a us → us[i]? = some u) ∧ (∀ ws, SqK K H k2 b ws → ws[i]? = some w) ∧ ∀ zs, SqK K H k3 c zs → zs[i]? = some z,
   fun i H => ∃ us ws zs : List V, SqK K H k1 a us ∧ SqK K H k2 b ws ∧ SqK K H k3 c zs ∧ (us.length ≤ i ∨ ws.length ≤ i ∨ zs.length ≤ i)⟩
def z3S (k1 k2 k3 : SK) (z q o i j l a b c : Addr) (n : Nat) (h : Heap) : Prop := IsZip h z q o .none ∧ IsTupOf3 h q (.ref i) (.ref j) (.ref l) ∧ (∃ u w x, IsTupOf3 h o u w x) ∧ ItK h k1 i a n ∧ ItK h k2 j b n ∧ ItK h k3 l c n
/-- three to a row -/
def zip3D (xs ys zs : List Da) : List Da := ((xs.zip ys).zip zs).map fun p => .tuple [p.1.1, p.1.2, p.2]
def tiZ3 (K : PySem.W.Frag) (k1 k2 k3 : SK) (ta : TA) : TI := fun σ H R => ta σ H fun vs H1 => ∃ a b c us ws zs, vs = [.ref a, .ref b, .ref c] ∧ SqK K H1 k1 a us ∧ SqK K H1 k2 b ws ∧ SqK K H1 k3 c zs ∧ R (Itz3 K k1 k2 k3 a b c) H1
/-- a source of data: its kind, its items -/
def srcD : Vl → Option (SK × List Da)
  | .d (.tuple xs) => some (.t, xs)
  | .d (.list xs) => some (.l, xs)
  | _ => none
def SrcR (K : PySem.W.Frag) (k : SK) (a : Addr) (xs : List Da) (φ : List Addr) (h : Hh) (H : Hp) : Prop := Rep K H (Live φ h) (.ref a) (match k with
  | .t => .tuple xs
  | .l => .list xs)
def iZip3 (as : Av) : Iv := fun ρ h => (as ρ h).bind fun vs h1 => match vs with
  | [x, y, z] => match srcD x, srcD y, srcD z with
    | some (_, xs), some (_, ys), some (_, zs) => .ok ⟨zip3D xs ys zs, none⟩ h1
    | _, _, _ => .no
  | _ => .no
section
variable {X : Cx} {W : WX} {pos p : Pos} {fs : Av}
end
end Rk

/-! Rk102: the bits that two numbers have in common. -/
namespace Rk
open PySem PySem.Spec L2
variable {mg : Str → Option Value}
def fAnd (a b : Int) : Option Da := some (.int (Builtin.bitAnd a b))
end Rk

/-! Rk103: a number as a test. -/
namespace Rk
open PySem PySem.Spec L2
variable {mg : Str → Option Value}
/-- a value that is a whole number, as a truth -/
def truI : Vl → Hh → Out Bool
  | .d (.int i), h => .ok (i != 0) h
  | _, _ => .no
def eTI (f : Ev) : Tv := fun ρ h => (f ρ h).bind truI
theorem PoT.int {K : PySem.W.Frag} {mg : Str → Option Value} {φ : List Addr} {h : Hh} {H : Hp} {v : Vl} {x : V} {Q : Bool → Hp → Prop} {E : XK} (sm : Sim K φ h H) (rv : VRep K mg φ h H x v)
    (q : PoT K mg φ h H (truI v h) Q E) : ∃ k, TruV K x H k ∧ Q k H := by
  unfold truI at q
  split at q
  · rename_i i
    cases rv
    exact ⟨_, rfl, q H φ (Step.refl _ _ _) sm⟩
  · exact q.elim
def TrIK (v : Vl) (h : Hh) (K : Bool → Hh → Prop) : Prop := ∃ i, v = .d (.int i) ∧ K (i != 0) h
section
variable {E : XP} {ρ : En} {h : Hh} {b : Bool} {K : Bool → Hh → Prop} {a : Ev} {i : Int}
end
end Rk

/-! Rk104: a text so many times; a tuple so many times, once too. -/
namespace Rk
open PySem PySem.Spec PyProof.Rows L2
variable {mg : Str → Option Value}
def rMulS : R2 := fun x y H Q => ∃ z k, x = .str z ∧ y = .int k ∧ z.length ≤ 16 ∧ 0 ≤ k ∧ k ≤ 1000000 ∧ Q (.str (Txt.mul z k)) H
theorem op_mulS {X : Cx} : OpR X (binaryOp .Mult) rMulS := by
  intro pins s σ H x y v u Q I rx ry h
  obtain ⟨i, j, rfl, rfl, h1, h2, h3, q⟩ := h
  obtain ⟨t, rfl⟩ := rx
  obtain ⟨t', rfl⟩ := ry
  exact PySem.W.KXi.mul rfl h1 (by omega) (by omega) fun t' k _ _ => ⟨.str (Txt.mul i j), H, I.tok _, ⟨_, rfl⟩, q⟩
def mulSB (z : Str) (k : Int) : Bool := decide (z.length ≤ 16) && decide (0 ≤ k) && decide (k ≤ 1000000)
def gMulS : G2 := fun x y h => match x, y with
  | .d (.str z), .d (.int k) => if mulSB z k then some (.d (.str (Txt.mul z k)), h) else none
  | _, _ => none
theorem ok_mulS {K : PySem.W.Frag} : Ok2 K mg rMulS gMulS := by
  intro φ h H x y a b Q v h' sm rx ry e k
  unfold gMulS at e
  split at e
  · rename_i z k0
    split at e
    · rename_i hz
      cases e
      unfold mulSB at hz
      simp only [Bool.and_eq_true, decide_eq_true_eq] at hz
      cases rx
      cases ry
      exact ⟨z, k0, rfl, rfl, hz.1.1, hz.1.2, hz.2, k _ H φ (Step.refl _ _ _) sm (Rep.str _)⟩
    · cases e
  · cases e
theorem wo_mulS {Q : Vl → Hh → Prop} {h : Hh} {z w : Str} {k : Int} (b : mulSB z k = true) (e : Txt.mul z k = w) (q : Q (.d (.str w)) h) : Wo (gMulS (.d (.str z)) (.d (.int k)) h) Q :=
  wo_eq (v := .d (.str w)) (h' := h) (by unfold gMulS; dsimp only; rw [if_pos b, e]) q
end Rk

/-! Rk105: a tuple so many times, once too. -/
namespace Rk
open PySem PySem.Spec PyProof.Rows L2
variable {mg : Str → Option Value}
def rRepT1 (K : PySem.W.Frag) : R2 := fun x y H Q => ∃ l xs, x = .ref l ∧ y = .int 1 ∧ SqT K H l xs ∧ xs ≠ [] ∧ Q (.ref l) H
/-- as gRepT, once too -/
def gRepT1 : G2 := fun x y h => match x, y with
  | .d (.tuple ds), .d (.int k) => if k = 1 ∧ ds ≠ [] then some (.d (.tuple ds), h) else gRepT x y h
  | _, _ => none
end Rk

/-! Rk106: a whole number as a text, str(i). -/
namespace Rk
open PySem PySem.Spec L2 PyProof.Rows PySem.Builtin PySem.Builtin.Str PySem.Builtin.Int
section
variable {prog : Program} {w : World} {A : Around} {E : Value → Shared → Prop} {s : Shared} {a : Int} {t : Tok}
theorem strOf_intL {Q : Value → Shared → Prop} (hn : s.heap.NoDigits) (ha : a.natAbs < 10 ^ 4300) (h : Q (.str (toString a) s.toks) { s with toks := s.toks + 1 }) : wpAny (model prog w) A (PySem.Builtin.Str.strOf (.int a t)) Q E s := by
  unfold PySem.Builtin.Str.strOf
  rw [show isExactStr (.int a t) = false from rfl]
  try (have hv : [Value.int a t].any Value.onHeap = false := rfl; simp only [cRoomFor, hv, Bool.false_eq_true, if_false, pure_bind])
  refine wpAny_bind (m := callSpecial? (.int a t) (Str.ofString "__str__")) (wpAny_callSpecial?_slot (name := Str.ofString "__str__") (typeIs_int s a t) F.slot_int_str ?_)
  refine wpAny_call_entry F.slot_int_str (typeIs_int s a t) entry_object_str ?_ (args_object_str _)
  unfold Builtin.«object.__str__»
  refine wpAny_bind (m := slotArgs "__str__" 0 _) (wpAny_pure ?_)
  try (have hv : [Value.int a t].any Value.onHeap = false := rfl; simp only [cRoomFor, hv, Bool.false_eq_true, if_false, pure_bind])
  refine wpAny_bind (m := callSpecialIfBound? (.int a t) (Str.ofString "__repr__")) (wpAny_callSpecialIfBound?_slot (name := Str.ofString "__repr__") (typeIs_int s a t) F.slot_int_repr
    (call_int_reprL hn ha ?_))
  exact wpAny_pure ⟨_, rfl, wpAny_pure h⟩
theorem str_of_intL {Q : Value → Shared → Prop} (hn : s.heap.NoDigits) (ha : a.natAbs < 10 ^ 4300) (h : Q (.str (toString a) s.toks) { s with toks := s.toks + 1 }) : wpAny (model prog w) A (call (.type "str") [.int a t]) Q E s :=
  callType_new F.called_str (by decide) (F.typeCall_str_1 _) (F.newCall_str_1 _) (fun obj => F.args_object_init_2 obj _) F.entry_str_new
    (meets_str_new (S := fun A R s => s.heap.NoDigits ∧ a.natAbs < 10 ^ 4300 ∧ R (.ok (.ret (.str (toString a) s.toks))) { s with toks := s.toks + 1 })
      fun _ _ _ _ _ hq => strOf_intL hq.1 hq.2.1 hq.2.2)
    ⟨hn, ha, typeIs_str _ _ _, h⟩
end
variable {mg : Str → Option Value}
theorem call_strI {X : Cx} (D : DigN X.K) : CallR X (.type "str") (fun xs H Q => ∃ i, xs = [.int i] ∧ i.natAbs < 10 ^ 4300 ∧ Q (.str (toString i)) H) := by
  intro pins s σ H xs us Q I r h
  obtain ⟨i, rfl, hz, q⟩ := h
  obtain ⟨u, rfl, t, rfl⟩ := vals1 r
  have nd : s.heap.NoDigits := (D.heap I.mod.kin).keeps I.bk
  exact str_of_intL nd hz ⟨.str _, H, I.tok _, ⟨_, rfl⟩, q⟩
def gStrI : GC := fun as h => match as with
  | [.d (.int i)] => if i.natAbs.log2 < 12900 then some (.d (.str (toString i)), h) else none
  | _ => none
theorem ok_strI {K : PySem.W.Frag} : OkC K mg (fun xs H Q => ∃ i, xs = [.int i] ∧ i.natAbs < 10 ^ 4300 ∧ Q (.str (toString i)) H) gStrI := by
  intro φ h H xs as Q v h' sm rs e k
  unfold gStrI at e
  split at e
  · rename_i i
    obtain ⟨x, rfl, rx⟩ := rs.one
    split at e
    · rename_i hc
      cases e
      cases rx
      exact ⟨i, rfl, lt_big hc, k _ H φ (Step.refl _ _ _) sm (Rep.str _)⟩
    · cases e
  · cases e
theorem wo_strI {Q : Vl → Hh → Prop} {h : Hh} {i : Int} (b : i.natAbs.log2 < 12900) (q : Q (.d (.str (toString i))) h) : Wo (gStrI [.d (.int i)] h) Q :=
  wo_eq (v := .d (.str (toString i))) (h' := h) (by unfold gStrI; dsimp only; rw [if_pos b]) q
end Rk

/-! Rk107: repr of data with dicts in it. -/
namespace Rk
open PySem PySem.Spec L2 PyProof.Rows
def keyB : Da → Bool
  | .none => false
  | _ => true
mutual
/-- data whose dicts have numbers and texts as keys; whole numbers of less than 12900 bits -/
def shC : Da → Bool
  | .int i => decide (i.natAbs.log2 < 12900)
  | .list ds => shCs ds
  | .tuple ds => shCs ds
  | .dict kds => shCk kds
  | .none => true
  | .bool _ => true
  | .str _ => true
def shCs : List Da → Bool
  | [] => true
  | d :: ds => shC d && shCs ds
def shCk : List (Da × Da) → Bool
  | [] => true
  | (k, v) :: r => shB k && (keyB k && (shC v && shCk r))
end
theorem shCk_split : ∀ kds : List (Da × Da), shCk kds = true → shBs (kds.map (·.1)) = true ∧ shCs (kds.map (·.2)) = true
  | [], _ => ⟨rfl, rfl⟩
  | (k, v) :: r, e => by
    simp only [shCk, Bool.and_eq_true] at e
    obtain ⟨e1, e2, e3, e4⟩ := e
    obtain ⟨a, b⟩ := shCk_split r e4
    exact ⟨by simp only [List.map_cons, shBs, e1, a, Bool.and_self], by simp only [List.map_cons, shCs, e3, b, Bool.and_self]⟩
theorem kv_reads {X : Cx} {s : Shared} : ∀ {es : List DictEntry} {vs : List (Key × Value)} {kvs : List (Key × V)}, PySem.Pairs (mixKind X.prog X.w) es vs → KV kvs vs →
    (∃ as, ReadsAll s.heap (es.map (·.key)) (kvs.map fun p => kD p.1) as) ∧ Vals (kvs.map (·.2)) (es.map (·.val))
  | [], _, _, .nil, .nil => ⟨⟨_, .nil⟩, .nil⟩
  | e :: es, _, _, .cons hk hv t, .cons r1 r2 => by
    obtain ⟨⟨as, q1⟩, q2⟩ := kv_reads (s := s) t r2
    have r3 := r1.2
    rw [← hv] at r3
    rw [← r1.1] at hk
    refine ⟨?_, .cons r3 q2⟩
    rcases keyIs_shape hk with ⟨i, tk, e1, e2⟩ | ⟨x, tk, e1, e2⟩
    · refine ⟨_, .cons (as := []) ?_ q1⟩
      dsimp only at e1 ⊢
      rw [e1, e2]
      exact Reads.int i tk
    · refine ⟨_, .cons (as := []) ?_ q1⟩
      dsimp only at e1 ⊢
      rw [e1, e2]
      exact Reads.str x tk
theorem zip_maps : ∀ {ks : List Key} {ds : List Da}, ks.length = ds.length → ((ks.zip ds).map (fun p => (kD p.1, p.2))).map (·.1) = ks.map kD ∧ ((ks.zip ds).map (fun p => (kD p.1, p.2))).map (·.2) = ds
  | [], [], _ => ⟨rfl, rfl⟩
  | k :: ks, d :: ds, h => by
    obtain ⟨a, b⟩ := zip_maps (ks := ks) (ds := ds) (by simpa using h)
    rw [List.zip_cons_cons]
    simp only [List.map_cons]
    rw [a, b]
    exact ⟨rfl, rfl⟩
section
variable {X : Cx} {pins : List (Addr × Obj)} {σ : L2.St} {H : Hp} {s : Shared} {M : Addr → Prop}
/-- what a list of parts asks for -/
def RcA (X : Cx) (s : Shared) (us : List Value) (ds : List Da) : Prop := ∃ as cs, ReadsAll s.heap us ds as ∧ ReadAtMost s.heap (PyData.depthAll ds) cs ∧ ReprAllK X.prog X.w cs s.heap (PyData.depthAll ds) us (PyData.shownAll ds)
theorem repC_lst (nd : s.heap.NoDigits) (I : Inv X pins σ H s) {a : Addr} {xs : List V} {ds : List Da} (h : SqL X.K H a xs) (k : ∀ {us : List Value}, Vals xs us → (∀ t ∈ PyData.shownAll ds, t.length ≤ sizeLine) → RcA X s us ds) (z : (PyData.list ds).shown.length ≤ sizeLine) :
    ∃ as cs, Reads s.heap (.ref a) (.list ds) as ∧ ReadAtMost s.heap (PyData.list ds).depth cs ∧ ReprK X.prog X.w cs s.heap (PyData.list ds).depth (.ref a) (PyData.list ds).shown := by
  simp only [PyData.shown] at z
  obtain ⟨its, rv, ⟨o, n, ho, hc, _, hd⟩, _⟩ := I.list h
  obtain ⟨as, cs, hr, m, k1⟩ := k rv fun t ht => Nat.le_trans (listText_mem_le ht) z
  have rd : Reads s.heap (.ref a) (.list ds) _ := .list ho hc hd hr
  have np : a ∉ cs := not_mem_of_deeper rd (by simp only [PyData.depth]; omega) m
  refine ⟨_, a :: cs, rd, ReadAtMost.cons rd (by simp only [PyData.depth]; omega) m, ?_⟩
  simp only [PyData.shown, PyData.depth]
  cases its with
  | nil =>
    cases hr
    simp only [PyData.shownAll, listText_nil]
    exact ReprK.listEmpty ho hc hd
  | cons y l => exact ReprK.list ho hc hd np (by simpa using k1.length_eq) fun i y ey => k1.item i y (by simpa using ey)
theorem repC_tup (nd : s.heap.NoDigits) (I : Inv X pins σ H s) {a : Addr} {xs : List V} {ds : List Da} (h : SqT X.K H a xs) (k : ∀ {us : List Value}, Vals xs us → (∀ t ∈ PyData.shownAll ds, t.length ≤ sizeLine) → RcA X s us ds) (z : (PyData.tuple ds).shown.length ≤ sizeLine) :
    ∃ as cs, Reads s.heap (.ref a) (.tuple ds) as ∧ ReadAtMost s.heap (PyData.tuple ds).depth cs ∧ ReprK X.prog X.w cs s.heap (PyData.tuple ds).depth (.ref a) (PyData.tuple ds).shown := by
  simp only [PyData.shown] at z
  obtain ⟨its, rv, ⟨o, ho, hc, n, hd⟩, _⟩ := I.tuple h
  obtain ⟨as, cs, hr, m, k1⟩ := k rv fun t ht => Nat.le_trans (tupleText_mem_le ht) z
  have rd : Reads s.heap (.ref a) (.tuple ds) _ := .tuple ho hc hd hr
  have np : a ∉ cs := not_mem_of_deeper rd (by simp only [PyData.depth]; omega) m
  refine ⟨_, a :: cs, rd, ReadAtMost.cons rd (by simp only [PyData.depth]; omega) m, ?_⟩
  simp only [PyData.shown, PyData.depth]
  exact ReprK.tuple ho hc hd np k1
theorem repC_dct (nd : s.heap.NoDigits) (I : Inv X pins σ H s) {a : Addr} {kvs : List (Key × V)} {ds : List Da} {kds : List (Da × Da)} (h : H a = some (.dK kvs)) (hl : kvs.length = ds.length) (ek : kds = ((kvs.map (·.1)).zip ds).map (fun p => (kD p.1, p.2)))
    (e : shCk kds = true) (k : ∀ {us : List Value}, Vals (kvs.map (·.2)) us → (∀ t ∈ PyData.shownAll ds, t.length ≤ sizeLine) → RcA X s us ds) (z : (PyData.dict kds).shown.length ≤ sizeLine) :
    ∃ as cs, Reads s.heap (.ref a) (.dict kds) as ∧ ReadAtMost s.heap (PyData.dict kds).depth cs ∧ ReprK X.prog X.w cs s.heap (PyData.dict kds).depth (.ref a) (PyData.dict kds).shown := by
  have z' : (dictText (PyData.shownKv kds)).length ≤ sizeLine := by simpa only [PyData.shown] using z
  obtain ⟨m1, m2⟩ := zip_maps (ks := kvs.map (·.1)) (ds := ds) (by rw [List.length_map]; exact hl)
  rw [← ek] at m1 m2
  obtain ⟨s1, s2⟩ := shCk_split kds e
  obtain ⟨z1, lo1, vs1, rel1, dd1⟩ := dk_of I.hok h
  obtain ⟨o, es, ep, ho, hx, hd, _, hp, _⟩ := dd1
  obtain ⟨⟨as, q1⟩, q2⟩ := kv_reads (s := s) hp rel1
  rw [show (kvs.map fun p => kD p.1) = kds.map (·.1) by rw [m1, List.map_map]; rfl] at q1
  obtain ⟨b1, hb1, k1⟩ := bigs (prog := X.prog) (w := X.w) nd q1 s1 (fun t ht => let ⟨p, hp, hl⟩ := PyData.shownKv_key_le kds t ht; Nat.le_trans hl (Nat.le_trans (dictText_mem_le hp) z'))
  obtain ⟨bs, b2, q3, hb2, k2⟩ := k q2 (fun t ht => by
    rw [← m2] at ht
    obtain ⟨p, hp, hl⟩ := PyData.shownKv_val_le kds t ht
    exact Nat.le_trans hl (Nat.le_trans (dictText_mem_le hp) z'))
  rw [← m2] at q3 hb2 k2
  have rd : Reads s.heap (.ref a) (.dict kds) _ := .dict ho hx.1 hd q1 q3
  have hb : ReadAtMost s.heap (PyData.depthKv kds) (b1 ++ b2) := (hb1.mono (PyData.depthAll_keys_le kds)).append (hb2.mono (PyData.depthAll_vals_le kds))
  have hna : a ∉ b1 ++ b2 := not_mem_of_deeper rd (by simp only [PyData.depth]; omega) hb
  refine ⟨_, a :: (b1 ++ b2), rd, ReadAtMost.cons rd (by simp only [PyData.depth]; omega) hb, ?_⟩
  simp only [PyData.depth, PyData.shown, PyData.shownKv_eq]
  exact ReprK.dict ho hx.1 hd lo1 hna (ReprEntriesK.of_two es.toList _ _
    (k1.more_le (fun b hb => List.mem_append_left _ hb) (PyData.depthAll_keys_le kds)) (k2.more_le (fun b hb => List.mem_append_right _ hb) (PyData.depthAll_vals_le kds)))
theorem repC_dct0 (I : Inv X pins σ H s) {a : Addr} (h : H a = some (.dT [])) :
    ∃ as cs, Reads s.heap (.ref a) (.dict []) as ∧ ReadAtMost s.heap (PyData.dict []).depth cs ∧ ReprK X.prog X.w cs s.heap (PyData.dict []).depth (.ref a) (PyData.dict []).shown := by
  obtain ⟨z1, lo1, xs, kt, o, es, ep, ho, hx, hd, he, _⟩ := dt_of I.hok h
  have x0 : xs = [] := by cases kt; rfl
  subst x0
  have e0 : es.toList = [] := he
  have rd : Reads s.heap (.ref a) (.dict []) _ := .dict ho hx.1 hd (by rw [e0]; exact .nil) (by rw [e0]; exact .nil)
  refine ⟨_, [a], rd, ReadAtMost.cons rd (Nat.le_refl _) nofun, ?_⟩
  simp only [PyData.depth, PyData.depthKv, PyData.shown, PyData.shownKv]
  exact ReprK.dict ho hx.1 hd lo1 nofun (by rw [e0]; exact .nil)
mutual
theorem repC (nd : s.heap.NoDigits) (I : Inv X pins σ H s) : ∀ {v : V} {d : Da}, Rep X.K H M v d → ∀ {u : Value}, RelV v u → shC d = true → d.shown.length ≤ sizeLine →
    ∃ as cs, Reads s.heap u d as ∧ ReadAtMost s.heap d.depth cs ∧ ReprK X.prog X.w cs s.heap d.depth u d.shown
  | _, _, .non, u, r, _, _ => by
    cases r
    exact ⟨_, [], .none, nofun, by simp only [PyData.shown]; exact .of_is ReprIs.none [] _ _⟩
  | _, _, .bl b, u, r, _, _ => by
    cases r
    exact ⟨_, [], .bool b, nofun, by simp only [PyData.shown]; exact .of_is (ReprIs.bool b) [] _ _⟩
  | _, _, .int i, u, r, e, _ => by
    obtain ⟨t, rfl⟩ := r
    exact ⟨_, [], .int i t, nofun, by simp only [PyData.shown]; exact ReprK.intL t nd (lt_big (of_decide_eq_true (by simpa only [shC] using e))) [] _⟩
  | _, _, .str x, u, r, _, z => by
    obtain ⟨t, rfl⟩ := r
    exact ⟨_, [], .str x t, nofun, by simp only [PyData.shown] at z ⊢; exact .of_is (ReprIs.str x t z) [] _ _⟩
  | _, _, .tup (a := a) (ds := ds) h n rs, u, r, e, z => by
    cases r
    exact repC_tup nd I (.inl h) (fun rv z => repCs nd I rs rv (by simpa only [shC] using e) z) z
  | _, _, .tupK (a := a) (ds := ds) h rs, u, r, e, z => by
    cases r
    exact repC_tup nd I (.inr h) (fun rv z => repCs nd I rs rv (by simpa only [shC] using e) z) z
  | _, _, .lst (a := a) (ds := ds) h n rs, u, r, e, z => by
    cases r
    exact repC_lst nd I (.inl h) (fun rv z => repCs nd I rs rv (by simpa only [shC] using e) z) z
  | _, _, .lstK (a := a) (ds := ds) h rs, u, r, e, z => by
    cases r
    exact repC_lst nd I (.inr h) (fun rv z => repCs nd I rs rv (by simpa only [shC] using e) z) z
  | _, _, .dct0 h n, u, r, e, z => by
    cases r
    exact repC_dct0 I h
  | _, _, .dct (a := a) (kvs := kvs) (ds := ds) (kds := kds) h n ne rs ek, u, r, e, z => by
    cases r
    exact repC_dct nd I h (by have := rs.length; rw [List.length_map] at this; exact this) ek (by simpa only [shC] using e) (fun rv z => repCs nd I rs rv (by
      have e2 := (shCk_split kds (by simpa only [shC] using e)).2
      rw [ek, (zip_maps (by have := rs.length; rw [List.length_map] at this ⊢; exact this)).2] at e2
      exact e2) z) z
  | _, _, .fn x, u, r, e, _ => by
    simp [shC, shCk, keyB] at e
  | _, _, .plt _ _ _ _, u, r, e, _ => by
    simp [shC, shCk, keyB] at e
theorem repCs (nd : s.heap.NoDigits) (I : Inv X pins σ H s) : ∀ {vs : List V} {ds : List Da}, Reps X.K H M vs ds → ∀ {us : List Value}, Vals vs us → shCs ds = true → (∀ t ∈ PyData.shownAll ds, t.length ≤ sizeLine) →
    ∃ as cs, ReadsAll s.heap us ds as ∧ ReadAtMost s.heap (PyData.depthAll ds) cs ∧ ReprAllK X.prog X.w cs s.heap (PyData.depthAll ds) us (PyData.shownAll ds)
  | _, _, .nil, us, r, _, _ => by
    cases r
    exact ⟨_, [], .nil, nofun, by simp only [PyData.shownAll]; exact .nil⟩
  | _, _, .cons (d := d) (ds := ds) p t, us, r, e, z => by
    cases r with
    | cons r1 r2 =>
      simp only [shCs, Bool.and_eq_true] at e
      simp only [PyData.shownAll, List.mem_cons] at z
      obtain ⟨a1, c1, q1, m1, k1⟩ := repC nd I p r1 e.1 (z _ (.inl rfl))
      obtain ⟨a2, c2, q2, m2, k2⟩ := repCs nd I t r2 e.2 fun t ht => z t (.inr ht)
      simp only [PyData.depthAll, PyData.shownAll]
      refine ⟨_, c1 ++ c2, .cons q1 q2, (m1.mono (Nat.le_max_left ..)).append (m2.mono (Nat.le_max_right ..)), ?_⟩
      refine .cons ((k1.more ?_).level_le (Nat.le_max_left ..)) (k2.more_le ?_ (Nat.le_max_right ..))
      · exact fun b hb => List.mem_append.mpr (.inl hb)
      · exact fun b hb => List.mem_append.mpr (.inr hb)
end
end
variable {mg : Str → Option Value}
/-- repr of a tuple with dicts in it -/
def rReprC (K : PySem.W.Frag) (xs : List V) (H : Hp) (Q : VK) : Prop := ∃ (a : Addr) (vs : List V) (ds : List Da) (M : Addr → Prop), xs = [.ref a] ∧ SqT K H a vs ∧ Reps K H M vs ds ∧ shCs ds = true ∧ (PyData.tuple ds).depth ≤ 60 ∧ (PyData.tuple ds).shown.length ≤ sizeLine ∧ Q (.str (PyData.tuple ds).shown) H
def gReprC : GC := fun as h => match as with
  | [.d (.tuple ds)] => if shCs ds && (decide ((PyData.tuple ds).depth ≤ 60) && fitB (PyData.tuple ds).shown.length) then some (.d (.str (PyData.tuple ds).shown), h) else none
  | _ => none
/-- what can be told as a text, with sizes; dicts too -/
structure ShC (k e : Nat) (d : Da) : Prop where
  s : shC d = true
  p : d.depth ≤ e
  l : d.shown.length ≤ k
end Rk

/-! Rk108: sizes of data with dicts in it; a tuple that may be a plain one. -/
namespace Rk
open PySem PySem.Spec L2 PyProof.Rows
variable {mg : Str → Option Value}
mutual
theorem shB_C : ∀ d : Da, shB d = true → shC d = true
  | .none, _ => by simp only [shC]
  | .bool _, _ => by simp only [shC]
  | .int _, e => by simpa only [shC, shB] using e
  | .str _, _ => by simp only [shC]
  | .list ds, e => by
    simp only [shC]
    exact shBs_C ds (by simpa only [shB] using e)
  | .tuple ds, e => by
    simp only [shC]
    exact shBs_C ds (by simpa only [shB] using e)
  | .dict _, e => by simp only [shB] at e; cases e
theorem shBs_C : ∀ ds : List Da, shBs ds = true → shCs ds = true
  | [], _ => by simp only [shCs]
  | d :: ds, e => by
    simp only [shBs, Bool.and_eq_true] at e
    simp only [shCs, shB_C d e.1, shBs_C ds e.2, Bool.and_self]
end
theorem ShW.c {k e : Nat} {d : Da} (s : ShW k e d) : ShC k e d := ⟨shB_C d s.s, s.p, s.l⟩
structure ShCs (k e : Nat) (ds : List Da) : Prop where
  s : shCs ds = true
  d : PyData.depthAll ds ≤ e
  l : piled (PyData.shownAll ds) ≤ k
theorem ShC.mono {k e k' e' : Nat} {d : Da} (h : ShC k e d) (a : k ≤ k') (b : e ≤ e') : ShC k' e' d := ⟨h.s, Nat.le_trans h.p b, Nat.le_trans h.l a⟩
theorem ShC.str {x : Str} (hx : ∀ c ∈ x.cps.toList, c < 16 ^ 8) : ShC (10 * x.length + 2) 0 (.str x) := ⟨by simp only [shC], by simp [PyData.depth], by simp only [PyData.shown]; exact PySem.StrLaws.reprText_len x hx⟩
theorem ShC.int {i : Int} (h : i.natAbs.log2 < 12900) : ShC 4400 0 (.int i) := by
  refine ⟨by simp only [shC]; exact decide_eq_true h, by simp [PyData.depth], ?_⟩
  simp only [PyData.shown]
  have e := int_text_length_le10 (k := 4300) (by decide) (lt_big h)
  clear h
  rw [PySem.ofString_length]
  omega
theorem ShCs.nil : ShCs 0 0 [] := ⟨by simp only [shCs], by simp [PyData.depthAll], by simp [PyData.shownAll, piled]⟩
theorem ShCs.cons {k e k' e' : Nat} {d : Da} {ds : List Da} (h : ShC k e d) (t : ShCs k' e' ds) : ShCs (k + 2 + k') (max e e') (d :: ds) := by
  refine ⟨by simp only [shCs, h.s, t.s, Bool.and_self], ?_, ?_⟩
  · have := h.p
    have := t.d
    simp only [PyData.depthAll]
    omega
  · have := h.l
    have := t.l
    simp only [PyData.shownAll]
    rw [piled_cons]
    omega
theorem ShCs.of {k e n : Nat} {ds : List Da} (h : ∀ d ∈ ds, ShC k e d) (hl : ds.length ≤ n) : ShCs (n * (k + 2)) e ds := by
  induction ds generalizing n with
  | nil => exact ⟨ShCs.nil.s, Nat.le_trans ShCs.nil.d (Nat.zero_le _), Nat.le_trans ShCs.nil.l (Nat.zero_le _)⟩
  | cons d ds ih =>
    cases n with
    | zero => simp at hl
    | succ n =>
      have a := ih (n := n) (fun x hx => h x (List.mem_cons_of_mem _ hx)) (by simpa using hl)
      have b := ShCs.cons (h d (List.mem_cons_self ..)) a
      rw [Nat.max_self] at b
      refine ⟨b.s, b.d, Nat.le_trans b.l ?_⟩
      rw [Nat.succ_mul]
      omega
theorem ShC.tup {k e : Nat} {ds : List Da} (t : ShCs k e ds) : ShC (k + 3) (e + 1) (.tuple ds) := by
  refine ⟨by simp only [shC]; exact t.s, by simp only [PyData.depth]; have := t.d; omega, ?_⟩
  simp only [PyData.shown]
  have hl := t.l
  unfold tupleText
  have j : (Str.join ", " (PyData.shownAll ds)).length ≤ piled (PyData.shownAll ds) := by
    by_cases z : PyData.shownAll ds = []
    · rw [z]; decide
    · have := join_length_add _ z
      omega
  rw [Str.length_append, Str.length_append]
  have a : (Str.ofString "(").length = 1 := by decide
  have b : (Str.ofString (if (PyData.shownAll ds).length == 1 then ",)" else ")")).length ≤ 2 := by split <;> decide
  have a' : ("(" : Str).length = 1 := a
  omega
theorem ShC.lst {k e : Nat} {ds : List Da} (t : ShCs k e ds) : ShC (k + 3) (e + 1) (.list ds) := by
  refine ⟨by simp only [shC]; exact t.s, by simp only [PyData.depth]; have := t.d; omega, ?_⟩
  simp only [PyData.shown]
  have hl := t.l
  unfold listText
  have j : (textFrom 0 "[" (PyData.shownAll ds)).length ≤ 1 + piled (PyData.shownAll ds) := by
    cases e : PyData.shownAll ds with
    | nil => decide
    | cons x xs =>
      have h1 := textFrom_length_pos xs 1 (("[" : Str) ++ ("" : Str) ++ x) (by decide)
      have h2 : textFrom 0 "[" (x :: xs) = textFrom 1 (("[" : Str) ++ ("" : Str) ++ x) xs := rfl
      rw [h2, h1, piled_cons, Str.length_append, Str.length_append]
      have a1 : ("[" : Str).length = 1 := by decide
      have a2 : ("" : Str).length = 0 := by decide
      omega
  rw [Str.length_append]
  have b : ("]" : Str).length = 1 := by decide
  omega

theorem shCk_of : ∀ {kds : List (Da × Da)}, (∀ p ∈ kds, shB p.1 = true ∧ keyB p.1 = true ∧ shC p.2 = true) → shCk kds = true
  | [], _ => by simp only [shCk]
  | (k, v) :: r, h => by
    obtain ⟨a, b, c⟩ := h (k, v) (List.mem_cons_self ..)
    simp only [shCk]
    rw [a, b, c, shCk_of fun p hp => h p (List.mem_cons_of_mem _ hp)]
    rfl
theorem dict_sizes {k e : Nat} : ∀ {kds : List (Da × Da)}, (∀ p ∈ kds, ShC k e p.1 ∧ ShC k e p.2) → PyData.depthKv kds ≤ e ∧ ((PyData.shownKv kds).map (·.length)).sum + 2 * (PyData.shownKv kds).length ≤ kds.length * (2 * k + 4)
  | [], _ => ⟨by simp [PyData.depthKv], by simp [PyData.shownKv]⟩
  | (x, v) :: r, h => by
    obtain ⟨a, b⟩ := h (x, v) (List.mem_cons_self ..)
    obtain ⟨i1, i2⟩ := dict_sizes fun p hp => h p (List.mem_cons_of_mem _ hp)
    have a1 := a.p
    have a2 := a.l
    have b1 := b.p
    have b2 := b.l
    dsimp only at a1 a2 b1 b2
    refine ⟨by simp only [PyData.depthKv]; omega, ?_⟩
    simp only [PyData.shownKv, List.map_cons, List.sum_cons, List.length_cons]
    rw [Str.length_append, Str.length_append]
    have c : (Str.ofString ": ").length = 2 := by decide
    have c' : (": " : Str).length = 2 := c
    have e : (r.length + 1) * (2 * k + 4) = r.length * (2 * k + 4) + (2 * k + 4) := Nat.succ_mul _ _
    omega
theorem ShC.dict {k e n : Nat} {kds : List (Da × Da)} (h : ∀ p ∈ kds, ShC k e p.1 ∧ shB p.1 = true ∧ keyB p.1 = true ∧ ShC k e p.2) (hl : kds.length ≤ n) : ShC (n * (2 * k + 4) + 3) (e + 1) (.dict kds) := by
  obtain ⟨i1, i2⟩ := dict_sizes fun p hp => ⟨(h p hp).1, (h p hp).2.2.2⟩
  refine ⟨?_, by simp only [PyData.depth]; omega, ?_⟩
  · simp only [shC]
    exact shCk_of fun p hp => ⟨(h p hp).2.1, (h p hp).2.2.1, (h p hp).2.2.2.s⟩
  · simp only [PyData.shown]
    have := PySem.dictText_len_le (PyData.shownKv kds)
    have m : kds.length * (2 * k + 4) ≤ n * (2 * k + 4) := Nat.mul_le_mul_right _ hl
    omega
/-- a plain tuple as a tuple, anything else as it is -/
def unq : Vl → Vl
  | .d (.dict [(.none, .tuple ds)]) => .d (.tuple ds)
  | v => v
def eUnq (f : Ev) : Ev := fun ρ h => (f ρ h).bind fun v h1 => .ok (unq v) h1
end Rk

/-! Rk109: isinstance of a dict as data, whose first key is a text. -/
namespace Rk
open PySem PySem.Spec L2 PyProof.Rows
variable {mg : Str → Option Value}
def isTyQ (T : Ty) (v : Vl) (h : Hh) : Option Bool := match v with
  | .d (.dict ((.str _, _) :: _)) => some (match T with | .dict => true | _ => false)
  | v => isTy T v h
def eIsiQ (T : Ty) (a : Ev) : Ev := fun ρ h => (a ρ h).bind fun v h1 => match isTyQ T v h1 with
  | some b => .ok (.d (.bool b)) h1
  | none => .no
section
variable {X : Cx} {W : WX} {a : Expr} {fa : Ev} {pos p q : Pos}
end
end Rk

/-! Rk110: x.split(y), x.partition(y), int(text); z in a constant dict, its value. -/
namespace Rk
open PySem PySem.Spec L2 PyProof.Rows
variable {mg : Str → Option Value}
theorem strs_reps {K : PySem.W.Frag} {H : Hp} {M : Addr → Prop} : ∀ ns : List Str, Reps K H M (ns.map V.str) (ns.map PyData.str)
  | [] => .nil
  | n :: ns => .cons (.str n) (strs_reps ns)
def gSplit (a : Str) (y : Vl) (h : Hh) : Option (Vl × Hh) := match y with
  | .d (.str b) => if (b.length == 0) = false ∧ a.length + 2 ≤ 16777216 then some (.r h.length, h ++ [some (.lst ((Txt.split a b).map PyData.str))]) else none
  | _ => none
def gPart (a : Str) (y : Vl) (h : Hh) : Option (Vl × Hh) := match y with
  | .d (.str b) => if (b.length == 0) = false ∧ a.length ≤ 16777216 then some (.d (.tuple [.str (Txt.partition a b).1, .str (Txt.partition a b).2.1, .str (Txt.partition a b).2.2]), h) else none
  | _ => none
section
variable {X : Cx} {W : WX} {o e : Expr} {fo fe : Ev} {apos pos : Pos}
theorem ee_split (ho : EE X W o fo) (he : EE X W e fe) (hs : starEach [e] X.env = [(false, eval e X.env)] := by rfl) (hbase : attributeBase o "split" X.env (eval o X.env) = eval o X.env := by rfl) (hline : (apos.endLine == pos.line) = true := by rfl) :
    EE X W (.Call (.Attribute o "split" apos) [e] [] pos) (eM1 gSplit fo fe) :=
  PE.of (pe_split ho he hs hbase hline) fun σ H Q ⟨φ, h, ρ, sm, er, k⟩ => ⟨φ, h, ρ, sm, er, PoX.goE k fun x v h1 H1 φ1 st sm1 rv k1 => by
    split at k1
    · rename_i a
      cases (show Rep X.K H1 (Live φ1 h1) x (.str a) from rv)
      refine ⟨⟨a, rfl⟩, φ1, h1, ρ, sm1, er.step st, PoX.goE k1 fun y w h2 H2 φ2 st2 sm2 rw2 k2 => ?_⟩
      obtain ⟨z, h3, e3, k3⟩ := PoX.ofO k2
      unfold gSplit at e3
      split at e3
      · rename_i b
        split at e3
        · rename_i hz
          cases e3
          cases (show Rep X.K H2 (Live φ2 h2) y (.str b) from rw2)
          refine ⟨a, b, rfl, rfl, hz.1, hz.2, fun p hp => ?_⟩
          obtain ⟨t1, t2, t3⟩ := new_list (mg := X.mg) sm2 (strs_reps (Txt.split a b)) hp
          exact k3 _ _ _ t1 t2 t3
        · cases e3
      · cases e3
    · exact k1.elim⟩
theorem ee_part (ho : EE X W o fo) (he : EE X W e fe) (hs : starEach [e] X.env = [(false, eval e X.env)] := by rfl) (hbase : attributeBase o "partition" X.env (eval o X.env) = eval o X.env := by rfl) (hline : (apos.endLine == pos.line) = true := by rfl) :
    EE X W (.Call (.Attribute o "partition" apos) [e] [] pos) (eM1 gPart fo fe) :=
  PE.of (pe_partition ho he hs hbase hline) fun σ H Q ⟨φ, h, ρ, sm, er, k⟩ => ⟨φ, h, ρ, sm, er, PoX.goE k fun x v h1 H1 φ1 st sm1 rv k1 => by
    split at k1
    · rename_i a
      cases (show Rep X.K H1 (Live φ1 h1) x (.str a) from rv)
      refine ⟨⟨a, rfl⟩, φ1, h1, ρ, sm1, er.step st, PoX.goE k1 fun y w h2 H2 φ2 st2 sm2 rw2 k2 => ?_⟩
      obtain ⟨z, h3, e3, k3⟩ := PoX.ofO k2
      unfold gPart at e3
      split at e3
      · rename_i b
        split at e3
        · rename_i hz
          cases e3
          cases (show Rep X.K H2 (Live φ2 h2) y (.str b) from rw2)
          refine ⟨a, b, rfl, rfl, hz.1, hz.2, fun p hp => ?_⟩
          obtain ⟨t1, t2, t3⟩ := new_tup (mg := X.mg) sm2 (.cons (.str _) (.cons (.str _) (.cons (.str _) .nil))) hp
          exact k3 _ _ _ t1 t2 t3
        · cases e3
      · cases e3
    · exact k1.elim⟩
end
/-- int(text) -/
theorem call_intT {X : Cx} : CallR X (.type "int") (fun xs H Q => ∃ x n, xs = [.str x] ∧ PySem.intText? x = some n ∧ x.length ≤ 640 ∧ Q (.int n) H) := by
  intro pins s σ H xs us Q I r h
  obtain ⟨x, n, rfl, hn, hl, q⟩ := h
  obtain ⟨u, rfl, t, rfl⟩ := vals1 r
  exact PySem.W.KIN.call_text hn hl ⟨.int n, H, I.tok _, ⟨_, rfl⟩, q⟩
def gIntT : GC := fun as h => match as with
  | [.d (.str x)] => match PySem.intText? x with
    | some n => if x.length ≤ 640 then some (.d (.int n), h) else none
    | none => none
  | _ => none
theorem ok_intT {K : PySem.W.Frag} : OkC K mg (fun xs H Q => ∃ x n, xs = [.str x] ∧ PySem.intText? x = some n ∧ x.length ≤ 640 ∧ Q (.int n) H) gIntT := by
  intro φ h H xs as Q v h' sm rs e k
  unfold gIntT at e
  split at e
  · rename_i x
    obtain ⟨y, rfl, rx⟩ := rs.one
    split at e
    · rename_i n hn
      split at e
      · rename_i hc
        cases e
        cases rx
        exact ⟨x, n, rfl, hn, hc, k _ H φ (Step.refl _ _ _) sm (Rep.int _)⟩
      · cases e
    · cases e
  · cases e
theorem wo_intT {Q : Vl → Hh → Prop} {h : Hh} {x : Str} {n : Int} (e : PySem.intText? x = some n) (l : x.length ≤ 640) (q : Q (.d (.int n)) h) : Wo (gIntT [.d (.str x)] h) Q :=
  wo_eq (v := .d (.int n)) (h' := h) (by unfold gIntT; dsimp only; rw [e]; dsimp only; rw [if_pos l]) q
theorem wo_split {Q : Vl → Hh → Prop} {h : Hh} {a b : Str} (l : a.length ≤ 16777200) (hb : (b.length == 0) = false) (q : Q (.r h.length) (h ++ [some (.lst ((Txt.split a b).map PyData.str))])) : Wo (gSplit a (.d (.str b)) h) Q :=
  wo_eq (v := .r h.length) (h' := h ++ [some (.lst ((Txt.split a b).map PyData.str))]) (by unfold gSplit; dsimp only; rw [if_pos ⟨hb, by omega⟩]) q
theorem wo_part {Q : Vl → Hh → Prop} {h : Hh} {a b : Str} (l : a.length ≤ 16777200) (hb : (b.length == 0) = false) (q : Q (.d (.tuple [.str (Txt.partition a b).1, .str (Txt.partition a b).2.1, .str (Txt.partition a b).2.2])) h) : Wo (gPart a (.d (.str b)) h) Q :=
  wo_eq (v := .d (.tuple [.str (Txt.partition a b).1, .str (Txt.partition a b).2.1, .str (Txt.partition a b).2.2])) (h' := h) (by unfold gPart; dsimp only; rw [if_pos ⟨hb, by omega⟩]) q
/-- z in a constant dict; its value -/
def gInC (kds : List (Str × Da)) (v : Vl) (h : Hh) : Option (Vl × Hh) := match v with
  | .d (.str z) => some (.d (.bool (seek kds z).isSome), h)
  | _ => none
def gIxC (kds : List (Str × Da)) (v : Vl) (h : Hh) : Option (Vl × Hh) := match v with
  | .d (.str z) => match seek kds z with
    | some d => some (.d d, h)
    | none => none
  | _ => none
def eG1 (g : Vl → Hh → Option (Vl × Hh)) (f : Ev) : Ev := fun ρ h => (f ρ h).bind fun v h1 => ofO (g v h1)
section
variable {X : Cx} {W : WX} {x : Str} {kds : List (Str × Da)} {e : Expr} {npos pos : Pos} {fe : Ev}
end
end Rk

/-! Rk111: enumerate over a text. -/
namespace Rk
open PySem PySem.Spec PyProof.Rows L2
def IteS (x : Str) : It :=
  ⟨fun i _ => i < x.cps.size, fun i H v H' => ∃ T c, v = .ref T ∧ H T = none ∧ H' = upd H T (.tup [.int (i : Nat), .str ⟨#[c]⟩]) ∧ x.cps[i]? = some c, fun i _ => x.cps.size ≤ i⟩
def iEnumSK (ta : TA) : TI := fun σ H R => ta σ H fun vs H1 => ∃ x, vs = [.str x] ∧ R (IteS x) H1
def iEnumS (as : Av) : Iv := fun ρ h => (as ρ h).bind fun vs h1 => match vs with
  | [.d (.str x)] => .ok ⟨(sgn x).mapIdx fun i d => .tuple [.int (i : Nat), d], none⟩ h1
  | _ => .no
section
variable {X : Cx} {W : WX} {pos p : Pos} {fs : Av}
end
end Rk

/-! Rk112: raise C(e, f), C's own __init__ handing a text to its base's and keeping two fields. -/
namespace Rk
open PySem PySem.Spec PyProof.Rows L2
/-- what an __init__ that keeps two fields does -/
def spI2 (K : PySem.W.Frag) (C : Addr) (f g : Str) : Sp := fun vs H Q _ => ∃ (a : Addr) (y z : V), vs = [.ref a, y, z] ∧ H a = some (exo a C none) ∧ ∀ dx, H dx = none → dx ≠ a → Q .non (upd (upd (upd H dx (exd dx [(f, y)])) a (exo a C (some dx))) dx (exd dx [(g, z), (f, y)]))
section
variable {P : Program} {w : World} {K : PySem.W.Frag} {mg : Str → Option Value} {base : Heap} {qual r f g m : Str} {params : Arguments} {scope : Scope} {fI C R : Addr} {fd : FuncData} {mc : Value} {j : Nat} {p1 p2 p3 p4 p5 p6 p7 p8 p9 p10 q7 q8 q9 q10 : Pos}
end
/-- raise C(e, f) -/
def sRaise2 (c f g : Str) (fa : Av) : Sv := fun ρ h => Out.then ρ (fa ρ h) fun vs h1 => match fzs vs h1 with
  | some ([d1, d2], h2) => .ex c [(g, d2), (f, d1)] ρ h2
  | _ => .no
/-- a class whose __init__ keeps two fields -/
def IniC2 (P : Program) (w : World) (K : PySem.W.Frag) (mg : Str → Option Value) (base : Heap) (c f g : Str) : Prop :=
  ∃ (C fI : Addr) (fd : FuncData) (ps : List Str), mg c = some (.ref C) ∧ OexC K C ∧ PySem.W.findIn K (.ref C) "__init__" = some (some (.ref fI)) ∧ PySem.W.typeIn K (.ref fI) = some (.type "function") ∧ Binds K fd ps [] ∧ FnOk P w K mg base (L2.CX P w) 1 fI fd ps (spI2 K C f g)
section
variable {X : Cx} {W : WX} {c f g : Str} {e1 e2 : Expr} {fa : Av} {k : Nat} {p pos pos' : Pos}
end
/-! what the head tells of a class whose __init__ keeps two fields -/
structure IniT2 (K : PySem.W.Frag) (mg : Str → Option Value) (c f g r : Str) : Prop where
  ex : ∃ C R, mg c = some (.ref C) ∧ mg r = some (.ref R) ∧ OexC K C ∧ PySem.W.findIn K (.ref C) "__init__" = some (some (.ref (He.fAd K (c, some "__init__")))) ∧ PySem.W.typeIn K (.ref (He.fAd K (c, some "__init__"))) = some (.type "function") ∧ PySem.W.findIn K (.ref C) f = some none ∧ PySem.W.findIn K (.ref C) g = some none ∧
    ClX.CRead K R (.type "type") ∧ PySem.W.findCls K (.ref R) (.type "type") "__init__" = some (.val (.builtin "ValueError.__init__"))
def iniB2 (K : PySem.W.Frag) (c f g r : Str) : Bool := iniB K c f r && iniB K c g r
section
variable {ρ : En} {h : Hh} {N : En → Hh → Prop} {R : Vl → Hh → Prop} {B C : En → Hh → Prop} {X : Str → List (Str × Da) → En → Hh → Prop} {c f g : Str} {fa : Av}
end
end Rk

/-! Rk113: text.index(text). -/
namespace Rk
open PySem PySem.Spec PyProof.Rows L2
variable {mg : Str → Option Value}
def gSIdx : GM := fun o as h => match o, as with
  | .d (.str a), [.d (.str b)] => match Builtin.Str.occurrences a b 0 a.length 1 with
    | i :: _ => some (.d (.int (i : Nat)), h)
    | [] => none
  | _, _ => none
theorem ok_sidx {K : PySem.W.Frag} : OkM K mg (fun x xs H Q => ∃ a b i rest, x = .str a ∧ xs = [.str b] ∧ Builtin.Str.occurrences a b 0 a.length 1 = i :: rest ∧ Q (.int (i : Nat)) H) gSIdx := by
  intro φ h H x xs o as Q v h' sm rx rs e k
  unfold gSIdx at e
  split at e
  · rename_i a b
    cases (show Rep K H (Live φ h) x (.str a) from rx)
    obtain ⟨y, rfl, ry⟩ := rs.one
    cases (show Rep K H (Live φ h) y (.str b) from ry)
    split at e
    · rename_i i rest ho
      cases e
      exact ⟨a, b, i, rest, rfl, rfl, ho, k _ H φ (Step.refl _ _ _) sm (Rep.int _)⟩
    · cases e
  · cases e
theorem wo_sidx {Q : Vl → Hh → Prop} {h : Hh} {a b : Str} {i : Nat} {rest : List Nat} (e : Builtin.Str.occurrences a b 0 a.length 1 = i :: rest) (q : Q (.d (.int (i : Nat))) h) : Wo (gSIdx (.d (.str a)) [.d (.str b)] h) Q :=
  wo_eq (v := .d (.int (i : Nat))) (h' := h) (by unfold gSIdx; dsimp only; rw [e]) q
end Rk

namespace Lw
open PySem PySem.Spec L2 Rk
theorem wk_FIGURES {ρ : En} {h : Hh} {Q : Vl → Hh → Prop} {E : XP} (q : Q (.d (.str "0123456789")) h) : Wp (eD c_FIGURES ρ h) Q E := ⟨q⟩
theorem wk_MOST_FIGURES {ρ : En} {h : Hh} {Q : Vl → Hh → Prop} {E : XP} (q : Q (.d (.int 601)) h) : Wp (eD c_MOST_FIGURES ρ h) Q E := ⟨q⟩
theorem wk_PIECE {ρ : En} {h : Hh} {Q : Vl → Hh → Prop} {E : XP} (q : Q (.d (.int ((10 ^ 1000)))) h) : Wp (eD c_PIECE ρ h) Q E := ⟨q⟩
noncomputable def b_is_whole : Sv := sRet (eAnd (eIsi .int (eVar 0)) (eNot (eIsi .bool (eVar 0))))
noncomputable def m_is_whole : Fn := mkF 1 1 b_is_whole
theorem en_is_whole {v0 : Vl} {h : Hh} {Q : Vl → Hh → Prop} {E : XP} (w : Ws (b_is_whole [some v0] h) (fun _ h1 => RetK h.length Q (.d .none) h1) ⟨RetK h.length Q, fun _ _ => False, fun _ _ => False, fun c fs _ h1 => E c fs (h1.take h.length)⟩) : Wp (m_is_whole [v0] h) Q E := wp_def rfl rfl w
noncomputable def b_shared : Sv := sSeq (sSet 0 (eBlt gAbs (aCons (eVar 0) (aNil))))
    (sSeq (sSet 1 (eBlt gAbs (aCons (eVar 1) (aNil))))
    (sSeq (sWhile (eT (eOp (gInt fGt) (eVar 1) (eD (.int 0)))) (sPar 0 1 (aCons (eVar 1) (aCons (eOp (gInt fMod) (eVar 0) (eVar 1)) (aNil)))))
    (sRet (eVar 0))))
noncomputable def m_shared : Fn := mkF 2 2 b_shared
theorem en_shared {v0 v1 : Vl} {h : Hh} {Q : Vl → Hh → Prop} {E : XP} (w : Ws (b_shared [some v0, some v1] h) (fun _ h1 => RetK h.length Q (.d .none) h1) ⟨RetK h.length Q, fun _ _ => False, fun _ _ => False, fun c fs _ h1 => E c fs (h1.take h.length)⟩) : Wp (m_shared [v0, v1] h) Q E := wp_def rfl rfl w
noncomputable def b_is_fraction : Sv := sSeq (sIf (tvOr (tvNot (eT (eIsi .tuple (eVar 0)))) (tvOr (eT (eOp gNe (eBlt gLen (aCons (eVar 0) (aNil))) (eD (.int 2)))) (tvOr (tvNot (eT (eCall m_is_whole (aCons (eOp gIx (eVar 0) (eD (.int 0))) (aNil))))) (tvNot (eT (eCall m_is_whole (aCons (eOp gIx (eVar 0) (eD (.int 1))) (aNil)))))))) (sRet (eD (.bool false))) (sNil))
    (sRet (eAnd (eOp (gInt fGt) (eOp gIx (eVar 0) (eD (.int 1))) (eD (.int 0))) (eOp gEq (eCall m_shared (aCons (eOp gIx (eVar 0) (eD (.int 0))) (aCons (eOp gIx (eVar 0) (eD (.int 1))) (aNil)))) (eD (.int 1)))))
noncomputable def m_is_fraction : Fn := mkF 1 1 b_is_fraction
theorem en_is_fraction {v0 : Vl} {h : Hh} {Q : Vl → Hh → Prop} {E : XP} (w : Ws (b_is_fraction [some v0] h) (fun _ h1 => RetK h.length Q (.d .none) h1) ⟨RetK h.length Q, fun _ _ => False, fun _ _ => False, fun c fs _ h1 => E c fs (h1.take h.length)⟩) : Wp (m_is_fraction [v0] h) Q E := wp_def rfl rfl w
noncomputable def b_whole_text : Sv := sSeq (sPar 1 2 (aCons (eBlt gAbs (aCons (eVar 0) (aNil))) (aCons (eD (.str "")) (aNil))))
    (sSeq (sWhile (eT (eOp (gInt fGe) (eVar 1) (eD c_PIECE))) (sSeq (sNo)
    (sSet 2 (eOp gAdd (eFz (eSl (eOp gAdd (eOp gMulS (eD (.str "0")) (eD (.int 1000))) (eBlt gStrI (aCons (eVar 3) (aNil)))) (oSome (eNeg (eD (.int 1000)))) (oNone))) (eVar 2)))))
    (sRet (eOp gAdd (eOp gAdd (eIf (eT (eOp (gInt fLt) (eVar 0) (eD (.int 0)))) (eD (.str "-")) (eD (.str ""))) (eBlt gStrI (aCons (eVar 1) (aNil)))) (eVar 2))))
noncomputable def m_whole_text : Fn := mkF 1 4 b_whole_text
theorem en_whole_text {v0 : Vl} {h : Hh} {Q : Vl → Hh → Prop} {E : XP} (w : Ws (b_whole_text [some v0, none, none, none] h) (fun _ h1 => RetK h.length Q (.d .none) h1) ⟨RetK h.length Q, fun _ _ => False, fun _ _ => False, fun c fs _ h1 => E c fs (h1.take h.length)⟩) : Wp (m_whole_text [v0] h) Q E := wp_def rfl rfl w
noncomputable def b_number_text : Sv := sRet (eIf (eT (eOp gEq (eOp gIx (eVar 0) (eD (.int 1))) (eD (.int 1)))) (eCall m_whole_text (aCons (eOp gIx (eVar 0) (eD (.int 0))) (aNil))) (eOp gAdd (eOp gAdd (eCall m_whole_text (aCons (eOp gIx (eVar 0) (eD (.int 0))) (aNil))) (eD (.str "/"))) (eCall m_whole_text (aCons (eOp gIx (eVar 0) (eD (.int 1))) (aNil)))))
noncomputable def m_number_text : Fn := mkF 1 1 b_number_text
theorem en_number_text {v0 : Vl} {h : Hh} {Q : Vl → Hh → Prop} {E : XP} (w : Ws (b_number_text [some v0] h) (fun _ h1 => RetK h.length Q (.d .none) h1) ⟨RetK h.length Q, fun _ _ => False, fun _ _ => False, fun c fs _ h1 => E c fs (h1.take h.length)⟩) : Wp (m_number_text [v0] h) Q E := wp_def rfl rfl w
noncomputable def b_is_written : Sv := sSeq (sIf (tvOr (tvNot (eT (eChain (gInt fLe) (gInt fLe) (eD (.int 1)) (eBlt gLen (aCons (eVar 0) (aNil))) (eD c_MOST_FIGURES)))) (tvNot (eT (eBlt gAll (aCons (eFz (eLc [1] (iv itS (eVar 0)) (gN 1) (tvYes) (eOp (gInS false) (eVar 1) (eD c_FIGURES)))) (aNil)))))) (sRet (eD (.bool false))) (sNil))
    (sRet (eOr (eOp gEq (eVar 0) (eD (.str "0"))) (eOp gNe (eOp gIx (eVar 0) (eD (.int 0))) (eD (.str "0")))))
noncomputable def m_is_written : Fn := mkF 1 2 b_is_written
theorem en_is_written {v0 : Vl} {h : Hh} {Q : Vl → Hh → Prop} {E : XP} (w : Ws (b_is_written [some v0, none] h) (fun _ h1 => RetK h.length Q (.d .none) h1) ⟨RetK h.length Q, fun _ _ => False, fun _ _ => False, fun c fs _ h1 => E c fs (h1.take h.length)⟩) : Wp (m_is_written [v0] h) Q E := wp_def rfl rfl w
noncomputable def b_number_in : Sv := sSeq (sIf (tvNot (eT (eIsi .str (eVar 0)))) (sRet (eD .none)) (sNil))
    (sSeq (sSet 1 (eIf (eT (eOp gEq (eFz (eSl (eVar 0) (oNone) (oSome (eD (.int 1))))) (eD (.str "-")))) (eFz (eSl (eVar 0) (oSome (eD (.int 1))) (oNone))) (eVar 0)))
    (sSeq (sAsg (gTupT 3 (gsCons (gN 2) (gsCons (gN 3) (gsCons (gN 4) (gsNil))))) (eM1 gPart (eVar 1) (eD (.str "/"))))
    (sSeq (sIf (tvOr (tvNot (eT (eCall m_is_written (aCons (eVar 2) (aNil))))) (tvAnd (eT (eOp gNe (eVar 3) (eD (.str "")))) (tvNot (eT (eCall m_is_written (aCons (eVar 4) (aNil))))))) (sRet (eD .none)) (sNil))
    (sSeq (sSet 5 (eTup (aCons (eIf (eT (eOp gEq (eVar 1) (eVar 0))) (eBlt gIntT (aCons (eVar 2) (aNil))) (eOp (gInt fSub) (eD (.int 0)) (eBlt gIntT (aCons (eVar 2) (aNil))))) (aCons (eIf (eT (eOp gNe (eVar 3) (eD (.str "")))) (eBlt gIntT (aCons (eVar 4) (aNil))) (eD (.int 1))) (aNil)))))
    (sRet (eIf (tvAnd (eT (eCall m_is_fraction (aCons (eVar 5) (aNil)))) (eT (eOp gEq (eCall m_number_text (aCons (eVar 5) (aNil))) (eVar 0)))) (eVar 5) (eD .none)))))))
noncomputable def m_number_in : Fn := mkF 1 6 b_number_in
theorem en_number_in {v0 : Vl} {h : Hh} {Q : Vl → Hh → Prop} {E : XP} (w : Ws (b_number_in [some v0, none, none, none, none, none] h) (fun _ h1 => RetK h.length Q (.d .none) h1) ⟨RetK h.length Q, fun _ _ => False, fun _ _ => False, fun c fs _ h1 => E c fs (h1.take h.length)⟩) : Wp (m_number_in [v0] h) Q E := wp_def rfl rfl w
noncomputable def b__law_mixed : Sv := sSeq (sSet 0 (eOp (gInt fMod) (eOp (gInt fMul) (eOp gAdd (eOp gAdd (eOp (gInt fMod) (eVar 0) (eD (.int 2147483647))) (eOp (gInt fMul) (eOp (gInt fMul) (eD (.int 7919)) (eVar 1)) (eVar 1))) (eOp (gInt fMul) (eD (.int 31)) (eVar 1))) (eD (.int 48271))) (eD (.int 2147483647))))
    (sRet (eOp (gInt fMod) (eOp (gInt fMul) (eVar 0) (eOp gAdd (eD (.int 69621)) (eOp (gInt fMul) (eD (.int 2)) (eVar 1)))) (eD (.int 2147483629))))
noncomputable def m__law_mixed : Fn := mkF 2 2 b__law_mixed
theorem en__law_mixed {v0 v1 : Vl} {h : Hh} {Q : Vl → Hh → Prop} {E : XP} (w : Ws (b__law_mixed [some v0, some v1] h) (fun _ h1 => RetK h.length Q (.d .none) h1) ⟨RetK h.length Q, fun _ _ => False, fun _ _ => False, fun c fs _ h1 => E c fs (h1.take h.length)⟩) : Wp (m__law_mixed [v0, v1] h) Q E := wp_def rfl rfl w
noncomputable def b__law_stream : Sv := sRet (eLst (aCons (eOp (gInt fGe) (eVar 0) (eOp (gInt fPow) (eD (.int 10)) (eD (.int 18)))) (aCons (eVar 0) (aCons (eD (.int 0)) (aCons (eCall m__law_mixed (aCons (eVar 0) (aCons (eVar 1) (aNil)))) (aNil))))))
noncomputable def m__law_stream : Fn := mkF 2 2 b__law_stream
theorem en__law_stream {v0 v1 : Vl} {h : Hh} {Q : Vl → Hh → Prop} {E : XP} (w : Ws (b__law_stream [some v0, some v1] h) (fun _ h1 => RetK h.length Q (.d .none) h1) ⟨RetK h.length Q, fun _ _ => False, fun _ _ => False, fun c fs _ h1 => E c fs (h1.take h.length)⟩) : Wp (m__law_stream [v0, v1] h) Q E := wp_def rfl rfl w
noncomputable def b__law_take : Sv := sSeq (sAsg (gSetL (eVar 0) (eD (.int 2))) (eOp gAdd (eOp gIx (eVar 0) (eD (.int 2))) (eD (.int 1))))
    (sSeq (sIf (tvOr (tvNot (eT (eOp gIx (eVar 0) (eD (.int 0))))) (tvOr (eT (eOp (gIn false) (eOp gIx (eVar 0) (eD (.int 1))) (eTup (aCons (eD (.int 0)) (aCons (eNeg (eD (.int 1))) (aNil)))))) (eT (eOp (gInt fGt) (eOp gIx (eVar 0) (eD (.int 2))) (eD (.int 60)))))) (sRet (eOp (gInt fMod) (eCall m__law_mixed (aCons (eCall m__law_mixed (aCons (eOp gIx (eVar 0) (eD (.int 3))) (aCons (eOp gIx (eVar 0) (eD (.int 2))) (aNil)))) (aCons (eD (.int 7)) (aNil)))) (eVar 1))) (sNil))
    (sSeq (sSet 2 (eOp (gInt fMod) (eOp gIx (eVar 0) (eD (.int 1))) (eVar 1)))
    (sSeq (sAsg (gSetL (eVar 0) (eD (.int 1))) (eOp (gInt fDiv) (eOp gIx (eVar 0) (eD (.int 1))) (eVar 1)))
    (sRet (eVar 2)))))
noncomputable def m__law_take : Fn := mkF 2 3 b__law_take
theorem en__law_take {v0 v1 : Vl} {h : Hh} {Q : Vl → Hh → Prop} {E : XP} (w : Ws (b__law_take [some v0, some v1, none] h) (fun _ h1 => RetK h.length Q (.d .none) h1) ⟨RetK h.length Q, fun _ _ => False, fun _ _ => False, fun c fs _ h1 => E c fs (h1.take h.length)⟩) : Wp (m__law_take [v0, v1] h) Q E := wp_def rfl rfl w
noncomputable def b__law_lowest : Sv := sSeq (sPar 2 3 (aCons (eBlt gAbs (aCons (eVar 0) (aNil))) (aCons (eBlt gAbs (aCons (eVar 1) (aNil))) (aNil))))
    (sSeq (sWhile (tvAnd (eT (eOp (gInt fGt) (eVar 2) (eD (.int 0)))) (eT (eOp (gInt fGt) (eVar 3) (eD (.int 0))))) (sIf (eT (eOp (gInt fGe) (eVar 2) (eVar 3))) (sSet 2 (eOp (gInt fMod) (eVar 2) (eVar 3))) (sSet 3 (eOp (gInt fMod) (eVar 3) (eVar 2)))))
    (sSeq (sSet 4 (eOp gAdd (eVar 2) (eVar 3)))
    (sSeq (sIf (eT (eOp (gInt fLt) (eVar 1) (eD (.int 0)))) (sSet 4 (eOp (gInt fSub) (eD (.int 0)) (eVar 4))) (sNil))
    (sRet (eTup (aCons (eOp (gInt fDiv) (eVar 0) (eVar 4)) (aCons (eOp (gInt fDiv) (eVar 1) (eVar 4)) (aNil))))))))
noncomputable def m__law_lowest : Fn := mkF 2 5 b__law_lowest
theorem en__law_lowest {v0 v1 : Vl} {h : Hh} {Q : Vl → Hh → Prop} {E : XP} (w : Ws (b__law_lowest [some v0, some v1, none, none, none] h) (fun _ h1 => RetK h.length Q (.d .none) h1) ⟨RetK h.length Q, fun _ _ => False, fun _ _ => False, fun c fs _ h1 => E c fs (h1.take h.length)⟩) : Wp (m__law_lowest [v0, v1] h) Q E := wp_def rfl rfl w
noncomputable def b__law_number_by : Sv := sSeq (sSet 1 (eCall m__law_take (aCons (eVar 0) (aCons (eD (.int 7)) (aNil)))))
    (sSeq (sSet 2 (eOp (gInt fSub) (eCall m__law_take (aCons (eVar 0) (aCons (eD (.int 199)) (aNil)))) (eD (.int 99))))
    (sSeq (sIf (eT (eOp gEq (eVar 1) (eD (.int 0)))) (sRet (eTup (aCons (eOp (gInt fDiv) (eVar 2) (eD (.int 20))) (aCons (eD (.int 1)) (aNil))))) (sNil))
    (sSeq (sIf (eT (eOp (gInt fLt) (eVar 1) (eD (.int 3)))) (sRet (eCall m__law_lowest (aCons (eVar 2) (aCons (eOp gAdd (eD (.int 1)) (eCall m__law_take (aCons (eVar 0) (aCons (eD (.int 40)) (aNil))))) (aNil))))) (sNil))
    (sSeq (sIf (eT (eOp gEq (eVar 1) (eD (.int 3)))) (sRet (eCall m__law_lowest (aCons (eOp gAdd (eOp (gInt fMul) (eVar 2) (eD (.int 1000))) (eCall m__law_take (aCons (eVar 0) (aCons (eD (.int 1000)) (aNil))))) (aCons (eOp gIx (eFz (eLst (aCons (eD (.int 10)) (aCons (eD (.int 1000)) (aCons (eD (.int 128)) (aCons (eD (.int 729)) (aNil))))))) (eCall m__law_take (aCons (eVar 0) (aCons (eD (.int 4)) (aNil))))) (aNil))))) (sNil))
    (sSeq (sIf (eT (eOp gEq (eVar 1) (eD (.int 4)))) (sSeq (sSet 3 (eOp gAdd (eD (.int 2)) (eCall m__law_take (aCons (eVar 0) (aCons (eD (.int 15)) (aNil))))))
    (sRet (eCall m__law_lowest (aCons (eOp (gInt fSub) (eOp gAdd (eOp (gInt fMul) (eOp (gInt fMul) (eOp (gInt fMul) (eVar 3) (eVar 3)) (eVar 3)) (eOp (gInt fSub) (eOp (gInt fMod) (eVar 2) (eD (.int 5))) (eD (.int 2)))) (eCall m__law_take (aCons (eVar 0) (aCons (eD (.int 3)) (aNil))))) (eD (.int 1))) (aCons (eVar 3) (aNil)))))) (sNil))
    (sSeq (sSet 4 (eOp gIx (eFz (eLst (aCons (eOp gAdd (eOp (gInt fMul) (eVar 2) (eOp (gInt fPow) (eD (.int 10)) (eD (.int 30)))) (eD (.int 7))) (aCons (eOp gAdd (eOp (gInt fMul) (eD (.int 3)) (eOp (gInt fPow) (eD (.int 10)) (eD (.int 40)))) (eVar 2)) (aCons (eVar 2) (aNil)))))) (eCall m__law_take (aCons (eVar 0) (aCons (eD (.int 3)) (aNil))))))
    (sRet (eCall m__law_lowest (aCons (eVar 4) (aCons (eOp gAdd (eOp (gInt fPow) (eD (.int 10)) (eD (.int 25))) (eCall m__law_take (aCons (eVar 0) (aCons (eD (.int 9)) (aNil))))) (aNil)))))))))))
noncomputable def m__law_number_by : Fn := mkF 1 5 b__law_number_by
theorem en__law_number_by {v0 : Vl} {h : Hh} {Q : Vl → Hh → Prop} {E : XP} (w : Ws (b__law_number_by [some v0, none, none, none, none] h) (fun _ h1 => RetK h.length Q (.d .none) h1) ⟨RetK h.length Q, fun _ _ => False, fun _ _ => False, fun c fs _ h1 => E c fs (h1.take h.length)⟩) : Wp (m__law_number_by [v0] h) Q E := wp_def rfl rfl w
noncomputable def b__law_figures : Sv := sSeq (sIf (eT (eOp gEq (eVar 0) (eD (.int 0)))) (sRet (eD (.str "0"))) (sNil))
    (sSeq (sSet 1 (eD (.str "")))
    (sSeq (sWhile (eT (eOp (gInt fGt) (eVar 0) (eD (.int 0)))) (sSeq (sSet 1 (eOp gAdd (eOp gIx (eD (.str "0123456789")) (eOp (gInt fMod) (eVar 0) (eD (.int 10)))) (eVar 1)))
    (sSet 0 (eOp (gInt fDiv) (eVar 0) (eD (.int 10))))))
    (sRet (eVar 1))))
noncomputable def m__law_figures : Fn := mkF 1 2 b__law_figures
theorem en__law_figures {v0 : Vl} {h : Hh} {Q : Vl → Hh → Prop} {E : XP} (w : Ws (b__law_figures [some v0, none] h) (fun _ h1 => RetK h.length Q (.d .none) h1) ⟨RetK h.length Q, fun _ _ => False, fun _ _ => False, fun c fs _ h1 => E c fs (h1.take h.length)⟩) : Wp (m__law_figures [v0] h) Q E := wp_def rfl rfl w
noncomputable def b__law_text : Sv := sSeq (sAsg (gTupT 2 (gsCons (gN 1) (gsCons (gN 2) (gsNil)))) (eVar 0))
    (sSeq (sSet 3 (eOp gAdd (eIf (eT (eOp (gInt fLt) (eVar 1) (eD (.int 0)))) (eD (.str "-")) (eD (.str ""))) (eCall m__law_figures (aCons (eBlt gAbs (aCons (eVar 1) (aNil))) (aNil)))))
    (sRet (eIf (eT (eOp gEq (eVar 2) (eD (.int 1)))) (eVar 3) (eOp gAdd (eOp gAdd (eVar 3) (eD (.str "/"))) (eCall m__law_figures (aCons (eVar 2) (aNil)))))))
noncomputable def m__law_text : Fn := mkF 1 4 b__law_text
theorem en__law_text {v0 : Vl} {h : Hh} {Q : Vl → Hh → Prop} {E : XP} (w : Ws (b__law_text [some v0, none, none, none] h) (fun _ h1 => RetK h.length Q (.d .none) h1) ⟨RetK h.length Q, fun _ _ => False, fun _ _ => False, fun c fs _ h1 => E c fs (h1.take h.length)⟩) : Wp (m__law_text [v0] h) Q E := wp_def rfl rfl w
noncomputable def b__law_bent : Sv := sSeq (sPar 2 3 (aCons (eCall m__law_figures (aCons (eBlt gAbs (aCons (eOp gIx (eVar 1) (eD (.int 0))) (aNil))) (aNil))) (aCons (eCall m__law_figures (aCons (eOp gIx (eVar 1) (eD (.int 1))) (aNil))) (aNil))))
    (sSeq (sSet 4 (eOp gAdd (eD (.int 2)) (eCall m__law_take (aCons (eVar 0) (aCons (eD (.int 7)) (aNil))))))
    (sSeq (sSet 5 (eFz (eLst (aCons (eOp gAdd (eD (.str "0")) (eVar 2)) (aCons (eOp gAdd (eVar 2) (eD (.str "/0"))) (aCons (eOp gAdd (eVar 2) (eD (.str "/1"))) (aCons (eOp gAdd (eD (.str "+")) (eVar 2)) (aCons (eOp gAdd (eD (.str "--")) (eVar 2)) (aCons (eOp gAdd (eD (.str " ")) (eVar 2)) (aCons (eOp gAdd (eVar 2) (eD (.str " "))) (aCons (eOp gAdd (eVar 2) (eD (.str "/"))) (aNil))))))))))))
    (sSeq (sSet 5 (eOp gAdd (eVar 5) (eFz (eLst (aCons (eOp gAdd (eD (.str "/")) (eVar 2)) (aCons (eOp gAdd (eVar 2) (eD (.str "//2"))) (aCons (eOp gAdd (eVar 2) (eD (.str "/-2"))) (aCons (eOp gAdd (eVar 2) (eD (.str ".0"))) (aCons (eD (.str "")) (aCons (eD (.str "-")) (aCons (eD (.str "-0")) (aCons (eD (.str "x")) (aCons (eOp gAdd (eVar 2) (eD (.str "\n"))) (aCons (eD (.str "1e2")) (aNil)))))))))))))))
    (sSeq (sExpr (eMt tyL gApp (eVar 5) (aCons (eOp gAdd (eD (.str "0/")) (eVar 3)) (aNil))))
    (sSeq (sExpr (eMt tyL gApp (eVar 5) (aCons (eOp gAdd (eOp gAdd (eCall m__law_figures (aCons (eOp (gInt fMul) (eBlt gAbs (aCons (eOp gIx (eVar 1) (eD (.int 0))) (aNil))) (eVar 4)) (aNil))) (eD (.str "/"))) (eCall m__law_figures (aCons (eOp (gInt fMul) (eOp gIx (eVar 1) (eD (.int 1))) (eVar 4)) (aNil)))) (aNil))))
    (sSeq (sSet 6 (eOp gAdd (eOp gAdd (eVar 2) (eD (.str "/"))) (eVar 3)))
    (sSeq (sSet 7 (eCall m__law_take (aCons (eVar 0) (aCons (eOp gAdd (eBlt gLen (aCons (eVar 6) (aNil))) (eD (.int 1))) (aNil)))))
    (sSeq (sExpr (eMt tyL gApp (eVar 5) (aCons (eOp gAdd (eOp gAdd (eFz (eSl (eVar 6) (oNone) (oSome (eVar 7)))) (eOp gIx (eFz (eLst (aCons (eD (.str "_")) (aCons (eD (.str ",")) (aCons (eD (.str "a")) (aCons (eD (.str " ")) (aNil))))))) (eCall m__law_take (aCons (eVar 0) (aCons (eD (.int 4)) (aNil)))))) (eFz (eSl (eVar 6) (oSome (eVar 7)) (oNone)))) (aNil))))
    (sSeq (sFrz 5)
    (sRet (eOp gIx (eVar 5) (eCall m__law_take (aCons (eVar 0) (aCons (eD (.int 21)) (aNil)))))))))))))))
noncomputable def m__law_bent : Fn := mkF 2 8 b__law_bent
theorem en__law_bent {v0 v1 : Vl} {h : Hh} {Q : Vl → Hh → Prop} {E : XP} (w : Ws (b__law_bent [some v0, some v1, none, none, none, none, none, none] h) (fun _ h1 => RetK h.length Q (.d .none) h1) ⟨RetK h.length Q, fun _ _ => False, fun _ _ => False, fun c fs _ h1 => E c fs (h1.take h.length)⟩) : Wp (m__law_bent [v0, v1] h) Q E := wp_def rfl rfl w
noncomputable def bl__law_number_of_1 : Sv := sSet 2 (eOp gAdd (eOp (gInt fMul) (eVar 2) (eD (.int 10))) (eMt tyS gSIdx (eD (.str "0123456789")) (aCons (eVar 1) (aNil))))
noncomputable def b__law_number_of : Sv := sSeq (sIf (tvOr (eT (eOp gEq (eVar 0) (eD (.str "")))) (eT (eOp gNe (eFz (eLc [1] (iv itS (eVar 0)) (gN 1) (eT (eOp (gInS true) (eVar 1) (eD (.str "0123456789")))) (eVar 1))) (eFz (eLst (aNil)))))) (sRet (eD .none)) (sNil))
    (sSeq (sIf (tvAnd (eT (eOp gEq (eOp gIx (eVar 0) (eD (.int 0))) (eD (.str "0")))) (eT (eOp gNe (eVar 0) (eD (.str "0"))))) (sRet (eD .none)) (sNil))
    (sSeq (sSet 2 (eD (.int 0)))
    (sSeq (sFor (iv itS (eVar 0)) (gN 1) bl__law_number_of_1)
    (sRet (eVar 2)))))
noncomputable def m__law_number_of : Fn := mkF 1 3 b__law_number_of
theorem en__law_number_of {v0 : Vl} {h : Hh} {Q : Vl → Hh → Prop} {E : XP} (w : Ws (b__law_number_of [some v0, none, none] h) (fun _ h1 => RetK h.length Q (.d .none) h1) ⟨RetK h.length Q, fun _ _ => False, fun _ _ => False, fun c fs _ h1 => E c fs (h1.take h.length)⟩) : Wp (m__law_number_of [v0] h) Q E := wp_def rfl rfl w
noncomputable def b__law_read : Sv := sSeq (sSet 1 (eFz (eM1 gSplit (eVar 0) (eD (.str "/")))))
    (sSeq (sSet 2 (eOp gEq (eFz (eSl (eOp gIx (eVar 1) (eD (.int 0))) (oNone) (oSome (eD (.int 1))))) (eD (.str "-"))))
    (sSeq (sSet 3 (eCall m__law_number_of (aCons (eIf (eT (eVar 2)) (eFz (eSl (eOp gIx (eVar 1) (eD (.int 0))) (oSome (eD (.int 1))) (oNone))) (eOp gIx (eVar 1) (eD (.int 0)))) (aNil))))
    (sSeq (sSet 4 (eIf (eT (eOp gEq (eBlt gLen (aCons (eVar 1) (aNil))) (eD (.int 2)))) (eCall m__law_number_of (aCons (eOp gIx (eVar 1) (eD (.int 1))) (aNil))) (eD (.int 1))))
    (sSeq (sIf (tvOr (eT (eOp (gInt fGt) (eBlt gLen (aCons (eVar 1) (aNil))) (eD (.int 2)))) (tvOr (eT (eOp gIsN (eVar 3) (eD .none))) (tvOr (eT (eOp gIsN (eVar 4) (eD .none))) (tvAnd (eT (eVar 2)) (eT (eOp gEq (eVar 3) (eD (.int 0)))))))) (sRet (eD .none)) (sNil))
    (sSeq (sIf (tvAnd (eT (eOp gEq (eBlt gLen (aCons (eVar 1) (aNil))) (eD (.int 2)))) (tvOr (eT (eOp (gInt fLt) (eVar 4) (eD (.int 2)))) (eT (eOp gNe (eCall m__law_lowest (aCons (eVar 3) (aCons (eVar 4) (aNil)))) (eTup (aCons (eVar 3) (aCons (eVar 4) (aNil)))))))) (sRet (eD .none)) (sNil))
    (sRet (eTup (aCons (eIf (eT (eVar 2)) (eOp (gInt fSub) (eD (.int 0)) (eVar 3)) (eVar 3)) (aCons (eVar 4) (aNil))))))))))
noncomputable def m__law_read : Fn := mkF 1 5 b__law_read
theorem en__law_read {v0 : Vl} {h : Hh} {Q : Vl → Hh → Prop} {E : XP} (w : Ws (b__law_read [some v0, none, none, none, none] h) (fun _ h1 => RetK h.length Q (.d .none) h1) ⟨RetK h.length Q, fun _ _ => False, fun _ _ => False, fun c fs _ h1 => E c fs (h1.take h.length)⟩) : Wp (m__law_read [v0] h) Q E := wp_def rfl rfl w
noncomputable def bl__law_put_right_1 : Sv := sSeq (sSet 3 (eCall m__law_take (aCons (eVar 0) (aCons (eOp gAdd (eBlt gLen (aCons (eVar 1) (aNil))) (eD (.int 1))) (aNil)))))
    (sSeq (sSet 4 (eOp gIx (eD (.str "0123456789-/0-/ .+e_,")) (eCall m__law_take (aCons (eVar 0) (aCons (eD (.int 21)) (aNil))))))
    (sSeq (sSet 5 (eOp gIx (eFz (eLst (aCons (eOp gAdd (eOp gAdd (eFz (eSl (eVar 1) (oNone) (oSome (eVar 3)))) (eVar 4)) (eFz (eSl (eVar 1) (oSome (eVar 3)) (oNone)))) (aCons (eOp gAdd (eOp gAdd (eFz (eSl (eVar 1) (oNone) (oSome (eVar 3)))) (eVar 4)) (eFz (eSl (eVar 1) (oSome (eOp gAdd (eVar 3) (eD (.int 1)))) (oNone)))) (aCons (eOp gAdd (eFz (eSl (eVar 1) (oNone) (oSome (eVar 3)))) (eFz (eSl (eVar 1) (oSome (eOp gAdd (eVar 3) (eD (.int 1)))) (oNone)))) (aNil)))))) (eOp (gInt fMod) (eVar 2) (eD (.int 3)))))
    (sIf (eT (eOp gNe (eBlt gRepr (aCons (eCall m_number_in (aCons (eVar 5) (aNil))) (aNil))) (eBlt gRepr (aCons (eCall m__law_read (aCons (eVar 5) (aNil))) (aNil))))) (sRet (eD (.bool false))) (sNil))))
noncomputable def b__law_put_right : Sv := sSeq (sFor (iRange1 (aCons (eD (.int 4)) (aNil))) (gN 2) bl__law_put_right_1)
    (sRet (eD (.bool true)))
noncomputable def m__law_put_right : Fn := mkF 2 6 b__law_put_right
theorem en__law_put_right {v0 v1 : Vl} {h : Hh} {Q : Vl → Hh → Prop} {E : XP} (w : Ws (b__law_put_right [some v0, some v1, none, none, none, none] h) (fun _ h1 => RetK h.length Q (.d .none) h1) ⟨RetK h.length Q, fun _ _ => False, fun _ _ => False, fun c fs _ h1 => E c fs (h1.take h.length)⟩) : Wp (m__law_put_right [v0, v1] h) Q E := wp_def rfl rfl w
noncomputable def b__law_long_right : Sv := sSeq (sSet 1 (eOp gIx (eFz (eLst (aCons (eD (.int 600)) (aCons (eD (.int 601)) (aCons (eD (.int 602)) (aCons (eD (.int 5000)) (aNil))))))) (eCall m__law_take (aCons (eVar 0) (aCons (eD (.int 4)) (aNil))))))
    (sSeq (sSet 2 (eOp gAdd (eOp gAdd (eD (.str "1")) (eOp gMulS (eD (.str "0")) (eOp (gInt fSub) (eVar 1) (eD (.int 2))))) (eOp gIx (eFz (eLst (aCons (eD (.str "1")) (aCons (eD (.str "7")) (aNil))))) (eCall m__law_take (aCons (eVar 0) (aCons (eD (.int 2)) (aNil)))))))
    (sSeq (sSet 3 (eOp gIx (eFz (eLst (aCons (eVar 2) (aCons (eOp gAdd (eD (.str "-")) (eVar 2)) (aCons (eOp gAdd (eVar 2) (eD (.str "/2"))) (aCons (eOp gAdd (eD (.str "-3/")) (eVar 2)) (aCons (eOp gAdd (eD (.str "1/")) (eVar 2)) (aNil)))))))) (eCall m__law_take (aCons (eVar 0) (aCons (eD (.int 5)) (aNil))))))
    (sSeq (sSet 4 (eCall m_number_in (aCons (eVar 3) (aNil))))
    (sSeq (sIf (eT (eOp (gInt fGt) (eVar 1) (eD (.int 601)))) (sRet (eOp gIsN (eVar 4) (eD .none))) (sNil))
    (sRet (eAnd (eIsi .tuple (eVar 4)) (eOp gEq (eCall m_number_text (aCons (eVar 4) (aNil))) (eVar 3))))))))
noncomputable def m__law_long_right : Fn := mkF 1 5 b__law_long_right
theorem en__law_long_right {v0 : Vl} {h : Hh} {Q : Vl → Hh → Prop} {E : XP} (w : Ws (b__law_long_right [some v0, none, none, none, none] h) (fun _ h1 => RetK h.length Q (.d .none) h1) ⟨RetK h.length Q, fun _ _ => False, fun _ _ => False, fun c fs _ h1 => E c fs (h1.take h.length)⟩) : Wp (m__law_long_right [v0] h) Q E := wp_def rfl rfl w
noncomputable def bl_law_1 : Sv := sSeq (sSet 3 (eCall m__law_stream (aCons (eVar 2) (aCons (eVar 1) (aNil)))))
    (sSeq (sSet 4 (eCall m__law_number_by (aCons (eVar 3) (aNil))))
    (sSeq (sSet 5 (eCall m_number_text (aCons (eVar 4) (aNil))))
    (sSeq (sIf (tvOr (tvNot (eT (eIsi .str (eVar 5)))) (tvOr (eT (eOp gNe (eVar 5) (eCall m__law_text (aCons (eVar 4) (aNil))))) (eT (eOp gNe (eCall m_number_in (aCons (eVar 5) (aNil))) (eVar 4))))) (sRet (eD (.bool false))) (sNil))
    (sSeq (sIf (eT (eOp gNotN (eCall m_number_in (aCons (eCall m__law_bent (aCons (eVar 3) (aCons (eVar 4) (aNil)))) (aNil))) (eD .none))) (sRet (eD (.bool false))) (sNil))
    (sSeq (sIf (tvNot (eT (eCall m__law_put_right (aCons (eVar 3) (aCons (eVar 5) (aNil)))))) (sRet (eD (.bool false))) (sNil))
    (sSeq (sSet 6 (eOp gIx (eFz (eLst (aCons (eD .none) (aCons (eD (.int 5)) (aCons (eD (.bool true)) (aCons (eVar 4) (aCons (eFz (eLst (aCons (eVar 5) (aNil)))) (aCons (eNeg (eD (.int 1))) (aCons (eD (.dict [])) (aCons (eTup (aNil)) (aNil))))))))))) (eCall m__law_take (aCons (eVar 3) (aCons (eD (.int 8)) (aNil))))))
    (sSeq (sIf (eT (eOp gNotN (eCall m_number_in (aCons (eVar 6) (aNil))) (eD .none))) (sRet (eD (.bool false))) (sNil))
    (sIf (tvAnd (eT (eOp (gInt fLt) (eVar 1) (eD (.int 6)))) (tvNot (eT (eCall m__law_long_right (aCons (eVar 3) (aNil)))))) (sRet (eD (.bool false))) (sNil)))))))))
noncomputable def b_law : Sv := sSeq (sFor (iEnumB (aCons (eFz (eSl (eFz (eOp gAdd (eVar 0) (eFz (eLst (aCons (eD (.int 0)) (aNil)))))) (oNone) (oSome (eD (.int 63))))) (aNil))) (gTupT 2 (gsCons (gN 1) (gsCons (gN 2) (gsNil)))) bl_law_1)
    (sRet (eD (.bool true)))
noncomputable def m_law : Fn := mkF 1 7 b_law
theorem en_law {v0 : Vl} {h : Hh} {Q : Vl → Hh → Prop} {E : XP} (w : Ws (b_law [some v0, none, none, none, none, none, none] h) (fun _ h1 => RetK h.length Q (.d .none) h1) ⟨RetK h.length Q, fun _ _ => False, fun _ _ => False, fun c fs _ h1 => E c fs (h1.take h.length)⟩) : Wp (m_law [v0] h) Q E := wp_def rfl rfl w
structure Top (K : PySem.W.Frag) (mg : Str → Option Value) : Prop where
  f_abs : mg "abs" = none
  f_all : mg "all" = none
  f_bool : mg "bool" = none
  f_enumerate : mg "enumerate" = none
  f_int : mg "int" = none
  f_isinstance : mg "isinstance" = none
  f_len : mg "len" = none
  f_range : mg "range" = none
  f_repr : mg "repr" = none
  f_str : mg "str" = none
  f_tuple : mg "tuple" = none
  c_FIGURES : GConst K mg "FIGURES" c_FIGURES
  c_MOST_FIGURES : GConst K mg "MOST_FIGURES" c_MOST_FIGURES
  c_PIECE : GConst K mg "PIECE" c_PIECE
  dig : DigN K
section
variable {P : Program} {w : World} {K : PySem.W.Frag} {mg : Str → Option Value} {base : Heap}
theorem sc_is_whole : FnScope ["thing"] ["thing"] (defScope s_is_whole) := ⟨rfl, rfl, rfl, by decide +kernel, rfl, by decide +kernel, by decide +kernel⟩
theorem ok_is_whole {f : Addr} {fd : FuncData} (T : Top K mg)   (F : FnP K "is_whole" s_is_whole f fd) (g : mg "is_whole" = some (.ref f)) : Df P w K mg base 1 "is_whole" ["thing"] m_is_whole :=
  have nd := sc_is_whole.nd
  df_of (kk := 1) (NN := 1) (body := b_is_whole) F g sc_is_whole rfl rfl (fun _ _ _ _ _ _ _ us hl => match us, hl with | [_], _ => rfl) fun cdv A outer s H E hr =>
    ess_one (es_ret (ee_and (ee_isi .int rfl T.f_isinstance rfl T.f_int (by decide +kernel) (by decide) (by decide) (ee_var 0)) (ee_one (ee_not (ee_isi .bool rfl T.f_isinstance rfl T.f_bool (by decide +kernel) (by decide) (by decide) (ee_var 0))))))
theorem sc_shared : FnScope ["one", "other"] ["one", "other"] (defScope s_shared) := ⟨rfl, rfl, rfl, by decide +kernel, rfl, by decide +kernel, by decide +kernel⟩
theorem ok_shared {f : Addr} {fd : FuncData} (T : Top K mg)   (F : FnP K "shared" s_shared f fd) (g : mg "shared" = some (.ref f)) : Df P w K mg base 1 "shared" ["one", "other"] m_shared :=
  have nd := sc_shared.nd
  df_of (kk := 2) (NN := 2) (body := b_shared) F g sc_shared rfl rfl (fun _ _ _ _ _ _ _ us hl => match us, hl with | [_, _], _ => rfl) fun cdv A outer s H E hr =>
    ess_cons (es_set (i := 0) nd (ee_blt call_abs ok_abs (by rfl) T.f_abs (by decide +kernel) (ea_cons (ee_var 0) (ea_nil))))
    (ess_cons (es_set (i := 1) nd (ee_blt call_abs ok_abs (by rfl) T.f_abs (by decide +kernel) (ea_cons (ee_var 1) (ea_nil))))
    (ess_cons (es_while po_of (et_cmp op_gt ok_gt (ee_var 1) (ee_int) (nomark _)) (ess_one (es_par (i := 0) (j := 1) rfl nd (ea_cons (ee_var 1) (ea_cons (ee_op op_modN ok_mod (ee_var 0) (ee_var 1)) (ea_nil))))))
    (ess_one (es_ret (ee_var 0)))))
theorem sc_is_fraction : FnScope ["thing"] ["thing"] (defScope s_is_fraction) := ⟨rfl, rfl, rfl, by decide +kernel, rfl, by decide +kernel, by decide +kernel⟩
theorem ok_is_fraction {f : Addr} {fd : FuncData} (T : Top K mg)  (D_is_whole : Df P w K mg base 1 "is_whole" ["thing"] m_is_whole) (D_shared : Df P w K mg base 1 "shared" ["one", "other"] m_shared) (F : FnP K "is_fraction" s_is_fraction f fd) (g : mg "is_fraction" = some (.ref f)) : Df P w K mg base 2 "is_fraction" ["thing"] m_is_fraction :=
  have nd := sc_is_fraction.nd
  df_of (kk := 1) (NN := 1) (body := b_is_fraction) F g sc_is_fraction rfl rfl (fun _ _ _ _ _ _ _ us hl => match us, hl with | [_], _ => rfl) fun cdv A outer s H E hr =>
    ess_cons (es_if (EW.et (ew_or (et_not (et_val (ee_isi .tuple rfl T.f_isinstance rfl T.f_tuple (by decide +kernel) (by decide) (by decide) (ee_var 0)))) (ew_or (et_cmp (OpR.or op_ne (op_neD hr.units)) ok_ne (ee_blt call_len ok_len (by rfl) T.f_len PySem.boot_len (ea_cons (ee_var 0) (ea_nil))) (ee_int) (nomark _)) (ew_or (et_not (et_val (ec D_is_whole hr tk_of (ea_cons (ee_ix (ee_var 0) (ee_int)) (ea_nil))))) (ew_or1 (et_not (et_val (ec D_is_whole hr tk_of (ea_cons (ee_ix (ee_var 0) (ee_int)) (ea_nil)))))))))) (ess_one (es_ret (ee_bl))) (ess_nil))
    (ess_one (es_ret (ee_and (ee_cmp op_gt ok_gt (ee_ix (ee_var 0) (ee_int)) (ee_int) (nomark _)) (ee_one (ee_cmp (OpR.or op_eq (op_eqD hr.units)) ok_eq (ec D_shared hr tk_of (ea_cons (ee_ix (ee_var 0) (ee_int)) (ea_cons (ee_ix (ee_var 0) (ee_int)) (ea_nil)))) (ee_int) (nomark _))))))
theorem sc_whole_text : FnScope ["number", "rest", "found", "low"] ["number"] (defScope s_whole_text) := ⟨rfl, rfl, rfl, by decide +kernel, rfl, by decide +kernel, by decide +kernel⟩
theorem ok_whole_text {f : Addr} {fd : FuncData} (T : Top K mg)   (F : FnP K "whole_text" s_whole_text f fd) (g : mg "whole_text" = some (.ref f)) : Df P w K mg base 1 "whole_text" ["number"] m_whole_text :=
  have nd := sc_whole_text.nd
  df_of (kk := 1) (NN := 4) (body := b_whole_text) F g sc_whole_text rfl rfl (fun _ _ _ _ _ _ _ us hl => match us, hl with | [_], _ => rfl) fun cdv A outer s H E hr =>
    ess_cons (es_par (i := 1) (j := 2) rfl nd (ea_cons (ee_blt call_abs ok_abs (by rfl) T.f_abs (by decide +kernel) (ea_cons (ee_var 0) (ea_nil))) (ea_cons (ee_str) (ea_nil))))
    (ess_cons (es_while po_of (et_cmp op_ge ok_ge (ee_var 1) (eg T.c_PIECE) (nomark _)) (ess_cons (es_no)
    (ess_one (es_set (i := 2) nd (ee_op op_addA ok_add (ee_fz (ee_slice (ee_op op_addA ok_add (ee_op op_mulS ok_mulS (ee_str) (ee_int)) (ee_bltT (call_strI T.dig) ok_strI (by rfl) T.f_str (by decide +kernel) (ea_cons (ee_var 3) (ea_nil)))) (eo_some (ee_neg (ee_int))) (eo_none))) (ee_var 2))))))
    (ess_one (es_ret (ee_op op_addA ok_add (ee_op op_addA ok_add (ee_ifExp (et_cmp op_lt ok_lt (ee_var 0) (ee_int) (nomark _)) (ee_str) (ee_str)) (ee_bltT (call_strI T.dig) ok_strI (by rfl) T.f_str (by decide +kernel) (ea_cons (ee_var 1) (ea_nil)))) (ee_var 2)))))
theorem sc_number_text : FnScope ["number"] ["number"] (defScope s_number_text) := ⟨rfl, rfl, rfl, by decide +kernel, rfl, by decide +kernel, by decide +kernel⟩
theorem ok_number_text {f : Addr} {fd : FuncData} (T : Top K mg)  (D_whole_text : Df P w K mg base 1 "whole_text" ["number"] m_whole_text) (F : FnP K "number_text" s_number_text f fd) (g : mg "number_text" = some (.ref f)) : Df P w K mg base 2 "number_text" ["number"] m_number_text :=
  have nd := sc_number_text.nd
  df_of (kk := 1) (NN := 1) (body := b_number_text) F g sc_number_text rfl rfl (fun _ _ _ _ _ _ _ us hl => match us, hl with | [_], _ => rfl) fun cdv A outer s H E hr =>
    ess_one (es_ret (ee_ifExp (et_cmp (OpR.or op_eq (op_eqD hr.units)) ok_eq (ee_ix (ee_var 0) (ee_int)) (ee_int) (nomark _)) (ec D_whole_text hr tk_of (ea_cons (ee_ix (ee_var 0) (ee_int)) (ea_nil))) (ee_op op_addA ok_add (ee_op op_addA ok_add (ec D_whole_text hr tk_of (ea_cons (ee_ix (ee_var 0) (ee_int)) (ea_nil))) (ee_str)) (ec D_whole_text hr tk_of (ea_cons (ee_ix (ee_var 0) (ee_int)) (ea_nil))))))
theorem sc_is_written : FnScope ["text", "sign"] ["text"] (defScope s_is_written) := ⟨rfl, rfl, rfl, by decide +kernel, rfl, by decide +kernel, by decide +kernel⟩
theorem ok_is_written {f : Addr} {fd : FuncData} (T : Top K mg)   (F : FnP K "is_written" s_is_written f fd) (g : mg "is_written" = some (.ref f)) : Df P w K mg base 1 "is_written" ["text"] m_is_written :=
  have nd := sc_is_written.nd
  df_of (kk := 1) (NN := 2) (body := b_is_written) F g sc_is_written rfl rfl (fun _ _ _ _ _ _ _ us hl => match us, hl with | [_], _ => rfl) fun cdv A outer s H E hr =>
    ess_cons (es_if (EW.et (ew_or (et_not (et_chain op_le op_le ok_le ok_le (ee_int) (ee_blt call_len ok_len (by rfl) T.f_len PySem.boot_len (ea_cons (ee_var 0) (ea_nil))) (eg T.c_MOST_FIGURES))) (ew_or1 (et_not (et_val (ee_blt (cr_all rfl) ok_all (by rfl) T.f_all (by decide +kernel) (ea_cons (ee_fz (ee_lc [1] [("sign", 1)] rfl nd (ei_str (ee_var 0)) (blkOk_by (N := ["text", "sign"]) (sc := defScope s_is_written) (by decide +kernel)) (fun _ _ _ _ _ => egw_name (i := 1) nd) (fun _ _ _ _ _ => ets_nil) (fun _ _ _ _ _ => ee_cmp op_inS (ok_inS false) (ee_var 1) (eg T.c_FIGURES) (by with_unfolding_all rfl)))) (ea_nil)))))))) (ess_one (es_ret (ee_bl))) (ess_nil))
    (ess_one (es_ret (ee_or (ee_cmp (OpR.or op_eq (op_eqD hr.units)) ok_eq (ee_var 0) (ee_str) (nomark _)) (ee_one (ee_cmp (OpR.or op_ne (op_neD hr.units)) ok_ne (ee_ix (ee_var 0) (ee_int)) (ee_str) (nomark _))))))
theorem sc_number_in : FnScope ["word", "bare", "above", "sign", "below", "found"] ["word"] (defScope s_number_in) := ⟨rfl, rfl, rfl, by decide +kernel, rfl, by decide +kernel, by decide +kernel⟩
theorem ok_number_in {f : Addr} {fd : FuncData} (T : Top K mg)  (D_is_written : Df P w K mg base 1 "is_written" ["text"] m_is_written) (D_is_fraction : Df P w K mg base 2 "is_fraction" ["thing"] m_is_fraction) (D_number_text : Df P w K mg base 2 "number_text" ["number"] m_number_text) (F : FnP K "number_in" s_number_in f fd) (g : mg "number_in" = some (.ref f)) : Df P w K mg base 3 "number_in" ["word"] m_number_in :=
  have nd := sc_number_in.nd
  df_of (kk := 1) (NN := 6) (body := b_number_in) F g sc_number_in rfl rfl (fun _ _ _ _ _ _ _ us hl => match us, hl with | [_], _ => rfl) fun cdv A outer s H E hr =>
    ess_cons (es_if (et_not (et_val (ee_isi .str rfl T.f_isinstance rfl T.f_str (by decide +kernel) (by decide) (by decide) (ee_var 0)))) (ess_one (es_ret (ee_non))) (ess_nil))
    (ess_cons (es_set (i := 1) nd (ee_ifExp (et_cmp (OpR.or op_eq (op_eqD hr.units)) ok_eq (ee_fz (ee_slice (ee_var 0) (eo_none) (eo_some (ee_int)))) (ee_str) (nomark _)) (ee_fz (ee_slice (ee_var 0) (eo_some (ee_int)) (eo_none))) (ee_var 0)))
    (ess_cons (es_asg (ee_part (ee_var 1) (ee_str)) (eg_tup rfl (egs_cons (eg_name (i := 2) nd) (egs_cons (eg_name (i := 3) nd) (egs_cons (eg_name (i := 4) nd) (egs_nil))))))
    (ess_cons (es_if (EW.et (ew_or (et_not (et_val (ec D_is_written hr tk_of (ea_cons (ee_var 2) (ea_nil))))) (ew_or1 (EW.et (ew_and (et_cmp (OpR.or op_ne (op_neD hr.units)) ok_ne (ee_var 3) (ee_str) (nomark _)) (ew_and1 (et_not (et_val (ec D_is_written hr tk_of (ea_cons (ee_var 4) (ea_nil))))))))))) (ess_one (es_ret (ee_non))) (ess_nil))
    (ess_cons (es_set (i := 5) nd (ee_tup (ea_cons (ee_ifExp (et_cmp (OpR.or op_eq (op_eqD hr.units)) ok_eq (ee_var 1) (ee_var 0) (nomark _)) (ee_bltT call_intT ok_intT (by rfl) T.f_int (by decide +kernel) (ea_cons (ee_var 2) (ea_nil))) (ee_op op_sub ok_sub (ee_int) (ee_bltT call_intT ok_intT (by rfl) T.f_int (by decide +kernel) (ea_cons (ee_var 2) (ea_nil))))) (ea_cons (ee_ifExp (et_cmp (OpR.or op_ne (op_neD hr.units)) ok_ne (ee_var 3) (ee_str) (nomark _)) (ee_bltT call_intT ok_intT (by rfl) T.f_int (by decide +kernel) (ea_cons (ee_var 4) (ea_nil))) (ee_int)) (ea_nil)))))
    (ess_one (es_ret (ee_ifExp (EW.et (ew_and (et_val (ec D_is_fraction hr tk_of (ea_cons (ee_var 5) (ea_nil)))) (ew_and1 (et_cmp (OpR.or op_eq (op_eqD hr.units)) ok_eq (ec D_number_text hr tk_of (ea_cons (ee_var 5) (ea_nil))) (ee_var 0) (nomark _))))) (ee_var 5) (ee_non))))))))
theorem sc__law_mixed : FnScope ["_law_number", "_law_k"] ["_law_number", "_law_k"] (defScope s__law_mixed) := ⟨rfl, rfl, rfl, by decide +kernel, rfl, by decide +kernel, by decide +kernel⟩
theorem ok__law_mixed {f : Addr} {fd : FuncData} (T : Top K mg)   (F : FnP K "_law_mixed" s__law_mixed f fd) (g : mg "_law_mixed" = some (.ref f)) : Df P w K mg base 1 "_law_mixed" ["_law_number", "_law_k"] m__law_mixed :=
  have nd := sc__law_mixed.nd
  df_of (kk := 2) (NN := 2) (body := b__law_mixed) F g sc__law_mixed rfl rfl (fun _ _ _ _ _ _ _ us hl => match us, hl with | [_, _], _ => rfl) fun cdv A outer s H E hr =>
    ess_cons (es_set (i := 0) nd (ee_op op_modN ok_mod (ee_op op_mulC ok_mul (ee_op op_addA ok_add (ee_op op_addA ok_add (ee_op op_modN ok_mod (ee_var 0) (ee_int)) (ee_op op_mulC ok_mul (ee_op op_mulC ok_mul (ee_int) (ee_var 1)) (ee_var 1))) (ee_op op_mulC ok_mul (ee_int) (ee_var 1))) (ee_int)) (ee_int)))
    (ess_one (es_ret (ee_op op_modN ok_mod (ee_op op_mulC ok_mul (ee_var 0) (ee_op op_addA ok_add (ee_int) (ee_op op_mulC ok_mul (ee_int) (ee_var 1)))) (ee_int))))
theorem sc__law_stream : FnScope ["_law_cell", "_law_k"] ["_law_cell", "_law_k"] (defScope s__law_stream) := ⟨rfl, rfl, rfl, by decide +kernel, rfl, by decide +kernel, by decide +kernel⟩
theorem ok__law_stream {f : Addr} {fd : FuncData} (T : Top K mg)  (D__law_mixed : Df P w K mg base 1 "_law_mixed" ["_law_number", "_law_k"] m__law_mixed) (F : FnP K "_law_stream" s__law_stream f fd) (g : mg "_law_stream" = some (.ref f)) : Df P w K mg base 2 "_law_stream" ["_law_cell", "_law_k"] m__law_stream :=
  have nd := sc__law_stream.nd
  df_of (kk := 2) (NN := 2) (body := b__law_stream) F g sc__law_stream rfl rfl (fun _ _ _ _ _ _ _ us hl => match us, hl with | [_, _], _ => rfl) fun cdv A outer s H E hr =>
    ess_one (es_ret (ee_lst (ea_cons (ee_cmp op_ge ok_ge (ee_var 0) (ee_op op_pow ok_pow (ee_int) (ee_int)) (nomark _)) (ea_cons (ee_var 0) (ea_cons (ee_int) (ea_cons (ec D__law_mixed hr tk_of (ea_cons (ee_var 0) (ea_cons (ee_var 1) (ea_nil)))) (ea_nil)))))))
theorem sc__law_take : FnScope ["_law_stream_here", "_law_many", "_law_number"] ["_law_stream_here", "_law_many"] (defScope s__law_take) := ⟨rfl, rfl, rfl, by decide +kernel, rfl, by decide +kernel, by decide +kernel⟩
theorem ok__law_take {f : Addr} {fd : FuncData} (T : Top K mg)  (D__law_mixed : Df P w K mg base 1 "_law_mixed" ["_law_number", "_law_k"] m__law_mixed) (F : FnP K "_law_take" s__law_take f fd) (g : mg "_law_take" = some (.ref f)) : Df P w K mg base 2 "_law_take" ["_law_stream_here", "_law_many"] m__law_take :=
  have nd := sc__law_take.nd
  df_of (kk := 2) (NN := 3) (body := b__law_take) F g sc__law_take rfl rfl (fun _ _ _ _ _ _ _ us hl => match us, hl with | [_, _], _ => rfl) fun cdv A outer s H E hr =>
    ess_cons (es_asg (ee_op op_addA ok_add (ee_ix (ee_var 0) (ee_int)) (ee_int)) (eg_setL (W := WOf E) (ee_var 0) (ee_int)))
    (ess_cons (es_if (EW.et (ew_or (et_not (et_val (ee_ix (ee_var 0) (ee_int)))) (ew_or (et_cmp op_in_seq (ok_in false) (ee_ix (ee_var 0) (ee_int)) (ee_tup (ea_cons (ee_int) (ea_cons (ee_neg (ee_int)) (ea_nil)))) (by with_unfolding_all rfl)) (ew_or1 (et_cmp op_gt ok_gt (ee_ix (ee_var 0) (ee_int)) (ee_int) (nomark _)))))) (ess_one (es_ret (ee_op op_modN ok_mod (ec D__law_mixed hr tk_of (ea_cons (ec D__law_mixed hr tk_of (ea_cons (ee_ix (ee_var 0) (ee_int)) (ea_cons (ee_ix (ee_var 0) (ee_int)) (ea_nil)))) (ea_cons (ee_int) (ea_nil)))) (ee_var 1)))) (ess_nil))
    (ess_cons (es_set (i := 2) nd (ee_op op_modN ok_mod (ee_ix (ee_var 0) (ee_int)) (ee_var 1)))
    (ess_cons (es_asg (ee_op op_fdivC ok_div (ee_ix (ee_var 0) (ee_int)) (ee_var 1)) (eg_setL (W := WOf E) (ee_var 0) (ee_int)))
    (ess_one (es_ret (ee_var 2))))))
theorem sc__law_lowest : FnScope ["_law_above", "_law_below", "_law_one", "_law_other", "_law_part"] ["_law_above", "_law_below"] (defScope s__law_lowest) := ⟨rfl, rfl, rfl, by decide +kernel, rfl, by decide +kernel, by decide +kernel⟩
theorem ok__law_lowest {f : Addr} {fd : FuncData} (T : Top K mg)   (F : FnP K "_law_lowest" s__law_lowest f fd) (g : mg "_law_lowest" = some (.ref f)) : Df P w K mg base 1 "_law_lowest" ["_law_above", "_law_below"] m__law_lowest :=
  have nd := sc__law_lowest.nd
  df_of (kk := 2) (NN := 5) (body := b__law_lowest) F g sc__law_lowest rfl rfl (fun _ _ _ _ _ _ _ us hl => match us, hl with | [_, _], _ => rfl) fun cdv A outer s H E hr =>
    ess_cons (es_par (i := 2) (j := 3) rfl nd (ea_cons (ee_blt call_abs ok_abs (by rfl) T.f_abs (by decide +kernel) (ea_cons (ee_var 0) (ea_nil))) (ea_cons (ee_blt call_abs ok_abs (by rfl) T.f_abs (by decide +kernel) (ea_cons (ee_var 1) (ea_nil))) (ea_nil))))
    (ess_cons (es_while po_of (EW.et (ew_and (et_cmp op_gt ok_gt (ee_var 2) (ee_int) (nomark _)) (ew_and1 (et_cmp op_gt ok_gt (ee_var 3) (ee_int) (nomark _))))) (ess_one (es_if (et_cmp op_ge ok_ge (ee_var 2) (ee_var 3) (nomark _)) (ess_one (es_set (i := 2) nd (ee_op op_modN ok_mod (ee_var 2) (ee_var 3)))) (ess_one (es_set (i := 3) nd (ee_op op_modN ok_mod (ee_var 3) (ee_var 2)))))))
    (ess_cons (es_set (i := 4) nd (ee_op op_addA ok_add (ee_var 2) (ee_var 3)))
    (ess_cons (es_if (et_cmp op_lt ok_lt (ee_var 1) (ee_int) (nomark _)) (ess_one (es_set (i := 4) nd (ee_op op_sub ok_sub (ee_int) (ee_var 4)))) (ess_nil))
    (ess_one (es_ret (ee_tup (ea_cons (ee_op op_fdivC ok_div (ee_var 0) (ee_var 4)) (ea_cons (ee_op op_fdivC ok_div (ee_var 1) (ee_var 4)) (ea_nil)))))))))
theorem sc__law_number_by : FnScope ["_law_stream_here", "_law_kind", "_law_above", "_law_base", "_law_far"] ["_law_stream_here"] (defScope s__law_number_by) := ⟨rfl, rfl, rfl, by decide +kernel, rfl, by decide +kernel, by decide +kernel⟩
theorem ok__law_number_by {f : Addr} {fd : FuncData} (T : Top K mg)  (D__law_take : Df P w K mg base 2 "_law_take" ["_law_stream_here", "_law_many"] m__law_take) (D__law_lowest : Df P w K mg base 1 "_law_lowest" ["_law_above", "_law_below"] m__law_lowest) (F : FnP K "_law_number_by" s__law_number_by f fd) (g : mg "_law_number_by" = some (.ref f)) : Df P w K mg base 3 "_law_number_by" ["_law_stream_here"] m__law_number_by :=
  have nd := sc__law_number_by.nd
  df_of (kk := 1) (NN := 5) (body := b__law_number_by) F g sc__law_number_by rfl rfl (fun _ _ _ _ _ _ _ us hl => match us, hl with | [_], _ => rfl) fun cdv A outer s H E hr =>
    ess_cons (es_set (i := 1) nd (ec D__law_take hr tk_of (ea_cons (ee_var 0) (ea_cons (ee_int) (ea_nil)))))
    (ess_cons (es_set (i := 2) nd (ee_op op_sub ok_sub (ec D__law_take hr tk_of (ea_cons (ee_var 0) (ea_cons (ee_int) (ea_nil)))) (ee_int)))
    (ess_cons (es_if (et_cmp (OpR.or op_eq (op_eqD hr.units)) ok_eq (ee_var 1) (ee_int) (nomark _)) (ess_one (es_ret (ee_tup (ea_cons (ee_op op_fdivC ok_div (ee_var 2) (ee_int)) (ea_cons (ee_int) (ea_nil)))))) (ess_nil))
    (ess_cons (es_if (et_cmp op_lt ok_lt (ee_var 1) (ee_int) (nomark _)) (ess_one (es_ret (ec D__law_lowest hr tk_of (ea_cons (ee_var 2) (ea_cons (ee_op op_addA ok_add (ee_int) (ec D__law_take hr tk_of (ea_cons (ee_var 0) (ea_cons (ee_int) (ea_nil))))) (ea_nil)))))) (ess_nil))
    (ess_cons (es_if (et_cmp (OpR.or op_eq (op_eqD hr.units)) ok_eq (ee_var 1) (ee_int) (nomark _)) (ess_one (es_ret (ec D__law_lowest hr tk_of (ea_cons (ee_op op_addA ok_add (ee_op op_mulC ok_mul (ee_var 2) (ee_int)) (ec D__law_take hr tk_of (ea_cons (ee_var 0) (ea_cons (ee_int) (ea_nil))))) (ea_cons (ee_ix (ee_fz (ee_lst (ea_cons (ee_int) (ea_cons (ee_int) (ea_cons (ee_int) (ea_cons (ee_int) (ea_nil))))))) (ec D__law_take hr tk_of (ea_cons (ee_var 0) (ea_cons (ee_int) (ea_nil))))) (ea_nil)))))) (ess_nil))
    (ess_cons (es_if (et_cmp (OpR.or op_eq (op_eqD hr.units)) ok_eq (ee_var 1) (ee_int) (nomark _)) (ess_cons (es_set (i := 3) nd (ee_op op_addA ok_add (ee_int) (ec D__law_take hr tk_of (ea_cons (ee_var 0) (ea_cons (ee_int) (ea_nil))))))
    (ess_one (es_ret (ec D__law_lowest hr tk_of (ea_cons (ee_op op_sub ok_sub (ee_op op_addA ok_add (ee_op op_mulC ok_mul (ee_op op_mulC ok_mul (ee_op op_mulC ok_mul (ee_var 3) (ee_var 3)) (ee_var 3)) (ee_op op_sub ok_sub (ee_op op_modN ok_mod (ee_var 2) (ee_int)) (ee_int))) (ec D__law_take hr tk_of (ea_cons (ee_var 0) (ea_cons (ee_int) (ea_nil))))) (ee_int)) (ea_cons (ee_var 3) (ea_nil))))))) (ess_nil))
    (ess_cons (es_set (i := 4) nd (ee_ix (ee_fz (ee_lst (ea_cons (ee_op op_addA ok_add (ee_op op_mulC ok_mul (ee_var 2) (ee_op op_pow ok_pow (ee_int) (ee_int))) (ee_int)) (ea_cons (ee_op op_addA ok_add (ee_op op_mulC ok_mul (ee_int) (ee_op op_pow ok_pow (ee_int) (ee_int))) (ee_var 2)) (ea_cons (ee_var 2) (ea_nil)))))) (ec D__law_take hr tk_of (ea_cons (ee_var 0) (ea_cons (ee_int) (ea_nil))))))
    (ess_one (es_ret (ec D__law_lowest hr tk_of (ea_cons (ee_var 4) (ea_cons (ee_op op_addA ok_add (ee_op op_pow ok_pow (ee_int) (ee_int)) (ec D__law_take hr tk_of (ea_cons (ee_var 0) (ea_cons (ee_int) (ea_nil))))) (ea_nil))))))))))))
theorem sc__law_figures : FnScope ["_law_number", "_law_found"] ["_law_number"] (defScope s__law_figures) := ⟨rfl, rfl, rfl, by decide +kernel, rfl, by decide +kernel, by decide +kernel⟩
theorem ok__law_figures {f : Addr} {fd : FuncData} (T : Top K mg)   (F : FnP K "_law_figures" s__law_figures f fd) (g : mg "_law_figures" = some (.ref f)) : Df P w K mg base 1 "_law_figures" ["_law_number"] m__law_figures :=
  have nd := sc__law_figures.nd
  df_of (kk := 1) (NN := 2) (body := b__law_figures) F g sc__law_figures rfl rfl (fun _ _ _ _ _ _ _ us hl => match us, hl with | [_], _ => rfl) fun cdv A outer s H E hr =>
    ess_cons (es_if (et_cmp (OpR.or op_eq (op_eqD hr.units)) ok_eq (ee_var 0) (ee_int) (nomark _)) (ess_one (es_ret (ee_str))) (ess_nil))
    (ess_cons (es_set (i := 1) nd (ee_str))
    (ess_cons (es_while po_of (et_cmp op_gt ok_gt (ee_var 0) (ee_int) (nomark _)) (ess_cons (es_set (i := 1) nd (ee_op op_addA ok_add (ee_ix (ee_str) (ee_op op_modN ok_mod (ee_var 0) (ee_int))) (ee_var 1)))
    (ess_one (es_set (i := 0) nd (ee_op op_fdivC ok_div (ee_var 0) (ee_int))))))
    (ess_one (es_ret (ee_var 1)))))
theorem sc__law_text : FnScope ["_law_one", "_law_above", "_law_below", "_law_text_here"] ["_law_one"] (defScope s__law_text) := ⟨rfl, rfl, rfl, by decide +kernel, rfl, by decide +kernel, by decide +kernel⟩
theorem ok__law_text {f : Addr} {fd : FuncData} (T : Top K mg)  (D__law_figures : Df P w K mg base 1 "_law_figures" ["_law_number"] m__law_figures) (F : FnP K "_law_text" s__law_text f fd) (g : mg "_law_text" = some (.ref f)) : Df P w K mg base 2 "_law_text" ["_law_one"] m__law_text :=
  have nd := sc__law_text.nd
  df_of (kk := 1) (NN := 4) (body := b__law_text) F g sc__law_text rfl rfl (fun _ _ _ _ _ _ _ us hl => match us, hl with | [_], _ => rfl) fun cdv A outer s H E hr =>
    ess_cons (es_asg (ee_var 0) (eg_tup rfl (egs_cons (eg_name (i := 1) nd) (egs_cons (eg_name (i := 2) nd) (egs_nil)))))
    (ess_cons (es_set (i := 3) nd (ee_op op_addA ok_add (ee_ifExp (et_cmp op_lt ok_lt (ee_var 1) (ee_int) (nomark _)) (ee_str) (ee_str)) (ec D__law_figures hr tk_of (ea_cons (ee_blt call_abs ok_abs (by rfl) T.f_abs (by decide +kernel) (ea_cons (ee_var 1) (ea_nil))) (ea_nil)))))
    (ess_one (es_ret (ee_ifExp (et_cmp (OpR.or op_eq (op_eqD hr.units)) ok_eq (ee_var 2) (ee_int) (nomark _)) (ee_var 3) (ee_op op_addA ok_add (ee_op op_addA ok_add (ee_var 3) (ee_str)) (ec D__law_figures hr tk_of (ea_cons (ee_var 2) (ea_nil))))))))
theorem sc__law_bent : FnScope ["_law_stream_here", "_law_one", "_law_above", "_law_below", "_law_part", "_law_some", "_law_text_here", "_law_at"] ["_law_stream_here", "_law_one"] (defScope s__law_bent) := ⟨rfl, rfl, rfl, by decide +kernel, rfl, by decide +kernel, by decide +kernel⟩
theorem ok__law_bent {f : Addr} {fd : FuncData} (T : Top K mg)  (D__law_figures : Df P w K mg base 1 "_law_figures" ["_law_number"] m__law_figures) (D__law_take : Df P w K mg base 2 "_law_take" ["_law_stream_here", "_law_many"] m__law_take) (F : FnP K "_law_bent" s__law_bent f fd) (g : mg "_law_bent" = some (.ref f)) : Df P w K mg base 3 "_law_bent" ["_law_stream_here", "_law_one"] m__law_bent :=
  have nd := sc__law_bent.nd
  df_of (kk := 2) (NN := 8) (body := b__law_bent) F g sc__law_bent rfl rfl (fun _ _ _ _ _ _ _ us hl => match us, hl with | [_, _], _ => rfl) fun cdv A outer s H E hr =>
    ess_cons (es_par (i := 2) (j := 3) rfl nd (ea_cons (ec D__law_figures hr tk_of (ea_cons (ee_blt call_abs ok_abs (by rfl) T.f_abs (by decide +kernel) (ea_cons (ee_ix (ee_var 1) (ee_int)) (ea_nil))) (ea_nil))) (ea_cons (ec D__law_figures hr tk_of (ea_cons (ee_ix (ee_var 1) (ee_int)) (ea_nil))) (ea_nil))))
    (ess_cons (es_set (i := 4) nd (ee_op op_addA ok_add (ee_int) (ec D__law_take hr tk_of (ea_cons (ee_var 0) (ea_cons (ee_int) (ea_nil))))))
    (ess_cons (es_set (i := 5) nd (ee_fz (ee_lst (ea_cons (ee_op op_addA ok_add (ee_str) (ee_var 2)) (ea_cons (ee_op op_addA ok_add (ee_var 2) (ee_str)) (ea_cons (ee_op op_addA ok_add (ee_var 2) (ee_str)) (ea_cons (ee_op op_addA ok_add (ee_str) (ee_var 2)) (ea_cons (ee_op op_addA ok_add (ee_str) (ee_var 2)) (ea_cons (ee_op op_addA ok_add (ee_str) (ee_var 2)) (ea_cons (ee_op op_addA ok_add (ee_var 2) (ee_str)) (ea_cons (ee_op op_addA ok_add (ee_var 2) (ee_str)) (ea_nil))))))))))))
    (ess_cons (es_set (i := 5) nd (ee_op op_addA ok_add (ee_var 5) (ee_fz (ee_lst (ea_cons (ee_op op_addA ok_add (ee_str) (ee_var 2)) (ea_cons (ee_op op_addA ok_add (ee_var 2) (ee_str)) (ea_cons (ee_op op_addA ok_add (ee_var 2) (ee_str)) (ea_cons (ee_op op_addA ok_add (ee_var 2) (ee_str)) (ea_cons (ee_str) (ea_cons (ee_str) (ea_cons (ee_str) (ea_cons (ee_str) (ea_cons (ee_op op_addA ok_add (ee_var 2) (ee_str)) (ea_cons (ee_str) (ea_nil)))))))))))))))
    (ess_cons (es_expr (ee_mt PySem.F.plainAttrs_list PySem.F.slot_list_append PySem.F.type_list_append mt_append tyL_ok ok_app (ee_var 5) (ea_cons (ee_op op_addA ok_add (ee_str) (ee_var 3)) (ea_nil))))
    (ess_cons (es_expr (ee_mt PySem.F.plainAttrs_list PySem.F.slot_list_append PySem.F.type_list_append mt_append tyL_ok ok_app (ee_var 5) (ea_cons (ee_op op_addA ok_add (ee_op op_addA ok_add (ec D__law_figures hr tk_of (ea_cons (ee_op op_mulC ok_mul (ee_blt call_abs ok_abs (by rfl) T.f_abs (by decide +kernel) (ea_cons (ee_ix (ee_var 1) (ee_int)) (ea_nil))) (ee_var 4)) (ea_nil))) (ee_str)) (ec D__law_figures hr tk_of (ea_cons (ee_op op_mulC ok_mul (ee_ix (ee_var 1) (ee_int)) (ee_var 4)) (ea_nil)))) (ea_nil))))
    (ess_cons (es_set (i := 6) nd (ee_op op_addA ok_add (ee_op op_addA ok_add (ee_var 2) (ee_str)) (ee_var 3)))
    (ess_cons (es_set (i := 7) nd (ec D__law_take hr tk_of (ea_cons (ee_var 0) (ea_cons (ee_op op_addA ok_add (ee_blt call_len ok_len (by rfl) T.f_len PySem.boot_len (ea_cons (ee_var 6) (ea_nil))) (ee_int)) (ea_nil)))))
    (ess_cons (es_expr (ee_mt PySem.F.plainAttrs_list PySem.F.slot_list_append PySem.F.type_list_append mt_append tyL_ok ok_app (ee_var 5) (ea_cons (ee_op op_addA ok_add (ee_op op_addA ok_add (ee_fz (ee_slice (ee_var 6) (eo_none) (eo_some (ee_var 7)))) (ee_ix (ee_fz (ee_lst (ea_cons (ee_str) (ea_cons (ee_str) (ea_cons (ee_str) (ea_cons (ee_str) (ea_nil))))))) (ec D__law_take hr tk_of (ea_cons (ee_var 0) (ea_cons (ee_int) (ea_nil)))))) (ee_fz (ee_slice (ee_var 6) (eo_some (ee_var 7)) (eo_none)))) (ea_nil))))
    (ess_frz 5 (ess_one (es_ret (ee_ix (ee_var 5) (ec D__law_take hr tk_of (ea_cons (ee_var 0) (ea_cons (ee_int) (ea_nil))))))))))))))))
theorem sc__law_number_of : FnScope ["_law_word", "_law_sign", "_law_found"] ["_law_word"] (defScope s__law_number_of) := ⟨rfl, rfl, rfl, by decide +kernel, rfl, by decide +kernel, by decide +kernel⟩
theorem ok__law_number_of {f : Addr} {fd : FuncData} (T : Top K mg)   (F : FnP K "_law_number_of" s__law_number_of f fd) (g : mg "_law_number_of" = some (.ref f)) : Df P w K mg base 1 "_law_number_of" ["_law_word"] m__law_number_of :=
  have nd := sc__law_number_of.nd
  df_of (kk := 1) (NN := 3) (body := b__law_number_of) F g sc__law_number_of rfl rfl (fun _ _ _ _ _ _ _ us hl => match us, hl with | [_], _ => rfl) fun cdv A outer s H E hr =>
    ess_cons (es_if (EW.et (ew_or (et_cmp (OpR.or op_eq (op_eqD hr.units)) ok_eq (ee_var 0) (ee_str) (nomark _)) (ew_or1 (et_cmp (OpR.or op_ne (op_neD hr.units)) ok_ne (ee_fz (ee_lc [1] [("_law_sign", 1)] rfl nd (ei_str (ee_var 0)) (blkOk_by (N := ["_law_word", "_law_sign", "_law_found"]) (sc := defScope s__law_number_of) (by decide +kernel)) (fun _ _ _ _ _ => egw_name (i := 1) nd) (fun _ _ _ _ _ => ets_one (et_cmp op_notInS (ok_inS true) (ee_var 1) (ee_str) (by with_unfolding_all rfl))) (fun _ _ _ _ _ => ee_var 1))) (ee_fz (ee_lst (ea_nil))) (nomark _))))) (ess_one (es_ret (ee_non))) (ess_nil))
    (ess_cons (es_if (EW.et (ew_and (et_cmp (OpR.or op_eq (op_eqD hr.units)) ok_eq (ee_ix (ee_var 0) (ee_int)) (ee_str) (nomark _)) (ew_and1 (et_cmp (OpR.or op_ne (op_neD hr.units)) ok_ne (ee_var 0) (ee_str) (nomark _))))) (ess_one (es_ret (ee_non))) (ess_nil))
    (ess_cons (es_set (i := 2) nd (ee_int))
    (ess_cons (es_for (fb := bl__law_number_of_1) po_of rfl (ei_str (ee_var 0)) (eg_name (i := 1) nd) (ess_one (es_set (i := 2) nd (ee_op op_addA ok_add (ee_op op_mulC ok_mul (ee_var 2) (ee_int)) (ee_mt PySem.F.plainAttrs_str PySem.F.slot_str_index PySem.F.type_str_index mt_sindex tyS_ok ok_sidx (ee_str) (ea_cons (ee_var 1) (ea_nil)))))))
    (ess_one (es_ret (ee_var 2))))))
theorem sc__law_read : FnScope ["_law_word", "_law_parts", "_law_is_below", "_law_above", "_law_below"] ["_law_word"] (defScope s__law_read) := ⟨rfl, rfl, rfl, by decide +kernel, rfl, by decide +kernel, by decide +kernel⟩
theorem ok__law_read {f : Addr} {fd : FuncData} (T : Top K mg)  (D__law_number_of : Df P w K mg base 1 "_law_number_of" ["_law_word"] m__law_number_of) (D__law_lowest : Df P w K mg base 1 "_law_lowest" ["_law_above", "_law_below"] m__law_lowest) (F : FnP K "_law_read" s__law_read f fd) (g : mg "_law_read" = some (.ref f)) : Df P w K mg base 2 "_law_read" ["_law_word"] m__law_read :=
  have nd := sc__law_read.nd
  df_of (kk := 1) (NN := 5) (body := b__law_read) F g sc__law_read rfl rfl (fun _ _ _ _ _ _ _ us hl => match us, hl with | [_], _ => rfl) fun cdv A outer s H E hr =>
    ess_cons (es_set (i := 1) nd (ee_fz (ee_split (ee_var 0) (ee_str))))
    (ess_cons (es_set (i := 2) nd (ee_cmp (OpR.or op_eq (op_eqD hr.units)) ok_eq (ee_fz (ee_slice (ee_ix (ee_var 1) (ee_int)) (eo_none) (eo_some (ee_int)))) (ee_str) (nomark _)))
    (ess_cons (es_set (i := 3) nd (ec D__law_number_of hr tk_of (ea_cons (ee_ifExp (et_val (ee_var 2)) (ee_fz (ee_slice (ee_ix (ee_var 1) (ee_int)) (eo_some (ee_int)) (eo_none))) (ee_ix (ee_var 1) (ee_int))) (ea_nil))))
    (ess_cons (es_set (i := 4) nd (ee_ifExp (et_cmp (OpR.or op_eq (op_eqD hr.units)) ok_eq (ee_blt call_len ok_len (by rfl) T.f_len PySem.boot_len (ea_cons (ee_var 1) (ea_nil))) (ee_int) (nomark _)) (ec D__law_number_of hr tk_of (ea_cons (ee_ix (ee_var 1) (ee_int)) (ea_nil))) (ee_int)))
    (ess_cons (es_if (EW.et (ew_or (et_cmp op_gt ok_gt (ee_blt call_len ok_len (by rfl) T.f_len PySem.boot_len (ea_cons (ee_var 1) (ea_nil))) (ee_int) (nomark _)) (ew_or (et_cmp op_isN ok_isN (ee_var 3) (ee_non) (nomark _)) (ew_or (et_cmp op_isN ok_isN (ee_var 4) (ee_non) (nomark _)) (ew_or1 (EW.et (ew_and (et_val (ee_var 2)) (ew_and1 (et_cmp (OpR.or op_eq (op_eqD hr.units)) ok_eq (ee_var 3) (ee_int) (nomark _)))))))))) (ess_one (es_ret (ee_non))) (ess_nil))
    (ess_cons (es_if (EW.et (ew_and (et_cmp (OpR.or op_eq (op_eqD hr.units)) ok_eq (ee_blt call_len ok_len (by rfl) T.f_len PySem.boot_len (ea_cons (ee_var 1) (ea_nil))) (ee_int) (nomark _)) (ew_and1 (EW.et (ew_or (et_cmp op_lt ok_lt (ee_var 4) (ee_int) (nomark _)) (ew_or1 (et_cmp (OpR.or op_ne (op_neD hr.units)) ok_ne (ec D__law_lowest hr tk_of (ea_cons (ee_var 3) (ea_cons (ee_var 4) (ea_nil)))) (ee_tup (ea_cons (ee_var 3) (ea_cons (ee_var 4) (ea_nil)))) (nomark _)))))))) (ess_one (es_ret (ee_non))) (ess_nil))
    (ess_one (es_ret (ee_tup (ea_cons (ee_ifExp (et_val (ee_var 2)) (ee_op op_sub ok_sub (ee_int) (ee_var 3)) (ee_var 3)) (ea_cons (ee_var 4) (ea_nil)))))))))))
theorem sc__law_put_right : FnScope ["_law_stream_here", "_law_text_here", "_law_turn", "_law_at", "_law_sign", "_law_word"] ["_law_stream_here", "_law_text_here"] (defScope s__law_put_right) := ⟨rfl, rfl, rfl, by decide +kernel, rfl, by decide +kernel, by decide +kernel⟩
theorem ok__law_put_right {f : Addr} {fd : FuncData} (T : Top K mg)  (D__law_take : Df P w K mg base 2 "_law_take" ["_law_stream_here", "_law_many"] m__law_take) (D_number_in : Df P w K mg base 3 "number_in" ["word"] m_number_in) (D__law_read : Df P w K mg base 2 "_law_read" ["_law_word"] m__law_read) (F : FnP K "_law_put_right" s__law_put_right f fd) (g : mg "_law_put_right" = some (.ref f)) : Df P w K mg base 4 "_law_put_right" ["_law_stream_here", "_law_text_here"] m__law_put_right :=
  have nd := sc__law_put_right.nd
  df_of (kk := 2) (NN := 6) (body := b__law_put_right) F g sc__law_put_right rfl rfl (fun _ _ _ _ _ _ _ us hl => match us, hl with | [_, _], _ => rfl) fun cdv A outer s H E hr =>
    ess_cons (es_for (fb := bl__law_put_right_1) po_of rfl (ei_range1 (by rfl) T.f_range (ea_cons (ee_int) (ea_nil))) (eg_name (i := 2) nd) (ess_cons (es_set (i := 3) nd (ec D__law_take hr tk_of (ea_cons (ee_var 0) (ea_cons (ee_op op_addA ok_add (ee_blt call_len ok_len (by rfl) T.f_len PySem.boot_len (ea_cons (ee_var 1) (ea_nil))) (ee_int)) (ea_nil)))))
    (ess_cons (es_set (i := 4) nd (ee_ix (ee_str) (ec D__law_take hr tk_of (ea_cons (ee_var 0) (ea_cons (ee_int) (ea_nil))))))
    (ess_cons (es_set (i := 5) nd (ee_ix (ee_fz (ee_lst (ea_cons (ee_op op_addA ok_add (ee_op op_addA ok_add (ee_fz (ee_slice (ee_var 1) (eo_none) (eo_some (ee_var 3)))) (ee_var 4)) (ee_fz (ee_slice (ee_var 1) (eo_some (ee_var 3)) (eo_none)))) (ea_cons (ee_op op_addA ok_add (ee_op op_addA ok_add (ee_fz (ee_slice (ee_var 1) (eo_none) (eo_some (ee_var 3)))) (ee_var 4)) (ee_fz (ee_slice (ee_var 1) (eo_some (ee_op op_addA ok_add (ee_var 3) (ee_int))) (eo_none)))) (ea_cons (ee_op op_addA ok_add (ee_fz (ee_slice (ee_var 1) (eo_none) (eo_some (ee_var 3)))) (ee_fz (ee_slice (ee_var 1) (eo_some (ee_op op_addA ok_add (ee_var 3) (ee_int))) (eo_none)))) (ea_nil)))))) (ee_op op_modN ok_mod (ee_var 2) (ee_int))))
    (ess_one (es_if (et_cmp (OpR.or op_ne (op_neD hr.units)) ok_ne (ee_blt (call_repr hr.g hr.units) ok_repr (by rfl) T.f_repr (by decide +kernel) (ea_cons (ec D_number_in hr tk_of (ea_cons (ee_var 5) (ea_nil))) (ea_nil))) (ee_blt (call_repr hr.g hr.units) ok_repr (by rfl) T.f_repr (by decide +kernel) (ea_cons (ec D__law_read hr tk_of (ea_cons (ee_var 5) (ea_nil))) (ea_nil))) (nomark _)) (ess_one (es_ret (ee_bl))) (ess_nil)))))))
    (ess_one (es_ret (ee_bl)))
theorem sc__law_long_right : FnScope ["_law_stream_here", "_law_many", "_law_word", "_law_text_here", "_law_found"] ["_law_stream_here"] (defScope s__law_long_right) := ⟨rfl, rfl, rfl, by decide +kernel, rfl, by decide +kernel, by decide +kernel⟩
theorem ok__law_long_right {f : Addr} {fd : FuncData} (T : Top K mg)  (D__law_take : Df P w K mg base 2 "_law_take" ["_law_stream_here", "_law_many"] m__law_take) (D_number_in : Df P w K mg base 3 "number_in" ["word"] m_number_in) (D_number_text : Df P w K mg base 2 "number_text" ["number"] m_number_text) (F : FnP K "_law_long_right" s__law_long_right f fd) (g : mg "_law_long_right" = some (.ref f)) : Df P w K mg base 4 "_law_long_right" ["_law_stream_here"] m__law_long_right :=
  have nd := sc__law_long_right.nd
  df_of (kk := 1) (NN := 5) (body := b__law_long_right) F g sc__law_long_right rfl rfl (fun _ _ _ _ _ _ _ us hl => match us, hl with | [_], _ => rfl) fun cdv A outer s H E hr =>
    ess_cons (es_set (i := 1) nd (ee_ix (ee_fz (ee_lst (ea_cons (ee_int) (ea_cons (ee_int) (ea_cons (ee_int) (ea_cons (ee_int) (ea_nil))))))) (ec D__law_take hr tk_of (ea_cons (ee_var 0) (ea_cons (ee_int) (ea_nil))))))
    (ess_cons (es_set (i := 2) nd (ee_op op_addA ok_add (ee_op op_addA ok_add (ee_str) (ee_op op_mulS ok_mulS (ee_str) (ee_op op_sub ok_sub (ee_var 1) (ee_int)))) (ee_ix (ee_fz (ee_lst (ea_cons (ee_str) (ea_cons (ee_str) (ea_nil))))) (ec D__law_take hr tk_of (ea_cons (ee_var 0) (ea_cons (ee_int) (ea_nil)))))))
    (ess_cons (es_set (i := 3) nd (ee_ix (ee_fz (ee_lst (ea_cons (ee_var 2) (ea_cons (ee_op op_addA ok_add (ee_str) (ee_var 2)) (ea_cons (ee_op op_addA ok_add (ee_var 2) (ee_str)) (ea_cons (ee_op op_addA ok_add (ee_str) (ee_var 2)) (ea_cons (ee_op op_addA ok_add (ee_str) (ee_var 2)) (ea_nil)))))))) (ec D__law_take hr tk_of (ea_cons (ee_var 0) (ea_cons (ee_int) (ea_nil))))))
    (ess_cons (es_set (i := 4) nd (ec D_number_in hr tk_of (ea_cons (ee_var 3) (ea_nil))))
    (ess_cons (es_if (et_cmp op_gt ok_gt (ee_var 1) (ee_int) (nomark _)) (ess_one (es_ret (ee_cmp op_isN ok_isN (ee_var 4) (ee_non) (nomark _)))) (ess_nil))
    (ess_one (es_ret (ee_and (ee_isi .tuple rfl T.f_isinstance rfl T.f_tuple (by decide +kernel) (by decide) (by decide) (ee_var 4)) (ee_one (ee_cmp (OpR.or op_eq (op_eqD hr.units)) ok_eq (ec D_number_text hr tk_of (ea_cons (ee_var 4) (ea_nil))) (ee_var 3) (nomark _))))))))))
theorem sc_law : FnScope ["_law_script", "_law_k", "_law_cell", "_law_stream_here", "_law_one", "_law_text_here", "_law_odd"] ["_law_script"] (defScope s_law) := ⟨rfl, rfl, rfl, by decide +kernel, rfl, by decide +kernel, by decide +kernel⟩
theorem ok_law {f : Addr} {fd : FuncData} (T : Top K mg)  (D__law_stream : Df P w K mg base 2 "_law_stream" ["_law_cell", "_law_k"] m__law_stream) (D__law_number_by : Df P w K mg base 3 "_law_number_by" ["_law_stream_here"] m__law_number_by) (D_number_text : Df P w K mg base 2 "number_text" ["number"] m_number_text) (D__law_text : Df P w K mg base 2 "_law_text" ["_law_one"] m__law_text) (D_number_in : Df P w K mg base 3 "number_in" ["word"] m_number_in) (D__law_bent : Df P w K mg base 3 "_law_bent" ["_law_stream_here", "_law_one"] m__law_bent) (D__law_put_right : Df P w K mg base 4 "_law_put_right" ["_law_stream_here", "_law_text_here"] m__law_put_right) (D__law_take : Df P w K mg base 2 "_law_take" ["_law_stream_here", "_law_many"] m__law_take) (D__law_long_right : Df P w K mg base 4 "_law_long_right" ["_law_stream_here"] m__law_long_right) (F : FnP K "law" s_law f fd) : FnG P w K mg base 5 f fd ["_law_script"] (spF K mg m_law) :=
  have nd := sc_law.nd
  law_of (kk := 1) (NN := 7) (body := b_law) F sc_law rfl rfl fun cdv A outer s H E hr =>
    ess_cons (es_for (fb := bl_law_1) po_of rfl (ei_enumB (by rfl) T.f_enumerate (ea_cons (ee_fz (ee_slice (ee_fz (ee_op op_addA ok_add (ee_var 0) (ee_fz (ee_lst (ea_cons (ee_int) (ea_nil)))))) (eo_none) (eo_some (ee_int)))) (ea_nil))) (eg_tup rfl (egs_cons (eg_name (i := 1) nd) (egs_cons (eg_name (i := 2) nd) (egs_nil)))) (ess_cons (es_set (i := 3) nd (ec D__law_stream hr tk_of (ea_cons (ee_var 2) (ea_cons (ee_var 1) (ea_nil)))))
    (ess_cons (es_set (i := 4) nd (ec D__law_number_by hr tk_of (ea_cons (ee_var 3) (ea_nil))))
    (ess_cons (es_set (i := 5) nd (ec D_number_text hr tk_of (ea_cons (ee_var 4) (ea_nil))))
    (ess_cons (es_if (EW.et (ew_or (et_not (et_val (ee_isi .str rfl T.f_isinstance rfl T.f_str (by decide +kernel) (by decide) (by decide) (ee_var 5)))) (ew_or (et_cmp (OpR.or op_ne (op_neD hr.units)) ok_ne (ee_var 5) (ec D__law_text hr tk_of (ea_cons (ee_var 4) (ea_nil))) (nomark _)) (ew_or1 (et_cmp (OpR.or op_ne (op_neD hr.units)) ok_ne (ec D_number_in hr tk_of (ea_cons (ee_var 5) (ea_nil))) (ee_var 4) (nomark _)))))) (ess_one (es_ret (ee_bl))) (ess_nil))
    (ess_cons (es_if (et_cmp op_notN ok_notN (ec D_number_in hr tk_of (ea_cons (ec D__law_bent hr tk_of (ea_cons (ee_var 3) (ea_cons (ee_var 4) (ea_nil)))) (ea_nil))) (ee_non) (nomark _)) (ess_one (es_ret (ee_bl))) (ess_nil))
    (ess_cons (es_if (et_not (et_val (ec D__law_put_right hr tk_of (ea_cons (ee_var 3) (ea_cons (ee_var 5) (ea_nil)))))) (ess_one (es_ret (ee_bl))) (ess_nil))
    (ess_cons (es_set (i := 6) nd (ee_ix (ee_fz (ee_lst (ea_cons (ee_non) (ea_cons (ee_int) (ea_cons (ee_bl) (ea_cons (ee_var 4) (ea_cons (ee_fz (ee_lst (ea_cons (ee_var 5) (ea_nil)))) (ea_cons (ee_neg (ee_int)) (ea_cons (ee_dnew) (ea_cons (ee_tup (ea_nil)) (ea_nil))))))))))) (ec D__law_take hr tk_of (ea_cons (ee_var 3) (ea_cons (ee_int) (ea_nil))))))
    (ess_cons (es_if (et_cmp op_notN ok_notN (ec D_number_in hr tk_of (ea_cons (ee_var 6) (ea_nil))) (ee_non) (nomark _)) (ess_one (es_ret (ee_bl))) (ess_nil))
    (ess_one (es_if (EW.et (ew_and (et_cmp op_lt ok_lt (ee_var 1) (ee_int) (nomark _)) (ew_and1 (et_not (et_val (ec D__law_long_right hr tk_of (ea_cons (ee_var 3) (ea_nil)))))))) (ess_one (es_ret (ee_bl))) (ess_nil))))))))))))
    (ess_one (es_ret (ee_bl)))
end
theorem facts {P : Program} {w : World} {K : PySem.W.Frag} {h : Heap} {mg : Str → Option Value} {f : Addr} (X : K.In h) (G : h.Ns mainGlobals mg) (hfa : mg ("law" : Str) = some (.ref f)) (c : SaysR fa fn ex K) :
    ∃ fd : FuncData, (∀ (s : Shared) (v : Value), BindsTo s fd ⟨[v], []⟩ [("_law_script", v)]) ∧ ∀ base : Heap, K.In base → base.Ns mainGlobals mg → FnG P w K mg base 5 f fd ["_law_script"] (spF K mg m_law) := by
  obtain ⟨c, cx⟩ := c
  obtain ⟨fd_is_whole, F_is_whole⟩ := c.def_ 0 (d := d_is_whole) rfl
  obtain ⟨fd_shared, F_shared⟩ := c.def_ 1 (d := d_shared) rfl
  obtain ⟨fd_is_fraction, F_is_fraction⟩ := c.def_ 2 (d := d_is_fraction) rfl
  obtain ⟨fd_whole_text, F_whole_text⟩ := c.def_ 3 (d := d_whole_text) rfl
  obtain ⟨fd_number_text, F_number_text⟩ := c.def_ 4 (d := d_number_text) rfl
  obtain ⟨fd_is_written, F_is_written⟩ := c.def_ 5 (d := d_is_written) rfl
  obtain ⟨fd_number_in, F_number_in⟩ := c.def_ 6 (d := d_number_in) rfl
  obtain ⟨fd__law_mixed, F__law_mixed⟩ := c.def_ 7 (d := d__law_mixed) rfl
  obtain ⟨fd__law_stream, F__law_stream⟩ := c.def_ 8 (d := d__law_stream) rfl
  obtain ⟨fd__law_take, F__law_take⟩ := c.def_ 9 (d := d__law_take) rfl
  obtain ⟨fd__law_lowest, F__law_lowest⟩ := c.def_ 10 (d := d__law_lowest) rfl
  obtain ⟨fd__law_number_by, F__law_number_by⟩ := c.def_ 11 (d := d__law_number_by) rfl
  obtain ⟨fd__law_figures, F__law_figures⟩ := c.def_ 12 (d := d__law_figures) rfl
  obtain ⟨fd__law_text, F__law_text⟩ := c.def_ 13 (d := d__law_text) rfl
  obtain ⟨fd__law_bent, F__law_bent⟩ := c.def_ 14 (d := d__law_bent) rfl
  obtain ⟨fd__law_number_of, F__law_number_of⟩ := c.def_ 15 (d := d__law_number_of) rfl
  obtain ⟨fd__law_read, F__law_read⟩ := c.def_ 16 (d := d__law_read) rfl
  obtain ⟨fd__law_put_right, F__law_put_right⟩ := c.def_ 17 (d := d__law_put_right) rfl
  obtain ⟨fd__law_long_right, F__law_long_right⟩ := c.def_ 18 (d := d__law_long_right) rfl
  obtain ⟨fd_law, F_law⟩ := c.def_ 19 (d := d_law) rfl
  have g_is_whole := He.glo_ok X G (c.fact 0 (f := .glo "is_whole") rfl)
  have g_shared := He.glo_ok X G (c.fact 1 (f := .glo "shared") rfl)
  have g_is_fraction := He.glo_ok X G (c.fact 2 (f := .glo "is_fraction") rfl)
  have g_whole_text := He.glo_ok X G (c.fact 3 (f := .glo "whole_text") rfl)
  have g_number_text := He.glo_ok X G (c.fact 4 (f := .glo "number_text") rfl)
  have g_is_written := He.glo_ok X G (c.fact 5 (f := .glo "is_written") rfl)
  have g_number_in := He.glo_ok X G (c.fact 6 (f := .glo "number_in") rfl)
  have g__law_mixed := He.glo_ok X G (c.fact 7 (f := .glo "_law_mixed") rfl)
  have g__law_stream := He.glo_ok X G (c.fact 8 (f := .glo "_law_stream") rfl)
  have g__law_take := He.glo_ok X G (c.fact 9 (f := .glo "_law_take") rfl)
  have g__law_lowest := He.glo_ok X G (c.fact 10 (f := .glo "_law_lowest") rfl)
  have g__law_number_by := He.glo_ok X G (c.fact 11 (f := .glo "_law_number_by") rfl)
  have g__law_figures := He.glo_ok X G (c.fact 12 (f := .glo "_law_figures") rfl)
  have g__law_text := He.glo_ok X G (c.fact 13 (f := .glo "_law_text") rfl)
  have g__law_bent := He.glo_ok X G (c.fact 14 (f := .glo "_law_bent") rfl)
  have g__law_number_of := He.glo_ok X G (c.fact 15 (f := .glo "_law_number_of") rfl)
  have g__law_read := He.glo_ok X G (c.fact 16 (f := .glo "_law_read") rfl)
  have g__law_put_right := He.glo_ok X G (c.fact 17 (f := .glo "_law_put_right") rfl)
  have g__law_long_right := He.glo_ok X G (c.fact 18 (f := .glo "_law_long_right") rfl)
  have g_law := He.glo_ok X G (c.fact 19 (f := .glo "law") rfl)
  have cx2 := cx
  unfold ex at cx2
  simp only [Bool.and_eq_true] at cx2
  have T : Top K mg := ⟨He.free_ok X G (c.fact 20 (f := .free "abs") rfl), He.free_ok X G (c.fact 21 (f := .free "all") rfl), He.free_ok X G (c.fact 22 (f := .free "bool") rfl), He.free_ok X G (c.fact 23 (f := .free "enumerate") rfl), He.free_ok X G (c.fact 24 (f := .free "int") rfl), He.free_ok X G (c.fact 25 (f := .free "isinstance") rfl), He.free_ok X G (c.fact 26 (f := .free "len") rfl), He.free_ok X G (c.fact 27 (f := .free "range") rfl), He.free_ok X G (c.fact 28 (f := .free "repr") rfl), He.free_ok X G (c.fact 29 (f := .free "str") rfl), He.free_ok X G (c.fact 30 (f := .free "tuple") rfl), gB_ok X G cx2.1.1.1, gB_ok X G cx2.1.1.2, gB_ok X G cx2.1.2, digB_ok cx2.2⟩
  have e := hfa.symm.trans g_law
  cases e
  have b := FunD.bindsA (ps := ["_law_script"]) F_law fun _ _ _ _ _ _ us hl => match us, hl with | [_], _ => rfl
  refine ⟨fd_law, fun s v => b s [v] rfl, fun base _ _ => ?_⟩
  have D_is_whole : Df P w K mg base 1 "is_whole" ["thing"] m_is_whole := ok_is_whole T  F_is_whole g_is_whole
  have D_shared : Df P w K mg base 1 "shared" ["one", "other"] m_shared := ok_shared T  F_shared g_shared
  have D_is_fraction : Df P w K mg base 2 "is_fraction" ["thing"] m_is_fraction := ok_is_fraction T D_is_whole D_shared F_is_fraction g_is_fraction
  have D_whole_text : Df P w K mg base 1 "whole_text" ["number"] m_whole_text := ok_whole_text T  F_whole_text g_whole_text
  have D_number_text : Df P w K mg base 2 "number_text" ["number"] m_number_text := ok_number_text T D_whole_text F_number_text g_number_text
  have D_is_written : Df P w K mg base 1 "is_written" ["text"] m_is_written := ok_is_written T  F_is_written g_is_written
  have D_number_in : Df P w K mg base 3 "number_in" ["word"] m_number_in := ok_number_in T D_is_written D_is_fraction D_number_text F_number_in g_number_in
  have D__law_mixed : Df P w K mg base 1 "_law_mixed" ["_law_number", "_law_k"] m__law_mixed := ok__law_mixed T  F__law_mixed g__law_mixed
  have D__law_stream : Df P w K mg base 2 "_law_stream" ["_law_cell", "_law_k"] m__law_stream := ok__law_stream T D__law_mixed F__law_stream g__law_stream
  have D__law_take : Df P w K mg base 2 "_law_take" ["_law_stream_here", "_law_many"] m__law_take := ok__law_take T D__law_mixed F__law_take g__law_take
  have D__law_lowest : Df P w K mg base 1 "_law_lowest" ["_law_above", "_law_below"] m__law_lowest := ok__law_lowest T  F__law_lowest g__law_lowest
  have D__law_number_by : Df P w K mg base 3 "_law_number_by" ["_law_stream_here"] m__law_number_by := ok__law_number_by T D__law_take D__law_lowest F__law_number_by g__law_number_by
  have D__law_figures : Df P w K mg base 1 "_law_figures" ["_law_number"] m__law_figures := ok__law_figures T  F__law_figures g__law_figures
  have D__law_text : Df P w K mg base 2 "_law_text" ["_law_one"] m__law_text := ok__law_text T D__law_figures F__law_text g__law_text
  have D__law_bent : Df P w K mg base 3 "_law_bent" ["_law_stream_here", "_law_one"] m__law_bent := ok__law_bent T D__law_figures D__law_take F__law_bent g__law_bent
  have D__law_number_of : Df P w K mg base 1 "_law_number_of" ["_law_word"] m__law_number_of := ok__law_number_of T  F__law_number_of g__law_number_of
  have D__law_read : Df P w K mg base 2 "_law_read" ["_law_word"] m__law_read := ok__law_read T D__law_number_of D__law_lowest F__law_read g__law_read
  have D__law_put_right : Df P w K mg base 4 "_law_put_right" ["_law_stream_here", "_law_text_here"] m__law_put_right := ok__law_put_right T D__law_take D_number_in D__law_read F__law_put_right g__law_put_right
  have D__law_long_right : Df P w K mg base 4 "_law_long_right" ["_law_stream_here"] m__law_long_right := ok__law_long_right T D__law_take D_number_in D_number_text F__law_long_right g__law_long_right
  exact ok_law T D__law_stream D__law_number_by D_number_text D__law_text D_number_in D__law_bent D__law_put_right D__law_take D__law_long_right F_law
local macro_rules | `(tactic| walk_at "ev") => `(tactic| simp only [mkF, enter, retF, trunc, sSeq, So.then_nx, So.then_rt, sSet, sRet, sRetN, sIf, sExpr, sNil, sPar, sAsg, ofG, gN, gsCons, gsNil, gTupT_tup, gTupT_Q, Out.then_ok, Out.then_ex, Out.bind_ok, Out.bind_ex, eVar, eD_eq, eOp, eCall, eBlt, aCons, aNil, eTup, eIf, eT, eNot, eAnd, eOr, tvAnd, tvOr, tvNot, eNeg, eIsi, isTy_d, isQ_tup, isQ_bool, isQ_int, isI_bool, isI_int, isI_tup, isB_bool, isB_int, ixQ0, ixQ1, truO_b, fzs_nil, fzs_d, gInt_eq, gAdd_int, gAbs_eq, fAdd_eq, fSub_eq, fLt_eq, fLe_eq, fGt_eq, fGe_eq, ix0, ix1, ix2, ix3, ix4, ix5, ofO_some, Option.map_some, Option.bind_some, List.length_cons, List.length_nil, List.map_cons, List.map_nil, List.replicate_succ, List.replicate_zero, List.cons_append, List.nil_append, List.getElem?_cons_zero, List.getElem?_cons_succ, List.set_cons_zero, List.set_cons_succ, List.take_length, Int.reduceEq, Int.reduceLT, Int.reduceLE, Nat.reduceSub, Nat.reduceAdd, Nat.reduceLeDiff, Nat.reduceLT, Nat.zero_add, Nat.add_zero, Nat.sub_self, if_true, if_false, reduceIte, Bool.false_eq_true, fitB, decide_true, decide_false, Bool.not_true, Bool.not_false])
local macro_rules | `(tactic| walk_at "rg") => `(tactic| first | rfl | exact rgB_of (by omega) (by omega))
local macro_rules | `(tactic| walk_at "len") => `(tactic| first | rfl | (simp only [List.length_set, List.length_append, List.length_cons, List.length_nil]; done))
local macro_rules | `(tactic| walk_at "bd") => `(tactic| with_reducible first
    | assumption
    | (apply BQ.nu; walk_at "bq")
    | (apply BQ.dn; walk_at "bq")
    | (apply Bd.mul <;> walk_at "bd")
    | (apply Bd.add <;> walk_at "bd")
    | (apply Bd.sub <;> walk_at "bd")
    | (apply Bd.neg; walk_at "bd")
    | (apply Bd.abs; walk_at "bd")
    | (apply Bd.ediv; walk_at "bd")
    | (apply Bd.emod; walk_at "bd"; walk_at "pos")
    | exact Bd.lit _)
local macro_rules | `(tactic| walk_at "bq") => `(tactic| with_reducible first
    | assumption
    | exact BQ.zero
    | exact BQ.one
    | (apply BQ.add' <;> walk_at "bq")
    | (apply BQ.sub' <;> walk_at "bq")
    | (apply BQ.mul' <;> walk_at "bq")
    | (apply BQ.div' <;> walk_at "bq")
    | (apply BQ.neg; walk_at "bq")
    | (apply BQ.abs; walk_at "bq")
    | (apply BQ.mn <;> walk_at "bq")
    | (apply BQ.mx <;> walk_at "bq")
    | (apply BQ.ite <;> walk_at "bq")
    | exact BQ.lit _
    | (apply BQ.i; walk_at "bd")
    | (apply BQ.dv <;> walk_at "bd"))
local macro_rules | `(tactic| walk_at "pos") => `(tactic| first | exact den_pos _ | omega | decide)
local macro_rules | `(tactic| walk_at "mok") => `(tactic| first | exact mulOk_smallR (Bd.mono (by walk_at "bd") (by walk_at "sm")) | exact mulOk_small (Bd.mono (by walk_at "bd") (by walk_at "sm")) | exact Bd.mulOk (by walk_at "bd") (by walk_at "bd") (by walk_at "sm"))
local macro_rules | `(tactic| walk_at "dok") => `(tactic| exact Bd.divOk (Bd.mono (m := 9000) (by walk_at "bd") (by walk_at "sm")) (by decide) (by decide))
local macro_rules | `(tactic| walk_at "nz") => `(tactic| assumption)
local macro_rules | `(tactic| walk_at "shw") => `(tactic| first
    | assumption
    | exact Shw.none
    | exact Shw.bool _
    | (apply Shw.Q; (walk_at "bq"); walk_at "sm")
    | (apply Shw.int; (walk_at "bd"); walk_at "sm")
    | (apply Shw.tup; walk_at "shwl")
    | (apply Shw.lst; walk_at "shwl"))
local macro_rules | `(tactic| walk_at "shwl") => `(tactic| first
    | exact ShwL.nil
    | (apply ShwL.cons; (walk_at "shw"); walk_at "shwl"))
local macro_rules | `(tactic| walk_at "sm") => `(tactic| first | decide | omega)
local macro_rules | `(tactic| walk_at "wp") => `(tactic| first
    | (refine hd_v ?_; first | refine wp_v0 ?_ | refine wp_v1 ?_ | refine wp_v2 ?_ | refine wp_v3 ?_ | refine wp_v4 ?_ | refine wp_v5 ?_ | refine wp_v6 ?_ | refine wp_v7 ?_ | refine wp_v8 ?_ | refine wp_v9 ?_ | refine wp_v10 ?_ | refine wp_v11 ?_ | refine wp_v12 ?_ | refine wp_v13 ?_ | refine wp_v14 ?_ | refine wp_v15 ?_ | refine wp_v16 ?_ | refine wp_v17 ?_ | refine wp_v18 ?_ | refine wp_v19 ?_ | refine wp_v20 ?_ | refine wp_v21 ?_ | refine wp_v22 ?_ | refine wp_v23 ?_ | refine wp_v24 ?_ | refine wp_v25 ?_)
    | walk_at "wk"
    | refine wp_D ?_
    | refine wp_op ?_
    | refine wp_call ?_
    | refine wp_cons ?_
    | refine wp_nil ?_
    | refine wp_T ?_
    | refine wp_if ?_
    | refine wp_tup ?_
    | refine wp_blt ?_
    | refine wp_fzL ?_
    | refine wp_fzO ?_
    | refine wp_fzB ?_
    | refine wp_fzS ?_
    | refine wp_fzT ?_
    | refine wp_fzR ?_
    | refine wp_rv ?_
    | refine wp_mtL ?_
    | refine wp_mtD ?_
    | refine wp_lst ?_
    | refine wp_tand ?_
    | refine wp_tor ?_
    | refine wp_tnot ?_
    | refine wp_and ?_
    | refine wp_or ?_
    | refine wp_not ?_
    | refine wp_chain ?_
    | refine wp_slice ?_
    | refine wp_oN ?_
    | refine wp_oS ?_
    | refine wp_step ?_
    | refine wp_tyes ?_
    | refine wp_isi ?_
    | refine wp_isE ?_
    | refine wp_neg ?_
    | refine wp_iv ?_
    | refine wp_itT ?_
    | refine wp_itL ?_
    | refine wp_rng1 ?_
    | refine wp_rng2 ?_
    | refine wp_zip ?_
    | refine wp_zip4 ?_
    | refine wp_enumB ?_
    | refine wp_rev ?_
    | refine wp_dct0 ?_
    | refine wp_dct ?_
    | refine wp_pn ?_
    | refine wp_pc ?_
    | refine wp_bits ?_
    | refine wp_unl ?_
    | refine wp_m1 ?_
    | refine wp_unp ?_
    | refine wp_tupZ ?_
    | refine wp_callF ?_
    | refine wp_itS ?_
    | refine wp_revR ?_
    | refine wp_lstR ?_
    | walk_at "wc")
local macro_rules | `(tactic| walk_at "ws") => `(tactic| first
    | refine ws_seq ?_
    | refine ws_set ?_
    | refine ws_if ?_
    | refine ws_ret ?_
    | refine ws_asg ?_
    | refine ws_expr ?_
    | refine ws_nil ?_
    | refine ws_for ?_
    | refine ws_par ?_
    | refine ws_par3 ?_
    | refine ws_parN2 ?_
    | refine ws_parN3 ?_
    | refine ws_parN4 ?_
    | refine ws_aug ?_
    | refine ws_retN ?_
    | refine ws_cont ?_
    | refine ws_brk ?_
    | refine ws_raise ?_
    | refine ws_try ?_
    | (apply ws_frzE; exact (by walk_at "len"); (with_unfolding_all rfl))
    | (apply ws_frzS; assumption; exact (by walk_at "len"); (with_unfolding_all rfl))
    | walk_at "wsc")
local macro_rules | `(tactic| walk_at "wsc") => `(tactic| fail)
local macro_rules | `(tactic| walk_at "bqm") => `(tactic| exact BQ.mono (by walk_at "bq") (by walk_at "sm"))
local macro_rules | `(tactic| walk_at "wo") => `(tactic| first
    | refine wo_eqE0 ?_
    | refine wo_eqE1 ?_
    | refine wo_add ?_
    | refine wo_sub ?_
    | refine wo_ixQ0 ?_
    | refine wo_ixQ1 ?_
    | refine wo_ix0 ?_
    | refine wo_ix1 ?_
    | refine wo_lt ?_
    | refine wo_le ?_
    | refine wo_gt ?_
    | refine wo_ge ?_
    | refine wo_eqI ?_
    | refine wo_neI ?_
    | refine wo_eqQ ?_
    | refine wo_neQ ?_
    | refine wo_eqQQ ?_
    | refine wo_neQQ ?_
    | refine wo_eqSS ?_
    | refine wo_neSS ?_
    | refine wo_eqS ?_
    | refine wo_neS ?_
    | refine wo_eqB ?_
    | refine wo_neB ?_
    | refine wo_isNn ?_
    | refine wo_isNt ?_
    | refine wo_isNl ?_
    | refine wo_isNq ?_
    | refine wo_isNi ?_
    | refine wo_isNb ?_
    | refine wo_isNs ?_
    | refine wo_isNx ?_
    | refine wo_ntNx ?_
    | refine wo_isNy ?_
    | refine wo_ntNy ?_
    | refine wo_ntNn ?_
    | refine wo_ntNt ?_
    | refine wo_ntNl ?_
    | refine wo_ntNq ?_
    | refine wo_ntNi ?_
    | (refine wo_mul ?_ ?_; (walk_at "mok"))
    | (refine wo_mod ?_ ?_; (walk_at "pos"))
    | (refine wo_div ?_ ?_ ?_; (walk_at "pos"); (walk_at "dok"))
    | (apply wo_pow; exact (by decide); exact (by decide))
    | (apply wo_powG; exact (by decide); exact (Bd.mono (by walk_at "bd") (by walk_at "sm")))
    | (apply wo_shl; exact (by walk_at "sm"); exact (by walk_at "sm"); exact (Bd.mono (by walk_at "bd") (by walk_at "sm")))
    | refine wo_ntNb ?_
    | refine wo_ntNs ?_
    | refine wo_isB ?_
    | refine wo_notB ?_
    | refine wo_abs ?_
    | refine wo_max ?_
    | refine wo_min ?_
    | refine wo_int1b ?_
    | refine wo_int1i ?_
    | refine wo_lenQ ?_
    | refine wo_lenT0 ?_
    | refine wo_lenL0 ?_
    | refine wo_lenT1 ?_
    | refine wo_lenL1 ?_
    | refine wo_lenT2 ?_
    | refine wo_lenL2 ?_
    | refine wo_lenT3 ?_
    | refine wo_lenL3 ?_
    | refine wo_lenT4 ?_
    | refine wo_lenL4 ?_
    | refine wo_lenT5 ?_
    | refine wo_lenL5 ?_
    | refine wo_lenT6 ?_
    | refine wo_lenL6 ?_
    | refine wo_lenT7 ?_
    | refine wo_lenL7 ?_
    | refine wo_lenT8 ?_
    | refine wo_lenL8 ?_
    | refine wo_lenT9 ?_
    | refine wo_lenL9 ?_
    | refine wo_lenT10 ?_
    | refine wo_lenL10 ?_
    | refine wo_lenT11 ?_
    | refine wo_lenL11 ?_
    | refine wo_lenT12 ?_
    | refine wo_lenL12 ?_
    | refine wo_lenT13 ?_
    | refine wo_lenL13 ?_
    | refine wo_lenT14 ?_
    | refine wo_lenL14 ?_
    | refine wo_lenT15 ?_
    | refine wo_lenL15 ?_
    | refine wo_lenT ?_
    | refine wo_lenL ?_
    | refine wo_listT ?_
    | refine wo_listL ?_
    | refine wo_tupT ?_
    | refine wo_tupL ?_
    | refine wo_rv2 ?_
    | refine wo_rvT ?_
    | refine wo_iadd ?_
    | refine wo_ix2 ?_
    | refine wo_ix3 ?_
    | refine wo_ix4 ?_
    | refine wo_ix5 ?_
    | refine wo_il0 ?_
    | refine wo_il1 ?_
    | refine wo_il2 ?_
    | refine wo_il3 ?_
    | refine wo_ilm2 ?_
    | refine wo_ilm1' ?_
    | refine wo_ilm1 ?_
    | refine wo_ix6 ?_
    | refine wo_ix7 ?_
    | refine wo_ix8 ?_
    | refine wo_ix9 ?_
    | refine wo_ix10 ?_
    | refine wo_il4 ?_
    | refine wo_il5 ?_
    | refine wo_il6 ?_
    | refine wo_il7 ?_
    | refine wo_il8 ?_
    | refine wo_il9 ?_
    | refine wo_il10 ?_
    | refine wo_iyQ ?_
    | refine wo_iyT rfl ?_
    | refine wo_iyL rfl ?_
    | (apply wo_slT'; exact (by walk_at "cut"))
    | (apply wo_slL'; exact (by walk_at "cut"))
    | refine wo_slT ?_
    | refine wo_slL ?_
    | (apply wo_addL'; exact (by walk_at "app"); exact (by walk_at "lsz"))
    | (apply wo_addT'; exact (by walk_at "app"); exact (by walk_at "lsz"))
    | (apply wo_repr; exact (by walk_at "shw"); exact (by walk_at "sm"); exact (by walk_at "sm"))
    | refine wo_repT rfl rfl ?_
    | (apply wo_rep2; exact (by walk_at "len"))
    | (apply wo_repE; exact (by walk_at "len"); exact rfl; exact rfl)
    | (apply wo_appE; exact (by walk_at "len"); exact (by walk_at "app"); exact (by walk_at "lsz"))
    | (apply wo_appS; assumption; exact (by walk_at "len"); exact (by walk_at "app"); exact (by walk_at "lsz"))
    | (apply wo_ixS0'; assumption; exact (by walk_at "len"))
    | (apply wo_ixS1'; assumption; exact (by walk_at "len"))
    | (apply wo_ixE0; exact (by walk_at "len"))
    | (apply wo_ixE1; exact (by walk_at "len"))
    | (apply wo_dgE; exact (by walk_at "len"); exact (by walk_at "dval"))
    | (apply wo_iyE; exact (by walk_at "len"); exact (by walk_at "dval"))
    | walk_at "woc"
    | refine wo_eqSelf (p := false) (by walk_at "ly") (by decide) ?_
    | refine wo_neSelf (p := false) (by walk_at "ly") (by decide) ?_)
local macro_rules | `(tactic| walk_at "app") => `(tactic| first | (simp only [List.cons_append, List.nil_append] <;> rfl) | rfl)
local macro_rules | `(tactic| walk_at "lsz") => `(tactic| first | omega | (simp only [List.length_cons, List.length_nil, List.length_append, List.length_map] <;> first | decide | omega))
local macro_rules | `(tactic| walk_at "cut") => `(tactic| simp only [cut_to0, cut_from0, cut_to1, cut_from1, cut_to2, cut_from2, cut_to3, cut_from3, cut_to4, cut_from4, cut_to5, cut_from5, cut_to6, cut_from6, cut_to7, cut_from7, cut_to8, cut_from8, cut_to9, cut_from9, cut_0_1, cut_0_2, cut_0_3, cut_0_4, cut_0_5, cut_0_6, cut_1_2, cut_1_3, cut_1_4, cut_1_5, cut_1_6, cut_2_3, cut_2_4, cut_2_5, cut_2_6, cut_3_4, cut_3_5, cut_3_6, cut_4_5, cut_4_6, cut_5_6, List.take_succ_cons, List.take_zero, List.drop_succ_cons, List.drop_zero, List.take_nil, List.drop_nil] <;> rfl)
local macro_rules | `(tactic| walk_at "ly") => `(tactic| first
    | assumption
    | exact Ly.none
    | exact Ly.int
    | exact Ly.bool
    | exact Ly.Q
    | (apply Ly.tup; walk_at "lyl")
    | (apply Ly.lst; walk_at "lyl"))
local macro_rules | `(tactic| walk_at "lyl") => `(tactic| first
    | exact LyL.nil
    | (apply LyL.cons; (walk_at "ly"); walk_at "lyl"))
local macro_rules | `(tactic| walk_at "le") => `(tactic| first | exact Rat.le_refl | exact Rat.not_lt.mp ‹_› | exact Rat.le_of_lt ‹_› | assumption)
local macro_rules | `(tactic| walk_at "hn") => `(tactic| first | assumption | (simp only [List.length_append, List.length_cons, List.length_nil, List.length_set]; omega))
local macro_rules | `(tactic| walk_at "wk") => `(tactic| fail)
local macro_rules | `(tactic| walk_at "dval") => `(tactic| fail)
local macro_rules | `(tactic| walk_at "dput") => `(tactic| fail)
local macro_rules | `(tactic| walk_at "tupq") => `(tactic| first | refine tq_neg ?_ | refine tq_abs ?_ | refine tq_self ?_)
local macro_rules | `(tactic| walk_at "wc") => `(tactic| first | (apply wp_norm; assumption; intro _)| (apply wp_norm2; assumption; intro _ _))
local macro_rules | `(tactic| walk_at "wx") => `(tactic| fail)
local macro_rules | `(tactic| walk_at "woc") => `(tactic| fail)
local macro_rules | `(tactic| walk_at "wipe") => `(tactic| simp only [wipeE, List.set_cons_zero, List.set_cons_succ] <;> rfl)
local macro_rules | `(tactic| walk_at "setk") => `(tactic| first
    | refine setk0 ?_
    | refine setk1 ?_
    | refine setk2 ?_
    | refine setk3 ?_
    | refine setk4 ?_
    | refine setk5 ?_
    | refine setk6 ?_
    | refine setk7 ?_
    | refine setk8 ?_
    | refine setk9 ?_
    | refine setk10 ?_
    | refine setk11 ?_
    | refine setk12 ?_
    | refine setk13 ?_
    | refine setk14 ?_
    | refine setk15 ?_
    | refine setk16 ?_
    | refine setk17 ?_
    | refine setk18 ?_
    | refine setk19 ?_
    | refine setk20 ?_
    | refine setk21 ?_
    | refine setk22 ?_
    | refine setk23 ?_
    | refine setk24 ?_
    | refine setk25 ?_)
local macro_rules | `(tactic| walk_at "tupk") => `(tactic| first
    | walk_at "tupq"
    | refine tupk0 ?_
    | refine tupk1 ?_
    | refine tupk2 ?_
    | refine tupk3 ?_
    | refine tupk4 ?_
    | refine tupk5 ?_
    | refine tupk6 ?_
    | refine tupk7 ?_
    | refine tupk8 ?_
    | refine tupk9 ?_
    | refine tupk10 ?_
    | refine tupk11 ?_
    | refine tupk12 ?_
    | refine tupk13 ?_
    | refine tupk14 ?_
    | refine tupk15 ?_)
local macro_rules | `(tactic| walk_at "lstk") => `(tactic| first
    | refine lstk0 ?_
    | refine lstk1 ?_
    | refine lstk2 ?_
    | refine lstk3 ?_
    | refine lstk4 ?_
    | refine lstk5 ?_
    | refine lstk6 ?_
    | refine lstk7 ?_
    | refine lstk8 ?_
    | refine lstk9 ?_
    | refine lstk10 ?_
    | refine lstk11 ?_
    | refine lstk12 ?_
    | refine lstk13 ?_
    | refine lstk14 ?_
    | refine lstk15 ?_)
local macro_rules | `(tactic| walk_at "dc") => `(tactic| first | rfl | decide | exact decide_eq_true ‹_› | omega)
local macro_rules | `(tactic| walk_at "ai") => `(tactic| repeat' (first | exact ai_nil | (apply ai_cons; exact (by walk_at "sm"); exact (by walk_at "sm"))))
local macro_rules | `(tactic| walk_at "brk") => `(tactic| first
    | refine brk_t ?_
    | refine brk_f ?_
    | refine brk_not ?_
    | refine brk_and ?_
    | refine brk_or ?_
    | (apply brk_dec1; assumption)
    | (apply brk_dec0; assumption)
    | (apply brk_dec1; exact (by walk_at "dc"))
    | (apply brk_dec0; exact (by walk_at "dc"))
    | refine brk_dec (fun _ => ?_) (fun _ => ?_))
local macro_rules | `(tactic| walk_at "unk") => `(tactic| first
    | refine unk0 ?_
    | refine unk1 ?_
    | refine unk2 ?_
    | refine unk3 ?_
    | refine unk4 ?_
    | refine unk5 ?_
    | refine unk6 ?_
    | refine unk7 ?_
    | refine unk8 ?_
    | refine unk9 ?_
    | refine unk10 ?_
    | refine unk11 ?_
    | refine unk12 ?_
    | refine unk13 ?_
    | refine unk14 ?_
    | refine unk15 ?_
    | refine unk16 ?_
    | refine unk17 ?_
    | refine unk18 ?_
    | refine unk19 ?_
    | refine unk20 ?_
    | refine unk21 ?_
    | refine unk22 ?_
    | refine unk23 ?_
    | refine unk24 ?_
    | refine unk25 ?_)
local macro_rules | `(tactic| walk_at "w1") => `(tactic| with_reducible first
    | (refine hd_Wp ?_; walk_at "wp")
    | (refine hd_Ws ?_; walk_at "ws")
    | (refine hd_Wo ?_; walk_at "wo")
    | (refine hd_SetK ?_; walk_at "setk")
    | (refine hd_TupK ?_; walk_at "tupk")
    | (refine hd_BrK ?_; walk_at "brk")
    | refine trk ?_
    | (apply retK_d; exact (by walk_at "len"))
    | (apply retK_d'; exact (by walk_at "len"))
    | (apply retK_S; assumption; exact (by walk_at "len"))
    | (apply fzk_d; exact (by walk_at "len"))
    | (apply fzk_end; exact (by walk_at "len"))
    | (refine hd_LstK ?_; walk_at "lstk")
    | refine ex_is_int_none ?_
    | refine ex_is_int_bool ?_
    | refine ex_is_int_int ?_
    | refine ex_is_int_str ?_
    | refine ex_is_int_tuple ?_
    | refine ex_is_int_list ?_
    | refine ex_is_int_Q ?_
    | refine ex_is_bool_none ?_
    | refine ex_is_bool_bool ?_
    | refine ex_is_bool_int ?_
    | refine ex_is_bool_str ?_
    | refine ex_is_bool_tuple ?_
    | refine ex_is_bool_list ?_
    | refine ex_is_bool_Q ?_
    | refine ex_is_str_none ?_
    | refine ex_is_str_bool ?_
    | refine ex_is_str_int ?_
    | refine ex_is_str_str ?_
    | refine ex_is_str_tuple ?_
    | refine ex_is_str_list ?_
    | refine ex_is_str_Q ?_
    | refine ex_is_tuple_none ?_
    | refine ex_is_tuple_bool ?_
    | refine ex_is_tuple_int ?_
    | refine ex_is_tuple_str ?_
    | refine ex_is_tuple_tuple ?_
    | refine ex_is_tuple_list ?_
    | refine ex_is_tuple_Q ?_
    | refine ex_is_list_none ?_
    | refine ex_is_list_bool ?_
    | refine ex_is_list_int ?_
    | refine ex_is_list_str ?_
    | refine ex_is_list_tuple ?_
    | refine ex_is_list_list ?_
    | refine ex_is_list_Q ?_
    | refine ex_is_dict_none ?_
    | refine ex_is_dict_bool ?_
    | refine ex_is_dict_int ?_
    | refine ex_is_dict_str ?_
    | refine ex_is_dict_tuple ?_
    | refine ex_is_dict_list ?_
    | refine ex_is_dict_Q ?_
    | refine ex_int ?_
    | refine ex_par ?_
    | refine ex_par3 ?_
    | refine ex_par4 ?_
    | refine ex_rev ?_
    | refine ex_txt ?_
    | refine ex_pc ?_
    | (apply ex_revR; exact (by walk_at "rg"))
    | (apply ex_lstR; exact (by omega); exact (by omega))
    | refine ex_enumL ?_
    | refine ex_enumT ?_
    | refine ex_zip4LL ?_
    | refine ex_unp ?_
    | refine tupZk ?_
    | refine ex_tupZ ?_
    | refine ex_zip4TT ?_
    | refine ex_zip4TL ?_
    | refine ex_zipL ?_
    | refine ex_zipT ?_
    | (apply fzk_end2; exact (by walk_at "len"))
    | (apply ex_rng; exact (by walk_at "rg"))
    | (apply ex_rng2; exact (by walk_at "rg"); exact (by walk_at "rg"))
    | refine tyL_D ?_
    | (apply tyL_S; assumption; exact (by walk_at "len"))
    | (apply tyL_E; exact (by walk_at "len"))
    | (apply ex_setS0; assumption; exact (by walk_at "len"))
    | (apply ex_setS1; assumption; exact (by walk_at "len"))
    | (apply ex_setL0; exact (by walk_at "len"))
    | (apply ex_setL1; exact (by walk_at "len"))
    | (apply ex_setDE; exact (by walk_at "len"); exact (by walk_at "dput"); exact (by walk_at "lsz"))
    | walk_at "wx"
    | refine gk_n ?_
    | refine gk_tup2 ?_
    | refine gk_tup3 ?_
    | refine gk_tup4 ?_
    | refine gk_lst4 ?_
    | refine gk_tup5 ?_
    | refine gk_tup6 ?_
    | refine gk_tupQ ?_
    | refine gk_tupN ?_
    | refine gk_tupM ?_
    | refine gk_setD ?_
    | refine gk_setL ?_
    | refine forK_r2 ?_
    | refine forK_r3 ?_
    | refine forK_r4 ?_
    | refine forK_nil ?_
    | refine forK_cons ?_
    | refine ex_isy_int ?_
    | refine ex_isy_bool ?_
    | refine ex_isy_str ?_
    | refine ex_isy_tuple ?_
    | refine ex_isy_list ?_
    | refine ex_isy_dict ?_
    | refine ex_isE_none ?_
    | (apply ex_isE_y; exact (by decide +kernel))
    | (apply ex_isE_n; exact (by decide +kernel); exact (by decide +kernel))
    | (refine hd_UnK ?_; walk_at "unk")
    | (refine hd_TryK ?_; first | (apply tryk_y; exact (by decide +kernel))| (apply tryk_n; exact (by decide +kernel); exact (by decide +kernel))))
local macro_rules | `(tactic| walk_at "w") => `(tactic| repeat' (with_reducible first | (refine hd_Wp ?_; (first | (refine hd_v ?_; first | refine wp_v0 ?_ | refine wp_v1 ?_ | refine wp_v2 ?_ | refine wp_v3 ?_ | refine wp_v4 ?_ | refine wp_v5 ?_ | refine wp_v6 ?_ | refine wp_v7 ?_ | refine wp_v8 ?_ | refine wp_v9 ?_ | refine wp_v10 ?_ | refine wp_v11 ?_ | refine wp_v12 ?_ | refine wp_v13 ?_ | refine wp_v14 ?_ | refine wp_v15 ?_ | refine wp_v16 ?_ | refine wp_v17 ?_ | refine wp_v18 ?_ | refine wp_v19 ?_ | refine wp_v20 ?_ | refine wp_v21 ?_ | refine wp_v22 ?_ | refine wp_v23 ?_ | refine wp_v24 ?_ | refine wp_v25 ?_) | walk_at "wk" | refine wp_D ?_ | refine wp_op ?_ | refine wp_call ?_ | refine wp_cons ?_ | refine wp_nil ?_ | refine wp_T ?_ | refine wp_if ?_ | refine wp_tup ?_ | refine wp_blt ?_ | refine wp_fzL ?_ | refine wp_fzO ?_ | refine wp_fzB ?_ | refine wp_fzS ?_ | refine wp_fzT ?_ | refine wp_fzR ?_ | refine wp_rv ?_ | refine wp_mtL ?_ | refine wp_mtD ?_ | refine wp_lst ?_ | refine wp_tand ?_ | refine wp_tor ?_ | refine wp_tnot ?_ | refine wp_and ?_ | refine wp_or ?_ | refine wp_not ?_ | refine wp_chain ?_ | refine wp_slice ?_ | refine wp_oN ?_ | refine wp_oS ?_ | refine wp_step ?_ | refine wp_tyes ?_ | refine wp_isi ?_ | refine wp_isE ?_ | refine wp_neg ?_ | refine wp_iv ?_ | refine wp_itT ?_ | refine wp_itL ?_ | refine wp_rng1 ?_ | refine wp_rng2 ?_ | refine wp_zip ?_ | refine wp_zip4 ?_ | refine wp_enumB ?_ | refine wp_rev ?_ | refine wp_dct0 ?_ | refine wp_dct ?_ | refine wp_pn ?_ | refine wp_pc ?_ | refine wp_bits ?_ | refine wp_unl ?_ | refine wp_m1 ?_ | refine wp_unp ?_ | refine wp_tupZ ?_ | refine wp_callF ?_ | refine wp_itS ?_ | refine wp_revR ?_ | refine wp_lstR ?_ | walk_at "wc")) | (refine hd_Ws ?_; (first | refine ws_seq ?_ | refine ws_set ?_ | refine ws_if ?_ | refine ws_ret ?_ | refine ws_asg ?_ | refine ws_expr ?_ | refine ws_nil ?_ | refine ws_for ?_ | refine ws_par ?_ | refine ws_par3 ?_ | refine ws_parN2 ?_ | refine ws_parN3 ?_ | refine ws_parN4 ?_ | refine ws_aug ?_ | refine ws_retN ?_ | refine ws_cont ?_ | refine ws_brk ?_ | refine ws_raise ?_ | refine ws_try ?_ | (apply ws_frzE; exact (by walk_at "len"); (with_unfolding_all rfl))| (apply ws_frzS; assumption; exact (by walk_at "len"); (with_unfolding_all rfl))| walk_at "wsc")) | (refine hd_Wo ?_; (first | refine wo_eqE0 ?_ | refine wo_eqE1 ?_ | refine wo_add ?_ | refine wo_sub ?_ | refine wo_ixQ0 ?_ | refine wo_ixQ1 ?_ | refine wo_ix0 ?_ | refine wo_ix1 ?_ | refine wo_lt ?_ | refine wo_le ?_ | refine wo_gt ?_ | refine wo_ge ?_ | refine wo_eqI ?_ | refine wo_neI ?_ | refine wo_eqQ ?_ | refine wo_neQ ?_ | refine wo_eqQQ ?_ | refine wo_neQQ ?_ | refine wo_eqSS ?_ | refine wo_neSS ?_ | refine wo_eqS ?_ | refine wo_neS ?_ | refine wo_eqB ?_ | refine wo_neB ?_ | refine wo_isNn ?_ | refine wo_isNt ?_ | refine wo_isNl ?_ | refine wo_isNq ?_ | refine wo_isNi ?_ | refine wo_isNb ?_ | refine wo_isNs ?_ | refine wo_isNx ?_ | refine wo_ntNx ?_ | refine wo_isNy ?_ | refine wo_ntNy ?_ | refine wo_ntNn ?_ | refine wo_ntNt ?_ | refine wo_ntNl ?_ | refine wo_ntNq ?_ | refine wo_ntNi ?_ | (refine wo_mul ?_ ?_; (walk_at "mok")) | (refine wo_mod ?_ ?_; (walk_at "pos")) | (refine wo_div ?_ ?_ ?_; (walk_at "pos"); (walk_at "dok")) | (apply wo_pow; exact (by decide); exact (by decide))| (apply wo_powG; exact (by decide); exact (Bd.mono (by walk_at "bd") (by walk_at "sm")))| (apply wo_shl; exact (by walk_at "sm"); exact (by walk_at "sm"); exact (Bd.mono (by walk_at "bd") (by walk_at "sm")))| refine wo_ntNb ?_ | refine wo_ntNs ?_ | refine wo_isB ?_ | refine wo_notB ?_ | refine wo_abs ?_ | refine wo_max ?_ | refine wo_min ?_ | refine wo_int1b ?_ | refine wo_int1i ?_ | refine wo_lenQ ?_ | refine wo_lenT0 ?_ | refine wo_lenL0 ?_ | refine wo_lenT1 ?_ | refine wo_lenL1 ?_ | refine wo_lenT2 ?_ | refine wo_lenL2 ?_ | refine wo_lenT3 ?_ | refine wo_lenL3 ?_ | refine wo_lenT4 ?_ | refine wo_lenL4 ?_ | refine wo_lenT5 ?_ | refine wo_lenL5 ?_ | refine wo_lenT6 ?_ | refine wo_lenL6 ?_ | refine wo_lenT7 ?_ | refine wo_lenL7 ?_ | refine wo_lenT8 ?_ | refine wo_lenL8 ?_ | refine wo_lenT9 ?_ | refine wo_lenL9 ?_ | refine wo_lenT10 ?_ | refine wo_lenL10 ?_ | refine wo_lenT11 ?_ | refine wo_lenL11 ?_ | refine wo_lenT12 ?_ | refine wo_lenL12 ?_ | refine wo_lenT13 ?_ | refine wo_lenL13 ?_ | refine wo_lenT14 ?_ | refine wo_lenL14 ?_ | refine wo_lenT15 ?_ | refine wo_lenL15 ?_ | refine wo_lenT ?_ | refine wo_lenL ?_ | refine wo_listT ?_ | refine wo_listL ?_ | refine wo_tupT ?_ | refine wo_tupL ?_ | refine wo_rv2 ?_ | refine wo_rvT ?_ | refine wo_iadd ?_ | refine wo_ix2 ?_ | refine wo_ix3 ?_ | refine wo_ix4 ?_ | refine wo_ix5 ?_ | refine wo_il0 ?_ | refine wo_il1 ?_ | refine wo_il2 ?_ | refine wo_il3 ?_ | refine wo_ilm2 ?_ | refine wo_ilm1' ?_ | refine wo_ilm1 ?_ | refine wo_ix6 ?_ | refine wo_ix7 ?_ | refine wo_ix8 ?_ | refine wo_ix9 ?_ | refine wo_ix10 ?_ | refine wo_il4 ?_ | refine wo_il5 ?_ | refine wo_il6 ?_ | refine wo_il7 ?_ | refine wo_il8 ?_ | refine wo_il9 ?_ | refine wo_il10 ?_ | refine wo_iyQ ?_ | refine wo_iyT rfl ?_ | refine wo_iyL rfl ?_ | (apply wo_slT'; exact (by walk_at "cut"))| (apply wo_slL'; exact (by walk_at "cut"))| refine wo_slT ?_ | refine wo_slL ?_ | (apply wo_addL'; exact (by walk_at "app"); exact (by walk_at "lsz"))| (apply wo_addT'; exact (by walk_at "app"); exact (by walk_at "lsz"))| (apply wo_repr; exact (by walk_at "shw"); exact (by walk_at "sm"); exact (by walk_at "sm"))| refine wo_repT rfl rfl ?_ | (apply wo_rep2; exact (by walk_at "len"))| (apply wo_repE; exact (by walk_at "len"); exact rfl; exact rfl)| (apply wo_appE; exact (by walk_at "len"); exact (by walk_at "app"); exact (by walk_at "lsz"))| (apply wo_appS; assumption; exact (by walk_at "len"); exact (by walk_at "app"); exact (by walk_at "lsz"))| (apply wo_ixS0'; assumption; exact (by walk_at "len"))| (apply wo_ixS1'; assumption; exact (by walk_at "len"))| (apply wo_ixE0; exact (by walk_at "len"))| (apply wo_ixE1; exact (by walk_at "len"))| (apply wo_dgE; exact (by walk_at "len"); exact (by walk_at "dval"))| (apply wo_iyE; exact (by walk_at "len"); exact (by walk_at "dval"))| walk_at "woc" | refine wo_eqSelf (p := false) (by walk_at "ly") (by decide) ?_ | refine wo_neSelf (p := false) (by walk_at "ly") (by decide) ?_)) | (refine hd_SetK ?_; (first | refine setk0 ?_ | refine setk1 ?_ | refine setk2 ?_ | refine setk3 ?_ | refine setk4 ?_ | refine setk5 ?_ | refine setk6 ?_ | refine setk7 ?_ | refine setk8 ?_ | refine setk9 ?_ | refine setk10 ?_ | refine setk11 ?_ | refine setk12 ?_ | refine setk13 ?_ | refine setk14 ?_ | refine setk15 ?_ | refine setk16 ?_ | refine setk17 ?_ | refine setk18 ?_ | refine setk19 ?_ | refine setk20 ?_ | refine setk21 ?_ | refine setk22 ?_ | refine setk23 ?_ | refine setk24 ?_ | refine setk25 ?_)) | (refine hd_TupK ?_; (first | walk_at "tupq" | refine tupk0 ?_ | refine tupk1 ?_ | refine tupk2 ?_ | refine tupk3 ?_ | refine tupk4 ?_ | refine tupk5 ?_ | refine tupk6 ?_ | refine tupk7 ?_ | refine tupk8 ?_ | refine tupk9 ?_ | refine tupk10 ?_ | refine tupk11 ?_ | refine tupk12 ?_ | refine tupk13 ?_ | refine tupk14 ?_ | refine tupk15 ?_)) | (refine hd_BrK ?_; (first | refine brk_t ?_ | refine brk_f ?_ | refine brk_not ?_ | refine brk_and ?_ | refine brk_or ?_ | (apply brk_dec1; assumption)| (apply brk_dec0; assumption)| (apply brk_dec1; exact (by walk_at "dc"))| (apply brk_dec0; exact (by walk_at "dc"))| refine brk_dec (fun _ => ?_) (fun _ => ?_))) | refine trk ?_ | (apply retK_d; exact (by walk_at "len"))| (apply retK_d'; exact (by walk_at "len"))| (apply retK_S; assumption; exact (by walk_at "len"))| (apply fzk_d; exact (by walk_at "len"))| (apply fzk_end; exact (by walk_at "len"))| (refine hd_LstK ?_; (first | refine lstk0 ?_ | refine lstk1 ?_ | refine lstk2 ?_ | refine lstk3 ?_ | refine lstk4 ?_ | refine lstk5 ?_ | refine lstk6 ?_ | refine lstk7 ?_ | refine lstk8 ?_ | refine lstk9 ?_ | refine lstk10 ?_ | refine lstk11 ?_ | refine lstk12 ?_ | refine lstk13 ?_ | refine lstk14 ?_ | refine lstk15 ?_)) | refine ex_is_int_none ?_ | refine ex_is_int_bool ?_ | refine ex_is_int_int ?_ | refine ex_is_int_str ?_ | refine ex_is_int_tuple ?_ | refine ex_is_int_list ?_ | refine ex_is_int_Q ?_ | refine ex_is_bool_none ?_ | refine ex_is_bool_bool ?_ | refine ex_is_bool_int ?_ | refine ex_is_bool_str ?_ | refine ex_is_bool_tuple ?_ | refine ex_is_bool_list ?_ | refine ex_is_bool_Q ?_ | refine ex_is_str_none ?_ | refine ex_is_str_bool ?_ | refine ex_is_str_int ?_ | refine ex_is_str_str ?_ | refine ex_is_str_tuple ?_ | refine ex_is_str_list ?_ | refine ex_is_str_Q ?_ | refine ex_is_tuple_none ?_ | refine ex_is_tuple_bool ?_ | refine ex_is_tuple_int ?_ | refine ex_is_tuple_str ?_ | refine ex_is_tuple_tuple ?_ | refine ex_is_tuple_list ?_ | refine ex_is_tuple_Q ?_ | refine ex_is_list_none ?_ | refine ex_is_list_bool ?_ | refine ex_is_list_int ?_ | refine ex_is_list_str ?_ | refine ex_is_list_tuple ?_ | refine ex_is_list_list ?_ | refine ex_is_list_Q ?_ | refine ex_is_dict_none ?_ | refine ex_is_dict_bool ?_ | refine ex_is_dict_int ?_ | refine ex_is_dict_str ?_ | refine ex_is_dict_tuple ?_ | refine ex_is_dict_list ?_ | refine ex_is_dict_Q ?_ | refine ex_int ?_ | refine ex_par ?_ | refine ex_par3 ?_ | refine ex_par4 ?_ | refine ex_rev ?_ | refine ex_txt ?_ | refine ex_pc ?_ | (apply ex_revR; exact (by walk_at "rg"))| (apply ex_lstR; exact (by omega); exact (by omega))| refine ex_enumL ?_ | refine ex_enumT ?_ | refine ex_zip4LL ?_ | refine ex_unp ?_ | refine tupZk ?_ | refine ex_tupZ ?_ | refine ex_zip4TT ?_ | refine ex_zip4TL ?_ | refine ex_zipL ?_ | refine ex_zipT ?_ | (apply fzk_end2; exact (by walk_at "len"))| (apply ex_rng; exact (by walk_at "rg"))| (apply ex_rng2; exact (by walk_at "rg"); exact (by walk_at "rg"))| refine tyL_D ?_ | (apply tyL_S; assumption; exact (by walk_at "len"))| (apply tyL_E; exact (by walk_at "len"))| (apply ex_setS0; assumption; exact (by walk_at "len"))| (apply ex_setS1; assumption; exact (by walk_at "len"))| (apply ex_setL0; exact (by walk_at "len"))| (apply ex_setL1; exact (by walk_at "len"))| (apply ex_setDE; exact (by walk_at "len"); exact (by walk_at "dput"); exact (by walk_at "lsz"))| walk_at "wx" | refine gk_n ?_ | refine gk_tup2 ?_ | refine gk_tup3 ?_ | refine gk_tup4 ?_ | refine gk_lst4 ?_ | refine gk_tup5 ?_ | refine gk_tup6 ?_ | refine gk_tupQ ?_ | refine gk_tupN ?_ | refine gk_tupM ?_ | refine gk_setD ?_ | refine gk_setL ?_ | refine forK_r2 ?_ | refine forK_r3 ?_ | refine forK_r4 ?_ | refine forK_nil ?_ | refine forK_cons ?_ | refine ex_isy_int ?_ | refine ex_isy_bool ?_ | refine ex_isy_str ?_ | refine ex_isy_tuple ?_ | refine ex_isy_list ?_ | refine ex_isy_dict ?_ | refine ex_isE_none ?_ | (apply ex_isE_y; exact (by decide +kernel))| (apply ex_isE_n; exact (by decide +kernel); exact (by decide +kernel))| (refine hd_UnK ?_; (first | refine unk0 ?_ | refine unk1 ?_ | refine unk2 ?_ | refine unk3 ?_ | refine unk4 ?_ | refine unk5 ?_ | refine unk6 ?_ | refine unk7 ?_ | refine unk8 ?_ | refine unk9 ?_ | refine unk10 ?_ | refine unk11 ?_ | refine unk12 ?_ | refine unk13 ?_ | refine unk14 ?_ | refine unk15 ?_ | refine unk16 ?_ | refine unk17 ?_ | refine unk18 ?_ | refine unk19 ?_ | refine unk20 ?_ | refine unk21 ?_ | refine unk22 ?_ | refine unk23 ?_ | refine unk24 ?_ | refine unk25 ?_)) | (refine hd_TryK ?_; first | (apply tryk_y; exact (by decide +kernel))| (apply tryk_n; exact (by decide +kernel); exact (by decide +kernel)))))
local macro_rules | `(tactic| walk_at "wk") => `(tactic| refine wk_FIGURES ?_)
local macro_rules | `(tactic| walk_at "wk") => `(tactic| refine wk_MOST_FIGURES ?_)
local macro_rules | `(tactic| walk_at "wk") => `(tactic| refine wk_PIECE ?_)
/-! the numbers' defs -/
theorem w_shared (h : Hh) : ∀ (y x : Nat), ∃ z, sWhile (eT (eOp (gInt fGt) (eVar 1) (eD (.int 0)))) (sPar 0 1 (aCons (eVar 1) (aCons (eOp (gInt fMod) (eVar 0) (eVar 1)) (aNil)))) [some (.d (.int (x : Int))), some (.d (.int (y : Int)))] h = .nx [some (.d (.int (Nat.gcd x y : Nat))), some z] h := by
  intro y
  induction y using Nat.strongRecOn with
  | ind y ih =>
    intro x
    rw [sWhile_eq]
    by_cases hy : y = 0
    · subst hy
      refine ⟨.d (.int 0), ?_⟩
      walk_at "ev"
      simp
    · have hp : (0 : Int) < (y : Int) := by omega
      obtain ⟨z, e⟩ := ih (x % y) (Nat.mod_lt _ (by omega)) y
      refine ⟨z, ?_⟩
      have hn : ((y : Int)) ≠ 0 := by omega
      walk_at "ev"
      rw [decide_eq_true hp, fMod_eq hn, fmod_nat]
      walk_at "ev"
      rw [e, Nat.gcd_comm x y, Nat.gcd_rec y x, Nat.gcd_comm (x % y) y]
theorem sp_shared (x y : Int) (h : Hh) : m_shared [.d (.int x), .d (.int y)] h = .ok (.d (.int (Int.gcd x y : Nat))) h := by
  obtain ⟨z, e⟩ := w_shared h y.natAbs x.natAbs
  unfold m_shared b_shared
  walk_at "ev"
  rw [abs_eq, abs_eq, e]
  walk_at "ev"
  rfl
/-! the numbers' defs, by wishes -/
section
variable {h : Hh} {Q : Vl → Hh → Prop} {E : XP} {r s : Rat} {n m : Nat}
theorem wp_shared {x y : Int} (q : Q (.d (.int (Int.gcd x y : Nat))) h) : Wp (m_shared [.d (.int x), .d (.int y)] h) Q E := wp_eq (sp_shared x y h) q
end
local macro_rules | `(tactic| walk_at "wc") => `(tactic| refine wp_shared ?_)

/-! the laws' own drawing -/
theorem sp_mixed (a : Int) (k : Nat) (hk : k < 2 ^ 32) (h : Hh) : ∃ v : Int, m__law_mixed [.d (.int a), .d (.int (k : Int))] h = .ok (.d (.int v)) h ∧ 0 ≤ v ∧ v < 2147483629 := by
  have bk : Bd 64 (k : Int) := bd_nat (Nat.lt_trans hk (by decide))
  have q1 : fMod a 2147483647 = some (.int (a.fmod 2147483647)) := fMod_eq (by decide)
  have q2 : fMul 7919 (k : Int) = some (.int (7919 * (k : Int))) := fMul_eq (mulOk_smallR bk)
  have q3 : fMul (7919 * (k : Int)) (k : Int) = some (.int (7919 * (k : Int) * (k : Int))) := fMul_eq (mulOk_smallR bk)
  have q4 : fMul 31 (k : Int) = some (.int (31 * (k : Int))) := fMul_eq (mulOk_smallR bk)
  have q5 : ∀ z : Int, fMul z 48271 = some (.int (z * 48271)) := fun z => fMul_eq (mulOk_smallR (bd_lit 48271 (by decide) (by decide) (by decide)))
  have q6 : ∀ z : Int, fMod z 2147483647 = some (.int (z.fmod 2147483647)) := fun z => fMod_eq (by decide)
  have q7 : fMul 2 (k : Int) = some (.int (2 * (k : Int))) := fMul_eq (mulOk_smallR bk)
  have q8 : ∀ z : Int, fMul z (69621 + 2 * (k : Int)) = some (.int (z * (69621 + 2 * (k : Int)))) := fun z => fMul_eq (mulOk_smallR (bd_lit (69621 + 2 * 2 ^ 32) (by omega) (by omega) (by decide)))
  have q9 : ∀ z : Int, fMod z 2147483629 = some (.int (z.fmod 2147483629)) := fun z => fMod_eq (by decide)
  refine ⟨_, ?_, fmod_bd (x := ((a.fmod 2147483647 + 7919 * (k : Int) * (k : Int) + 31 * (k : Int)) * 48271).fmod 2147483647 * (69621 + 2 * (k : Int))) (by decide)⟩
  unfold m__law_mixed b__law_mixed
  simp only [mkF, enter, retF, trunc, sSeq, So.then_nx, So.then_rt, sSet, sRet, sRetN, sIf, sExpr, sNil, sPar, sAsg, ofG, gN, gsCons, gsNil, gTupT_tup, gTupT_Q, Out.then_ok, Out.then_ex, Out.bind_ok, Out.bind_ex, eVar, eD_eq, eOp, eCall, eBlt, aCons, aNil, eTup, eIf, eT, eNot, eAnd, eOr, tvAnd, tvOr, tvNot, eNeg, eIsi, isTy_d, isQ_tup, isQ_bool, isQ_int, isI_bool, isI_int, isI_tup, isB_bool, isB_int, ixQ0, ixQ1, truO_b, fzs_nil, fzs_d, gInt_eq, gAdd_int, gAbs_eq, fAdd_eq, fSub_eq, fLt_eq, fLe_eq, fGt_eq, fGe_eq, ix0, ix1, ix2, ix3, ix4, ix5, ofO_some, Option.map_some, Option.bind_some, List.length_cons, List.length_nil, List.map_cons, List.map_nil, List.replicate_succ, List.replicate_zero, List.cons_append, List.nil_append, List.getElem?_cons_zero, List.getElem?_cons_succ, List.set_cons_zero, List.set_cons_succ, List.take_length, Int.reduceEq, Int.reduceLT, Int.reduceLE, Nat.reduceSub, Nat.reduceAdd, Nat.reduceLeDiff, Nat.reduceLT, Nat.zero_add, Nat.add_zero, Nat.sub_self, if_true, if_false, reduceIte, Bool.false_eq_true, fitB, decide_true, decide_false, Bool.not_true, Bool.not_false, q1, q2, q3, q4, q5, q6, q7, q8, q9]
theorem sp_take {K : Nat} {xs : List Da} (st : Strm K xs) (hK : K < 2 ^ 30) {n : Nat} {h : Hh} (e : h[n]? = some (some (.lst xs))) {many : Int} (hm : 0 < many) (hm2 : many < 2 ^ 62) :
    ∃ (v : Int) (xs' : List Da), m__law_take [.r n, .d (.int many)] h = .ok (.d (.int v)) (h.set n (some (.lst xs'))) ∧ 0 ≤ v ∧ v < many ∧ Strm (K + 1) xs' := by
  obtain ⟨c, x, k, m, rfl, hk⟩ := st
  have hn : n < h.length := (List.getElem?_eq_some_iff.mp e).1
  have e1 := get_set (o := some (.lst [.bool c, .int x, .int ((k : Int) + 1), .int m])) hn
  obtain ⟨v1, m1, _, _⟩ := sp_mixed m (k + 1) (by omega) (h.set n (some (.lst [.bool c, .int x, .int ((k : Int) + 1), .int m])))
  rw [Int.natCast_add, show ((1 : Nat) : Int) = 1 from rfl] at m1
  obtain ⟨v2, m2, _, _⟩ := sp_mixed v1 7 (by decide) (h.set n (some (.lst [.bool c, .int x, .int ((k : Int) + 1), .int m])))
  rw [show ((7 : Nat) : Int) = 7 from rfl] at m2
  have q1 : ∀ z, fMod z many = some (.int (z.fmod many)) := fun z => fMod_eq (by omega)
  have q2 : fDiv x many = some (.int (x.fdiv many)) := fDiv_eq (by omega) (Bd.divOk (n := 64) (bd_lit (2 ^ 62) (by omega) (by omega) (by decide)) (by decide) (by decide))
  have tl : (h.set n (some (.lst [.bool c, .int x, .int ((k : Int) + 1), .int m]))).take h.length = h.set n (some (.lst [.bool c, .int x, .int ((k : Int) + 1), .int m])) := List.take_of_length_le (by rw [List.length_set]; exact Nat.le_refl _)
  have st' : ∀ y : Int, Strm (K + 1) [.bool c, .int y, .int ((k : Int) + 1), .int m] := fun y => ⟨c, y, k + 1, m, by rw [Int.natCast_add]; rfl, by omega⟩
  have tl2 : ∀ o : Option Ob, (h.set n o).take h.length = h.set n o := fun o => List.take_of_length_le (by rw [List.length_set]; exact Nat.le_refl _)
  by_cases hc : c = true ∧ ¬ x = 0 ∧ ¬ x = -1 ∧ ¬ (60 : Int) < (k : Int) + 1
  · obtain ⟨rfl, h1, h2, h3⟩ := hc
    refine ⟨x.fmod many, _, ?_, (fmod_bd hm).1, (fmod_bd hm).2, st' (x.fdiv many)⟩
    unfold m__law_take b__law_take
    simp only [mkF, enter, retF, trunc, sSeq, So.then_nx, So.then_rt, sSet, sRet, sRetN, sIf, sExpr, sNil, sPar, sAsg, ofG, gN, gsCons, gsNil, gTupT_tup, gTupT_Q, Out.then_ok, Out.then_ex, Out.bind_ok, Out.bind_ex, eVar, eD_eq, eOp, eCall, eBlt, aCons, aNil, eTup, eIf, eT, eNot, eAnd, eOr, tvAnd, tvOr, tvNot, eNeg, eIsi, isTy_d, isQ_tup, isQ_bool, isQ_int, isI_bool, isI_int, isI_tup, isB_bool, isB_int, ixQ0, ixQ1, truO_b, fzs_nil, fzs_d, gInt_eq, gAdd_int, gAbs_eq, fAdd_eq, fSub_eq, fLt_eq, fLe_eq, fGt_eq, fGe_eq, ix0, ix1, ix2, ix3, ix4, ix5, ofO_some, Option.map_some, Option.bind_some, List.length_cons, List.length_nil, List.map_cons, List.map_nil, List.replicate_succ, List.replicate_zero, List.cons_append, List.nil_append, List.getElem?_cons_zero, List.getElem?_cons_succ, List.set_cons_zero, List.set_cons_succ, List.take_length, Int.reduceEq, Int.reduceLT, Int.reduceLE, Nat.reduceSub, Nat.reduceAdd, Nat.reduceLeDiff, Nat.reduceLT, Nat.zero_add, Nat.add_zero, Nat.sub_self, if_true, if_false, reduceIte, Bool.false_eq_true, fitB, decide_true, decide_false, Bool.not_true, Bool.not_false, gSetL_eq, okO_ok, ixS2 e, setS2 e, ixS0 e1, ixS1 e1, ixS2 e1, ixS3 e1, setS1 e1, gIn01, h1, h2, h3, Bool.or_self, q1, q2, List.set_set, tl2]
  · refine ⟨v2.fmod many, _, ?_, (fmod_bd hm).1, (fmod_bd hm).2, st' x⟩
    unfold m__law_take b__law_take
    cases c with
    | false => simp only [mkF, enter, retF, trunc, sSeq, So.then_nx, So.then_rt, sSet, sRet, sRetN, sIf, sExpr, sNil, sPar, sAsg, ofG, gN, gsCons, gsNil, gTupT_tup, gTupT_Q, Out.then_ok, Out.then_ex, Out.bind_ok, Out.bind_ex, eVar, eD_eq, eOp, eCall, eBlt, aCons, aNil, eTup, eIf, eT, eNot, eAnd, eOr, tvAnd, tvOr, tvNot, eNeg, eIsi, isTy_d, isQ_tup, isQ_bool, isQ_int, isI_bool, isI_int, isI_tup, isB_bool, isB_int, ixQ0, ixQ1, truO_b, fzs_nil, fzs_d, gInt_eq, gAdd_int, gAbs_eq, fAdd_eq, fSub_eq, fLt_eq, fLe_eq, fGt_eq, fGe_eq, ix0, ix1, ix2, ix3, ix4, ix5, ofO_some, Option.map_some, Option.bind_some, List.length_cons, List.length_nil, List.map_cons, List.map_nil, List.replicate_succ, List.replicate_zero, List.cons_append, List.nil_append, List.getElem?_cons_zero, List.getElem?_cons_succ, List.set_cons_zero, List.set_cons_succ, List.take_length, Int.reduceEq, Int.reduceLT, Int.reduceLE, Nat.reduceSub, Nat.reduceAdd, Nat.reduceLeDiff, Nat.reduceLT, Nat.zero_add, Nat.add_zero, Nat.sub_self, if_true, if_false, reduceIte, Bool.false_eq_true, fitB, decide_true, decide_false, Bool.not_true, Bool.not_false, gSetL_eq, okO_ok, ixS2 e, setS2 e, ixS0 e1, ixS1 e1, ixS2 e1, ixS3 e1, gIn01, m1, m2, q1, tl2]
    | true =>
      by_cases h1 : x = 0 ∨ x = -1
      · have hb : (decide (x = 0) || decide (x = -1)) = true := by
          rcases h1 with z | z <;> simp [z]
        simp only [mkF, enter, retF, trunc, sSeq, So.then_nx, So.then_rt, sSet, sRet, sRetN, sIf, sExpr, sNil, sPar, sAsg, ofG, gN, gsCons, gsNil, gTupT_tup, gTupT_Q, Out.then_ok, Out.then_ex, Out.bind_ok, Out.bind_ex, eVar, eD_eq, eOp, eCall, eBlt, aCons, aNil, eTup, eIf, eT, eNot, eAnd, eOr, tvAnd, tvOr, tvNot, eNeg, eIsi, isTy_d, isQ_tup, isQ_bool, isQ_int, isI_bool, isI_int, isI_tup, isB_bool, isB_int, ixQ0, ixQ1, truO_b, fzs_nil, fzs_d, gInt_eq, gAdd_int, gAbs_eq, fAdd_eq, fSub_eq, fLt_eq, fLe_eq, fGt_eq, fGe_eq, ix0, ix1, ix2, ix3, ix4, ix5, ofO_some, Option.map_some, Option.bind_some, List.length_cons, List.length_nil, List.map_cons, List.map_nil, List.replicate_succ, List.replicate_zero, List.cons_append, List.nil_append, List.getElem?_cons_zero, List.getElem?_cons_succ, List.set_cons_zero, List.set_cons_succ, List.take_length, Int.reduceEq, Int.reduceLT, Int.reduceLE, Nat.reduceSub, Nat.reduceAdd, Nat.reduceLeDiff, Nat.reduceLT, Nat.zero_add, Nat.add_zero, Nat.sub_self, if_true, if_false, reduceIte, Bool.false_eq_true, fitB, decide_true, decide_false, Bool.not_true, Bool.not_false, gSetL_eq, okO_ok, ixS2 e, setS2 e, ixS0 e1, ixS1 e1, ixS2 e1, ixS3 e1, gIn01, hb, m1, m2, q1, tl2]
      · have ha : ¬ x = 0 := fun z => h1 (.inl z)
        have hb : ¬ x = -1 := fun z => h1 (.inr z)
        have h3 : (60 : Int) < (k : Int) + 1 := by
          rcases Int.lt_or_le 60 ((k : Int) + 1) with z | z
          · exact z
          · exact absurd ⟨rfl, ha, hb, by omega⟩ hc
        simp only [mkF, enter, retF, trunc, sSeq, So.then_nx, So.then_rt, sSet, sRet, sRetN, sIf, sExpr, sNil, sPar, sAsg, ofG, gN, gsCons, gsNil, gTupT_tup, gTupT_Q, Out.then_ok, Out.then_ex, Out.bind_ok, Out.bind_ex, eVar, eD_eq, eOp, eCall, eBlt, aCons, aNil, eTup, eIf, eT, eNot, eAnd, eOr, tvAnd, tvOr, tvNot, eNeg, eIsi, isTy_d, isQ_tup, isQ_bool, isQ_int, isI_bool, isI_int, isI_tup, isB_bool, isB_int, ixQ0, ixQ1, truO_b, fzs_nil, fzs_d, gInt_eq, gAdd_int, gAbs_eq, fAdd_eq, fSub_eq, fLt_eq, fLe_eq, fGt_eq, fGe_eq, ix0, ix1, ix2, ix3, ix4, ix5, ofO_some, Option.map_some, Option.bind_some, List.length_cons, List.length_nil, List.map_cons, List.map_nil, List.replicate_succ, List.replicate_zero, List.cons_append, List.nil_append, List.getElem?_cons_zero, List.getElem?_cons_succ, List.set_cons_zero, List.set_cons_succ, List.take_length, Int.reduceEq, Int.reduceLT, Int.reduceLE, Nat.reduceSub, Nat.reduceAdd, Nat.reduceLeDiff, Nat.reduceLT, Nat.zero_add, Nat.add_zero, Nat.sub_self, if_true, if_false, reduceIte, Bool.false_eq_true, fitB, decide_true, decide_false, Bool.not_true, Bool.not_false, gSetL_eq, okO_ok, ixS2 e, setS2 e, ixS0 e1, ixS1 e1, ixS2 e1, ixS3 e1, gIn01, ha, hb, h3, Bool.or_self, m1, m2, q1, tl2]
theorem w_lowest (A B P : Option Vl) (h : Hh) : ∀ (s x y : Nat), x + y ≤ s → ∃ x' y' : Nat, x' + y' = Nat.gcd x y ∧
    sWhile (tvAnd (eT (eOp (gInt fGt) (eVar 2) (eD (.int 0)))) (eT (eOp (gInt fGt) (eVar 3) (eD (.int 0))))) (sIf (eT (eOp (gInt fGe) (eVar 2) (eVar 3))) (sSet 2 (eOp (gInt fMod) (eVar 2) (eVar 3))) (sSet 3 (eOp (gInt fMod) (eVar 3) (eVar 2)))) [A, B, some (.d (.int (x : Int))), some (.d (.int (y : Int))), P] h
      = .nx [A, B, some (.d (.int (x' : Int))), some (.d (.int (y' : Int))), P] h := by
  intro s
  induction s with
  | zero =>
    intro x y hs
    have hx : x = 0 := by omega
    have hy : y = 0 := by omega
    subst hx hy
    refine ⟨0, 0, rfl, ?_⟩
    rw [sWhile_eq]
    have z0 : ¬ (0 : Int) < ((0 : Nat) : Int) := by decide
    simp only [mkF, enter, retF, trunc, sSeq, So.then_nx, So.then_rt, sSet, sRet, sRetN, sIf, sExpr, sNil, sPar, sAsg, ofG, gN, gsCons, gsNil, gTupT_tup, gTupT_Q, Out.then_ok, Out.then_ex, Out.bind_ok, Out.bind_ex, eVar, eD_eq, eOp, eCall, eBlt, aCons, aNil, eTup, eIf, eT, eNot, eAnd, eOr, tvAnd, tvOr, tvNot, eNeg, eIsi, isTy_d, isQ_tup, isQ_bool, isQ_int, isI_bool, isI_int, isI_tup, isB_bool, isB_int, ixQ0, ixQ1, truO_b, fzs_nil, fzs_d, gInt_eq, gAdd_int, gAbs_eq, fAdd_eq, fSub_eq, fLt_eq, fLe_eq, fGt_eq, fGe_eq, ix0, ix1, ix2, ix3, ix4, ix5, ofO_some, Option.map_some, Option.bind_some, List.length_cons, List.length_nil, List.map_cons, List.map_nil, List.replicate_succ, List.replicate_zero, List.cons_append, List.nil_append, List.getElem?_cons_zero, List.getElem?_cons_succ, List.set_cons_zero, List.set_cons_succ, List.take_length, Int.reduceEq, Int.reduceLT, Int.reduceLE, Nat.reduceSub, Nat.reduceAdd, Nat.reduceLeDiff, Nat.reduceLT, Nat.zero_add, Nat.add_zero, Nat.sub_self, if_true, if_false, reduceIte, Bool.false_eq_true, fitB, decide_true, decide_false, Bool.not_true, Bool.not_false, z0]
  | succ s ih =>
    intro x y hs
    rw [sWhile_eq]
    by_cases hx : x = 0
    · subst hx
      refine ⟨0, y, by simp, ?_⟩
      have z0 : ¬ (0 : Int) < ((0 : Nat) : Int) := by decide
      simp only [mkF, enter, retF, trunc, sSeq, So.then_nx, So.then_rt, sSet, sRet, sRetN, sIf, sExpr, sNil, sPar, sAsg, ofG, gN, gsCons, gsNil, gTupT_tup, gTupT_Q, Out.then_ok, Out.then_ex, Out.bind_ok, Out.bind_ex, eVar, eD_eq, eOp, eCall, eBlt, aCons, aNil, eTup, eIf, eT, eNot, eAnd, eOr, tvAnd, tvOr, tvNot, eNeg, eIsi, isTy_d, isQ_tup, isQ_bool, isQ_int, isI_bool, isI_int, isI_tup, isB_bool, isB_int, ixQ0, ixQ1, truO_b, fzs_nil, fzs_d, gInt_eq, gAdd_int, gAbs_eq, fAdd_eq, fSub_eq, fLt_eq, fLe_eq, fGt_eq, fGe_eq, ix0, ix1, ix2, ix3, ix4, ix5, ofO_some, Option.map_some, Option.bind_some, List.length_cons, List.length_nil, List.map_cons, List.map_nil, List.replicate_succ, List.replicate_zero, List.cons_append, List.nil_append, List.getElem?_cons_zero, List.getElem?_cons_succ, List.set_cons_zero, List.set_cons_succ, List.take_length, Int.reduceEq, Int.reduceLT, Int.reduceLE, Nat.reduceSub, Nat.reduceAdd, Nat.reduceLeDiff, Nat.reduceLT, Nat.zero_add, Nat.add_zero, Nat.sub_self, if_true, if_false, reduceIte, Bool.false_eq_true, fitB, decide_true, decide_false, Bool.not_true, Bool.not_false, z0]
    · have gx : (0 : Int) < (x : Int) := by omega
      by_cases hy : y = 0
      · subst hy
        refine ⟨x, 0, by simp, ?_⟩
        have z0 : ¬ (0 : Int) < ((0 : Nat) : Int) := by decide
        simp only [mkF, enter, retF, trunc, sSeq, So.then_nx, So.then_rt, sSet, sRet, sRetN, sIf, sExpr, sNil, sPar, sAsg, ofG, gN, gsCons, gsNil, gTupT_tup, gTupT_Q, Out.then_ok, Out.then_ex, Out.bind_ok, Out.bind_ex, eVar, eD_eq, eOp, eCall, eBlt, aCons, aNil, eTup, eIf, eT, eNot, eAnd, eOr, tvAnd, tvOr, tvNot, eNeg, eIsi, isTy_d, isQ_tup, isQ_bool, isQ_int, isI_bool, isI_int, isI_tup, isB_bool, isB_int, ixQ0, ixQ1, truO_b, fzs_nil, fzs_d, gInt_eq, gAdd_int, gAbs_eq, fAdd_eq, fSub_eq, fLt_eq, fLe_eq, fGt_eq, fGe_eq, ix0, ix1, ix2, ix3, ix4, ix5, ofO_some, Option.map_some, Option.bind_some, List.length_cons, List.length_nil, List.map_cons, List.map_nil, List.replicate_succ, List.replicate_zero, List.cons_append, List.nil_append, List.getElem?_cons_zero, List.getElem?_cons_succ, List.set_cons_zero, List.set_cons_succ, List.take_length, Int.reduceEq, Int.reduceLT, Int.reduceLE, Nat.reduceSub, Nat.reduceAdd, Nat.reduceLeDiff, Nat.reduceLT, Nat.zero_add, Nat.add_zero, Nat.sub_self, if_true, if_false, reduceIte, Bool.false_eq_true, fitB, decide_true, decide_false, Bool.not_true, Bool.not_false, gx, z0]
      · have gy : (0 : Int) < (y : Int) := by omega
        have m1 : fMod (x : Int) (y : Int) = some (.int ((x % y : Nat) : Int)) := by rw [fMod_eq (by omega), fmod_nat]
        have m2 : fMod (y : Int) (x : Int) = some (.int ((y % x : Nat) : Int)) := by rw [fMod_eq (by omega), fmod_nat]
        have l1 := Nat.mod_lt x (show 0 < y by omega)
        have l2 := Nat.mod_lt y (show 0 < x by omega)
        by_cases hg : (y : Int) ≤ (x : Int)
        · obtain ⟨x', y', e1, e2⟩ := ih (x % y) y (by omega)
          refine ⟨x', y', by rw [e1, Nat.gcd_comm x y, Nat.gcd_rec y x], ?_⟩
          simp only [mkF, enter, retF, trunc, sSeq, So.then_nx, So.then_rt, sSet, sRet, sRetN, sIf, sExpr, sNil, sPar, sAsg, ofG, gN, gsCons, gsNil, gTupT_tup, gTupT_Q, Out.then_ok, Out.then_ex, Out.bind_ok, Out.bind_ex, eVar, eD_eq, eOp, eCall, eBlt, aCons, aNil, eTup, eIf, eT, eNot, eAnd, eOr, tvAnd, tvOr, tvNot, eNeg, eIsi, isTy_d, isQ_tup, isQ_bool, isQ_int, isI_bool, isI_int, isI_tup, isB_bool, isB_int, ixQ0, ixQ1, truO_b, fzs_nil, fzs_d, gInt_eq, gAdd_int, gAbs_eq, fAdd_eq, fSub_eq, fLt_eq, fLe_eq, fGt_eq, fGe_eq, ix0, ix1, ix2, ix3, ix4, ix5, ofO_some, Option.map_some, Option.bind_some, List.length_cons, List.length_nil, List.map_cons, List.map_nil, List.replicate_succ, List.replicate_zero, List.cons_append, List.nil_append, List.getElem?_cons_zero, List.getElem?_cons_succ, List.set_cons_zero, List.set_cons_succ, List.take_length, Int.reduceEq, Int.reduceLT, Int.reduceLE, Nat.reduceSub, Nat.reduceAdd, Nat.reduceLeDiff, Nat.reduceLT, Nat.zero_add, Nat.add_zero, Nat.sub_self, if_true, if_false, reduceIte, Bool.false_eq_true, fitB, decide_true, decide_false, Bool.not_true, Bool.not_false, gx, gy, hg, m1]
          exact e2
        · obtain ⟨x', y', e1, e2⟩ := ih x (y % x) (by omega)
          refine ⟨x', y', by rw [e1, Nat.gcd_rec x y, Nat.gcd_comm], ?_⟩
          simp only [mkF, enter, retF, trunc, sSeq, So.then_nx, So.then_rt, sSet, sRet, sRetN, sIf, sExpr, sNil, sPar, sAsg, ofG, gN, gsCons, gsNil, gTupT_tup, gTupT_Q, Out.then_ok, Out.then_ex, Out.bind_ok, Out.bind_ex, eVar, eD_eq, eOp, eCall, eBlt, aCons, aNil, eTup, eIf, eT, eNot, eAnd, eOr, tvAnd, tvOr, tvNot, eNeg, eIsi, isTy_d, isQ_tup, isQ_bool, isQ_int, isI_bool, isI_int, isI_tup, isB_bool, isB_int, ixQ0, ixQ1, truO_b, fzs_nil, fzs_d, gInt_eq, gAdd_int, gAbs_eq, fAdd_eq, fSub_eq, fLt_eq, fLe_eq, fGt_eq, fGe_eq, ix0, ix1, ix2, ix3, ix4, ix5, ofO_some, Option.map_some, Option.bind_some, List.length_cons, List.length_nil, List.map_cons, List.map_nil, List.replicate_succ, List.replicate_zero, List.cons_append, List.nil_append, List.getElem?_cons_zero, List.getElem?_cons_succ, List.set_cons_zero, List.set_cons_succ, List.take_length, Int.reduceEq, Int.reduceLT, Int.reduceLE, Nat.reduceSub, Nat.reduceAdd, Nat.reduceLeDiff, Nat.reduceLT, Nat.zero_add, Nat.add_zero, Nat.sub_self, if_true, if_false, reduceIte, Bool.false_eq_true, fitB, decide_true, decide_false, Bool.not_true, Bool.not_false, gx, gy, hg, m2]
          exact e2
theorem sp_lowest {x y : Int} (hy : y ≠ 0) {n : Nat} (b : Bd n y) (hn : n ≤ 9000) (h : Hh) : m__law_lowest [.d (.int x), .d (.int y)] h = .ok (.d (Q (Rat.divInt x y))) h := by
  have hn0 : 0 < n := Nat.pos_of_ne_zero fun z => by
    subst z
    unfold Bd at b
    omega
  have hg : Int.gcd x y ≠ 0 := fun z => hy (Int.gcd_eq_zero_iff.mp z).2
  have hl : Int.gcd x y ≤ y.natAbs := Nat.gcd_le_right _ (by omega)
  obtain ⟨p1, p2⟩ := divInt_parts (x := x) hy
  obtain ⟨x', y', e1, e2⟩ := w_lowest (some (.d (.int x))) (some (.d (.int y))) none h _ x.natAbs y.natAbs (Nat.le_refl _)
  have e3 : (x' : Int) + (y' : Int) = ((Int.gcd x y : Nat) : Int) := by
    have : x' + y' = Int.gcd x y := e1
    omega
  unfold m__law_lowest b__law_lowest
  by_cases hs : y < 0
  · rw [if_pos hs] at p1 p2
    have h0 : 0 - ((Int.gcd x y : Nat) : Int) ≠ 0 := by omega
    have hb : Bd n (0 - ((Int.gcd x y : Nat) : Int)) := b.le (by omega)
    simp only [mkF, enter, retF, trunc, sSeq, So.then_nx, So.then_rt, sSet, sRet, sRetN, sIf, sExpr, sNil, sPar, sAsg, ofG, gN, gsCons, gsNil, gTupT_tup, gTupT_Q, Out.then_ok, Out.then_ex, Out.bind_ok, Out.bind_ex, eVar, eD_eq, eOp, eCall, eBlt, aCons, aNil, eTup, eIf, eT, eNot, eAnd, eOr, tvAnd, tvOr, tvNot, eNeg, eIsi, isTy_d, isQ_tup, isQ_bool, isQ_int, isI_bool, isI_int, isI_tup, isB_bool, isB_int, ixQ0, ixQ1, truO_b, fzs_nil, fzs_d, gInt_eq, gAdd_int, gAbs_eq, fAdd_eq, fSub_eq, fLt_eq, fLe_eq, fGt_eq, fGe_eq, ix0, ix1, ix2, ix3, ix4, ix5, ofO_some, Option.map_some, Option.bind_some, List.length_cons, List.length_nil, List.map_cons, List.map_nil, List.replicate_succ, List.replicate_zero, List.cons_append, List.nil_append, List.getElem?_cons_zero, List.getElem?_cons_succ, List.set_cons_zero, List.set_cons_succ, List.take_length, Int.reduceEq, Int.reduceLT, Int.reduceLE, Nat.reduceSub, Nat.reduceAdd, Nat.reduceLeDiff, Nat.reduceLT, Nat.zero_add, Nat.add_zero, Nat.sub_self, if_true, if_false, reduceIte, Bool.false_eq_true, fitB, decide_true, decide_false, Bool.not_true, Bool.not_false, abs_eq, e2, e3]
    simp only [mkF, enter, retF, trunc, sSeq, So.then_nx, So.then_rt, sSet, sRet, sRetN, sIf, sExpr, sNil, sPar, sAsg, ofG, gN, gsCons, gsNil, gTupT_tup, gTupT_Q, Out.then_ok, Out.then_ex, Out.bind_ok, Out.bind_ex, eVar, eD_eq, eOp, eCall, eBlt, aCons, aNil, eTup, eIf, eT, eNot, eAnd, eOr, tvAnd, tvOr, tvNot, eNeg, eIsi, isTy_d, isQ_tup, isQ_bool, isQ_int, isI_bool, isI_int, isI_tup, isB_bool, isB_int, ixQ0, ixQ1, truO_b, fzs_nil, fzs_d, gInt_eq, gAdd_int, gAbs_eq, fAdd_eq, fSub_eq, fLt_eq, fLe_eq, fGt_eq, fGe_eq, ix0, ix1, ix2, ix3, ix4, ix5, ofO_some, Option.map_some, Option.bind_some, List.length_cons, List.length_nil, List.map_cons, List.map_nil, List.replicate_succ, List.replicate_zero, List.cons_append, List.nil_append, List.getElem?_cons_zero, List.getElem?_cons_succ, List.set_cons_zero, List.set_cons_succ, List.take_length, Int.reduceEq, Int.reduceLT, Int.reduceLE, Nat.reduceSub, Nat.reduceAdd, Nat.reduceLeDiff, Nat.reduceLT, Nat.zero_add, Nat.add_zero, Nat.sub_self, if_true, if_false, reduceIte, Bool.false_eq_true, fitB, decide_true, decide_false, Bool.not_true, Bool.not_false, hs, fDiv_eq h0 (hb.divOk hn0 hn), p1, p2]
    rfl
  · rw [if_neg hs] at p1 p2
    have h0 : ((Int.gcd x y : Nat) : Int) ≠ 0 := by omega
    have hb : Bd n ((Int.gcd x y : Nat) : Int) := b.le (by omega)
    simp only [mkF, enter, retF, trunc, sSeq, So.then_nx, So.then_rt, sSet, sRet, sRetN, sIf, sExpr, sNil, sPar, sAsg, ofG, gN, gsCons, gsNil, gTupT_tup, gTupT_Q, Out.then_ok, Out.then_ex, Out.bind_ok, Out.bind_ex, eVar, eD_eq, eOp, eCall, eBlt, aCons, aNil, eTup, eIf, eT, eNot, eAnd, eOr, tvAnd, tvOr, tvNot, eNeg, eIsi, isTy_d, isQ_tup, isQ_bool, isQ_int, isI_bool, isI_int, isI_tup, isB_bool, isB_int, ixQ0, ixQ1, truO_b, fzs_nil, fzs_d, gInt_eq, gAdd_int, gAbs_eq, fAdd_eq, fSub_eq, fLt_eq, fLe_eq, fGt_eq, fGe_eq, ix0, ix1, ix2, ix3, ix4, ix5, ofO_some, Option.map_some, Option.bind_some, List.length_cons, List.length_nil, List.map_cons, List.map_nil, List.replicate_succ, List.replicate_zero, List.cons_append, List.nil_append, List.getElem?_cons_zero, List.getElem?_cons_succ, List.set_cons_zero, List.set_cons_succ, List.take_length, Int.reduceEq, Int.reduceLT, Int.reduceLE, Nat.reduceSub, Nat.reduceAdd, Nat.reduceLeDiff, Nat.reduceLT, Nat.zero_add, Nat.add_zero, Nat.sub_self, if_true, if_false, reduceIte, Bool.false_eq_true, fitB, decide_true, decide_false, Bool.not_true, Bool.not_false, abs_eq, e2, e3]
    simp only [mkF, enter, retF, trunc, sSeq, So.then_nx, So.then_rt, sSet, sRet, sRetN, sIf, sExpr, sNil, sPar, sAsg, ofG, gN, gsCons, gsNil, gTupT_tup, gTupT_Q, Out.then_ok, Out.then_ex, Out.bind_ok, Out.bind_ex, eVar, eD_eq, eOp, eCall, eBlt, aCons, aNil, eTup, eIf, eT, eNot, eAnd, eOr, tvAnd, tvOr, tvNot, eNeg, eIsi, isTy_d, isQ_tup, isQ_bool, isQ_int, isI_bool, isI_int, isI_tup, isB_bool, isB_int, ixQ0, ixQ1, truO_b, fzs_nil, fzs_d, gInt_eq, gAdd_int, gAbs_eq, fAdd_eq, fSub_eq, fLt_eq, fLe_eq, fGt_eq, fGe_eq, ix0, ix1, ix2, ix3, ix4, ix5, ofO_some, Option.map_some, Option.bind_some, List.length_cons, List.length_nil, List.map_cons, List.map_nil, List.replicate_succ, List.replicate_zero, List.cons_append, List.nil_append, List.getElem?_cons_zero, List.getElem?_cons_succ, List.set_cons_zero, List.set_cons_succ, List.take_length, Int.reduceEq, Int.reduceLT, Int.reduceLE, Nat.reduceSub, Nat.reduceAdd, Nat.reduceLeDiff, Nat.reduceLT, Nat.zero_add, Nat.add_zero, Nat.sub_self, if_true, if_false, reduceIte, Bool.false_eq_true, fitB, decide_true, decide_false, Bool.not_true, Bool.not_false, hs, fDiv_eq h0 (hb.divOk hn0 hn), p1, p2]
    rfl
section
variable {K n : Nat} {xs : List Da} {h : Hh} {Q : Vl → Hh → Prop} {E : XP}
theorem Strm.mono {K J : Nat} {xs : List Da} (s : Strm K xs) (h : K ≤ J) : Strm J xs := let ⟨c, x, k, m, e, hk⟩ := s; ⟨c, x, k, m, e, by omega⟩
theorem wp_take (st : Strm K xs) (hn : n < h.length) {many : Int} (hK : K < 2 ^ 30) (hm : 0 < many) (hm2 : many < 2 ^ 62)
    (q : ∀ (v : Int) (xs' : List Da), 0 ≤ v → v < many → Bd 62 v → Strm (K + 1) xs' → Q (.d (.int v)) (h.set n (some (.lst xs')))) : Wp (m__law_take [.r n, .d (.int many)] (h.set n (some (.lst xs)))) Q E := by
  obtain ⟨v, S', e, v0, v1, s1⟩ := sp_take st hK (n := n) (h := h.set n (some (.lst xs))) (by rw [get_set hn]) hm hm2
  rw [List.set_set] at e
  exact wp_eq e (q v S' v0 v1 (bd_lit (2 ^ 62 - 1) (by omega) (by omega) (by decide)) s1)
theorem wp_lowest {x y : Int} (hy : y ≠ 0) {n : Nat} (b : Bd n y) (hn : n ≤ 9000) (q : Q (.d (Rk.Q (Rat.divInt x y))) h) : Wp (m__law_lowest [.d (.int x), .d (.int y)] h) Q E := wp_eq (sp_lowest hy b hn h) q
end
local macro_rules | `(tactic| walk_at "wc") => `(tactic| (apply wp_take; assumption; assumption; exact (by walk_at "sm"); exact (by walk_at "sm"); exact (by walk_at "sm"); intro _ _ _ _ _ _))
local macro_rules | `(tactic| walk_at "wc") => `(tactic| (apply wp_takeX; assumption; assumption; exact (by walk_at "sm"); exact (by walk_at "sm"); exact (by walk_at "sm"); intro _ _ _ _ _ _))
local macro_rules | `(tactic| walk_at "wc") => `(tactic| (apply wp_lowest; exact (by walk_at "sm"); exact (by walk_at "bd"); exact (by walk_at "sm")))
theorem wp_number_by {K n : Nat} {xs : List Da} {h : Hh} {Q : Vl → Hh → Prop} {E : XP} (st : Strm K xs) (hn : n < h.length) (hK : K + 5 < 2 ^ 30)
    (q : ∀ (r : Rat) (xs' : List Da), BQ 340 r → Strm (K + 5) xs' → Q (.d (Rk.Q r)) (h.set n (some (.lst xs')))) : Wp (m__law_number_by [.r n] (h.set n (some (.lst xs)))) Q E := by
  refine en__law_number_by ?_
  unfold b__law_number_by
  walk_at "w"
  · rw [Q_k1]
    exact q _ _ (by walk_at "bqm") (Strm.mono ‹_› (by omega))
  · exact q _ _ (by walk_at "bqm") (Strm.mono ‹_› (by omega))
  · refine wo_menuI 10 1000 (by assumption) (by assumption) (by walk_at "ai") fun w wa wb => ?_
    have bw := Bd.rg wa wb
    walk_at "w"
    exact q _ _ (by walk_at "bqm") (Strm.mono ‹_› (by omega))
  · exact q _ _ (by walk_at "bqm") (Strm.mono ‹_› (by omega))
  · rw [show (10 : Int) ^ 30 = 1000000000000000000000000000000 by decide, show (10 : Int) ^ 40 = 10000000000000000000000000000000000000000 by decide]
    refine wo_menuI (-100000000000000000000000000000000000000000) 100000000000000000000000000000000000000000 (by assumption) (by assumption) (by walk_at "ai") fun w wa wb => ?_
    have bw : Bd 140 w := Bd.of 100000000000000000000000000000000000000000 (by omega) (by decide)
    walk_at "w"
    rw [show (10 : Int) ^ 25 = 10000000000000000000000000 by decide]
    walk_at "w"
    exact q _ _ (by walk_at "bqm") (Strm.mono ‹_› (by omega))
local macro_rules | `(tactic| walk_at "wc") => `(tactic| (apply wp_number_by; assumption; assumption; exact (by walk_at "sm"); intro _ _ _ _))
def WayD (d : Da) : Prop := ∃ w : String, d = .str w ∧ (w = "near" ∨ w = "down" ∨ w = "up" ∨ w = "nought")
theorem wp_stream {h : Hh} {Q : Vl → Hh → Prop} {E : XP} (c : Int) (k : Nat) (hk : k < 2 ^ 32) (q : ∀ xs, Strm 0 xs → Q (.r h.length) ((h ++ [none]).set h.length (some (.lst xs)))) : Wp (m__law_stream [.d (.int c), .d (.int (k : Int))] h) Q E := by
  obtain ⟨v, e, _, _⟩ := sp_mixed c k hk (h := h)
  refine en__law_stream ?_
  unfold b__law_stream
  walk_at "w"
  refine wp_eq e ?_
  walk_at "w"
  refine retK_r (r := []) rfl rfl ?_
  have ee : ∀ o : Option Ob, (h ++ [none] : Hh).set h.length o = h ++ [o] := fun o => by simp
  have z := q [.bool (decide (10 ^ 18 ≤ c)), .int c, .int 0, .int v] ⟨_, c, 0, v, rfl, Nat.le_refl _⟩
  rw [ee] at z
  exact z

/-! texts of numbers, alone -/
theorem app_cps (a b : Str) : (a ++ b).cps.toList = a.cps.toList ++ b.cps.toList := Array.toList_append
def wtx (i : Int) : Str := (if i < 0 then ("-" : Str) else "") ++ Str.ofString (toString (i.natAbs : Int)) ++ ("" : Str)
def ntx (r : Rat) : Str := if r.den = 1 then wtx r.num else wtx r.num ++ ("/" : Str) ++ wtx (r.den : Int)
theorem wo_lenS {h : Hh} {Q : Vl → Hh → Prop} {x : Str} (l : x.length ≤ 16777216) (q : Q (.d (.int (x.length : Nat))) h) : Wo (gLen [.d (.str x)] h) Q := by
  refine wo_eq (v := .d (.int (x.length : Nat))) (h' := h) ?_ q
  unfold gLen
  dsimp only
  rw [if_pos (fitB_ok l)]

/-! texts taken apart (k14) -/
theorem str_ext {a b : Str} (h : a.cps.toList = b.cps.toList) : a = b := by
  obtain ⟨a⟩ := a
  obtain ⟨b⟩ := b
  exact congrArg Str.mk (Array.toList_inj.mp h)
theorem emp_cps : ("" : Str).cps.toList = [] := by decide +kernel
theorem str_emp : Str.empty = ("" : Str) := str_ext (by rw [emp_cps]; rfl)
theorem len_cps (x : Str) : x.cps.toList.length = x.length := by rw [Array.length_toList]; rfl
theorem part_no {x : Str} {c : Nat} (h : c ∉ x.cps.toList) : Txt.partition x ⟨#[c]⟩ = (x, ("" : Str), ("" : Str)) := by
  rcases PyProof.Rows.partition_whole x ⟨#[c]⟩ with ⟨e, _⟩ | ⟨i, _, hi, _⟩
  · rw [e, str_emp]
  · exact absurd ((PyProof.Rows.mem_iff_at x c).mpr ⟨i, hi⟩) h
theorem sub_cps (x : Str) (i j : Nat) : (PySem.Builtin.Str.strSub x i j).cps.toList = (x.cps.toList.take j).drop i := by
  unfold PySem.Builtin.Str.strSub
  simp [Array.toList_extract, List.extract_eq_drop_take, List.drop_take]
theorem part_at {a b : Str} {c : Nat} (h : c ∉ a.cps.toList) : Txt.partition (a ++ ⟨#[c]⟩ ++ b) ⟨#[c]⟩ = (a, ⟨#[c]⟩, b) := by
  have cp : (a ++ ⟨#[c]⟩ ++ b).cps.toList = a.cps.toList ++ c :: b.cps.toList := by
    rw [app_cps, app_cps, List.append_assoc]
    rfl
  have at0 : (a ++ ⟨#[c]⟩ ++ b).cps.toList[a.cps.toList.length]? = some c := by
    rw [cp, List.getElem?_append_right (Nat.le_refl _), Nat.sub_self]
    rfl
  rcases PyProof.Rows.partition_whole (a ++ ⟨#[c]⟩ ++ b) ⟨#[c]⟩ with ⟨_, hn⟩ | ⟨i, e, hi, hm⟩
  · exact absurd ((StrLaws.subAt_one _ c _).mpr at0) (hn _)
  · have ci := (StrLaws.subAt_one _ c i).mp hi
    have ei : i = a.cps.toList.length := by
      rcases Nat.lt_trichotomy i a.cps.toList.length with l | l | l
      · rw [cp, List.getElem?_append_left l] at ci
        exact absurd (List.mem_of_getElem? ci) h
      · exact l
      · exact absurd ((StrLaws.subAt_one _ c _).mpr at0) (hm _ l)
    rw [e]
    have e1 : PySem.Builtin.Str.strSub (a ++ ⟨#[c]⟩ ++ b) 0 i = a := str_ext (by
      rw [sub_cps, cp, ei, List.drop_zero, List.take_left' rfl])
    have e2 : PySem.Builtin.Str.strSub (a ++ ⟨#[c]⟩ ++ b) (i + (⟨#[c]⟩ : Str).length) (a ++ ⟨#[c]⟩ ++ b).length = b := str_ext (by
      rw [sub_cps, ← len_cps (a ++ ⟨#[c]⟩ ++ b), List.take_length, cp, ei]
      show List.drop (a.cps.toList.length + 1) _ = _
      rw [← List.drop_drop, List.drop_left' rfl]
      rfl)
    rw [e1, e2]
/-- texts in a row, put together -/
def jl (c : Nat) : List (List Nat) → List Nat
  | [] => []
  | [u] => u
  | u :: v :: r => u ++ c :: jl c (v :: r)
theorem cut_free {c : Nat} {u w R S : List Nat} (hu : c ∉ u) (hw : c ∉ w) (hR : R = [] ∨ ∃ t, R = c :: t) (hS : S = [] ∨ ∃ t, S = c :: t) (e : u ++ R = w ++ S) : u = w ∧ R = S := by
  have tw : ∀ {u R : List Nat}, c ∉ u → (R = [] ∨ ∃ t, R = c :: t) → (u ++ R).takeWhile (fun z => decide (z ≠ c)) = u := fun {u R} hu hR => by
    rw [List.takeWhile_append_of_pos (fun z hz => decide_eq_true (show z ≠ c from fun y => hu (by rw [← y]; exact hz)))]
    rcases hR with rfl | ⟨t, rfl⟩
    · simp
    · rw [List.takeWhile_cons_of_neg (by simp), List.append_nil]
  have e1 : u = w := by rw [← tw hu hR, e, tw hw hS]
  subst e1
  exact ⟨rfl, List.append_cancel_left e⟩
/-! figures -/
def dg (n : Nat) : Str := Str.ofString (toString (n : Int))
theorem dg_cps (n : Nat) : (dg n).cps.toList = (Nat.toDigits 10 n).map Char.toNat := PySem.W.KIN.signs_num n
theorem dg_digits (n : Nat) : PySem.NumText.AllDigits (dg n).cps.toList := by
  intro c hc
  rw [dg_cps] at hc
  obtain ⟨ch, hch, e⟩ := List.mem_map.mp hc
  rw [← e]
  exact PyProof.Rows.digit_range (Nat.isDigit_of_mem_toDigits (by decide) (by decide) hch)
theorem dg_ne (n : Nat) : (dg n).cps.toList ≠ [] := by
  rw [dg_cps]
  intro e
  have h := toDigits_len_ge 10 n
  rw [List.map_eq_nil_iff.mp e] at h
  exact absurd h (by decide)
theorem dg_read {n : Nat} (h : (dg n).length ≤ 640) : PySem.intText? (dg n) = some (n : Int) := by
  have e := PySem.intText_digits (dg_digits n) (dg_ne n) (Nat.le_trans h (by decide))
  rw [dg_cps, PySem.W.KIN.val_back] at e
  exact e
/-! numbers read (k14) -/
def FIG : Str := "0123456789"
theorem app_emp (x : Str) : x ++ ("" : Str) = x := str_ext (by rw [app_cps, emp_cps, List.append_nil])
theorem emp_app (x : Str) : ("" : Str) ++ x = x := str_ext (by rw [app_cps, emp_cps, List.nil_append])
theorem app_asc (a b c : Str) : a ++ b ++ c = a ++ (b ++ c) := str_ext (by rw [app_cps, app_cps, app_cps, app_cps, List.append_assoc])
theorem wtx_eq (i : Int) : wtx i = (if i < 0 then ("-" : Str) else "") ++ dg i.natAbs := app_emp _
theorem wtx_pos {i : Int} (h : ¬ i < 0) : wtx i = dg i.natAbs := by rw [wtx_eq, if_neg h, emp_app]
def bT (r : Rat) : Str := if r.den = 1 then dg r.num.natAbs else dg r.num.natAbs ++ ("/" : Str) ++ dg r.den
theorem ntx_eq (r : Rat) : ntx r = (if r.num < 0 then ("-" : Str) else "") ++ bT r := by
  unfold ntx bT
  have e : wtx (r.den : Int) = dg r.den := by rw [wtx_pos (by omega), Int.natAbs_natCast]
  split
  · exact wtx_eq _
  · rw [e, wtx_eq, app_asc, app_asc, app_asc]
theorem fig_in : ∀ c : Nat, 48 ≤ c → c ≤ 57 → c ∈ FIG.cps.toList := by
  intro c h1 h2
  have e : FIG.cps.toList = [48, 49, 50, 51, 52, 53, 54, 55, 56, 57] := by decide +kernel
  rw [e]
  simp only [List.mem_cons, List.not_mem_nil, or_false]
  omega
theorem dg_hd (n : Nat) : 0 < n → ∀ ch t, Nat.toDigits 10 n = ch :: t → ch ≠ '0' := by
  induction n using Nat.strongRecOn with
  | _ n ih =>
    intro h0 ch t e
    by_cases h : n < 10
    · rw [Nat.toDigits_of_lt_base h] at e
      cases e
      have all : ∀ d, d < 10 → 0 < d → Nat.digitChar d ≠ '0' := by decide
      exact all n h h0
    · have hm : n % 10 < 10 := Nat.mod_lt n (by decide)
      have t2 : Nat.toDigits 10 (n / 10) ++ Nat.toDigits 10 (n % 10) = Nat.toDigits 10 (10 * (n / 10) + n % 10) := Nat.toDigits_append_toDigits (by decide) (by omega) hm
      rw [Nat.div_add_mod] at t2
      rw [← t2] at e
      cases e3 : Nat.toDigits 10 (n / 10) with
      | nil =>
        have h := toDigits_len_ge 10 (n / 10)
        rw [e3] at h
        exact absurd h (by decide)
      | cons c2 t3 =>
        rw [e3] at e
        cases e
        exact ih (n / 10) (by omega) (by omega) _ _ e3
theorem dg_zero : dg 0 = "0" := by decide +kernel
theorem dg_first (n : Nat) : ∃ c t, (dg n).cps.toList = c :: t ∧ 48 ≤ c ∧ c ≤ 57 ∧ (dg n ≠ "0" → c ≠ 48) := by
  cases e : (dg n).cps.toList with
  | nil => exact absurd e (dg_ne n)
  | cons c t =>
    have d := dg_digits n c (by rw [e]; exact List.mem_cons_self ..)
    refine ⟨c, t, rfl, d.1, d.2, fun h z => ?_⟩
    by_cases n0 : n = 0
    · subst n0
      exact h dg_zero
    · rw [dg_cps] at e
      cases e2 : Nat.toDigits 10 n with
      | nil => rw [e2] at e; cases e
      | cons ch t2 =>
        rw [e2] at e
        have h0 := dg_hd n (by omega) ch t2 e2
        rw [List.map_cons] at e
        have e3 := (List.cons.inj e).1
        rw [z] at e3
        exact h0 (Char.ext (UInt32.toNat_inj.mp e3))
theorem dg_no {n c : Nat} (h : c < 48) : c ∉ (dg n).cps.toList := fun m => by
  have := dg_digits n c m
  omega
theorem cut_one {x : Str} {c : Nat} {t : List Nat} (e : x.cps.toList = c :: t) : cutS x none (some 1) = ⟨#[c]⟩ := by
  have l : x.length = t.length + 1 := by rw [← len_cps, e]; rfl
  have h1 : HT.sIx x.length x.length (some 1) = 1 := by unfold HT.sIx; simp; omega
  have h0 : HT.sIx x.length 0 none = 0 := rfl
  unfold cutS
  rw [h1, h0, e]
  rfl
theorem cut_rest {x : Str} {c : Nat} {t : List Nat} (e : x.cps.toList = c :: t) : cutS x (some 1) none = ⟨t.toArray⟩ := by
  have l : x.length = t.length + 1 := by rw [← len_cps, e]; rfl
  have h1 : HT.sIx x.length 0 (some 1) = 1 := by unfold HT.sIx; simp; omega
  have h0 : HT.sIx x.length x.length none = x.length := rfl
  unfold cutS
  rw [h1, h0, e, l]
  simp
section
variable {h : Hh} {Q : Vl → Hh → Prop} {E : XP} {n : Nat} {r : Rat}
theorem neg_cps : ("-" : Str).cps.toList = [45] := by decide +kernel
theorem one_ne {a b : Nat} (h : a ≠ b) : (⟨#[a]⟩ : Str) ≠ ⟨#[b]⟩ := fun e => h (by
  have e2 := congrArg (fun x : Str => x.cps.toList) e
  exact (List.cons.inj e2).1)
theorem neg_one : ("-" : Str) = ⟨#[45]⟩ := by decide +kernel
theorem sl_one : ("/" : Str) = ⟨#[47]⟩ := by decide +kernel
theorem bT_first (r : Rat) : ∃ c t, (bT r).cps.toList = c :: t ∧ 48 ≤ c ∧ c ≤ 57 := by
  obtain ⟨c, t, e, h1, h2, _⟩ := dg_first r.num.natAbs
  unfold bT
  split
  · exact ⟨c, t, e, h1, h2⟩
  · exact ⟨c, t ++ (("/" : Str).cps.toList ++ (dg r.den).cps.toList), by rw [app_asc, app_cps, app_cps, e]; rfl, h1, h2⟩
end

/-! numbers of at most 601 figures as texts (k03, k15) -/
theorem p601 : (10 : Nat) ^ 601 < 2 ^ 2000 := by
  have : (10 : Nat) ^ 601 < 2 ^ 2000 := by decide +kernel
  exact this
theorem wtx_lenB {i : Int} (h : i.natAbs < 10 ^ 601) : (wtx i).length ≤ 603 := by
  have e := PySem.int_text_length_le10 (a := (i.natAbs : Int)) (k := 601) (by decide) (by rw [Int.natAbs_natCast]; exact h)
  unfold wtx
  rw [Str.length_append, Str.length_append, PySem.ofString_length]
  have a : (Str.ofString "-").length = 1 := by decide
  have b : (Str.ofString "").length = 0 := by decide
  have c : (if i < 0 then ("-" : Str) else "").length ≤ 1 := by
    split
    · exact Nat.le_of_eq a
    · exact Nat.le_trans (Nat.le_of_eq b) (by decide)
  have b' : ("" : Str).length = 0 := b
  generalize (10 : Nat) ^ 601 = M at *
  omega
section
variable {h : Hh} {Q : Vl → Hh → Prop} {E : XP} {i : Int} {r : Rat}
theorem wp_whole_textB (hi : i.natAbs < 10 ^ 601) (q : Q (.d (.str (wtx i))) h) : Wp (m_whole_text [.d (.int i)] h) Q E := by
  refine en_whole_text ?_
  unfold b_whole_text
  have p : (10 : Nat) ^ 601 < 10 ^ 1000 := Nat.pow_lt_pow_right (by decide) (by decide)
  have p2 : (10 : Nat) ^ 601 < 2 ^ 2000 := p601
  have l1 : (Str.ofString (toString (i.natAbs : Int))).length ≤ 602 := by
    have e := PySem.int_text_length_le10 (a := (i.natAbs : Int)) (k := 601) (by decide) (by rw [Int.natAbs_natCast]; exact hi)
    rw [PySem.ofString_length]
    exact e
  have c0 : ¬ ((10 : Int) ^ 1000 ≤ (i.natAbs : Int)) := fun z => by
    have : (10 : Nat) ^ 1000 ≤ i.natAbs := by exact_mod_cast z
    exact absurd (Nat.lt_trans hi p) (Nat.not_lt.mpr this)
  have lg : (i.natAbs : Int).natAbs.log2 < 12900 := by
    rw [Int.natAbs_natCast]
    exact log2_of (Nat.lt_trans hi (Nat.lt_trans p2 (Nat.pow_lt_pow_right (by decide) (by decide)))) (by decide)
  walk_at "w"
  refine ws_while (fun k ρ h' => h' = h ∧ k = 0 ∧ ρ = [some (.d (.int i)), some (.d (.int (i.natAbs : Int))), some (.d (.str "")), none]) ⟨rfl, rfl, rfl⟩ ?_
  rintro k ρ1 h1 ⟨rfl, rfl, rfl⟩
  walk_at "w"
  · rename_i z
    refine wo_strI lg ?_
    have e : wtx i = (("-" : Str) ++ Str.ofString (toString (i.natAbs : Int))) ++ ("" : Str) := by unfold wtx; rw [if_pos z]
    rw [e] at q
    generalize Str.ofString (toString (i.natAbs : Int)) = x at l1 q ⊢
    have a : (Str.ofString "-").length = 1 := by decide
    have b : (Str.ofString "").length = 0 := by decide
    have a' : ("-" : Str).length = 1 := a
    have b' : ("" : Str).length = 0 := b
    walk_at "w"
    refine wo_addS (by omega) ?_
    walk_at "w"
    refine wo_addS (by rw [Str.length_append]; omega) ?_
    walk_at "w"
    exact q
  · rename_i z
    refine wo_strI lg ?_
    have e : wtx i = (("" : Str) ++ Str.ofString (toString (i.natAbs : Int))) ++ ("" : Str) := by unfold wtx; rw [if_neg z]
    rw [e] at q
    generalize Str.ofString (toString (i.natAbs : Int)) = x at l1 q ⊢
    have b : (Str.ofString "").length = 0 := by decide
    have b' : ("" : Str).length = 0 := b
    walk_at "w"
    refine wo_addS (by omega) ?_
    walk_at "w"
    refine wo_addS (by rw [Str.length_append]; omega) ?_
    walk_at "w"
    exact q
theorem wp_number_textB (s : r.num.natAbs < 10 ^ 601 ∧ r.den < 10 ^ 601) (q : Q (.d (.str (ntx r))) h) : Wp (m_number_text [.d (Rk.Q r)] h) Q E := by
  have h1 := wtx_lenB s.1
  have h2 := wtx_lenB (i := (r.den : Int)) (by rw [Int.natAbs_natCast]; exact s.2)
  have a : (Str.ofString "/").length = 1 := by decide
  have a' : ("/" : Str).length = 1 := a
  rw [show Rk.Q r = .tuple [.int r.num, .int (r.den : Int)] from rfl]
  refine en_number_text ?_
  unfold b_number_text
  walk_at "w"
  · rename_i z
    refine wp_whole_textB s.1 ?_
    walk_at "w"
    unfold ntx at q
    rw [if_pos (by omega)] at q
    exact q
  · rename_i z
    refine wp_whole_textB s.1 ?_
    walk_at "w"
    refine wo_addS (by omega) ?_
    walk_at "w"
    refine wp_whole_textB (i := (r.den : Int)) (by rw [Int.natAbs_natCast]; exact s.2) ?_
    walk_at "w"
    refine wo_addS (by rw [Str.length_append]; omega) ?_
    walk_at "w"
    unfold ntx at q
    rw [if_neg (by omega)] at q
    exact q
theorem wp_isWz (q : Q (.d (.bool true)) h) : Wp (m_is_whole [.d (.int i)] h) Q E := by
  refine en_is_whole ?_
  unfold b_is_whole
  walk_at "w"
  exact q
theorem wp_is_frP {i j : Int} (q : Q (.d (.bool (decide (0 < j) && decide (Int.gcd i j = 1)))) h) : Wp (m_is_fraction [.d (.tuple [.int i, .int j])] h) Q E := by
  refine en_is_fraction ?_
  unfold b_is_fraction
  walk_at "w"
  refine wp_isWz ?_
  walk_at "w"
  refine wp_isWz ?_
  walk_at "w"
  · rename_i z
    try (refine wp_shared ?_; walk_at "w")
    rw [decide_eq_true z, Bool.true_and] at q
    rw [show decide (((Int.gcd i j : Nat) : Int) = 1) = decide (Int.gcd i j = 1) by simp only [decide_eq_decide]; omega]
    exact q
  · rename_i z
    rw [decide_eq_false z, Bool.false_and] at q
    exact q
end

/-! texts of whole numbers, read (k03, k15) -/
def canB (x : Str) : Bool := x.cps.toList.all (fun c => decide (c ∈ FIG.cps.toList)) && (match x.cps.toList with
  | [] => false
  | c :: t => decide (c ≠ 48) || t.isEmpty)
def wrt (x : Str) : Option Nat := if canB x then some (PySem.NumText.digitsVal x.cps.toList) else none
theorem fig_out {c : Nat} (h : c ∈ FIG.cps.toList) : 48 ≤ c ∧ c ≤ 57 := by
  have all : ∀ c ∈ FIG.cps.toList, 48 ≤ c ∧ c ≤ 57 := by decide +kernel
  exact all c h
theorem zero_cps : ("0" : Str).cps.toList = [48] := by decide +kernel
theorem canB_dg (n : Nat) : canB (dg n) = true := by
  obtain ⟨c, t, ec, c1, c2, c3⟩ := dg_first n
  unfold canB
  rw [Bool.and_eq_true]
  refine ⟨?_, ?_⟩
  · rw [List.all_eq_true]
    intro d hd
    have := dg_digits n d hd
    exact decide_eq_true (fig_in d this.1 this.2)
  · rw [ec]
    dsimp only
    by_cases z : dg n = "0"
    · rw [z, zero_cps] at ec
      cases ec
      rfl
    · rw [decide_eq_true (c3 z)]
      rfl
theorem wrt_dg (n : Nat) : wrt (dg n) = some n := by
  unfold wrt
  rw [if_pos (canB_dg n), dg_cps, PySem.W.KIN.val_back]
theorem wrt_all {x : Str} (h : canB x = true) : PySem.NumText.AllDigits x.cps.toList := by
  unfold canB at h
  rw [Bool.and_eq_true, List.all_eq_true] at h
  intro c hc
  exact fig_out (of_decide_eq_true (h.1 c hc))
theorem canB_dg' {x : Str} (h : canB x = true) : x = dg (PySem.NumText.digitsVal x.cps.toList) := by
  have a := wrt_all h
  unfold canB at h
  rw [Bool.and_eq_true] at h
  refine str_ext ?_
  rw [dg_cps]
  cases e : x.cps.toList with
  | nil => rw [e] at h; exact absurd h.2 (by simp)
  | cons c t =>
    rw [e] at h a
    have h2 := h.2
    dsimp only at h2
    have hc := a c (List.mem_cons_self ..)
    rw [PySem.NumText.toDigits_digitsVal t.length (c :: t) rfl a (by
      rw [Bool.or_eq_true] at h2
      rcases h2 with z | z
      · have := of_decide_eq_true z
        exact .inr ⟨c, t, rfl, by omega⟩
      · cases t with
        | nil => exact .inl rfl
        | cons => cases z), List.map_map]
    have g : ∀ l : List Nat, PySem.NumText.AllDigits l → l.map (Char.toNat ∘ Char.ofNat) = l := fun l => by
      induction l with
      | nil => intro _; rfl
      | cons d l ih =>
        intro k
        have hd := k d (List.mem_cons_self ..)
        rw [List.map_cons, ih fun y hy => k y (List.mem_cons_of_mem _ hy)]
        have all : ∀ i, i < 10 → (Char.ofNat (48 + i)).toNat = 48 + i := by decide
        have := all (d - 48) (by omega)
        rw [show 48 + (d - 48) = d by omega] at this
        rw [Function.comp, this]
    exact (g _ a).symm
theorem wrt_some {x : Str} {n : Nat} (h : wrt x = some n) : x = dg n := by
  unfold wrt at h
  split at h
  · rename_i c
    cases h
    exact canB_dg' c
  · cases h
theorem dg_inj {a b : Nat} (h : dg a = dg b) : a = b := by
  have := wrt_dg a
  rw [h, wrt_dg] at this
  exact (Option.some.inj this).symm
theorem dg_small {n k : Nat} (hk : 1 ≤ k) (h : n < 10 ^ k) : (dg n).length ≤ k := by
  rw [← len_cps, dg_cps, List.length_map]
  exact PyProof.Rows.digits10_le hk h
theorem dg_big : ∀ (k n : Nat), (dg n).length ≤ k → n < 10 ^ k := by
  intro k n h
  rw [← len_cps, dg_cps, List.length_map] at h
  have g : ∀ (k n : Nat), (Nat.toDigits 10 n).length ≤ k → n < 10 ^ k := fun k => by
    induction k with
    | zero => intro n h; exact absurd (toDigits_len_ge 10 n) (by omega)
    | succ k ih =>
      intro n h
      by_cases l : n < 10
      · exact Nat.lt_of_lt_of_le l (by rw [Nat.pow_succ]; have := Nat.one_le_pow k 10 (by decide); omega)
      · have hm : n % 10 < 10 := Nat.mod_lt n (by decide)
        have t2 : Nat.toDigits 10 (n / 10) ++ Nat.toDigits 10 (n % 10) = Nat.toDigits 10 (10 * (n / 10) + n % 10) := Nat.toDigits_append_toDigits (by decide) (by omega) hm
        rw [Nat.div_add_mod] at t2
        rw [← t2, List.length_append, Nat.toDigits_of_lt_base hm] at h
        simp only [List.length_singleton] at h
        have := ih (n / 10) (by omega)
        rw [Nat.pow_succ]
        omega
  exact g k n h

/-! number_in of any text (k03, k15) -/
section
variable {h : Hh} {Q : Vl → Hh → Prop} {E : XP} {x : Str} {r : Rat} {n : Nat}
theorem figs_all (xs : List Nat) : boolsOf (xs.map fun c => .bool (decide (c ∈ FIG.cps.toList))) = some (xs.map fun c => decide (c ∈ FIG.cps.toList)) := by
  induction xs with
  | nil => rfl
  | cons c xs ih => rw [List.map_cons, boolsOf, ih]; rfl
theorem wp_written_any (l : x.length ≤ 16777000) (q : Q (.d (.bool (decide (x.length ≤ 601) && canB x))) h) : Wp (m_is_written [.d (.str x)] h) Q E := by
  have lc := len_cps x
  refine en_is_written ?_
  unfold b_is_written
  walk_at "w"
  refine wo_lenS (by omega) ?_
  walk_at "w"
  · rename_i z1 z2
    refine wp_lcR x.cps.toList (fun c => .str ⟨#[c]⟩) (fun c => .bool (decide (c ∈ FIG.cps.toList))) (by walk_at "wipe") ?_
    walk_at "w"
    refine ⟨rfl, by omega, rfl, fun c hc h' => ?_, ?_⟩
    · walk_at "w"
      refine ⟨rfl, ?_⟩
      walk_at "w"
      exact wo_inS ⟨rfl, rfl⟩
    walk_at "w"
    refine wo_all (figs_all _) ?_
    rw [List.all_map, decide_eq_true (show x.length ≤ 601 by omega), Bool.true_and] at *
    unfold canB at q
    cases ea : x.cps.toList.all (id ∘ fun c => decide (c ∈ FIG.cps.toList)) with
    | false =>
      rw [show (x.cps.toList.all fun c => decide (c ∈ FIG.cps.toList)) = false from ea, Bool.false_and] at q
      walk_at "w"
      exact q
    | true =>
      rw [show (x.cps.toList.all fun c => decide (c ∈ FIG.cps.toList)) = true from ea, Bool.true_and] at q
      cases e : x.cps.toList with
      | nil => rw [e] at lc; simp at lc; omega
      | cons c t =>
        rw [e] at q
        dsimp only at q
        walk_at "w"
        · rename_i z
          rw [z, zero_cps] at e
          cases e
          exact q
        · rename_i z
          refine wo_ixS (c := c) (by omega) (by rw [e]; rfl) (by decide) ?_
          walk_at "w"
          have zc : ("0" : Str) = ⟨#[48]⟩ := by decide +kernel
          by_cases c0 : c = 48
          · subst c0
            rw [← zc, decide_eq_true (show ("0" : Str) = "0" from rfl)]
            cases t with
            | nil => exact absurd (str_ext (by rw [e, zero_cps])) z
            | cons => exact q
          · rw [decide_eq_false (show ¬ (⟨#[c]⟩ : Str) = "0" by rw [zc]; exact one_ne c0)]
            rw [decide_eq_true (show c ≠ 48 from c0)] at q
            exact q
  · rename_i z1 z2
    rw [decide_eq_false (show ¬ x.length ≤ 601 by omega)] at q
    exact q
  · rename_i z1
    have : canB x = false := by
      unfold canB
      cases e : x.cps.toList with
      | nil => simp
      | cons c t => rw [e] at lc; simp at lc; omega
    rw [this, Bool.and_false] at q
    exact q
end

/-! number_in of any text: what it tells -/
noncomputable def tlR : Sv := (sRet (eIf (tvAnd (eT (eCall m_is_fraction (aCons (eVar 5) (aNil)))) (eT (eOp gEq (eCall m_number_text (aCons (eVar 5) (aNil))) (eVar 0)))) (eVar 5) (eD .none)))
theorem tlR_eq : (sRet (eIf (tvAnd (eT (eCall m_is_fraction (aCons (eVar 5) (aNil)))) (eT (eOp gEq (eCall m_number_text (aCons (eVar 5) (aNil))) (eVar 0)))) (eVar 5) (eD .none))) = tlR := rfl
noncomputable def tlM : Sv := sSeq (sSet 5 (eTup (aCons (eIf (eT (eOp gEq (eVar 1) (eVar 0))) (eBlt gIntT (aCons (eVar 2) (aNil))) (eOp (gInt fSub) (eD (.int 0)) (eBlt gIntT (aCons (eVar 2) (aNil))))) (aCons (eIf (eT (eOp gNe (eVar 3) (eD (.str "")))) (eBlt gIntT (aCons (eVar 4) (aNil))) (eD (.int 1))) (aNil)))))
    tlR
theorem tlM_eq : sSeq (sSet 5 (eTup (aCons (eIf (eT (eOp gEq (eVar 1) (eVar 0))) (eBlt gIntT (aCons (eVar 2) (aNil))) (eOp (gInt fSub) (eD (.int 0)) (eBlt gIntT (aCons (eVar 2) (aNil))))) (aCons (eIf (eT (eOp gNe (eVar 3) (eD (.str "")))) (eBlt gIntT (aCons (eVar 4) (aNil))) (eD (.int 1))) (aNil)))))
    tlR = tlM := rfl
noncomputable def tlN : Sv := sSeq (sAsg (gTupT 3 (gsCons (gN 2) (gsCons (gN 3) (gsCons (gN 4) (gsNil))))) (eM1 gPart (eVar 1) (eD (.str "/"))))
    (sSeq (sIf (tvOr (tvNot (eT (eCall m_is_written (aCons (eVar 2) (aNil))))) (tvAnd (eT (eOp gNe (eVar 3) (eD (.str "")))) (tvNot (eT (eCall m_is_written (aCons (eVar 4) (aNil))))))) (sRet (eD .none)) (sNil)) tlM)
theorem tlN_eq : sSeq (sAsg (gTupT 3 (gsCons (gN 2) (gsCons (gN 3) (gsCons (gN 4) (gsNil))))) (eM1 gPart (eVar 1) (eD (.str "/"))))
    (sSeq (sIf (tvOr (tvNot (eT (eCall m_is_written (aCons (eVar 2) (aNil))))) (tvAnd (eT (eOp gNe (eVar 3) (eD (.str "")))) (tvNot (eT (eCall m_is_written (aCons (eVar 4) (aNil))))))) (sRet (eD .none)) (sNil)) tlM) = tlN := rfl
theorem app_inj_l {a b c : Str} (h : a ++ b = a ++ c) : b = c := str_ext (by
  have e := congrArg (fun x : Str => x.cps.toList) h
  simp only [app_cps] at e
  exact List.append_cancel_left e)
/-- a text and what stands behind its sign -/
structure Bar (x b : Str) (ng : Bool) : Prop where
  t : ng = true → x = ("-" : Str) ++ b
  f : ng = false → x = b ∧ ∀ t, x.cps.toList ≠ 45 :: t
theorem Bar.of {x b : Str} {ng : Bool} (B : Bar x b ng) {r : Rat} (e : x = ntx r) : (ng = true ↔ r.num < 0) ∧ b = bT r := by
  obtain ⟨c, t, ec, c1, c2⟩ := bT_first r
  rw [ntx_eq] at e
  cases ng with
  | true =>
    have e1 := B.t rfl
    by_cases n : r.num < 0
    · rw [if_pos n] at e
      exact ⟨by simp [n], app_inj_l (e1.symm.trans e)⟩
    · rw [if_neg n, emp_app] at e
      exfalso
      have e2 := congrArg (fun x : Str => x.cps.toList) (e1.symm.trans e)
      simp only [app_cps, neg_cps, ec] at e2
      have := (List.cons.inj e2).1
      omega
  | false =>
    obtain ⟨e1, nn⟩ := B.f rfl
    by_cases n : r.num < 0
    · rw [if_pos n] at e
      exfalso
      exact nn (bT r).cps.toList (by rw [e, app_cps, neg_cps]; rfl)
    · rw [if_neg n, emp_app] at e
      exact ⟨by simp [n], e1.symm.trans e⟩
theorem Bar.ne {x b : Str} (B : Bar x b true) : ¬ b = x := fun e => by
  have e1 := B.t rfl
  rw [e] at e1
  have := congrArg (fun x : Str => x.cps.toList.length) e1
  simp only [app_cps, neg_cps, List.length_append, List.length_cons, List.length_nil] at this
  omega
section
variable {h : Hh} {Q : Vl → Hh → Prop} {E : XP} {N : En → Hh → Prop} {R : Vl → Hh → Prop} {B C : En → Hh → Prop} {X : Str → List (Str × Da) → En → Hh → Prop} {x b sg c : Str} {ng : Bool} {n m : Nat}
theorem gcd_q (r : Rat) : Int.gcd r.num (r.den : Int) = 1 := by
  have := r.reduced
  rw [Int.gcd, Int.natAbs_natCast]
  exact this
theorem rat_eq {r s : Rat} (h1 : r.num = s.num) (h2 : r.den = s.den) : r = s := Rat.ext h1 h2
theorem w_tlM2 {i : Int} (hi : i.natAbs < 10 ^ 601) (hm : m < 10 ^ 601) {a1 a2 a3 a4 : Option Vl}
    (q1 : ∀ r : Rat, r.num = i → r.den = m → x = ntx r → R (.d (Rk.Q r)) h) (q2 : (∀ r : Rat, r.num = i → r.den = m → x ≠ ntx r) → R (.d .none) h) :
    Ws (tlR [some (.d (.str x)), a1, a2, a3, a4, some (.d (.tuple [.int i, .int (m : Int)]))] h) N ⟨R, B, C, X⟩ := by
  unfold tlR
  walk_at "w"
  refine wp_is_frP ?_
  cases g : (decide (0 < (m : Int)) && decide (Int.gcd i (m : Int) = 1)) with
  | false =>
    walk_at "w"
    refine q2 fun r h1 h2 _ => ?_
    have hd := den_pos r
    have hg := gcd_q r
    rw [h1, h2] at hg
    rw [h2] at hd
    rw [Bool.and_eq_false_iff] at g
    rcases g with g | g
    · exact of_decide_eq_false g (by omega)
    · exact of_decide_eq_false g (by exact_mod_cast hg)
  | true =>
    rw [Bool.and_eq_true, decide_eq_true_eq, decide_eq_true_eq] at g
    have er : (.tuple [.int i, .int (m : Int)] : Da) = Rk.Q ⟨i, m, by omega, by have := g.2; rwa [Int.gcd, Int.natAbs_natCast] at this⟩ := rfl
    rw [er]
    generalize hr : (⟨i, m, by omega, by have := g.2; rwa [Int.gcd, Int.natAbs_natCast] at this⟩ : Rat) = r
    have h1 : r.num = i := by rw [← hr]
    have h2 : r.den = m := by rw [← hr]
    walk_at "w"
    refine wp_number_textB ⟨by rw [h1]; exact hi, by rw [h2]; exact hm⟩ ?_
    walk_at "w"
    · rename_i z
      exact q1 r h1 h2 z.symm
    · rename_i z
      exact q2 fun s e1 e2 e3 => z (by rw [e3, rat_eq (h1.trans e1.symm) (h2.trans e2.symm)])

theorem w_tlM (n1 : n < 10 ^ 601) (B1 : Bar x b ng) (hs : (sg = "" ∧ m = 1) ∨ (sg = "/" ∧ c = dg m ∧ m < 10 ^ 601))
    (q1 : ∀ r : Rat, r.num = (if ng then -(n : Int) else n) → r.den = m → x = ntx r → R (.d (Rk.Q r)) h) (q2 : (∀ r : Rat, r.num = (if ng then -(n : Int) else n) → r.den = m → x ≠ ntx r) → R (.d .none) h) :
    Ws (tlM [some (.d (.str x)), some (.d (.str b)), some (.d (.str (dg n))), some (.d (.str sg)), some (.d (.str c)), none] h) N ⟨R, B, C, X⟩ := by
  have l1 := dg_small (by decide) n1
  have r1 := dg_read (n := n) (by omega)
  have se : ("/" : Str) ≠ ("" : Str) := by decide +kernel
  have p1 : 1 < (10 : Nat) ^ 601 := by decide +kernel
  unfold tlM
  cases ng with
  | true =>
    have ne := B1.ne
    rw [if_pos rfl] at q1 q2
    rcases hs with ⟨rfl, rfl⟩ | ⟨rfl, rfl, m1⟩
    · walk_at "w"
      refine wo_intT r1 (by omega) ?_
      walk_at "w"
      rw [Int.zero_sub]
      exact w_tlM2 (m := 1) (by rw [Int.natAbs_neg, Int.natAbs_natCast]; exact n1) p1 q1 q2
    · have l2 := dg_small (by decide) m1
      have r2 := dg_read (n := m) (by omega)
      walk_at "w"
      refine wo_intT r1 (by omega) ?_
      walk_at "w"
      refine wo_intT r2 (by omega) ?_
      walk_at "w"
      rw [Int.zero_sub]
      exact w_tlM2 (by rw [Int.natAbs_neg, Int.natAbs_natCast]; exact n1) m1 q1 q2
  | false =>
    obtain ⟨rfl, nn⟩ := B1.f rfl
    rw [if_neg (by decide)] at q1 q2
    rcases hs with ⟨rfl, rfl⟩ | ⟨rfl, rfl, m1⟩
    · walk_at "w"
      refine wo_intT r1 (by omega) ?_
      walk_at "w"
      exact w_tlM2 (m := 1) (by rw [Int.natAbs_natCast]; exact n1) p1 q1 q2
    · have l2 := dg_small (by decide) m1
      have r2 := dg_read (n := m) (by omega)
      walk_at "w"
      refine wo_intT r1 (by omega) ?_
      walk_at "w"
      refine wo_intT r2 (by omega) ?_
      walk_at "w"
      exact w_tlM2 (by rw [Int.natAbs_natCast]; exact n1) m1 q1 q2
theorem bT_one {r : Rat} (h : (47 : Nat) ∉ (bT r).cps.toList) : r.den = 1 ∧ bT r = dg r.num.natAbs := by
  by_cases d : r.den = 1
  · exact ⟨d, by unfold bT; rw [if_pos d]⟩
  · exfalso
    apply h
    unfold bT
    rw [if_neg d, app_cps, app_cps, sl_one]
    simp
theorem bT_two {r : Rat} {u v : Str} (e : bT r = u ++ ⟨#[47]⟩ ++ v) (hu : (47 : Nat) ∉ u.cps.toList) : r.den ≠ 1 ∧ u = dg r.num.natAbs ∧ v = dg r.den := by
  have n1 : (47 : Nat) ∉ (dg r.num.natAbs).cps.toList := dg_no (by decide)
  by_cases d : r.den = 1
  · exfalso
    unfold bT at e
    rw [if_pos d] at e
    rw [e, app_cps, app_cps] at n1
    simp at n1
  · unfold bT at e
    rw [if_neg d, sl_one] at e
    have e2 := congrArg (fun x : Str => x.cps.toList) e
    simp only [app_cps, List.append_assoc] at e2
    obtain ⟨e3, e4⟩ := cut_free (c := 47) n1 hu (.inr ⟨_, rfl⟩) (.inr ⟨_, rfl⟩) e2
    exact ⟨d, (str_ext e3).symm, (str_ext (List.cons.inj e4).2).symm⟩
theorem num_ng {r : Rat} {n : Nat} (h1 : ng = true ↔ r.num < 0) (h2 : r.num.natAbs = n) : r.num = (if ng then -(n : Int) else n) := by
  cases ng with
  | true => rw [if_pos rfl]; have := h1.mp rfl; omega
  | false =>
    rw [if_neg (by decide)]
    have : ¬ r.num < 0 := fun z => by simp [z] at h1
    omega
theorem canB_of {n : Nat} {a : Str} (e : a = dg n) (h : n < 10 ^ 601) : (decide (a.length ≤ 601) && canB a) = true := by
  rw [e, canB_dg, decide_eq_true (dg_small (by decide) h)]
  rfl
theorem canB_ex {a : Str} (h : (decide (a.length ≤ 601) && canB a) = true) : ∃ n, n < 10 ^ 601 ∧ a = dg n := by
  rw [Bool.and_eq_true, decide_eq_true_eq] at h
  have e := canB_dg' h.2
  refine ⟨_, ?_, e⟩
  rw [e] at h
  exact dg_big 601 _ h.1
theorem w_tlN (l : b.length ≤ 16777000) (B1 : Bar x b ng)
    (q1 : ∀ r : Rat, r.num.natAbs < 10 ^ 601 → r.den < 10 ^ 601 → x = ntx r → R (.d (Rk.Q r)) h) (q2 : (∀ r : Rat, r.num.natAbs < 10 ^ 601 → r.den < 10 ^ 601 → x ≠ ntx r) → R (.d .none) h) :
    Ws (tlN [some (.d (.str x)), some (.d (.str b)), none, none, none, none] h) N ⟨R, B, C, X⟩ := by
  have p1 : 1 < (10 : Nat) ^ 601 := by decide +kernel
  have se : ("/" : Str) ≠ ("" : Str) := by decide +kernel
  have ab : ∀ n : Nat, n < 10 ^ 601 → (if ng then -(n : Int) else (n : Int)).natAbs < 10 ^ 601 := fun n hn => by
    cases ng with
    | true => rw [if_pos rfl, Int.natAbs_neg, Int.natAbs_natCast]; exact hn
    | false => rw [if_neg (by decide), Int.natAbs_natCast]; exact hn
  unfold tlN
  by_cases m47 : (47 : Nat) ∈ b.cps.toList
  · obtain ⟨ul, vl, e, hu⟩ := List.eq_append_cons_of_mem m47
    obtain ⟨u, eu⟩ : ∃ u : Str, u.cps.toList = ul := ⟨⟨ul.toArray⟩, rfl⟩
    obtain ⟨v, ev⟩ : ∃ v : Str, v.cps.toList = vl := ⟨⟨vl.toArray⟩, rfl⟩
    subst eu ev
    have eb : b = u ++ ⟨#[47]⟩ ++ v := str_ext (by rw [e, app_cps, app_cps, List.append_assoc]; rfl)
    have lu : u.length ≤ b.length ∧ v.length ≤ b.length := by
      rw [eb, Str.length_append, Str.length_append]
      omega
    walk_at "w"
    refine wo_part (by omega) (by decide +kernel) ?_
    rw [sl_one, eb, part_at hu, ← eb, ← sl_one]
    dsimp only
    walk_at "w"
    refine wp_written_any (Nat.le_trans lu.1 l) ?_
    cases g : (decide (u.length ≤ 601) && canB u) with
    | false =>
      walk_at "w"
      refine q2 fun r h1 h2 e => ?_
      obtain ⟨_, e2⟩ := B1.of e
      obtain ⟨d, e3, e4⟩ := bT_two (e2.symm.trans eb) hu
      rw [canB_of e3 h1] at g
      cases g
    | true =>
      obtain ⟨n, n1, rfl⟩ := canB_ex g
      walk_at "w"
      refine wp_written_any (Nat.le_trans lu.2 l) ?_
      cases g : (decide (v.length ≤ 601) && canB v) with
      | false =>
        walk_at "w"
        refine q2 fun r h1 h2 e => ?_
        obtain ⟨_, e2⟩ := B1.of e
        obtain ⟨d, e3, e4⟩ := bT_two (e2.symm.trans eb) hu
        rw [canB_of e4 h2] at g
        cases g
      | true =>
        obtain ⟨m, m1, rfl⟩ := canB_ex g
        walk_at "w"
        refine w_tlM (m := m) n1 B1 (.inr ⟨rfl, rfl, m1⟩) (fun r e1 e2 e3 => q1 r (by rw [e1]; exact ab n n1) (by omega) e3) fun no => q2 fun r h1 h2 e => ?_
        obtain ⟨en, e2⟩ := B1.of e
        obtain ⟨d, e3, e4⟩ := bT_two (e2.symm.trans eb) hu
        exact no r (num_ng en (dg_inj e3).symm) (dg_inj e4).symm e
  · walk_at "w"
    refine wo_part (by omega) (by decide +kernel) ?_
    rw [sl_one, part_no m47]
    walk_at "w"
    refine wp_written_any (by omega) ?_
    cases g : (decide (b.length ≤ 601) && canB b) with
    | false =>
      walk_at "w"
      refine q2 fun r h1 h2 e => ?_
      obtain ⟨_, eb⟩ := B1.of e
      obtain ⟨d, e3⟩ := bT_one (by rw [← eb]; exact m47)
      rw [canB_of (eb.trans e3) h1] at g
      cases g
    | true =>
      obtain ⟨n, n1, rfl⟩ := canB_ex g
      walk_at "w"
      refine w_tlM (m := 1) n1 B1 (.inl ⟨rfl, rfl⟩) (fun r e1 e2 e3 => q1 r (by rw [e1]; exact ab n n1) (by omega) e3) fun no => q2 fun r h1 h2 e => ?_
      obtain ⟨en, eb⟩ := B1.of e
      obtain ⟨d, e3⟩ := bT_one (by rw [← eb]; exact m47)
      exact no r (num_ng en (dg_inj (eb.trans e3)).symm) d e
theorem retK_dd {x : Da} (q : Q (.d x) h) : RetK h.length Q (.d x) h := ⟨.d x, h, by show Out.ok _ _ = _; simp, q⟩
/-- what number_in tells of any text -/
theorem wp_number_any (l : x.length ≤ 16777000)
    (q1 : ∀ r : Rat, r.num.natAbs < 10 ^ 601 → r.den < 10 ^ 601 → x = ntx r → Q (.d (Rk.Q r)) h) (q2 : (∀ r : Rat, r.num.natAbs < 10 ^ 601 → r.den < 10 ^ 601 → x ≠ ntx r) → Q (.d .none) h) :
    Wp (m_number_in [.d (.str x)] h) Q E := by
  have lc := len_cps x
  refine en_number_in ?_
  unfold b_number_in
  rw [tlR_eq, tlM_eq, tlN_eq]
  have k1 : ∀ r : Rat, r.num.natAbs < 10 ^ 601 → r.den < 10 ^ 601 → x = ntx r → RetK h.length Q (.d (Rk.Q r)) h := fun r h1 h2 h3 => retK_dd (q1 r h1 h2 h3)
  have k2 : (∀ r : Rat, r.num.natAbs < 10 ^ 601 → r.den < 10 ^ 601 → x ≠ ntx r) → RetK h.length Q (.d .none) h := fun no => retK_dd (q2 no)
  cases e : x.cps.toList with
  | nil =>
    have e0 : x = "" := str_ext (by rw [e, emp_cps])
    subst e0
    walk_at "w"
    refine wo_slS (by omega) ?_
    rw [show cutS "" none (some 1) = "" by decide +kernel]
    walk_at "w"
    exact w_tlN (ng := false) l ⟨nofun, fun _ => ⟨rfl, fun t z => by rw [e] at z; cases z⟩⟩ k1 k2
  | cons c t =>
    walk_at "w"
    refine wo_slS (by omega) ?_
    rw [cut_one e]
    by_cases c45 : c = 45
    · subst c45
      rw [← neg_one]
      walk_at "w"
      refine wo_slS (by omega) ?_
      rw [cut_rest e]
      walk_at "w"
      have lt : (⟨t.toArray⟩ : Str).length ≤ x.length := by
        rw [← len_cps, ← len_cps, e]
        simp
      exact w_tlN (ng := true) (by omega) ⟨fun _ => str_ext (by rw [e, app_cps, neg_cps]; rfl), nofun⟩ k1 k2
    · have cn : (⟨#[c]⟩ : Str) ≠ "-" := by rw [neg_one]; exact one_ne c45
      walk_at "w"
      exact w_tlN (ng := false) l ⟨nofun, fun _ => ⟨rfl, fun t z => by rw [e] at z; exact c45 (List.cons.inj z).1⟩⟩ k1 k2
end

/-! k03: figures put -/
theorem dg_one {d : Nat} (h : d < 10) : dg d = ⟨#[48 + d]⟩ := by
  have all : ∀ d, d < 10 → dg d = ⟨#[48 + d]⟩ := by decide +kernel
  exact all d h
theorem dg_step {n : Nat} (h : 10 ≤ n) : dg n = dg (n / 10) ++ dg (n % 10) := by
  have hm : n % 10 < 10 := Nat.mod_lt n (by decide)
  have t2 : Nat.toDigits 10 (n / 10) ++ Nat.toDigits 10 (n % 10) = Nat.toDigits 10 (10 * (n / 10) + n % 10) := Nat.toDigits_append_toDigits (by decide) (by omega) hm
  rw [Nat.div_add_mod] at t2
  refine str_ext ?_
  rw [app_cps, dg_cps, dg_cps, dg_cps, ← List.map_append, t2]
theorem fig_at {d : Nat} (h : d < 10) : FIG.cps.toList[d]? = some (48 + d) := by
  have all : ∀ d, d < 10 → FIG.cps.toList[d]? = some (48 + d) := by decide +kernel
  exact all d h
section
variable {h : Hh} {Q : Vl → Hh → Prop} {E : XP} {n : Nat} {x : Str} {r : Rat}
theorem wp_figures (b : Bd 700 (n : Int)) (q : Q (.d (.str (dg n))) h) : Wp (m__law_figures [.d (.int (n : Int))] h) Q E := by
  have ln : (dg n).length ≤ 700 := dg_small (by decide) (Nat.lt_of_lt_of_le (show n < 2 ^ 700 from b) (Nat.pow_le_pow_left (by decide) 700))
  refine en__law_figures ?_
  unfold b__law_figures
  walk_at "w"
  · rename_i z
    have : n = 0 := by omega
    subst this
    rw [dg_zero] at q
    exact q
  · rename_i z
    refine ws_while (fun k ρ h' => h' = h ∧ ∃ u, k ≤ n ∧ ρ = [some (.d (.int (k : Int))), some (.d (.str u))] ∧ (if k = 0 then ("" : Str) else dg k) ++ u = dg n) (n := n) ⟨rfl, "", Nat.le_refl _, rfl, by rw [if_neg (by omega), app_emp]⟩ ?_
    rintro k ρ1 h1 ⟨rfl, u, kn, rfl, ek⟩
    have lu : u.length ≤ 700 := by
      rw [← ek, Str.length_append] at ln
      omega
    have bk : Bd 700 (k : Int) := b.le (by omega)
    walk_at "w"
    · rename_i z2
      refine wo_ixS (c := 48 + k % 10) (by decide +kernel) (by rw [show ((k : Int) % 10).toNat = k % 10 by omega]; exact fig_at (Nat.mod_lt _ (by decide))) (by omega) ?_
      walk_at "w"
      refine wo_addS (by show 1 + u.length ≤ 16777216; omega) ?_
      walk_at "w"
      refine ⟨k / 10, by omega, rfl, _, by omega, rfl, ?_⟩
      rw [← ek, if_neg (show ¬ k = 0 by omega), ← dg_one (Nat.mod_lt k (by decide)), ← app_asc]
      by_cases k10 : 10 ≤ k
      · rw [if_neg (by omega), ← dg_step k10]
      · rw [if_pos (by omega), emp_app, Nat.mod_eq_of_lt (by omega)]
    · rename_i z2
      have : k = 0 := by omega
      subst this
      rw [if_pos rfl, emp_app] at ek
      rw [ek]
      exact q
theorem wp__law_text (br : BQ 340 r) (q : Q (.d (.str (ntx r))) h) : Wp (m__law_text [.d (Rk.Q r)] h) Q E := by
  have bn := br.nu
  have bd := br.dn
  have p : (2 : Nat) ^ 700 ≤ 10 ^ 700 := Nat.pow_le_pow_left (by decide) 700
  have l1 : (dg r.num.natAbs).length ≤ 700 := dg_small (by decide) (Nat.lt_of_lt_of_le (show r.num.natAbs < 2 ^ 700 from bn.mono (by decide)) p)
  have l2 : (dg r.den).length ≤ 700 := dg_small (by decide) (Nat.lt_of_lt_of_le (show r.den < 2 ^ 700 from bd.mono (by decide)) p)
  have a : ("-" : Str).length = 1 := by decide +kernel
  have a0 : ("" : Str).length = 0 := by decide +kernel
  have a1 : ("/" : Str).length = 1 := by decide +kernel
  rw [show Rk.Q r = .tuple [.int r.num, .int (r.den : Int)] from rfl]
  rw [ntx_eq] at q
  unfold bT at q
  refine en__law_text ?_
  unfold b__law_text
  walk_at "w"
  all_goals (refine wp_figures (bn.abs.mono (by decide)) ?_; walk_at "w"; refine wo_addS (by omega) ?_; walk_at "w")
  · rename_i z z2
    rw [if_pos z, if_pos (by omega)] at q
    exact q
  · rename_i z z2
    refine wo_addS (by rw [Str.length_append]; omega) ?_
    walk_at "w"
    refine wp_figures (bd.mono (by decide)) ?_
    walk_at "w"
    refine wo_addS (by rw [Str.length_append, Str.length_append]; omega) ?_
    walk_at "w"
    rw [if_pos z, if_neg (by omega), ← app_asc, ← app_asc] at q
    exact q
  · rename_i z z2
    rw [if_neg z, if_pos (by omega)] at q
    exact q
  · rename_i z z2
    refine wo_addS (by rw [Str.length_append]; omega) ?_
    walk_at "w"
    refine wp_figures (bd.mono (by decide)) ?_
    walk_at "w"
    refine wo_addS (by rw [Str.length_append, Str.length_append]; omega) ?_
    walk_at "w"
    rw [if_neg z, if_neg (by omega), ← app_asc, ← app_asc] at q
    exact q
end

/-! k03: the law's own reading -/
theorem idx_fig {c : Nat} (h : c ∈ FIG.cps.toList) : ∃ rest, Builtin.Str.occurrences "0123456789" ⟨#[c]⟩ 0 ("0123456789" : Str).length 1 = (c - 48) :: rest := by
  have all : ∀ c ∈ FIG.cps.toList, Builtin.Str.occurrences "0123456789" ⟨#[c]⟩ 0 ("0123456789" : Str).length 1 = [c - 48] := by decide +kernel
  exact ⟨[], all c h⟩
theorem dv_snoc (l : List Nat) (c : Nat) : PySem.NumText.digitsVal (l ++ [c]) = PySem.NumText.digitsVal l * 10 + (c - 48) := PySem.NumText.digitsVal_snoc l c
theorem dv_lt : ∀ l : List Nat, PySem.NumText.AllDigits l → PySem.NumText.digitsVal l < 10 ^ l.length := by
  have g : ∀ (n : Nat) (l : List Nat), l.length = n → PySem.NumText.AllDigits l → PySem.NumText.digitsVal l < 10 ^ l.length := fun n => by
    induction n with
    | zero =>
      intro l e h
      rw [List.length_eq_zero_iff.mp e]
      decide
    | succ n ih =>
      intro l e h
      have hne : l ≠ [] := fun z => by rw [z] at e; cases e
      have e2 := List.dropLast_concat_getLast hne
      generalize l.dropLast = u at e2
      generalize l.getLast hne = c at e2
      subst e2
      rw [dv_snoc, List.length_append, List.length_singleton, Nat.pow_succ]
      have hc := h c (by simp)
      have := ih u (by simpa using e) fun d hd => h d (List.mem_append_left _ hd)
      omega
  exact fun l => g _ l rfl
section
variable {h : Hh} {Q : Vl → Hh → Prop} {E : XP} {n : Nat} {x : Str} {r : Rat}
def Asc (x : Str) : Prop := ∀ c ∈ x.cps.toList, c < 256
theorem Asc.ok {x : Str} (a : Asc x) : PyData.strOk x = true := by
  unfold PyData.strOk
  rw [← Array.all_toList, List.all_eq_true]
  intro c hc
  have := a c hc
  exact decide_eq_true (by omega)
theorem Asc.app {x y : Str} (a : Asc x) (b : Asc y) : Asc (x ++ y) := fun c hc => by
  rw [app_cps] at hc
  exact (List.mem_append.mp hc).elim (a c) (b c)
theorem Asc.sub {x y : Str} (a : Asc x) (h : ∀ c ∈ y.cps.toList, c ∈ x.cps.toList) : Asc y := fun c hc => a c (h c hc)
theorem wo_neStrs (ys : List Str) (a : ∀ y ∈ ys, Asc y) (q : Q (.d (.bool (!decide (ys = [])))) h) : Wo (gNe (.d (.list (ys.map PyData.str))) (.d (.list [])) h) Q := by
  by_cases z : ys = []
  · subst z
    exact wo_neSelf (p := true) (Ly.lst LyL.nil) (by decide) q
  · rw [decide_eq_false z] at q
    refine wo_neNo (e := 1) (e' := 1) (Ly.lst (LyL.of (e := 0) fun d hd => by
      obtain ⟨y, hy, rfl⟩ := List.mem_map.mp hd
      exact Ly.str (a y hy).ok)) (Ly.lst LyL.nil) (by decide) (by decide) (fun k => z ?_) q
    rw [PyData.list.injEq, List.map_eq_nil_iff] at k
    exact k
theorem wo_notInS {c : Nat} {z : Str} (q : Q (.d (.bool (!decide (c ∈ z.cps.toList)))) h) : Wo (gInS true (.d (.str ⟨#[c]⟩)) (.d (.str z)) h) Q := wo_eq (v := .d (.bool (!decide (c ∈ z.cps.toList)))) (h' := h) rfl q
def noF (x : Str) : List Nat := x.cps.toList.filter fun c => !decide (c ∈ FIG.cps.toList)
def tsP (z : List Nat) (d : Da) : Bool := match d with
  | .str w => !decide (w.cps.toList.headD 0 ∈ z)
  | _ => true
theorem wp_mtS {z : Str} {g : GM} {ρ : En} {f : Av} (w : Wp (f ρ h) (fun vs h2 => Wo (g (.d (.str z)) vs h2) Q) E) : Wp (eMt tyS g (eD (.str z)) f ρ h) Q E := by
  show Wp ((f ρ h).bind fun vs h2 => ofO (g (.d (.str z)) vs h2)) Q E
  exact wp_bind (w.mono (fun _ _ w => wo_of w) fun _ _ _ z => z)
theorem sgn_filter (x z : Str) : (sgn x).filter (tsP z.cps.toList) = (x.cps.toList.filter fun c => !decide (c ∈ z.cps.toList)).map fun c => .str ⟨#[c]⟩ := by
  unfold sgn
  rw [List.filter_map]
  rfl
theorem noF_nil {x : Str} : noF x = [] ↔ (x.cps.toList.all fun c => decide (c ∈ FIG.cps.toList)) = true := by
  unfold noF
  rw [List.filter_eq_nil_iff, List.all_eq_true]
  simp
noncomputable def tlF : Sv := sSeq (sSet 2 (eD (.int 0)))
    (sSeq (sFor (iv itS (eVar 0)) (gN 1) bl__law_number_of_1)
    (sRet (eVar 2)))
theorem tlF_eq : sSeq (sSet 2 (eD (.int 0)))
    (sSeq (sFor (iv itS (eVar 0)) (gN 1) bl__law_number_of_1)
    (sRet (eVar 2))) = tlF := rfl
theorem w_tlF {N : En → Hh → Prop} {R : Vl → Hh → Prop} {B C : En → Hh → Prop} {X : Str → List (Str × Da) → En → Hh → Prop} {a1 a2 : Option Vl} (l : x.length ≤ 400) (ad : PySem.NumText.AllDigits x.cps.toList) (q : R (.d (.int (PySem.NumText.digitsVal x.cps.toList : Nat))) h) :
    Ws (tlF [some (.d (.str x)), a1, a2] h) N ⟨R, B, C, X⟩ := by
  have lc := len_cps x
  unfold tlF
  walk_at "w"
  refine wp_itS ?_
  refine forK_inv (fun k ρ h' => h' = h ∧ ∃ a1, ρ = [some (.d (.str x)), a1, some (.d (.int (PySem.NumText.digitsVal (x.cps.toList.take k) : Nat)))]) ⟨rfl, _, rfl⟩ ?_ ?_
  · rintro k d ρ1 h1 ek ⟨rfl, a1, rfl⟩
    unfold sgn at ek
    rw [List.getElem?_map] at ek
    cases ec : x.cps.toList[k]? with
    | none => rw [ec] at ek; cases ek
    | some c =>
      rw [ec] at ek
      cases ek
      have hc := ad c (List.mem_of_getElem? ec)
      have tk : x.cps.toList.take (k + 1) = x.cps.toList.take k ++ [c] := by rw [List.take_succ, ec]; rfl
      have lt := dv_lt (x.cps.toList.take k) fun c hc => ad c (List.mem_of_mem_take hc)
      have bd : Bd 1600 ((PySem.NumText.digitsVal (x.cps.toList.take k) : Nat) : Int) := by
        refine Nat.lt_of_lt_of_le lt (Nat.le_trans (Nat.pow_le_pow_right (by decide) (show _ ≤ 400 by rw [List.length_take]; omega)) ?_)
        rw [show 1600 = 4 * 400 from rfl, Nat.pow_mul]
        exact Nat.pow_le_pow_left (by decide) 400
      obtain ⟨rest, eo⟩ := idx_fig (fig_in c hc.1 hc.2)
      rw [tk, dv_snoc]
      generalize PySem.NumText.digitsVal (x.cps.toList.take k) = v at bd ⊢
      walk_at "w"
      unfold bl__law_number_of_1
      walk_at "w"
      refine wp_mtS ?_
      walk_at "w"
      refine wo_sidx eo ?_
      walk_at "w"
      exact ⟨rfl, _, by rw [Int.natCast_add, Int.natCast_mul]; rfl⟩
  · rintro ρ1 h1 ⟨rfl, a1, rfl⟩
    have ls : (sgn x).length = x.cps.toList.length := by unfold sgn; rw [List.length_map]
    rw [ls, List.take_length]
    walk_at "w"
    exact q
theorem wp_number_of (l : x.length ≤ 400) (ax : Asc x) (q : Q (.d (match wrt x with | some n => .int (n : Int) | none => .none)) h) : Wp (m__law_number_of [.d (.str x)] h) Q E := by
  have lc := len_cps x
  refine en__law_number_of ?_
  unfold b__law_number_of
  rw [tlF_eq]
  walk_at "w"
  · rename_i z
    have : wrt x = none := by rw [z]; decide +kernel
    rw [this] at q
    exact q
  · rename_i z
    refine wp_lc (by walk_at "wipe") ?_
    walk_at "w"
    refine ⟨fun d => d, tsP FIG.cps.toList, rfl, ?_, rfl, ?_, ?_⟩
    · show (sgn x).length ≤ 16777216
      unfold sgn
      rw [List.length_map]
      omega
    · intro d hd h'
      obtain ⟨c, hc, rfl⟩ := List.mem_map.mp (show d ∈ x.cps.toList.map (fun c => PyData.str ⟨#[c]⟩) from hd)
      walk_at "w"
      refine ⟨rfl, ?_⟩
      walk_at "w"
      refine ⟨?_, fun _ => ?_⟩
      · walk_at "w"
        exact wo_notInS ⟨_, rfl, rfl, rfl⟩
      · walk_at "w"
        exact ⟨rfl, rfl⟩
    · rw [List.map_id']
      show Wp _ _ _
      rw [show ({ ds := sgn x, gd := none } : Itm).ds = sgn x from rfl, sgn_filter x FIG]
      walk_at "w"
      rw [show (x.cps.toList.filter fun c => !decide (c ∈ FIG.cps.toList)).map (fun c => PyData.str ⟨#[c]⟩) = ((noF x).map fun c => (⟨#[c]⟩ : Str)).map PyData.str by rw [List.map_map]; rfl]
      refine wo_neStrs _ (fun y hy => ?_) ?_
      · obtain ⟨c, hc, rfl⟩ := List.mem_map.mp hy
        intro d hd
        rw [show d = c from List.mem_singleton.mp hd]
        exact ax c ((List.mem_filter.mp hc).1)
      rw [show decide ((noF x).map (fun c => (⟨#[c]⟩ : Str)) = []) = decide (noF x = []) by simp only [decide_eq_decide, List.map_eq_nil_iff]]
      by_cases nf : noF x = []
      · rw [decide_eq_true nf]
        have af := noF_nil.mp nf
        have ad : PySem.NumText.AllDigits x.cps.toList := fun c hc => fig_out (of_decide_eq_true (List.all_eq_true.mp af c hc))
        unfold wrt canB at q
        rw [af, Bool.true_and] at q
        cases e : x.cps.toList with
        | nil => exact absurd (str_ext (by rw [e, emp_cps])) z
        | cons c t =>
          rw [e] at q ad
          dsimp only at q
          have zc : ("0" : Str) = ⟨#[48]⟩ := by decide +kernel
          walk_at "w"
          refine wo_ixS (c := c) (by omega) (by rw [e]; rfl) (by decide) ?_
          walk_at "w"
          · rename_i z2 z3
            rw [z3, zero_cps] at e
            cases e
            exact w_tlF l (by rw [z3, zero_cps]; exact ad) (by rw [z3, zero_cps]; exact retK_dd q)
          · rename_i z2 z3
            have c48 : c = 48 := by
              rw [zc] at z2
              by_cases k : c = 48
              · exact k
              · exact absurd z2 (one_ne k)
            subst c48
            cases t with
            | nil => exact absurd (str_ext (by rw [e, zero_cps])) z3
            | cons => exact q
          · rename_i z2
            have c48 : c ≠ 48 := fun k => z2 (by rw [k, zc])
            rw [if_pos (by rw [decide_eq_true c48]; rfl)] at q
            exact w_tlF l (by rw [e]; exact ad) (by rw [e]; exact retK_dd q)
      · rw [decide_eq_false nf]
        have af : (x.cps.toList.all fun c => decide (c ∈ FIG.cps.toList)) = false := Bool.eq_false_iff.mpr fun k => nf (noF_nil.mpr k)
        unfold wrt canB at q
        rw [af, Bool.false_and] at q
        walk_at "w"
        exact q
end

/-! k03: the law's own reading of fractions -/
noncomputable def tlL : Sv := sSeq (sIf (tvOr (eT (eOp (gInt fGt) (eBlt gLen (aCons (eVar 1) (aNil))) (eD (.int 2)))) (tvOr (eT (eOp gIsN (eVar 3) (eD .none))) (tvOr (eT (eOp gIsN (eVar 4) (eD .none))) (tvAnd (eT (eVar 2)) (eT (eOp gEq (eVar 3) (eD (.int 0)))))))) (sRet (eD .none)) (sNil))
    (sSeq (sIf (tvAnd (eT (eOp gEq (eBlt gLen (aCons (eVar 1) (aNil))) (eD (.int 2)))) (tvOr (eT (eOp (gInt fLt) (eVar 4) (eD (.int 2)))) (eT (eOp gNe (eCall m__law_lowest (aCons (eVar 3) (aCons (eVar 4) (aNil)))) (eTup (aCons (eVar 3) (aCons (eVar 4) (aNil)))))))) (sRet (eD .none)) (sNil))
    (sRet (eTup (aCons (eIf (eT (eVar 2)) (eOp (gInt fSub) (eD (.int 0)) (eVar 3)) (eVar 3)) (aCons (eVar 4) (aNil))))))
theorem tlL_eq : sSeq (sIf (tvOr (eT (eOp (gInt fGt) (eBlt gLen (aCons (eVar 1) (aNil))) (eD (.int 2)))) (tvOr (eT (eOp gIsN (eVar 3) (eD .none))) (tvOr (eT (eOp gIsN (eVar 4) (eD .none))) (tvAnd (eT (eVar 2)) (eT (eOp gEq (eVar 3) (eD (.int 0)))))))) (sRet (eD .none)) (sNil))
    (sSeq (sIf (tvAnd (eT (eOp gEq (eBlt gLen (aCons (eVar 1) (aNil))) (eD (.int 2)))) (tvOr (eT (eOp (gInt fLt) (eVar 4) (eD (.int 2)))) (eT (eOp gNe (eCall m__law_lowest (aCons (eVar 3) (aCons (eVar 4) (aNil)))) (eTup (aCons (eVar 3) (aCons (eVar 4) (aNil)))))))) (sRet (eD .none)) (sNil))
    (sRet (eTup (aCons (eIf (eT (eVar 2)) (eOp (gInt fSub) (eD (.int 0)) (eVar 3)) (eVar 3)) (aCons (eVar 4) (aNil)))))) = tlL := rfl
theorem cut_nil : cutS "" none (some 1) = "" := by decide +kernel
theorem bar_of (a : Str) : ∃ (ng : Bool) (b : Str), Bar a b ng ∧ (decide (cutS a none (some 1) = "-") = ng) ∧ (ng = true → cutS a (some 1) none = b) ∧ b.length ≤ a.length ∧ (∀ c ∈ b.cps.toList, c ∈ a.cps.toList) := by
  cases e : a.cps.toList with
  | nil =>
    have e0 : a = "" := str_ext (by rw [e, emp_cps])
    subst e0
    exact ⟨false, "", ⟨nofun, fun _ => ⟨rfl, fun t z => by rw [e] at z; cases z⟩⟩, by rw [cut_nil]; decide +kernel, nofun, Nat.le_refl _, fun c hc => by rwa [e] at hc⟩
  | cons c t =>
    by_cases c45 : c = 45
    · subst c45
      refine ⟨true, ⟨t.toArray⟩, ⟨fun _ => str_ext (by rw [e, app_cps, neg_cps]; rfl), nofun⟩, by rw [cut_one e, ← neg_one]; exact decide_eq_true rfl, fun _ => cut_rest e, ?_, fun c hc => List.mem_cons_of_mem _ hc⟩
      rw [← len_cps, ← len_cps, e]
      simp
    · have cn : (⟨#[c]⟩ : Str) ≠ "-" := by rw [neg_one]; exact one_ne c45
      exact ⟨false, a, ⟨nofun, fun _ => ⟨rfl, fun t z => by rw [e] at z; exact c45 (List.cons.inj z).1⟩⟩, by rw [cut_one e]; exact decide_eq_false cn, nofun, Nat.le_refl _, fun c hc => by rwa [e] at hc⟩
theorem split_cases (x : Str) : (Txt.split x "/" = [x] ∧ 47 ∉ x.cps.toList) ∨ (∃ a b, Txt.split x "/" = [a, b] ∧ x = a ++ ⟨#[47]⟩ ++ b ∧ 47 ∉ a.cps.toList ∧ 47 ∉ b.cps.toList) ∨ (∃ a b c r, Txt.split x "/" = a :: b :: c :: r ∧ 47 ∉ a.cps.toList ∧ ∃ z, x = a ++ ⟨#[47]⟩ ++ (b ++ ⟨#[47]⟩ ++ z)) := by
  have j := StrLaws.join_split x ("/" : Str)
  have f := StrLaws.split_free x 47
  have p := PyProof.Rows.split_pos x ("/" : Str)
  rw [← sl_one] at f
  generalize Txt.split x ("/" : Str) = us at *
  match us with
  | [] => exact absurd p (by decide)
  | [a] =>
    have e : a = x := j
    subst e
    exact .inl ⟨rfl, f a (by simp)⟩
  | [a, b] =>
    have e : a ++ "/" ++ b = x := j
    exact .inr (.inl ⟨a, b, rfl, by rw [← e, sl_one], f a (by simp), f b (by simp)⟩)
  | a :: b :: c :: r =>
    have e : a ++ "/" ++ (b ++ "/" ++ Str.join "/" (c :: r)) = x := j
    exact .inr (.inr ⟨a, b, c, r, rfl, f a (by simp), _, by rw [← e, sl_one]⟩)
theorem Bar.app {a b y : Str} {ng : Bool} (B : Bar a b ng) (h : y.cps.toList.headD 0 ≠ 45) : Bar (a ++ y) (b ++ y) ng := ⟨fun e => by rw [B.t e, app_asc], fun e => ⟨by rw [(B.f e).1], fun t z => by
  rw [app_cps] at z
  cases e2 : a.cps.toList with
  | nil => rw [e2] at z; rw [show y.cps.toList = 45 :: t from z] at h; exact h rfl
  | cons c u => rw [e2] at z; exact (B.f e).2 u (by rw [e2, (List.cons.inj z).1])⟩⟩
theorem ntx_of {x b : Str} {ng : Bool} (B : Bar x b ng) {r : Rat} (h1 : ng = true ↔ r.num < 0) (e : b = bT r) : x = ntx r := by
  rw [ntx_eq]
  cases ng with
  | true => rw [if_pos (h1.mp rfl), B.t rfl, e]
  | false => rw [if_neg fun z => by simp [z] at h1, (B.f rfl).1, e, emp_app]
theorem sg_num {ng : Bool} {n : Nat} {i : Int} (e : i = if ng then -(n : Int) else n) (h : ¬ (ng = true ∧ n = 0)) : (ng = true ↔ i < 0) ∧ i.natAbs = n := by
  cases ng with
  | true => rw [if_pos rfl] at e; simp at h; exact ⟨⟨fun _ => by omega, fun _ => rfl⟩, by omega⟩
  | false => rw [if_neg (by decide)] at e; exact ⟨⟨nofun, fun z => by omega⟩, by omega⟩
theorem mkq (i : Int) (m : Nat) (hm : 0 < m) (g : Int.gcd i (m : Int) = 1) : ∃ r : Rat, r.num = i ∧ r.den = m ∧ (.tuple [.int i, .int (m : Int)] : Da) = Rk.Q r :=
  ⟨⟨i, m, by omega, by rwa [Int.gcd, Int.natAbs_natCast] at g⟩, rfl, rfl, rfl⟩
theorem gcd_sg {ng : Bool} {n m : Nat} : Int.gcd (if ng then -(n : Int) else (n : Int)) (m : Int) = Int.gcd (n : Int) (m : Int) := by
  cases ng with
  | true => rw [if_pos rfl, Int.neg_gcd]
  | false => rw [if_neg (by decide)]
section
variable {h : Hh} {Q : Vl → Hh → Prop} {E : XP} {N : En → Hh → Prop} {R : Vl → Hh → Prop} {B C : En → Hh → Prop} {X : Str → List (Str × Da) → En → Hh → Prop} {x a b c : Str} {ng : Bool} {n m : Nat}
def wD (o : Option Nat) : Da := match o with
  | some n => .int (n : Int)
  | none => .none
theorem w_tlL1 (B1 : Bar x b ng) (n47 : 47 ∉ b.cps.toList)
    (q1 : ∀ r, x = ntx r → R (.d (Rk.Q r)) h) (q2 : (∀ r, x ≠ ntx r) → R (.d .none) h) :
    Ws (tlL [some (.d (.str x)), some (.d (.list [.str x])), some (.d (.bool ng)), some (.d (wD (wrt b))), some (.d (.int 1))] h) N ⟨R, B, C, X⟩ := by
  unfold tlL
  cases e : wrt b with
  | none =>
    unfold wD
    walk_at "w"
    refine q2 fun r er => ?_
    obtain ⟨_, eb⟩ := B1.of er
    rw [(bT_one (by rw [← eb]; exact n47)).2] at eb
    rw [eb, wrt_dg] at e
    cases e
  | some n =>
    have eb := wrt_some e
    have bad : (ng = true ∧ n = 0) → ∀ r, x ≠ ntx r := fun ⟨e1, e2⟩ r er => by
      obtain ⟨h1, e3⟩ := B1.of er
      have := dg_inj (eb.symm.trans (e3.trans (bT_one (by rw [← e3]; exact n47)).2))
      have := h1.mp e1
      omega
    obtain ⟨r, er1, er2, eQ⟩ := mkq (if ng then -(n : Int) else n) 1 (by decide) (by rw [Int.gcd, Int.natAbs_natCast]; exact Nat.gcd_one_right _)
    have good : ¬ (ng = true ∧ n = 0) → R (.d (.tuple [.int (if ng then -(n : Int) else n), .int 1])) h := fun hn => by
      have e3 : (.tuple [.int (if ng then -(n : Int) else n), .int 1] : Da) = Rk.Q r := eQ
      rw [e3]
      obtain ⟨s1, s2⟩ := sg_num (n := n) er1 hn
      refine q1 r (ntx_of B1 s1 ?_)
      unfold bT
      rw [if_pos er2, eb, s2]
    unfold wD
    cases ng with
    | true =>
      walk_at "w"
      · rename_i z
        exact q2 (bad ⟨rfl, by omega⟩)
      · rename_i z
        rw [Int.zero_sub]
        exact good (fun k => z (by omega))
    | false =>
      walk_at "w"
      exact good (fun k => absurd k.1 (by decide))
theorem w_tlL2 (B1 : Bar x (b ++ ⟨#[47]⟩ ++ c) ng) (n47 : 47 ∉ b.cps.toList) (lb : b.length ≤ 300) (lc : c.length ≤ 300)
    (q1 : ∀ r, x = ntx r → R (.d (Rk.Q r)) h) (q2 : (∀ r, x ≠ ntx r) → R (.d .none) h) :
    Ws (tlL [some (.d (.str x)), some (.d (.list [.str a, .str c])), some (.d (.bool ng)), some (.d (wD (wrt b))), some (.d (wD (wrt c)))] h) N ⟨R, B, C, X⟩ := by
  have two : ∀ r, x = ntx r → (ng = true ↔ r.num < 0) ∧ r.den ≠ 1 ∧ b = dg r.num.natAbs ∧ c = dg r.den := fun r er => by
    obtain ⟨h1, e3⟩ := B1.of er
    exact ⟨h1, bT_two e3.symm n47⟩
  unfold tlL
  cases e : wrt b with
  | none =>
    unfold wD
    walk_at "w"
    refine q2 fun r er => ?_
    rw [(two r er).2.2.1, wrt_dg] at e
    cases e
  | some n =>
    cases e2 : wrt c with
    | none =>
      unfold wD
      walk_at "w"
      refine q2 fun r er => ?_
      rw [(two r er).2.2.2, wrt_dg] at e2
      cases e2
    | some m =>
      have eb := wrt_some e
      have ec := wrt_some e2
      have lim : ∀ k : Nat, (dg k).length ≤ 300 → Bd 1200 (k : Int) := fun k hk => by
        refine Nat.lt_of_lt_of_le (dg_big 300 k hk) ?_
        rw [show 1200 = 4 * 300 from rfl, Nat.pow_mul]
        exact Nat.pow_le_pow_left (by decide) 300
      have bn : Bd 1200 (n : Int) := lim n (by rw [← eb]; exact lb)
      have bm : Bd 1200 (m : Int) := lim m (by rw [← ec]; exact lc)
      have bad : (ng = true ∧ n = 0) ∨ m < 2 ∨ Int.gcd (n : Int) (m : Int) ≠ 1 → ∀ r, x ≠ ntx r := fun k r er => by
        obtain ⟨h1, h2, h3, h4⟩ := two r er
        have hn := dg_inj (eb.symm.trans h3)
        have hm := dg_inj (ec.symm.trans h4)
        have hg := gcd_q r
        have hp := den_pos r
        rcases k with ⟨k1, k2⟩ | k | k
        · have := h1.mp k1
          omega
        · omega
        · apply k
          rw [hn, hm, Int.gcd, Int.natAbs_natCast]
          rw [Int.gcd] at hg
          exact hg
      have good : ¬ (ng = true ∧ n = 0) → ¬ m < 2 → Int.gcd (n : Int) (m : Int) = 1 → R (.d (.tuple [.int (if ng then -(n : Int) else n), .int (m : Int)])) h := fun hn hm hg => by
        obtain ⟨r, er1, er2, eQ⟩ := mkq (if ng then -(n : Int) else n) m (by omega) (by rw [gcd_sg]; exact hg)
        rw [eQ]
        obtain ⟨s1, s2⟩ := sg_num (n := n) er1 hn
        refine q1 r (ntx_of B1 s1 ?_)
        unfold bT
        rw [if_neg (by omega), eb, ec, s2, er2, sl_one]
      unfold wD
      have low : ∀ {K : Vl → Hh → Prop}, ¬ m < 2 → K (.d (.bool (!decide (Int.gcd (n : Int) (m : Int) = 1)))) h → Wo (gNe (.d (Rk.Q (Rat.divInt n m))) (.d (.tuple [.int (n : Int), .int (m : Int)])) h) K := fun hm k => by
        by_cases hg : Int.gcd (n : Int) (m : Int) = 1
        · rw [decide_eq_true hg] at k
          obtain ⟨r, er1, er2, eQ⟩ := mkq n m (by omega) hg
          rw [eQ, ← er1, ← er2, Rat.num_divInt_den]
          exact wo_neSelf (p := true) Ly.Q (by decide) k
        · rw [decide_eq_false hg] at k
          refine wo_neNo Ly.Q (Ly.tup (LyL.cons Ly.int (LyL.cons Ly.int LyL.nil))) (by decide) (by decide) (fun z => hg ?_) k
          have z : PyData.tuple [.int (Rat.divInt n m).num, .int ((Rat.divInt n m).den : Int)] = .tuple [.int (n : Int), .int (m : Int)] := z
          rw [PyData.tuple.injEq, List.cons.injEq, PyData.int.injEq, List.cons.injEq, PyData.int.injEq] at z
          have g := gcd_q (Rat.divInt n m)
          rw [z.1, z.2.1] at g
          exact g
      have m0 : ¬ m < 2 → (m : Int) ≠ 0 := fun z => by omega
      cases ng with
      | true =>
        walk_at "w"
        · rename_i z
          exact q2 (bad (.inl ⟨rfl, by omega⟩))
        · rename_i z z2
          exact q2 (bad (.inr (.inl (by omega))))
        · rename_i z z2
          refine low (by omega) ?_
          by_cases hg : Int.gcd (n : Int) (m : Int) = 1
          · rw [decide_eq_true hg]
            walk_at "w"
            rw [Int.zero_sub]
            exact good (fun k => z (by omega)) (by omega) hg
          · rw [decide_eq_false hg]
            walk_at "w"
            exact q2 (bad (.inr (.inr hg)))
      | false =>
        walk_at "w"
        · rename_i z
          exact q2 (bad (.inr (.inl (by omega))))
        · rename_i z
          refine low (by omega) ?_
          by_cases hg : Int.gcd (n : Int) (m : Int) = 1
          · rw [decide_eq_true hg]
            walk_at "w"
            exact good (fun k => absurd k.1 (by decide)) (by omega) hg
          · rw [decide_eq_false hg]
            walk_at "w"
            exact q2 (bad (.inr (.inr hg)))
theorem wp_law_read (l : x.length ≤ 300) (ax : Asc x) (q1 : ∀ r, x = ntx r → Q (.d (Rk.Q r)) h) (q2 : (∀ r, x ≠ ntx r) → Q (.d .none) h) : Wp (m__law_read [.d (.str x)] h) Q E := by
  have k1 : ∀ r : Rat, x = ntx r → RetK h.length Q (.d (Rk.Q r)) h := fun r e => retK_dd (q1 r e)
  have k2 : (∀ r : Rat, x ≠ ntx r) → RetK h.length Q (.d .none) h := fun no => retK_dd (q2 no)
  have sub : ∀ {u v w : Str}, u.length ≤ 300 → Asc u → u = v ++ ⟨#[47]⟩ ++ w → (v.length ≤ 300 ∧ Asc v) ∧ w.length ≤ 300 ∧ Asc w := fun {u v w} lu au e => by
    have : u.length = v.length + 1 + w.length := by rw [e, Str.length_append, Str.length_append]; rfl
    exact ⟨⟨by omega, fun c hc => au c (by rw [e, app_cps, app_cps]; simp [hc])⟩, by omega, fun c hc => au c (by rw [e, app_cps, app_cps]; simp [hc])⟩
  refine en__law_read ?_
  unfold b__law_read
  rw [tlL_eq]
  walk_at "w"
  refine wp_fz ?_
  walk_at "w"
  refine wo_split (by omega) (by decide +kernel) ?_
  rcases split_cases x with ⟨es, n47⟩ | ⟨a, b, es, ex, n1, n2⟩ | ⟨a, b, c, r, es, n1, z, ex⟩
  · rw [es, List.map_cons, List.map_nil]
    obtain ⟨ng, a', B1, c1, c2, la, sb⟩ := bar_of x
    walk_at "w"
    refine wo_slS (by omega) ?_
    cases ng with
    | true =>
      rw [of_decide_eq_true c1]
      walk_at "w"
      refine wo_slS (by omega) ?_
      rw [c2 rfl]
      walk_at "w"
      refine wp_number_of (by omega) (ax.sub sb) ?_
      walk_at "w"
      exact w_tlL1 B1 (fun m => n47 (sb _ m)) k1 k2
    | false =>
      have c3 := of_decide_eq_false c1
      obtain ⟨rfl, _⟩ := B1.f rfl
      walk_at "w"
      refine wp_number_of (by omega) ax ?_
      walk_at "w"
      exact w_tlL1 (by rw [c1]; exact B1) n47 k1 k2
  · rw [es, List.map_cons, List.map_cons, List.map_nil]
    obtain ⟨⟨la, aa⟩, lb, ab⟩ := sub l ax ex
    obtain ⟨ng, a', B1, c1, c2, la', sb⟩ := bar_of a
    have B2 : Bar x (a' ++ ⟨#[47]⟩ ++ b) ng := by
      have := B1.app (y := ⟨#[47]⟩ ++ b) (by rw [app_cps]; show (47 : Nat) ≠ 45; decide)
      rw [← app_asc, ← app_asc, ← ex] at this
      exact this
    walk_at "w"
    refine wo_slS (by omega) ?_
    cases ng with
    | true =>
      rw [of_decide_eq_true c1]
      walk_at "w"
      refine wo_slS (by omega) ?_
      rw [c2 rfl]
      walk_at "w"
      refine wp_number_of (by omega) (aa.sub sb) ?_
      walk_at "w"
      refine wp_number_of (by omega) ab ?_
      walk_at "w"
      exact w_tlL2 B2 (fun m => n1 (sb _ m)) (by omega) lb k1 k2
    | false =>
      have c3 := of_decide_eq_false c1
      obtain ⟨rfl, _⟩ := B1.f rfl
      walk_at "w"
      refine wp_number_of (by omega) aa ?_
      walk_at "w"
      refine wp_number_of (by omega) ab ?_
      walk_at "w"
      exact w_tlL2 (by rw [c1]; exact B2) n1 (by omega) lb k1 k2
  · rw [es, List.map_cons, List.map_cons, List.map_cons]
    obtain ⟨⟨la, aa⟩, _, _⟩ := sub l ax ex
    obtain ⟨ng, a', B1, c1, c2, la', sb⟩ := bar_of a
    have lr : (a :: b :: c :: r).length ≤ x.length + 2 := by rw [← es]; exact PyProof.Rows.split_le x "/"
    have lm : (r.map PyData.str).length = r.length := List.length_map ..
    simp only [List.length_cons] at lr
    have no : ∀ q : Rat, x ≠ ntx q := fun q e => by
      have B2 : Bar x (a' ++ ⟨#[47]⟩ ++ (b ++ ⟨#[47]⟩ ++ z)) ng := by
        have := B1.app (y := ⟨#[47]⟩ ++ (b ++ ⟨#[47]⟩ ++ z)) (by rw [app_cps]; show (47 : Nat) ≠ 45; decide)
        rw [← app_asc a, ← app_asc a', ← ex] at this
        exact this
      obtain ⟨_, e3⟩ := B2.of e
      obtain ⟨_, _, e4⟩ := bT_two e3.symm (fun m => n1 (sb _ m))
      have : (47 : Nat) ∈ (dg q.den).cps.toList := by rw [← e4, app_cps, app_cps]; simp
      exact dg_no (by decide) this
    walk_at "w"
    refine wo_slS (by omega) ?_
    cases ng with
    | true =>
      rw [of_decide_eq_true c1]
      walk_at "w"
      refine wo_slS (by omega) ?_
      rw [c2 rfl]
      walk_at "w"
      refine wp_number_of (by omega) (aa.sub sb) ?_
      walk_at "w"
      all_goals first | (exfalso; simp only [List.length_cons, List.length_map] at *; omega) | skip
      unfold tlL
      walk_at "w"
      all_goals first | exact q2 no | (exfalso; simp only [List.length_cons, List.length_map] at *; omega)
    | false =>
      have c3 := of_decide_eq_false c1
      obtain ⟨rfl, _⟩ := B1.f rfl
      walk_at "w"
      refine wp_number_of (by omega) aa ?_
      walk_at "w"
      all_goals first | (exfalso; simp only [List.length_cons, List.length_map] at *; omega) | skip
      unfold tlL
      walk_at "w"
      all_goals first | exact q2 no | (exfalso; simp only [List.length_cons, List.length_map] at *; omega)
end

/-! k03: texts that are none -/
structure NotT (d : Da) : Prop where
  e : ∃ x : Str, d = .str x ∧ x.length ≤ 4000 ∧ ∀ r : Rat, x ≠ ntx r
theorem wp_figuresI {h : Hh} {Q : Vl → Hh → Prop} {E : XP} {i : Int} (h0 : 0 ≤ i) (b : Bd 700 i) (q : Q (.d (.str (dg i.natAbs))) h) : Wp (m__law_figures [.d (.int i)] h) Q E := by
  have e : ((i.natAbs : Nat) : Int) = i := by omega
  have := wp_figures (n := i.natAbs) (h := h) (Q := Q) (E := E) (by rw [e]; exact b) q
  rwa [e] at this
theorem lits : ("0" : Str).length = 1 ∧ ("/0" : Str).length = 2 ∧ ("/1" : Str).length = 2 ∧ ("+" : Str).length = 1 ∧ ("--" : Str).length = 2 ∧ (" " : Str).length = 1 ∧ ("/" : Str).length = 1 ∧ ("//2" : Str).length = 3 ∧ ("/-2" : Str).length = 3 ∧ (".0" : Str).length = 2 ∧ ("\n" : Str).length = 1 ∧ ("0/" : Str).length = 2 ∧ ("_" : Str).length = 1 ∧ ("," : Str).length = 1 ∧ ("a" : Str).length = 1 := by decide +kernel
theorem ntx_chars {r : Rat} {c : Nat} (h : c ∈ (ntx r).cps.toList) : c = 45 ∨ (47 ≤ c ∧ c ≤ 57) := by
  have dgc : ∀ n, c ∈ (dg n).cps.toList → 47 ≤ c ∧ c ≤ 57 := fun n hc => by have := dg_digits n c hc; omega
  have bc : c ∈ (bT r).cps.toList → 47 ≤ c ∧ c ≤ 57 := fun hc => by
    unfold bT at hc
    split at hc
    · exact dgc _ hc
    · rw [app_cps, app_cps, sl_one] at hc
      rcases List.mem_append.mp hc with z | z
      · rcases List.mem_append.mp z with z | z
        · exact dgc _ z
        · rw [List.mem_singleton.mp z]; decide
      · exact dgc _ z
  rw [ntx_eq, app_cps] at h
  rcases List.mem_append.mp h with z | z
  · split at z
    · rw [neg_cps] at z
      exact .inl (List.mem_singleton.mp z)
    · rw [emp_cps] at z
      cases z
  · exact .inr (bc z)
theorem nt_char {x : Str} {c : Nat} (h : c ∈ x.cps.toList) (n : ¬ (c = 45 ∨ (47 ≤ c ∧ c ≤ 57))) (r : Rat) : x ≠ ntx r := fun e => n (ntx_chars (r := r) (by rw [← e]; exact h))
theorem bar_dg {n : Nat} (y : Str) : Bar (dg n ++ y) (dg n ++ y) false := ⟨nofun, fun _ => ⟨rfl, fun t z => by
  obtain ⟨c, u, ec, c1, c2, _⟩ := dg_first n
  rw [app_cps, ec] at z
  have := (List.cons.inj z).1
  omega⟩⟩
theorem no47 (n : Nat) : (47 : Nat) ∉ (dg n).cps.toList := dg_no (by decide)
theorem nt_frac {n : Nat} {v : Str} (h : ∀ d, v = dg d → d = 0 ∨ d = 1 ∨ Int.gcd (n : Int) (d : Int) ≠ 1) (r : Rat) : dg n ++ ⟨#[47]⟩ ++ v ≠ ntx r := fun e => by
  obtain ⟨hs, e3⟩ := Bar.of (by rw [app_asc]; exact bar_dg (n := n) (⟨#[47]⟩ ++ v)) e
  obtain ⟨h1, h2, h3⟩ := bT_two (e3.symm.trans (app_asc ..).symm) (no47 n)
  have hg := gcd_q r
  have hp := den_pos r
  rcases h _ h3 with k | k | k
  · omega
  · exact h1 k
  · apply k
    rw [dg_inj h2, Int.gcd, Int.natAbs_natCast]
    rw [Int.gcd] at hg
    exact hg
theorem nt_zero (n : Nat) (r : Rat) : ("0" : Str) ++ dg n ≠ ntx r := fun e => by
  have z : ("0" : Str) = dg 0 := dg_zero.symm
  rw [z] at e
  obtain ⟨hs, e3⟩ := (bar_dg (n := 0) (dg n)).of e
  have m : (47 : Nat) ∉ (bT r).cps.toList := by
    rw [← e3, app_cps]
    intro m
    exact (List.mem_append.mp m).elim (no47 0) (no47 n)
  have e4 := e3.trans (bT_one m).2
  have c := canB_dg r.num.natAbs
  rw [← e4] at c
  unfold canB at c
  rw [Bool.and_eq_true] at c
  have c2 := c.2
  obtain ⟨d, u, ed, _⟩ := dg_first n
  rw [app_cps, dg_zero, zero_cps, ed] at c2
  exact absurd c2 (by simp)
theorem nt_minus {y : Str} (h : ∀ c t, y.cps.toList = c :: t → ¬ (48 ≤ c ∧ c ≤ 57)) (r : Rat) : ("-" : Str) ++ y ≠ ntx r := fun e => by
  have B : Bar (("-" : Str) ++ y) y true := ⟨fun _ => rfl, nofun⟩
  obtain ⟨_, e3⟩ := B.of e
  obtain ⟨c, t, ec, c1, c2⟩ := bT_first r
  exact h c t (by rw [e3]; exact ec) ⟨c1, c2⟩
theorem nt_mzero (r : Rat) : ("-0" : Str) ≠ ntx r := fun e => by
  have B : Bar ("-0" : Str) "0" true := ⟨fun _ => by decide +kernel, nofun⟩
  obtain ⟨hs, e3⟩ := B.of e
  have m : (47 : Nat) ∉ (bT r).cps.toList := by rw [← e3]; decide +kernel
  have e4 := e3.trans (bT_one m).2
  have := dg_inj ((dg_zero).trans e4)
  have := hs.mp rfl
  omega
theorem nt_slash {y : Str} (r : Rat) : ("/" : Str) ++ y ≠ ntx r := fun e => by
  have B : Bar (("/" : Str) ++ y) (("/" : Str) ++ y) false := ⟨nofun, fun _ => ⟨rfl, fun t z => by
    rw [app_cps, sl_one] at z
    exact absurd (List.cons.inj z).1 (by decide)⟩⟩
  obtain ⟨_, e3⟩ := B.of e
  obtain ⟨c, t, ec, c1, c2⟩ := bT_first r
  rw [← e3, app_cps, sl_one] at ec
  have := (List.cons.inj ec).1
  omega
theorem not_dg {v : Str} {c : Nat} (h : c ∈ v.cps.toList) (hc : c < 48) (d : Nat) : v ≠ dg d := fun e => dg_no hc (by rw [← e]; exact h)
theorem nt_all (r : Rat) (p : Nat) (h2 : 2 ≤ p) (hl : (dg r.num.natAbs).length ≤ 700 ∧ (dg r.den).length ≤ 700) (hm : (dg (r.num.natAbs * p)).length ≤ 900 ∧ (dg (r.den * p)).length ≤ 900) (z : Da) (hz : NotT z) :
    ∀ d ∈ ([.str ("0" ++ dg r.num.natAbs), .str (dg r.num.natAbs ++ "/0"), .str (dg r.num.natAbs ++ "/1"), .str ("+" ++ dg r.num.natAbs), .str ("--" ++ dg r.num.natAbs), .str (" " ++ dg r.num.natAbs), .str (dg r.num.natAbs ++ " "), .str (dg r.num.natAbs ++ "/"),
      .str ("/" ++ dg r.num.natAbs), .str (dg r.num.natAbs ++ "//2"), .str (dg r.num.natAbs ++ "/-2"), .str (dg r.num.natAbs ++ ".0"), .str "", .str "-", .str "-0", .str "x", .str (dg r.num.natAbs ++ "\n"), .str "1e2", .str ("0/" ++ dg r.den),
      .str (dg (r.num.natAbs * p) ++ "/" ++ dg (r.den * p)), z] : List Da), NotT d := by
  obtain ⟨t1, t2, t3, t4, t5, t6, t7, t8, t9, t10, t11, t12, t13, t14, t15⟩ := lits
  have hd := den_pos r
  intro d hd
  simp only [List.mem_cons, List.not_mem_nil, or_false] at hd
  have mk : ∀ {x : Str}, x.length ≤ 4000 → (∀ r, x ≠ ntx r) → NotT (.str x) := fun a b => ⟨_, rfl, a, b⟩
  have fr : ∀ {n : Nat} {w v : Str}, w = ("/" : Str) ++ v → (∀ d, v = dg d → d = 0 ∨ d = 1 ∨ Int.gcd (n : Int) (d : Int) ≠ 1) → ∀ r : Rat, dg n ++ w ≠ ntx r := fun e k r => by
    rw [e, ← app_asc, sl_one]
    exact nt_frac k r
  rcases hd with rfl | rfl | rfl | rfl | rfl | rfl | rfl | rfl | rfl | rfl | rfl | rfl | rfl | rfl | rfl | rfl | rfl | rfl | rfl | rfl | rfl
  · exact mk (by rw [Str.length_append]; omega) (nt_zero _)
  · exact mk (by rw [Str.length_append]; omega) (fr (v := "0") (by decide +kernel) fun d e => .inl (dg_inj (dg_zero.trans e)).symm)
  · exact mk (by rw [Str.length_append]; omega) (fr (v := "1") (by decide +kernel) fun d e => .inr (.inl (dg_inj ((show dg 1 = "1" by decide +kernel).trans e)).symm))
  · exact mk (by rw [Str.length_append]; omega) (nt_char (c := 43) (by rw [app_cps]; exact List.mem_append_left _ (by decide +kernel)) (by decide))
  · refine mk (by rw [Str.length_append]; omega) ?_
    rw [show ("--" : Str) = "-" ++ "-" by decide +kernel, app_asc]
    exact nt_minus fun c t e => by
      rw [app_cps, neg_cps] at e
      have := (List.cons.inj e).1
      omega
  · exact mk (by rw [Str.length_append]; omega) (nt_char (c := 32) (by rw [app_cps]; exact List.mem_append_left _ (by decide +kernel)) (by decide))
  · exact mk (by rw [Str.length_append]; omega) (nt_char (c := 32) (by rw [app_cps]; exact List.mem_append_right _ (by decide +kernel)) (by decide))
  · exact mk (by rw [Str.length_append]; omega) (fr (v := "") (by decide +kernel) fun d e => absurd (by rw [← e]; exact emp_cps) (dg_ne d))
  · exact mk (by rw [Str.length_append]; omega) nt_slash
  · exact mk (by rw [Str.length_append]; omega) (fr (v := "/2") (by decide +kernel) fun d e => absurd e (not_dg (c := 47) (by decide +kernel) (by decide) d))
  · exact mk (by rw [Str.length_append]; omega) (fr (v := "-2") (by decide +kernel) fun d e => absurd e (not_dg (c := 45) (by decide +kernel) (by decide) d))
  · exact mk (by rw [Str.length_append]; omega) (nt_char (c := 46) (by rw [app_cps]; exact List.mem_append_right _ (by decide +kernel)) (by decide))
  · refine mk (by decide +kernel) fun r e => ?_
    obtain ⟨c, t, ec, _⟩ := bT_first r
    have := congrArg (fun x : Str => x.cps.toList) e
    simp only [ntx_eq, app_cps, ec, emp_cps] at this
    exact absurd this (by simp)
  · refine mk (by decide +kernel) ?_
    rw [show ("-" : Str) = "-" ++ "" by decide +kernel]
    exact nt_minus fun c t e => by rw [emp_cps] at e; cases e
  · exact mk (by decide +kernel) nt_mzero
  · exact mk (by decide +kernel) (nt_char (c := 120) (by decide +kernel) (by decide))
  · exact mk (by rw [Str.length_append]; omega) (nt_char (c := 10) (by rw [app_cps]; exact List.mem_append_right _ (by decide +kernel)) (by decide))
  · exact mk (by decide +kernel) (nt_char (c := 101) (by decide +kernel) (by decide))
  · refine mk (by rw [Str.length_append]; omega) ?_
    rw [show ("0/" : Str) = dg 0 ++ ⟨#[47]⟩ by decide +kernel]
    exact nt_frac fun d e => by
      by_cases d1 : d = 1
      · exact .inr (.inl d1)
      · refine .inr (.inr ?_)
        rw [Int.gcd, Int.natAbs_natCast, Int.natAbs_natCast, Nat.gcd_zero_left]
        exact d1
  · refine mk (by rw [Str.length_append, Str.length_append]; omega) ?_
    rw [sl_one]
    exact nt_frac fun d e => .inr (.inr fun g => by
      rw [← dg_inj e, Int.gcd, Int.natAbs_natCast, Int.natAbs_natCast, Nat.gcd_mul_right] at g
      have := Nat.eq_one_of_mul_eq_one_left g
      omega)
  · exact hz
structure OneC (d : Da) : Prop where
  e : ∃ c : Nat, d = .str ⟨#[c]⟩ ∧ ¬ (c = 45 ∨ (47 ≤ c ∧ c ≤ 57))
theorem oneC_all : ∀ d ∈ ([.str "_", .str ",", .str "a", .str " "] : List Da), OneC d := by
  intro d hd
  simp only [List.mem_cons, List.not_mem_nil, or_false] at hd
  rcases hd with rfl | rfl | rfl | rfl
  · exact ⟨95, by rw [show ("_" : Str) = ⟨#[95]⟩ by decide +kernel], by decide⟩
  · exact ⟨44, by rw [show ("," : Str) = ⟨#[44]⟩ by decide +kernel], by decide⟩
  · exact ⟨97, by rw [show ("a" : Str) = ⟨#[97]⟩ by decide +kernel], by decide⟩
  · exact ⟨32, by rw [show (" " : Str) = ⟨#[32]⟩ by decide +kernel], by decide⟩
theorem cut_len (x : Str) (lo hi : Option Int) : (cutS x lo hi).length ≤ x.length := by
  rw [← len_cps, ← len_cps]
  unfold cutS
  simp only [List.length_drop, List.length_take]
  omega
section
local macro_rules | `(tactic| walk_at "woc") => `(tactic| (apply wo_addS; exact (by first | omega | (simp only [Str.length_append]; omega))))
theorem wp_bent {K n : Nat} {xs : List Da} {h : Hh} {Q : Vl → Hh → Prop} {E : XP} {r : Rat} (st : Strm K xs) (hn : n < h.length) (hK : K + 5 < 2 ^ 30) (br : BQ 340 r)
    (q : ∀ (d : Da) (xs' : List Da), NotT d → Strm (K + 5) xs' → Q (.d d) (h.set n (some (.lst xs')))) : Wp (m__law_bent [.r n, .d (Rk.Q r)] (h.set n (some (.lst xs)))) Q E := by
  have bn := br.nu
  have bd := br.dn
  have dp := den_pos r
  have p : (2 : Nat) ^ 700 ≤ 10 ^ 700 := Nat.pow_le_pow_left (by decide) 700
  have l1 : (dg r.num.natAbs).length ≤ 700 := dg_small (by decide) (Nat.lt_of_lt_of_le (show r.num.natAbs < 2 ^ 700 from bn.mono (by decide)) p)
  have l2 : (dg r.den).length ≤ 700 := dg_small (by decide) (Nat.lt_of_lt_of_le (show r.den < 2 ^ 700 from bd.mono (by decide)) p)
  obtain ⟨t1, t2, t3, t4, t5, t6, t7, t8, t9, t10, t11, t12, t13, t14, t15⟩ := lits
  rw [show Rk.Q r = .tuple [.int r.num, .int (r.den : Int)] from rfl]
  refine en__law_bent ?_
  unfold b__law_bent
  walk_at "w"
  refine wp_figuresI (by omega) (bn.abs.mono (by decide)) ?_
  rw [Int.natAbs_natCast]
  walk_at "w"
  refine wp_figuresI (by omega) (bd.mono (by decide)) ?_
  rw [Int.natAbs_natCast]
  walk_at "w"
  rename_i v S1 v0 v1 vb st1 hh
  obtain ⟨u, rfl⟩ : ∃ u : Nat, v = (u : Int) := ⟨v.toNat, by omega⟩
  have e1 : (r.num.natAbs : Int) * (2 + (u : Int)) = ((r.num.natAbs * (2 + u) : Nat) : Int) := by rw [Int.natCast_mul]; rfl
  have e2 : (r.den : Int) * (2 + (u : Int)) = ((r.den * (2 + u) : Nat) : Int) := by rw [Int.natCast_mul]; rfl
  have bu : Bd 62 (2 + (u : Int)) := by
    have : (2 : Nat) ^ 62 = 4611686018427387904 := by decide
    show (2 + (u : Int)).natAbs < 2 ^ 62
    omega
  have b1 : Bd 700 ((r.num.natAbs * (2 + u) : Nat) : Int) := by rw [← e1]; exact (bn.abs.mul bu).mono (by decide)
  have b2 : Bd 700 ((r.den * (2 + u) : Nat) : Int) := by rw [← e2]; exact (bd.mul bu).mono (by decide)
  have l3 : (dg (r.num.natAbs * (2 + u))).length ≤ 700 := dg_small (by decide) (Nat.lt_of_lt_of_le (show _ < 2 ^ 700 from b1) p)
  have l4 : (dg (r.den * (2 + u))).length ≤ 700 := dg_small (by decide) (Nat.lt_of_lt_of_le (show _ < 2 ^ 700 from b2) p)
  rw [e1]
  refine wp_figures b1 ?_
  walk_at "w"
  rw [e2]
  refine wp_figures b2 ?_
  walk_at "w"
  have lT : (dg r.num.natAbs ++ ("/" : Str) ++ dg r.den).length ≤ 1500 := by simp only [Str.length_append]; omega
  generalize dg r.num.natAbs ++ ("/" : Str) ++ dg r.den = T at lT ⊢
  refine wo_lenS (by omega) ?_
  walk_at "w"
  refine wp_take st1 (by rw [List.length_append]; omega) (by omega) (by omega) (Int.lt_of_le_of_lt (show (T.length : Int) + 1 ≤ 1501 by omega) (by decide)) fun v2 S2 v20 v21 vb2 st2 => ?_
  walk_at "w"
  refine wo_slS (by omega) ?_
  walk_at "w"
  refine wp_take st2 (by rw [List.length_append]; omega) (by omega) (by decide) (by decide) fun v3 S3 v30 v31 vb3 st3 => ?_
  walk_at "w"
  refine wo_menu OneC v30 (by exact v31) oneC_all ?_
  rintro _ ⟨c, rfl, hc⟩
  have lc1 : (⟨#[c]⟩ : Str).length = 1 := rfl
  have la := cut_len T none (some v2)
  have lb := cut_len T (some v2) none
  walk_at "w"
  refine wo_slS (by omega) ?_
  walk_at "w"
  have nz : NotT (.str (cutS T none (some v2) ++ ⟨#[c]⟩ ++ cutS T (some v2) none)) := ⟨_, rfl, by rw [Str.length_append, Str.length_append]; omega, nt_char (c := c) (by rw [app_cps, app_cps]; simp) hc⟩
  have all := nt_all r (2 + u) (by omega) ⟨l1, l2⟩ ⟨by omega, by omega⟩ _ nz
  refine ws_frzS hn (by rw [List.length_set]) rfl ?_
  walk_at "w"
  refine wp_take st3 (by rw [List.length_append]; omega) (by omega) (by decide) (by decide) fun v4 S4 v40 v41 vb4 st4 => ?_
  walk_at "w"
  refine wo_menu NotT v40 (by exact v41) all ?_
  intro d hd
  exact retK_S hn (by rw [List.length_set]) (q d S4 hd (Strm.mono st4 (by omega)))
end

/-! k03: signs put in, exchanged, left out -/
theorem len300 {r : Rat} (h : (ntx r).length ≤ 300) : r.num.natAbs < 10 ^ 300 ∧ r.den < 10 ^ 300 := by
  have h : (bT r).length ≤ 300 := by rw [ntx_eq, Str.length_append] at h; omega
  unfold bT at h
  split at h
  · rename_i d
    refine ⟨dg_big 300 _ (by omega), ?_⟩
    rw [d]
    decide +kernel
  · rw [Str.length_append, Str.length_append] at h
    exact ⟨dg_big 300 _ (by omega), dg_big 300 _ (by omega)⟩
theorem p300 : (10 : Nat) ^ 300 ≤ 2 ^ 1000 := by decide +kernel
theorem bq300 {r : Rat} (h : (ntx r).length ≤ 300) : BQ 1000 r := ⟨Nat.lt_of_lt_of_le (len300 h).1 p300, Nat.lt_of_lt_of_le (len300 h).2 p300⟩
theorem sm300 {r : Rat} (h : (ntx r).length ≤ 300) : r.num.natAbs < 10 ^ 601 ∧ r.den < 10 ^ 601 := by
  have p : (10 : Nat) ^ 300 < 10 ^ 601 := Nat.pow_lt_pow_right (by decide) (by decide)
  exact ⟨Nat.lt_trans (len300 h).1 p, Nat.lt_trans (len300 h).2 p⟩
theorem ntx_inj {r s : Rat} (e : ntx r = ntx s) : r = s := by
  obtain ⟨ng, b, B, _⟩ := bar_of (ntx r)
  obtain ⟨h1, e1⟩ := B.of (r := r) rfl
  obtain ⟨h2, e2⟩ := B.of (r := s) e
  have eb : bT r = bT s := e1.symm.trans e2
  have ds : r.den = s.den ∧ r.num.natAbs = s.num.natAbs := by
    by_cases d : s.den = 1
    · have n47 : (47 : Nat) ∉ (bT r).cps.toList := by rw [eb]; unfold bT; rw [if_pos d]; exact no47 _
      obtain ⟨d2, e3⟩ := bT_one n47
      obtain ⟨_, e4⟩ := bT_one (r := s) (by rw [← eb]; exact n47)
      exact ⟨d2.trans d.symm, dg_inj (e3.symm.trans (eb.trans e4))⟩
    · have e5 : bT s = dg s.num.natAbs ++ ⟨#[47]⟩ ++ dg s.den := by unfold bT; rw [if_neg d, sl_one]
      obtain ⟨_, e6, e7⟩ := bT_two (eb.trans e5) (no47 _)
      exact ⟨(dg_inj e7).symm, (dg_inj e6).symm⟩
  refine Rat.ext ?_ ds.1
  cases ng with
  | true => have := h1.mp rfl; have := h2.mp rfl; omega
  | false =>
    have g1 : ¬ r.num < 0 := fun z => by simp [z] at h1
    have g2 : ¬ s.num < 0 := fun z => by simp [z] at h2
    omega
theorem cut_to_len {x : Str} {v : Int} (v0 : 0 ≤ v) (v1 : v ≤ x.length) : (cutS x none (some v)).length = v.toNat := by
  have h1 : HT.sIx x.length x.length (some v) = v.toNat := by unfold HT.sIx; dsimp only; rw [if_neg (by omega)]; omega
  have h0 : HT.sIx x.length 0 none = 0 := rfl
  rw [← len_cps]
  unfold cutS
  rw [h1, h0]
  simp only [List.drop_zero, List.length_take, Nat.sub_zero]
  rw [len_cps]
  omega
theorem cut_from_len {x : Str} {v : Int} (v0 : 0 ≤ v) : (cutS x (some v) none).length ≤ x.length - v.toNat := by
  have h1 : min v.toNat x.length ≤ HT.sIx x.length 0 (some v) := by unfold HT.sIx; dsimp only; rw [if_neg (by omega)]; omega
  rw [← len_cps]
  unfold cutS
  simp only [List.length_take, List.length_drop]
  rw [len_cps]
  omega
structure Wrd (d : Da) : Prop where
  e : ∃ w : Str, d = .str w ∧ w.length ≤ 300 ∧ Asc w
theorem lit_at : ∀ k, k < 21 → ∃ c, ("0123456789-/0-/ .+e_," : Str).cps.toList[k]? = some c ∧ c < 256 := by
  have all : ∀ k, k < 21 → (match ("0123456789-/0-/ .+e_," : Str).cps.toList[k]? with | some c => decide (c < 256) | none => false) = true := by decide +kernel
  intro k hk
  have := all k hk
  cases e : ("0123456789-/0-/ .+e_," : Str).cps.toList[k]? with
  | none => rw [e] at this; cases this
  | some c => rw [e] at this; exact ⟨c, rfl, of_decide_eq_true this⟩
theorem cut_asc {x : Str} (a : Asc x) (lo hi : Option Int) : Asc (cutS x lo hi) := a.sub fun c hc => by
  unfold cutS at hc
  exact List.mem_of_mem_drop (List.mem_of_mem_take hc)
section
variable {h : Hh} {Q : Vl → Hh → Prop} {E : XP} {N : En → Hh → Prop} {R : Vl → Hh → Prop} {B C : En → Hh → Prop} {X : Str → List (Str × Da) → En → Hh → Prop} {K n : Nat} {xs : List Da} {x : Str}
local macro_rules | `(tactic| walk_at "woc") => `(tactic| (apply wo_addS; exact (by first | omega | (simp only [Str.length_append]; omega))))
theorem w_put (st : Strm K xs) (hn : n < h.length) (hK : K + 5 < 2 ^ 30) (lx : x.length ≤ 290) (ax : Asc x) {k : Nat} (hk : k < 4) {a3 a4 a5 : Option Vl}
    (q : ∀ xs' a3 a4 a5, Strm (K + 2) xs' → N [some (.r n), some (.d (.str x)), some (.d (.int (k : Int))), a3, a4, a5] (h.set n (some (.lst xs')))) :
    Ws (bl__law_put_right_1 [some (.r n), some (.d (.str x)), some (.d (.int (k : Int))), a3, a4, a5] (h.set n (some (.lst xs)))) N ⟨R, B, C, X⟩ := by
  unfold bl__law_put_right_1
  walk_at "w"
  refine wo_lenS (by omega) ?_
  walk_at "w"
  rename_i v S1 v0 v1 vb st1 v2 S2 v20 v21 vb2 st2
  obtain ⟨c, ec, hc⟩ := lit_at v2.toNat (by omega)
  refine wo_ixS (c := c) (by decide +kernel) ec v20 ?_
  have lc1 : (⟨#[c]⟩ : Str).length = 1 := rfl
  have l1 := cut_to_len (x := x) v0 (by omega)
  have l2 := cut_from_len (x := x) v0
  have l3 := cut_from_len (x := x) (v := v + 1) (by omega)
  have a1 := cut_asc ax none (some v)
  have a2 := cut_asc ax (some v) none
  have a3 := cut_asc ax (some (v + 1)) none
  have ac : Asc ⟨#[c]⟩ := fun d hd => by rw [List.mem_singleton.mp hd]; exact hc
  walk_at "w"
  refine wo_slS (by omega) ?_
  walk_at "w"
  iterate 5 (refine wo_slS (by omega) ?_; walk_at "w")
  refine wo_menu Wrd (by omega) (show (k : Int) % 3 < 3 by omega) (fun d hd => ?_) ?_
  · simp only [List.mem_cons, List.not_mem_nil, or_false] at hd
    rcases hd with rfl | rfl | rfl
    · exact ⟨_, rfl, by rw [Str.length_append, Str.length_append]; omega, (a1.app ac).app a2⟩
    · exact ⟨_, rfl, by rw [Str.length_append, Str.length_append]; omega, (a1.app ac).app a3⟩
    · exact ⟨_, rfl, by rw [Str.length_append]; omega, a1.app a3⟩
  rintro _ ⟨w, rfl, lw, aw⟩
  walk_at "w"
  have q' := q S2 (some (.d (.int v))) (some (.d (.str ⟨#[c]⟩))) (some (.d (.str w))) (Strm.mono st2 (by omega))
  by_cases ex : ∃ r : Rat, w = ntx r
  · obtain ⟨r, rfl⟩ := ex
    have bq := bq300 lw
    have sm := sm300 lw
    refine wp_number_any (by omega) (fun s s1 s2 es => ?_) fun no => absurd rfl (no r sm.1 sm.2)
    have bs := bq300 (by rw [← es]; exact lw)
    walk_at "w"
    refine wp_law_read lw aw (fun s' es' => ?_) fun no => absurd rfl (no r)
    have e2 : s' = s := ntx_inj (es'.symm.trans es)
    subst e2
    walk_at "w"
    exact q'
  · have no : ∀ r : Rat, w ≠ ntx r := fun r e => ex ⟨r, e⟩
    refine wp_number_any (by omega) (fun s s1 s2 es => absurd es (no s)) fun _ => ?_
    walk_at "w"
    refine wp_law_read lw aw (fun s es => absurd es (no s)) fun _ => ?_
    walk_at "w"
    exact q'
theorem wp_put (st : Strm K xs) (hn : n < h.length) (hK : K + 20 < 2 ^ 30) (lx : x.length ≤ 290) (ax : Asc x)
    (q : ∀ xs', Strm (K + 8) xs' → Q (.d (.bool true)) (h.set n (some (.lst xs')))) :
    Wp (m__law_put_right [.r n, .d (.str x)] (h.set n (some (.lst xs)))) Q E := by
  refine en__law_put_right ?_
  unfold b__law_put_right
  walk_at "w"
  refine w_put (k := 0) st hn (by omega) lx ax (by decide) fun x1 _ _ _ st1 => ?_
  walk_at "w"
  refine w_put (k := 1) st1 hn (by omega) lx ax (by decide) fun x2 _ _ _ st2 => ?_
  walk_at "w"
  refine w_put (k := 2) st2 hn (by omega) lx ax (by decide) fun x3 _ _ _ st3 => ?_
  walk_at "w"
  refine w_put (k := 3) st3 hn (by omega) lx ax (by decide) fun x4 _ _ _ st4 => ?_
  walk_at "w"
  exact q x4 st4
end

/-! k03: long figures -/
noncomputable def tlG : Sv := sSeq (sSet 3 (eOp gIx (eFz (eLst (aCons (eVar 2) (aCons (eOp gAdd (eD (.str "-")) (eVar 2)) (aCons (eOp gAdd (eVar 2) (eD (.str "/2"))) (aCons (eOp gAdd (eD (.str "-3/")) (eVar 2)) (aCons (eOp gAdd (eD (.str "1/")) (eVar 2)) (aNil)))))))) (eCall m__law_take (aCons (eVar 0) (aCons (eD (.int 5)) (aNil))))))
    (sSeq (sSet 4 (eCall m_number_in (aCons (eVar 3) (aNil))))
    (sSeq (sIf (eT (eOp (gInt fGt) (eVar 1) (eD (.int 601)))) (sRet (eOp gIsN (eVar 4) (eD .none))) (sNil))
    (sRet (eAnd (eIsi .tuple (eVar 4)) (eOp gEq (eCall m_number_text (aCons (eVar 4) (aNil))) (eVar 3))))))
theorem tlG_eq : sSeq (sSet 3 (eOp gIx (eFz (eLst (aCons (eVar 2) (aCons (eOp gAdd (eD (.str "-")) (eVar 2)) (aCons (eOp gAdd (eVar 2) (eD (.str "/2"))) (aCons (eOp gAdd (eD (.str "-3/")) (eVar 2)) (aCons (eOp gAdd (eD (.str "1/")) (eVar 2)) (aNil)))))))) (eCall m__law_take (aCons (eVar 0) (aCons (eD (.int 5)) (aNil))))))
    (sSeq (sSet 4 (eCall m_number_in (aCons (eVar 3) (aNil))))
    (sSeq (sIf (eT (eOp (gInt fGt) (eVar 1) (eD (.int 601)))) (sRet (eOp gIsN (eVar 4) (eD .none))) (sNil))
    (sRet (eAnd (eIsi .tuple (eVar 4)) (eOp gEq (eCall m_number_text (aCons (eVar 4) (aNil))) (eVar 3)))))) = tlG := rfl
structure WordP (L : Nat) (d : Da) : Prop where
  e : ∃ N : Nat, d = .str (dg N) ∧ (dg N).length = L ∧ N % 2 = 1 ∧ N % 3 = 2
structure FormT (N : Nat) (d : Da) : Prop where
  e : ∃ t : Str, d = .str t ∧ t.length ≤ 5100 ∧ ∃ r : Rat, t = ntx r ∧ ((r.num.natAbs = N ∧ r.den ≤ 2) ∨ (r.num.natAbs ≤ 3 ∧ r.den = N))
theorem ntx_mk {i : Int} {m : Nat} (hm : 0 < m) (g : Int.gcd i (m : Int) = 1) : ∃ r : Rat, r.num = i ∧ r.den = m ∧ ntx r = (if i < 0 then ("-" : Str) else "") ++ (if m = 1 then dg i.natAbs else dg i.natAbs ++ "/" ++ dg m) := by
  obtain ⟨r, h1, h2, _⟩ := mkq i m hm g
  exact ⟨r, h1, h2, by rw [ntx_eq]; unfold bT; rw [h1, h2]⟩
theorem forms (N : Nat) (h2 : N % 2 = 1) (h3 : N % 3 = 2) (hl : (dg N).length ≤ 5000) : ∀ d ∈ ([.str (dg N), .str ("-" ++ dg N), .str (dg N ++ "/2"), .str ("-3/" ++ dg N), .str ("1/" ++ dg N)] : List Da), FormT N d := by
  have c2 : Nat.gcd N 2 = 1 := by rw [Nat.gcd_comm, Nat.gcd_rec, h2]; decide
  have c3 : Nat.gcd 3 N = 1 := by rw [Nat.gcd_rec, h3]; decide
  have a1 : ("-" : Str).length = 1 := by decide +kernel
  have a2 : ("/2" : Str).length = 2 := by decide +kernel
  have a3 : ("-3/" : Str).length = 3 := by decide +kernel
  have a4 : ("1/" : Str).length = 2 := by decide +kernel
  have d2 : dg 2 = "2" := by decide +kernel
  have d1 : dg 1 = "1" := by decide +kernel
  have d3 : dg 3 = "3" := by decide +kernel
  intro d hd
  simp only [List.mem_cons, List.not_mem_nil, or_false] at hd
  rcases hd with rfl | rfl | rfl | rfl | rfl
  · obtain ⟨r, e1, e2, e3⟩ := ntx_mk (i := (N : Int)) (m := 1) (by decide) (by rw [Int.gcd, Int.natAbs_natCast]; exact Nat.gcd_one_right _)
    refine ⟨_, rfl, by omega, r, ?_, .inl ⟨by rw [e1, Int.natAbs_natCast], by omega⟩⟩
    rw [e3, if_neg (by omega), if_pos rfl, emp_app, Int.natAbs_natCast]
  · obtain ⟨r, e1, e2, e3⟩ := ntx_mk (i := -(N : Int)) (m := 1) (by decide) (by rw [Int.neg_gcd, Int.gcd, Int.natAbs_natCast]; exact Nat.gcd_one_right _)
    refine ⟨_, rfl, by rw [Str.length_append]; omega, r, ?_, .inl ⟨by rw [e1, Int.natAbs_neg, Int.natAbs_natCast], by omega⟩⟩
    rw [e3, if_pos (by omega), if_pos rfl, Int.natAbs_neg, Int.natAbs_natCast]
  · obtain ⟨r, e1, e2, e3⟩ := ntx_mk (i := (N : Int)) (m := 2) (by decide) (by rw [Int.gcd, Int.natAbs_natCast]; exact c2)
    refine ⟨_, rfl, by rw [Str.length_append]; omega, r, ?_, .inl ⟨by rw [e1, Int.natAbs_natCast], by omega⟩⟩
    rw [e3, if_neg (by omega), if_neg (by decide), emp_app, Int.natAbs_natCast, d2, app_asc]
    rfl
  · obtain ⟨r, e1, e2, e3⟩ := ntx_mk (i := -3) (m := N) (by omega) (by rw [Int.gcd, Int.natAbs_natCast]; exact c3)
    refine ⟨_, rfl, by rw [Str.length_append]; omega, r, ?_, .inr ⟨by rw [e1]; decide, e2⟩⟩
    rw [e3, if_pos (by decide), if_neg (by omega), show (-3 : Int).natAbs = 3 from rfl, d3, ← app_asc, ← app_asc]
    rfl
  · obtain ⟨r, e1, e2, e3⟩ := ntx_mk (i := 1) (m := N) (by omega) (by rw [Int.gcd, Int.natAbs_natCast]; exact Nat.gcd_one_left _)
    refine ⟨_, rfl, by rw [Str.length_append]; omega, r, ?_, .inr ⟨by rw [e1]; decide, e2⟩⟩
    rw [e3, if_neg (by decide), if_neg (by omega), show (1 : Int).natAbs = 1 from rfl, d1, emp_app]
    rfl
def lw (L : Int) (e : Str) : Str := ("1" : Str) ++ Txt.mul "0" (L - 2) ++ e
theorem dvz (k : Nat) : PySem.NumText.digitsVal (49 :: List.replicate k 48) = 10 ^ k := by
  induction k with
  | zero => decide
  | succ k ih =>
    rw [List.replicate_succ', ← List.cons_append, dv_snoc, ih, Nat.pow_succ]
    rfl
theorem p3 (k : Nat) : 10 ^ k % 3 = 1 := by
  rw [Nat.pow_mod]
  show 1 ^ k % 3 = 1
  rw [Nat.one_pow]
theorem lw_cps (L : Int) (e : Str) : (lw L e).cps.toList = 49 :: (List.replicate (L - 2).toNat 48 ++ e.cps.toList) := by
  unfold lw
  rw [app_cps, app_cps, show ("0" : Str) = ⟨#[48]⟩ by decide +kernel, PyProof.Rows.mul_one_list, show ("1" : Str).cps.toList = [49] by decide +kernel]
  rfl
theorem words (L : Int) (hL : 2 ≤ L) (h5 : L ≤ 5000) (e : Str) (he : e = "1" ∨ e = "7") : WordP L.toNat (.str (lw L e)) ∧ mulSB "0" (L - 2) = true ∧ (Txt.mul "0" (L - 2)).length ≤ 5000 := by
  obtain ⟨c, ec, hc⟩ : ∃ c, e.cps.toList = [c] ∧ (c = 49 ∨ c = 55) := by
    rcases he with rfl | rfl
    · exact ⟨49, by decide +kernel, .inl rfl⟩
    · exact ⟨55, by decide +kernel, .inr rfl⟩
  have e1 := lw_cps L e
  rw [ec] at e1
  have z48 : ∀ c : Nat, 48 ≤ c → c ≤ 57 → decide (c ∈ FIG.cps.toList) = true := fun c a b => decide_eq_true (fig_in c a b)
  have k1 : canB (lw L e) = true := by
    unfold canB
    rw [e1, List.all_cons, z48 49 (by decide) (by decide), List.all_append, List.all_cons, z48 c (by omega) (by omega), List.all_nil, List.all_eq_true.mpr fun d hd => by rw [(List.mem_replicate.mp hd).2]; exact z48 48 (by decide) (by decide)]
    rfl
  have k2 : (lw L e).length = L.toNat := by
    rw [← len_cps, e1, List.length_cons, List.length_append, List.length_replicate, List.length_singleton]
    omega
  have kv : PySem.NumText.digitsVal (lw L e).cps.toList = 10 ^ (L - 2).toNat * 10 + (c - 48) := by rw [e1, ← List.cons_append, dv_snoc, dvz]
  have k3 := p3 (L - 2).toNat
  have ez := canB_dg' k1
  refine ⟨⟨_, by rw [← ez], by rw [← ez]; exact k2, ?_, ?_⟩, ?_, ?_⟩
  · rw [kv]
    generalize 10 ^ (L - 2).toNat = M
    omega
  · rw [kv]
    generalize 10 ^ (L - 2).toNat = M at *
    omega
  · unfold mulSB
    rw [decide_eq_true (show ("0" : Str).length ≤ 16 by decide +kernel), decide_eq_true (show 0 ≤ L - 2 by omega), decide_eq_true (show L - 2 ≤ 1000000 by omega)]
    rfl
  · rw [← len_cps, show ("0" : Str) = ⟨#[48]⟩ by decide +kernel, PyProof.Rows.mul_one_list, List.length_replicate]
    omega
section
variable {h : Hh} {Q : Vl → Hh → Prop} {E : XP} {N : En → Hh → Prop} {R : Vl → Hh → Prop} {B C : En → Hh → Prop} {X : Str → List (Str × Da) → En → Hh → Prop} {K n : Nat} {xs : List Da}
local macro_rules | `(tactic| walk_at "woc") => `(tactic| (apply wo_addS; exact (by first | omega | (simp only [Str.length_append]; omega))))
theorem w_tlG {L : Nat} (hL : L ≤ 601 ∨ 602 ≤ L) (h5 : L ≤ 5000) (st : Strm K xs) (hn : n < h.length) (hK : K + 5 < 2 ^ 30) {w : Da} (hw : WordP L w)
    (q : ∀ xs', Strm (K + 2) xs' → R (.d (.bool true)) (h.set n (some (.lst xs')))) :
    Ws (tlG [some (.r n), some (.d (.int (L : Int))), some (.d w), none, none] (h.set n (some (.lst xs)))) N ⟨R, B, C, X⟩ := by
  obtain ⟨M, rfl, hl, m2, m3⟩ := hw
  have a1 : ("-" : Str).length = 1 := by decide +kernel
  have a2 : ("/2" : Str).length = 2 := by decide +kernel
  have a3 : ("-3/" : Str).length = 3 := by decide +kernel
  have a4 : ("1/" : Str).length = 2 := by decide +kernel
  unfold tlG
  walk_at "w"
  rename_i v S1 v0 v1 vb st1
  have q' := q S1 (Strm.mono st1 (by omega))
  refine wo_menu (FormT M) v0 (by exact v1) (forms M m2 m3 (by omega)) ?_
  rintro _ ⟨t, rfl, lt, r, rfl, hr⟩
  walk_at "w"
  refine wp_number_any (by omega) (fun s s1 s2 es => ?_) fun no => ?_
  · have e := ntx_inj es
    subst e
    have hM : M < 10 ^ 601 := by rcases hr with ⟨e, _⟩ | ⟨_, e⟩ <;> rw [← e] <;> assumption
    have := dg_small (by decide) hM
    walk_at "w"
    refine wp_number_textB ⟨s1, s2⟩ ?_
    walk_at "w"
    exact q'
  · have p3 : 3 < (10 : Nat) ^ 601 := by decide +kernel
    have big : 602 ≤ L := by
      rcases hL with z | z
      · exfalso
        have hM := dg_big 601 M (by omega)
        rcases hr with ⟨e1, e2⟩ | ⟨e1, e2⟩
        · exact no r (by rw [e1]; exact hM) (Nat.lt_of_le_of_lt e2 (Nat.lt_trans (by decide) p3)) rfl
        · exact no r (Nat.lt_of_le_of_lt e1 p3) (by rw [e2]; exact hM) rfl
      · exact z
    walk_at "w"
    exact q'
theorem retK_set {o : Option Ob} {o' : Option Ob} {x : Da} (q : Q (.d x) (h.set n o)) : RetK (h.set n o').length Q (.d x) (h.set n o) := by
  rw [List.length_set]
  exact ⟨.d x, h.set n o, by show Out.ok _ _ = _; rw [List.take_of_length_le (by rw [List.length_set]; exact Nat.le_refl _)], q⟩
theorem wp_long (st : Strm K xs) (hn : n < h.length) (hK : K + 10 < 2 ^ 30)
    (q : ∀ xs', Strm (K + 4) xs' → Q (.d (.bool true)) (h.set n (some (.lst xs')))) :
    Wp (m__law_long_right [.r n] (h.set n (some (.lst xs)))) Q E := by
  have l1 : ("1" : Str).length = 1 := by decide +kernel
  have l7 : ("7" : Str).length = 1 := by decide +kernel
  refine en__law_long_right ?_
  unfold b__law_long_right
  rw [tlG_eq]
  walk_at "w"
  rename_i v S1 v0 v1 vb st1
  refine wo_menu (fun d => ∃ L : Int, d = .int L ∧ 2 ≤ L ∧ L ≤ 5000 ∧ (L ≤ 601 ∨ 602 ≤ L)) v0 (by exact v1) (fun d hd => ?_) ?_
  · simp only [List.mem_cons, List.not_mem_nil, or_false] at hd
    rcases hd with rfl | rfl | rfl | rfl <;> exact ⟨_, rfl, by decide, by decide, by decide⟩
  rintro _ ⟨L, rfl, L2, L5, hL⟩
  obtain ⟨L, rfl⟩ : ∃ Ln : Nat, L = (Ln : Int) := ⟨L.toNat, by omega⟩
  obtain ⟨g1, b1, m1⟩ := words L L2 L5 "1" (.inl rfl)
  obtain ⟨g7, _, _⟩ := words L L2 L5 "7" (.inr rfl)
  walk_at "w"
  refine wo_mulS b1 rfl ?_
  have wl : ∀ e : Str, ("1" : Str) ++ Txt.mul "0" (L - 2) ++ e = lw L e := fun _ => rfl
  generalize hz : Txt.mul "0" (L - 2) = Z at m1 wl
  walk_at "w"
  rename_i v2 S2 v20 v21 vb2 st2
  refine wo_menu (fun d => ∃ e : Str, d = .str e ∧ e.length = 1 ∧ WordP L (.str (lw (L : Int) e))) v20 (by exact v21) (fun d hd => ?_) ?_
  · simp only [List.mem_cons, List.not_mem_nil, or_false] at hd
    rcases hd with rfl | rfl
    · exact ⟨_, rfl, l1, g1⟩
    · exact ⟨_, rfl, l7, g7⟩
  rintro _ ⟨e, rfl, le, we⟩
  walk_at "w"
  rw [wl e]
  refine w_tlG (L := L) (by omega) (by omega) st2 hn (by omega) we fun S3 st3 => ?_
  exact retK_set (q S3 st3)
end

/-! k03: the law -/
structure NoStr (d : Da) : Prop where
  e : isTyD .str d = some false
theorem wp_number_no {h : Hh} {Q : Vl → Hh → Prop} {E : XP} {d : Da} (hd : NoStr d) (q : Q (.d .none) h) : Wp (m_number_in [.d d] h) Q E := by
  have e := hd.e
  refine en_number_in ?_
  unfold b_number_in
  walk_at "w"
  refine ⟨false, e, ?_⟩
  walk_at "w"
  exact q
theorem asc_ntx {r : Rat} : Asc (ntx r) := fun c hc => by have := ntx_chars hc; omega
theorem lt100 {r : Rat} (br : BQ 340 r) : (ntx r).length ≤ 290 ∧ r.num.natAbs < 10 ^ 601 ∧ r.den < 10 ^ 601 := by
  have p : (2 : Nat) ^ 340 ≤ 10 ^ 103 := by decide +kernel
  have p2 : (10 : Nat) ^ 103 < 10 ^ 601 := Nat.pow_lt_pow_right (by decide) (by decide)
  have h1 : r.num.natAbs < 10 ^ 103 := Nat.lt_of_lt_of_le (show r.num.natAbs < 2 ^ 340 from br.nu) p
  have h2 : r.den < 10 ^ 103 := Nat.lt_of_lt_of_le (show r.den < 2 ^ 340 from br.dn) p
  have l1 := dg_small (by decide) h1
  have l2 := dg_small (by decide) h2
  have a1 : ("-" : Str).length = 1 := by decide +kernel
  have a2 : ("" : Str).length = 0 := by decide +kernel
  have a3 : ("/" : Str).length = 1 := by decide +kernel
  refine ⟨?_, Nat.lt_trans h1 p2, Nat.lt_trans h2 p2⟩
  rw [ntx_eq, Str.length_append]
  unfold bT
  split <;> split <;> first | omega | (rw [Str.length_append, Str.length_append]; omega)
section
variable {h : Hh} {Q : Vl → Hh → Prop} {E : XP} {N : En → Hh → Prop} {R : Vl → Hh → Prop} {B C : En → Hh → Prop} {X : Str → List (Str × Da) → En → Hh → Prop}
theorem w_law1 {a0 a3 a4 a5 a6 : Option Vl} {k : Nat} (hk : k < 63) {c : Int} (q : ∀ a3 a4 a5 a6 h', N [a0, some (.d (.int (k : Int))), some (.d (.int c)), a3, a4, a5, a6] h') :
    Ws (bl_law_1 [a0, some (.d (.int (k : Int))), some (.d (.int c)), a3, a4, a5, a6] h) N ⟨R, B, C, X⟩ := by
  unfold bl_law_1
  walk_at "w"
  refine wp_stream c k (by omega) fun xs st => ?_
  have hn : h.length < (h ++ [none]).length := by simp
  walk_at "w"
  generalize h.length = n at *
  generalize h ++ [none] = H at *
  rename_i r S1 br st1
  obtain ⟨lr, s1, s2⟩ := lt100 br
  refine wp_number_textB ⟨s1, s2⟩ ?_
  walk_at "w"
  refine wp__law_text br ?_
  walk_at "w"
  refine wp_number_any (by omega) (fun s _ _ es => ?_) fun no => absurd rfl (no r s1 s2)
  rw [← ntx_inj es]
  walk_at "w"
  refine wp_bent st1 hn (by decide) br fun d S2 nt st2 => ?_
  obtain ⟨t, rfl, lt, nt⟩ := nt
  walk_at "w"
  refine wp_number_any (by omega) (fun s _ _ es => absurd es (nt s)) fun _ => ?_
  walk_at "w"
  refine wp_put st2 hn (by decide) lr asc_ntx fun S3 st3 => ?_
  walk_at "w"
  rename_i v S4 v0 v1 vb st4
  refine wo_menu NoStr v0 (by exact v1) (fun d hd => ?_) ?_
  · simp only [List.mem_cons, List.not_mem_nil, or_false] at hd
    rcases hd with rfl | rfl | rfl | rfl | rfl | rfl | rfl | rfl <;> exact ⟨rfl⟩
  intro d hd
  walk_at "w"
  refine wp_number_no hd ?_
  walk_at "w"
  · refine wp_long st4 hn (by decide) fun S5 st5 => ?_
    walk_at "w"
    exact q _ _ _ _ _
  · exact q _ _ _ _ _
end
theorem retK_nil {h : Hh} {x : Da} {Q : Vl → Hh → Prop} (q : Q (.d x) []) : RetK ([] : Hh).length Q (.d x) h := ⟨.d x, [], by show Out.ok _ _ = _; simp, q⟩
theorem law_true (ns : List Int) (hl : ns.length ≤ 63) : m_law [.d (.list (ns.map PyData.int))] [] = .ok (.d (.bool true)) [] := by
  refine eq_of_wp ?_
  refine en_law ?_
  unfold b_law
  walk_at "w"
  have cd : ∀ (k : Nat) (e : Da), (cutD (ns.map PyData.int ++ [PyData.int 0]) none (some 63))[k]? = some e → k < 63 ∧ ∃ c : Int, e = .int c := by
    intro k e ek
    have ec : cutD (List.map PyData.int ns ++ [PyData.int 0]) none (some 63) = ((ns ++ [0]).take 63).map PyData.int := by
      show cutD _ none (some ((63 : Nat) : Int)) = _
      rw [cut_to, List.map_take, List.map_append]
      rfl
    rw [ec, List.getElem?_map] at ek
    cases hc : ((ns ++ [0]).take 63)[k]? with
    | none => rw [hc] at ek; cases ek
    | some c =>
      rw [hc] at ek
      cases ek
      have := (List.getElem?_eq_some_iff.mp hc).1
      rw [List.length_take] at this
      exact ⟨by omega, c, rfl⟩
  refine forK_inv (fun _ ρ h => ∃ a1 a2 a3 a4 a5 a6, ρ = [some (.d (.list (ns.map PyData.int))), a1, a2, a3, a4, a5, a6]) ⟨_, _, _, _, _, _, rfl⟩ ?_ ?_
  · rintro k d ρ1 h1 ek ⟨a1, a2, a3, a4, a5, a6, rfl⟩
    rw [List.getElem?_mapIdx] at ek
    cases e2 : (cutD (ns.map PyData.int ++ [PyData.int 0]) none (some 63))[k]? with
    | none => rw [e2] at ek; cases ek
    | some e =>
      rw [e2] at ek
      cases ek
      obtain ⟨hk, c, rfl⟩ := cd k e e2
      walk_at "w"
      exact w_law1 hk fun a3 a4 a5 a6 h' => ⟨_, _, _, _, _, _, rfl⟩
  · rintro ρ1 h1 ⟨a1, a2, a3, a4, a5, a6, rfl⟩
    walk_at "w"
    exact retK_nil ⟨rfl, rfl⟩

end Lw
open PySem PySem.W PySem.Calls PyProof.Rows
theorem PySem.Challenge.cw_roundsure_k03_fractions_as_text_holds : PySem.Challenge.rw_roundsure_k03_fractions_as_text.Holds := by
  refine Lw.early ?_
  refine Rk.walkG (l := PySem.Challenge.rw_roundsure_k03_fractions_as_text) (n := 63) (k := 5) (x := "_law_script") rfl (by decide) (by kernel_rfl) ⟨⟨rfl, by decide, by decide⟩, rfl⟩ ?F
  intro w mg fa h Y G hmg0
  obtain ⟨K, KX, c⟩ := Y
  have hmg : mg ("law" : PySem.Str) = some (.ref fa) := by
    have e : (HandSHeadRun.topDef (OpenLaw.row PySem.Challenge.rw_roundsure_k03_fractions_as_text).prog 24).name = ("law" : PySem.Str) := by kernel_rfl
    rw [← e]
    exact hmg0
  obtain ⟨fd, hb, hF⟩ := Lw.facts (P := (PySem.Challenge.rw_roundsure_k03_fractions_as_text).prog) (w := w) KX G hmg c
  exact ⟨K, fd, Rk.spF K mg Lw.m_law, KX, hb, fun H a ns hl _ hS => Rk.law_sp hS (Lw.law_true ns hl), hF⟩
#print axioms PySem.Challenge.cw_roundsure_k03_fractions_as_text_holds
