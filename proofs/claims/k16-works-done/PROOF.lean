import PyProof.Rows.All
import Wide.All
import OpenK.AllK
import Wide.FinOn
import KE.KStateDown
import HandS.ForMost
import HandS.Exc
import HandS.ExcOwn
import HandS.TryOnly
import HandS.WordsExc
import HandS.CallSlots
import HandS.Wide
import HandS.WideBits
import HandS.IsInst
import HandS.Flow
import HandS.TupAny
import HandS.Style
import HandS.Deep
import HandS.Zip
import HandS.Comp
import HandS.Lambda
import KE.KNestM
import HandS.HeadHook1
import HandS.Defaults
import HandS.Head0
import HandS.Head1
import HandS.Head2
import HandS.HeadEnd
import HandS.HeadHook2
import PyProof.ReprRoads
import HandS.Dict
import PyProof.SliceList
import HandS.TupMul
import HandS.Zip0
import KE.KIsAll
import KE.KTryMore
import HandS.ExcIs
import HandS.ExcField
import KE.KExcIs
import HandS.EndTab
import HandS.Finally
import PyProof.DictUpdate
import PyProof.FactsAll.dict_3
import PyProof.FactsAll.dict_4
import KE.KDictZip
import HandS.ExcInit
import HandS.ClsMeth
import HandS.NoneIn
import HandS.HeadHook3
import HandS.More
import HandS.Strs
import HandS.Text
import HandS.Iter
import HandS.SortInts
import HandS.RevRange
import HandS.Conv
import PyProof.StrLawsRepr
import PyProof.Rows.Digits
import OpenK.KOwn
import KE.GoesMore
import KE.GoesEnum
import KE.KTurns
import HandS.MapObj
import HandS.RevTup
import PyProof.P3In
import KE.KEqDict
import PySem.Challenge.RW_roundsure_k16_works_done
set_option Elab.async false
set_option linter.all false
set_option maxRecDepth 100000
set_option maxHeartbeats 4000000
set_option autoImplicit false
namespace Rk
open PySem PySem.Spec L2 PyProof.Rows
abbrev Da := PyData
mutual
def cB (K : PySem.W.Frag) : Da → Value → Bool
  | .none, .none => true
  | .bool b, .bool c => b == c
  | .int i, .int j _ => decide (i = j)
  | .str x, .str y _ => decide (x = y)
  | .tuple ds, .ref a => match K.lookup a with
    | some ⟨.type c, _, .seq its _, _⟩ => decide (c = "tuple") && (decide (its.size ≤ sizeLine) && cBs K ds its.toList)
    | _ => false
  | _, _ => false
def cBs (K : PySem.W.Frag) : List Da → List Value → Bool
  | [], [] => true
  | d :: ds, u :: us => cB K d u && cBs K ds us
  | _, _ => false
end
def gB (K : PySem.W.Frag) (x : Str) (d : Da) : Bool := match PySem.W.nsIn K mainGlobals x with
  | some (some u) => cB K d u
  | _ => false
abbrev AlR : Type := He.AlD × Bool
/-- what the module's names reach in n steps, step by step, nothing struck out -/
def stepN (g : Addr → Option Obj) (as : List Addr) : List Addr := as.flatMap fun a => match g a with
  | some o => He.refsD o
  | none => []
def asN (g : Addr → Option Obj) : Nat → List Addr → List Addr
  | 0, as => as
  | n + 1, as => as ++ asN g n (stepN g as)
def obsR (n : Nat) (fa : List He.Fa) (fn : List He.DefD) (ex : PySem.W.Frag → Bool) (g : Addr → Option Obj) : AlR := (He.obsD fa fn (He.frG g (asN g n [mainGlobals] ++ [cStatics])), ex (He.frG g (asN g n [mainGlobals] ++ [cStatics])))
def SaysR (fa : List He.Fa) (fn : List He.DefD) (ex : PySem.W.Frag → Bool) (K : PySem.W.Frag) : Prop := He.SaysD fa fn K ∧ ex K = true
def hookR (n : Nat) (fa : List He.Fa) (fn : List He.DefD) (ex : PySem.W.Frag → Bool) : PySem.W.Hook where
  α := AlR
  obs := fun s => obsR n fa fn ex s.heap.get?
  val := fun _ => (He.valD fn, true)
  says := fun _ h => ∃ K : PySem.W.Frag, K.In h ∧ SaysR fa fn ex K
  of := fun _ _ e => ⟨_, He.frG_in, congrArg (fun z : AlR => z.1) e, congrArg (fun z : AlR => z.2) e⟩
  keeps := fun _ _ _ ⟨K, hK, c⟩ k => ⟨K, PySem.W.Frag.In.keeps hK k, c⟩
theorem obsR_eq {n : Nat} {fa : List He.Fa} {fn : List He.DefD} {ex : PySem.W.Frag → Bool} {g : Addr → Option Obj} {s : Shared} (h : ∀ a, g a = s.heap.get? a) : obsR n fa fn ex g = (hookR n fa fn ex).obs s := by
  have e : g = s.heap.get? := funext h
  rw [e] <;> rfl
def valD (kds : List (Key × Da)) (k : Key) : Option Da := (kds.find? fun kv => decide (kv.1 = k)).map (·.2)
end Rk
namespace Lw
open PySem PySem.Spec L2 Rk
def topS (i : Nat) : Stmt := PySem.Challenge.pw_roundsure_k16_works_done.main.body.getD i (.Pass ⟨0, 0, 0, 0⟩)
abbrev s_shared : Stmt := topS 2
abbrev s_fraction : Stmt := topS 3
abbrev s_plus : Stmt := topS 4
abbrev s_turned : Stmt := topS 5
abbrev s_less : Stmt := topS 6
abbrev s_times : Stmt := topS 7
abbrev s_over : Stmt := topS 8
abbrev s_size_of : Stmt := topS 9
abbrev s_is_less : Stmt := topS 10
abbrev s_lesser : Stmt := topS 11
abbrev s_greater : Stmt := topS 12
abbrev s_exact : Stmt := topS 14
abbrev s__law_mixed : Stmt := topS 16
abbrev s__law_draws : Stmt := topS 17
abbrev s__law_take : Stmt := topS 18
abbrev s__law_share : Stmt := topS 19
abbrev s__law_sum : Stmt := topS 20
abbrev s__law_is_less : Stmt := topS 21
abbrev s__law_names : Stmt := topS 22
abbrev s__law_constant : Stmt := topS 23
abbrev s__law_exact : Stmt := topS 24
abbrev s_law : Stmt := topS 25
def c_NOUGHT : Da := (.tuple [(.int 0), (.int 1)])
def d_shared : He.DefD := ⟨("shared", none), "shared", "shared", defArgs s_shared, defBody s_shared, defScope s_shared, [], []⟩
def d_fraction : He.DefD := ⟨("fraction", none), "fraction", "fraction", defArgs s_fraction, defBody s_fraction, defScope s_fraction, [], []⟩
def d_plus : He.DefD := ⟨("plus", none), "plus", "plus", defArgs s_plus, defBody s_plus, defScope s_plus, [], []⟩
def d_turned : He.DefD := ⟨("turned", none), "turned", "turned", defArgs s_turned, defBody s_turned, defScope s_turned, [], []⟩
def d_less : He.DefD := ⟨("less", none), "less", "less", defArgs s_less, defBody s_less, defScope s_less, [], []⟩
def d_times : He.DefD := ⟨("times", none), "times", "times", defArgs s_times, defBody s_times, defScope s_times, [], []⟩
def d_over : He.DefD := ⟨("over", none), "over", "over", defArgs s_over, defBody s_over, defScope s_over, [], []⟩
def d_size_of : He.DefD := ⟨("size_of", none), "size_of", "size_of", defArgs s_size_of, defBody s_size_of, defScope s_size_of, [], []⟩
def d_is_less : He.DefD := ⟨("is_less", none), "is_less", "is_less", defArgs s_is_less, defBody s_is_less, defScope s_is_less, [], []⟩
def d_lesser : He.DefD := ⟨("lesser", none), "lesser", "lesser", defArgs s_lesser, defBody s_lesser, defScope s_lesser, [], []⟩
def d_greater : He.DefD := ⟨("greater", none), "greater", "greater", defArgs s_greater, defBody s_greater, defScope s_greater, [], []⟩
def d_exact : He.DefD := ⟨("exact", none), "exact", "exact", defArgs s_exact, defBody s_exact, defScope s_exact, [], []⟩
def d__law_mixed : He.DefD := ⟨("_law_mixed", none), "_law_mixed", "_law_mixed", defArgs s__law_mixed, defBody s__law_mixed, defScope s__law_mixed, [], []⟩
def d__law_draws : He.DefD := ⟨("_law_draws", none), "_law_draws", "_law_draws", defArgs s__law_draws, defBody s__law_draws, defScope s__law_draws, [], []⟩
def d__law_take : He.DefD := ⟨("_law_take", none), "_law_take", "_law_take", defArgs s__law_take, defBody s__law_take, defScope s__law_take, [], []⟩
def d__law_share : He.DefD := ⟨("_law_share", none), "_law_share", "_law_share", defArgs s__law_share, defBody s__law_share, defScope s__law_share, [], []⟩
def d__law_sum : He.DefD := ⟨("_law_sum", none), "_law_sum", "_law_sum", defArgs s__law_sum, defBody s__law_sum, defScope s__law_sum, [], []⟩
def d__law_is_less : He.DefD := ⟨("_law_is_less", none), "_law_is_less", "_law_is_less", defArgs s__law_is_less, defBody s__law_is_less, defScope s__law_is_less, [], []⟩
def d__law_names : He.DefD := ⟨("_law_names", none), "_law_names", "_law_names", defArgs s__law_names, defBody s__law_names, defScope s__law_names, [], []⟩
def d__law_constant : He.DefD := ⟨("_law_constant", none), "_law_constant", "_law_constant", defArgs s__law_constant, defBody s__law_constant, defScope s__law_constant, [], []⟩
def d__law_exact : He.DefD := ⟨("_law_exact", none), "_law_exact", "_law_exact", defArgs s__law_exact, defBody s__law_exact, defScope s__law_exact, [], []⟩
def d_law : He.DefD := ⟨("law", none), "law", "law", defArgs s_law, defBody s_law, defScope s_law, [], []⟩
def fn : List He.DefD := [d_shared, d_fraction, d_plus, d_turned, d_less, d_times, d_over, d_size_of, d_is_less, d_lesser, d_greater, d_exact, d__law_mixed, d__law_draws, d__law_take, d__law_share, d__law_sum, d__law_is_less, d__law_names, d__law_constant, d__law_exact, d_law]
def fa : List He.Fa := [.glo "shared", .glo "fraction", .glo "plus", .glo "turned", .glo "less", .glo "times", .glo "over", .glo "size_of", .glo "is_less", .glo "lesser", .glo "greater", .glo "exact", .glo "_law_mixed", .glo "_law_draws", .glo "_law_take", .glo "_law_share", .glo "_law_sum", .glo "_law_is_less", .glo "_law_names", .glo "_law_constant", .glo "_law_exact", .glo "law", .free "abs", .free "dict", .free "enumerate", .free "range", .free "repr", .free "sum", .free "tuple"]
def ex (K : PySem.W.Frag) : Bool := (gB K "NOUGHT" c_NOUGHT)
abbrev R : PySem.W.OpenRow := PySem.W.OpenLaw.row PySem.Challenge.rw_roundsure_k16_works_done
abbrev hk : PySem.W.Hook := hookR 4 fa fn ex
def ob (s : PySem.W.SharedT) : AlR := obsR 4 fa fn ex (HandSHeadRun.getT s)
theorem ob_eq (s : PySem.W.SharedT) : ob s = hk.obs s.abs := obsR_eq (HandSHeadRun.getT_eq s)
def loose : List Str := (["NOUGHT", "shared", "fraction", "plus", "turned", "less", "times", "over", "size_of", "is_less", "lesser", "greater", "exact", "_law_mixed", "_law_draws", "_law_take", "_law_share", "_law_sum", "_law_is_less", "_law_names", "_law_constant", "_law_exact"] : List Str)
theorem run (w : World) : HandSHeadRun.RunEq R (PySem.W.view R.prog [25]) hk ob 40000 loose w := by
  intro os
  kernel_rfl

end Lw
section
open PySem PySem.W PySem.Calls PyProof.Rows
theorem Lw.early (hc : WalkO (view (OpenLaw.row PySem.Challenge.rw_roundsure_k16_works_done).prog [25]) Lw.loose (XL (view (OpenLaw.row PySem.Challenge.rw_roundsure_k16_works_done).prog [25]) []) (PySem.W.Hook.says Lw.hk) (OpenLaw.row PySem.Challenge.rw_roundsure_k16_works_done).toRowW (HandSHeadRun.topDef (OpenLaw.row PySem.Challenge.rw_roundsure_k16_works_done).prog 25) [] fun f vs => PySem.call f vs) : PySem.Challenge.rw_roundsure_k16_works_done.Holds := by
  w_on; o_law
  refine HandSHeadRun.head_any (r := OpenLaw.row PySem.Challenge.rw_roundsure_k16_works_done) (q := view (OpenLaw.row PySem.Challenge.rw_roundsure_k16_works_done).prog [25]) (H := Lw.hk) (ob := Lw.ob) (M := 40000) (loose := Lw.loose) (d := HandSHeadRun.topDef (OpenLaw.row PySem.Challenge.rw_roundsure_k16_works_done).prog 25) (kwd := []) Lw.ob_eq
    (by kernel_rfl) (fun s => by kernel_rfl) Lw.run (by kernel_rfl) (by kernel_rfl) (by kernel_rfl) (by rfl) (by first | assumption | decide +kernel) (by decide +kernel) ⟨rfl, rfl, rfl, rfl, rfl, by decide +kernel⟩ ?hw hc
  case hw => w_witness2
end
/-! Rk0: pure data, an abstract heap of lists and dicts by number, outcomes; what stands for what. -/
namespace Rk
open PySem PySem.Spec L2

/-- an object that changes, by its number -/
inductive Ob where
  | lst (xs : List Da)
  | dct (kvs : List (Key × Da))
  | tbl (x : Str)
  | rl (ns : List Nat)
/-- what a function object has kept of its maker's slots -/
inductive Vl0 where
  | d (x : Da)
  | r (n : Nat)
/-- a function object made by a lambda: its address, its code object, that one's name, its maker's slots as they were -/
structure Dd where
  f : Addr
  c : Addr
  q : Str
  σ : List (Option V)
  ρ : List (Option Vl0)
/-- a value: data, an object by its number, an error that was caught -/
inductive Vl where
  | d (x : Da)
  | r (n : Nat)
  | x (c : Str) (fs : List (Str × Da))
  | f (a : Dd)
abbrev Hh := List (Option Ob)
inductive Out (α : Type) where
  | ok (a : α) (h : Hh)
  | ex (c : Str) (fs : List (Str × Da)) (h : Hh)
  | no
abbrev En := List (Option Vl)
inductive So where
  | nx (ρ : En) (h : Hh)
  | rt (v : Vl) (h : Hh)
  | bk (ρ : En) (h : Hh)
  | ct (ρ : En) (h : Hh)
  | ex (c : Str) (fs : List (Str × Da)) (ρ : En) (h : Hh)
  | no
def Out.bind {α β : Type} : Out α → (α → Hh → Out β) → Out β
  | .ok a h, f => f a h
  | .ex c fs h, _ => .ex c fs h
  | .no, _ => .no
theorem Out.bind_ok {α β : Type} (a : α) (h : Hh) (f : α → Hh → Out β) : (Out.ok a h).bind f = f a h := rfl
theorem Out.bind_ex {α β : Type} (c : Str) (fs : List (Str × Da)) (h : Hh) (f : α → Hh → Out β) : (Out.ex c fs h).bind f = .ex c fs h := rfl
abbrev Ev := En → Hh → Out Vl
abbrev Tv := En → Hh → Out Bool
abbrev Av := En → Hh → Out (List Vl)
abbrev Sv := En → Hh → So
abbrev Fn := List Vl → Hh → Out Vl

/-! ### what stands for what -/
def KT (K : PySem.W.Frag) (a : Addr) (xs : List V) : Prop :=
  ∃ (o : Obj) (its : Array Value) (n : Nat), K.lookup a = some o ∧ o.cls = .type "tuple" ∧ o.data = .seq its n ∧ its.size ≤ sizeLine ∧ Vals xs its.toList
def KL (K : PySem.W.Frag) (a : Addr) (xs : List V) : Prop :=
  ∃ (o : Obj) (its : Array Value) (n : Nat), K.lookup a = some o ∧ o.cls = .type "list" ∧ o.dict = none ∧ o.data = .seq its n ∧ its.size ≤ sizeLine ∧ Vals xs its.toList
/-- a key as data -/
def kD : Key → Da
  | .inl i => .int i
  | .inr x => .str x
mutual
inductive Rep (K : PySem.W.Frag) (H : Hp) (M : Addr → Prop) : V → Da → Prop
  | non : Rep K H M .non .none
  | bl (b : Bool) : Rep K H M (.bl b) (.bool b)
  | int (i : Int) : Rep K H M (.int i) (.int i)
  | str (x : Str) : Rep K H M (.str x) (.str x)
  | tup {a : Addr} {xs : List V} {ds : List Da} : Rd H a (.tup xs) → ¬ M a → Reps K H M xs ds → Rep K H M (.ref a) (.tuple ds)
  | tupK {a : Addr} {xs : List V} {ds : List Da} : KT K a xs → Reps K H M xs ds → Rep K H M (.ref a) (.tuple ds)
  | lst {a : Addr} {xs : List V} {ds : List Da} : Rd H a (.lst xs) → ¬ M a → Reps K H M xs ds → Rep K H M (.ref a) (.list ds)
  | lstK {a : Addr} {xs : List V} {ds : List Da} : KL K a xs → Reps K H M xs ds → Rep K H M (.ref a) (.list ds)
  | dct0 {a : Addr} : H a = some (.dT []) → ¬ M a → Rep K H M (.ref a) (.dict [])
  | dct {a : Addr} {kvs : List (Key × V)} {ds : List Da} {kds : List (Da × Da)} : H a = some (.dK kvs) → ¬ M a → kvs ≠ [] → Reps K H M (kvs.map (·.2)) ds → kds = ((kvs.map (·.1)).zip ds).map (fun p => (kD p.1, p.2)) → Rep K H M (.ref a) (.dict kds)
  | fn (x : Str) : Rep K H M (.ref (He.ga K x)) (.dict [(.none, .str x)])
  | plt {a : Addr} {o : Obj} {xs : List V} {ds : List Da} : H a = some (.frz o (.tup xs)) → o.dict = none → ¬ M a → Reps K H M xs ds → Rep K H M (.ref a) (.dict [(.none, .tuple ds)])
inductive Reps (K : PySem.W.Frag) (H : Hp) (M : Addr → Prop) : List V → List Da → Prop
  | nil : Reps K H M [] []
  | cons {v : V} {vs : List V} {d : Da} {ds : List Da} : Rep K H M v d → Reps K H M vs ds → Reps K H M (v :: vs) (d :: ds)
end
/-- no table of code objects -/
abbrev Nt (o : HO) : Prop := ∀ ps, o ≠ .tbl ps
/-- what is not M stands still -/
def Stay (H : Hp) (M : Addr → Prop) (H' : Hp) (M' : Addr → Prop) : Prop := ∀ a o, H a = some o → Nt o → ¬ M a → H' a = some o ∧ ¬ M' a
inductive Seq' : HO → Prop
  | l (xs) : Seq' (.lst xs)
  | t (xs) : Seq' (.tup xs)
theorem Seq'.nt {u : HO} (s : Seq' u) : Nt u := fun ps z => by cases s <;> cases z
theorem Stay.rd {H H' : Hp} {M M' : Addr → Prop} (s : Stay H M H' M') {a : Addr} {u : HO} (w : Seq' u) (h : Rd H a u) (n : ¬ M a) : Rd H' a u ∧ ¬ M' a := by
  rcases h with h | ⟨o, h⟩
  · exact ⟨.inl (s a _ h w.nt n).1, (s a _ h w.nt n).2⟩
  · exact ⟨.inr ⟨o, (s a _ h nofun n).1⟩, (s a _ h nofun n).2⟩
mutual
theorem Rep.stay {K : PySem.W.Frag} {H H' : Hp} {M M' : Addr → Prop} (s : Stay H M H' M') : ∀ {v : V} {d : Da}, Rep K H M v d → Rep K H' M' v d
  | _, _, .non => .non
  | _, _, .bl b => .bl b
  | _, _, .int i => .int i
  | _, _, .str x => .str x
  | _, _, .tup h n r => .tup (s.rd (.t _) h n).1 (s.rd (.t _) h n).2 (Reps.stay s r)
  | _, _, .tupK h r => .tupK h (Reps.stay s r)
  | _, _, .lst h n r => .lst (s.rd (.l _) h n).1 (s.rd (.l _) h n).2 (Reps.stay s r)
  | _, _, .lstK h r => .lstK h (Reps.stay s r)
  | _, _, .dct0 h n => .dct0 (s _ _ h nofun n).1 (s _ _ h nofun n).2
  | _, _, .dct h n ne r e => .dct (s _ _ h nofun n).1 (s _ _ h nofun n).2 ne (Reps.stay s r) e
  | _, _, .fn x => .fn x
  | _, _, .plt h e n r => .plt (s _ _ h nofun n).1 e (s _ _ h nofun n).2 (Reps.stay s r)
theorem Reps.stay {K : PySem.W.Frag} {H H' : Hp} {M M' : Addr → Prop} (s : Stay H M H' M') : ∀ {v : List V} {d : List Da}, Reps K H M v d → Reps K H' M' v d
  | _, _, .nil => .nil
  | _, _, .cons r t => .cons (Rep.stay s r) (Reps.stay s t)
end
theorem Stay.refl (H : Hp) (M : Addr → Prop) : Stay H M H M := fun _ _ h _ n => ⟨h, n⟩
theorem Stay.trans {H H1 H2 : Hp} {M M1 M2 : Addr → Prop} (a : Stay H M H1 M1) (b : Stay H1 M1 H2 M2) : Stay H M H2 M2 := fun x o h w n => b x o (a x o h w n).1 w (a x o h w n).2
section
variable {K : PySem.W.Frag} {H : Hp} {M : Addr → Prop}
theorem Reps.length : ∀ {vs : List V} {ds : List Da}, Reps K H M vs ds → vs.length = ds.length
  | _, _, .nil => rfl
  | _, _, .cons _ t => by rw [List.length_cons, List.length_cons, Reps.length t]
theorem Reps.get : ∀ {vs : List V} {ds : List Da} {i : Nat} {d : Da}, Reps K H M vs ds → ds[i]? = some d → ∃ v, vs[i]? = some v ∧ Rep K H M v d
  | _, _, _, _, .nil, h => by simp at h
  | _, _, 0, _, .cons r _, h => by
    have e := Option.some.inj h
    subst e
    exact ⟨_, rfl, r⟩
  | _, _, i + 1, _, .cons _ t, h => by
    obtain ⟨v, e, r⟩ := Reps.get (i := i) t h
    exact ⟨v, e, r⟩
theorem Reps.append : ∀ {vs ws : List V} {ds es : List Da}, Reps K H M vs ds → Reps K H M ws es → Reps K H M (vs ++ ws) (ds ++ es)
  | _, _, _, _, .nil, s => s
  | _, _, _, _, .cons r t, s => .cons r (Reps.append t s)
theorem Reps.take : ∀ {vs : List V} {ds : List Da} (n : Nat), Reps K H M vs ds → Reps K H M (vs.take n) (ds.take n)
  | _, _, 0, _ => .nil
  | _, _, _ + 1, .nil => .nil
  | _, _, n + 1, .cons r t => .cons r (Reps.take n t)
theorem Reps.drop : ∀ {vs : List V} {ds : List Da} (n : Nat), Reps K H M vs ds → Reps K H M (vs.drop n) (ds.drop n)
  | _, _, 0, s => s
  | _, _, _ + 1, .nil => .nil
  | _, _, n + 1, .cons _ t => Reps.drop n t
theorem Reps.set {v : V} {d : Da} (r : Rep K H M v d) : ∀ {vs : List V} {ds : List Da} (i : Nat), Reps K H M vs ds → Reps K H M (vs.set i v) (ds.set i d)
  | _, _, _, .nil => .nil
  | _, _, 0, .cons _ t => .cons r t
  | _, _, i + 1, .cons q t => .cons q (Reps.set r i t)
theorem Rep.sqT {a : Addr} {ds : List Da} (r : Rep K H M (.ref a) (.tuple ds)) : ∃ xs, SqT K H a xs ∧ Reps K H M xs ds := by
  cases r with
  | tup h _ r => exact ⟨_, .inl h, r⟩
  | tupK h r => exact ⟨_, .inr h, r⟩
theorem Rep.sqL {a : Addr} {ds : List Da} (r : Rep K H M (.ref a) (.list ds)) : ∃ xs, SqL K H a xs ∧ Reps K H M xs ds := by
  cases r with
  | lst h _ r => exact ⟨_, .inl h, r⟩
  | lstK h r => exact ⟨_, .inr h, r⟩
end
/-- a def of the top as data; a tuple that is known to be a plain one -/
def fnD (x : Str) : Da := .dict [(.none, .str x)]
def ptD (ds : List Da) : Da := .dict [(.none, .tuple ds)]
/-- the constants of the top: the same whatever the heap -/
def KRep (K : PySem.W.Frag) (v : V) (d : Da) : Prop := ∀ H M, Rep K H M v d

/-! ### the abstract heap's objects, where they stand -/
def Live (φ : List Addr) (h : Hh) (a : Addr) : Prop := ∃ (i : Nat) (o : Ob), φ[i]? = some a ∧ h[i]? = some (some o)
inductive KvRep (K : PySem.W.Frag) (H : Hp) (M : Addr → Prop) : List (Key × V) → List (Key × Da) → Prop
  | nil : KvRep K H M [] []
  | cons {k : Key} {v : V} {vs : List (Key × V)} {d : Da} {ds : List (Key × Da)} : Rep K H M v d → KvRep K H M vs ds → KvRep K H M ((k, v) :: vs) ((k, d) :: ds)
theorem KvRep.stay {K : PySem.W.Frag} {H H' : Hp} {M M' : Addr → Prop} (s : Stay H M H' M') : ∀ {vs : List (Key × V)} {ds : List (Key × Da)}, KvRep K H M vs ds → KvRep K H' M' vs ds
  | _, _, .nil => .nil
  | _, _, .cons r t => .cons (r.stay s) (KvRep.stay s t)
def ORep (K : PySem.W.Frag) (H : Hp) (M : Addr → Prop) (a : Addr) : Ob → Prop
  | .lst ds => ∃ xs, H a = some (.lst xs) ∧ Reps K H M xs ds
  | .dct kds => ∃ kvs, H a = some (.dK kvs) ∧ KvRep K H M kvs kds
  | .tbl x => ∃ (c : Addr) (ps : Array Value), PySem.W.tabIn K x = some (c, a) ∧ H a = some (.tbl ps) ∧ TriplesOk ps.toList ∧ ∀ (pos : Pos) (cv : Value), codeAmong pos ps.toList = some cv → ∃ c', cv = .ref c' ∧ H c' = some (LamX.CodeO c' (x ++ ".<locals>." ++ "<lambda>"))
  | .rl _ => ∃ xs, H a = some (.lst xs)
structure Sim (K : PySem.W.Frag) (φ : List Addr) (h : Hh) (H : Hp) : Prop where
  len : φ.length = h.length
  inj : ∀ (i j : Nat) (a : Addr) (o o' : Ob), φ[i]? = some a → φ[j]? = some a → h[i]? = some (some o) → h[j]? = some (some o') → i = j
  ob : ∀ (i : Nat) (o : Ob), h[i]? = some (some o) → ∃ a, φ[i]? = some a ∧ ORep K H (Live φ h) a o
  rf : ∀ (i : Nat) (ns : List Nat), h[i]? = some (some (.rl ns)) → ∃ (a : Addr) (as : List Addr), φ[i]? = some a ∧ H a = some (.lst (as.map V.ref)) ∧ as.length = ns.length ∧ ∀ (k n : Nat), ns[k]? = some n → n < i ∧ φ[n]? = as[k]?
structure Step (φ : List Addr) (h : Hh) (H : Hp) (φ' : List Addr) (h' : Hh) (H' : Hp) : Prop where
  pre : φ <+: φ'
  st : Stay H (Live φ h) H' (Live φ' h')
theorem Step.refl (φ : List Addr) (h : Hh) (H : Hp) : Step φ h H φ h H := ⟨List.prefix_refl φ, Stay.refl _ _⟩
theorem Step.trans {φ φ1 φ2 : List Addr} {h h1 h2 : Hh} {H H1 H2 : Hp} (a : Step φ h H φ1 h1 H1) (b : Step φ1 h1 H1 φ2 h2 H2) : Step φ h H φ2 h2 H2 := ⟨a.pre.trans b.pre, a.st.trans b.st⟩
theorem pre_get {φ φ' : List Addr} (p : φ <+: φ') {n : Nat} {a : Addr} (e : φ[n]? = some a) : φ'[n]? = some a := by
  obtain ⟨t, rfl⟩ := p
  rw [List.getElem?_append_left (List.getElem?_eq_some_iff.mp e).1]
  exact e
/-- the own dict of a caught error, its fields -/
inductive FsRep (K : PySem.W.Frag) (H : Hp) (M : Addr → Prop) : List (Str × V) → List (Str × Da) → Prop
  | nil : FsRep K H M [] []
  | cons {k : Str} {v : V} {vs : List (Str × V)} {d : Da} {ds : List (Str × Da)} : Rep K H M v d → FsRep K H M vs ds → FsRep K H M ((k, v) :: vs) ((k, d) :: ds)
theorem FsRep.stay {K : PySem.W.Frag} {H H' : Hp} {M M' : Addr → Prop} (s : Stay H M H' M') : ∀ {vs : List (Str × V)} {ds : List (Str × Da)}, FsRep K H M vs ds → FsRep K H' M' vs ds
  | _, _, .nil => .nil
  | _, _, .cons r t => .cons (r.stay s) (FsRep.stay s t)
/-- an error in the air: its class by its name, its fields -/
structure XRep (K : PySem.W.Frag) (mg : Str → Option Value) (H : Hp) (M : Addr → Prop) (c : Str) (fs : List (Str × Da)) (cls : Value) (dd : Option Addr) : Prop where
  cl : mg c = some cls
  no : fs = [] → dd = none
  yes : fs ≠ [] → ∃ a vs, dd = some a ∧ H a = some (.xd vs) ∧ ¬ M a ∧ FsRep K H M vs fs
/-- a value of the def's -/
def exO (a : Addr) (cls : Value) (dd : Option Addr) : HO := .ext fun h => ∃ (oe : Obj) (vs : Array Value), h.get? a = some oe ∧ Zc cls dd oe ∧ oe.data = .fields vs
theorem XRep.stay {K : PySem.W.Frag} {mg : Str → Option Value} {H H' : Hp} {M M' : Addr → Prop} {c : Str} {fs : List (Str × Da)} {cls : Value} {dd : Option Addr} (s : Stay H M H' M') (x : XRep K mg H M c fs cls dd) : XRep K mg H' M' c fs cls dd :=
  ⟨x.cl, x.no, fun z => by
    obtain ⟨a, vs, e1, e2, e3, e4⟩ := x.yes z
    obtain ⟨f1, f2⟩ := s a _ e2 nofun e3
    exact ⟨a, vs, e1, f1, f2, e4.stay s⟩⟩
def VRep0 (K : PySem.W.Frag) (φ : List Addr) (h : Hh) (H : Hp) (v : V) : Vl0 → Prop
  | .d x => Rep K H (Live φ h) v x
  | .r n => ∃ a, φ[n]? = some a ∧ v = .ref a
theorem exO_nt {a : Addr} {cls : Value} {dd : Option Addr} : Nt (exO a cls dd) := fun ps z => by
  unfold exO at z
  cases z
theorem VRep0.step {K : PySem.W.Frag} {φ φ' : List Addr} {h h' : Hh} {H H' : Hp} {v : V} {x : Vl0} (s : Step φ h H φ' h' H') (r : VRep0 K φ h H v x) : VRep0 K φ' h' H' v x := by
  cases x with
  | d x => exact Rep.stay s.st r
  | r n =>
    obtain ⟨a, e, rfl⟩ := r
    exact ⟨a, pre_get s.pre e, rfl⟩
def VRep (K : PySem.W.Frag) (mg : Str → Option Value) (φ : List Addr) (h : Hh) (H : Hp) (v : V) : Vl → Prop
  | .d x => Rep K H (Live φ h) v x
  | .r n => ∃ a, φ[n]? = some a ∧ v = .ref a
  | .x c fs => ∃ (a : Addr) (cls : Value) (dd : Option Addr), v = .ref a ∧ H a = some (exO a cls dd) ∧ ¬ Live φ h a ∧ XRep K mg H (Live φ h) c fs cls dd
  | .f D => v = .ref D.f ∧ H D.c = some (LamX.CodeO D.c D.q) ∧ ¬ Live φ h D.c ∧ D.σ.length = D.ρ.length ∧ ∀ (i : Nat) (w : Vl0), D.ρ[i]? = some (some w) → ∃ x, D.σ[i]? = some (some x) ∧ VRep0 K φ h H x w
variable {mg : Str → Option Value}
theorem VRep.step {K : PySem.W.Frag} {φ φ' : List Addr} {h h' : Hh} {H H' : Hp} {v : V} {x : Vl} (s : Step φ h H φ' h' H') (r : VRep K mg φ h H v x) : VRep K mg φ' h' H' v x := by
  cases x with
  | d x => exact Rep.stay s.st r
  | r n =>
    obtain ⟨a, e, rfl⟩ := r
    exact ⟨a, pre_get s.pre e, rfl⟩
  | x c fs =>
    obtain ⟨a, cls, dd, rfl, e1, e2, xr⟩ := r
    obtain ⟨f1, f2⟩ := s.st a _ e1 exO_nt e2
    exact ⟨a, cls, dd, rfl, f1, f2, xr.stay s.st⟩
  | f D =>
    obtain ⟨e1, e2, e3, e4, e5⟩ := r
    obtain ⟨f1, f2⟩ := s.st _ _ e2 LamX.codeO_ne e3
    exact ⟨e1, f1, f2, e4, fun i w z => (e5 i w z).imp fun x q => ⟨q.1, q.2.step s⟩⟩
inductive VReps (K : PySem.W.Frag) (mg : Str → Option Value) (φ : List Addr) (h : Hh) (H : Hp) : List V → List Vl → Prop
  | nil : VReps K mg φ h H [] []
  | cons {v : V} {vs : List V} {x : Vl} {xs : List Vl} : VRep K mg φ h H v x → VReps K mg φ h H vs xs → VReps K mg φ h H (v :: vs) (x :: xs)
theorem VReps.step {K : PySem.W.Frag} {φ φ' : List Addr} {h h' : Hh} {H H' : Hp} (s : Step φ h H φ' h' H') : ∀ {vs : List V} {xs : List Vl}, VReps K mg φ h H vs xs → VReps K mg φ' h' H' vs xs
  | _, _, .nil => .nil
  | _, _, .cons r t => .cons (r.step s) (VReps.step s t)
theorem VReps.length {K : PySem.W.Frag} {φ : List Addr} {h : Hh} {H : Hp} : ∀ {vs : List V} {xs : List Vl}, VReps K mg φ h H vs xs → vs.length = xs.length
  | _, _, .nil => rfl
  | _, _, .cons _ t => by rw [List.length_cons, List.length_cons, VReps.length t]
/-- the slots -/
structure ERep (K : PySem.W.Frag) (mg : Str → Option Value) (φ : List Addr) (h : Hh) (H : Hp) (σ : St) (ρ : En) : Prop where
  len : σ.length = ρ.length
  at_ : ∀ (i : Nat) (v : Vl), ρ[i]? = some (some v) → ∃ x, σ[i]? = some (some x) ∧ VRep K mg φ h H x v
theorem ERep.step {K : PySem.W.Frag} {φ φ' : List Addr} {h h' : Hh} {H H' : Hp} {σ : St} {ρ : En} (s : Step φ h H φ' h' H') (r : ERep K mg φ h H σ ρ) : ERep K mg φ' h' H' σ ρ :=
  ⟨r.len, fun i v e => let ⟨x, e1, q⟩ := r.at_ i v e; ⟨x, e1, q.step s⟩⟩
theorem ERep.set {K : PySem.W.Frag} {φ : List Addr} {h : Hh} {H : Hp} {σ : St} {ρ : En} {i : Nat} {x : V} {v : Vl} (r : ERep K mg φ h H σ ρ) (q : VRep K mg φ h H x v) : ERep K mg φ h H (σ.set i (some x)) (ρ.set i (some v)) := by
  refine ⟨by rw [List.length_set, List.length_set, r.len], fun j w e => ?_⟩
  by_cases hj : i = j
  · subst hj
    have hl : i < ρ.length := by
      have := (List.getElem?_eq_some_iff.mp e).1
      rw [List.length_set] at this
      exact this
    rw [List.getElem?_set_self hl] at e
    have e' := Option.some.inj (Option.some.inj e)
    subst e'
    exact ⟨x, by rw [List.getElem?_set_self (by rw [r.len]; exact hl)], q⟩
  · rw [List.getElem?_set_ne hj] at e
    obtain ⟨y, e1, q1⟩ := r.at_ j w e
    exact ⟨y, by rw [List.getElem?_set_ne hj]; exact e1, q1⟩

/-! ### readings made of outcomes -/
section
variable (K : PySem.W.Frag) (mg : Str → Option Value)
/-- behind an outcome: Q of a value -/
def PoV (φ : List Addr) (h : Hh) (H : Hp) (o : Out Vl) (Q : VK) : Prop := match o with
  | .ok v h' => ∀ x H' φ', Step φ h H φ' h' H' → Sim K φ' h' H' → VRep K mg φ' h' H' x v → Q x H'
  | _ => False
def PoX (φ : List Addr) (h : Hh) (H : Hp) (o : Out Vl) (Q : VK) (E : XK) : Prop := match o with
  | .ok v h' => ∀ x H' φ', Step φ h H φ' h' H' → Sim K φ' h' H' → VRep K mg φ' h' H' x v → Q x H'
  | .ex c fs h' => ∀ cls dd H' φ', Step φ h H φ' h' H' → Sim K φ' h' H' → XRep K mg H' (Live φ' h') c fs cls dd → E cls dd H'
  | .no => False
def PoT (φ : List Addr) (h : Hh) (H : Hp) (o : Out Bool) (Q : Bool → Hp → Prop) (E : XK) : Prop := match o with
  | .ok b h' => ∀ H' φ', Step φ h H φ' h' H' → Sim K φ' h' H' → Q b H'
  | .ex c fs h' => ∀ cls dd H' φ', Step φ h H φ' h' H' → Sim K φ' h' H' → XRep K mg H' (Live φ' h') c fs cls dd → E cls dd H'
  | .no => False
def PoA (φ : List Addr) (h : Hh) (H : Hp) (o : Out (List Vl)) (Q : List V → Hp → Prop) (E : XK) : Prop := match o with
  | .ok vs h' => ∀ xs H' φ', Step φ h H φ' h' H' → Sim K φ' h' H' → VReps K mg φ' h' H' xs vs → Q xs H'
  | .ex c fs h' => ∀ cls dd H' φ', Step φ h H φ' h' H' → Sim K φ' h' H' → XRep K mg H' (Live φ' h') c fs cls dd → E cls dd H'
  | .no => False
def PoS (φ : List Addr) (h : Hh) (H : Hp) (o : So) (D : Ends) (W : WX) : Prop := match o with
  | .nx ρ h' => ∀ σ' H' φ', Step φ h H φ' h' H' → Sim K φ' h' H' → ERep K mg φ' h' H' σ' ρ → D.nx σ' H'
  | .bk ρ h' => ∀ σ' H' φ', Step φ h H φ' h' H' → Sim K φ' h' H' → ERep K mg φ' h' H' σ' ρ → D.bk σ' H'
  | .ct ρ h' => ∀ σ' H' φ', Step φ h H φ' h' H' → Sim K φ' h' H' → ERep K mg φ' h' H' σ' ρ → D.ct σ' H'
  | .rt v h' => ∀ x H' φ', Step φ h H φ' h' H' → Sim K φ' h' H' → VRep K mg φ' h' H' x v → D.rt x H'
  | .ex c fs ρ h' => ∀ cls dd σ' H' φ', Step φ h H φ' h' H' → Sim K φ' h' H' → ERep K mg φ' h' H' σ' ρ → XRep K mg H' (Live φ' h') c fs cls dd → W cls dd σ' H'
  | .no => False
def tE (W : WX) (f : Ev) : TE := fun σ H Q => ∃ φ h ρ, Sim K φ h H ∧ ERep K mg φ h H σ ρ ∧ PoX K mg φ h H (f ρ h) Q (WE W σ)
def tT (W : WX) (f : Tv) : TT := fun σ H Q => ∃ φ h ρ, Sim K φ h H ∧ ERep K mg φ h H σ ρ ∧ PoT K mg φ h H (f ρ h) Q (WE W σ)
def tA (W : WX) (f : Av) : TA := fun σ H Q => ∃ φ h ρ, Sim K φ h H ∧ ERep K mg φ h H σ ρ ∧ PoA K mg φ h H (f ρ h) Q (WE W σ)
def tS (W : WX) (f : Sv) : TS := fun D σ H => ∃ φ h ρ, Sim K φ h H ∧ ERep K mg φ h H σ ρ ∧ PoS K mg φ h H (f ρ h) D W
end
/-- the judgements: X's code e means f; W: what is wished of errors -/
def EE (X : Cx) (W : WX) (e : Expr) (f : Ev) : Prop := PE X e (tE X.K X.mg W f)
def ET (X : Cx) (W : WX) (e : Expr) (f : Tv) : Prop := PT X e (tT X.K X.mg W f)
def EA (X : Cx) (W : WX) (es : List Expr) (f : Av) : Prop := PA X es (tA X.K X.mg W f)
def ES (X : Cx) (W : WX) (st : Stmt) (f : Sv) : Prop := PS X st (tS X.K X.mg W f)
def ESs (X : Cx) (W : WX) (st : List Stmt) (f : Sv) : Prop := PSs X st (tS X.K X.mg W f)

theorem PE.of {X : Cx} {e : Expr} {t t' : TE} (h : PE X e t) (i : ∀ σ H Q, t' σ H Q → t σ H Q) : PE X e t' := ⟨fun pins s σ H Q I w => h.run pins s σ H Q I (i σ H Q w)⟩
theorem PT.of {X : Cx} {e : Expr} {t t' : TT} (h : PT X e t) (i : ∀ σ H Q, t' σ H Q → t σ H Q) : PT X e t' := ⟨fun pins s σ H Q I w => h.run pins s σ H Q I (i σ H Q w)⟩
theorem PW.of {X : Cx} {e : Expr} {t t' : TT} (h : PW X e t) (i : ∀ σ H Q, t' σ H Q → t σ H Q) : PW X e t' := ⟨fun wh pins s σ H Q I w => h.run wh pins s σ H Q I (i σ H Q w)⟩
theorem PA.of {X : Cx} {e : List Expr} {t t' : TA} (h : PA X e t) (i : ∀ σ H Q, t' σ H Q → t σ H Q) : PA X e t' := ⟨fun pos pins s σ H Q I w => h.run pos pins s σ H Q I (i σ H Q w)⟩
theorem PS.of {X : Cx} {e : Stmt} {t t' : TS} (h : PS X e t) (i : ∀ D σ H, t' D σ H → t D σ H) : PS X e t' := ⟨fun pins s σ H Q I w => h.run pins s σ H Q I (i Q σ H w)⟩
theorem PSs.of {X : Cx} {e : List Stmt} {t t' : TS} (h : PSs X e t) (i : ∀ D σ H, t' D σ H → t D σ H) : PSs X e t' := ⟨fun pins s σ H Q I w => h.run pins s σ H Q I (i Q σ H w)⟩
end Rk

/-! Rk1: the abstract heap grows, changes, is frozen; readings in a row. -/
namespace Rk
open PySem PySem.Spec L2
variable {mg : Str → Option Value}
section
variable {K : PySem.W.Frag} {mg : Str → Option Value} {φ φ' φ1 : List Addr} {h h' h1 : Hh} {H H' H1 : Hp} {a p : Addr} {n : Nat}

theorem Sim.live (s : Sim K φ h H) {a : Addr} (l : Live φ h a) : ∃ o, H a = some o := by
  obtain ⟨i, o, e1, e2⟩ := l
  obtain ⟨b, e3, r⟩ := s.ob i o e2
  rw [e1] at e3
  have e4 := Option.some.inj e3
  subst e4
  cases o with
  | lst xs => obtain ⟨xs, e, _⟩ := r; exact ⟨_, e⟩
  | dct kvs => obtain ⟨xs, e, _⟩ := r; exact ⟨_, e⟩
  | tbl x => obtain ⟨c, ps, _, e, _⟩ := r; exact ⟨_, e⟩
  | rl ns => obtain ⟨xs, e⟩ := r; exact ⟨_, e⟩
/-- what stands where a live object is -/
theorem Sim.kind (s : Sim K φ h H) {a : Addr} (l : Live φ h a) : (∃ xs, H a = some (.lst xs)) ∨ (∃ kvs, H a = some (.dK kvs)) ∨ ∃ ps, H a = some (.tbl ps) := by
  obtain ⟨i, o, e1, e2⟩ := l
  obtain ⟨b, e3, r⟩ := s.ob i o e2
  rw [e1] at e3
  have e4 := Option.some.inj e3
  subst e4
  cases o with
  | lst xs => obtain ⟨xs, e, _⟩ := r; exact .inl ⟨_, e⟩
  | dct kvs => obtain ⟨xs, e, _⟩ := r; exact .inr (.inl ⟨_, e⟩)
  | tbl x => obtain ⟨c, ps, _, e, _⟩ := r; exact .inr (.inr ⟨_, e⟩)
  | rl ns => obtain ⟨xs, e⟩ := r; exact .inl ⟨_, e⟩
theorem Sim.notCode (s : Sim K φ h H) {a c : Addr} {q : Str} (e : H a = some (LamX.CodeO c q)) : ¬ Live φ h a := fun l => by
  rcases s.kind l with ⟨xs, z⟩ | ⟨kvs, z⟩ | ⟨ps, z⟩ <;> rw [e] at z <;> unfold LamX.CodeO at z <;> cases z
theorem Sim.fresh (s : Sim K φ h H) (e : H p = none) : ¬ Live φ h p := fun l => by
  obtain ⟨o, q⟩ := s.live l
  rw [e] at q
  cases q
theorem ORep.stay {M M' : Addr → Prop} {o : Ob} (st : Stay H M H' M') (k : ∀ u, H a = some u → H' a = some u) (nc : ∀ (c : Addr) (q : Str), H c = some (LamX.CodeO c q) → ¬ M c) (r : ORep K H M a o) : ORep K H' M' a o := by
  cases o with
  | lst xs => obtain ⟨xs, e, q⟩ := r; exact ⟨xs, k _ e, q.stay st⟩
  | dct kvs => obtain ⟨xs, e, q⟩ := r; exact ⟨xs, k _ e, q.stay st⟩
  | tbl x =>
    obtain ⟨c, ps, e1, e2, e3, e4⟩ := r
    exact ⟨c, ps, e1, k _ e2, e3, fun pos cv z => (e4 pos cv z).imp fun c' w => ⟨w.1, (st _ _ w.2 LamX.codeO_ne (nc _ _ w.2)).1⟩⟩
  | rl ns => obtain ⟨xs, e⟩ := r; exact ⟨xs, k _ e⟩
/-- a new object that is not numbered -/
theorem Sim.grow (s : Sim K φ h H) {o : HO} (e : H p = none) : Step φ h H φ h (upd H p o) ∧ Sim K φ h (upd H p o) := by
  have k : ∀ b u, H b = some u → upd H p o b = some u := fun b u q => by rw [upd_ne (ne_of_none q e)]; exact q
  have st : Stay H (Live φ h) (upd H p o) (Live φ h) := fun b u q _ n => ⟨k b u q, n⟩
  refine ⟨⟨List.prefix_refl φ, st⟩, s.len, s.inj, fun i ob e2 => ?_, fun i ns e2 => ?_⟩
  · obtain ⟨b, e3, r⟩ := s.ob i ob e2
    exact ⟨b, e3, r.stay st (k b) fun _ _ z => s.notCode z⟩
  · obtain ⟨b, as, e3, e4, e5, e6⟩ := s.rf i ns e2
    exact ⟨b, as, e3, k b _ e4, e5, e6⟩
theorem live_new {o : Ob} (hl : φ.length = h.length) {b : Addr} : Live (φ ++ [p]) (h ++ [some o]) b ↔ Live φ h b ∨ b = p := by
  constructor
  · rintro ⟨i, u, e1, e2⟩
    by_cases hi : i < φ.length
    · rw [List.getElem?_append_left hi] at e1
      rw [List.getElem?_append_left (by omega)] at e2
      exact .inl ⟨i, u, e1, e2⟩
    · rw [List.getElem?_append_right (by omega)] at e1
      have : i - φ.length = 0 := by
        have := (List.getElem?_eq_some_iff.mp e1).1
        simp at this
        omega
      rw [this] at e1
      exact .inr (Option.some.inj e1).symm
  · rintro (⟨i, u, e1, e2⟩ | rfl)
    · exact ⟨i, u, by rw [List.getElem?_append_left (List.getElem?_eq_some_iff.mp e1).1]; exact e1, by rw [List.getElem?_append_left (List.getElem?_eq_some_iff.mp e2).1]; exact e2⟩
    · exact ⟨φ.length, o, by simp, by rw [hl]; simp⟩
/-- a new object that is numbered -/
theorem Sim.new (s : Sim K φ h H) {o : HO} {ob : Ob} (e : H p = none) (r : ∀ M, Stay H (Live φ h) (upd H p o) M → ORep K (upd H p o) M p ob) (nr : ∀ ns, ob ≠ .rl ns := by intro _ z; cases z) :
    Step φ h H (φ ++ [p]) (h ++ [some ob]) (upd H p o) ∧ Sim K (φ ++ [p]) (h ++ [some ob]) (upd H p o) ∧ VRep K mg (φ ++ [p]) (h ++ [some ob]) (upd H p o) (.ref p) (.r h.length) := by
  have k : ∀ b u, H b = some u → upd H p o b = some u := fun b u q => by rw [upd_ne (ne_of_none q e)]; exact q
  have st : Stay H (Live φ h) (upd H p o) (Live (φ ++ [p]) (h ++ [some ob])) := fun b u q _ n => ⟨k b u q, fun l => by
    rcases (live_new s.len).mp l with l | rfl
    · exact n l
    · rw [e] at q; cases q⟩
  have nl := s.fresh e
  have hgt : ∀ (i : Nat) (b : Addr) (u : Ob), (φ ++ [p])[i]? = some b → (h ++ [some ob])[i]? = some (some u) → (i < φ.length ∧ φ[i]? = some b ∧ h[i]? = some (some u)) ∨ (i = φ.length ∧ b = p ∧ u = ob) := fun i b u e1 e2 => by
    by_cases hi : i < φ.length
    · rw [List.getElem?_append_left hi] at e1
      rw [List.getElem?_append_left (by rw [← s.len]; exact hi)] at e2
      exact .inl ⟨hi, e1, e2⟩
    · have hz : i = φ.length := by
        have := (List.getElem?_eq_some_iff.mp e1).1
        simp at this
        omega
      subst hz
      rw [List.getElem?_append_right (by omega)] at e1
      rw [s.len, List.getElem?_append_right (by omega)] at e2
      simp at e1 e2
      exact .inr ⟨rfl, e1.symm, e2.symm⟩
  refine ⟨⟨List.prefix_append φ [p], st⟩, ⟨by simp [s.len], fun i j b u u' e1 e2 e3 e4 => ?_, fun i u e2 => ?_, fun i ns e2 => ?_⟩, ?_⟩
  · rcases hgt i b u e1 e3 with ⟨h1, h2, h3⟩ | ⟨h1, h2, h3⟩ <;> rcases hgt j b u' e2 e4 with ⟨g1, g2, g3⟩ | ⟨g1, g2, g3⟩
    · exact s.inj i j b u u' h2 g2 h3 g3
    · subst g2; exact absurd ⟨i, u, h2, h3⟩ nl
    · subst h2; exact absurd ⟨j, u', g2, g3⟩ nl
    · omega
  · by_cases hi : i < φ.length
    · have e2' : h[i]? = some (some u) := by
        rw [List.getElem?_append_left (by rw [← s.len]; exact hi)] at e2
        exact e2
      obtain ⟨b, e3, q⟩ := s.ob i u e2'
      exact ⟨b, by rw [List.getElem?_append_left hi]; exact e3, q.stay st (k b) fun _ _ z => s.notCode z⟩
    · have hz : i = h.length := by
        have := (List.getElem?_eq_some_iff.mp e2).1
        have := s.len
        simp at *
        omega
      subst hz
      rw [List.getElem?_append_right (by omega)] at e2
      simp at e2
      subst e2
      exact ⟨p, by rw [← s.len]; simp, r _ st⟩
  · by_cases hi : i < φ.length
    · have e2' : h[i]? = some (some (.rl ns)) := by
        rw [List.getElem?_append_left (by rw [← s.len]; exact hi)] at e2
        exact e2
      obtain ⟨b, as, e3, e4, e5, e6⟩ := s.rf i ns e2'
      refine ⟨b, as, by rw [List.getElem?_append_left hi]; exact e3, k b _ e4, e5, fun k0 n0 z => ?_⟩
      obtain ⟨z1, z2⟩ := e6 k0 n0 z
      exact ⟨z1, by rw [List.getElem?_append_left (by omega)]; exact z2⟩
    · have hz : i = h.length := by
        have := (List.getElem?_eq_some_iff.mp e2).1
        have := s.len
        simp at *
        omega
      subst hz
      rw [List.getElem?_append_right (by omega)] at e2
      simp at e2
      exact absurd e2 (nr ns)
  · exact ⟨p, by rw [← s.len]; simp, rfl⟩
theorem live_set {o ob : Ob} (e : h[n]? = some (some o)) {b : Addr} : Live φ (h.set n (some ob)) b ↔ Live φ h b := by
  have hl := (List.getElem?_eq_some_iff.mp e).1
  constructor
  · rintro ⟨i, u, e1, e2⟩
    by_cases hi : n = i
    · subst hi; exact ⟨n, o, e1, e⟩
    · rw [List.getElem?_set_ne hi] at e2; exact ⟨i, u, e1, e2⟩
  · rintro ⟨i, u, e1, e2⟩
    by_cases hi : n = i
    · subst hi; exact ⟨n, ob, e1, by rw [List.getElem?_set_self hl]⟩
    · exact ⟨i, u, e1, by rw [List.getElem?_set_ne hi]; exact e2⟩
/-- an object changes -/
theorem Sim.write (s : Sim K φ h H) {o ob : Ob} {u : HO} (e : h[n]? = some (some o)) (ea : φ[n]? = some a) (r : ∀ M, Stay H (Live φ h) (upd H a u) M → ORep K (upd H a u) M a ob) (nr : ∀ ns, ob ≠ .rl ns := by intro _ z; cases z) :
    Step φ h H φ (h.set n (some ob)) (upd H a u) ∧ Sim K φ (h.set n (some ob)) (upd H a u) := by
  have la : Live φ h a := ⟨n, o, ea, e⟩
  have hl := (List.getElem?_eq_some_iff.mp e).1
  have st : Stay H (Live φ h) (upd H a u) (Live φ (h.set n (some ob))) := fun b v q _ nb => ⟨by rw [upd_ne (fun z => nb (by rw [z]; exact la))]; exact q, fun l => nb ((live_set e).mp l)⟩
  have back : ∀ (i : Nat) (v : Ob), (h.set n (some ob))[i]? = some (some v) → ∃ v', h[i]? = some (some v') := fun i v e2 => by
    by_cases hi : n = i
    · subst hi; exact ⟨o, e⟩
    · rw [List.getElem?_set_ne hi] at e2; exact ⟨v, e2⟩
  refine ⟨⟨List.prefix_refl φ, st⟩, ⟨by rw [List.length_set]; exact s.len, fun i j b v v' e1 e2 e3 e4 => ?_, fun i v e2 => ?_, fun i ns e2 => ?_⟩⟩
  · obtain ⟨w, f3⟩ := back i v e3
    obtain ⟨w', f4⟩ := back j v' e4
    exact s.inj i j b w w' e1 e2 f3 f4
  · by_cases hi : n = i
    · subst hi
      rw [List.getElem?_set_self hl] at e2
      have e3 := Option.some.inj (Option.some.inj e2)
      subst e3
      exact ⟨a, ea, r _ st⟩
    · rw [List.getElem?_set_ne hi] at e2
      obtain ⟨b, e3, q⟩ := s.ob i v e2
      refine ⟨b, e3, q.stay st (fun w hw => ?_) fun _ _ z => s.notCode z⟩
      rw [upd_ne (fun z => hi (s.inj n i a o v ea (by rw [← z]; exact e3) e e2))]
      exact hw
  · by_cases hi : n = i
    · subst hi
      rw [List.getElem?_set_self hl] at e2
      exact absurd (Option.some.inj (Option.some.inj e2)) (nr ns)
    · rw [List.getElem?_set_ne hi] at e2
      obtain ⟨b, as, e3, e4, e5, e6⟩ := s.rf i ns e2
      refine ⟨b, as, e3, ?_, e5, e6⟩
      rw [upd_ne (fun z => hi (s.inj n i a o _ ea (by rw [← z]; exact e3) e e2))]
      exact e4
/-- an object is frozen: it never changes from now on -/
theorem Sim.freeze (s : Sim K φ h H) {o : Ob} (e : h[n]? = some (some o)) (ea : φ[n]? = some a) : Step φ h H φ (h.set n none) H ∧ Sim K φ (h.set n none) H ∧ ¬ Live φ (h.set n none) a := by
  have hl := (List.getElem?_eq_some_iff.mp e).1
  have less : ∀ b, Live φ (h.set n none) b → Live φ h b := fun b ⟨i, u, e1, e2⟩ => by
    by_cases hi : n = i
    · subst hi; rw [List.getElem?_set_self hl] at e2; cases e2
    · rw [List.getElem?_set_ne hi] at e2; exact ⟨i, u, e1, e2⟩
  have st : Stay H (Live φ h) H (Live φ (h.set n none)) := fun b v q _ nb => ⟨q, fun l => nb (less b l)⟩
  have back : ∀ (i : Nat) (v : Ob), (h.set n none)[i]? = some (some v) → h[i]? = some (some v) ∧ n ≠ i := fun i v e2 => by
    by_cases hi : n = i
    · subst hi; rw [List.getElem?_set_self hl] at e2; cases e2
    · rw [List.getElem?_set_ne hi] at e2; exact ⟨e2, hi⟩
  refine ⟨⟨List.prefix_refl φ, st⟩, ⟨by rw [List.length_set]; exact s.len, fun i j b v v' e1 e2 e3 e4 => s.inj i j b v v' e1 e2 (back i v e3).1 (back j v' e4).1, fun i v e2 => ?_, fun i ns e2 => s.rf i ns (back i _ e2).1⟩, ?_⟩
  · obtain ⟨b, e3, q⟩ := s.ob i v (back i v e2).1
    exact ⟨b, e3, q.stay st (fun _ hw => hw) fun _ _ z => s.notCode z⟩
  · rintro ⟨i, v, e1, e2⟩
    have q := back i v e2
    exact q.2 (s.inj n i a o v ea e1 e q.1)

/-! ### readings in a row -/
theorem PoX.pull {o : Out Vl} {Q : VK} {E : XK} (s : Step φ h H φ1 h1 H1) (q : PoX K mg φ h H o Q E) : PoX K mg φ1 h1 H1 o Q E := by
  cases o with
  | ok v h2 => exact fun x H' φ' st => q x H' φ' (s.trans st)
  | ex c fs h2 => exact fun cls dd H' φ' st => q cls dd H' φ' (s.trans st)
  | no => exact q
theorem PoT.pull {o : Out Bool} {Q : Bool → Hp → Prop} {E : XK} (s : Step φ h H φ1 h1 H1) (q : PoT K mg φ h H o Q E) : PoT K mg φ1 h1 H1 o Q E := by
  cases o with
  | ok v h2 => exact fun H' φ' st => q H' φ' (s.trans st)
  | ex c fs h2 => exact fun cls dd H' φ' st => q cls dd H' φ' (s.trans st)
  | no => exact q
theorem PoA.pull {o : Out (List Vl)} {Q : List V → Hp → Prop} {E : XK} (s : Step φ h H φ1 h1 H1) (q : PoA K mg φ h H o Q E) : PoA K mg φ1 h1 H1 o Q E := by
  cases o with
  | ok v h2 => exact fun x H' φ' st => q x H' φ' (s.trans st)
  | ex c fs h2 => exact fun cls dd H' φ' st => q cls dd H' φ' (s.trans st)
  | no => exact q
theorem PoS.pull {o : So} {D : Ends} {W : WX} (s : Step φ h H φ1 h1 H1) (q : PoS K mg φ h H o D W) : PoS K mg φ1 h1 H1 o D W := by
  cases o with
  | nx ρ h2 => exact fun x H' φ' st => q x H' φ' (s.trans st)
  | rt v h2 => exact fun x H' φ' st => q x H' φ' (s.trans st)
  | bk ρ h2 => exact fun x H' φ' st => q x H' φ' (s.trans st)
  | ct ρ h2 => exact fun x H' φ' st => q x H' φ' (s.trans st)
  | ex c fs ρ h2 => exact fun cls dd x H' φ' st => q cls dd x H' φ' (s.trans st)
  | no => exact q
/-- the outcome's own end, at once -/
theorem PoX.now {v : Vl} {x : V} {Q : VK} {E : XK} (q : PoX K mg φ h H (.ok v h) Q E) (s : Sim K φ h H) (r : VRep K mg φ h H x v) : Q x H := q x H φ (Step.refl _ _ _) s r
variable {E : XK}
theorem PoX.goE {o : Out Vl} {k : Vl → Hh → Out Vl} {Q : VK} {Q1 : VK} (q : PoX K mg φ h H (o.bind k) Q E)
    (hk : ∀ (x : V) (v : Vl) (h1 : Hh) (H1 : Hp) (φ1 : List Addr), Step φ h H φ1 h1 H1 → Sim K φ1 h1 H1 → VRep K mg φ1 h1 H1 x v → PoX K mg φ1 h1 H1 (k v h1) Q E → Q1 x H1) : PoX K mg φ h H o Q1 E := by
  cases o with
  | ok v h1 => exact fun x H' φ' st sm' rv => hk x v h1 H' φ' st sm' rv (PoX.pull st q)
  | ex c fs h1 => exact q
  | no => exact q
theorem PoX.goT {o : Out Bool} {k : Bool → Hh → Out Vl} {Q : VK} {Q1 : (Bool → Hp → Prop)} (q : PoX K mg φ h H (o.bind k) Q E)
    (hk : ∀ (v : Bool) (h1 : Hh) (H1 : Hp) (φ1 : List Addr), Step φ h H φ1 h1 H1 → Sim K φ1 h1 H1 → PoX K mg φ1 h1 H1 (k v h1) Q E → Q1 v H1) : PoT K mg φ h H o Q1 E := by
  cases o with
  | ok v h1 => exact fun H' φ' st sm' => hk v h1 H' φ' st sm' (PoX.pull st q)
  | ex c fs h1 => exact q
  | no => exact q
theorem PoX.goA {o : Out (List Vl)} {k : (List Vl) → Hh → Out Vl} {Q : VK} {Q1 : (List V → Hp → Prop)} (q : PoX K mg φ h H (o.bind k) Q E)
    (hk : ∀ (x : List V) (v : List Vl) (h1 : Hh) (H1 : Hp) (φ1 : List Addr), Step φ h H φ1 h1 H1 → Sim K φ1 h1 H1 → VReps K mg φ1 h1 H1 x v → PoX K mg φ1 h1 H1 (k v h1) Q E → Q1 x H1) : PoA K mg φ h H o Q1 E := by
  cases o with
  | ok v h1 => exact fun x H' φ' st sm' rv => hk x v h1 H' φ' st sm' rv (PoX.pull st q)
  | ex c fs h1 => exact q
  | no => exact q
theorem PoT.goE {o : Out Vl} {k : Vl → Hh → Out Bool} {Q : (Bool → Hp → Prop)} {Q1 : VK} (q : PoT K mg φ h H (o.bind k) Q E)
    (hk : ∀ (x : V) (v : Vl) (h1 : Hh) (H1 : Hp) (φ1 : List Addr), Step φ h H φ1 h1 H1 → Sim K φ1 h1 H1 → VRep K mg φ1 h1 H1 x v → PoT K mg φ1 h1 H1 (k v h1) Q E → Q1 x H1) : PoX K mg φ h H o Q1 E := by
  cases o with
  | ok v h1 => exact fun x H' φ' st sm' rv => hk x v h1 H' φ' st sm' rv (PoT.pull st q)
  | ex c fs h1 => exact q
  | no => exact q
theorem PoT.goT {o : Out Bool} {k : Bool → Hh → Out Bool} {Q : (Bool → Hp → Prop)} {Q1 : (Bool → Hp → Prop)} (q : PoT K mg φ h H (o.bind k) Q E)
    (hk : ∀ (v : Bool) (h1 : Hh) (H1 : Hp) (φ1 : List Addr), Step φ h H φ1 h1 H1 → Sim K φ1 h1 H1 → PoT K mg φ1 h1 H1 (k v h1) Q E → Q1 v H1) : PoT K mg φ h H o Q1 E := by
  cases o with
  | ok v h1 => exact fun H' φ' st sm' => hk v h1 H' φ' st sm' (PoT.pull st q)
  | ex c fs h1 => exact q
  | no => exact q
theorem PoT.goA {o : Out (List Vl)} {k : (List Vl) → Hh → Out Bool} {Q : (Bool → Hp → Prop)} {Q1 : (List V → Hp → Prop)} (q : PoT K mg φ h H (o.bind k) Q E)
    (hk : ∀ (x : List V) (v : List Vl) (h1 : Hh) (H1 : Hp) (φ1 : List Addr), Step φ h H φ1 h1 H1 → Sim K φ1 h1 H1 → VReps K mg φ1 h1 H1 x v → PoT K mg φ1 h1 H1 (k v h1) Q E → Q1 x H1) : PoA K mg φ h H o Q1 E := by
  cases o with
  | ok v h1 => exact fun x H' φ' st sm' rv => hk x v h1 H' φ' st sm' rv (PoT.pull st q)
  | ex c fs h1 => exact q
  | no => exact q
theorem PoA.goE {o : Out Vl} {k : Vl → Hh → Out (List Vl)} {Q : (List V → Hp → Prop)} {Q1 : VK} (q : PoA K mg φ h H (o.bind k) Q E)
    (hk : ∀ (x : V) (v : Vl) (h1 : Hh) (H1 : Hp) (φ1 : List Addr), Step φ h H φ1 h1 H1 → Sim K φ1 h1 H1 → VRep K mg φ1 h1 H1 x v → PoA K mg φ1 h1 H1 (k v h1) Q E → Q1 x H1) : PoX K mg φ h H o Q1 E := by
  cases o with
  | ok v h1 => exact fun x H' φ' st sm' rv => hk x v h1 H' φ' st sm' rv (PoA.pull st q)
  | ex c fs h1 => exact q
  | no => exact q
theorem PoA.goT {o : Out Bool} {k : Bool → Hh → Out (List Vl)} {Q : (List V → Hp → Prop)} {Q1 : (Bool → Hp → Prop)} (q : PoA K mg φ h H (o.bind k) Q E)
    (hk : ∀ (v : Bool) (h1 : Hh) (H1 : Hp) (φ1 : List Addr), Step φ h H φ1 h1 H1 → Sim K φ1 h1 H1 → PoA K mg φ1 h1 H1 (k v h1) Q E → Q1 v H1) : PoT K mg φ h H o Q1 E := by
  cases o with
  | ok v h1 => exact fun H' φ' st sm' => hk v h1 H' φ' st sm' (PoA.pull st q)
  | ex c fs h1 => exact q
  | no => exact q
theorem PoA.goA {o : Out (List Vl)} {k : (List Vl) → Hh → Out (List Vl)} {Q : (List V → Hp → Prop)} {Q1 : (List V → Hp → Prop)} (q : PoA K mg φ h H (o.bind k) Q E)
    (hk : ∀ (x : List V) (v : List Vl) (h1 : Hh) (H1 : Hp) (φ1 : List Addr), Step φ h H φ1 h1 H1 → Sim K φ1 h1 H1 → VReps K mg φ1 h1 H1 x v → PoA K mg φ1 h1 H1 (k v h1) Q E → Q1 x H1) : PoA K mg φ h H o Q1 E := by
  cases o with
  | ok v h1 => exact fun x H' φ' st sm' rv => hk x v h1 H' φ' st sm' rv (PoA.pull st q)
  | ex c fs h1 => exact q
  | no => exact q
/-- outcome of an expression, then a statement's end -/
def Out.then {α : Type} (ρ : En) : Out α → (α → Hh → So) → So
  | .ok a h, f => f a h
  | .ex c fs h, _ => .ex c fs ρ h
  | .no, _ => .no
theorem Out.then_ok {α : Type} (ρ : En) (a : α) (h : Hh) (f : α → Hh → So) : Out.then ρ (Out.ok a h) f = f a h := rfl
theorem Out.then_ex {α : Type} (ρ : En) (c : Str) (fs : List (Str × Da)) (h : Hh) (f : α → Hh → So) : Out.then ρ (Out.ex c fs h) f = .ex c fs ρ h := rfl
variable {W : WX} {σ : L2.St} {ρ : En} {D : Ends}
theorem PoS.goE {o : Out Vl} {k : Vl → Hh → So} {Q1 : VK} (er : ERep K mg φ h H σ ρ) (q : PoS K mg φ h H (Out.then ρ o k) D W)
    (hk : ∀ (x : V) (v : Vl) (h1 : Hh) (H1 : Hp) (φ1 : List Addr), Step φ h H φ1 h1 H1 → Sim K φ1 h1 H1 → ERep K mg φ1 h1 H1 σ ρ → VRep K mg φ1 h1 H1 x v → PoS K mg φ1 h1 H1 (k v h1) D W → Q1 x H1) : PoX K mg φ h H o Q1 (WE W σ) := by
  cases o with
  | ok v h1 => exact fun x H' φ' st sm' rv => hk x v h1 H' φ' st sm' (er.step st) rv (PoS.pull st q)
  | ex c fs h1 => exact fun cls dd H' φ' st sm' xr => q cls dd σ H' φ' st sm' (er.step st) xr
  | no => exact q
theorem PoS.goT {o : Out Bool} {k : Bool → Hh → So} {Q1 : (Bool → Hp → Prop)} (er : ERep K mg φ h H σ ρ) (q : PoS K mg φ h H (Out.then ρ o k) D W)
    (hk : ∀ (v : Bool) (h1 : Hh) (H1 : Hp) (φ1 : List Addr), Step φ h H φ1 h1 H1 → Sim K φ1 h1 H1 → ERep K mg φ1 h1 H1 σ ρ → PoS K mg φ1 h1 H1 (k v h1) D W → Q1 v H1) : PoT K mg φ h H o Q1 (WE W σ) := by
  cases o with
  | ok v h1 => exact fun H' φ' st sm' => hk v h1 H' φ' st sm' (er.step st) (PoS.pull st q)
  | ex c fs h1 => exact fun cls dd H' φ' st sm' xr => q cls dd σ H' φ' st sm' (er.step st) xr
  | no => exact q
theorem PoS.goA {o : Out (List Vl)} {k : (List Vl) → Hh → So} {Q1 : (List V → Hp → Prop)} (er : ERep K mg φ h H σ ρ) (q : PoS K mg φ h H (Out.then ρ o k) D W)
    (hk : ∀ (x : List V) (v : List Vl) (h1 : Hh) (H1 : Hp) (φ1 : List Addr), Step φ h H φ1 h1 H1 → Sim K φ1 h1 H1 → ERep K mg φ1 h1 H1 σ ρ → VReps K mg φ1 h1 H1 x v → PoS K mg φ1 h1 H1 (k v h1) D W → Q1 x H1) : PoA K mg φ h H o Q1 (WE W σ) := by
  cases o with
  | ok v h1 => exact fun x H' φ' st sm' rv => hk x v h1 H' φ' st sm' (er.step st) rv (PoS.pull st q)
  | ex c fs h1 => exact fun cls dd H' φ' st sm' xr => q cls dd σ H' φ' st sm' (er.step st) xr
  | no => exact q
end
end Rk

/-! Rk2: expressions. -/
namespace Rk
open PySem PySem.Spec L2
variable {mg : Str → Option Value}
/-! ### data out of values -/
def fitB (n : Nat) : Bool := decide (n ≤ 16777216)
theorem fitB_ok {n : Nat} (h : n ≤ 16777216) : fitB n = true := decide_eq_true h
theorem fitB_le {n : Nat} (h : fitB n = true) : n ≤ sizeLine := by
  rw [sizeLine_eq]
  exact of_decide_eq_true h
/-- a list that is read -/
def asL : Vl → Hh → Option (List Da)
  | .d (.list xs), _ => some xs
  | .r n, h => match h[n]? with
    | some (some (.lst xs)) => some xs
    | _ => none
  | _, _ => none
/-- the data of a value, as it stands now -/
def asD : Vl → Hh → Option Da
  | .d x, _ => some x
  | .r n, h => match h[n]? with
    | some (some (.lst xs)) => some (.list xs)
    | _ => none
  | _, _ => none
/-- data for ever: an object is frozen -/
def fz : Vl → Hh → Option (Da × Hh)
  | .d x, h => some (x, h)
  | .r n, h => match h[n]? with
    | some (some (.lst xs)) => some (.list xs, h.set n none)
    | _ => none
  | _, _ => none
def fzs : List Vl → Hh → Option (List Da × Hh)
  | [], h => some ([], h)
  | v :: vs, h => (fz v h).bind fun p => (fzs vs p.2).map fun q => (p.1 :: q.1, q.2)
section
variable {K : PySem.W.Frag} {φ : List Addr} {h h' : Hh} {H : Hp} {x : V} {v : Vl}
theorem Sim.at_ (s : Sim K φ h H) {n : Nat} {o : Ob} {a : Addr} (e : h[n]? = some (some o)) (ea : φ[n]? = some a) : ORep K H (Live φ h) a o := by
  obtain ⟨b, e1, r⟩ := s.ob n o e
  rw [ea] at e1
  have := Option.some.inj e1
  subst this
  exact r
theorem asL_ok {ds : List Da} (s : Sim K φ h H) (r : VRep K mg φ h H x v) (e : asL v h = some ds) : ∃ a xs, x = .ref a ∧ SqL K H a xs ∧ Reps K H (Live φ h) xs ds := by
  unfold asL at e
  split at e
  · cases e
    cases r with
    | lst h1 n r => exact ⟨_, _, rfl, .inl h1, r⟩
    | lstK h1 r => exact ⟨_, _, rfl, .inr h1, r⟩
  · split at e
    · cases e
      obtain ⟨a, ea, rfl⟩ := r
      obtain ⟨xs, e2, q⟩ := s.at_ (by assumption) ea
      exact ⟨a, xs, rfl, .of e2, q⟩
    · cases e
  · cases e
mutual
theorem Rep.dp {M : Addr → Prop} : ∀ {v : V} {d : Da}, Rep K H M v d → d.hasDict = false → Dp K H v d
  | _, _, .non, _ => .non
  | _, _, .bl b, _ => .bl b
  | _, _, .int i, _ => .int i
  | _, _, .str x, _ => .str x
  | _, _, .tup h n r, e => .tup (.inl h) (Reps.dp r (by unfold PyData.hasDict at e; exact e))
  | _, _, .tupK h r, e => .tup (.inr h) (Reps.dp r (by unfold PyData.hasDict at e; exact e))
  | _, _, .lst h n r, e => .lst (.inl h) (Reps.dp r (by unfold PyData.hasDict at e; exact e))
  | _, _, .lstK h r, e => .lst (.inr h) (Reps.dp r (by unfold PyData.hasDict at e; exact e))
  | _, _, .dct0 h n, e => by
    unfold PyData.hasDict at e
    cases e
  | _, _, .dct _ _ _ _ _, e => by
    unfold PyData.hasDict at e
    cases e
  | _, _, .fn _, e => by
    unfold PyData.hasDict at e
    cases e
  | _, _, .plt _ _ _ _, e => by
    unfold PyData.hasDict at e
    cases e
theorem Reps.dp {M : Addr → Prop} : ∀ {vs : List V} {ds : List Da}, Reps K H M vs ds → PyData.hasDictAll ds = false → DpAll K H vs ds
  | _, _, .nil, _ => .nil
  | _, _, .cons r t, e => by
    unfold PyData.hasDictAll at e
    rw [Bool.or_eq_false_iff] at e
    exact .cons (Rep.dp r e.1) (Reps.dp t e.2)
end
theorem asD_ok {d : Da} (s : Sim K φ h H) (r : VRep K mg φ h H x v) (e : asD v h = some d) (nd : d.hasDict = false) : Dp K H x d := by
  unfold asD at e
  split at e
  · cases e
    exact Rep.dp r nd
  · split at e
    · cases e
      obtain ⟨a, ea, rfl⟩ := r
      obtain ⟨xs, e2, q⟩ := s.at_ (by assumption) ea
      exact .lst (.of e2) (Reps.dp q (by unfold PyData.hasDict at nd; exact nd))
    · cases e
  · cases e
theorem fz_ok {d : Da} (s : Sim K φ h H) (r : VRep K mg φ h H x v) (e : fz v h = some (d, h')) : Step φ h H φ h' H ∧ Sim K φ h' H ∧ Rep K H (Live φ h') x d := by
  unfold fz at e
  split at e
  · cases e
    exact ⟨Step.refl _ _ _, s, r⟩
  · split at e
    · cases e
      obtain ⟨a, ea, rfl⟩ := r
      rename_i hn
      obtain ⟨xs, e2, q⟩ := s.at_ hn ea
      obtain ⟨s1, s2, s3⟩ := s.freeze hn ea
      exact ⟨s1, s2, .lst (.inl e2) s3 (q.stay s1.st)⟩
    · cases e
  · cases e
theorem fzs_ok : ∀ {vs : List Vl} {xs : List V} {ds : List Da} {h h' : Hh}, Sim K φ h H → VReps K mg φ h H xs vs → fzs vs h = some (ds, h') → Step φ h H φ h' H ∧ Sim K φ h' H ∧ Reps K H (Live φ h') xs ds
  | [], _, _, _, _, s, .nil, e => by
    cases e
    exact ⟨Step.refl _ _ _, s, .nil⟩
  | v :: vs, _, ds, h, h', s, .cons r t, e => by
    unfold fzs at e
    cases e1 : fz v h with
    | none => rw [e1] at e; cases e
    | some p =>
      obtain ⟨d, h1⟩ := p
      rw [e1] at e
      dsimp only [Option.bind_some] at e
      obtain ⟨s1, s2, s3⟩ := fz_ok s r e1
      cases e2 : fzs vs h1 with
      | none => rw [e2] at e; cases e
      | some q =>
        obtain ⟨es, h2⟩ := q
        rw [e2] at e
        cases e
        obtain ⟨t1, t2, t3⟩ := fzs_ok s2 (t.step s1) e2
        exact ⟨s1.trans t1, t2, .cons (s3.stay t1.st) t3⟩
end

/-! ### names, constants -/
def eVar (i : Nat) : Ev := fun ρ h => match ρ[i]? with
  | some (some v) => .ok v h
  | _ => .no
def eD (d : Da) : Ev := fun _ h => .ok (.d d) h
section
variable {X : Cx} {W : WX}
theorem ee_var (i : Nat) {x : Str} {pos : Pos} (hN : X.N[i]? = some x := by rfl) (hv : Vis X.env.scope x := by first | exact Or.inl rfl | exact Or.inr (Or.inl rfl) | exact Or.inr (Or.inr rfl)) (hd : (x == ("__debug__" : Str)) = false := by decide)
    (hcd : (x == ("__classdict__" : Str)) = false := by decide) : EE X W (.Name x pos) (eVar i) :=
  PE.of (pe_var hN hv hd hcd) fun σ H Q ⟨φ, h, ρ, sm, er, q⟩ => by
    unfold eVar at q
    split at q
    · rename_i v e
      obtain ⟨y, e1, r⟩ := er.at_ i v e
      exact ⟨y, e1, q.now sm r⟩
    · exact q.elim
theorem ee_c {e : Expr} {v : V} {d : Da} (p : PE X e (tC v)) (k : KRep X.K v d) : EE X W e (eD d) :=
  PE.of p fun σ H Q ⟨φ, h, ρ, sm, er, q⟩ => PoX.now (v := .d d) q sm (k _ _)
theorem ee_int {i : Int} {j : Nat} {pos : Pos} : EE X W (.Constant (.int i) j pos) (eD (.int i)) := ee_c pe_int fun _ _ => .int i
theorem ee_bl {b : Bool} {j : Nat} {pos : Pos} : EE X W (.Constant (.bool b) j pos) (eD (.bool b)) := ee_c pe_bl fun _ _ => .bl b
theorem ee_non {j : Nat} {pos : Pos} : EE X W (.Constant .none j pos) (eD .none) := ee_c pe_non fun _ _ => .non
theorem ee_str {x : Str} {j : Nat} {pos : Pos} : EE X W (.Constant (.str x) j pos) (eD (.str x)) := ee_c pe_str fun _ _ => .str x
theorem ee_glob {x : Str} {v : V} {u : Value} {d : Da} {pos : Pos} (hg : Gl X x) (hm : X.mg x = some u) (r : RelV v u) (k : KRep X.K v d) (hd : (x == ("__debug__" : Str)) = false := by decide) : EE X W (.Name x pos) (eD d) := ee_c (pe_glob hg hm r hd) k
end

/-! ### operators -/
def ofO : Option (Vl × Hh) → Out Vl
  | some p => .ok p.1 p.2
  | none => .no
theorem ofO_some (v : Vl) (h : Hh) : ofO (some (v, h)) = .ok v h := rfl
abbrev G2 := Vl → Vl → Hh → Option (Vl × Hh)
def eOp (g : G2) (a b : Ev) : Ev := fun ρ h => (a ρ h).bind fun x h1 => (b ρ h1).bind fun y h2 => ofO (g x y h2)
def Ok2 (K : PySem.W.Frag) (mg : Str → Option Value) (r : R2) (g : G2) : Prop := ∀ (φ : List Addr) (h : Hh) (H : Hp) (x y : V) (a b : Vl) (Q : VK) (v : Vl) (h' : Hh), Sim K φ h H → VRep K mg φ h H x a → VRep K mg φ h H y b → g a b h = some (v, h') →
  (∀ z H' φ', Step φ h H φ' h' H' → Sim K φ' h' H' → VRep K mg φ' h' H' z v → Q z H') → r x y H Q
theorem PoX.ofO {K : PySem.W.Frag} {mg : Str → Option Value} {φ : List Addr} {h : Hh} {H : Hp} {o : Option (Vl × Hh)} {Q : VK} {E : XK} (q : PoX K mg φ h H (Rk.ofO o) Q E) :
    ∃ v h', o = some (v, h') ∧ ∀ z H' φ', Step φ h H φ' h' H' → Sim K φ' h' H' → VRep K mg φ' h' H' z v → Q z H' := by
  cases o with
  | none => exact q.elim
  | some p => exact ⟨p.1, p.2, rfl, q⟩
section
variable {X : Cx} {W : WX} {a b c : Expr} {fa fb fc : Ev} {pos : Pos} {r r' : R2} {g g' : G2}
theorem tOp_ok {σ : L2.St} {H : Hp} {Q : VK} (ok : Ok2 X.K X.mg r g) (hf : tE X.K X.mg W (eOp g fa fb) σ H Q) : tOp r (tE X.K X.mg W fa) (tE X.K X.mg W fb) σ H Q := by
  obtain ⟨φ, h, ρ, sm, er, q⟩ := hf
  refine ⟨φ, h, ρ, sm, er, PoX.goE q fun x v h1 H1 φ1 st sm1 rv q1 => ⟨φ1, h1, ρ, sm1, er.step st, PoX.goE q1 fun y w h2 H2 φ2 st2 sm2 rw q2 => ?_⟩⟩
  obtain ⟨z, h3, e, k⟩ := PoX.ofO q2
  exact ok φ2 h2 H2 x y v w Q z h3 sm2 (rv.step st2) rw e k
theorem ee_op {op : Operator} (ho : OpR X (binaryOp op) r) (ok : Ok2 X.K X.mg r g) (ha : EE X W a fa) (hb : EE X W b fb) : EE X W (.BinOp a op b pos) (eOp g fa fb) :=
  PE.of (pe_op ho ha hb) fun σ H Q hf => tOp_ok ok hf
theorem ee_cmp {op : CmpOp} (ho : OpR X (compareOp op) r) (ok : Ok2 X.K X.mg r g) (ha : EE X W a fa) (hb : EE X W b fb) (hm : behindInMarks op b = false) : EE X W (.Compare a [op] [b] pos) (eOp g fa fb) :=
  PE.of (pe_cmpR ho ha hb hm) fun σ H Q hf => tOp_ok ok hf
/-- a value that is a truth -/
def truO : Vl → Hh → Out Bool
  | .d (.bool b), h => .ok b h
  | _, _ => .no
def eT (f : Ev) : Tv := fun ρ h => (f ρ h).bind truO
theorem VRep.bl {K : PySem.W.Frag} {φ : List Addr} {h : Hh} {H : Hp} {x : V} {c : Bool} (r : VRep K mg φ h H x (.d (.bool c))) : x = .bl c := by
  cases r
  rfl
theorem PoT.bl {K : PySem.W.Frag} {mg : Str → Option Value} {φ : List Addr} {h : Hh} {H : Hp} {v : Vl} {x : V} {Q : Bool → Hp → Prop} {E : XK} (sm : Sim K φ h H) (rv : VRep K mg φ h H x v)
    (q : PoT K mg φ h H (truO v h) Q E) : ∃ k, x = .bl k ∧ Q k H := by
  unfold truO at q
  split at q
  · exact ⟨_, VRep.bl rv, q H φ (Step.refl _ _ _) sm⟩
  · exact q.elim
theorem tTest_ok {f : Ev} {t : TE} {σ : L2.St} {H : Hp} {Q : Bool → Hp → Prop} (i : ∀ Q, tE X.K X.mg W f σ H Q → t σ H Q) (hf : tT X.K X.mg W (eT f) σ H Q) : tTest t σ H Q := by
  obtain ⟨φ, h, ρ, sm, er, q⟩ := hf
  exact i _ ⟨φ, h, ρ, sm, er, PoT.goE q fun x v h1 H1 φ1 st sm1 rv q1 => PoT.bl sm1 rv q1⟩
theorem et_cmp {op : CmpOp} (ho : OpR X (compareOp op) r) (ok : Ok2 X.K X.mg r g) (ha : EE X W a fa) (hb : EE X W b fb) (hm : behindInMarks op b = false) : ET X W (.Compare a [op] [b] pos) (eT (eOp g fa fb)) :=
  PT.of (pt_cmpR ho ha hb hm) fun σ H Q hf => tTest_ok (fun Q hf => tOp_ok ok hf) hf
theorem et_val (ha : EE X W a fa) (he : ∀ whole, isTrue a X.env whole = (do let v ← whole; standAt a.pos; holding [v] (truthy v)) := by intro _; rfl) : ET X W a (eT fa) :=
  PT.of (pt_val ha he) fun σ H Q hf => tTest_ok (t := tE X.K X.mg W fa) (fun Q hf => hf) hf
/-- a op b op' c -/
def eChain (g g' : G2) (a b c : Ev) : Ev := fun ρ h => (a ρ h).bind fun x h1 => (b ρ h1).bind fun y h2 => (ofO (g x y h2)).bind fun z h3 => match z with
  | .d (.bool true) => (c ρ h3).bind fun w h4 => ofO (g' y w h4)
  | .d (.bool false) => .ok (.d (.bool false)) h3
  | _ => .no
end
end Rk

/-! Rk3: the operators themselves. -/
namespace Rk
open PySem PySem.Spec L2
variable {mg : Str → Option Value}
/-! ### ints -/
def gInt (f : Int → Int → Option Da) : G2 := fun x y h => match x, y with
  | .d (.int a), .d (.int b) => (f a b).map fun z => (.d z, h)
  | _, _ => none
section
variable {K : PySem.W.Frag}
theorem VRep.int {φ : List Addr} {h : Hh} {H : Hp} {x : V} {c : Int} (r : VRep K mg φ h H x (.d (.int c))) : x = .int c := by
  cases r
  rfl
theorem VRep.str {φ : List Addr} {h : Hh} {H : Hp} {x : V} {c : Str} (r : VRep K mg φ h H x (.d (.str c))) : x = .str c := by
  cases r
  rfl
theorem VRep.non {φ : List Addr} {h : Hh} {H : Hp} {x : V} (r : VRep K mg φ h H x (.d .none)) : x = .non := by
  cases r
  rfl
theorem gInt_ok {f : Int → Int → Option Da} {r : R2} (hr : ∀ (a b : Int) (d : Da) (H : Hp) (Q : VK), f a b = some d → (∀ z, (∀ M, Rep K H M z d) → Q z H) → r (.int a) (.int b) H Q) : Ok2 K mg r (gInt f) := by
  intro φ h H x y a b Q v h' sm rx ry e k
  unfold gInt at e
  split at e
  · rw [VRep.int rx, VRep.int ry]
    rename_i a b
    cases e1 : f a b with
    | none => rw [e1] at e; cases e
    | some d =>
      rw [e1] at e
      cases e
      exact hr a b d H Q e1 fun z hz => k z H φ (Step.refl _ _ _) sm (hz _)
  · cases e
instance (a b : Int) : Decidable (IntMulOk a b) := by unfold IntMulOk; infer_instance
def fAdd (a b : Int) : Option Da := some (.int (a + b))
def fSub (a b : Int) : Option Da := some (.int (a - b))
def fMul (a b : Int) : Option Da := if IntMulOk a b then some (.int (a * b)) else none
def fDiv (a b : Int) : Option Da := if b ≠ 0 ∧ Builtin.divisionGoesByPylong a b = false then some (.int (a.fdiv b)) else none
def fMod (a b : Int) : Option Da := if b ≠ 0 then some (.int (a.fmod b)) else none
def fPow (a b : Int) : Option Da := if 0 ≤ b ∧ b ≤ 1000000 ∧ a.natAbs < 2 ^ 64 then some (.int (a ^ b.toNat)) else none
def fLt (a b : Int) : Option Da := some (.bool (decide (a < b)))
def fLe (a b : Int) : Option Da := some (.bool (decide (a ≤ b)))
def fGt (a b : Int) : Option Da := some (.bool (decide (b < a)))
def fGe (a b : Int) : Option Da := some (.bool (decide (b ≤ a)))
theorem ok_sub : Ok2 K mg (rI0 fun i j => .int (i - j)) (gInt fSub) := gInt_ok fun a b d H Q e k => by
  cases e
  exact ⟨a, b, rfl, rfl, k _ fun _ => .int _⟩
theorem ok_mod : Ok2 K mg (rI (fun _ j => j ≠ 0) fun i j => .int (i.fmod j)) (gInt fMod) := gInt_ok fun a b d H Q e k => by
  unfold fMod at e
  split at e
  · cases e
    exact ⟨a, b, rfl, rfl, by assumption, k _ fun _ => .int _⟩
  · cases e
/-- // where C divides -/
def CDivC (i j : Int) : Prop := j ≠ 0 ∧ Builtin.divisionGoesByPylong i j = false
theorem op_fdivC {X : Cx} : OpR X (binaryOp .FloorDiv) (rI CDivC fun i j => .int (i.fdiv j)) := opI fun i j _ _ _ _ _ hc q => PyProof.Rows.floordiv_int hc.1 q (.inl hc.2)
theorem ok_div : Ok2 K mg (rI CDivC fun i j => .int (i.fdiv j)) (gInt fDiv) := gInt_ok fun a b d H Q e k => by
  unfold fDiv at e
  split at e
  · cases e
    exact ⟨a, b, rfl, rfl, by assumption, k _ fun _ => .int _⟩
  · cases e
theorem op_mulC {X : Cx} : OpR X (binaryOp .Mult) (rI IntMulOk fun i j => .int (i * j)) := opI fun _ _ _ _ _ _ _ hc q => PyProof.Rows.mul_int q hc
theorem ok_mul : Ok2 K mg (rI IntMulOk fun i j => .int (i * j)) (gInt fMul) := gInt_ok fun a b d H Q e k => by
  unfold fMul at e
  split at e
  · cases e
    exact ⟨a, b, rfl, rfl, by assumption, k _ fun _ => .int _⟩
  · cases e
theorem ok_pow : Ok2 K mg (rI CPow fun i j => .int (i ^ j.toNat)) (gInt fPow) := gInt_ok fun a b d H Q e k => by
  unfold fPow at e
  split at e
  · cases e
    exact ⟨a, b, rfl, rfl, by assumption, k _ fun _ => .int _⟩
  · cases e
theorem ok_lt : Ok2 K mg (rI0 fun i j => .bl (decide (i < j))) (gInt fLt) := gInt_ok fun a b d H Q e k => by
  cases e
  exact ⟨a, b, rfl, rfl, k _ fun _ => .bl _⟩
theorem ok_gt : Ok2 K mg (rI0 fun i j => .bl (decide (j < i))) (gInt fGt) := gInt_ok fun a b d H Q e k => by
  cases e
  exact ⟨a, b, rfl, rfl, k _ fun _ => .bl _⟩
theorem ok_ge : Ok2 K mg (rI0 fun i j => .bl (decide (j ≤ i))) (gInt fGe) := gInt_ok fun a b d H Q e k => by
  cases e
  exact ⟨a, b, rfl, rfl, k _ fun _ => .bl _⟩
end
/-! ### + -/
def gAdd : G2 := fun x y h => match x, y with
  | .d (.int a), .d (.int b) => some (.d (.int (a + b)), h)
  | .d (.str a), .d (.str b) => if fitB (a.length + b.length) then some (.d (.str (a ++ b)), h) else none
  | .d (.tuple a), .d (.tuple b) => if fitB (a.length + b.length) then some (.d (.tuple (a ++ b)), h) else none
  | x, y => match asL x h, asL y h with
    | some a, some b => if fitB (a.length + b.length) then some (.r h.length, h ++ [some (.lst (a ++ b))]) else none
    | _, _ => none
def rCatL (K : PySem.W.Frag) : R2 := fun x y H Q => ∃ a b xs ys, x = .ref a ∧ y = .ref b ∧ SqL K H a xs ∧ SqL K H b ys ∧ xs.length + ys.length ≤ sizeLine ∧ ∀ p, H p = none → Q (.ref p) (upd H p (.lst (xs ++ ys)))
def rAddA (K : PySem.W.Frag) : R2 := fun x y H Q => (∃ i j, x = .int i ∧ y = .int j ∧ Q (.int (i + j)) H) ∨ (∃ i j, x = .str i ∧ y = .str j ∧ i.length + j.length ≤ sizeLine ∧ Q (.str (i ++ j)) H) ∨ rCatA K x y H Q ∨ rCatL K x y H Q
section
variable {X : Cx}
theorem op_catL : OpR X (binaryOp .Add) (rCatL X.K) := by
  intro pins s σ H x y v u Q I rx ry h
  obtain ⟨a, b, xs, ys, rfl, rfl, ha, hb, hz, q⟩ := h
  cases rx
  cases ry
  obtain ⟨its, r1, ⟨⟨c1, dd1, da1, sl1⟩, n1, e1, f1, g1, k1⟩, z1⟩ := I.list ha
  obtain ⟨its2, r2, ⟨⟨c2, dd2, da2, sl2⟩, n2, e2, f2, g2, k2⟩, z2⟩ := I.list hb
  simp only at f1 g1 k1 f2 g2 k2
  subst f1 g1 k1 f2 g2 k2
  have e : its.toArray ++ its2.toArray = (its ++ its2).toArray := by simp
  have l1 := r1.length
  have l2 := r2.length
  refine PySem.concat_meets ⟨_, e1, rfl⟩ ⟨_, e2, rfl⟩ PySem.noFill_list_add PySem.seq_list_add PySem.F.slot_list_add PySem.F.entry_list_add (PySem.F.args_list_add_2 _ _) (PyProof.Rows.list_addW a b its.toArray its2.toArray n1 n2 none none sl1 sl2 (by simp; omega)) ⟨e1, e2, ?_⟩
  rw [e]
  exact ⟨.ref _, _, I.lnew (t' := s.toks) (r1.append r2) (by rw [List.length_append]; omega), rfl, q _ I.fresh⟩
theorem op_addA : OpR X (binaryOp .Add) (rAddA X.K) := op_add.or (op_add_str.or (op_catA.or op_catL))
end
section
variable {K : PySem.W.Frag}
/-- a new list of data -/
theorem new_list {φ : List Addr} {h : Hh} {H : Hp} {p : Addr} {xs : List V} {ds : List Da} (sm : Sim K φ h H) (r : Reps K H (Live φ h) xs ds) (hp : H p = none) :
    Step φ h H (φ ++ [p]) (h ++ [some (.lst ds)]) (upd H p (.lst xs)) ∧ Sim K (φ ++ [p]) (h ++ [some (.lst ds)]) (upd H p (.lst xs)) ∧ VRep K mg (φ ++ [p]) (h ++ [some (.lst ds)]) (upd H p (.lst xs)) (.ref p) (.r h.length) :=
  sm.new hp fun M st => ⟨xs, upd_same, r.stay st⟩
theorem new_tup {φ : List Addr} {h : Hh} {H : Hp} {p : Addr} {xs : List V} {ds : List Da} (sm : Sim K φ h H) (r : Reps K H (Live φ h) xs ds) (hp : H p = none) :
    Step φ h H φ h (upd H p (.tup xs)) ∧ Sim K φ h (upd H p (.tup xs)) ∧ VRep K mg φ h (upd H p (.tup xs)) (.ref p) (.d (.tuple ds)) := by
  obtain ⟨s1, s2⟩ := sm.grow (o := .tup xs) hp
  exact ⟨s1, s2, Rep.tup (.inl upd_same) (sm.fresh hp) (r.stay s1.st)⟩
theorem VRep.tup {φ : List Addr} {h : Hh} {H : Hp} {x : V} {ds : List Da} (r : VRep K mg φ h H x (.d (.tuple ds))) : ∃ a xs, x = .ref a ∧ SqT K H a xs ∧ Reps K H (Live φ h) xs ds := by
  cases r with
  | tup h n r => exact ⟨_, _, rfl, .inl h, r⟩
  | tupK h r => exact ⟨_, _, rfl, .inr h, r⟩
theorem Reps.ne {H : Hp} {M : Addr → Prop} {xs : List V} {ds : List Da} (r : Reps K H M xs ds) : xs = [] ↔ ds = [] := by
  cases r with
  | nil => simp
  | cons _ _ => simp
theorem ok_add : Ok2 K mg (rAddA K) gAdd := by
  intro φ h H x y a b Q v h' sm rx ry e k
  unfold gAdd at e
  split at e
  · cases e
    exact .inl ⟨_, _, VRep.int rx, VRep.int ry, k _ H φ (Step.refl _ _ _) sm (Rep.int _)⟩
  · split at e
    · cases e
      exact .inr (.inl ⟨_, _, VRep.str rx, VRep.str ry, fitB_le (by assumption), k _ H φ (Step.refl _ _ _) sm (Rep.str _)⟩)
    · cases e
  · split at e
    · rename_i da db hz
      cases e
      obtain ⟨pa, xs, rfl, sa, ra⟩ := VRep.tup rx
      obtain ⟨pb, ys, rfl, sb, rb⟩ := VRep.tup ry
      refine .inr (.inr (.inl ⟨pa, pb, xs, ys, rfl, rfl, sa, sb, by rw [ra.length, rb.length]; exact fitB_le hz, fun z => ?_, fun _ z => ?_, fun _ _ p hp => ?_⟩))
      · have : da = [] := ra.ne.mp z
        subst this
        exact k _ H φ (Step.refl _ _ _) sm ry
      · have : db = [] := rb.ne.mp z
        subst this
        rw [List.append_nil] at k
        exact k _ H φ (Step.refl _ _ _) sm rx
      · obtain ⟨s1, s2, s3⟩ := new_tup sm (ra.append rb) hp
        exact k _ _ _ s1 s2 s3
    · cases e
  · split at e
    · rename_i la lb ea eb
      split at e
      · rename_i hz
        cases e
        obtain ⟨pa, xs, rfl, sa, ra⟩ := asL_ok sm rx ea
        obtain ⟨pb, ys, rfl, sb, rb⟩ := asL_ok sm ry eb
        refine .inr (.inr (.inr ⟨pa, pb, xs, ys, rfl, rfl, sa, sb, by rw [ra.length, rb.length]; exact fitB_le hz, fun p hp => ?_⟩))
        obtain ⟨s1, s2, s3⟩ := new_list sm (ra.append rb) hp
        exact k _ _ _ s1 s2 s3
      · cases e
    · cases e
/-! ### ==, !=, is, in -/
/-- told by == and !=, no dict within -/
def sh (d : Da) : Bool := SeqAt.shaped d && !d.hasDict
theorem sh_parts {d : Da} (e : sh d = true) : SeqAt.shaped d = true ∧ d.hasDict = false := by
  unfold sh at e
  rw [Bool.and_eq_true] at e
  exact ⟨e.1, by simpa using e.2⟩
def eqvB (a b : Da) : Option Bool := if sh a && sh b then some (PyData.eqv a b) else none
def gEq : G2 := fun x y h => match x, y with
  | .d (.str a), .d (.str b) => some (.d (.bool (decide (a = b))), h)
  | x, y => match asD x h, asD y h with
    | some a, some b => (eqvB a b).map fun z => (.d (.bool z), h)
    | _, _ => none
def gNe : G2 := fun x y h => match x, y with
  | .d (.str a), .d (.str b) => some (.d (.bool (!decide (a = b))), h)
  | x, y => match asD x h, asD y h with
    | some a, some b => (eqvB a b).map fun z => (.d (.bool (!z)), h)
    | _, _ => none
theorem ok_eq : Ok2 K mg (fun x y H Q => rEq x y H Q ∨ rEqD K x y H Q) gEq := by
  intro φ h H x y a b Q v h' sm rx ry e k
  unfold gEq at e
  split at e
  · rename_i p q
    cases e
    rw [VRep.str rx, VRep.str ry]
    have d : decide (V.str p = V.str q) = decide (p = q) := decide_eq_decide.mpr ⟨fun z => by injection z, fun z => by rw [z]⟩
    exact .inl ⟨rfl, by rw [d]; exact k _ H φ (Step.refl _ _ _) sm (Rep.bl _)⟩
  · split at e
    · rename_i da db ea eb
      unfold eqvB at e
      split at e
      · rename_i hs
        rw [Bool.and_eq_true] at hs
        cases e
        have h1 := sh_parts hs.1
        have h2 := sh_parts hs.2
        exact .inr ⟨da, db, asD_ok sm rx ea h1.2, asD_ok sm ry eb h2.2, h1.1, h2.1, k _ H φ (Step.refl _ _ _) sm (Rep.bl _)⟩
      · cases e
    · cases e
theorem ok_ne : Ok2 K mg (fun x y H Q => rNe x y H Q ∨ rNeD K x y H Q) gNe := by
  intro φ h H x y a b Q v h' sm rx ry e k
  unfold gNe at e
  split at e
  · rename_i p q
    cases e
    rw [VRep.str rx, VRep.str ry]
    have d : decide (V.str p = V.str q) = decide (p = q) := decide_eq_decide.mpr ⟨fun z => by injection z, fun z => by rw [z]⟩
    exact .inl ⟨rfl, by rw [d]; exact k _ H φ (Step.refl _ _ _) sm (Rep.bl _)⟩
  · split at e
    · rename_i da db ea eb
      unfold eqvB at e
      split at e
      · rename_i hs
        rw [Bool.and_eq_true] at hs
        cases e
        have h1 := sh_parts hs.1
        have h2 := sh_parts hs.2
        exact .inr ⟨da, db, asD_ok sm rx ea h1.2, asD_ok sm ry eb h2.2, h1.1, h2.1, k _ H φ (Step.refl _ _ _) sm (Rep.bl _)⟩
      · cases e
    · cases e
def isN : Vl → Bool
  | .d .none => true
  | _ => false
def gIsN : G2 := fun x y h => match y with
  | .d .none => some (.d (.bool (isN x)), h)
  | _ => none
def gNotN : G2 := fun x y h => match y with
  | .d .none => some (.d (.bool (!isN x)), h)
  | _ => none
theorem isN_ok {φ : List Addr} {h : Hh} {H : Hp} {x : V} {v : Vl} (r : VRep K mg φ h H x v) : decide (x = .non) = isN v := by
  cases v with
  | d z =>
    cases r <;> first | rfl | exact decide_eq_false (fun q => nomatch q)
  | r n =>
    obtain ⟨a, _, rfl⟩ := r
    exact decide_eq_false (fun q => nomatch q)
  | x c fs =>
    obtain ⟨a, _, _, rfl, _⟩ := r
    exact decide_eq_false (fun q => nomatch q)
  | f D =>
    obtain ⟨rfl, _⟩ := r
    exact decide_eq_false (fun q => nomatch q)
theorem ok_isN : Ok2 K mg (fun x y H Q => y = .non ∧ Q (.bl (decide (x = .non))) H) gIsN := by
  intro φ h H x y a b Q v h' sm rx ry e k
  unfold gIsN at e
  split at e
  · cases e
    refine ⟨VRep.non ry, ?_⟩
    rw [isN_ok rx]
    exact k _ H φ (Step.refl _ _ _) sm (Rep.bl _)
  · cases e
/-- is, is not of two truths -/
def gIsB : G2 := fun x y h => match x, y with
  | .d (.bool a), .d (.bool b) => some (.d (.bool (decide (a = b))), h)
  | _, _ => none
def gNotB : G2 := fun x y h => match x, y with
  | .d (.bool a), .d (.bool b) => some (.d (.bool (!decide (a = b))), h)
  | _, _ => none
/-- in, not in, of a list or a tuple of flat data -/
def flatD : Da → Bool
  | .none => true
  | .bool _ => true
  | .int _ => true
  | .str _ => true
  | _ => false
def eqF : Da → Da → Bool
  | .none, .none => true
  | .bool a, .bool b => a == b
  | .bool a, .int b => (if a then 1 else 0) == b
  | .int a, .bool b => a == (if b then 1 else 0)
  | .int a, .int b => a == b
  | .str a, .str b => a == b
  | _, _ => false
def inF (x : Da) (xs : List Da) : Bool := xs.any fun y => eqF y x
def asQ : Vl → Hh → Option (List Da)
  | .d (.tuple xs), _ => some xs
  | v, h => asL v h
def gIn (neg : Bool) : G2 := fun x y h => match x, asQ y h with
  | .d a, some bs => if flatD a && bs.all flatD then some (.d (.bool (if neg then !inF a bs else inF a bs)), h) else none
  | _, _ => none
theorem flat_ok {H : Hp} {M : Addr → Prop} {x : V} {d : Da} (r : Rep K H M x d) (f : flatD d = true) : flatV x = true := by
  cases r <;> first | rfl | cases f
theorem flats_ok {H : Hp} {M : Addr → Prop} : ∀ {xs : List V} {ds : List Da}, Reps K H M xs ds → ds.all flatD = true → xs.all flatV = true
  | _, _, .nil, _ => rfl
  | _, _, .cons r t, f => by
    rw [List.all_cons, Bool.and_eq_true] at f
    rw [List.all_cons, flat_ok r f.1, flats_ok t f.2]
    rfl
theorem eqF_ok {H H' : Hp} {M M' : Addr → Prop} {x y : V} {d e : Da} (r : Rep K H M x d) (q : Rep K H' M' y e) (f : flatD d = true) (g : flatD e = true) : eqV x y = eqF d e := by
  cases r <;> first | (cases f; done) | (cases q <;> first | rfl | (cases g; done))
theorem inF_ok {H : Hp} {M : Addr → Prop} {x : V} {d : Da} (r : Rep K H M x d) (f : flatD d = true) : ∀ {xs : List V} {ds : List Da}, Reps K H M xs ds → ds.all flatD = true → inV x xs = inF d ds
  | _, _, .nil, _ => rfl
  | _, _, .cons q t, g => by
    rw [List.all_cons, Bool.and_eq_true] at g
    have ih := inF_ok r f t g.2
    unfold inV inF at *
    rw [List.any_cons, List.any_cons, eqF_ok q r g.1 f, ih]
theorem asQ_ok {φ : List Addr} {h : Hh} {H : Hp} {x : V} {v : Vl} {ds : List Da} (s : Sim K φ h H) (r : VRep K mg φ h H x v) (e : asQ v h = some ds) : ∃ a xs, x = .ref a ∧ (SqL K H a xs ∨ SqT K H a xs) ∧ Reps K H (Live φ h) xs ds := by
  unfold asQ at e
  split at e
  · cases e
    obtain ⟨a, xs, rfl, q, z⟩ := VRep.tup r
    exact ⟨a, xs, rfl, .inr q, z⟩
  · obtain ⟨a, xs, rfl, q, z⟩ := asL_ok s r e
    exact ⟨a, xs, rfl, .inl q, z⟩
theorem ok_in (neg : Bool) : Ok2 K mg (rIn K neg) (gIn neg) := by
  intro φ h H x y a b Q v h' sm rx ry e k
  unfold gIn at e
  split at e
  · rename_i da bs eb
    split at e
    · rename_i hf
      rw [Bool.and_eq_true] at hf
      cases e
      obtain ⟨p, xs, rfl, sq, rs⟩ := asQ_ok sm ry eb
      refine ⟨p, xs, rfl, sq, flat_ok rx hf.1, flats_ok rs hf.2, ?_⟩
      rw [inF_ok rx hf.1 rs hf.2]
      exact k _ H φ (Step.refl _ _ _) sm (Rep.bl _)
    · cases e
  · cases e
end
/-! ### and, or, not, if .. else -/
def tvAnd (a b : Tv) : Tv := fun ρ h => (a ρ h).bind fun c h1 => if c then b ρ h1 else .ok false h1
def tvOr (a b : Tv) : Tv := fun ρ h => (a ρ h).bind fun c h1 => if c then .ok true h1 else b ρ h1
def tvNot (a : Tv) : Tv := fun ρ h => (a ρ h).bind fun c h1 => .ok (!c) h1
def eAnd (a b : Ev) : Ev := fun ρ h => (eT a ρ h).bind fun c h1 => if c then b ρ h1 else .ok (.d (.bool false)) h1
def eOr (a b : Ev) : Ev := fun ρ h => (eT a ρ h).bind fun c h1 => if c then .ok (.d (.bool true)) h1 else b ρ h1
def eNot (a : Ev) : Ev := fun ρ h => (eT a ρ h).bind fun c h1 => .ok (.d (.bool (!c))) h1
def eIf (c : Tv) (a b : Ev) : Ev := fun ρ h => (c ρ h).bind fun k h1 => if k then a ρ h1 else b ρ h1
def EW (X : Cx) (W : WX) (e : Expr) (f : Tv) : Prop := PW X e (tT X.K X.mg W f)
section
variable {X : Cx} {W : WX} {a b c : Expr} {fa fb : Ev} {ta tb tc : Tv} {pos : Pos} {rest : List Expr}
theorem EW.et (h : EW X W a ta) : ET X W a ta := PW.pt h
theorem ew_or1 (ha : ET X W a ta) : EW X W (.BoolOp .Or [a] pos) ta := pw_or1 ha
theorem PoT.now {K : PySem.W.Frag} {mg : Str → Option Value} {φ : List Addr} {h : Hh} {H : Hp} {v : Bool} {Q : Bool → Hp → Prop} {E : XK} (q : PoT K mg φ h H (.ok v h) Q E) (s : Sim K φ h H) : Q v H := q H φ (Step.refl _ _ _) s
theorem ew_or (ha : ET X W a ta) (hb : EW X W (.BoolOp .Or (b :: rest) pos) tb) : EW X W (.BoolOp .Or (a :: b :: rest) pos) (tvOr ta tb) :=
  PW.of (pw_or ha hb) fun σ H Q ⟨φ, h, ρ, sm, er, q⟩ => ⟨φ, h, ρ, sm, er, PoT.goT q fun v h1 H1 φ1 st sm1 q1 => by
    cases v with
    | true => exact iteT (PoT.now q1 sm1)
    | false => exact iteF ⟨φ1, h1, ρ, sm1, er.step st, q1⟩⟩
theorem ee_ifExp (hc : ET X W c tc) (ha : EE X W a fa) (hb : EE X W b fb) : EE X W (.IfExp c a b pos) (eIf tc fa fb) :=
  PE.of (pe_ifExp hc ha hb) fun σ H Q ⟨φ, h, ρ, sm, er, q⟩ => ⟨φ, h, ρ, sm, er, PoX.goT q fun v h1 H1 φ1 st sm1 q1 => by
    cases v with
    | true => exact iteT ⟨φ1, h1, ρ, sm1, er.step st, q1⟩
    | false => exact iteF ⟨φ1, h1, ρ, sm1, er.step st, q1⟩⟩
/-- - n -/
def eNeg (a : Ev) : Ev := fun ρ h => (a ρ h).bind fun x h1 => match x with
  | .d (.int i) => .ok (.d (.int (-i))) h1
  | _ => .no
theorem ee_neg (ha : EE X W a fa) : EE X W (.UnaryOp .USub a pos) (eNeg fa) :=
  PE.of (pe_un un_neg ha) fun σ H Q ⟨φ, h, ρ, sm, er, q⟩ => ⟨φ, h, ρ, sm, er, PoX.goE q fun x v h1 H1 φ1 st sm1 rv q1 => by
    cases v with
    | d z =>
      cases z with
      | int i => exact ⟨i, VRep.int rv, PoX.now (v := .d (.int (-i))) q1 sm1 (Rep.int _)⟩
      | _ => exact q1.elim
    | r n => exact q1.elim
    | x c fs => exact q1.elim
    | f D => exact q1.elim⟩
end
/-! ### argument lists, displays, calls -/
def aNil : Av := fun _ h => .ok [] h
def aCons (a : Ev) (r : Av) : Av := fun ρ h => (a ρ h).bind fun x h1 => (r ρ h1).bind fun xs h2 => .ok (x :: xs) h2
def eTup (as : Av) : Ev := fun ρ h => (as ρ h).bind fun vs h1 => match fzs vs h1 with
  | some (ds, h2) => if fitB ds.length then .ok (.d (.tuple ds)) h2 else .no
  | none => .no
def eLst (as : Av) : Ev := fun ρ h => (as ρ h).bind fun vs h1 => match fzs vs h1 with
  | some (ds, h2) => if fitB ds.length then .ok (.r h2.length) (h2 ++ [some (.lst ds)]) else .no
  | none => .no
def spF (K : PySem.W.Frag) (mg : Str → Option Value) (m : Fn) : Sp := fun vs H Q E => ∃ φ h as, Sim K φ h H ∧ VReps K mg φ h H vs as ∧ PoX K mg φ h H (m as h) Q E
def eCall (m : Fn) (as : Av) : Ev := fun ρ h => (as ρ h).bind m
abbrev GC := List Vl → Hh → Option (Vl × Hh)
def eBlt (g : GC) (as : Av) : Ev := fun ρ h => (as ρ h).bind fun vs h1 => ofO (g vs h1)
def OkC (K : PySem.W.Frag) (mg : Str → Option Value) (r : List V → Hp → VK → Prop) (g : GC) : Prop := ∀ (φ : List Addr) (h : Hh) (H : Hp) (xs : List V) (as : List Vl) (Q : VK) (v : Vl) (h' : Hh), Sim K φ h H → VReps K mg φ h H xs as → g as h = some (v, h') →
  (∀ z H' φ', Step φ h H φ' h' H' → Sim K φ' h' H' → VRep K mg φ' h' H' z v → Q z H') → r xs H Q
section
variable {X : Cx} {W : WX} {e : Expr} {es : List Expr} {fe : Ev} {fs : Av} {pos : Pos}
theorem ea_nil : EA X W [] aNil := PA.of pa_nil fun σ H Q ⟨φ, h, ρ, sm, er, q⟩ => q [] H φ (Step.refl _ _ _) sm .nil
theorem ea_cons (ha : EE X W e fe) (hr : EA X W es fs) (hs : starEach (e :: es) X.env = (false, eval e X.env) :: starEach es X.env := by rfl) : EA X W (e :: es) (aCons fe fs) :=
  PA.of (pa_cons ha hr hs) fun σ H Q ⟨φ, h, ρ, sm, er, q⟩ => ⟨φ, h, ρ, sm, er, PoA.goE q fun x v h1 H1 φ1 st sm1 rv q1 => ⟨φ1, h1, ρ, sm1, er.step st, PoA.goA q1 fun xs vs h2 H2 φ2 st2 sm2 rvs q2 =>
    q2 (x :: xs) H2 φ2 (Step.refl _ _ _) sm2 (.cons (rv.step st2) rvs)⟩⟩
theorem ee_tup {k : Nat} (ha : EA X W es fs) : EE X W (.Tuple es k pos) (eTup fs) :=
  PE.of (pe_tup ha) fun σ H Q ⟨φ, h, ρ, sm, er, q⟩ => ⟨φ, h, ρ, sm, er, PoX.goA q fun xs vs h1 H1 φ1 st sm1 rvs q1 => by
    cases e : fzs vs h1 with
    | none => rw [e] at q1; exact q1.elim
    | some p =>
      obtain ⟨ds, h2⟩ := p
      rw [e] at q1
      dsimp only at q1
      split at q1
      · obtain ⟨s1, s2, s3⟩ := fzs_ok sm1 rvs e
        refine ⟨by rw [s3.length]; exact fitB_le (by assumption), fun p hp => ?_⟩
        obtain ⟨t1, t2, t3⟩ := new_tup s2 s3 hp
        exact q1 _ _ _ (s1.trans t1) t2 t3
      · exact q1.elim⟩
theorem ee_lst (ha : EA X W es fs) : EE X W (.List es pos) (eLst fs) :=
  PE.of (pe_lst ha) fun σ H Q ⟨φ, h, ρ, sm, er, q⟩ => ⟨φ, h, ρ, sm, er, PoX.goA q fun xs vs h1 H1 φ1 st sm1 rvs q1 => by
    cases e : fzs vs h1 with
    | none => rw [e] at q1; exact q1.elim
    | some p =>
      obtain ⟨ds, h2⟩ := p
      rw [e] at q1
      dsimp only at q1
      split at q1
      · obtain ⟨s1, s2, s3⟩ := fzs_ok sm1 rvs e
        refine ⟨by rw [s3.length]; exact fitB_le (by assumption), fun p hp => ?_⟩
        obtain ⟨t1, t2, t3⟩ := new_list s2 s3 hp
        exact q1 _ _ _ (s1.trans t1) t2 t3
      · exact q1.elim⟩
theorem ee_blt {x : Str} {id : String} {p : Pos} {r : List V → Hp → VK → Prop} {g : GC} (hc : CallR X (.builtin id) r) (ok : OkC X.K X.mg r g) (hg : Gl X x) (hm : X.mg x = none) (hv : bootBuiltins x = some (.builtin id)) (ha : EA X W (e :: es) fs) (hn : x ≠ "__name__" := by decide) (hdb : (x == ("__debug__" : Str)) = false := by decide)
    (he : starEach (e :: es) X.env = (false, eval e X.env) :: starEach es X.env := by rfl) (hpl : (backTo pos (starEach es X.env)).any (·.1) = false := by rfl) : EE X W (.Call (.Name x p) (e :: es) [] pos) (eBlt g fs) :=
  PE.of (pe_callB hc hg hm hv ha hn hdb he hpl) fun σ H Q ⟨φ, h, ρ, sm, er, q⟩ => ⟨φ, h, ρ, sm, er, PoX.goA q fun xs vs h1 H1 φ1 st sm1 rvs q1 => by
    obtain ⟨z, h2, e2, k⟩ := PoX.ofO q1
    exact ok φ1 h1 H1 xs vs Q z h2 sm1 rvs e2 k⟩
theorem ee_bltT {x : Str} {T : String} {p : Pos} {r : List V → Hp → VK → Prop} {g : GC} (hc : CallR X (.type T) r) (ok : OkC X.K X.mg r g) (hg : Gl X x) (hm : X.mg x = none) (hv : bootBuiltins x = some (.type T)) (ha : EA X W (e :: es) fs) (hn : x ≠ "__name__" := by decide) (hdb : (x == ("__debug__" : Str)) = false := by decide)
    (he : starEach (e :: es) X.env = (false, eval e X.env) :: starEach es X.env := by rfl) (hpl : (backTo pos (starEach es X.env)).any (·.1) = false := by rfl) : EE X W (.Call (.Name x p) (e :: es) [] pos) (eBlt g fs) :=
  PE.of (pe_callTy hc hg hm hv ha hn hdb he hpl) fun σ H Q ⟨φ, h, ρ, sm, er, q⟩ => ⟨φ, h, ρ, sm, er, PoX.goA q fun xs vs h1 H1 φ1 st sm1 rvs q1 => by
    obtain ⟨z, h2, e2, k⟩ := PoX.ofO q1
    exact ok φ1 h1 H1 xs vs Q z h2 sm1 rvs e2 k⟩
end
end Rk

/-! Rk4: subscripts, slices, built-in functions. -/
namespace Rk
open PySem PySem.Spec L2
variable {mg : Str → Option Value}
section
variable {K : PySem.W.Frag}
theorem Reps.atI {H : Hp} {M : Addr → Prop} {xs : List V} {ds : List Da} {i : Int} {d : Da} (r : Reps K H M xs ds) (e : atI ds i = some d) : ∃ v, L2.atI xs i = some v ∧ Rep K H M v d := by
  unfold L2.atI at *
  rw [r.length]
  cases q : ixN ds.length i with
  | none => rw [q] at e; cases e
  | some j =>
    rw [q] at e
    exact Reps.get r e
def gIx : G2 := fun x y h => match x, y with
  | .d (.tuple xs), .d (.int i) => (atI xs i).map fun d => (.d d, h)
  | .d (.str z), .d (.int i) => if fitB z.length then (atI z.cps.toList i).map fun c => (.d (.str ⟨#[c]⟩), h) else none
  | x, .d (.int i) => match asL x h with
    | some xs => (atI xs i).map fun d => (.d d, h)
    | none => none
  | _, _ => none
theorem ok_ix : Ok2 K mg (rIx K) gIx := by
  intro φ h H x y a b Q v h' sm rx ry e k
  unfold gIx at e
  split at e
  · rename_i xs i
    cases q : atI xs i with
    | none => rw [q] at e; cases e
    | some d =>
      rw [q] at e
      cases e
      obtain ⟨p, zs, rfl, sq, rs⟩ := VRep.tup rx
      obtain ⟨z, e1, rz⟩ := rs.atI q
      exact .inr (.inl ⟨p, zs, i, z, rfl, VRep.int ry, sq, e1, k z H φ (Step.refl _ _ _) sm rz⟩)
  · rename_i z i
    split at e
    · cases q : atI z.cps.toList i with
      | none => rw [q] at e; cases e
      | some c =>
        rw [q] at e
        cases e
        exact .inr (.inr ⟨z, i, c, VRep.str rx, VRep.int ry, fitB_le (by assumption), q, k _ H φ (Step.refl _ _ _) sm (Rep.str _)⟩)
    · cases e
  · rename_i i _ _
    split at e
    · rename_i xs ex
      cases q : atI xs i with
      | none => rw [q] at e; cases e
      | some d =>
        rw [q] at e
        cases e
        obtain ⟨p, zs, rfl, sq, rs⟩ := asL_ok sm rx ex
        obtain ⟨z, e1, rz⟩ := rs.atI q
        exact .inl ⟨p, zs, i, z, rfl, VRep.int ry, sq, e1, k z H φ (Step.refl _ _ _) sm rz⟩
    · cases e
  · cases e
end
section
variable {X : Cx} {W : WX} {a b : Expr} {fa fb : Ev} {pos : Pos}
theorem ee_ix (ha : EE X W a fa) (hb : EE X W b fb) (hs : PlainIx b := by exact fun _ _ => rfl) : EE X W (.Subscript a b pos) (eOp gIx fa fb) :=
  PE.of (pe_ix ix_seq ha hb hs) fun σ H Q hf => tOp_ok ok_ix hf
end
/-! ### slices -/
def cutD {α : Type} (xs : List α) (lo hi : Option Int) : List α := (xs.drop (HT.sIx xs.length 0 lo)).take (HT.sIx xs.length xs.length hi - HT.sIx xs.length 0 lo)
abbrev Ov := En → Hh → Out (Option Int)
def oNone : Ov := fun _ h => .ok none h
def oInt : Vl → Hh → Out (Option Int)
  | .d (.int i), h => .ok (some i) h
  | _, _ => .no
def oSome (f : Ev) : Ov := fun ρ h => (f ρ h).bind oInt
def gSl (x : Vl) (lo hi : Option Int) (h : Hh) : Option (Vl × Hh) := match x with
  | .d (.tuple xs) => some (.d (.tuple (cutD xs lo hi)), h)
  | .d (.str z) => if fitB z.length then some (.d (.str (cutS z lo hi)), h) else none
  | x => match asL x h with
    | some xs => some (.r h.length, h ++ [some (.lst (cutD xs lo hi))])
    | none => none
def eSl (f : Ev) (lo hi : Ov) : Ev := fun ρ h => (f ρ h).bind fun x h1 => (lo ρ h1).bind fun l h2 => (hi ρ h2).bind fun u h3 => ofO (gSl x l u h3)
def PoO (K : PySem.W.Frag) (mg : Str → Option Value) (φ : List Addr) (h : Hh) (H : Hp) (o : Out (Option Int)) (Q : Option Int → Hp → Prop) (E : XK) : Prop := match o with
  | .ok v h' => ∀ H' φ', Step φ h H φ' h' H' → Sim K φ' h' H' → Q v H'
  | .ex c fs h' => ∀ cls dd H' φ', Step φ h H φ' h' H' → Sim K φ' h' H' → XRep K mg H' (Live φ' h') c fs cls dd → E cls dd H'
  | .no => False
def tO (K : PySem.W.Frag) (mg : Str → Option Value) (W : WX) (f : Ov) : TO := fun σ H Q => ∃ φ h ρ, Sim K φ h H ∧ ERep K mg φ h H σ ρ ∧ PoO K mg φ h H (f ρ h) Q (WE W σ)
def EO (X : Cx) (W : WX) (e : Option Expr) (f : Ov) : Prop := PO X e (tO X.K X.mg W f)
theorem PO.of {X : Cx} {e : Option Expr} {t t' : TO} (h : PO X e t) (i : ∀ σ H Q, t' σ H Q → t σ H Q) : PO X e t' := ⟨fun pins s σ H Q I w => h.run pins s σ H Q I (i σ H Q w)⟩
section
variable {K : PySem.W.Frag} {mg : Str → Option Value} {φ : List Addr} {h : Hh} {H : Hp} {E : XK}
theorem PoX.goO {o : Out (Option Int)} {k : Option Int → Hh → Out Vl} {Q : VK} {Q1 : Option Int → Hp → Prop} (q : PoX K mg φ h H (o.bind k) Q E)
    (hk : ∀ (v : Option Int) (h1 : Hh) (H1 : Hp) (φ1 : List Addr), Step φ h H φ1 h1 H1 → Sim K φ1 h1 H1 → PoX K mg φ1 h1 H1 (k v h1) Q E → Q1 v H1) : PoO K mg φ h H o Q1 E := by
  cases o with
  | ok v h1 => exact fun H' φ' st sm' => hk v h1 H' φ' st sm' (PoX.pull st q)
  | ex c fs h1 => exact q
  | no => exact q
theorem PoO.goE {o : Out Vl} {Q : Option Int → Hp → Prop} {Q1 : VK} (q : PoO K mg φ h H (o.bind oInt) Q E)
    (hk : ∀ (i : Int) (H1 : Hp), Q (some i) H1 → Q1 (.int i) H1) : PoX K mg φ h H o Q1 E := by
  cases o with
  | ok v h1 =>
    intro x H' φ' st sm' rv
    have q2 : PoO K mg φ h H (oInt v h1) Q E := q
    unfold oInt at q2
    split at q2
    · rw [VRep.int rv]
      exact hk _ _ (q2 H' φ' st sm')
    · exact q2.elim
  | ex c fs h1 => exact q
  | no => exact q
theorem Reps.cut {H : Hp} {M : Addr → Prop} {xs : List V} {ds : List Da} (lo hi : Option Int) (r : Reps K H M xs ds) : Reps K H M (cutV xs lo hi) (cutD ds lo hi) := by
  unfold cutV cutD
  rw [r.length]
  exact (r.drop _).take _
def rSlAll (K : PySem.W.Frag) : V → Option Int → Option Int → Hp → VK → Prop := fun x lo hi H Q => rSlA K x lo hi H Q ∨ rSlS x lo hi H Q ∨ rSlL K x lo hi H Q
theorem sl_all {X : Cx} : SlR X (rSlAll X.K) := sl_tupA.or (sl_str.or sl_list)
theorem cutD_all {α : Type} {xs : List α} {lo hi : Option Int} (h : HT.sIx xs.length 0 lo = 0 ∧ HT.sIx xs.length xs.length hi = xs.length) : cutD xs lo hi = xs := by
  unfold cutD
  rw [h.1, h.2]
  simp
theorem gSl_ok {x : V} {v : Vl} {lo hi : Option Int} {Q : VK} {w : Vl} {h' : Hh} (sm : Sim K φ h H) (rx : VRep K mg φ h H x v) (e : gSl v lo hi h = some (w, h'))
    (k : ∀ z H' φ', Step φ h H φ' h' H' → Sim K φ' h' H' → VRep K mg φ' h' H' z w → Q z H') : rSlAll K x lo hi H Q := by
  unfold gSl at e
  split at e
  · cases e
    obtain ⟨p, zs, rfl, sq, rs⟩ := VRep.tup rx
    refine .inl ⟨p, zs, rfl, sq, fun hw => ?_, fun _ q hq => ?_⟩
    · rw [rs.length] at hw
      rw [cutD_all hw] at k
      exact k _ H φ (Step.refl _ _ _) sm rx
    · obtain ⟨s1, s2, s3⟩ := new_tup sm (rs.cut lo hi) hq
      exact k _ _ _ s1 s2 s3
  · split at e
    · cases e
      exact .inr (.inl ⟨_, VRep.str rx, fitB_le (by assumption), k _ H φ (Step.refl _ _ _) sm (Rep.str _)⟩)
    · cases e
  · split at e
    · rename_i xs ex
      cases e
      obtain ⟨p, zs, rfl, sq, rs⟩ := asL_ok sm rx ex
      refine .inr (.inr ⟨p, zs, rfl, sq, fun q hq => ?_⟩)
      obtain ⟨s1, s2, s3⟩ := new_list sm (rs.cut lo hi) hq
      exact k _ _ _ s1 s2 s3
    · cases e
end
section
variable {X : Cx} {W : WX} {a : Expr} {fa : Ev} {pos p2 : Pos} {lo hi : Option Expr} {fl fh : Ov}
theorem eo_none : EO X W none oNone := PO.of po_none fun σ H Q ⟨φ, h, ρ, sm, er, q⟩ => q H φ (Step.refl _ _ _) sm
theorem eo_some (ha : EE X W a fa) : EO X W (some a) (oSome fa) := PO.of (po_some ha) fun σ H Q ⟨φ, h, ρ, sm, er, q⟩ => ⟨φ, h, ρ, sm, er, PoO.goE q fun i H1 z => ⟨i, rfl, z⟩⟩
theorem ee_slice (ha : EE X W a fa) (hl : EO X W lo fl) (hh : EO X W hi fh) : EE X W (.Subscript a (.Slice lo hi none p2) pos) (eSl fa fl fh) :=
  PE.of (pe_slice sl_all ha hl hh) fun σ H Q ⟨φ, h, ρ, sm, er, q⟩ => ⟨φ, h, ρ, sm, er, PoX.goE q fun x v h1 H1 φ1 st sm1 rv q1 => ⟨φ1, h1, ρ, sm1, er.step st, PoX.goO q1 fun l h2 H2 φ2 st2 sm2 q2 =>
    ⟨φ2, h2, ρ, sm2, (er.step st).step st2, PoX.goO q2 fun u h3 H3 φ3 st3 sm3 q3 => by
      obtain ⟨z, h4, e4, k4⟩ := PoX.ofO q3
      exact gSl_ok sm3 (rv.step (st2.trans st3)) e4 k4⟩⟩⟩
end
/-! ### built-in functions -/
section
variable {K : PySem.W.Frag}
def gLen : GC := fun as h => match as with
  | [.d (.tuple xs)] => some (.d (.int xs.length), h)
  | [.d (.str z)] => if fitB z.length then some (.d (.int z.length), h) else none
  | [x] => match asL x h with
    | some xs => some (.d (.int xs.length), h)
    | none => none
  | _ => none
theorem VReps.one {φ : List Addr} {h : Hh} {H : Hp} {xs : List V} {v : Vl} (r : VReps K mg φ h H xs [v]) : ∃ x, xs = [x] ∧ VRep K mg φ h H x v := by
  cases r with
  | cons r t =>
    cases t
    exact ⟨_, rfl, r⟩
theorem VReps.two {φ : List Addr} {h : Hh} {H : Hp} {xs : List V} {v w : Vl} (r : VReps K mg φ h H xs [v, w]) : ∃ x y, xs = [x, y] ∧ VRep K mg φ h H x v ∧ VRep K mg φ h H y w := by
  cases r with
  | cons r t =>
    obtain ⟨y, e, q⟩ := VReps.one t
    subst e
    exact ⟨_, _, rfl, r, q⟩
def gAbs : GC := fun as h => match as with
  | [.d (.int i)] => some (.d (.int (if i < 0 then -i else i)), h)
  | _ => none
theorem ok_abs : OkC K mg (fun xs H Q => ∃ i, xs = [.int i] ∧ Q (.int (if i < 0 then -i else i)) H) gAbs := by
  intro φ h H xs as Q v h' sm rs e k
  unfold gAbs at e
  split at e
  · cases e
    obtain ⟨x, rfl, r⟩ := rs.one
    rw [VRep.int r]
    exact ⟨_, rfl, k _ H φ (Step.refl _ _ _) sm (Rep.int _)⟩
  · cases e
def gMax : GC := fun as h => match as with
  | [.d (.int i), .d (.int j)] => some (.d (.int (if j > i then j else i)), h)
  | _ => none
def gMin : GC := fun as h => match as with
  | [.d (.int i), .d (.int j)] => some (.d (.int (if j < i then j else i)), h)
  | _ => none
def gInt1 : GC := fun as h => match as with
  | [.d (.int i)] => some (.d (.int i), h)
  | [.d (.bool b)] => some (.d (.int (if b then 1 else 0)), h)
  | _ => none
/-- list(x), tuple(x) -/
def gList : GC := fun as h => match as with
  | [x] => match asQ x h with
    | some xs => some (.r h.length, h ++ [some (.lst xs)])
    | none => none
  | _ => none
def gTuple : GC := fun as h => match as with
  | [x] => match asQ x h with
    | some xs => some (.d (.tuple xs), h)
    | none => none
  | _ => none
theorem ok_tuple : OkC K mg (fun xs H Q => ∃ p ys, xs = [.ref p] ∧ ((SqL K H p ys ∧ ∀ l, H l = none → Q (.ref l) (upd H l (.tup ys))) ∨ (SqT K H p ys ∧ Q (.ref p) H))) gTuple := by
  intro φ h H xs as Q v h' sm rs e k
  unfold gTuple at e
  split at e
  · split at e
    · rename_i w ys ey
      cases e
      obtain ⟨x, rfl, r⟩ := rs.one
      unfold asQ at ey
      split at ey
      · cases ey
        obtain ⟨p, zs, rfl, sq, rr⟩ := VRep.tup r
        exact ⟨p, zs, rfl, .inr ⟨sq, k _ H φ (Step.refl _ _ _) sm r⟩⟩
      · obtain ⟨p, zs, rfl, sq, rr⟩ := asL_ok sm r ey
        refine ⟨p, zs, rfl, .inl ⟨sq, fun l hl => ?_⟩⟩
        obtain ⟨s1, s2, s3⟩ := new_tup sm rr hl
        exact k _ _ _ s1 s2 s3
    · cases e
  · cases e
/-! ### isinstance with a built-in class -/
inductive Ty where
  | int | bool | str | tuple | list | dict
def Ty.name : Ty → String
  | .int => "int" | .bool => "bool" | .str => "str" | .tuple => "tuple" | .list => "list" | .dict => "dict"
def isTyD : Ty → Da → Option Bool
  | .int, .int _ => some true
  | .int, .bool _ => some true
  | .bool, .bool _ => some true
  | .str, .str _ => some true
  | .tuple, .tuple _ => some true
  | .list, .list _ => some true
  | .dict, .dict [] => some true
  | _, .dict [] => some false
  | _, .dict _ => none
  | _, _ => some false
def isTy (T : Ty) (v : Vl) (h : Hh) : Option Bool := match v with
  | .d x => isTyD T x
  | .r n => match h[n]? with
    | some (some (.lst xs)) => isTyD T (.list xs)
    | some (some (.dct _)) => some (match T with | .dict => true | _ => false)
    | _ => none
  | .x _ _ => none
  | .f _ => none
def eIsi (T : Ty) (a : Ev) : Ev := fun ρ h => (a ρ h).bind fun v h1 => match isTy T v h1 with
  | some b => .ok (.d (.bool b)) h1
  | none => .no
end
section
variable {X : Cx} {W : WX} {a : Expr} {fa : Ev} {pos p q : Pos}
end
end Rk

/-! Rk5: targets, statements, loops, a def. -/
namespace Rk
open PySem PySem.Spec L2
variable {mg : Str → Option Value}
/-! ### targets -/
abbrev Gv := Vl → En → Hh → Option (En × Hh)
abbrev Gs := List Vl → En → Hh → Option (En × Hh)
def tG (K : PySem.W.Frag) (mg : Str → Option Value) (g : Gv) : TG := fun x σ H Q => ∃ φ h ρ v ρ' h', Sim K φ h H ∧ ERep K mg φ h H σ ρ ∧ VRep K mg φ h H x v ∧ g v ρ h = some (ρ', h') ∧ ∀ σ' H' φ', Step φ h H φ' h' H' → Sim K φ' h' H' → ERep K mg φ' h' H' σ' ρ' → Q σ' H'
def tGs (K : PySem.W.Frag) (mg : Str → Option Value) (g : Gs) : TGs := fun xs σ H Q => ∃ φ h ρ vs ρ' h', Sim K φ h H ∧ ERep K mg φ h H σ ρ ∧ VReps K mg φ h H xs vs ∧ g vs ρ h = some (ρ', h') ∧ ∀ σ' H' φ', Step φ h H φ' h' H' → Sim K φ' h' H' → ERep K mg φ' h' H' σ' ρ' → Q σ' H'
def EG (X : Cx) (tg : Expr) (g : Gv) : Prop := PG X tg (tG X.K X.mg g)
def EGs (X : Cx) (tg : List Expr) (g : Gs) : Prop := PGs X tg (tGs X.K X.mg g)
theorem PG.of {X : Cx} {e : Expr} {t t' : TG} (h : PG X e t) (i : ∀ x σ H Q, t' x σ H Q → t x σ H Q) : PG X e t' := ⟨fun pins s σ H v u Q I r w => h.run pins s σ H v u Q I r (i v σ H Q w)⟩
theorem PGs.of {X : Cx} {e : List Expr} {t t' : TGs} (h : PGs X e t) (i : ∀ x σ H Q, t' x σ H Q → t x σ H Q) : PGs X e t' := ⟨fun pins s σ H v u Q I r w => h.run pins s σ H v u Q I r (i v σ H Q w)⟩
def gN (i : Nat) : Gv := fun v ρ h => some (ρ.set i (some v), h)
def gsNil : Gs := fun vs ρ h => match vs with
  | [] => some (ρ, h)
  | _ => none
def gsCons (g : Gv) (r : Gs) : Gs := fun vs ρ h => match vs with
  | v :: t => (g v ρ h).bind fun p => r t p.1 p.2
  | [] => none
/-- a tuple, or a list, of n -/
def gTupT (n : Nat) (g : Gs) : Gv := fun v ρ h => match v with
  | .d (.tuple ds) => if ds.length = n then g (ds.map Vl.d) ρ h else none
  | _ => none
theorem Reps.vreps {K : PySem.W.Frag} {φ : List Addr} {h : Hh} {H : Hp} : ∀ {xs : List V} {ds : List Da}, Reps K H (Live φ h) xs ds → VReps K mg φ h H xs (ds.map Vl.d)
  | _, _, .nil => .nil
  | _, _, .cons r t => .cons r (Reps.vreps t)
section
variable {X : Cx} {pos : Pos}
theorem eg_name {i : Nat} {x : Str} (hN : X.N.Nodup) (hi : X.N[i]? = some x := by rfl) (hx : Loc X.env.scope x := by first | exact .inl rfl | exact .inr rfl) (hf : X.fn x = true ∨ X.env.scope.names.lookup x = some .local := by first | exact .inl rfl | exact .inr rfl | assumption) : EG X (.Name x pos) (gN i) :=
  PG.of (pg_name (i := i) hN hi hx hf) fun x σ H Q ⟨φ, h, ρ, v, ρ', h', sm, er, rv, e, k⟩ => by
    cases e
    exact k _ H φ (Step.refl _ _ _) sm (er.set rv)
theorem egs_nil : EGs X [] gsNil := PGs.of pgs_nil fun xs σ H Q ⟨φ, h, ρ, vs, ρ', h', sm, er, rv, e, k⟩ => by
  cases rv with
  | nil =>
    cases e
    exact ⟨rfl, k _ H φ (Step.refl _ _ _) sm er⟩
  | cons _ _ => cases e
theorem egs_cons {e : Expr} {es : List Expr} {g : Gv} {gs : Gs} (h1 : EG X e g) (h2 : EGs X es gs)
    (hs : (assignEach (e :: es) X.env).map (·.2) = assign e X.env :: (assignEach es X.env).map (·.2) := by rfl) : EGs X (e :: es) (gsCons g gs) :=
  PGs.of (pgs_cons h1 h2 hs) fun xs σ H Q ⟨φ, h, ρ, vs, ρ', h', sm, er, rv, e, k⟩ => by
    cases rv with
    | nil => cases e
    | @cons x xs v vs r t =>
      have e' : ((g v ρ h).bind fun p => gs vs p.1 p.2) = some (ρ', h') := e
      cases q : g v ρ h with
      | none => rw [q] at e'; cases e'
      | some p =>
        obtain ⟨ρ1, h1⟩ := p
        rw [q] at e'
        exact ⟨x, xs, rfl, φ, h, ρ, v, ρ1, h1, sm, er, r, q, fun σ1 H1 φ1 st sm1 er1 => ⟨φ1, h1, ρ1, vs, ρ', h', sm1, er1, t.step st, e', fun σ2 H2 φ2 st2 => k σ2 H2 φ2 (st.trans st2)⟩⟩
theorem eg_tup {es : List Expr} {k n : Nat} {gs : Gs} (hc : X.calm = true) (h : EGs X es gs) (hn : (assignEach es X.env).length = n := by rfl) (hst : (assignEach es X.env).findIdx? (·.1) = none := by rfl) : EG X (.Tuple es k pos) (gTupT n gs) :=
  PG.of (pg_tup hc h hn hst) fun x σ H Q ⟨φ, h, ρ, v, ρ', h', sm, er, rv, e, k⟩ => by
    unfold gTupT at e
    split at e
    · rename_i ds
      split at e
      · obtain ⟨a, xs, rfl, sq, rs⟩ := VRep.tup rv
        exact ⟨a, xs, rfl, sq, by rw [rs.length]; assumption, φ, h, ρ, _, ρ', h', sm, er, rs.vreps, e, k⟩
      · cases e
    · cases e
end
/-! ### statements -/
def ofG : Option (En × Hh) → So
  | some p => .nx p.1 p.2
  | none => .no
def sAsg (g : Gv) (f : Ev) : Sv := fun ρ h => Out.then ρ (f ρ h) fun v h1 => ofG (g v ρ h1)
def sSet (i : Nat) (f : Ev) : Sv := fun ρ h => Out.then ρ (f ρ h) fun v h1 => .nx (ρ.set i (some v)) h1
def sRet (f : Ev) : Sv := fun ρ h => Out.then ρ (f ρ h) fun v h1 => .rt v h1
def sRetN : Sv := fun _ h => .rt (.d .none) h
def sExpr (f : Ev) : Sv := fun ρ h => Out.then ρ (f ρ h) fun _ h1 => .nx ρ h1
def sIf (c : Tv) (a b : Sv) : Sv := fun ρ h => Out.then ρ (c ρ h) fun k h1 => if k then a ρ h1 else b ρ h1
def So.then : So → Sv → So
  | .nx ρ h, f => f ρ h
  | r, _ => r
def sSeq (a b : Sv) : Sv := fun ρ h => (a ρ h).then b
def sNil : Sv := fun ρ h => .nx ρ h
def sBrk : Sv := fun ρ h => .bk ρ h
def sCont : Sv := fun ρ h => .ct ρ h
def sPar (i j : Nat) (as : Av) : Sv := fun ρ h => Out.then ρ (as ρ h) fun vs h1 => match vs with
  | [v, w] => .nx ((ρ.set i (some v)).set j (some w)) h1
  | _ => .no
section
variable {X : Cx} {W : WX} {e : Expr} {fe : Ev} {pos : Pos}
theorem PoS.nxNow {K : PySem.W.Frag} {mg : Str → Option Value} {φ : List Addr} {h : Hh} {H : Hp} {ρ : En} {σ : L2.St} {D : Ends} {W : WX} (q : PoS K mg φ h H (.nx ρ h) D W) (sm : Sim K φ h H) (er : ERep K mg φ h H σ ρ) : D.nx σ H := q σ H φ (Step.refl _ _ _) sm er
theorem es_set {i : Nat} {x : Str} {pos' : Pos} (hN : X.N.Nodup) (he : EE X W e fe) (hi : X.N[i]? = some x := by rfl) (hx : Loc X.env.scope x := by first | exact .inl rfl | exact .inr rfl) (hs : swapsWith e (some (.Name x pos')) pos.line X.env = pure false := by rfl) (hf : X.fn x = true ∨ X.env.scope.names.lookup x = some .local := by first | exact .inl rfl | exact .inr rfl | assumption) :
    ES X W (.Assign [.Name x pos'] e pos) (sSet i fe) :=
  PS.of (ps_set hN hi hx he hs hf) fun D σ H ⟨φ, h, ρ, sm, er, q⟩ => ⟨φ, h, ρ, sm, er, PoS.goE er q fun x v h1 H1 φ1 st sm1 er1 rv q1 => PoS.nxNow q1 sm1 (er1.set rv)⟩
theorem es_ret (he : EE X W e fe) : ES X W (.Return (some e) pos) (sRet fe) :=
  PS.of (ps_ret he) fun D σ H ⟨φ, h, ρ, sm, er, q⟩ => ⟨φ, h, ρ, sm, er, PoS.goE er q fun x v h1 H1 φ1 st sm1 er1 rv q1 => q1 x H1 φ1 (Step.refl _ _ _) sm1 rv⟩
theorem es_expr (he : EE X W e fe) (hs : swapsWith e none pos.line X.env = pure false := by rfl) : ES X W (.Expr e pos) (sExpr fe) :=
  PS.of (ps_expr he hs) fun D σ H ⟨φ, h, ρ, sm, er, q⟩ => ⟨φ, h, ρ, sm, er, PoS.goE er q fun x v h1 H1 φ1 st sm1 er1 rv q1 => PoS.nxNow q1 sm1 er1⟩
theorem es_if {c : Expr} {a b : List Stmt} {tc : Tv} {fa fb : Sv} (hc : ET X W c tc) (ha : ESs X W a fa) (hb : ESs X W b fb) : ES X W (.If c a b pos) (sIf tc fa fb) :=
  PS.of (ps_if hc ha hb) fun D σ H ⟨φ, h, ρ, sm, er, q⟩ => ⟨φ, h, ρ, sm, er, PoS.goT er q fun v h1 H1 φ1 st sm1 er1 q1 => by
    cases v with
    | true => exact iteT ⟨φ1, h1, ρ, sm1, er1, q1⟩
    | false => exact iteF ⟨φ1, h1, ρ, sm1, er1, q1⟩⟩
theorem ess_nil : ESs X W [] sNil := PSs.of pss_nil fun D σ H ⟨φ, h, ρ, sm, er, q⟩ => PoS.nxNow q sm er
theorem ess_one {st : Stmt} {f : Sv} (h : ES X W st f) : ESs X W [st] f := pss_one h
theorem ess_cons {st : Stmt} {rest : List Stmt} {f g : Sv} (h1 : ES X W st f) (h2 : ESs X W rest g) : ESs X W (st :: rest) (sSeq f g) :=
  PSs.of (pss_cons h1 h2) fun D σ H ⟨φ, h, ρ, sm, er, q⟩ => ⟨φ, h, ρ, sm, er, by
    unfold sSeq at q
    revert q
    cases f ρ h with
    | nx ρ1 h1 => exact fun q σ1 H1 φ1 st sm1 er1 => ⟨φ1, h1, ρ1, sm1, er1, PoS.pull st q⟩
    | rt v h1 => exact fun q => q
    | bk ρ1 h1 => exact fun q => q
    | ct ρ1 h1 => exact fun q => q
    | ex c fs ρ1 h1 => exact fun q => q
    | no => exact fun q => q⟩
theorem es_par {i j : Nat} {x y : Str} {a b : Expr} {fs : Av} {px py pt : Pos} {kt k2 : Nat} {pt2 : Pos} (hc : X.calm = true) (hN : X.N.Nodup) (ha : EA X W [a, b] fs) (hi : X.N[i]? = some x := by rfl) (hj : X.N[j]? = some y := by rfl) (hij : i ≠ j := by decide)
    (hx : X.env.scope.names.lookup x = some .local := by rfl) (hy : X.env.scope.names.lookup y = some .local := by rfl)
    (hw : swappedStores [.Tuple [.Name x px, .Name y py] kt pt] (.Tuple [a, b] k2 pt2) X.env = pure (some [x, y]) := by rfl)
    (hs : swapsWithSole [.Tuple [.Name x px, .Name y py] kt pt] (.Tuple [a, b] k2 pt2) pos.line X.env = pure false := by rfl) :
    ES X W (.Assign [.Tuple [.Name x px, .Name y py] kt pt] (.Tuple [a, b] k2 pt2) pos) (sPar i j fs) :=
  PS.of (ps_par hc hN hi hj hij hx hy ha hw hs) fun D σ H ⟨φ, h, ρ, sm, er, q⟩ => ⟨φ, h, ρ, sm, er, PoS.goA er q fun xs vs h1 H1 φ1 st sm1 er1 rv q1 => by
    split at q1
    · obtain ⟨x, y, rfl, r1, r2⟩ := rv.two
      exact ⟨x, y, rfl, PoS.nxNow q1 sm1 ((er1.set r1).set r2)⟩
    · exact q1.elim⟩
/-- name op= e -/
def sAug (i : Nat) (g : G2) (f : Ev) : Sv := fun ρ h => Out.then ρ (eVar i ρ h) fun x h0 => Out.then ρ (f ρ h0) fun y h1 => Out.then ρ (ofO (g x y h1)) fun z h2 => .nx (ρ.set i (some z)) h2
/-- o[i] = e, o a list -/
def okO : Out Vl → Option (Vl × Hh)
  | .ok v h => some (v, h)
  | _ => none
def setL (o i v : Vl) (h : Hh) : Option Hh := match o, i, fz v h with
  | .r n, .d (.int k), some (d, h1) => match h1[n]? with
    | some (some (.lst xs)) => (ixN xs.length k).map fun j => h1.set n (some (.lst (xs.set j d)))
    | _ => none
  | _, _, _ => none
def gSetL (o ix : Ev) : Gv := fun v ρ h => (okO (o ρ h)).bind fun p => (okO (ix ρ p.2)).bind fun q => (setL p.1 q.1 v q.2).map fun h' => (ρ, h')
theorem okO_some {o : Out Vl} {v : Vl} {h : Hh} (e : okO o = some (v, h)) : o = .ok v h := by
  cases o <;> cases e
  rfl
end
end Rk

/-! Rk6: loops, defs. -/
namespace Rk
open PySem PySem.Spec L2
variable {mg : Str → Option Value}
/-! ### what is walked -/
/-- a list that must stand still -/
def gdOk (gd : Option (Nat × List Da)) (h : Hh) : Prop := match gd with
  | none => True
  | some (n, xs) => h[n]? = some (some (.lst xs))
structure Itm where
  ds : List Da
  gd : Option (Nat × List Da)
abbrev Iv := En → Hh → Out Itm
structure ItOk (K : PySem.W.Frag) (J : It) (m : Itm) (G : List Addr → Hh → Hp → Prop) : Prop where
  go : ∀ (φ : List Addr) (h : Hh) (H : Hp) (i : Nat), Sim K φ h H → G φ h H → gdOk m.gd h → i < m.ds.length → J.go i H
  yld : ∀ (φ : List Addr) (h : Hh) (H : Hp) (i : Nat) (x : V) (H' : Hp) (d : Da), Sim K φ h H → G φ h H → gdOk m.gd h → m.ds[i]? = some d → J.yld i H x H' → Step φ h H φ h H' ∧ Sim K φ h H' ∧ Rep K H' (Live φ h) x d
  stop : ∀ (φ : List Addr) (h : Hh) (H : Hp) (i : Nat), Sim K φ h H → G φ h H → gdOk m.gd h → m.ds.length ≤ i → J.stop i H
  keep : ∀ (φ : List Addr) (h : Hh) (H : Hp) (φ' : List Addr) (h' : Hh) (H' : Hp), G φ h H → Step φ h H φ' h' H' → G φ' h' H'
def PoI (K : PySem.W.Frag) (mg : Str → Option Value) (φ : List Addr) (h : Hh) (H : Hp) (o : Out Itm) (R : It → Hp → Prop) (E : XK) : Prop := match o with
  | .ok m h' => ∀ J H' φ' G, Step φ h H φ' h' H' → Sim K φ' h' H' → ItOk K J m G → G φ' h' H' → R J H'
  | .ex c fs h' => ∀ cls dd H' φ', Step φ h H φ' h' H' → Sim K φ' h' H' → XRep K mg H' (Live φ' h') c fs cls dd → E cls dd H'
  | .no => False
def tI (K : PySem.W.Frag) (mg : Str → Option Value) (W : WX) (f : Iv) : TI := fun σ H R => ∃ φ h ρ, Sim K φ h H ∧ ERep K mg φ h H σ ρ ∧ PoI K mg φ h H (f ρ h) R (WE W σ)
def EI (X : Cx) (W : WX) (tg iter : Expr) (f : Iv) : Prop := PI X tg iter (tI X.K X.mg W f)
theorem PI.of {X : Cx} {tg e : Expr} {t t' : TI} (h : PI X tg e t) (i : ∀ σ H Q, t' σ H Q → t σ H Q) : PI X tg e t' := ⟨fun pins s σ H Q I w => h.run pins s σ H Q I (i σ H Q w)⟩
section
variable {K : PySem.W.Frag} {mg : Str → Option Value} {φ φ1 : List Addr} {h h1 : Hh} {H H1 : Hp} {E : XK}
theorem PoI.pull {o : Out Itm} {Q : It → Hp → Prop} (s : Step φ h H φ1 h1 H1) (q : PoI K mg φ h H o Q E) : PoI K mg φ1 h1 H1 o Q E := by
  cases o with
  | ok v h2 => exact fun J H' φ' G st => q J H' φ' G (s.trans st)
  | ex c fs h2 => exact fun cls dd H' φ' st => q cls dd H' φ' (s.trans st)
  | no => exact q
theorem PoI.goE {o : Out Vl} {k : Vl → Hh → Out Itm} {Q : It → Hp → Prop} {Q1 : VK} (q : PoI K mg φ h H (o.bind k) Q E)
    (hk : ∀ (x : V) (v : Vl) (h1 : Hh) (H1 : Hp) (φ1 : List Addr), Step φ h H φ1 h1 H1 → Sim K φ1 h1 H1 → VRep K mg φ1 h1 H1 x v → PoI K mg φ1 h1 H1 (k v h1) Q E → Q1 x H1) : PoX K mg φ h H o Q1 E := by
  cases o with
  | ok v h1 => exact fun x H' φ' st sm' rv => hk x v h1 H' φ' st sm' rv (PoI.pull st q)
  | ex c fs h1 => exact q
  | no => exact q
theorem PoI.goA {o : Out (List Vl)} {k : List Vl → Hh → Out Itm} {Q : It → Hp → Prop} {Q1 : List V → Hp → Prop} (q : PoI K mg φ h H (o.bind k) Q E)
    (hk : ∀ (x : List V) (v : List Vl) (h1 : Hh) (H1 : Hp) (φ1 : List Addr), Step φ h H φ1 h1 H1 → Sim K φ1 h1 H1 → VReps K mg φ1 h1 H1 x v → PoI K mg φ1 h1 H1 (k v h1) Q E → Q1 x H1) : PoA K mg φ h H o Q1 E := by
  cases o with
  | ok v h1 => exact fun x H' φ' st sm' rv => hk x v h1 H' φ' st sm' rv (PoI.pull st q)
  | ex c fs h1 => exact q
  | no => exact q
end
/-- a list: data, or an object that must stand still -/
def itL : Vl → Hh → Out Itm
  | .d (.list ds), h => .ok ⟨ds, none⟩ h
  | .r n, h => match h[n]? with
    | some (some (.lst ds)) => .ok ⟨ds, some (n, ds)⟩ h
    | _ => .no
  | _, _ => .no
def itT : Vl → Hh → Out Itm
  | .d (.tuple ds), h => .ok ⟨ds, none⟩ h
  | _, _ => .no
def itQ : Vl → Hh → Out Itm
  | .d (.tuple ds), h => .ok ⟨ds, none⟩ h
  | v, h => itL v h
def iv (it : Vl → Hh → Out Itm) (f : Ev) : Iv := fun ρ h => (f ρ h).bind it
def iSeq (K : PySem.W.Frag) (tl : TE) : TI := fun σ H R => tl σ H fun x H1 => ∃ a, x = .ref a ∧ (((∃ xs, SqL K H1 a xs) ∧ R (Itl K a) H1) ∨ ((∃ xs, SqT K H1 a xs) ∧ R (Itt K a) H1))
theorem pi_seq {X : Cx} {tg l : Expr} {tl : TE} (hl : PE X l tl) : PI X tg l (iSeq X.K tl) := by
  refine ⟨fun pins s σ H R I h => ?_⟩
  refine thn (hl.run pins s σ H _ I h) fun v s1 ⟨x, H1, I1, r1, q1⟩ => ?_
  obtain ⟨a, e, q⟩ := q1
  subst e
  cases r1
  have nf : ∀ b : Addr, b ∈ [s1.heap.objs.size] → FpOk X pins H1 b := fun b hb => by
    have e : b = s1.heap.objs.size := by simpa using hb
    subst e
    exact I1.fpOk (Nat.le_refl _) (I1.hok.fresh (Nat.le_refl _))
  rcases q with ⟨⟨xs, hq⟩, q⟩ | ⟨⟨xs, hq⟩, q⟩
  · obtain ⟨its, rv, p, hz⟩ := I1.list hq
    exact wpAny_pyIter_list p.isList ⟨s1.heap.objs.size, [s1.heap.objs.size], _, _, H1, rfl, I1.kept (t' := s1.toks) fun b o e => Heap.get?_push_of_some _ e, turn_list a _, ⟨_, Heap.get?_push_size _ rfl, rfl, rfl⟩, nf, q⟩
  · obtain ⟨its, rv, p, hz⟩ := I1.tuple hq
    exact wpAny_pyIter_tuple (show s1.heap.IsTuple a its.toArray from p) ⟨s1.heap.objs.size, [s1.heap.objs.size], _, _, H1, rfl, I1.kept (t' := s1.toks) fun b o e => Heap.get?_push_of_some _ e, turn_tuple a _, ⟨_, Heap.get?_push_size _ rfl, rfl, rfl⟩, nf, q⟩
section
variable {K : PySem.W.Frag}
/-- how a list stands, for a walk -/
structure LOk (K : PySem.W.Frag) (a : Addr) (m : Itm) (G : List Addr → Hh → Hp → Prop) : Prop where
  sq : ∀ (φ : List Addr) (h : Hh) (H : Hp), Sim K φ h H → G φ h H → gdOk m.gd h → ∃ xs, SqL K H a xs ∧ Reps K H (Live φ h) xs m.ds
  keep : ∀ (φ : List Addr) (h : Hh) (H : Hp) (φ' : List Addr) (h' : Hh) (H' : Hp), G φ h H → Step φ h H φ' h' H' → G φ' h' H'
theorem itL_lok {φ : List Addr} {h h' : Hh} {H : Hp} {x : V} {v : Vl} {m : Itm} (sm : Sim K φ h H) (r : VRep K mg φ h H x v) (e : itL v h = .ok m h') : h' = h ∧ gdOk m.gd h ∧ ∃ a G, x = .ref a ∧ LOk K a m G ∧ G φ h H := by
  unfold itL at e
  split at e
  · cases e
    rename_i ds
    have r' : Rep K H (Live φ h) x (.list ds) := r
    cases r' with
    | @lst a xs _ h1 n r1 =>
      exact ⟨rfl, trivial, a, fun φ h H => Rep K H (Live φ h) (.ref a) (.list ds), rfl, ⟨fun φ h H _ g _ => Rep.sqL g, fun φ h H φ' h' H' g st => Rep.stay st.st g⟩, r⟩
    | @lstK a xs _ h1 r1 =>
      exact ⟨rfl, trivial, a, fun φ h H => Rep K H (Live φ h) (.ref a) (.list ds), rfl, ⟨fun φ h H _ g _ => Rep.sqL g, fun φ h H φ' h' H' g st => Rep.stay st.st g⟩, r⟩
  · split at e
    · rename_i n _ ds en
      cases e
      obtain ⟨a, ea, rfl⟩ := r
      refine ⟨rfl, en, a, fun (φ : List Addr) (h : Hh) (H : Hp) => φ[n]? = some a, rfl, ⟨fun φ h H sm g gd => ?_, fun φ h H φ' h' H' g st => pre_get st.pre g⟩, ea⟩
      obtain ⟨xs, e2, q⟩ := sm.at_ gd g
      exact ⟨xs, .of e2, q⟩
    · cases e
  · cases e
theorem LOk.it {a : Addr} {m : Itm} {G : List Addr → Hh → Hp → Prop} (L : LOk K a m G) : ItOk K (Itl K a) m G where
  go := fun φ h H i sm g gd hi => by
    obtain ⟨xs, sq, rs⟩ := L.sq φ h H sm g gd
    obtain ⟨y, e, _⟩ := rs.get (List.getElem?_eq_getElem hi)
    exact ⟨xs, y, sq, e⟩
  yld := fun φ h H i x H' d sm g gd ed ⟨e, q⟩ => by
    subst e
    obtain ⟨xs, sq, rs⟩ := L.sq φ h H' sm g gd
    obtain ⟨y, ey, ry⟩ := rs.get ed
    have e2 := q xs sq
    rw [ey] at e2
    cases e2
    exact ⟨Step.refl _ _ _, sm, ry⟩
  stop := fun φ h H i sm g gd hi => by
    obtain ⟨xs, sq, rs⟩ := L.sq φ h H sm g gd
    exact ⟨xs, sq, by rw [rs.length]; exact hi⟩
  keep := L.keep
theorem tup_it {a : Addr} {ds : List Da} : ItOk K (Itt K a) ⟨ds, none⟩ (fun φ h H => Rep K H (Live φ h) (.ref a) (.tuple ds)) where
  go := fun φ h H i sm g gd hi => by
    obtain ⟨xs, sq, rs⟩ := Rep.sqT g
    obtain ⟨y, e, _⟩ := rs.get (List.getElem?_eq_getElem hi)
    exact ⟨xs, y, sq, e⟩
  yld := fun φ h H i x H' d sm g gd ed ⟨e, q⟩ => by
    subst e
    obtain ⟨xs, sq, rs⟩ := Rep.sqT g
    obtain ⟨y, ey, ry⟩ := rs.get ed
    have e2 := q xs sq
    rw [ey] at e2
    cases e2
    exact ⟨Step.refl _ _ _, sm, ry⟩
  stop := fun φ h H i sm g gd hi => by
    obtain ⟨xs, sq, rs⟩ := Rep.sqT g
    exact ⟨xs, sq, by rw [rs.length]; exact hi⟩
  keep := fun φ h H φ' h' H' g st => Rep.stay st.st g
theorem enum_it {a : Addr} {m : Itm} {G : List Addr → Hh → Hp → Prop} (L : LOk K a m G) : ItOk K (Ite K a) ⟨m.ds.mapIdx fun i d => .tuple [.int (i : Nat), d], m.gd⟩ G where
  go := fun φ h H i sm g gd hi => by
    obtain ⟨xs, sq, rs⟩ := L.sq φ h H sm g gd
    obtain ⟨y, e, _⟩ := rs.get (List.getElem?_eq_getElem (show i < m.ds.length by simpa using hi))
    exact ⟨xs, y, sq, e⟩
  yld := fun φ h H i x H' d sm g gd ed ⟨T, y, ex, hT, e, q⟩ => by
    subst ex e
    obtain ⟨xs, sq, rs⟩ := L.sq φ h H sm g gd
    rw [List.getElem?_mapIdx] at ed
    cases e3 : m.ds[i]? with
    | none => rw [e3] at ed; cases ed
    | some d0 =>
      rw [e3] at ed
      cases ed
      obtain ⟨y2, ey, ry⟩ := rs.get e3
      have e2 := q xs sq
      rw [ey] at e2
      cases e2
      obtain ⟨s1, s2, s3⟩ := new_tup (mg := fun _ => none) sm (ds := [.int (i : Nat), d0]) (.cons (.int _) (.cons ry .nil)) hT
      exact ⟨s1, s2, s3⟩
  stop := fun φ h H i sm g gd hi => by
    obtain ⟨xs, sq, rs⟩ := L.sq φ h H sm g gd
    exact ⟨xs, sq, by rw [rs.length]; simpa using hi⟩
  keep := L.keep
def rngD (lo : Int) (n : Nat) : List Da := (List.range n).map fun k => .int (lo + (k : Nat))
theorem range_it {lo : Int} {n : Nat} : ItOk K (Itr lo n) ⟨rngD lo n, none⟩ (fun _ _ _ => True) where
  go := fun φ h H i sm g gd hi => by
    show i < n
    simpa [rngD] using hi
  yld := fun φ h H i x H' d sm g gd ed ⟨e, q⟩ => by
    subst e q
    unfold rngD at ed
    rw [List.getElem?_map] at ed
    cases e3 : (List.range n)[i]? with
    | none => rw [e3] at ed; cases ed
    | some k =>
      rw [e3] at ed
      have e4 := (List.getElem?_eq_some_iff.mp e3)
      obtain ⟨h1, h2⟩ := e4
      rw [List.getElem_range] at h2
      subst h2
      cases ed
      exact ⟨Step.refl _ _ _, sm, .int _⟩
  stop := fun φ h H i sm g gd hi => by
    show n ≤ i
    simpa [rngD] using hi
  keep := fun _ _ _ _ _ _ _ _ => trivial
end
def rgB (j : Int) : Bool := decide (-1000000000000 ≤ j) && decide (j ≤ 1000000000000)
theorem rgB_ok {j : Int} (h : rgB j = true) : -(2 ^ 62) ≤ j ∧ j < 2 ^ 62 := by
  unfold rgB at h
  rw [Bool.and_eq_true] at h
  exact ⟨Int.le_trans (by decide) (of_decide_eq_true h.1), Int.lt_of_le_of_lt (of_decide_eq_true h.2) (by decide)⟩
def iRange1 (as : Av) : Iv := fun ρ h => (as ρ h).bind fun vs h1 => match vs with
  | [.d (.int j)] => if rgB j then .ok ⟨rngD 0 j.toNat, none⟩ h1 else .no
  | _ => .no
def iRange2 (as : Av) : Iv := fun ρ h => (as ρ h).bind fun vs h1 => match vs with
  | [.d (.int i), .d (.int j)] => if rgB i && rgB j then .ok ⟨rngD i (j - i).toNat, none⟩ h1 else .no
  | _ => .no
def enumI (o : Out Itm) : Out Itm := o.bind fun m h => .ok ⟨m.ds.mapIdx fun i d => .tuple [.int (i : Nat), d], m.gd⟩ h
def iEnumL (as : Av) : Iv := fun ρ h => (as ρ h).bind fun vs h1 => match vs with
  | [v] => enumI (itL v h1)
  | _ => .no
section
variable {X : Cx} {W : WX} {tg e : Expr} {fe : Ev} {pos p : Pos} {fs : Av}
theorem ei_seq (he : EE X W e fe) : EI X W tg e (iv itQ fe) :=
  PI.of (pi_seq he) fun σ H R ⟨φ, h, ρ, sm, er, q⟩ => ⟨φ, h, ρ, sm, er, PoI.goE q fun x v h1 H1 φ1 st sm1 rv q1 => by
    unfold itQ at q1
    split at q1
    · obtain ⟨a, xs, rfl, sq, rs⟩ := VRep.tup rv
      exact ⟨a, rfl, .inr ⟨⟨xs, sq⟩, q1 _ H1 φ1 _ (Step.refl _ _ _) sm1 tup_it rv⟩⟩
    · cases e : itL v h1 with
      | ok m h2 =>
        rw [e] at q1
        obtain ⟨rfl, gd, a, G, rfl, L, g⟩ := itL_lok sm1 rv e
        obtain ⟨xs, sq, _⟩ := L.sq _ _ _ sm1 g gd
        exact ⟨a, rfl, .inl ⟨⟨xs, sq⟩, q1 _ H1 φ1 _ (Step.refl _ _ _) sm1 L.it g⟩⟩
      | ex c fs h2 =>
        unfold itL at e
        split at e
        · cases e
        · split at e <;> cases e
        · cases e
      | no => rw [e] at q1; exact q1.elim⟩
theorem ei_range1 {a : Expr} (hg : Gl X "range") (hm : X.mg "range" = none) (ha : EA X W [a] fs) (hs : starEach [a] X.env = [(false, eval a X.env)] := by rfl) : EI X W tg (.Call (.Name "range" p) [a] [] pos) (iRange1 fs) :=
  PI.of (pi_range1 hg hm ha hs) fun σ H R ⟨φ, h, ρ, sm, er, q⟩ => ⟨φ, h, ρ, sm, er, PoI.goA q fun xs vs h1 H1 φ1 st sm1 rv q1 => by
    split at q1
    · obtain ⟨x, rfl, r⟩ := rv.one
      split at q1
      · rename_i j hj
        rw [VRep.int r]
        exact ⟨j, rfl, (rgB_ok hj).1, (rgB_ok hj).2, q1 _ H1 φ1 _ (Step.refl _ _ _) sm1 range_it trivial⟩
      · exact q1.elim
    · exact q1.elim⟩
end
/-! ### for -/
open Classical in
noncomputable def forL (gd : Option (Nat × List Da)) (g : Gv) (body : Sv) : List Da → En → Hh → So
  | [], ρ, h => if gdOk gd h then .nx ρ h else .no
  | d :: ds, ρ, h => if gdOk gd h then (match g (.d d) ρ h with
      | none => .no
      | some p => match body p.1 p.2 with
        | .nx ρ' h' => forL gd g body ds ρ' h'
        | .ct ρ' h' => forL gd g body ds ρ' h'
        | .bk ρ' h' => .nx ρ' h'
        | r => r) else .no
noncomputable def sFor (i : Iv) (g : Gv) (body : Sv) : Sv := fun ρ h => Out.then ρ (i ρ h) fun m h1 => forL m.gd g body m.ds ρ h1
section
variable {X : Cx} {W : WX} {tg iter : Expr} {fi : Iv} {g : Gv} {body : List Stmt} {fb : Sv} {pos : Pos}
theorem for_ok {K : PySem.W.Frag} {mg : Str → Option Value} {W : WX} {D : Ends} {J : It} {m : Itm} {G : List Addr → Hh → Hp → Prop} (ok : ItOk K J m G) {φ : List Addr} {h : Hh} {H : Hp} {σ : L2.St} {ρ : En} (sm : Sim K φ h H) (er : ERep K mg φ h H σ ρ) (gg : G φ h H)
    (q : PoS K mg φ h H (forL m.gd g fb m.ds ρ h) D W) : ∃ W' : Nat → Nat → L2.St → Hp → Prop, (∃ n, W' 0 n σ H) ∧ ∀ i n σ H, W' i n σ H →
      (J.stop i H ∧ D.nx σ H) ∨ (J.go i H ∧ ∃ N : L2.St → Hp → Prop, (∀ σ' H', N σ' H' → ∃ m', m' < n ∧ W' (i + 1) m' σ' H') ∧ ∀ x H', J.yld i H x H' → tG K mg g x σ H' fun σ2 H2 => tS K mg W fb { D with nx := N, ct := N, bk := D.nx } σ2 H2) := by
  refine ⟨fun i n σ H => n = m.ds.length - i ∧ ∃ φ h ρ, Sim K φ h H ∧ ERep K mg φ h H σ ρ ∧ G φ h H ∧ PoS K mg φ h H (forL m.gd g fb (m.ds.drop i) ρ h) D W, ⟨_, rfl, φ, h, ρ, sm, er, gg, by rw [List.drop_zero]; exact q⟩, ?_⟩
  rintro i n σ H ⟨rfl, φ, h, ρ, sm, er, gg, q⟩
  cases ed : m.ds.drop i with
  | nil =>
    rw [ed] at q
    unfold forL at q
    split at q
    · rename_i gd
      exact .inl ⟨ok.stop φ h H i sm gg gd (List.drop_eq_nil_iff.mp ed), PoS.nxNow q sm er⟩
    · exact q.elim
  | cons d ds =>
    have hi : i < m.ds.length := by
      rcases Nat.lt_or_ge i m.ds.length with z | z
      · exact z
      · rw [List.drop_eq_nil_of_le z] at ed; cases ed
    have e1 : m.ds[i]? = some d := by
      have := List.getElem?_drop (xs := m.ds) (i := i) (j := 0)
      rw [ed] at this
      simpa using this.symm
    have e2 : m.ds.drop (i + 1) = ds := by
      have := List.drop_drop (i := 1) (j := i) (l := m.ds)
      rw [ed] at this
      simpa using this.symm
    rw [ed] at q
    unfold forL at q
    split at q
    · rename_i gd
      refine .inr ⟨ok.go φ h H i sm gg gd hi, fun σ' H' => ∃ φ h ρ, Sim K φ h H' ∧ ERep K mg φ h H' σ' ρ ∧ G φ h H' ∧ PoS K mg φ h H' (forL m.gd g fb ds ρ h) D W, fun σ' H' hN => ?_, fun x H' hy => ?_⟩
      · obtain ⟨φ', h', ρ', a1, a2, a3, a4⟩ := hN
        exact ⟨m.ds.length - (i + 1), by omega, rfl, φ', h', ρ', a1, a2, a3, by rw [e2]; exact a4⟩
      · obtain ⟨s1, s2, s3⟩ := ok.yld φ h H i x H' d sm gg gd e1 hy
        have q' := PoS.pull s1 q
        have gg' := ok.keep _ _ _ _ _ _ gg s1
        cases eg : g (.d d) ρ h with
        | none => rw [eg] at q'; exact q'.elim
        | some p =>
          obtain ⟨ρ1, h1⟩ := p
          rw [eg] at q'
          refine ⟨φ, h, ρ, .d d, ρ1, h1, s2, er.step s1, s3, eg, fun σ2 H2 φ2 st2 sm2 er2 => ⟨φ2, h1, ρ1, sm2, er2, ?_⟩⟩
          have q2 := PoS.pull st2 q'
          have gg2 := ok.keep _ _ _ _ _ _ gg' st2
          dsimp only at q2
          revert q2
          cases fb ρ1 h1 with
          | nx ρ3 h3 => exact fun q2 σ3 H3 φ3 st3 sm3 er3 => ⟨φ3, h3, ρ3, sm3, er3, ok.keep _ _ _ _ _ _ gg2 st3, PoS.pull st3 q2⟩
          | ct ρ3 h3 => exact fun q2 σ3 H3 φ3 st3 sm3 er3 => ⟨φ3, h3, ρ3, sm3, er3, ok.keep _ _ _ _ _ _ gg2 st3, PoS.pull st3 q2⟩
          | bk ρ3 h3 => exact fun q2 => q2
          | rt v h3 => exact fun q2 => q2
          | ex c fs ρ3 h3 => exact fun q2 => q2
          | no => exact fun q2 => q2
    · exact q.elim
theorem es_for (hp : PassesOwn (model X.prog X.w) X.A X.env X.xe) (hc : X.calm = true) (hi : EI X W tg iter fi) (hg : EG X tg g) (hb : ESs X W body fb) (hs : ∀ x, foldedSetIterable iter X.env x = pure x := by intro _; rfl) : ES X W (.For tg iter body [] pos) (sFor fi g fb) :=
  PS.of (ps_for hp hc hi hg hb hs) fun D σ H ⟨φ, h, ρ, sm, er, q⟩ => ⟨φ, h, ρ, sm, er, by
    unfold sFor at q
    revert q
    cases fi ρ h with
    | ok m h1 => exact fun q J H1 φ1 G st sm1 ok gg => for_ok ok sm1 (er.step st) gg (PoS.pull st q)
    | ex c fs h1 => exact fun q cls dd H' φ' st sm' xr => q cls dd σ H' φ' st sm' (er.step st) xr
    | no => exact fun q => q⟩
end
/-! ### while -/
def whileN (c : Tv) (b : Sv) : Nat → En → Hh → Option So
  | 0, _, _ => none
  | n + 1, ρ, h => match c ρ h with
    | .no => some .no
    | .ex k fs h1 => some (.ex k fs ρ h1)
    | .ok false h1 => some (.nx ρ h1)
    | .ok true h1 => match b ρ h1 with
      | .nx ρ' h' => whileN c b n ρ' h'
      | .ct ρ' h' => whileN c b n ρ' h'
      | .bk ρ' h' => some (.nx ρ' h')
      | r => some r
theorem whileN_mono (c : Tv) (b : Sv) : ∀ (n : Nat) (ρ : En) (h : Hh) (r : So), whileN c b n ρ h = some r → whileN c b (n + 1) ρ h = some r
  | 0, _, _, _, e => by cases e
  | n + 1, ρ, h, r, e => by
    unfold whileN at e ⊢
    split at e <;> try exact e
    split at e
    · exact whileN_mono c b n _ _ r e
    · exact whileN_mono c b n _ _ r e
    · exact e
    · exact e
theorem whileN_le (c : Tv) (b : Sv) {n m : Nat} (hl : n ≤ m) {ρ : En} {h : Hh} {r : So} (e : whileN c b n ρ h = some r) : whileN c b m ρ h = some r := by
  induction hl with
  | refl => exact e
  | step _ ih => exact whileN_mono c b _ ρ h r ih
theorem whileN_det (c : Tv) (b : Sv) {n m : Nat} {ρ : En} {h : Hh} {r r' : So} (e : whileN c b n ρ h = some r) (e' : whileN c b m ρ h = some r') : r = r' := by
  have a := whileN_le c b (Nat.le_max_left n m) e
  have b' := whileN_le c b (Nat.le_max_right n m) e'
  rw [a] at b'
  exact Option.some.inj b'
open Classical in
noncomputable def sWhile (c : Tv) (b : Sv) : Sv := fun ρ h => if H : ∃ r, ∃ n, whileN c b n ρ h = some r then Classical.choose H else .no
theorem sWhile_of {c : Tv} {b : Sv} {n : Nat} {ρ : En} {h : Hh} {r : So} (e : whileN c b n ρ h = some r) : sWhile c b ρ h = r := by
  have H : ∃ r, ∃ n, whileN c b n ρ h = some r := ⟨r, n, e⟩
  unfold sWhile
  rw [dif_pos H]
  obtain ⟨m, e'⟩ := Classical.choose_spec H
  exact whileN_det c b e' e
theorem sWhile_none {c : Tv} {b : Sv} {ρ : En} {h : Hh} (e : ∀ n, whileN c b n ρ h = none) : sWhile c b ρ h = .no := by
  unfold sWhile
  rw [dif_neg]
  rintro ⟨r, n, q⟩
  rw [e n] at q
  cases q
/-- one turn -/
theorem sWhile_eq (c : Tv) (b : Sv) (ρ : En) (h : Hh) : sWhile c b ρ h = Out.then ρ (c ρ h) fun k h1 => if k then (match b ρ h1 with
      | .nx ρ' h' => sWhile c b ρ' h'
      | .ct ρ' h' => sWhile c b ρ' h'
      | .bk ρ' h' => .nx ρ' h'
      | r => r) else .nx ρ h1 := by
  have step : ∀ n, whileN c b (n + 1) ρ h = match c ρ h with
    | .no => some .no
    | .ex k fs h1 => some (.ex k fs ρ h1)
    | .ok false h1 => some (.nx ρ h1)
    | .ok true h1 => match b ρ h1 with
      | .nx ρ' h' => whileN c b n ρ' h'
      | .ct ρ' h' => whileN c b n ρ' h'
      | .bk ρ' h' => some (.nx ρ' h')
      | r => some r := fun n => rfl
  cases ec : c ρ h with
  | no => exact sWhile_of (n := 1) (by rw [step, ec]; rfl)
  | ex k fs h1 => exact sWhile_of (n := 1) (by rw [step, ec]; rfl)
  | ok k h1 =>
    cases k with
    | false => exact sWhile_of (n := 1) (by rw [step, ec]; rfl)
    | true =>
      show sWhile c b ρ h = match b ρ h1 with
        | .nx ρ' h' => sWhile c b ρ' h'
        | .ct ρ' h' => sWhile c b ρ' h'
        | .bk ρ' h' => .nx ρ' h'
        | r => r
      have again : ∀ ρ' h', (∀ n, whileN c b (n + 1) ρ h = whileN c b n ρ' h') → sWhile c b ρ h = sWhile c b ρ' h' := fun ρ' h' z => by
        by_cases q : ∃ r, ∃ n, whileN c b n ρ' h' = some r
        · obtain ⟨r, n, e⟩ := q
          rw [sWhile_of e]
          exact sWhile_of (n := n + 1) (by rw [z]; exact e)
        · have n1 : ∀ n, whileN c b n ρ' h' = none := fun n => by
            cases e : whileN c b n ρ' h' with
            | none => rfl
            | some r => exact absurd ⟨r, n, e⟩ q
          rw [sWhile_none n1]
          refine sWhile_none fun n => ?_
          cases n with
          | zero => rfl
          | succ n => rw [z]; exact n1 n
      cases eb : b ρ h1 with
      | nx ρ' h' => exact again ρ' h' fun n => by rw [step, ec]; dsimp only; rw [eb]
      | ct ρ' h' => exact again ρ' h' fun n => by rw [step, ec]; dsimp only; rw [eb]
      | bk ρ' h' => exact sWhile_of (n := 1) (by rw [step, ec]; dsimp only; rw [eb])
      | rt v h' => exact sWhile_of (n := 1) (by rw [step, ec]; dsimp only; rw [eb])
      | ex k fs ρ' h' => exact sWhile_of (n := 1) (by rw [step, ec]; dsimp only; rw [eb])
      | no => exact sWhile_of (n := 1) (by rw [step, ec]; dsimp only; rw [eb])
section
variable {X : Cx} {W : WX} {c : Expr} {tc : Tv} {body : List Stmt} {fb : Sv} {pos : Pos}
theorem es_while (hp : PassesOwn (model X.prog X.w) X.A X.env X.xe) (hc : ET X W c tc) (hb : ESs X W body fb) : ES X W (.While c body [] pos) (sWhile tc fb) :=
  PS.of (ps_while hp hc hb) fun D σ H ⟨φ, h, ρ, sm, er, q⟩ => by
    by_cases ex : ∃ r, ∃ n, whileN tc fb n ρ h = some r
    · obtain ⟨r, n, e⟩ := ex
      rw [sWhile_of e] at q
      refine ⟨fun m σ H => ∃ φ h ρ r, Sim X.K φ h H ∧ ERep X.K X.mg φ h H σ ρ ∧ whileN tc fb m ρ h = some r ∧ PoS X.K X.mg φ h H r D W, ⟨n, φ, h, ρ, r, sm, er, e, q⟩, ?_⟩
      rintro m σ H ⟨φ, h, ρ, r, sm, er, e, q⟩
      refine ⟨φ, h, ρ, sm, er, ?_⟩
      cases m with
      | zero => cases e
      | succ m =>
        unfold whileN at e
        revert e
        cases tc ρ h with
        | no => intro e; cases e; exact q
        | ex k fs h1 => intro e; cases e; exact fun cls dd H' φ' st sm' xr => q cls dd σ H' φ' st sm' (er.step st) xr
        | ok k h1 =>
          cases k with
          | false =>
            intro e
            cases e
            intro H1 φ1 st sm1
            exact iteF (q σ H1 φ1 st sm1 (er.step st))
          | true =>
            intro e
            intro H1 φ1 st sm1
            refine iteT ⟨fun σ' H' => ∃ φ h ρ r, Sim X.K φ h H' ∧ ERep X.K X.mg φ h H' σ' ρ ∧ whileN tc fb m ρ h = some r ∧ PoS X.K X.mg φ h H' r D W, fun σ' H' z => ⟨m, Nat.lt_succ_self m, z⟩, φ1, h1, ρ, sm1, er.step st, ?_⟩
            dsimp only at e
            revert e
            cases fb ρ h1 with
            | nx ρ' h' => exact fun e σ2 H2 φ2 st2 sm2 er2 => ⟨φ2, h', ρ', r, sm2, er2, e, PoS.pull (st.trans st2) q⟩
            | ct ρ' h' => exact fun e σ2 H2 φ2 st2 sm2 er2 => ⟨φ2, h', ρ', r, sm2, er2, e, PoS.pull (st.trans st2) q⟩
            | bk ρ' h' => intro e; cases e; exact PoS.pull st q
            | rt v h' => intro e; cases e; exact PoS.pull st q
            | ex k fs ρ' h' => intro e; cases e; exact PoS.pull st q
            | no => intro e; cases e; exact PoS.pull st q
    · have n1 : ∀ n, whileN tc fb n ρ h = none := fun n => by
        cases e : whileN tc fb n ρ h with
        | none => rfl
        | some r => exact absurd ⟨r, n, e⟩ ex
      rw [sWhile_none n1] at q
      exact q.elim
end
/-! ### a def -/
def trunc (n : Nat) (v : Vl) (h : Hh) : Out Vl := match v with
  | .r i => if i < n then .ok (.r i) (h.take n) else match h[i]? with
    | some (some (.rl _)) => .no
    | some (some o) => .ok (.r n) (h.take n ++ [some o])
    | _ => .no
  | .f _ => .no
  | v => .ok v (h.take n)
def retF (n : Nat) : So → Out Vl
  | .rt v h => trunc n v h
  | .nx _ h => trunc n (.d .none) h
  | .ex c fs _ h => .ex c fs (h.take n)
  | _ => .no
def enter (N : Nat) (as : List Vl) : En := as.map some ++ List.replicate (N - as.length) none
def mkF (k N : Nat) (body : Sv) : Fn := fun as h => if as.length = k then retF h.length (body (enter N as) h) else .no
section
variable {K : PySem.W.Frag} {mg : Str → Option Value}
theorem enter_ok {φ : List Addr} {h : Hh} {H : Hp} {vs : List V} {as : List Vl} (N : List Str) (r : VReps K mg φ h H vs as) : ERep K mg φ h H (start N vs) (enter N.length as) := by
  have hl := r.length
  refine ⟨by unfold L2.start enter; simp [hl], fun i v e => ?_⟩
  unfold enter at e
  unfold L2.start
  by_cases hi : i < as.length
  · rw [List.getElem?_append_left (by simpa using hi), List.getElem?_map] at e
    rw [List.getElem?_append_left (by simp; omega), List.getElem?_map]
    have get : ∀ {vs : List V} {as : List Vl} {i : Nat} {v : Vl}, VReps K mg φ h H vs as → as[i]? = some v → ∃ x, vs[i]? = some x ∧ VRep K mg φ h H x v := by
      intro vs as i v r
      induction r generalizing i with
      | nil => intro e; simp at e
      | cons q t ih =>
        cases i with
        | zero => intro e; simp at e; subst e; exact ⟨_, rfl, q⟩
        | succ i => intro e; exact ih (by simpa using e)
    cases e2 : as[i]? with
    | none => rw [e2] at e; cases e
    | some w =>
      rw [e2] at e
      cases e
      obtain ⟨x, e3, q⟩ := get r e2
      exact ⟨x, by rw [e3]; rfl, q⟩
  · rw [List.getElem?_append_right (by simpa using Nat.le_of_not_lt hi)] at e
    rw [List.getElem?_replicate] at e
    split at e <;> cases e
/-- the numbers above n are forgotten -/
theorem Sim.cut {φ φ' : List Addr} {h' : Hh} {H' : Hp} {n : Nat} (sm : Sim K φ' h' H') (pre : φ <+: φ') (hn : φ.length = n) :
    Sim K φ (h'.take n) H' ∧ (∀ a, Live φ (h'.take n) a → Live φ' h' a) := by
  have le : n ≤ h'.length := by rw [← sm.len, ← hn]; exact pre.length_le
  have back : ∀ (i : Nat) (o : Option Ob), (h'.take n)[i]? = some o → h'[i]? = some o ∧ i < n := fun i o e => by
    rw [List.getElem?_take] at e
    split at e
    · exact ⟨e, by assumption⟩
    · cases e
  have less : ∀ a, Live φ (h'.take n) a → Live φ' h' a := fun a ⟨i, o, e1, e2⟩ => ⟨i, o, pre_get pre e1, (back i _ e2).1⟩
  have st : Stay H' (Live φ' h') H' (Live φ (h'.take n)) := fun a u q _ nl => ⟨q, fun l => nl (less a l)⟩
  refine ⟨⟨by rw [List.length_take, hn]; omega, fun i j a o o' e1 e2 e3 e4 => sm.inj i j a o o' (pre_get pre e1) (pre_get pre e2) (back i _ e3).1 (back j _ e4).1, fun i o e => ?_, fun i ns e => ?_⟩, less⟩
  · obtain ⟨e1, hi⟩ := back i _ e
    obtain ⟨a, e2, r⟩ := sm.ob i o e1
    obtain ⟨t, rfl⟩ := pre
    rw [List.getElem?_append_left (by omega)] at e2
    exact ⟨a, e2, r.stay st (fun _ z => z) fun _ _ z => sm.notCode z⟩
  · obtain ⟨e1, hi⟩ := back i _ e
    obtain ⟨a, as, e2, e3, e4, e5⟩ := sm.rf i ns e1
    obtain ⟨t, rfl⟩ := pre
    rw [List.getElem?_append_left (by omega)] at e2
    refine ⟨a, as, e2, e3, e4, fun k m z => ?_⟩
    obtain ⟨z1, z2⟩ := e5 k m z
    rw [List.getElem?_append_left (by omega)] at z2
    exact ⟨z1, z2⟩
theorem trunc_ok {φ φ' : List Addr} {h h' : Hh} {H H' : Hp} {v : Vl} {x : V} {Q : VK} {E : XK} (sm : Sim K φ h H) (st : Step φ h H φ' h' H') (sm' : Sim K φ' h' H') (rv : VRep K mg φ' h' H' x v)
    (q : PoX K mg φ h H (trunc h.length v h') Q E) : Q x H' := by
  obtain ⟨c1, c2⟩ := sm'.cut st.pre sm.len
  have st2 : Stay H' (Live φ' h') H' (Live φ (h'.take h.length)) := fun a u q _ nl => ⟨q, fun l => nl (c2 a l)⟩
  have st1 : Step φ h H φ (h'.take h.length) H' := ⟨List.prefix_refl _, st.st.trans st2⟩
  cases v with
  | d z => exact q x H' φ st1 c1 (Rep.stay st2 rv)
  | x c fs =>
    obtain ⟨a, cls, dd, rfl, e1, e2, xr⟩ := rv
    exact q _ H' φ st1 c1 ⟨a, cls, dd, rfl, e1, fun l => e2 (c2 a l), xr.stay st2⟩
  | f D => exact q.elim
  | r i =>
    obtain ⟨a, ea, rfl⟩ := rv
    unfold trunc at q
    dsimp only at q
    split at q
    · rename_i hi
      have hi' : i < φ.length := by rw [sm.len]; exact hi
      obtain ⟨t, rfl⟩ := st.pre
      rw [List.getElem?_append_left hi'] at ea
      exact q _ H' φ st1 c1 ⟨a, ea, rfl⟩
    · rename_i hi
      split at q
      · exact q.elim
      · rename_i o nrl eo
        -- the object i becomes the object n
        have hl : h.length ≤ h'.length := by rw [← sm'.len, ← sm.len]; exact st.pre.length_le
        have lk : (h'.take h.length).length = h.length := by rw [List.length_take]; omega
        have nl : ¬ Live φ (h'.take h.length) a := fun ⟨j, u, e1, e2⟩ => by
          rw [List.getElem?_take] at e2
          split at e2
          · have := sm'.inj i j a o u ea (pre_get st.pre e1) eo e2
            omega
          · cases e2
        have lv : ∀ b, Live (φ ++ [a]) (h'.take h.length ++ [some o]) b ↔ Live φ (h'.take h.length) b ∨ b = a := fun b => live_new (by rw [lk, sm.len])
        have less : ∀ b, Live (φ ++ [a]) (h'.take h.length ++ [some o]) b → Live φ' h' b := fun b l => by
          rcases (lv b).mp l with l | rfl
          · exact c2 b l
          · exact ⟨i, o, ea, eo⟩
        have st3 : Stay H' (Live φ' h') H' (Live (φ ++ [a]) (h'.take h.length ++ [some o])) := fun b u q _ nb => ⟨q, fun l => nb (less b l)⟩
        have ora := sm'.at_ eo ea
        refine q _ H' (φ ++ [a]) ⟨List.prefix_append _ _, st.st.trans st3⟩ ⟨by simp [lk, sm.len], fun i1 j1 b u u' e1 e2 e3 e4 => ?_, fun i1 u e => ?_, fun i1 ns e => ?_⟩ ⟨a, by rw [← sm.len]; simp, rfl⟩
        · have hgt : ∀ (k : Nat) (u : Ob), (φ ++ [a])[k]? = some b → (h'.take h.length ++ [some o])[k]? = some (some u) → (k < φ.length ∧ φ[k]? = some b ∧ (h'.take h.length)[k]? = some (some u)) ∨ (k = φ.length ∧ b = a) := fun k u e1 e2 => by
            by_cases hk : k < φ.length
            · rw [List.getElem?_append_left hk] at e1
              rw [List.getElem?_append_left (by rw [lk, ← sm.len]; exact hk)] at e2
              exact .inl ⟨hk, e1, e2⟩
            · have : k = φ.length := by
                have := (List.getElem?_eq_some_iff.mp e1).1
                simp at this
                omega
              subst this
              simp at e1
              exact .inr ⟨rfl, e1.symm⟩
          rcases hgt i1 u e1 e3 with ⟨a1, a2, a3⟩ | ⟨a1, a2⟩ <;> rcases hgt j1 u' e2 e4 with ⟨b1, b2, b3⟩ | ⟨b1, b2⟩
          · exact c1.inj i1 j1 b u u' a2 b2 a3 b3
          · subst b2; exact absurd ⟨i1, u, a2, a3⟩ nl
          · subst a2; exact absurd ⟨j1, u', b2, b3⟩ nl
          · omega
        · by_cases hk : i1 < h.length
          · rw [List.getElem?_append_left (by rw [lk]; exact hk)] at e
            obtain ⟨b, e2, r2⟩ := sm'.ob i1 u (by rw [List.getElem?_take, if_pos hk] at e; exact e)
            obtain ⟨t, et⟩ := st.pre
            rw [← et, List.getElem?_append_left (by rw [sm.len]; exact hk)] at e2
            exact ⟨b, by rw [List.getElem?_append_left (by rw [sm.len]; exact hk)]; exact e2, r2.stay st3 (fun _ z => z) fun _ _ z => sm'.notCode z⟩
          · have e0 : i1 = h.length := by
              have := (List.getElem?_eq_some_iff.mp e).1
              simp [lk] at this
              omega
            subst e0
            rw [List.getElem?_append_right (by rw [lk]; omega), lk] at e
            simp at e
            subst e
            exact ⟨a, by rw [← sm.len]; simp, ora.stay st3 (fun _ z => z) fun _ _ z => sm'.notCode z⟩
        · by_cases hk : i1 < h.length
          · rw [List.getElem?_append_left (by rw [lk]; exact hk)] at e
            obtain ⟨b, as, f1, f2, f3, f4⟩ := c1.rf i1 ns e
            refine ⟨b, as, by rw [List.getElem?_append_left (by rw [sm.len]; exact hk)]; exact f1, f2, f3, fun k m z => ?_⟩
            obtain ⟨z1, z2⟩ := f4 k m z
            exact ⟨z1, by rw [List.getElem?_append_left (by rw [sm.len]; omega)]; exact z2⟩
          · have hz : i1 = h.length := by
              have := (List.getElem?_eq_some_iff.mp e).1
              rw [List.length_append, lk] at this
              simp at this
              omega
            subst hz
            rw [List.getElem?_append_right (by omega), lk] at e
            simp at e
            subst e
            exact absurd rfl (nrl ns)
      · exact q.elim
end
end Rk

/-! Rk7: defs of the text, constants of the top, the head. -/
namespace Rk
open PySem PySem.Spec L2
variable {mg : Str → Option Value}
abbrev FnP (K : PySem.W.Frag) (x : Str) (st : Stmt) (f : Addr) (fd : FuncData) : Prop := FunD K x x (defArgs st) (defBody st) (defScope st) [] [] f fd
/-! ### room: no guard stands -/
structure RoomG (k : Nat) (A : Around) : Prop where
  r : Room k A
  g : A.guards = some []
theorem RoomG.mono {j k : Nat} {A : Around} (h : RoomG k A) (hl : j ≤ k) : RoomG j A := ⟨h.r.mono hl, h.g⟩
theorem RoomG.units {k : Nat} {A : Around} (h : RoomG k A) : A.units + 64 < cLine := h.r.units
theorem RoomG.deeper {k : Nat} {A : Around} (h : RoomG (k + 1) A) (env : Env) : RoomG k (A.deeper env) := ⟨h.r.deeper env, h.g⟩
/-- what a function object keeps, where no guard stands -/
structure FnG (P : Program) (w : World) (K : PySem.W.Frag) (mg : Str → Option Value) (base : Heap) (k : Nat) (f : Addr) (fd : FuncData) (ps : List Str) (sp : Sp) : Prop where
  len : ∀ vs H Q E, sp vs H Q E → vs.length = ps.length
  run : ∀ (A : Around) (outer : List Env) (s : Shared) (H : Hp) (args : Args) (us : List Value) (vs : List V) (Q : VK) (E : XK),
    RoomG k A → Env0 P w K mg base A outer s H → BindsTo s fd args (ps.zip us) → Vals vs us → sp vs H Q E → codeAny (model P w) A (.call (.ref f) args) (CR (L2.CX P w) outer P w H s Q E) s
/-- a def by its name: what it means -/
def Df (P : Program) (w : World) (K : PySem.W.Frag) (mg : Str → Option Value) (base : Heap) (k : Nat) (x : Str) (ps : List Str) (m : Fn) : Prop :=
  ∃ f fd, mg x = some (.ref f) ∧ PySem.W.keepIn K (.ref f) = true ∧ Binds K fd ps [] ∧ FnG P w K mg base k f fd ps (spF K mg m)
abbrev WOf (E : XK) : WX := fun cls d _ H => E cls d H
/-- a function object's code -/
def CodeAt (K : PySem.W.Frag) (f : Addr) (cdv : Value) : Prop := ∃ (oc : Value) (od : Option Addr) (fd : FuncData) (osl : Array (Option Value)), K.lookup f = some ⟨oc, od, .func fd, osl⟩ ∧ fd.code = cdv
section
variable {P : Program} {w : World} {K : PySem.W.Frag} {mg : Str → Option Value} {base : Heap} {x : Str} {st : Stmt} {f : Addr} {fd : FuncData} {N ps : List Str} {k : Nat}
/-- a def of the text runs -/
theorem run_def (F : FnP K x st f fd) (S : FnScope N ps (defScope st)) {A : Around} {outer : List Env} {s : Shared} {H : Hp} {args : Args} {us : List Value} {vs : List V} {Q : VK} {E : XK} (len : vs.length = ps.length) (hr : RoomG (k + 1) A)
    (e0 : Env0 P w K mg base A outer s H) (hbd : BindsTo s fd args (ps.zip us)) (r : Vals vs us)
    (hb : ∀ cdv : Value, CodeAt K f cdv → RoomG k (A.deeper (PyProof.Rows.envOfC x (defScope st) s.heap.objs.size f cdv)) →
      ∃ t, PSs (cxOf (L2.CX P w) P w K mg base N x (defScope st) f cdv A outer s H E) (defBody st) t ∧ t { nx := fun _ H' => Q .non H', rt := Q } (start N vs) H) :
    codeAny (model P w) A (.call (.ref f) args) (CR (L2.CX P w) outer P w H s Q E) s := by
  obtain ⟨oc, od, dV, kV, doc, pm, an, cdv, ct, osl, rfl, lk, hcd, -, -⟩ := F.ex
  have old : ∀ b o, base.get? b = some o → s.heap.get? b = some o := fun b o e => (e0.bs b o e).1
  have KX : K.In s.heap := e0.mod.kin.keeps old
  have kinds : ∀ y ∈ ps.zip us, (defScope st).names.lookup y.1 = some .local ∨ ((defScope st).names.lookup y.1 = some .cell ∧ ((cellsFrom (s.heap.objs.size + 1) (defScope st).names []).lookup y.1).isSome = true) := by
    rintro ⟨n, v⟩ hy
    exact (S.par n (List.of_mem_zip hy).1).imp id fun q => ⟨q, PySem.W.cellsFrom_some _ _ _ (.inl q)⟩
  refine codeAny_call_function hr.r.depth (KX _ _ lk) rfl S.co S.gen rfl (PySem.W.codeRec_of KX hcd) (hbd _ _ _ _ (wpAny_newFunctionEnv_cells S.kind kinds ?_))
  rintro env rfl s1 x1
  refine ⟨(e0.mod.nolimit.keeps old).keeps x1.toInCall.keep, codeAny_func ?_⟩
  obtain ⟨t, ht, hq⟩ := hb cdv ⟨_, _, _, _, lk, rfl⟩ (hr.deeper _)
  have I := inv_start (CX := L2.CX P w) (E := E) S hr.r.hd e0 len r x1
  refine wpAny_mono (ht.run [] s1 (start N vs) H _ I hq) ?_ fun _ _ z => z
  intro fl s' hs
  cases fl with
  | ret u =>
    obtain ⟨v, σ', H', J, rv, q⟩ := hs
    exact ⟨v, H', J.os, J.bare, J.base, J.hok, rv, q⟩
  | next =>
    obtain ⟨σ', H', J, q⟩ := hs
    exact ⟨.non, H', J.os, J.bare, J.base, J.hok, rfl, q⟩
  | brk => exact hs.elim fun _ z => z.elim fun _ z => z.2.elim
  | cont => exact hs.elim fun _ z => z.elim fun _ z => z.2.elim
theorem spF_len {vs : List V} {H : Hp} {Q : VK} {E : XK} {n N : Nat} {body : Sv} (h : spF K mg (mkF n N body) vs H Q E) : vs.length = n := by
  obtain ⟨φ, h, as, sm, rv, q⟩ := h
  unfold mkF at q
  split at q
  · rename_i hl
    rw [rv.length]
    exact hl
  · exact q.elim
/-- a def's body, entered -/
theorem enter_body {cdv : Value} {A : Around} {outer : List Env} {s : Shared} {H : Hp} {vs : List V} {Q : VK} {E : XK} {n : Nat} {body : Sv} (hE : ESs (cxOf (L2.CX P w) P w K mg base N x (defScope st) f cdv A outer s H E) (WOf E) (defBody st) body) (h : spF K mg (mkF n N.length body) vs H Q E) :
    ∃ t, PSs (cxOf (L2.CX P w) P w K mg base N x (defScope st) f cdv A outer s H E) (defBody st) t ∧ t { nx := fun _ H' => Q .non H', rt := Q } (start N vs) H := by
  obtain ⟨φ, h, as, sm, rv, q⟩ := h
  refine ⟨_, hE, φ, h, enter N.length as, sm, enter_ok N rv, ?_⟩
  unfold mkF at q
  split at q
  · revert q
    show PoX K mg φ h H (retF h.length (body (enter N.length as) h)) Q E → _
    cases body (enter N.length as) h with
    | rt v h' => exact fun q x H' φ' st sm' rv => trunc_ok sm st sm' rv q
    | nx ρ' h' => exact fun q σ' H' φ' st sm' er => trunc_ok (v := .d .none) sm st sm' Rep.non q
    | ex c fs ρ' h' =>
      intro q cls dd σ' H' φ' st sm' er xr
      obtain ⟨c1, c2⟩ := sm'.cut st.pre sm.len
      have st2 : Stay H' (Live φ' h') H' (Live φ (h'.take h.length)) := fun a u q _ nl => ⟨q, fun l => nl (c2 a l)⟩
      exact q cls dd H' φ ⟨List.prefix_refl _, st.st.trans st2⟩ c1 ⟨xr.cl, xr.no, fun z => by
        obtain ⟨a, vs, e1, e2, e3, e4⟩ := xr.yes z
        exact ⟨a, vs, e1, e2, fun l => e3 (c2 a l), e4.stay st2⟩⟩
    | bk ρ' h' => exact fun q => q.elim
    | ct ρ' h' => exact fun q => q.elim
    | no => exact fun q => q.elim
  · exact q.elim
theorem fnOk_of {body : Sv} (F : FnP K x st f fd) (S : FnScope N ps (defScope st))
    (hb : ∀ (cdv : Value) (A : Around) (outer : List Env) (s : Shared) (H : Hp) (E : XK), CodeAt K f cdv → RoomG k (A.deeper (PyProof.Rows.envOfC x (defScope st) s.heap.objs.size f cdv)) → ESs (cxOf (L2.CX P w) P w K mg base N x (defScope st) f cdv A outer s H E) (WOf E) (defBody st) body) :
    FnG P w K mg base (k + 1) f fd ps (spF K mg (mkF ps.length N.length body)) :=
  ⟨fun _ _ _ _ h => spF_len h, fun A outer s H args us vs Q E hr e0 hbd r h => run_def F S (spF_len h) hr e0 hbd r fun cdv hc hr' => enter_body (hb cdv A outer s H E hc hr') h⟩
end
theorem cx_no {P : Program} {w : World} {outer : List Env} (H : Hp) (s : Shared) (e : Value) (s' : Shared) (h : L2.CX P w outer H s (fun _ _ _ => False) e s') : False := by
  obtain ⟨_, _, _, _, _, _, _, _, _, _, _, _, z⟩ := h
  exact z
theorem df_of {P : Program} {w : World} {K : PySem.W.Frag} {mg : Str → Option Value} {base : Heap} {x : Str} {st : Stmt} {f : Addr} {fd : FuncData} {N ps : List Str} {k kk NN : Nat} {body : Sv} (F : FnP K x st f fd) (g : mg x = some (.ref f)) (S : FnScope N ps (defScope st)) (e1 : ps.length = kk) (e2 : N.length = NN)
    (b : ∀ (dV kV doc pm : Value) (an : Option Addr) (cdv ct : Value) (us : List Value), us.length = ps.length → bindArgs (PySem.W.fnOf x x (defArgs st) (defBody st) (defScope st) .none kV doc pm an cdv ct) ⟨us, []⟩ = pure (ps.zip us))
    (hb : ∀ (cdv : Value) (A : Around) (outer : List Env) (s : Shared) (H : Hp) (E : XK), RoomG k (A.deeper (PyProof.Rows.envOfC x (defScope st) s.heap.objs.size f cdv)) → ESs (cxOf (L2.CX P w) P w K mg base N x (defScope st) f cdv A outer s H E) (WOf E) (defBody st) body) :
    Df P w K mg base (k + 1) x ps (mkF kk NN body) := by
  subst e1 e2
  exact ⟨f, fd, g, F.kp, FunD.bindsN F fun kV doc pm an cdv ct us hl => b .none kV doc pm an cdv ct us hl, fnOk_of F S fun cdv A outer s H E _ => hb cdv A outer s H E⟩
theorem law_of {P : Program} {w : World} {K : PySem.W.Frag} {mg : Str → Option Value} {base : Heap} {x : Str} {st : Stmt} {f : Addr} {fd : FuncData} {N ps : List Str} {k kk NN : Nat} {body : Sv} (F : FnP K x st f fd) (S : FnScope N ps (defScope st)) (e1 : ps.length = kk) (e2 : N.length = NN)
    (hb : ∀ (cdv : Value) (A : Around) (outer : List Env) (s : Shared) (H : Hp) (E : XK), RoomG k (A.deeper (PyProof.Rows.envOfC x (defScope st) s.heap.objs.size f cdv)) → ESs (cxOf (L2.CX P w) P w K mg base N x (defScope st) f cdv A outer s H E) (WOf E) (defBody st) body) :
    FnG P w K mg base (k + 1) f fd ps (spF K mg (mkF kk NN body)) := by
  subst e1 e2
  exact fnOk_of F S fun cdv A outer s H E _ => hb cdv A outer s H E
/-- the maker of lambdas: where its code object and that one's table stand -/
structure LamT (K : PySem.W.Frag) (mg : Str → Option Value) (base : Heap) (x : Str) (c P : Addr) : Prop where
  at_ : PySem.W.tabIn K x = some (c, P)
  tb : LamX.TabB base mg c P
  cd : ∀ f cdv, mg x = some (.ref f) → CodeAt K f cdv → cdv = .ref c
/-! ### in a def's body -/
section
variable {P : Program} {w : World} {K : PySem.W.Frag} {mg : Str → Option Value} {base : Heap} {N : List Str} {x : Str} {sc : Scope} {f : Addr} {cdv : Value} {A : Around} {outer : List Env} {s : Shared} {H : Hp} {E : XK}
theorem tk_of : Takes (cxOf (L2.CX P w) P w K mg base N x sc f cdv A outer s H E) (WOf E) := takes_of rfl rfl rfl rfl
theorem po_of : PassesOwn (model (cxOf (L2.CX P w) P w K mg base N x sc f cdv A outer s H E).prog (cxOf (L2.CX P w) P w K mg base N x sc f cdv A outer s H E).w) (cxOf (L2.CX P w) P w K mg base N x sc f cdv A outer s H E).A (cxOf (L2.CX P w) P w K mg base N x sc f cdv A outer s H E).env (cxOf (L2.CX P w) P w K mg base N x sc f cdv A outer s H E).xe := passes_of rfl
end
theorem run_G {X : Cx} {k : Nat} {f : Addr} {fd : FuncData} {ps : List Str} {sp : Sp} {E : L2.St → XK} {pins : List (Addr × Obj)} {σ : L2.St} {H : Hp} {s : Shared} {Q : VK} {us : List Value} {vs : List V} (F : FnG X.prog X.w X.K X.mg X.base k f fd ps sp) (hr : RoomG k X.A) (hb : Binds X.K fd ps [])
    (hx : PassesAt (L2.CX X.prog X.w) X σ (E σ)) (I : Inv X pins σ H s) (r : Vals vs us) (h : sp vs H Q (E σ)) : wpAny (model X.prog X.w) X.A (call (.ref f) us) (EP X pins σ Q) X.xe s := by
  have b := hb s us I.kIn (by rw [List.append_nil, ← r.length]; exact F.len _ _ _ _ h)
  rw [List.append_nil] at b
  refine wpAny_call (codeAny_mono (F.run X.A X.stack s H ⟨us, []⟩ us vs Q (E σ) hr I.env0 b r h) ?_)
  intro r s' hq
  match r, hq with
  | .error e, hq => exact hx pins H s e s' I hq
  | .ok (.ret u), hq => exact I.after hq
/-- a call of a def by its name -/
theorem ec {X : Cx} {W : WX} {k j : Nat} {y : Str} {ps : List Str} {m : Fn} {e : Expr} {es : List Expr} {fs : Av} {p pos : Pos} (D : Df X.prog X.w X.K X.mg X.base k y ps m) (hr : RoomG j X.A) (tk : Takes X W) (ha : EA X W (e :: es) fs) (hkj : k ≤ j := by decide) (hg : Gl X y := by rfl)
    (hdb : (y == ("__debug__" : Str)) = false := by decide) (he : starEach (e :: es) X.env = (false, eval e X.env) :: starEach es X.env := by rfl) (hpl : (backTo pos (starEach es X.env)).any (·.1) = false := by rfl) :
    EE X W (.Call (.Name y p) (e :: es) [] pos) (eCall m fs) := by
  obtain ⟨f, fd, g, kp, b, F⟩ := D
  have rd : PE X (.Call (.Name y p) (e :: es) [] pos) (tCallS (spF X.K X.mg m) (fun σ => WE W σ) (tA X.K X.mg W fs)) := by
    constructor
    intro pins s σ H Q I h
    refine wpAny_Call_Name_kw (ld_glob I hg g (PySem.W.callWith_K (h₀ := X.base) I.ok.mod.kin kp (thn (ha.run pos pins s σ H _ I h) ?_) he hpl) hdb)
    rintro us s1 ⟨vs, H1, I1, r, q⟩
    exact ⟨I1.kIn, run_G (E := fun σ => WE W σ) F (hr.mono hkj) b (passAt tk σ) I1 r q⟩
  exact PE.of rd fun σ H Q ⟨φ, h, ρ, sm, er, q⟩ => ⟨φ, h, ρ, sm, er, PoX.goA q fun xs vs h1 H1 φ1 st sm1 rvs q1 => ⟨φ1, h1, vs, sm1, rvs, q1⟩⟩
/-! ### constants of the top -/
def GConst (K : PySem.W.Frag) (mg : Str → Option Value) (x : Str) (d : Da) : Prop := ∃ v u, mg x = some u ∧ RelV v u ∧ KRep K v d
theorem eg {X : Cx} {W : WX} {y : Str} {d : Da} {pos : Pos} (c : GConst X.K X.mg y d) (hg : Gl X y := by rfl) (hd : (y == ("__debug__" : Str)) = false := by decide) : EE X W (.Name y pos) (eD d) := by
  obtain ⟨v, u, h1, h2, h3⟩ := c
  exact ee_glob hg h1 h2 h3 hd
mutual
theorem cB_ok {K : PySem.W.Frag} : ∀ {d : Da} {u : Value}, cB K d u = true → ∃ v, RelV v u ∧ KRep K v d
  | .none, .none, _ => ⟨.non, rfl, fun _ _ => .non⟩
  | .bool b, .bool c, h => by
    have e : b = c := by
      unfold cB at h
      exact eq_of_beq h
    subst e
    exact ⟨.bl b, rfl, fun _ _ => .bl b⟩
  | .int i, .int j t, h => by
    have e : i = j := by
      unfold cB at h
      exact of_decide_eq_true h
    subst e
    exact ⟨.int i, ⟨t, rfl⟩, fun _ _ => .int i⟩
  | .str i, .str j t, h => by
    have e : i = j := by
      unfold cB at h
      exact of_decide_eq_true h
    subst e
    exact ⟨.str i, ⟨t, rfl⟩, fun _ _ => .str i⟩
  | .tuple ds, .ref a, h => by
    unfold cB at h
    split at h
    · rename_i c dd its n sl q
      rw [Bool.and_eq_true, Bool.and_eq_true] at h
      obtain ⟨h1, h2, h3⟩ := h
      obtain ⟨vs, r1, r2⟩ := cBs_ok h3
      exact ⟨.ref a, rfl, fun H M => .tupK ⟨_, its, n, q, congrArg Value.type (of_decide_eq_true h1), rfl, of_decide_eq_true h2, r1⟩ (r2 H M)⟩
    · cases h
theorem cBs_ok {K : PySem.W.Frag} : ∀ {ds : List Da} {us : List Value}, cBs K ds us = true → ∃ vs, Vals vs us ∧ ∀ H M, Reps K H M vs ds
  | [], [], _ => ⟨[], .nil, fun _ _ => .nil⟩
  | d :: ds, u :: us, h => by
    unfold cBs at h
    rw [Bool.and_eq_true] at h
    obtain ⟨v, r1, r2⟩ := cB_ok h.1
    obtain ⟨vs, s1, s2⟩ := cBs_ok h.2
    exact ⟨v :: vs, .cons r1 s1, fun H M => .cons (r2 H M) (s2 H M)⟩
end
theorem gB_ok {K : PySem.W.Frag} {h : Heap} {mg : Str → Option Value} (X : K.In h) (G : h.Ns mainGlobals mg) {x : Str} {d : Da} (c : gB K x d = true) : GConst K mg x d := by
  unfold gB at c
  split at c
  · rename_i u e
    obtain ⟨v, r1, r2⟩ := cB_ok c
    exact ⟨v, u, PySem.W.mg_of X G e, r1, r2⟩
  · cases c
/-! ### the Hook -/
/-- the script's data -/
theorem script_rep {K : PySem.W.Frag} {H : Hp} {a : Addr} {ns : List Int} (h : SqL K H a (ns.map V.int)) : Sim K [] [] H ∧ VReps K mg [] [] H [.ref a] [.d (.list (ns.map PyData.int))] := by
  have nl : ∀ b, ¬ Live [] [] b := fun b ⟨i, o, e, _⟩ => by simp at e
  have rs : ∀ ns : List Int, Reps K H (Live [] []) (ns.map V.int) (ns.map PyData.int) := fun ns => by
    induction ns with
    | nil => exact .nil
    | cons n ns ih => exact .cons (.int n) ih
  refine ⟨⟨rfl, fun i j a o o' e => by simp at e, fun i o e => by simp at e, fun i ns e => by simp at e⟩, .cons ?_ .nil⟩
  rcases h with h | h
  · exact Rep.lst h (nl a) (rs ns)
  · exact Rep.lstK h (rs ns)
/-- the law's end -/
theorem law_sp {K : PySem.W.Frag} {mg : Str → Option Value} {m : Fn} {H : Hp} {a : Addr} {ns : List Int} (h : SqL K H a (ns.map V.int)) {h' : Hh} (e : m [.d (.list (ns.map PyData.int))] [] = .ok (.d (.bool true)) h') :
    spF K mg m [.ref a] H (fun v _ => v = .bl true) fun _ _ _ => False := by
  obtain ⟨s1, s2⟩ := script_rep h
  refine ⟨[], [], _, s1, s2, ?_⟩
  rw [e]
  exact fun x H' φ' _ _ r => VRep.bl r
end Rk
namespace Rk
open PySem PySem.Spec L2 PyProof.Rows
/-- the script's abstract heap: nothing but the script, as it stands -/
def scrH (a : Addr) (vs : List Value) (ns : List Int) : Hp := fun b => if b = a then some (.frz { cls := .type "list", data := .seq vs.toArray } (.lst (ns.map V.int))) else none
/-- the law's call from a ground -/
theorem call_from {P : Program} {w : World} {K : PySem.W.Frag} {mg mb : Str → Option Value} {k : Nat} {fa a : Addr} {fd : FuncData} {x : Str} {sp : Sp} {s : Shared} {vs : List Value} {H : Hp}
    (KX : K.In s.heap) (g1 : s.heap.Ns mainGlobals mg) (g2 : s.heap.Ns builtinsNs mb) (g3 : ∀ x : Str, x ≠ "__name__" → mb x = bootBuiltins x) (g4 : s.heap.NoLimit) (g5 : s.gens = #[])
    (ha : s.heap.get? a = some { cls := .type "list", data := .seq vs.toArray }) (hr : RoomG k callerA)
    (F : ∀ base : Heap, K.In base → base.Ns mainGlobals mg → FnG P w K mg base k fa fd [x] sp) (hbind : ∀ (s : Shared) (u : Value), BindsTo s fd ⟨[u], []⟩ [(x, u)])
    (hO : Only H) (hsp : sp [.ref a] H (fun v _ => v = .bl true) fun _ _ _ => False) (hok : HOk P w H s.heap) (hA : ∀ b, H b ≠ none → b = a) (hK : H a ≠ none → K.lookup a = none) :
    codeAny (model P w) callerA (.call (.ref fa) ⟨[.ref a], []⟩) (fun r s' => r = .ok (.ret (.bool true)) ∧ OldK s.heap s'.heap ∧ s'.os = s.os ∧ AllBare s'.gens) s := by
  have hid : ∀ {b : Addr} {o : Obj}, s.heap.get? b = some o → (H b ≠ none → False) → (hidT s.heap H).get? b = some o := fun {b o} e n => hidT_get e (by
    cases q : H b with
    | none => rfl
    | some u => exact (n (by rw [q]; exact nofun)).elim)
  have dic : ∀ {b : Addr} {o : Obj} {es : Array DictEntry} {ep : Nat}, s.heap.get? b = some o → o.data = .dict es ep → H b ≠ none → False := fun {b o es ep} e d n => by
    have := hA b n
    subst this
    rw [ha] at e
    cases e
    cases d
  have ns2 : ∀ {b : Addr} {m : Str → Option Value}, s.heap.Ns b m → (hidT s.heap H).Ns b m := fun ⟨o, es, ep, e, d, r⟩ => ⟨o, es, ep, hid e (dic e d), d, r⟩
  have kin : K.In (hidT s.heap H) := fun b o e => hid (KX b o e) fun n => by
    have := hA b n
    subst this
    rw [hK n] at e
    cases e
  obtain ⟨mc, l1, l2⟩ := g4
  have M : Mod K mg (hidT s.heap H) := ⟨kin, ns2 g1, ⟨mb, ns2 g2, g3⟩, mc, ns2 l1, l2⟩
  have e0 : Env0 P w K mg (hidT s.heap H) callerA [] s H := ⟨rfl, M, fun _ _ e => of_hidT e, Nat.le_of_eq (hidT_size _ _), trivial, nofun, hok, .of_eq g5⟩
  refine codeAny_mono ((F _ kin (ns2 g1)).run callerA [] s H ⟨[.ref a], []⟩ [.ref a] [.ref a] _ _ hr e0 (hbind s (.ref a)) (.cons rfl .nil) hsp) ?_
  intro r s' h
  match r, h with
  | .error e, h => exact (cx_no H s e s' h).elim
  | .ok (.ret u), h =>
    obtain ⟨v, H', os, bare, un, hok', r', q⟩ := h
    cases (show v = .bl true from q)
    cases (show u = Value.bool true from r')
    refine ⟨rfl, OldK.of_keep fun b o e => ?_, os, bare⟩
    rcases hO b with z | ⟨ob, xs, z⟩
    · exact un.keep b o e z nofun nofun
    · have e1 := (hok b _ z).1
      rw [e] at e1
      cases e1
      exact (hok' b _ (un.frzs b o _ z)).1
theorem walkG {l : PySem.W.OpenLaw} {n k : Nat} {q : Program} {loose : List Str} {XP : (Str → Option Value) → Heap → Prop} {YP : World → Heap → Prop} {d : DefRec} {x : Str} (hn : l.most = some n) (hn2 : n ≤ sizeLine) (hdf : d.params.defaults = []) (hr : RoomG k callerA)
    (F : ∀ (w : World) (mg : Str → Option Value) (fa : Addr) (h : Heap), YP w h → h.Ns mainGlobals mg → mg d.name = some (.ref fa) → ∃ (K : PySem.W.Frag) (fd : FuncData) (sp : Sp), K.In h ∧ (∀ (s : Shared) (u : Value), BindsTo s fd ⟨[u], []⟩ [(x, u)]) ∧
        (∀ (H : Hp) (a : Addr) (ns : List Int), ns.length ≤ n → Only H → SqL K H a (ns.map V.int) → sp [.ref a] H (fun v _ => v = .bl true) fun _ _ _ => False) ∧ ∀ base : Heap, K.In base → base.Ns mainGlobals mg → FnG l.prog w K mg base k fa fd [x] sp) :
    PySem.W.WalkO q loose XP YP l.row.toRowW d [] (fun f vs => PySem.call f vs) := by
  refine Att.attach_call hn hdf ?_
  intro w s₀ s mg mb fa o pm cd doc a vs ns G Y ho hd hcd hmg hobj hints hlen hg
  obtain ⟨K, fd, sp, KX, hb, hsp, hF⟩ := F w mg fa _ Y G.T.g hmg
  have rv := vals_ints hints
  have sz : ns.length ≤ sizeLine := Nat.le_trans hlen hn2
  have go := fun H => call_from (H := H) KX G.T.g G.T.b G.T.builtins G.T.nolimit hg hobj hr hF hb
  cases hk : K.lookup a with
  | some o' =>
    have e := KX a o' hk
    rw [hobj] at e
    cases e
    have sq : SqL K (fun _ => none) a (ns.map V.int) := .inr ⟨_, vs.toArray, _, hk, rfl, rfl, rfl, by rw [List.size_toArray, hints.length]; exact sz, by simpa using rv⟩
    exact go _ (fun _ => .inl rfl) (hsp _ a ns hlen (fun _ => .inl rfl) sq) (fun b u z => by cases (show (none : Option HO) = some u from z)) (fun b z => absurd rfl z) fun z => absurd rfl z
  | none =>
    have at_ : scrH a vs ns a = some (.frz { cls := .type "list", data := .seq vs.toArray } (.lst (ns.map V.int))) := if_pos rfl
    have only : Only (scrH a vs ns) := fun b => by
      by_cases e : b = a
      · exact .inr ⟨_, _, if_pos e⟩
      · exact .inl (if_neg e)
    have sq : SqL K (scrH a vs ns) a (ns.map V.int) := .inl (.inr ⟨_, at_⟩)
    have only_a : ∀ b, scrH a vs ns b ≠ none → b = a := fun b z => by
      by_cases e : b = a
      · exact e
      · exact absurd (if_neg e) z
    refine go _ only (hsp _ a ns hlen only sq) (fun b u z => ?_) only_a fun _ => hk
    have e := only_a b (by rw [z]; exact nofun)
    subst e
    rw [at_] at z
    cases z
    exact ⟨hobj, by rw [List.length_map]; exact sz, vs, _, rv, hobj⟩
end Rk

/-! Rk8: reckoning with meanings. -/
namespace Rk
open PySem PySem.Spec L2
/-! ### places of written tuples -/
section
variable {a0 a1 a2 a3 a4 a5 a6 : Da} {r : List Da} {h : Hh}
theorem atI_get0 {α : Type} {xs : List α} {k : Nat} {v : α} (e : xs[k]? = some v) : atI xs (k : Int) = some v := L2.atI_nat e
theorem gIx_nat {xs : List Da} {k : Nat} {v : Da} (e : xs[k]? = some v) : gIx (.d (.tuple xs)) (.d (.int (k : Int))) h = some (.d v, h) := by
  unfold gIx
  dsimp only
  rw [atI_get0 e]
  rfl
theorem ix0 : gIx (.d (.tuple (a0 :: r))) (.d (.int 0)) h = some (.d a0, h) := gIx_nat (k := 0) rfl
theorem ix1 : gIx (.d (.tuple (a0 :: a1 :: r))) (.d (.int 1)) h = some (.d a1, h) := gIx_nat (k := 1) rfl
theorem ix2 : gIx (.d (.tuple (a0 :: a1 :: a2 :: r))) (.d (.int 2)) h = some (.d a2, h) := gIx_nat (k := 2) rfl
theorem ix3 : gIx (.d (.tuple (a0 :: a1 :: a2 :: a3 :: r))) (.d (.int 3)) h = some (.d a3, h) := gIx_nat (k := 3) rfl
theorem ix4 : gIx (.d (.tuple (a0 :: a1 :: a2 :: a3 :: a4 :: r))) (.d (.int 4)) h = some (.d a4, h) := gIx_nat (k := 4) rfl
theorem ix5 : gIx (.d (.tuple (a0 :: a1 :: a2 :: a3 :: a4 :: a5 :: r))) (.d (.int 5)) h = some (.d a5, h) := gIx_nat (k := 5) rfl
theorem gIxF {xs : List Da} {k : Nat} {v : Da} (ev : xs[k]? = some v) : gIx (.d (.list xs)) (.d (.int (k : Int))) h = some (.d v, h) := by
  unfold gIx asL
  dsimp only
  rw [atI_get0 ev]
  rfl
end
/-! ### one step each -/
section
variable {ρ : En} {h h1 : Hh} {v w : Vl} {f g : Ev} {i : Nat} {a b : Int}
theorem eD_eq {d : Da} : eD d ρ h = .ok (.d d) h := rfl
theorem fAdd_eq : fAdd a b = some (.int (a + b)) := rfl
theorem fSub_eq : fSub a b = some (.int (a - b)) := rfl
theorem fMul_eq (h : IntMulOk a b) : fMul a b = some (.int (a * b)) := if_pos h
theorem fDiv_eq (h0 : b ≠ 0) (h1 : Builtin.divisionGoesByPylong a b = false) : fDiv a b = some (.int (a.fdiv b)) := if_pos ⟨h0, h1⟩
theorem fMod_eq (h0 : b ≠ 0) : fMod a b = some (.int (a.fmod b)) := if_pos h0
theorem fLt_eq : fLt a b = some (.bool (decide (a < b))) := rfl
theorem fLe_eq : fLe a b = some (.bool (decide (a ≤ b))) := rfl
theorem fGt_eq : fGt a b = some (.bool (decide (b < a))) := rfl
theorem fGe_eq : fGe a b = some (.bool (decide (b ≤ a))) := rfl
theorem gInt_eq {F : Int → Int → Option Da} : gInt F (.d (.int a)) (.d (.int b)) h = (F a b).map fun z => (.d z, h) := rfl
theorem gAdd_int : gAdd (.d (.int a)) (.d (.int b)) h = some (.d (.int (a + b)), h) := rfl
theorem gAbs_eq : gAbs [.d (.int a)] h = some (.d (.int (if a < 0 then -a else a)), h) := rfl
theorem truO_b {b : Bool} : truO (.d (.bool b)) h = .ok b h := rfl
theorem fzs_nil : fzs [] h = some ([], h) := rfl
theorem fzs_d {x : Da} {vs : List Vl} : fzs (.d x :: vs) h = (fzs vs h).map fun q => (x :: q.1, q.2) := rfl
theorem So.then_nx {f : Sv} : (So.nx ρ h).then f = f ρ h := rfl
theorem So.then_rt {f : Sv} : (So.rt v h).then f = .rt v h := rfl
end
/-! ### sizes -/
/-- below 2 ^ n in size -/
def Bd (n : Nat) (x : Int) : Prop := x.natAbs < 2 ^ n
theorem Bd.mono {n m : Nat} {x : Int} (h : Bd n x) (hl : n ≤ m) : Bd m x := Nat.lt_of_lt_of_le h (Nat.pow_le_pow_right (by decide) hl)
theorem Bd.mul {n m : Nat} {x y : Int} (hx : Bd n x) (hy : Bd m y) : Bd (n + m) (x * y) := by
  unfold Bd at *
  rw [Int.natAbs_mul, Nat.pow_add]
  exact Nat.mul_lt_mul'' hx hy
theorem Bd.add {n m : Nat} {x y : Int} (hx : Bd n x) (hy : Bd m y) : Bd (max n m + 1) (x + y) := by
  have h1 := hx.mono (Nat.le_max_left n m)
  have h2 := hy.mono (Nat.le_max_right n m)
  unfold Bd at *
  rw [Nat.pow_succ]
  omega
theorem Bd.neg {n : Nat} {x : Int} (hx : Bd n x) : Bd n (-x) := by
  unfold Bd at *
  omega
theorem Bd.sub {n m : Nat} {x y : Int} (hx : Bd n x) (hy : Bd m y) : Bd (max n m + 1) (x - y) := by
  rw [Int.sub_eq_add_neg]
  exact hx.add hy.neg
theorem Bd.of {n : Nat} {x : Int} (m : Nat) (h : x.natAbs ≤ m) (hm : m < 2 ^ n) : Bd n x := Nat.lt_of_le_of_lt h hm
theorem Bd.le {n : Nat} {x y : Int} (hy : Bd n y) (h : x.natAbs ≤ y.natAbs) : Bd n x := Nat.lt_of_le_of_lt h hy
theorem bits_le {n : Nat} {x : Int} (h : Bd n x) : Builtin.Int.intBits x ≤ n := by
  unfold Builtin.Int.intBits
  split
  · exact Nat.zero_le _
  · rename_i hx
    have h0 : x.natAbs ≠ 0 := fun z => hx (by simp; omega)
    exact (Nat.log2_lt h0).mpr h
theorem Bd.mulOk {n m : Nat} {x y : Int} (hx : Bd n x) (hy : Bd m y) (h : n + m ≤ 134217728) : IntMulOk x y := by
  have h1 := bits_le hx
  have h2 := bits_le hy
  have e : bitsLine = 134217728 := by decide
  unfold IntMulOk
  intro z
  rw [Bool.and_eq_true] at z
  have z2 := z.2
  unfold Builtin.Int.intTooBig at z2
  have z3 := of_decide_eq_true z2
  rw [e] at z3
  omega
theorem mulOk_small {x y : Int} (h : Bd 64 x) : IntMulOk x y := IntMulOk.of_left (bits_le h)
theorem mulOk_smallR {x y : Int} (h : Bd 64 y) : IntMulOk x y := IntMulOk.of_right (bits_le h)
theorem Bd.divOk {n : Nat} {x y : Int} (hy : Bd n y) (h0 : 0 < n) (h : n ≤ 9000) : Builtin.divisionGoesByPylong x y = false := PyProof.noPylong_of_log2 (by
  rcases Nat.eq_zero_or_pos y.natAbs with z | z
  · rw [z]; decide
  · exact (Nat.log2_lt (Nat.ne_of_gt z)).mpr (Nat.lt_of_lt_of_le hy (Nat.pow_le_pow_right (by decide) h)))
/-! ### fractions -/
/-- a fraction's data -/
def Q (r : Rat) : Da := .tuple [.int r.num, .int r.den]
theorem abs_eq (a : Int) : (if a < 0 then -a else a) = (a.natAbs : Int) := by
  split <;> omega
theorem fmod_nat (x y : Nat) : Int.fmod (x : Int) (y : Int) = ((x % y : Nat) : Int) := by
  rw [Int.fmod_eq_emod_of_nonneg _ (by omega)]
  rfl
/-- above and below, parted by the greatest common part with below's sign -/
theorem divInt_parts {x y : Int} (hy : y ≠ 0) : x.fdiv (if y < 0 then 0 - (Int.gcd x y : Int) else (Int.gcd x y : Int)) = (Rat.divInt x y).num ∧
    y.fdiv (if y < 0 then 0 - (Int.gcd x y : Int) else (Int.gcd x y : Int)) = ((Rat.divInt x y).den : Int) := by
  have hg : 0 < Int.gcd x y := Nat.pos_of_ne_zero fun z => hy (Int.gcd_eq_zero_iff.mp z).2
  have dx : (Int.gcd x y : Int) ∣ x := Int.gcd_dvd_left ..
  have dy : (Int.gcd x y : Int) ∣ y := Int.gcd_dvd_right ..
  rw [Rat.num_divInt, Rat.den_divInt, if_neg hy, Int.gcd_comm y x]
  obtain ⟨k, ek⟩ := dx
  obtain ⟨l, el⟩ := dy
  generalize hG : (Int.gcd x y : Int) = G at *
  have hG0 : 0 < G := by omega
  have hGn : G ≠ 0 := by omega
  have fx : ∀ s : Int, s ≠ 0 → ∀ z : Int, (s * z).fdiv s = z := fun s hs z => by
    rw [Int.mul_comm]
    exact Int.mul_fdiv_cancel _ hs
  by_cases hn : y < 0
  · rw [if_pos hn]
    have hs : y.sign = -1 := Int.sign_eq_neg_one_of_neg hn
    have e1 : x.fdiv (0 - G) = -k := by
      have : x = (0 - G) * (-k) := by rw [ek]; grind
      rw [this]
      exact fx _ (by omega) _
    have e2 : y.fdiv (0 - G) = -l := by
      have : y = (0 - G) * (-l) := by rw [el]; grind
      rw [this]
      exact fx _ (by omega) _
    refine ⟨?_, ?_⟩
    · rw [e1, hs, ek, show (-1 : Int) * (G * k) = G * (-k) by grind, Int.mul_ediv_cancel_left _ hGn]
    · rw [e2]
      have : (y.natAbs : Int) = G * (-l) := by
        have : (y.natAbs : Int) = -y := by omega
        rw [this, el]; grind
      rw [Int.natCast_ediv, this, hG, Int.mul_ediv_cancel_left _ hGn]
  · rw [if_neg hn]
    have hs : y.sign = 1 := Int.sign_eq_one_of_pos (by omega)
    have e1 : x.fdiv G = k := by rw [ek]; exact fx _ hGn _
    have e2 : y.fdiv G = l := by
      have : y.fdiv G = (G * l).fdiv G := by rw [← el]
      rw [this]; exact fx _ hGn _
    refine ⟨?_, ?_⟩
    · rw [e1, hs, ek, Int.one_mul, Int.mul_ediv_cancel_left _ hGn]
    · rw [e2]
      have : (y.natAbs : Int) = G * l := by
        have : (y.natAbs : Int) = y := by omega
        rw [this]; exact el
      rw [Int.natCast_ediv, this, hG, Int.mul_ediv_cancel_left _ hGn]
theorem bd_num {n : Nat} {x y : Int} (h : Bd n x) : Bd n (Rat.divInt x y).num := by
  rw [Rat.num_divInt]
  refine h.le ?_
  have h1 : (y.sign * x / (Int.gcd y x : Int)).natAbs ≤ (y.sign * x).natAbs := Int.natAbs_ediv_le_natAbs _ _
  rw [Int.natAbs_mul] at h1
  have h2 : y.sign.natAbs ≤ 1 := by
    rcases Int.lt_trichotomy y 0 with z | z | z
    · rw [Int.sign_eq_neg_one_of_neg z]; decide
    · rw [z]; decide
    · rw [Int.sign_eq_one_of_pos z]; decide
  have h3 : y.sign.natAbs * x.natAbs ≤ 1 * x.natAbs := Nat.mul_le_mul_right _ h2
  omega
theorem bd_den {n : Nat} {x y : Int} (h : Bd n y) (h0 : 0 < n) : Bd n ((Rat.divInt x y).den : Int) := by
  rw [Rat.den_divInt]
  split
  · exact Nat.one_lt_two_pow (by omega)
  · exact h.le (by rw [Int.natAbs_natCast]; exact Nat.div_le_self _ _)
end Rk
namespace Rk
open PySem PySem.Spec L2
/-- a fraction's numbers below 2 ^ n -/
def BQ (n : Nat) (r : Rat) : Prop := Bd n r.num ∧ Bd n (r.den : Int)
theorem BQ.mono {n m : Nat} {r : Rat} (h : BQ n r) (hl : n ≤ m) : BQ m r := ⟨h.1.mono hl, h.2.mono hl⟩
theorem den_ne (r : Rat) : (r.den : Int) ≠ 0 := by
  have := r.den_nz
  omega
theorem add_divInt (r s : Rat) : Rat.divInt (r.num * s.den + s.num * r.den) (r.den * s.den) = r + s := by
  rw [Rat.add_def', ← Int.natCast_mul, Rat.divInt_ofNat]
theorem sub_divInt (r s : Rat) : Rat.divInt (r.num * s.den - s.num * r.den) (r.den * s.den) = r - s := by
  rw [Rat.sub_def', ← Int.natCast_mul, Rat.divInt_ofNat]
theorem mul_divInt (r s : Rat) : Rat.divInt (r.num * s.num) (r.den * s.den) = r * s := by
  rw [Rat.mul_def', ← Int.natCast_mul, Rat.divInt_ofNat]
theorem div_divInt (r s : Rat) : Rat.divInt (r.num * s.den) (r.den * s.num) = r / s := by
  rw [← Rat.divInt_mul_divInt, Rat.num_divInt_den, ← Rat.inv_divInt, Rat.num_divInt_den, Rat.div_def]
theorem BQ.add {n m : Nat} {r s : Rat} (hr : BQ n r) (hs : BQ m s) (h0 : 0 < n + m) : BQ (n + m + 1) (r + s) := by
  rw [← add_divInt]
  refine ⟨bd_num ?_, bd_den ((hr.2.mul hs.2).mono (Nat.le_succ _)) (Nat.succ_pos _)⟩
  exact ((hr.1.mul hs.2).add (hs.1.mul hr.2)).mono (by omega)
theorem BQ.sub {n m : Nat} {r s : Rat} (hr : BQ n r) (hs : BQ m s) (h0 : 0 < n + m) : BQ (n + m + 1) (r - s) := by
  rw [← sub_divInt]
  refine ⟨bd_num ?_, bd_den ((hr.2.mul hs.2).mono (Nat.le_succ _)) (Nat.succ_pos _)⟩
  exact ((hr.1.mul hs.2).sub (hs.1.mul hr.2)).mono (by omega)
theorem BQ.mul {n m : Nat} {r s : Rat} (hr : BQ n r) (hs : BQ m s) (h0 : 0 < n + m) : BQ (n + m) (r * s) := by
  rw [← mul_divInt]
  exact ⟨bd_num (hr.1.mul hs.1), bd_den (hr.2.mul hs.2) h0⟩
theorem BQ.div {n m : Nat} {r s : Rat} (hr : BQ n r) (hs : BQ m s) (h0 : 0 < n + m) : BQ (n + m) (r / s) := by
  rw [← div_divInt]
  exact ⟨bd_num (hr.1.mul hs.2), bd_den (hr.2.mul hs.1) h0⟩
theorem BQ.neg {n : Nat} {r : Rat} (hr : BQ n r) : BQ n (-r) := ⟨by rw [Rat.neg_num]; exact hr.1.neg, by rw [Rat.neg_den]; exact hr.2⟩
theorem Q_neg (r : Rat) : Q (-r) = .tuple [.int (0 - r.num), .int r.den] := by
  unfold Q
  rw [Rat.neg_num, Rat.neg_den, Int.zero_sub]
theorem Q_abs (r : Rat) : Q r.abs = .tuple [.int (r.num.natAbs : Int), .int r.den] := by
  unfold Q Rat.abs
  split
  · rename_i h
    have : 0 ≤ r.num := Rat.num_nonneg.mpr h
    rw [show (r.num.natAbs : Int) = r.num by omega]
  · rename_i h
    have : ¬ 0 ≤ r.num := fun z => h (Rat.num_nonneg.mp z)
    rw [Rat.neg_num, Rat.neg_den, show (r.num.natAbs : Int) = -r.num by omega]
theorem lt_num (r s : Rat) : (r.num * s.den < s.num * r.den) ↔ r < s := by
  rw [Rat.lt_iff]
end Rk
namespace Rk
open PySem PySem.Spec L2
theorem sh_int (a : Int) : sh (.int a) = true := by
  simp [sh, SeqAt.shaped, PyData.hasDict, PyData.hasDictAll, PyData.canLay0, PyData.depth]
theorem sh_Q (r : Rat) : sh (Q r) = true := by
  simp [Q, sh, SeqAt.shaped, PyData.hasDict, PyData.hasDictAll, PyData.canLay0, PyData.canLayAll0, PyData.depth, PyData.depthAll]
theorem eqv_int (a b : Int) : PyData.eqv (.int a) (.int b) = decide (a = b) := by
  show (a == b) = decide (a = b)
  by_cases e : a = b <;> simp [e]
theorem eqv_bool (a b : Bool) : PyData.eqv (.bool a) (.bool b) = decide (a = b) := by
  cases a <;> cases b <;> rfl
theorem sh_bool (a : Bool) : sh (.bool a) = true := by
  simp [sh, SeqAt.shaped, PyData.hasDict, PyData.hasDictAll, PyData.canLay0, PyData.depth]
theorem eqv_Q (r s : Rat) : PyData.eqv (Q r) (Q s) = decide (r = s) := by
  have e : (r = s) ↔ (r.num = s.num ∧ r.den = s.den) := ⟨fun z => by rw [z]; exact ⟨rfl, rfl⟩, fun ⟨z1, z2⟩ => Rat.ext z1 z2⟩
  simp only [Q, PyData.eqv, PyData.eqvAll]
  by_cases h1 : r.num = s.num <;> by_cases h2 : r.den = s.den <;> simp [e, h1, h2] <;> omega
section
variable {h : Hh}
theorem gEq_int {a b : Int} : gEq (.d (.int a)) (.d (.int b)) h = some (.d (.bool (decide (a = b))), h) := by
  simp [gEq, asD, eqvB, sh_int, eqv_int]
theorem gEq_Q {r s : Rat} : gEq (.d (Q r)) (.d (Q s)) h = some (.d (.bool (decide (r = s))), h) := by
  show (eqvB (Q r) (Q s)).map (fun z => (Vl.d (.bool z), h)) = _
  simp [eqvB, sh_Q, eqv_Q]
theorem gEq_bool {a b : Bool} : gEq (.d (.bool a)) (.d (.bool b)) h = some (.d (.bool (decide (a = b))), h) := by
  simp [gEq, asD, eqvB, sh_bool, eqv_bool]
end
theorem bd_nat {n : Nat} {a : Nat} (h : a < 2 ^ n) : Bd n (a : Int) := by
  unfold Bd
  rw [Int.natAbs_natCast]
  exact h
end Rk
namespace Rk
open PySem PySem.Spec L2
/-! ### a law's stream: four places -/
def Strm (K : Nat) (xs : List Da) : Prop := ∃ (c : Bool) (x : Int) (k : Nat) (m : Int), xs = [.bool c, .int x, .int (k : Int), .int m] ∧ k ≤ K
section
variable {h : Hh} {n : Nat} {a b c d : Da} {ρ : En}
theorem get_set {o : Option Ob} (hn : n < h.length) : (h.set n o)[n]? = some o := List.getElem?_set_self hn
end
theorem bd_lit {n : Nat} {x : Int} (m : Nat) (h1 : -(m : Int) ≤ x) (h2 : x ≤ m) (hm : m < 2 ^ n) : Bd n x := Nat.lt_of_le_of_lt (by omega) hm
end Rk
namespace Rk
open PySem PySem.Spec L2
theorem set_app {h : Hh} {n : Nat} {o : Option Ob} {l : Hh} (hn : n < h.length) : (h ++ l).set n o = h.set n o ++ l := by
  rw [List.set_append, if_pos hn]
end Rk
namespace Rk
open PySem PySem.Spec L2
section
variable {r : Rat} {h : Hh} {ρ : En} {g : Gs}
theorem gTupT_tup {n : Nat} {ds : List Da} : gTupT n g (.d (.tuple ds)) ρ h = if ds.length = n then g (ds.map Vl.d) ρ h else none := rfl
theorem gTupT_Q : gTupT 2 g (.d (Q r)) ρ h = g [.d (.int r.num), .d (.int r.den)] ρ h := rfl
theorem ixQ0 : gIx (.d (Q r)) (.d (.int 0)) h = some (.d (.int r.num), h) := ix0
theorem ixQ1 : gIx (.d (Q r)) (.d (.int 1)) h = some (.d (.int r.den), h) := ix1
theorem isQ_tup : isTyD .tuple (Q r) = some true := rfl
theorem isQ_bool : isTyD .bool (Q r) = some false := rfl
theorem isQ_int : isTyD .int (Q r) = some false := rfl
theorem isI_bool {i : Int} : isTyD .bool (.int i) = some false := rfl
theorem isI_int {i : Int} : isTyD .int (.int i) = some true := rfl
theorem isI_tup {i : Int} : isTyD .tuple (.int i) = some false := rfl
theorem isB_bool {i : Bool} : isTyD .bool (.bool i) = some true := rfl
theorem isB_int {i : Bool} : isTyD .int (.bool i) = some true := rfl
theorem isTy_d {T : Ty} {x : Da} : isTy T (.d x) h = isTyD T x := rfl
end
end Rk
namespace Rk
open PySem PySem.Spec L2
section
variable {a0 a1 a2 : Da} {l : List Da} {h : Hh}
theorem get_end {o : Option Ob} : (h ++ [o])[h.length]? = some o := by simp
end
end Rk
namespace Rk
end Rk
namespace Rk
open PySem PySem.Spec L2
end Rk

/-! Rk9: rulers, by numbers alone; loops' steps. -/
namespace Rk
open PySem PySem.Spec L2
theorem set_at {h l : Hh} {a b : Option Ob} : (h ++ a :: l).set h.length b = h ++ b :: l := by
  rw [List.set_append, if_neg (by omega)]
  simp
theorem get_at {h l : Hh} {a : Option Ob} : (h ++ a :: l)[h.length]? = some a := by simp
/-! ### powers -/
structure Ruler where
  b : Nat
  f : Nat
  l : Int
  w : String
def Ruler.da (R : Ruler) : Da := .tuple [.int R.b, .int R.f, .int R.l, .str R.w]
structure Ruler.Ok (R : Ruler) : Prop where
  b2 : 2 ≤ R.b
  b16 : R.b ≤ 16
  f1 : 1 ≤ R.f
  f24 : R.f ≤ 24
  l1 : -100 ≤ R.l
  l2 : R.l ≤ 100
  w4 : R.w = "near" ∨ R.w = "down" ∨ R.w = "up" ∨ R.w = "nought"
def Ruler.pw (R : Ruler) (e : Int) : Rat := (R.b : Rat) ^ e
section
variable {R : Ruler} (O : R.Ok)
include O
omit O in
theorem BQ.abs {n : Nat} {r : Rat} (h : BQ n r) : BQ n r.abs := by
  unfold Rat.abs
  split
  · exact h
  · exact h.neg
end
/-! ### places -/
def IsPlc (R : Ruler) (x : Rat) (p : Int) : Prop := R.l ≤ p ∧ x.abs < R.pw (p + R.f) ∧ (p = R.l ∨ R.pw (p - 1 + R.f) ≤ x.abs)
noncomputable def Ruler.plc (R : Ruler) (x : Rat) : Int := Classical.epsilon (IsPlc R x)
section
variable {R : Ruler} (O : R.Ok)
include O
end
end Rk
namespace Rk
end Rk
namespace Rk
end Rk

/-! Rk10: list comprehensions, append. -/
namespace Rk
open PySem PySem.Spec L2
variable {mg : Str → Option Value}
def wipeE (ρ : En) : List Nat → En
  | [] => ρ
  | v :: vs => (wipeE ρ vs).set v none
theorem ERep.setN {K : PySem.W.Frag} {φ : List Addr} {h : Hh} {H : Hp} {σ : L2.St} {ρ : En} (i : Nat) (r : ERep K mg φ h H σ ρ) : ERep K mg φ h H (σ.set i none) (ρ.set i none) := by
  refine ⟨by rw [List.length_set, List.length_set, r.len], fun j w e => ?_⟩
  by_cases hj : i = j
  · subst hj
    have hl : i < ρ.length := by
      have := (List.getElem?_eq_some_iff.mp e).1
      rwa [List.length_set] at this
    rw [List.getElem?_set_self hl] at e
    cases e
  · rw [List.getElem?_set_ne hj] at e
    rw [List.getElem?_set_ne hj]
    exact r.at_ j w e
theorem ERep.wipe {K : PySem.W.Frag} {φ : List Addr} {h : Hh} {H : Hp} {σ : L2.St} {ρ : En} (r : ERep K mg φ h H σ ρ) : ∀ vs : List Nat, ERep K mg φ h H (L2.wipe σ vs) (wipeE ρ vs)
  | [] => r
  | v :: vs => (ERep.wipe r vs).setN v
theorem wipe_get (σ : L2.St) (j : Nat) : ∀ vs : List Nat, (L2.wipe σ vs)[j]? = if j ∈ vs then (if j < σ.length then some none else none) else σ[j]?
  | [] => by simp [L2.wipe]
  | v :: vs => by
    unfold L2.wipe
    have ih := wipe_get σ j vs
    have hl := L2.wipe_length σ vs
    by_cases hj : v = j
    · subst hj
      by_cases hv : v < σ.length
      · rw [List.getElem?_set_self (by rw [hl]; exact hv)]
        simp [hv]
      · rw [List.getElem?_eq_none (by simp; omega)]
        simp [hv]
    · rw [List.getElem?_set_ne hj, ih]
      have : j ∈ v :: vs ↔ j ∈ vs := by
        rw [List.mem_cons]
        exact ⟨fun z => z.elim (fun z => absurd z.symm hj) id, .inr⟩
      simp only [this]
theorem wipe_set {σ : L2.St} {i : Nat} {o : Option V} {vs : List Nat} (hi : i ∈ vs) : L2.wipe (σ.set i o) vs = L2.wipe σ vs := by
  apply List.ext_getElem?
  intro j
  rw [wipe_get, wipe_get, List.length_set]
  by_cases hj : j ∈ vs
  · simp [hj]
  · have : i ≠ j := fun z => hj (z ▸ hi)
    simp [hj, List.getElem?_set_ne this]
/-! ### a block's targets -/
def tGw (K : PySem.W.Frag) (mg : Str → Option Value) (vs : List Nat) (g : Gv) : TG := fun x σ H Q => ∃ φ h ρ v ρ' h', Sim K φ h H ∧ ERep K mg φ h H σ ρ ∧ VRep K mg φ h H x v ∧ g v ρ h = some (ρ', h') ∧ ∀ σ' H' φ', Step φ h H φ' h' H' → Sim K φ' h' H' → ERep K mg φ' h' H' σ' ρ' → L2.wipe σ' vs = L2.wipe σ vs → Q σ' H'
def tGsw (K : PySem.W.Frag) (mg : Str → Option Value) (ws : List Nat) (g : Gs) : TGs := fun xs σ H Q => ∃ φ h ρ vs ρ' h', Sim K φ h H ∧ ERep K mg φ h H σ ρ ∧ VReps K mg φ h H xs vs ∧ g vs ρ h = some (ρ', h') ∧ ∀ σ' H' φ', Step φ h H φ' h' H' → Sim K φ' h' H' → ERep K mg φ' h' H' σ' ρ' → L2.wipe σ' ws = L2.wipe σ ws → Q σ' H'
def EGw (X : Cx) (vs : List Nat) (tg : Expr) (g : Gv) : Prop := PG X tg (tGw X.K X.mg vs g)
def EGsw (X : Cx) (vs : List Nat) (tg : List Expr) (g : Gs) : Prop := PGs X tg (tGsw X.K X.mg vs g)
section
variable {X : Cx} {pos : Pos} {ws : List Nat}
theorem egw_name {i : Nat} {x : Str} (hN : X.N.Nodup) (hw : i ∈ ws := by decide) (hi : X.N[i]? = some x := by rfl) (hx : Loc X.env.scope x := by first | exact .inl rfl | exact .inr rfl) (hf : X.fn x = true ∨ X.env.scope.names.lookup x = some .local := by first | exact .inl rfl | exact .inr rfl | assumption) : EGw X ws (.Name x pos) (gN i) :=
  PG.of (pg_name (i := i) hN hi hx hf) fun x σ H Q ⟨φ, h, ρ, v, ρ', h', sm, er, rv, e, k⟩ => by
    cases e
    exact k _ H φ (Step.refl _ _ _) sm (er.set rv) (wipe_set hw)
end
/-! ### append -/
def appL (D : Nat) (v : Vl) (h : Hh) : Option Hh := (fz v h).bind fun p => match p.2[D]? with
  | some (some (.lst xs)) => if fitB (xs.length + 1) = true then some (p.2.set D (some (.lst (xs ++ [p.1])))) else none
  | _ => none
theorem Reps.snoc {K : PySem.W.Frag} {H : Hp} {M : Addr → Prop} : ∀ {xs : List V} {ds : List Da} {x : V} {d : Da}, Reps K H M xs ds → Rep K H M x d → Reps K H M (xs ++ [x]) (ds ++ [d])
  | _, _, _, _, .nil, r => .cons r .nil
  | _, _, _, _, .cons a t, r => .cons a (Reps.snoc t r)
theorem appL_ok {K : PySem.W.Frag} {φ : List Addr} {h h' : Hh} {H : Hp} {D : Nat} {a : Addr} {z : V} {v : Vl} (sm : Sim K φ h H) (ea : φ[D]? = some a) (rz : VRep K mg φ h H z v) (e : appL D v h = some h') :
    ∃ acc, H a = some (.lst acc) ∧ acc.length < sizeLine ∧ Step φ h H φ h' (upd H a (.lst (acc ++ [z]))) ∧ Sim K φ h' (upd H a (.lst (acc ++ [z]))) := by
  unfold appL at e
  cases ef : fz v h with
  | none => rw [ef] at e; cases e
  | some p =>
    obtain ⟨d, h1⟩ := p
    rw [ef] at e
    dsimp only [Option.bind_some] at e
    obtain ⟨s1, s2, s3⟩ := fz_ok sm rz ef
    split at e
    · rename_i xs en
      split at e
      · rename_i ft
        cases e
        obtain ⟨ys, eh, rs⟩ := s2.at_ en ea
        obtain ⟨t1, t2⟩ := s2.write (ob := .lst (xs ++ [d])) (u := .lst (ys ++ [z])) en ea fun M st => ⟨_, upd_same, Reps.snoc (rs.stay st) (s3.stay st)⟩
        refine ⟨ys, eh, ?_, s1.trans t1, t2⟩
        have := fitB_le ft
        rw [rs.length]
        omega
      · cases e
    · cases e
/-! ### comprehensions -/
def tvYes : Tv := fun _ h => .ok true h
def ETs (X : Cx) (W : WX) (es : List Expr) (f : Tv) : Prop := PTs X es (tT X.K X.mg W f)
theorem PTs.of {X : Cx} {es : List Expr} {t t' : TT} (h : PTs X es t) (i : ∀ σ H Q, t' σ H Q → t σ H Q) : PTs X es t' := ⟨fun pins s σ H Q I w => h.run pins s σ H Q I (i σ H Q w)⟩
theorem ets_nil {X : Cx} {W : WX} : ETs X W [] tvYes := PTs.of pts_nil fun σ H Q ⟨φ, h, ρ, sm, er, q⟩ => q H φ (Step.refl _ _ _) sm
open Classical in
noncomputable def lcL (gd : Option (Nat × List Da)) (D : Nat) (g : Gv) (tt : Tv) (fe : Ev) (ρ0 : En) : List Da → Hh → Out Vl
  | [], h => if gdOk gd h then .ok (.r D) h else .no
  | d :: ds, h => if gdOk gd h then (match g (.d d) ρ0 h with
      | none => .no
      | some p => match tt p.1 p.2 with
        | .ok true h2 => (match fe p.1 h2 with
          | .ok v h3 => (match appL D v h3 with
            | some h4 => lcL gd D g tt fe ρ0 ds h4
            | none => .no)
          | _ => .no)
        | .ok false h2 => lcL gd D g tt fe ρ0 ds h2
        | _ => .no) else .no
noncomputable def eLc (vs : List Nat) (i : Iv) (g : Gv) (tt : Tv) (fe : Ev) : Ev := fun ρ h => (i ρ h).bind fun m h1 => lcL m.gd h1.length g tt fe (wipeE ρ vs) m.ds (h1 ++ [some (.lst [])])
abbrev WF : WX := fun _ _ _ _ => False
theorem lc_ok {K : PySem.W.Frag} {mg : Str → Option Value} {J : It} {m : Itm} {G : List Addr → Hh → Hp → Prop} (ok : ItOk K J m G) {g : Gv} {tt : Tv} {fe : Ev} {vs : List Nat} {φ : List Addr} {h : Hh} {H : Hp} {σ : L2.St} {ρ : En} {Q : VK} {E : XK} (sm : Sim K φ h H) (er : ERep K mg φ h H σ ρ) (gg : G φ h H)
    (q : PoX K mg φ h H (lcL m.gd h.length g tt fe (wipeE ρ vs) m.ds (h ++ [some (.lst [])])) Q E) (D : Addr) (nd : H D = none) : ∃ W' : Nat → Nat → Hp → Prop, (∃ n, W' 0 n (upd H D (.lst []))) ∧ ∀ i n H, W' i n H →
      (J.stop i H ∧ Q (.ref D) H) ∨ (J.go i H ∧ ∃ Nx : Hp → Prop, (∀ H', Nx H' → ∃ m', m' < n ∧ W' (i + 1) m' H') ∧ ∀ x H', J.yld i H x H' → tGw K mg vs g x (L2.wipe σ vs) H' fun σ2 H2 => L2.wipe σ2 vs = L2.wipe σ vs ∧ tT K mg WF tt σ2 H2 fun b H3 => if b = true then tE K mg WF fe σ2 H3 fun y H4 => ∃ acc, H4 D = some (.lst acc) ∧ acc.length < sizeLine ∧ Nx (upd H4 D (.lst (acc ++ [y]))) else Nx H3) := by
  obtain ⟨n1, n2, n3⟩ := sm.new (mg := mg) (ob := .lst []) (o := .lst []) nd fun M st => ⟨[], upd_same, .nil⟩
  have jD : (φ ++ [D])[h.length]? = some D := by
    rw [← sm.len]
    simp
  generalize h.length = j at *
  refine ⟨fun i n H => n = m.ds.length - i ∧ ∃ φ h, Sim K φ h H ∧ φ[j]? = some D ∧ ERep K mg φ h H (L2.wipe σ vs) (wipeE ρ vs) ∧ G φ h H ∧ PoX K mg φ h H (lcL m.gd j g tt fe (wipeE ρ vs) (m.ds.drop i) h) Q E, ⟨_, rfl, φ ++ [D], h ++ [some (.lst [])], n2, jD, (er.step n1).wipe vs, ok.keep _ _ _ _ _ _ gg n1, by rw [List.drop_zero]; exact PoX.pull n1 q⟩, ?_⟩
  rintro i n H ⟨rfl, φ, h, sm, jD, er, gg, q⟩
  cases ed : m.ds.drop i with
  | nil =>
    rw [ed] at q
    unfold lcL at q
    split at q
    · rename_i gd
      exact .inl ⟨ok.stop φ h H i sm gg gd (List.drop_eq_nil_iff.mp ed), q _ H φ (Step.refl _ _ _) sm ⟨D, jD, rfl⟩⟩
    · exact q.elim
  | cons d ds =>
    have hi : i < m.ds.length := by
      rcases Nat.lt_or_ge i m.ds.length with z | z
      · exact z
      · rw [List.drop_eq_nil_of_le z] at ed; cases ed
    have e1 : m.ds[i]? = some d := by
      have := List.getElem?_drop (xs := m.ds) (i := i) (j := 0)
      rw [ed] at this
      simpa using this.symm
    have e2 : m.ds.drop (i + 1) = ds := by
      have := List.drop_drop (i := 1) (j := i) (l := m.ds)
      rw [ed] at this
      simpa using this.symm
    rw [ed] at q
    unfold lcL at q
    split at q
    · rename_i gd
      refine .inr ⟨ok.go φ h H i sm gg gd hi, fun H' => ∃ φ h, Sim K φ h H' ∧ φ[j]? = some D ∧ ERep K mg φ h H' (L2.wipe σ vs) (wipeE ρ vs) ∧ G φ h H' ∧ PoX K mg φ h H' (lcL m.gd j g tt fe (wipeE ρ vs) ds h) Q E, fun H' hN => ?_, fun x H' hy => ?_⟩
      · obtain ⟨φ', h', a1, a2, a3, a4, a5⟩ := hN
        exact ⟨m.ds.length - (i + 1), by omega, rfl, φ', h', a1, a2, a3, a4, by rw [e2]; exact a5⟩
      · obtain ⟨s1, s2, s3⟩ := ok.yld φ h H i x H' d sm gg gd e1 hy
        have q' := PoX.pull s1 q
        have gg' := ok.keep _ _ _ _ _ _ gg s1
        have er' := er.step s1
        cases eg : g (.d d) (wipeE ρ vs) h with
        | none => rw [eg] at q'; exact q'.elim
        | some p =>
          obtain ⟨ρ1, h1⟩ := p
          rw [eg] at q'
          refine ⟨φ, h, _, .d d, ρ1, h1, s2, er', s3, eg, fun σ2 H2 φ2 st2 sm2 er2 w2 => ⟨by
            have idm : L2.wipe (L2.wipe σ vs) vs = L2.wipe σ vs := by
              apply List.ext_getElem?
              intro k
              rw [wipe_get, wipe_get, L2.wipe_length]
              by_cases hk : k ∈ vs <;> simp [hk]
            rw [w2, idm], φ2, h1, ρ1, sm2, er2, ?_⟩⟩
          have q2 := PoX.pull st2 q'
          have gg2 := ok.keep _ _ _ _ _ _ gg' st2
          have er3 := er'.step st2
          have jD2 := pre_get st2.pre jD
          dsimp only at q2
          revert q2
          cases tt ρ1 h1 with
          | no => exact fun q2 => q2
          | ex c fs h2 => exact fun q2 => q2.elim
          | ok b h2 =>
            intro q2 H3 φ3 st3 sm3
            have q3 := PoX.pull st3 q2
            have gg3 := ok.keep _ _ _ _ _ _ gg2 st3
            have jD3 := pre_get st3.pre jD2
            cases b with
            | false =>
              rw [if_neg (by decide)]
              exact ⟨φ3, h2, sm3, jD3, er3.step st3, gg3, q3⟩
            | true =>
              rw [if_pos rfl]
              refine ⟨φ3, h2, ρ1, sm3, er2.step st3, ?_⟩
              dsimp only at q3
              revert q3
              cases fe ρ1 h2 with
              | no => exact fun q3 => q3
              | ex c fs h3 => exact fun q3 => q3.elim
              | ok v h3 =>
                intro q3 y H4 φ4 st4 sm4 rv
                have q4 := PoX.pull st4 q3
                have gg4 := ok.keep _ _ _ _ _ _ gg3 st4
                have jD4 := pre_get st4.pre jD3
                dsimp only at q4
                cases ea : appL j v h3 with
                | none => rw [ea] at q4; exact q4.elim
                | some h4 =>
                  rw [ea] at q4
                  obtain ⟨acc, a1, a2, a3, a4⟩ := appL_ok sm4 jD4 rv ea
                  exact ⟨acc, a1, a2, φ4, h4, a4, jD4, ((er3.step st3).step st4).step a3, ok.keep _ _ _ _ _ _ gg4 a3, PoX.pull a3 q4⟩
    · exact q.elim
section
variable {X : Cx} {W : WX} {elt tg iter : Expr} {ifs : List Expr} {scope : Scope} {own : List (Str × Nat)} {pos spos py : Pos} {fi : Iv} {g : Gv} {tt : Tv} {fe : Ev}
theorem lc_read {σ : L2.St} {H : Hp} {Q : VK} {ws : List Nat} (hw : ws = own.map (·.2)) (t : tE X.K X.mg W (eLc ws fi g tt fe) σ H Q) : tLc (tI X.K X.mg W fi) (tGw X.K X.mg ws g) (tT X.K X.mg WF tt) (tE X.K X.mg WF fe) (own.map (·.2)) σ H Q := by
  subst hw
  obtain ⟨φ, h, ρ, sm, er, q⟩ := t
  refine ⟨φ, h, ρ, sm, er, ?_⟩
  unfold eLc at q
  revert q
  cases fi ρ h with
  | ok m h1 => exact fun q J H1 φ1 G st sm1 ok gg D nd => lc_ok ok sm1 (er.step st) gg (PoX.pull st q) D nd
  | ex c fs h1 => exact fun q => q
  | no => exact fun q => q
theorem ee_lc (ws : List Nat) (own : List (Str × Nat)) (hc : X.calm = true) (hN : X.N.Nodup) (hi : EI X W tg iter fi) (ok : BlkOk X.N X.env.scope scope own)
    (hg : ∀ (s : Shared) (H : Hp) (C : Addr) (cl : List (Str × Addr)) (fp : List Addr), EGw (X.blk s H scope (compEnvC scope cl C X.env) fp) ws tg g)
    (ht : ∀ (s : Shared) (H : Hp) (C : Addr) (cl : List (Str × Addr)) (fp : List Addr), ETs (X.blk s H scope (compEnvC scope cl C X.env) fp) WF ifs tt)
    (he : ∀ (s : Shared) (H : Hp) (C : Addr) (cl : List (Str × Addr)) (fp : List Addr), EE (X.blk s H scope (compEnvC scope cl C X.env) fp) WF elt fe)
    (hw : ws = own.map (·.2) := by rfl) (hs : ∀ x, foldedSetIterable iter X.env x = pure x := by intro _; rfl) : EE X W (.ListComp elt [⟨tg, iter, ifs, 0⟩] scope pos) (eLc ws fi g tt fe) :=
  PE.of (pe_lc (own := own) (g := tGw X.K X.mg ws g) (tt := tT X.K X.mg WF tt) (te := tE X.K X.mg WF fe) hc hN hi ok hg ht he hs) fun σ H Q t => lc_read hw t
theorem es_setLc {i : Nat} {y : Str} (ws : List Nat) (own : List (Str × Nat)) (hc : X.calm = true) (hN : X.N.Nodup) (hi : EI X W tg iter fi) (ok : BlkOk X.N X.env.scope scope own)
    (hg : ∀ (s : Shared) (H : Hp) (C : Addr) (cl : List (Str × Addr)) (fp : List Addr), EGw (X.blk s H scope (compEnvC scope cl C X.env) fp) ws tg g)
    (ht : ∀ (s : Shared) (H : Hp) (C : Addr) (cl : List (Str × Addr)) (fp : List Addr), ETs (X.blk s H scope (compEnvC scope cl C X.env) fp) WF ifs tt)
    (he : ∀ (s : Shared) (H : Hp) (C : Addr) (cl : List (Str × Addr)) (fp : List Addr), EE (X.blk s H scope (compEnvC scope cl C X.env) fp) WF elt fe)
    (hsw : swapsWith (.ListComp elt [⟨tg, iter, ifs, 0⟩] scope pos) (some (.Name y py)) spos.line X.env = pure true)
    (hy : X.N[i]? = some y := by rfl) (hyl : X.env.scope.names.lookup y = some .local := by rfl)
    (hw : ws = own.map (·.2) := by rfl) (hs : ∀ x, foldedSetIterable iter X.env x = pure x := by intro _; rfl) : ES X W (.Assign [.Name y py] (.ListComp elt [⟨tg, iter, ifs, 0⟩] scope pos) spos) (sSet i (eLc ws fi g tt fe)) :=
  PS.of (ps_setLc (i := i) (own := own) (g := tGw X.K X.mg ws g) (tt := tT X.K X.mg WF tt) (te := tE X.K X.mg WF fe) hc hN hy hyl hsw hi ok hg ht he hs) fun D σ H ⟨φ, h, ρ, sm, er, q⟩ => lc_read hw ⟨φ, h, ρ, sm, er, by
    unfold sSet at q
    revert q
    cases eLc ws fi g tt fe ρ h with
    | ok v h1 => exact fun q x H1 φ1 st sm1 rv => q _ H1 φ1 st sm1 ((er.step st).set rv)
    | ex c fs h1 => exact fun q cls dd H' φ' st sm' xr => q cls dd σ H' φ' st sm' (er.step st) xr
    | no => exact fun q => q⟩
end
theorem tk_blk {X : Cx} {s : Shared} {H : Hp} {scope : Scope} {e : Env} {fp : List Addr} : Takes (X.blk s H scope e fp) WF := fun u s' ⟨a, B, sI, pins, σ, H, cls, d, e, I, nb, up, sky, na, os, ag, w⟩ => w.elim
end Rk

/-! Rk11: methods of built-in types. -/
namespace Rk
open PySem PySem.Spec L2
variable {mg : Str → Option Value}
abbrev GM := Vl → List Vl → Hh → Option (Vl × Hh)
def eMt (ty : Vl → Hh → Bool) (g : GM) (o : Ev) (as : Av) : Ev := fun ρ h => (o ρ h).bind fun x h1 => if ty x h1 = true then (as ρ h1).bind fun vs h2 => ofO (g x vs h2) else .no
def TyOk (K : PySem.W.Frag) (mg : Str → Option Value) (T : String) (ty : Vl → Hh → Bool) : Prop := ∀ (φ : List Addr) (h : Hh) (H : Hp) (x : V) (v : Vl), Sim K φ h H → VRep K mg φ h H x v → ty v h = true → tyV K T x H
def OkM (K : PySem.W.Frag) (mg : Str → Option Value) (r : V → List V → Hp → VK → Prop) (g : GM) : Prop := ∀ (φ : List Addr) (h : Hh) (H : Hp) (x : V) (xs : List V) (o : Vl) (as : List Vl) (Q : VK) (v : Vl) (h' : Hh), Sim K φ h H → VRep K mg φ h H x o → VReps K mg φ h H xs as → g o as h = some (v, h') →
  (∀ z H' φ', Step φ h H φ' h' H' → Sim K φ' h' H' → VRep K mg φ' h' H' z v → Q z H') → r x xs H Q
def tyL (v : Vl) (h : Hh) : Bool := (asL v h).isSome
def tyS (v : Vl) (_ : Hh) : Bool := match v with
  | .d (.str _) => true
  | _ => false
section
variable {K : PySem.W.Frag}
theorem tyL_ok : TyOk K mg "list" tyL := fun φ h H x v sm r e => by
  unfold tyL at e
  cases q : asL v h with
  | none => rw [q] at e; cases e
  | some ds =>
    obtain ⟨a, xs, rfl, sq, _⟩ := asL_ok sm r q
    exact .inl ⟨rfl, xs, sq⟩
end
section
variable {X : Cx} {W : WX} {o e : Expr} {es : List Expr} {fo : Ev} {fs : Av} {apos cpos : Pos} {T : String} {name : Str} {id : String} {r : V → List V → Hp → VK → Prop} {ty : Vl → Hh → Bool} {g : GM}
theorem ee_mt (pa : PlainAttrs T) (slot : Slot T name id) (hty : typeOf (.builtin id) = pure (.type "method_descriptor")) (hm : MtR X id r) (tk : TyOk X.K X.mg T ty) (ok : OkM X.K X.mg r g) (ho : EE X W o fo) (ha : EA X W (e :: es) fs)
    (hbase : attributeBase o name X.env (eval o X.env) = eval o X.env := by rfl)
    (hfew : ((backTo cpos (starEach (e :: es) X.env)).all (fun x => !x.1) && (backToKw cpos (keywordEach [] X.env)).all (fun x => x.1.isSome)
      && decide ((e :: es).length + ([] : List Keyword).length + (if ([] : List Keyword).isEmpty then 0 else 1) < 30)) = true := by rfl)
    (hline : (apos.endLine == cpos.line) = true := by rfl) (hs : starEach (e :: es) X.env = (false, eval e X.env) :: starEach es X.env := by rfl) (hplain : (backTo cpos (starEach es X.env)).any (·.1) = false := by rfl) :
    EE X W (.Call (.Attribute o name apos) (e :: es) [] cpos) (eMt ty g fo fs) :=
  PE.of (pe_bm pa slot hty hm ho ha hbase hfew hline hs hplain) fun σ H Q ⟨φ, h, ρ, sm, er, q⟩ => ⟨φ, h, ρ, sm, er, PoX.goE q fun x v h1 H1 φ1 st sm1 rv q1 => by
    split at q1
    · rename_i ht
      refine ⟨tk _ _ _ _ _ sm1 rv ht, φ1, h1, ρ, sm1, er.step st, PoX.goA q1 fun xs vs h2 H2 φ2 st2 sm2 rvs q2 => ?_⟩
      obtain ⟨z, h3, e3, k⟩ := PoX.ofO q2
      exact ok φ2 h2 H2 x xs v vs Q z h3 sm2 (rv.step st2) rvs e3 k
    · exact q1.elim⟩
end
/-! ### lists' methods -/
def gApp : GM := fun o as h => match o, as with
  | .r n, [v] => (appL n v h).map fun h' => (.d .none, h')
  | _, _ => none
theorem ok_app {K : PySem.W.Frag} : OkM K mg rAppend gApp := by
  intro φ h H x xs o as Q v h' sm rx rs e k
  unfold gApp at e
  split at e
  · rename_i n w
    obtain ⟨y, rfl, ry⟩ := rs.one
    obtain ⟨a, ea, rfl⟩ := rx
    cases q : appL n w h with
    | none => rw [q] at e; cases e
    | some h1 =>
      rw [q] at e
      cases e
      obtain ⟨acc, a1, a2, a3, a4⟩ := appL_ok sm ea ry q
      exact ⟨a, acc, y, rfl, rfl, a1, a2, k _ _ _ a3 a4 Rep.non⟩
  · cases e
end Rk

/-! Rk12: rounding, by numbers alone. -/
namespace Rk
open PySem PySem.Spec L2
/-! ### whole and rest -/
def upB (w : String) (t : Rat) : Bool :=
  if w = "near" then decide (1 < 2 * (t - (t.floor : Rat))) || (decide (2 * (t - (t.floor : Rat)) = 1) && decide (t.floor.fmod 2 = 1))
  else if w = "nought" then decide (t < 0) && decide (0 < t - (t.floor : Rat))
  else decide (w = "up") && decide (0 < t - (t.floor : Rat))
/-- the whole number that a way tells -/
def wb (w : String) (t : Rat) : Int := t.floor + (if upB w t = true then 1 else 0)
noncomputable def Ruler.stp (R : Ruler) (x : Rat) : Rat := R.pw (R.plc x)
noncomputable def Ruler.rnd (R : Ruler) (x : Rat) : Rat := (wb R.w (x / R.stp x) : Rat) * R.stp x
section
variable {R : Ruler} (O : R.Ok)
include O
end
end Rk
namespace Rk
open PySem PySem.Spec L2
end Rk
namespace Rk
open PySem PySem.Spec L2
end Rk
namespace Rk
open PySem PySem.Spec L2
theorem BQ_int {n : Nat} {k : Int} (h : Bd n k) (h0 : 0 < n) : BQ n (k : Rat) := by
  refine ⟨?_, ?_⟩
  · rw [Rat.num_intCast]
    exact h
  · rw [Rat.den_intCast]
    exact Nat.one_lt_two_pow (by omega)
/-! ### comprehensions step by step -/
section
variable {gd : Option (Nat × List Da)} {D : Nat} {g : Gv} {tt : Tv} {fe : Ev} {ρ0 ρ1 : En} {d : Da} {ds : List Da} {h h1 h2 h3 h4 : Hh} {v : Vl}
theorem lcL_nil (e : gdOk gd h) : lcL gd D g tt fe ρ0 [] h = .ok (.r D) h := by
  unfold lcL
  rw [if_pos e]
theorem lcL_cons (e : gdOk gd h) (eg : g (.d d) ρ0 h = some (ρ1, h1)) (et : tt ρ1 h1 = .ok true h2) (ef : fe ρ1 h2 = .ok v h3) (ea : appL D v h3 = some h4) : lcL gd D g tt fe ρ0 (d :: ds) h = lcL gd D g tt fe ρ0 ds h4 := by
  rw [lcL]
  rw [if_pos e, eg]
  dsimp only
  rw [et]
  dsimp only
  rw [ef]
  dsimp only
  rw [ea]
theorem appL_end {acc : List Da} {x : Da} {n : Nat} (hn : h.length = n) (hl : acc.length < 16777216) : appL n (.d x) (h ++ [some (.lst acc)]) = some (h ++ [some (.lst (acc ++ [x]))]) := by
  subst hn
  unfold appL fz
  dsimp only [Option.bind_some]
  rw [get_end]
  dsimp only
  rw [if_pos (fitB_ok (by omega)), set_at]
end
end Rk
namespace Rk
open PySem PySem.Spec L2
section
variable {h : Hh} {n : Nat} {l : List Da}
theorem asL_at (e : h[n]? = some (some (.lst l))) : asL (.r n) h = some l := by
  unfold asL
  dsimp only
  rw [e]
theorem tyL_at (e : h[n]? = some (some (.lst l))) : tyL (.r n) h = true := by
  unfold tyL
  rw [asL_at e]
  rfl
theorem gApp_at {d : Da} (e : h[n]? = some (some (.lst l))) (hl : l.length < 16777216) : gApp (.r n) [.d d] h = some (.d .none, h.set n (some (.lst (l ++ [d])))) := by
  unfold gApp appL fz
  dsimp only [Option.bind_some]
  rw [e]
  dsimp only
  rw [if_pos (fitB_ok (by omega))]
  rfl
end
end Rk
namespace Rk
end Rk
namespace Rk
open PySem PySem.Spec L2
def ways : List Da := [.str "near", .str "down", .str "up", .str "nought"]
end Rk

/-! Rk13: repr of data. -/
namespace Rk
open PySem PySem.Spec L2
variable {mg : Str → Option Value}
def rRepr (K : PySem.W.Frag) (xs : List V) (H : Hp) (Q : VK) : Prop := ∃ x d, xs = [x] ∧ Dp K H x d ∧ d.showable = true ∧ d.hasDict = false ∧ d.depth ≤ 60 ∧ d.shown.length ≤ sizeLine ∧ Q (.str d.shown) H
theorem call_repr {X : Cx} (hg : X.A.guards = some []) (hu : X.A.units + 64 < cLine) : CallR X (.builtin "repr") (rRepr X.K) := by
  intro pins s σ H xs us Q I r h
  obtain ⟨x, d, rfl, dp, sh, nd, dd, sz, q⟩ := h
  cases r with
  | cons r1 r2 =>
    cases r2
    obtain ⟨as, rd⟩ := Dp.reads I d x _ dp r1
    have big : ∀ a, Reads s.heap (.ref a) d as → wpAny (model X.prog X.w) X.A (call (.builtin "repr") [.ref a]) (EP X pins σ Q) X.xe s := fun a rd =>
      repr_of_reads' rd sh (fun z => by rw [nd] at z; cases z) hg (by omega) (fun _ _ e => e) (fun h' u tk hk => ⟨.str _, H, I.kept (t' := tk) hk, ⟨_, rfl⟩, q⟩) sz
    cases rd with
    | none => exact PySem.P.repr_of_none ⟨.str _, H, I.tok _, ⟨_, rfl⟩, q⟩
    | bool b => exact PySem.P.repr_of_bool ⟨.str _, H, I.tok _, ⟨_, rfl⟩, q⟩
    | int i t => exact PySem.P.repr_of_int (of_decide_eq_true sh) ⟨.str _, H, I.tok _, ⟨_, rfl⟩, q⟩
    | str z t => exact PySem.P.repr_of_str ⟨.str _, H, I.tok _, ⟨_, rfl⟩, q⟩ sz
    | list a b c e => exact big _ (.list a b c e)
    | tuple a b c e => exact big _ (.tuple a b c e)
    | dict a b c e f => exact big _ (.dict a b c e f)
def gRepr : GC := fun as h => match as with
  | [x] => match asD x h with
    | some d => if d.showable && !d.hasDict && decide (d.depth ≤ 60) && fitB d.shown.length then some (.d (.str d.shown), h) else none
    | none => none
  | _ => none
theorem ok_repr {K : PySem.W.Frag} : OkC K mg (rRepr K) gRepr := by
  intro φ h H xs as Q v h' sm rs e k
  unfold gRepr at e
  split at e
  · rename_i a
    obtain ⟨x, rfl, rx⟩ := rs.one
    split at e
    · rename_i d ed
      split at e
      · rename_i hc
        cases e
        rw [Bool.and_eq_true, Bool.and_eq_true, Bool.and_eq_true] at hc
        obtain ⟨⟨⟨h1, h2⟩, h3⟩, h4⟩ := hc
        exact ⟨x, d, rfl, asD_ok sm rx ed (by simpa using h2), h1, by simpa using h2, of_decide_eq_true h3, fitB_le h4, k _ H φ (Step.refl _ _ _) sm (Rep.str _)⟩
      · cases e
    · cases e
  · cases e
end Rk

/-! Rk14: dicts. -/
namespace Rk
open PySem PySem.Spec L2
variable {mg : Str → Option Value}
def keyOf : Vl → Option Key
  | .d (.int i) => some (.inl i)
  | .d (.str x) => some (.inr x)
  | _ => none
def putD (kds : List (Key × Da)) (k : Key) (d : Da) : List (Key × Da) :=
  if (kds.any fun kv => decide (kv.1 = k)) = true then kds.map (fun kv => if kv.1 = k then (kv.1, d) else kv) else kds ++ [(k, d)]
section
variable {K : PySem.W.Frag}
theorem keyOf_ok {φ : List Addr} {h : Hh} {H : Hp} {y : V} {v : Vl} {k : Key} (r : VRep K mg φ h H y v) (e : keyOf v = some k) : y = kV k := by
  unfold keyOf at e
  split at e
  · cases e
    exact VRep.int r
  · cases e
    exact VRep.str r
  · cases e
section
variable {H : Hp} {M : Addr → Prop}
theorem KvRep.length : ∀ {vs : List (Key × V)} {ds : List (Key × Da)}, KvRep K H M vs ds → vs.length = ds.length
  | _, _, .nil => rfl
  | _, _, .cons _ t => by rw [List.length_cons, List.length_cons, KvRep.length t]
theorem KvRep.get : ∀ {vs : List (Key × V)} {ds : List (Key × Da)} {k : Key}, KvRep K H M vs ds → (valV vs k = none ∧ valD ds k = none) ∨ ∃ v d, valV vs k = some v ∧ valD ds k = some d ∧ Rep K H M v d
  | _, _, _, .nil => .inl ⟨rfl, rfl⟩
  | _, _, k, .cons (k := k0) (v := v) (d := d) r t => by
    by_cases e : k0 = k
    · refine .inr ⟨v, d, valV_pos e, ?_, r⟩
      simp [valD, List.find?_cons, e]
    · have e1 : ∀ l : List (Key × Da), valD ((k0, d) :: l) k = valD l k := fun l => by simp [valD, List.find?_cons, e]
      have e2 : ∀ l : List (Key × V), valV ((k0, v) :: l) k = valV l k := fun l => valV_neg (p := (k0, v)) e
      rw [e1, e2]
      exact KvRep.get t
theorem KvRep.any : ∀ {vs : List (Key × V)} {ds : List (Key × Da)} {k : Key}, KvRep K H M vs ds → (vs.any fun kv => decide (kv.1 = k)) = (ds.any fun kv => decide (kv.1 = k))
  | _, _, _, .nil => rfl
  | _, _, _, .cons r t => by rw [List.any_cons, List.any_cons, KvRep.any t]
theorem KvRep.map {k : Key} {v : V} {d : Da} (q : Rep K H M v d) : ∀ {vs : List (Key × V)} {ds : List (Key × Da)}, KvRep K H M vs ds → KvRep K H M (vs.map fun kv => if kv.1 = k then (kv.1, v) else kv) (ds.map fun kv => if kv.1 = k then (kv.1, d) else kv)
  | _, _, .nil => .nil
  | _, _, .cons (k := k0) r t => by
    rw [List.map_cons, List.map_cons]
    by_cases e : k0 = k
    · rw [if_pos e, if_pos e]
      exact .cons q (KvRep.map q t)
    · rw [if_neg e, if_neg e]
      exact .cons r (KvRep.map q t)
theorem KvRep.snoc {k : Key} {v : V} {d : Da} (q : Rep K H M v d) : ∀ {vs : List (Key × V)} {ds : List (Key × Da)}, KvRep K H M vs ds → KvRep K H M (vs ++ [(k, v)]) (ds ++ [(k, d)])
  | _, _, .nil => .cons q .nil
  | _, _, .cons r t => .cons r (KvRep.snoc q t)
theorem KvRep.put {k : Key} {v : V} {d : Da} (q : Rep K H M v d) {vs : List (Key × V)} {ds : List (Key × Da)} (r : KvRep K H M vs ds) : KvRep K H M (putK vs k v) (putD ds k d) := by
  unfold putK putD
  rw [r.any]
  split
  · exact r.map q
  · exact r.snoc q
end
theorem Sim.atD {φ : List Addr} {h : Hh} {H : Hp} {n : Nat} {a : Addr} {kds : List (Key × Da)} (sm : Sim K φ h H) (e : h[n]? = some (some (.dct kds))) (ea : φ[n]? = some a) : ∃ kvs, H a = some (.dK kvs) ∧ KvRep K H (Live φ h) kvs kds := by
  obtain ⟨b, e1, r⟩ := sm.ob n _ e
  rw [ea] at e1
  cases e1
  exact r
/-! ### d[k] -/
def gDG : G2 := fun x y h => match x, keyOf y with
  | .r n, some k => match h[n]? with
    | some (some (.dct kds)) => (valD kds k).map fun d => (.d d, h)
    | _ => none
  | _, _ => none
def rDG : R2 := fun x y H Q => ∃ a v, x = .ref a ∧ DGet H a y (some v) ∧ Q v H
theorem ok_dg : Ok2 K mg rDG gDG := by
  intro φ h H x y a b Q v h' sm rx ry e k
  unfold gDG at e
  split at e
  · rename_i n key ek
    split at e
    · rename_i kds en
      obtain ⟨p, ep, rfl⟩ := rx
      obtain ⟨kvs, eh, rk⟩ := sm.atD en ep
      rcases rk.get (k := key) with ⟨_, z⟩ | ⟨w, d, e1, e2, r⟩
      · rw [z] at e; cases e
      · rw [e2] at e
        cases e
        rw [keyOf_ok ry ek]
        refine ⟨p, w, rfl, ?_, k w H φ (Step.refl _ _ _) sm r⟩
        rw [← e1]
        exact DGet.k eh
    · cases e
  · cases e
/-- either -/
def gIy : G2 := fun x y h => match gDG x y h with
  | some r => some r
  | none => gIx x y h
end
section
variable {X : Cx} {W : WX} {a b : Expr} {fa fb : Ev} {pos : Pos}
theorem ee_dg (hu : X.A.units + 64 < cLine) (ha : EE X W a fa) (hb : EE X W b fb) (hs : NoSl b := by exact fun _ _ => rfl) : EE X W (.Subscript a b pos) (eOp gDG fa fb) :=
  PE.of (pe_dget (by omega) ha hb hs) fun σ H Q hf => tOp_ok (r := rDG) ok_dg hf
theorem PE.or {e : Expr} {t t' : TE} (h : PE X e t) (h' : PE X e t') : PE X e (fun σ H Q => t σ H Q ∨ t' σ H Q) := ⟨fun pins s σ H Q I w => w.elim (h.run pins s σ H Q I) (h'.run pins s σ H Q I)⟩
end
/-! ### d[k] = v -/
def setD (o i v : Vl) (h : Hh) : Option Hh := match o, keyOf i, fz v h with
  | .r n, some k, some (d, h1) => match h1[n]? with
    | some (some (.dct kds)) => if fitB (kds.length + 1) = true then some (h1.set n (some (.dct (putD kds k d)))) else none
    | _ => none
  | _, _, _ => none
def gSetD (o ix : Ev) : Gv := fun v ρ h => (okO (o ρ h)).bind fun p => (okO (ix ρ p.2)).bind fun q => (setD p.1 q.1 v q.2).map fun h' => (ρ, h')
theorem setD_ok {K : PySem.W.Frag} {φ : List Addr} {h h' : Hh} {H : Hp} {x y z : V} {o i v : Vl} (sm : Sim K φ h H) (rx : VRep K mg φ h H x o) (ry : VRep K mg φ h H y i) (rz : VRep K mg φ h H z v) (e : setD o i v h = some h') :
    ∃ a H', x = .ref a ∧ DPut H a y z H' ∧ Step φ h H φ h' H' ∧ Sim K φ h' H' := by
  unfold setD at e
  split at e
  · rename_i n kk d h1 ek ef
    obtain ⟨s1, s2, s3⟩ := fz_ok sm rz ef
    split at e
    · rename_i kds en
      split at e
      · rename_i ft
        cases e
        obtain ⟨a, ea, rfl⟩ := rx
        obtain ⟨kvs, eh, rk⟩ := s2.atD en ea
        obtain ⟨t1, t2⟩ := s2.write (ob := .dct (putD kds kk d)) (u := .dK (putK kvs kk z)) en ea fun M st => ⟨_, upd_same, KvRep.put (s3.stay st) (rk.stay st)⟩
        rw [keyOf_ok ry ek]
        refine ⟨a, _, rfl, DPut.k eh ?_, s1.trans t1, t2⟩
        have := fitB_le ft
        rw [rk.length]
        omega
      · cases e
    · cases e
  · cases e
section
variable {X : Cx} {W : WX} {o ix e : Expr} {fo fi fe : Ev} {pos pos' : Pos}
theorem PoS.atE {K : PySem.W.Frag} {mg : Str → Option Value} {φ : List Addr} {h : Hh} {H : Hp} {ρ : En} {σ : L2.St} {D : Ends} {W : WX} {f : Ev} {g : Vl → Hh → So} (er : ERep K mg φ h H σ ρ) (q : PoS K mg φ h H (Out.then ρ (f ρ h) g) D W) (sm : Sim K φ h H)
    {Q : VK} (k : ∀ x v h1 H1 φ1, f ρ h = .ok v h1 → Step φ h H φ1 h1 H1 → Sim K φ1 h1 H1 → VRep K mg φ1 h1 H1 x v → PoS K mg φ1 h1 H1 (g v h1) D W → Q x H1) : tE K mg W f σ H Q := by
  refine ⟨φ, h, ρ, sm, er, ?_⟩
  revert q
  cases ef : f ρ h with
  | ok v h1 => exact fun q x H1 φ1 st sm1 rv => k x v h1 H1 φ1 ef st sm1 rv (PoS.pull st q)
  | ex c fs h1 => exact fun q cls dd H' φ' st sm' xr => q cls dd σ H' φ' st sm' (er.step st) xr
  | no => exact fun q => q
theorem es_dput (hu : X.A.units + 64 < cLine) (ho : EE X W o fo) (hi : EE X W ix fi) (he : EE X W e fe) (hs : swapsWith e (some (.Subscript o ix pos')) pos.line X.env = pure false := by rfl) :
    ES X W (.Assign [.Subscript o ix pos'] e pos) (sAsg (gSetD fo fi) fe) :=
  PS.of (ps_dput (by omega) ho hi he hs) fun D σ H ⟨φ, h, ρ, sm, er, q⟩ => by
    refine PoS.atE er q sm fun z v h1 H1 φ1 e1 st1 sm1 rv q1 => ?_
    have er1 := er.step st1
    cases e2 : okO (fo ρ h1) with
    | none => unfold gSetD at q1; rw [e2] at q1; exact q1.elim
    | some p =>
      obtain ⟨ov, h2⟩ := p
      refine ⟨φ1, h1, ρ, sm1, er1, ?_⟩
      rw [okO_some e2]
      intro x H2 φ2 st2 sm2 rx
      cases e3 : okO (fi ρ h2) with
      | none => unfold gSetD at q1; rw [e2] at q1; dsimp only [Option.bind_some] at q1; rw [e3] at q1; exact q1.elim
      | some p3 =>
        obtain ⟨iv, h3⟩ := p3
        refine ⟨φ2, h2, ρ, sm2, er1.step st2, ?_⟩
        rw [okO_some e3]
        intro y H3 φ3 st3 sm3 ry
        cases e4 : setD ov iv v h3 with
        | none => unfold gSetD at q1; rw [e2] at q1; dsimp only [Option.bind_some] at q1; rw [e3] at q1; dsimp only [Option.bind_some] at q1; rw [e4] at q1; exact q1.elim
        | some h4 =>
          unfold gSetD at q1
          rw [e2] at q1
          dsimp only [Option.bind_some] at q1
          rw [e3] at q1
          dsimp only [Option.bind_some] at q1
          rw [e4] at q1
          obtain ⟨a, H4, e5, dp, st4, sm4⟩ := setD_ok sm3 (rx.step st3) ry ((rv.step st2).step st3) e4
          have st := (st2.trans st3).trans st4
          exact ⟨a, H4, e5, dp, q1 σ H4 φ3 st sm4 (er1.step st)⟩
end
/-! ### {k: v, ..} -/
abbrev Pv := En → Hh → Out (List (Key × Da))
def pNil : Pv := fun _ h => .ok [] h
def pCons (k v : Ev) (r : Pv) : Pv := fun ρ h => (k ρ h).bind fun x h1 => (v ρ h1).bind fun y h2 => (r ρ h2).bind fun l h3 => match keyOf x, fz y h3 with
  | some kk, some (d, h4) => .ok ((kk, d) :: l) h4
  | _, _ => .no
def eDct (p : Pv) : Ev := fun ρ h => (p ρ h).bind fun l h1 => if l.length ≤ 15 then .ok (.r h1.length) (h1 ++ [some (.dct (l.foldl (fun acc kv => putD acc kv.1 kv.2) []))]) else .no
end Rk

/-! Rk15: dict displays. -/
namespace Rk
open PySem PySem.Spec L2
def hdel (H : Hp) (p : Addr) : Hp := fun b => if b = p then none else H b
theorem del_ne {H : Hp} {p b : Addr} (h : b ≠ p) : hdel H p b = H b := if_neg h
theorem del_at {H : Hp} {p : Addr} : hdel H p p = none := if_pos rfl
theorem upd_del {H : Hp} {p : Addr} {u : HO} : upd (hdel H p) p u = upd H p u := by
  funext b
  by_cases e : b = p
  · subst e
    rw [upd_same, upd_same]
  · rw [upd_ne e, upd_ne e, del_ne e]
section
variable {K : PySem.W.Frag} {H : Hp} {p : Addr} {l : List (Key × V)}
theorem rd_del {a : Addr} {u : HO} (hp : H p = some (.dK l)) (hu : ∀ l', u ≠ .dK l') (h : Rd H a u) : Rd (hdel H p) a u := by
  have ne : a ≠ p := fun e => by
    subst e
    rcases h with h | ⟨o, h⟩
    · rw [hp] at h
      cases h
      exact hu _ rfl
    · rw [hp] at h
      cases h
  rcases h with h | ⟨o, h⟩
  · exact .inl (by rw [del_ne ne]; exact h)
  · exact .inr ⟨o, by rw [del_ne ne]; exact h⟩
mutual
theorem repDel {K : PySem.W.Frag} {H : Hp} {p : Addr} {M : Addr → Prop} (hp : H p = some (.dK [])) : ∀ {v : V} {d : Da}, Rep K H M v d → Rep K (hdel H p) M v d
  | _, _, .non => .non
  | _, _, .bl b => .bl b
  | _, _, .int i => .int i
  | _, _, .str x => .str x
  | _, _, .tup h n r => .tup (rd_del hp (fun _ z => by cases z) h) n (repsDel hp r)
  | _, _, .tupK h r => .tupK h (repsDel hp r)
  | _, _, .lst h n r => .lst (rd_del hp (fun _ z => by cases z) h) n (repsDel hp r)
  | _, _, .lstK h r => .lstK h (repsDel hp r)
  | _, _, .dct0 h n => .dct0 (by
    rw [del_ne fun e => by
      rw [e, hp] at h
      cases h]
    exact h) n
  | _, _, .dct h n ne r e => .dct (by
    rw [del_ne fun z => by
      rw [z, hp] at h
      cases h
      exact ne rfl]
    exact h) n ne (repsDel hp r) e
  | _, _, .fn x => .fn x
  | _, _, .plt h e n r => .plt (by
    rw [del_ne fun z => by
      rw [z, hp] at h
      cases h]
    exact h) e n (repsDel hp r)
theorem repsDel {K : PySem.W.Frag} {H : Hp} {p : Addr} {M : Addr → Prop} (hp : H p = some (.dK [])) : ∀ {v : List V} {d : List Da}, Reps K H M v d → Reps K (hdel H p) M v d
  | _, _, .nil => .nil
  | _, _, .cons r t => .cons (repDel hp r) (repsDel hp t)
end
theorem KvRep.del {M : Addr → Prop} (hp : H p = some (.dK [])) : ∀ {v : List (Key × V)} {d : List (Key × Da)}, KvRep K H M v d → KvRep K (hdel H p) M v d
  | _, _, .nil => .nil
  | _, _, .cons r t => .cons (repDel hp r) (KvRep.del hp t)
theorem Sim.del {φ : List Addr} {h : Hh} (sm : Sim K φ h H) (hp : H p = some (.dK [])) (nl : ¬ Live φ h p) : Sim K φ h (hdel H p) := by
  refine ⟨sm.len, sm.inj, fun i o e => ?_, fun i ns e => ?_⟩
  rotate_left
  · obtain ⟨a, as, e1, e2, e3, e4⟩ := sm.rf i ns e
    have ne : a ≠ p := fun z => nl (by rw [← z]; exact ⟨i, _, e1, e⟩)
    exact ⟨a, as, e1, by rw [del_ne ne]; exact e2, e3, e4⟩
  obtain ⟨a, e1, r⟩ := sm.ob i o e
  have ne : a ≠ p := fun z => nl (z ▸ ⟨i, o, e1, e⟩)
  refine ⟨a, e1, ?_⟩
  cases o with
  | lst ds =>
    obtain ⟨xs, h1, h2⟩ := r
    exact ⟨xs, by rw [del_ne ne]; exact h1, repsDel hp h2⟩
  | dct ds =>
    obtain ⟨xs, h1, h2⟩ := r
    exact ⟨xs, by rw [del_ne ne]; exact h1, h2.del hp⟩
  | rl ns =>
    obtain ⟨xs, h1⟩ := r
    exact ⟨xs, by rw [del_ne ne]; exact h1⟩
  | tbl x =>
    obtain ⟨c, ps, h1, h2, h3, h4⟩ := r
    refine ⟨c, ps, h1, by rw [del_ne ne]; exact h2, h3, fun pos cv z => (h4 pos cv z).imp fun c' w => ⟨w.1, ?_⟩⟩
    rw [del_ne fun y => by
      rw [y, hp] at w
      have w2 := Option.some.inj w.2
      unfold LamX.CodeO at w2
      cases w2]
    exact w.2
end
def PoP (K : PySem.W.Frag) (mg : Str → Option Value) (φ : List Addr) (h : Hh) (H : Hp) (o : Out (List (Key × Da))) (Q : List (V × V) → Hp → Prop) (E : XK) : Prop := match o with
  | .ok l h' => ∀ kvs H' φ', Step φ h H φ' h' H' → Sim K φ' h' H' → KvRep K H' (Live φ' h') kvs l → Q (kvs.map fun kv => (kV kv.1, kv.2)) H'
  | .ex c fs h' => ∀ cls dd H' φ', Step φ h H φ' h' H' → Sim K φ' h' H' → XRep K mg H' (Live φ' h') c fs cls dd → E cls dd H'
  | .no => False
theorem PoP.pull {K : PySem.W.Frag} {mg : Str → Option Value} {φ φ1 : List Addr} {h h1 : Hh} {H H1 : Hp} {o : Out (List (Key × Da))} {Q : List (V × V) → Hp → Prop} {E : XK} (s : Step φ h H φ1 h1 H1) (q : PoP K mg φ h H o Q E) : PoP K mg φ1 h1 H1 o Q E := by
  cases o with
  | ok l h' => exact fun kvs H' φ' st => q kvs H' φ' (s.trans st)
  | ex c fs h' => exact fun cls dd H' φ' st => q cls dd H' φ' (s.trans st)
  | no => exact q
def EP_ (X : Cx) (W : WX) (pos : Pos) (ks : List (Option Expr)) (vs : List Expr) (f : Pv) : Prop :=
  ∃ trs, PPs X pos ks vs trs ∧ ∀ σ H Q φ h ρ, Sim X.K φ h H → ERep X.K X.mg φ h H σ ρ → PoP X.K X.mg φ h H (f ρ h) Q (WE W σ) → tPairs trs σ H Q
section
variable {X : Cx} {W : WX} {pos : Pos} {ks : List (Option Expr)} {vs : List Expr} {k v : Expr} {fk fv : Ev} {fr : Pv}
theorem ep_nil : EP_ X W pos [] [] pNil := ⟨[], pps_nil, fun σ H Q φ h ρ sm er q => q [] H φ (Step.refl _ _ _) sm .nil⟩
theorem ep_cons (hk : EE X W k fk) (hv : EE X W v fv) (hr : EP_ X W pos ks vs fr) : EP_ X W pos (some k :: ks) (v :: vs) (pCons fk fv fr) := by
  obtain ⟨trs, P, R⟩ := hr
  refine ⟨_, pps_cons hk hv P, fun σ H Q φ h ρ sm er q => ⟨φ, h, ρ, sm, er, ?_⟩⟩
  unfold pCons at q
  revert q
  cases fk ρ h with
  | no => exact fun q => q
  | ex c fs h1 => exact fun q => q
  | ok x h1 =>
    intro q kx H1 φ1 st1 sm1 rx
    have q1 := PoP.pull st1 q
    refine ⟨φ1, h1, ρ, sm1, er.step st1, ?_⟩
    simp only [Out.bind_ok] at q1
    revert q1
    cases fv ρ h1 with
    | no => exact fun q => q
    | ex c fs h2 => exact fun q => q
    | ok y h2 =>
      intro q1 ky H2 φ2 st2 sm2 ry
      have q2 := PoP.pull st2 q1
      refine R σ H2 _ φ2 h2 ρ sm2 ((er.step st1).step st2) ?_
      simp only [Out.bind_ok] at q2
      revert q2
      cases fr ρ h2 with
      | no => exact fun q => q
      | ex c fs h3 => exact fun q => q
      | ok l h3 =>
        intro q2 kvs H3 φ3 st3 sm3 rl
        have q3 := PoP.pull st3 q2
        simp only [Out.bind_ok] at q3
        split at q3
        · rename_i kk d h4 ek ef
          obtain ⟨s1, s2, s3⟩ := fz_ok sm3 (ry.step st3) ef
          rw [keyOf_ok rx ek]
          exact q3 ((kk, ky) :: kvs) H3 φ3 s1 s2 (.cons s3 (rl.stay s1.st))
        · exact q3.elim
theorem merge_rep {K : PySem.W.Frag} {H : Hp} {M : Addr → Prop} : ∀ {vs : List (Key × V)} {ds : List (Key × Da)} {as : List (Key × V)} {bs : List (Key × Da)}, KvRep K H M vs ds → KvRep K H M as bs → KvRep K H M (mergeK as vs) (ds.foldl (fun acc kv => putD acc kv.1 kv.2) bs)
  | _, _, _, _, .nil, r => r
  | _, _, _, _, .cons (k := kk) q t, r => by
    have z := merge_rep t (KvRep.put (k := kk) q r)
    exact z
theorem ee_dct {fp : Pv} (h : EP_ X W pos ks vs fp) (h0 : ks ≠ [] := by exact nofun) (hall : ks.all (·.isSome) = true := by rfl) (hl : ks.length = vs.length := by rfl) (h15 : ks.length ≤ 15 := by decide) : EE X W (.Dict ks vs pos) (eDct fp) := by
  obtain ⟨trs, P, R⟩ := h
  refine PE.of (pe_disp P hall hl h0 h15) fun σ H Q ⟨φ, h, ρ, sm, er, q⟩ p hp => ?_
  obtain ⟨g1, g2⟩ := sm.grow (o := .dK []) hp
  have np := sm.fresh hp
  refine R σ _ _ φ h ρ g2 (er.step g1) ?_
  unfold eDct at q
  revert q
  cases fp ρ h with
  | no => exact fun q => q
  | ex c fs h1 => exact fun q cls dd H' φ' st => q cls dd H' φ' (g1.trans st)
  | ok l h1 =>
    intro q kvs H2 φ2 st2 sm2 rl
    simp only [Out.bind_ok] at q
    split at q
    · rename_i hlen
      have e2 : H2 p = some (.dK []) := (st2.st p _ upd_same nofun np).1
      have n2 : ¬ Live φ2 h1 p := (st2.st p _ upd_same nofun np).2
      refine ⟨e2, kvs, rfl, by rw [rl.length]; exact hlen, ?_⟩
      have smd := sm2.del e2 n2
      have std : Step φ h H φ2 h1 (hdel H2 p) := ⟨(g1.trans st2).pre, fun a o ea nt na => by
        have z := (g1.trans st2).st a o ea nt na
        have ne : a ≠ p := fun w => by rw [w, hp] at ea; cases ea
        exact ⟨by rw [del_ne ne]; exact z.1, z.2⟩⟩
      obtain ⟨s1, s2, s3⟩ := smd.new (ob := .dct (l.foldl (fun acc kv => putD acc kv.1 kv.2) [])) (o := .dK (mergeK [] kvs)) del_at fun M st => ⟨_, upd_same, merge_rep ((rl.del e2).stay st) .nil⟩
      rw [upd_del] at s1 s2 s3
      exact q _ _ _ (std.trans s1) s2 s3
    · exact q.elim
end
end Rk

/-! Rk16: slices of lists with a step. -/
namespace Rk
open PySem PySem.Spec L2 PyProof.Rows
def pickG {α : Type} (xs : List α) (lo hi st : Option Int) : List α :=
  (sliceRange (sliceBounds lo hi st xs.length).1 (sliceBounds lo hi st xs.length).2.1 (sliceBounds lo hi st xs.length).2.2).filterMap (xs[·]?)
theorem Vals.get_some : ∀ {xs : List V} {us : List Value}, Vals xs us → ∀ i : Nat, (xs[i]? = none ∧ us[i]? = none) ∨ ∃ x u, xs[i]? = some x ∧ us[i]? = some u ∧ RelV x u
  | _, _, .nil, i => .inl (by simp)
  | _, _, .cons r t, 0 => .inr ⟨_, _, rfl, rfl, r⟩
  | _, _, .cons r t, i + 1 => by simpa using Vals.get_some t i
theorem vals_pick {xs : List V} {us : List Value} (r : Vals xs us) : ∀ is : List Nat, Vals (is.filterMap (xs[·]?)) (is.filterMap (us[·]?))
  | [] => .nil
  | i :: is => by
    rcases Vals.get_some r i with ⟨e1, e2⟩ | ⟨x, u, e1, e2, q⟩
    · rw [List.filterMap_cons, List.filterMap_cons]
      simp only [e1, e2]
      exact vals_pick r is
    · rw [List.filterMap_cons, List.filterMap_cons]
      simp only [e1, e2]
      exact .cons q (vals_pick r is)
theorem reps_pick {K : PySem.W.Frag} {H : Hp} {M : Addr → Prop} {xs : List V} {ds : List Da} (r : Reps K H M xs ds) : ∀ is : List Nat, Reps K H M (is.filterMap (xs[·]?)) (is.filterMap (ds[·]?))
  | [] => .nil
  | i :: is => by
    have hl := r.length
    rw [List.filterMap_cons, List.filterMap_cons]
    cases e : ds[i]? with
    | none =>
      have : xs[i]? = none := by
        rw [List.getElem?_eq_none_iff] at e ⊢
        omega
      simp only [this]
      exact reps_pick r is
    | some d =>
      obtain ⟨v, e1, q⟩ := Reps.get r e
      simp only [e1]
      exact .cons q (reps_pick r is)
theorem Reps.pickG {K : PySem.W.Frag} {H : Hp} {M : Addr → Prop} {xs : List V} {ds : List Da} (r : Reps K H M xs ds) (lo hi st : Option Int) : Reps K H M (Rk.pickG xs lo hi st) (Rk.pickG ds lo hi st) := by
  unfold Rk.pickG
  rw [r.length]
  exact reps_pick r _
def tStep (K : PySem.W.Frag) (te : TE) (tl th ts : TO) : TE := fun σ H Q => te σ H fun x H1 => tl σ H1 fun lo H2 => th σ H2 fun hi H3 => ts σ H3 fun st H4 => ∃ a xs, x = .ref a ∧ SqL K H4 a xs ∧ st ≠ some 0 ∧ (pickG xs lo hi st).length ≤ sizeLine ∧ ∀ p, H4 p = none → Q (.ref p) (upd H4 p (.lst (pickG xs lo hi st)))
section
variable {X : Cx}
theorem pe_step {e : Expr} {lo hi : Option Expr} {st : Expr} {te : TE} {tl th ts : TO} {p3 pos : Pos} (he : PE X e te) (hl : PO X lo tl) (hh : PO X hi th) (hs : PO X (some st) ts) : PE X (.Subscript e (.Slice lo hi (some st) p3) pos) (tStep X.K te tl th ts) := by
  constructor
  intro pins s σ H Q I h
  refine Subscript_ (thn (he.run pins s σ H _ I h) ?_)
  rintro v s1 ⟨x, H1, I1, r1, q1⟩
  refine wpAny_Slice (thn (hl.run pins s1 σ H1 _ I1 q1) ?_)
  rintro vl s2 ⟨l, H2, I2, pl, q2⟩
  refine thn (hh.run pins s2 σ H2 _ I2 q2) ?_
  rintro vu s3 ⟨u, H3, I3, pu, q3⟩
  refine thn (hs.run pins s3 σ H3 _ I3 q3) ?_
  rintro vs s4 ⟨o, H4, I4, ps, a, xs, ex, hx, h0, hz, q⟩
  subst ex
  cases r1
  have I5 : Inv X pins σ H4 { s4 with heap := s4.heap.push { cls := .type "slice", data := .fields #[vl, vu, vs] } } := I4.kept (t' := s4.toks) fun b ob z => Heap.get?_push_of_some _ z
  obtain ⟨its, r, ht, hsz⟩ := I5.list hx
  have hlen := r.length
  refine tail_any (ops := [.ref a, .ref s4.heap.objs.size]) ht.isList.typeIs PySem.slot_list_getitem.lookup ?_ (by with_unfolding_all rfl)
  refine wpAny_getItem_list_slice ht.isList (Heap.IsSliceOf.new _ vl vu vs) pl pu ps h0 ?_ (by rw [List.size_toArray]; omega)
  have rv : Vals (pickG xs l u o) (slicePick its.toArray l u o).toList := by
    unfold slicePick pickG
    rw [List.size_toArray, hlen]
    simpa using vals_pick r _
  refine ⟨.ref _, _, I5.laid (t' := s4.toks) (o := .lst (pickG xs l u o)) (fun b ob z => Heap.get?_push_of_some _ z) (Nat.le_refl _) ?_, rfl, q _ (I5.hok.fresh (Nat.le_refl _))⟩
  refine ⟨hz, _, 0, rv, ?_⟩
  rw [Array.toArray_toList]
  exact Heap.get?_push_size _ rfl
end
def gSt (x : Vl) (lo hi st : Option Int) (h : Hh) : Option (Vl × Hh) := match asL x h with
  | some xs => if st ≠ some 0 ∧ (pickG xs lo hi st).length ≤ 16777216 then some (.r h.length, h ++ [some (.lst (pickG xs lo hi st))]) else none
  | none => none
def eSt (f : Ev) (lo hi st : Ov) : Ev := fun ρ h => (f ρ h).bind fun x h1 => (lo ρ h1).bind fun l h2 => (hi ρ h2).bind fun u h3 => (st ρ h3).bind fun t h4 => ofO (gSt x l u t h4)
section
variable {X : Cx} {W : WX} {a st : Expr} {fa : Ev} {pos p2 : Pos} {lo hi : Option Expr} {fl fh fs : Ov}
theorem ee_step (ha : EE X W a fa) (hl : EO X W lo fl) (hh : EO X W hi fh) (hs : EO X W (some st) fs) : EE X W (.Subscript a (.Slice lo hi (some st) p2) pos) (eSt fa fl fh fs) :=
  PE.of (pe_step ha hl hh hs) fun σ H Q ⟨φ, h, ρ, sm, er, q⟩ => ⟨φ, h, ρ, sm, er, PoX.goE q fun x v h1 H1 φ1 st1 sm1 rv q1 => ⟨φ1, h1, ρ, sm1, er.step st1, PoX.goO q1 fun l h2 H2 φ2 st2 sm2 q2 =>
    ⟨φ2, h2, ρ, sm2, (er.step st1).step st2, PoX.goO q2 fun u h3 H3 φ3 st3 sm3 q3 => ⟨φ3, h3, ρ, sm3, ((er.step st1).step st2).step st3, PoX.goO q3 fun t h4 H4 φ4 st4 sm4 q4 => by
      obtain ⟨z, h5, e5, k5⟩ := PoX.ofO q4
      unfold gSt at e5
      split at e5
      · rename_i xs ex
        split at e5
        · rename_i hc
          cases e5
          obtain ⟨p, zs, rfl, sq, rs⟩ := asL_ok sm4 (rv.step ((st2.trans st3).trans st4)) ex
          have rp := rs.pickG l u t
          refine ⟨p, zs, rfl, sq, hc.1, ?_, fun q hq => ?_⟩
          · rw [rp.length]
            exact fitB_le (fitB_ok hc.2)
          · obtain ⟨s1, s2, s3⟩ := new_list sm4 rp hq
            exact k5 _ _ _ s1 s2 s3
        · cases e5
      · cases e5⟩⟩⟩⟩
end
end Rk

/-! Rk17: a law's state in a dict. -/
namespace Rk
open PySem PySem.Spec L2
section
variable {a b c d v : Da}
def stD (a b c d : Da) : List (Key × Da) := [(.inr "cells", a), (.inr "left", b), (.inr "mixed", c), (.inr "at", d)]
end
section
variable {h : Hh} {n : Nat} {a b c d v : Da}
theorem dg_of {kds : List (Key × Da)} {x : Str} {w : Da} (e : h[n]? = some (some (.dct kds))) (ew : valD kds (.inr x) = some w) : gDG (.r n) (.d (.str x)) h = some (.d w, h) := by
  unfold gDG keyOf
  dsimp only
  rw [e]
  dsimp only
  rw [ew]
  rfl
theorem set_of {kds kds' : List (Key × Da)} {x : Str} (e : h[n]? = some (some (.dct kds))) (ep : putD kds (.inr x) v = kds') (hl : kds.length < 16777216) : setD (.r n) (.d (.str x)) (.d v) h = some (h.set n (some (.dct kds'))) := by
  unfold setD keyOf fz
  dsimp only
  rw [e]
  dsimp only
  rw [if_pos (fitB_ok (by omega)), ep]
end
end Rk
namespace Rk
open PySem PySem.Spec L2
theorem pick_map {α β : Type} (f : α → β) (xs : List α) (lo hi st : Option Int) : pickG (xs.map f) lo hi st = (pickG xs lo hi st).map f := by
  unfold pickG
  rw [List.length_map, List.map_filterMap]
  congr 1
  funext i
  simp
theorem pick_len {α : Type} (xs : List α) (lo hi st : Option Int) : (pickG xs lo hi st).length ≤ xs.length := by
  have h := slicePick_size_le (xs.map fun _ => Value.none).toArray lo hi st
  have e : (slicePick (xs.map fun _ => Value.none).toArray lo hi st).toList = pickG (xs.map fun _ => Value.none) lo hi st := by
    unfold slicePick pickG
    simp
  have l : (slicePick (xs.map fun _ => Value.none).toArray lo hi st).size = (pickG xs lo hi st).length := by
    rw [← Array.length_toList, e, pick_map, List.length_map]
  rw [l] at h
  simpa using h
theorem sh_ints (ns : List Int) : sh (.list (ns.map PyData.int)) = true := by
  have h1 : ∀ l : List Int, PyData.canLayAll0 (l.map PyData.int) = true := fun l => by
    induction l with
    | nil => rfl
    | cons a l ih => simp [PyData.canLayAll0, PyData.canLay0, ih]
  have h2 : ∀ l : List Int, PyData.depthAll (l.map PyData.int) ≤ 1 := fun l => by
    induction l with
    | nil => simp [PyData.depthAll]
    | cons a l ih => simp [PyData.depthAll, PyData.depth, ih]
  have h2' := h2 ns
  have h3 : ∀ l : List Int, PyData.hasDictAll (l.map PyData.int) = false := fun l => by
    induction l with
    | nil => rfl
    | cons a l ih => simp [PyData.hasDictAll, PyData.hasDict, ih]
  simp [sh, h3, SeqAt.shaped, PyData.hasDict, PyData.hasDictAll, PyData.canLay0, PyData.depth, h1]
  omega
theorem eqv_ints (ns ms : List Int) : PyData.eqv (.list (ns.map PyData.int)) (.list (ms.map PyData.int)) = decide (ns = ms) := by
  have h : ∀ ns ms : List Int, PyData.eqvAll (ns.map PyData.int) (ms.map PyData.int) = decide (ns = ms) := fun ns => by
    induction ns with
    | nil => intro ms; cases ms <;> simp [PyData.eqvAll]
    | cons a l ih =>
      intro ms
      cases ms with
      | nil => simp [PyData.eqvAll]
      | cons b m =>
        simp [PyData.eqvAll, ih, PyData.eqv]
        by_cases z : a = b <;> simp [z]
  simp only [PyData.eqv]
  exact h ns ms
end Rk
namespace Rk
open PySem PySem.Spec L2
section
variable {gd : Option (Nat × List Da)} {g : Gv} {tt : Tv} {fe : Ev} {ρ0 : En} {h : Hh}
end
end Rk
namespace Rk
open PySem PySem.Spec L2
end Rk

/-! Rk18: lists that are never changed: frozen at once. -/
namespace Rk
open PySem PySem.Spec L2
variable {mg : Str → Option Value}
def eFz (f : Ev) : Ev := fun ρ h => match f ρ h with
  | .ok v h1 => match fz v h1 with
    | some p => trunc h.length (.d p.1) p.2
    | none => .no
  | .ex c fs h1 => .ex c fs (h1.take h.length)
  | .no => .no
theorem ex_cut {K : PySem.W.Frag} {mg : Str → Option Value} {φ φ' : List Addr} {h h' : Hh} {H H' : Hp} {c : Str} {fs : List (Str × Da)} {cls : Value} {dd : Option Addr} (sm : Sim K φ h H) (st : Step φ h H φ' h' H') (sm' : Sim K φ' h' H') (xr : XRep K mg H' (Live φ' h') c fs cls dd) :
    Step φ h H φ (h'.take h.length) H' ∧ Sim K φ (h'.take h.length) H' ∧ XRep K mg H' (Live φ (h'.take h.length)) c fs cls dd := by
  obtain ⟨c1, c2⟩ := sm'.cut st.pre sm.len
  have st2 : Stay H' (Live φ' h') H' (Live φ (h'.take h.length)) := fun a u q _ nl => ⟨q, fun l => nl (c2 a l)⟩
  exact ⟨⟨List.prefix_refl _, st.st.trans st2⟩, c1, xr.cl, xr.no, fun z => by
    obtain ⟨a, vs, e1, e2, e3, e4⟩ := xr.yes z
    exact ⟨a, vs, e1, e2, fun l => e3 (c2 a l), e4.stay st2⟩⟩
section
variable {X : Cx} {W : WX} {e : Expr} {f : Ev}
theorem ee_fz (p : EE X W e f) : EE X W e (eFz f) :=
  PE.of p fun σ H Q ⟨φ, h, ρ, sm, er, q⟩ => ⟨φ, h, ρ, sm, er, by
    unfold eFz at q
    revert q
    cases f ρ h with
    | no => exact fun q => q
    | ex c fs h1 =>
      intro q cls dd H' φ' st sm' xr
      obtain ⟨a, b, c⟩ := ex_cut sm st sm' xr
      exact q cls dd H' φ a b c
    | ok v h1 =>
      intro q x H' φ' st sm' rv
      dsimp only at q
      split at q
      · rename_i p e
        obtain ⟨d, h2⟩ := p
        obtain ⟨s1, s2, s3⟩ := fz_ok sm' rv e
        exact trunc_ok (v := .d d) sm (st.trans s1) s2 s3 q
      · exact q.elim⟩
end
/-! ### a statement that stores a list -/
section
variable {K : PySem.W.Frag} {φ φ' : List Addr} {h h' : Hh} {H H' : Hp} {σ σ' : L2.St} {ρ ρ' : En}
/-- which objects a value tells of -/
def RefB (k : Nat) : Vl → Prop
  | .r m => m < k
  | .f D => ∀ j m : Nat, D.ρ[j]? = some (some (Vl0.r m)) → m < k
  | _ => True
theorem VRep.refB {v : V} {x : Vl} (r : VRep K mg φ h H v x) : RefB φ.length x := by
  cases x with
  | d z => trivial
  | x c fs => trivial
  | r m =>
    obtain ⟨a, ea, _⟩ := r
    exact (List.getElem?_eq_some_iff.mp ea).1
  | f D =>
    obtain ⟨_, _, _, _, e5⟩ := r
    intro j m e
    obtain ⟨x, _, a, ea, _⟩ := e5 j _ e
    exact (List.getElem?_eq_some_iff.mp ea).1
theorem ERep.refs (er : ERep K mg φ h H σ ρ) (j : Nat) (v : Vl) (e : ρ[j]? = some (some v)) : RefB φ.length v := by
  obtain ⟨x, _, r⟩ := er.at_ j _ e
  exact r.refB
theorem ERep.cut {n : Nat} (pre : φ <+: φ') (c2 : ∀ a, Live φ (h'.take n) a → Live φ' h' a) (er : ERep K mg φ' h' H' σ' ρ') (hr : ∀ (j : Nat) (v : Vl), ρ'[j]? = some (some v) → RefB φ.length v) : ERep K mg φ (h'.take n) H' σ' ρ' := by
  refine ⟨er.len, fun i v e => ?_⟩
  obtain ⟨x, e1, r⟩ := er.at_ i v e
  refine ⟨x, e1, ?_⟩
  cases v with
  | d z => exact Rep.stay (M := Live φ' h') (fun a u q _ nl => ⟨q, fun l => nl (c2 a l)⟩) r
  | x c fs =>
    obtain ⟨a, cls, dd, rfl, e1, e2, xr⟩ := r
    exact ⟨a, cls, dd, rfl, e1, fun l => e2 (c2 a l), xr.stay (M := Live φ' h') (fun a u q _ nl => ⟨q, fun l => nl (c2 a l)⟩)⟩
  | r m =>
    obtain ⟨a, ea, rfl⟩ := r
    have hm : m < φ.length := hr i _ e
    obtain ⟨t, rfl⟩ := pre
    rw [List.getElem?_append_left hm] at ea
    exact ⟨a, ea, rfl⟩
  | f D =>
    obtain ⟨f1, f2, f3, f4, f5⟩ := r
    have hm : ∀ j m : Nat, D.ρ[j]? = some (some (Vl0.r m)) → m < φ.length := hr i _ e
    refine ⟨f1, f2, fun l => f3 (c2 _ l), f4, fun j w z => ?_⟩
    obtain ⟨x, g1, g2⟩ := f5 j w z
    refine ⟨x, g1, ?_⟩
    cases w with
    | d z => exact Rep.stay (M := Live φ' h') (fun a u q _ nl => ⟨q, fun l => nl (c2 a l)⟩) g2
    | r m =>
      have hm := hm j m z
      obtain ⟨a, ea, rfl⟩ := g2
      obtain ⟨t, rfl⟩ := pre
      rw [List.getElem?_append_left hm] at ea
      exact ⟨a, ea, rfl⟩
end
section
variable {X : Cx} {W : WX} {s : Stmt} {f : Ev}
theorem es_fz {i : Nat} (p : ES X W s (sSet i f)) : ES X W s (sSet i (eFz f)) :=
  PS.of p fun D σ H ⟨φ, h, ρ, sm, er, q⟩ => ⟨φ, h, ρ, sm, er, by
    unfold sSet eFz at q
    unfold sSet
    revert q
    cases f ρ h with
    | no => exact fun q => q
    | ex c fs h1 =>
      intro q cls dd σ' H' φ' st sm' er' xr
      obtain ⟨a, b, c⟩ := ex_cut sm st sm' xr
      exact q cls dd σ' H' φ a b (er'.cut st.pre (sm'.cut st.pre sm.len).2 er.refs) c
    | ok v h1 =>
      intro q σ' H' φ' st sm' er'
      dsimp only at q
      split at q
      · rename_i p e
        obtain ⟨d, h2⟩ := p
        dsimp only [trunc] at q
        by_cases hi : i < ρ.length
        · obtain ⟨x, e1, rv⟩ := er'.at_ i v (by rw [List.getElem?_set_self hi])
          obtain ⟨s1, s2, s3⟩ := fz_ok sm' rv e
          have er2 := er'.step s1
          have st2 := st.trans s1
          obtain ⟨c1, c2⟩ := s2.cut st2.pre sm.len
          have st3 : Stay H' (Live φ' h2) H' (Live φ (h2.take h.length)) := fun a u q _ nl => ⟨q, fun l => nl (c2 a l)⟩
          have er3 : ERep X.K X.mg φ' h2 H' σ' (ρ.set i (some (.d d))) := by
            refine ⟨by rw [er2.len, List.length_set, List.length_set], fun j w e2 => ?_⟩
            by_cases hj : i = j
            · subst hj
              rw [List.getElem?_set_self hi] at e2
              have e3 := Option.some.inj (Option.some.inj e2)
              subst e3
              exact ⟨x, e1, s3⟩
            · rw [List.getElem?_set_ne hj] at e2
              exact er2.at_ j w (by rw [List.getElem?_set_ne hj]; exact e2)
          refine q σ' H' φ ⟨List.prefix_refl _, st2.st.trans st3⟩ c1 (er3.cut st2.pre c2 fun j m e2 => ?_)
          by_cases hj : i = j
          · subst hj
            rw [List.getElem?_set_self hi] at e2
            cases e2
            trivial
          · rw [List.getElem?_set_ne hj] at e2
            exact er.refs j m e2
        · have e0 : ∀ w : Vl, ρ.set i (some w) = ρ := fun w => List.set_eq_of_length_le (by omega)
          rw [e0] at er'
          have hf : ∃ s1 : Step φ' h1 H' φ' h2 H', Sim X.K φ' h2 H' := by
            unfold fz at e
            split at e
            · cases e
              exact ⟨Step.refl _ _ _, sm'⟩
            · split at e
              · cases e
                rename_i n h xs hn
                obtain ⟨a, ea, _⟩ := sm'.ob _ _ hn
                exact ⟨(sm'.freeze hn ea).1, (sm'.freeze hn ea).2.1⟩
              · cases e
            · cases e
          obtain ⟨s1, s2⟩ := hf
          have st2 := st.trans s1
          obtain ⟨c1, c2⟩ := s2.cut st2.pre sm.len
          have st3 : Stay H' (Live φ' h2) H' (Live φ (h2.take h.length)) := fun a u q _ nl => ⟨q, fun l => nl (c2 a l)⟩
          refine q σ' H' φ ⟨List.prefix_refl _, st2.st.trans st3⟩ c1 ?_
          rw [e0]
          exact (er'.step s1).cut st2.pre c2 er.refs
      · exact q.elim⟩
end
end Rk

/-! Rk19: what is wished behind an outcome, rule by rule. -/
namespace Rk
open PySem PySem.Spec L2
abbrev XP := Str → List (Str × Da) → Hh → Prop
def Wp0 {α : Type} (o : Out α) (Q : α → Hh → Prop) (E : XP) : Prop := match o with
  | .ok a h => Q a h
  | .ex c fs h => E c fs h
  | .no => False
structure Wp {α : Type} (o : Out α) (Q : α → Hh → Prop) (E : XP) : Prop where
  w : Wp0 o Q E
abbrev NX : XP := fun _ _ _ => False
structure Ds where
  rt : Vl → Hh → Prop
  bk : En → Hh → Prop
  ct : En → Hh → Prop
  ex : Str → List (Str × Da) → En → Hh → Prop
def Ws0 (s : So) (N : En → Hh → Prop) (D : Ds) : Prop := match s with
  | .nx ρ h => N ρ h
  | .rt v h => D.rt v h
  | .bk ρ h => D.bk ρ h
  | .ct ρ h => D.ct ρ h
  | .ex c fs ρ h => D.ex c fs ρ h
  | .no => False
structure Ws (s : So) (N : En → Hh → Prop) (D : Ds) : Prop where
  w : Ws0 s N D
def Wo {α : Type} (o : Option (α × Hh)) (Q : α → Hh → Prop) : Prop := match o with
  | some p => Q p.1 p.2
  | none => False
def BrK (b : Bool) (A B : Prop) : Prop := if b = true then A else B
def SetK (i : Nat) (ρ : En) (v : Vl) (h : Hh) (N : En → Hh → Prop) : Prop := N (ρ.set i (some v)) h
def TupK (vs : List Vl) (h : Hh) (Q : Vl → Hh → Prop) : Prop := ∃ ds h2, fzs vs h = some (ds, h2) ∧ fitB ds.length = true ∧ Q (.d (.tuple ds)) h2
def LstK (vs : List Vl) (h : Hh) (Q : Vl → Hh → Prop) : Prop := ∃ ds h2, fzs vs h = some (ds, h2) ∧ fitB ds.length = true ∧ Q (.r h2.length) (h2 ++ [some (.lst ds)])
def FzK (v : Vl) (h : Hh) (n : Nat) (Q : Vl → Hh → Prop) : Prop := ∃ d h2, fz v h = some (d, h2) ∧ Q (.d d) (h2.take n)
def TrK (v : Vl) (h : Hh) (K : Bool → Hh → Prop) : Prop := ∃ b, v = .d (.bool b) ∧ K b h
def RetK (n : Nat) (Q : Vl → Hh → Prop) (v : Vl) (h : Hh) : Prop := ∃ v' h', trunc n v h = .ok v' h' ∧ Q v' h'
section
variable {α β : Type} {o : Out α} {Q : α → Hh → Prop} {E : XP} {N : En → Hh → Prop} {D : Ds} {ρ : En} {h h1 : Hh} {b : Bool} {A B : Prop} {K : Bool → Hh → Prop}
theorem wp_eq {a : α} (e : o = .ok a h1) (q : Q a h1) : Wp o Q E := by rw [e]; exact ⟨q⟩
theorem wp_out (w : Wp o Q NX) : ∃ a h1, o = .ok a h1 ∧ Q a h1 := by
  cases o with
  | ok a h1 => exact ⟨a, h1, rfl, w.w⟩
  | ex c fs h1 => exact w.w.elim
  | no => exact w.w.elim
theorem Wp.mono {Q' : α → Hh → Prop} {E' : XP} (w : Wp o Q' E') (k : ∀ a h1, Q' a h1 → Q a h1) (k2 : ∀ c fs h1, E' c fs h1 → E c fs h1) : Wp o Q E := by
  cases o with
  | ok a h1 => exact ⟨k a h1 w.w⟩
  | ex c fs h1 => exact ⟨k2 c fs h1 w.w⟩
  | no => exact w.w.elim
theorem wp_bind {o : Out β} {k : β → Hh → Out α} (w : Wp o (fun a h1 => Wp (k a h1) Q E) E) : Wp (o.bind k) Q E := by
  cases o with
  | ok a h1 => exact w.w
  | ex c fs h1 => exact ⟨w.w⟩
  | no => exact w.w.elim
theorem ws_then {k : α → Hh → So} (w : Wp o (fun a h1 => Ws (k a h1) N D) (fun c fs h1 => D.ex c fs ρ h1)) : Ws (Out.then ρ o k) N D := by
  cases o with
  | ok a h1 => exact w.w
  | ex c fs h1 => exact ⟨w.w⟩
  | no => exact w.w.elim
theorem brk_t (a : A) : BrK true A B := a
theorem brk_f (a : B) : BrK false A B := a
theorem brk_not (w : BrK b B A) : BrK (!b) A B := by cases b <;> exact w
theorem brk_dec {p : Prop} [Decidable p] (ha : p → A) (hb : ¬ p → B) : BrK (decide p) A B := by
  by_cases z : p
  · rw [decide_eq_true z]; exact ha z
  · rw [decide_eq_false z]; exact hb z
theorem brk_dec0 {p : Prop} [Decidable p] (z : ¬ p) (hb : B) : BrK (decide p) A B := by
  rw [decide_eq_false z]; exact hb
theorem trk (q : K b h) : TrK (.d (.bool b)) h K := ⟨b, rfl, q⟩
end
section
variable {Q : Vl → Hh → Prop} {E : XP} {ρ : En} {h : Hh} {a b c : Ev} {g g' : G2} {K : Bool → Hh → Prop} {t u : Tv} {m : Fn} {as : Av} {QL : List Vl → Hh → Prop}
theorem wp_D {d : Da} (q : Q (.d d) h) : Wp (eD d ρ h) Q E := ⟨q⟩
theorem wo_of {o : Option (Vl × Hh)} (w : Wo o Q) : Wp (ofO o) Q E := by
  cases o with
  | some p => exact ⟨w⟩
  | none => exact w.elim
theorem wp_op (w : Wp (a ρ h) (fun x h1 => Wp (b ρ h1) (fun y h2 => Wo (g x y h2) Q) E) E) : Wp (eOp g a b ρ h) Q E :=
  wp_bind (w.mono (fun _ _ w => wp_bind (w.mono (fun _ _ w => wo_of w) fun _ _ _ z => z)) fun _ _ _ z => z)
theorem wp_T (w : Wp (a ρ h) (fun v h1 => TrK v h1 K) E) : Wp (eT a ρ h) K E := wp_bind (w.mono (fun _ _ ⟨b, e, q⟩ => by rw [e]; exact ⟨q⟩) fun _ _ _ z => z)
theorem wp_if (w : Wp (t ρ h) (fun k h1 => BrK k (Wp (a ρ h1) Q E) (Wp (b ρ h1) Q E)) E) : Wp (eIf t a b ρ h) Q E :=
  wp_bind (w.mono (fun k _ w => by cases k <;> exact w) fun _ _ _ z => z)
theorem wp_tor (w : Wp (t ρ h) (fun k h1 => BrK k (K true h1) (Wp (u ρ h1) K E)) E) : Wp (tvOr t u ρ h) K E :=
  wp_bind (w.mono (fun k _ w => by cases k <;> first | exact w | exact ⟨w⟩) fun _ _ _ z => z)
theorem wp_neg (w : Wp (a ρ h) (fun v h1 => ∃ i, v = .d (.int i) ∧ Q (.d (.int (-i))) h1) E) : Wp (eNeg a ρ h) Q E :=
  wp_bind (w.mono (fun _ _ ⟨i, e, q⟩ => by rw [e]; exact ⟨q⟩) fun _ _ _ z => z)
theorem wp_nil (w : QL [] h) : Wp (aNil ρ h) QL E := ⟨w⟩
theorem wp_cons (w : Wp (a ρ h) (fun x h1 => Wp (as ρ h1) (fun xs h2 => QL (x :: xs) h2) E) E) : Wp (aCons a as ρ h) QL E :=
  wp_bind (w.mono (fun _ _ w => wp_bind (w.mono (fun _ _ w => ⟨w⟩) fun _ _ _ z => z)) fun _ _ _ z => z)
theorem wp_tup (w : Wp (as ρ h) (fun vs h1 => TupK vs h1 Q) E) : Wp (eTup as ρ h) Q E :=
  wp_bind (w.mono (fun _ _ ⟨ds, h2, e, f, q⟩ => by rw [e]; dsimp only; rw [if_pos f]; exact ⟨q⟩) fun _ _ _ z => z)
theorem wp_lst (w : Wp (as ρ h) (fun vs h1 => LstK vs h1 Q) E) : Wp (eLst as ρ h) Q E :=
  wp_bind (w.mono (fun _ _ ⟨ds, h2, e, f, q⟩ => by rw [e]; dsimp only; rw [if_pos f]; exact ⟨q⟩) fun _ _ _ z => z)
theorem wp_call (w : Wp (as ρ h) (fun vs h1 => Wp (m vs h1) Q E) E) : Wp (eCall m as ρ h) Q E := wp_bind w
theorem wp_blt {g : GC} (w : Wp (as ρ h) (fun vs h1 => Wo (g vs h1) Q) E) : Wp (eBlt g as ρ h) Q E := wp_bind (w.mono (fun _ _ w => wo_of w) fun _ _ _ z => z)
theorem wp_fz (w : Wp (a ρ h) (fun v h1 => FzK v h1 h.length Q) (fun c fs h1 => E c fs (h1.take h.length))) : Wp (eFz a ρ h) Q E := by
  unfold eFz
  revert w
  cases a ρ h with
  | no => exact fun w => w.w.elim
  | ex c fs h1 => exact fun w => ⟨w.w⟩
  | ok v h1 =>
    intro w
    obtain ⟨d, h2, e, q⟩ := w.w
    dsimp only
    rw [e]
    exact ⟨q⟩
theorem wp_fzL (w : Wp (eLst as ρ h) (fun v h1 => FzK v h1 h.length Q) (fun c fs h1 => E c fs (h1.take h.length))) : Wp (eFz (eLst as) ρ h) Q E := wp_fz w
theorem wp_fzO (w : Wp (eOp g a b ρ h) (fun v h1 => FzK v h1 h.length Q) (fun c fs h1 => E c fs (h1.take h.length))) : Wp (eFz (eOp g a b) ρ h) Q E := wp_fz w
theorem wp_fzS {lo hi : Ov} (w : Wp (eSl a lo hi ρ h) (fun v h1 => FzK v h1 h.length Q) (fun c fs h1 => E c fs (h1.take h.length))) : Wp (eFz (eSl a lo hi) ρ h) Q E := wp_fz w
theorem wp_fzT {lo hi st : Ov} (w : Wp (eSt a lo hi st ρ h) (fun v h1 => FzK v h1 h.length Q) (fun c fs h1 => E c fs (h1.take h.length))) : Wp (eFz (eSt a lo hi st) ρ h) Q E := wp_fz w
theorem fzk_d {x : Da} {n : Nat} (e : h.length = n) (q : Q (.d x) h) : FzK (.d x) h n Q := ⟨x, h, rfl, by rw [← e, List.take_length]; exact q⟩
theorem fzk_end {ds : List Da} {n : Nat} (e : h.length = n) (q : Q (.d (.list ds)) h) : FzK (.r h.length) (h ++ [some (.lst ds)]) n Q :=
  ⟨.list ds, (h ++ [some (Ob.lst ds)]).set h.length none, by simp [fz], by
    subst e
    simp
    exact q⟩
theorem wp_slice {lo hi : Ov} (w : Wp (a ρ h) (fun x h1 => Wp (lo ρ h1) (fun l h2 => Wp (hi ρ h2) (fun u h3 => Wo (gSl x l u h3) Q) E) E) E) : Wp (eSl a lo hi ρ h) Q E :=
  wp_bind (w.mono (fun _ _ w => wp_bind (w.mono (fun _ _ w => wp_bind (w.mono (fun _ _ w => wo_of w) fun _ _ _ z => z)) fun _ _ _ z => z)) fun _ _ _ z => z)
theorem wp_oN {QO : Option Int → Hh → Prop} (w : QO none h) : Wp (oNone ρ h) QO E := ⟨w⟩
theorem wp_oS {QO : Option Int → Hh → Prop} (w : Wp (a ρ h) (fun v h1 => ∃ i, v = .d (.int i) ∧ QO (some i) h1) E) : Wp (oSome a ρ h) QO E :=
  wp_bind (w.mono (fun _ _ ⟨i, e, q⟩ => by rw [e]; exact ⟨q⟩) fun _ _ _ z => z)
theorem wp_step {lo hi st : Ov} (w : Wp (a ρ h) (fun x h1 => Wp (lo ρ h1) (fun l h2 => Wp (hi ρ h2) (fun u h3 => Wp (st ρ h3) (fun s h4 => Wo (gSt x l u s h4) Q) E) E) E) E) : Wp (eSt a lo hi st ρ h) Q E :=
  wp_bind (w.mono (fun _ _ w => wp_bind (w.mono (fun _ _ w => wp_bind (w.mono (fun _ _ w => wp_bind (w.mono (fun _ _ w => wo_of w) fun _ _ _ z => z)) fun _ _ _ z => z)) fun _ _ _ z => z)) fun _ _ _ z => z)
end
/-! ### statements -/
def ForK (m : Itm) (g : Gv) (b : Sv) (ρ : En) (h : Hh) (N : En → Hh → Prop) (D : Ds) : Prop := Ws (forL m.gd g b m.ds ρ h) N D
def GvK (o : Option (En × Hh)) (N : En → Hh → Prop) : Prop := Wo o N
section
variable {Q : Vl → Hh → Prop} {E : XP} {ρ : En} {h : Hh} {f : Ev} {N : En → Hh → Prop} {R : Vl → Hh → Prop} {B C : En → Hh → Prop} {X : Str → List (Str × Da) → En → Hh → Prop} {s u : Sv} {t : Tv} {g : Gv} {as : Av}
theorem ws_seq (w : Ws (s ρ h) (fun ρ1 h1 => Ws (u ρ1 h1) N ⟨R, B, C, X⟩) ⟨R, B, C, X⟩) : Ws (sSeq s u ρ h) N ⟨R, B, C, X⟩ := by
  unfold sSeq
  revert w
  cases s ρ h with
  | nx ρ1 h1 => exact fun w => w.w
  | no => exact fun w => w.w.elim
  | _ => exact fun w => ⟨w.w⟩
theorem ws_set {i : Nat} (w : Wp (f ρ h) (fun v h1 => SetK i ρ v h1 N) (fun c fs h1 => X c fs ρ h1)) : Ws (sSet i f ρ h) N ⟨R, B, C, X⟩ := ws_then (w.mono (fun _ _ q => ⟨q⟩) fun _ _ _ z => z)
theorem ws_ret (w : Wp (f ρ h) R (fun c fs h1 => X c fs ρ h1)) : Ws (sRet f ρ h) N ⟨R, B, C, X⟩ := ws_then (w.mono (fun _ _ q => ⟨q⟩) fun _ _ _ z => z)
theorem ws_expr (w : Wp (f ρ h) (fun _ h1 => N ρ h1) (fun c fs h1 => X c fs ρ h1)) : Ws (sExpr f ρ h) N ⟨R, B, C, X⟩ := ws_then (w.mono (fun _ _ q => ⟨q⟩) fun _ _ _ z => z)
theorem ws_if (w : Wp (t ρ h) (fun k h1 => BrK k (Ws (s ρ h1) N ⟨R, B, C, X⟩) (Ws (u ρ h1) N ⟨R, B, C, X⟩)) (fun c fs h1 => X c fs ρ h1)) : Ws (sIf t s u ρ h) N ⟨R, B, C, X⟩ :=
  ws_then (w.mono (fun k _ w => by cases k <;> exact w) fun _ _ _ z => z)
theorem ws_nil (w : N ρ h) : Ws (sNil ρ h) N ⟨R, B, C, X⟩ := ⟨w⟩
theorem ws_par {i j : Nat} (w : Wp (as ρ h) (fun vs h1 => ∃ v v', vs = [v, v'] ∧ SetK i ρ v h1 fun ρ1 h1 => SetK j ρ1 v' h1 N) (fun c fs h1 => X c fs ρ h1)) : Ws (sPar i j as ρ h) N ⟨R, B, C, X⟩ :=
  ws_then (w.mono (fun _ _ ⟨v, v', e, q⟩ => by rw [e]; exact ⟨q⟩) fun _ _ _ z => z)
theorem ws_asg (w : Wp (f ρ h) (fun v h1 => GvK (g v ρ h1) N) (fun c fs h1 => X c fs ρ h1)) : Ws (sAsg g f ρ h) N ⟨R, B, C, X⟩ :=
  ws_then (w.mono (fun v h1 w => by
    unfold GvK at w
    revert w
    cases g v ρ h1 with
    | none => exact fun w => w.elim
    | some p => exact fun w => ⟨w⟩) fun _ _ _ z => z)
theorem ws_for {i : Iv} (w : Wp (i ρ h) (fun m h1 => ForK m g s ρ h1 N ⟨R, B, C, X⟩) (fun c fs h1 => X c fs ρ h1)) : Ws (sFor i g s ρ h) N ⟨R, B, C, X⟩ := ws_then w
theorem gk_n {i : Nat} {v : Vl} (w : SetK i ρ v h N) : GvK (gN i v ρ h) N := w
theorem gk_setD {o ix : Ev} {v : Vl} (w : Wp (o ρ h) (fun x h1 => Wp (ix ρ h1) (fun y h2 => ∃ h3, setD x y v h2 = some h3 ∧ N ρ h3) NX) NX) : GvK (gSetD o ix v ρ h) N := by
  obtain ⟨x, h1, e1, w⟩ := wp_out w
  obtain ⟨y, h2, e2, h3, e3, q⟩ := wp_out w
  unfold GvK gSetD
  rw [e1]
  simp only [okO, Option.bind_some]
  rw [e2]
  simp only [okO, Option.bind_some]
  rw [e3]
  exact q
theorem gk_tup2 {i j : Nat} {d0 d1 : Da} (w : SetK i ρ (.d d0) h fun ρ1 h1 => SetK j ρ1 (.d d1) h1 N) : GvK (gTupT 2 (gsCons (gN i) (gsCons (gN j) gsNil)) (.d (.tuple [d0, d1])) ρ h) N := w
theorem forK_nil (w : N ρ h) : ForK ⟨[], none⟩ g s ρ h N ⟨R, B, C, X⟩ := by
  unfold ForK
  show Ws (forL none g s [] ρ h) N ⟨R, B, C, X⟩
  unfold forL
  rw [if_pos (show gdOk none h from trivial)]
  exact ⟨w⟩
theorem forK_gen {gd : Option (Nat × List Da)} {d : Da} {ds : List Da} (hg : gdOk gd h) (w : GvK (g (.d d) ρ h) fun ρ1 h1 => Ws (s ρ1 h1) (fun ρ2 h2 => ForK ⟨ds, gd⟩ g s ρ2 h2 N ⟨R, B, C, X⟩) ⟨R, N, fun ρ2 h2 => ForK ⟨ds, gd⟩ g s ρ2 h2 N ⟨R, B, C, X⟩, X⟩) : ForK ⟨d :: ds, gd⟩ g s ρ h N ⟨R, B, C, X⟩ := by
  unfold ForK
  show Ws (forL gd g s (d :: ds) ρ h) N ⟨R, B, C, X⟩
  unfold forL
  rw [if_pos hg]
  unfold GvK at w
  revert w
  cases g (.d d) ρ h with
  | none => exact fun w => w.elim
  | some p =>
    obtain ⟨ρ1, h1⟩ := p
    show Ws (s ρ1 h1) _ _ → Ws (match s ρ1 h1 with
      | .nx ρ' h' => forL gd g s ds ρ' h'
      | .ct ρ' h' => forL gd g s ds ρ' h'
      | .bk ρ' h' => .nx ρ' h'
      | r => r) N ⟨R, B, C, X⟩
    cases s ρ1 h1 with
    | nx ρ2 h2 => exact fun w => w.w
    | ct ρ2 h2 => exact fun w => w.w
    | no => exact fun w => w.w.elim
    | _ => exact fun w => ⟨w.w⟩
theorem forK_cons {d : Da} {ds : List Da} (w : GvK (g (.d d) ρ h) fun ρ1 h1 => Ws (s ρ1 h1) (fun ρ2 h2 => ForK ⟨ds, none⟩ g s ρ2 h2 N ⟨R, B, C, X⟩) ⟨R, N, fun ρ2 h2 => ForK ⟨ds, none⟩ g s ρ2 h2 N ⟨R, B, C, X⟩, X⟩) : ForK ⟨d :: ds, none⟩ g s ρ h N ⟨R, B, C, X⟩ := forK_gen trivial w
/-- a loop by what stands ahead of each turn -/
theorem forK_inv {ds : List Da} (I : Nat → En → Hh → Prop) (h0 : I 0 ρ h)
    (st : ∀ (k : Nat) (d : Da) (ρ1 : En) (h1 : Hh), ds[k]? = some d → I k ρ1 h1 → GvK (g (.d d) ρ1 h1) fun ρ2 h2 => Ws (s ρ2 h2) (I (k + 1)) ⟨R, N, I (k + 1), X⟩)
    (fin : ∀ ρ1 h1, I ds.length ρ1 h1 → N ρ1 h1) : ForK ⟨ds, none⟩ g s ρ h N ⟨R, B, C, X⟩ := by
  have go : ∀ (n k : Nat) (ρ : En) (h : Hh), n = ds.length - k → k ≤ ds.length → I k ρ h → ForK ⟨ds.drop k, none⟩ g s ρ h N ⟨R, B, C, X⟩ := by
    intro n
    induction n with
    | zero =>
      intro k ρ h hn hk i
      have : k = ds.length := by omega
      subst this
      rw [List.drop_length]
      exact forK_nil (fin _ _ i)
    | succ n ih =>
      intro k ρ h hn hk i
      have hk' : k < ds.length := by omega
      rw [List.drop_eq_getElem_cons hk']
      have w := st k ds[k] ρ h (List.getElem?_eq_getElem hk') i
      refine forK_cons ?_
      unfold GvK at *
      revert w
      cases g (.d ds[k]) ρ h with
      | none => exact fun w => w
      | some p =>
        obtain ⟨ρ1, h1⟩ := p
        show Ws (s ρ1 h1) _ _ → Ws (s ρ1 h1) _ _
        cases s ρ1 h1 with
        | nx ρ2 h2 => exact fun w => ⟨ih (k + 1) ρ2 h2 (by omega) (by omega) w.w⟩
        | ct ρ2 h2 => exact fun w => ⟨ih (k + 1) ρ2 h2 (by omega) (by omega) w.w⟩
        | bk ρ2 h2 => exact fun w => ⟨w.w⟩
        | rt v h2 => exact fun w => ⟨w.w⟩
        | ex c fs ρ2 h2 => exact fun w => ⟨w.w⟩
        | no => exact fun w => w.w.elim
  have := go _ 0 ρ h rfl (Nat.zero_le _) h0
  rwa [List.drop_zero] at this
end
/-! ### a def entered -/
section
variable {Q : Vl → Hh → Prop} {E : XP} {h : Hh} {body : Sv} {as : List Vl} {k n : Nat}
theorem wp_def (hl : as.length = k) {ρ : En} (er : enter n as = ρ) (w : Ws (body ρ h) (fun _ h1 => RetK h.length Q (.d .none) h1) ⟨RetK h.length Q, fun _ _ => False, fun _ _ => False, fun c fs _ h1 => E c fs (h1.take h.length)⟩) : Wp (mkF k n body as h) Q E := by
  unfold mkF
  rw [if_pos hl, er]
  revert w
  cases body ρ h with
  | nx ρ1 h1 => exact fun ⟨v, h2, e, q⟩ => wp_eq e q
  | rt v h1 => exact fun ⟨v, h2, e, q⟩ => wp_eq e q
  | bk ρ1 h1 => exact fun w => w.w.elim
  | ct ρ1 h1 => exact fun w => w.w.elim
  | ex c fs ρ1 h1 => exact fun w => ⟨w.w⟩
  | no => exact fun w => w.w.elim
theorem retK_d {x : Da} (e : h.length = n) (q : Q (.d x) h) : RetK n Q (.d x) h := ⟨.d x, h, by subst e; show Out.ok _ _ = _; rw [List.take_length], q⟩
theorem retK_d' {x : Da} {l : Hh} (e : h.length = n) (q : Q (.d x) h) : RetK n Q (.d x) (h ++ l) := ⟨.d x, h, by subst e; show Out.ok _ _ = _; rw [List.take_left' rfl], q⟩
end

section
variable {Q : Vl → Hh → Prop} {E : XP} {h : Hh} {v : Vl} {N : En → Hh → Prop} {r : En}
variable {o0 o1 o2 o3 o4 o5 o6 o7 o8 o9 o10 o11 o12 o13 o14 o15 o16 o17 o18 o19 o20 o21 o22 o23 o24 o25 : Option Vl}
theorem wp_v0 (q : Q v h) : Wp (eVar 0 (some v :: r) h) Q E := ⟨q⟩
theorem setk0 (q : N (some v :: r) h) : SetK 0 (o0 :: r) v h N := q
theorem wp_v1 (q : Q v h) : Wp (eVar 1 (o0 :: some v :: r) h) Q E := ⟨q⟩
theorem setk1 (q : N (o0 :: some v :: r) h) : SetK 1 (o0 :: o1 :: r) v h N := q
theorem wp_v2 (q : Q v h) : Wp (eVar 2 (o0 :: o1 :: some v :: r) h) Q E := ⟨q⟩
theorem setk2 (q : N (o0 :: o1 :: some v :: r) h) : SetK 2 (o0 :: o1 :: o2 :: r) v h N := q
theorem wp_v3 (q : Q v h) : Wp (eVar 3 (o0 :: o1 :: o2 :: some v :: r) h) Q E := ⟨q⟩
theorem setk3 (q : N (o0 :: o1 :: o2 :: some v :: r) h) : SetK 3 (o0 :: o1 :: o2 :: o3 :: r) v h N := q
theorem wp_v4 (q : Q v h) : Wp (eVar 4 (o0 :: o1 :: o2 :: o3 :: some v :: r) h) Q E := ⟨q⟩
theorem setk4 (q : N (o0 :: o1 :: o2 :: o3 :: some v :: r) h) : SetK 4 (o0 :: o1 :: o2 :: o3 :: o4 :: r) v h N := q
theorem wp_v5 (q : Q v h) : Wp (eVar 5 (o0 :: o1 :: o2 :: o3 :: o4 :: some v :: r) h) Q E := ⟨q⟩
theorem setk5 (q : N (o0 :: o1 :: o2 :: o3 :: o4 :: some v :: r) h) : SetK 5 (o0 :: o1 :: o2 :: o3 :: o4 :: o5 :: r) v h N := q
theorem wp_v6 (q : Q v h) : Wp (eVar 6 (o0 :: o1 :: o2 :: o3 :: o4 :: o5 :: some v :: r) h) Q E := ⟨q⟩
theorem setk6 (q : N (o0 :: o1 :: o2 :: o3 :: o4 :: o5 :: some v :: r) h) : SetK 6 (o0 :: o1 :: o2 :: o3 :: o4 :: o5 :: o6 :: r) v h N := q
theorem wp_v7 (q : Q v h) : Wp (eVar 7 (o0 :: o1 :: o2 :: o3 :: o4 :: o5 :: o6 :: some v :: r) h) Q E := ⟨q⟩
theorem setk7 (q : N (o0 :: o1 :: o2 :: o3 :: o4 :: o5 :: o6 :: some v :: r) h) : SetK 7 (o0 :: o1 :: o2 :: o3 :: o4 :: o5 :: o6 :: o7 :: r) v h N := q
theorem wp_v8 (q : Q v h) : Wp (eVar 8 (o0 :: o1 :: o2 :: o3 :: o4 :: o5 :: o6 :: o7 :: some v :: r) h) Q E := ⟨q⟩
theorem setk8 (q : N (o0 :: o1 :: o2 :: o3 :: o4 :: o5 :: o6 :: o7 :: some v :: r) h) : SetK 8 (o0 :: o1 :: o2 :: o3 :: o4 :: o5 :: o6 :: o7 :: o8 :: r) v h N := q
theorem wp_v9 (q : Q v h) : Wp (eVar 9 (o0 :: o1 :: o2 :: o3 :: o4 :: o5 :: o6 :: o7 :: o8 :: some v :: r) h) Q E := ⟨q⟩
theorem setk9 (q : N (o0 :: o1 :: o2 :: o3 :: o4 :: o5 :: o6 :: o7 :: o8 :: some v :: r) h) : SetK 9 (o0 :: o1 :: o2 :: o3 :: o4 :: o5 :: o6 :: o7 :: o8 :: o9 :: r) v h N := q
theorem setk10 (q : N (o0 :: o1 :: o2 :: o3 :: o4 :: o5 :: o6 :: o7 :: o8 :: o9 :: some v :: r) h) : SetK 10 (o0 :: o1 :: o2 :: o3 :: o4 :: o5 :: o6 :: o7 :: o8 :: o9 :: o10 :: r) v h N := q
theorem wp_v11 (q : Q v h) : Wp (eVar 11 (o0 :: o1 :: o2 :: o3 :: o4 :: o5 :: o6 :: o7 :: o8 :: o9 :: o10 :: some v :: r) h) Q E := ⟨q⟩
theorem setk11 (q : N (o0 :: o1 :: o2 :: o3 :: o4 :: o5 :: o6 :: o7 :: o8 :: o9 :: o10 :: some v :: r) h) : SetK 11 (o0 :: o1 :: o2 :: o3 :: o4 :: o5 :: o6 :: o7 :: o8 :: o9 :: o10 :: o11 :: r) v h N := q
theorem wp_v12 (q : Q v h) : Wp (eVar 12 (o0 :: o1 :: o2 :: o3 :: o4 :: o5 :: o6 :: o7 :: o8 :: o9 :: o10 :: o11 :: some v :: r) h) Q E := ⟨q⟩
theorem setk12 (q : N (o0 :: o1 :: o2 :: o3 :: o4 :: o5 :: o6 :: o7 :: o8 :: o9 :: o10 :: o11 :: some v :: r) h) : SetK 12 (o0 :: o1 :: o2 :: o3 :: o4 :: o5 :: o6 :: o7 :: o8 :: o9 :: o10 :: o11 :: o12 :: r) v h N := q
end
section
variable {Q : Vl → Hh → Prop} {h : Hh}
variable {d0 d1 d2 d3 d4 d5 d6 d7 d8 d9 d10 d11 d12 d13 d14 d15 d16 d17 d18 d19 d20 d21 d22 d23 d24 d25 : Da}
theorem lstk0 (q : Q (.r h.length) (h ++ [some (.lst [])])) : LstK [] h Q := ⟨[], h, rfl, rfl, q⟩
theorem tupk1 (q : Q (.d (.tuple [d0])) h) : TupK [.d d0] h Q := ⟨[d0], h, rfl, rfl, q⟩
theorem lstk1 (q : Q (.r h.length) (h ++ [some (.lst [d0])])) : LstK [.d d0] h Q := ⟨[d0], h, rfl, rfl, q⟩
theorem tupk2 (q : Q (.d (.tuple [d0, d1])) h) : TupK [.d d0, .d d1] h Q := ⟨[d0, d1], h, rfl, rfl, q⟩
theorem tupk3 (q : Q (.d (.tuple [d0, d1, d2])) h) : TupK [.d d0, .d d1, .d d2] h Q := ⟨[d0, d1, d2], h, rfl, rfl, q⟩
theorem lstk6 (q : Q (.r h.length) (h ++ [some (.lst [d0, d1, d2, d3, d4, d5])])) : LstK [.d d0, .d d1, .d d2, .d d3, .d d4, .d d5] h Q := ⟨[d0, d1, d2, d3, d4, d5], h, rfl, rfl, q⟩
theorem lstk9 (q : Q (.r h.length) (h ++ [some (.lst [d0, d1, d2, d3, d4, d5, d6, d7, d8])])) : LstK [.d d0, .d d1, .d d2, .d d3, .d d4, .d d5, .d d6, .d d7, .d d8] h Q := ⟨[d0, d1, d2, d3, d4, d5, d6, d7, d8], h, rfl, rfl, q⟩
end
end Rk

/-! Rk20: the operators' rules; sizes. -/
namespace Rk
open PySem PySem.Spec L2
section
variable {Q : Vl → Hh → Prop} {h : Hh} {a b : Int} {r s : Rat}
theorem wo_eq {o : Option (Vl × Hh)} {v : Vl} {h' : Hh} (e : o = some (v, h')) (q : Q v h') : Wo o Q := by rw [e]; exact q
theorem wo_add (q : Q (.d (.int (a + b))) h) : Wo (gAdd (.d (.int a)) (.d (.int b)) h) Q := q
theorem wo_sub (q : Q (.d (.int (a - b))) h) : Wo (gInt fSub (.d (.int a)) (.d (.int b)) h) Q := q
theorem wo_mul (m : IntMulOk a b) (q : Q (.d (.int (a * b))) h) : Wo (gInt fMul (.d (.int a)) (.d (.int b)) h) Q := wo_eq (by rw [gInt_eq, fMul_eq m]; rfl) q
theorem wo_div (b0 : 0 < b) (m : Builtin.divisionGoesByPylong a b = false) (q : Q (.d (.int (a / b))) h) : Wo (gInt fDiv (.d (.int a)) (.d (.int b)) h) Q :=
  wo_eq (by rw [gInt_eq, fDiv_eq (by omega) m, Int.fdiv_eq_ediv_of_nonneg _ (by omega)]; rfl) q
theorem wo_mod (b0 : 0 < b) (q : Q (.d (.int (a % b))) h) : Wo (gInt fMod (.d (.int a)) (.d (.int b)) h) Q :=
  wo_eq (by rw [gInt_eq, fMod_eq (by omega), Int.fmod_eq_emod_of_nonneg _ (by omega)]; rfl) q
theorem wo_pow {n : Nat} (h1 : n ≤ 1000000) (h2 : a.natAbs < 2 ^ 64) (q : Q (.d (.int (a ^ n))) h) : Wo (gInt fPow (.d (.int a)) (.d (.int (OfNat.ofNat n))) h) Q :=
  wo_eq (by
    rw [gInt_eq, show (OfNat.ofNat n : Int) = (n : Int) from rfl]
    unfold fPow
    rw [if_pos ⟨by omega, by omega, h2⟩]; rfl) q
theorem wo_gt (q : Q (.d (.bool (decide (b < a)))) h) : Wo (gInt fGt (.d (.int a)) (.d (.int b)) h) Q := q
theorem wo_ge (q : Q (.d (.bool (decide (b ≤ a)))) h) : Wo (gInt fGe (.d (.int a)) (.d (.int b)) h) Q := q
theorem wo_eqI (q : Q (.d (.bool (decide (a = b)))) h) : Wo (gEq (.d (.int a)) (.d (.int b)) h) Q := wo_eq gEq_int q
theorem wo_eqQ (q : Q (.d (.bool (decide (r = s)))) h) : Wo (gEq (.d (Rk.Q r)) (.d (Rk.Q s)) h) Q := wo_eq gEq_Q q
theorem wo_eqS {x y : Str} (q : Q (.d (.bool (decide (x = y)))) h) : Wo (gEq (.d (.str x)) (.d (.str y)) h) Q := q
theorem wo_neS {x y : Str} (q : Q (.d (.bool (!decide (x = y)))) h) : Wo (gNe (.d (.str x)) (.d (.str y)) h) Q := q
theorem wo_eqB {x y : Bool} (q : Q (.d (.bool (decide (x = y)))) h) : Wo (gEq (.d (.bool x)) (.d (.bool y)) h) Q := wo_eq gEq_bool q
theorem wo_ixQ0 (q : Q (.d (.int r.num)) h) : Wo (gIx (.d (Rk.Q r)) (.d (.int 0)) h) Q := wo_eq ixQ0 q
theorem wo_ixQ1 (q : Q (.d (.int r.den)) h) : Wo (gIx (.d (Rk.Q r)) (.d (.int 1)) h) Q := wo_eq ixQ1 q
/-- a written list, or tuple, at a drawn place -/
theorem wo_menu {ds : List Da} (P : Da → Prop) (h0 : 0 ≤ a) (h1 : a < ds.length) (hp : ∀ d ∈ ds, P d) (q : ∀ d, P d → Q (.d d) h) : Wo (gIx (.d (.list ds)) (.d (.int a)) h) Q := by
  have e : ds[a.toNat]? = some (ds[a.toNat]'(by omega)) := List.getElem?_eq_getElem _
  have := gIxF (h := h) e
  rw [show ((a.toNat : Nat) : Int) = a by omega] at this
  exact wo_eq this (q _ (hp _ (List.getElem_mem _)))
def IntIn (lo hi : Int) (d : Da) : Prop := ∃ i, d = .int i ∧ lo ≤ i ∧ i ≤ hi
theorem wo_abs (q : Q (.d (.int (a.natAbs : Int))) h) : Wo (gAbs [.d (.int a)] h) Q := wo_eq (by rw [gAbs_eq, abs_eq]) q
theorem wo_tupL {ds : List Da} (q : Q (.d (.tuple ds)) h) : Wo (gTuple [.d (.list ds)] h) Q := q
theorem wo_addL {xs ys : List Da} (hl : xs.length + ys.length ≤ 16777216) (q : Q (.r h.length) (h ++ [some (.lst (xs ++ ys))])) : Wo (gAdd (.d (.list xs)) (.d (.list ys)) h) Q :=
  wo_eq (v := .r h.length) (h' := h ++ [some (.lst (xs ++ ys))]) (by
    unfold gAdd asL
    dsimp only
    rw [if_pos (fitB_ok hl)]) q
theorem wo_addL' {xs ys zs : List Da} (e : xs ++ ys = zs) (hl : xs.length + ys.length ≤ 16777216) (q : Q (.r h.length) (h ++ [some (.lst zs)])) : Wo (gAdd (.d (.list xs)) (.d (.list ys)) h) Q := wo_addL hl (by rw [e]; exact q)
theorem wo_addT' {xs ys zs : List Da} (e : xs ++ ys = zs) (hl : xs.length + ys.length ≤ 16777216) (q : Q (.d (.tuple zs)) h) : Wo (gAdd (.d (.tuple xs)) (.d (.tuple ys)) h) Q :=
  wo_eq (v := .d (.tuple zs)) (h' := h) (by
    unfold gAdd
    dsimp only
    rw [if_pos (fitB_ok hl), e]) q
theorem wo_slL {xs : List Da} {lo hi : Option Int} (q : Q (.r h.length) (h ++ [some (.lst (cutD xs lo hi))])) : Wo (gSl (.d (.list xs)) lo hi h) Q := q
theorem wo_stL {xs : List Da} {lo hi st : Option Int} (h1 : st ≠ some 0) (h2 : (pickG xs lo hi st).length ≤ 16777216) (q : Q (.r h.length) (h ++ [some (.lst (pickG xs lo hi st))])) : Wo (gSt (.d (.list xs)) lo hi st h) Q :=
  wo_eq (v := .r h.length) (h' := h ++ [some (.lst (pickG xs lo hi st))]) (by
    unfold gSt asL
    dsimp only
    rw [if_pos ⟨h1, h2⟩]) q
end
section
variable {Q : Vl → Hh → Prop} {h : Hh} {a0 a1 a2 a3 a4 a5 : Da} {l : List Da}
theorem wo_ix0 (q : Q (.d a0) h) : Wo (gIx (.d (.tuple (a0 :: l))) (.d (.int 0)) h) Q := wo_eq ix0 q
theorem wo_ix1 (q : Q (.d a1) h) : Wo (gIx (.d (.tuple (a0 :: a1 :: l))) (.d (.int 1)) h) Q := wo_eq ix1 q
theorem wo_ix2 (q : Q (.d a2) h) : Wo (gIx (.d (.tuple (a0 :: a1 :: a2 :: l))) (.d (.int 2)) h) Q := wo_eq ix2 q
theorem wo_ix3 (q : Q (.d a3) h) : Wo (gIx (.d (.tuple (a0 :: a1 :: a2 :: a3 :: l))) (.d (.int 3)) h) Q := wo_eq ix3 q
theorem wo_ix4 (q : Q (.d a4) h) : Wo (gIx (.d (.tuple (a0 :: a1 :: a2 :: a3 :: a4 :: l))) (.d (.int 4)) h) Q := wo_eq ix4 q
theorem wo_il0 (q : Q (.d a0) h) : Wo (gIx (.d (.list (a0 :: l))) (.d (.int 0)) h) Q := wo_eq (gIxF (k := 0) rfl) q
theorem wo_il1 (q : Q (.d a1) h) : Wo (gIx (.d (.list (a0 :: a1 :: l))) (.d (.int 1)) h) Q := wo_eq (gIxF (k := 1) rfl) q
theorem wo_il2 (q : Q (.d a2) h) : Wo (gIx (.d (.list (a0 :: a1 :: a2 :: l))) (.d (.int 2)) h) Q := wo_eq (gIxF (k := 2) rfl) q
theorem wo_il3 (q : Q (.d a3) h) : Wo (gIx (.d (.list (a0 :: a1 :: a2 :: a3 :: l))) (.d (.int 3)) h) Q := wo_eq (gIxF (k := 3) rfl) q
end
/-! ### sizes, by form -/
section
variable {n m : Nat} {x y : Int} {r s : Rat}
theorem Bd.lit (x : Int) : Bd (x.natAbs.log2 + 1) x := by
  unfold Bd
  exact Nat.lt_log2_self
theorem BQ.pos (h : BQ n r) : 0 < n := Nat.pos_of_ne_zero fun z => by
  subst z
  have h2 : ((r.den : Int)).natAbs < 1 := h.2
  have := r.den_nz
  omega
theorem BQ.nu (h : BQ n r) : Bd n r.num := h.1
theorem BQ.dn (h : BQ n r) : Bd n (r.den : Int) := h.2
theorem Bd.abs (h : Bd n x) : Bd n (x.natAbs : Int) := h.le (by omega)
theorem BQ.add' (hr : BQ n r) (hs : BQ m s) : BQ (n + m + 1) (r + s) := hr.add hs (by have := hr.pos; omega)
theorem BQ.sub' (hr : BQ n r) (hs : BQ m s) : BQ (n + m + 1) (r - s) := hr.sub hs (by have := hr.pos; omega)
theorem BQ.mul' (hr : BQ n r) (hs : BQ m s) : BQ (n + m) (r * s) := hr.mul hs (by have := hr.pos; omega)
theorem BQ.div' (hr : BQ n r) (hs : BQ m s) : BQ (n + m) (r / s) := hr.div hs (by have := hr.pos; omega)
theorem BQ.ite {c : Prop} [Decidable c] (hr : BQ n r) (hs : BQ m s) : BQ (max n m) (if c then r else s) := by
  split
  · exact hr.mono (Nat.le_max_left ..)
  · exact hs.mono (Nat.le_max_right ..)
theorem BQ.i (h : Bd n x) : BQ (n + 1) (x : Rat) := BQ_int (h.mono (Nat.le_succ _)) (Nat.succ_pos _)
theorem BQ.zero : BQ 1 0 := by unfold BQ Bd; decide
theorem BQ.one : BQ 1 1 := by unfold BQ Bd; decide
theorem BQ.dv (hx : Bd n x) (hy : Bd m y) : BQ (max n m + 1) (Rat.divInt x y) := ⟨bd_num (hx.mono (by omega)), bd_den (hy.mono (by omega)) (by omega)⟩
end
end Rk

/-! Rk21: heads of goals; what is walked; comprehensions; places of dicts. -/
namespace Rk
open PySem PySem.Spec L2
section
variable {α : Type} {o : Out α} {Q : α → Hh → Prop} {E : XP} {N : En → Hh → Prop} {D : Ds} {s : So} {oo : Option (α × Hh)} {ρ : En} {h : Hh} {i n : Nat} {v : Vl} {vs : List Vl} {QV : Vl → Hh → Prop} {b : Bool} {A B : Prop}
theorem hd_Wp (w : Wp o Q E) : Wp o Q E := w
theorem hd_Ws (w : Ws s N D) : Ws s N D := w
theorem hd_Wo (w : Wo oo Q) : Wo oo Q := w
theorem hd_SetK (w : SetK i ρ v h N) : SetK i ρ v h N := w
theorem hd_TupK (w : TupK vs h QV) : TupK vs h QV := w
theorem hd_LstK (w : LstK vs h QV) : LstK vs h QV := w
theorem hd_BrK (w : BrK b A B) : BrK b A B := w
end
section
variable {h : Hh} {QV : Vl → Hh → Prop}
theorem ex_int {i : Int} {P : Int → Prop} (q : P i) : ∃ j : Int, (Vl.d (.int i) : Vl) = .d (.int j) ∧ P j := ⟨i, rfl, q⟩
theorem ex_par {v w : Vl} {P : Vl → Vl → Prop} (q : P v w) : ∃ v' w', [v, w] = [v', w'] ∧ P v' w' := ⟨v, w, rfl, q⟩
end
/-! ### what is walked -/
section
variable {QI : Itm → Hh → Prop} {E : XP} {ρ : En} {h : Hh} {f : Ev} {as : Av} {QV : Vl → Hh → Prop}
theorem wp_iv (w : Wp (f ρ h) (fun v h1 => Wp (itQ v h1) QI E) E) : Wp (iv itQ f ρ h) QI E := wp_bind w
theorem wp_itT {ds : List Da} (q : QI ⟨ds, none⟩ h) : Wp (itQ (.d (.tuple ds)) h) QI E := ⟨q⟩
theorem wp_itL {ds : List Da} (q : QI ⟨ds, none⟩ h) : Wp (itQ (.d (.list ds)) h) QI E := ⟨q⟩
theorem wp_rng1 (w : Wp (as ρ h) (fun vs h1 => ∃ j : Int, vs = [.d (.int j)] ∧ rgB j = true ∧ QI ⟨rngD 0 j.toNat, none⟩ h1) E) : Wp (iRange1 as ρ h) QI E :=
  wp_bind (w.mono (fun _ _ ⟨j, e, r, q⟩ => by rw [e]; show Wp (if rgB j = true then _ else _) _ _; rw [if_pos r]; exact ⟨q⟩) fun _ _ _ z => z)
theorem ex_rng {j : Int} {P : Int → Prop} (r : rgB j = true) (q : P j) : ∃ k : Int, [Vl.d (.int j)] = [.d (.int k)] ∧ rgB k = true ∧ P k := ⟨j, rfl, r, q⟩
end
theorem rgB_of {j : Int} (h1 : -1000000000000 ≤ j) (h2 : j ≤ 1000000000000) : rgB j = true := by
  unfold rgB
  rw [decide_eq_true h1, decide_eq_true h2]
  rfl
/-! ### comprehensions whose list is never changed -/
section
variable {Q : Vl → Hh → Prop} {E : XP} {ρ : En} {h : Hh} {i : Iv} {g : Gv} {tt : Tv} {fe : Ev} {ws : List Nat}
end
end Rk

/-! Rk22: lesser, greater; truths; texts of data. -/
namespace Rk
open PySem PySem.Spec L2
def mn (r s : Rat) : Rat := if s < r then s else r
def mx (r s : Rat) : Rat := if r < s then s else r
theorem BQ.mn {n m : Nat} {r s : Rat} (hr : BQ n r) (hs : BQ m s) : BQ (max n m) (mn r s) := by
  unfold Rk.mn
  split
  · exact hs.mono (Nat.le_max_right ..)
  · exact hr.mono (Nat.le_max_left ..)
theorem BQ.mx {n m : Nat} {r s : Rat} (hr : BQ n r) (hs : BQ m s) : BQ (max n m) (mx r s) := by
  unfold Rk.mx
  split
  · exact hs.mono (Nat.le_max_right ..)
  · exact hr.mono (Nat.le_max_left ..)
section
variable {Q : Vl → Hh → Prop} {h : Hh} {x y : Da} {b c : Bool}
end
/-! ### data that can be told as a text -/
structure Shw (k e : Nat) (d : Da) : Prop where
  s : d.showable = true
  n : d.hasDict = false
  p : d.depth ≤ e
  l : d.shown.length ≤ k
structure ShwL (k e : Nat) (ds : List Da) : Prop where
  s : PyData.showableAll ds = true
  n : PyData.hasDictAll ds = false
  d : PyData.depthAll ds ≤ e
  l : piled (PyData.shownAll ds) ≤ k
theorem Shw.none : Shw 4 0 .none := ⟨by simp [PyData.showable], by simp [PyData.hasDict], by simp [PyData.depth], by simp only [PyData.shown]; decide⟩
theorem Shw.bool (b : Bool) : Shw 5 0 (.bool b) := ⟨by simp [PyData.showable], by simp [PyData.hasDict], by simp [PyData.depth], by cases b <;> simp only [PyData.shown] <;> decide⟩
theorem Shw.int {i : Int} {n : Nat} (h : Bd n i) (hn : n ≤ 1920) : Shw 1921 0 (.int i) := by
  have l : i.natAbs.log2 < 1920 := by
    rcases Nat.eq_zero_or_pos i.natAbs with z | z
    · rw [z]; decide
    · exact (Nat.log2_lt (Nat.ne_of_gt z)).mpr (Nat.lt_of_lt_of_le h (Nat.pow_le_pow_right (by decide) hn))
  exact ⟨by simp only [PyData.showable]; exact decide_eq_true l, by simp [PyData.hasDict], by simp [PyData.depth], by simp only [PyData.shown]; rw [ofString_length]; exact int_text_length_le (k := 1920) (by decide) l⟩
theorem ShwL.nil : ShwL 0 0 [] := ⟨by simp [PyData.showableAll], by simp [PyData.hasDictAll], by simp [PyData.depthAll], by simp [PyData.shownAll, piled]⟩
theorem ShwL.cons {k e k' e' : Nat} {d : Da} {ds : List Da} (h : Shw k e d) (t : ShwL k' e' ds) : ShwL (k + 2 + k') (max e e') (d :: ds) := by
  refine ⟨?_, ?_, ?_, ?_⟩
  · simp only [PyData.showableAll, h.s, t.s, Bool.and_self]
  · simp only [PyData.hasDictAll, h.n, t.n, Bool.or_self]
  · simp only [PyData.depthAll]
    have := h.p
    have := t.d
    omega
  · simp only [PyData.shownAll, piled_cons]
    have := h.l
    have := t.l
    omega
theorem Shw.tup {k e : Nat} {ds : List Da} (t : ShwL k e ds) : Shw (k + 3) (e + 1) (.tuple ds) := by
  refine ⟨by simp only [PyData.showable]; exact t.s, by simp only [PyData.hasDict]; exact t.n, by simp only [PyData.depth]; have := t.d; omega, ?_⟩
  simp only [PyData.shown]
  have hl := t.l
  unfold tupleText
  have j : (Str.join ", " (PyData.shownAll ds)).length ≤ piled (PyData.shownAll ds) := by
    by_cases z : PyData.shownAll ds = []
    · rw [z]; decide
    · have := join_length_add _ z
      omega
  rw [Str.length_append, Str.length_append]
  have a : (Str.ofString "(").length = 1 := by decide
  have b : (Str.ofString (if (PyData.shownAll ds).length == 1 then ",)" else ")")).length ≤ 2 := by split <;> decide
  have a' : ("(" : Str).length = 1 := a
  omega
theorem Shw.lst {k e : Nat} {ds : List Da} (t : ShwL k e ds) : Shw (k + 3) (e + 1) (.list ds) := by
  refine ⟨by simp only [PyData.showable]; exact t.s, by simp only [PyData.hasDict]; exact t.n, by simp only [PyData.depth]; have := t.d; omega, ?_⟩
  simp only [PyData.shown]
  have hl := t.l
  unfold listText
  have j : (textFrom 0 "[" (PyData.shownAll ds)).length ≤ 1 + piled (PyData.shownAll ds) := by
    cases e : PyData.shownAll ds with
    | nil => decide
    | cons x xs =>
      have h1 := textFrom_length_pos xs 1 (("[" : Str) ++ ("" : Str) ++ x) (by decide)
      have h2 : textFrom 0 "[" (x :: xs) = textFrom 1 (("[" : Str) ++ ("" : Str) ++ x) xs := rfl
      rw [h2, h1, piled_cons, Str.length_append, Str.length_append]
      have a1 : ("[" : Str).length = 1 := by decide
      have a2 : ("" : Str).length = 0 := by decide
      omega
  rw [Str.length_append]
  have b : ("]" : Str).length = 1 := by decide
  omega
theorem Shw.Q {r : Rat} {n : Nat} (h : BQ n r) (hn : n ≤ 1920) : Shw 4000 1 (Q r) :=
  let t := Shw.tup (ShwL.cons (Shw.int h.1 hn) (ShwL.cons (Shw.int h.2 hn) ShwL.nil))
  ⟨t.s, t.n, t.p, Nat.le_trans t.l (by decide)⟩
theorem Shw.mono {k e k' e' : Nat} {d : Da} (h : Shw k e d) (a : k ≤ k') (b : e ≤ e') : Shw k' e' d := ⟨h.s, h.n, Nat.le_trans h.p b, Nat.le_trans h.l a⟩
theorem wo_repr {Q : Vl → Hh → Prop} {h : Hh} {d : Da} {k e : Nat} (s : Shw k e d) (h1 : k ≤ 16777216) (h2 : e ≤ 60) (q : Q (.d (.str d.shown)) h) : Wo (gRepr [.d d] h) Q :=
  wo_eq (v := .d (.str d.shown)) (h' := h) (by
    unfold gRepr asD
    dsimp only
    rw [if_pos]
    rw [s.s, s.n, decide_eq_true (Nat.le_trans s.p h2), fitB_ok (Nat.le_trans s.l h1)]
    rfl) q
section
variable {Q : Vl → Hh → Prop} {h : Hh} {r : Rat}
theorem tq_neg (q : Q (.d (Rk.Q (-r))) h) : TupK [.d (.int (0 - r.num)), .d (.int r.den)] h Q := tupk2 (by rw [Q_neg] at q; exact q)
theorem tq_abs (q : Q (.d (Rk.Q r.abs)) h) : TupK [.d (.int (r.num.natAbs : Int)), .d (.int r.den)] h Q := tupk2 (by rw [Q_abs] at q; exact q)
theorem tq_lit {a b : Int} (r : Rat) (e1 : r.num = a) (e2 : (r.den : Int) = b) (q : Q (.d (Rk.Q r)) h) : TupK [.d (.int a), .d (.int b)] h Q := tupk2 (by unfold Rk.Q at q; rw [e1, e2] at q; exact q)
end
theorem Q_lit {a b : Int} (r : Rat) (e1 : r.num = a) (e2 : (r.den : Int) = b) : (.tuple [.int a, .int b] : Da) = Q r := by unfold Q; rw [e1, e2]
theorem BQ.lit (k : Nat) : BQ (k.log2 + 2) (OfNat.ofNat k : Rat) := by
  have : (OfNat.ofNat k : Rat) = ((k : Int) : Rat) := rfl
  rw [this]
  exact BQ_int (Bd.mono (bd_nat Nat.lt_log2_self) (Nat.le_succ _)) (Nat.succ_pos _)
section
variable {Q : Vl → Hh → Prop} {h : Hh} {d0 d1 d2 d3 d4 d5 d6 d7 d8 d9 d10 d11 d12 d13 d14 d15 : Da}
end
end Rk

/-! Rk23: a list that is no more changed from here on. -/
namespace Rk
open PySem PySem.Spec L2
def sFrz (i : Nat) : Sv := fun ρ h => match ρ[i]? with
  | some (some v) => match fz v h with
    | some p => .nx (ρ.set i (some (.d p.1))) p.2
    | none => .no
  | _ => .no
section
variable {X : Cx} {W : WX} {ss : List Stmt} {f : Sv}
theorem ess_frz (i : Nat) (p : ESs X W ss f) : ESs X W ss (sSeq (sFrz i) f) :=
  PSs.of p fun D σ H ⟨φ, h, ρ, sm, er, q⟩ => by
    unfold sSeq sFrz at q
    split at q
    · rename_i v ev
      split at q
      · rename_i p e
        obtain ⟨d, h2⟩ := p
        obtain ⟨x, e1, rv⟩ := er.at_ i v ev
        obtain ⟨s1, s2, s3⟩ := fz_ok sm rv e
        have hi : i < ρ.length := (List.getElem?_eq_some_iff.mp ev).1
        refine ⟨φ, h2, ρ.set i (some (.d d)), s2, ?_, PoS.pull s1 q⟩
        have er2 := er.step s1
        refine ⟨by rw [er2.len, List.length_set], fun j w e2 => ?_⟩
        by_cases hj : i = j
        · subst hj
          rw [List.getElem?_set_self hi] at e2
          have e3 := Option.some.inj (Option.some.inj e2)
          subst e3
          exact ⟨x, e1, s3⟩
        · rw [List.getElem?_set_ne hj] at e2
          exact er2.at_ j w e2
      · exact q.elim
    · exact q.elim
end
section
variable {N : En → Hh → Prop} {D : Ds} {ρ : En} {h l : Hh} {i k : Nat} {ds : List Da}
theorem ws_frz {v : Vl} {d : Da} {h2 : Hh} (ev : ρ[i]? = some (some v)) (e : fz v h = some (d, h2)) (q : SetK i ρ (.d d) h2 N) : Ws (sFrz i ρ h) N D := by
  unfold sFrz
  rw [ev]
  dsimp only
  rw [e]
  exact ⟨q⟩
/-- the list at the end -/
theorem ws_frzE (hk : h.length = k) (ev : ρ[i]? = some (some (.r k))) (q : SetK i ρ (.d (.list ds)) (h ++ none :: l) N) : Ws (sFrz i ρ (h ++ some (.lst ds) :: l)) N D := by
  subst hk
  exact ws_frz (d := .list ds) ev (by unfold fz; dsimp only; rw [get_at, set_at]) q
end
/-! ### comprehensions over typed parts -/
section
variable {gd : Option (Nat × List Da)} {g : Gv} {tt : Tv} {fe : Ev} {ρ0 : En} {h : Hh} {α : Type} {f g' : α → Da} {P : α → Bool}
end
section
variable {Q : Vl → Hh → Prop} {E : XP} {ρ : En} {h : Hh} {i : Iv} {g : Gv} {tt : Tv} {fe : Ev} {ws : List Nat}
end
/-! ### small ranges; menus -/
section
variable {ρ : En} {h : Hh} {N : En → Hh → Prop} {D : Ds} {g : Gv} {s : Sv}
theorem rng_get {lo : Int} {n k : Nat} {d : Da} (e : (rngD lo n)[k]? = some d) : d = .int (lo + (k : Int)) ∧ k < n := by
  unfold rngD at e
  rw [List.getElem?_map] at e
  cases z : (List.range n)[k]? with
  | none => rw [z] at e; cases e
  | some j =>
    rw [z] at e
    have hk := (List.getElem?_eq_some_iff.mp z).1
    rw [List.length_range] at hk
    rw [List.getElem?_range hk] at z
    cases z
    exact ⟨(Option.some.inj e).symm, hk⟩
end
/-- ways that meet -/
theorem ws_use {s : So} {N N' : En → Hh → Prop} {D : Ds} (w : Ws s N' D) (k : ∀ ρ h, N' ρ h → N ρ h) : Ws s N D := by
  cases s with
  | nx ρ h => exact ⟨k ρ h w.w⟩
  | no => exact w.w.elim
  | _ => exact ⟨w.w⟩
/-! ### a list at the end of the heap -/
section
variable {h l : Hh} {Q : Vl → Hh → Prop} {k : Nat} {ds : List Da} {v a0 a1 a2 : Da} {r : List Da}
end
/-! ### pairs of fractions, equal or not -/
section
variable {Q : Vl → Hh → Prop} {h : Hh} {a b c d : Rat}
end
end Rk

/-! Rk24: t[::-1]. -/
namespace Rk
open PySem PySem.Spec L2 PyProof.Rows
section
variable {prog : Program} {w : World} {A : Around} {E : Value → Shared → Prop} {s : Shared}
theorem sliceApplied_rev {sl : Addr} {vl vu vs : Value} {n : Nat} {Q : Int × Int × Nat → Shared → Prop} (hs : s.heap.IsSliceOf sl vl vu vs) (pl : IsPart vl none) (pu : IsPart vu none) (ps : IsPart vs (some (-1)))
    (h : Q ((n : Int) - 1, -1, n) s) : wpAny (model prog w) A (Builtin.Slice.sliceApplied (.ref sl) (pure (n : Int))) Q E s := by
  obtain ⟨os, hos, hcs, hds⟩ := id hs
  unfold Builtin.Slice.sliceApplied Builtin.Slice.sliceFields
  refine wpAny_bind (wpAny_bind (wpAny_field hos hds (x := vl) rfl (wpAny_bind (wpAny_field hos hds (x := vu) rfl (wpAny_bind (wpAny_field hos hds (x := vs) rfl (wpAny_pure ?_)))))))
  refine wpAny_bind (HT.slicePart_ ps ?_)
  show wpAny _ _ (if ((-1 : Int) == 0) = true then _ else _) _ _ s
  rw [if_neg (by decide)]
  refine wpAny_bind (HT.slicePart_ pl (wpAny_bind (HT.slicePart_ pu (wpAny_bind (wpAny_pure ?_)))))
  show wpAny _ _ (pure ((n : Int) - 1, (-1 : Int), Builtin.Slice.slicePlaces ((n : Int) - 1) (-1) (-1))) _ _ s
  have e : Builtin.Slice.slicePlaces ((n : Int) - 1) (-1) (-1) = n := by
    unfold Builtin.Slice.slicePlaces
    rw [if_neg (by decide), show -(-1 : Int) = 1 from rfl, Int.ediv_one]
    split <;> omega
  rw [e]
  exact wpAny_pure h
theorem pick_rev (xs : Array Value) : ((List.range xs.size).filterMap fun (m : Nat) => xs[(((xs.size : Nat) : Int) - 1 + (m : Int) * (-1)).toNat]?).toArray = xs.toList.reverse.toArray := by
  congr 1
  apply List.ext_getElem?
  intro i
  have all : ∀ k, k ≤ xs.size → ((List.range k).filterMap fun (m : Nat) => xs[(((xs.size : Nat) : Int) - 1 + (m : Int) * (-1)).toNat]?) = (List.range k).map fun m => xs.getD (xs.size - 1 - m) .none := by
    intro k
    induction k with
    | zero => intro _; rfl
    | succ k ih =>
      intro hk
      rw [List.range_succ, List.filterMap_append, List.map_append, ih (by omega)]
      congr 1
      have e : (((xs.size : Nat) : Int) - 1 + (k : Int) * (-1)).toNat = xs.size - 1 - k := by omega
      have hlt : xs.size - 1 - k < xs.size := by omega
      simp only [List.filterMap_cons, List.filterMap_nil, List.map_cons, List.map_nil, e, Array.getElem?_eq_getElem hlt, Array.getD, dif_pos hlt]
      rfl
  rw [all xs.size (Nat.le_refl _)]
  by_cases hi : i < xs.size
  · rw [List.getElem?_map, List.getElem?_range hi, List.getElem?_reverse (by simpa using hi)]
    have h2 : xs.size - 1 - i < xs.size := by omega
    simp [Array.getD, h2]
  · rw [List.getElem?_eq_none (by simp; omega), List.getElem?_eq_none (by simp; omega)]
theorem getItem_tuple_rev {t sl : Addr} {items : Array Value} {vl vu vs : Value} {Q : Value → Shared → Prop} (ht : IsTup s.heap t items) (hs : s.heap.IsSliceOf sl vl vu vs) (pl : IsPart vl none) (pu : IsPart vu none) (ps : IsPart vs (some (-1)))
    (h : Q (.ref s.heap.objs.size) { s with heap := s.heap.push { cls := .type "tuple", data := .seq items.toList.reverse.toArray } })
    (hsz : items.size ≤ sizeLine) : wpAny (model prog w) A (getItem (.ref t) (.ref sl)) Q E s := by
  have htake : sizeOk (.seq items.toList.reverse.toArray) := by
    show items.toList.reverse.toArray.size ≤ sizeLine
    simpa using hsz
  obtain ⟨os, hos, hcs, hds⟩ := id hs
  have hTs : s.TypeIs (.ref sl) "slice" := ⟨os, hos, hcs⟩
  unfold getItem
  try with_reducible refine wpAny_holding ?_
  first | refine wpAny_bind (wpAny_pure ?_) | skip
  refine wpAny_bind (wpAny_sequenceKey ht.typeIs (by decide) ?_)
  refine wpAny_bind (wpAny_callSpecial?_slot (name := Str.ofString "__getitem__") ht.typeIs PyProof.Rows.slot_tuple_getitem
    (wpAny_call_entry PyProof.Rows.slot_tuple_getitem ht.typeIs entry_tuple_getitem ?_ (args_tuple_getitem _ _)))
  show wpAny _ _ (Builtin.Tuple.tupleItemsOf (.ref t) >>= _) _ _ s
  refine wpAny_bind (tupleItemsOf_ ht ?_)
  refine wpAny_bind (wpAny_typeOf hTs ?_)
  rw [if_pos (by decide)]
  refine wpAny_bind (sliceApplied_rev hs pl pu ps ?_)
  have hno : ¬ ((((items.size : Nat) : Int) - 1 == 0 && (-1 : Int) == 1 && items.size == items.size) = true) := by
    intro q
    rw [Bool.and_eq_true, Bool.and_eq_true] at q
    exact absurd (eq_of_beq q.1.2) (by decide)
  show wpAny _ _ (if (((items.size : Nat) : Int) - 1 == 0 && (-1 : Int) == 1 && items.size == items.size) = true then _ else _) _ _ s
  rw [if_neg hno, pick_rev]
  first
    | exact wpAny_bind (m := Builtin.Tuple.tupleExact _) (wpAny_newObj_type (wpAny_pure ⟨_, rfl, wpAny_pure h⟩) htake)
    | exact wpAny_bind (m := Builtin.Tuple.tupleExact _) (wpAny_newObj_type (wpAny_bind (wpAny_pure (wpAny_pure ⟨_, rfl, wpAny_pure h⟩))) htake)
    | exact wpAny_bind (wpAny_bind (m := Builtin.Tuple.tupleExact _) (wpAny_newObj_type (wpAny_pure (wpAny_pure ⟨_, rfl, wpAny_pure h⟩)) htake))
    | exact wpAny_bind (wpAny_bind (m := Builtin.Tuple.tupleExact _) (wpAny_newObj_type (wpAny_pure ⟨_, rfl, wpAny_pure h⟩) htake))
end
theorem vals_rev {xs : List V} {us : List Value} (r : Vals xs us) : Vals xs.reverse us.reverse := by
  have app : ∀ {a b : List V} {c d : List Value}, Vals a c → Vals b d → Vals (a ++ b) (c ++ d) := by
    intro a b c d h1 h2
    induction h1 with
    | nil => exact h2
    | cons r t ih => exact .cons r ih
  induction r with
  | nil => exact .nil
  | cons r t ih =>
    rw [List.reverse_cons, List.reverse_cons]
    exact app ih (.cons r .nil)
theorem reps_rev {K : PySem.W.Frag} {H : Hp} {M : Addr → Prop} : ∀ {xs : List V} {ds : List Da}, Reps K H M xs ds → Reps K H M xs.reverse ds.reverse
  | _, _, .nil => .nil
  | _, _, .cons r t => by
    rw [List.reverse_cons, List.reverse_cons]
    exact (reps_rev t).append (.cons r .nil)
def tRev (K : PySem.W.Frag) (te : TE) (tl th ts : TO) : TE := fun σ H Q => te σ H fun x H1 => tl σ H1 fun lo H2 => th σ H2 fun hi H3 => ts σ H3 fun st H4 => ∃ a xs, x = .ref a ∧ SqT K H4 a xs ∧ lo = none ∧ hi = none ∧ st = some (-1) ∧ ∀ p, H4 p = none → Q (.ref p) (upd H4 p (.tup xs.reverse))
section
variable {X : Cx}
theorem pe_rev {e : Expr} {lo hi : Option Expr} {st : Expr} {te : TE} {tl th ts : TO} {p3 pos : Pos} (he : PE X e te) (hl : PO X lo tl) (hh : PO X hi th) (hs : PO X (some st) ts) : PE X (.Subscript e (.Slice lo hi (some st) p3) pos) (tRev X.K te tl th ts) := by
  constructor
  intro pins s σ H Q I h
  refine Subscript_ (thn (he.run pins s σ H _ I h) ?_)
  rintro v s1 ⟨x, H1, I1, r1, q1⟩
  refine wpAny_Slice (thn (hl.run pins s1 σ H1 _ I1 q1) ?_)
  rintro vl s2 ⟨l, H2, I2, pl, q2⟩
  refine thn (hh.run pins s2 σ H2 _ I2 q2) ?_
  rintro vu s3 ⟨u, H3, I3, pu, q3⟩
  refine thn (hs.run pins s3 σ H3 _ I3 q3) ?_
  rintro vs s4 ⟨o, H4, I4, ps, a, xs, ex, hx, rfl, rfl, rfl, q⟩
  subst ex
  cases r1
  have I5 : Inv X pins σ H4 { s4 with heap := s4.heap.push { cls := .type "slice", data := .fields #[vl, vu, vs] } } := I4.kept (t' := s4.toks) fun b ob z => Heap.get?_push_of_some _ z
  obtain ⟨its, r, ht, hz⟩ := I5.tuple hx
  have hlen := r.length
  refine tail_any (ops := [.ref a, .ref s4.heap.objs.size]) ht.typeIs PyProof.Rows.slot_tuple_getitem.lookup ?_ (by with_unfolding_all rfl)
  refine getItem_tuple_rev ht (Heap.IsSliceOf.new _ vl vu vs) pl pu ps ?_ (by rw [List.size_toArray, ← hlen]; exact hz)
  refine ⟨.ref _, _, I5.laid (t' := s4.toks) (o := .tup xs.reverse) (fun b ob z => Heap.get?_push_of_some _ z) (Nat.le_refl _) ?_, rfl, q _ (I5.hok.fresh (Nat.le_refl _))⟩
  exact ⟨by rw [List.length_reverse]; exact hz, _, vals_rev r, IsTup.new _ _⟩
theorem PE.orr {e : Expr} {t u : TE} (h : PE X e t) (k : PE X e u) : PE X e (fun σ H Q => t σ H Q ∨ u σ H Q) := ⟨fun pins s σ H Q I w => w.elim (h.run pins s σ H Q I) (k.run pins s σ H Q I)⟩
end
def gRv (x : Vl) (h : Hh) : Option (Vl × Hh) := match x with
  | .d (.tuple xs) => some (.d (.tuple xs.reverse), h)
  | x => gSt x none none (some (-1)) h
def eRv (f : Ev) : Ev := fun ρ h => (f ρ h).bind fun x h1 => ofO (gRv x h1)
section
variable {X : Cx} {W : WX} {a st : Expr} {fa : Ev} {pos p2 : Pos} {fs : Ov}
theorem ee_rv (ha : EE X W a fa) (hs : EO X W (some st) fs) (hf : ∀ ρ h, fs ρ h = .ok (some (-1)) h) : EE X W (.Subscript a (.Slice none none (some st) p2) pos) (eRv fa) :=
  PE.of (PE.orr (ee_step ha eo_none eo_none hs) (pe_rev ha (eo_none (X := X) (W := W)) (eo_none (X := X) (W := W)) hs)) fun σ H Q ⟨φ, h, ρ, sm, er, q⟩ => by
    unfold eRv at q
    by_cases c : ∃ xs h1, fa ρ h = .ok (.d (.tuple xs)) h1
    · right
      obtain ⟨xs, h1, e⟩ := c
      rw [e] at q
      refine ⟨φ, h, ρ, sm, er, ?_⟩
      rw [e]
      intro x H1 φ1 st1 sm1 rv
      refine ⟨φ1, h1, ρ, sm1, er.step st1, fun H2 φ2 st2 sm2 => ⟨φ2, h1, ρ, sm2, (er.step st1).step st2, fun H3 φ3 st3 sm3 => ⟨φ3, h1, ρ, sm3, ((er.step st1).step st2).step st3, ?_⟩⟩⟩
      rw [hf]
      intro H4 φ4 st4 sm4
      have rv4 := rv.step ((st2.trans st3).trans st4)
      obtain ⟨p, zs, rfl, sq, rs⟩ := VRep.tup rv4
      refine ⟨p, zs, rfl, sq, rfl, rfl, rfl, fun n hn => ?_⟩
      obtain ⟨s1, s2, s3⟩ := new_tup sm4 (reps_rev rs) hn
      exact q _ _ _ ((((st1.trans st2).trans st3).trans st4).trans s1) s2 s3
    · left
      refine ⟨φ, h, ρ, sm, er, ?_⟩
      revert q
      unfold eSt
      cases e : fa ρ h with
      | no => exact fun q => q
      | ex c fs h1 => exact fun q => q
      | ok v h1 =>
        show PoX _ _ _ _ _ (ofO (gRv v h1)) _ _ → PoX _ _ _ _ _ ((fs ρ h1).bind _) _ _
        rw [hf]
        have : gRv v h1 = gSt v none none (some (-1)) h1 := by
          unfold gRv
          split
          · exact absurd ⟨_, _, e⟩ c
          · rfl
        rw [this]
        exact fun q => q
end
section
variable {Q : Vl → Hh → Prop} {E : XP} {ρ : En} {h : Hh} {a : Ev} {xs : List Da}
theorem wp_rv (w : Wp (a ρ h) (fun x h1 => Wo (gRv x h1) Q) E) : Wp (eRv a ρ h) Q E := wp_bind (w.mono (fun _ _ w => wo_of w) fun _ _ _ z => z)
theorem wp_fzR (w : Wp (eRv a ρ h) (fun v h1 => FzK v h1 h.length Q) (fun c fs h1 => E c fs (h1.take h.length))) : Wp (eFz (eRv a) ρ h) Q E := wp_fz w
end
/-! ### append to a list at the end -/
section
variable {Q : Vl → Hh → Prop} {E : XP} {ρ : En} {h l : Hh} {o : Ev} {as : Av} {g : GM} {k : Nat} {ds es : List Da} {v : Da} {A : Prop}
theorem wp_mtL (w : Wp (o ρ h) (fun x h1 => tyL x h1 = true ∧ Wp (as ρ h1) (fun vs h2 => Wo (g x vs h2) Q) E) E) : Wp (eMt tyL g o as ρ h) Q E :=
  wp_bind (w.mono (fun _ _ ⟨e, w⟩ => by
    rw [if_pos e]
    exact wp_bind (w.mono (fun _ _ w => wo_of w) fun _ _ _ z => z)) fun _ _ _ z => z)
theorem tyL_E (hk : h.length = k) (a : A) : tyL (.r k) (h ++ some (.lst ds) :: l) = true ∧ A := by
  subst hk
  exact ⟨tyL_at get_at, a⟩
theorem wo_appE (hk : h.length = k) (e : ds ++ [v] = es) (hl : ds.length < 16777216) (q : Q (.d .none) (h ++ some (.lst es) :: l)) : Wo (gApp (.r k) [.d v] (h ++ some (.lst ds) :: l)) Q := by
  subst hk
  refine wo_eq (gApp_at get_at hl) ?_
  rw [set_at, e]
  exact q
end
def mn4 (p q r s : Rat) : Rat := mn (mn (mn p q) r) s
def mx4 (p q r s : Rat) : Rat := mx (mx (mx p q) r) s
section
variable {Q : Vl → Hh → Prop} {h : Hh} {ds : List Da} {r : Rat} {i : Int} {b : Bool} {x : Str}
theorem wo_isNn (q : Q (.d (.bool true)) h) : Wo (gIsN (.d .none) (.d .none) h) Q := q
end
end Rk

/-! Rk25: comprehensions part by part; strings; rulers. -/
namespace Rk
open PySem PySem.Spec L2
def LcK (D : Nat) (g : Gv) (fe : Ev) (ρ0 : En) (ds acc : List Da) (hb : Hh) (Q : Vl → Hh → Prop) : Prop :=
  Wp (lcL none D g tvYes fe ρ0 ds (hb ++ [some (.lst acc)])) (fun v h1 => FzK v h1 D Q) NX
section
variable {Q : Vl → Hh → Prop} {E : XP} {ρ ρ0 : En} {h hb : Hh} {i : Iv} {g : Gv} {fe : Ev} {ws : List Nat} {D : Nat} {d : Da} {ds acc acc' : List Da}
theorem wp_lcU (e00 : wipeE ρ ws = ρ0) (w : Wp (i ρ h) (fun m h1 => m.gd = none ∧ h1.length = h.length ∧ LcK h.length g fe ρ0 m.ds [] h1 Q) (fun c fs h1 => E c fs (h1.take h.length))) : Wp (eFz (eLc ws i g tvYes fe) ρ h) Q E := by
  subst e00
  refine wp_fz (wp_bind (w.mono ?_ fun _ _ _ z => z))
  rintro ⟨ds, gd⟩ h1 ⟨e0, hl, w⟩
  dsimp only at e0 w
  subst e0
  dsimp only
  rw [hl]
  exact Wp.mono w (fun _ _ z => z) fun _ _ _ z => z.elim
theorem lck_nil (e : hb.length = D) (q : Q (.d (.list acc)) hb) : LcK D g fe ρ0 [] acc hb Q := by
  subst e
  unfold LcK
  rw [lcL_nil (gd := none) trivial]
  exact wp_eq rfl (fzk_end rfl q)
theorem lck_cons (w : GvK (g (.d d) ρ0 (hb ++ [some (.lst acc)])) fun ρ1 h1 => Wp (fe ρ1 h1) (fun v h2 => ∃ x hb', v = .d x ∧ h2 = hb' ++ [some (.lst acc)] ∧ hb'.length = D ∧ acc.length < 16777216 ∧ LcK D g fe ρ0 ds (acc ++ [x]) hb' Q) NX) : LcK D g fe ρ0 (d :: ds) acc hb Q := by
  unfold LcK
  unfold GvK Wo at w
  revert w
  cases e : g (.d d) ρ0 (hb ++ [some (.lst acc)]) with
  | none => exact fun z => z.elim
  | some p =>
    obtain ⟨ρ1, h1⟩ := p
    intro w
    obtain ⟨v, h2, e2, x, hb', rfl, rfl, e3, hl, w⟩ := wp_out w
    rw [lcL_cons (gd := none) trivial e rfl e2 (appL_end e3 hl)]
    exact w
end
section
variable {Q : Vl → Hh → Prop} {h : Hh} {R : Ruler}
end
end Rk

/-! Rk26: how far rounding goes. -/
namespace Rk
open PySem PySem.Spec L2
section
variable {R : Ruler} {x y : Rat} {n m : Nat}
end
end Rk

/-! Rk27: a list at the end, beside a state that is drawn from: the heap in the form (h ++ list :: l).set n o. -/
namespace Rk
open PySem PySem.Spec L2
section
variable {h l : Hh} {Q : Vl → Hh → Prop} {E : XP} {k n m : Nat} {ds es : List Da} {v a0 a1 : Da} {r : List Da} {o : Option Ob} {A : Prop} {N : En → Hh → Prop} {D : Ds} {ρ : En} {i : Nat}
theorem wp_norm {f : Fn} {as : List Vl} (hn : n < h.length) (w : n < (h ++ l).length → Wp (f as ((h ++ l).set n o)) Q E) : Wp (f as (h.set n o ++ l)) Q E := by
  have := w (by rw [List.length_append]; omega)
  rwa [set_app hn] at this
theorem wo_appS (hn : n < h.length) (hk : h.length = k) (e : ds ++ [v] = es) (hl : ds.length < 16777216) (q : Q (.d .none) ((h ++ some (.lst es) :: l).set n o)) : Wo (gApp (.r k) [.d v] ((h ++ some (.lst ds) :: l).set n o)) Q := by
  rw [set_app hn]
  rw [set_app hn] at q
  exact wo_appE (by rw [List.length_set]; exact hk) e hl q
theorem tyL_S (hn : n < h.length) (hk : h.length = k) (a : A) : tyL (.r k) ((h ++ some (.lst ds) :: l).set n o) = true ∧ A := by
  rw [set_app hn]
  exact tyL_E (by rw [List.length_set]; exact hk) a
theorem ws_frzS (hn : n < h.length) (hk : h.length = k) (ev : ρ[i]? = some (some (.r k))) (q : SetK i ρ (.d (.list ds)) ((h ++ none :: l).set n o) N) : Ws (sFrz i ρ ((h ++ some (.lst ds) :: l).set n o)) N D := by
  rw [set_app hn]
  rw [set_app hn] at q
  exact ws_frzE (by rw [List.length_set]; exact hk) ev q
theorem retK_S {x : Da} (hn : n < h.length) (e : h.length = m) (q : Q (.d x) (h.set n o)) : RetK m Q (.d x) ((h ++ l).set n o) := by
  rw [set_app hn]
  exact retK_d' (by rw [List.length_set]; exact e) q
end
end Rk

/-! Rk28: zip of two lists or of two tuples of data; all and any of a list of truths. -/
namespace Rk
open PySem PySem.Spec L2
variable {mg : Str → Option Value}
def zipD (xs ys : List Da) : List Da := (xs.zip ys).map fun p => .tuple [p.1, p.2]
section
variable {K : PySem.W.Frag}
end
def iZip (as : Av) : Iv := fun ρ h => (as ρ h).bind fun vs h1 => match vs with
  | [.d (.list xs), .d (.list ys)] => .ok ⟨zipD xs ys, none⟩ h1
  | [.d (.tuple xs), .d (.tuple ys)] => .ok ⟨zipD xs ys, none⟩ h1
  | _ => .no
section
variable {X : Cx} {W : WX} {pos p : Pos} {fs : Av}
end
section
variable {QI : Itm → Hh → Prop} {E : XP} {ρ : En} {h : Hh} {as : Av} {xs ys : List Da}
end
def boolsOf : List Da → Option (List Bool)
  | [] => some []
  | .bool b :: r => (boolsOf r).map (b :: ·)
  | _ => none
def intsOf : List Da → Option (List Int)
  | [] => some []
  | .int b :: r => (intsOf r).map (b :: ·)
  | _ => none
def gAll : GC := fun as h => match as with
  | [.d (.list ds)] => (boolsOf ds).map fun bs => (.d (.bool (bs.all id)), h)
  | _ => none
def gAny : GC := fun as h => match as with
  | [.d (.list ds)] => (boolsOf ds).map fun bs => (.d (.bool (bs.any id)), h)
  | _ => none
def gSum : GC := fun as h => match as with
  | [.d (.list ds)] => (intsOf ds).map fun ns => (.d (.int ns.sum), h)
  | _ => none
def minI : Int → List Int → Int
  | a, [] => a
  | a, b :: r => min a (minI b r)
def maxI : Int → List Int → Int
  | a, [] => a
  | a, b :: r => max a (maxI b r)
def gMinL : GC := fun as h => match as with
  | [.d (.list ds)] => match intsOf ds with
    | some (a :: r) => some (.d (.int (minI a r)), h)
    | _ => none
  | _ => none
def gMaxL : GC := fun as h => match as with
  | [.d (.list ds)] => match intsOf ds with
    | some (a :: r) => some (.d (.int (maxI a r)), h)
    | _ => none
  | _ => none
section
variable {K : PySem.W.Frag} {H : Hp} {L : Nat → Prop}
theorem reps_ints {φ : List Addr} {h : Hh} : ∀ {ds : List Da} {us : List V} {bs : List Int}, Reps K H (Live φ h) us ds → intsOf ds = some bs → us = bs.map V.int
  | [], us, bs, rs, e => by
    cases e
    cases rs
    rfl
  | d :: ds, us, bs, rs, e => by
    cases rs with
    | cons r rr =>
      cases d <;> try (simp only [intsOf, reduceCtorEq] at e)
      rename_i b
      obtain ⟨cs, e1, rfl⟩ := Option.map_eq_some_iff.mp (show (intsOf ds).map (b :: ·) = some bs from e)
      rw [reps_ints rr e1]
      cases r
      rfl
theorem ok_sum : OkC K mg (rSum K) gSum := by
  intro φ h H xs as Q v h' sm rs e k
  unfold gSum at e
  split at e
  · rename_i ds
    obtain ⟨bs, e1, e2⟩ := Option.map_eq_some_iff.mp e
    cases e2
    obtain ⟨x, rfl, r⟩ := rs.one
    obtain ⟨_, gd, a, G, rfl, L, g⟩ := itL_lok sm r rfl
    obtain ⟨us, sq, rs'⟩ := L.sq _ _ _ sm g gd
    rw [reps_ints rs' e1] at sq
    exact ⟨a, bs, rfl, sq, k _ H φ (Step.refl _ _ _) sm (Rep.int _)⟩
  · cases e
end
theorem intsOf_map {α : Type} (g : α → Int) : ∀ xs : List α, intsOf (xs.map fun x => .int (g x)) = some (xs.map g)
  | [] => rfl
  | x :: xs => by
    show (intsOf (xs.map fun x => .int (g x))).map (g x :: ·) = _
    rw [intsOf_map g xs]
    rfl
section
variable {Q : Vl → Hh → Prop} {h : Hh} {ds : List Da} {bs : List Bool} {ns : List Int} {a : Int}
theorem wo_sum (e : intsOf ds = some ns) (q : Q (.d (.int ns.sum)) h) : Wo (gSum [.d (.list ds)] h) Q := wo_eq (v := .d (.int ns.sum)) (h' := h) (by unfold gSum; dsimp only; rw [e]; rfl) q
end
def repB (n : Nat) (k : Int) : Bool := decide (2 ≤ k) && decide (k ≤ 1000) && decide (0 < n) && decide (n ≤ 1000)
def repBL (n : Nat) (k : Int) : Bool := decide (1 ≤ k) && decide (k ≤ 1000) && decide (0 < n) && decide (n ≤ 1000)
def gRepL : G2 := fun x y h => match x, y with
  | .r n, .d (.int k) => match h[n]? with
    | some (some (.lst ds)) => if repBL ds.length k then some (.r h.length, h ++ [some (.lst (List.replicate k.toNat ds).flatten)]) else none
    | _ => none
  | _, _ => none
def gRepT : G2 := fun x y h => match x, y with
  | .d (.tuple ds), .d (.int k) => if repB ds.length k then some (.d (.tuple (List.replicate k.toNat ds).flatten), h) else none
  | _, _ => none
section
variable {K : PySem.W.Frag}
end
section
variable {Q : Vl → Hh → Prop} {h : Hh} {ds es : List Da} {k : Int} {n : Nat}
end
end Rk

/-! Rk29: whole multiples of powers, grains. -/
namespace Rk
open PySem PySem.Spec L2
def Mult (R : Ruler) (x : Rat) (g : Int) : Prop := ∃ k : Int, x = (k : Rat) * R.pw g
section
variable {R : Ruler} {x y a b : Rat} {n m : Nat} {g j : Int}
def IsGrn (R : Ruler) (x : Rat) (g : Int) : Prop := Mult R x g ∧ ¬ Mult R x (g + 1)
noncomputable def Ruler.grn (R : Ruler) (x : Rat) : Int := Classical.epsilon (IsGrn R x)
noncomputable def grnV (R : Ruler) (x : Rat) : Option Int := if x = 0 then none else some (R.grn x)
noncomputable def spnG (R : Ruler) (a b : Rat) : Option Int := if a = b then grnV R a else if a ≤ 0 ∧ 0 ≤ b then some R.l else some (R.plc (mn a.abs b.abs))
end
section
variable {α : Type} {h : Hh} {Q : Vl → Hh → Prop}
theorem atI_neg {xs : List α} {k : Nat} {v : α} (hk : 0 < k) (hl : k ≤ xs.length) (e : xs[xs.length - k]? = some v) : atI xs (-(k : Int)) = some v := by
  unfold atI ixN
  rw [if_neg (by omega), if_pos (by omega)]
  show xs[(-(k : Int) + xs.length).toNat]? = some v
  rw [show (-(k : Int) + xs.length).toNat = xs.length - k by omega]
  exact e
theorem wo_ilm1 {zs : List Da} {a : Da} (q : Q (.d a) h) : Wo (gIx (.d (.list (zs ++ [a]))) (.d (.int (-1))) h) Q :=
  wo_eq (by show (atI (zs ++ [a]) (-((1 : Nat) : Int))).map _ = _; rw [atI_neg (v := a) (by decide) (by simp) (by simp)]; rfl) q
end
end Rk

/-! Rk30: data without truths, its equality. -/
namespace Rk
open PySem PySem.Spec L2
mutual
def noB : Da → Bool
  | .none | .int _ | .str _ => true
  | .bool _ | .dict _ => false
  | .list xs | .tuple xs => noBs xs
def noBs : List Da → Bool
  | [] => true
  | x :: xs => noB x && noBs xs
end
mutual
theorem eqv_noB : ∀ (a b : Da), noB a = true → noB b = true → (PyData.eqv a b = true ↔ a = b)
  | .none, b, _, hb => by cases b <;> simp_all [PyData.eqv, noB]
  | .int i, b, _, hb => by cases b <;> simp_all [PyData.eqv, noB]
  | .str s, b, _, hb => by cases b <;> simp_all [PyData.eqv, noB]
  | .list xs, b, ha, hb => by
    cases b with
    | list ys =>
      have := eqv_noBs xs ys (by simpa [noB] using ha) (by simpa [noB] using hb)
      simp [PyData.eqv, this]
    | _ => simp_all [PyData.eqv, noB]
  | .tuple xs, b, ha, hb => by
    cases b with
    | tuple ys =>
      have := eqv_noBs xs ys (by simpa [noB] using ha) (by simpa [noB] using hb)
      simp [PyData.eqv, this]
    | _ => simp_all [PyData.eqv, noB]
  | .bool b, _, h, _ => by simp [noB] at h
  | .dict kvs, _, h, _ => by simp [noB] at h
theorem eqv_noBs : ∀ (a b : List Da), noBs a = true → noBs b = true → (PyData.eqvAll a b = true ↔ a = b)
  | [], [], _, _ => by simp [PyData.eqvAll]
  | [], _ :: _, _, _ => by simp [PyData.eqvAll]
  | _ :: _, [], _, _ => by simp [PyData.eqvAll]
  | x :: xs, y :: ys, ha, hb => by
    simp only [noBs, Bool.and_eq_true] at ha hb
    have h1 := eqv_noB x y ha.1 hb.1
    have h2 := eqv_noBs xs ys ha.2 hb.2
    simp [PyData.eqvAll, h1, h2]
end
mutual
theorem eqv_self : ∀ (a : Da), a.canLay0 = true → PyData.eqv a a = true
  | .none, _ => by simp [PyData.eqv]
  | .int i, _ => by simp [PyData.eqv]
  | .str s, _ => by simp [PyData.eqv]
  | .bool b, _ => by simp [PyData.eqv]
  | .list xs, h => by
    have := eqv_selfs xs (by simpa [PyData.canLay0] using h)
    simp [PyData.eqv, this]
  | .tuple xs, h => by
    have := eqv_selfs xs (by simpa [PyData.canLay0] using h)
    simp [PyData.eqv, this]
  | .dict kvs, h => by simp [PyData.canLay0] at h
theorem eqv_selfs : ∀ (a : List Da), PyData.canLayAll0 a = true → PyData.eqvAll a a = true
  | [], _ => by simp [PyData.eqvAll]
  | x :: xs, h => by
    simp only [PyData.canLayAll0, Bool.and_eq_true] at h
    simp [PyData.eqvAll, eqv_self x h.1, eqv_selfs xs h.2]
end
mutual
theorem nd_lay : ∀ (a : Da), a.canLay0 = true → a.hasDict = false
  | .none, _ => rfl
  | .int i, _ => rfl
  | .str s, _ => rfl
  | .bool b, _ => rfl
  | .list xs, h => by
    unfold PyData.hasDict
    exact nd_lays xs (by simpa [PyData.canLay0] using h)
  | .tuple xs, h => by
    unfold PyData.hasDict
    exact nd_lays xs (by simpa [PyData.canLay0] using h)
  | .dict kvs, h => by simp [PyData.canLay0] at h
theorem nd_lays : ∀ (a : List Da), PyData.canLayAll0 a = true → PyData.hasDictAll a = false
  | [], _ => rfl
  | x :: xs, h => by
    simp only [PyData.canLayAll0, Bool.and_eq_true] at h
    unfold PyData.hasDictAll
    rw [nd_lay x h.1, nd_lays xs h.2]
    rfl
end
/-- data that may be laid and compared: p tells whether it is without truths -/
structure Ly (p : Bool) (e : Nat) (x : Da) : Prop where
  s : x.canLay0 = true
  d : x.depth ≤ e
  n : p = true → noB x = true
structure LyL (p : Bool) (e : Nat) (ds : List Da) : Prop where
  s : PyData.canLayAll0 ds = true
  d : PyData.depthAll ds ≤ e
  n : p = true → noBs ds = true
section
variable {p : Bool} {e e' : Nat} {x y : Da} {ds es : List Da} {i : Int} {r : Rat}
theorem Ly.none : Ly p 0 .none := ⟨by simp [PyData.canLay0], by simp [PyData.depth], fun _ => by simp [noB]⟩
theorem Ly.int : Ly p 0 (.int i) := ⟨by simp [PyData.canLay0], by simp [PyData.depth], fun _ => by simp [noB]⟩
theorem Ly.bool {b : Bool} : Ly false 0 (.bool b) := ⟨by simp [PyData.canLay0], by simp [PyData.depth], fun h => by cases h⟩
theorem Ly.str {s : Str} (h : PyData.strOk s = true) : Ly p 0 (.str s) := ⟨by simp [PyData.canLay0, h], by simp [PyData.depth], fun _ => by simp [noB]⟩
theorem LyL.nil : LyL p 0 [] := ⟨by simp [PyData.canLayAll0], by simp [PyData.depthAll], fun _ => by simp [noBs]⟩
theorem LyL.cons (h : Ly p e x) (t : LyL p e' ds) : LyL p (max e e') (x :: ds) := ⟨by simp [PyData.canLayAll0, h.s, t.s], by
  have h1 := h.d
  have h2 := t.d
  simp only [PyData.depthAll]
  omega, fun z => by simp [noBs, h.n z, t.n z]⟩
theorem Ly.tup (t : LyL p e ds) : Ly p (e + 1) (.tuple ds) := ⟨by simp [PyData.canLay0, t.s], by
  have h2 := t.d
  simp only [PyData.depth]
  omega, fun z => by simp [noB, t.n z]⟩
theorem Ly.lst (t : LyL p e ds) : Ly p (e + 1) (.list ds) := ⟨by simp [PyData.canLay0, t.s], by
  have h2 := t.d
  simp only [PyData.depth]
  omega, fun z => by simp [noB, t.n z]⟩
theorem Ly.Q : Ly p 1 (Q r) := Ly.tup (LyL.cons .int (LyL.cons .int .nil))
theorem Ly.mono (h : Ly p e x) (hl : e ≤ e') : Ly p e' x := ⟨h.s, Nat.le_trans h.d hl, h.n⟩
theorem LyL.of (h : ∀ d ∈ ds, Ly p e d) : LyL p e ds := by
  induction ds with
  | nil => exact ⟨LyL.nil (p := p).s, Nat.le_trans (LyL.nil (p := p)).d (Nat.zero_le _), (LyL.nil (p := p)).n⟩
  | cons d ds ih =>
    have := LyL.cons (h d (List.mem_cons_self ..)) (ih fun z hz => h z (List.mem_cons_of_mem _ hz))
    rwa [Nat.max_self] at this
theorem Ly.sh (h : Ly p e x) (he : e ≤ 64) : sh x = true := by
  unfold Rk.sh SeqAt.shaped
  rw [h.s, decide_eq_true (Nat.le_trans h.d he), nd_lay x h.s]
  rfl
variable {Q : Vl → Hh → Prop} {h : Hh}
theorem gNe_d (x y : Da) (h : Hh) (b : Bool) (e : eqvB x y = some b) (hs : ∀ a c, x = .str a → y = .str c → b = decide (a = c)) : gNe (.d x) (.d y) h = some (.d (.bool (!b)), h) := by
  unfold gNe
  split
  · rename_i a c e1 e2
    cases e1
    cases e2
    rw [hs a c rfl rfl]
  · rename_i hh
    simp only [asD]
    rw [e]
    rfl
theorem eqvB_self (hx : Ly p e x) (he : e ≤ 64) : eqvB x x = some true := by
  unfold eqvB
  rw [hx.sh he, eqv_self x hx.s]
  rfl
theorem wo_neSelf (hx : Ly p e x) (he : e ≤ 64) (q : Q (.d (.bool false)) h) : Wo (gNe (.d x) (.d x) h) Q := wo_eq (gNe_d x x h true (eqvB_self hx he) (fun a c e1 e2 => by rw [e1] at e2; cases e2; simp)) q
end
end Rk

/-! Rk31: more rules by wishes. -/
namespace Rk
open PySem PySem.Spec L2
theorem wo_eqSS {Q : Vl → Hh → Prop} {h : Hh} {x : Str} (q : Q (.d (.bool true)) h) : Wo (gEq (.d (.str x)) (.d (.str x)) h) Q := wo_eqS (by rw [decide_eq_true rfl]; exact q)
theorem wo_neSS {Q : Vl → Hh → Prop} {h : Hh} {x : Str} (q : Q (.d (.bool false)) h) : Wo (gNe (.d (.str x)) (.d (.str x)) h) Q := wo_neS (by rw [decide_eq_true rfl]; exact q)
section
variable {α : Type} {Q : Vl → Hh → Prop} {h : Hh} {xs ys : List Da} {ρ : En} {N : En → Hh → Prop}
theorem cut_to (xs : List α) (k : Nat) : cutD xs none (some (k : Int)) = xs.take k := by
  unfold cutD
  rw [HT.sIx_nat, HT.sIx_none, List.drop_zero, Nat.sub_zero]
  by_cases h : k ≤ xs.length
  · rw [Nat.min_eq_left h]
  · rw [Nat.min_eq_right (by omega), List.take_length, List.take_of_length_le (by omega)]
theorem cut_from (xs : List α) (k : Nat) : cutD xs (some (k : Int)) none = xs.drop k := by
  unfold cutD
  rw [HT.sIx_nat, HT.sIx_none]
  by_cases h : k ≤ xs.length
  · rw [Nat.min_eq_left h, List.take_of_length_le (by rw [List.length_drop]; omega)]
  · rw [Nat.min_eq_right (by omega), List.drop_of_length_le (by omega), List.drop_of_length_le (by omega), List.take_nil]
theorem cut_mid (xs : List α) (i j : Nat) : cutD xs (some (i : Int)) (some (j : Int)) = (xs.drop i).take (j - i) := by
  unfold cutD
  rw [HT.sIx_nat, HT.sIx_nat]
  by_cases h2 : i ≤ xs.length
  · rw [Nat.min_eq_left h2]
    by_cases h : j ≤ xs.length
    · rw [Nat.min_eq_left h]
    · rw [List.take_of_length_le (by rw [List.length_drop]; omega), List.take_of_length_le (by rw [List.length_drop]; omega)]
  · rw [List.drop_of_length_le (by omega), List.drop_of_length_le (by omega), List.take_nil, List.take_nil]
theorem cut_to0 (xs : List α) : cutD xs none (some 0) = xs.take 0 := cut_to xs 0
theorem cut_from0 (xs : List α) : cutD xs (some 0) none = xs.drop 0 := cut_from xs 0
theorem cut_to1 (xs : List α) : cutD xs none (some 1) = xs.take 1 := cut_to xs 1
theorem cut_from1 (xs : List α) : cutD xs (some 1) none = xs.drop 1 := cut_from xs 1
theorem cut_to2 (xs : List α) : cutD xs none (some 2) = xs.take 2 := cut_to xs 2
theorem cut_from2 (xs : List α) : cutD xs (some 2) none = xs.drop 2 := cut_from xs 2
theorem cut_to3 (xs : List α) : cutD xs none (some 3) = xs.take 3 := cut_to xs 3
theorem cut_from3 (xs : List α) : cutD xs (some 3) none = xs.drop 3 := cut_from xs 3
theorem cut_to4 (xs : List α) : cutD xs none (some 4) = xs.take 4 := cut_to xs 4
theorem cut_from4 (xs : List α) : cutD xs (some 4) none = xs.drop 4 := cut_from xs 4
theorem cut_to5 (xs : List α) : cutD xs none (some 5) = xs.take 5 := cut_to xs 5
theorem cut_from5 (xs : List α) : cutD xs (some 5) none = xs.drop 5 := cut_from xs 5
theorem cut_to6 (xs : List α) : cutD xs none (some 6) = xs.take 6 := cut_to xs 6
theorem cut_from6 (xs : List α) : cutD xs (some 6) none = xs.drop 6 := cut_from xs 6
theorem cut_to7 (xs : List α) : cutD xs none (some 7) = xs.take 7 := cut_to xs 7
theorem cut_from7 (xs : List α) : cutD xs (some 7) none = xs.drop 7 := cut_from xs 7
theorem cut_to8 (xs : List α) : cutD xs none (some 8) = xs.take 8 := cut_to xs 8
theorem cut_from8 (xs : List α) : cutD xs (some 8) none = xs.drop 8 := cut_from xs 8
theorem cut_to9 (xs : List α) : cutD xs none (some 9) = xs.take 9 := cut_to xs 9
theorem cut_from9 (xs : List α) : cutD xs (some 9) none = xs.drop 9 := cut_from xs 9
theorem cut_0_1 (xs : List α) : cutD xs (some 0) (some 1) = (xs.drop 0).take 1 := cut_mid xs 0 1
theorem cut_0_2 (xs : List α) : cutD xs (some 0) (some 2) = (xs.drop 0).take 2 := cut_mid xs 0 2
theorem cut_0_3 (xs : List α) : cutD xs (some 0) (some 3) = (xs.drop 0).take 3 := cut_mid xs 0 3
theorem cut_0_4 (xs : List α) : cutD xs (some 0) (some 4) = (xs.drop 0).take 4 := cut_mid xs 0 4
theorem cut_0_5 (xs : List α) : cutD xs (some 0) (some 5) = (xs.drop 0).take 5 := cut_mid xs 0 5
theorem cut_0_6 (xs : List α) : cutD xs (some 0) (some 6) = (xs.drop 0).take 6 := cut_mid xs 0 6
theorem cut_1_2 (xs : List α) : cutD xs (some 1) (some 2) = (xs.drop 1).take 1 := cut_mid xs 1 2
theorem cut_1_3 (xs : List α) : cutD xs (some 1) (some 3) = (xs.drop 1).take 2 := cut_mid xs 1 3
theorem cut_1_4 (xs : List α) : cutD xs (some 1) (some 4) = (xs.drop 1).take 3 := cut_mid xs 1 4
theorem cut_1_5 (xs : List α) : cutD xs (some 1) (some 5) = (xs.drop 1).take 4 := cut_mid xs 1 5
theorem cut_1_6 (xs : List α) : cutD xs (some 1) (some 6) = (xs.drop 1).take 5 := cut_mid xs 1 6
theorem cut_2_3 (xs : List α) : cutD xs (some 2) (some 3) = (xs.drop 2).take 1 := cut_mid xs 2 3
theorem cut_2_4 (xs : List α) : cutD xs (some 2) (some 4) = (xs.drop 2).take 2 := cut_mid xs 2 4
theorem cut_2_5 (xs : List α) : cutD xs (some 2) (some 5) = (xs.drop 2).take 3 := cut_mid xs 2 5
theorem cut_2_6 (xs : List α) : cutD xs (some 2) (some 6) = (xs.drop 2).take 4 := cut_mid xs 2 6
theorem cut_3_4 (xs : List α) : cutD xs (some 3) (some 4) = (xs.drop 3).take 1 := cut_mid xs 3 4
theorem cut_3_5 (xs : List α) : cutD xs (some 3) (some 5) = (xs.drop 3).take 2 := cut_mid xs 3 5
theorem cut_3_6 (xs : List α) : cutD xs (some 3) (some 6) = (xs.drop 3).take 3 := cut_mid xs 3 6
theorem cut_4_5 (xs : List α) : cutD xs (some 4) (some 5) = (xs.drop 4).take 1 := cut_mid xs 4 5
theorem cut_4_6 (xs : List α) : cutD xs (some 4) (some 6) = (xs.drop 4).take 2 := cut_mid xs 4 6
theorem cut_5_6 (xs : List α) : cutD xs (some 5) (some 6) = (xs.drop 5).take 1 := cut_mid xs 5 6
theorem wo_slT' {lo hi : Option Int} (e : cutD xs lo hi = ys) (q : Q (.d (.tuple ys)) h) : Wo (gSl (.d (.tuple xs)) lo hi h) Q := by subst e; exact q
end
end Rk

/-! Rk32: grains as data, marks, entries. -/
namespace Rk
open PySem PySem.Spec L2
def gD : Option Int → Da
  | none => .none
  | some g => .int g
noncomputable def exactB (R : Ruler) (a b : Rat) : Option Int → Bool
  | none => false
  | some g => decide (R.l ≤ g) && !decide (R.pw (g + R.f) < mx a.abs b.abs)
def gOk (g : Option Int) : Prop := ∀ z, g = some z → z.natAbs ≤ 1000
def slackV (R : Ruler) (a b : Rat) (g : Option Int) (ex : Bool) (sz : Rat) (rd : Rat) : Rat :=
  if a = b then (rd - a).abs else if ex = true then 0 else if R.w = "near" then 1 / 2 * sz else sz
theorem Shw.gD {g : Option Int} (hg : gOk g) : Shw 1921 0 (gD g) := by
  cases g with
  | none => exact Shw.none.mono (by decide) (by decide)
  | some z =>
    have := hg z rfl
    exact Shw.int (n := 64) (bd_lit 1000 (by omega) (by omega) (by decide)) (by decide)
theorem Ly.gD {p : Bool} {g : Option Int} : Ly p 0 (gD g) := by
  cases g with
  | none => exact Ly.none
  | some z => exact Ly.int
structure Mk (R : Ruler) (n : Nat) (x : Rat) : Prop where
  r : R.rnd x = x
  b : BQ n x
theorem Mk.mono {R : Ruler} {n m : Nat} {x : Rat} (h : Mk R n x) (hl : n ≤ m) : Mk R m x := ⟨h.r, h.b.mono hl⟩
def InS (R : Ruler) (a b x : Rat) : Prop := Mult R x R.l ∧ a ≤ x ∧ x ≤ b
structure Ent where
  lo : Rat
  hi : Rat
  tl : Rat
  th : Rat
  er : Rat
  g : Option Int
def Ent.da (e : Ent) : Da := .tuple [Rk.Q e.lo, Rk.Q e.hi, Rk.Q e.tl, Rk.Q e.th, Rk.Q e.er, gD e.g]
structure Ent.B (n : Nat) (e : Ent) : Prop where
  lo : BQ n e.lo
  hi : BQ n e.hi
  tl : BQ n e.tl
  th : BQ n e.th
  er : BQ n e.er
  g : ∀ z, e.g = some z → z.natAbs ≤ n
structure Ent.Ok (R : Ruler) (e : Ent) : Prop where
  lo : R.rnd e.lo = e.lo
  hi : R.rnd e.hi = e.hi
  lh : e.lo ≤ e.hi
  t : e.tl ≤ e.th
  er : 0 ≤ e.er
  gn : e.g = none ↔ e.lo = 0 ∧ e.hi = 0
  gl : ∀ z, e.g = some z → R.l ≤ z
theorem Ent.B.mono {n m : Nat} {e : Ent} (b : e.B n) (h : n ≤ m) : e.B m := ⟨b.lo.mono h, b.hi.mono h, b.tl.mono h, b.th.mono h, b.er.mono h, fun z x => Nat.le_trans (b.g z x) h⟩
theorem Ent.Ly {p : Bool} (e : Ent) : Ly p 2 e.da := by
  unfold Ent.da
  exact Ly.tup (LyL.cons .Q (LyL.cons .Q (LyL.cons .Q (LyL.cons .Q (LyL.cons .Q (LyL.cons .gD .nil))))))
theorem abs_nonneg' (r : Rat) : 0 ≤ r.abs := by
  unfold Rat.abs
  grind
theorem hd_v {i : Nat} {ρ : En} {h : Hh} {Q : Vl → Hh → Prop} {E : XP} (w : Wp (eVar i ρ h) Q E) : Wp (eVar i ρ h) Q E := w
theorem Ent.mkN {R : Ruler} {a b c d e : Rat} (ha : Mk R 140 a) (hb : Mk R 140 b) (hab : a ≤ b) (hc : BQ 300 c) (hd : BQ 300 d) (hcd : c ≤ d) (he : BQ 140 e) (z : a = 0 ∧ b = 0) : (Ent.mk a b c d e.abs none).Ok R ∧ (Ent.mk a b c d e.abs none).B 300 :=
  ⟨⟨ha.r, hb.r, hab, hcd, abs_nonneg' _, ⟨fun _ => z, fun _ => rfl⟩, fun _ x => nomatch x⟩, ⟨ha.b.mono (by decide), hb.b.mono (by decide), hc, hd, he.abs.mono (by decide), fun _ x => nomatch x⟩⟩
end Rk

/-! Rk33: rounding rises. -/
namespace Rk
open PySem PySem.Spec L2
section
variable {R : Ruler} {x y : Rat} {n m : Nat}
end
end Rk

/-! Rk34: ranks of marks. -/
namespace Rk
open PySem PySem.Spec L2
def Ruler.N (R : Ruler) : Nat := R.b ^ R.f
def Ruler.M (R : Ruler) : Nat := R.b ^ (R.f - 1)
def Ruler.fr (R : Ruler) : Nat := R.N - R.M
def Ruler.far (R : Ruler) (k : Nat) : Nat := if k < R.N then 0 else (k - R.N) / R.fr + 1
def Ruler.st (R : Ruler) (k : Nat) : Nat := k - R.far k * R.fr
def Ruler.mkN (R : Ruler) (k : Nat) : Rat := ((R.st k : Int) : Rat) * R.pw (R.l + R.far k)
def Ruler.mkOf (R : Ruler) (k : Int) : Rat := if 0 ≤ k then R.mkN k.natAbs else -R.mkN k.natAbs
section
variable {R : Ruler} (O : R.Ok)
include O
end
end Rk

/-! Rk35: statements that are never reached. -/
namespace Rk
open PySem PySem.Spec L2
def sNo : Sv := fun _ _ => .no
end Rk

/-! Rk36: enumerate over a tuple. -/
namespace PySem
open Sem (wp)
open AutoSeq1 (wpAny_loadPart')
/-- the iterator of the tuple at t -/
abbrev rkTi (t : Addr) : Obj := { cls := .type "tuple_iterator", data := .fields #[.ref t, .int 0 0] }
abbrev rkEn (j : Addr) : Obj := { cls := .type "enumerate", data := .fields #[.none, .bool false, .ref j, rawInt 0, .none, .none] }
theorem rk_meets_enumT (t : Addr) (us : Array Value) (m : Nat) (od : Option Addr) (ss : Array (Option Value)) :
    Meets (Builtin.«enumerate.__new__» ⟨[.type "enumerate", .ref t], []⟩) (fun _ R s => s.heap.get? t = some { cls := .type "tuple", dict := od, data := .seq us m, slots := ss } ∧ R (.ok (.ret (.ref (s.heap.push (rkTi t)).objs.size))) { s with heap := (s.heap.push (rkTi t)).push (rkEn s.heap.objs.size) }) :=
  .of_wp fun _ _ _ R s0 hyp => by
    obtain ⟨hp, g, d, tk, os⟩ := s0; obtain ⟨ht, hyp⟩ := hyp
    have subE := sub_enumerate
    have isT : Heap.IsTuple (Shared.heap ⟨hp, g, d, tk, os⟩) t us := ⟨_, ht, rfl, m, rfl⟩
    wp_walk using wpAny_loadPart' ht
    refine wpAny_stack_any fun _ => wpAny_pure ?_
    split
    · rename_i c0 _ _ _ _ _
      cases (c0 == Value.type "enumerate") <;> (wp_walk using wpAny_loadPart' ht, wpAny_pyIter_tuple isT; exact ⟨_, rfl, hyp⟩)
    · (wp_walk using wpAny_loadPart' ht, wpAny_pyIter_tuple isT; exact ⟨_, rfl, hyp⟩)
section
variable {prog : Program} {w : World} {A : Around} {E : Value → Shared → Prop} {s : Shared}
theorem rk_call_enumT {t : Addr} {us : Array Value} {Q : Value → Shared → Prop} (isT : s.heap.IsTuple t us)
    (k : ∀ h1, IsEnum h1 (s.heap.objs.size + 1) s.heap.objs.size 0 .none → h1.IsTupleIter s.heap.objs.size t 0 → h1.objs.size = s.heap.objs.size + 2 → (∀ b o, s.heap.get? b = some o → h1.get? b = some o) → Q (.ref (s.heap.objs.size + 1)) { s with heap := h1 }) :
    wpAny (model prog w) A (call (.type "enumerate") [.ref t]) Q E s := by
  obtain ⟨⟨c0, od, dat, ss⟩, ht, hcl, m, hdt⟩ := isT
  dsimp only at hcl hdt
  subst hcl hdt
  refine callType_new F.called_enumerate (by decide) (F.typeCall_enumerate_1 _) (F.newCall_enumerate_1 _) (fun o => F.args_object_init_2 o _) F.entry_enumerate_new (rk_meets_enumT t us m od ss) ⟨ht, ?_⟩
  have sz : (s.heap.push (rkTi t)).objs.size = s.heap.objs.size + 1 := Heap.size_push ..
  show _ ∧ _
  rw [sz]
  have en : IsEnum ((s.heap.push (rkTi t)).push (rkEn s.heap.objs.size)) (s.heap.objs.size + 1) s.heap.objs.size 0 .none := by
    have e0 := Heap.get?_push_size (s.heap.push (rkTi t)) (o := rkEn s.heap.objs.size) rfl
    rw [sz] at e0
    exact e0
  exact ⟨⟨_, en, rfl⟩, k _ en ⟨_, Heap.get?_push_of_some _ (Heap.get?_push_size _ rfl), rfl, rfl⟩ (by rw [Heap.size_push, sz]) fun _ _ x => Heap.get?_push_of_some _ (Heap.get?_push_of_some _ x)⟩
theorem rk_drawsT {it a : Addr} {us : Array Value} (hh : A.handled = none) (hne : it ≠ a) : Draws prog w A it [it, a] us.size (fun i x => us[i]? = some x) (fun i h => h.IsTupleIter it a i ∧ h.IsTuple a us) where
  live := fun i h st => let ⟨⟨o, ho, _⟩, _⟩ := st; ⟨o, ho⟩
  frame := fun i h h' st k => ⟨st.1.at fun o q => k it (by simp) o q, let ⟨o, ho, r⟩ := st.2; ⟨o, k a (by simp) o ho, r⟩⟩
  item := fun i s Q E hi st hQ => by
    have hx : us[i]? = some us[i] := Array.getElem?_eq_getElem hi
    refine RZ.nextOf_tuple_item st.1 st.2 hx fun h' h1 sb => ?_
    obtain ⟨o, ho, r⟩ := st.2
    exact hQ _ h' s.toks hx ⟨h1, ⟨o, (sb.2 a (Ne.symm hne)).trans ho, r⟩⟩ sb
  done := fun s Q E st hE => RZ.nextOf_tuple_end hh st.1 st.2 (by simp) hE
end
end PySem
namespace Rk
open PySem PySem.Spec PyProof.Rows L2
def IteT (K : PySem.W.Frag) (a : Addr) : It :=
  ⟨fun i H => ∃ (xs : List V) (x : V), SqT K H a xs ∧ xs[i]? = some x, fun i H v H' => ∃ T x, v = .ref T ∧ H T = none ∧ H' = upd H T (.tup [.int (i : Nat), x]) ∧ ∀ xs, SqT K H a xs → xs[i]? = some x, fun i H => ∃ xs : List V, SqT K H a xs ∧ xs.length ≤ i⟩
theorem turn_enumT {P : Program} {w : World} {K : PySem.W.Frag} {elts : List Expr} {kk : Nat} {tpos : Pos} (a e it : Addr) :
    Turn P w K (.Tuple elts kk tpos) (IteT K a) [e, it] e (fun i h => (∃ old, IsEnum h e it ((i : Nat) : Int) old) ∧ h.IsTupleIter it a i ∧ e ≠ it ∧ a ≠ e ∧ a ≠ it) where
  mem := by simp
  obj := fun i h st b hb => by
    obtain ⟨⟨_, en⟩, ⟨o, ho, _, hdt⟩, _⟩ := st
    rcases (show b = e ∨ b = it by simpa using hb) with rfl | rfl
    · exact ⟨_, en, fun _ q => nomatch q⟩
    · exact ⟨o, ho, fun _ q => by rw [hdt] at q; cases q⟩
  keep := fun i h h' st k => let ⟨⟨old, en⟩, ti, ne⟩ := st; ⟨⟨old, k e (by simp) _ en⟩, ti.at fun o q => k it (by simp) o q, ne⟩
  item := by
    intro X hP hw hK hc i pins s σ H E I hf st hg
    subst hP hw hK
    obtain ⟨⟨old, en⟩, ti, ne, nae, nai⟩ := st
    obtain ⟨xs, x, sq, hx⟩ := hg
    obtain ⟨us, rv, isT, _⟩ := I.tuple sq
    obtain ⟨u, hu, ru⟩ := rv.get hx
    have le : e < s.heap.objs.size := Heap.lt_size en
    have li : it < s.heap.objs.size := by obtain ⟨_, q, _⟩ := ti; exact Heap.lt_size q
    have isT' : s.heap.IsTuple a us.toArray := isT
    have hd0 : X.A.handled = none := I.ok.hd hc
    have hu' : us.toArray[i]? = some u := by simpa using hu
    refine wpAny_pyNext_enum_itemD (rk_drawsT (A := X.A.in1) hd0 (Ne.symm nai)) en ⟨ti, isT'⟩ (by simpa using (List.getElem?_eq_some_iff.mp hu).1) ne (by simp [ne, Ne.symm nae]) fun y h1 tk py ho st1 hT hsz hk => ?_
    rw [hu'] at py
    cases py
    refine ⟨_, rfl, wpAny_letOwnedTupleGo_enum (s := { s with heap := h1, toks := tk + 1 }) ho fun h2 en2 sb => ?_⟩
    have hT2 : h2.get? s.heap.objs.size = some { cls := .type "tuple", data := .seq #[.int i tk, u] } := (sb.2 _ (Nat.ne_of_gt le)).trans hT
    have nw : ObjOk X.prog X.w (upd H s.heap.objs.size (.tup [.int (i : Nat), x])) h2 s.heap.objs.size (.tup [.int (i : Nat), x]) :=
      ⟨by show 2 ≤ sizeLine; decide, [.int i tk, u], .cons ⟨_, rfl⟩ (.cons ru .nil), ⟨_, hT2, rfl, _, rfl⟩⟩
    have I1 : Inv X pins σ (upd H s.heap.objs.size (.tup [.int (i : Nat), x])) { s with heap := h2, toks := tk + 1 } :=
      I.turnedNew (ch := [e, it]) (fun b ob hb q => (sb.2 b (fun z => hb (by simp [z]))).trans (hk b ob (fun z => hb (by simp [z])) (fun z => hb (by simp [z])) q)) hf (Nat.le_refl _) nw
    refine ⟨.ref s.heap.objs.size, _, I1, rfl, ⟨_, x, rfl, I.hok.fresh (Nat.le_refl _), rfl, fun ys hy => by rw [I.tuple_inj hy sq]; exact hx⟩, ⟨⟨u, ?_⟩, st1.1.at fun o q => (sb.2 it (Ne.symm ne)).trans q, ne, nae, nai⟩, fun b hb => ?_⟩
    · rw [show ((i + 1 : Nat) : Int) = (i : Int) + 1 by omega]
      exact en2
    · have lb : b < s.heap.objs.size := by
        rcases (show b = e ∨ b = it by simpa using hb) with rfl | rfl
        · exact le
        · exact li
      rw [upd_ne (Nat.ne_of_lt lb)]
      exact (hf b hb).1
  done := by
    intro X hP hw hK hc i pins s σ H E I hf st hg
    subst hP hw hK
    obtain ⟨⟨old, en⟩, ti, ne, nae, nai⟩ := st
    obtain ⟨xs, sq, hx⟩ := hg
    obtain ⟨us, rv, isT, _⟩ := I.tuple sq
    obtain ⟨f0, f1, f2, f3, f4, f5⟩ := hf it (by simp)
    have ll := rv.length
    have isT' : s.heap.IsTuple a us.toArray := isT
    have hT : s.TypeIs (.ref e) "enumerate" := ⟨_, en, rfl⟩
    unfold pyNext
    refine wpAny_bind (wpAny_attempt (wpAny_callSpecial?_slot (name := Str.ofString "__next__") hT F.slot_enumerate_next (wpAny_call_entry F.slot_enumerate_next hT F.entry_enumerate_next ?_ (F.args_enumerate_next_1 _))))
    show wpAny _ _ (field (.ref e) 2 >>= _) _ _ _
    refine wpAny_bind (wpAny_field en rfl (x := .ref it) rfl ?_)
    refine wpAny_bind (RZ.nextOf_tuple_end (I.ok.hd hc) ti isT' (by simp; omega) fun h1 x1 eb hx1 => ?_)
    obtain ⟨o1, ho1, hc1⟩ := hx1
    refine wpAny_bind (wpAny_isInstance (T := "StopIteration") (b := true) ⟨o1, ho1, hc1⟩ isSubtype_stop (wpAny_pure ?_))
    exact ⟨rfl, I.turned (t' := s.toks) (fun b o hb q => eb b o hb q) f0 f1 f3 f4 f5⟩
  self := fun A i s Q E st h => let ⟨⟨_, en⟩, _⟩ := st; wpAny_pyIter_enum en h
def iEnumA (K : PySem.W.Frag) (ta : TA) : TI := fun σ H R => ta σ H fun vs H1 => ∃ a xs, vs = [.ref a] ∧ ((SqL K H1 a xs ∧ R (Ite K a) H1) ∨ (SqT K H1 a xs ∧ R (IteT K a) H1))
theorem pi_enumA {X : Cx} {e : Expr} {ta : TA} {p pos tpos : Pos} {elts : List Expr} {kk : Nat} (hg : Gl X "enumerate") (hm : X.mg "enumerate" = none) (ha : PA X [e] ta) (hs : starEach [e] X.env = [(false, eval e X.env)] := by rfl) :
    PI X (.Tuple elts kk tpos) (.Call (.Name "enumerate" p) [e] [] pos) (iEnumA X.K ta) := by
  refine ⟨fun pins s σ H R I h => ?_⟩
  refine Call_ (ld_blt I hg hm boot_enumerate (PyProof.Rows.callWith_type1 (thn (ha.run pos pins s σ H _ I h) fun us s1 ⟨vs, H1, I1, r1, q1⟩ => ?_) hs rfl))
  obtain ⟨a, xs, rfl, q1⟩ := q1
  cases r1 with
  | cons r rr =>
    cases rr
    cases r
    have fin : ∀ b, b ∈ [s1.heap.objs.size + 1, s1.heap.objs.size] → FpOk X pins H1 b := fun b hb => by
      have lb : s1.heap.objs.size ≤ b := by
        rcases (show b = s1.heap.objs.size + 1 ∨ b = s1.heap.objs.size by simpa using hb) with rfl | rfl
        · exact Nat.le_add_right _ _
        · exact Nat.le_refl _
      exact I1.fpOk lb (I1.hok.fresh lb)
    rcases q1 with ⟨sq, q⟩ | ⟨sq, q⟩
    · obtain ⟨its, rv, isL, _⟩ := I1.list sq
      refine call_enumerate_list isL.isList fun h1 en ti _ hk => wpAny_pyIter_enum en ?_
      exact ⟨s1.heap.objs.size + 1, [s1.heap.objs.size + 1, s1.heap.objs.size], _, _, H1, rfl, I1.kept (t' := s1.toks) hk, turn_enum a (s1.heap.objs.size + 1) s1.heap.objs.size, ⟨⟨.none, en⟩, ti, Nat.succ_ne_self _⟩, fin, q⟩
    · obtain ⟨its, rv, isT, _⟩ := I1.tuple sq
      obtain ⟨o0, ho0, _⟩ := id isT
      have la := Heap.lt_size ho0
      refine rk_call_enumT (show s1.heap.IsTuple a its.toArray from isT) fun h1 en ti _ hk => wpAny_pyIter_enum en ?_
      exact ⟨s1.heap.objs.size + 1, [s1.heap.objs.size + 1, s1.heap.objs.size], _, _, H1, rfl, I1.kept (t' := s1.toks) hk, turn_enumT a (s1.heap.objs.size + 1) s1.heap.objs.size, ⟨⟨.none, en⟩, ti, Nat.succ_ne_self _, Nat.ne_of_lt (Nat.lt_succ_of_lt la), Nat.ne_of_lt la⟩, fin, q⟩
end Rk

/-! Rk37: enumerate, of lists and tuples. -/
namespace Rk
open PySem PySem.Spec L2
section
variable {K : PySem.W.Frag}
theorem enumT_it {a : Addr} {ds : List Da} : ItOk K (IteT K a) ⟨ds.mapIdx fun i d => .tuple [.int (i : Nat), d], none⟩ (fun φ h H => Rep K H (Live φ h) (.ref a) (.tuple ds)) where
  go := fun φ h H i sm g gd hi => by
    obtain ⟨us, sq, rs⟩ := Rep.sqT g
    have hi' : i < ds.length := by simpa using hi
    obtain ⟨y, e, _⟩ := rs.get (List.getElem?_eq_getElem hi')
    exact ⟨us, y, sq, e⟩
  yld := fun φ h H i x H' d sm g gd ed ⟨T, y, ex, hT, e, q⟩ => by
    subst ex e
    obtain ⟨us, sq, rs⟩ := Rep.sqT g
    rw [List.getElem?_mapIdx] at ed
    cases e3 : ds[i]? with
    | none => rw [e3] at ed; cases ed
    | some d0 =>
      rw [e3] at ed
      cases ed
      obtain ⟨y2, ey, ry⟩ := rs.get e3
      have e2 := q us sq
      rw [ey] at e2
      cases e2
      obtain ⟨s1, s2, s3⟩ := new_tup (mg := fun _ => none) sm (ds := [.int (i : Nat), d0]) (.cons (.int _) (.cons ry .nil)) hT
      exact ⟨s1, s2, s3⟩
  stop := fun φ h H i sm g gd hi => by
    obtain ⟨us, sq, rs⟩ := Rep.sqT g
    exact ⟨us, sq, by rw [rs.length]; simpa using hi⟩
  keep := fun φ h H φ' h' H' g st => Rep.stay st.st g
end
def iEnumB (as : Av) : Iv := fun ρ h => (as ρ h).bind fun vs h1 => match vs with
  | [.d (.tuple ds)] => .ok ⟨ds.mapIdx fun i d => .tuple [.int (i : Nat), d], none⟩ h1
  | [v] => enumI (itL v h1)
  | _ => .no
section
variable {X : Cx} {W : WX} {pos p : Pos} {fs : Av}
theorem ei_enumB {elts : List Expr} {kk : Nat} {tpos : Pos} {a : Expr} (hg : Gl X "enumerate") (hm : X.mg "enumerate" = none) (ha : EA X W [a] fs) (hs : starEach [a] X.env = [(false, eval a X.env)] := by rfl) : EI X W (.Tuple elts kk tpos) (.Call (.Name "enumerate" p) [a] [] pos) (iEnumB fs) :=
  PI.of (pi_enumA hg hm ha hs) fun σ H R ⟨φ, h, ρ, sm, er, q⟩ => ⟨φ, h, ρ, sm, er, PoI.goA q fun xs vs h1 H1 φ1 st sm1 rv q1 => by
    split at q1
    · obtain ⟨x, rfl, r⟩ := rv.one
      obtain ⟨a, us, rfl, sq, rs⟩ := VRep.tup r
      exact ⟨a, us, rfl, .inr ⟨sq, q1 _ H1 φ1 _ (Step.refl _ _ _) sm1 enumT_it r⟩⟩
    · rename_i v _
      obtain ⟨x, rfl, r⟩ := rv.one
      cases e : itL v h1 with
      | ok m h2 =>
        rw [e] at q1
        obtain ⟨rfl, gd, a, G, rfl, L, g⟩ := itL_lok sm1 r e
        obtain ⟨ys, sq, _⟩ := L.sq _ _ _ sm1 g gd
        exact ⟨a, ys, rfl, .inl ⟨sq, q1 _ H1 φ1 _ (Step.refl _ _ _) sm1 (enum_it L) g⟩⟩
      | ex c fs h2 =>
        unfold itL at e
        split at e
        · cases e
        · split at e <;> cases e
        · cases e
      | no =>
        rw [e] at q1
        exact q1.elim
    · exact q1.elim⟩
end
section
variable {QI : Itm → Hh → Prop} {E : XP} {ρ : En} {h : Hh} {as : Av}
theorem wp_enumB (w : Wp (as ρ h) (fun vs h1 => ∃ ds, (vs = [.d (.list ds)] ∨ vs = [.d (.tuple ds)]) ∧ QI ⟨ds.mapIdx fun i d => .tuple [.int (i : Nat), d], none⟩ h1) E) : Wp (iEnumB as ρ h) QI E :=
  wp_bind (w.mono (fun _ _ ⟨ds, e, q⟩ => by
    rcases e with e | e
    · rw [e]; exact ⟨q⟩
    · rw [e]; exact ⟨q⟩) fun _ _ _ z => z)
theorem ex_enumL {ds : List Da} {P : List Da → Prop} (q : P ds) : ∃ es, ([Vl.d (.list ds)] = [.d (.list es)] ∨ [Vl.d (.list ds)] = [.d (.tuple es)]) ∧ P es := ⟨ds, .inl rfl, q⟩
end
end Rk

/-! Rk38: dicts at the end of the heap; rounding by each way. -/
namespace Rk
open PySem PySem.Spec L2
section
variable {h l : Hh} {k : Nat} {kds kds' : List (Key × Da)} {x : Str} {v d : Da} {Q : Vl → Hh → Prop} {E : XP} {N : Hh → Prop} {ρ : En}
end
/-! ### rounding by each way -/
end Rk

/-! Rk39: shifts, bit_length, the place of a part in a list. -/
namespace Rk
open PySem PySem.Spec L2
variable {mg : Str → Option Value}
def fShl (a b : Int) : Option Da := if 0 ≤ b ∧ b ≤ 1000000 ∧ a.natAbs < 2 ^ 64 then some (.int (a * 2 ^ b.toNat)) else none
section
variable {K : PySem.W.Frag}
def gIdx : GM := fun o as h => match asL o h, as with
  | some ds, [.d y] => if flatD y && ds.all flatD then (ds.findIdx? fun z => eqF z y).map fun j => (.d (.int (j : Nat)), h) else none
  | _, _ => none
end
def eBits (f : Ev) : Ev := fun ρ h => (f ρ h).bind fun x h1 => match x with
  | .d (.int i) => .ok (.d (.int (Builtin.Int.intBits i : Nat))) h1
  | _ => .no
section
variable {X : Cx} {W : WX} {o : Expr} {fo : Ev} {apos pos : Pos}
end
section
variable {Q : Vl → Hh → Prop} {E : XP} {ρ : En} {h : Hh} {f : Ev} {a b : Int} {ds : List Da}
end
end Rk

/-! Rk40: all, max and places over typed lists. -/
namespace Rk
open PySem PySem.Spec L2
section
variable {α : Type} {Q : Vl → Hh → Prop} {h : Hh}
end
end Rk

/-! Rk41: a target within a target; what many shown things take. -/
namespace Rk
open PySem PySem.Spec L2
section
variable {ρ : En} {h : Hh} {N : En → Hh → Prop} {i j k : Nat} {d0 d1 d2 : Da} {r s : Rat}
end
theorem ShwL.of {k e n : Nat} {ds : List Da} (h : ∀ d ∈ ds, Shw k e d) (hl : ds.length ≤ n) : ShwL (n * (k + 2)) e ds := by
  induction ds generalizing n with
  | nil => exact ⟨ShwL.nil.s, ShwL.nil.n, Nat.le_trans ShwL.nil.d (Nat.zero_le _), Nat.le_trans ShwL.nil.l (Nat.zero_le _)⟩
  | cons d ds ih =>
    cases n with
    | zero => simp at hl
    | succ n =>
      have a := ih (n := n) (fun x hx => h x (List.mem_cons_of_mem _ hx)) (by simpa using hl)
      have b := ShwL.cons (h d (List.mem_cons_self ..)) a
      rw [Nat.max_self] at b
      refine ⟨b.s, b.n, b.d, Nat.le_trans b.l ?_⟩
      rw [Nat.succ_mul]
      omega
end Rk

/-! Rk42: errors raised, caught and kept; a caught error is told of in the abstract heap from then on. -/
namespace Rk
open PySem PySem.Spec L2
section
variable {X : Cx} {pins : List (Addr × Obj)} {σ : L2.St} {H : Hp} {s : Shared} {a : Addr} {oe : Obj} {vs : Array Value} {cls : Value} {dd : Option Addr}
end
/-- what is wished of an error that leaves a try's body: where the clause takes it, what the suite wishes, the error told of, its name gone behind -/
def wTl (K : PySem.W.Frag) (c : Value) (i : Nat) (ts : TS) (Wo : WX) (D : Ends) : WX := fun cls d σ H =>
  ∃ b, PySem.W.exmOne K cls c = some b ∧
    (b = true → ∀ a, H a = none → ts ⟨fun σ1 H1 => D.nx (σ1.set i none) H1, D.rt, fun σ1 H1 => D.bk (σ1.set i none) H1, fun σ1 H1 => D.ct (σ1.set i none) H1⟩ (σ.set i (some (.ref a))) (upd H a (exO a cls d))) ∧
    (b = false → Wo cls d σ H)
section
variable {X : Cx} {x n : Str} {c : Value} {i : Nat} {body suite : List Stmt} {st0 : Stmt} {np p1 p2 : Pos} {tb : WX → TS} {ts : TS} {Wo : WX}
end
end Rk

/-! Rk43: raise, try .. except .. as, isinstance of what was caught, as statements and expressions that mean something. -/
namespace Rk
open PySem PySem.Spec L2
/-! ### what the top's classes are -/
abbrev veT : List Value := [.type "ValueError", .type "Exception", .type "BaseException", .type "object"]
structure ErrC (K : PySem.W.Frag) (mg : Str → Option Value) (c : Str) : Prop where
  ex : ∃ C, mg c = some (.ref C) ∧ PySem.W.excIn K C veT "ValueError.__new__" = true ∧ PySem.W.keepIn K (.ref C) = true ∧ PySem.W.subIn K (.ref C) (.type "BaseException") = some true ∧ PySem.W.typeIn K (.ref C) = some (.type "type")
def clsAt (K : PySem.W.Frag) (c : Str) : Option Addr := match PySem.W.nsIn K mainGlobals c with
  | some (some (.ref C)) => some C
  | _ => none
def errB (K : PySem.W.Frag) (c : Str) : Bool := match clsAt K c with
  | some C => PySem.W.excIn K C veT "ValueError.__new__" && (PySem.W.keepIn K (.ref C) && (decide (PySem.W.subIn K (.ref C) (.type "BaseException") = some true) && decide (PySem.W.typeIn K (.ref C) = some (.type "type"))))
  | none => false
/-- which of the top's classes an except clause over x takes -/
structure CatC (K : PySem.W.Frag) (mg : Str → Option Value) (x : Str) (yes no : List Str) : Prop where
  ex : ∃ D, mg x = some (.ref D) ∧ (∀ c ∈ yes, ∃ C, mg c = some (.ref C) ∧ PySem.W.exmOne K (.ref C) (.ref D) = some true) ∧ (∀ c ∈ no, ∃ C, mg c = some (.ref C) ∧ PySem.W.exmOne K (.ref C) (.ref D) = some false)
def subB (K : PySem.W.Frag) (f : Value → Value → Option Bool) (u : Value) (b : Bool) (c : Str) : Bool := match clsAt K c with
  | some C => decide (f (.ref C) u = some b)
  | none => false
def catB (K : PySem.W.Frag) (x : Str) (yes no : List Str) : Bool := match clsAt K x with
  | some D => yes.all (subB K (PySem.W.exmOne K) (.ref D) true) && no.all (subB K (PySem.W.exmOne K) (.ref D) false)
  | none => false
/-! ### raise X('..') -/
def sRaise (c : Str) : Sv := fun ρ h => .ex c [] ρ h
section
variable {X : Cx} {W : WX}
end
/-! ### try: .. except X as n: .. -/
def sTry (yes no : List Str) (i : Nat) (b s : Sv) : Sv := fun ρ h => match b ρ h with
  | .ex c fs ρ1 h1 => if c ∈ yes then (match s (ρ1.set i (some (.x c fs))) h1 with
      | .nx ρ2 h2 => .nx (ρ2.set i none) h2
      | .rt v h2 => .rt v h2
      | .bk ρ2 h2 => .bk (ρ2.set i none) h2
      | .ct ρ2 h2 => .ct (ρ2.set i none) h2
      | _ => .no) else if c ∈ no then .ex c fs ρ1 h1 else .no
  | o => o
section
variable {X : Cx} {W : WX} {x n : Str} {i : Nat} {yes no : List Str} {body suite : List Stmt} {st0 : Stmt} {np p1 p2 : Pos} {fb fs : Sv}
end
end Rk

/-! Rk44: isinstance of what was caught, its fields. -/
namespace Rk
open PySem PySem.Spec L2
/-- what a class of errors must say, so that its errors are asked rightly -/
structure ErrI (K : PySem.W.Frag) (C : Addr) : Prop where
  ga : PySem.W.findIn K (.ref C) "__getattribute__" = some (some (.builtin "BaseException.__getattribute__"))
  gt : PySem.W.findIn K (.ref C) "__getattr__" = some none
  sb : PySem.W.subIn K (.ref C) (.type "BaseException") = some true
  dc : PySem.W.hasDictIn K C = true
  cl : PySem.W.findIn K (.ref C) "__class__" = some (some (.builtin "object.__class__"))
  cg : PySem.W.specialIn K (.builtin "object.__class__") "__get__" = some (some (.builtin "getset_descriptor.__get__"))
  tk : PySem.W.takesIn K (.builtin "object.__class__") = some true
  mo : PySem.W.mroIn K C (.type "object") = some true
  ci : (PySem.W.clsIn K C).isSome = true
def errIB (K : PySem.W.Frag) (C : Addr) : Bool :=
  decide (PySem.W.findIn K (.ref C) "__getattribute__" = some (some (.builtin "BaseException.__getattribute__"))) && (decide (PySem.W.findIn K (.ref C) "__getattr__" = some none) && (decide (PySem.W.subIn K (.ref C) (.type "BaseException") = some true) && (PySem.W.hasDictIn K C &&
  (decide (PySem.W.findIn K (.ref C) "__class__" = some (some (.builtin "object.__class__"))) && (decide (PySem.W.specialIn K (.builtin "object.__class__") "__get__" = some (some (.builtin "getset_descriptor.__get__"))) && (decide (PySem.W.takesIn K (.builtin "object.__class__") = some true) && (decide (PySem.W.mroIn K C (.type "object") = some true) && (PySem.W.clsIn K C).isSome)))))))
/-- an error that is told of, its own dict too -/
def ExAt (H : Hp) (a D : Addr) : Prop := ∃ dd : Option Addr, H a = some (exO a (.ref D) dd) ∧ (dd = none ∨ ∃ d vs, dd = some d ∧ H d = some (.xd vs))
section
variable {X : Cx} {pins : List (Addr × Obj)} {σ : L2.St} {H : Hp} {s : Shared} {a D : Addr}
/-- isinstance of an error: one class; a tuple of classes -/
def rIs1 (K : PySem.W.Frag) : List V → Hp → VK → Prop := fun xs H Q => ∃ (a D : Addr) (c : V) (u : Value) (b : Bool), xs = [.ref a, c] ∧ ExAt H a D ∧ ErrI K D ∧ ClsV c u ∧ PySem.W.kitOne K (.ref D) u = some b ∧ Q (.bl b) H
def rIsN (K : PySem.W.Frag) : List V → Hp → VK → Prop := fun xs H Q => ∃ (a D tp : Addr) (cs : List V) (us : List Value) (b : Bool), xs = [.ref a, .ref tp] ∧ ExAt H a D ∧ ErrI K D ∧ H tp = some (.tup cs) ∧ Paired ClsV cs us ∧ PySem.W.kitAny K (.ref D) us = some b ∧ Q (.bl b) H
end
theorem XRep.at_ {K : PySem.W.Frag} {mg : Str → Option Value} {H : Hp} {M : Addr → Prop} {c : Str} {fs : List (Str × Da)} {D a : Addr} {dd : Option Addr} (x : XRep K mg H M c fs (.ref D) dd) (e : H a = some (exO a (.ref D) dd)) : ExAt H a D := by
  refine ⟨dd, e, ?_⟩
  by_cases z : fs = []
  · exact .inl (x.no z)
  · obtain ⟨d, vs, e1, e2, _⟩ := x.yes z
    exact .inr ⟨d, vs, e1, e2⟩
/-- what the classes yes and no answer to isinstance over the classes us -/
structure IsF (K : PySem.W.Frag) (mg : Str → Option Value) (f : Value → Option Bool) (yes no : List Str) : Prop where
  nn : f (.type "NoneType") = some false
  y : ∀ c ∈ yes, ∃ C, mg c = some (.ref C) ∧ ErrI K C ∧ f (.ref C) = some true
  n : ∀ c ∈ no, ∃ C, mg c = some (.ref C) ∧ ErrI K C ∧ f (.ref C) = some false
def isFB1 (K : PySem.W.Frag) (f : Value → Option Bool) (b : Bool) (c : Str) : Bool := match clsAt K c with
  | some C => errIB K C && decide (f (.ref C) = some b)
  | none => false
def isFB (K : PySem.W.Frag) (f : Value → Option Bool) (yes no : List Str) : Bool := decide (f (.type "NoneType") = some false) && (yes.all (isFB1 K f true) && no.all (isFB1 K f false))
/-- isinstance(x, C), C a class of the top -/
def IsO (K : PySem.W.Frag) (mg : Str → Option Value) (x : Str) (yes no : List Str) : Prop := ∃ D, mg x = some (.ref D) ∧ IsF K mg (fun t => PySem.W.kitOne K t (.ref D)) yes no
def isOB (K : PySem.W.Frag) (x : Str) (yes no : List Str) : Bool := match clsAt K x with
  | some D => isFB K (fun t => PySem.W.kitOne K t (.ref D)) yes no
  | none => false
/-- isinstance(x, T), T a built-in class -/
def IsB (K : PySem.W.Frag) (mg : Str → Option Value) (T : String) (yes no : List Str) : Prop := IsF K mg (fun t => PySem.W.kitOne K t (.type T)) yes no
def isBB (K : PySem.W.Frag) (T : String) (yes no : List Str) : Bool := isFB K (fun t => PySem.W.kitOne K t (.type T)) yes no
/-- isinstance(x, (C1, C2, ..)) -/
def IsM (K : PySem.W.Frag) (mg : Str → Option Value) (xs : List Str) (yes no : List Str) : Prop := ∃ Cs : List Addr, Paired (fun x C => mg x = some (.ref C)) xs Cs ∧ IsF K mg (fun t => PySem.W.kitAny K t (Cs.map Value.ref)) yes no
def clsAts (K : PySem.W.Frag) : List Str → Option (List Addr)
  | [] => some []
  | x :: xs => (clsAt K x).bind fun C => (clsAts K xs).map (C :: ·)
def isMB (K : PySem.W.Frag) (xs : List Str) (yes no : List Str) : Bool := match clsAts K xs with
  | some Cs => isFB K (fun t => PySem.W.kitAny K t (Cs.map Value.ref)) yes no
  | none => false
def isE (yes no : List Str) : Vl → Option Bool
  | .d .none => some false
  | .x c _ => if c ∈ yes then some true else if c ∈ no then some false else none
  | _ => none
def eIsE (yes no : List Str) (f : Ev) : Ev := fun ρ h => (f ρ h).bind fun v h1 => match isE yes no v with
  | some b => .ok (.d (.bool b)) h1
  | none => .no
section
variable {X : Cx} {W : WX} {a ce : Expr} {fa : Ev} {pos p q : Pos} {yes no : List Str}
/-- names of classes, side by side -/
def CN (X : Cx) (es : List Expr) (cs : List V) : Prop := PA X es (fun _ H Q => Q cs H)
end
end Rk

/-! Rk45: errors by wishes; a call without arguments. -/
namespace Rk
open PySem PySem.Spec L2
section
variable {X : Cx} {W : WX}
end
def UnK (i : Nat) (ρ : En) (h : Hh) (N : En → Hh → Prop) : Prop := N (ρ.set i none) h
/-- an error at an except clause -/
structure TryK (yes no : List Str) (i : Nat) (s : Sv) (c : Str) (fs : List (Str × Da)) (ρ : En) (h : Hh) (N : En → Hh → Prop) (D : Ds) : Prop where
  w : if c ∈ yes then SetK i ρ (.x c fs) h (fun ρ1 h1 => Ws (s ρ1 h1) (fun ρ2 h2 => UnK i ρ2 h2 N) ⟨D.rt, fun ρ2 h2 => UnK i ρ2 h2 D.bk, fun ρ2 h2 => UnK i ρ2 h2 D.ct, fun _ _ _ _ => False⟩) else if c ∈ no then D.ex c fs ρ h else False
section
variable {ρ : En} {h : Hh} {N : En → Hh → Prop} {R : Vl → Hh → Prop} {B C : En → Hh → Prop} {X : Str → List (Str × Da) → En → Hh → Prop} {b s : Sv} {yes no : List Str} {i : Nat} {c : Str} {fs : List (Str × Da)} {Q : Vl → Hh → Prop} {E : XP} {f : Ev}
end

section
variable {h : Hh} {N : En → Hh → Prop} {r : En}
variable {o0 o1 o2 o3 o4 o5 o6 o7 o8 o9 o10 o11 o12 o13 o14 o15 o16 o17 o18 o19 o20 o21 o22 o23 o24 o25 : Option Vl}
end
end Rk

/-! Rk46: an empty dict that is never changed, as data. -/
namespace Rk
open PySem PySem.Spec L2
section
variable {X : Cx} {W : WX} {pos : Pos}
end
end Rk

/-! Rk47: a list walked from its end. -/
namespace Rk
open PySem PySem.Spec L2
section
variable {K : PySem.W.Frag}
end
def iRev (as : Av) : Iv := fun ρ h => (as ρ h).bind fun vs h1 => match vs with
  | [v] => (itL v h1).bind fun m h2 => .ok ⟨m.ds.reverse, m.gd⟩ h2
  | _ => .no
section
variable {X : Cx} {W : WX} {tg : Expr} {pos p : Pos} {fs : Av}
end
section
variable {E : XP} {ρ : En} {h : Hh} {as : Av} {QI : Itm → Hh → Prop}
end
end Rk

/-! Rk48: sorted(t), t a written tuple of texts. -/
namespace Rk
open PySem PySem.Spec L2 PyProof.Rows
section
variable {prog : Program} {w : World} {A : Around} {E : Value → Shared → Prop} {s : Shared}
end
def rSortT (K : PySem.W.Frag) : List V → Hp → VK → Prop := fun vs H Q => ∃ (a : Addr) (xs : List Str), vs = [V.ref a] ∧ SqT K H a (xs.map V.str) ∧ xs.length < 64 ∧ ∀ (ys : List Str) (p : Addr), ys.Perm xs → sortedS ys = true → H p = none → Q (.ref p) (upd H p (.lst (ys.map V.str)))
def strsOf : List Da → Option (List Str)
  | [] => some []
  | .str x :: ds => (strsOf ds).map (x :: ·)
  | _ :: _ => none
def gSortC (src out : List Str) : GC := fun as h => match as with
  | [.d (.tuple ds)] => if strsOf ds = some src then some (.r h.length, h ++ [some (.lst (out.map PyData.str))]) else none
  | _ => none
end Rk

/-! Rk49: an exception out of a list comprehension's block (only calls raise in it). -/
namespace Rk
open PySem PySem.Spec L2 PyProof.Rows
section
variable {M : Model} {A : Around} {E : Value → Shared → Prop} {s : Shared} {B : Heap} {env cenv : Env} {outer l : List Env} {a L C : Addr} {Z : Obj → Prop} {m : Str → Option Value}
end
/-- behind the block: as the library's post, an exception with the frame's note -/
def cPost (M : Model) (A : Around) (E : Value → Shared → Prop) (use : Option (Value → Sem Unit)) (Q : Value → Shared → Prop) (acc : Value) (ce : Env) (r : Result) (s' : Shared) : Prop :=
  match r, use with
  | .ok _, none => ∃ m, s'.heap.Ns ce.locals m ∧ ∀ h', Heap.SameBut ce.locals s'.heap h' → Q acc { s' with heap := h' }
  | .ok _, some u => wpAny M A (u acc) (fun _ s'' => ∃ m, s''.heap.Ns ce.locals m ∧ ∀ h', Heap.SameBut ce.locals s''.heap h' → Q .none { s'' with heap := h' }) E s'
  | .error x, _ => ∃ m, s'.heap.Ns ce.locals m ∧ ∀ h', (∃ m', h'.Ns ce.locals m') → Heap.SameBut ce.locals s'.heap h' → ∀ cenv : Env, cenv.frame = ce.frame → wpAny M A (PySem.passOn "comprehension.variables-let-go" x cenv : Sem Value) (fun _ _ => False) E { s' with heap := h' }
section
variable {M : Model} {A : Around} {E : Value → Shared → Prop} {s : Shared} {env : Env}
end
abbrev blkX (X : Cx) (s : Shared) (H : Hp) (scope : Scope) (ce : Env) (fp : List Addr) (xe : Value → Shared → Prop) : Cx := (X.blk s H scope ce fp).tr [] xe
end Rk

/-! Rk50: a list comprehension whose block may let an exception out (of a call). -/
namespace Rk
open PySem PySem.Spec L2 PyProof.Rows
/-- the wish about exceptions, at the def's slots -/
abbrev wAt (W : WX) (σ : L2.St) : WX := fun c d _ H => W c d σ H
def tLcX (W : WX) (wi : TI) (g : TG) (tt : WX → TT) (te : WX → TE) (vs : List Nat) : TE := fun σ H Q => wi σ H fun J H1 => ∀ D, H1 D = none → ∃ V : Nat → Nat → Hp → Prop, (∃ m, V 0 m (L2.upd H1 D (.lst []))) ∧ ∀ i m H, V i m H →
  (J.stop i H ∧ Q (.ref D) H) ∨ (J.go i H ∧ ∃ Nx : Hp → Prop, (∀ H', Nx H' → ∃ m', m' < m ∧ V (i + 1) m' H') ∧ ∀ x H', J.yld i H x H' → g x (L2.wipe σ vs) H' fun σ2 H2 => L2.wipe σ2 vs = L2.wipe σ vs ∧ tt (wAt W σ) σ2 H2 fun b H3 =>
    if b = true then te (wAt W σ) σ2 H3 fun y H4 => ∃ acc, H4 D = some (.lst acc) ∧ acc.length < sizeLine ∧ Nx (L2.upd H4 D (.lst (acc ++ [y]))) else Nx H3)
section
variable {X : Cx} {W : WX}
end
end Rk

/-! Rk51 (printed by mk51.py): list comprehensions that let an exception through. -/
namespace Rk
open PySem PySem.Spec L2
variable {mg : Str → Option Value}
open Classical in
noncomputable def lcLX (gd : Option (Nat × List Da)) (D : Nat) (g : Gv) (tt : Tv) (fe : Ev) (ρ0 : En) : List Da → Hh → Out Vl
  | [], h => if gdOk gd h then .ok (.r D) h else .no
  | d :: ds, h => if gdOk gd h then (match g (.d d) ρ0 h with
      | none => .no
      | some p => match tt p.1 p.2 with
        | .ok true h2 => (match fe p.1 h2 with
          | .ok v h3 => (match appL D v h3 with
            | some h4 => lcLX gd D g tt fe ρ0 ds h4
            | none => .no)
          | .ex c fs h3 => .ex c fs h3
          | .no => .no)
        | .ok false h2 => lcLX gd D g tt fe ρ0 ds h2
        | .ex c fs h2 => .ex c fs h2
        | .no => .no) else .no
noncomputable def eLcX (vs : List Nat) (i : Iv) (g : Gv) (tt : Tv) (fe : Ev) : Ev := fun ρ h => (i ρ h).bind fun m h1 => lcLX m.gd h1.length g tt fe (wipeE ρ vs) m.ds (h1 ++ [some (.lst [])])
section
variable {X : Cx} {W : WX} {elt tg iter : Expr} {ifs : List Expr} {scope : Scope} {own : List (Str × Nat)} {pos spos py : Pos} {fi : Iv} {g : Gv} {tt : Tv} {fe : Ev}
end
end Rk

/-! Rk52: wishes for list comprehensions that may raise. -/
namespace Rk
open PySem PySem.Spec L2
section
variable {gd : Option (Nat × List Da)} {g : Gv} {tt : Tv} {fe : Ev} {ρ0 ρ1 : En} {h h1 h2 h3 h4 : Hh} {D : Nat} {d : Da} {ds : List Da} {v : Vl} {c : Str} {fs : List (Str × Da)}
theorem lcX_nil (e : gdOk gd h) : lcLX gd D g tt fe ρ0 [] h = .ok (.r D) h := by
  unfold lcLX
  rw [if_pos e]
theorem lcX_cons (e : gdOk gd h) (eg : g (.d d) ρ0 h = some (ρ1, h1)) (et : tt ρ1 h1 = .ok true h2) (ef : fe ρ1 h2 = .ok v h3) (ea : appL D v h3 = some h4) : lcLX gd D g tt fe ρ0 (d :: ds) h = lcLX gd D g tt fe ρ0 ds h4 := by
  rw [lcLX]
  rw [if_pos e, eg]
  dsimp only
  rw [et]
  dsimp only
  rw [ef]
  dsimp only
  rw [ea]
theorem lcX_ex (e : gdOk gd h) (eg : g (.d d) ρ0 h = some (ρ1, h1)) (et : tt ρ1 h1 = .ok true h2) (ef : fe ρ1 h2 = .ex c fs h3) : lcLX gd D g tt fe ρ0 (d :: ds) h = .ex c fs h3 := by
  rw [lcLX]
  rw [if_pos e, eg]
  dsimp only
  rw [et]
  dsimp only
  rw [ef]
end
section
variable {gd : Option (Nat × List Da)} {g : Gv} {fe : Ev} {ρ0 : En} {h : Hh} {α : Type} {f g' : α → Da} {P : α → Bool} {c : Str} {fs : List (Str × Da)}
theorem lcX_mapR (hgd : ∀ o, gdOk gd (h ++ [o])) : ∀ (xs : List α) (acc : List Da), (∀ x ∈ xs, ∀ h', ∃ ρ1, g (.d (f x)) ρ0 h' = some (ρ1, h') ∧ ((P x = true ∧ fe ρ1 h' = .ok (.d (g' x)) h') ∨ (P x = false ∧ fe ρ1 h' = .ex c fs h'))) → acc.length + xs.length ≤ 16777216 →
    (xs.all P = true ∧ lcLX gd h.length g tvYes fe ρ0 (xs.map f) (h ++ [some (.lst acc)]) = .ok (.r h.length) (h ++ [some (.lst (acc ++ xs.map g'))])) ∨ (xs.all P = false ∧ ∃ o, lcLX gd h.length g tvYes fe ρ0 (xs.map f) (h ++ [some (.lst acc)]) = .ex c fs (h ++ [o]))
  | [], acc, _, _ => by
    refine .inl ⟨rfl, ?_⟩
    rw [List.map_nil, lcX_nil (hgd _)]
    simp
  | d :: ds, acc, H, hl => by
    obtain ⟨ρ1, e1, e2⟩ := H d (List.mem_cons_self ..) (h ++ [some (.lst acc)])
    rw [List.length_cons] at hl
    rw [List.map_cons]
    rcases e2 with ⟨p, e2⟩ | ⟨p, e2⟩
    · rw [lcX_cons (hgd _) e1 rfl e2 (appL_end rfl (by omega))]
      have := lcX_mapR hgd ds (acc ++ [g' d]) (fun d hd => H d (List.mem_cons_of_mem _ hd)) (by rw [List.length_append, List.length_singleton]; omega)
      simpa [p] using this
    · rw [lcX_ex (hgd _) e1 rfl e2]
      exact .inr ⟨by simp [p], _, rfl⟩
end
section
variable {Q : Vl → Hh → Prop} {E : XP} {ρ : En} {h : Hh} {i : Iv} {g : Gv} {tt : Tv} {fe : Ev} {ws : List Nat}
/-- every part told by a function, or all at an end by the one exception -/
theorem wp_lcX {α : Type} (xs : List α) (f g' : α → Da) (P : α → Bool) (c : Str) (fs : List (Str × Da)) {ρ0 : En} (e00 : wipeE ρ ws = ρ0) (w : Wp (i ρ h) (fun m h1 => m = ⟨xs.map f, none⟩ ∧ xs.length ≤ 16777216 ∧ h1.length = h.length ∧
      (∀ x ∈ xs, ∀ h', GvK (g (.d (f x)) ρ0 h') fun ρ1 h2 => h2 = h' ∧ Wp (fe ρ1 h') (fun v h3 => h3 = h' ∧ P x = true ∧ v = .d (g' x)) (fun c' fs' h3 => h3 = h' ∧ P x = false ∧ c' = c ∧ fs' = fs)) ∧
      (xs.all P = true → Q (.d (.list (xs.map g'))) h1) ∧ (xs.all P = false → E c fs h1)) (fun c fs h1 => E c fs (h1.take h.length))) : Wp (eFz (eLcX ws i g tvYes fe) ρ h) Q E := by
  subst e00
  refine wp_fz (wp_bind (w.mono ?_ fun _ _ _ z => z))
  rintro m h1 ⟨rfl, hl, hh, H, q, qe⟩
  have lf := lcX_mapR (gd := none) (g := g) (fe := fe) (ρ0 := wipeE ρ ws) (h := h1) (f := f) (g' := g') (P := P) (c := c) (fs := fs) (fun _ => trivial) xs [] (fun d hd h' => by
    have k := H d hd h'
    unfold GvK Wo at k
    revert k
    cases e : g (.d (f d)) (wipeE ρ ws) h' with
    | none => exact fun z => z.elim
    | some p =>
      obtain ⟨ρ1, h2⟩ := p
      rintro ⟨rfl, wf⟩
      refine ⟨ρ1, rfl, ?_⟩
      have k := wf.w
      revert k
      cases fe ρ1 h2 with
      | ok v h3 => rintro ⟨rfl, p, rfl⟩; exact .inl ⟨p, rfl⟩
      | ex c' fs' h3 => rintro ⟨rfl, p, rfl, rfl⟩; exact .inr ⟨p, rfl⟩
      | no => exact fun z => z.elim) (by simpa using hl)
  rw [List.nil_append] at lf
  rcases lf with ⟨p, lf⟩ | ⟨p, o, lf⟩
  · exact wp_eq lf (fzk_end hh (q p))
  · refine ⟨?_⟩
    show Wp0 (lcLX none h1.length g tvYes fe (wipeE ρ ws) (xs.map f) (h1 ++ [some (.lst [])])) _ _
    rw [lf]
    show E c fs ((h1 ++ [o]).take h.length)
    rw [← hh, List.take_left]
    exact qe p
end
end Rk

/-! Rk53: name = [..], the block may let an exception out. -/
namespace Rk
open PySem PySem.Spec L2
section
variable {X : Cx} {W : WX} {elt tg iter : Expr} {ifs : List Expr} {scope : Scope} {own : List (Str × Nat)} {pos spos py : Pos} {fi : Iv} {g : Gv} {tt : Tv} {fe : Ev}
end
end Rk

/-! Rk54: as wp_lcX (Rk52), the list kept as one that may be changed. -/
namespace Rk
open PySem PySem.Spec L2
section
variable {Q : Vl → Hh → Prop} {E : XP} {ρ : En} {h : Hh} {i : Iv} {g : Gv} {tt : Tv} {fe : Ev} {ws : List Nat}
end
end Rk

/-! Rk55: deeds: a lambda without parameters, handed to a def that calls it. -/
namespace Rk
open PySem PySem.Spec L2
/-- what stands for the deed, what it tells -/
structure Deed where
  D : Dd
  T : Hh → Out Vl
open Classical in
noncomputable def eDeed (i : Nat) (d : Deed) : Ev := fun ρ h => match ρ[i]? with
  | some (some (.f D)) => if D = d.D then d.T h else .no
  | _ => .no
def cap1 : Option Vl → Option Vl0
  | some (.d x) => some (.d x)
  | some (.r n) => some (.r n)
  | _ => none
def up1 : Option Vl0 → Option Vl
  | some (.d x) => some (.d x)
  | some (.r n) => some (.r n)
  | none => none
def capE (ρ : En) : List (Option Vl0) := ρ.map cap1
def upE (ρ : List (Option Vl0)) : En := ρ.map up1
open Classical in
/-- whatever the addresses are -/
noncomputable def lamO (o : Addr → Addr → List (Option V) → Out Vl) : Out Vl := if z : ∃ r, ∀ f c σ, o f c σ = r then Classical.choose z else .no
/-- the maker's table stands where it is to stand -/
def hasTab (n : Nat) (x : Str) (h : Hh) : Bool := match h[n]? with
  | some (some (.tbl y)) => decide (y = x)
  | _ => false
noncomputable def eLam (n : Nat) (x : Str) (m : Deed → Fn) (fb : Ev) : Ev := fun ρ h => if hasTab n x h = true then
    lamO fun f c σ => m ⟨⟨f, c, x ++ ".<locals>." ++ "<lambda>", σ, capE ρ⟩, fun h' => fb (upE (capE ρ)) h'⟩ [.f ⟨f, c, x ++ ".<locals>." ++ "<lambda>", σ, capE ρ⟩] h
  else .no
/-! ### the deed done -/
def Act (Z : Cx) (d : Deed) : Prop := ∀ (W : WX) (pn : List (Addr × Obj)) (xe : Value → Shared → Prop) (a : Str) (i : Nat) (p1 p2 : Pos), Takes (Z.tr pn xe) W → Z.N[i]? = some a → Vis Z.env.scope a →
  (a == ("__debug__" : Str)) = false → (a == ("__classdict__" : Str)) = false → EE (Z.tr pn xe) W (.Call (.Name a p1) [] [] p2) (eDeed i d)
section
variable {X : Cx} {pins : List (Addr × Obj)} {σ : L2.St} {H : Hp} {s : Shared} {y : Str} {N : List Str} {sc scope : Scope} {g f c' : Addr} {cdv pm ctv : Value} {params : Arguments} {body : Expr} {k : Nat} {E0 : XK} {fb : Ev} {ρ : En}
end
/-! ### the def that does it -/
/-- a def whose first argument is a deed: it may do it -/
structure FnL (P : Program) (w : World) (K : PySem.W.Frag) (mg : Str → Option Value) (base : Heap) (k : Nat) (y : Str) (N : List Str) (sc : Scope) (g : Addr) (fd : FuncData) (ps : List Str) (m : Deed → Fn) : Prop where
  run : ∀ (d : Deed) (A : Around) (outer : List Env) (s : Shared) (H : Hp) (args : Args) (us : List Value) (vs : List V) (Q : VK) (E : XK), RoomG k A → (∀ cdv, Act (cxOf (L2.CX P w) P w K mg base N y sc g cdv A outer s H E) d) →
    Env0 P w K mg base A outer s H → BindsTo s fd args (ps.zip us) → Vals vs us → spF K mg (m d) vs H Q E → codeAny (model P w) A (.call (.ref g) args) (CR (L2.CX P w) outer P w H s Q E) s
def DfL (P : Program) (w : World) (K : PySem.W.Frag) (mg : Str → Option Value) (base : Heap) (k : Nat) (y : Str) (ps : List Str) (m : Deed → Fn) : Prop :=
  ∃ (g : Addr) (fd : FuncData) (N : List Str) (sc : Scope), mg y = some (.ref g) ∧ PySem.W.keepIn K (.ref g) = true ∧ Binds K fd ps [] ∧ FnL P w K mg base k y N sc g fd ps m
/-! ### y(lambda: body) -/
section
variable {K : PySem.W.Frag} {φ : List Addr} {h : Hh} {H H1 : Hp}
/-- the tables that stand -/
def tabsOf : List Addr → Hh → List (Addr × Str)
  | a :: φ, some (.tbl x) :: h => (a, x ++ ".<locals>." ++ "<lambda>") :: tabsOf φ h
  | _ :: φ, _ :: h => tabsOf φ h
  | _, _ => []
end
section
variable {X : Cx} {W : WX} {x y : Str} {c pt : Addr} {k j : Nat} {m : Deed → Fn} {params : Arguments} {body : Expr} {scope : Scope} {fb : Ev} {p lpos pos : Pos} {a : Str}
end
end Rk

/-! Rk56: the head where lambdas are made: tables of code objects. -/
namespace Rk
open PySem PySem.Spec L2 PyProof.Rows
/-! ### the fragment without the tables -/
abbrev tsOf (cs : List (Addr × Addr)) : List Addr := cs.map fun p => p.2
def csOf (K : PySem.W.Frag) (xs : List Str) : List (Addr × Addr) := xs.filterMap (PySem.W.tabIn K)
def cutT (K : PySem.W.Frag) (ts : List Addr) : PySem.W.Frag := K.filter fun p => !ts.contains p.1
def emptyT (K : PySem.W.Frag) (P : Addr) : Bool := match K.lookup P with
  | some ⟨.none, none, .fields vs, sl⟩ => vs.size == 0 && sl.size == 0
  | _ => false
def tabsB (K : PySem.W.Frag) (xs : List Str) : Bool := decide ((tsOf (csOf K xs)).Nodup) && (decide (xs.map (PySem.W.tabIn (cutT K (tsOf (csOf K xs)))) = (csOf K xs).map some) && (csOf K xs).all fun p => emptyT K p.2 && PySem.W.codeHdIn K p.1 p.2)
/-- what the head's heap has of the makers -/
structure TabsK (K : PySem.W.Frag) (h : Heap) (xs : List Str) (cs : List (Addr × Addr)) : Prop where
  nd : (tsOf cs).Nodup
  at_ : xs.map (PySem.W.tabIn K) = cs.map some
  no : ∀ p ∈ cs, K.lookup p.2 = none
  em : ∀ p ∈ cs, h.get? p.2 = some { cls := .none, data := .fields #[] }
  hd : ∀ p ∈ cs, PySem.W.CodeHd h p.1 p.2
/-! ### the Hook -/
def obsRT (n : Nat) (xs : List Str) (fa : List He.Fa) (fn : List He.DefD) (ex : PySem.W.Frag → Bool) (g : Addr → Option Obj) : AlR :=
  let K := He.frG g (asN g n [mainGlobals] ++ [cStatics])
  let K' := cutT K (tsOf (csOf K xs))
  (He.obsD fa fn K', ex K' && tabsB K xs)
def hookRT (n : Nat) (xs : List Str) (fa : List He.Fa) (fn : List He.DefD) (ex : PySem.W.Frag → Bool) : PySem.W.Hook where
  α := AlR
  obs := fun s => obsRT n xs fa fn ex s.heap.get?
  val := fun _ => (He.valD fn, true)
  says := fun _ h => ∃ K : PySem.W.Frag, K.In h ∧ tabsB K xs = true ∧ SaysR fa fn ex (cutT K (tsOf (csOf K xs)))
  of := fun _ _ e => by
    have e2 := (Bool.and_eq_true _ _).mp (congrArg (fun z : AlR => z.2) e)
    exact ⟨_, He.frG_in, e2.2, congrArg (fun z : AlR => z.1) e, e2.1⟩
  keeps := fun _ _ _ ⟨K, hK, t, c⟩ k => ⟨K, PySem.W.Frag.In.keeps hK k, t, c⟩
/-! ### the law's call -/
/-- the makers' tables as objects of the abstract heap -/
def tabH (xs : List Str) : Hh := xs.map fun x => some (.tbl x)
def scrT (a : Addr) (vs : List Value) (ns : List Int) (b : Bool) (ts : List Addr) : Hp := fun c => if c ∈ ts then some (.tbl #[]) else if c = a ∧ b = true then some (.frz { cls := .type "list", data := .seq vs.toArray } (.lst (ns.map V.int))) else none
end Rk

/-! Rk57: wishes for deeds. -/
namespace Rk
open PySem PySem.Spec L2
section
variable {Q : Vl → Hh → Prop} {E : XP} {ρ ρ' : En} {h h0 : Hh} {n i : Nat} {x : Str} {m : Deed → Fn} {fb : Ev} {v0 : Vl} {d : Deed}
end
theorem ex_of_wp {o : Out Vl} {v0 : Vl} (w : Wp o (fun v _ => v = v0) NX) : ∃ h', o = .ok v0 h' := by
  obtain ⟨v, h', e, rfl⟩ := wp_out w
  exact ⟨h', e⟩
theorem retK_any {n : Nat} {h : Hh} {x : Da} {Q : Vl → Hh → Prop} (q : Q (.d x) (h.take n)) : RetK n Q (.d x) h := ⟨_, _, rfl, q⟩
end Rk

/-! Rk58: powers of great numbers. -/
namespace Rk
open PySem PySem.Spec L2
variable {mg : Str → Option Value}
def CPowG (i j : Int) : Prop := 0 ≤ j ∧ j ≤ 10000 ∧ Bd 10000 i
open Classical in
noncomputable def fPowG (a b : Int) : Option Da := if CPowG a b then some (.int (a ^ b.toNat)) else none
section
variable {K : PySem.W.Frag}
end
end Rk

/-! Rk59: more wishes: range of two, lists put together. -/
namespace Rk
open PySem PySem.Spec L2
section
variable {QI : Itm → Hh → Prop} {E : XP} {ρ : En} {h : Hh} {as : Av}
end
end Rk

/-! Rk60: a, b, c = x, y, z with plain local names. -/
namespace Rk
open PySem PySem.Spec L2
/-- a, b, c = x, y, z -/
def sPar3 (i j l : Nat) (fs : Av) : Sv := fun ρ h => Out.then ρ (fs ρ h) fun vs h1 => match vs with
  | [x, y, z] => .nx (((ρ.set i (some x)).set j (some y)).set l (some z)) h1
  | _ => .no
section
variable {mg : Str → Option Value}
theorem VReps.three {K : PySem.W.Frag} {φ : List Addr} {h : Hh} {H : Hp} {xs : List V} {v w u : Vl} (r : VReps K mg φ h H xs [v, w, u]) : ∃ x y z, xs = [x, y, z] ∧ VRep K mg φ h H x v ∧ VRep K mg φ h H y w ∧ VRep K mg φ h H z u := by
  cases r with
  | cons r t =>
    cases t with
    | cons r2 t2 =>
      cases t2 with
      | cons r3 t3 =>
        cases t3
        exact ⟨_, _, _, rfl, r, r2, r3⟩
end
section
variable {X : Cx} {W : WX} {pos : Pos}
end
section
variable {as : Av} {ρ : En} {h : Hh} {N : En → Hh → Prop} {R : Vl → Hh → Prop} {B C : En → Hh → Prop} {X : Str → List (Str × Da) → En → Hh → Prop}
end
end Rk

/-! Rk61: d.update(e), both dicts that may be changed. -/
namespace Rk
open PySem PySem.Spec L2
variable {mg : Str → Option Value}
def rUpdate : V → List V → Hp → VK → Prop := fun x vs H Q => ∃ (a b : Addr) (kvs zs : List (Key × V)), x = .ref a ∧ vs = [.ref b] ∧ H a = some (.dK kvs) ∧ H b = some (.dK zs) ∧ a ≠ b ∧ kvs.length + zs.length ≤ sizeLine ∧ Q .non (upd H a (.dK (mergeK kvs zs)))
/-- the dict of a reference -/
def asDk (v : Vl) (h : Hh) : Option (Nat × List (Key × Da)) := match v with
  | .r n => match h[n]? with
    | some (some (.dct kds)) => some (n, kds)
    | _ => none
  | _ => none
def tyDk (v : Vl) (h : Hh) : Bool := (asDk v h).isSome
def gUpd : GM := fun o as h => match as with
  | [w] => match asDk o h, asDk w h with
    | some (n, kds), some (m, zds) => if n ≠ m ∧ fitB (kds.length + zds.length) = true then some (.d .none, h.set n (some (.dct (zds.foldl (fun acc kv => putD acc kv.1 kv.2) kds)))) else none
    | _, _ => none
  | _ => none
section
variable {K : PySem.W.Frag} {φ : List Addr} {h : Hh} {H : Hp} {x : V} {v : Vl} {n : Nat} {kds : List (Key × Da)}
theorem asDk_eq (e : asDk v h = some (n, kds)) : v = .r n ∧ h[n]? = some (some (.dct kds)) := by
  unfold asDk at e
  split at e
  · split at e
    · cases e
      exact ⟨rfl, by assumption⟩
    · cases e
  · cases e
theorem asDk_ok (sm : Sim K φ h H) (r : VRep K mg φ h H x v) (e : asDk v h = some (n, kds)) : ∃ a kvs, x = .ref a ∧ φ[n]? = some a ∧ h[n]? = some (some (.dct kds)) ∧ H a = some (.dK kvs) ∧ KvRep K H (Live φ h) kvs kds := by
  obtain ⟨rfl, en⟩ := asDk_eq e
  obtain ⟨a, ea, rfl⟩ := r
  obtain ⟨kvs, eh, rk⟩ := sm.atD en ea
  exact ⟨a, kvs, rfl, ea, en, eh, rk⟩
end
section
variable {h : Hh} {Q : Vl → Hh → Prop} {E : XP} {ρ : En} {o : Ev} {as : Av} {g : GM}
end
end Rk

/-! Rk62: repr of a dict that may be changed. -/
namespace Rk
open PySem PySem.Spec L2
section
variable {prog : Program} {w : World} {h₀ : Heap} {a : Addr} {A : Around} {E : Value → Shared → Prop} {s : Shared} {Q : Value → Shared → Prop}
end
def dD (kds : List (Key × Da)) : List (Da × Da) := kds.map fun p => (kD p.1, p.2)
def rReprD (K : PySem.W.Frag) (xs : List V) (H : Hp) (Q : VK) : Prop := ∃ (a : Addr) (kvs : List (Key × V)) (kds : List (Key × Da)) (M : Addr → Prop), xs = [.ref a] ∧ H a = some (.dK kvs) ∧ KvRep K H M kvs kds ∧ PyData.hasDictAll (kds.map (·.2)) = false ∧
  PyData.showable (.dict (dD kds)) = true ∧ PyData.depth (.dict (dD kds)) ≤ 60 ∧ (PyData.shown (.dict (dD kds))).length ≤ sizeLine ∧ Q (.str (PyData.shown (.dict (dD kds)))) H
/-- repr, of a dict that may be changed, too -/
def gReprA : GC := fun as h => match as with
  | [x] => match asDk x h with
    | some (_, kds) => if PyData.showable (.dict (dD kds)) && !PyData.hasDictAll (kds.map (·.2)) && decide (PyData.depth (.dict (dD kds)) ≤ 60) && fitB (PyData.shown (.dict (dD kds))).length then some (.d (.str (PyData.shown (.dict (dD kds)))), h) else none
    | none => gRepr [x] h
  | _ => none
variable {mg : Str → Option Value}
end Rk

/-! Rk63: dict(zip(xs, ys)) of two lists of one length. -/
namespace Rk
open PySem PySem.Spec PyProof.Rows L2
def tDictZip (K : PySem.W.Frag) (ta : TA) : TE := fun σ H Q => ta σ H fun vs H1 => ∃ (a b : Addr) (ks : List Key) (ys : List V), vs = [.ref a, .ref b] ∧ SqL K H1 a (ks.map kV) ∧ SqL K H1 b ys ∧ ks.length = ys.length ∧ ∀ p, H1 p = none → Q (.ref p) (upd H1 p (.dK (mergeK [] (ks.zip ys))))
/-- the keys of data -/
def keyD : Da → Option Key
  | .int i => some (.inl i)
  | .str x => some (.inr x)
  | _ => none
def keysD : List Da → Option (List Key)
  | [] => some []
  | d :: ds => (keyD d).bind fun k => (keysD ds).map (k :: ·)
/-- dict(zip(..)) -/
def gDZ : GC := fun vs h => match vs with
  | [x, y] => match asL x h, asL y h with
    | some xs, some ds => match keysD xs with
      | some ks => if ks.length = ds.length then some (.r h.length, h ++ [some (.dct ((ks.zip ds).foldl (fun acc kv => putD acc kv.1 kv.2) []))]) else none
      | none => none
    | _, _ => none
  | _ => none
section
variable {K : PySem.W.Frag} {H : Hp} {M : Addr → Prop}
theorem keyD_ok {v : V} {d : Da} {k : Key} (r : Rep K H M v d) (e : keyD d = some k) : v = kV k := by
  cases r with
  | int i => cases e; rfl
  | str x => cases e; rfl
  | _ => cases e
end
section
variable {X : Cx} {W : WX} {e e2 : Expr} {fs : Av} {p p2 q pos : Pos}
end
end Rk

/-! Rk64: a dict that is changed no more, as data; its parts by their keys. -/
namespace Rk
open PySem PySem.Spec L2
variable {mg : Str → Option Value}
section
variable {K : PySem.W.Frag} {H : Hp} {M : Addr → Prop}
theorem KvRep.vals : ∀ {kvs : List (Key × V)} {kds : List (Key × Da)}, KvRep K H M kvs kds → Reps K H M (kvs.map (·.2)) (kds.map (·.2)) ∧ kvs.map (·.1) = kds.map (·.1)
  | _, _, .nil => ⟨.nil, rfl⟩
  | _, _, .cons r t => ⟨.cons r (KvRep.vals t).1, by rw [List.map_cons, List.map_cons, (KvRep.vals t).2]⟩
theorem zip_fst_snd : ∀ (kds : List (Key × Da)), (kds.map (·.1)).zip (kds.map (·.2)) = kds
  | [] => rfl
  | p :: r => by
    rw [List.map_cons, List.map_cons, List.zip_cons_cons, zip_fst_snd r]
theorem kv_of : ∀ {kvs : List (Key × V)} {ds : List Da}, Reps K H M (kvs.map (·.2)) ds → KvRep K H M kvs ((kvs.map (·.1)).zip ds)
  | [], _, _ => .nil
  | (k, v) :: r, _, .cons q t => .cons q (kv_of t)
theorem KvRep.dct {a : Addr} {kvs : List (Key × V)} {kds : List (Key × Da)} (e : H a = some (.dK kvs)) (n : ¬ M a) (r : KvRep K H M kvs kds) (ne : kds ≠ []) : Rep K H M (.ref a) (.dict (dD kds)) := by
  obtain ⟨r1, r2⟩ := r.vals
  refine .dct e n (fun z => ne ?_) r1 ?_
  · cases r with
    | nil => rfl
    | cons _ _ => cases z
  · rw [r2, zip_fst_snd]
    rfl
/-- the pairs of a dict as data -/
def unD : List (Da × Da) → Option (List (Key × Da))
  | [] => some []
  | p :: r => (keyD p.1).bind fun k => (unD r).map ((k, p.2) :: ·)
theorem keyD_kD (k : Key) : keyD (kD k) = some k := by cases k <;> rfl
theorem unD_dD : ∀ (kds : List (Key × Da)), unD (dD kds) = some kds
  | [] => rfl
  | p :: r => by
    show (keyD (kD p.1)).bind (fun k => (unD (dD r)).map ((k, p.2) :: ·)) = _
    rw [keyD_kD, unD_dD r]
    rfl
theorem Rep.dctAt {x : V} {kvs : List (Da × Da)} {kds : List (Key × Da)} (r : Rep K H M x (.dict kvs)) (ne : kds ≠ []) (e : unD kvs = some kds) : ∃ a vs, x = .ref a ∧ H a = some (.dK vs) ∧ KvRep K H M vs kds := by
  cases r with
  | dct0 h n => cases e; exact absurd rfl ne
  | fn x => cases e
  | plt _ _ _ _ => cases e
  | @dct a vs ds _ h n ne r e2 =>
    subst e2
    have z : unD (dD ((vs.map (·.1)).zip ds)) = some kds := e
    rw [unD_dD] at z
    cases z
    exact ⟨a, vs, rfl, h, kv_of r⟩
end
/-- d[k], of a dict as data, too -/
def gIz : G2 := fun x y h => match x with
  | .d (.dict kvs) => match keyOf y, unD kvs with
    | some k, some kds => if kds ≠ [] then (valD kds k).map fun d => (.d d, h) else none
    | _, _ => none
  | _ => gDG x y h
theorem ok_iz {K : PySem.W.Frag} : Ok2 K mg rDG gIz := by
  intro φ h H x y a b Q v h' sm rx ry e k
  unfold gIz at e
  split at e
  · rename_i kvs
    split at e
    · rename_i key kds ek ed
      split at e
      · rename_i ne
        obtain ⟨p, vs, rfl, eh, rk⟩ := Rep.dctAt (show Rep K H (Live φ h) x (.dict kvs) from rx) ne ed
        rcases rk.get (k := key) with ⟨_, z⟩ | ⟨w, d, e1, e2, r⟩
        · rw [z] at e; cases e
        · rw [e2] at e
          cases e
          rw [keyOf_ok ry ek]
          refine ⟨p, w, rfl, ?_, k w H φ (Step.refl _ _ _) sm r⟩
          rw [← e1]
          exact DGet.k eh
      · cases e
    · cases e
  · exact ok_dg φ h H x y a b Q v h' sm rx ry e k
theorem ee_iz {X : Cx} {W : WX} {a b : Expr} {fa fb : Ev} {pos : Pos} (hu : X.A.units + 64 < cLine) (ha : EE X W a fa) (hb : EE X W b fb) (hs : NoSl b := by exact fun _ _ => rfl) : EE X W (.Subscript a b pos) (eOp gIz fa fb) :=
  PE.of (pe_dget (by omega) ha hb hs) fun σ H Q hf => tOp_ok (r := rDG) ok_iz hf
/-- a dict, as data from here on -/
def fzD (v : Vl) (h : Hh) : Option (Da × Hh) := match asDk v h with
  | some (n, kds) => if kds ≠ [] then some (.dict (dD kds), h.set n none) else none
  | none => none
def eFzD (f : Ev) : Ev := fun ρ h => match f ρ h with
  | .ok v h1 => match fzD v h1 with
    | some p => trunc h.length (.d p.1) p.2
    | none => .no
  | .ex c fs h1 => .ex c fs (h1.take h.length)
  | .no => .no
/-- either -/
def gIw : G2 := fun x y h => match gIz x y h with
  | some r => some r
  | none => gIx x y h
section
variable {X : Cx} {W : WX} {a b : Expr} {fa fb : Ev} {pos : Pos}
theorem ee_iw (hu : X.A.units + 64 < cLine) (ha : EE X W a fa) (hb : EE X W b fb) (hs : NoSl b := by exact fun _ _ => rfl) (hp : PlainIx b := by exact fun _ _ => rfl) : EE X W (.Subscript a b pos) (eOp gIw fa fb) :=
  PE.of (PE.or (ee_iz (pos := pos) hu ha hb hs) (ee_ix (pos := pos) ha hb hp)) fun σ H Q ⟨φ, h, ρ, sm, er, q⟩ => by
    unfold eOp at q
    cases e1 : fa ρ h with
    | no => rw [e1] at q; exact q.elim
    | ex c fs h1 =>
      refine .inr ⟨φ, h, ρ, sm, er, ?_⟩
      unfold eOp
      rw [e1] at q ⊢
      exact q
    | ok x h1 =>
      rw [e1] at q
      cases e2 : fb ρ h1 with
      | no =>
        simp only [Out.bind_ok] at q
        rw [e2] at q
        exact q.elim
      | ex c fs h2 =>
        refine .inr ⟨φ, h, ρ, sm, er, ?_⟩
        unfold eOp
        rw [e1]
        simp only [Out.bind_ok] at q ⊢
        rw [e2] at q ⊢
        exact q
      | ok y h2 =>
        simp only [Out.bind_ok] at q
        rw [e2] at q
        simp only [Out.bind_ok] at q
        unfold gIw at q
        cases e3 : gIz x y h2 with
        | some r =>
          refine .inl ⟨φ, h, ρ, sm, er, ?_⟩
          unfold eOp
          rw [e1]
          simp only [Out.bind_ok]
          rw [e2]
          simp only [Out.bind_ok]
          rw [e3] at q ⊢
          exact q
        | none =>
          refine .inr ⟨φ, h, ρ, sm, er, ?_⟩
          unfold eOp
          rw [e1]
          simp only [Out.bind_ok]
          rw [e2]
          simp only [Out.bind_ok]
          rw [e3] at q
          exact q
end
/-! ### wishes -/
def FzDK (v : Vl) (h : Hh) (n : Nat) (Q : Vl → Hh → Prop) : Prop := ∃ d h2, fzD v h = some (d, h2) ∧ Q (.d d) (h2.take n)
section
variable {h : Hh} {Q : Vl → Hh → Prop} {E : XP} {ρ : En} {a : Ev} {kds : List (Key × Da)} {x : Str} {d : Da} {n : Nat}
theorem wo_iwR (e : h[n]? = some (some (.dct kds))) (ev : valD kds (.inr x) = some d) (q : Q (.d d) h) : Wo (gIw (.r n) (.d (.str x)) h) Q := by
  refine wo_eq (v := .d d) ?_ q
  unfold gIw gIz
  dsimp only
  rw [dg_of e ev]
end
end Rk

/-! Rk65: raise C(e), C's own __init__ handing a text to its base's and keeping one field. -/
namespace Rk
open PySem PySem.Spec PyProof.Rows L2
section
variable {X : Cx} {e : Expr} {es : List Expr} {ta : TA} {p1 p2 pos : Pos} {r : Str} {R : Addr} {mc : Value}
end
/-- what an __init__ that keeps one field does -/
def spI (K : PySem.W.Frag) (C : Addr) (f : Str) : Sp := fun vs H Q _ => ∃ (a : Addr) (y : V), vs = [.ref a, y] ∧ H a = some (exo a C none) ∧ ∀ dx, H dx = none → dx ≠ a → Q .non (upd (upd H dx (exd dx [(f, y)])) a (exo a C (some dx)))
section
variable {P : Program} {w : World} {K : PySem.W.Frag} {mg : Str → Option Value} {base : Heap} {qual r f m : Str} {params : Arguments} {scope : Scope} {fI C R : Addr} {fd : FuncData} {mc : Value} {j : Nat} {p1 p2 p3 p4 p5 p6 p7 p8 p9 p10 : Pos}
end
/-- raise C(e) -/
def sRaise1 (c f : Str) (fe : Ev) : Sv := fun ρ h => Out.then ρ (fe ρ h) fun v h1 => match fz v h1 with
  | some (d, h2) => .ex c [(f, d)] ρ h2
  | none => .no
/-- a class whose __init__ keeps one field -/
def IniC (P : Program) (w : World) (K : PySem.W.Frag) (mg : Str → Option Value) (base : Heap) (c f : Str) : Prop :=
  ∃ (C fI : Addr) (fd : FuncData) (ps : List Str), mg c = some (.ref C) ∧ OexC K C ∧ PySem.W.findIn K (.ref C) "__init__" = some (some (.ref fI)) ∧ PySem.W.typeIn K (.ref fI) = some (.type "function") ∧ Binds K fd ps [] ∧ FnOk P w K mg base (L2.CX P w) 1 fI fd ps (spI K C f)
section
variable {X : Cx} {W : WX} {c f : Str} {e : Expr} {fe : Ev} {k : Nat} {p pos pos' : Pos}
end
end Rk

/-! Rk66: what the head tells of a class whose __init__ keeps a field. -/
namespace Rk
open PySem PySem.Spec PyProof.Rows L2
def oexB (K : PySem.W.Frag) (C : Addr) : Bool := (match K.lookup C with
  | some ⟨.type t, _, .cls cd, sl⟩ => (match cd.mro, sl.toList with
    | .ref C' :: bm, [_, _, _, _, some (.builtin n), _] => t == "type" && (C' == C && (n == "ValueError.__new__" && (!cd.hasDel && (cd.hasDict && PySem.HandSPX.refsVE bm))))
    | _, _ => false)
  | _ => false) && (decide (PySem.W.findIn K (.ref C) "__setattr__" = some (some (.builtin "object.__setattr__"))) && (decide (PySem.W.subIn K (.ref C) (.type "BaseException") = some true) && (decide (PySem.W.typeIn K (.ref C) = some (.type "type")) && PySem.W.keepIn K (.ref C))))
/-- the class c, its __init__, its field f, its base r -/
def iniB (K : PySem.W.Frag) (c f r : Str) : Bool := match clsAt K c, clsAt K r with
  | some C, some R => oexB K C && (decide (PySem.W.findIn K (.ref C) "__init__" = some (some (.ref (He.fAd K (c, some "__init__"))))) && (decide (PySem.W.typeIn K (.ref (He.fAd K (c, some "__init__"))) = some (.type "function")) && (decide (PySem.W.findIn K (.ref C) f = some none) &&
      (PySem.W.readsIn K R (.type "type") && (decide (PySem.W.specialIn K (.ref R) "__getattribute__" = some (some (.builtin "type.__getattribute__"))) && (match PySem.W.findCls K (.ref R) (.type "type") "__init__" with
        | some (.val (.builtin n)) => n == "ValueError.__init__"
        | _ => false))))))
  | _, _ => false
structure IniT (K : PySem.W.Frag) (mg : Str → Option Value) (c f r : Str) : Prop where
  ex : ∃ C R, mg c = some (.ref C) ∧ mg r = some (.ref R) ∧ OexC K C ∧ PySem.W.findIn K (.ref C) "__init__" = some (some (.ref (He.fAd K (c, some "__init__")))) ∧ PySem.W.typeIn K (.ref (He.fAd K (c, some "__init__"))) = some (.type "function") ∧ PySem.W.findIn K (.ref C) f = some none ∧
    ClX.CRead K R (.type "type") ∧ PySem.W.findCls K (.ref R) (.type "type") "__init__" = some (.val (.builtin "ValueError.__init__"))
/-- a def in a class's body -/
def inS (s : Stmt) (k : Nat) : Stmt := match s with
  | .ClassDef _ _ _ body _ _ _ _ _ _ _ => body.getD k (.Pass ⟨0, 0, 0, 0⟩)
  | _ => .Pass ⟨0, 0, 0, 0⟩
end Rk

/-! Rk67: a field of a caught error. -/
namespace Rk
open PySem PySem.Spec PyProof.Rows L2
def tXfO (K : PySem.W.Frag) (f : Str) (te : TE) : TE := fun σ H Q => te σ H fun x H1 => ∃ (a C dd : Addr) (fs : List (Str × V)) (v : V), x = .ref a ∧ H1 a = some (exO a (.ref C) (some dd)) ∧ XfC K C ∧ PySem.W.findIn K (.ref C) f = some none ∧ H1 dd = some (.xd fs) ∧ fs.lookup f = some v ∧ Q v H1
/-- classes whose instances keep the field f -/
structure XfT (K : PySem.W.Frag) (mg : Str → Option Value) (f : Str) (cs : List Str) : Prop where
  ex : ∀ c ∈ cs, ∃ C, mg c = some (.ref C) ∧ XfC K C ∧ PySem.W.findIn K (.ref C) f = some none
def xfT1 (K : PySem.W.Frag) (f c : Str) : Bool := match clsAt K c with
  | some C => xfB K C && decide (PySem.W.findIn K (.ref C) f = some none)
  | none => false
def xfTB (K : PySem.W.Frag) (f : Str) (cs : List Str) : Bool := cs.all (xfT1 K f)
/-- e.f, e a caught error -/
def eXf (cs : List Str) (f : Str) (fe : Ev) : Ev := fun ρ h => (fe ρ h).bind fun v h1 => match v with
  | .x c fs => if c ∈ cs then (match fs.lookup f with
    | some d => .ok (.d d) h1
    | none => .no) else .no
  | _ => .no
theorem FsRep.look {K : PySem.W.Frag} {H : Hp} {M : Addr → Prop} {f : Str} {d : Da} : ∀ {vs : List (Str × V)} {fs : List (Str × Da)}, FsRep K H M vs fs → fs.lookup f = some d → ∃ v, vs.lookup f = some v ∧ Rep K H M v d
  | _, _, .nil, e => by cases e
  | _, _, .cons (k := k) r t, e => by
    rw [List.lookup_cons] at e ⊢
    cases q : f == k with
    | true =>
      rw [q] at e
      cases e
      exact ⟨_, rfl, r⟩
    | false =>
      rw [q] at e
      exact FsRep.look t e
end Rk

/-! Rk68: targets = values, a tuple on both sides, some of the values things that are changed. -/
namespace Rk
open PySem PySem.Spec L2
/-- targets = x, y, .. -/
def sParN (n : Nat) (g : Gs) (fs : Av) : Sv := fun ρ h => Out.then ρ (fs ρ h) fun vs h1 => if fitB vs.length = true ∧ vs.length = n then ofG (g vs ρ h1) else .no
section
variable {X : Cx} {W : WX} {pos : Pos}
end
/-- a list of n, unpacked -/
def gTupL (n : Nat) (g : Gs) : Gv := fun v ρ h => match v with
  | .d (.list ds) => if ds.length = n then g (ds.map Vl.d) ρ h else none
  | _ => none
section
variable {X : Cx} {pos : Pos}
end
section
variable {h : Hh} {ρ : En} {N : En → Hh → Prop}
end
section
variable {as : Av} {ρ : En} {h : Hh} {N : En → Hh → Prop} {R : Vl → Hh → Prop} {B C : En → Hh → Prop} {X : Str → List (Str × Da) → En → Hh → Prop}
end
end Rk

/-! Rk69: comprehensions whose parts look at the heap that was there (wp_lcP, wp_lcXP), and lists kept for a change. -/
namespace Rk
open PySem PySem.Spec L2
section
variable {gd : Option (Nat × List Da)} {g : Gv} {tt : Tv} {fe : Ev} {ρ0 : En} {h : Hh} {α : Type} {f g' : α → Da} {P : α → Bool} {c : Str} {fs : List (Str × Da)}
theorem lc_mapP (hgd : ∀ o, gdOk gd (h ++ [o])) : ∀ (xs : List α) (acc : List Da), (∀ x ∈ xs, ∀ o, ∃ ρ1, g (.d (f x)) ρ0 (h ++ [o]) = some (ρ1, h ++ [o]) ∧ fe ρ1 (h ++ [o]) = .ok (.d (g' x)) (h ++ [o])) → acc.length + xs.length ≤ 16777216 →
    lcL gd h.length g tvYes fe ρ0 (xs.map f) (h ++ [some (.lst acc)]) = .ok (.r h.length) (h ++ [some (.lst (acc ++ xs.map g'))])
  | [], acc, _, _ => by
    rw [List.map_nil, lcL_nil (hgd _)]
    simp
  | d :: ds, acc, H, hl => by
    obtain ⟨ρ1, e1, e3⟩ := H d (List.mem_cons_self ..) (some (.lst acc))
    rw [List.length_cons] at hl
    rw [List.map_cons]
    rw [lcL_cons (hgd _) e1 rfl e3 (appL_end rfl (by omega)), lc_mapP hgd ds (acc ++ [g' d]) (fun d hd => H d (List.mem_cons_of_mem _ hd)) (by rw [List.length_append, List.length_singleton]; omega)]
    simp
theorem lcX_mapP (hgd : ∀ o, gdOk gd (h ++ [o])) : ∀ (xs : List α) (acc : List Da), (∀ x ∈ xs, ∀ o, ∃ ρ1, g (.d (f x)) ρ0 (h ++ [o]) = some (ρ1, h ++ [o]) ∧ ((P x = true ∧ fe ρ1 (h ++ [o]) = .ok (.d (g' x)) (h ++ [o])) ∨ (P x = false ∧ fe ρ1 (h ++ [o]) = .ex c fs (h ++ [o])))) → acc.length + xs.length ≤ 16777216 →
    (xs.all P = true ∧ lcLX gd h.length g tvYes fe ρ0 (xs.map f) (h ++ [some (.lst acc)]) = .ok (.r h.length) (h ++ [some (.lst (acc ++ xs.map g'))])) ∨ (xs.all P = false ∧ ∃ o, lcLX gd h.length g tvYes fe ρ0 (xs.map f) (h ++ [some (.lst acc)]) = .ex c fs (h ++ [o]))
  | [], acc, _, _ => by
    refine .inl ⟨rfl, ?_⟩
    rw [List.map_nil, lcX_nil (hgd _)]
    simp
  | d :: ds, acc, H, hl => by
    obtain ⟨ρ1, e1, e2⟩ := H d (List.mem_cons_self ..) (some (.lst acc))
    rw [List.length_cons] at hl
    rw [List.map_cons]
    rcases e2 with ⟨p, e2⟩ | ⟨p, e2⟩
    · rw [lcX_cons (hgd _) e1 rfl e2 (appL_end rfl (by omega))]
      have := lcX_mapP hgd ds (acc ++ [g' d]) (fun d hd => H d (List.mem_cons_of_mem _ hd)) (by rw [List.length_append, List.length_singleton]; omega)
      simpa [p] using this
    · rw [lcX_ex (hgd _) e1 rfl e2]
      exact .inr ⟨by simp [p], _, rfl⟩
end
section
variable {Q : Vl → Hh → Prop} {E : XP} {ρ : En} {h : Hh} {i : Iv} {g : Gv} {tt : Tv} {fe : Ev} {ws : List Nat}
theorem wp_lcP {α : Type} (xs : List α) (f g' : α → Da) {ρ0 : En} (e00 : wipeE ρ ws = ρ0) (w : Wp (i ρ h) (fun m h1 => m = ⟨xs.map f, none⟩ ∧ xs.length ≤ 16777216 ∧ h1.length = h.length ∧
      (∀ x ∈ xs, ∀ o, GvK (g (.d (f x)) ρ0 (h1 ++ [o])) fun ρ1 h2 => h2 = h1 ++ [o] ∧ Wp (fe ρ1 (h1 ++ [o])) (fun v h3 => h3 = h1 ++ [o] ∧ v = .d (g' x)) NX) ∧
      Q (.d (.list (xs.map g'))) h1) (fun c fs h1 => E c fs (h1.take h.length))) : Wp (eFz (eLc ws i g tvYes fe) ρ h) Q E := by
  subst e00
  refine wp_fz (wp_bind (w.mono ?_ fun _ _ _ z => z))
  rintro m h1 ⟨rfl, hl, hh, H, q⟩
  have lf := lc_mapP (gd := none) (g := g) (fe := fe) (ρ0 := wipeE ρ ws) (h := h1) (f := f) (g' := g') (fun _ => trivial) xs [] (fun d hd o => by
    have k := H d hd o
    unfold GvK Wo at k
    revert k
    cases e : g (.d (f d)) (wipeE ρ ws) (h1 ++ [o]) with
    | none => exact fun z => z.elim
    | some p =>
      obtain ⟨ρ1, h2⟩ := p
      rintro ⟨rfl, wf⟩
      obtain ⟨v, h3, e2, rfl, rfl⟩ := wp_out wf
      exact ⟨ρ1, rfl, e2⟩) (by simpa using hl)
  rw [List.nil_append] at lf
  exact wp_eq lf (fzk_end hh q)
theorem wp_lcXP {α : Type} (xs : List α) (f g' : α → Da) (P : α → Bool) (c : Str) (fs : List (Str × Da)) {ρ0 : En} (e00 : wipeE ρ ws = ρ0) (w : Wp (i ρ h) (fun m h1 => m = ⟨xs.map f, none⟩ ∧ xs.length ≤ 16777216 ∧ h1.length = h.length ∧
      (∀ x ∈ xs, ∀ o, GvK (g (.d (f x)) ρ0 (h1 ++ [o])) fun ρ1 h2 => h2 = h1 ++ [o] ∧ Wp (fe ρ1 (h1 ++ [o])) (fun v h3 => h3 = h1 ++ [o] ∧ P x = true ∧ v = .d (g' x)) (fun c' fs' h3 => h3 = h1 ++ [o] ∧ P x = false ∧ c' = c ∧ fs' = fs)) ∧
      (xs.all P = true → Q (.d (.list (xs.map g'))) h1) ∧ (xs.all P = false → E c fs h1)) (fun c fs h1 => E c fs (h1.take h.length))) : Wp (eFz (eLcX ws i g tvYes fe) ρ h) Q E := by
  subst e00
  refine wp_fz (wp_bind (w.mono ?_ fun _ _ _ z => z))
  rintro m h1 ⟨rfl, hl, hh, H, q, qe⟩
  have lf := lcX_mapP (gd := none) (g := g) (fe := fe) (ρ0 := wipeE ρ ws) (h := h1) (f := f) (g' := g') (P := P) (c := c) (fs := fs) (fun _ => trivial) xs [] (fun d hd o => by
    have k := H d hd o
    unfold GvK Wo at k
    revert k
    cases e : g (.d (f d)) (wipeE ρ ws) (h1 ++ [o]) with
    | none => exact fun z => z.elim
    | some p =>
      obtain ⟨ρ1, h2⟩ := p
      rintro ⟨rfl, wf⟩
      refine ⟨ρ1, rfl, ?_⟩
      have k := wf.w
      revert k
      cases fe ρ1 (h1 ++ [o]) with
      | ok v h3 => rintro ⟨rfl, p, rfl⟩; exact .inl ⟨p, rfl⟩
      | ex c' fs' h3 => rintro ⟨rfl, p, rfl, rfl⟩; exact .inr ⟨p, rfl⟩
      | no => exact fun z => z.elim) (by simpa using hl)
  rw [List.nil_append] at lf
  rcases lf with ⟨p, lf⟩ | ⟨p, o, lf⟩
  · exact wp_eq lf (fzk_end hh (q p))
  · refine ⟨?_⟩
    show Wp0 (lcLX none h1.length g tvYes fe (wipeE ρ ws) (xs.map f) (h1 ++ [some (.lst [])])) _ _
    rw [lf]
    show E c fs ((h1 ++ [o]).take h.length)
    rw [← hh, List.take_left]
    exact qe p
/-- a name is told its thing -/
def Kn (h : Hh) (kv : Vl) (n : Str) (d : Da) : Prop := ∀ (l : Hh) (Q : Vl → Hh → Prop), Q (.d d) (h ++ l) → Wo (gIw kv (.d (.str n)) (h ++ l)) Q
theorem Kn.app {kv : Vl} {n : Str} {d : Da} {l : Hh} (k : Kn h kv n d) : Kn (h ++ l) kv n d := fun l' Q q => by
  rw [List.append_assoc] at q ⊢
  exact k (l ++ l') Q q
end
end Rk

/-! Rk70: dicts of the top with text keys: d.get(x, y) of a constant dict. -/
namespace Rk
open PySem PySem.Spec L2
def seek (kds : List (Str × Da)) (z : Str) : Option Da := match kds with
  | [] => none
  | (k, d) :: r => if k = z then some d else seek r z
def kvB (K : PySem.W.Frag) : List (Str × Da) → List DictEntry → Bool
  | [], [] => true
  | (k, d) :: r, e :: es => (match e.key with | .str x _ => decide (x = k) | _ => false) && (cB K d e.val && kvB K r es)
  | _, _ => false
def kdB (K : PySem.W.Frag) (x : Str) (kds : List (Str × Da)) : Bool := match PySem.W.nsIn K mainGlobals x with
  | some (some (.ref a)) => (match K.lookup a with
    | some ⟨_, _, .dict es _, _⟩ => kvB K kds es.toList
    | _ => false)
  | _ => false
def dicN (K : PySem.W.Frag) (x : Str) : Option (List (Option (Str × Int))) := match PySem.W.nsIn K mainGlobals x with
  | some (some (.ref a)) => He.dicW K a
  | _ => none
/-- a constant dict: where it stands, what it holds -/
def GDict (K : PySem.W.Frag) (w : World) (mg : Str → Option Value) (x : Str) (kds : List (Str × Da)) : Prop :=
  ∃ a es n, mg x = some (.ref a) ∧ KDict K w a es n ∧ ∀ z, match seek kds z with
    | none => PySem.W.nsIn K a z = some none
    | some d => ∃ v u, PySem.W.nsIn K a z = some (some u) ∧ RelV v u ∧ KRep K v d
/-- d.get(x, y) -/
def rGetC (K : PySem.W.Frag) (kds : List (Str × Da)) : R2 := fun x y H Q => ∃ z, x = .str z ∧ match seek kds z with
  | none => Q y H
  | some d => ∀ v, KRep K v d → Q v H
def gGetC (kds : List (Str × Da)) : G2 := fun x y h => match x with
  | .d (.str z) => some ((match seek kds z with | none => y | some d => .d d), h)
  | _ => none
section
variable {X : Cx} {W : WX} {x : Str} {kds : List (Str × Da)} {e f : Expr} {apos npos cpos : Pos} {ty tx : TE} {fe ff : Ev} {mg : Str → Option Value} {K : PySem.W.Frag}
end
end Rk

/-! Rk71: the head with dicts of the top. -/
namespace Rk
open PySem PySem.Spec L2
abbrev AlW : Type := AlR × List (Option (List (Option (Str × Int))))
def TabsW (tn : List (Str × List Str)) (w : World) (K : PySem.W.Frag) : Prop := tn.map (fun t => dicN K t.1) = tn.map fun t => some (He.keysIn w.params t.2)
theorem TabsW.at_ {tn : List (Str × List Str)} {w : World} {K : PySem.W.Frag} (T : TabsW tn w K) (i : Nat) {t : Str × List Str} (h : tn[i]? = some t := by rfl) : dicN K t.1 = some (He.keysIn w.params t.2) := by
  have e2 : (tn.map fun t => dicN K t.1)[i]? = (tn.map fun t => some (He.keysIn w.params t.2))[i]? := by rw [T]
  rw [List.getElem?_map, List.getElem?_map, h] at e2
  exact Option.some.inj e2
def obsRW (n : Nat) (tn : List (Str × List Str)) (fa : List He.Fa) (fn : List He.DefD) (ex : PySem.W.Frag → Bool) (g : Addr → Option Obj) : AlW :=
  (obsR n fa fn ex g, tn.map fun t => dicN (He.frG g (asN g n [mainGlobals] ++ [cStatics])) t.1)
def valRW (tn : List (Str × List Str)) (fn : List He.DefD) (w : World) : AlW := ((He.valD fn, true), tn.map fun t => some (He.keysIn w.params t.2))
def hookRW (n : Nat) (tn : List (Str × List Str)) (fa : List He.Fa) (fn : List He.DefD) (ex : PySem.W.Frag → Bool) : PySem.W.Hook where
  α := AlW
  obs := fun s => obsRW n tn fa fn ex s.heap.get?
  val := fun w => valRW tn fn w
  says := fun w h => ∃ K : PySem.W.Frag, K.In h ∧ SaysR fa fn ex K ∧ TabsW tn w K
  of := fun _ _ e => ⟨_, He.frG_in, ⟨congrArg (fun z : AlW => z.1.1) e, congrArg (fun z : AlW => z.1.2) e⟩, congrArg (fun z : AlW => z.2) e⟩
  keeps := fun _ _ _ ⟨K, hK, c⟩ k => ⟨K, PySem.W.Frag.In.keeps hK k, c⟩
def obsRTW (n : Nat) (tn : List (Str × List Str)) (xs : List Str) (fa : List He.Fa) (fn : List He.DefD) (ex : PySem.W.Frag → Bool) (g : Addr → Option Obj) : AlW :=
  let K := He.frG g (asN g n [mainGlobals] ++ [cStatics])
  (obsRT n xs fa fn ex g, tn.map fun t => dicN (cutT K (tsOf (csOf K xs))) t.1)
def hookRTW (n : Nat) (tn : List (Str × List Str)) (xs : List Str) (fa : List He.Fa) (fn : List He.DefD) (ex : PySem.W.Frag → Bool) : PySem.W.Hook where
  α := AlW
  obs := fun s => obsRTW n tn xs fa fn ex s.heap.get?
  val := fun w => valRW tn fn w
  says := fun w h => ∃ K : PySem.W.Frag, K.In h ∧ tabsB K xs = true ∧ SaysR fa fn ex (cutT K (tsOf (csOf K xs))) ∧ TabsW tn w (cutT K (tsOf (csOf K xs)))
  of := fun _ _ e => by
    have e2 := (Bool.and_eq_true _ _).mp (congrArg (fun z : AlW => z.1.2) e)
    exact ⟨_, He.frG_in, e2.2, ⟨congrArg (fun z : AlW => z.1.1) e, e2.1⟩, congrArg (fun z : AlW => z.2) e⟩
  keeps := fun _ _ _ ⟨K, hK, t, c⟩ k => ⟨K, PySem.W.Frag.In.keeps hK k, t, c⟩
end Rk

/-! Rk72: len(set(xs)), xs a list or a tuple of any texts. -/
namespace Rk
open PySem PySem.Spec L2 PyProof.Rows
/-- the unlike ones of some texts, as they are met -/
def unl (xs : List Str) : List Str := xs.foldl (fun met x => if x ∈ met then met else met ++ [x]) []
def metB (xs : List Str) : Str → Bool := fun y => decide (y ∈ xs)
section
variable {prog : Program} {w : World} {A : Around} {R : Result → Shared → Prop} {I : Addr} {fp wr : List Addr} {G : Array GenState → Array GenState → Prop} {n : Nat} {P : Nat → Value → Prop} {St : Nat → Shared → Prop}
end
section
variable {prog : Program} {w : World} {A : Around} {E : Value → Shared → Prop} {s : Shared}
abbrev emptySet (led : Bool) : Obj := { cls := .type "set", dict := none, data := .set #[] 0 (.fresh 0 0 led) }
abbrev seqSrc (T : String) (od : Option Addr) (items : Array Value) (nl : Nat) (osl : Array (Option Value)) : Obj := { cls := .type T, dict := od, data := .seq items nl, slots := osl }
abbrev iterOf (itc : String) (src : Addr) : Obj := { cls := .type itc, data := .fields #[.ref src, .int 0 0] }
end
end Rk

/-! Rk73: len(set(xs)) of texts. -/
namespace Rk
open PySem PySem.Spec L2 PyProof.Rows
def tUnl (K : PySem.W.Frag) (ta : TE) : TE := fun σ H Q => ta σ H fun x H1 => ∃ (l : Addr) (xs : List Str), x = .ref l ∧ (SqL K H1 l (xs.map V.str) ∨ SqT K H1 l (xs.map V.str)) ∧ xs.length ≤ 4000 ∧ Q (.int ((unl xs).length : Nat)) H1
section
variable {X : Cx} {W : WX} {a : Expr} {ta : TE} {fa : Ev} {p p2 q pos : Pos}
def eUnl (f : Ev) : Ev := fun ρ h => (f ρ h).bind fun v h1 => match (asQ v h1).bind strsOf with
  | some xs => if xs.length ≤ 4000 then .ok (.d (.int ((unl xs).length : Nat))) h1 else .no
  | none => .no
end
section
variable {Q : Vl → Hh → Prop} {E : XP} {ρ : En} {h : Hh} {f : Ev}
def UnlK (v : Vl) (h : Hh) (Q : Vl → Hh → Prop) : Prop := ∃ xs, (asQ v h).bind strsOf = some xs ∧ xs.length ≤ 4000 ∧ Q (.d (.int ((unl xs).length : Nat))) h
end
end Rk

/-! Rk74: dict(ps), ps a list of pairs. -/
namespace Rk
open PySem PySem.Spec L2 PyProof.Rows
variable {mg : Str → Option Value}
def pairsD : List Da → Option (List (Key × Da))
  | [] => some []
  | .tuple [k, v] :: r => (keyD k).bind fun q => (pairsD r).map ((q, v) :: ·)
  | _ => none
def gDP : GC := fun vs h => match vs with
  | [v] => match asL v h with
    | some ds => match pairsD ds with
      | some kds => some (.r h.length, h ++ [some (.dct (kds.foldl (fun acc kv => putD acc kv.1 kv.2) []))])
      | none => none
    | none => none
  | _ => none
def rDP (K : PySem.W.Frag) : List V → Hp → VK → Prop := fun xs H Q => ∃ (a : Addr) (ps : List Addr) (kvs : List (Key × V)), xs = [.ref a] ∧ SqL K H a (ps.map V.ref) ∧ Paired (fun p kv => SqT K H p [kV kv.1, kv.2]) ps kvs ∧
    ∀ p, H p = none → Q (.ref p) (upd H p (.dK (mergeK [] kvs)))
section
variable {K : PySem.W.Frag} {H : Hp} {M : Addr → Prop}
theorem pairsD_ok : ∀ {vs : List V} {ds : List Da} {kds : List (Key × Da)}, Reps K H M vs ds → pairsD ds = some kds → ∃ (ps : List Addr) (kvs : List (Key × V)), vs = ps.map V.ref ∧ Paired (fun p kv => SqT K H p [kV kv.1, kv.2]) ps kvs ∧ KvRep K H M kvs kds
  | _, _, _, .nil, e => by cases e; exact ⟨[], [], rfl, .nil, .nil⟩
  | v :: vs, d :: ds, kds, .cons r t, e => by
    unfold pairsD at e
    split at e
    · rename_i q; cases q
    · rename_i k w r' q
      cases q
      cases e1 : keyD k with
      | none => rw [e1] at e; cases e
      | some kk =>
        rw [e1] at e
        cases e2 : pairsD ds with
        | none => rw [e2] at e; cases e
        | some l =>
          rw [e2] at e
          cases e
          obtain ⟨ps, kvs, rfl, p1, p2⟩ := pairsD_ok t e2
          cases v with
          | ref a =>
            obtain ⟨xs, sq, rx⟩ := r.sqT
            cases rx with
            | cons r1 rx => cases rx with
              | cons r2 rx =>
                cases rx
                rw [keyD_ok r1 e1] at sq
                exact ⟨a :: ps, (kk, _) :: kvs, rfl, .cons sq p1, .cons r2 p2⟩
          | _ => cases r
    · cases e
theorem KvRep.stay2 {H' : Hp} {M' : Addr → Prop} (s : Stay H M H' M') {vs : List (Key × V)} {ds : List (Key × Da)} (r : KvRep K H M vs ds) : KvRep K H' M' vs ds := r.stay s
end
theorem ok_dp {K : PySem.W.Frag} : OkC K mg (rDP K) gDP := by
  intro φ h H xs vs Q z h2 sm rvs e k
  unfold gDP at e
  split at e
  · rename_i v
    obtain ⟨x, rfl, rx⟩ := rvs.one
    split at e
    · rename_i ds ed
      split at e
      · rename_i kds ek
        cases e
        obtain ⟨a, zs, rfl, sq, rz⟩ := asL_ok sm rx ed
        obtain ⟨ps, kvs, rfl, pr, kr⟩ := pairsD_ok rz ek
        refine ⟨a, ps, kvs, rfl, sq, pr, fun p hp => ?_⟩
        obtain ⟨s1, s2, s3⟩ := sm.new (ob := .dct (kds.foldl (fun acc kv => putD acc kv.1 kv.2) [])) (o := .dK (mergeK [] kvs)) hp fun M st => ⟨_, upd_same, merge_rep (kr.stay2 st) .nil⟩
        exact k _ _ _ s1 s2 s3
      · cases e
    · cases e
  · cases e
section
variable {h : Hh} {Q : Vl → Hh → Prop} {ds : List Da} {kds : List (Key × Da)}
theorem wo_dp (e : pairsD ds = some kds) (q : Q (.r h.length) (h ++ [some (.dct (kds.foldl (fun acc kv => putD acc kv.1 kv.2) []))])) : Wo (gDP [.d (.list ds)] h) Q := by
  refine wo_eq ?_ q
  unfold gDP asL
  dsimp only
  rw [e]
end
end Rk

/-! Rk75: x in d (a dict), c in t (a sign of a text). -/
namespace Rk
open PySem PySem.Spec L2 PyProof.Rows
variable {mg : Str → Option Value}
def rInDk (neg : Bool) : R2 := fun x y H Q => ∃ (a : Addr) (kvs : List (Key × V)) (k : Key), x = kV k ∧ y = .ref a ∧ H a = some (.dK kvs) ∧ Q (.bl (if neg = true then !(valV kvs k).isSome else (valV kvs k).isSome)) H
/-- the entries of a dict that may be changed, or is data -/
def asDd (v : Vl) (h : Hh) : Option (List (Key × Da)) := match v with
  | .d (.dict kds) => if kds = [] then none else unD kds
  | v => (asDk v h).map (·.2)
def gInD (neg : Bool) : G2 := fun x y h => match keyOf x, asDd y h with
  | some k, some kds => some (.d (.bool (if neg = true then !(valD kds k).isSome else (valD kds k).isSome)), h)
  | _, _ => none
/-- a sign in a text -/
def rInS (neg : Bool) : R2 := fun x y H Q => ∃ (c : Nat) (z : Str), x = .str ⟨#[c]⟩ ∧ y = .str z ∧ Q (.bl (if neg = true then !decide (c ∈ z.cps.toList) else decide (c ∈ z.cps.toList))) H
def gInS (neg : Bool) : G2 := fun x y h => match x, y with
  | .d (.str s), .d (.str z) => (match s.cps.toList with
    | [c] => some (.d (.bool (if neg = true then !decide (c ∈ z.cps.toList) else decide (c ∈ z.cps.toList))), h)
    | _ => none)
  | _, _ => none
section
variable {h : Hh} {Q : Vl → Hh → Prop} {n : Nat} {kds : List (Key × Da)} {x : Str} {b : Bool}
end
end Rk

/-! Rk76: a text walked sign by sign. -/
namespace Rk
open PySem PySem.Spec L2
/-- the signs of a text, each as a text -/
def sgn (x : Str) : List Da := x.cps.toList.map fun c => .str ⟨#[c]⟩
def itS (v : Vl) (h : Hh) : Out Itm := match v with
  | .d (.str x) => .ok ⟨sgn x, none⟩ h
  | _ => .no
section
variable {X : Cx} {W : WX} {tg e : Expr} {fe : Ev}
end
section
variable {E : XP} {h : Hh} {QI : Itm → Hh → Prop} {x : Str}
end
end Rk

/-! Rk77: s.join(xs); sorted(ns). -/
namespace Rk
open PySem PySem.Spec L2
variable {mg : Str → Option Value}
/-- a text's method of one argument -/
def eM1 (g : Str → Vl → Hh → Option (Vl × Hh)) (fo fe : Ev) : Ev := fun ρ h => (fo ρ h).bind fun v h1 => match v with
  | .d (.str a) => (fe ρ h1).bind fun y h2 => ofO (g a y h2)
  | _ => .no
def gJoin (a : Str) (y : Vl) (h : Hh) : Option (Vl × Hh) := match (asQ y h).bind strsOf with
  | some ys => if (ys.map (·.length)).sum + ys.length * a.length ≤ 16777216 then some (.d (.str (Txt.join a ys)), h) else none
  | none => none
section
variable {X : Cx} {W : WX} {o e : Expr} {fo fe : Ev} {apos pos : Pos}
end
/-- whole numbers, rising -/
def isrt (ns : List Int) : List Int := ns.mergeSort fun a b => decide (a ≤ b)
def gSortI : GC := fun vs h => match vs with
  | [v] => match (asL v h).bind intsOf with
    | some ns => some (.r h.length, h ++ [some (.lst ((isrt ns).map PyData.int))])
    | none => none
  | _ => none
section
variable {Q : Vl → Hh → Prop} {E : XP} {ρ : En} {h : Hh} {fo fe : Ev} {g : Str → Vl → Hh → Option (Vl × Hh)} {a : Str} {ys : List Str} {ns : List Int}
end
end Rk

/-! Rk78: reversed(range(n)); list(range(n)). -/
namespace Rk
open PySem PySem.Spec L2
def iRevR (fe : Ev) : Iv := fun ρ h => (fe ρ h).bind fun v h1 => match v with
  | .d (.int j) => if rgB j then .ok ⟨(rngD 0 j.toNat).reverse, none⟩ h1 else .no
  | _ => .no
def eLstR (fe : Ev) : Ev := fun ρ h => (fe ρ h).bind fun v h1 => match v with
  | .d (.int j) => if 0 ≤ j ∧ j ≤ 16777216 then .ok (.r h1.length) (h1 ++ [some (.lst (rngD 0 j.toNat))]) else .no
  | _ => .no
section
variable {X : Cx} {W : WX} {tg a : Expr} {fa : Ev} {p p2 pos q : Pos}
end
section
variable {Q : Vl → Hh → Prop} {E : XP} {ρ : En} {h : Hh} {fa : Ev} {QI : Itm → Hh → Prop}
end
end Rk

/-! Rk79: a world by what its text says of one thing. -/
namespace Rk
open PySem
def ftN : String := "special-get-raises"
def setFT (w : World) (b : Bool) : World := { w with params := { w.params with followText := fun s => bif decide (s = ftN) then b else w.params.followText s } }
end Rk

/-! Rk80: wishes for the newer forms. -/
namespace Rk
open PySem PySem.Spec L2
section
variable {Q : Vl → Hh → Prop} {E : XP} {h : Hh} {kds : List (Str × Da)} {z : Str} {y : Vl} {x a b : Str}
end
end Rk

/-! Rk81: comprehensions whose parts look at the store. -/
namespace Rk
open PySem PySem.Spec L2
section
variable {Q : Vl → Hh → Prop} {E : XP} {ρ ρ0 : En} {h hb : Hh} {i : Iv} {g : Gv} {fe : Ev} {ws : List Nat} {D : Nat}
theorem lck_map {α : Type} (f g' : α → Da) (el : hb.length = D) : ∀ (xs : List α) (acc : List Da), (∀ x ∈ xs, ∀ o, GvK (g (.d (f x)) ρ0 (hb ++ [o])) fun ρ1 h1 => h1 = hb ++ [o] ∧ Wp (fe ρ1 (hb ++ [o])) (fun v h2 => h2 = hb ++ [o] ∧ v = .d (g' x)) NX) → acc.length + xs.length ≤ 16777216 → Q (.d (.list (acc ++ xs.map g'))) hb → LcK D g fe ρ0 (xs.map f) acc hb Q
  | [], acc, _, _, q => lck_nil el (by simpa using q)
  | x :: xs, acc, H, hl, q => by
    rw [List.map_cons]
    rw [List.length_cons] at hl
    refine lck_cons ?_
    have k := H x (List.mem_cons_self ..) (some (.lst acc))
    unfold GvK Wo at k ⊢
    revert k
    cases g (.d (f x)) ρ0 (hb ++ [some (.lst acc)]) with
    | none => exact fun z => z
    | some p =>
      obtain ⟨ρ1, h1⟩ := p
      rintro ⟨rfl, w⟩
      refine w.mono ?_ fun _ _ _ z => z
      rintro v h2 ⟨rfl, rfl⟩
      refine ⟨g' x, hb, rfl, rfl, el, by omega, lck_map f g' el xs _ (fun y hy => H y (List.mem_cons_of_mem _ hy)) (by simp only [List.length_append, List.length_singleton]; omega) ?_⟩
      rw [List.append_assoc]
      exact q
/-- every part told by a function, of the store as it stands -/
theorem wp_lcH {α : Type} (xs : List α) (f g' : α → Da) {ρ0 : En} (e00 : wipeE ρ ws = ρ0) (w : Wp (i ρ h) (fun m h1 => m = ⟨xs.map f, none⟩ ∧ xs.length ≤ 16777216 ∧ h1.length = h.length ∧
      (∀ x ∈ xs, ∀ o, GvK (g (.d (f x)) ρ0 (h1 ++ [o])) fun ρ1 h2 => h2 = h1 ++ [o] ∧ Wp (fe ρ1 (h1 ++ [o])) (fun v h3 => h3 = h1 ++ [o] ∧ v = .d (g' x)) NX) ∧
      Q (.d (.list (xs.map g'))) h1) (fun c fs h1 => E c fs (h1.take h.length))) : Wp (eFz (eLc ws i g tvYes fe) ρ h) Q E := by
  refine wp_lcU e00 (w.mono ?_ fun _ _ _ z => z)
  rintro m h1 ⟨rfl, hl, hh, H, q⟩
  exact ⟨rfl, hh, lck_map f g' hh xs [] H (by simpa using hl) q⟩
end
section
variable {h : Hh} {Q : Vl → Hh → Prop} {n : Nat} {kds : List (Key × Da)} {x : Str} {b : Bool}
end
end Rk

/-! Rk82: texts put together, cut, indexed; loops that draw. -/
namespace Rk
open PySem PySem.Spec L2
section
variable {h : Hh} {Q : Vl → Hh → Prop} {a b z : Str} {i : Int} {c : Nat} {lo hi : Option Int}
theorem wo_addS (l : a.length + b.length ≤ 16777216) (q : Q (.d (.str (a ++ b))) h) : Wo (gAdd (.d (.str a)) (.d (.str b)) h) Q := by
  refine wo_eq ?_ q
  unfold gAdd
  dsimp only
  rw [if_pos (fitB_ok l)]
theorem wo_ixS (l : z.length ≤ 16777216) (e : z.cps.toList[i.toNat]? = some c) (h0 : 0 ≤ i) (q : Q (.d (.str ⟨#[c]⟩)) h) : Wo (gIx (.d (.str z)) (.d (.int i)) h) Q := by
  refine wo_eq ?_ q
  unfold gIx
  dsimp only
  have := atI_get0 e
  rw [show ((i.toNat : Nat) : Int) = i by omega] at this
  rw [if_pos (fitB_ok l), this]
  rfl
theorem wo_slS (l : z.length ≤ 16777216) (q : Q (.d (.str (cutS z lo hi))) h) : Wo (gSl (.d (.str z)) lo hi h) Q := by
  refine wo_eq ?_ q
  unfold gSl
  dsimp only
  rw [if_pos (fitB_ok l)]
theorem inF_strs (x : Str) (xs : List Str) : inF (.str x) (xs.map PyData.str) = decide (x ∈ xs) := by
  unfold inF
  rw [List.any_map]
  induction xs with
  | nil => rfl
  | cons y ys ih =>
    rw [List.any_cons, ih]
    show ((y == x) || _) = _
    by_cases e : y = x
    · subst e
      simp
    · have e' : ¬ x = y := fun z => e z.symm
      simp [e, e']
end
section
variable {h : Hh} {Q : Vl → Hh → Prop} {E : XP} {ρ : En} {p r : Pv} {k v : Ev} {QL : List (Key × Da) → Hh → Prop}
theorem wp_dct (w : Wp (p ρ h) (fun l h1 => l.length ≤ 15 ∧ Q (.r h1.length) (h1 ++ [some (.dct (l.foldl (fun acc kv => putD acc kv.1 kv.2) []))])) E) : Wp (eDct p ρ h) Q E :=
  wp_bind (w.mono (fun l h1 ⟨e, q⟩ => by rw [if_pos e]; exact ⟨q⟩) fun _ _ _ z => z)
theorem wp_pn (q : QL [] h) : Wp (pNil ρ h) QL E := ⟨q⟩
theorem wp_pc (w : Wp (k ρ h) (fun x h1 => Wp (v ρ h1) (fun y h2 => Wp (r ρ h2) (fun l h3 => ∃ s d, x = .d (.str s) ∧ y = .d d ∧ QL ((.inr s, d) :: l) h3) E) E) E) : Wp (pCons k v r ρ h) QL E :=
  wp_bind (w.mono (fun _ _ w => wp_bind (w.mono (fun _ _ w => wp_bind (w.mono (fun _ _ ⟨s, d, e1, e2, q⟩ => by subst e1 e2; exact ⟨q⟩) fun _ _ _ z => z)) fun _ _ _ z => z)) fun _ _ _ z => z)
theorem ex_pc {s : Str} {d : Da} {P : Str → Da → Prop} (q : P s d) : ∃ s' d', Vl.d (.str s) = .d (.str s') ∧ Vl.d d = .d d' ∧ P s' d' := ⟨s, d, rfl, rfl, q⟩
end
section
variable {Q : Vl → Hh → Prop} {ρ0 : En} {hb : Hh} {g : Gv} {fe : Ev} {D : Nat}
/-- a comprehension that draws, by what stands ahead of each part -/
theorem lck_inv {ds : List Da} (I : Nat → List Da → Hh → Prop) (h0 : I 0 [] hb) (dl : ∀ k acc h, I k acc h → h.length = D) (hl : ds.length ≤ 16777216)
    (st : ∀ k d acc hb, ds[k]? = some d → I k acc hb → acc.length = k → GvK (g (.d d) ρ0 (hb ++ [some (.lst acc)])) fun ρ1 h1 => Wp (fe ρ1 h1) (fun v h2 => ∃ x hb', v = .d x ∧ h2 = hb' ++ [some (.lst acc)] ∧ I (k + 1) (acc ++ [x]) hb') NX)
    (fin : ∀ acc hb, I ds.length acc hb → acc.length = ds.length → Q (.d (.list acc)) hb) : LcK D g fe ρ0 ds [] hb Q := by
  have go : ∀ (n k : Nat) (acc : List Da) (hb : Hh), n = ds.length - k → k ≤ ds.length → I k acc hb → acc.length = k → LcK D g fe ρ0 (ds.drop k) acc hb Q := by
    intro n
    induction n with
    | zero =>
      intro k acc hb hn hk i ha
      have : k = ds.length := by omega
      subst this
      rw [List.drop_length]
      exact lck_nil (dl _ _ _ i) (fin _ _ i ha)
    | succ n ih =>
      intro k acc hb hn hk i ha
      have hk' : k < ds.length := by omega
      rw [List.drop_eq_getElem_cons hk']
      refine lck_cons ?_
      have w := st k ds[k] acc hb (List.getElem?_eq_getElem hk') i ha
      unfold GvK Wo at w ⊢
      revert w
      cases g (.d ds[k]) ρ0 (hb ++ [some (.lst acc)]) with
      | none => exact fun z => z
      | some p =>
        obtain ⟨ρ1, h1⟩ := p
        intro w
        refine Wp.mono w ?_ fun _ _ _ z => z
        rintro v h2 ⟨x, hb', rfl, rfl, i'⟩
        exact ⟨x, hb', rfl, rfl, dl _ _ _ i', by omega, ih (k + 1) _ hb' (by omega) (by omega) i' (by simp [ha])⟩
  have := go _ 0 [] hb rfl (Nat.zero_le _) h0 rfl
  rwa [List.drop_zero] at this
end
section
variable {h : Hh} {n : Nat} {kds kds' : List (Key × Da)} {x : Str} {v d : Da} {Q : Vl → Hh → Prop} {N : Hh → Prop}
theorem ex_setDS (hn : n < h.length) (e : putD kds (.inr x) v = kds') (hl : kds.length < 16777216) (q : N (h.set n (some (.dct kds')))) : ∃ h3, setD (.r n) (.d (.str x)) (.d v) (h.set n (some (.dct kds))) = some h3 ∧ N h3 := by
  subst e
  refine ⟨_, set_of (kds' := putD kds (.inr x) v) (get_set hn) rfl hl, ?_⟩
  rw [List.set_set]
  exact q
theorem wo_dgS (hn : n < h.length) (e : valD kds (.inr x) = some d) (q : Q (.d d) (h.set n (some (.dct kds)))) : Wo (gDG (.r n) (.d (.str x)) (h.set n (some (.dct kds)))) Q :=
  wo_eq (dg_of (get_set hn) e) q
/-- a state that draws: three fields -/
def st3 (L M a : Int) : List (Key × Da) := [(.inr "cell", .int L), (.inr "seed", .int M), (.inr "at", .int a)]
theorem mapIdx_map' {α β γ : Type} (f : α → β) (F : Nat → β → γ) (xs : List α) : (xs.map f).mapIdx F = xs.mapIdx fun i x => F i (f x) := by
  apply List.ext_getElem?
  intro i
  simp only [List.getElem?_map, List.getElem?_mapIdx]
  cases xs[i]? <;> rfl
end
section
variable {h : Hh} {Q : Vl → Hh → Prop}
theorem rng_getI {n k : Nat} {d : Da} (e : (rngD 0 ((n : Int)).toNat)[k]? = some d) : k < n ∧ d = .int (k : Int) := by
  rw [Int.toNat_natCast] at e
  obtain ⟨e1, e2⟩ := rng_get e
  exact ⟨e2, by rw [e1, Int.zero_add]⟩
theorem wo_ixLF {k : Nat} {ds : List Da} {v : Da} (ek : ds[k]? = some v) (q : Q (.d v) h) : Wo (gIx (.d (.list ds)) (.d (.int (k : Int))) h) Q := wo_eq (gIxF ek) q
/-- a list of a function's values at the numbers below n -/
def tabD (n : Nat) (f : Nat → Da) : List Da := (List.range n).map f
end
end Rk

/-! Rk83: repr of data with whole numbers of many figures. -/
namespace Rk
open PySem PySem.Spec L2 PyProof.Rows
section
variable {prog : Program} {w : World} {A : Around} {E : Value → Shared → Prop} {s : Shared}
theorem call_int_reprL {a : Int} {t : Tok} {Q : Value → Shared → Prop} (hn : s.heap.NoDigits) (ha : a.natAbs < 10 ^ 4300) (h : Q (.str (toString a) s.toks) { s with toks := s.toks + 1 }) : wpAny (model prog w) A (call (.builtin "int.__repr__") [.int a t]) Q E s := by
  refine wpAny_call (codeAny_call_builtin F.slot_int_repr.plain F.entry_int_repr (F.slot_int_repr.check _ _ _ _ _ _ _ _ (typeIs_int _ a t) (F.args_int_repr_1 _) ?_))
  unfold Builtin.«int.__repr__»
  show wpAny _ _ (do let r ← Builtin.overDigitLimit? a; _) _ _ s
  refine wpAny_bind (overDigitLimit_any hn (fun hlt => ?_) (fun hge => absurd ha (Nat.not_lt.mpr hge)))
  exact wpAny_bind (wpAny_mkStr (wpAny_pure h) (int_text_fits10 hlt))
theorem pyReprObj_intL {a : Int} {t : Tok} {Q : Value → Shared → Prop} (hu : A.units < cLine) (hn : s.heap.NoDigits) (ha : a.natAbs < 10 ^ 4300) (h : Q (.str (toString a) s.toks) { s with toks := s.toks + 1 }) : wpAny (model prog w) A (pyReprObj (.int a t)) Q E s :=
  wpAny_pyReprObj_slot hu (typeIs_int s a t) F.slot_int_repr.toG (call_int_reprL hn ha ⟨_, _, rfl, h⟩)
theorem ReprK.intL {h₀ : Heap} {a : Int} (t : Tok) (hn : h₀.NoDigits) (ha : a.natAbs < 10 ^ 4300) (as : List Addr) (d : Nat) : ReprK prog w as h₀ d (.int a t) (toString a) := fun n hb A g E s Q hg hcl hu hk hQ => by
  have hn' : n ≤ sizeLine := by omega
  rw [pyReprUnder_leaf (v := .int a t) hn' (fun _ e => nomatch e)]
  unfold pyRepr
  exact wpAny_bind (pyReprObj_intL (by omega) (hn.keeps hk) ha (wpAny_pure (hQ s.heap _ fun _ _ e => e)))
end
mutual
/-- data without dicts whose whole numbers have less than 12900 bits -/
def shB : Da → Bool
  | .int i => decide (i.natAbs.log2 < 12900)
  | .list ds => shBs ds
  | .tuple ds => shBs ds
  | .dict _ => false
  | .none => true
  | .bool _ => true
  | .str _ => true
def shBs : List Da → Bool
  | [] => true
  | d :: ds => shB d && shBs ds
end
theorem lt_big {n : Nat} (h : n.log2 < 12900) : n < 10 ^ 4300 := Nat.lt_of_lt_of_le (lt_of_log2 h) pow_lo
section
variable {prog : Program} {w : World} {h₀ : Heap}
mutual
theorem big1 (nd : h₀.NoDigits) : ∀ {v : Value} {d : Da} {as : List Addr}, Reads h₀ v d as → shB d = true → d.shown.length ≤ sizeLine → ∃ cs, ReadAtMost h₀ d.depth cs ∧ ReprK prog w cs h₀ d.depth v d.shown
  | _, _, _, .none, _, _ => ⟨[], nofun, by simp only [PyData.shown]; exact .of_is ReprIs.none [] h₀ _⟩
  | _, _, _, .bool c, _, _ => ⟨[], nofun, by simp only [PyData.shown]; exact .of_is (ReprIs.bool c) [] h₀ _⟩
  | _, _, _, .int i t, e, _ => ⟨[], nofun, by simp only [PyData.shown]; exact ReprK.intL t nd (lt_big (of_decide_eq_true (by simpa only [shB] using e))) [] _⟩
  | _, _, _, .str x t, _, z => ⟨[], nofun, by simp only [PyData.shown] at z ⊢; exact .of_is (ReprIs.str x t z) [] h₀ _⟩
  | _, _, _, .list (a := p) (vs := us) (xs := ds) k1 k2 k3 k4, e, z => by
    simp only [PyData.shown] at z
    obtain ⟨cs, m, k⟩ := bigs nd k4 (by simpa only [shB] using e) fun t ht => Nat.le_trans (listText_mem_le ht) z
    have rd : Reads h₀ (.ref p) (.list ds) _ := .list k1 k2 k3 k4
    have np : p ∉ cs := not_mem_of_deeper rd (by simp only [PyData.depth]; omega) m
    refine ⟨p :: cs, ReadAtMost.cons rd (by simp only [PyData.depth]; omega) m, ?_⟩
    simp only [PyData.shown, PyData.depth]
    rcases us with ⟨l⟩
    cases l with
    | nil =>
      have e0 : ReadsAll h₀ [] ds _ := k4
      cases e0
      simp only [PyData.shownAll, listText_nil]
      exact ReprK.listEmpty k1 k2 k3
    | cons y l => exact ReprK.list k1 k2 k3 np (by simpa using k.length_eq) fun i y ey => k.item i y (by simpa using ey)
  | _, _, _, .tuple (a := p) (xs := ds) k1 k2 k3 k4, e, z => by
    simp only [PyData.shown] at z
    obtain ⟨cs, m, k⟩ := bigs nd k4 (by simpa only [shB] using e) fun t ht => Nat.le_trans (tupleText_mem_le ht) z
    have rd : Reads h₀ (.ref p) (.tuple ds) _ := .tuple k1 k2 k3 k4
    have np : p ∉ cs := not_mem_of_deeper rd (by simp only [PyData.depth]; omega) m
    refine ⟨p :: cs, ReadAtMost.cons rd (by simp only [PyData.depth]; omega) m, ?_⟩
    simp only [PyData.shown, PyData.depth]
    exact ReprK.tuple k1 k2 k3 np k
  | _, _, _, .dict _ _ _ _ _, e, _ => by simp only [shB] at e; cases e
theorem bigs (nd : h₀.NoDigits) : ∀ {us : List Value} {ds : List Da} {as : List Addr}, ReadsAll h₀ us ds as → shBs ds = true → (∀ t ∈ PyData.shownAll ds, t.length ≤ sizeLine) →
    ∃ cs, ReadAtMost h₀ (PyData.depthAll ds) cs ∧ ReprAllK prog w cs h₀ (PyData.depthAll ds) us (PyData.shownAll ds)
  | _, _, _, .nil, _, _ => ⟨[], nofun, by simp only [PyData.shownAll]; exact .nil⟩
  | _, _, _, .cons (d := d) (ds := ds) r rs, e, z => by
    simp only [shBs, Bool.and_eq_true] at e
    simp only [PyData.shownAll, List.mem_cons] at z
    obtain ⟨c1, m1, k1⟩ := big1 nd r e.1 (z _ (.inl rfl))
    obtain ⟨c2, m2, k2⟩ := bigs nd rs e.2 fun t ht => z t (.inr ht)
    simp only [PyData.depthAll, PyData.shownAll]
    refine ⟨c1 ++ c2, (m1.mono (Nat.le_max_left ..)).append (m2.mono (Nat.le_max_right ..)), ?_⟩
    refine .cons ((k1.more ?_).level_le (Nat.le_max_left ..)) (k2.more_le ?_ (Nat.le_max_right ..))
    · exact fun b hb => List.mem_append.mpr (.inl hb)
    · exact fun b hb => List.mem_append.mpr (.inr hb)
end
variable {a : Addr} {d : Da} {as : List Addr} {A : Around} {E : Value → Shared → Prop} {s : Shared} {Q : Value → Shared → Prop}
end
/-- the top says nothing of the limit on figures -/
def DigN (K : PySem.W.Frag) : Prop := PySem.W.nsOkIn K cStatics = true ∧ PySem.W.nsIn K cStatics "sys.int_max_str_digits" = some none
def digB (K : PySem.W.Frag) : Bool := PySem.W.nsOkIn K cStatics && (match PySem.W.nsIn K cStatics "sys.int_max_str_digits" with
  | some none => true
  | _ => false)
theorem DigN.heap {K : PySem.W.Frag} {h : Heap} (X : K.In h) (D : DigN K) : h.NoDigits := ⟨_, .of_isNs (PySem.W.isNs_of_in X D.1), PySem.W.nsMap_none_of_in X D.1 D.2⟩
variable {mg : Str → Option Value}
def rReprL (K : PySem.W.Frag) (xs : List V) (H : Hp) (Q : VK) : Prop := ∃ x d, xs = [x] ∧ Dp K H x d ∧ shB d = true ∧ d.depth ≤ 60 ∧ d.shown.length ≤ sizeLine ∧ Q (.str d.shown) H
mutual
theorem shB_nd : ∀ d : Da, shB d = true → d.hasDict = false
  | .none, _ => by simp only [PyData.hasDict]
  | .bool _, _ => by simp only [PyData.hasDict]
  | .int _, _ => by simp only [PyData.hasDict]
  | .str _, _ => by simp only [PyData.hasDict]
  | .list ds, e => by
    simp only [PyData.hasDict]
    exact shBs_nd ds (by simpa only [shB] using e)
  | .tuple ds, e => by
    simp only [PyData.hasDict]
    exact shBs_nd ds (by simpa only [shB] using e)
  | .dict _, e => by simp only [shB] at e; cases e
theorem shBs_nd : ∀ ds : List Da, shBs ds = true → PyData.hasDictAll ds = false
  | [], _ => by simp only [PyData.hasDictAll]
  | d :: ds, e => by
    simp only [shBs, Bool.and_eq_true] at e
    simp only [PyData.hasDictAll, Bool.or_eq_false_iff]
    exact ⟨shB_nd d e.1, shBs_nd ds e.2⟩
end
def gReprL : GC := fun as h => match as with
  | [x] => match asD x h with
    | some d => if shB d && decide (d.depth ≤ 60) && fitB d.shown.length then some (.d (.str d.shown), h) else none
    | none => none
  | _ => none
/-- what can be told as a text, with sizes -/
structure ShW (k e : Nat) (d : Da) : Prop where
  s : shB d = true
  p : d.depth ≤ e
  l : d.shown.length ≤ k
structure ShWs (k e : Nat) (ds : List Da) : Prop where
  s : shBs ds = true
  d : PyData.depthAll ds ≤ e
  l : piled (PyData.shownAll ds) ≤ k
theorem ShW.mono {k e k' e' : Nat} {d : Da} (h : ShW k e d) (a : k ≤ k') (b : e ≤ e') : ShW k' e' d := ⟨h.s, Nat.le_trans h.p b, Nat.le_trans h.l a⟩
theorem ShW.str {x : Str} (hx : ∀ c ∈ x.cps.toList, c < 16 ^ 8) : ShW (10 * x.length + 2) 0 (.str x) := ⟨by simp only [shB], by simp [PyData.depth], by simp only [PyData.shown]; exact PySem.StrLaws.reprText_len x hx⟩
theorem ShW.int {i : Int} (h : i.natAbs.log2 < 12900) : ShW 4400 0 (.int i) := by
  refine ⟨by simp only [shB]; exact decide_eq_true h, by simp [PyData.depth], ?_⟩
  simp only [PyData.shown]
  have e := int_text_length_le10 (k := 4300) (by decide) (lt_big h)
  clear h
  rw [PySem.ofString_length]
  omega
theorem ShWs.nil : ShWs 0 0 [] := ⟨by simp only [shBs], by simp [PyData.depthAll], by simp [PyData.shownAll, piled]⟩
theorem ShWs.cons {k e k' e' : Nat} {d : Da} {ds : List Da} (h : ShW k e d) (t : ShWs k' e' ds) : ShWs (k + 2 + k') (max e e') (d :: ds) := by
  refine ⟨by simp only [shBs, h.s, t.s, Bool.and_self], ?_, ?_⟩
  · have := h.p
    have := t.d
    simp only [PyData.depthAll]
    omega
  · have := h.l
    have := t.l
    simp only [PyData.shownAll]
    rw [piled_cons]
    omega
theorem ShWs.of {k e n : Nat} {ds : List Da} (h : ∀ d ∈ ds, ShW k e d) (hl : ds.length ≤ n) : ShWs (n * (k + 2)) e ds := by
  induction ds generalizing n with
  | nil => exact ⟨ShWs.nil.s, Nat.le_trans ShWs.nil.d (Nat.zero_le _), Nat.le_trans ShWs.nil.l (Nat.zero_le _)⟩
  | cons d ds ih =>
    cases n with
    | zero => simp at hl
    | succ n =>
      have a := ih (n := n) (fun x hx => h x (List.mem_cons_of_mem _ hx)) (by simpa using hl)
      have b := ShWs.cons (h d (List.mem_cons_self ..)) a
      rw [Nat.max_self] at b
      refine ⟨b.s, b.d, Nat.le_trans b.l ?_⟩
      rw [Nat.succ_mul]
      omega
theorem ShW.tup {k e : Nat} {ds : List Da} (t : ShWs k e ds) : ShW (k + 3) (e + 1) (.tuple ds) := by
  refine ⟨by simp only [shB]; exact t.s, by simp only [PyData.depth]; have := t.d; omega, ?_⟩
  simp only [PyData.shown]
  have hl := t.l
  unfold tupleText
  have j : (Str.join ", " (PyData.shownAll ds)).length ≤ piled (PyData.shownAll ds) := by
    by_cases z : PyData.shownAll ds = []
    · rw [z]; decide
    · have := join_length_add _ z
      omega
  rw [Str.length_append, Str.length_append]
  have a : (Str.ofString "(").length = 1 := by decide
  have b : (Str.ofString (if (PyData.shownAll ds).length == 1 then ",)" else ")")).length ≤ 2 := by split <;> decide
  have a' : ("(" : Str).length = 1 := a
  omega
theorem ShW.lst {k e : Nat} {ds : List Da} (t : ShWs k e ds) : ShW (k + 3) (e + 1) (.list ds) := by
  refine ⟨by simp only [shB]; exact t.s, by simp only [PyData.depth]; have := t.d; omega, ?_⟩
  simp only [PyData.shown]
  have hl := t.l
  unfold listText
  have j : (textFrom 0 "[" (PyData.shownAll ds)).length ≤ 1 + piled (PyData.shownAll ds) := by
    cases e : PyData.shownAll ds with
    | nil => decide
    | cons x xs =>
      have h1 := textFrom_length_pos xs 1 (("[" : Str) ++ ("" : Str) ++ x) (by decide)
      have h2 : textFrom 0 "[" (x :: xs) = textFrom 1 (("[" : Str) ++ ("" : Str) ++ x) xs := rfl
      rw [h2, h1, piled_cons, Str.length_append, Str.length_append]
      have a1 : ("[" : Str).length = 1 := by decide
      have a2 : ("" : Str).length = 0 := by decide
      omega
  rw [Str.length_append]
  have b : ("]" : Str).length = 1 := by decide
  omega
theorem log2_of {n k : Nat} (h : n < 2 ^ k) (hk : 0 < k) : n.log2 < k := by
  rcases Nat.eq_zero_or_pos n with z | z
  · rw [z]
    exact hk
  · exact (Nat.log2_lt (Nat.ne_of_gt z)).mpr h
theorem p600 : 10 ^ 600 < 2 ^ 2000 := by decide +kernel
theorem ShW.Q {r : Rat} (h1 : r.num.natAbs ≤ 10 ^ 600) (h2 : r.den ≤ 10 ^ 600) : ShW 9000 1 (Rk.Q r) := by
  have l : ∀ n : Nat, n ≤ 10 ^ 600 → n.log2 < 12900 := fun n h => log2_of (Nat.lt_of_le_of_lt h (Nat.lt_trans p600 (Nat.pow_lt_pow_right (by decide) (by decide)))) (by decide)
  have t := ShW.tup (ShWs.cons (ShW.int (i := r.num) (l _ h1)) (ShWs.cons (ShW.int (i := (r.den : Int)) (l _ (by rw [Int.natAbs_natCast]; exact h2))) ShWs.nil))
  exact t.mono (by decide) (by decide)
section
variable {Q : Vl → Hh → Prop} {h : Hh} {n : Nat} {ds : List Da}
end
end Rk

/-! Rk84: y(lambda: body, b, ..): a deed handed on with more things. -/
namespace Rk
open PySem PySem.Spec L2
noncomputable def eLam2 (n np : Nat) (x : Str) (m : Deed → Fn) (fb : Ev) (as : Av) : Ev := fun ρ h => if hasTab n x h = true then
    (as ρ h).bind fun vs h1 => if vs.length = np then lamO fun f c σ => m ⟨⟨f, c, x ++ ".<locals>." ++ "<lambda>", σ, capE ρ⟩, fun h' => fb (upE (capE ρ)) h'⟩ (.f ⟨f, c, x ++ ".<locals>." ++ "<lambda>", σ, capE ρ⟩ :: vs) h1 else .no
  else .no
section
variable {X : Cx} {W : WX} {x y : Str} {c pt : Addr} {k j : Nat} {m : Deed → Fn} {params : Arguments} {body b : Expr} {bs : List Expr} {as : Av} {scope : Scope} {fb : Ev} {p lpos pos : Pos} {ps : List Str} {a : Str}
end
section
variable {Q : Vl → Hh → Prop} {E : XP} {ρ ρ' : En} {h h0 h1 : Hh} {n np i : Nat} {x : Str} {m : Deed → Fn} {fb : Ev} {as : Av} {v0 : Vl} {vs : List Vl} {d : Deed}
end
end Rk

/-! Rk85: for a, b in zip(tuple, list). -/
namespace Rk
open PySem PySem.Spec PyProof.Rows L2
def ItzM (K : PySem.W.Frag) (a b : Addr) : It :=
  ⟨fun i H => ∃ (us ws : List V) (u w : V), SqT K H a us ∧ SqL K H b ws ∧ us[i]? = some u ∧ ws[i]? = some w,
   fun i H v H' => ∃ N u w, v = .ref N ∧ H N = none ∧ H' = upd H N (.tup [u, w]) ∧ (∀ us, SqT K H a us → us[i]? = some u) ∧ ∀ ws, SqL K H b ws → ws[i]? = some w,
   fun i H => ∃ us ws : List V, SqT K H a us ∧ SqL K H b ws ∧ (us.length ≤ i ∨ ws.length ≤ i)⟩
section
variable {prog : Program} {w : World} {A : Around}
end
def zmS (z q o i j a b : Addr) (n : Nat) (h : Heap) : Prop := IsZip h z q o .none ∧ IsTupOf2 h q (.ref i) (.ref j) ∧ (∃ u w, IsTupOf2 h o u w) ∧ h.IsTupleIter i a n ∧ h.IsListIter j b n
def tiZM (K : PySem.W.Frag) (ta : TA) : TI := fun σ H R => ta σ H fun vs H1 => ∃ a b us ws, vs = [.ref a, .ref b] ∧ SqT K H1 a us ∧ SqL K H1 b ws ∧ R (ItzM K a b) H1
def iZM (as : Av) : Iv := fun ρ h => (as ρ h).bind fun vs h1 => match vs with
  | [.d (.tuple xs), .d (.list ys)] => .ok ⟨zipD xs ys, none⟩ h1
  | _ => .no
section
variable {X : Cx} {W : WX} {pos p : Pos} {fs : Av}
end
end Rk

/-! Rk86: tuple(zip(list, list)) of two lists of one length. -/
namespace Rk
open PySem PySem.Spec PyProof.Rows L2
/-- the pairs of two rows, made one behind the other -/
inductive Prs (us ws : List V) (H : Hp) : List V → Hp → Prop
  | nil : Prs us ws H [] H
  | snoc {ts : List V} {H' : Hp} {T : Addr} {u w : V} : Prs us ws H ts H' → us[ts.length]? = some u → ws[ts.length]? = some w → H' T = none → Prs us ws H (ts ++ [.ref T]) (upd H' T (.tup [u, w]))
def zcS (z q o i j a b : Addr) (xs ys : Array Value) (B n : Nat) (h : Heap) : Prop :=
  IsPair h q (.ref i) (.ref j) ∧ h.IsListIter i a n ∧ h.IsListIter j b n ∧ h.IsList a xs ∧ h.IsList b ys ∧ ((IsZip h z q o .none ∧ ∃ u w, IsPair h o u w) ∨ ∃ (T : Addr) (f : Bool) (ob : Obj), IsZipHeld h z q o T f ∧ h.get? T = some ob ∧ B ≤ T)
section
variable {prog : Program} {w : World} {A : Around} {E : Value → Shared → Prop} {s : Shared} {z q o i j a b : Addr} {xs ys : Array Value} {B n : Nat}
end
/-- a list in the making -/
abbrev mkL (acc : Array Value) (c : Nat) : Obj := { cls := .type "list", dict := none, data := .seq acc c, slots := #[] }
section
variable {X : Cx} {pins : List (Addr × Obj)} {σ : L2.St} {A : Around} {z q o i j a b S : Addr} {xs ys : Array Value} {us ws : List V} {H0 : Hp} {R : Result → Shared → Prop} {res : Value}
theorem FpOk.upd {H : Hp} {c T : Addr} {ob : HO} (f : FpOk X pins H c) (n : c ≠ T) : FpOk X pins (upd H T ob) c := ⟨by rw [upd_ne n]; exact f.1, f.2⟩
/-- the zip as it was made, the state around it -/
structure ZcAt (X : Cx) (pins : List (Addr × Obj)) (σ : L2.St) (z q o i j a b : Addr) (xs ys : Array Value) (us ws : List V) (H : Hp) (s : Shared) : Prop where
  D : ZipApart z q o i j a b
  inv : Inv X pins σ H s
  z0 : IsZip s.heap z q o .none
  q0 : IsPair s.heap q (.ref i) (.ref j)
  o0 : ∃ u w, IsPair s.heap o u w
  i0 : s.heap.IsListIter i a 0
  j0 : s.heap.IsListIter j b 0
  a0 : s.heap.IsList a xs
  b0 : s.heap.IsList b ys
  fp : ∀ c ∈ [z, o, i, j], FpOk X pins H c
  eq : xs.size = ys.size
  hn : xs.size ≤ sizeLine
  ra : Vals us xs.toList
  rb : Vals ws ys.toList
end
def tTZ (K : PySem.W.Frag) (ta : TA) : TE := fun σ H Q => ta σ H fun vs H1 => ∃ (a b : Addr) (us ws : List V), vs = [.ref a, .ref b] ∧ SqL K H1 a us ∧ SqL K H1 b ws ∧ us.length = ws.length ∧ ∀ ts H2 p o, Prs us ws H1 ts H2 → ts.length = us.length → H2 p = none → o.dict = none → Q (.ref p) (upd H2 p (.frz o (.tup ts)))
end Rk

/-! Rk87: tuple(zip(xs, ys)) of two lists of one length, as data. -/
namespace Rk
open PySem PySem.Spec PyProof.Rows L2
def gTZ : GC := fun vs h => match vs with
  | [x, y] => match asL x h, asL y h with
    | some xs, some ys => if xs.length = ys.length then some (.d (ptD (zipD xs ys)), h) else none
    | _, _ => none
  | _ => none
section
variable {K : PySem.W.Frag} {φ : List Addr} {h : Hh} {H H' : Hp} {us ws ts : List V} {xs ys : List Da}
end
/-- a plain tuple as a tuple -/
def unp : Vl → Option Vl
  | .d (.dict [(.none, .tuple ds)]) => some (.d (.tuple ds))
  | _ => none
def eUnp (f : Ev) : Ev := fun ρ h => (f ρ h).bind fun v h1 => ofO ((unp v).map fun u => (u, h1))
section
variable {X : Cx} {W : WX} {e e2 : Expr} {fs : Av} {p p2 q pos : Pos}
end
section
variable {Q : Vl → Hh → Prop} {h : Hh} {xs ys : List Da}
end
end Rk

/-! Rk88: for a, b in zip(x, y): two lists, two tuples, or a tuple and a list. -/
namespace Rk
open PySem PySem.Spec PyProof.Rows L2
def mixB : List Vl → Bool
  | [.d (.tuple _), .d (.list _)] => true
  | _ => false
def pickZ : Out (List Vl) → Bool
  | .ok vs _ => mixB vs
  | _ => false
def iZip4 (as : Av) : Iv := fun ρ h => if pickZ (as ρ h) = true then iZM as ρ h else iZip as ρ h
section
variable {X : Cx} {W : WX} {pos p : Pos} {fs : Av}
theorem PI.or {tg e : Expr} {t u : TI} (h : PI X tg e t) (k : PI X tg e u) : PI X tg e (fun σ H R => t σ H R ∨ u σ H R) :=
  ⟨fun pins s σ H Q I w => w.elim (h.run pins s σ H Q I) (k.run pins s σ H Q I)⟩
end
end Rk

/-! Rk89: defs of the top as values: kept in dicts and lists, called from there. -/
namespace Rk
open PySem PySem.Spec PyProof.Rows L2
theorem gfn_ok {K : PySem.W.Frag} {mg : Str → Option Value} {x : Str} (g : mg x = some (.ref (He.ga K x))) : GConst K mg x (fnD x) := ⟨.ref _, _, g, rfl, fun _ _ => .fn x⟩
def seekF : List (Str × Fn) → Str → Option Fn
  | [], _ => none
  | (k, m) :: r, x => if x = k then some m else seekF r x
def lookF (tbl : List (Str × Fn)) : Vl → Option Fn
  | .d (.dict [(.none, .str x)]) => seekF tbl x
  | _ => none
def eCallF (tbl : List (Str × Fn)) (fe : Ev) (as : Av) : Ev := fun ρ h => (fe ρ h).bind fun v h1 => match lookF tbl v with
  | some m => (as ρ h1).bind fun vs h2 => m vs h2
  | none => .no
theorem fn_ref {K : PySem.W.Frag} {H : Hp} {M : Addr → Prop} {v : V} {x : Str} (r : Rep K H M v (.dict [(.none, .str x)])) : v = .ref (He.ga K x) := by
  generalize e : (.dict [(.none, .str x)] : Da) = d at r
  cases r with
  | fn y => cases e; rfl
  | plt _ _ _ _ => cases e
  | dct0 _ _ => cases e
  | @dct a kvs ds kds h n ne r e2 =>
    exfalso
    cases e
    cases kvs with
    | nil => exact ne rfl
    | cons p t =>
      cases r with
      | cons r1 r2 =>
        obtain ⟨k, u⟩ := p
        rw [List.map_cons, List.zip_cons_cons, List.map_cons] at e2
        have := (List.cons.inj e2).1
        have := congrArg Prod.fst this
        cases k with
        | inl i => cases this
        | inr y => cases this
  | _ => cases e
/-- the defs that may be called so -/
structure CalF (X : Cx) (j : Nat) (tbl : List (Str × Fn)) : Prop where
  at_ : ∀ (x : Str) (m : Fn), seekF tbl x = some m → ∃ (k : Nat) (ps : List Str), k ≤ j ∧ X.mg x = some (.ref (He.ga X.K x)) ∧ Df X.prog X.w X.K X.mg X.base k x ps m
theorem cf_nil {X : Cx} {j : Nat} : CalF X j [] := ⟨fun _ _ e => by cases e⟩
theorem gc_fn {K : PySem.W.Frag} {mg : Str → Option Value} {x : Str} (c : GConst K mg x (fnD x)) : mg x = some (.ref (He.ga K x)) := by
  obtain ⟨v, u, g, r, k⟩ := c
  have e := fn_ref (k (fun _ => none) fun _ => False)
  subst e
  rw [g, show u = .ref (He.ga K x) from r]
theorem cf_cons {X : Cx} {j k : Nat} {x : Str} {m : Fn} {ps : List Str} {tbl : List (Str × Fn)} (g : GConst X.K X.mg x (fnD x)) (D : Df X.prog X.w X.K X.mg X.base k x ps m) (C : CalF X j tbl) (hk : k ≤ j := by decide) : CalF X j ((x, m) :: tbl) :=
  ⟨fun y m' e => by
    unfold seekF at e
    split at e
    · rename_i h
      subst h
      cases e
      exact ⟨k, ps, hk, gc_fn g, D⟩
    · exact C.at_ y m' e⟩
section
variable {X : Cx} {W : WX} {j : Nat} {tbl : List (Str × Fn)} {fe e : Expr} {es : List Expr} {ff : Ev} {fs : Av} {pos : Pos}
theorem ee_callF (C : CalF X j tbl) (hr : RoomG j X.A) (tk : Takes X W) (hf : EE X W fe ff) (ha : EA X W (e :: es) fs)
    (hc : eval (fe.Call (e :: es) [] pos) X.env = (do let f ← eval fe X.env; callWith pos f [] (backTo pos (starEach (e :: es) X.env)) (backToKw pos (keywordEach [] X.env))) := by rfl)
    (he : starEach (e :: es) X.env = (false, eval e X.env) :: starEach es X.env := by rfl) (hpl : (backTo pos (starEach es X.env)).any (·.1) = false := by rfl) :
    EE X W (.Call fe (e :: es) [] pos) (eCallF tbl ff fs) := by
  constructor
  rintro pins s σ H Q I ⟨φ, h, ρ, sm, er, q⟩
  refine Call_ (thn (hf.run pins s σ H (fun y H1 => ∃ φ1 h1 v, Sim X.K φ1 h1 H1 ∧ ERep X.K X.mg φ1 h1 H1 σ ρ ∧ VRep X.K X.mg φ1 h1 H1 y v ∧ PoX X.K X.mg φ1 h1 H1 (match lookF tbl v with
    | some m => (fs ρ h1).bind fun vs h2 => m vs h2
    | none => .no) Q (WE W σ)) I ⟨φ, h, ρ, sm, er, PoX.goE q fun x v h1 H1 φ1 st sm1 rv q1 => ⟨φ1, h1, v, sm1, er.step st, rv, q1⟩⟩) ?_) hc
  rintro u s1 ⟨y, H1, I1, ry, φ1, h1, v, sm1, er1, rv, q1⟩
  cases em : lookF tbl v with
  | none => rw [em] at q1; exact q1.elim
  | some m =>
    rw [em] at q1
    dsimp only at q1
    unfold lookF at em
    split at em
    · rename_i x
      obtain ⟨k, ps, hk, g0, f, fd, g, kp, b, F⟩ := C.at_ x m em
      have e0 := fn_ref (show Rep X.K H1 (Live φ1 h1) y _ from rv)
      subst e0
      rw [g0] at g
      cases g
      cases ry
      refine PySem.W.callWith_K (h₀ := X.base) I.ok.mod.kin kp (thn (ha.run pos pins s1 σ H1 (fun xs H2 => ∃ φ2 h2 vs, Sim X.K φ2 h2 H2 ∧ VReps X.K X.mg φ2 h2 H2 xs vs ∧ PoX X.K X.mg φ2 h2 H2 (m vs h2) Q (WE W σ)) I1 ⟨φ1, h1, ρ, sm1, er1, PoX.goA q1 fun xs vs h2 H2 φ2 st2 sm2 rvs q2 => ⟨φ2, h2, vs, sm2, rvs, q2⟩⟩) ?_) he hpl
      rintro us s2 ⟨vs, H2, I2, r, q2⟩
      obtain ⟨φ2, h2, ws, sm2, rvs, q2⟩ := q2
      exact ⟨I2.kIn, run_G (E := fun σ => WE W σ) F (hr.mono hk) b (passAt tk σ) I2 r ⟨φ2, h2, ws, sm2, rvs, q2⟩⟩
    · cases em
end
section
variable {Q : Vl → Hh → Prop} {E : XP} {ρ : En} {h : Hh} {tbl : List (Str × Fn)} {fe : Ev} {as : Av}
/-- which def is called -/
structure FnK (tbl : List (Str × Fn)) (v : Vl) (P : Fn → Prop) : Prop where
  w : ∃ m, lookF tbl v = some m ∧ P m
theorem wp_callF (w : Wp (fe ρ h) (fun v h1 => FnK tbl v fun m => Wp (as ρ h1) (fun vs h2 => Wp (m vs h2) Q E) E) E) : Wp (eCallF tbl fe as ρ h) Q E :=
  wp_bind (w.mono (fun v h1 ⟨m, e, w⟩ => by
    rw [e]
    exact wp_bind w) fun _ _ _ z => z)
theorem fnk {x : Str} {m : Fn} {P : Fn → Prop} (e : seekF tbl x = some m) (q : P m) : FnK tbl (.d (fnD x)) P := ⟨m, e, q⟩
end
end Rk

/-! Rk90: dict(ps), ps a plain tuple of pairs. -/
namespace Rk
open PySem PySem.Spec PyProof.Rows L2
variable {mg : Str → Option Value}
def rDT (K : PySem.W.Frag) : List V → Hp → VK → Prop := fun xs H Q => ∃ (a : Addr) (o : Obj) (ps : List Addr) (kvs : List (Key × V)), xs = [.ref a] ∧ H a = some (.frz o (.tup (ps.map V.ref))) ∧ o.dict = none ∧ Paired (fun p kv => SqT K H p [kV kv.1, kv.2]) ps kvs ∧
    ∀ p, H p = none → Q (.ref p) (upd H p (.dK (mergeK [] kvs)))
def gDT : GC := fun vs h => match vs with
  | [.d (.dict [(.none, .tuple ds)])] => match pairsD ds with
    | some kds => some (.r h.length, h ++ [some (.dct (kds.foldl (fun acc kv => putD acc kv.1 kv.2) []))])
    | none => none
  | _ => none
def tTupZ (t : TA) : TE := fun σ H Q => t σ H fun xs H1 => xs.length ≤ sizeLine ∧ ∀ (p : Addr) (o : Obj), H1 p = none → o.dict = none → Q (.ref p) (upd H1 p (.frz o (.tup xs)))
def eTupZ (as : Av) : Ev := fun ρ h => (as ρ h).bind fun vs h1 => match fzs vs h1 with
  | some (ds, h2) => if fitB ds.length = true then .ok (.d (ptD ds)) h2 else .no
  | none => .no
structure TupZK (vs : List Vl) (h : Hh) (Q : Vl → Hh → Prop) : Prop where
  w : TupK vs h fun v h1 => ∃ ds, v = .d (.tuple ds) ∧ Q (.d (ptD ds)) h1
end Rk

/-! Rk91: a list turned round, a list cut at a number. -/
namespace Rk
open PySem PySem.Spec L2
theorem fm_range {α : Type} (xs : List α) : ∀ k, k ≤ xs.length → (List.range k).filterMap (xs[·]?) = xs.take k := by
  intro k
  induction k with
  | zero => intro _; rfl
  | succ k ih =>
    intro hk
    rw [List.range_succ, List.filterMap_append, ih (by omega), List.take_succ, List.getElem?_eq_getElem (by omega : k < xs.length)]
    simp [List.getElem?_eq_getElem (by omega : k < xs.length)]
theorem pickG_rev {α : Type} (xs : List α) : pickG xs none none (some (-1)) = xs.reverse := by
  have e : sliceRange (sliceBounds none none (some (-1)) xs.length).1 (sliceBounds none none (some (-1)) xs.length).2.1 (sliceBounds none none (some (-1)) xs.length).2.2 = (List.range xs.length).reverse := by
    show sliceRange ((xs.length : Int) - 1) (-1) (-1) = _
    unfold sliceRange
    have c : (if (-1 : Int) > 0 then (if (xs.length : Int) - 1 < -1 then (-1 - ((xs.length : Int) - 1) + -1 - 1) / -1 else 0) else (if (xs.length : Int) - 1 > -1 then ((xs.length : Int) - 1 - -1 - -1 - 1) / -(-1) else 0)) = (xs.length : Int) := by
      rw [if_neg (by decide)]
      split
      · rw [show -(-1 : Int) = 1 from rfl, Int.ediv_one]; omega
      · omega
    dsimp only
    rw [c, Int.toNat_natCast]
    apply List.ext_getElem
    · simp
    · intro i h1 h2
      simp only [List.length_map, List.length_range] at h1
      simp
      omega
  unfold pickG
  rw [e, List.filterMap_reverse, fm_range xs xs.length (Nat.le_refl _), List.take_length]
section
variable {h : Hh} {Q : Vl → Hh → Prop} {xs : List Da}
theorem wo_rvL (hl : xs.length ≤ 16777216) (q : Q (.r h.length) (h ++ [some (.lst xs.reverse)])) : Wo (gRv (.d (.list xs)) h) Q := by
  refine wo_stL (by decide) ?_ ?_
  · rw [pickG_rev, List.length_reverse]; exact hl
  · rw [pickG_rev]; exact q
end
end Rk

/-! Rk92: x == () of any tuple. -/
namespace Rk
open PySem PySem.Spec PyProof.Rows L2
variable {mg : Str → Option Value}
def rEqE (K : PySem.W.Frag) : R2 := fun x y H Q => ∃ a b us, x = .ref a ∧ y = .ref b ∧ SqT K H a us ∧ SqT K H b [] ∧ Q (.bl us.isEmpty) H
def gEqE : G2 := fun x y h => match x, y with
  | .d (.tuple ds), .d (.tuple []) => some (.d (.bool ds.isEmpty), h)
  | x, y => gEq x y h
end Rk

/-! Rk93: lists of objects: made by append, walked. -/
namespace Rk
open PySem PySem.Spec PyProof.Rows L2
variable {mg : Str → Option Value}
section
variable {K : PySem.W.Frag} {φ : List Addr} {h : Hh} {H : Hp} {a : Addr} {m : Nat} {o : Ob} {ys : List V} {ns : List Nat} {as : List Addr}
/-- a list that lives becomes a list of objects, by a new number -/
theorem Sim.putR (s : Sim K φ h H) (e : h[m]? = some (some o)) (ea : φ[m]? = some a) (el : as.length = ns.length) (er : ∀ (k n : Nat), ns[k]? = some n → n < h.length ∧ φ[n]? = as[k]?) :
    Step φ h H (φ ++ [a]) (h.set m none ++ [some (.rl ns)]) (upd H a (.lst (as.map V.ref))) ∧ Sim K (φ ++ [a]) (h.set m none ++ [some (.rl ns)]) (upd H a (.lst (as.map V.ref))) := by
  have la : Live φ h a := ⟨m, o, ea, e⟩
  have hl := (List.getElem?_eq_some_iff.mp e).1
  have ls : φ.length = (h.set m none).length := by rw [List.length_set]; exact s.len
  have old : ∀ (i : Nat) (v : Ob), (h.set m none)[i]? = some (some v) → h[i]? = some (some v) ∧ m ≠ i := fun i v e2 => by
    by_cases hi : m = i
    · subst hi; rw [List.getElem?_set_self hl] at e2; cases e2
    · rw [List.getElem?_set_ne hi] at e2; exact ⟨e2, hi⟩
  have less : ∀ b, Live (φ ++ [a]) (h.set m none ++ [some (.rl ns)]) b → Live φ h b := fun b l => by
    rcases (live_new ls).mp l with ⟨i, v, e1, e2⟩ | rfl
    · exact ⟨i, v, e1, (old i v e2).1⟩
    · exact la
  have st : Stay H (Live φ h) (upd H a (.lst (as.map V.ref))) (Live (φ ++ [a]) (h.set m none ++ [some (.rl ns)])) := fun b v q _ nb => ⟨by rw [upd_ne (fun z => nb (by rw [z]; exact la))]; exact q, fun l => nb (less b l)⟩
  have hgt : ∀ (i : Nat) (b : Addr) (u : Ob), (φ ++ [a])[i]? = some b → (h.set m none ++ [some (Ob.rl ns)])[i]? = some (some u) → (i < φ.length ∧ φ[i]? = some b ∧ h[i]? = some (some u) ∧ m ≠ i) ∨ (i = φ.length ∧ b = a ∧ u = .rl ns) := fun i b u e1 e2 => by
    by_cases hi : i < φ.length
    · rw [List.getElem?_append_left hi] at e1
      rw [List.getElem?_append_left (by rw [← ls]; exact hi)] at e2
      exact .inl ⟨hi, e1, (old i u e2).1, (old i u e2).2⟩
    · have hz : i = φ.length := by
        have := (List.getElem?_eq_some_iff.mp e1).1
        simp at this
        omega
      subst hz
      rw [List.getElem?_append_right (by omega)] at e1
      rw [ls, List.getElem?_append_right (by omega)] at e2
      simp at e1 e2
      exact .inr ⟨rfl, e1.symm, e2.symm⟩
  have ne : ∀ (i : Nat) (b : Addr) (u : Ob), φ[i]? = some b → h[i]? = some (some u) → m ≠ i → b ≠ a := fun i b u e1 e2 n z => n (s.inj m i a o u ea (z ▸ e1) e e2)
  refine ⟨⟨List.prefix_append φ [a], st⟩, ⟨by simp [s.len], fun i j b u u' e1 e2 e3 e4 => ?_, fun i u e2 => ?_, fun i ks e2 => ?_⟩⟩
  · rcases hgt i b u e1 e3 with ⟨h1, h2, h3, h4⟩ | ⟨h1, h2, h3⟩ <;> rcases hgt j b u' e2 e4 with ⟨g1, g2, g3, g4⟩ | ⟨g1, g2, g3⟩
    · exact s.inj i j b u u' h2 g2 h3 g3
    · exact absurd g2 (ne i b u h2 h3 h4)
    · exact absurd h2 (ne j b u' g2 g3 g4)
    · omega
  · by_cases hi : i < φ.length
    · rw [List.getElem?_append_left (by rw [← ls]; exact hi)] at e2
      obtain ⟨e3, n⟩ := old i u e2
      obtain ⟨b, e4, q⟩ := s.ob i u e3
      refine ⟨b, by rw [List.getElem?_append_left hi]; exact e4, q.stay st (fun w hw => ?_) fun _ _ z => s.notCode z⟩
      rw [upd_ne (ne i b u e4 e3 n)]
      exact hw
    · have hz : i = φ.length := by
        have := (List.getElem?_eq_some_iff.mp e2).1
        rw [List.length_append, ← ls] at this
        simp at this
        omega
      subst hz
      rw [ls, List.getElem?_append_right (by omega)] at e2
      simp at e2
      subst e2
      exact ⟨a, by simp, _, upd_same⟩
  · by_cases hi : i < φ.length
    · rw [List.getElem?_append_left (by rw [← ls]; exact hi)] at e2
      obtain ⟨e3, n⟩ := old i _ e2
      obtain ⟨b, bs, f1, f2, f3, f4⟩ := s.rf i ks e3
      refine ⟨b, bs, by rw [List.getElem?_append_left hi]; exact f1, ?_, f3, fun k n0 z => ?_⟩
      · rw [upd_ne (ne i b _ f1 e3 n)]
        exact f2
      · obtain ⟨z1, z2⟩ := f4 k n0 z
        exact ⟨z1, by rw [List.getElem?_append_left (by omega)]; exact z2⟩
    · have hz : i = φ.length := by
        have := (List.getElem?_eq_some_iff.mp e2).1
        rw [List.length_append, ← ls] at this
        simp at this
        omega
      subst hz
      rw [ls, List.getElem?_append_right (by omega)] at e2
      simp at e2
      subst e2
      refine ⟨a, as, by simp, upd_same, el, fun k n0 z => ?_⟩
      obtain ⟨z1, z2⟩ := er k n0 z
      have := s.len
      exact ⟨by omega, by rw [List.getElem?_append_left (by omega)]; exact z2⟩
end
/-! ### append of an object to a list of objects -/
def lstR : Option (Option Ob) → Option (List Nat)
  | some (some (.lst [])) => some []
  | some (some (.rl ns)) => some ns
  | _ => none
theorem lstR_at {K : PySem.W.Frag} {φ : List Addr} {h : Hh} {H : Hp} {a : Addr} {m : Nat} {ns : List Nat} (sm : Sim K φ h H) (e : lstR h[m]? = some ns) (ea : φ[m]? = some a) :
    ∃ (o : Ob) (as : List Addr), h[m]? = some (some o) ∧ H a = some (.lst (as.map V.ref)) ∧ as.length = ns.length ∧ ∀ (k n : Nat), ns[k]? = some n → n < h.length ∧ φ[n]? = as[k]? := by
  unfold lstR at e
  split at e
  · rename_i q
    cases e
    obtain ⟨b, e1, xs, e2, r⟩ := sm.ob m _ q
    rw [ea] at e1
    cases e1
    cases r
    exact ⟨_, [], q, e2, rfl, fun k n z => by cases z⟩
  · rename_i q
    cases e
    obtain ⟨b, as, e1, e2, e3, e4⟩ := sm.rf m _ q
    rw [ea] at e1
    cases e1
    have hl := (List.getElem?_eq_some_iff.mp q).1
    exact ⟨_, as, q, e2, e3, fun k n z => ⟨by have := (e4 k n z).1; omega, (e4 k n z).2⟩⟩
  · cases e
def sApR (i : Nat) (f : Ev) : Sv := fun ρ h => match ρ[i]? with
  | some (some (.r m)) => if (lstR h[m]?).isSome = true then Out.then ρ (f ρ h) fun v h1 => match v with
      | .r d => match lstR h1[m]? with
        | some ns => if ns.length < 1000 then .nx (ρ.set i (some (.r h1.length))) (h1.set m none ++ [some (.rl (ns ++ [d]))]) else .no
        | none => .no
      | _ => .no
    else .no
  | _ => .no
section
variable {X : Cx} {W : WX} {o e : Expr} {f : Ev} {i : Nat} {apos cpos pos : Pos}
theorem es_appR (ho : EE X W o (eVar i)) (ha : EE X W e f)
    (hbase : attributeBase o "append" X.env (eval o X.env) = eval o X.env := by rfl)
    (hfew : ((backTo cpos (starEach [e] X.env)).all (fun x => !x.1) && (backToKw cpos (keywordEach [] X.env)).all (fun x => x.1.isSome)
      && decide ([e].length + ([] : List Keyword).length + (if ([] : List Keyword).isEmpty then 0 else 1) < 30)) = true := by rfl)
    (hline : (apos.endLine == cpos.line) = true := by rfl) (hs : starEach [e] X.env = (false, eval e X.env) :: starEach [] X.env := by rfl) (hplain : (backTo cpos (starEach [] X.env)).any (·.1) = false := by rfl)
    (hw : swapsWith (.Call (.Attribute o "append" apos) [e] [] cpos) none pos.line X.env = pure false := by rfl) :
    ES X W (.Expr (.Call (.Attribute o "append" apos) [e] [] cpos) pos) (sApR i f) :=
  PS.of (ps_expr (pe_bm PySem.F.plainAttrs_list PySem.F.slot_list_append PySem.F.type_list_append mt_append ho (ea_cons ha ea_nil (hs := hs)) hbase hfew hline hs hplain) hw) fun D σ H ⟨φ, h, ρ, sm, er, q⟩ => ⟨φ, h, ρ, sm, er, by
    unfold sApR at q
    split at q
    · rename_i m em
      split at q
      · rename_i hs0
        obtain ⟨ns0, e0⟩ := Option.isSome_iff_exists.mp hs0
        have ev : eVar i ρ h = .ok (.r m) h := by unfold eVar; rw [em]
        rw [ev]
        rintro x H1 φ1 st1 sm1 ⟨a, ea, rfl⟩
        obtain ⟨_, as0, _, g0, _⟩ := lstR_at sm1 e0 ea
        refine ⟨.inl ⟨rfl, _, .of g0⟩, φ1, h, ρ, sm1, er.step st1, ?_⟩
        have q1 := PoS.pull st1 q
        show PoA X.K X.mg φ1 h H1 ((f ρ h).bind fun v h1 => (Out.ok ([] : List Vl) h1).bind fun xs h2 => .ok (v :: xs) h2) _ _
        revert q1
        cases f ρ h with
        | no => exact fun q => q
        | ex c fs h1 => exact fun q1 cls dd H' φ' st sm' xr => q1 cls dd σ H' φ' st sm' ((er.step st1).step st) xr
        | ok v h1 =>
          intro q1 xs H2 φ2 st2 sm2 rvs
          obtain ⟨y, rfl, rv⟩ := rvs.one
          dsimp only [Out.then] at q1
          split at q1
          · rename_i d
            split at q1
            · rename_i ns en
              split at q1
              · rename_i hn
                obtain ⟨b, eb, rfl⟩ := rv
                have ea2 := pre_get st2.pre ea
                obtain ⟨o2, as, f1, f2, f3, f4⟩ := lstR_at sm2 en ea2
                have hd : d < h1.length := by rw [← sm2.len]; exact (List.getElem?_eq_some_iff.mp eb).1
                obtain ⟨s1, s2⟩ := sm2.putR (as := as ++ [b]) (ns := ns ++ [d]) f1 ea2 (by rw [List.length_append, List.length_append, f3]; rfl) fun k n z => by
                  by_cases hk : k < ns.length
                  · rw [List.getElem?_append_left hk] at z
                    rw [List.getElem?_append_left (by omega)]
                    exact f4 k n z
                  · rw [List.getElem?_append_right (by omega)] at z
                    rw [List.getElem?_append_right (by omega)]
                    have : k - ns.length = 0 := by
                      have := (List.getElem?_eq_some_iff.mp z).1
                      simp at this
                      omega
                    rw [this] at z
                    cases z
                    rw [show k - as.length = 0 by omega]
                    exact ⟨hd, eb⟩
                refine ⟨a, as.map V.ref, .ref b, rfl, rfl, f2, by rw [List.length_map, f3]; exact Nat.lt_of_lt_of_le hn (by decide), ?_⟩
                rw [← show (as ++ [b]).map V.ref = as.map V.ref ++ [V.ref b] by rw [List.map_append]; rfl]
                have er2 : ERep X.K X.mg (φ2 ++ [a]) (h1.set m none ++ [some (.rl (ns ++ [d]))]) (upd H2 a (.lst ((as ++ [b]).map V.ref))) σ (ρ.set i (some (.r h1.length))) := by
                  have er3 := ((er.step st1).step st2).step s1
                  refine ⟨by rw [List.length_set]; exact er3.len, fun j w z => ?_⟩
                  by_cases hj : i = j
                  · subst hj
                    have hi := (List.getElem?_eq_some_iff.mp em).1
                    rw [List.getElem?_set_self hi] at z
                    cases z
                    obtain ⟨x, ex, a', ea', rfl⟩ := er3.at_ i (.r m) em
                    have : a' = a := by
                      have := pre_get s1.pre ea2
                      rw [this] at ea'
                      exact (Option.some.inj ea').symm
                    subst this
                    exact ⟨_, ex, a', by rw [← sm2.len]; simp, rfl⟩
                  · rw [List.getElem?_set_ne hj] at z
                    exact er3.at_ j w z
                exact q1 σ _ _ (st2.trans s1) s2 er2
              · exact q1.elim
            · exact q1.elim
          · exact q1.elim
      · exact q.elim
    · exact q.elim⟩
end
end Rk

/-! Rk94: a list of objects walked; a def whose new objects all stay. -/
namespace Rk
open PySem PySem.Spec PyProof.Rows L2
variable {mg : Str → Option Value}
noncomputable def forR (g : Gv) (body : Sv) : List Nat → En → Hh → So
  | [], ρ, h => .nx ρ h
  | n :: ns, ρ, h => match g (.r n) ρ h with
      | none => .no
      | some p => match body p.1 p.2 with
        | .nx ρ' h' => forR g body ns ρ' h'
        | .ct ρ' h' => forR g body ns ρ' h'
        | .bk ρ' h' => .nx ρ' h'
        | r => r
noncomputable def sForR (f : Ev) (g : Gv) (body : Sv) : Sv := fun ρ h => Out.then ρ (f ρ h) fun v h1 => match v with
  | .r m => match h1[m]? with
    | some (some (.rl ns)) => forR g body ns ρ (h1.set m none)
    | _ => .no
  | _ => .no
section
variable {K : PySem.W.Frag} {W : WX} {D : Ends} {a : Addr} {as : List Addr} {g : Gv} {fb : Sv}
theorem forR_ok {ns : List Nat} {φ : List Addr} {h : Hh} {H : Hp} {σ : L2.St} {ρ : En} (sm : Sim K φ h H) (er : ERep K mg φ h H σ ρ) (hL : H a = some (.lst (as.map V.ref))) (nl : ¬ Live φ h a) (el : as.length = ns.length) (rf : ∀ (k n : Nat), ns[k]? = some n → φ[n]? = as[k]?)
    (q : PoS K mg φ h H (forR g fb ns ρ h) D W) : ∃ W' : Nat → Nat → L2.St → Hp → Prop, (∃ n, W' 0 n σ H) ∧ ∀ i n σ H, W' i n σ H →
      ((Itl K a).stop i H ∧ D.nx σ H) ∨ ((Itl K a).go i H ∧ ∃ N : L2.St → Hp → Prop, (∀ σ' H', N σ' H' → ∃ m', m' < n ∧ W' (i + 1) m' σ' H') ∧ ∀ x H', (Itl K a).yld i H x H' → tG K mg g x σ H' fun σ2 H2 => tS K mg W fb { D with nx := N, ct := N, bk := D.nx } σ2 H2) := by
  refine ⟨fun i n σ H => n = ns.length - i ∧ ∃ φ h ρ, Sim K φ h H ∧ ERep K mg φ h H σ ρ ∧ (H a = some (.lst (as.map V.ref)) ∧ ¬ Live φ h a ∧ ∀ (k n : Nat), ns[k]? = some n → φ[n]? = as[k]?) ∧ PoS K mg φ h H (forR g fb (ns.drop i) ρ h) D W, ⟨_, rfl, φ, h, ρ, sm, er, ⟨hL, nl, rf⟩, by rw [List.drop_zero]; exact q⟩, ?_⟩
  rintro i n σ H ⟨rfl, φ, h, ρ, sm, er, ⟨hL, nl, rf⟩, q⟩
  cases ed : ns.drop i with
  | nil =>
    rw [ed] at q
    unfold forR at q
    refine .inl ⟨⟨as.map V.ref, .of hL, ?_⟩, PoS.nxNow q sm er⟩
    rw [List.length_map, el]
    exact List.drop_eq_nil_iff.mp ed
  | cons d ds =>
    have hi : i < ns.length := by
      rcases Nat.lt_or_ge i ns.length with z | z
      · exact z
      · rw [List.drop_eq_nil_of_le z] at ed; cases ed
    have e1 : ns[i]? = some d := by
      have := List.getElem?_drop (xs := ns) (i := i) (j := 0)
      rw [ed] at this
      simpa using this.symm
    have e2 : ns.drop (i + 1) = ds := by
      have := List.drop_drop (i := 1) (j := i) (l := ns)
      rw [ed] at this
      simpa using this.symm
    obtain ⟨b, eb⟩ : ∃ b, as[i]? = some b := ⟨_, List.getElem?_eq_getElem (by omega)⟩
    have em : (as.map V.ref)[i]? = some (.ref b) := by rw [List.getElem?_map, eb]; rfl
    have keep : ∀ {φ' : List Addr} {h' : Hh} {H' : Hp}, Step φ h H φ' h' H' → H' a = some (.lst (as.map V.ref)) ∧ ¬ Live φ' h' a ∧ ∀ (k n : Nat), ns[k]? = some n → φ'[n]? = as[k]? := fun st => by
      obtain ⟨s1, s2⟩ := st.st a _ hL nofun nl
      refine ⟨s1, s2, fun k n z => ?_⟩
      have := rf k n z
      obtain ⟨c, ec⟩ : ∃ c, as[k]? = some c := ⟨_, List.getElem?_eq_getElem (by have := (List.getElem?_eq_some_iff.mp z).1; omega)⟩
      rw [ec] at this ⊢
      exact pre_get st.pre this
    rw [ed] at q
    unfold forR at q
    refine .inr ⟨⟨_, _, .of hL, em⟩, fun σ' H' => ∃ φ h ρ, Sim K φ h H' ∧ ERep K mg φ h H' σ' ρ ∧ (H' a = some (.lst (as.map V.ref)) ∧ ¬ Live φ h a ∧ ∀ (k n : Nat), ns[k]? = some n → φ[n]? = as[k]?) ∧ PoS K mg φ h H' (forR g fb ds ρ h) D W, fun σ' H' hN => ?_, fun x H' hy => ?_⟩
    · obtain ⟨φ', h', ρ', a1, a2, a3, a4⟩ := hN
      exact ⟨ns.length - (i + 1), by omega, rfl, φ', h', ρ', a1, a2, a3, by rw [e2]; exact a4⟩
    · obtain ⟨rfl, hx⟩ := hy
      have ex := hx _ (.of hL)
      rw [em] at ex
      cases ex
      have rv : VRep K mg φ h H' (.ref b) (.r d) := ⟨b, by rw [rf i d e1]; exact eb, rfl⟩
      cases eg : g (.r d) ρ h with
      | none => rw [eg] at q; exact q.elim
      | some p =>
        obtain ⟨ρ1, h1⟩ := p
        rw [eg] at q
        refine ⟨φ, h, ρ, .r d, ρ1, h1, sm, er, rv, eg, fun σ2 H2 φ2 st2 sm2 er2 => ⟨φ2, h1, ρ1, sm2, er2, ?_⟩⟩
        have q2 := PoS.pull st2 q
        dsimp only at q2
        revert q2
        cases fb ρ1 h1 with
        | nx ρ3 h3 => exact fun q2 σ3 H3 φ3 st3 sm3 er3 => ⟨φ3, h3, ρ3, sm3, er3, keep (st2.trans st3), PoS.pull st3 q2⟩
        | ct ρ3 h3 => exact fun q2 σ3 H3 φ3 st3 sm3 er3 => ⟨φ3, h3, ρ3, sm3, er3, keep (st2.trans st3), PoS.pull st3 q2⟩
        | bk ρ3 h3 => exact fun q2 => q2
        | rt v h3 => exact fun q2 => q2
        | ex c fs ρ3 h3 => exact fun q2 => q2
        | no => exact fun q2 => q2
end
section
variable {X : Cx} {W : WX} {tg e : Expr} {f : Ev} {g : Gv} {body : List Stmt} {fb : Sv} {pos : Pos}
theorem es_forR (hp : PassesOwn (model X.prog X.w) X.A X.env X.xe) (hc : X.calm = true) (he : EE X W e f) (hg : EG X tg g) (hb : ESs X W body fb) (hs : ∀ x, foldedSetIterable e X.env x = pure x := by intro _; rfl) : ES X W (.For tg e body [] pos) (sForR f g fb) :=
  PS.of (ps_for hp hc (pi_seq he) hg hb hs) fun D σ H ⟨φ, h, ρ, sm, er, q⟩ => ⟨φ, h, ρ, sm, er, by
    unfold sForR at q
    refine PoS.goE er q fun x v h1 H1 φ1 st sm1 er1 rv q1 => ?_
    split at q1
    · rename_i m
      split at q1
      · rename_i ns en
        obtain ⟨a, ea, rfl⟩ := rv
        obtain ⟨b, as, e1, e2, e3, e4⟩ := sm1.rf m ns en
        rw [ea] at e1
        cases e1
        obtain ⟨s1, s2, s3⟩ := sm1.freeze en ea
        exact ⟨a, rfl, .inl ⟨⟨_, .of e2⟩, forR_ok s2 (er1.step s1) e2 s3 e3 (fun k n z => (e4 k n z).2) (PoS.pull s1 q1)⟩⟩
      · exact q1.elim
    · exact q1.elim⟩
end
/-! ### a def whose new objects all stay -/
def mkFN (n N : Nat) (body : Sv) : Fn := fun vs h => if vs.length = n then (match body (enter N vs) h with
    | .rt v h' => .ok v h'
    | .nx _ h' => .ok (.d .none) h'
    | .ex c fs _ h' => .ex c fs h'
    | _ => .no) else .no
section
variable {P : Program} {w : World} {K : PySem.W.Frag} {base : Heap} {x : Str} {st : Stmt} {f : Addr} {fd : FuncData} {N ps : List Str} {k : Nat}
theorem spFN_len {vs : List V} {H : Hp} {Q : VK} {E : XK} {n N : Nat} {body : Sv} (h : spF K mg (mkFN n N body) vs H Q E) : vs.length = n := by
  obtain ⟨φ, h, as, sm, rv, q⟩ := h
  unfold mkFN at q
  split at q
  · rename_i hl
    rw [rv.length]
    exact hl
  · exact q.elim
theorem enter_bodyN {cdv : Value} {A : Around} {outer : List Env} {s : Shared} {H : Hp} {vs : List V} {Q : VK} {E : XK} {n : Nat} {body : Sv} (hE : ESs (cxOf (L2.CX P w) P w K mg base N x (defScope st) f cdv A outer s H E) (WOf E) (defBody st) body) (h : spF K mg (mkFN n N.length body) vs H Q E) :
    ∃ t, PSs (cxOf (L2.CX P w) P w K mg base N x (defScope st) f cdv A outer s H E) (defBody st) t ∧ t { nx := fun _ H' => Q .non H', rt := Q } (start N vs) H := by
  obtain ⟨φ, h, as, sm, rv, q⟩ := h
  refine ⟨_, hE, φ, h, enter N.length as, sm, enter_ok N rv, ?_⟩
  unfold mkFN at q
  split at q
  · revert q
    cases body (enter N.length as) h with
    | rt v h' => exact fun q => q
    | nx ρ' h' => exact fun q σ' H' φ' st sm' er => q .non H' φ' st sm' Rep.non
    | ex c fs ρ' h' => exact fun q cls dd σ' H' φ' st sm' er xr => q cls dd H' φ' st sm' xr
    | bk ρ' h' => exact fun q => q.elim
    | ct ρ' h' => exact fun q => q.elim
    | no => exact fun q => q.elim
  · exact q.elim
theorem dfN_of {kk NN : Nat} {body : Sv} (F : FnP K x st f fd) (g : mg x = some (.ref f)) (S : FnScope N ps (defScope st)) (e1 : ps.length = kk) (e2 : N.length = NN)
    (b : ∀ (dV kV doc pm : Value) (an : Option Addr) (cdv ct : Value) (us : List Value), us.length = ps.length → bindArgs (PySem.W.fnOf x x (defArgs st) (defBody st) (defScope st) .none kV doc pm an cdv ct) ⟨us, []⟩ = pure (ps.zip us))
    (hb : ∀ (cdv : Value) (A : Around) (outer : List Env) (s : Shared) (H : Hp) (E : XK), RoomG k (A.deeper (PyProof.Rows.envOfC x (defScope st) s.heap.objs.size f cdv)) → ESs (cxOf (L2.CX P w) P w K mg base N x (defScope st) f cdv A outer s H E) (WOf E) (defBody st) body) :
    Df P w K mg base (k + 1) x ps (mkFN kk NN body) := by
  subst e1 e2
  exact ⟨f, fd, g, F.kp, FunD.bindsN F fun kV doc pm an cdv ct us hl => b .none kV doc pm an cdv ct us hl,
    ⟨fun _ _ _ _ h => spFN_len h, fun A outer s H args us vs Q E hr e0 hbd r h => run_def F S (spFN_len h) hr e0 hbd r fun cdv hc hr' => enter_bodyN (hb cdv A outer s H E hr') h⟩⟩
end
end Rk

/-! Rk95: wishes for lists of objects. -/
namespace Rk
open PySem PySem.Spec L2
section
variable {Q : Vl → Hh → Prop} {E : XP} {h : Hh} {vs : List Vl} {n M : Nat} {body : Sv} {ρ : En}
theorem wp_defN (e1 : vs.length = n) (e2 : enter M vs = ρ) (w : Ws (body ρ h) (fun _ h1 => Q (.d .none) h1) ⟨Q, fun _ _ => False, fun _ _ => False, fun c fs _ h1 => E c fs h1⟩) : Wp (mkFN n M body vs h) Q E := by
  subst e1 e2
  unfold mkFN
  rw [if_pos rfl]
  revert w
  cases body (enter M vs) h with
  | nx ρ1 h1 => exact fun w => ⟨w.w⟩
  | rt v h1 => exact fun w => ⟨w.w⟩
  | bk ρ1 h1 => exact fun w => w.w.elim
  | ct ρ1 h1 => exact fun w => w.w.elim
  | ex c fs ρ1 h1 => exact fun w => ⟨w.w⟩
  | no => exact fun w => w.w.elim
end
section
variable {ρ : En} {h : Hh} {N : En → Hh → Prop} {R : Vl → Hh → Prop} {B C : En → Hh → Prop} {X : Str → List (Str × Da) → En → Hh → Prop} {f : Ev} {g : Gv} {body : Sv} {i : Nat}
/-- behind the thing that is put to a list of objects -/
structure ApK (i m : Nat) (ρ : En) (v : Vl) (h : Hh) (N : En → Hh → Prop) : Prop where
  w : ∃ d ns, v = .r d ∧ lstR h[m]? = some ns ∧ ns.length < 1000 ∧ N (ρ.set i (some (.r h.length))) (h.set m none ++ [some (.rl (ns ++ [d]))])
theorem ws_apR {m : Nat} {ns0 : List Nat} (er : ρ[i]? = some (some (.r m))) (e0 : lstR h[m]? = some ns0) (w : Wp (f ρ h) (fun v h1 => ApK i m ρ v h1 N) (fun c fs h1 => X c fs ρ h1)) : Ws (sApR i f ρ h) N ⟨R, B, C, X⟩ := by
  unfold sApR
  rw [er]
  dsimp only
  rw [e0, if_pos (show (some ns0).isSome = true from rfl)]
  refine ws_then (w.mono (fun v h1 ⟨d, ns, e1, e2, e3, q⟩ => ?_) fun _ _ _ z => z)
  subst e1
  dsimp only
  rw [e2]
  dsimp only
  rw [if_pos e3]
  exact ⟨q⟩
structure ForRK (g : Gv) (body : Sv) (v : Vl) (ρ : En) (h : Hh) (N : En → Hh → Prop) (D : Ds) : Prop where
  w : ∃ m ns, v = .r m ∧ h[m]? = some (some (.rl ns)) ∧ Ws (forR g body ns ρ (h.set m none)) N D
theorem ws_forR (w : Wp (f ρ h) (fun v h1 => ForRK g body v ρ h1 N ⟨R, B, C, X⟩) (fun c fs h1 => X c fs ρ h1)) : Ws (sForR f g body ρ h) N ⟨R, B, C, X⟩ :=
  ws_then (w.mono (fun v h1 ⟨m, ns, e1, e2, q⟩ => by
    subst e1
    dsimp only
    rw [e2]
    exact q) fun _ _ _ z => z)
theorem forR_inv {ns : List Nat} (I : Nat → En → Hh → Prop) (h0 : I 0 ρ h)
    (st : ∀ (k n : Nat) (ρ1 : En) (h1 : Hh), ns[k]? = some n → I k ρ1 h1 → GvK (g (.r n) ρ1 h1) fun ρ2 h2 => Ws (body ρ2 h2) (I (k + 1)) ⟨R, N, I (k + 1), X⟩)
    (fin : ∀ ρ1 h1, I ns.length ρ1 h1 → N ρ1 h1) : Ws (forR g body ns ρ h) N ⟨R, B, C, X⟩ := by
  have go : ∀ (n k : Nat) (ρ : En) (h : Hh), n = ns.length - k → k ≤ ns.length → I k ρ h → Ws (forR g body (ns.drop k) ρ h) N ⟨R, B, C, X⟩ := by
    intro n
    induction n with
    | zero =>
      intro k ρ h hn hk i
      have : k = ns.length := by omega
      subst this
      rw [List.drop_length]
      exact ⟨fin _ _ i⟩
    | succ n ih =>
      intro k ρ h hn hk i
      have hk' : k < ns.length := by omega
      rw [List.drop_eq_getElem_cons hk']
      have w := st k ns[k] ρ h (List.getElem?_eq_getElem hk') i
      unfold forR
      unfold GvK at *
      revert w
      cases g (.r ns[k]) ρ h with
      | none => exact fun w => w.elim
      | some p =>
        obtain ⟨ρ1, h1⟩ := p
        show Ws (body ρ1 h1) _ _ → _
        dsimp only
        cases body ρ1 h1 with
        | nx ρ2 h2 => exact fun w => ih (k + 1) ρ2 h2 (by omega) (by omega) w.w
        | ct ρ2 h2 => exact fun w => ih (k + 1) ρ2 h2 (by omega) (by omega) w.w
        | bk ρ2 h2 => exact fun w => ⟨w.w⟩
        | rt v h2 => exact fun w => ⟨w.w⟩
        | ex c fs ρ2 h2 => exact fun w => ⟨w.w⟩
        | no => exact fun w => w.w.elim
  have := go _ 0 ρ h rfl (Nat.zero_le _) h0
  rwa [List.drop_zero] at this
end
end Rk

/-! Rk96: an object out of a list of objects, by its number. -/
namespace Rk
open PySem PySem.Spec L2
def gIxO : G2 := fun x y h => match x, y with
  | .r m, .d (.int i) => match h[m]? with
    | some (some (.rl ns)) => (L2.atI ns i).map fun n => (.r n, h)
    | _ => none
  | _, _ => none
section
variable {mg : Str → Option Value} {K : PySem.W.Frag}
end
section
variable {X : Cx} {W : WX} {a b : Expr} {fa fb : Ev} {pos : Pos}
end
end Rk

/-! Rk97: dict(zip(xs, ys)) of two tuples of one length. -/
namespace Rk
open PySem PySem.Spec PyProof.Rows L2
section
variable {prog : Program} {w : World} {A : Around} {E : Value → Shared → Prop} {s : Shared} {z q o i j a b T : Addr} {f : Bool} {oT : Obj} {m n : Nat} {xs ys : Array Value}
end
/-- how far a zip of two tuples has come; d: what must not be touched -/
def ztS (z q o i j a b d : Addr) (xs ys : Array Value) (n : Nat) (h : Heap) : Prop :=
  IsPair h q (.ref i) (.ref j) ∧ h.IsTupleIter i a n ∧ h.IsTupleIter j b n ∧ h.IsTuple a xs ∧ h.IsTuple b ys ∧
    ((IsZip h z q o .none ∧ ∃ u w, IsPair h o u w) ∨ ∃ (T : Addr) (f : Bool) (ob : Obj), IsZipHeld h z q o T f ∧ h.get? T = some ob ∧ T ≠ z ∧ T ≠ i ∧ T ≠ j ∧ T ≠ d)
section
variable {prog : Program} {w : World}
end
def tDictZipT (K : PySem.W.Frag) (ta : TA) : TE := fun σ H Q => ta σ H fun vs H1 => ∃ (a b : Addr) (ks : List Key) (ys : List V), vs = [.ref a, .ref b] ∧ SqT K H1 a (ks.map kV) ∧ SqT K H1 b ys ∧ ks.length = ys.length ∧ ∀ p, H1 p = none → Q (.ref p) (upd H1 p (.dK (mergeK [] (ks.zip ys))))
/-- dict(zip(..)) of two tuples -/
def gDZT : GC := fun vs h => match vs with
  | [.d (.tuple xs), .d (.tuple ds)] => match keysD xs with
    | some ks => if ks.length = ds.length then some (.r h.length, h ++ [some (.dct ((ks.zip ds).foldl (fun acc kv => putD acc kv.1 kv.2) []))]) else none
    | none => none
  | _ => none
section
variable {X : Cx} {W : WX} {e e2 : Expr} {fs : Av} {p p2 q pos : Pos}
end
end Rk

/-! Rk98: x in y, x not in y where the items are data of any depth. -/
namespace Rk
open PySem PySem.Spec PyProof.Rows L2
variable {mg : Str → Option Value}
def rInP (K : PySem.W.Frag) (neg : Bool) : R2 := fun x y H Q => ∃ d ds, Dp K H x d ∧ (Dp K H y (.tuple ds) ∨ Dp K H y (.list ds)) ∧ SeqAt.shaped d = true ∧ SeqAt.shaped (.tuple ds) = true ∧ d.depth ≤ 60 ∧ Q (.bl (if neg then !(ds.any fun z => PyData.eqv z d) else ds.any fun z => PyData.eqv z d)) H
def inV' (neg : Bool) (a : Da) (ds : List Da) : Bool := if neg then !(ds.any fun z => PyData.eqv z a) else ds.any fun z => PyData.eqv z a
def gInP (neg : Bool) : G2 := fun x y h => match gIn neg x y h with
  | some r => some r
  | none => match x, asD y h with
    | .d a, some (.tuple ds) => if sh a && decide (a.depth ≤ 60) && sh (.tuple ds) then some (.d (.bool (inV' neg a ds)), h) else none
    | .d a, some (.list ds) => if sh a && decide (a.depth ≤ 60) && sh (.tuple ds) && !(PyData.list ds).hasDict then some (.d (.bool (inV' neg a ds)), h) else none
    | _, _ => none
section
variable {h : Hh} {Q : Vl → Hh → Prop}
end
end Rk

/-! Rk99: dict(d) of a dict that is changed; d != e of two such dicts. -/
namespace Rk
open PySem PySem.Spec L2 PyProof.Rows
variable {mg : Str → Option Value}
def rDC : List V → Hp → VK → Prop := fun xs H Q => ∃ (a : Addr) (kvs : List (Key × V)), xs = [.ref a] ∧ H a = some (.dK kvs) ∧ ∀ p, H p = none → Q (.ref p) (upd H p (.dK kvs))
theorem call_dictC {X : Cx} : CallR X (.type "dict") rDC := by
  intro pins s σ H xs us Q I r h
  obtain ⟨a, kvs, rfl, e, q⟩ := h
  cases r with
  | cons r1 r2 =>
    cases r2
    obtain rfl := (show _ = Value.ref a from r1)
    exact d_copyOf I (.inl e) fun p s' hp I' => ⟨.ref p, _, I', rfl, q p hp⟩
def gDC : GC := fun vs h => match vs with
  | [v] => match asDk v h with
    | some (_, kds) => some (.r h.length, h ++ [some (.dct kds)])
    | none => none
  | _ => none
theorem ok_dc {K : PySem.W.Frag} : OkC K mg rDC gDC := by
  intro φ h H xs vs Q z h2 sm rvs e k
  unfold gDC at e
  split at e
  · rename_i v
    obtain ⟨x, rfl, rx⟩ := rvs.one
    split at e
    · rename_i n kds ed
      cases e
      obtain ⟨a, kvs, rfl, ea, en, eh, rk⟩ := asDk_ok sm rx ed
      refine ⟨a, kvs, rfl, eh, fun p hp => ?_⟩
      obtain ⟨s1, s2, s3⟩ := sm.new (ob := .dct kds) (o := .dK kvs) hp fun M st => ⟨_, upd_same, rk.stay st⟩
      exact k _ _ _ s1 s2 s3
    · cases e
  · cases e
/-- equal dicts: as many keys, each of the one in the other, equal values -/
def hitD (zds : List (Key × Da)) (p : Key × Da) : Bool := match valD zds p.1 with
  | some v => PyData.eqv p.2 v
  | none => false
def eqDD (kds zds : List (Key × Da)) : Bool := kds.length == zds.length && kds.all (hitD zds)
def shD (d : Da) : Bool := sh d && decide (d.depth ≤ 60)
theorem shD_parts {d : Da} (e : shD d = true) : SeqAt.shaped d = true ∧ d.hasDict = false ∧ d.depth ≤ 60 := by
  unfold shD at e
  rw [Bool.and_eq_true] at e
  exact ⟨(sh_parts e.1).1, (sh_parts e.1).2, of_decide_eq_true e.2⟩
theorem KvRep.find {K : PySem.W.Frag} {H : Hp} {M : Addr → Prop} {zvs : List (Key × V)} {zds : List (Key × Da)} {k : Key} {d : Da} (al : zds.all (fun p => shD p.2) = true) (e : valD zds k = some d) : shD d = true := by
  unfold valD at e
  cases f : zds.find? fun kv => decide (kv.1 = k) with
  | none => rw [f] at e; cases e
  | some p =>
    rw [f] at e
    cases e
    exact List.all_eq_true.mp al p (List.mem_of_find?_eq_some f)
theorem hits_data {X : Cx} {pins : List (Addr × Obj)} {σ : L2.St} {H : Hp} {s : Shared} {M : Addr → Prop} (I : Inv X pins σ H s) {zvs : List (Key × V)} {zds : List (Key × Da)} {vb : List (Key × Value)} (hu : X.A.units + 64 < cLine)
    (rb : KV zvs vb) (kb : KvRep X.K H M zvs zds) (ab : zds.all (fun p => shD p.2) = true) : ∀ {kvs : List (Key × V)} {va : List (Key × Value)} {kds : List (Key × Da)}, KV kvs va → KvRep X.K H M kvs kds → kds.all (fun p => shD p.2) = true →
    PySem.W.KeqHits X.A.in1 s vb va (kds.all (hitD zds)) := by
  intro kvs va kds ra ka aa
  unfold KV at ra
  induction ra generalizing kds with
  | nil =>
    cases ka
    exact .nil
  | @cons p q ps qs h t ih =>
    cases ka with
    | cons r kr =>
      obtain ⟨h1, h2⟩ := h
      obtain ⟨key, u⟩ := q
      dsimp only at h1 h2
      subst h1
      rename_i k v d ds
      rw [List.all_cons, Bool.and_eq_true] at aa
      have ih := ih kr aa.2
      rw [List.all_cons]
      have rr := rb.val k
      rcases kb.get (k := k) with ⟨e1, e2⟩ | ⟨v2, d2, e1, e2, r2⟩
      · rw [e1] at rr
        have : hitD zds (k, d) = false := by unfold hitD; dsimp only; rw [e2]
        rw [this, Bool.false_and]
        exact .miss (RelO.none_of rr)
      · rw [e1] at rr
        obtain ⟨y, hy, ry⟩ := rr.some_of
        have hd : hitD zds (k, d) = PyData.eqv d d2 := by unfold hitD; dsimp only; rw [e2]
        rw [hd]
        obtain ⟨s1, s2, s3⟩ := shD_parts aa.1
        obtain ⟨t1, t2, t3⟩ := shD_parts (KvRep.find (K := X.K) (H := H) (M := M) (zvs := zvs) ab e2)
        obtain ⟨as, rd1⟩ := Dp.reads I d v u (Rep.dp r s2) h2
        obtain ⟨bs, rd2⟩ := Dp.reads I d2 v2 y (Rep.dp r2 t2) ry
        refine .hit hy (SeqAt.eqAt_reads d d2 X.A.in1 s u y as bs rd1 rd2 (SeqAt.canLay_of_shaped s1) (SeqAt.canLay_of_shaped t1) ?_) ih
        show X.A.units + 1 + min d.depth d2.depth < cLine
        have s3 : PyData.depth d ≤ 60 := s3
        omega
def rNeDD (K : PySem.W.Frag) : R2 := fun x y H Q => ∃ (M : Addr → Prop) (a b : Addr) (kvs zvs : List (Key × V)) (kds zds : List (Key × Da)), x = .ref a ∧ y = .ref b ∧ H a = some (.dK kvs) ∧ H b = some (.dK zvs) ∧
  KvRep K H M kvs kds ∧ KvRep K H M zvs zds ∧ kds.all (fun p => shD p.2) = true ∧ zds.all (fun p => shD p.2) = true ∧ Q (.bl (!eqDD kds zds)) H
theorem op_neDD {X : Cx} (hu : X.A.units + 64 < cLine) : OpR X (compareOp .NotEq) (rNeDD X.K) := by
  intro pins s σ H x y v u Q I rx ry h
  obtain ⟨M, a, b, kvs, zvs, kds, zds, rfl, rfl, ea, eb, ka, kb, aa, ab, q⟩ := h
  obtain rfl : v = Value.ref a := rx
  obtain rfl : u = Value.ref b := ry
  obtain ⟨_, lo1, vs1, rel1, dd1⟩ := dk_of I.hok ea
  obtain ⟨_, lo2, vs2, rel2, dd2⟩ := dk_of I.hok eb
  refine PySem.W.keq_ne lo1 lo2 dd1 dd2 (by omega) (fun _ => hits_data I hu rel2 kb ab rel1 ka aa) ?_
  have e1 : vs1.length = kds.length := by rw [← rel1.length]; exact ka.length
  have e2 : vs2.length = zds.length := by rw [← rel2.length]; exact kb.length
  rw [e1, e2]
  exact ⟨.bl _, H, I, rfl, q⟩
def gNeDD : G2 := fun x y h => match asDk x h, asDk y h with
  | some (_, kds), some (_, zds) => if kds.all (fun p => shD p.2) && zds.all (fun p => shD p.2) then some (.d (.bool (!eqDD kds zds)), h) else none
  | _, _ => none
theorem ok_neDD {K : PySem.W.Frag} : Ok2 K mg (rNeDD K) gNeDD := by
  intro φ h H x y a b Q v h' sm rx ry e k
  unfold gNeDD at e
  split at e
  · rename_i n kds m zds ed ez
    split at e
    · rename_i hs
      rw [Bool.and_eq_true] at hs
      cases e
      obtain ⟨p, kvs, rfl, ea, en, eh, rk⟩ := asDk_ok sm rx ed
      obtain ⟨q, zvs, rfl, ea2, en2, eh2, rk2⟩ := asDk_ok sm ry ez
      exact ⟨Live φ h, p, q, kvs, zvs, kds, zds, rfl, rfl, eh, eh2, rk, rk2, hs.1, hs.2, k _ H φ (Step.refl _ _ _) sm (Rep.bl _)⟩
    · cases e
  · cases e
section
variable {h : Hh} {Q : Vl → Hh → Prop} {n m : Nat} {kds zds : List (Key × Da)}
theorem wo_dc (e : h[n]? = some (some (.dct kds))) (q : Q (.r h.length) (h ++ [some (.dct kds)])) : Wo (gDC [.r n] h) Q := by
  refine wo_eq (v := .r h.length) (h' := h ++ [some (.dct kds)]) ?_ q
  unfold gDC asDk
  dsimp only
  rw [e]
theorem wo_neDD {b : Bool} (e : h[n]? = some (some (.dct kds))) (e2 : h[m]? = some (some (.dct zds))) (s1 : kds.all (fun p => shD p.2) = true) (s2 : zds.all (fun p => shD p.2) = true) (eb : eqDD kds zds = b) (q : Q (.d (.bool (!b))) h) : Wo (gNeDD (.r n) (.r m) h) Q := by
  refine wo_eq (v := .d (.bool (!b))) (h' := h) ?_ q
  unfold gNeDD asDk
  dsimp only
  rw [e, e2]
  dsimp only
  rw [s1, s2, eb]
  rfl
end
end Rk

namespace Lw
open PySem PySem.Spec L2 Rk
theorem wk_NOUGHT {ρ : En} {h : Hh} {Q : Vl → Hh → Prop} {E : XP} (q : Q (.d (Rk.Q 0)) h) : Wp (eD c_NOUGHT ρ h) Q E := by
  refine wp_D ?_
  unfold c_NOUGHT
  rw [Q_lit 0 (by decide +kernel) (by decide +kernel)]
  exact q
theorem tq_0_1 {h : Hh} {Q : Vl → Hh → Prop} (q : Q (.d (Rk.Q 0)) h) : TupK [.d (.int 0), .d (.int 1)] h Q := tq_lit 0 (by decide +kernel) (by decide +kernel) q
theorem tq_1_2 {h : Hh} {Q : Vl → Hh → Prop} (q : Q (.d (Rk.Q (1 / 2))) h) : TupK [.d (.int 1), .d (.int 2)] h Q := tq_lit (1 / 2) (by decide +kernel) (by decide +kernel) q
theorem tq_7_3 {h : Hh} {Q : Vl → Hh → Prop} (q : Q (.d (Rk.Q (7 / 3))) h) : TupK [.d (.int 7), .d (.int 3)] h Q := tq_lit (7 / 3) (by decide +kernel) (by decide +kernel) q
noncomputable def b_shared : Sv := sSeq (sSet 0 (eBlt gAbs (aCons (eVar 0) (aNil))))
    (sSeq (sSet 1 (eBlt gAbs (aCons (eVar 1) (aNil))))
    (sSeq (sWhile (eT (eOp (gInt fGt) (eVar 1) (eD (.int 0)))) (sPar 0 1 (aCons (eVar 1) (aCons (eOp (gInt fMod) (eVar 0) (eVar 1)) (aNil)))))
    (sRet (eVar 0))))
noncomputable def m_shared : Fn := mkF 2 2 b_shared
theorem en_shared {v0 v1 : Vl} {h : Hh} {Q : Vl → Hh → Prop} {E : XP} (w : Ws (b_shared [some v0, some v1] h) (fun _ h1 => RetK h.length Q (.d .none) h1) ⟨RetK h.length Q, fun _ _ => False, fun _ _ => False, fun c fs _ h1 => E c fs (h1.take h.length)⟩) : Wp (m_shared [v0, v1] h) Q E := wp_def rfl rfl w
noncomputable def b_fraction : Sv := sSeq (sSet 2 (eCall m_shared (aCons (eVar 0) (aCons (eVar 1) (aNil)))))
    (sSeq (sIf (eT (eOp (gInt fLt) (eVar 1) (eD (.int 0)))) (sSet 2 (eOp (gInt fSub) (eD (.int 0)) (eVar 2))) (sNil))
    (sRet (eTup (aCons (eOp (gInt fDiv) (eVar 0) (eVar 2)) (aCons (eOp (gInt fDiv) (eVar 1) (eVar 2)) (aNil))))))
noncomputable def m_fraction : Fn := mkF 2 3 b_fraction
theorem en_fraction {v0 v1 : Vl} {h : Hh} {Q : Vl → Hh → Prop} {E : XP} (w : Ws (b_fraction [some v0, some v1, none] h) (fun _ h1 => RetK h.length Q (.d .none) h1) ⟨RetK h.length Q, fun _ _ => False, fun _ _ => False, fun c fs _ h1 => E c fs (h1.take h.length)⟩) : Wp (m_fraction [v0, v1] h) Q E := wp_def rfl rfl w
noncomputable def b_plus : Sv := sRet (eCall m_fraction (aCons (eOp gAdd (eOp (gInt fMul) (eOp gIx (eVar 0) (eD (.int 0))) (eOp gIx (eVar 1) (eD (.int 1)))) (eOp (gInt fMul) (eOp gIx (eVar 1) (eD (.int 0))) (eOp gIx (eVar 0) (eD (.int 1))))) (aCons (eOp (gInt fMul) (eOp gIx (eVar 0) (eD (.int 1))) (eOp gIx (eVar 1) (eD (.int 1)))) (aNil))))
noncomputable def m_plus : Fn := mkF 2 2 b_plus
theorem en_plus {v0 v1 : Vl} {h : Hh} {Q : Vl → Hh → Prop} {E : XP} (w : Ws (b_plus [some v0, some v1] h) (fun _ h1 => RetK h.length Q (.d .none) h1) ⟨RetK h.length Q, fun _ _ => False, fun _ _ => False, fun c fs _ h1 => E c fs (h1.take h.length)⟩) : Wp (m_plus [v0, v1] h) Q E := wp_def rfl rfl w
noncomputable def b_turned : Sv := sRet (eTup (aCons (eOp (gInt fSub) (eD (.int 0)) (eOp gIx (eVar 0) (eD (.int 0)))) (aCons (eOp gIx (eVar 0) (eD (.int 1))) (aNil))))
noncomputable def m_turned : Fn := mkF 1 1 b_turned
theorem en_turned {v0 : Vl} {h : Hh} {Q : Vl → Hh → Prop} {E : XP} (w : Ws (b_turned [some v0] h) (fun _ h1 => RetK h.length Q (.d .none) h1) ⟨RetK h.length Q, fun _ _ => False, fun _ _ => False, fun c fs _ h1 => E c fs (h1.take h.length)⟩) : Wp (m_turned [v0] h) Q E := wp_def rfl rfl w
noncomputable def b_less : Sv := sRet (eCall m_plus (aCons (eVar 0) (aCons (eCall m_turned (aCons (eVar 1) (aNil))) (aNil))))
noncomputable def m_less : Fn := mkF 2 2 b_less
theorem en_less {v0 v1 : Vl} {h : Hh} {Q : Vl → Hh → Prop} {E : XP} (w : Ws (b_less [some v0, some v1] h) (fun _ h1 => RetK h.length Q (.d .none) h1) ⟨RetK h.length Q, fun _ _ => False, fun _ _ => False, fun c fs _ h1 => E c fs (h1.take h.length)⟩) : Wp (m_less [v0, v1] h) Q E := wp_def rfl rfl w
noncomputable def b_times : Sv := sRet (eCall m_fraction (aCons (eOp (gInt fMul) (eOp gIx (eVar 0) (eD (.int 0))) (eOp gIx (eVar 1) (eD (.int 0)))) (aCons (eOp (gInt fMul) (eOp gIx (eVar 0) (eD (.int 1))) (eOp gIx (eVar 1) (eD (.int 1)))) (aNil))))
noncomputable def m_times : Fn := mkF 2 2 b_times
theorem en_times {v0 v1 : Vl} {h : Hh} {Q : Vl → Hh → Prop} {E : XP} (w : Ws (b_times [some v0, some v1] h) (fun _ h1 => RetK h.length Q (.d .none) h1) ⟨RetK h.length Q, fun _ _ => False, fun _ _ => False, fun c fs _ h1 => E c fs (h1.take h.length)⟩) : Wp (m_times [v0, v1] h) Q E := wp_def rfl rfl w
noncomputable def b_over : Sv := sRet (eCall m_fraction (aCons (eOp (gInt fMul) (eOp gIx (eVar 0) (eD (.int 0))) (eOp gIx (eVar 1) (eD (.int 1)))) (aCons (eOp (gInt fMul) (eOp gIx (eVar 0) (eD (.int 1))) (eOp gIx (eVar 1) (eD (.int 0)))) (aNil))))
noncomputable def m_over : Fn := mkF 2 2 b_over
theorem en_over {v0 v1 : Vl} {h : Hh} {Q : Vl → Hh → Prop} {E : XP} (w : Ws (b_over [some v0, some v1] h) (fun _ h1 => RetK h.length Q (.d .none) h1) ⟨RetK h.length Q, fun _ _ => False, fun _ _ => False, fun c fs _ h1 => E c fs (h1.take h.length)⟩) : Wp (m_over [v0, v1] h) Q E := wp_def rfl rfl w
noncomputable def b_size_of : Sv := sRet (eTup (aCons (eBlt gAbs (aCons (eOp gIx (eVar 0) (eD (.int 0))) (aNil))) (aCons (eOp gIx (eVar 0) (eD (.int 1))) (aNil))))
noncomputable def m_size_of : Fn := mkF 1 1 b_size_of
theorem en_size_of {v0 : Vl} {h : Hh} {Q : Vl → Hh → Prop} {E : XP} (w : Ws (b_size_of [some v0] h) (fun _ h1 => RetK h.length Q (.d .none) h1) ⟨RetK h.length Q, fun _ _ => False, fun _ _ => False, fun c fs _ h1 => E c fs (h1.take h.length)⟩) : Wp (m_size_of [v0] h) Q E := wp_def rfl rfl w
noncomputable def b_is_less : Sv := sRet (eOp (gInt fLt) (eOp (gInt fMul) (eOp gIx (eVar 0) (eD (.int 0))) (eOp gIx (eVar 1) (eD (.int 1)))) (eOp (gInt fMul) (eOp gIx (eVar 1) (eD (.int 0))) (eOp gIx (eVar 0) (eD (.int 1)))))
noncomputable def m_is_less : Fn := mkF 2 2 b_is_less
theorem en_is_less {v0 v1 : Vl} {h : Hh} {Q : Vl → Hh → Prop} {E : XP} (w : Ws (b_is_less [some v0, some v1] h) (fun _ h1 => RetK h.length Q (.d .none) h1) ⟨RetK h.length Q, fun _ _ => False, fun _ _ => False, fun c fs _ h1 => E c fs (h1.take h.length)⟩) : Wp (m_is_less [v0, v1] h) Q E := wp_def rfl rfl w
noncomputable def b_lesser : Sv := sRet (eIf (eT (eCall m_is_less (aCons (eVar 1) (aCons (eVar 0) (aNil))))) (eVar 1) (eVar 0))
noncomputable def m_lesser : Fn := mkF 2 2 b_lesser
theorem en_lesser {v0 v1 : Vl} {h : Hh} {Q : Vl → Hh → Prop} {E : XP} (w : Ws (b_lesser [some v0, some v1] h) (fun _ h1 => RetK h.length Q (.d .none) h1) ⟨RetK h.length Q, fun _ _ => False, fun _ _ => False, fun c fs _ h1 => E c fs (h1.take h.length)⟩) : Wp (m_lesser [v0, v1] h) Q E := wp_def rfl rfl w
noncomputable def b_greater : Sv := sRet (eIf (eT (eCall m_is_less (aCons (eVar 0) (aCons (eVar 1) (aNil))))) (eVar 1) (eVar 0))
noncomputable def m_greater : Fn := mkF 2 2 b_greater
theorem en_greater {v0 v1 : Vl} {h : Hh} {Q : Vl → Hh → Prop} {E : XP} (w : Ws (b_greater [some v0, some v1] h) (fun _ h1 => RetK h.length Q (.d .none) h1) ⟨RetK h.length Q, fun _ _ => False, fun _ _ => False, fun c fs _ h1 => E c fs (h1.take h.length)⟩) : Wp (m_greater [v0, v1] h) Q E := wp_def rfl rfl w
noncomputable def b_exact : Sv := sSeq (sSet 2 (eOp gIx (eVar 0) (eD (.int 0))))
    (sSeq (sIf (eT (eOp gEq (eVar 2) (eD (.str "number")))) (sRet (eOp gIx (eVar 0) (eD (.int 1)))) (sNil))
    (sSeq (sSet 3 (eOp gIw (eVar 1) (eOp gIx (eVar 0) (eD (.int 1)))))
    (sSeq (sIf (eT (eOp gEq (eVar 2) (eD (.str "turned")))) (sRet (eCall m_turned (aCons (eVar 3) (aNil)))) (sNil))
    (sSeq (sIf (eT (eOp gEq (eVar 2) (eD (.str "size")))) (sRet (eCall m_size_of (aCons (eVar 3) (aNil)))) (sNil))
    (sSeq (sSet 4 (eOp gIw (eVar 1) (eOp gIx (eVar 0) (eD (.int 2)))))
    (sSeq (sIf (eT (eOp gEq (eVar 2) (eD (.str "pick")))) (sRet (eIf (eT (eCall m_is_less (aCons (eVar 3) (aCons (eVar 4) (aNil))))) (eOp gIw (eVar 1) (eOp gIx (eVar 0) (eD (.int 3)))) (eOp gIw (eVar 1) (eOp gIx (eVar 0) (eD (.int 4)))))) (sNil))
    (sSeq (sIf (eT (eOp gEq (eVar 2) (eD (.str "over")))) (sRet (eIf (eT (eOp gEq (eVar 4) (eD c_NOUGHT))) (eD .none) (eCall m_over (aCons (eVar 3) (aCons (eVar 4) (aNil)))))) (sNil))
    (sSeq (sSet 5 (eDct (pCons (eD (.str "plus")) (eD (fnD "plus")) (pCons (eD (.str "less")) (eD (fnD "less")) (pCons (eD (.str "times")) (eD (fnD "times")) (pCons (eD (.str "least")) (eD (fnD "lesser")) (pCons (eD (.str "most")) (eD (fnD "greater")) (pNil))))))))
    (sRet (eCallF [("plus", m_plus), ("less", m_less), ("times", m_times), ("lesser", m_lesser), ("greater", m_greater)] (eOp gIw (eVar 5) (eVar 2)) (aCons (eVar 3) (aCons (eVar 4) (aNil)))))))))))))
noncomputable def m_exact : Fn := mkF 2 6 b_exact
theorem en_exact {v0 v1 : Vl} {h : Hh} {Q : Vl → Hh → Prop} {E : XP} (w : Ws (b_exact [some v0, some v1, none, none, none, none] h) (fun _ h1 => RetK h.length Q (.d .none) h1) ⟨RetK h.length Q, fun _ _ => False, fun _ _ => False, fun c fs _ h1 => E c fs (h1.take h.length)⟩) : Wp (m_exact [v0, v1] h) Q E := wp_def rfl rfl w
noncomputable def b__law_mixed : Sv := sSeq (sSet 0 (eOp (gInt fMod) (eOp (gInt fMul) (eOp gAdd (eOp gAdd (eOp gAdd (eOp (gInt fMod) (eVar 0) (eD (.int 2147483647))) (eOp (gInt fMul) (eOp (gInt fMul) (eD (.int 7919)) (eVar 1)) (eVar 1))) (eOp (gInt fMul) (eD (.int 31)) (eVar 1))) (eD (.int 5))) (eD (.int 48271))) (eD (.int 2147483647))))
    (sRet (eOp (gInt fMod) (eOp (gInt fMul) (eVar 0) (eD (.int 69621))) (eD (.int 2147483629))))
noncomputable def m__law_mixed : Fn := mkF 2 2 b__law_mixed
theorem en__law_mixed {v0 v1 : Vl} {h : Hh} {Q : Vl → Hh → Prop} {E : XP} (w : Ws (b__law_mixed [some v0, some v1] h) (fun _ h1 => RetK h.length Q (.d .none) h1) ⟨RetK h.length Q, fun _ _ => False, fun _ _ => False, fun c fs _ h1 => E c fs (h1.take h.length)⟩) : Wp (m__law_mixed [v0, v1] h) Q E := wp_def rfl rfl w
noncomputable def bl__law_draws_1 : Sv := sSeq (sSet 5 (eOp gAdd (eVar 4) (eOp (gInt fMul) (eD (.int 7)) (eBlt gSum (aCons (eFz (eSt (eVar 0) (oSome (eOp gAdd (eD (.int 12)) (eVar 3))) (oNone) (oSome (eD (.int 12))))) (aNil))))))
    (sApR 2 (eDct (pCons (eD (.str "cell")) (eIf (eT (eOp (gInt fGe) (eVar 4) (eOp (gInt fPow) (eD (.int 10)) (eD (.int 18))))) (eVar 4) (eD (.int 0))) (pCons (eD (.str "seed")) (eCall m__law_mixed (aCons (eVar 5) (aCons (eOp gAdd (eVar 3) (eD (.int 1))) (aNil)))) (pNil)))))
noncomputable def b__law_draws : Sv := sSeq (sSet 1 (eIf (eT (eOp gNe (eVar 0) (eFz (eLst (aNil))))) (eFz (eSl (eVar 0) (oNone) (oSome (eD (.int 12))))) (eFz (eLst (aCons (eD (.int 0)) (aNil))))))
    (sSeq (sSet 2 (eLst (aNil)))
    (sSeq (sFor (iEnumB (aCons (eVar 1) (aNil))) (gTupT 2 (gsCons (gN 3) (gsCons (gN 4) (gsNil)))) bl__law_draws_1)
    (sRet (eVar 2))))
noncomputable def m__law_draws : Fn := mkFN 1 6 b__law_draws
theorem en__law_draws {v0 : Vl} {h : Hh} {Q : Vl → Hh → Prop} {E : XP} (w : Ws (b__law_draws [some v0, none, none, none, none, none] h) (fun _ h1 => Q (.d .none) h1) ⟨Q, fun _ _ => False, fun _ _ => False, fun c fs _ h1 => E c fs h1⟩) : Wp (m__law_draws [v0] h) Q E := wp_defN rfl rfl w
noncomputable def b__law_take : Sv := sSeq (sIf (eT (eOp (gInt fGt) (eOp gDG (eVar 0) (eD (.str "cell"))) (eD (.int 0)))) (sSeq (sSet 2 (eOp (gInt fMod) (eOp gDG (eVar 0) (eD (.str "cell"))) (eVar 1)))
    (sSeq (sAsg (gSetD (eVar 0) (eD (.str "cell"))) (eOp (gInt fDiv) (eOp gDG (eVar 0) (eD (.str "cell"))) (eVar 1)))
    (sRet (eVar 2)))) (sNil))
    (sSeq (sAsg (gSetD (eVar 0) (eD (.str "seed"))) (eCall m__law_mixed (aCons (eOp gDG (eVar 0) (eD (.str "seed"))) (aCons (eVar 1) (aNil)))))
    (sRet (eOp (gInt fMod) (eOp (gInt fDiv) (eOp gDG (eVar 0) (eD (.str "seed"))) (eD (.int 7))) (eVar 1))))
noncomputable def m__law_take : Fn := mkF 2 3 b__law_take
theorem en__law_take {v0 v1 : Vl} {h : Hh} {Q : Vl → Hh → Prop} {E : XP} (w : Ws (b__law_take [some v0, some v1, none] h) (fun _ h1 => RetK h.length Q (.d .none) h1) ⟨RetK h.length Q, fun _ _ => False, fun _ _ => False, fun c fs _ h1 => E c fs (h1.take h.length)⟩) : Wp (m__law_take [v0, v1] h) Q E := wp_def rfl rfl w
noncomputable def b__law_share : Sv := sSeq (sPar 2 3 (aCons (eBlt gAbs (aCons (eVar 0) (aNil))) (aCons (eBlt gAbs (aCons (eVar 1) (aNil))) (aNil))))
    (sSeq (sWhile (eT (eOp (gInt fGt) (eVar 3) (eD (.int 0)))) (sPar 2 3 (aCons (eVar 3) (aCons (eOp (gInt fMod) (eVar 2) (eVar 3)) (aNil)))))
    (sSeq (sSet 2 (eIf (eT (eOp (gInt fGt) (eVar 1) (eD (.int 0)))) (eVar 2) (eOp (gInt fSub) (eD (.int 0)) (eVar 2))))
    (sRet (eTup (aCons (eOp (gInt fDiv) (eVar 0) (eVar 2)) (aCons (eOp (gInt fDiv) (eVar 1) (eVar 2)) (aNil)))))))
noncomputable def m__law_share : Fn := mkF 2 4 b__law_share
theorem en__law_share {v0 v1 : Vl} {h : Hh} {Q : Vl → Hh → Prop} {E : XP} (w : Ws (b__law_share [some v0, some v1, none, none] h) (fun _ h1 => RetK h.length Q (.d .none) h1) ⟨RetK h.length Q, fun _ _ => False, fun _ _ => False, fun c fs _ h1 => E c fs (h1.take h.length)⟩) : Wp (m__law_share [v0, v1] h) Q E := wp_def rfl rfl w
noncomputable def b__law_sum : Sv := sRet (eCall m__law_share (aCons (eOp gAdd (eOp (gInt fMul) (eOp gIx (eVar 0) (eD (.int 0))) (eOp gIx (eVar 1) (eD (.int 1)))) (eOp (gInt fMul) (eOp (gInt fMul) (eVar 2) (eOp gIx (eVar 1) (eD (.int 0)))) (eOp gIx (eVar 0) (eD (.int 1))))) (aCons (eOp (gInt fMul) (eOp gIx (eVar 0) (eD (.int 1))) (eOp gIx (eVar 1) (eD (.int 1)))) (aNil))))
noncomputable def m__law_sum : Fn := mkF 3 3 b__law_sum
theorem en__law_sum {v0 v1 v2 : Vl} {h : Hh} {Q : Vl → Hh → Prop} {E : XP} (w : Ws (b__law_sum [some v0, some v1, some v2] h) (fun _ h1 => RetK h.length Q (.d .none) h1) ⟨RetK h.length Q, fun _ _ => False, fun _ _ => False, fun c fs _ h1 => E c fs (h1.take h.length)⟩) : Wp (m__law_sum [v0, v1, v2] h) Q E := wp_def rfl rfl w
noncomputable def b__law_is_less : Sv := sRet (eOp (gInt fLt) (eOp (gInt fMul) (eOp gIx (eVar 0) (eD (.int 0))) (eOp gIx (eVar 1) (eD (.int 1)))) (eOp (gInt fMul) (eOp gIx (eVar 1) (eD (.int 0))) (eOp gIx (eVar 0) (eD (.int 1)))))
noncomputable def m__law_is_less : Fn := mkF 2 2 b__law_is_less
theorem en__law_is_less {v0 v1 : Vl} {h : Hh} {Q : Vl → Hh → Prop} {E : XP} (w : Ws (b__law_is_less [some v0, some v1] h) (fun _ h1 => RetK h.length Q (.d .none) h1) ⟨RetK h.length Q, fun _ _ => False, fun _ _ => False, fun c fs _ h1 => E c fs (h1.take h.length)⟩) : Wp (m__law_is_less [v0, v1] h) Q E := wp_def rfl rfl w
noncomputable def bl__law_names_1 : Sv := sSeq (sSet 9 (eOp gIx (eVar 2) (eOp (gInt fMod) (eOp gAdd (eVar 3) (eOp (gInt fMul) (eVar 4) (eVar 8))) (eD (.int 26)))))
    (sExpr (eMt tyL gApp (eVar 7) (aCons (eIf (eT (eOp gEq (eVar 6) (eD (.int 0)))) (eOp gAdd (eVar 9) (eFz (eSl (eD (.str "maple")) (oNone) (oSome (eCall m__law_take (aCons (eVar 0) (aCons (eD (.int 6)) (aNil)))))))) (eOp gAdd (eVar 5) (eVar 9))) (aNil))))
noncomputable def b__law_names : Sv := sSeq (sSet 2 (eD (.str "abcdefghijklmnopqrstuvwxyz")))
    (sSeq (sPar 3 4 (aCons (eCall m__law_take (aCons (eVar 0) (aCons (eD (.int 26)) (aNil)))) (aCons (eOp gIx (eFz (eLst (aCons (eD (.int 1)) (aCons (eD (.int 3)) (aCons (eD (.int 5)) (aCons (eD (.int 7)) (aCons (eD (.int 9)) (aCons (eD (.int 11)) (aNil))))))))) (eCall m__law_take (aCons (eVar 0) (aCons (eD (.int 6)) (aNil))))) (aNil))))
    (sSeq (sSet 5 (eFz (eSl (eD (.str "zebra")) (oNone) (oSome (eCall m__law_take (aCons (eVar 0) (aCons (eD (.int 6)) (aNil))))))))
    (sSeq (sSet 6 (eCall m__law_take (aCons (eVar 0) (aCons (eD (.int 2)) (aNil)))))
    (sSeq (sSet 7 (eLst (aNil)))
    (sSeq (sFor (iRange1 (aCons (eVar 1) (aNil))) (gN 8) bl__law_names_1)
    (sSeq (sFrz 7)
    (sRet (eVar 7))))))))
noncomputable def m__law_names : Fn := mkF 2 10 b__law_names
theorem en__law_names {v0 v1 : Vl} {h : Hh} {Q : Vl → Hh → Prop} {E : XP} (w : Ws (b__law_names [some v0, some v1, none, none, none, none, none, none, none, none] h) (fun _ h1 => RetK h.length Q (.d .none) h1) ⟨RetK h.length Q, fun _ _ => False, fun _ _ => False, fun c fs _ h1 => E c fs (h1.take h.length)⟩) : Wp (m__law_names [v0, v1] h) Q E := wp_def rfl rfl w
noncomputable def b__law_constant : Sv := sSeq (sPar 1 2 (aCons (eOp (gInt fSub) (eCall m__law_take (aCons (eVar 0) (aCons (eD (.int 61)) (aNil)))) (eD (.int 30))) (aCons (eOp gAdd (eD (.int 1)) (eCall m__law_take (aCons (eVar 0) (aCons (eD (.int 12)) (aNil))))) (aNil))))
    (sSeq (sIf (eT (eOp gEq (eCall m__law_take (aCons (eVar 0) (aCons (eD (.int 12)) (aNil)))) (eD (.int 0)))) (sSet 1 (eOp gAdd (eOp (gInt fMul) (eVar 1) (eOp (gInt fPow) (eD (.int 10)) (eD (.int 20)))) (eCall m__law_take (aCons (eVar 0) (aCons (eOp (gInt fPow) (eD (.int 10)) (eD (.int 9))) (aNil)))))) (sNil))
    (sRet (eCall m__law_share (aCons (eVar 1) (aCons (eVar 2) (aNil))))))
noncomputable def m__law_constant : Fn := mkF 1 3 b__law_constant
theorem en__law_constant {v0 : Vl} {h : Hh} {Q : Vl → Hh → Prop} {E : XP} (w : Ws (b__law_constant [some v0, none, none] h) (fun _ h1 => RetK h.length Q (.d .none) h1) ⟨RetK h.length Q, fun _ _ => False, fun _ _ => False, fun c fs _ h1 => E c fs (h1.take h.length)⟩) : Wp (m__law_constant [v0] h) Q E := wp_def rfl rfl w
noncomputable def b__law_exact : Sv := sSeq (sSet 2 (eOp gIx (eVar 0) (eD (.int 0))))
    (sSeq (sIf (eT (eOp gEq (eVar 2) (eD (.str "number")))) (sRet (eOp gIx (eVar 0) (eD (.int 1)))) (sNil))
    (sSeq (sSet 3 (eFz (eLc [4] (iv itQ (eFz (eSl (eVar 0) (oSome (eD (.int 1))) (oNone)))) (gN 4) (tvYes) (eOp gIw (eVar 1) (eVar 4)))))
    (sSeq (sPar 5 6 (aCons (eOp gIx (eVar 3) (eD (.int 0))) (aCons (eOp gIx (eVar 3) (eNeg (eD (.int 1)))) (aNil))))
    (sSeq (sIf (eT (eOp (gIn false) (eVar 2) (eTup (aCons (eD (.str "plus")) (aCons (eD (.str "less")) (aNil)))))) (sRet (eCall m__law_sum (aCons (eVar 5) (aCons (eVar 6) (aCons (eIf (eT (eOp gEq (eVar 2) (eD (.str "plus")))) (eD (.int 1)) (eNeg (eD (.int 1)))) (aNil)))))) (sNil))
    (sSeq (sIf (eT (eOp gEq (eVar 2) (eD (.str "times")))) (sRet (eCall m__law_share (aCons (eOp (gInt fMul) (eOp gIx (eVar 5) (eD (.int 0))) (eOp gIx (eVar 6) (eD (.int 0)))) (aCons (eOp (gInt fMul) (eOp gIx (eVar 5) (eD (.int 1))) (eOp gIx (eVar 6) (eD (.int 1)))) (aNil))))) (sNil))
    (sSeq (sIf (eT (eOp gEq (eVar 2) (eD (.str "over")))) (sRet (eIf (eT (eOp gEq (eOp gIx (eVar 6) (eD (.int 0))) (eD (.int 0)))) (eD .none) (eCall m__law_share (aCons (eOp (gInt fMul) (eOp gIx (eVar 5) (eD (.int 0))) (eOp gIx (eVar 6) (eD (.int 1)))) (aCons (eOp (gInt fMul) (eOp gIx (eVar 5) (eD (.int 1))) (eOp gIx (eVar 6) (eD (.int 0)))) (aNil)))))) (sNil))
    (sSeq (sIf (eT (eOp (gIn false) (eVar 2) (eTup (aCons (eD (.str "turned")) (aCons (eD (.str "size")) (aNil)))))) (sRet (eTup (aCons (eIf (eT (eOp gEq (eVar 2) (eD (.str "size")))) (eBlt gAbs (aCons (eOp gIx (eVar 5) (eD (.int 0))) (aNil))) (eOp (gInt fSub) (eD (.int 0)) (eOp gIx (eVar 5) (eD (.int 0))))) (aCons (eOp gIx (eVar 5) (eD (.int 1))) (aNil))))) (sNil))
    (sSeq (sIf (eT (eOp gEq (eVar 2) (eD (.str "pick")))) (sRet (eIf (eT (eCall m__law_is_less (aCons (eVar 5) (aCons (eOp gIx (eVar 3) (eD (.int 1))) (aNil))))) (eOp gIx (eVar 3) (eD (.int 2))) (eOp gIx (eVar 3) (eD (.int 3))))) (sNil))
    (sRet (eIf (eT (eOp gEq (eCall m__law_is_less (aCons (eVar 6) (aCons (eVar 5) (aNil)))) (eOp gEq (eVar 2) (eD (.str "least"))))) (eVar 6) (eVar 5)))))))))))
noncomputable def m__law_exact : Fn := mkF 2 7 b__law_exact
theorem en__law_exact {v0 v1 : Vl} {h : Hh} {Q : Vl → Hh → Prop} {E : XP} (w : Ws (b__law_exact [some v0, some v1, none, none, none, none, none] h) (fun _ h1 => RetK h.length Q (.d .none) h1) ⟨RetK h.length Q, fun _ _ => False, fun _ _ => False, fun c fs _ h1 => E c fs (h1.take h.length)⟩) : Wp (m__law_exact [v0, v1] h) Q E := wp_def rfl rfl w
noncomputable def bl_law_1 : Sv := sSeq (sSet 9 (eFz (eLc [10] (iRange1 (aCons (eOp gIx (eFz (eLst (aCons (eD (.int 2)) (aCons (eD (.int 2)) (aCons (eD (.int 2)) (aCons (eD (.int 2)) (aCons (eD (.int 1)) (aCons (eD (.int 1)) (aCons (eD (.int 2)) (aCons (eD (.int 2)) (aCons (eD (.int 4)) (aNil)))))))))))) (eVar 7)) (aNil))) (gN 10) (tvYes) (eOp gIx (eVar 3) (eCall m__law_take (aCons (eVar 2) (aCons (eD (.int 4)) (aNil))))))))
    (sExpr (eMt tyL gApp (eVar 6) (aCons (eOp gAdd (eTup (aCons (eVar 8) (aNil))) (eBlt gTuple (aCons (eVar 9) (aNil)))) (aNil))))
noncomputable def bl_law_2 : Sv := sIf (tvOr (eT (eOp gNe (eBlt gRepr (aCons (eCall m_exact (aCons (eVar 12) (aCons (eVar 11) (aNil)))) (aNil))) (eBlt gRepr (aCons (eCall m__law_exact (aCons (eVar 12) (aCons (eVar 4) (aNil)))) (aNil))))) (eT (eOp gNeDD (eVar 11) (eVar 4)))) (sRet (eD (.bool false))) (sNil)
noncomputable def bl_law_3 : Sv := sSeq (sSet 3 (eCall m__law_names (aCons (eVar 2) (aCons (eD (.int 4)) (aNil)))))
    (sSeq (sSet 4 (eBlt gDP (aCons (eFz (eLc [5] (iv itQ (eVar 3)) (gN 5) (tvYes) (eTup (aCons (eVar 5) (aCons (eCall m__law_constant (aCons (eVar 2) (aNil))) (aNil)))))) (aNil))))
    (sSeq (sIf (eT (eOp gEq (eCall m__law_take (aCons (eVar 2) (aCons (eD (.int 3)) (aNil)))) (eD (.int 0)))) (sAsg (gSetD (eVar 4) (eOp gIx (eVar 3) (eD (.int 0)))) (eOp gIw (eVar 4) (eOp gIx (eVar 3) (eD (.int 1))))) (sNil))
    (sSeq (sSet 6 (eLst (aCons (eTup (aCons (eD (.str "number")) (aCons (eCall m__law_constant (aCons (eVar 2) (aNil))) (aNil)))) (aNil))))
    (sSeq (sFor (iEnumB (aCons (eVar 1) (aNil))) (gTupT 2 (gsCons (gN 7) (gsCons (gN 8) (gsNil)))) bl_law_1)
    (sSeq (sFrz 6)
    (sSeq (sSet 11 (eBlt gDC (aCons (eVar 4) (aNil))))
    (sSeq (sFor (iv itQ (eFz (eOp gAdd (eVar 6) (eFz (eRv (eVar 6)))))) (gN 12) bl_law_2)
    (sSeq (sAsg (gSetD (eVar 11) (eOp gIx (eVar 3) (eD (.int 2)))) (eTup (aCons (eD (.int 7)) (aCons (eD (.int 3)) (aNil)))))
    (sSeq (sAsg (gSetD (eVar 4) (eOp gIx (eVar 3) (eD (.int 2)))) (eTup (aCons (eD (.int 7)) (aCons (eD (.int 3)) (aNil)))))
    (sIf (eT (eOp gNe (eFz (eLc [12] (iv itQ (eVar 6)) (gN 12) (tvYes) (eCall m_exact (aCons (eVar 12) (aCons (eVar 11) (aNil)))))) (eFz (eLc [12] (iv itQ (eVar 6)) (gN 12) (tvYes) (eCall m__law_exact (aCons (eVar 12) (aCons (eVar 4) (aNil)))))))) (sRet (eD (.bool false))) (sNil)))))))))))
noncomputable def b_law : Sv := sSeq (sSet 1 (eFz (eLst (aCons (eD (.str "plus")) (aCons (eD (.str "less")) (aCons (eD (.str "times")) (aCons (eD (.str "over")) (aCons (eD (.str "turned")) (aCons (eD (.str "size")) (aCons (eD (.str "least")) (aCons (eD (.str "most")) (aCons (eD (.str "pick")) (aNil)))))))))))))
    (sSeq (sForR (eCall m__law_draws (aCons (eVar 0) (aNil))) (gN 2) bl_law_3)
    (sRet (eOp gIsN (eCall m_exact (aCons (eTup (aCons (eD (.str "over")) (aCons (eD (.str "a")) (aCons (eD (.str "b")) (aNil))))) (aCons (eDct (pCons (eD (.str "a")) (eTup (aCons (eD (.int 1)) (aCons (eD (.int 2)) (aNil)))) (pCons (eD (.str "b")) (eTup (aCons (eD (.int 0)) (aCons (eD (.int 1)) (aNil)))) (pNil)))) (aNil)))) (eD .none))))
noncomputable def m_law : Fn := mkF 1 13 b_law
theorem en_law {v0 : Vl} {h : Hh} {Q : Vl → Hh → Prop} {E : XP} (w : Ws (b_law [some v0, none, none, none, none, none, none, none, none, none, none, none, none] h) (fun _ h1 => RetK h.length Q (.d .none) h1) ⟨RetK h.length Q, fun _ _ => False, fun _ _ => False, fun c fs _ h1 => E c fs (h1.take h.length)⟩) : Wp (m_law [v0] h) Q E := wp_def rfl rfl w
structure Top (K : PySem.W.Frag) (mg : Str → Option Value) : Prop where
  f_abs : mg "abs" = none
  f_dict : mg "dict" = none
  f_enumerate : mg "enumerate" = none
  f_range : mg "range" = none
  f_repr : mg "repr" = none
  f_sum : mg "sum" = none
  f_tuple : mg "tuple" = none
  c_NOUGHT : GConst K mg "NOUGHT" c_NOUGHT
  v_greater : GConst K mg "greater" (fnD "greater")
  v_less : GConst K mg "less" (fnD "less")
  v_lesser : GConst K mg "lesser" (fnD "lesser")
  v_plus : GConst K mg "plus" (fnD "plus")
  v_times : GConst K mg "times" (fnD "times")
section
variable {P : Program} {w : World} {K : PySem.W.Frag} {mg : Str → Option Value} {base : Heap}
theorem sc_shared : FnScope ["one", "other"] ["one", "other"] (defScope s_shared) := ⟨rfl, rfl, rfl, by decide +kernel, rfl, by decide +kernel, by decide +kernel⟩
theorem ok_shared {f : Addr} {fd : FuncData} (T : Top K mg)   (F : FnP K "shared" s_shared f fd) (g : mg "shared" = some (.ref f)) : Df P w K mg base 1 "shared" ["one", "other"] m_shared :=
  have nd := sc_shared.nd
  df_of (kk := 2) (NN := 2) (body := b_shared) F g sc_shared rfl rfl (fun _ _ _ _ _ _ _ us hl => match us, hl with | [_, _], _ => rfl) fun cdv A outer s H E hr =>
    ess_cons (es_set (i := 0) nd (ee_blt call_abs ok_abs (by rfl) T.f_abs (by decide +kernel) (ea_cons (ee_var 0) (ea_nil))))
    (ess_cons (es_set (i := 1) nd (ee_blt call_abs ok_abs (by rfl) T.f_abs (by decide +kernel) (ea_cons (ee_var 1) (ea_nil))))
    (ess_cons (es_while po_of (et_cmp op_gt ok_gt (ee_var 1) (ee_int) (nomark _)) (ess_one (es_par (i := 0) (j := 1) rfl nd (ea_cons (ee_var 1) (ea_cons (ee_op op_modN ok_mod (ee_var 0) (ee_var 1)) (ea_nil))))))
    (ess_one (es_ret (ee_var 0)))))
theorem sc_fraction : FnScope ["above", "below", "part"] ["above", "below"] (defScope s_fraction) := ⟨rfl, rfl, rfl, by decide +kernel, rfl, by decide +kernel, by decide +kernel⟩
theorem ok_fraction {f : Addr} {fd : FuncData} (T : Top K mg)  (D_shared : Df P w K mg base 1 "shared" ["one", "other"] m_shared) (F : FnP K "fraction" s_fraction f fd) (g : mg "fraction" = some (.ref f)) : Df P w K mg base 2 "fraction" ["above", "below"] m_fraction :=
  have nd := sc_fraction.nd
  df_of (kk := 2) (NN := 3) (body := b_fraction) F g sc_fraction rfl rfl (fun _ _ _ _ _ _ _ us hl => match us, hl with | [_, _], _ => rfl) fun cdv A outer s H E hr =>
    ess_cons (es_set (i := 2) nd (ec D_shared hr tk_of (ea_cons (ee_var 0) (ea_cons (ee_var 1) (ea_nil)))))
    (ess_cons (es_if (et_cmp op_lt ok_lt (ee_var 1) (ee_int) (nomark _)) (ess_one (es_set (i := 2) nd (ee_op op_sub ok_sub (ee_int) (ee_var 2)))) (ess_nil))
    (ess_one (es_ret (ee_tup (ea_cons (ee_op op_fdivC ok_div (ee_var 0) (ee_var 2)) (ea_cons (ee_op op_fdivC ok_div (ee_var 1) (ee_var 2)) (ea_nil)))))))
theorem sc_plus : FnScope ["one", "other"] ["one", "other"] (defScope s_plus) := ⟨rfl, rfl, rfl, by decide +kernel, rfl, by decide +kernel, by decide +kernel⟩
theorem ok_plus {f : Addr} {fd : FuncData} (T : Top K mg)  (D_fraction : Df P w K mg base 2 "fraction" ["above", "below"] m_fraction) (F : FnP K "plus" s_plus f fd) (g : mg "plus" = some (.ref f)) : Df P w K mg base 3 "plus" ["one", "other"] m_plus :=
  have nd := sc_plus.nd
  df_of (kk := 2) (NN := 2) (body := b_plus) F g sc_plus rfl rfl (fun _ _ _ _ _ _ _ us hl => match us, hl with | [_, _], _ => rfl) fun cdv A outer s H E hr =>
    ess_one (es_ret (ec D_fraction hr tk_of (ea_cons (ee_op op_addA ok_add (ee_op op_mulC ok_mul (ee_ix (ee_var 0) (ee_int)) (ee_ix (ee_var 1) (ee_int))) (ee_op op_mulC ok_mul (ee_ix (ee_var 1) (ee_int)) (ee_ix (ee_var 0) (ee_int)))) (ea_cons (ee_op op_mulC ok_mul (ee_ix (ee_var 0) (ee_int)) (ee_ix (ee_var 1) (ee_int))) (ea_nil)))))
theorem sc_turned : FnScope ["one"] ["one"] (defScope s_turned) := ⟨rfl, rfl, rfl, by decide +kernel, rfl, by decide +kernel, by decide +kernel⟩
theorem ok_turned {f : Addr} {fd : FuncData} (T : Top K mg)   (F : FnP K "turned" s_turned f fd) (g : mg "turned" = some (.ref f)) : Df P w K mg base 1 "turned" ["one"] m_turned :=
  have nd := sc_turned.nd
  df_of (kk := 1) (NN := 1) (body := b_turned) F g sc_turned rfl rfl (fun _ _ _ _ _ _ _ us hl => match us, hl with | [_], _ => rfl) fun cdv A outer s H E hr =>
    ess_one (es_ret (ee_tup (ea_cons (ee_op op_sub ok_sub (ee_int) (ee_ix (ee_var 0) (ee_int))) (ea_cons (ee_ix (ee_var 0) (ee_int)) (ea_nil)))))
theorem sc_less : FnScope ["one", "other"] ["one", "other"] (defScope s_less) := ⟨rfl, rfl, rfl, by decide +kernel, rfl, by decide +kernel, by decide +kernel⟩
theorem ok_less {f : Addr} {fd : FuncData} (T : Top K mg)  (D_plus : Df P w K mg base 3 "plus" ["one", "other"] m_plus) (D_turned : Df P w K mg base 1 "turned" ["one"] m_turned) (F : FnP K "less" s_less f fd) (g : mg "less" = some (.ref f)) : Df P w K mg base 4 "less" ["one", "other"] m_less :=
  have nd := sc_less.nd
  df_of (kk := 2) (NN := 2) (body := b_less) F g sc_less rfl rfl (fun _ _ _ _ _ _ _ us hl => match us, hl with | [_, _], _ => rfl) fun cdv A outer s H E hr =>
    ess_one (es_ret (ec D_plus hr tk_of (ea_cons (ee_var 0) (ea_cons (ec D_turned hr tk_of (ea_cons (ee_var 1) (ea_nil))) (ea_nil)))))
theorem sc_times : FnScope ["one", "other"] ["one", "other"] (defScope s_times) := ⟨rfl, rfl, rfl, by decide +kernel, rfl, by decide +kernel, by decide +kernel⟩
theorem ok_times {f : Addr} {fd : FuncData} (T : Top K mg)  (D_fraction : Df P w K mg base 2 "fraction" ["above", "below"] m_fraction) (F : FnP K "times" s_times f fd) (g : mg "times" = some (.ref f)) : Df P w K mg base 3 "times" ["one", "other"] m_times :=
  have nd := sc_times.nd
  df_of (kk := 2) (NN := 2) (body := b_times) F g sc_times rfl rfl (fun _ _ _ _ _ _ _ us hl => match us, hl with | [_, _], _ => rfl) fun cdv A outer s H E hr =>
    ess_one (es_ret (ec D_fraction hr tk_of (ea_cons (ee_op op_mulC ok_mul (ee_ix (ee_var 0) (ee_int)) (ee_ix (ee_var 1) (ee_int))) (ea_cons (ee_op op_mulC ok_mul (ee_ix (ee_var 0) (ee_int)) (ee_ix (ee_var 1) (ee_int))) (ea_nil)))))
theorem sc_over : FnScope ["one", "other"] ["one", "other"] (defScope s_over) := ⟨rfl, rfl, rfl, by decide +kernel, rfl, by decide +kernel, by decide +kernel⟩
theorem ok_over {f : Addr} {fd : FuncData} (T : Top K mg)  (D_fraction : Df P w K mg base 2 "fraction" ["above", "below"] m_fraction) (F : FnP K "over" s_over f fd) (g : mg "over" = some (.ref f)) : Df P w K mg base 3 "over" ["one", "other"] m_over :=
  have nd := sc_over.nd
  df_of (kk := 2) (NN := 2) (body := b_over) F g sc_over rfl rfl (fun _ _ _ _ _ _ _ us hl => match us, hl with | [_, _], _ => rfl) fun cdv A outer s H E hr =>
    ess_one (es_ret (ec D_fraction hr tk_of (ea_cons (ee_op op_mulC ok_mul (ee_ix (ee_var 0) (ee_int)) (ee_ix (ee_var 1) (ee_int))) (ea_cons (ee_op op_mulC ok_mul (ee_ix (ee_var 0) (ee_int)) (ee_ix (ee_var 1) (ee_int))) (ea_nil)))))
theorem sc_size_of : FnScope ["one"] ["one"] (defScope s_size_of) := ⟨rfl, rfl, rfl, by decide +kernel, rfl, by decide +kernel, by decide +kernel⟩
theorem ok_size_of {f : Addr} {fd : FuncData} (T : Top K mg)   (F : FnP K "size_of" s_size_of f fd) (g : mg "size_of" = some (.ref f)) : Df P w K mg base 1 "size_of" ["one"] m_size_of :=
  have nd := sc_size_of.nd
  df_of (kk := 1) (NN := 1) (body := b_size_of) F g sc_size_of rfl rfl (fun _ _ _ _ _ _ _ us hl => match us, hl with | [_], _ => rfl) fun cdv A outer s H E hr =>
    ess_one (es_ret (ee_tup (ea_cons (ee_blt call_abs ok_abs (by rfl) T.f_abs (by decide +kernel) (ea_cons (ee_ix (ee_var 0) (ee_int)) (ea_nil))) (ea_cons (ee_ix (ee_var 0) (ee_int)) (ea_nil)))))
theorem sc_is_less : FnScope ["one", "other"] ["one", "other"] (defScope s_is_less) := ⟨rfl, rfl, rfl, by decide +kernel, rfl, by decide +kernel, by decide +kernel⟩
theorem ok_is_less {f : Addr} {fd : FuncData} (T : Top K mg)   (F : FnP K "is_less" s_is_less f fd) (g : mg "is_less" = some (.ref f)) : Df P w K mg base 1 "is_less" ["one", "other"] m_is_less :=
  have nd := sc_is_less.nd
  df_of (kk := 2) (NN := 2) (body := b_is_less) F g sc_is_less rfl rfl (fun _ _ _ _ _ _ _ us hl => match us, hl with | [_, _], _ => rfl) fun cdv A outer s H E hr =>
    ess_one (es_ret (ee_cmp op_lt ok_lt (ee_op op_mulC ok_mul (ee_ix (ee_var 0) (ee_int)) (ee_ix (ee_var 1) (ee_int))) (ee_op op_mulC ok_mul (ee_ix (ee_var 1) (ee_int)) (ee_ix (ee_var 0) (ee_int))) (nomark _)))
theorem sc_lesser : FnScope ["one", "other"] ["one", "other"] (defScope s_lesser) := ⟨rfl, rfl, rfl, by decide +kernel, rfl, by decide +kernel, by decide +kernel⟩
theorem ok_lesser {f : Addr} {fd : FuncData} (T : Top K mg)  (D_is_less : Df P w K mg base 1 "is_less" ["one", "other"] m_is_less) (F : FnP K "lesser" s_lesser f fd) (g : mg "lesser" = some (.ref f)) : Df P w K mg base 2 "lesser" ["one", "other"] m_lesser :=
  have nd := sc_lesser.nd
  df_of (kk := 2) (NN := 2) (body := b_lesser) F g sc_lesser rfl rfl (fun _ _ _ _ _ _ _ us hl => match us, hl with | [_, _], _ => rfl) fun cdv A outer s H E hr =>
    ess_one (es_ret (ee_ifExp (et_val (ec D_is_less hr tk_of (ea_cons (ee_var 1) (ea_cons (ee_var 0) (ea_nil))))) (ee_var 1) (ee_var 0)))
theorem sc_greater : FnScope ["one", "other"] ["one", "other"] (defScope s_greater) := ⟨rfl, rfl, rfl, by decide +kernel, rfl, by decide +kernel, by decide +kernel⟩
theorem ok_greater {f : Addr} {fd : FuncData} (T : Top K mg)  (D_is_less : Df P w K mg base 1 "is_less" ["one", "other"] m_is_less) (F : FnP K "greater" s_greater f fd) (g : mg "greater" = some (.ref f)) : Df P w K mg base 2 "greater" ["one", "other"] m_greater :=
  have nd := sc_greater.nd
  df_of (kk := 2) (NN := 2) (body := b_greater) F g sc_greater rfl rfl (fun _ _ _ _ _ _ _ us hl => match us, hl with | [_, _], _ => rfl) fun cdv A outer s H E hr =>
    ess_one (es_ret (ee_ifExp (et_val (ec D_is_less hr tk_of (ea_cons (ee_var 0) (ea_cons (ee_var 1) (ea_nil))))) (ee_var 1) (ee_var 0)))
theorem sc_exact : FnScope ["work", "known", "word", "one", "other", "pairs"] ["work", "known"] (defScope s_exact) := ⟨rfl, rfl, rfl, by decide +kernel, rfl, by decide +kernel, by decide +kernel⟩
theorem ok_exact {f : Addr} {fd : FuncData} (T : Top K mg)  (D_turned : Df P w K mg base 1 "turned" ["one"] m_turned) (D_size_of : Df P w K mg base 1 "size_of" ["one"] m_size_of) (D_is_less : Df P w K mg base 1 "is_less" ["one", "other"] m_is_less) (D_over : Df P w K mg base 3 "over" ["one", "other"] m_over) (D_greater : Df P w K mg base 2 "greater" ["one", "other"] m_greater) (D_lesser : Df P w K mg base 2 "lesser" ["one", "other"] m_lesser) (D_times : Df P w K mg base 3 "times" ["one", "other"] m_times) (D_less : Df P w K mg base 4 "less" ["one", "other"] m_less) (D_plus : Df P w K mg base 3 "plus" ["one", "other"] m_plus) (F : FnP K "exact" s_exact f fd) (g : mg "exact" = some (.ref f)) : Df P w K mg base 5 "exact" ["work", "known"] m_exact :=
  have nd := sc_exact.nd
  df_of (kk := 2) (NN := 6) (body := b_exact) F g sc_exact rfl rfl (fun _ _ _ _ _ _ _ us hl => match us, hl with | [_, _], _ => rfl) fun cdv A outer s H E hr =>
    ess_cons (es_set (i := 2) nd (ee_ix (ee_var 0) (ee_int)))
    (ess_cons (es_if (et_cmp (OpR.or op_eq (op_eqD hr.units)) ok_eq (ee_var 2) (ee_str) (nomark _)) (ess_one (es_ret (ee_ix (ee_var 0) (ee_int)))) (ess_nil))
    (ess_cons (es_set (i := 3) nd (ee_iw hr.units (ee_var 1) (ee_ix (ee_var 0) (ee_int))))
    (ess_cons (es_if (et_cmp (OpR.or op_eq (op_eqD hr.units)) ok_eq (ee_var 2) (ee_str) (nomark _)) (ess_one (es_ret (ec D_turned hr tk_of (ea_cons (ee_var 3) (ea_nil))))) (ess_nil))
    (ess_cons (es_if (et_cmp (OpR.or op_eq (op_eqD hr.units)) ok_eq (ee_var 2) (ee_str) (nomark _)) (ess_one (es_ret (ec D_size_of hr tk_of (ea_cons (ee_var 3) (ea_nil))))) (ess_nil))
    (ess_cons (es_set (i := 4) nd (ee_iw hr.units (ee_var 1) (ee_ix (ee_var 0) (ee_int))))
    (ess_cons (es_if (et_cmp (OpR.or op_eq (op_eqD hr.units)) ok_eq (ee_var 2) (ee_str) (nomark _)) (ess_one (es_ret (ee_ifExp (et_val (ec D_is_less hr tk_of (ea_cons (ee_var 3) (ea_cons (ee_var 4) (ea_nil))))) (ee_iw hr.units (ee_var 1) (ee_ix (ee_var 0) (ee_int))) (ee_iw hr.units (ee_var 1) (ee_ix (ee_var 0) (ee_int)))))) (ess_nil))
    (ess_cons (es_if (et_cmp (OpR.or op_eq (op_eqD hr.units)) ok_eq (ee_var 2) (ee_str) (nomark _)) (ess_one (es_ret (ee_ifExp (et_cmp (OpR.or op_eq (op_eqD hr.units)) ok_eq (ee_var 4) (eg T.c_NOUGHT) (nomark _)) (ee_non) (ec D_over hr tk_of (ea_cons (ee_var 3) (ea_cons (ee_var 4) (ea_nil))))))) (ess_nil))
    (ess_cons (es_set (i := 5) nd (ee_dct (ep_cons (ee_str) (eg T.v_plus) (ep_cons (ee_str) (eg T.v_less) (ep_cons (ee_str) (eg T.v_times) (ep_cons (ee_str) (eg T.v_lesser) (ep_cons (ee_str) (eg T.v_greater) (ep_nil))))))))
    (ess_one (es_ret (ee_callF (cf_cons T.v_plus D_plus (cf_cons T.v_less D_less (cf_cons T.v_times D_times (cf_cons T.v_lesser D_lesser (cf_cons T.v_greater D_greater (cf_nil)))))) hr tk_of (ee_iw hr.units (ee_var 5) (ee_var 2)) (ea_cons (ee_var 3) (ea_cons (ee_var 4) (ea_nil))))))))))))))
theorem sc__law_mixed : FnScope ["_law_number", "_law_k"] ["_law_number", "_law_k"] (defScope s__law_mixed) := ⟨rfl, rfl, rfl, by decide +kernel, rfl, by decide +kernel, by decide +kernel⟩
theorem ok__law_mixed {f : Addr} {fd : FuncData} (T : Top K mg)   (F : FnP K "_law_mixed" s__law_mixed f fd) (g : mg "_law_mixed" = some (.ref f)) : Df P w K mg base 1 "_law_mixed" ["_law_number", "_law_k"] m__law_mixed :=
  have nd := sc__law_mixed.nd
  df_of (kk := 2) (NN := 2) (body := b__law_mixed) F g sc__law_mixed rfl rfl (fun _ _ _ _ _ _ _ us hl => match us, hl with | [_, _], _ => rfl) fun cdv A outer s H E hr =>
    ess_cons (es_set (i := 0) nd (ee_op op_modN ok_mod (ee_op op_mulC ok_mul (ee_op op_addA ok_add (ee_op op_addA ok_add (ee_op op_addA ok_add (ee_op op_modN ok_mod (ee_var 0) (ee_int)) (ee_op op_mulC ok_mul (ee_op op_mulC ok_mul (ee_int) (ee_var 1)) (ee_var 1))) (ee_op op_mulC ok_mul (ee_int) (ee_var 1))) (ee_int)) (ee_int)) (ee_int)))
    (ess_one (es_ret (ee_op op_modN ok_mod (ee_op op_mulC ok_mul (ee_var 0) (ee_int)) (ee_int))))
theorem sc__law_draws : FnScope ["_law_script", "_law_cells", "_law_found", "_law_k", "_law_cell", "_law_whole"] ["_law_script"] (defScope s__law_draws) := ⟨rfl, rfl, rfl, by decide +kernel, rfl, by decide +kernel, by decide +kernel⟩
theorem ok__law_draws {f : Addr} {fd : FuncData} (T : Top K mg)  (D__law_mixed : Df P w K mg base 1 "_law_mixed" ["_law_number", "_law_k"] m__law_mixed) (F : FnP K "_law_draws" s__law_draws f fd) (g : mg "_law_draws" = some (.ref f)) : Df P w K mg base 2 "_law_draws" ["_law_script"] m__law_draws :=
  have nd := sc__law_draws.nd
  dfN_of (kk := 1) (NN := 6) (body := b__law_draws) F g sc__law_draws rfl rfl (fun _ _ _ _ _ _ _ us hl => match us, hl with | [_], _ => rfl) fun cdv A outer s H E hr =>
    ess_cons (es_set (i := 1) nd (ee_ifExp (et_cmp (OpR.or op_ne (op_neD hr.units)) ok_ne (ee_var 0) (ee_fz (ee_lst (ea_nil))) (nomark _)) (ee_fz (ee_slice (ee_var 0) (eo_none) (eo_some (ee_int)))) (ee_fz (ee_lst (ea_cons (ee_int) (ea_nil))))))
    (ess_cons (es_set (i := 2) nd (ee_lst (ea_nil)))
    (ess_cons (es_for (fb := bl__law_draws_1) po_of rfl (ei_enumB (by rfl) T.f_enumerate (ea_cons (ee_var 1) (ea_nil))) (eg_tup rfl (egs_cons (eg_name (i := 3) nd) (egs_cons (eg_name (i := 4) nd) (egs_nil)))) (ess_cons (es_set (i := 5) nd (ee_op op_addA ok_add (ee_var 4) (ee_op op_mulC ok_mul (ee_int) (ee_blt (cr_sum rfl) ok_sum (by rfl) T.f_sum (by decide +kernel) (ea_cons (ee_fz (ee_step (ee_var 0) (eo_some (ee_op op_addA ok_add (ee_int) (ee_var 3))) (eo_none) (eo_some (ee_int)))) (ea_nil))))))
    (ess_one (es_appR (ee_var 2) (ee_dct (ep_cons (ee_str) (ee_ifExp (et_cmp op_ge ok_ge (ee_var 4) (ee_op op_pow ok_pow (ee_int) (ee_int)) (nomark _)) (ee_var 4) (ee_int)) (ep_cons (ee_str) (ec D__law_mixed hr tk_of (ea_cons (ee_var 5) (ea_cons (ee_op op_addA ok_add (ee_var 3) (ee_int)) (ea_nil)))) (ep_nil))))))))
    (ess_one (es_ret (ee_var 2)))))
theorem sc__law_take : FnScope ["_law_draw", "_law_many", "_law_found"] ["_law_draw", "_law_many"] (defScope s__law_take) := ⟨rfl, rfl, rfl, by decide +kernel, rfl, by decide +kernel, by decide +kernel⟩
theorem ok__law_take {f : Addr} {fd : FuncData} (T : Top K mg)  (D__law_mixed : Df P w K mg base 1 "_law_mixed" ["_law_number", "_law_k"] m__law_mixed) (F : FnP K "_law_take" s__law_take f fd) (g : mg "_law_take" = some (.ref f)) : Df P w K mg base 2 "_law_take" ["_law_draw", "_law_many"] m__law_take :=
  have nd := sc__law_take.nd
  df_of (kk := 2) (NN := 3) (body := b__law_take) F g sc__law_take rfl rfl (fun _ _ _ _ _ _ _ us hl => match us, hl with | [_, _], _ => rfl) fun cdv A outer s H E hr =>
    ess_cons (es_if (et_cmp op_gt ok_gt (ee_dg hr.units (ee_var 0) (ee_str)) (ee_int) (nomark _)) (ess_cons (es_set (i := 2) nd (ee_op op_modN ok_mod (ee_dg hr.units (ee_var 0) (ee_str)) (ee_var 1)))
    (ess_cons (es_dput hr.units (ee_var 0) (ee_str) (ee_op op_fdivC ok_div (ee_dg hr.units (ee_var 0) (ee_str)) (ee_var 1)))
    (ess_one (es_ret (ee_var 2))))) (ess_nil))
    (ess_cons (es_dput hr.units (ee_var 0) (ee_str) (ec D__law_mixed hr tk_of (ea_cons (ee_dg hr.units (ee_var 0) (ee_str)) (ea_cons (ee_var 1) (ea_nil)))))
    (ess_one (es_ret (ee_op op_modN ok_mod (ee_op op_fdivC ok_div (ee_dg hr.units (ee_var 0) (ee_str)) (ee_int)) (ee_var 1)))))
theorem sc__law_share : FnScope ["_law_above", "_law_below", "_law_one", "_law_other"] ["_law_above", "_law_below"] (defScope s__law_share) := ⟨rfl, rfl, rfl, by decide +kernel, rfl, by decide +kernel, by decide +kernel⟩
theorem ok__law_share {f : Addr} {fd : FuncData} (T : Top K mg)   (F : FnP K "_law_share" s__law_share f fd) (g : mg "_law_share" = some (.ref f)) : Df P w K mg base 1 "_law_share" ["_law_above", "_law_below"] m__law_share :=
  have nd := sc__law_share.nd
  df_of (kk := 2) (NN := 4) (body := b__law_share) F g sc__law_share rfl rfl (fun _ _ _ _ _ _ _ us hl => match us, hl with | [_, _], _ => rfl) fun cdv A outer s H E hr =>
    ess_cons (es_par (i := 2) (j := 3) rfl nd (ea_cons (ee_blt call_abs ok_abs (by rfl) T.f_abs (by decide +kernel) (ea_cons (ee_var 0) (ea_nil))) (ea_cons (ee_blt call_abs ok_abs (by rfl) T.f_abs (by decide +kernel) (ea_cons (ee_var 1) (ea_nil))) (ea_nil))))
    (ess_cons (es_while po_of (et_cmp op_gt ok_gt (ee_var 3) (ee_int) (nomark _)) (ess_one (es_par (i := 2) (j := 3) rfl nd (ea_cons (ee_var 3) (ea_cons (ee_op op_modN ok_mod (ee_var 2) (ee_var 3)) (ea_nil))))))
    (ess_cons (es_set (i := 2) nd (ee_ifExp (et_cmp op_gt ok_gt (ee_var 1) (ee_int) (nomark _)) (ee_var 2) (ee_op op_sub ok_sub (ee_int) (ee_var 2))))
    (ess_one (es_ret (ee_tup (ea_cons (ee_op op_fdivC ok_div (ee_var 0) (ee_var 2)) (ea_cons (ee_op op_fdivC ok_div (ee_var 1) (ee_var 2)) (ea_nil))))))))
theorem sc__law_sum : FnScope ["_law_one", "_law_other", "_law_sign"] ["_law_one", "_law_other", "_law_sign"] (defScope s__law_sum) := ⟨rfl, rfl, rfl, by decide +kernel, rfl, by decide +kernel, by decide +kernel⟩
theorem ok__law_sum {f : Addr} {fd : FuncData} (T : Top K mg)  (D__law_share : Df P w K mg base 1 "_law_share" ["_law_above", "_law_below"] m__law_share) (F : FnP K "_law_sum" s__law_sum f fd) (g : mg "_law_sum" = some (.ref f)) : Df P w K mg base 2 "_law_sum" ["_law_one", "_law_other", "_law_sign"] m__law_sum :=
  have nd := sc__law_sum.nd
  df_of (kk := 3) (NN := 3) (body := b__law_sum) F g sc__law_sum rfl rfl (fun _ _ _ _ _ _ _ us hl => match us, hl with | [_, _, _], _ => rfl) fun cdv A outer s H E hr =>
    ess_one (es_ret (ec D__law_share hr tk_of (ea_cons (ee_op op_addA ok_add (ee_op op_mulC ok_mul (ee_ix (ee_var 0) (ee_int)) (ee_ix (ee_var 1) (ee_int))) (ee_op op_mulC ok_mul (ee_op op_mulC ok_mul (ee_var 2) (ee_ix (ee_var 1) (ee_int))) (ee_ix (ee_var 0) (ee_int)))) (ea_cons (ee_op op_mulC ok_mul (ee_ix (ee_var 0) (ee_int)) (ee_ix (ee_var 1) (ee_int))) (ea_nil)))))
theorem sc__law_is_less : FnScope ["_law_one", "_law_other"] ["_law_one", "_law_other"] (defScope s__law_is_less) := ⟨rfl, rfl, rfl, by decide +kernel, rfl, by decide +kernel, by decide +kernel⟩
theorem ok__law_is_less {f : Addr} {fd : FuncData} (T : Top K mg)   (F : FnP K "_law_is_less" s__law_is_less f fd) (g : mg "_law_is_less" = some (.ref f)) : Df P w K mg base 1 "_law_is_less" ["_law_one", "_law_other"] m__law_is_less :=
  have nd := sc__law_is_less.nd
  df_of (kk := 2) (NN := 2) (body := b__law_is_less) F g sc__law_is_less rfl rfl (fun _ _ _ _ _ _ _ us hl => match us, hl with | [_, _], _ => rfl) fun cdv A outer s H E hr =>
    ess_one (es_ret (ee_cmp op_lt ok_lt (ee_op op_mulC ok_mul (ee_ix (ee_var 0) (ee_int)) (ee_ix (ee_var 1) (ee_int))) (ee_op op_mulC ok_mul (ee_ix (ee_var 1) (ee_int)) (ee_ix (ee_var 0) (ee_int))) (nomark _)))
theorem sc__law_names : FnScope ["_law_draw", "_law_many", "_law_letters", "_law_first", "_law_step", "_law_same", "_law_way", "_law_found", "_law_k", "_law_sign"] ["_law_draw", "_law_many"] (defScope s__law_names) := ⟨rfl, rfl, rfl, by decide +kernel, rfl, by decide +kernel, by decide +kernel⟩
theorem ok__law_names {f : Addr} {fd : FuncData} (T : Top K mg)  (D__law_take : Df P w K mg base 2 "_law_take" ["_law_draw", "_law_many"] m__law_take) (F : FnP K "_law_names" s__law_names f fd) (g : mg "_law_names" = some (.ref f)) : Df P w K mg base 3 "_law_names" ["_law_draw", "_law_many"] m__law_names :=
  have nd := sc__law_names.nd
  df_of (kk := 2) (NN := 10) (body := b__law_names) F g sc__law_names rfl rfl (fun _ _ _ _ _ _ _ us hl => match us, hl with | [_, _], _ => rfl) fun cdv A outer s H E hr =>
    ess_cons (es_set (i := 2) nd (ee_str))
    (ess_cons (es_par (i := 3) (j := 4) rfl nd (ea_cons (ec D__law_take hr tk_of (ea_cons (ee_var 0) (ea_cons (ee_int) (ea_nil)))) (ea_cons (ee_ix (ee_fz (ee_lst (ea_cons (ee_int) (ea_cons (ee_int) (ea_cons (ee_int) (ea_cons (ee_int) (ea_cons (ee_int) (ea_cons (ee_int) (ea_nil))))))))) (ec D__law_take hr tk_of (ea_cons (ee_var 0) (ea_cons (ee_int) (ea_nil))))) (ea_nil))))
    (ess_cons (es_set (i := 5) nd (ee_fz (ee_slice (ee_str) (eo_none) (eo_some (ec D__law_take hr tk_of (ea_cons (ee_var 0) (ea_cons (ee_int) (ea_nil))))))))
    (ess_cons (es_set (i := 6) nd (ec D__law_take hr tk_of (ea_cons (ee_var 0) (ea_cons (ee_int) (ea_nil)))))
    (ess_cons (es_set (i := 7) nd (ee_lst (ea_nil)))
    (ess_cons (es_for (fb := bl__law_names_1) po_of rfl (ei_range1 (by rfl) T.f_range (ea_cons (ee_var 1) (ea_nil))) (eg_name (i := 8) nd) (ess_cons (es_set (i := 9) nd (ee_ix (ee_var 2) (ee_op op_modN ok_mod (ee_op op_addA ok_add (ee_var 3) (ee_op op_mulC ok_mul (ee_var 4) (ee_var 8))) (ee_int))))
    (ess_one (es_expr (ee_mt PySem.F.plainAttrs_list PySem.F.slot_list_append PySem.F.type_list_append mt_append tyL_ok ok_app (ee_var 7) (ea_cons (ee_ifExp (et_cmp (OpR.or op_eq (op_eqD hr.units)) ok_eq (ee_var 6) (ee_int) (nomark _)) (ee_op op_addA ok_add (ee_var 9) (ee_fz (ee_slice (ee_str) (eo_none) (eo_some (ec D__law_take hr tk_of (ea_cons (ee_var 0) (ea_cons (ee_int) (ea_nil)))))))) (ee_op op_addA ok_add (ee_var 5) (ee_var 9))) (ea_nil)))))))
    (ess_frz 7 (ess_one (es_ret (ee_var 7)))))))))
theorem sc__law_constant : FnScope ["_law_draw", "_law_above", "_law_below"] ["_law_draw"] (defScope s__law_constant) := ⟨rfl, rfl, rfl, by decide +kernel, rfl, by decide +kernel, by decide +kernel⟩
theorem ok__law_constant {f : Addr} {fd : FuncData} (T : Top K mg)  (D__law_take : Df P w K mg base 2 "_law_take" ["_law_draw", "_law_many"] m__law_take) (D__law_share : Df P w K mg base 1 "_law_share" ["_law_above", "_law_below"] m__law_share) (F : FnP K "_law_constant" s__law_constant f fd) (g : mg "_law_constant" = some (.ref f)) : Df P w K mg base 3 "_law_constant" ["_law_draw"] m__law_constant :=
  have nd := sc__law_constant.nd
  df_of (kk := 1) (NN := 3) (body := b__law_constant) F g sc__law_constant rfl rfl (fun _ _ _ _ _ _ _ us hl => match us, hl with | [_], _ => rfl) fun cdv A outer s H E hr =>
    ess_cons (es_par (i := 1) (j := 2) rfl nd (ea_cons (ee_op op_sub ok_sub (ec D__law_take hr tk_of (ea_cons (ee_var 0) (ea_cons (ee_int) (ea_nil)))) (ee_int)) (ea_cons (ee_op op_addA ok_add (ee_int) (ec D__law_take hr tk_of (ea_cons (ee_var 0) (ea_cons (ee_int) (ea_nil))))) (ea_nil))))
    (ess_cons (es_if (et_cmp (OpR.or op_eq (op_eqD hr.units)) ok_eq (ec D__law_take hr tk_of (ea_cons (ee_var 0) (ea_cons (ee_int) (ea_nil)))) (ee_int) (nomark _)) (ess_one (es_set (i := 1) nd (ee_op op_addA ok_add (ee_op op_mulC ok_mul (ee_var 1) (ee_op op_pow ok_pow (ee_int) (ee_int))) (ec D__law_take hr tk_of (ea_cons (ee_var 0) (ea_cons (ee_op op_pow ok_pow (ee_int) (ee_int)) (ea_nil))))))) (ess_nil))
    (ess_one (es_ret (ec D__law_share hr tk_of (ea_cons (ee_var 1) (ea_cons (ee_var 2) (ea_nil)))))))
theorem sc__law_exact : FnScope ["_law_work", "_law_known", "_law_word", "_law_parts", "_law_name", "_law_one", "_law_other"] ["_law_work", "_law_known"] (defScope s__law_exact) := ⟨rfl, rfl, rfl, by decide +kernel, rfl, by decide +kernel, by decide +kernel⟩
theorem ok__law_exact {f : Addr} {fd : FuncData} (T : Top K mg)  (D__law_sum : Df P w K mg base 2 "_law_sum" ["_law_one", "_law_other", "_law_sign"] m__law_sum) (D__law_share : Df P w K mg base 1 "_law_share" ["_law_above", "_law_below"] m__law_share) (D__law_is_less : Df P w K mg base 1 "_law_is_less" ["_law_one", "_law_other"] m__law_is_less) (F : FnP K "_law_exact" s__law_exact f fd) (g : mg "_law_exact" = some (.ref f)) : Df P w K mg base 3 "_law_exact" ["_law_work", "_law_known"] m__law_exact :=
  have nd := sc__law_exact.nd
  df_of (kk := 2) (NN := 7) (body := b__law_exact) F g sc__law_exact rfl rfl (fun _ _ _ _ _ _ _ us hl => match us, hl with | [_, _], _ => rfl) fun cdv A outer s H E hr =>
    ess_cons (es_set (i := 2) nd (ee_ix (ee_var 0) (ee_int)))
    (ess_cons (es_if (et_cmp (OpR.or op_eq (op_eqD hr.units)) ok_eq (ee_var 2) (ee_str) (nomark _)) (ess_one (es_ret (ee_ix (ee_var 0) (ee_int)))) (ess_nil))
    (ess_cons (es_fz (es_setLc (i := 3) [4] [("_law_name", 4)] rfl nd (ei_seq (ee_fz (ee_slice (ee_var 0) (eo_some (ee_int)) (eo_none)))) (blkOk_by (N := ["_law_work", "_law_known", "_law_word", "_law_parts", "_law_name", "_law_one", "_law_other"]) (sc := defScope s__law_exact) (by decide +kernel)) (fun _ _ _ _ _ => egw_name (i := 4) nd) (fun _ _ _ _ _ => ets_nil) (fun _ _ _ _ _ => ee_iw hr.units (ee_var 1) (ee_var 4)) (sw_true rfl rfl rfl (by decide +kernel))))
    (ess_cons (es_par (i := 5) (j := 6) rfl nd (ea_cons (ee_ix (ee_var 3) (ee_int)) (ea_cons (ee_ix (ee_var 3) (ee_neg (ee_int))) (ea_nil))))
    (ess_cons (es_if (et_cmp op_in_seq (ok_in false) (ee_var 2) (ee_tup (ea_cons (ee_str) (ea_cons (ee_str) (ea_nil)))) (by with_unfolding_all rfl)) (ess_one (es_ret (ec D__law_sum hr tk_of (ea_cons (ee_var 5) (ea_cons (ee_var 6) (ea_cons (ee_ifExp (et_cmp (OpR.or op_eq (op_eqD hr.units)) ok_eq (ee_var 2) (ee_str) (nomark _)) (ee_int) (ee_neg (ee_int))) (ea_nil))))))) (ess_nil))
    (ess_cons (es_if (et_cmp (OpR.or op_eq (op_eqD hr.units)) ok_eq (ee_var 2) (ee_str) (nomark _)) (ess_one (es_ret (ec D__law_share hr tk_of (ea_cons (ee_op op_mulC ok_mul (ee_ix (ee_var 5) (ee_int)) (ee_ix (ee_var 6) (ee_int))) (ea_cons (ee_op op_mulC ok_mul (ee_ix (ee_var 5) (ee_int)) (ee_ix (ee_var 6) (ee_int))) (ea_nil)))))) (ess_nil))
    (ess_cons (es_if (et_cmp (OpR.or op_eq (op_eqD hr.units)) ok_eq (ee_var 2) (ee_str) (nomark _)) (ess_one (es_ret (ee_ifExp (et_cmp (OpR.or op_eq (op_eqD hr.units)) ok_eq (ee_ix (ee_var 6) (ee_int)) (ee_int) (nomark _)) (ee_non) (ec D__law_share hr tk_of (ea_cons (ee_op op_mulC ok_mul (ee_ix (ee_var 5) (ee_int)) (ee_ix (ee_var 6) (ee_int))) (ea_cons (ee_op op_mulC ok_mul (ee_ix (ee_var 5) (ee_int)) (ee_ix (ee_var 6) (ee_int))) (ea_nil))))))) (ess_nil))
    (ess_cons (es_if (et_cmp op_in_seq (ok_in false) (ee_var 2) (ee_tup (ea_cons (ee_str) (ea_cons (ee_str) (ea_nil)))) (by with_unfolding_all rfl)) (ess_one (es_ret (ee_tup (ea_cons (ee_ifExp (et_cmp (OpR.or op_eq (op_eqD hr.units)) ok_eq (ee_var 2) (ee_str) (nomark _)) (ee_blt call_abs ok_abs (by rfl) T.f_abs (by decide +kernel) (ea_cons (ee_ix (ee_var 5) (ee_int)) (ea_nil))) (ee_op op_sub ok_sub (ee_int) (ee_ix (ee_var 5) (ee_int)))) (ea_cons (ee_ix (ee_var 5) (ee_int)) (ea_nil)))))) (ess_nil))
    (ess_cons (es_if (et_cmp (OpR.or op_eq (op_eqD hr.units)) ok_eq (ee_var 2) (ee_str) (nomark _)) (ess_one (es_ret (ee_ifExp (et_val (ec D__law_is_less hr tk_of (ea_cons (ee_var 5) (ea_cons (ee_ix (ee_var 3) (ee_int)) (ea_nil))))) (ee_ix (ee_var 3) (ee_int)) (ee_ix (ee_var 3) (ee_int))))) (ess_nil))
    (ess_one (es_ret (ee_ifExp (et_cmp (OpR.or op_eq (op_eqD hr.units)) ok_eq (ec D__law_is_less hr tk_of (ea_cons (ee_var 6) (ea_cons (ee_var 5) (ea_nil)))) (ee_cmp (OpR.or op_eq (op_eqD hr.units)) ok_eq (ee_var 2) (ee_str) (nomark _)) (nomark _)) (ee_var 6) (ee_var 5))))))))))))
theorem sc_law : FnScope ["_law_script", "_law_words", "_law_draw", "_law_names_here", "_law_known", "_law_name", "_law_works", "_law_k", "_law_word", "_law_some", "_law_turn", "_law_handed", "_law_work"] ["_law_script"] (defScope s_law) := ⟨rfl, rfl, rfl, by decide +kernel, rfl, by decide +kernel, by decide +kernel⟩
theorem ok_law {f : Addr} {fd : FuncData} (T : Top K mg)  (D__law_draws : Df P w K mg base 2 "_law_draws" ["_law_script"] m__law_draws) (D__law_names : Df P w K mg base 3 "_law_names" ["_law_draw", "_law_many"] m__law_names) (D__law_constant : Df P w K mg base 3 "_law_constant" ["_law_draw"] m__law_constant) (D__law_take : Df P w K mg base 2 "_law_take" ["_law_draw", "_law_many"] m__law_take) (D_exact : Df P w K mg base 5 "exact" ["work", "known"] m_exact) (D__law_exact : Df P w K mg base 3 "_law_exact" ["_law_work", "_law_known"] m__law_exact) (F : FnP K "law" s_law f fd) : FnG P w K mg base 6 f fd ["_law_script"] (spF K mg m_law) :=
  have nd := sc_law.nd
  law_of (kk := 1) (NN := 13) (body := b_law) F sc_law rfl rfl fun cdv A outer s H E hr =>
    ess_cons (es_set (i := 1) nd (ee_fz (ee_lst (ea_cons (ee_str) (ea_cons (ee_str) (ea_cons (ee_str) (ea_cons (ee_str) (ea_cons (ee_str) (ea_cons (ee_str) (ea_cons (ee_str) (ea_cons (ee_str) (ea_cons (ee_str) (ea_nil)))))))))))))
    (ess_cons (es_forR (fb := bl_law_3) po_of rfl (ec D__law_draws hr tk_of (ea_cons (ee_var 0) (ea_nil))) (eg_name (i := 2) nd) (ess_cons (es_set (i := 3) nd (ec D__law_names hr tk_of (ea_cons (ee_var 2) (ea_cons (ee_int) (ea_nil)))))
    (ess_cons (es_set (i := 4) nd (ee_bltT (call_dictP rfl) ok_dp (by rfl) T.f_dict (by decide +kernel) (ea_cons (ee_fz (ee_lc [5] [("_law_name", 5)] rfl nd (ei_seq (ee_var 3)) (blkOk_by (N := ["_law_script", "_law_words", "_law_draw", "_law_names_here", "_law_known", "_law_name", "_law_works", "_law_k", "_law_word", "_law_some", "_law_turn", "_law_handed", "_law_work"]) (sc := defScope s_law) (by decide +kernel)) (fun _ _ _ _ _ => egw_name (i := 5) nd) (fun _ _ _ _ _ => ets_nil) (fun _ _ _ _ _ => ee_tup (ea_cons (ee_var 5) (ea_cons (ec D__law_constant hr tk_blk (ea_cons (ee_var 2) (ea_nil))) (ea_nil)))))) (ea_nil))))
    (ess_cons (es_if (et_cmp (OpR.or op_eq (op_eqD hr.units)) ok_eq (ec D__law_take hr tk_of (ea_cons (ee_var 2) (ea_cons (ee_int) (ea_nil)))) (ee_int) (nomark _)) (ess_one (es_dput hr.units (ee_var 4) (ee_ix (ee_var 3) (ee_int)) (ee_iw hr.units (ee_var 4) (ee_ix (ee_var 3) (ee_int))))) (ess_nil))
    (ess_cons (es_set (i := 6) nd (ee_lst (ea_cons (ee_tup (ea_cons (ee_str) (ea_cons (ec D__law_constant hr tk_of (ea_cons (ee_var 2) (ea_nil))) (ea_nil)))) (ea_nil))))
    (ess_cons (es_for (fb := bl_law_1) po_of rfl (ei_enumB (by rfl) T.f_enumerate (ea_cons (ee_var 1) (ea_nil))) (eg_tup rfl (egs_cons (eg_name (i := 7) nd) (egs_cons (eg_name (i := 8) nd) (egs_nil)))) (ess_cons (es_fz (es_setLc (i := 9) [10] [("_law_turn", 10)] rfl nd (ei_range1 (by rfl) T.f_range (ea_cons (ee_ix (ee_fz (ee_lst (ea_cons (ee_int) (ea_cons (ee_int) (ea_cons (ee_int) (ea_cons (ee_int) (ea_cons (ee_int) (ea_cons (ee_int) (ea_cons (ee_int) (ea_cons (ee_int) (ea_cons (ee_int) (ea_nil)))))))))))) (ee_var 7)) (ea_nil))) (blkOk_by (N := ["_law_script", "_law_words", "_law_draw", "_law_names_here", "_law_known", "_law_name", "_law_works", "_law_k", "_law_word", "_law_some", "_law_turn", "_law_handed", "_law_work"]) (sc := defScope s_law) (by decide +kernel)) (fun _ _ _ _ _ => egw_name (i := 10) nd) (fun _ _ _ _ _ => ets_nil) (fun _ _ _ _ _ => ee_ix (ee_var 3) (ec D__law_take hr tk_blk (ea_cons (ee_var 2) (ea_cons (ee_int) (ea_nil))))) (sw_true rfl rfl rfl (by decide +kernel))))
    (ess_one (es_expr (ee_mt PySem.F.plainAttrs_list PySem.F.slot_list_append PySem.F.type_list_append mt_append tyL_ok ok_app (ee_var 6) (ea_cons (ee_op op_addA ok_add (ee_tup (ea_cons (ee_var 8) (ea_nil))) (ee_bltT call_tuple_of ok_tuple (by rfl) T.f_tuple (by decide +kernel) (ea_cons (ee_var 9) (ea_nil)))) (ea_nil)))))))
    (ess_frz 6 (ess_cons (es_set (i := 11) nd (ee_bltT call_dictC ok_dc (by rfl) T.f_dict (by decide +kernel) (ea_cons (ee_var 4) (ea_nil))))
    (ess_cons (es_for (fb := bl_law_2) po_of rfl (ei_seq (ee_fz (ee_op op_addA ok_add (ee_var 6) (ee_fz (ee_rv (ee_var 6) (eo_some (ee_neg (ee_int))) (fun _ _ => rfl)))))) (eg_name (i := 12) nd) (ess_one (es_if (EW.et (ew_or (et_cmp (OpR.or op_ne (op_neD hr.units)) ok_ne (ee_blt (call_repr hr.g hr.units) ok_repr (by rfl) T.f_repr (by decide +kernel) (ea_cons (ec D_exact hr tk_of (ea_cons (ee_var 12) (ea_cons (ee_var 11) (ea_nil)))) (ea_nil))) (ee_blt (call_repr hr.g hr.units) ok_repr (by rfl) T.f_repr (by decide +kernel) (ea_cons (ec D__law_exact hr tk_of (ea_cons (ee_var 12) (ea_cons (ee_var 4) (ea_nil)))) (ea_nil))) (nomark _)) (ew_or1 (et_cmp (op_neDD hr.units) ok_neDD (ee_var 11) (ee_var 4) (nomark _))))) (ess_one (es_ret (ee_bl))) (ess_nil))))
    (ess_cons (es_dput hr.units (ee_var 11) (ee_ix (ee_var 3) (ee_int)) (ee_tup (ea_cons (ee_int) (ea_cons (ee_int) (ea_nil)))))
    (ess_cons (es_dput hr.units (ee_var 4) (ee_ix (ee_var 3) (ee_int)) (ee_tup (ea_cons (ee_int) (ea_cons (ee_int) (ea_nil)))))
    (ess_one (es_if (et_cmp (OpR.or op_ne (op_neD hr.units)) ok_ne (ee_fz (ee_lc [12] [("_law_work", 12)] rfl nd (ei_seq (ee_var 6)) (blkOk_by (N := ["_law_script", "_law_words", "_law_draw", "_law_names_here", "_law_known", "_law_name", "_law_works", "_law_k", "_law_word", "_law_some", "_law_turn", "_law_handed", "_law_work"]) (sc := defScope s_law) (by decide +kernel)) (fun _ _ _ _ _ => egw_name (i := 12) nd) (fun _ _ _ _ _ => ets_nil) (fun _ _ _ _ _ => ec D_exact hr tk_blk (ea_cons (ee_var 12) (ea_cons (ee_var 11) (ea_nil)))))) (ee_fz (ee_lc [12] [("_law_work", 12)] rfl nd (ei_seq (ee_var 6)) (blkOk_by (N := ["_law_script", "_law_words", "_law_draw", "_law_names_here", "_law_known", "_law_name", "_law_works", "_law_k", "_law_word", "_law_some", "_law_turn", "_law_handed", "_law_work"]) (sc := defScope s_law) (by decide +kernel)) (fun _ _ _ _ _ => egw_name (i := 12) nd) (fun _ _ _ _ _ => ets_nil) (fun _ _ _ _ _ => ec D__law_exact hr tk_blk (ea_cons (ee_var 12) (ea_cons (ee_var 4) (ea_nil)))))) (nomark _)) (ess_one (es_ret (ee_bl))) (ess_nil))))))))))))))
    (ess_one (es_ret (ee_cmp op_isN ok_isN (ec D_exact hr tk_of (ea_cons (ee_tup (ea_cons (ee_str) (ea_cons (ee_str) (ea_cons (ee_str) (ea_nil))))) (ea_cons (ee_dct (ep_cons (ee_str) (ee_tup (ea_cons (ee_int) (ea_cons (ee_int) (ea_nil)))) (ep_cons (ee_str) (ee_tup (ea_cons (ee_int) (ea_cons (ee_int) (ea_nil)))) (ep_nil)))) (ea_nil)))) (ee_non) (nomark _)))))
end
theorem facts {P : Program} {w : World} {K : PySem.W.Frag} {h : Heap} {mg : Str → Option Value} {f : Addr} (X : K.In h) (G : h.Ns mainGlobals mg) (hfa : mg ("law" : Str) = some (.ref f)) (c : SaysR fa fn ex K) :
    ∃ fd : FuncData, (∀ (s : Shared) (v : Value), BindsTo s fd ⟨[v], []⟩ [("_law_script", v)]) ∧ ∀ base : Heap, K.In base → base.Ns mainGlobals mg → FnG P w K mg base 6 f fd ["_law_script"] (spF K mg m_law) := by
  obtain ⟨c, cx⟩ := c
  obtain ⟨fd_shared, F_shared⟩ := c.def_ 0 (d := d_shared) rfl
  obtain ⟨fd_fraction, F_fraction⟩ := c.def_ 1 (d := d_fraction) rfl
  obtain ⟨fd_plus, F_plus⟩ := c.def_ 2 (d := d_plus) rfl
  obtain ⟨fd_turned, F_turned⟩ := c.def_ 3 (d := d_turned) rfl
  obtain ⟨fd_less, F_less⟩ := c.def_ 4 (d := d_less) rfl
  obtain ⟨fd_times, F_times⟩ := c.def_ 5 (d := d_times) rfl
  obtain ⟨fd_over, F_over⟩ := c.def_ 6 (d := d_over) rfl
  obtain ⟨fd_size_of, F_size_of⟩ := c.def_ 7 (d := d_size_of) rfl
  obtain ⟨fd_is_less, F_is_less⟩ := c.def_ 8 (d := d_is_less) rfl
  obtain ⟨fd_lesser, F_lesser⟩ := c.def_ 9 (d := d_lesser) rfl
  obtain ⟨fd_greater, F_greater⟩ := c.def_ 10 (d := d_greater) rfl
  obtain ⟨fd_exact, F_exact⟩ := c.def_ 11 (d := d_exact) rfl
  obtain ⟨fd__law_mixed, F__law_mixed⟩ := c.def_ 12 (d := d__law_mixed) rfl
  obtain ⟨fd__law_draws, F__law_draws⟩ := c.def_ 13 (d := d__law_draws) rfl
  obtain ⟨fd__law_take, F__law_take⟩ := c.def_ 14 (d := d__law_take) rfl
  obtain ⟨fd__law_share, F__law_share⟩ := c.def_ 15 (d := d__law_share) rfl
  obtain ⟨fd__law_sum, F__law_sum⟩ := c.def_ 16 (d := d__law_sum) rfl
  obtain ⟨fd__law_is_less, F__law_is_less⟩ := c.def_ 17 (d := d__law_is_less) rfl
  obtain ⟨fd__law_names, F__law_names⟩ := c.def_ 18 (d := d__law_names) rfl
  obtain ⟨fd__law_constant, F__law_constant⟩ := c.def_ 19 (d := d__law_constant) rfl
  obtain ⟨fd__law_exact, F__law_exact⟩ := c.def_ 20 (d := d__law_exact) rfl
  obtain ⟨fd_law, F_law⟩ := c.def_ 21 (d := d_law) rfl
  have g_shared := He.glo_ok X G (c.fact 0 (f := .glo "shared") rfl)
  have g_fraction := He.glo_ok X G (c.fact 1 (f := .glo "fraction") rfl)
  have g_plus := He.glo_ok X G (c.fact 2 (f := .glo "plus") rfl)
  have g_turned := He.glo_ok X G (c.fact 3 (f := .glo "turned") rfl)
  have g_less := He.glo_ok X G (c.fact 4 (f := .glo "less") rfl)
  have g_times := He.glo_ok X G (c.fact 5 (f := .glo "times") rfl)
  have g_over := He.glo_ok X G (c.fact 6 (f := .glo "over") rfl)
  have g_size_of := He.glo_ok X G (c.fact 7 (f := .glo "size_of") rfl)
  have g_is_less := He.glo_ok X G (c.fact 8 (f := .glo "is_less") rfl)
  have g_lesser := He.glo_ok X G (c.fact 9 (f := .glo "lesser") rfl)
  have g_greater := He.glo_ok X G (c.fact 10 (f := .glo "greater") rfl)
  have g_exact := He.glo_ok X G (c.fact 11 (f := .glo "exact") rfl)
  have g__law_mixed := He.glo_ok X G (c.fact 12 (f := .glo "_law_mixed") rfl)
  have g__law_draws := He.glo_ok X G (c.fact 13 (f := .glo "_law_draws") rfl)
  have g__law_take := He.glo_ok X G (c.fact 14 (f := .glo "_law_take") rfl)
  have g__law_share := He.glo_ok X G (c.fact 15 (f := .glo "_law_share") rfl)
  have g__law_sum := He.glo_ok X G (c.fact 16 (f := .glo "_law_sum") rfl)
  have g__law_is_less := He.glo_ok X G (c.fact 17 (f := .glo "_law_is_less") rfl)
  have g__law_names := He.glo_ok X G (c.fact 18 (f := .glo "_law_names") rfl)
  have g__law_constant := He.glo_ok X G (c.fact 19 (f := .glo "_law_constant") rfl)
  have g__law_exact := He.glo_ok X G (c.fact 20 (f := .glo "_law_exact") rfl)
  have g_law := He.glo_ok X G (c.fact 21 (f := .glo "law") rfl)
  have cx2 := cx
  unfold ex at cx2
  have T : Top K mg := ⟨He.free_ok X G (c.fact 22 (f := .free "abs") rfl), He.free_ok X G (c.fact 23 (f := .free "dict") rfl), He.free_ok X G (c.fact 24 (f := .free "enumerate") rfl), He.free_ok X G (c.fact 25 (f := .free "range") rfl), He.free_ok X G (c.fact 26 (f := .free "repr") rfl), He.free_ok X G (c.fact 27 (f := .free "sum") rfl), He.free_ok X G (c.fact 28 (f := .free "tuple") rfl), gB_ok X G cx2, gfn_ok g_greater, gfn_ok g_less, gfn_ok g_lesser, gfn_ok g_plus, gfn_ok g_times⟩
  have e := hfa.symm.trans g_law
  cases e
  have b := FunD.bindsA (ps := ["_law_script"]) F_law fun _ _ _ _ _ _ us hl => match us, hl with | [_], _ => rfl
  refine ⟨fd_law, fun s v => b s [v] rfl, fun base _ _ => ?_⟩
  have D_shared : Df P w K mg base 1 "shared" ["one", "other"] m_shared := ok_shared T  F_shared g_shared
  have D_fraction : Df P w K mg base 2 "fraction" ["above", "below"] m_fraction := ok_fraction T D_shared F_fraction g_fraction
  have D_plus : Df P w K mg base 3 "plus" ["one", "other"] m_plus := ok_plus T D_fraction F_plus g_plus
  have D_turned : Df P w K mg base 1 "turned" ["one"] m_turned := ok_turned T  F_turned g_turned
  have D_less : Df P w K mg base 4 "less" ["one", "other"] m_less := ok_less T D_plus D_turned F_less g_less
  have D_times : Df P w K mg base 3 "times" ["one", "other"] m_times := ok_times T D_fraction F_times g_times
  have D_over : Df P w K mg base 3 "over" ["one", "other"] m_over := ok_over T D_fraction F_over g_over
  have D_size_of : Df P w K mg base 1 "size_of" ["one"] m_size_of := ok_size_of T  F_size_of g_size_of
  have D_is_less : Df P w K mg base 1 "is_less" ["one", "other"] m_is_less := ok_is_less T  F_is_less g_is_less
  have D_lesser : Df P w K mg base 2 "lesser" ["one", "other"] m_lesser := ok_lesser T D_is_less F_lesser g_lesser
  have D_greater : Df P w K mg base 2 "greater" ["one", "other"] m_greater := ok_greater T D_is_less F_greater g_greater
  have D_exact : Df P w K mg base 5 "exact" ["work", "known"] m_exact := ok_exact T D_turned D_size_of D_is_less D_over D_greater D_lesser D_times D_less D_plus F_exact g_exact
  have D__law_mixed : Df P w K mg base 1 "_law_mixed" ["_law_number", "_law_k"] m__law_mixed := ok__law_mixed T  F__law_mixed g__law_mixed
  have D__law_draws : Df P w K mg base 2 "_law_draws" ["_law_script"] m__law_draws := ok__law_draws T D__law_mixed F__law_draws g__law_draws
  have D__law_take : Df P w K mg base 2 "_law_take" ["_law_draw", "_law_many"] m__law_take := ok__law_take T D__law_mixed F__law_take g__law_take
  have D__law_share : Df P w K mg base 1 "_law_share" ["_law_above", "_law_below"] m__law_share := ok__law_share T  F__law_share g__law_share
  have D__law_sum : Df P w K mg base 2 "_law_sum" ["_law_one", "_law_other", "_law_sign"] m__law_sum := ok__law_sum T D__law_share F__law_sum g__law_sum
  have D__law_is_less : Df P w K mg base 1 "_law_is_less" ["_law_one", "_law_other"] m__law_is_less := ok__law_is_less T  F__law_is_less g__law_is_less
  have D__law_names : Df P w K mg base 3 "_law_names" ["_law_draw", "_law_many"] m__law_names := ok__law_names T D__law_take F__law_names g__law_names
  have D__law_constant : Df P w K mg base 3 "_law_constant" ["_law_draw"] m__law_constant := ok__law_constant T D__law_take D__law_share F__law_constant g__law_constant
  have D__law_exact : Df P w K mg base 3 "_law_exact" ["_law_work", "_law_known"] m__law_exact := ok__law_exact T D__law_sum D__law_share D__law_is_less F__law_exact g__law_exact
  exact ok_law T D__law_draws D__law_names D__law_constant D__law_take D_exact D__law_exact F_law
local macro_rules | `(tactic| walk_at "ev") => `(tactic| simp only [mkF, enter, retF, trunc, sSeq, So.then_nx, So.then_rt, sSet, sRet, sRetN, sIf, sExpr, sNil, sPar, sAsg, ofG, gN, gsCons, gsNil, gTupT_tup, gTupT_Q, Out.then_ok, Out.then_ex, Out.bind_ok, Out.bind_ex, eVar, eD_eq, eOp, eCall, eBlt, aCons, aNil, eTup, eIf, eT, eNot, eAnd, eOr, tvAnd, tvOr, tvNot, eNeg, eIsi, isTy_d, isQ_tup, isQ_bool, isQ_int, isI_bool, isI_int, isI_tup, isB_bool, isB_int, ixQ0, ixQ1, truO_b, fzs_nil, fzs_d, gInt_eq, gAdd_int, gAbs_eq, fAdd_eq, fSub_eq, fLt_eq, fLe_eq, fGt_eq, fGe_eq, ix0, ix1, ix2, ix3, ix4, ix5, ofO_some, Option.map_some, Option.bind_some, List.length_cons, List.length_nil, List.map_cons, List.map_nil, List.replicate_succ, List.replicate_zero, List.cons_append, List.nil_append, List.getElem?_cons_zero, List.getElem?_cons_succ, List.set_cons_zero, List.set_cons_succ, List.take_length, Int.reduceEq, Int.reduceLT, Int.reduceLE, Nat.reduceSub, Nat.reduceAdd, Nat.reduceLeDiff, Nat.reduceLT, Nat.zero_add, Nat.add_zero, Nat.sub_self, if_true, if_false, reduceIte, Bool.false_eq_true, fitB, decide_true, decide_false, Bool.not_true, Bool.not_false])
local macro_rules | `(tactic| walk_at "rg") => `(tactic| first | rfl | exact rgB_of (by omega) (by omega))
local macro_rules | `(tactic| walk_at "len") => `(tactic| first | rfl | (simp only [List.length_set, List.length_append, List.length_cons, List.length_nil]; done))
local macro_rules | `(tactic| walk_at "bd") => `(tactic| with_reducible first
    | assumption
    | (apply BQ.nu; walk_at "bq")
    | (apply BQ.dn; walk_at "bq")
    | (apply Bd.mul <;> walk_at "bd")
    | (apply Bd.add <;> walk_at "bd")
    | (apply Bd.sub <;> walk_at "bd")
    | (apply Bd.neg; walk_at "bd")
    | (apply Bd.abs; walk_at "bd")
    | (apply Bd.ediv; walk_at "bd")
    | (apply Bd.emod; walk_at "bd"; walk_at "pos")
    | exact Bd.lit _)
local macro_rules | `(tactic| walk_at "bq") => `(tactic| with_reducible first
    | assumption
    | exact BQ.zero
    | exact BQ.one
    | (apply BQ.add' <;> walk_at "bq")
    | (apply BQ.sub' <;> walk_at "bq")
    | (apply BQ.mul' <;> walk_at "bq")
    | (apply BQ.div' <;> walk_at "bq")
    | (apply BQ.neg; walk_at "bq")
    | (apply BQ.abs; walk_at "bq")
    | (apply BQ.mn <;> walk_at "bq")
    | (apply BQ.mx <;> walk_at "bq")
    | (apply BQ.ite <;> walk_at "bq")
    | exact BQ.lit _
    | (apply BQ.i; walk_at "bd")
    | (apply BQ.dv <;> walk_at "bd"))
local macro_rules | `(tactic| walk_at "pos") => `(tactic| first | exact den_pos _ | omega | decide)
local macro_rules | `(tactic| walk_at "mok") => `(tactic| first | exact mulOk_smallR (Bd.mono (by walk_at "bd") (by walk_at "sm")) | exact mulOk_small (Bd.mono (by walk_at "bd") (by walk_at "sm")) | exact Bd.mulOk (by walk_at "bd") (by walk_at "bd") (by walk_at "sm"))
local macro_rules | `(tactic| walk_at "dok") => `(tactic| exact Bd.divOk (Bd.mono (m := 9000) (by walk_at "bd") (by walk_at "sm")) (by decide) (by decide))
local macro_rules | `(tactic| walk_at "nz") => `(tactic| assumption)
local macro_rules | `(tactic| walk_at "shw") => `(tactic| first
    | assumption
    | exact Shw.none
    | exact Shw.bool _
    | (apply Shw.Q; (walk_at "bq"); walk_at "sm")
    | (apply Shw.int; (walk_at "bd"); walk_at "sm")
    | (apply Shw.tup; walk_at "shwl")
    | (apply Shw.lst; walk_at "shwl"))
local macro_rules | `(tactic| walk_at "shwl") => `(tactic| first
    | exact ShwL.nil
    | (apply ShwL.cons; (walk_at "shw"); walk_at "shwl"))
local macro_rules | `(tactic| walk_at "sm") => `(tactic| first | decide | omega)
local macro_rules | `(tactic| walk_at "wp") => `(tactic| first
    | (refine hd_v ?_; first | refine wp_v0 ?_ | refine wp_v1 ?_ | refine wp_v2 ?_ | refine wp_v3 ?_ | refine wp_v4 ?_ | refine wp_v5 ?_ | refine wp_v6 ?_ | refine wp_v7 ?_ | refine wp_v8 ?_ | refine wp_v9 ?_ | refine wp_v10 ?_ | refine wp_v11 ?_ | refine wp_v12 ?_ | refine wp_v13 ?_ | refine wp_v14 ?_ | refine wp_v15 ?_ | refine wp_v16 ?_ | refine wp_v17 ?_ | refine wp_v18 ?_ | refine wp_v19 ?_ | refine wp_v20 ?_ | refine wp_v21 ?_ | refine wp_v22 ?_ | refine wp_v23 ?_ | refine wp_v24 ?_ | refine wp_v25 ?_)
    | walk_at "wk"
    | refine wp_D ?_
    | refine wp_op ?_
    | refine wp_call ?_
    | refine wp_cons ?_
    | refine wp_nil ?_
    | refine wp_T ?_
    | refine wp_if ?_
    | refine wp_tup ?_
    | refine wp_blt ?_
    | refine wp_fzL ?_
    | refine wp_fzO ?_
    | refine wp_fzB ?_
    | refine wp_fzS ?_
    | refine wp_fzT ?_
    | refine wp_fzR ?_
    | refine wp_rv ?_
    | refine wp_mtL ?_
    | refine wp_mtD ?_
    | refine wp_lst ?_
    | refine wp_tand ?_
    | refine wp_tor ?_
    | refine wp_tnot ?_
    | refine wp_and ?_
    | refine wp_or ?_
    | refine wp_not ?_
    | refine wp_chain ?_
    | refine wp_slice ?_
    | refine wp_oN ?_
    | refine wp_oS ?_
    | refine wp_step ?_
    | refine wp_tyes ?_
    | refine wp_isi ?_
    | refine wp_isE ?_
    | refine wp_neg ?_
    | refine wp_iv ?_
    | refine wp_itT ?_
    | refine wp_itL ?_
    | refine wp_rng1 ?_
    | refine wp_rng2 ?_
    | refine wp_zip ?_
    | refine wp_zip4 ?_
    | refine wp_enumB ?_
    | refine wp_rev ?_
    | refine wp_dct0 ?_
    | refine wp_dct ?_
    | refine wp_pn ?_
    | refine wp_pc ?_
    | refine wp_bits ?_
    | refine wp_unl ?_
    | refine wp_m1 ?_
    | refine wp_unp ?_
    | refine wp_tupZ ?_
    | refine wp_callF ?_
    | refine wp_itS ?_
    | refine wp_revR ?_
    | refine wp_lstR ?_
    | walk_at "wc")
local macro_rules | `(tactic| walk_at "ws") => `(tactic| first
    | refine ws_seq ?_
    | refine ws_set ?_
    | refine ws_if ?_
    | refine ws_ret ?_
    | refine ws_asg ?_
    | refine ws_expr ?_
    | refine ws_nil ?_
    | refine ws_for ?_
    | refine ws_par ?_
    | refine ws_par3 ?_
    | refine ws_parN2 ?_
    | refine ws_parN3 ?_
    | refine ws_parN4 ?_
    | refine ws_aug ?_
    | refine ws_retN ?_
    | refine ws_cont ?_
    | refine ws_brk ?_
    | refine ws_raise ?_
    | refine ws_try ?_
    | (apply ws_frzE; exact (by walk_at "len"); (with_unfolding_all rfl))
    | (apply ws_frzS; assumption; exact (by walk_at "len"); (with_unfolding_all rfl))
    | walk_at "wsc")
local macro_rules | `(tactic| walk_at "wsc") => `(tactic| fail)
local macro_rules | `(tactic| walk_at "bqm") => `(tactic| exact BQ.mono (by walk_at "bq") (by walk_at "sm"))
local macro_rules | `(tactic| walk_at "wo") => `(tactic| first
    | refine wo_eqE0 ?_
    | refine wo_eqE1 ?_
    | refine wo_add ?_
    | refine wo_sub ?_
    | refine wo_ixQ0 ?_
    | refine wo_ixQ1 ?_
    | refine wo_ix0 ?_
    | refine wo_ix1 ?_
    | refine wo_lt ?_
    | refine wo_le ?_
    | refine wo_gt ?_
    | refine wo_ge ?_
    | refine wo_eqI ?_
    | refine wo_neI ?_
    | refine wo_eqQ ?_
    | refine wo_neQ ?_
    | refine wo_eqQQ ?_
    | refine wo_neQQ ?_
    | refine wo_eqSS ?_
    | refine wo_neSS ?_
    | refine wo_eqS ?_
    | refine wo_neS ?_
    | refine wo_eqB ?_
    | refine wo_neB ?_
    | refine wo_isNn ?_
    | refine wo_isNt ?_
    | refine wo_isNl ?_
    | refine wo_isNq ?_
    | refine wo_isNi ?_
    | refine wo_isNb ?_
    | refine wo_isNs ?_
    | refine wo_isNx ?_
    | refine wo_ntNx ?_
    | refine wo_isNy ?_
    | refine wo_ntNy ?_
    | refine wo_ntNn ?_
    | refine wo_ntNt ?_
    | refine wo_ntNl ?_
    | refine wo_ntNq ?_
    | refine wo_ntNi ?_
    | (refine wo_mul ?_ ?_; (walk_at "mok"))
    | (refine wo_mod ?_ ?_; (walk_at "pos"))
    | (refine wo_div ?_ ?_ ?_; (walk_at "pos"); (walk_at "dok"))
    | (apply wo_pow; exact (by decide); exact (by decide))
    | (apply wo_powG; exact (by decide); exact (Bd.mono (by walk_at "bd") (by walk_at "sm")))
    | (apply wo_shl; exact (by walk_at "sm"); exact (by walk_at "sm"); exact (Bd.mono (by walk_at "bd") (by walk_at "sm")))
    | refine wo_ntNb ?_
    | refine wo_ntNs ?_
    | refine wo_isB ?_
    | refine wo_notB ?_
    | refine wo_abs ?_
    | refine wo_max ?_
    | refine wo_min ?_
    | refine wo_int1b ?_
    | refine wo_int1i ?_
    | refine wo_lenQ ?_
    | refine wo_lenT0 ?_
    | refine wo_lenL0 ?_
    | refine wo_lenT1 ?_
    | refine wo_lenL1 ?_
    | refine wo_lenT2 ?_
    | refine wo_lenL2 ?_
    | refine wo_lenT3 ?_
    | refine wo_lenL3 ?_
    | refine wo_lenT4 ?_
    | refine wo_lenL4 ?_
    | refine wo_lenT5 ?_
    | refine wo_lenL5 ?_
    | refine wo_lenT6 ?_
    | refine wo_lenL6 ?_
    | refine wo_lenT7 ?_
    | refine wo_lenL7 ?_
    | refine wo_lenT8 ?_
    | refine wo_lenL8 ?_
    | refine wo_lenT9 ?_
    | refine wo_lenL9 ?_
    | refine wo_lenT10 ?_
    | refine wo_lenL10 ?_
    | refine wo_lenT11 ?_
    | refine wo_lenL11 ?_
    | refine wo_lenT12 ?_
    | refine wo_lenL12 ?_
    | refine wo_lenT13 ?_
    | refine wo_lenL13 ?_
    | refine wo_lenT14 ?_
    | refine wo_lenL14 ?_
    | refine wo_lenT15 ?_
    | refine wo_lenL15 ?_
    | refine wo_lenT ?_
    | refine wo_lenL ?_
    | refine wo_listT ?_
    | refine wo_listL ?_
    | refine wo_tupT ?_
    | refine wo_tupL ?_
    | refine wo_rv2 ?_
    | refine wo_rvT ?_
    | refine wo_iadd ?_
    | refine wo_ix2 ?_
    | refine wo_ix3 ?_
    | refine wo_ix4 ?_
    | refine wo_ix5 ?_
    | refine wo_il0 ?_
    | refine wo_il1 ?_
    | refine wo_il2 ?_
    | refine wo_il3 ?_
    | refine wo_ilm2 ?_
    | refine wo_ilm1' ?_
    | refine wo_ilm1 ?_
    | refine wo_ix6 ?_
    | refine wo_ix7 ?_
    | refine wo_ix8 ?_
    | refine wo_ix9 ?_
    | refine wo_ix10 ?_
    | refine wo_il4 ?_
    | refine wo_il5 ?_
    | refine wo_il6 ?_
    | refine wo_il7 ?_
    | refine wo_il8 ?_
    | refine wo_il9 ?_
    | refine wo_il10 ?_
    | refine wo_iyQ ?_
    | refine wo_iyT rfl ?_
    | refine wo_iyL rfl ?_
    | (apply wo_slT'; exact (by walk_at "cut"))
    | (apply wo_slL'; exact (by walk_at "cut"))
    | refine wo_slT ?_
    | refine wo_slL ?_
    | (apply wo_addL'; exact (by walk_at "app"); exact (by walk_at "lsz"))
    | (apply wo_addT'; exact (by walk_at "app"); exact (by walk_at "lsz"))
    | (apply wo_repr; exact (by walk_at "shw"); exact (by walk_at "sm"); exact (by walk_at "sm"))
    | refine wo_repT rfl rfl ?_
    | (apply wo_rep2; exact (by walk_at "len"))
    | (apply wo_repE; exact (by walk_at "len"); exact rfl; exact rfl)
    | (apply wo_appE; exact (by walk_at "len"); exact (by walk_at "app"); exact (by walk_at "lsz"))
    | (apply wo_appS; assumption; exact (by walk_at "len"); exact (by walk_at "app"); exact (by walk_at "lsz"))
    | (apply wo_ixS0'; assumption; exact (by walk_at "len"))
    | (apply wo_ixS1'; assumption; exact (by walk_at "len"))
    | (apply wo_ixE0; exact (by walk_at "len"))
    | (apply wo_ixE1; exact (by walk_at "len"))
    | (apply wo_dgE; exact (by walk_at "len"); exact (by walk_at "dval"))
    | (apply wo_iyE; exact (by walk_at "len"); exact (by walk_at "dval"))
    | walk_at "woc"
    | refine wo_eqSelf (p := false) (by walk_at "ly") (by decide) ?_
    | refine wo_neSelf (p := false) (by walk_at "ly") (by decide) ?_)
local macro_rules | `(tactic| walk_at "app") => `(tactic| first | (simp only [List.cons_append, List.nil_append] <;> rfl) | rfl)
local macro_rules | `(tactic| walk_at "lsz") => `(tactic| first | omega | (simp only [List.length_cons, List.length_nil, List.length_append, List.length_map] <;> first | decide | omega))
local macro_rules | `(tactic| walk_at "cut") => `(tactic| simp only [cut_to0, cut_from0, cut_to1, cut_from1, cut_to2, cut_from2, cut_to3, cut_from3, cut_to4, cut_from4, cut_to5, cut_from5, cut_to6, cut_from6, cut_to7, cut_from7, cut_to8, cut_from8, cut_to9, cut_from9, cut_0_1, cut_0_2, cut_0_3, cut_0_4, cut_0_5, cut_0_6, cut_1_2, cut_1_3, cut_1_4, cut_1_5, cut_1_6, cut_2_3, cut_2_4, cut_2_5, cut_2_6, cut_3_4, cut_3_5, cut_3_6, cut_4_5, cut_4_6, cut_5_6, List.take_succ_cons, List.take_zero, List.drop_succ_cons, List.drop_zero, List.take_nil, List.drop_nil] <;> rfl)
local macro_rules | `(tactic| walk_at "ly") => `(tactic| first
    | assumption
    | exact Ly.none
    | exact Ly.int
    | exact Ly.bool
    | exact Ly.Q
    | (apply Ly.tup; walk_at "lyl")
    | (apply Ly.lst; walk_at "lyl"))
local macro_rules | `(tactic| walk_at "lyl") => `(tactic| first
    | exact LyL.nil
    | (apply LyL.cons; (walk_at "ly"); walk_at "lyl"))
local macro_rules | `(tactic| walk_at "le") => `(tactic| first | exact Rat.le_refl | exact Rat.not_lt.mp ‹_› | exact Rat.le_of_lt ‹_› | assumption)
local macro_rules | `(tactic| walk_at "hn") => `(tactic| first | assumption | (simp only [List.length_append, List.length_cons, List.length_nil, List.length_set]; omega))
local macro_rules | `(tactic| walk_at "wk") => `(tactic| fail)
local macro_rules | `(tactic| walk_at "dval") => `(tactic| fail)
local macro_rules | `(tactic| walk_at "dput") => `(tactic| fail)
local macro_rules | `(tactic| walk_at "tupq") => `(tactic| first | refine tq_neg ?_ | refine tq_abs ?_ | refine tq_self ?_)
local macro_rules | `(tactic| walk_at "wc") => `(tactic| first | (apply wp_norm; assumption; intro _)| (apply wp_norm2; assumption; intro _ _))
local macro_rules | `(tactic| walk_at "wx") => `(tactic| fail)
local macro_rules | `(tactic| walk_at "woc") => `(tactic| fail)
local macro_rules | `(tactic| walk_at "wipe") => `(tactic| simp only [wipeE, List.set_cons_zero, List.set_cons_succ] <;> rfl)
local macro_rules | `(tactic| walk_at "setk") => `(tactic| first
    | refine setk0 ?_
    | refine setk1 ?_
    | refine setk2 ?_
    | refine setk3 ?_
    | refine setk4 ?_
    | refine setk5 ?_
    | refine setk6 ?_
    | refine setk7 ?_
    | refine setk8 ?_
    | refine setk9 ?_
    | refine setk10 ?_
    | refine setk11 ?_
    | refine setk12 ?_
    | refine setk13 ?_
    | refine setk14 ?_
    | refine setk15 ?_
    | refine setk16 ?_
    | refine setk17 ?_
    | refine setk18 ?_
    | refine setk19 ?_
    | refine setk20 ?_
    | refine setk21 ?_
    | refine setk22 ?_
    | refine setk23 ?_
    | refine setk24 ?_
    | refine setk25 ?_)
local macro_rules | `(tactic| walk_at "tupk") => `(tactic| first
    | walk_at "tupq"
    | refine tupk0 ?_
    | refine tupk1 ?_
    | refine tupk2 ?_
    | refine tupk3 ?_
    | refine tupk4 ?_
    | refine tupk5 ?_
    | refine tupk6 ?_
    | refine tupk7 ?_
    | refine tupk8 ?_
    | refine tupk9 ?_
    | refine tupk10 ?_
    | refine tupk11 ?_
    | refine tupk12 ?_
    | refine tupk13 ?_
    | refine tupk14 ?_
    | refine tupk15 ?_)
local macro_rules | `(tactic| walk_at "lstk") => `(tactic| first
    | refine lstk0 ?_
    | refine lstk1 ?_
    | refine lstk2 ?_
    | refine lstk3 ?_
    | refine lstk4 ?_
    | refine lstk5 ?_
    | refine lstk6 ?_
    | refine lstk7 ?_
    | refine lstk8 ?_
    | refine lstk9 ?_
    | refine lstk10 ?_
    | refine lstk11 ?_
    | refine lstk12 ?_
    | refine lstk13 ?_
    | refine lstk14 ?_
    | refine lstk15 ?_)
local macro_rules | `(tactic| walk_at "dc") => `(tactic| first | rfl | decide | exact decide_eq_true ‹_› | omega)
local macro_rules | `(tactic| walk_at "ai") => `(tactic| repeat' (first | exact ai_nil | (apply ai_cons; exact (by walk_at "sm"); exact (by walk_at "sm"))))
local macro_rules | `(tactic| walk_at "brk") => `(tactic| first
    | refine brk_t ?_
    | refine brk_f ?_
    | refine brk_not ?_
    | refine brk_and ?_
    | refine brk_or ?_
    | (apply brk_dec1; assumption)
    | (apply brk_dec0; assumption)
    | (apply brk_dec1; exact (by walk_at "dc"))
    | (apply brk_dec0; exact (by walk_at "dc"))
    | refine brk_dec (fun _ => ?_) (fun _ => ?_))
local macro_rules | `(tactic| walk_at "unk") => `(tactic| first
    | refine unk0 ?_
    | refine unk1 ?_
    | refine unk2 ?_
    | refine unk3 ?_
    | refine unk4 ?_
    | refine unk5 ?_
    | refine unk6 ?_
    | refine unk7 ?_
    | refine unk8 ?_
    | refine unk9 ?_
    | refine unk10 ?_
    | refine unk11 ?_
    | refine unk12 ?_
    | refine unk13 ?_
    | refine unk14 ?_
    | refine unk15 ?_
    | refine unk16 ?_
    | refine unk17 ?_
    | refine unk18 ?_
    | refine unk19 ?_
    | refine unk20 ?_
    | refine unk21 ?_
    | refine unk22 ?_
    | refine unk23 ?_
    | refine unk24 ?_
    | refine unk25 ?_)
local macro_rules | `(tactic| walk_at "w1") => `(tactic| with_reducible first
    | (refine hd_Wp ?_; walk_at "wp")
    | (refine hd_Ws ?_; walk_at "ws")
    | (refine hd_Wo ?_; walk_at "wo")
    | (refine hd_SetK ?_; walk_at "setk")
    | (refine hd_TupK ?_; walk_at "tupk")
    | (refine hd_BrK ?_; walk_at "brk")
    | refine trk ?_
    | (apply retK_d; exact (by walk_at "len"))
    | (apply retK_d'; exact (by walk_at "len"))
    | (apply retK_S; assumption; exact (by walk_at "len"))
    | (apply fzk_d; exact (by walk_at "len"))
    | (apply fzk_end; exact (by walk_at "len"))
    | (refine hd_LstK ?_; walk_at "lstk")
    | refine ex_is_int_none ?_
    | refine ex_is_int_bool ?_
    | refine ex_is_int_int ?_
    | refine ex_is_int_str ?_
    | refine ex_is_int_tuple ?_
    | refine ex_is_int_list ?_
    | refine ex_is_int_Q ?_
    | refine ex_is_bool_none ?_
    | refine ex_is_bool_bool ?_
    | refine ex_is_bool_int ?_
    | refine ex_is_bool_str ?_
    | refine ex_is_bool_tuple ?_
    | refine ex_is_bool_list ?_
    | refine ex_is_bool_Q ?_
    | refine ex_is_str_none ?_
    | refine ex_is_str_bool ?_
    | refine ex_is_str_int ?_
    | refine ex_is_str_str ?_
    | refine ex_is_str_tuple ?_
    | refine ex_is_str_list ?_
    | refine ex_is_str_Q ?_
    | refine ex_is_tuple_none ?_
    | refine ex_is_tuple_bool ?_
    | refine ex_is_tuple_int ?_
    | refine ex_is_tuple_str ?_
    | refine ex_is_tuple_tuple ?_
    | refine ex_is_tuple_list ?_
    | refine ex_is_tuple_Q ?_
    | refine ex_is_list_none ?_
    | refine ex_is_list_bool ?_
    | refine ex_is_list_int ?_
    | refine ex_is_list_str ?_
    | refine ex_is_list_tuple ?_
    | refine ex_is_list_list ?_
    | refine ex_is_list_Q ?_
    | refine ex_is_dict_none ?_
    | refine ex_is_dict_bool ?_
    | refine ex_is_dict_int ?_
    | refine ex_is_dict_str ?_
    | refine ex_is_dict_tuple ?_
    | refine ex_is_dict_list ?_
    | refine ex_is_dict_Q ?_
    | refine ex_int ?_
    | refine ex_par ?_
    | refine ex_par3 ?_
    | refine ex_par4 ?_
    | refine ex_rev ?_
    | refine ex_txt ?_
    | refine ex_pc ?_
    | (apply ex_revR; exact (by walk_at "rg"))
    | (apply ex_lstR; exact (by omega); exact (by omega))
    | refine ex_enumL ?_
    | refine ex_enumT ?_
    | refine ex_zip4LL ?_
    | refine ex_unp ?_
    | refine tupZk ?_
    | refine ex_tupZ ?_
    | refine ex_zip4TT ?_
    | refine ex_zip4TL ?_
    | refine ex_zipL ?_
    | refine ex_zipT ?_
    | (apply fzk_end2; exact (by walk_at "len"))
    | (apply ex_rng; exact (by walk_at "rg"))
    | (apply ex_rng2; exact (by walk_at "rg"); exact (by walk_at "rg"))
    | refine tyL_D ?_
    | (apply tyL_S; assumption; exact (by walk_at "len"))
    | (apply tyL_E; exact (by walk_at "len"))
    | (apply ex_setS0; assumption; exact (by walk_at "len"))
    | (apply ex_setS1; assumption; exact (by walk_at "len"))
    | (apply ex_setL0; exact (by walk_at "len"))
    | (apply ex_setL1; exact (by walk_at "len"))
    | (apply ex_setDE; exact (by walk_at "len"); exact (by walk_at "dput"); exact (by walk_at "lsz"))
    | walk_at "wx"
    | refine gk_n ?_
    | refine gk_tup2 ?_
    | refine gk_tup3 ?_
    | refine gk_tup4 ?_
    | refine gk_lst4 ?_
    | refine gk_tup5 ?_
    | refine gk_tup6 ?_
    | refine gk_tupQ ?_
    | refine gk_tupN ?_
    | refine gk_tupM ?_
    | refine gk_setD ?_
    | refine gk_setL ?_
    | refine forK_r2 ?_
    | refine forK_r3 ?_
    | refine forK_r4 ?_
    | refine forK_nil ?_
    | refine forK_cons ?_
    | refine ex_isy_int ?_
    | refine ex_isy_bool ?_
    | refine ex_isy_str ?_
    | refine ex_isy_tuple ?_
    | refine ex_isy_list ?_
    | refine ex_isy_dict ?_
    | refine ex_isE_none ?_
    | (apply ex_isE_y; exact (by decide +kernel))
    | (apply ex_isE_n; exact (by decide +kernel); exact (by decide +kernel))
    | (refine hd_UnK ?_; walk_at "unk")
    | (refine hd_TryK ?_; first | (apply tryk_y; exact (by decide +kernel))| (apply tryk_n; exact (by decide +kernel); exact (by decide +kernel))))
local macro_rules | `(tactic| walk_at "w") => `(tactic| repeat' (with_reducible first | (refine hd_Wp ?_; (first | (refine hd_v ?_; first | refine wp_v0 ?_ | refine wp_v1 ?_ | refine wp_v2 ?_ | refine wp_v3 ?_ | refine wp_v4 ?_ | refine wp_v5 ?_ | refine wp_v6 ?_ | refine wp_v7 ?_ | refine wp_v8 ?_ | refine wp_v9 ?_ | refine wp_v10 ?_ | refine wp_v11 ?_ | refine wp_v12 ?_ | refine wp_v13 ?_ | refine wp_v14 ?_ | refine wp_v15 ?_ | refine wp_v16 ?_ | refine wp_v17 ?_ | refine wp_v18 ?_ | refine wp_v19 ?_ | refine wp_v20 ?_ | refine wp_v21 ?_ | refine wp_v22 ?_ | refine wp_v23 ?_ | refine wp_v24 ?_ | refine wp_v25 ?_) | walk_at "wk" | refine wp_D ?_ | refine wp_op ?_ | refine wp_call ?_ | refine wp_cons ?_ | refine wp_nil ?_ | refine wp_T ?_ | refine wp_if ?_ | refine wp_tup ?_ | refine wp_blt ?_ | refine wp_fzL ?_ | refine wp_fzO ?_ | refine wp_fzB ?_ | refine wp_fzS ?_ | refine wp_fzT ?_ | refine wp_fzR ?_ | refine wp_rv ?_ | refine wp_mtL ?_ | refine wp_mtD ?_ | refine wp_lst ?_ | refine wp_tand ?_ | refine wp_tor ?_ | refine wp_tnot ?_ | refine wp_and ?_ | refine wp_or ?_ | refine wp_not ?_ | refine wp_chain ?_ | refine wp_slice ?_ | refine wp_oN ?_ | refine wp_oS ?_ | refine wp_step ?_ | refine wp_tyes ?_ | refine wp_isi ?_ | refine wp_isE ?_ | refine wp_neg ?_ | refine wp_iv ?_ | refine wp_itT ?_ | refine wp_itL ?_ | refine wp_rng1 ?_ | refine wp_rng2 ?_ | refine wp_zip ?_ | refine wp_zip4 ?_ | refine wp_enumB ?_ | refine wp_rev ?_ | refine wp_dct0 ?_ | refine wp_dct ?_ | refine wp_pn ?_ | refine wp_pc ?_ | refine wp_bits ?_ | refine wp_unl ?_ | refine wp_m1 ?_ | refine wp_unp ?_ | refine wp_tupZ ?_ | refine wp_callF ?_ | refine wp_itS ?_ | refine wp_revR ?_ | refine wp_lstR ?_ | walk_at "wc")) | (refine hd_Ws ?_; (first | refine ws_seq ?_ | refine ws_set ?_ | refine ws_if ?_ | refine ws_ret ?_ | refine ws_asg ?_ | refine ws_expr ?_ | refine ws_nil ?_ | refine ws_for ?_ | refine ws_par ?_ | refine ws_par3 ?_ | refine ws_parN2 ?_ | refine ws_parN3 ?_ | refine ws_parN4 ?_ | refine ws_aug ?_ | refine ws_retN ?_ | refine ws_cont ?_ | refine ws_brk ?_ | refine ws_raise ?_ | refine ws_try ?_ | (apply ws_frzE; exact (by walk_at "len"); (with_unfolding_all rfl))| (apply ws_frzS; assumption; exact (by walk_at "len"); (with_unfolding_all rfl))| walk_at "wsc")) | (refine hd_Wo ?_; (first | refine wo_eqE0 ?_ | refine wo_eqE1 ?_ | refine wo_add ?_ | refine wo_sub ?_ | refine wo_ixQ0 ?_ | refine wo_ixQ1 ?_ | refine wo_ix0 ?_ | refine wo_ix1 ?_ | refine wo_lt ?_ | refine wo_le ?_ | refine wo_gt ?_ | refine wo_ge ?_ | refine wo_eqI ?_ | refine wo_neI ?_ | refine wo_eqQ ?_ | refine wo_neQ ?_ | refine wo_eqQQ ?_ | refine wo_neQQ ?_ | refine wo_eqSS ?_ | refine wo_neSS ?_ | refine wo_eqS ?_ | refine wo_neS ?_ | refine wo_eqB ?_ | refine wo_neB ?_ | refine wo_isNn ?_ | refine wo_isNt ?_ | refine wo_isNl ?_ | refine wo_isNq ?_ | refine wo_isNi ?_ | refine wo_isNb ?_ | refine wo_isNs ?_ | refine wo_isNx ?_ | refine wo_ntNx ?_ | refine wo_isNy ?_ | refine wo_ntNy ?_ | refine wo_ntNn ?_ | refine wo_ntNt ?_ | refine wo_ntNl ?_ | refine wo_ntNq ?_ | refine wo_ntNi ?_ | (refine wo_mul ?_ ?_; (walk_at "mok")) | (refine wo_mod ?_ ?_; (walk_at "pos")) | (refine wo_div ?_ ?_ ?_; (walk_at "pos"); (walk_at "dok")) | (apply wo_pow; exact (by decide); exact (by decide))| (apply wo_powG; exact (by decide); exact (Bd.mono (by walk_at "bd") (by walk_at "sm")))| (apply wo_shl; exact (by walk_at "sm"); exact (by walk_at "sm"); exact (Bd.mono (by walk_at "bd") (by walk_at "sm")))| refine wo_ntNb ?_ | refine wo_ntNs ?_ | refine wo_isB ?_ | refine wo_notB ?_ | refine wo_abs ?_ | refine wo_max ?_ | refine wo_min ?_ | refine wo_int1b ?_ | refine wo_int1i ?_ | refine wo_lenQ ?_ | refine wo_lenT0 ?_ | refine wo_lenL0 ?_ | refine wo_lenT1 ?_ | refine wo_lenL1 ?_ | refine wo_lenT2 ?_ | refine wo_lenL2 ?_ | refine wo_lenT3 ?_ | refine wo_lenL3 ?_ | refine wo_lenT4 ?_ | refine wo_lenL4 ?_ | refine wo_lenT5 ?_ | refine wo_lenL5 ?_ | refine wo_lenT6 ?_ | refine wo_lenL6 ?_ | refine wo_lenT7 ?_ | refine wo_lenL7 ?_ | refine wo_lenT8 ?_ | refine wo_lenL8 ?_ | refine wo_lenT9 ?_ | refine wo_lenL9 ?_ | refine wo_lenT10 ?_ | refine wo_lenL10 ?_ | refine wo_lenT11 ?_ | refine wo_lenL11 ?_ | refine wo_lenT12 ?_ | refine wo_lenL12 ?_ | refine wo_lenT13 ?_ | refine wo_lenL13 ?_ | refine wo_lenT14 ?_ | refine wo_lenL14 ?_ | refine wo_lenT15 ?_ | refine wo_lenL15 ?_ | refine wo_lenT ?_ | refine wo_lenL ?_ | refine wo_listT ?_ | refine wo_listL ?_ | refine wo_tupT ?_ | refine wo_tupL ?_ | refine wo_rv2 ?_ | refine wo_rvT ?_ | refine wo_iadd ?_ | refine wo_ix2 ?_ | refine wo_ix3 ?_ | refine wo_ix4 ?_ | refine wo_ix5 ?_ | refine wo_il0 ?_ | refine wo_il1 ?_ | refine wo_il2 ?_ | refine wo_il3 ?_ | refine wo_ilm2 ?_ | refine wo_ilm1' ?_ | refine wo_ilm1 ?_ | refine wo_ix6 ?_ | refine wo_ix7 ?_ | refine wo_ix8 ?_ | refine wo_ix9 ?_ | refine wo_ix10 ?_ | refine wo_il4 ?_ | refine wo_il5 ?_ | refine wo_il6 ?_ | refine wo_il7 ?_ | refine wo_il8 ?_ | refine wo_il9 ?_ | refine wo_il10 ?_ | refine wo_iyQ ?_ | refine wo_iyT rfl ?_ | refine wo_iyL rfl ?_ | (apply wo_slT'; exact (by walk_at "cut"))| (apply wo_slL'; exact (by walk_at "cut"))| refine wo_slT ?_ | refine wo_slL ?_ | (apply wo_addL'; exact (by walk_at "app"); exact (by walk_at "lsz"))| (apply wo_addT'; exact (by walk_at "app"); exact (by walk_at "lsz"))| (apply wo_repr; exact (by walk_at "shw"); exact (by walk_at "sm"); exact (by walk_at "sm"))| refine wo_repT rfl rfl ?_ | (apply wo_rep2; exact (by walk_at "len"))| (apply wo_repE; exact (by walk_at "len"); exact rfl; exact rfl)| (apply wo_appE; exact (by walk_at "len"); exact (by walk_at "app"); exact (by walk_at "lsz"))| (apply wo_appS; assumption; exact (by walk_at "len"); exact (by walk_at "app"); exact (by walk_at "lsz"))| (apply wo_ixS0'; assumption; exact (by walk_at "len"))| (apply wo_ixS1'; assumption; exact (by walk_at "len"))| (apply wo_ixE0; exact (by walk_at "len"))| (apply wo_ixE1; exact (by walk_at "len"))| (apply wo_dgE; exact (by walk_at "len"); exact (by walk_at "dval"))| (apply wo_iyE; exact (by walk_at "len"); exact (by walk_at "dval"))| walk_at "woc" | refine wo_eqSelf (p := false) (by walk_at "ly") (by decide) ?_ | refine wo_neSelf (p := false) (by walk_at "ly") (by decide) ?_)) | (refine hd_SetK ?_; (first | refine setk0 ?_ | refine setk1 ?_ | refine setk2 ?_ | refine setk3 ?_ | refine setk4 ?_ | refine setk5 ?_ | refine setk6 ?_ | refine setk7 ?_ | refine setk8 ?_ | refine setk9 ?_ | refine setk10 ?_ | refine setk11 ?_ | refine setk12 ?_ | refine setk13 ?_ | refine setk14 ?_ | refine setk15 ?_ | refine setk16 ?_ | refine setk17 ?_ | refine setk18 ?_ | refine setk19 ?_ | refine setk20 ?_ | refine setk21 ?_ | refine setk22 ?_ | refine setk23 ?_ | refine setk24 ?_ | refine setk25 ?_)) | (refine hd_TupK ?_; (first | walk_at "tupq" | refine tupk0 ?_ | refine tupk1 ?_ | refine tupk2 ?_ | refine tupk3 ?_ | refine tupk4 ?_ | refine tupk5 ?_ | refine tupk6 ?_ | refine tupk7 ?_ | refine tupk8 ?_ | refine tupk9 ?_ | refine tupk10 ?_ | refine tupk11 ?_ | refine tupk12 ?_ | refine tupk13 ?_ | refine tupk14 ?_ | refine tupk15 ?_)) | (refine hd_BrK ?_; (first | refine brk_t ?_ | refine brk_f ?_ | refine brk_not ?_ | refine brk_and ?_ | refine brk_or ?_ | (apply brk_dec1; assumption)| (apply brk_dec0; assumption)| (apply brk_dec1; exact (by walk_at "dc"))| (apply brk_dec0; exact (by walk_at "dc"))| refine brk_dec (fun _ => ?_) (fun _ => ?_))) | refine trk ?_ | (apply retK_d; exact (by walk_at "len"))| (apply retK_d'; exact (by walk_at "len"))| (apply retK_S; assumption; exact (by walk_at "len"))| (apply fzk_d; exact (by walk_at "len"))| (apply fzk_end; exact (by walk_at "len"))| (refine hd_LstK ?_; (first | refine lstk0 ?_ | refine lstk1 ?_ | refine lstk2 ?_ | refine lstk3 ?_ | refine lstk4 ?_ | refine lstk5 ?_ | refine lstk6 ?_ | refine lstk7 ?_ | refine lstk8 ?_ | refine lstk9 ?_ | refine lstk10 ?_ | refine lstk11 ?_ | refine lstk12 ?_ | refine lstk13 ?_ | refine lstk14 ?_ | refine lstk15 ?_)) | refine ex_is_int_none ?_ | refine ex_is_int_bool ?_ | refine ex_is_int_int ?_ | refine ex_is_int_str ?_ | refine ex_is_int_tuple ?_ | refine ex_is_int_list ?_ | refine ex_is_int_Q ?_ | refine ex_is_bool_none ?_ | refine ex_is_bool_bool ?_ | refine ex_is_bool_int ?_ | refine ex_is_bool_str ?_ | refine ex_is_bool_tuple ?_ | refine ex_is_bool_list ?_ | refine ex_is_bool_Q ?_ | refine ex_is_str_none ?_ | refine ex_is_str_bool ?_ | refine ex_is_str_int ?_ | refine ex_is_str_str ?_ | refine ex_is_str_tuple ?_ | refine ex_is_str_list ?_ | refine ex_is_str_Q ?_ | refine ex_is_tuple_none ?_ | refine ex_is_tuple_bool ?_ | refine ex_is_tuple_int ?_ | refine ex_is_tuple_str ?_ | refine ex_is_tuple_tuple ?_ | refine ex_is_tuple_list ?_ | refine ex_is_tuple_Q ?_ | refine ex_is_list_none ?_ | refine ex_is_list_bool ?_ | refine ex_is_list_int ?_ | refine ex_is_list_str ?_ | refine ex_is_list_tuple ?_ | refine ex_is_list_list ?_ | refine ex_is_list_Q ?_ | refine ex_is_dict_none ?_ | refine ex_is_dict_bool ?_ | refine ex_is_dict_int ?_ | refine ex_is_dict_str ?_ | refine ex_is_dict_tuple ?_ | refine ex_is_dict_list ?_ | refine ex_is_dict_Q ?_ | refine ex_int ?_ | refine ex_par ?_ | refine ex_par3 ?_ | refine ex_par4 ?_ | refine ex_rev ?_ | refine ex_txt ?_ | refine ex_pc ?_ | (apply ex_revR; exact (by walk_at "rg"))| (apply ex_lstR; exact (by omega); exact (by omega))| refine ex_enumL ?_ | refine ex_enumT ?_ | refine ex_zip4LL ?_ | refine ex_unp ?_ | refine tupZk ?_ | refine ex_tupZ ?_ | refine ex_zip4TT ?_ | refine ex_zip4TL ?_ | refine ex_zipL ?_ | refine ex_zipT ?_ | (apply fzk_end2; exact (by walk_at "len"))| (apply ex_rng; exact (by walk_at "rg"))| (apply ex_rng2; exact (by walk_at "rg"); exact (by walk_at "rg"))| refine tyL_D ?_ | (apply tyL_S; assumption; exact (by walk_at "len"))| (apply tyL_E; exact (by walk_at "len"))| (apply ex_setS0; assumption; exact (by walk_at "len"))| (apply ex_setS1; assumption; exact (by walk_at "len"))| (apply ex_setL0; exact (by walk_at "len"))| (apply ex_setL1; exact (by walk_at "len"))| (apply ex_setDE; exact (by walk_at "len"); exact (by walk_at "dput"); exact (by walk_at "lsz"))| walk_at "wx" | refine gk_n ?_ | refine gk_tup2 ?_ | refine gk_tup3 ?_ | refine gk_tup4 ?_ | refine gk_lst4 ?_ | refine gk_tup5 ?_ | refine gk_tup6 ?_ | refine gk_tupQ ?_ | refine gk_tupN ?_ | refine gk_tupM ?_ | refine gk_setD ?_ | refine gk_setL ?_ | refine forK_r2 ?_ | refine forK_r3 ?_ | refine forK_r4 ?_ | refine forK_nil ?_ | refine forK_cons ?_ | refine ex_isy_int ?_ | refine ex_isy_bool ?_ | refine ex_isy_str ?_ | refine ex_isy_tuple ?_ | refine ex_isy_list ?_ | refine ex_isy_dict ?_ | refine ex_isE_none ?_ | (apply ex_isE_y; exact (by decide +kernel))| (apply ex_isE_n; exact (by decide +kernel); exact (by decide +kernel))| (refine hd_UnK ?_; (first | refine unk0 ?_ | refine unk1 ?_ | refine unk2 ?_ | refine unk3 ?_ | refine unk4 ?_ | refine unk5 ?_ | refine unk6 ?_ | refine unk7 ?_ | refine unk8 ?_ | refine unk9 ?_ | refine unk10 ?_ | refine unk11 ?_ | refine unk12 ?_ | refine unk13 ?_ | refine unk14 ?_ | refine unk15 ?_ | refine unk16 ?_ | refine unk17 ?_ | refine unk18 ?_ | refine unk19 ?_ | refine unk20 ?_ | refine unk21 ?_ | refine unk22 ?_ | refine unk23 ?_ | refine unk24 ?_ | refine unk25 ?_)) | (refine hd_TryK ?_; first | (apply tryk_y; exact (by decide +kernel))| (apply tryk_n; exact (by decide +kernel); exact (by decide +kernel)))))
local macro_rules | `(tactic| walk_at "wk") => `(tactic| refine wk_NOUGHT ?_)
local macro_rules | `(tactic| walk_at "tupq") => `(tactic| refine tq_0_1 ?_)
local macro_rules | `(tactic| walk_at "tupq") => `(tactic| refine tq_1_2 ?_)
local macro_rules | `(tactic| walk_at "tupq") => `(tactic| refine tq_7_3 ?_)
/-! the numbers' defs -/
theorem w_shared (h : Hh) : ∀ (y x : Nat), ∃ z, sWhile (eT (eOp (gInt fGt) (eVar 1) (eD (.int 0)))) (sPar 0 1 (aCons (eVar 1) (aCons (eOp (gInt fMod) (eVar 0) (eVar 1)) (aNil)))) [some (.d (.int (x : Int))), some (.d (.int (y : Int)))] h = .nx [some (.d (.int (Nat.gcd x y : Nat))), some z] h := by
  intro y
  induction y using Nat.strongRecOn with
  | ind y ih =>
    intro x
    rw [sWhile_eq]
    by_cases hy : y = 0
    · subst hy
      refine ⟨.d (.int 0), ?_⟩
      walk_at "ev"
      simp
    · have hp : (0 : Int) < (y : Int) := by omega
      obtain ⟨z, e⟩ := ih (x % y) (Nat.mod_lt _ (by omega)) y
      refine ⟨z, ?_⟩
      have hn : ((y : Int)) ≠ 0 := by omega
      walk_at "ev"
      rw [decide_eq_true hp, fMod_eq hn, fmod_nat]
      walk_at "ev"
      rw [e, Nat.gcd_comm x y, Nat.gcd_rec y x, Nat.gcd_comm (x % y) y]
theorem sp_shared (x y : Int) (h : Hh) : m_shared [.d (.int x), .d (.int y)] h = .ok (.d (.int (Int.gcd x y : Nat))) h := by
  obtain ⟨z, e⟩ := w_shared h y.natAbs x.natAbs
  unfold m_shared b_shared
  walk_at "ev"
  rw [abs_eq, abs_eq, e]
  walk_at "ev"
  rfl
theorem sp_fraction {x y : Int} (hy : y ≠ 0) {n : Nat} (b : Bd n y) (hn : n ≤ 9000) (h : Hh) : m_fraction [.d (.int x), .d (.int y)] h = .ok (.d (Q (Rat.divInt x y))) h := by
  have hn0 : 0 < n := Nat.pos_of_ne_zero fun z => by
    subst z
    unfold Bd at b
    omega
  have hg : Int.gcd x y ≠ 0 := fun z => hy (Int.gcd_eq_zero_iff.mp z).2
  have hl : Int.gcd x y ≤ y.natAbs := Nat.gcd_le_right _ (by omega)
  obtain ⟨p1, p2⟩ := divInt_parts (x := x) hy
  unfold m_fraction b_fraction
  walk_at "ev"
  rw [sp_shared]
  walk_at "ev"
  by_cases hs : y < 0
  · rw [if_pos hs] at p1 p2
    have h0 : 0 - ((Int.gcd x y : Nat) : Int) ≠ 0 := by omega
    have hb : Bd n (0 - ((Int.gcd x y : Nat) : Int)) := b.le (by omega)
    rw [decide_eq_true hs]
    walk_at "ev"
    rw [fDiv_eq h0 (hb.divOk hn0 hn), fDiv_eq h0 (hb.divOk hn0 hn), p1, p2]
    walk_at "ev" <;> rfl
  · rw [if_neg hs] at p1 p2
    have h0 : ((Int.gcd x y : Nat) : Int) ≠ 0 := by omega
    have hb : Bd n ((Int.gcd x y : Nat) : Int) := b.le (by omega)
    rw [decide_eq_false hs]
    walk_at "ev"
    rw [fDiv_eq h0 (hb.divOk hn0 hn), fDiv_eq h0 (hb.divOk hn0 hn), p1, p2]
    walk_at "ev" <;> rfl
theorem sp_plus {r s : Rat} {n m : Nat} (hr : BQ n r) (hs : BQ m s) (hl : n + m ≤ 9000) (h : Hh) : m_plus [.d (Q r), .d (Q s)] h = .ok (.d (Q (r + s))) h := by
  unfold m_plus b_plus Q
  walk_at "ev"
  rw [fMul_eq (hr.1.mulOk hs.2 (by omega)), fMul_eq (hs.1.mulOk hr.2 (by omega)), fMul_eq (hr.2.mulOk hs.2 (by omega))]
  walk_at "ev"
  rw [sp_fraction (Int.mul_ne_zero (den_ne r) (den_ne s)) (hr.2.mul hs.2) hl, add_divInt]
  walk_at "ev" <;> rfl
theorem sp_turned (r : Rat) (h : Hh) : m_turned [.d (Q r)] h = .ok (.d (Q (-r))) h := by
  rw [Q_neg]
  unfold m_turned b_turned Q
  walk_at "ev"
theorem sp_less {r s : Rat} {n m : Nat} (hr : BQ n r) (hs : BQ m s) (hl : n + m ≤ 9000) (h : Hh) : m_less [.d (Q r), .d (Q s)] h = .ok (.d (Q (r - s))) h := by
  unfold m_less b_less
  walk_at "ev"
  rw [sp_turned]
  walk_at "ev"
  rw [sp_plus hr hs.neg hl, ← Rat.sub_eq_add_neg]
  walk_at "ev"
theorem sp_times {r s : Rat} {n m : Nat} (hr : BQ n r) (hs : BQ m s) (hl : n + m ≤ 9000) (h : Hh) : m_times [.d (Q r), .d (Q s)] h = .ok (.d (Q (r * s))) h := by
  unfold m_times b_times Q
  walk_at "ev"
  rw [fMul_eq (hr.1.mulOk hs.1 (by omega)), fMul_eq (hr.2.mulOk hs.2 (by omega))]
  walk_at "ev"
  rw [sp_fraction (Int.mul_ne_zero (den_ne r) (den_ne s)) (hr.2.mul hs.2) hl, mul_divInt]
  walk_at "ev" <;> rfl
theorem sp_over {r s : Rat} {n m : Nat} (hr : BQ n r) (hs : BQ m s) (hl : n + m ≤ 9000) (h0 : s ≠ 0) (h : Hh) : m_over [.d (Q r), .d (Q s)] h = .ok (.d (Q (r / s))) h := by
  have hn : s.num ≠ 0 := fun z => h0 (Rat.num_eq_zero.mp z)
  unfold m_over b_over Q
  walk_at "ev"
  rw [fMul_eq (hr.1.mulOk hs.2 (by omega)), fMul_eq (hr.2.mulOk hs.1 (by omega))]
  walk_at "ev"
  rw [sp_fraction (Int.mul_ne_zero (den_ne r) hn) (hr.2.mul hs.1) hl, div_divInt]
  walk_at "ev" <;> rfl
theorem sp_size_of (r : Rat) (h : Hh) : m_size_of [.d (Q r)] h = .ok (.d (Q r.abs)) h := by
  rw [Q_abs]
  unfold m_size_of b_size_of Q
  walk_at "ev"
  rw [abs_eq]
theorem sp_is_less {r s : Rat} {n m : Nat} (hr : BQ n r) (hs : BQ m s) (hl : n + m ≤ 134217728) (h : Hh) : m_is_less [.d (Q r), .d (Q s)] h = .ok (.d (.bool (decide (r < s)))) h := by
  unfold m_is_less b_is_less Q
  walk_at "ev"
  rw [fMul_eq (hr.1.mulOk hs.2 (by omega)), fMul_eq (hs.1.mulOk hr.2 (by omega))]
  walk_at "ev"
  simp only [lt_num]
theorem sp_lesser {r s : Rat} {n m : Nat} (hr : BQ n r) (hs : BQ m s) (hl : n + m ≤ 134217728) (h : Hh) : m_lesser [.d (Q r), .d (Q s)] h = .ok (.d (Q (if s < r then s else r))) h := by
  unfold m_lesser b_lesser
  walk_at "ev"
  rw [sp_is_less hs hr (by omega)]
  walk_at "ev"
  by_cases z : s < r
  · rw [decide_eq_true z, if_pos z]
    walk_at "ev"
  · rw [decide_eq_false z, if_neg z]
    walk_at "ev"
theorem sp_greater {r s : Rat} {n m : Nat} (hr : BQ n r) (hs : BQ m s) (hl : n + m ≤ 134217728) (h : Hh) : m_greater [.d (Q r), .d (Q s)] h = .ok (.d (Q (if r < s then s else r))) h := by
  unfold m_greater b_greater
  walk_at "ev"
  rw [sp_is_less hr hs (by omega)]
  walk_at "ev"
  by_cases z : r < s
  · rw [decide_eq_true z, if_pos z]
    walk_at "ev"
  · rw [decide_eq_false z, if_neg z]
    walk_at "ev"
/-! the numbers' defs, by wishes -/
section
variable {h : Hh} {Q : Vl → Hh → Prop} {E : XP} {r s : Rat} {n m : Nat}
theorem wp_plus (hr : BQ n r) (hs : BQ m s) (hl : n + m ≤ 9000) (q : Q (.d (Rk.Q (r + s))) h) : Wp (m_plus [.d (Rk.Q r), .d (Rk.Q s)] h) Q E := wp_eq (sp_plus hr hs hl h) q
theorem wp_less (hr : BQ n r) (hs : BQ m s) (hl : n + m ≤ 9000) (q : Q (.d (Rk.Q (r - s))) h) : Wp (m_less [.d (Rk.Q r), .d (Rk.Q s)] h) Q E := wp_eq (sp_less hr hs hl h) q
theorem wp_times (hr : BQ n r) (hs : BQ m s) (hl : n + m ≤ 9000) (q : Q (.d (Rk.Q (r * s))) h) : Wp (m_times [.d (Rk.Q r), .d (Rk.Q s)] h) Q E := wp_eq (sp_times hr hs hl h) q
theorem wp_over (hr : BQ n r) (hs : BQ m s) (hl : n + m ≤ 9000) (h0 : s ≠ 0) (q : Q (.d (Rk.Q (r / s))) h) : Wp (m_over [.d (Rk.Q r), .d (Rk.Q s)] h) Q E := wp_eq (sp_over hr hs hl h0 h) q
theorem wp_turned (q : Q (.d (Rk.Q (-r))) h) : Wp (m_turned [.d (Rk.Q r)] h) Q E := wp_eq (sp_turned r h) q
theorem wp_size_of (q : Q (.d (Rk.Q r.abs)) h) : Wp (m_size_of [.d (Rk.Q r)] h) Q E := wp_eq (sp_size_of r h) q
theorem wp_is_less (hr : BQ n r) (hs : BQ m s) (hl : n + m ≤ 134217728) (q : Q (.d (.bool (decide (r < s)))) h) : Wp (m_is_less [.d (Rk.Q r), .d (Rk.Q s)] h) Q E := wp_eq (sp_is_less hr hs hl h) q
theorem wp_lesser (hr : BQ n r) (hs : BQ m s) (hl : n + m ≤ 134217728) (q : Q (.d (Rk.Q (mn r s))) h) : Wp (m_lesser [.d (Rk.Q r), .d (Rk.Q s)] h) Q E := wp_eq (sp_lesser hr hs hl h) q
theorem wp_greater (hr : BQ n r) (hs : BQ m s) (hl : n + m ≤ 134217728) (q : Q (.d (Rk.Q (mx r s))) h) : Wp (m_greater [.d (Rk.Q r), .d (Rk.Q s)] h) Q E := wp_eq (sp_greater hr hs hl h) q
end
local macro_rules | `(tactic| walk_at "wc") => `(tactic| (apply wp_plus; exact (by walk_at "bq"); exact (by walk_at "bq"); exact (by walk_at "sm")))
local macro_rules | `(tactic| walk_at "wc") => `(tactic| (apply wp_less; exact (by walk_at "bq"); exact (by walk_at "bq"); exact (by walk_at "sm")))
local macro_rules | `(tactic| walk_at "wc") => `(tactic| (apply wp_times; exact (by walk_at "bq"); exact (by walk_at "bq"); exact (by walk_at "sm")))
local macro_rules | `(tactic| walk_at "wc") => `(tactic| (apply wp_over; exact (by walk_at "bq"); exact (by walk_at "bq"); exact (by walk_at "sm"); exact (by walk_at "nz")))
local macro_rules | `(tactic| walk_at "wc") => `(tactic| refine wp_turned ?_)
local macro_rules | `(tactic| walk_at "wc") => `(tactic| refine wp_size_of ?_)
local macro_rules | `(tactic| walk_at "wc") => `(tactic| (apply wp_is_less; exact (by walk_at "bq"); exact (by walk_at "bq"); exact (by walk_at "sm")))
local macro_rules | `(tactic| walk_at "wc") => `(tactic| (apply wp_lesser; exact (by walk_at "bq"); exact (by walk_at "bq"); exact (by walk_at "sm")))
local macro_rules | `(tactic| walk_at "wc") => `(tactic| (apply wp_greater; exact (by walk_at "bq"); exact (by walk_at "bq"); exact (by walk_at "sm")))

/-! how many names each word wants -/
def d_WANTS : List (Str × Da) := [("plus", (.int 2)), ("less", (.int 2)), ("times", (.int 2)), ("over", (.int 2)), ("turned", (.int 1)), ("size", (.int 1)), ("least", (.int 2)), ("most", (.int 2)), ("pick", (.int 4))]

/-! programs: fractions -/
section
variable {h : Hh} {Q : Vl → Hh → Prop} {E : XP} {i j : Int}
local macro_rules | `(tactic| walk_at "wc") => `(tactic| refine wp_shared ?_)
end

/-! programs: names -/
def LET : Str := "abcdefghijklmnopqrstuvwxyz"
def isNm (x : Str) : Bool := decide (1 ≤ x.length ∧ x.length ≤ 6) && x.cps.toList.all fun c => decide (c ∈ LET.cps.toList)
section
variable {h : Hh} {Q : Vl → Hh → Prop} {E : XP} {x : Str}
end
/-! works, rows, programs as they are meant -/
inductive Work where
  | num (r : Rat)
  | op (w : Str) (xs : List Str)
def Work.da : Work → Da
  | .num r => .tuple [.str "number", Rk.Q r]
  | .op w xs => .tuple (.str w :: xs.map PyData.str)
def Work.Ok (ns : List Str) : Work → Prop
  | .num r => r.num.natAbs ≤ 10 ^ 600 ∧ r.den ≤ 10 ^ 600
  | .op w xs => seek d_WANTS w = some (.int (xs.length : Nat)) ∧ ∀ x ∈ xs, x ∈ ns
structure Prg where
  ins : List Str
  rows : List (Str × Work)
def Prg.da (p : Prg) : Da := .tuple [.tuple (p.ins.map PyData.str), .tuple (p.rows.map fun r => .tuple [.str r.1, r.2.da])]
structure Prg.Ok (p : Prg) : Prop where
  i6 : p.ins.length ≤ 6
  r1 : 1 ≤ p.rows.length
  r40 : p.rows.length ≤ 40
  nd : (p.ins ++ p.rows.map (·.1)).Nodup
  nm : ∀ x ∈ p.ins ++ p.rows.map (·.1), isNm x = true
  wk : ∀ (k : Nat) (r : Str × Work), p.rows[k]? = some r → r.2.Ok (p.ins ++ (p.rows.take k).map (·.1))
theorem seek_mem {kds : List (Str × Da)} {z : Str} {d : Da} (e : seek kds z = some d) : (z, d) ∈ kds := by
  induction kds with
  | nil => cases e
  | cons p r ih =>
    obtain ⟨k, v⟩ := p
    unfold seek at e
    split at e
    · rename_i h
      cases e
      rw [h]
      exact List.mem_cons_self ..
    · exact List.mem_cons_of_mem _ (ih e)
/-! programs: works -/
def wOk : Str × Da → Bool
  | (w, .int n) => PyData.strOk w && decide (1 ≤ n ∧ n ≤ 4) && decide (w ≠ "number")
  | _ => false
theorem wants_ok {w : Str} {d : Da} (e : seek d_WANTS w = some d) : wOk (w, d) = true := by
  have all : ∀ p ∈ d_WANTS, wOk p = true := by decide +kernel
  exact all _ (seek_mem e)
theorem wants_n {w : Str} {n : Nat} (e : seek d_WANTS w = some (.int n)) : PyData.strOk w = true ∧ 1 ≤ n ∧ n ≤ 4 ∧ w ≠ "number" := by
  have := wants_ok e
  unfold wOk at this
  simp only [Bool.and_eq_true, decide_eq_true_eq] at this
  exact ⟨this.1.1, by omega, by omega, this.2⟩
section
variable {h : Hh} {Q : Vl → Hh → Prop} {E : XP} {n : Nat} {ns : List Str} {kds : List (Key × Da)} {w : Work}
/-- a dict whose keys are these names -/
def Nms (kds : List (Key × Da)) (ns : List Str) : Prop := ∀ x, (valD kds (.inr x)).isSome = decide (x ∈ ns)
end

/-! programs: whole -/
theorem valD_put {kds : List (Key × Da)} {a b : Key} {v : Da} : valD (putD kds a v) b = if b = a then some v else valD kds b := by
  unfold valD putD
  by_cases hany : (kds.any fun kv => decide (kv.1 = a)) = true
  · rw [if_pos hany]
    by_cases hb : b = a
    · subst hb
      rw [if_pos rfl]
      induction kds with
      | nil => cases hany
      | cons p r ih =>
        rw [List.map_cons, List.find?_cons]
        by_cases hp : p.1 = b
        · simp only [hp, if_true, decide_true, Option.map_some]
        · have : (r.any fun kv => decide (kv.1 = b)) = true := by
            rw [List.any_cons, decide_eq_false hp, Bool.false_or] at hany
            exact hany
          rw [if_neg hp, decide_eq_false hp]
          exact ih this
    · rw [if_neg hb]
      clear hany
      induction kds with
      | nil => rfl
      | cons p r ih =>
        rw [List.map_cons, List.find?_cons, List.find?_cons]
        by_cases hp : p.1 = a
        · have hq : ¬ p.1 = b := fun z => hb (z ▸ hp)
          simp only [hp, if_true]
          rw [decide_eq_false (fun z => hb z.symm : ¬ a = b)]
          exact ih
        · rw [if_neg hp]
          by_cases hq : p.1 = b
          · rw [decide_eq_true hq]
          · rw [decide_eq_false hq]
            exact ih
  · rw [if_neg hany, List.find?_append]
    by_cases hb : b = a
    · subst hb
      have none' : kds.find? (fun kv => decide (kv.1 = b)) = none := by
        rw [List.find?_eq_none]
        intro kv m z
        exact hany (List.any_eq_true.mpr ⟨kv, m, z⟩)
      rw [none', if_pos rfl]
      simp
    · rw [if_neg hb]
      have hb' : ¬ a = b := fun z => hb z.symm
      cases e : kds.find? (fun kv => decide (kv.1 = b)) with
      | none => simp [hb']
      | some z => rfl
theorem put_len {kds : List (Key × Da)} {a : Key} {v : Da} : (putD kds a v).length ≤ kds.length + 1 := by
  unfold putD
  split
  · rw [List.length_map]; omega
  · rw [List.length_append]; simp
theorem fold_len (zs : List (Key × Da)) : ∀ kds : List (Key × Da), (zs.foldl (fun acc kv => putD acc kv.1 kv.2) kds).length ≤ kds.length + zs.length := by
  induction zs with
  | nil => intro kds; simp
  | cons z zs ih =>
    intro kds
    rw [List.foldl_cons, List.length_cons]
    have := ih (putD kds z.1 z.2)
    have := put_len (kds := kds) (a := z.1) (v := z.2)
    omega
section
variable {h : Hh} {Q : Vl → Hh → Prop} {E : XP} {p : Prg}
end

/-! a draw: a dict of two fields; drawing -/
def st2 (L M : Int) : List (Key × Da) := [(.inr "cell", .int L), (.inr "seed", .int M)]
theorem st2_cell (L M : Int) : valD (st2 L M) (.inr "cell") = some (.int L) := rfl
theorem st2_seed (L M : Int) : valD (st2 L M) (.inr "seed") = some (.int M) := rfl
theorem st2_pc (L M L' : Int) : putD (st2 L M) (.inr "cell") (.int L') = st2 L' M := rfl
theorem st2_ps (L M M' : Int) : putD (st2 L M) (.inr "seed") (.int M') = st2 L M' := rfl
theorem st2_len (L M : Int) : (st2 L M).length < 16777216 := by unfold st2; simp
theorem ex_st2c {n : Nat} {h : Hh} {N : Hh → Prop} {L M L' : Int} (hn : n < h.length) (q : N (h.set n (some (.dct (st2 L' M))))) : ∃ h3, setD (.r n) (.d (.str "cell")) (.d (.int L')) (h.set n (some (.dct (st2 L M)))) = some h3 ∧ N h3 := ex_setDS hn (st2_pc L M L') (st2_len L M) q
theorem ex_st2s {n : Nat} {h : Hh} {N : Hh → Prop} {L M M' : Int} (hn : n < h.length) (q : N (h.set n (some (.dct (st2 L M'))))) : ∃ h3, setD (.r n) (.d (.str "seed")) (.d (.int M')) (h.set n (some (.dct (st2 L M)))) = some h3 ∧ N h3 := ex_setDS hn (st2_ps L M M') (st2_len L M) q
def Dk (kds : List (Key × Da)) : Prop := ∃ L M : Int, kds = st2 L M ∧ 0 ≤ L ∧ 0 ≤ M ∧ M < 2147483629
section
variable {h : Hh} {Q : Vl → Hh → Prop} {E : XP} {n : Nat} {S : List (Key × Da)}
theorem wp_mixed {c : Int} {k : Nat} (hk : k < 2 ^ 32) (q : ∀ v : Int, 0 ≤ v → v < 2147483629 → Q (.d (.int v)) h) : Wp (m__law_mixed [.d (.int c), .d (.int (k : Int))] h) Q E := by
  have bk : Bd 64 (k : Int) := bd_nat (Nat.lt_trans hk (by decide))
  refine en__law_mixed ?_
  unfold b__law_mixed
  walk_at "w"
  refine q _ ?_ ?_
  · exact Int.emod_nonneg _ (by decide)
  · exact Int.emod_lt_of_pos _ (by decide)
theorem wp_mixed_ {c : Int} {k : Nat} (hk : k < 2 ^ 32) (q : ∀ v : Int, 0 ≤ v → v < 2147483629 → Q (.d (.int v)) h) {d : Int} (e : (k : Int) = d := by omega) : Wp (m__law_mixed [.d (.int c), .d (.int d)] h) Q E := by
  subst e
  exact wp_mixed hk q
local macro_rules | `(tactic| walk_at "woc") => `(tactic| first | (apply wo_dgS; assumption; exact (st2_cell _ _))| (apply wo_dgS; assumption; exact (st2_seed _ _)))
local macro_rules | `(tactic| walk_at "wx") => `(tactic| first | (apply ex_st2c; assumption)| (apply ex_st2s; assumption))
theorem wp_take (st : Dk S) (hn : n < h.length) {many : Int} (hm : 0 < many) (hm2 : many < 2 ^ 32)
    (q : ∀ (v : Int) (S' : List (Key × Da)), 0 ≤ v → v < many → Bd 200 v → Dk S' → Q (.d (.int v)) (h.set n (some (.dct S')))) : Wp (m__law_take [.r n, .d (.int many)] (h.set n (some (.dct S)))) Q E := by
  obtain ⟨L, M, rfl, h0, h1, h2⟩ := st
  have tl : ∀ o : Option Ob, (h.set n o).length = h.length := fun o => List.length_set ..
  have hm0 : many ≠ 0 := by omega
  have bm : Bd 201 many := bd_lit (2 ^ 200) (by omega) (by omega) (by decide)
  refine en__law_take ?_
  unfold b__law_take
  walk_at "w"
  · refine q _ (st2 (L / many) M) (Int.emod_nonneg _ hm0) (Int.emod_lt_of_pos _ hm) (bd_lit (2 ^ 200 - 1) ?_ ?_ (by decide)) ⟨L / many, M, rfl, Int.ediv_nonneg h0 (by omega), h1, h2⟩
    · have := Int.emod_nonneg L hm0
      omega
    · have := Int.emod_lt_of_pos L hm
      omega
  all_goals
    refine wp_mixed_ (k := many.toNat) (by omega) (fun v v0 v1 => ?_)
    walk_at "w"
    refine q _ _ (Int.emod_nonneg _ hm0) (Int.emod_lt_of_pos _ hm) (bd_lit (2 ^ 200 - 1) ?_ ?_ (by decide)) ⟨L, v, rfl, h0, v0, v1⟩
    · have := Int.emod_nonneg (v / 7) hm0
      omega
    · have := Int.emod_lt_of_pos (v / 7) hm
      omega
end

/-! the draws: a list of dicts that are changed -/
structure Drs (h hh : Hh) (m : Nat) (ns : List Nat) : Prop where
  ls : lstR hh[m]? = some ns
  m0 : h.length ≤ m
  lt : m < hh.length
  le : h.length ≤ hh.length
  old : hh.take h.length = h
  nd : ns.Nodup
  at' : ∀ n ∈ ns, h.length ≤ n ∧ n < hh.length ∧ n ≠ m ∧ ∃ S, hh[n]? = some (some (.dct S)) ∧ Dk S
theorem drs_next {h hh : Hh} {m : Nat} {ns : List Nat} {S : List (Key × Da)} (D : Drs h hh m ns) (hS : Dk S) :
    Drs h (((hh ++ [some (Ob.dct S)]).set m none) ++ [some (.rl (ns ++ [hh.length]))]) (hh.length + 1) (ns ++ [hh.length]) := by
  obtain ⟨ls, m0, lt, le, old, nd, at'⟩ := D
  have g0 : ∀ n, n < hh.length → n ≠ m → (((hh ++ [some (Ob.dct S)]).set m none) ++ [some (.rl (ns ++ [hh.length]))])[n]? = hh[n]? := by
    intro n hn hm
    rw [List.getElem?_append_left (by simp; omega), List.getElem?_set_ne (by omega), List.getElem?_append_left hn]
  refine ⟨?_, by omega, by simp, by simp; omega, ?_, ?_, ?_⟩
  · rw [List.getElem?_append_right (by simp)]
    simp [lstR]
  · rw [List.take_append_of_le_length (by simp; omega), List.take_set_of_le m0, List.take_append_of_le_length le, old]
  · rw [List.nodup_append]
    refine ⟨nd, by simp, ?_⟩
    intro a ha b hb
    rw [List.mem_singleton] at hb
    subst hb
    have := (at' a ha).2.1
    omega
  · intro n hn
    rw [List.mem_append, List.mem_singleton] at hn
    rcases hn with hn | rfl
    · obtain ⟨a1, a2, a3, S', a4, a5⟩ := at' n hn
      refine ⟨a1, by simp; omega, by omega, S', ?_, a5⟩; rw [g0 n a2 a3]; exact a4
    · refine ⟨le, by simp; omega, by omega, S, ?_, hS⟩
      rw [List.getElem?_append_left (by simp), List.getElem?_set_ne (by omega), List.getElem?_append_right (Nat.le_refl _), Nat.sub_self]
      rfl
section
variable {h : Hh} {Q : Vl → Hh → Prop} {E : XP}
theorem wo_neL0 {h : Hh} {Q : Vl → Hh → Prop} (ns : List Int) (q : Q (.d (.bool (!decide (ns = [])))) h) : Wo (gNe (.d (.list (ns.map PyData.int))) (.d (.list [])) h) Q := by
  have s0 := sh_ints []
  have e0 : PyData.eqv (.list (ns.map PyData.int)) (.list []) = decide (ns = []) := by
    have := eqv_ints ns []
    simpa using this
  rw [List.map_nil] at s0
  exact wo_eq (v := .d (.bool (!decide (ns = [])))) (h' := h) (by
    show (eqvB (.list (ns.map PyData.int)) (.list [])).map (fun z => (Vl.d (.bool (!z)), h)) = _
    simp [eqvB, sh_ints ns, s0, e0]) q
theorem w_draws2 {cs ds : List Int} (hl : cs.length ≤ 63) (h1 : 1 ≤ ds.length) (h2 : ds.length ≤ 12) (q : ∀ m ns hh, Drs h hh m ns → 1 ≤ ns.length → ns.length ≤ 12 → hh[m]? = some (some (.rl ns)) → Q (.r m) hh) :
    ForK ⟨List.mapIdx (fun i d => PyData.tuple [PyData.int (i : Nat), d]) (ds.map PyData.int), none⟩ (gTupT 2 (gsCons (gN 3) (gsCons (gN 4) gsNil))) bl__law_draws_1 [some (.d (.list (cs.map PyData.int))), some (.d (.list (ds.map PyData.int))), some (.r h.length), none, none, none] (h ++ [some (Ob.lst [])])
      (fun ρ1 h1 => Ws (sRet (eVar 2) ρ1 h1) (fun _ h1 => Q (Vl.d PyData.none) h1) ⟨Q, fun _ _ => False, fun _ _ => False, fun c fs _ h1 => E c fs h1⟩) ⟨Q, fun _ _ => False, fun _ _ => False, fun c fs _ h1 => E c fs h1⟩ := by
  rw [mapIdx_map']
  refine forK_inv (I := fun k ρ1 h1 => ∃ m ns a3 a4 a5, ρ1 = [some (.d (.list (cs.map PyData.int))), some (.d (.list (ds.map PyData.int))), some (.r m), a3, a4, a5] ∧ Drs h h1 m ns ∧ ns.length = k) ?_ ?_ ?_
  · refine ⟨_, [], _, _, _, rfl, ⟨?_, Nat.le_refl _, by simp, by simp, by simp, List.nodup_nil, fun n hn => by cases hn⟩, rfl⟩
    simp [lstR]
  · rintro k d ρ1 h1 ed ⟨m, ns, a3, a4, a5, rfl, D, ek⟩
    rw [List.getElem?_mapIdx] at ed
    cases ex : ds[k]? with
    | none => rw [ex] at ed; cases ed
    | some c =>
      have hk : k < ds.length := (List.getElem?_eq_some_iff.mp ex).1
      rw [ex] at ed
      cases ed
      walk_at "w"
      unfold bl__law_draws_1
      walk_at "w"
      have pl := pick_len cs (some (12 + (k : Int))) none (some 12)
      refine wo_stL (by decide) (by rw [pick_map, List.length_map]; omega) ?_
      walk_at "w"
      rw [pick_map]
      refine wo_sum (intsOf_map (fun x => x) _) ?_
      walk_at "w"
      have rest : ∀ L : Int, 0 ≤ L → ∀ (v : Int), 0 ≤ v → v < 2147483629 → ApK 2 m [some (.d (.list (cs.map PyData.int))), some (.d (.list (ds.map PyData.int))), some (.r m), some (.d (.int (k : Int))), some (.d (.int c)), some (.d (.int (c + 7 * (List.map (fun x => x) (pickG cs (some (12 + (k : Int))) none (some 12))).sum)))] (.r h1.length) (h1 ++ [some (.dct (st2 L v))]) (fun ρ1 h1 => ∃ m ns a3 a4 a5, ρ1 = [some (.d (.list (cs.map PyData.int))), some (.d (.list (ds.map PyData.int))), some (.r m), a3, a4, a5] ∧ Drs h h1 m ns ∧ ns.length = k + 1) := by
        intro L hL v v0 v1
        refine ⟨h1.length, ns, rfl, ?_, by omega, ?_⟩
        · rw [List.getElem?_append_left D.lt]
          exact D.ls
        · refine ⟨h1.length + 1, ns ++ [h1.length], some (.d (.int (k : Int))), some (.d (.int c)), some (.d (.int (c + 7 * (List.map (fun x => x) (pickG cs (some (12 + (k : Int))) none (some 12))).sum))), ?_, drs_next D ⟨L, v, rfl, hL, v0, v1⟩, by rw [List.length_append, ek]; rfl⟩
          rw [List.length_append]
          rfl
      refine ws_apR (m := m) (ns0 := ns) rfl D.ls ?_
      refine wp_dct ?_
      walk_at "w"
      all_goals
        refine wp_mixed_ (k := k + 1) (by omega) (fun v v0 v1 => ?_)
        walk_at "w"
        refine ⟨by simp, ?_⟩
      · exact rest c (Int.le_trans (by decide : (0 : Int) ≤ 10 ^ 18) ‹_›) v v0 v1
      · exact rest 0 (by omega) v v0 v1
  · rintro ρ1 h1 ⟨m, ns, a3, a4, a5, rfl, D, ek⟩
    rw [List.length_mapIdx] at ek
    walk_at "w"
    refine q m ns h1 D (by omega) (by omega) ?_
    have l0 := D.ls
    unfold lstR at l0
    split at l0
    · cases l0
      simp at ek
      omega
    · rename_i e
      cases l0
      exact e
    · cases l0
theorem wp_draws {cs : List Int} (hl : cs.length ≤ 63) (q : ∀ m ns hh, Drs h hh m ns → 1 ≤ ns.length → ns.length ≤ 12 → hh[m]? = some (some (.rl ns)) → Q (.r m) hh) : Wp (m__law_draws [.d (.list (cs.map PyData.int))] h) Q E := by
  refine en__law_draws ?_
  unfold b__law_draws
  walk_at "w"
  refine wo_neL0 cs ?_
  by_cases e : cs = []
  · subst e
    rw [decide_eq_true rfl]
    walk_at "w"
    exact w_draws2 (cs := []) (ds := [0]) (by decide) (by decide) (by decide) q
  · rw [decide_eq_false e]
    have h0 := List.length_pos_iff.mpr e
    walk_at "w"
    rw [show cutD (cs.map PyData.int) none (some 12) = (cs.map PyData.int).take 12 from cut_to _ 12, ← List.map_take]
    exact w_draws2 hl (by rw [List.length_take]; omega) (by rw [List.length_take]; omega) q
end

/-! what a work comes to -/
def valW (g : Str → Rat) : Work → Option Rat
  | .num r => some r
  | .op w xs => match xs with
    | [a] => if w = "turned" then some (-(g a)) else some (g a).abs
    | [a, b] => if w = "plus" then some (g a + g b) else if w = "less" then some (g a - g b) else if w = "times" then some (g a * g b)
      else if w = "over" then (if g b = 0 then none else some (g a / g b)) else if w = "least" then some (mn (g a) (g b)) else some (mx (g a) (g b))
    | [a, b, c, d] => some (if g a < g b then g c else g d)
    | _ => none
def Kn (kds : List (Key × Da)) (ns : List Str) (g : Str → Rat) : Prop := ∀ x ∈ ns, valD kds (.inr x) = some (Rk.Q (g x)) ∧ BQ 1994 (g x)
def oQ : Option Rat → Da
  | none => .none
  | some r => Rk.Q r
theorem work_op {w : Str} {xs : List Str} (e : seek d_WANTS w = some (.int (xs.length : Nat))) :
    (w = "plus" ∧ ∃ a b, xs = [a, b]) ∨ (w = "less" ∧ ∃ a b, xs = [a, b]) ∨ (w = "times" ∧ ∃ a b, xs = [a, b]) ∨ (w = "over" ∧ ∃ a b, xs = [a, b]) ∨ (w = "turned" ∧ ∃ a, xs = [a]) ∨ (w = "size" ∧ ∃ a, xs = [a]) ∨
    (w = "least" ∧ ∃ a b, xs = [a, b]) ∨ (w = "most" ∧ ∃ a b, xs = [a, b]) ∨ (w = "pick" ∧ ∃ a b c d, xs = [a, b, c, d]) := by
  have l1 : xs.length = 1 → ∃ a, xs = [a] := fun h => List.length_eq_one_iff.mp h
  have l2 : xs.length = 2 → ∃ a b, xs = [a, b] := fun h => by
    match xs, h with
    | [a, b], _ => exact ⟨a, b, rfl⟩
  have l4 : xs.length = 4 → ∃ a b c d, xs = [a, b, c, d] := fun h => by
    match xs, h with
    | [a, b, c, d], _ => exact ⟨a, b, c, d, rfl⟩
  have m := seek_mem e
  have m2 : ∀ n : Nat, (PyData.int (xs.length : Nat) : Da) = .int (n : Int) → xs.length = n := fun n h => by
    injection h with h
    omega
  unfold d_WANTS at m
  simp only [List.mem_cons, Prod.mk.injEq, List.not_mem_nil, or_false] at m
  rcases m with ⟨rfl, h⟩ | ⟨rfl, h⟩ | ⟨rfl, h⟩ | ⟨rfl, h⟩ | ⟨rfl, h⟩ | ⟨rfl, h⟩ | ⟨rfl, h⟩ | ⟨rfl, h⟩ | ⟨rfl, h⟩
  · exact .inl ⟨rfl, l2 (m2 2 h)⟩
  · exact .inr (.inl ⟨rfl, l2 (m2 2 h)⟩)
  · exact .inr (.inr (.inl ⟨rfl, l2 (m2 2 h)⟩))
  · exact .inr (.inr (.inr (.inl ⟨rfl, l2 (m2 2 h)⟩)))
  · exact .inr (.inr (.inr (.inr (.inl ⟨rfl, l1 (m2 1 h)⟩))))
  · exact .inr (.inr (.inr (.inr (.inr (.inl ⟨rfl, l1 (m2 1 h)⟩)))))
  · exact .inr (.inr (.inr (.inr (.inr (.inr (.inl ⟨rfl, l2 (m2 2 h)⟩))))))
  · exact .inr (.inr (.inr (.inr (.inr (.inr (.inr (.inl ⟨rfl, l2 (m2 2 h)⟩)))))))
  · exact .inr (.inr (.inr (.inr (.inr (.inr (.inr (.inr ⟨rfl, l4 (m2 4 h)⟩)))))))
section
variable {h : Hh} {Q : Vl → Hh → Prop} {E : XP} {w : Work} {ns : List Str} {kds : List (Key × Da)} {g : Str → Rat} {m : Nat}
local macro_rules | `(tactic| walk_at "woc") => `(tactic| (apply wo_iwR; assumption; assumption))
theorem wp_exact (ok : w.Ok ns) (e : h[m]? = some (some (.dct kds))) (k : Kn kds ns g) (q : Q (.d (oQ (valW g w))) h) : Wp (m_exact [.d w.da, .r m] h) Q E := by
  refine en_exact ?_
  unfold b_exact
  cases w with
  | num r =>
    show Ws _ _ _
    rw [show (Work.num r).da = .tuple [.str "number", Rk.Q r] from rfl]
    walk_at "w"
    exact q
  | op w xs =>
    obtain ⟨e1, e2⟩ := ok
    rw [show (Work.op w xs).da = .tuple (.str w :: xs.map PyData.str) from rfl]
    rcases work_op e1 with ⟨rfl, a, b, rfl⟩ | ⟨rfl, a, b, rfl⟩ | ⟨rfl, a, b, rfl⟩ | ⟨rfl, a, b, rfl⟩ | ⟨rfl, a, rfl⟩ | ⟨rfl, a, rfl⟩ | ⟨rfl, a, b, rfl⟩ | ⟨rfl, a, b, rfl⟩ | ⟨rfl, a, b, c, d, rfl⟩
    · obtain ⟨va, ba⟩ := k a (e2 a (by simp))
      obtain ⟨vb, bb⟩ := k b (e2 b (by simp))
      simp only [List.map_cons, List.map_nil]
      walk_at "w"
      refine ⟨by simp, ?_⟩
      walk_at "w"
      refine wo_iwR get_at (d := fnD "plus") (by rfl) ?_
      walk_at "w"
      refine fnk (m := m_plus) (by rfl) ?_
      walk_at "w"
      exact q
    · obtain ⟨va, ba⟩ := k a (e2 a (by simp))
      obtain ⟨vb, bb⟩ := k b (e2 b (by simp))
      simp only [List.map_cons, List.map_nil]
      walk_at "w"
      refine ⟨by simp, ?_⟩
      walk_at "w"
      refine wo_iwR get_at (d := fnD "less") (by rfl) ?_
      walk_at "w"
      refine fnk (m := m_less) (by rfl) ?_
      walk_at "w"
      exact q
    · obtain ⟨va, ba⟩ := k a (e2 a (by simp))
      obtain ⟨vb, bb⟩ := k b (e2 b (by simp))
      simp only [List.map_cons, List.map_nil]
      walk_at "w"
      refine ⟨by simp, ?_⟩
      walk_at "w"
      refine wo_iwR get_at (d := fnD "times") (by rfl) ?_
      walk_at "w"
      refine fnk (m := m_times) (by rfl) ?_
      walk_at "w"
      exact q
    · obtain ⟨va, ba⟩ := k a (e2 a (by simp))
      obtain ⟨vb, bb⟩ := k b (e2 b (by simp))
      simp only [List.map_cons, List.map_nil]
      walk_at "w"
      · rename_i z
        rw [show valW g (Work.op "over" [a, b]) = none from if_pos (by simpa using z)] at q
        exact q
      · rename_i z
        rw [show valW g (Work.op "over" [a, b]) = some (g a / g b) from if_neg (by simpa using z)] at q
        exact q
    · obtain ⟨va, ba⟩ := k a (e2 a (by simp))
      simp only [List.map_cons, List.map_nil]
      walk_at "w"
      exact q
    · obtain ⟨va, ba⟩ := k a (e2 a (by simp))
      simp only [List.map_cons, List.map_nil]
      walk_at "w"
      exact q
    · obtain ⟨va, ba⟩ := k a (e2 a (by simp))
      obtain ⟨vb, bb⟩ := k b (e2 b (by simp))
      simp only [List.map_cons, List.map_nil]
      walk_at "w"
      refine ⟨by simp, ?_⟩
      walk_at "w"
      refine wo_iwR get_at (d := fnD "lesser") (by rfl) ?_
      walk_at "w"
      refine fnk (m := m_lesser) (by rfl) ?_
      walk_at "w"
      exact q
    · obtain ⟨va, ba⟩ := k a (e2 a (by simp))
      obtain ⟨vb, bb⟩ := k b (e2 b (by simp))
      simp only [List.map_cons, List.map_nil]
      walk_at "w"
      refine ⟨by simp, ?_⟩
      walk_at "w"
      refine wo_iwR get_at (d := fnD "greater") (by rfl) ?_
      walk_at "w"
      refine fnk (m := m_greater) (by rfl) ?_
      walk_at "w"
      exact q
    · obtain ⟨va, ba⟩ := k a (e2 a (by simp))
      obtain ⟨vb, bb⟩ := k b (e2 b (by simp))
      obtain ⟨vc, bc⟩ := k c (e2 c (by simp))
      obtain ⟨vd, bd⟩ := k d (e2 d (by simp))
      simp only [List.map_cons, List.map_nil]
      walk_at "w"
      · rename_i z
        rw [show valW g (Work.op "pick" [a, b, c, d]) = some (if g a < g b then g c else g d) from rfl, if_pos (by simpa using z)] at q
        exact q
      · rename_i z
        rw [show valW g (Work.op "pick" [a, b, c, d]) = some (if g a < g b then g c else g d) from rfl, if_neg (by simpa using z)] at q
        exact q
end

/-! the law's own numbers -/
theorem w_lshare (h : Hh) (a b : Vl) : ∀ (y x : Nat), ∃ z, sWhile (eT (eOp (gInt fGt) (eVar 3) (eD (.int 0)))) (sPar 2 3 (aCons (eVar 3) (aCons (eOp (gInt fMod) (eVar 2) (eVar 3)) (aNil)))) [some a, some b, some (.d (.int (x : Int))), some (.d (.int (y : Int)))] h = .nx [some a, some b, some (.d (.int (Nat.gcd x y : Nat))), some z] h := by
  intro y
  induction y using Nat.strongRecOn with
  | ind y ih =>
    intro x
    rw [sWhile_eq]
    by_cases hy : y = 0
    · subst hy
      refine ⟨.d (.int 0), ?_⟩
      walk_at "ev"
      simp
    · have hp : (0 : Int) < (y : Int) := by omega
      obtain ⟨z, e⟩ := ih (x % y) (Nat.mod_lt _ (by omega)) y
      refine ⟨z, ?_⟩
      have hn : ((y : Int)) ≠ 0 := by omega
      walk_at "ev"
      rw [decide_eq_true hp, fMod_eq hn, fmod_nat]
      walk_at "ev"
      rw [e, Nat.gcd_comm x y, Nat.gcd_rec y x, Nat.gcd_comm (x % y) y]
theorem sp_lshare {x y : Int} (hy : y ≠ 0) {n : Nat} (b : Bd n y) (hn : n ≤ 9000) (h : Hh) : m__law_share [.d (.int x), .d (.int y)] h = .ok (.d (Q (Rat.divInt x y))) h := by
  have hn0 : 0 < n := Nat.pos_of_ne_zero fun z => by
    subst z
    unfold Bd at b
    omega
  have hg : Int.gcd x y ≠ 0 := fun z => hy (Int.gcd_eq_zero_iff.mp z).2
  have hl : Int.gcd x y ≤ y.natAbs := Nat.gcd_le_right _ (by omega)
  obtain ⟨p1, p2⟩ := divInt_parts (x := x) hy
  obtain ⟨z, e⟩ := w_lshare h (.d (.int x)) (.d (.int y)) y.natAbs x.natAbs
  unfold m__law_share b__law_share
  walk_at "ev"
  rw [abs_eq, abs_eq, e]
  walk_at "ev"
  rw [show Nat.gcd x.natAbs y.natAbs = Int.gcd x y from rfl]
  by_cases hs : y < 0
  · rw [if_pos hs] at p1 p2
    have h0 : 0 - ((Int.gcd x y : Nat) : Int) ≠ 0 := by omega
    have hb : Bd n (0 - ((Int.gcd x y : Nat) : Int)) := b.le (by omega)
    rw [decide_eq_false (by omega : ¬ (0 < y))]
    walk_at "ev"
    rw [fDiv_eq h0 (hb.divOk hn0 hn), fDiv_eq h0 (hb.divOk hn0 hn), p1, p2]
    walk_at "ev" <;> rfl
  · rw [if_neg hs] at p1 p2
    have h0 : ((Int.gcd x y : Nat) : Int) ≠ 0 := by omega
    have hb : Bd n ((Int.gcd x y : Nat) : Int) := b.le (by omega)
    rw [decide_eq_true (by omega : 0 < y)]
    walk_at "ev"
    rw [fDiv_eq h0 (hb.divOk hn0 hn), fDiv_eq h0 (hb.divOk hn0 hn), p1, p2]
    walk_at "ev" <;> rfl
section
variable {h : Hh} {Q : Vl → Hh → Prop} {E : XP} {r s : Rat} {n m : Nat}
theorem wp_lshare {x y : Int} (hy : y ≠ 0) (b : Bd n y) (hl : n ≤ 9000) (q : Q (.d (Rk.Q (Rat.divInt x y))) h) : Wp (m__law_share [.d (.int x), .d (.int y)] h) Q E := wp_eq (sp_lshare hy b hl h) q
theorem sp_lsum1 (hr : BQ n r) (hs : BQ m s) (hl : n + m ≤ 9000) (h : Hh) : m__law_sum [.d (Rk.Q r), .d (Rk.Q s), .d (.int 1)] h = .ok (.d (Rk.Q (r + s))) h := by
  unfold m__law_sum b__law_sum Rk.Q
  walk_at "ev"
  rw [fMul_eq (hr.1.mulOk hs.2 (by omega)), fMul_eq (Bd.mulOk (n := 2) (x := 1) (bd_lit 1 (by decide) (by decide) (by decide)) hs.1 (by omega)), fMul_eq (hr.2.mulOk hs.2 (by omega))]
  walk_at "ev"
  rw [Int.one_mul, fMul_eq (hs.1.mulOk hr.2 (by omega))]
  walk_at "ev"
  rw [sp_lshare (Int.mul_ne_zero (den_ne r) (den_ne s)) (hr.2.mul hs.2) hl, add_divInt]
  walk_at "ev" <;> rfl
theorem sp_lsum2 (hr : BQ n r) (hs : BQ m s) (hl : n + m ≤ 9000) (h : Hh) : m__law_sum [.d (Rk.Q r), .d (Rk.Q s), .d (.int (-1))] h = .ok (.d (Rk.Q (r - s))) h := by
  have hs' : BQ m (-s) := hs.neg
  unfold m__law_sum b__law_sum Rk.Q
  walk_at "ev"
  rw [fMul_eq (hr.1.mulOk hs.2 (by omega)), fMul_eq (Bd.mulOk (n := 2) (x := -1) (bd_lit 1 (by decide) (by decide) (by decide)) hs.1 (by omega)), fMul_eq (hr.2.mulOk hs.2 (by omega))]
  walk_at "ev"
  rw [show -1 * s.num = (-s).num by rw [Rat.neg_num]; omega, show (s.den : Int) = ((-s).den : Int) by rw [Rat.neg_den], fMul_eq (hs'.1.mulOk hr.2 (by omega))]
  walk_at "ev"
  rw [sp_lshare (Int.mul_ne_zero (den_ne r) (den_ne (-s))) (hr.2.mul hs'.2) hl, add_divInt, ← Rat.sub_eq_add_neg]
  walk_at "ev" <;> rfl
theorem sp_lless (hr : BQ n r) (hs : BQ m s) (hl : n + m ≤ 134217728) (h : Hh) : m__law_is_less [.d (Rk.Q r), .d (Rk.Q s)] h = .ok (.d (.bool (decide (r < s)))) h := by
  have e : m__law_is_less = m_is_less := rfl
  rw [e]
  exact sp_is_less hr hs hl h
end

/-! what a work comes to, by the law -/
section
variable {h : Hh} {Q : Vl → Hh → Prop} {E : XP} {w : Work} {ns : List Str} {kds : List (Key × Da)} {g : Str → Rat} {m n1 n2 : Nat} {r s : Rat}
theorem wp_lsum1 (hr : BQ n1 r) (hs : BQ n2 s) (hl : n1 + n2 ≤ 9000) (q : Q (.d (Rk.Q (r + s))) h) : Wp (m__law_sum [.d (Rk.Q r), .d (Rk.Q s), .d (.int 1)] h) Q E := wp_eq (sp_lsum1 hr hs hl h) q
theorem wp_lsum2 (hr : BQ n1 r) (hs : BQ n2 s) (hl : n1 + n2 ≤ 9000) (q : Q (.d (Rk.Q (r - s))) h) : Wp (m__law_sum [.d (Rk.Q r), .d (Rk.Q s), .d (.int (-1))] h) Q E := wp_eq (sp_lsum2 hr hs hl h) q
theorem wp_lless (hr : BQ n1 r) (hs : BQ n2 s) (hl : n1 + n2 ≤ 134217728) (q : Q (.d (.bool (decide (r < s)))) h) : Wp (m__law_is_less [.d (Rk.Q r), .d (Rk.Q s)] h) Q E := wp_eq (sp_lless hr hs hl h) q
theorem wo_inT2 {x a b : Str} {c : Bool} (hc : decide (x ∈ [a, b]) = c) (q : Q (.d (.bool c)) h) : Wo (gIn false (.d (.str x)) (.d (.tuple [.str a, .str b])) h) Q := by
  refine wo_eq ?_ q
  unfold gIn asQ asL
  dsimp only
  have fl : [PyData.str a, PyData.str b].all flatD = true := rfl
  have fx : flatD (.str x) = true := rfl
  have e := inF_strs x [a, b]
  rw [hc] at e
  have e : inF (.str x) [.str a, .str b] = c := e
  rw [fx, fl, e]
  rfl
local macro_rules | `(tactic| walk_at "woc") => `(tactic| first | refine wo_inT2 (c := true) (by decide +kernel) ?_ | refine wo_inT2 (c := false) (by decide +kernel) ?_)
local macro_rules | `(tactic| walk_at "woc") => `(tactic| (apply wo_iwR; assumption; assumption))
local macro_rules | `(tactic| walk_at "wc") => `(tactic| first | (apply wp_lsum1; exact (by walk_at "bq"); exact (by walk_at "bq"); exact (by walk_at "sm"))| (apply wp_lsum2; exact (by walk_at "bq"); exact (by walk_at "bq"); exact (by walk_at "sm"))| (apply wp_lless; exact (by walk_at "bq"); exact (by walk_at "bq"); exact (by walk_at "sm")))
theorem wp_lexact (ok : w.Ok ns) (e : h[m]? = some (some (.dct kds))) (k : Kn kds ns g) (q : Q (.d (oQ (valW g w))) h) : Wp (m__law_exact [.d w.da, .r m] h) Q E := by
  have hm : m < h.length := (List.getElem?_eq_some_iff.mp e).1
  refine en__law_exact ?_
  unfold b__law_exact
  cases w with
  | num r =>
    show Ws _ _ _
    rw [show (Work.num r).da = .tuple [.str "number", Rk.Q r] from rfl]
    walk_at "w"
    exact q
  | op w xs =>
    obtain ⟨e1, e2⟩ := ok
    rw [show (Work.op w xs).da = .tuple (.str w :: xs.map PyData.str) from rfl]
    have parts : ∀ {Q2 : Vl → Hh → Prop} {E2 : XP} {v2 o3 o4 o5 o6 : Option Vl}, Q2 (.d (.list (xs.map fun x => Rk.Q (g x)))) h → Wp (eFz (eLc [4] (iv itQ (eFz (eSl (eVar 0) (oSome (eD (.int 1))) (oNone)))) (gN 4) (tvYes) (eOp gIw (eVar 1) (eVar 4))) [some (.d (.tuple (.str w :: xs.map PyData.str))), some (.r m), v2, o3, o4, o5, o6] h) Q2 E2 := by
      intro Q2 E2 v2 o3 o4 o5 o6 q2
      have l4 : xs.length ≤ 4 := (wants_n e1).2.2.1
      refine wp_lcH xs PyData.str (fun x => Rk.Q (g x)) (by walk_at "wipe") ?_
      walk_at "w"
      refine ⟨rfl, by omega, rfl, fun x hx o => ?_, ?_⟩
      · have e' : (h ++ [o])[m]? = some (some (.dct kds)) := by rw [List.getElem?_append_left hm]; exact e
        have vx := (k x (e2 x hx)).1
        walk_at "w"
        refine ⟨rfl, ?_⟩
        walk_at "w"
        exact ⟨rfl, rfl⟩
      · exact q2
    rcases work_op e1 with ⟨rfl, a, b, rfl⟩ | ⟨rfl, a, b, rfl⟩ | ⟨rfl, a, b, rfl⟩ | ⟨rfl, a, b, rfl⟩ | ⟨rfl, a, rfl⟩ | ⟨rfl, a, rfl⟩ | ⟨rfl, a, b, rfl⟩ | ⟨rfl, a, b, rfl⟩ | ⟨rfl, a, b, c, d, rfl⟩
    · obtain ⟨va, ba⟩ := k a (e2 a (by simp))
      obtain ⟨vb, bb⟩ := k b (e2 b (by simp))
      simp only [List.map_cons, List.map_nil] at parts ⊢
      walk_at "w"
      refine parts ?_
      walk_at "w"
      refine wo_ilm1 (zs := [Rk.Q (g a)]) ?_
      walk_at "w"
      exact q
    · obtain ⟨va, ba⟩ := k a (e2 a (by simp))
      obtain ⟨vb, bb⟩ := k b (e2 b (by simp))
      simp only [List.map_cons, List.map_nil] at parts ⊢
      walk_at "w"
      refine parts ?_
      walk_at "w"
      refine wo_ilm1 (zs := [Rk.Q (g a)]) ?_
      walk_at "w"
      exact q
    · obtain ⟨va, ba⟩ := k a (e2 a (by simp))
      obtain ⟨vb, bb⟩ := k b (e2 b (by simp))
      simp only [List.map_cons, List.map_nil] at parts ⊢
      walk_at "w"
      refine parts ?_
      walk_at "w"
      refine wo_ilm1 (zs := [Rk.Q (g a)]) ?_
      walk_at "w"
      refine wp_lshare (Int.mul_ne_zero (den_ne _) (den_ne _)) (ba.2.mul bb.2) (by decide) ?_
      rw [mul_divInt]
      walk_at "w"
      exact q
    · obtain ⟨va, ba⟩ := k a (e2 a (by simp))
      obtain ⟨vb, bb⟩ := k b (e2 b (by simp))
      simp only [List.map_cons, List.map_nil] at parts ⊢
      walk_at "w"
      refine parts ?_
      walk_at "w"
      refine wo_ilm1 (zs := [Rk.Q (g a)]) ?_
      walk_at "w"
      · rename_i z
        rw [show valW g (Work.op "over" [a, b]) = none from if_pos (Rat.num_eq_zero.mp z)] at q
        exact q
      · rename_i z
        rw [show valW g (Work.op "over" [a, b]) = some (g a / g b) from if_neg fun y => z (Rat.num_eq_zero.mpr y)] at q
        refine wp_lshare (Int.mul_ne_zero (den_ne _) z) (ba.2.mul bb.1) (by decide) ?_
        rw [div_divInt]
        walk_at "w"
        exact q
    · obtain ⟨va, ba⟩ := k a (e2 a (by simp))
      simp only [List.map_cons, List.map_nil] at parts ⊢
      walk_at "w"
      refine parts ?_
      walk_at "w"
      refine wo_ilm1 (zs := []) ?_
      walk_at "w"
      exact q
    · obtain ⟨va, ba⟩ := k a (e2 a (by simp))
      simp only [List.map_cons, List.map_nil] at parts ⊢
      walk_at "w"
      refine parts ?_
      walk_at "w"
      refine wo_ilm1 (zs := []) ?_
      walk_at "w"
      exact q
    · obtain ⟨va, ba⟩ := k a (e2 a (by simp))
      obtain ⟨vb, bb⟩ := k b (e2 b (by simp))
      simp only [List.map_cons, List.map_nil] at parts ⊢
      walk_at "w"
      refine parts ?_
      walk_at "w"
      refine wo_ilm1 (zs := [Rk.Q (g a)]) ?_
      walk_at "w"
      · rename_i z
        rw [show valW g (Work.op "least" [a, b]) = some (if g b < g a then g b else g a) from rfl, if_pos (of_decide_eq_true z)] at q
        exact q
      · rename_i z
        rw [show valW g (Work.op "least" [a, b]) = some (if g b < g a then g b else g a) from rfl, if_neg fun y => z (decide_eq_true y)] at q
        exact q
    · obtain ⟨va, ba⟩ := k a (e2 a (by simp))
      obtain ⟨vb, bb⟩ := k b (e2 b (by simp))
      simp only [List.map_cons, List.map_nil] at parts ⊢
      walk_at "w"
      refine parts ?_
      walk_at "w"
      refine wo_ilm1 (zs := [Rk.Q (g a)]) ?_
      walk_at "w"
      · rename_i z
        have z : decide (g b < g a) = false := z
        have z := of_decide_eq_false z
        rw [show valW g (Work.op "most" [a, b]) = some (if g a < g b then g b else g a) from rfl] at q
        by_cases y : g a < g b
        · rw [if_pos y] at q
          exact q
        · rw [if_neg y] at q
          have e : g a = g b := Rat.le_antisymm (Rat.not_lt.mp z) (Rat.not_lt.mp y)
          rw [e] at q
          exact q
      · rename_i z
        have z : ¬ decide (g b < g a) = false := z
        have z : g b < g a := Classical.byContradiction fun y => z (decide_eq_false y)
        rw [show valW g (Work.op "most" [a, b]) = some (if g a < g b then g b else g a) from rfl, if_neg (Rat.not_lt.mpr (Rat.le_of_lt z))] at q
        exact q
    · obtain ⟨va, ba⟩ := k a (e2 a (by simp))
      obtain ⟨vb, bb⟩ := k b (e2 b (by simp))
      obtain ⟨vc, bc⟩ := k c (e2 c (by simp))
      obtain ⟨vd, bd⟩ := k d (e2 d (by simp))
      simp only [List.map_cons, List.map_nil] at parts ⊢
      walk_at "w"
      refine parts ?_
      walk_at "w"
      refine wo_ilm1 (zs := [Rk.Q (g a), Rk.Q (g b), Rk.Q (g c)]) ?_
      walk_at "w"
      · rename_i z
        rw [show valW g (Work.op "pick" [a, b, c, d]) = some (if g a < g b then g c else g d) from rfl, if_pos z] at q
        exact q
      · rename_i z
        rw [show valW g (Work.op "pick" [a, b, c, d]) = some (if g a < g b then g c else g d) from rfl, if_neg z] at q
        exact q
end

/-! runs -/
inductive Res where
  | told (xs : List Rat)
  | nought (k : Nat)
  | great
def goG (f : Rat → Rat) : List (Str × Work) → Nat → (Str → Rat) → List Rat → Res
  | [], _, _, acc => .told acc
  | r :: t, k, g, acc => match valW g r.2 with
    | none => .nought k
    | some u => if 10 ^ 600 < (f u).num.natAbs ∨ 10 ^ 600 < (f u).den then .great else goG f t (k + 1) (fun x => if x = r.1 then f u else g x) (acc ++ [f u])
def envZ (xs : List Str) (rs : List Rat) (x : Str) : Rat := match (xs.zip rs).find? fun p => decide (p.1 = x) with
  | some p => p.2
  | none => 0
def Prg.run (p : Prg) (f : Rat → Rat) (rs : List Rat) : Res := goG f p.rows 0 (envZ p.ins rs) []
theorem kn_put {kds : List (Key × Da)} {ns : List Str} {g : Str → Rat} {x : Str} {v : Rat} (k : Kn kds ns g) (b : BQ 1994 v) : Kn (putD kds (.inr x) (Rk.Q v)) (ns ++ [x]) (fun y => if y = x then v else g y) := fun y hy => by
  rw [valD_put]
  by_cases e : y = x
  · subst e
    simp [b]
  · have hy : y ∈ ns := by
      rw [List.mem_append, List.mem_singleton] at hy
      exact hy.resolve_right e
    have e' : ¬ ((.inr y : Key) = .inr x) := fun z => e (by injection z)
    rw [if_neg e']
    dsimp only
    rw [if_neg e]
    exact k y hy
theorem env_get : ∀ {xs : List Str} {rs : List Rat} {i : Nat} {x : Str} {r : Rat}, xs.Nodup → xs[i]? = some x → rs[i]? = some r → envZ xs rs x = r
  | [], _, i, _, _, _, h, _ => by simp at h
  | _ :: _, [], i, _, _, _, _, h => by simp at h
  | a :: xs, b :: rs, 0, x, r, _, h1, h2 => by
    simp only [List.getElem?_cons_zero, Option.some.injEq] at h1 h2
    subst h1 h2
    simp [envZ]
  | a :: xs, b :: rs, i + 1, x, r, nd, h1, h2 => by
    rw [List.getElem?_cons_succ] at h1 h2
    obtain ⟨n1, n2⟩ := List.nodup_cons.mp nd
    have ne : a ≠ x := fun z => by
      subst z
      exact n1 (List.mem_of_getElem? h1)
    have := env_get n2 h1 h2
    unfold envZ at this ⊢
    rw [List.zip_cons_cons, List.find?_cons_of_neg (by simpa using ne)]
    exact this
theorem fold_no (b : Key) : ∀ (zs kds : List (Key × Da)), b ∉ zs.map (·.1) → valD (zs.foldl (fun acc kv => putD acc kv.1 kv.2) kds) b = valD kds b
  | [], _, _ => rfl
  | z :: zs, kds, h => by
    rw [List.foldl_cons, fold_no b zs _ (fun m => h (by rw [List.map_cons]; exact List.mem_cons_of_mem _ m)), valD_put, if_neg]
    intro e
    exact h (by rw [List.map_cons, e]; exact List.mem_cons_self ..)
theorem fold_yes {b : Key} {v : Da} : ∀ (zs kds : List (Key × Da)), (zs.map (·.1)).Nodup → (b, v) ∈ zs → valD (zs.foldl (fun acc kv => putD acc kv.1 kv.2) kds) b = some v
  | z :: zs, kds, nd, m => by
    rw [List.foldl_cons]
    rw [List.map_cons, List.nodup_cons] at nd
    rcases List.mem_cons.mp m with e | e
    · subst e
      rw [fold_no b zs _ nd.1, valD_put, if_pos rfl]
    · exact fold_yes zs _ nd.2 e
theorem kn_zip {xs : List Str} {rs : List Rat} (nd : xs.Nodup) (hl : xs.length = rs.length) (hb : ∀ r ∈ rs, BQ 1994 r) :
    Kn (((xs.map (Sum.inr : Str → Key)).zip (rs.map Rk.Q)).foldl (fun acc kv => putD acc kv.1 kv.2) []) xs (envZ xs rs) := fun x hx => by
  obtain ⟨i, hi⟩ := List.mem_iff_getElem?.mp hx
  have hi' : i < xs.length := (List.getElem?_eq_some_iff.mp hi).1
  obtain ⟨r, hr⟩ : ∃ r, rs[i]? = some r := ⟨_, List.getElem?_eq_getElem (by omega)⟩
  rw [env_get nd hi hr]
  refine ⟨fold_yes _ _ ?_ ?_, hb r (List.mem_of_getElem? hr)⟩
  · rw [List.map_fst_zip (by rw [List.length_map, List.length_map]; omega)]
    exact List.pairwise_map.mpr (List.Pairwise.imp (fun ne z => ne (by injection z)) nd)
  · refine List.mem_of_getElem? (i := i) ?_
    rw [List.getElem?_zip_eq_some, List.getElem?_map, List.getElem?_map, hi, hr]
    exact ⟨rfl, rfl⟩
/-! names, fractions, works that are drawn -/
def Lt (x : Str) : Prop := ∀ c ∈ x.cps.toList, c ∈ LET.cps.toList
theorem let_get : ∀ j < 26, LET.cps.toList[j]? = some (97 + j) := by decide +kernel
def sg (c : Nat) : Str := ⟨#[c]⟩
def lnB (x : Str) : Bool := isNm x && (decide (x.length ≠ 3) || decide (x.cps.toList[1]? = some 109) || decide (x.cps.toList[1]? = some 101))
def kf (w : Int) (x : Str) : Option Nat := if w = 0 then x.cps.toList.head? else x.cps.toList.getLast?
theorem lnA : ∀ t < 26, ∀ j < 6, lnB (sg (97 + t) ++ cutS "maple" none (some ((j : Nat) : Int))) = true ∧ kf 0 (sg (97 + t) ++ cutS "maple" none (some ((j : Nat) : Int))) = some (97 + t) := by decide +kernel
theorem lnC : ∀ t < 26, ∀ j < 6, lnB (cutS "zebra" none (some ((j : Nat) : Int)) ++ sg (97 + t)) = true ∧ kf 1 (cutS "zebra" none (some ((j : Nat) : Int)) ++ sg (97 + t)) = some (97 + t) := by decide +kernel
theorem lcA : ∀ j < 6, (cutS "maple" none (some ((j : Nat) : Int))).length ≤ 6 := by decide +kernel
theorem lcC : ∀ j < 6, (cutS "zebra" none (some ((j : Nat) : Int))).length ≤ 6 := by decide +kernel
theorem get_snoc {α : Type} {P : Nat → α → Prop} {fs : List α} {y : α} {k : Nat} (fl : fs.length = k) (hf : ∀ i x, fs[i]? = some x → P i x) (hy : P k y) : ∀ i x, (fs ++ [y])[i]? = some x → P i x := by
  intro i x hi
  by_cases e : i < fs.length
  · rw [List.getElem?_append_left e] at hi
    exact hf i x hi
  · rw [List.getElem?_append_right (by omega)] at hi
    have e0 : i - fs.length = 0 := by
      have := (List.getElem?_eq_some_iff.mp hi).1
      simp at this
      omega
    rw [e0] at hi
    cases hi
    rw [show i = k by omega]
    exact hy
theorem nodup_kf {fs : List Str} {a s : Nat} {f : Str → Option Nat} (hs : s ∈ [1, 3, 5, 7, 9, 11]) (hl : fs.length ≤ 26) (hf : ∀ i x, fs[i]? = some x → f x = some (97 + (a + s * i) % 26)) : fs.Nodup := by
  unfold List.Nodup
  rw [List.pairwise_iff_getElem]
  intro i j hi hj hij e
  have h1 := hf i _ (List.getElem?_eq_getElem hi)
  have h2 := hf j _ (List.getElem?_eq_getElem hj)
  rw [e, h2] at h1
  have h3 := Option.some.inj h1
  simp only [List.mem_cons, List.not_mem_nil, or_false] at hs
  rcases hs with rfl | rfl | rfl | rfl | rfl | rfl <;> omega
def Sm (r : Rat) : Prop := r.num.natAbs ≤ 10 ^ 600 ∧ r.den ≤ 10 ^ 600
theorem Sm.not {r : Rat} (s : Sm r) : ¬ (10 ^ 600 < r.num.natAbs ∨ 10 ^ 600 < r.den) := fun z => z.elim (Nat.not_lt.mpr s.1) (Nat.not_lt.mpr s.2)
theorem sm_divInt {x y : Int} (hy : 0 < y) (b1 : x.natAbs ≤ 10 ^ 600) (b2 : y.natAbs ≤ 10 ^ 600) : Sm (Rat.divInt x y) := by
  unfold Sm
  generalize 10 ^ 600 = M at b1 b2 ⊢
  have hy0 : y ≠ 0 := by omega
  obtain ⟨p1, p2⟩ := divInt_parts (x := x) hy0
  rw [if_neg (by omega)] at p1 p2
  have hg : 0 < Int.gcd x y := Nat.pos_of_ne_zero fun z => hy0 (Int.gcd_eq_zero_iff.mp z).2
  have hgi : ((Int.gcd x y : Nat) : Int) ≠ 0 := by omega
  obtain ⟨k, ek⟩ : ((Int.gcd x y : Nat) : Int) ∣ x := Int.gcd_dvd_left ..
  obtain ⟨l, el⟩ : ((Int.gcd x y : Nat) : Int) ∣ y := Int.gcd_dvd_right ..
  generalize Int.gcd x y = g at *
  have e1 : x.fdiv (g : Int) = k := by rw [ek, Int.mul_fdiv_cancel_left _ hgi]
  have e2 : y.fdiv (g : Int) = l := by rw [el, Int.mul_fdiv_cancel_left _ hgi]
  rw [e1] at p1
  rw [e2] at p2
  rw [ek, Int.natAbs_mul, Int.natAbs_natCast] at b1
  rw [el, Int.natAbs_mul, Int.natAbs_natCast] at b2
  have m1 : k.natAbs ≤ g * k.natAbs := Nat.le_mul_of_pos_left _ hg
  have m2 : l.natAbs ≤ g * l.natAbs := Nat.le_mul_of_pos_left _ hg
  rw [← p1]
  exact ⟨by omega, by omega⟩
theorem le600 {a k : Nat} (h : a ≤ 10 ^ k) (hk : k ≤ 600) : a ≤ 10 ^ 600 := Nat.le_trans h (Nat.pow_le_pow_right (by decide) hk)
section
variable {h : Hh} {Q : Vl → Hh → Prop} {E : XP} {n : Nat} {S : List (Key × Da)}
local macro_rules | `(tactic| walk_at "wc") => `(tactic| (apply wp_take; assumption; assumption; exact (by first | omega | decide); exact (by first | omega | decide); intro _ _ _ _ _ _))
theorem wp_names (st : Dk S) (hn : n < h.length) {m : Nat} (hm : m ≤ 10)
    (q : ∀ (fs : List Str) (S' : List (Key × Da)), fs.length = m → fs.Nodup → (∀ x ∈ fs, lnB x = true) → Dk S' → Q (.d (.list (fs.map PyData.str))) (h.set n (some (Ob.dct S')))) :
    Wp (m__law_names [.r n, .d (.int (m : Int))] (h.set n (some (Ob.dct S)))) Q E := by
  refine en__law_names ?_
  unfold b__law_names
  walk_at "w"
  rename_i start S1 s0 s1 sb st1 v2 S2 t0 t1 tb st2
  refine wo_menu (fun d => ∃ s : Nat, d = .int (s : Int) ∧ s ∈ [1, 3, 5, 7, 9, 11]) t0 t1 ?_ ?_
  · intro d hd
    simp only [List.mem_cons, List.not_mem_nil, or_false] at hd
    rcases hd with rfl | rfl | rfl | rfl | rfl | rfl
    · exact ⟨1, rfl, by simp⟩
    · exact ⟨3, rfl, by simp⟩
    · exact ⟨5, rfl, by simp⟩
    · exact ⟨7, rfl, by simp⟩
    · exact ⟨9, rfl, by simp⟩
    · exact ⟨11, rfl, by simp⟩
  rintro _ ⟨s, rfl, hs⟩
  have hs12 : s < 12 := by
    simp only [List.mem_cons, List.not_mem_nil, or_false] at hs
    omega
  have bs : Bd 64 (s : Int) := bd_nat (Nat.lt_trans hs12 (by decide))
  walk_at "w"
  rename_i v3 S3 z0 z1 zb st3
  refine wo_slS (by decide +kernel) ?_
  walk_at "w"
  rename_i way S4 w0 w1 wb st4
  obtain ⟨a, rfl⟩ : ∃ a : Nat, start = (a : Int) := ⟨start.toNat, by omega⟩
  obtain ⟨j, rfl⟩ : ∃ j : Nat, v3 = (j : Int) := ⟨v3.toNat, by omega⟩
  have hj : j < 6 := by omega
  refine forK_inv (I := fun k ρ1 h1 => ∃ (fs : List Str) (S' : List (Key × Da)) (x8 x9 : Option Vl), ρ1 = [some (.r n), some (.d (.int (m : Int))), some (.d (.str LET)), some (.d (.int (a : Int))), some (.d (.int (s : Int))), some (.d (.str (cutS "zebra" none (some (j : Int))))), some (.d (.int way)), some (.r h.length), x8, x9] ∧ h1 = (h ++ [some (Ob.lst (fs.map PyData.str))]).set n (some (Ob.dct S')) ∧ Dk S' ∧ fs.length = k ∧ ∀ i x, fs[i]? = some x → lnB x = true ∧ kf way x = some (97 + (a + s * i) % 26)) ?_ ?_ ?_
  · refine ⟨[], S4, none, none, ?_, ?_, st4, rfl, nofun⟩
    · rw [List.length_set]
      rfl
    · rw [set_app hn]
      rfl
  · rintro k d ρ1 h1 ed ⟨fs, S', x8, x9, rfl, rfl, st', fl, hf⟩
    obtain ⟨hk, rfl⟩ := rng_getI ed
    have hn2 : n < (h ++ [some (Ob.lst (fs.map PyData.str))]).length := by rw [List.length_append]; omega
    have bk : Bd 64 (k : Int) := bd_nat (Nat.lt_trans (show k < 100 by omega) (by decide))
    have ht : (a + s * k) % 26 < 26 := Nat.mod_lt _ (by decide)
    walk_at "w"
    unfold bl__law_names_1
    walk_at "w"
    rw [show ((a : Int) + (s : Int) * (k : Int)) % 26 = (((a + s * k) % 26 : Nat) : Int) by rw [Int.natCast_emod, Int.natCast_add, Int.natCast_mul]; rfl]
    refine wo_ixS (c := 97 + (a + s * k) % 26) (by decide +kernel) (by rw [Int.toNat_natCast]; exact let_get _ ht) (by omega) ?_
    walk_at "w"
    · rename_i hw v S5 v0 v1 vb st5
      subst hw
      obtain ⟨i, rfl⟩ : ∃ i : Nat, v = (i : Int) := ⟨v.toNat, by omega⟩
      have hi : i < 6 := by omega
      refine wo_slS (by decide +kernel) ?_
      walk_at "w"
      refine wo_addS (a := sg (97 + (a + s * k) % 26)) (by have := lcA i hi; have : (sg (97 + (a + s * k) % 26)).length = 1 := rfl; omega) ?_
      walk_at "w"
      refine ⟨fs ++ [sg (97 + (a + s * k) % 26) ++ cutS "maple" none (some (i : Int))], S5, _, _, rfl, by rw [List.map_append]; rfl, st5, by simp [fl], get_snoc fl hf (lnA _ ht i hi)⟩
    · rename_i hw
      have hw : way = 1 := by omega
      subst hw
      refine wo_addS (b := sg (97 + (a + s * k) % 26)) (by have := lcC j hj; have : (sg (97 + (a + s * k) % 26)).length = 1 := rfl; omega) ?_
      walk_at "w"
      refine ⟨fs ++ [cutS "zebra" none (some (j : Int)) ++ sg (97 + (a + s * k) % 26)], S', _, _, rfl, by rw [List.map_append]; rfl, st', by simp [fl], get_snoc fl hf (lnC _ ht j hj)⟩
  · rintro ρ1 h1 ⟨fs, S', x8, x9, rfl, rfl, st', fl, hf⟩
    have fl : fs.length = m := by
      rw [fl]
      unfold rngD
      simp
    walk_at "w"
    refine q fs S' fl (nodup_kf hs (by omega) fun i x e => (hf i x e).2) (fun x hx => ?_) st'
    obtain ⟨i, hi⟩ := List.mem_iff_getElem?.mp hx
    exact (hf i x hi).1
local macro_rules | `(tactic| walk_at "wc") => `(tactic| (apply wp_constant; assumption; assumption; intro _ _ _ _))
def WRD : List Str := ["plus", "less", "times", "over", "turned", "size", "least", "most", "pick", "number"]
def CNT : List Nat := [2, 2, 2, 2, 1, 1, 2, 2, 4]
def wk9B (v : Nat) : Bool := match WRD[v]?, CNT[v]? with
  | some w, some c => (match seek d_WANTS w with | some (.int n) => decide (n = (c : Nat) ∧ c ≤ 4) | _ => false)
  | _, _ => false
theorem wk9 {v : Nat} (hv : v < 9) : ∃ w c, WRD[v]? = some w ∧ CNT[v]? = some c ∧ seek d_WANTS w = some (.int (c : Nat)) ∧ c ≤ 4 := by
  have all : ∀ v < 9, wk9B v = true := by decide +kernel
  have e := all v hv
  unfold wk9B at e
  split at e
  · rename_i w c e1 e2
    split at e
    · rename_i n e3
      have e4 := of_decide_eq_true e
      exact ⟨w, c, e1, e2, by rw [e3, e4.1], e4.2⟩
    · cases e
  · cases e
end

/-! works done (k16): dicts of names and small numbers -/
structure GoodK (kds : List (Key × Da)) (ns : List Str) (g : Str → Rat) : Prop where
  kn : Kn kds ns g
  nd : (kds.map (·.1)).Nodup
  qs : ∀ p ∈ kds, ∃ r, p.2 = Rk.Q r
  sm : ∀ x ∈ ns, BQ 100 (g x)
theorem put_nd {kds : List (Key × Da)} {a : Key} {v : Da} (nd : (kds.map (·.1)).Nodup) : ((putD kds a v).map (·.1)).Nodup := by
  unfold putD
  split
  · rw [List.map_map]
    rw [show ((fun x : Key × Da => x.1) ∘ fun kv : Key × Da => if kv.1 = a then (kv.1, v) else kv) = fun x : Key × Da => x.1 from funext fun x => by
      show (if x.1 = a then (x.1, v) else x).1 = x.1
      split <;> rfl]
    exact nd
  · rename_i h
    rw [List.map_append, List.map_singleton, List.nodup_append]
    refine ⟨nd, by simp, fun x hx y hy e => ?_⟩
    rw [List.mem_singleton] at hy
    obtain ⟨p, hp, rfl⟩ := List.mem_map.mp hx
    exact h (List.any_eq_true.mpr ⟨p, hp, decide_eq_true (e.trans hy)⟩)
theorem put_qs {kds : List (Key × Da)} {a : Key} {r : Rat} (qs : ∀ p ∈ kds, ∃ r, p.2 = Rk.Q r) : ∀ p ∈ putD kds a (Rk.Q r), ∃ r, p.2 = Rk.Q r := fun p hp => by
  unfold putD at hp
  split at hp
  · obtain ⟨x, hx, rfl⟩ := List.mem_map.mp hp
    by_cases e : x.1 = a
    · rw [if_pos e]; exact ⟨r, rfl⟩
    · rw [if_neg e]; exact qs x hx
  · rcases List.mem_append.mp hp with z | z
    · exact qs p z
    · rw [List.mem_singleton] at z
      rw [z]
      exact ⟨r, rfl⟩
theorem fold_nd : ∀ (zs kds : List (Key × Da)), (kds.map (·.1)).Nodup → ((zs.foldl (fun acc kv => putD acc kv.1 kv.2) kds).map (·.1)).Nodup
  | [], _, h => h
  | z :: zs, kds, h => by
    rw [List.foldl_cons]
    exact fold_nd zs _ (put_nd h)
theorem fold_qs : ∀ (zs kds : List (Key × Da)), (∀ p ∈ zs, ∃ r, p.2 = Rk.Q r) → (∀ p ∈ kds, ∃ r, p.2 = Rk.Q r) → ∀ p ∈ zs.foldl (fun acc kv => putD acc kv.1 kv.2) kds, ∃ r, p.2 = Rk.Q r
  | [], _, _, h => h
  | z :: zs, kds, hz, h => by
    rw [List.foldl_cons]
    obtain ⟨r, e⟩ := hz z (List.mem_cons_self ..)
    rw [e]
    exact fold_qs zs _ (fun p hp => hz p (List.mem_cons_of_mem _ hp)) (put_qs h)
theorem good_put {kds : List (Key × Da)} {ns : List Str} {g : Str → Rat} {x : Str} {v : Rat} (G : GoodK kds ns g) (b : BQ 100 v) : GoodK (putD kds (.inr x) (Rk.Q v)) ns (fun y => if y = x then v else g y) :=
  ⟨fun y hy => kn_put (x := x) G.kn (b.mono (by decide)) y (List.mem_append.mpr (.inl hy)), put_nd G.nd, put_qs G.qs, fun y hy => by
    show BQ 100 (if y = x then v else g y)
    split
    · exact b
    · exact G.sm y hy⟩
theorem valD_mem {kds : List (Key × Da)} {p : Key × Da} (nd : (kds.map (·.1)).Nodup) (hp : p ∈ kds) : valD kds p.1 = some p.2 := by
  induction kds with
  | nil => cases hp
  | cons z t ih =>
    rw [List.map_cons, List.nodup_cons] at nd
    unfold valD
    rcases List.mem_cons.mp hp with e | e
    · subst e
      rw [List.find?_cons, decide_eq_true rfl]
      rfl
    · have ne : z.1 ≠ p.1 := fun y => nd.1 (by rw [y]; exact List.mem_map_of_mem e)
      rw [List.find?_cons, decide_eq_false ne]
      exact ih nd.2 e
theorem good_sh {kds : List (Key × Da)} {ns : List Str} {g : Str → Rat} (G : GoodK kds ns g) : kds.all (fun p => shD p.2) = true := by
  rw [List.all_eq_true]
  intro p hp
  obtain ⟨r, e⟩ := G.qs p hp
  rw [e]
  rfl
theorem good_eq {kds : List (Key × Da)} {ns : List Str} {g : Str → Rat} (G : GoodK kds ns g) : eqDD kds kds = true := by
  unfold eqDD
  rw [beq_self_eq_true, Bool.true_and, List.all_eq_true]
  intro p hp
  unfold hitD
  rw [valD_mem G.nd hp]
  obtain ⟨r, e⟩ := G.qs p hp
  dsimp only
  rw [e]
  exact eqv_self _ rfl
theorem pairs_zip : ∀ {xs : List Str} {rs : List Rat}, pairsD (List.zipWith (fun x r => PyData.tuple [.str x, Rk.Q r]) xs rs) = some ((xs.map (Sum.inr : Str → Key)).zip (rs.map Rk.Q))
  | [], _ => rfl
  | _ :: _, [] => rfl
  | x :: xs, r :: rs => by
    rw [List.zipWith_cons_cons, pairsD, pairs_zip (xs := xs) (rs := rs)]
    rfl
theorem zip_snoc {α β γ : Type} {f : α → β → γ} : ∀ {xs : List α} {rs : List β} {x : α} {r : β}, xs[rs.length]? = some x → List.zipWith f xs (rs ++ [r]) = List.zipWith f xs rs ++ [f x r]
  | [], rs, x, r, h => by simp at h
  | a :: xs, [], x, r, h => by
    simp only [List.length_nil, List.getElem?_cons_zero, Option.some.injEq] at h
    subst h
    simp
  | a :: xs, b :: rs, x, r, h => by
    rw [List.length_cons, List.getElem?_cons_succ] at h
    rw [List.cons_append, List.zipWith_cons_cons, List.zipWith_cons_cons, zip_snoc h]
    rfl
theorem good_zip {xs : List Str} {rs : List Rat} (nd : xs.Nodup) (hl : xs.length = rs.length) (hb : ∀ r ∈ rs, BQ 100 r) : GoodK (((xs.map (Sum.inr : Str → Key)).zip (rs.map Rk.Q)).foldl (fun acc kv => putD acc kv.1 kv.2) []) xs (envZ xs rs) := by
  refine ⟨kn_zip nd hl fun r hr => (hb r hr).mono (by decide), fold_nd _ _ List.nodup_nil, fold_qs _ _ (fun p hp => ?_) nofun, fun x hx => ?_⟩
  · obtain ⟨h1, h2⟩ := List.of_mem_zip hp
    obtain ⟨r, _, e⟩ := List.mem_map.mp h2
    exact ⟨r, e.symm⟩
  · obtain ⟨i, hi⟩ := List.mem_iff_getElem?.mp hx
    have hi' : i < xs.length := (List.getElem?_eq_some_iff.mp hi).1
    obtain ⟨r, hr⟩ : ∃ r, rs[i]? = some r := ⟨_, List.getElem?_eq_getElem (by omega)⟩
    rw [env_get nd hi hr]
    exact hb r (List.mem_of_getElem? hr)
def WSm : Work → Prop
  | .num r => BQ 100 r
  | .op _ _ => True
theorem valW_sm {kds : List (Key × Da)} {ns : List Str} {g : Str → Rat} {w : Work} {u : Rat} (G : GoodK kds ns g) (ok : w.Ok ns) (ws : WSm w) (e : valW g w = some u) : BQ 300 u := by
  cases w with
  | num r =>
    cases e
    exact BQ.mono ws (by decide)
  | op w xs =>
    obtain ⟨e1, e2⟩ := ok
    have b : ∀ x ∈ xs, BQ 100 (g x) := fun x hx => G.sm x (e2 x hx)
    rcases work_op e1 with ⟨rfl, x, y, rfl⟩ | ⟨rfl, x, y, rfl⟩ | ⟨rfl, x, y, rfl⟩ | ⟨rfl, x, y, rfl⟩ | ⟨rfl, x, rfl⟩ | ⟨rfl, x, rfl⟩ | ⟨rfl, x, y, rfl⟩ | ⟨rfl, x, y, rfl⟩ | ⟨rfl, x, y, z, t, rfl⟩
    · have e : g x + g y = u := Option.some.inj e
      subst e
      exact ((b x (by simp)).add' (b y (by simp))).mono (by decide)
    · have e : g x - g y = u := Option.some.inj e
      subst e
      exact ((b x (by simp)).sub' (b y (by simp))).mono (by decide)
    · have e : g x * g y = u := Option.some.inj e
      subst e
      exact ((b x (by simp)).mul' (b y (by simp))).mono (by decide)
    · have e : (if g y = 0 then none else some (g x / g y)) = some u := e
      split at e
      · cases e
      · cases e
        exact ((b x (by simp)).div' (b y (by simp))).mono (by decide)
    · have e : -(g x) = u := Option.some.inj e
      subst e
      exact (b x (by simp)).neg.mono (by decide)
    · have e : (g x).abs = u := Option.some.inj e
      subst e
      exact (b x (by simp)).abs.mono (by decide)
    · have e : mn (g x) (g y) = u := Option.some.inj e
      subst e
      exact ((b x (by simp)).mn (b y (by simp))).mono (by decide)
    · have e : mx (g x) (g y) = u := Option.some.inj e
      subst e
      exact ((b x (by simp)).mx (b y (by simp))).mono (by decide)
    · have e : (if g x < g y then g z else g t) = u := Option.some.inj e
      subst e
      exact (BQ.ite (b z (by simp)) (b t (by simp))).mono (by decide)
theorem oQ_shw {kds : List (Key × Da)} {ns : List Str} {g : Str → Rat} {w : Work} (G : GoodK kds ns g) (ok : w.Ok ns) (ws : WSm w) : ∃ k e, Shw k e (oQ (valW g w)) ∧ k ≤ 100000 ∧ e ≤ 10 := by
  cases e : valW g w with
  | none => exact ⟨_, _, Shw.none, by decide, by decide⟩
  | some u => exact ⟨_, _, Shw.Q (valW_sm G ok ws e) (by decide), by decide, by decide⟩
section
variable {h : Hh} {Q : Vl → Hh → Prop} {E : XP} {n : Nat} {S : List (Key × Da)}
local macro_rules | `(tactic| walk_at "wc") => `(tactic| (apply wp_take; assumption; assumption; exact (by first | omega | decide); exact (by first | omega | decide); intro _ _ _ _ _ _))
theorem wp_constantB (st : Dk S) (hn : n < h.length)
    (q : ∀ (r : Rat) (S' : List (Key × Da)), Sm r → BQ 100 r → Dk S' → Q (.d (Rk.Q r)) (h.set n (some (.dct S')))) :
    Wp (m__law_constant [.r n] (h.set n (some (.dct S)))) Q E := by
  refine en__law_constant ?_
  unfold b__law_constant
  walk_at "w"
  · rename_i v1 S1 a0 a1 ab st1 v2 S2 b0 b1 bb st2 v3 S3 c0 c1 cb st3 hz v4 S4 d0 d1 db st4
    have p20 : (10 : Int) ^ 20 = 100000000000000000000 := by decide
    have p9 : (10 : Int) ^ 9 = 1000000000 := by decide
    rw [p9] at d1
    rw [p20]
    refine wp_lshare (n := 201) (by omega) (bd_lit (2 ^ 200) (by omega) (by omega) (by decide)) (by decide) ?_
    walk_at "w"
    exact q _ _ (sm_divInt (by omega) (le600 (k := 30) (by omega) (by decide)) (le600 (k := 2) (by omega) (by decide))) (BQ.mono (BQ.dv (n := 90) (m := 10) (bd_lit (2 ^ 89) (by omega) (by omega) (by decide)) (bd_lit 100 (by omega) (by omega) (by decide))) (by decide)) ‹_›
  · rename_i v1 S1 a0 a1 ab st1 v2 S2 b0 b1 bb st2 v3 S3 c0 c1 cb st3 hz
    refine wp_lshare (n := 201) (by omega) (bd_lit (2 ^ 200) (by omega) (by omega) (by decide)) (by decide) ?_
    walk_at "w"
    exact q _ _ (sm_divInt (by omega) (le600 (k := 2) (by omega) (by decide)) (le600 (k := 2) (by omega) (by decide))) (BQ.mono (BQ.dv (n := 90) (m := 10) (bd_lit (2 ^ 89) (by omega) (by omega) (by decide)) (bd_lit 100 (by omega) (by omega) (by decide))) (by decide)) ‹_›
end

/-! law_k16: the law -/
theorem set_same {h : Hh} {m : Nat} {o : Option Ob} (e : h[m]? = some o) : h.set m o = h := by
  apply List.ext_getElem?
  intro j
  by_cases z : m = j
  · subst z
    rw [List.getElem?_set_self (List.getElem?_eq_some_iff.mp e).1, e]
  · rw [List.getElem?_set_ne z]
theorem oQ_ly (o : Option Rat) : Ly false 1 (oQ o) := by
  cases o with
  | none => exact Ly.mono Ly.none (by decide)
  | some r => exact Ly.Q
section
variable {h : Hh} {N : En → Hh → Prop} {D : Ds} {n : Nat} {S : List (Key × Da)}
local macro_rules | `(tactic| walk_at "wc") => `(tactic| (apply wp_take; assumption; assumption; exact (by first | omega | decide); exact (by first | omega | decide); intro _ _ _ _ _ _))
theorem w_law2 {kds : List (Key × Da)} {ns : List Str} {g : Str → Rat} {w : Work} {i j : Nat} (G : GoodK kds ns g) (ok : w.Ok ns) (ws : WSm w) (e1 : h[i]? = some (some (.dct kds))) (e2 : h[j]? = some (some (.dct kds))) {a0 a1 a2 a3 a5 a6 a7 a8 a9 a10 : Option Vl}
    (q : N [a0, a1, a2, a3, some (.r i), a5, a6, a7, a8, a9, a10, some (.r j), some (.d w.da)] h) :
    Ws (bl_law_2 [a0, a1, a2, a3, some (.r i), a5, a6, a7, a8, a9, a10, some (.r j), some (.d w.da)] h) N D := by
  obtain ⟨R', B, C, X⟩ := D
  obtain ⟨k, e, sh, hk, he⟩ := oQ_shw G ok ws
  unfold bl_law_2
  walk_at "w"
  refine wp_exact ok e2 G.kn ?_
  walk_at "w"
  refine wp_lexact ok e1 G.kn ?_
  walk_at "w"
  refine wo_neDD e2 e1 (good_sh G) (good_sh G) (good_eq G) ?_
  walk_at "w"
  exact q
theorem w_law1 {H : Hh} {hl k : Nat} {ns : List Str} {ws : List Work} (hk : k < 9) (hn : n < H.length) (eL : H.length = hl) (st : Dk S) (l4 : ns.length = 4) (ok : ∀ w ∈ ws, w.Ok ns ∧ WSm w) (wl : ws.length = k + 1) {a0 a1 a4 a5 a9 a10 a11 a12 : Option Vl}
    (q : ∀ (w : Work) (S' : List (Key × Da)) (a9 : Option Vl), w.Ok ns → WSm w → Dk S' → N [a0, a1, some (.r n), some (.d (.list (ns.map PyData.str))), a4, a5, some (.r hl), some (.d (.int (k : Int))), some (.d (.str (WRD.getD k ""))), a9, a10, a11, a12] ((H ++ [some (Ob.lst ((ws ++ [w]).map Work.da))]).set n (some (.dct S')))) :
    Ws (bl_law_1 [a0, a1, some (.r n), some (.d (.list (ns.map PyData.str))), a4, a5, some (.r hl), some (.d (.int (k : Int))), some (.d (.str (WRD.getD k ""))), a9, a10, a11, a12] ((H ++ [some (Ob.lst (ws.map Work.da))]).set n (some (.dct S)))) N D := by
  subst eL
  obtain ⟨R', B, C, X⟩ := D
  obtain ⟨w, c, e1, e2, e3, e4⟩ := wk9 hk
  have ew : WRD.getD k "" = w := by rw [List.getD_eq_getElem?_getD, e1]; rfl
  rw [ew] at q ⊢
  have hn2 : n < (H ++ [some (Ob.lst (ws.map Work.da))]).length := by rw [List.length_append]; omega
  have ln : (ns.map PyData.str).length = 4 := by rw [List.length_map]; exact l4
  have lw : (ws.map Work.da).length < 16777216 := by rw [List.length_map]; omega
  unfold bl_law_1
  walk_at "w"
  refine wp_lcU (by walk_at "wipe") ?_
  walk_at "w"
  refine wo_ixLF (v := .int (c : Nat)) (show (CNT.map fun c => PyData.int (c : Nat))[k]? = _ by rw [List.getElem?_map, e2]; rfl) ?_
  walk_at "w"
  refine ⟨rfl, by rw [List.length_set], ?_⟩
  refine lck_inv (I := fun j acc hb => ∃ (xs : List Str) (S' : List (Key × Da)), acc = xs.map PyData.str ∧ xs.length = j ∧ (∀ x ∈ xs, x ∈ ns) ∧ hb = (H ++ [some (Ob.lst (ws.map Work.da))]).set n (some (.dct S')) ∧ Dk S') ⟨[], S, rfl, rfl, nofun, rfl, st⟩ ?_ ?_ ?_ ?_
  · rintro k acc hb ⟨rows, S', _, _, _, rfl, _⟩
    rw [List.length_set, List.length_set]
  · unfold rngD
    simp
    omega
  · rintro j d acc hb ed ⟨xs, S', rfl, rl, ro, rfl, st8⟩ hj
    obtain ⟨hj2, rfl⟩ := rng_getI ed
    walk_at "w"
    rename_i v' S4 d0 d1 d2 d3
    refine wo_menu (fun d => ∃ x, x ∈ ns ∧ PyData.str x = d) d0 (by rw [ln]; exact d1) (fun d hd => List.mem_map.mp hd) ?_
    rintro _ ⟨x, hx, rfl⟩
    rw [set_app hn2]
    refine ⟨.str x, _, rfl, rfl, xs ++ [x], S4, by rw [List.map_append]; rfl, by rw [List.length_append, rl]; rfl, fun y hy => ?_, rfl, d3⟩
    rcases List.mem_append.mp hy with z | z
    · exact ro y z
    · rw [List.mem_singleton] at z
      rw [z]
      exact hx
  rintro acc hb ⟨xs, S', rfl, rl, ro, rfl, st8⟩ _
  have rl : xs.length = c := by
    rw [rl]
    unfold rngD
    simp
  have lx : (xs.map PyData.str).length ≤ 4 := by rw [List.length_map]; omega
  walk_at "w"
  have := q (.op w xs) S' (some (.d (.list (xs.map PyData.str)))) ⟨by rw [rl]; exact e3, ro⟩ True.intro st8
  rw [List.map_append] at this
  exact this
end

section
variable {h : Hh} {N : En → Hh → Prop} {D : Ds} {n : Nat} {S : List (Key × Da)}
local macro_rules | `(tactic| walk_at "wc") => `(tactic| (apply wp_take; assumption; assumption; exact (by first | omega | decide); exact (by first | omega | decide); intro _ _ _ _ _ _))
local macro_rules | `(tactic| walk_at "wc") => `(tactic| (apply wp_constantB; assumption; assumption; intro _ _ _ _ _))
def WDS : Da := .list [.str "plus", .str "less", .str "times", .str "over", .str "turned", .str "size", .str "least", .str "most", .str "pick"]
theorem b73 : BQ 100 (7 / 3) := ⟨by unfold Bd; decide +kernel, by unfold Bd; decide +kernel⟩
theorem w_law3 {a0 a3 a4 a5 a6 a7 a8 a9 a10 a11 a12 : Option Vl} (hn : n < h.length) (st : Dk S)
    (q : ∀ (a3 a4 a5 a6 a7 a8 a9 a10 a11 a12 : Option Vl) (h' : Hh) (S' : List (Key × Da)), Dk S' → h'[n]? = some (some (.dct S')) → (∀ m, m ≠ n → m < h.length → h'[m]? = h[m]?) → N [a0, some (.d WDS), some (.r n), a3, a4, a5, a6, a7, a8, a9, a10, a11, a12] h') :
    Ws (bl_law_3 [a0, some (.d WDS), some (.r n), a3, a4, a5, a6, a7, a8, a9, a10, a11, a12] (h.set n (some (.dct S)))) N D := by
  obtain ⟨R', B, C, X⟩ := D
  unfold bl_law_3 WDS
  walk_at "w"
  refine wp_names (m := 4) st hn (by decide) fun ns S1 fl nd nm st1 => ?_
  have ln : (ns.map PyData.str).length = 4 := by rw [List.length_map]; exact fl
  have gI : ∀ j < 4, (ns.map PyData.str)[j]? = some (.str (ns.getD j "")) := fun j hj => by
    rw [List.getElem?_map, List.getD_eq_getElem?_getD, List.getElem?_eq_getElem (by omega)]
    rfl
  have mI : ∀ j < 4, ns.getD j "" ∈ ns := fun j hj => by
    rw [List.getD_eq_getElem?_getD, List.getElem?_eq_getElem (by omega)]
    exact List.getElem_mem _
  walk_at "w"
  refine wp_lcU (by walk_at "wipe") ?_
  walk_at "w"
  refine ⟨rfl, rfl, ?_⟩
  refine lck_inv (I := fun j acc hb => ∃ (rs : List Rat) (S' : List (Key × Da)), acc = List.zipWith (fun x r => PyData.tuple [.str x, Rk.Q r]) ns rs ∧ rs.length = j ∧ (∀ r ∈ rs, BQ 100 r) ∧ hb = h.set n (some (.dct S')) ∧ Dk S') ⟨[], S1, by rw [List.zipWith_nil_right], rfl, nofun, rfl, st1⟩ ?_ ?_ ?_ ?_
  · rintro k acc hb ⟨rows, S', _, _, _, rfl, _⟩
    rw [List.length_set, List.length_set]
  · show (ns.map PyData.str).length ≤ _
    omega
  · rintro j d acc hb ed ⟨rs, S', rfl, rl, ro, rfl, st8⟩ hj
    rw [List.getElem?_map] at ed
    cases ex : ns[j]? with
    | none => rw [ex] at ed; cases ed
    | some x =>
      rw [ex] at ed
      cases ed
      walk_at "w"
      rename_i r S4 sr br st4
      rw [set_app hn]
      refine ⟨.tuple [.str x, Rk.Q r], _, rfl, rfl, rs ++ [r], S4, by rw [zip_snoc (by rw [rl]; exact ex)], by rw [List.length_append, rl]; rfl, fun y hy => ?_, rfl, st4⟩
      rcases List.mem_append.mp hy with z | z
      · exact ro y z
      · rw [List.mem_singleton] at z
        rw [z]
        exact br
  rintro acc hb ⟨rs, S2, rfl, rl, ro, rfl, st2⟩ _
  have rl : rs.length = 4 := by rw [rl]; exact ln
  walk_at "w"
  refine wo_dp pairs_zip ?_
  have G0 := good_zip nd (by rw [fl, rl]) ro
  have l0 : (((ns.map (Sum.inr : Str → Key)).zip (rs.map Rk.Q)).foldl (fun acc kv => putD acc kv.1 kv.2) []).length ≤ 5 := by
    refine Nat.le_trans (fold_len _ _) ?_
    rw [List.length_zip, List.length_map, List.length_map, fl, rl]
    decide
  generalize ((ns.map (Sum.inr : Str → Key)).zip (rs.map Rk.Q)).foldl (fun acc kv => putD acc kv.1 kv.2) [] = kds at G0 l0 ⊢
  generalize envZ ns rs = g at G0
  rw [← set_app hn, List.length_set]
  have hn1 : n < (h ++ [some (Ob.dct kds)]).length := by rw [List.length_append]; omega
  have at1 : ∀ (k2 : List (Key × Da)) o, ((h ++ [some (Ob.dct k2)]).set n o)[h.length]? = some (some (.dct k2)) := fun k2 o => by
    rw [List.getElem?_set_ne (by omega), List.getElem?_append_right (Nat.le_refl _), Nat.sub_self]
    rfl
  refine setk4 (ws_seq (ws_use (N' := fun ρ1 h1 => ∃ (kds : List (Key × Da)) (g : Str → Rat) (S' : List (Key × Da)), GoodK kds ns g ∧ kds.length ≤ 6 ∧ Dk S' ∧ ρ1 = [a0, some (.d WDS), some (.r n), some (.d (.list (ns.map PyData.str))), some (.r h.length), a5, a6, a7, a8, a9, a10, a11, a12] ∧ h1 = (h ++ [some (Ob.dct kds)]).set n (some (Ob.dct S'))) ?_ ?_))
  · walk_at "w"
    · rename_i v S3 b0 b1 bb st3 hz
      refine wo_ixLF (gI 1 (by decide)) ?_
      walk_at "w"
      refine wo_iwR (at1 kds _) (G0.kn _ (mI 1 (by decide))).1 ?_
      walk_at "w"
      refine wo_ixLF (gI 0 (by decide)) ?_
      walk_at "w"
      refine ⟨_, set_of (kds' := putD kds (.inr (ns.getD 0 "")) (Rk.Q (g (ns.getD 1 "")))) (at1 kds _) rfl (by omega), ?_⟩
      refine ⟨putD kds (.inr (ns.getD 0 "")) (Rk.Q (g (ns.getD 1 ""))), fun y => if y = ns.getD 0 "" then g (ns.getD 1 "") else g y, S3, good_put G0 (G0.sm _ (mI 1 (by decide))), Nat.le_trans put_len (by omega), st3, rfl, ?_⟩
      rw [List.set_comm _ _ (by omega)]
      simp
    · rename_i v S3 b0 b1 bb st3 hz
      exact ⟨kds, g, S3, G0, by omega, st3, rfl, rfl⟩
  clear G0 l0 at1 hn1
  rintro ρ1 h1 ⟨kds, g, S3, G0, l0, st3, rfl, rfl⟩
  have hn1 : n < (h ++ [some (Ob.dct kds)]).length := by rw [List.length_append]; omega
  have eW : WDS = .list ((WRD.take 9).map PyData.str) := rfl
  walk_at "w"
  rename_i r S4 sr br st4
  unfold WDS
  walk_at "w"
  rw [List.length_set, ← set_app hn1]
  refine forK_inv (I := fun k ρ1 h1 => k ≤ 9 ∧ ∃ (ws : List Work) (S' : List (Key × Da)) (a7 a8 a9 : Option Vl), ρ1 = [a0, some (.d WDS), some (.r n), some (.d (.list (ns.map PyData.str))), some (.r h.length), a5, some (.r (h ++ [some (Ob.dct kds)]).length), a7, a8, a9, a10, a11, a12] ∧ h1 = ((h ++ [some (Ob.dct kds)]) ++ [some (Ob.lst (ws.map Work.da))]).set n (some (.dct S')) ∧ (∀ w ∈ ws, w.Ok ns ∧ WSm w) ∧ ws.length = k + 1 ∧ Dk S') ?_ ?_ ?_
  · exact ⟨by decide, [.num r], S4, _, _, _, rfl, rfl, fun w hw => by
      rw [List.mem_singleton] at hw
      rw [hw]
      exact ⟨sr, br⟩, rfl, st4⟩
  · rintro k d ρ1 h1 ed ⟨k9, ws, S', a7, a8, a9, rfl, rfl, wok, wl, st'⟩
    rw [List.getElem?_mapIdx] at ed
    have hk : k < 9 := by
      rcases Nat.lt_or_ge k 9 with z | z
      · exact z
      · rw [List.getElem?_eq_none (by exact z)] at ed
        cases ed
    have ew : ([PyData.str "plus", PyData.str "less", PyData.str "times", PyData.str "over", PyData.str "turned", PyData.str "size", PyData.str "least", PyData.str "most", PyData.str "pick"] : List Da)[k]? = some (.str (WRD.getD k "")) := by
      match k, hk with
      | 0, _ => rfl
      | 1, _ => rfl
      | 2, _ => rfl
      | 3, _ => rfl
      | 4, _ => rfl
      | 5, _ => rfl
      | 6, _ => rfl
      | 7, _ => rfl
      | 8, _ => rfl
    rw [ew] at ed
    cases ed
    walk_at "w"
    refine w_law1 hk hn1 rfl st' fl wok wl fun w S2 a9 o1 o2 st2 => ⟨by omega, ws ++ [w], S2, _, _, _, rfl, rfl, fun u hu => ?_, by rw [List.length_append, wl]; rfl, st2⟩
    rcases List.mem_append.mp hu with z | z
    · exact wok u z
    · rw [List.mem_singleton] at z
      rw [z]
      exact ⟨o1, o2⟩
  · rintro ρ1 h1 ⟨k9, ws, S', a7, a8, a9, rfl, rfl, wok, wl, st'⟩
    have wl : ws.length = 10 := by rw [wl, List.length_mapIdx]; rfl
    have lw : (ws.map Work.da).length = 10 := by rw [List.length_map]; exact wl
    walk_at "w"
    have at1 : ((h ++ [some (Ob.dct kds)] ++ [none]).set n (some (Ob.dct S')))[h.length]? = some (some (.dct kds)) := by
      rw [List.getElem?_set_ne (by omega)]
      simp
    have atn : ((h ++ [some (Ob.dct kds)] ++ [none]).set n (some (Ob.dct S')))[n]? = some (some (.dct S')) := by
      rw [List.getElem?_set_self (by simp; omega)]
    have atm : ∀ m, m ≠ n → m < h.length → ((h ++ [some (Ob.dct kds)] ++ [none]).set n (some (Ob.dct S')))[m]? = h[m]? := fun m m1 m2 => by
      rw [List.getElem?_set_ne (Ne.symm m1), List.append_assoc, List.getElem?_append_left m2]
    have lH : ((h ++ [some (Ob.dct kds)] ++ [none]).set n (some (Ob.dct S'))).length = h.length + 2 := by simp
    generalize (h ++ [some (Ob.dct kds)] ++ [none]).set n (some (Ob.dct S')) = H at at1 atn atm lH ⊢
    refine wo_dc at1 ?_
    have at2 : (H ++ [some (Ob.dct kds)])[h.length]? = some (some (.dct kds)) := by rw [List.getElem?_append_left (by omega)]; exact at1
    have at3 : (H ++ [some (Ob.dct kds)])[H.length]? = some (some (.dct kds)) := by rw [List.getElem?_append_right (Nat.le_refl _), Nat.sub_self]; rfl
    walk_at "w"
    refine wo_rvL (by omega) ?_
    walk_at "w"
    refine wo_addL' rfl (by rw [List.length_reverse]; omega) ?_
    walk_at "w"
    refine forK_inv (I := fun _ ρ1 h2 => h2 = H ++ [some (Ob.dct kds)] ∧ ∃ a7 a8 a9 a10 a12, ρ1 = [a0, some (.d WDS), some (.r n), some (.d (.list (ns.map PyData.str))), some (.r h.length), a5, some (.d (.list (ws.map Work.da))), a7, a8, a9, a10, some (.r H.length), a12]) ⟨rfl, _, _, _, _, _, rfl⟩ ?_ ?_
    · rintro k d ρ1 h2 ek ⟨rfl, a7, a8, a9, a10, a12, rfl⟩
      have md := List.mem_of_getElem? ek
      obtain ⟨w, hw, rfl⟩ : ∃ w ∈ ws, Work.da w = d := by
        rcases List.mem_append.mp md with z | z
        · exact List.mem_map.mp z
        · exact List.mem_map.mp (List.mem_reverse.mp z)
      walk_at "w"
      exact w_law2 G0 (wok w hw).1 (wok w hw).2 at2 at3 ⟨rfl, _, _, _, _, _, rfl⟩
    · rintro ρ1 h2 ⟨rfl, a7, a8, a9, a10, a12, rfl⟩
      walk_at "w"
      refine wo_ixLF (gI 2 (by decide)) ?_
      refine ⟨_, set_of (kds' := putD kds (.inr (ns.getD 2 "")) (Rk.Q (7 / 3))) at3 rfl (by omega), ?_⟩
      walk_at "w"
      refine wo_ixLF (gI 2 (by decide)) ?_
      refine ⟨_, set_of (kds := kds) (kds' := putD kds (.inr (ns.getD 2 "")) (Rk.Q (7 / 3))) (by rw [List.getElem?_set_ne (by omega)]; exact at2) rfl (by omega), ?_⟩
      have G1 := good_put (x := ns.getD 2 "") G0 b73
      generalize putD kds (.inr (ns.getD 2 "")) (Rk.Q (7 / 3)) = kds1 at G1 ⊢
      generalize (fun y => if y = ns.getD 2 "" then (7 / 3 : Rat) else g y) = g1 at G1
      have lH3 : (((H ++ [some (Ob.dct kds)]).set H.length (some (Ob.dct kds1))).set h.length (some (Ob.dct kds1))).length = h.length + 3 := by simp [lH]
      have b1 : (((H ++ [some (Ob.dct kds)]).set H.length (some (Ob.dct kds1))).set h.length (some (Ob.dct kds1)))[h.length]? = some (some (.dct kds1)) := by
        rw [List.getElem?_set_self (by rw [List.length_set, List.length_append, lH]; omega)]
      have b2 : (((H ++ [some (Ob.dct kds)]).set H.length (some (Ob.dct kds1))).set h.length (some (Ob.dct kds1)))[H.length]? = some (some (.dct kds1)) := by
        rw [List.getElem?_set_ne (by omega), List.getElem?_set_self (by simp)]
      have bm : ∀ m, m < h.length → (((H ++ [some (Ob.dct kds)]).set H.length (some (Ob.dct kds1))).set h.length (some (Ob.dct kds1)))[m]? = H[m]? := fun m m2 => by
        rw [List.getElem?_set_ne (by omega), List.getElem?_set_ne (by omega), List.getElem?_append_left (by omega)]
      generalize ((H ++ [some (Ob.dct kds)]).set H.length (some (Ob.dct kds1))).set h.length (some (Ob.dct kds1)) = H3 at lH3 b1 b2 bm ⊢
      walk_at "w"
      refine wp_lcH ws Work.da (fun w => oQ (valW g1 w)) (by walk_at "wipe") ?_
      walk_at "w"
      refine ⟨rfl, by omega, rfl, fun w hw o => ?_, ?_⟩
      · walk_at "w"
        refine ⟨rfl, ?_⟩
        walk_at "w"
        exact wp_exact (wok w hw).1 (by rw [List.getElem?_append_left (by omega)]; exact b2) G1.kn ⟨rfl, rfl⟩
      refine wp_lcH ws Work.da (fun w => oQ (valW g1 w)) (by walk_at "wipe") ?_
      walk_at "w"
      refine ⟨rfl, by omega, rfl, fun w hw o => ?_, ?_⟩
      · walk_at "w"
        refine ⟨rfl, ?_⟩
        walk_at "w"
        exact wp_lexact (wok w hw).1 (by rw [List.getElem?_append_left (by omega)]; exact b1) G1.kn ⟨rfl, rfl⟩
      refine wo_neSelf (p := false) (e := 2) (Ly.lst (LyL.of fun d hd => by
        obtain ⟨w, _, rfl⟩ := List.mem_map.mp hd
        exact oQ_ly _)) (by decide) ?_
      walk_at "w"
      exact q _ _ _ _ _ _ _ _ _ _ H3 S' st' (by rw [bm n hn]; exact atn) fun m m1 m2 => by rw [bm m m2]; exact atm m m1 m2
end
theorem law_ex (cs : List Int) (hl : cs.length ≤ 63) : ∃ h', m_law [.d (.list (cs.map PyData.int))] (tabH []) = .ok (.d (.bool true)) h' := by
  refine ex_of_wp ?_
  refine en_law ?_
  unfold b_law
  walk_at "w"
  refine ws_forR ?_
  walk_at "w"
  refine wp_draws hl fun m ns hh Dr n1 n12 em => ?_
  refine ⟨m, ns, rfl, em, ?_⟩
  refine forR_inv (I := fun k ρ1 h1 => ∃ a2 a3 a4 a5 a6 a7 a8 a9 a10 a11 a12, ρ1 = [some (.d (.list (cs.map PyData.int))), some (.d WDS), a2, a3, a4, a5, a6, a7, a8, a9, a10, a11, a12] ∧ ∀ n ∈ ns, ∃ S, h1[n]? = some (some (.dct S)) ∧ Dk S) ?_ ?_ ?_
  · refine ⟨_, _, _, _, _, _, _, _, _, _, _, rfl, fun n hn => ?_⟩
    obtain ⟨a1, a2, a3, S, a4, a5⟩ := Dr.at' n hn
    exact ⟨S, by rw [List.getElem?_set_ne (Ne.symm a3)]; exact a4, a5⟩
  · rintro k n ρ1 h1 en ⟨a2, a3, a4, a5, a6, a7, a8, a9, a10, a11, a12, rfl, al⟩
    have hn := List.mem_of_getElem? en
    obtain ⟨S, z2, z3⟩ := al n hn
    have ln : n < h1.length := (List.getElem?_eq_some_iff.mp z2).1
    walk_at "w"
    rw [← set_same z2]
    refine w_law3 ln z3 ?_
    intro a3 a4 a5 a6 a7 a8 a9 a10 a11 a12 h' S' s1 s2 s3
    refine ⟨_, _, _, _, _, _, _, _, _, _, _, rfl, fun j hj => ?_⟩
    obtain ⟨T, y2, y3⟩ := al j hj
    by_cases jn : j = n
    · subst jn
      exact ⟨S', s2, s1⟩
    · exact ⟨T, by rw [s3 j jn (List.getElem?_eq_some_iff.mp y2).1]; exact y2, y3⟩
  · rintro ρ1 h1 ⟨a2, a3, a4, a5, a6, a7, a8, a9, a10, a11, a12, rfl, al⟩
    walk_at "w"
    refine ⟨by decide, ?_⟩
    walk_at "w"
    have K2 : Kn [(Sum.inr "a", Rk.Q (1 / 2)), (Sum.inr "b", Rk.Q 0)] ["a", "b"] (fun x => if x = "a" then 1 / 2 else 0) := fun x hx => by
      simp only [List.mem_cons, List.not_mem_nil, or_false] at hx
      rcases hx with rfl | rfl
      · exact ⟨by kernel_rfl, by unfold BQ Bd; exact ⟨by decide +kernel, by decide +kernel⟩⟩
      · exact ⟨by kernel_rfl, by unfold BQ Bd; exact ⟨by decide +kernel, by decide +kernel⟩⟩
    have ok : (Work.op "over" ["a", "b"]).Ok ["a", "b"] := ⟨by kernel_rfl, by decide +kernel⟩
    refine wp_exact (w := .op "over" ["a", "b"]) ok (kds := [(Sum.inr "a", Rk.Q (1 / 2)), (Sum.inr "b", Rk.Q 0)]) (by rw [List.getElem?_append_right (Nat.le_refl _), Nat.sub_self]; rfl) K2 ?_
    rw [show oQ (valW (fun x => if x = "a" then (1 / 2 : Rat) else 0) (.op "over" ["a", "b"])) = .none by kernel_rfl]
    walk_at "w"
    exact retK_any rfl
theorem law_true (ns : List Int) (hl : ns.length ≤ 63) : m_law [.d (.list (ns.map PyData.int))] [] = .ok (.d (.bool true)) (Classical.choose (law_ex ns hl)) := Classical.choose_spec (law_ex ns hl)

end Lw
open PySem PySem.W PySem.Calls PyProof.Rows
theorem PySem.Challenge.cw_roundsure_k16_works_done_holds : PySem.Challenge.rw_roundsure_k16_works_done.Holds := by
  refine Lw.early ?_
  refine Rk.walkG (l := PySem.Challenge.rw_roundsure_k16_works_done) (n := 63) (k := 6) (x := "_law_script") rfl (by decide) (by kernel_rfl) ⟨⟨rfl, by decide, by decide⟩, rfl⟩ ?F
  intro w mg fa h Y G hmg0
  obtain ⟨K, KX, c⟩ := Y
  have hmg : mg ("law" : PySem.Str) = some (.ref fa) := by
    have e : (HandSHeadRun.topDef (OpenLaw.row PySem.Challenge.rw_roundsure_k16_works_done).prog 25).name = ("law" : PySem.Str) := by kernel_rfl
    rw [← e]
    exact hmg0
  obtain ⟨fd, hb, hF⟩ := Lw.facts (P := (PySem.Challenge.rw_roundsure_k16_works_done).prog) (w := w) KX G hmg c
  exact ⟨K, fd, Rk.spF K mg Lw.m_law, KX, hb, fun H a ns hl _ hS => Rk.law_sp hS (Lw.law_true ns hl), hF⟩
#print axioms PySem.Challenge.cw_roundsure_k16_works_done_holds
