import PyProof.Rows.All
import Wide.All
import OpenK.AllK
import Wide.FinOn
import KE.KStateDown
import HandS.ForMost
import HandS.Exc
import HandS.ExcOwn
import HandS.TryOnly
import HandS.WordsExc
import HandS.CallSlots
import HandS.Wide
import HandS.WideBits
import HandS.IsInst
import HandS.Flow
import HandS.TupAny
import HandS.Style
import HandS.Deep
import HandS.Zip
import HandS.Comp
import HandS.Lambda
import KE.KNestM
import HandS.Defaults
import HandS.Head0
import HandS.Head1
import HandS.Head2
import HandS.HeadEnd
import HandS.HeadHook1
import HandS.HeadHook2
import PyProof.ReprRoads
import HandS.Dict
import PyProof.SliceList
import HandS.TupMul
import HandS.Zip0
import KE.KIsAll
import KE.KTryMore
import HandS.ExcIs
import HandS.ExcField
import KE.KExcIs
import HandS.EndTab
import PySem.Challenge.RW_roundsure_k07_marks_in_order
set_option Elab.async false
set_option linter.all false
set_option maxRecDepth 100000
set_option maxHeartbeats 4000000
set_option autoImplicit false
/-! Rk0: pure data, an abstract heap of lists and dicts by number, outcomes; what stands for what. -/
namespace Rk
open PySem PySem.Spec L2

abbrev Da := PyData
/-- an object that changes, by its number -/
inductive Ob where
  | lst (xs : List Da)
  | dct (kvs : List (Key × Da))
  | tbl (x : Str)
/-- what a function object has kept of its maker's slots -/
inductive Vl0 where
  | d (x : Da)
  | r (n : Nat)
/-- a function object made by a lambda: its address, its code object, that one's name, its maker's slots as they were -/
structure Dd where
  f : Addr
  c : Addr
  q : Str
  σ : List (Option V)
  ρ : List (Option Vl0)
/-- a value: data, an object by its number, an error that was caught -/
inductive Vl where
  | d (x : Da)
  | r (n : Nat)
  | x (c : Str) (fs : List (Str × Da))
  | f (a : Dd)
abbrev Hh := List (Option Ob)
inductive Out (α : Type) where
  | ok (a : α) (h : Hh)
  | ex (c : Str) (fs : List (Str × Da)) (h : Hh)
  | no
abbrev En := List (Option Vl)
inductive So where
  | nx (ρ : En) (h : Hh)
  | rt (v : Vl) (h : Hh)
  | bk (ρ : En) (h : Hh)
  | ct (ρ : En) (h : Hh)
  | ex (c : Str) (fs : List (Str × Da)) (ρ : En) (h : Hh)
  | no
def Out.bind {α β : Type} : Out α → (α → Hh → Out β) → Out β
  | .ok a h, f => f a h
  | .ex c fs h, _ => .ex c fs h
  | .no, _ => .no
theorem Out.bind_ok {α β : Type} (a : α) (h : Hh) (f : α → Hh → Out β) : (Out.ok a h).bind f = f a h := rfl
theorem Out.bind_ex {α β : Type} (c : Str) (fs : List (Str × Da)) (h : Hh) (f : α → Hh → Out β) : (Out.ex c fs h).bind f = .ex c fs h := rfl
theorem Out.bind_no {α β : Type} (f : α → Hh → Out β) : (Out.no : Out α).bind f = .no := rfl
abbrev Ev := En → Hh → Out Vl
abbrev Tv := En → Hh → Out Bool
abbrev Av := En → Hh → Out (List Vl)
abbrev Sv := En → Hh → So
abbrev Fn := List Vl → Hh → Out Vl

/-! ### what stands for what -/
def KT (K : PySem.W.Frag) (a : Addr) (xs : List V) : Prop :=
  ∃ (o : Obj) (its : Array Value) (n : Nat), K.lookup a = some o ∧ o.cls = .type "tuple" ∧ o.data = .seq its n ∧ its.size ≤ sizeLine ∧ Vals xs its.toList
def KL (K : PySem.W.Frag) (a : Addr) (xs : List V) : Prop :=
  ∃ (o : Obj) (its : Array Value) (n : Nat), K.lookup a = some o ∧ o.cls = .type "list" ∧ o.dict = none ∧ o.data = .seq its n ∧ its.size ≤ sizeLine ∧ Vals xs its.toList
mutual
inductive Rep (K : PySem.W.Frag) (H : Hp) (M : Addr → Prop) : V → Da → Prop
  | non : Rep K H M .non .none
  | bl (b : Bool) : Rep K H M (.bl b) (.bool b)
  | int (i : Int) : Rep K H M (.int i) (.int i)
  | str (x : Str) : Rep K H M (.str x) (.str x)
  | tup {a : Addr} {xs : List V} {ds : List Da} : Rd H a (.tup xs) → ¬ M a → Reps K H M xs ds → Rep K H M (.ref a) (.tuple ds)
  | tupK {a : Addr} {xs : List V} {ds : List Da} : KT K a xs → Reps K H M xs ds → Rep K H M (.ref a) (.tuple ds)
  | lst {a : Addr} {xs : List V} {ds : List Da} : Rd H a (.lst xs) → ¬ M a → Reps K H M xs ds → Rep K H M (.ref a) (.list ds)
  | lstK {a : Addr} {xs : List V} {ds : List Da} : KL K a xs → Reps K H M xs ds → Rep K H M (.ref a) (.list ds)
  | dct0 {a : Addr} : H a = some (.dT []) → ¬ M a → Rep K H M (.ref a) (.dict [])
inductive Reps (K : PySem.W.Frag) (H : Hp) (M : Addr → Prop) : List V → List Da → Prop
  | nil : Reps K H M [] []
  | cons {v : V} {vs : List V} {d : Da} {ds : List Da} : Rep K H M v d → Reps K H M vs ds → Reps K H M (v :: vs) (d :: ds)
end
/-- no table of code objects -/
abbrev Nt (o : HO) : Prop := ∀ ps, o ≠ .tbl ps
/-- what is not M stands still -/
def Stay (H : Hp) (M : Addr → Prop) (H' : Hp) (M' : Addr → Prop) : Prop := ∀ a o, H a = some o → Nt o → ¬ M a → H' a = some o ∧ ¬ M' a
inductive Seq' : HO → Prop
  | l (xs) : Seq' (.lst xs)
  | t (xs) : Seq' (.tup xs)
theorem Seq'.nt {u : HO} (s : Seq' u) : Nt u := fun ps z => by cases s <;> cases z
theorem Stay.rd {H H' : Hp} {M M' : Addr → Prop} (s : Stay H M H' M') {a : Addr} {u : HO} (w : Seq' u) (h : Rd H a u) (n : ¬ M a) : Rd H' a u ∧ ¬ M' a := by
  rcases h with h | ⟨o, h⟩
  · exact ⟨.inl (s a _ h w.nt n).1, (s a _ h w.nt n).2⟩
  · exact ⟨.inr ⟨o, (s a _ h nofun n).1⟩, (s a _ h nofun n).2⟩
mutual
theorem Rep.stay {K : PySem.W.Frag} {H H' : Hp} {M M' : Addr → Prop} (s : Stay H M H' M') : ∀ {v : V} {d : Da}, Rep K H M v d → Rep K H' M' v d
  | _, _, .non => .non
  | _, _, .bl b => .bl b
  | _, _, .int i => .int i
  | _, _, .str x => .str x
  | _, _, .tup h n r => .tup (s.rd (.t _) h n).1 (s.rd (.t _) h n).2 (Reps.stay s r)
  | _, _, .tupK h r => .tupK h (Reps.stay s r)
  | _, _, .lst h n r => .lst (s.rd (.l _) h n).1 (s.rd (.l _) h n).2 (Reps.stay s r)
  | _, _, .lstK h r => .lstK h (Reps.stay s r)
  | _, _, .dct0 h n => .dct0 (s _ _ h nofun n).1 (s _ _ h nofun n).2
theorem Reps.stay {K : PySem.W.Frag} {H H' : Hp} {M M' : Addr → Prop} (s : Stay H M H' M') : ∀ {v : List V} {d : List Da}, Reps K H M v d → Reps K H' M' v d
  | _, _, .nil => .nil
  | _, _, .cons r t => .cons (Rep.stay s r) (Reps.stay s t)
end
theorem Stay.refl (H : Hp) (M : Addr → Prop) : Stay H M H M := fun _ _ h _ n => ⟨h, n⟩
theorem Stay.trans {H H1 H2 : Hp} {M M1 M2 : Addr → Prop} (a : Stay H M H1 M1) (b : Stay H1 M1 H2 M2) : Stay H M H2 M2 := fun x o h w n => b x o (a x o h w n).1 w (a x o h w n).2
section
variable {K : PySem.W.Frag} {H : Hp} {M : Addr → Prop}
theorem Reps.length : ∀ {vs : List V} {ds : List Da}, Reps K H M vs ds → vs.length = ds.length
  | _, _, .nil => rfl
  | _, _, .cons _ t => by rw [List.length_cons, List.length_cons, Reps.length t]
theorem Reps.get : ∀ {vs : List V} {ds : List Da} {i : Nat} {d : Da}, Reps K H M vs ds → ds[i]? = some d → ∃ v, vs[i]? = some v ∧ Rep K H M v d
  | _, _, _, _, .nil, h => by simp at h
  | _, _, 0, _, .cons r _, h => by
    have e := Option.some.inj h
    subst e
    exact ⟨_, rfl, r⟩
  | _, _, i + 1, _, .cons _ t, h => by
    obtain ⟨v, e, r⟩ := Reps.get (i := i) t h
    exact ⟨v, e, r⟩
theorem Reps.append : ∀ {vs ws : List V} {ds es : List Da}, Reps K H M vs ds → Reps K H M ws es → Reps K H M (vs ++ ws) (ds ++ es)
  | _, _, _, _, .nil, s => s
  | _, _, _, _, .cons r t, s => .cons r (Reps.append t s)
theorem Reps.take : ∀ {vs : List V} {ds : List Da} (n : Nat), Reps K H M vs ds → Reps K H M (vs.take n) (ds.take n)
  | _, _, 0, _ => .nil
  | _, _, _ + 1, .nil => .nil
  | _, _, n + 1, .cons r t => .cons r (Reps.take n t)
theorem Reps.drop : ∀ {vs : List V} {ds : List Da} (n : Nat), Reps K H M vs ds → Reps K H M (vs.drop n) (ds.drop n)
  | _, _, 0, s => s
  | _, _, _ + 1, .nil => .nil
  | _, _, n + 1, .cons _ t => Reps.drop n t
theorem Reps.set {v : V} {d : Da} (r : Rep K H M v d) : ∀ {vs : List V} {ds : List Da} (i : Nat), Reps K H M vs ds → Reps K H M (vs.set i v) (ds.set i d)
  | _, _, _, .nil => .nil
  | _, _, 0, .cons _ t => .cons r t
  | _, _, i + 1, .cons q t => .cons q (Reps.set r i t)
theorem Rep.sqT {a : Addr} {ds : List Da} (r : Rep K H M (.ref a) (.tuple ds)) : ∃ xs, SqT K H a xs ∧ Reps K H M xs ds := by
  cases r with
  | tup h _ r => exact ⟨_, .inl h, r⟩
  | tupK h r => exact ⟨_, .inr h, r⟩
theorem Rep.sqL {a : Addr} {ds : List Da} (r : Rep K H M (.ref a) (.list ds)) : ∃ xs, SqL K H a xs ∧ Reps K H M xs ds := by
  cases r with
  | lst h _ r => exact ⟨_, .inl h, r⟩
  | lstK h r => exact ⟨_, .inr h, r⟩
end
/-- the constants of the top: the same whatever the heap -/
def KRep (K : PySem.W.Frag) (v : V) (d : Da) : Prop := ∀ H M, Rep K H M v d

/-! ### the abstract heap's objects, where they stand -/
def Live (φ : List Addr) (h : Hh) (a : Addr) : Prop := ∃ (i : Nat) (o : Ob), φ[i]? = some a ∧ h[i]? = some (some o)
inductive KvRep (K : PySem.W.Frag) (H : Hp) (M : Addr → Prop) : List (Key × V) → List (Key × Da) → Prop
  | nil : KvRep K H M [] []
  | cons {k : Key} {v : V} {vs : List (Key × V)} {d : Da} {ds : List (Key × Da)} : Rep K H M v d → KvRep K H M vs ds → KvRep K H M ((k, v) :: vs) ((k, d) :: ds)
theorem KvRep.stay {K : PySem.W.Frag} {H H' : Hp} {M M' : Addr → Prop} (s : Stay H M H' M') : ∀ {vs : List (Key × V)} {ds : List (Key × Da)}, KvRep K H M vs ds → KvRep K H' M' vs ds
  | _, _, .nil => .nil
  | _, _, .cons r t => .cons (r.stay s) (KvRep.stay s t)
def ORep (K : PySem.W.Frag) (H : Hp) (M : Addr → Prop) (a : Addr) : Ob → Prop
  | .lst ds => ∃ xs, H a = some (.lst xs) ∧ Reps K H M xs ds
  | .dct kds => ∃ kvs, H a = some (.dK kvs) ∧ KvRep K H M kvs kds
  | .tbl x => ∃ (c : Addr) (ps : Array Value), PySem.W.tabIn K x = some (c, a) ∧ H a = some (.tbl ps) ∧ TriplesOk ps.toList ∧ ∀ (pos : Pos) (cv : Value), codeAmong pos ps.toList = some cv → ∃ c', cv = .ref c' ∧ H c' = some (LamX.CodeO c' (x ++ ".<locals>." ++ "<lambda>"))
structure Sim (K : PySem.W.Frag) (φ : List Addr) (h : Hh) (H : Hp) : Prop where
  len : φ.length = h.length
  inj : ∀ (i j : Nat) (a : Addr) (o o' : Ob), φ[i]? = some a → φ[j]? = some a → h[i]? = some (some o) → h[j]? = some (some o') → i = j
  ob : ∀ (i : Nat) (o : Ob), h[i]? = some (some o) → ∃ a, φ[i]? = some a ∧ ORep K H (Live φ h) a o
structure Step (φ : List Addr) (h : Hh) (H : Hp) (φ' : List Addr) (h' : Hh) (H' : Hp) : Prop where
  pre : φ <+: φ'
  st : Stay H (Live φ h) H' (Live φ' h')
theorem Step.refl (φ : List Addr) (h : Hh) (H : Hp) : Step φ h H φ h H := ⟨List.prefix_refl φ, Stay.refl _ _⟩
theorem Step.trans {φ φ1 φ2 : List Addr} {h h1 h2 : Hh} {H H1 H2 : Hp} (a : Step φ h H φ1 h1 H1) (b : Step φ1 h1 H1 φ2 h2 H2) : Step φ h H φ2 h2 H2 := ⟨a.pre.trans b.pre, a.st.trans b.st⟩
theorem pre_get {φ φ' : List Addr} (p : φ <+: φ') {n : Nat} {a : Addr} (e : φ[n]? = some a) : φ'[n]? = some a := by
  obtain ⟨t, rfl⟩ := p
  rw [List.getElem?_append_left (List.getElem?_eq_some_iff.mp e).1]
  exact e
/-- the own dict of a caught error, its fields -/
inductive FsRep (K : PySem.W.Frag) (H : Hp) (M : Addr → Prop) : List (Str × V) → List (Str × Da) → Prop
  | nil : FsRep K H M [] []
  | cons {k : Str} {v : V} {vs : List (Str × V)} {d : Da} {ds : List (Str × Da)} : Rep K H M v d → FsRep K H M vs ds → FsRep K H M ((k, v) :: vs) ((k, d) :: ds)
theorem FsRep.stay {K : PySem.W.Frag} {H H' : Hp} {M M' : Addr → Prop} (s : Stay H M H' M') : ∀ {vs : List (Str × V)} {ds : List (Str × Da)}, FsRep K H M vs ds → FsRep K H' M' vs ds
  | _, _, .nil => .nil
  | _, _, .cons r t => .cons (r.stay s) (FsRep.stay s t)
/-- an error in the air: its class by its name, its fields -/
structure XRep (K : PySem.W.Frag) (mg : Str → Option Value) (H : Hp) (M : Addr → Prop) (c : Str) (fs : List (Str × Da)) (cls : Value) (dd : Option Addr) : Prop where
  cl : mg c = some cls
  no : fs = [] → dd = none
  yes : fs ≠ [] → ∃ a vs, dd = some a ∧ H a = some (.xd vs) ∧ ¬ M a ∧ FsRep K H M vs fs
/-- a value of the def's -/
def exO (a : Addr) (cls : Value) (dd : Option Addr) : HO := .ext fun h => ∃ (oe : Obj) (vs : Array Value), h.get? a = some oe ∧ Zc cls dd oe ∧ oe.data = .fields vs
theorem exO_ne {a : Addr} {cls : Value} {dd : Option Addr} {xs : List V} : exO a cls dd ≠ .lst xs := fun z => by
  unfold exO at z
  cases z
theorem XRep.stay {K : PySem.W.Frag} {mg : Str → Option Value} {H H' : Hp} {M M' : Addr → Prop} {c : Str} {fs : List (Str × Da)} {cls : Value} {dd : Option Addr} (s : Stay H M H' M') (x : XRep K mg H M c fs cls dd) : XRep K mg H' M' c fs cls dd :=
  ⟨x.cl, x.no, fun z => by
    obtain ⟨a, vs, e1, e2, e3, e4⟩ := x.yes z
    obtain ⟨f1, f2⟩ := s a _ e2 nofun e3
    exact ⟨a, vs, e1, f1, f2, e4.stay s⟩⟩
def VRep0 (K : PySem.W.Frag) (φ : List Addr) (h : Hh) (H : Hp) (v : V) : Vl0 → Prop
  | .d x => Rep K H (Live φ h) v x
  | .r n => ∃ a, φ[n]? = some a ∧ v = .ref a
theorem exO_nt {a : Addr} {cls : Value} {dd : Option Addr} : Nt (exO a cls dd) := fun ps z => by
  unfold exO at z
  cases z
theorem VRep0.step {K : PySem.W.Frag} {φ φ' : List Addr} {h h' : Hh} {H H' : Hp} {v : V} {x : Vl0} (s : Step φ h H φ' h' H') (r : VRep0 K φ h H v x) : VRep0 K φ' h' H' v x := by
  cases x with
  | d x => exact Rep.stay s.st r
  | r n =>
    obtain ⟨a, e, rfl⟩ := r
    exact ⟨a, pre_get s.pre e, rfl⟩
def VRep (K : PySem.W.Frag) (mg : Str → Option Value) (φ : List Addr) (h : Hh) (H : Hp) (v : V) : Vl → Prop
  | .d x => Rep K H (Live φ h) v x
  | .r n => ∃ a, φ[n]? = some a ∧ v = .ref a
  | .x c fs => ∃ (a : Addr) (cls : Value) (dd : Option Addr), v = .ref a ∧ H a = some (exO a cls dd) ∧ ¬ Live φ h a ∧ XRep K mg H (Live φ h) c fs cls dd
  | .f D => v = .ref D.f ∧ H D.c = some (LamX.CodeO D.c D.q) ∧ ¬ Live φ h D.c ∧ D.σ.length = D.ρ.length ∧ ∀ (i : Nat) (w : Vl0), D.ρ[i]? = some (some w) → ∃ x, D.σ[i]? = some (some x) ∧ VRep0 K φ h H x w
variable {mg : Str → Option Value}
theorem VRep.step {K : PySem.W.Frag} {φ φ' : List Addr} {h h' : Hh} {H H' : Hp} {v : V} {x : Vl} (s : Step φ h H φ' h' H') (r : VRep K mg φ h H v x) : VRep K mg φ' h' H' v x := by
  cases x with
  | d x => exact Rep.stay s.st r
  | r n =>
    obtain ⟨a, e, rfl⟩ := r
    exact ⟨a, pre_get s.pre e, rfl⟩
  | x c fs =>
    obtain ⟨a, cls, dd, rfl, e1, e2, xr⟩ := r
    obtain ⟨f1, f2⟩ := s.st a _ e1 exO_nt e2
    exact ⟨a, cls, dd, rfl, f1, f2, xr.stay s.st⟩
  | f D =>
    obtain ⟨e1, e2, e3, e4, e5⟩ := r
    obtain ⟨f1, f2⟩ := s.st _ _ e2 LamX.codeO_ne e3
    exact ⟨e1, f1, f2, e4, fun i w z => (e5 i w z).imp fun x q => ⟨q.1, q.2.step s⟩⟩
inductive VReps (K : PySem.W.Frag) (mg : Str → Option Value) (φ : List Addr) (h : Hh) (H : Hp) : List V → List Vl → Prop
  | nil : VReps K mg φ h H [] []
  | cons {v : V} {vs : List V} {x : Vl} {xs : List Vl} : VRep K mg φ h H v x → VReps K mg φ h H vs xs → VReps K mg φ h H (v :: vs) (x :: xs)
theorem VReps.step {K : PySem.W.Frag} {φ φ' : List Addr} {h h' : Hh} {H H' : Hp} (s : Step φ h H φ' h' H') : ∀ {vs : List V} {xs : List Vl}, VReps K mg φ h H vs xs → VReps K mg φ' h' H' vs xs
  | _, _, .nil => .nil
  | _, _, .cons r t => .cons (r.step s) (VReps.step s t)
theorem VReps.length {K : PySem.W.Frag} {φ : List Addr} {h : Hh} {H : Hp} : ∀ {vs : List V} {xs : List Vl}, VReps K mg φ h H vs xs → vs.length = xs.length
  | _, _, .nil => rfl
  | _, _, .cons _ t => by rw [List.length_cons, List.length_cons, VReps.length t]
/-- the slots -/
structure ERep (K : PySem.W.Frag) (mg : Str → Option Value) (φ : List Addr) (h : Hh) (H : Hp) (σ : St) (ρ : En) : Prop where
  len : σ.length = ρ.length
  at_ : ∀ (i : Nat) (v : Vl), ρ[i]? = some (some v) → ∃ x, σ[i]? = some (some x) ∧ VRep K mg φ h H x v
theorem ERep.step {K : PySem.W.Frag} {φ φ' : List Addr} {h h' : Hh} {H H' : Hp} {σ : St} {ρ : En} (s : Step φ h H φ' h' H') (r : ERep K mg φ h H σ ρ) : ERep K mg φ' h' H' σ ρ :=
  ⟨r.len, fun i v e => let ⟨x, e1, q⟩ := r.at_ i v e; ⟨x, e1, q.step s⟩⟩
theorem ERep.set {K : PySem.W.Frag} {φ : List Addr} {h : Hh} {H : Hp} {σ : St} {ρ : En} {i : Nat} {x : V} {v : Vl} (r : ERep K mg φ h H σ ρ) (q : VRep K mg φ h H x v) : ERep K mg φ h H (σ.set i (some x)) (ρ.set i (some v)) := by
  refine ⟨by rw [List.length_set, List.length_set, r.len], fun j w e => ?_⟩
  by_cases hj : i = j
  · subst hj
    have hl : i < ρ.length := by
      have := (List.getElem?_eq_some_iff.mp e).1
      rw [List.length_set] at this
      exact this
    rw [List.getElem?_set_self hl] at e
    have e' := Option.some.inj (Option.some.inj e)
    subst e'
    exact ⟨x, by rw [List.getElem?_set_self (by rw [r.len]; exact hl)], q⟩
  · rw [List.getElem?_set_ne hj] at e
    obtain ⟨y, e1, q1⟩ := r.at_ j w e
    exact ⟨y, by rw [List.getElem?_set_ne hj]; exact e1, q1⟩

/-! ### readings made of outcomes -/
section
variable (K : PySem.W.Frag) (mg : Str → Option Value)
/-- behind an outcome: Q of a value -/
def PoV (φ : List Addr) (h : Hh) (H : Hp) (o : Out Vl) (Q : VK) : Prop := match o with
  | .ok v h' => ∀ x H' φ', Step φ h H φ' h' H' → Sim K φ' h' H' → VRep K mg φ' h' H' x v → Q x H'
  | _ => False
def PoX (φ : List Addr) (h : Hh) (H : Hp) (o : Out Vl) (Q : VK) (E : XK) : Prop := match o with
  | .ok v h' => ∀ x H' φ', Step φ h H φ' h' H' → Sim K φ' h' H' → VRep K mg φ' h' H' x v → Q x H'
  | .ex c fs h' => ∀ cls dd H' φ', Step φ h H φ' h' H' → Sim K φ' h' H' → XRep K mg H' (Live φ' h') c fs cls dd → E cls dd H'
  | .no => False
def PoT (φ : List Addr) (h : Hh) (H : Hp) (o : Out Bool) (Q : Bool → Hp → Prop) (E : XK) : Prop := match o with
  | .ok b h' => ∀ H' φ', Step φ h H φ' h' H' → Sim K φ' h' H' → Q b H'
  | .ex c fs h' => ∀ cls dd H' φ', Step φ h H φ' h' H' → Sim K φ' h' H' → XRep K mg H' (Live φ' h') c fs cls dd → E cls dd H'
  | .no => False
def PoA (φ : List Addr) (h : Hh) (H : Hp) (o : Out (List Vl)) (Q : List V → Hp → Prop) (E : XK) : Prop := match o with
  | .ok vs h' => ∀ xs H' φ', Step φ h H φ' h' H' → Sim K φ' h' H' → VReps K mg φ' h' H' xs vs → Q xs H'
  | .ex c fs h' => ∀ cls dd H' φ', Step φ h H φ' h' H' → Sim K φ' h' H' → XRep K mg H' (Live φ' h') c fs cls dd → E cls dd H'
  | .no => False
def PoS (φ : List Addr) (h : Hh) (H : Hp) (o : So) (D : Ends) (W : WX) : Prop := match o with
  | .nx ρ h' => ∀ σ' H' φ', Step φ h H φ' h' H' → Sim K φ' h' H' → ERep K mg φ' h' H' σ' ρ → D.nx σ' H'
  | .bk ρ h' => ∀ σ' H' φ', Step φ h H φ' h' H' → Sim K φ' h' H' → ERep K mg φ' h' H' σ' ρ → D.bk σ' H'
  | .ct ρ h' => ∀ σ' H' φ', Step φ h H φ' h' H' → Sim K φ' h' H' → ERep K mg φ' h' H' σ' ρ → D.ct σ' H'
  | .rt v h' => ∀ x H' φ', Step φ h H φ' h' H' → Sim K φ' h' H' → VRep K mg φ' h' H' x v → D.rt x H'
  | .ex c fs ρ h' => ∀ cls dd σ' H' φ', Step φ h H φ' h' H' → Sim K φ' h' H' → ERep K mg φ' h' H' σ' ρ → XRep K mg H' (Live φ' h') c fs cls dd → W cls dd σ' H'
  | .no => False
def tE (W : WX) (f : Ev) : TE := fun σ H Q => ∃ φ h ρ, Sim K φ h H ∧ ERep K mg φ h H σ ρ ∧ PoX K mg φ h H (f ρ h) Q (WE W σ)
def tT (W : WX) (f : Tv) : TT := fun σ H Q => ∃ φ h ρ, Sim K φ h H ∧ ERep K mg φ h H σ ρ ∧ PoT K mg φ h H (f ρ h) Q (WE W σ)
def tA (W : WX) (f : Av) : TA := fun σ H Q => ∃ φ h ρ, Sim K φ h H ∧ ERep K mg φ h H σ ρ ∧ PoA K mg φ h H (f ρ h) Q (WE W σ)
def tS (W : WX) (f : Sv) : TS := fun D σ H => ∃ φ h ρ, Sim K φ h H ∧ ERep K mg φ h H σ ρ ∧ PoS K mg φ h H (f ρ h) D W
end
/-- the judgements: X's code e means f; W: what is wished of errors -/
def EE (X : Cx) (W : WX) (e : Expr) (f : Ev) : Prop := PE X e (tE X.K X.mg W f)
def ET (X : Cx) (W : WX) (e : Expr) (f : Tv) : Prop := PT X e (tT X.K X.mg W f)
def EA (X : Cx) (W : WX) (es : List Expr) (f : Av) : Prop := PA X es (tA X.K X.mg W f)
def ES (X : Cx) (W : WX) (st : Stmt) (f : Sv) : Prop := PS X st (tS X.K X.mg W f)
def ESs (X : Cx) (W : WX) (st : List Stmt) (f : Sv) : Prop := PSs X st (tS X.K X.mg W f)

theorem PE.of {X : Cx} {e : Expr} {t t' : TE} (h : PE X e t) (i : ∀ σ H Q, t' σ H Q → t σ H Q) : PE X e t' := ⟨fun pins s σ H Q I w => h.run pins s σ H Q I (i σ H Q w)⟩
theorem PT.of {X : Cx} {e : Expr} {t t' : TT} (h : PT X e t) (i : ∀ σ H Q, t' σ H Q → t σ H Q) : PT X e t' := ⟨fun pins s σ H Q I w => h.run pins s σ H Q I (i σ H Q w)⟩
theorem PW.of {X : Cx} {e : Expr} {t t' : TT} (h : PW X e t) (i : ∀ σ H Q, t' σ H Q → t σ H Q) : PW X e t' := ⟨fun wh pins s σ H Q I w => h.run wh pins s σ H Q I (i σ H Q w)⟩
theorem PA.of {X : Cx} {e : List Expr} {t t' : TA} (h : PA X e t) (i : ∀ σ H Q, t' σ H Q → t σ H Q) : PA X e t' := ⟨fun pos pins s σ H Q I w => h.run pos pins s σ H Q I (i σ H Q w)⟩
theorem PS.of {X : Cx} {e : Stmt} {t t' : TS} (h : PS X e t) (i : ∀ D σ H, t' D σ H → t D σ H) : PS X e t' := ⟨fun pins s σ H Q I w => h.run pins s σ H Q I (i Q σ H w)⟩
theorem PSs.of {X : Cx} {e : List Stmt} {t t' : TS} (h : PSs X e t) (i : ∀ D σ H, t' D σ H → t D σ H) : PSs X e t' := ⟨fun pins s σ H Q I w => h.run pins s σ H Q I (i Q σ H w)⟩
end Rk

/-! Rk1: the abstract heap grows, changes, is frozen; readings in a row. -/
namespace Rk
open PySem PySem.Spec L2
variable {mg : Str → Option Value}
section
variable {K : PySem.W.Frag} {mg : Str → Option Value} {φ φ' φ1 : List Addr} {h h' h1 : Hh} {H H' H1 : Hp} {a p : Addr} {n : Nat}

theorem Sim.live (s : Sim K φ h H) {a : Addr} (l : Live φ h a) : ∃ o, H a = some o := by
  obtain ⟨i, o, e1, e2⟩ := l
  obtain ⟨b, e3, r⟩ := s.ob i o e2
  rw [e1] at e3
  have e4 := Option.some.inj e3
  subst e4
  cases o with
  | lst xs => obtain ⟨xs, e, _⟩ := r; exact ⟨_, e⟩
  | dct kvs => obtain ⟨xs, e, _⟩ := r; exact ⟨_, e⟩
  | tbl x => obtain ⟨c, ps, _, e, _⟩ := r; exact ⟨_, e⟩
/-- what stands where a live object is -/
theorem Sim.kind (s : Sim K φ h H) {a : Addr} (l : Live φ h a) : (∃ xs, H a = some (.lst xs)) ∨ (∃ kvs, H a = some (.dK kvs)) ∨ ∃ ps, H a = some (.tbl ps) := by
  obtain ⟨i, o, e1, e2⟩ := l
  obtain ⟨b, e3, r⟩ := s.ob i o e2
  rw [e1] at e3
  have e4 := Option.some.inj e3
  subst e4
  cases o with
  | lst xs => obtain ⟨xs, e, _⟩ := r; exact .inl ⟨_, e⟩
  | dct kvs => obtain ⟨xs, e, _⟩ := r; exact .inr (.inl ⟨_, e⟩)
  | tbl x => obtain ⟨c, ps, _, e, _⟩ := r; exact .inr (.inr ⟨_, e⟩)
theorem Sim.notCode (s : Sim K φ h H) {a c : Addr} {q : Str} (e : H a = some (LamX.CodeO c q)) : ¬ Live φ h a := fun l => by
  rcases s.kind l with ⟨xs, z⟩ | ⟨kvs, z⟩ | ⟨ps, z⟩ <;> rw [e] at z <;> unfold LamX.CodeO at z <;> cases z
theorem Sim.fresh (s : Sim K φ h H) (e : H p = none) : ¬ Live φ h p := fun l => by
  obtain ⟨o, q⟩ := s.live l
  rw [e] at q
  cases q
theorem ORep.stay {M M' : Addr → Prop} {o : Ob} (st : Stay H M H' M') (k : ∀ u, H a = some u → H' a = some u) (nc : ∀ (c : Addr) (q : Str), H c = some (LamX.CodeO c q) → ¬ M c) (r : ORep K H M a o) : ORep K H' M' a o := by
  cases o with
  | lst xs => obtain ⟨xs, e, q⟩ := r; exact ⟨xs, k _ e, q.stay st⟩
  | dct kvs => obtain ⟨xs, e, q⟩ := r; exact ⟨xs, k _ e, q.stay st⟩
  | tbl x =>
    obtain ⟨c, ps, e1, e2, e3, e4⟩ := r
    exact ⟨c, ps, e1, k _ e2, e3, fun pos cv z => (e4 pos cv z).imp fun c' w => ⟨w.1, (st _ _ w.2 LamX.codeO_ne (nc _ _ w.2)).1⟩⟩
/-- a new object that is not numbered -/
theorem Sim.grow (s : Sim K φ h H) {o : HO} (e : H p = none) : Step φ h H φ h (upd H p o) ∧ Sim K φ h (upd H p o) := by
  have k : ∀ b u, H b = some u → upd H p o b = some u := fun b u q => by rw [upd_ne (ne_of_none q e)]; exact q
  have st : Stay H (Live φ h) (upd H p o) (Live φ h) := fun b u q _ n => ⟨k b u q, n⟩
  refine ⟨⟨List.prefix_refl φ, st⟩, s.len, s.inj, fun i ob e2 => ?_⟩
  obtain ⟨b, e3, r⟩ := s.ob i ob e2
  exact ⟨b, e3, r.stay st (k b) fun _ _ z => s.notCode z⟩
theorem live_new {o : Ob} (hl : φ.length = h.length) {b : Addr} : Live (φ ++ [p]) (h ++ [some o]) b ↔ Live φ h b ∨ b = p := by
  constructor
  · rintro ⟨i, u, e1, e2⟩
    by_cases hi : i < φ.length
    · rw [List.getElem?_append_left hi] at e1
      rw [List.getElem?_append_left (by omega)] at e2
      exact .inl ⟨i, u, e1, e2⟩
    · rw [List.getElem?_append_right (by omega)] at e1
      have : i - φ.length = 0 := by
        have := (List.getElem?_eq_some_iff.mp e1).1
        simp at this
        omega
      rw [this] at e1
      exact .inr (Option.some.inj e1).symm
  · rintro (⟨i, u, e1, e2⟩ | rfl)
    · exact ⟨i, u, by rw [List.getElem?_append_left (List.getElem?_eq_some_iff.mp e1).1]; exact e1, by rw [List.getElem?_append_left (List.getElem?_eq_some_iff.mp e2).1]; exact e2⟩
    · exact ⟨φ.length, o, by simp, by rw [hl]; simp⟩
/-- a new object that is numbered -/
theorem Sim.new (s : Sim K φ h H) {o : HO} {ob : Ob} (e : H p = none) (r : ∀ M, Stay H (Live φ h) (upd H p o) M → ORep K (upd H p o) M p ob) :
    Step φ h H (φ ++ [p]) (h ++ [some ob]) (upd H p o) ∧ Sim K (φ ++ [p]) (h ++ [some ob]) (upd H p o) ∧ VRep K mg (φ ++ [p]) (h ++ [some ob]) (upd H p o) (.ref p) (.r h.length) := by
  have k : ∀ b u, H b = some u → upd H p o b = some u := fun b u q => by rw [upd_ne (ne_of_none q e)]; exact q
  have st : Stay H (Live φ h) (upd H p o) (Live (φ ++ [p]) (h ++ [some ob])) := fun b u q _ n => ⟨k b u q, fun l => by
    rcases (live_new s.len).mp l with l | rfl
    · exact n l
    · rw [e] at q; cases q⟩
  have nl := s.fresh e
  have hgt : ∀ (i : Nat) (b : Addr) (u : Ob), (φ ++ [p])[i]? = some b → (h ++ [some ob])[i]? = some (some u) → (i < φ.length ∧ φ[i]? = some b ∧ h[i]? = some (some u)) ∨ (i = φ.length ∧ b = p ∧ u = ob) := fun i b u e1 e2 => by
    by_cases hi : i < φ.length
    · rw [List.getElem?_append_left hi] at e1
      rw [List.getElem?_append_left (by rw [← s.len]; exact hi)] at e2
      exact .inl ⟨hi, e1, e2⟩
    · have hz : i = φ.length := by
        have := (List.getElem?_eq_some_iff.mp e1).1
        simp at this
        omega
      subst hz
      rw [List.getElem?_append_right (by omega)] at e1
      rw [s.len, List.getElem?_append_right (by omega)] at e2
      simp at e1 e2
      exact .inr ⟨rfl, e1.symm, e2.symm⟩
  refine ⟨⟨List.prefix_append φ [p], st⟩, ⟨by simp [s.len], fun i j b u u' e1 e2 e3 e4 => ?_, fun i u e2 => ?_⟩, ?_⟩
  · rcases hgt i b u e1 e3 with ⟨h1, h2, h3⟩ | ⟨h1, h2, h3⟩ <;> rcases hgt j b u' e2 e4 with ⟨g1, g2, g3⟩ | ⟨g1, g2, g3⟩
    · exact s.inj i j b u u' h2 g2 h3 g3
    · subst g2; exact absurd ⟨i, u, h2, h3⟩ nl
    · subst h2; exact absurd ⟨j, u', g2, g3⟩ nl
    · omega
  · by_cases hi : i < φ.length
    · have e2' : h[i]? = some (some u) := by
        rw [List.getElem?_append_left (by rw [← s.len]; exact hi)] at e2
        exact e2
      obtain ⟨b, e3, q⟩ := s.ob i u e2'
      exact ⟨b, by rw [List.getElem?_append_left hi]; exact e3, q.stay st (k b) fun _ _ z => s.notCode z⟩
    · have hz : i = h.length := by
        have := (List.getElem?_eq_some_iff.mp e2).1
        have := s.len
        simp at *
        omega
      subst hz
      rw [List.getElem?_append_right (by omega)] at e2
      simp at e2
      subst e2
      exact ⟨p, by rw [← s.len]; simp, r _ st⟩
  · exact ⟨p, by rw [← s.len]; simp, rfl⟩
theorem live_set {o ob : Ob} (e : h[n]? = some (some o)) {b : Addr} : Live φ (h.set n (some ob)) b ↔ Live φ h b := by
  have hl := (List.getElem?_eq_some_iff.mp e).1
  constructor
  · rintro ⟨i, u, e1, e2⟩
    by_cases hi : n = i
    · subst hi; exact ⟨n, o, e1, e⟩
    · rw [List.getElem?_set_ne hi] at e2; exact ⟨i, u, e1, e2⟩
  · rintro ⟨i, u, e1, e2⟩
    by_cases hi : n = i
    · subst hi; exact ⟨n, ob, e1, by rw [List.getElem?_set_self hl]⟩
    · exact ⟨i, u, e1, by rw [List.getElem?_set_ne hi]; exact e2⟩
/-- an object changes -/
theorem Sim.write (s : Sim K φ h H) {o ob : Ob} {u : HO} (e : h[n]? = some (some o)) (ea : φ[n]? = some a) (r : ∀ M, Stay H (Live φ h) (upd H a u) M → ORep K (upd H a u) M a ob) :
    Step φ h H φ (h.set n (some ob)) (upd H a u) ∧ Sim K φ (h.set n (some ob)) (upd H a u) := by
  have la : Live φ h a := ⟨n, o, ea, e⟩
  have hl := (List.getElem?_eq_some_iff.mp e).1
  have st : Stay H (Live φ h) (upd H a u) (Live φ (h.set n (some ob))) := fun b v q _ nb => ⟨by rw [upd_ne (fun z => nb (by rw [z]; exact la))]; exact q, fun l => nb ((live_set e).mp l)⟩
  have back : ∀ (i : Nat) (v : Ob), (h.set n (some ob))[i]? = some (some v) → ∃ v', h[i]? = some (some v') := fun i v e2 => by
    by_cases hi : n = i
    · subst hi; exact ⟨o, e⟩
    · rw [List.getElem?_set_ne hi] at e2; exact ⟨v, e2⟩
  refine ⟨⟨List.prefix_refl φ, st⟩, ⟨by rw [List.length_set]; exact s.len, fun i j b v v' e1 e2 e3 e4 => ?_, fun i v e2 => ?_⟩⟩
  · obtain ⟨w, f3⟩ := back i v e3
    obtain ⟨w', f4⟩ := back j v' e4
    exact s.inj i j b w w' e1 e2 f3 f4
  · by_cases hi : n = i
    · subst hi
      rw [List.getElem?_set_self hl] at e2
      have e3 := Option.some.inj (Option.some.inj e2)
      subst e3
      exact ⟨a, ea, r _ st⟩
    · rw [List.getElem?_set_ne hi] at e2
      obtain ⟨b, e3, q⟩ := s.ob i v e2
      refine ⟨b, e3, q.stay st (fun w hw => ?_) fun _ _ z => s.notCode z⟩
      rw [upd_ne (fun z => hi (s.inj n i a o v ea (by rw [← z]; exact e3) e e2))]
      exact hw
/-- an object is frozen: it never changes from now on -/
theorem Sim.freeze (s : Sim K φ h H) {o : Ob} (e : h[n]? = some (some o)) (ea : φ[n]? = some a) : Step φ h H φ (h.set n none) H ∧ Sim K φ (h.set n none) H ∧ ¬ Live φ (h.set n none) a := by
  have hl := (List.getElem?_eq_some_iff.mp e).1
  have less : ∀ b, Live φ (h.set n none) b → Live φ h b := fun b ⟨i, u, e1, e2⟩ => by
    by_cases hi : n = i
    · subst hi; rw [List.getElem?_set_self hl] at e2; cases e2
    · rw [List.getElem?_set_ne hi] at e2; exact ⟨i, u, e1, e2⟩
  have st : Stay H (Live φ h) H (Live φ (h.set n none)) := fun b v q _ nb => ⟨q, fun l => nb (less b l)⟩
  have back : ∀ (i : Nat) (v : Ob), (h.set n none)[i]? = some (some v) → h[i]? = some (some v) ∧ n ≠ i := fun i v e2 => by
    by_cases hi : n = i
    · subst hi; rw [List.getElem?_set_self hl] at e2; cases e2
    · rw [List.getElem?_set_ne hi] at e2; exact ⟨e2, hi⟩
  refine ⟨⟨List.prefix_refl φ, st⟩, ⟨by rw [List.length_set]; exact s.len, fun i j b v v' e1 e2 e3 e4 => s.inj i j b v v' e1 e2 (back i v e3).1 (back j v' e4).1, fun i v e2 => ?_⟩, ?_⟩
  · obtain ⟨b, e3, q⟩ := s.ob i v (back i v e2).1
    exact ⟨b, e3, q.stay st (fun _ hw => hw) fun _ _ z => s.notCode z⟩
  · rintro ⟨i, v, e1, e2⟩
    have q := back i v e2
    exact q.2 (s.inj n i a o v ea e1 e q.1)

/-! ### readings in a row -/
theorem PoX.pull {o : Out Vl} {Q : VK} {E : XK} (s : Step φ h H φ1 h1 H1) (q : PoX K mg φ h H o Q E) : PoX K mg φ1 h1 H1 o Q E := by
  cases o with
  | ok v h2 => exact fun x H' φ' st => q x H' φ' (s.trans st)
  | ex c fs h2 => exact fun cls dd H' φ' st => q cls dd H' φ' (s.trans st)
  | no => exact q
theorem PoT.pull {o : Out Bool} {Q : Bool → Hp → Prop} {E : XK} (s : Step φ h H φ1 h1 H1) (q : PoT K mg φ h H o Q E) : PoT K mg φ1 h1 H1 o Q E := by
  cases o with
  | ok v h2 => exact fun H' φ' st => q H' φ' (s.trans st)
  | ex c fs h2 => exact fun cls dd H' φ' st => q cls dd H' φ' (s.trans st)
  | no => exact q
theorem PoA.pull {o : Out (List Vl)} {Q : List V → Hp → Prop} {E : XK} (s : Step φ h H φ1 h1 H1) (q : PoA K mg φ h H o Q E) : PoA K mg φ1 h1 H1 o Q E := by
  cases o with
  | ok v h2 => exact fun x H' φ' st => q x H' φ' (s.trans st)
  | ex c fs h2 => exact fun cls dd H' φ' st => q cls dd H' φ' (s.trans st)
  | no => exact q
theorem PoS.pull {o : So} {D : Ends} {W : WX} (s : Step φ h H φ1 h1 H1) (q : PoS K mg φ h H o D W) : PoS K mg φ1 h1 H1 o D W := by
  cases o with
  | nx ρ h2 => exact fun x H' φ' st => q x H' φ' (s.trans st)
  | rt v h2 => exact fun x H' φ' st => q x H' φ' (s.trans st)
  | bk ρ h2 => exact fun x H' φ' st => q x H' φ' (s.trans st)
  | ct ρ h2 => exact fun x H' φ' st => q x H' φ' (s.trans st)
  | ex c fs ρ h2 => exact fun cls dd x H' φ' st => q cls dd x H' φ' (s.trans st)
  | no => exact q
/-- the outcome's own end, at once -/
theorem PoX.now {v : Vl} {x : V} {Q : VK} {E : XK} (q : PoX K mg φ h H (.ok v h) Q E) (s : Sim K φ h H) (r : VRep K mg φ h H x v) : Q x H := q x H φ (Step.refl _ _ _) s r
variable {E : XK}
theorem PoX.goE {o : Out Vl} {k : Vl → Hh → Out Vl} {Q : VK} {Q1 : VK} (q : PoX K mg φ h H (o.bind k) Q E)
    (hk : ∀ (x : V) (v : Vl) (h1 : Hh) (H1 : Hp) (φ1 : List Addr), Step φ h H φ1 h1 H1 → Sim K φ1 h1 H1 → VRep K mg φ1 h1 H1 x v → PoX K mg φ1 h1 H1 (k v h1) Q E → Q1 x H1) : PoX K mg φ h H o Q1 E := by
  cases o with
  | ok v h1 => exact fun x H' φ' st sm' rv => hk x v h1 H' φ' st sm' rv (PoX.pull st q)
  | ex c fs h1 => exact q
  | no => exact q
theorem PoX.goT {o : Out Bool} {k : Bool → Hh → Out Vl} {Q : VK} {Q1 : (Bool → Hp → Prop)} (q : PoX K mg φ h H (o.bind k) Q E)
    (hk : ∀ (v : Bool) (h1 : Hh) (H1 : Hp) (φ1 : List Addr), Step φ h H φ1 h1 H1 → Sim K φ1 h1 H1 → PoX K mg φ1 h1 H1 (k v h1) Q E → Q1 v H1) : PoT K mg φ h H o Q1 E := by
  cases o with
  | ok v h1 => exact fun H' φ' st sm' => hk v h1 H' φ' st sm' (PoX.pull st q)
  | ex c fs h1 => exact q
  | no => exact q
theorem PoX.goA {o : Out (List Vl)} {k : (List Vl) → Hh → Out Vl} {Q : VK} {Q1 : (List V → Hp → Prop)} (q : PoX K mg φ h H (o.bind k) Q E)
    (hk : ∀ (x : List V) (v : List Vl) (h1 : Hh) (H1 : Hp) (φ1 : List Addr), Step φ h H φ1 h1 H1 → Sim K φ1 h1 H1 → VReps K mg φ1 h1 H1 x v → PoX K mg φ1 h1 H1 (k v h1) Q E → Q1 x H1) : PoA K mg φ h H o Q1 E := by
  cases o with
  | ok v h1 => exact fun x H' φ' st sm' rv => hk x v h1 H' φ' st sm' rv (PoX.pull st q)
  | ex c fs h1 => exact q
  | no => exact q
theorem PoT.goE {o : Out Vl} {k : Vl → Hh → Out Bool} {Q : (Bool → Hp → Prop)} {Q1 : VK} (q : PoT K mg φ h H (o.bind k) Q E)
    (hk : ∀ (x : V) (v : Vl) (h1 : Hh) (H1 : Hp) (φ1 : List Addr), Step φ h H φ1 h1 H1 → Sim K φ1 h1 H1 → VRep K mg φ1 h1 H1 x v → PoT K mg φ1 h1 H1 (k v h1) Q E → Q1 x H1) : PoX K mg φ h H o Q1 E := by
  cases o with
  | ok v h1 => exact fun x H' φ' st sm' rv => hk x v h1 H' φ' st sm' rv (PoT.pull st q)
  | ex c fs h1 => exact q
  | no => exact q
theorem PoT.goT {o : Out Bool} {k : Bool → Hh → Out Bool} {Q : (Bool → Hp → Prop)} {Q1 : (Bool → Hp → Prop)} (q : PoT K mg φ h H (o.bind k) Q E)
    (hk : ∀ (v : Bool) (h1 : Hh) (H1 : Hp) (φ1 : List Addr), Step φ h H φ1 h1 H1 → Sim K φ1 h1 H1 → PoT K mg φ1 h1 H1 (k v h1) Q E → Q1 v H1) : PoT K mg φ h H o Q1 E := by
  cases o with
  | ok v h1 => exact fun H' φ' st sm' => hk v h1 H' φ' st sm' (PoT.pull st q)
  | ex c fs h1 => exact q
  | no => exact q
theorem PoT.goA {o : Out (List Vl)} {k : (List Vl) → Hh → Out Bool} {Q : (Bool → Hp → Prop)} {Q1 : (List V → Hp → Prop)} (q : PoT K mg φ h H (o.bind k) Q E)
    (hk : ∀ (x : List V) (v : List Vl) (h1 : Hh) (H1 : Hp) (φ1 : List Addr), Step φ h H φ1 h1 H1 → Sim K φ1 h1 H1 → VReps K mg φ1 h1 H1 x v → PoT K mg φ1 h1 H1 (k v h1) Q E → Q1 x H1) : PoA K mg φ h H o Q1 E := by
  cases o with
  | ok v h1 => exact fun x H' φ' st sm' rv => hk x v h1 H' φ' st sm' rv (PoT.pull st q)
  | ex c fs h1 => exact q
  | no => exact q
theorem PoA.goE {o : Out Vl} {k : Vl → Hh → Out (List Vl)} {Q : (List V → Hp → Prop)} {Q1 : VK} (q : PoA K mg φ h H (o.bind k) Q E)
    (hk : ∀ (x : V) (v : Vl) (h1 : Hh) (H1 : Hp) (φ1 : List Addr), Step φ h H φ1 h1 H1 → Sim K φ1 h1 H1 → VRep K mg φ1 h1 H1 x v → PoA K mg φ1 h1 H1 (k v h1) Q E → Q1 x H1) : PoX K mg φ h H o Q1 E := by
  cases o with
  | ok v h1 => exact fun x H' φ' st sm' rv => hk x v h1 H' φ' st sm' rv (PoA.pull st q)
  | ex c fs h1 => exact q
  | no => exact q
theorem PoA.goT {o : Out Bool} {k : Bool → Hh → Out (List Vl)} {Q : (List V → Hp → Prop)} {Q1 : (Bool → Hp → Prop)} (q : PoA K mg φ h H (o.bind k) Q E)
    (hk : ∀ (v : Bool) (h1 : Hh) (H1 : Hp) (φ1 : List Addr), Step φ h H φ1 h1 H1 → Sim K φ1 h1 H1 → PoA K mg φ1 h1 H1 (k v h1) Q E → Q1 v H1) : PoT K mg φ h H o Q1 E := by
  cases o with
  | ok v h1 => exact fun H' φ' st sm' => hk v h1 H' φ' st sm' (PoA.pull st q)
  | ex c fs h1 => exact q
  | no => exact q
theorem PoA.goA {o : Out (List Vl)} {k : (List Vl) → Hh → Out (List Vl)} {Q : (List V → Hp → Prop)} {Q1 : (List V → Hp → Prop)} (q : PoA K mg φ h H (o.bind k) Q E)
    (hk : ∀ (x : List V) (v : List Vl) (h1 : Hh) (H1 : Hp) (φ1 : List Addr), Step φ h H φ1 h1 H1 → Sim K φ1 h1 H1 → VReps K mg φ1 h1 H1 x v → PoA K mg φ1 h1 H1 (k v h1) Q E → Q1 x H1) : PoA K mg φ h H o Q1 E := by
  cases o with
  | ok v h1 => exact fun x H' φ' st sm' rv => hk x v h1 H' φ' st sm' rv (PoA.pull st q)
  | ex c fs h1 => exact q
  | no => exact q
/-- outcome of an expression, then a statement's end -/
def Out.then {α : Type} (ρ : En) : Out α → (α → Hh → So) → So
  | .ok a h, f => f a h
  | .ex c fs h, _ => .ex c fs ρ h
  | .no, _ => .no
theorem Out.then_ok {α : Type} (ρ : En) (a : α) (h : Hh) (f : α → Hh → So) : Out.then ρ (Out.ok a h) f = f a h := rfl
theorem Out.then_ex {α : Type} (ρ : En) (c : Str) (fs : List (Str × Da)) (h : Hh) (f : α → Hh → So) : Out.then ρ (Out.ex c fs h) f = .ex c fs ρ h := rfl
variable {W : WX} {σ : L2.St} {ρ : En} {D : Ends}
theorem PoS.goE {o : Out Vl} {k : Vl → Hh → So} {Q1 : VK} (er : ERep K mg φ h H σ ρ) (q : PoS K mg φ h H (Out.then ρ o k) D W)
    (hk : ∀ (x : V) (v : Vl) (h1 : Hh) (H1 : Hp) (φ1 : List Addr), Step φ h H φ1 h1 H1 → Sim K φ1 h1 H1 → ERep K mg φ1 h1 H1 σ ρ → VRep K mg φ1 h1 H1 x v → PoS K mg φ1 h1 H1 (k v h1) D W → Q1 x H1) : PoX K mg φ h H o Q1 (WE W σ) := by
  cases o with
  | ok v h1 => exact fun x H' φ' st sm' rv => hk x v h1 H' φ' st sm' (er.step st) rv (PoS.pull st q)
  | ex c fs h1 => exact fun cls dd H' φ' st sm' xr => q cls dd σ H' φ' st sm' (er.step st) xr
  | no => exact q
theorem PoS.goT {o : Out Bool} {k : Bool → Hh → So} {Q1 : (Bool → Hp → Prop)} (er : ERep K mg φ h H σ ρ) (q : PoS K mg φ h H (Out.then ρ o k) D W)
    (hk : ∀ (v : Bool) (h1 : Hh) (H1 : Hp) (φ1 : List Addr), Step φ h H φ1 h1 H1 → Sim K φ1 h1 H1 → ERep K mg φ1 h1 H1 σ ρ → PoS K mg φ1 h1 H1 (k v h1) D W → Q1 v H1) : PoT K mg φ h H o Q1 (WE W σ) := by
  cases o with
  | ok v h1 => exact fun H' φ' st sm' => hk v h1 H' φ' st sm' (er.step st) (PoS.pull st q)
  | ex c fs h1 => exact fun cls dd H' φ' st sm' xr => q cls dd σ H' φ' st sm' (er.step st) xr
  | no => exact q
theorem PoS.goA {o : Out (List Vl)} {k : (List Vl) → Hh → So} {Q1 : (List V → Hp → Prop)} (er : ERep K mg φ h H σ ρ) (q : PoS K mg φ h H (Out.then ρ o k) D W)
    (hk : ∀ (x : List V) (v : List Vl) (h1 : Hh) (H1 : Hp) (φ1 : List Addr), Step φ h H φ1 h1 H1 → Sim K φ1 h1 H1 → ERep K mg φ1 h1 H1 σ ρ → VReps K mg φ1 h1 H1 x v → PoS K mg φ1 h1 H1 (k v h1) D W → Q1 x H1) : PoA K mg φ h H o Q1 (WE W σ) := by
  cases o with
  | ok v h1 => exact fun x H' φ' st sm' rv => hk x v h1 H' φ' st sm' (er.step st) rv (PoS.pull st q)
  | ex c fs h1 => exact fun cls dd H' φ' st sm' xr => q cls dd σ H' φ' st sm' (er.step st) xr
  | no => exact q
end
end Rk

/-! Rk2: expressions. -/
namespace Rk
open PySem PySem.Spec L2
variable {mg : Str → Option Value}
/-! ### data out of values -/
def fitB (n : Nat) : Bool := decide (n ≤ 16777216)
theorem fitB_ok {n : Nat} (h : n ≤ 16777216) : fitB n = true := decide_eq_true h
theorem fitB_le {n : Nat} (h : fitB n = true) : n ≤ sizeLine := by
  rw [sizeLine_eq]
  exact of_decide_eq_true h
/-- a list that is read -/
def asL : Vl → Hh → Option (List Da)
  | .d (.list xs), _ => some xs
  | .r n, h => match h[n]? with
    | some (some (.lst xs)) => some xs
    | _ => none
  | _, _ => none
/-- the data of a value, as it stands now -/
def asD : Vl → Hh → Option Da
  | .d x, _ => some x
  | .r n, h => match h[n]? with
    | some (some (.lst xs)) => some (.list xs)
    | _ => none
  | _, _ => none
/-- data for ever: an object is frozen -/
def fz : Vl → Hh → Option (Da × Hh)
  | .d x, h => some (x, h)
  | .r n, h => match h[n]? with
    | some (some (.lst xs)) => some (.list xs, h.set n none)
    | _ => none
  | _, _ => none
def fzs : List Vl → Hh → Option (List Da × Hh)
  | [], h => some ([], h)
  | v :: vs, h => (fz v h).bind fun p => (fzs vs p.2).map fun q => (p.1 :: q.1, q.2)
section
variable {K : PySem.W.Frag} {φ : List Addr} {h h' : Hh} {H : Hp} {x : V} {v : Vl}
theorem Sim.at_ (s : Sim K φ h H) {n : Nat} {o : Ob} {a : Addr} (e : h[n]? = some (some o)) (ea : φ[n]? = some a) : ORep K H (Live φ h) a o := by
  obtain ⟨b, e1, r⟩ := s.ob n o e
  rw [ea] at e1
  have := Option.some.inj e1
  subst this
  exact r
theorem asL_ok {ds : List Da} (s : Sim K φ h H) (r : VRep K mg φ h H x v) (e : asL v h = some ds) : ∃ a xs, x = .ref a ∧ SqL K H a xs ∧ Reps K H (Live φ h) xs ds := by
  unfold asL at e
  split at e
  · cases e
    cases r with
    | lst h1 n r => exact ⟨_, _, rfl, .inl h1, r⟩
    | lstK h1 r => exact ⟨_, _, rfl, .inr h1, r⟩
  · split at e
    · cases e
      obtain ⟨a, ea, rfl⟩ := r
      obtain ⟨xs, e2, q⟩ := s.at_ (by assumption) ea
      exact ⟨a, xs, rfl, .of e2, q⟩
    · cases e
  · cases e
mutual
theorem Rep.dp {M : Addr → Prop} : ∀ {v : V} {d : Da}, Rep K H M v d → d.hasDict = false → Dp K H v d
  | _, _, .non, _ => .non
  | _, _, .bl b, _ => .bl b
  | _, _, .int i, _ => .int i
  | _, _, .str x, _ => .str x
  | _, _, .tup h n r, e => .tup (.inl h) (Reps.dp r (by unfold PyData.hasDict at e; exact e))
  | _, _, .tupK h r, e => .tup (.inr h) (Reps.dp r (by unfold PyData.hasDict at e; exact e))
  | _, _, .lst h n r, e => .lst (.inl h) (Reps.dp r (by unfold PyData.hasDict at e; exact e))
  | _, _, .lstK h r, e => .lst (.inr h) (Reps.dp r (by unfold PyData.hasDict at e; exact e))
  | _, _, .dct0 h n, e => by
    unfold PyData.hasDict at e
    cases e
theorem Reps.dp {M : Addr → Prop} : ∀ {vs : List V} {ds : List Da}, Reps K H M vs ds → PyData.hasDictAll ds = false → DpAll K H vs ds
  | _, _, .nil, _ => .nil
  | _, _, .cons r t, e => by
    unfold PyData.hasDictAll at e
    rw [Bool.or_eq_false_iff] at e
    exact .cons (Rep.dp r e.1) (Reps.dp t e.2)
end
theorem asD_ok {d : Da} (s : Sim K φ h H) (r : VRep K mg φ h H x v) (e : asD v h = some d) (nd : d.hasDict = false) : Dp K H x d := by
  unfold asD at e
  split at e
  · cases e
    exact Rep.dp r nd
  · split at e
    · cases e
      obtain ⟨a, ea, rfl⟩ := r
      obtain ⟨xs, e2, q⟩ := s.at_ (by assumption) ea
      exact .lst (.of e2) (Reps.dp q (by unfold PyData.hasDict at nd; exact nd))
    · cases e
  · cases e
theorem fz_ok {d : Da} (s : Sim K φ h H) (r : VRep K mg φ h H x v) (e : fz v h = some (d, h')) : Step φ h H φ h' H ∧ Sim K φ h' H ∧ Rep K H (Live φ h') x d := by
  unfold fz at e
  split at e
  · cases e
    exact ⟨Step.refl _ _ _, s, r⟩
  · split at e
    · cases e
      obtain ⟨a, ea, rfl⟩ := r
      rename_i hn
      obtain ⟨xs, e2, q⟩ := s.at_ hn ea
      obtain ⟨s1, s2, s3⟩ := s.freeze hn ea
      exact ⟨s1, s2, .lst (.inl e2) s3 (q.stay s1.st)⟩
    · cases e
  · cases e
theorem fzs_ok : ∀ {vs : List Vl} {xs : List V} {ds : List Da} {h h' : Hh}, Sim K φ h H → VReps K mg φ h H xs vs → fzs vs h = some (ds, h') → Step φ h H φ h' H ∧ Sim K φ h' H ∧ Reps K H (Live φ h') xs ds
  | [], _, _, _, _, s, .nil, e => by
    cases e
    exact ⟨Step.refl _ _ _, s, .nil⟩
  | v :: vs, _, ds, h, h', s, .cons r t, e => by
    unfold fzs at e
    cases e1 : fz v h with
    | none => rw [e1] at e; cases e
    | some p =>
      obtain ⟨d, h1⟩ := p
      rw [e1] at e
      dsimp only [Option.bind_some] at e
      obtain ⟨s1, s2, s3⟩ := fz_ok s r e1
      cases e2 : fzs vs h1 with
      | none => rw [e2] at e; cases e
      | some q =>
        obtain ⟨es, h2⟩ := q
        rw [e2] at e
        cases e
        obtain ⟨t1, t2, t3⟩ := fzs_ok s2 (t.step s1) e2
        exact ⟨s1.trans t1, t2, .cons (s3.stay t1.st) t3⟩
end

/-! ### names, constants -/
def eVar (i : Nat) : Ev := fun ρ h => match ρ[i]? with
  | some (some v) => .ok v h
  | _ => .no
def eD (d : Da) : Ev := fun _ h => .ok (.d d) h
section
variable {X : Cx} {W : WX}
theorem ee_var (i : Nat) {x : Str} {pos : Pos} (hN : X.N[i]? = some x := by rfl) (hv : Vis X.env.scope x := by first | exact Or.inl rfl | exact Or.inr (Or.inl rfl) | exact Or.inr (Or.inr rfl)) (hd : (x == ("__debug__" : Str)) = false := by decide)
    (hcd : (x == ("__classdict__" : Str)) = false := by decide) : EE X W (.Name x pos) (eVar i) :=
  PE.of (pe_var hN hv hd hcd) fun σ H Q ⟨φ, h, ρ, sm, er, q⟩ => by
    unfold eVar at q
    split at q
    · rename_i v e
      obtain ⟨y, e1, r⟩ := er.at_ i v e
      exact ⟨y, e1, q.now sm r⟩
    · exact q.elim
theorem ee_c {e : Expr} {v : V} {d : Da} (p : PE X e (tC v)) (k : KRep X.K v d) : EE X W e (eD d) :=
  PE.of p fun σ H Q ⟨φ, h, ρ, sm, er, q⟩ => PoX.now (v := .d d) q sm (k _ _)
theorem ee_int {i : Int} {j : Nat} {pos : Pos} : EE X W (.Constant (.int i) j pos) (eD (.int i)) := ee_c pe_int fun _ _ => .int i
theorem ee_bl {b : Bool} {j : Nat} {pos : Pos} : EE X W (.Constant (.bool b) j pos) (eD (.bool b)) := ee_c pe_bl fun _ _ => .bl b
theorem ee_non {j : Nat} {pos : Pos} : EE X W (.Constant .none j pos) (eD .none) := ee_c pe_non fun _ _ => .non
theorem ee_str {x : Str} {j : Nat} {pos : Pos} : EE X W (.Constant (.str x) j pos) (eD (.str x)) := ee_c pe_str fun _ _ => .str x
theorem ee_glob {x : Str} {v : V} {u : Value} {d : Da} {pos : Pos} (hg : Gl X x) (hm : X.mg x = some u) (r : RelV v u) (k : KRep X.K v d) (hd : (x == ("__debug__" : Str)) = false := by decide) : EE X W (.Name x pos) (eD d) := ee_c (pe_glob hg hm r hd) k
end

/-! ### operators -/
def ofO : Option (Vl × Hh) → Out Vl
  | some p => .ok p.1 p.2
  | none => .no
theorem ofO_some (v : Vl) (h : Hh) : ofO (some (v, h)) = .ok v h := rfl
abbrev G2 := Vl → Vl → Hh → Option (Vl × Hh)
def eOp (g : G2) (a b : Ev) : Ev := fun ρ h => (a ρ h).bind fun x h1 => (b ρ h1).bind fun y h2 => ofO (g x y h2)
def Ok2 (K : PySem.W.Frag) (mg : Str → Option Value) (r : R2) (g : G2) : Prop := ∀ (φ : List Addr) (h : Hh) (H : Hp) (x y : V) (a b : Vl) (Q : VK) (v : Vl) (h' : Hh), Sim K φ h H → VRep K mg φ h H x a → VRep K mg φ h H y b → g a b h = some (v, h') →
  (∀ z H' φ', Step φ h H φ' h' H' → Sim K φ' h' H' → VRep K mg φ' h' H' z v → Q z H') → r x y H Q
theorem PoX.ofO {K : PySem.W.Frag} {mg : Str → Option Value} {φ : List Addr} {h : Hh} {H : Hp} {o : Option (Vl × Hh)} {Q : VK} {E : XK} (q : PoX K mg φ h H (Rk.ofO o) Q E) :
    ∃ v h', o = some (v, h') ∧ ∀ z H' φ', Step φ h H φ' h' H' → Sim K φ' h' H' → VRep K mg φ' h' H' z v → Q z H' := by
  cases o with
  | none => exact q.elim
  | some p => exact ⟨p.1, p.2, rfl, q⟩
section
variable {X : Cx} {W : WX} {a b c : Expr} {fa fb fc : Ev} {pos : Pos} {r r' : R2} {g g' : G2}
theorem tOp_ok {σ : L2.St} {H : Hp} {Q : VK} (ok : Ok2 X.K X.mg r g) (hf : tE X.K X.mg W (eOp g fa fb) σ H Q) : tOp r (tE X.K X.mg W fa) (tE X.K X.mg W fb) σ H Q := by
  obtain ⟨φ, h, ρ, sm, er, q⟩ := hf
  refine ⟨φ, h, ρ, sm, er, PoX.goE q fun x v h1 H1 φ1 st sm1 rv q1 => ⟨φ1, h1, ρ, sm1, er.step st, PoX.goE q1 fun y w h2 H2 φ2 st2 sm2 rw q2 => ?_⟩⟩
  obtain ⟨z, h3, e, k⟩ := PoX.ofO q2
  exact ok φ2 h2 H2 x y v w Q z h3 sm2 (rv.step st2) rw e k
theorem ee_op {op : Operator} (ho : OpR X (binaryOp op) r) (ok : Ok2 X.K X.mg r g) (ha : EE X W a fa) (hb : EE X W b fb) : EE X W (.BinOp a op b pos) (eOp g fa fb) :=
  PE.of (pe_op ho ha hb) fun σ H Q hf => tOp_ok ok hf
theorem ee_cmp {op : CmpOp} (ho : OpR X (compareOp op) r) (ok : Ok2 X.K X.mg r g) (ha : EE X W a fa) (hb : EE X W b fb) (hm : behindInMarks op b = false) : EE X W (.Compare a [op] [b] pos) (eOp g fa fb) :=
  PE.of (pe_cmpR ho ha hb hm) fun σ H Q hf => tOp_ok ok hf
/-- a value that is a truth -/
def truO : Vl → Hh → Out Bool
  | .d (.bool b), h => .ok b h
  | _, _ => .no
def eT (f : Ev) : Tv := fun ρ h => (f ρ h).bind truO
theorem VRep.bl {K : PySem.W.Frag} {φ : List Addr} {h : Hh} {H : Hp} {x : V} {c : Bool} (r : VRep K mg φ h H x (.d (.bool c))) : x = .bl c := by
  cases r
  rfl
theorem PoT.bl {K : PySem.W.Frag} {mg : Str → Option Value} {φ : List Addr} {h : Hh} {H : Hp} {v : Vl} {x : V} {Q : Bool → Hp → Prop} {E : XK} (sm : Sim K φ h H) (rv : VRep K mg φ h H x v)
    (q : PoT K mg φ h H (truO v h) Q E) : ∃ k, x = .bl k ∧ Q k H := by
  unfold truO at q
  split at q
  · exact ⟨_, VRep.bl rv, q H φ (Step.refl _ _ _) sm⟩
  · exact q.elim
theorem tTest_ok {f : Ev} {t : TE} {σ : L2.St} {H : Hp} {Q : Bool → Hp → Prop} (i : ∀ Q, tE X.K X.mg W f σ H Q → t σ H Q) (hf : tT X.K X.mg W (eT f) σ H Q) : tTest t σ H Q := by
  obtain ⟨φ, h, ρ, sm, er, q⟩ := hf
  exact i _ ⟨φ, h, ρ, sm, er, PoT.goE q fun x v h1 H1 φ1 st sm1 rv q1 => PoT.bl sm1 rv q1⟩
theorem et_cmp {op : CmpOp} (ho : OpR X (compareOp op) r) (ok : Ok2 X.K X.mg r g) (ha : EE X W a fa) (hb : EE X W b fb) (hm : behindInMarks op b = false) : ET X W (.Compare a [op] [b] pos) (eT (eOp g fa fb)) :=
  PT.of (pt_cmpR ho ha hb hm) fun σ H Q hf => tTest_ok (fun Q hf => tOp_ok ok hf) hf
theorem et_val (ha : EE X W a fa) (he : ∀ whole, isTrue a X.env whole = (do let v ← whole; standAt a.pos; holding [v] (truthy v)) := by intro _; rfl) : ET X W a (eT fa) :=
  PT.of (pt_val ha he) fun σ H Q hf => tTest_ok (t := tE X.K X.mg W fa) (fun Q hf => hf) hf
/-- a op b op' c -/
def eChain (g g' : G2) (a b c : Ev) : Ev := fun ρ h => (a ρ h).bind fun x h1 => (b ρ h1).bind fun y h2 => (ofO (g x y h2)).bind fun z h3 => match z with
  | .d (.bool true) => (c ρ h3).bind fun w h4 => ofO (g' y w h4)
  | .d (.bool false) => .ok (.d (.bool false)) h3
  | _ => .no
theorem tChain_ok {σ : L2.St} {H : Hp} {Q : VK} (ok : Ok2 X.K X.mg r g) (ok' : Ok2 X.K X.mg r' g') (hf : tE X.K X.mg W (eChain g g' fa fb fc) σ H Q) : tChain r r' (tE X.K X.mg W fa) (tE X.K X.mg W fb) (tE X.K X.mg W fc) σ H Q := by
  obtain ⟨φ, h, ρ, sm, er, q⟩ := hf
  refine ⟨φ, h, ρ, sm, er, PoX.goE q fun x v h1 H1 φ1 st sm1 rv q1 => ⟨φ1, h1, ρ, sm1, er.step st, PoX.goE q1 fun y w h2 H2 φ2 st2 sm2 rw q2 => ?_⟩⟩
  have q3 := PoX.goE (Q1 := fun z H3 => ∃ k, z = .bl k ∧ if k = true then tE X.K X.mg W fc σ H3 (fun zz H4 => r' y zz H4 Q) else Q (.bl false) H3) q2 fun z u h3 H3 φ3 st3 sm3 ru q3 => by
    split at q3
    · refine ⟨true, VRep.bl ru, ?_⟩
      rw [if_pos rfl]
      refine ⟨φ3, h3, ρ, sm3, (er.step (st.trans st2)).step st3, PoX.goE q3 fun zz ww h4 H4 φ4 st4 sm4 rw4 q4 => ?_⟩
      obtain ⟨z5, h5, e5, k5⟩ := PoX.ofO q4
      exact ok' φ4 h4 H4 y zz w ww Q z5 h5 sm4 (rw.step (st3.trans st4)) rw4 e5 k5
    · refine ⟨false, VRep.bl ru, ?_⟩
      rw [if_neg Bool.false_ne_true]
      exact PoX.now (v := .d (.bool false)) q3 sm3 (Rep.bl false)
    · exact q3.elim
  obtain ⟨z, h3, e, k⟩ := PoX.ofO q3
  exact ok φ2 h2 H2 x y v w _ z h3 sm2 (rv.step st2) rw e k
theorem ee_chain {op op' : CmpOp} (ho : OpR X (compareOp op) r) (ho' : OpR X (compareOp op') r') (ok : Ok2 X.K X.mg r g) (ok' : Ok2 X.K X.mg r' g') (ha : EE X W a fa) (hb : EE X W b fb) (hc : EE X W c fc)
    (hm : lastMarks [op, op'] [b, c] = false := by with_unfolding_all rfl) : EE X W (.Compare a [op, op'] [b, c] pos) (eChain g g' fa fb fc) :=
  PE.of (pe_chain ho ho' ha hb hc hm) fun σ H Q hf => tChain_ok ok ok' hf
theorem et_chain {op op' : CmpOp} (ho : OpR X (compareOp op) r) (ho' : OpR X (compareOp op') r') (ok : Ok2 X.K X.mg r g) (ok' : Ok2 X.K X.mg r' g') (ha : EE X W a fa) (hb : EE X W b fb) (hc : EE X W c fc)
    (hm : lastMarks [op, op'] [b, c] = false := by with_unfolding_all rfl) : ET X W (.Compare a [op, op'] [b, c] pos) (eT (eChain g g' fa fb fc)) :=
  PT.of (pt_chain ho ho' ha hb hc hm) fun σ H Q hf => tTest_ok (fun Q hf => tChain_ok ok ok' hf) hf
end
end Rk

/-! Rk3: the operators themselves. -/
namespace Rk
open PySem PySem.Spec L2
variable {mg : Str → Option Value}
/-! ### ints -/
def gInt (f : Int → Int → Option Da) : G2 := fun x y h => match x, y with
  | .d (.int a), .d (.int b) => (f a b).map fun z => (.d z, h)
  | _, _ => none
section
variable {K : PySem.W.Frag}
theorem VRep.int {φ : List Addr} {h : Hh} {H : Hp} {x : V} {c : Int} (r : VRep K mg φ h H x (.d (.int c))) : x = .int c := by
  cases r
  rfl
theorem VRep.str {φ : List Addr} {h : Hh} {H : Hp} {x : V} {c : Str} (r : VRep K mg φ h H x (.d (.str c))) : x = .str c := by
  cases r
  rfl
theorem VRep.non {φ : List Addr} {h : Hh} {H : Hp} {x : V} (r : VRep K mg φ h H x (.d .none)) : x = .non := by
  cases r
  rfl
theorem gInt_ok {f : Int → Int → Option Da} {r : R2} (hr : ∀ (a b : Int) (d : Da) (H : Hp) (Q : VK), f a b = some d → (∀ z, (∀ M, Rep K H M z d) → Q z H) → r (.int a) (.int b) H Q) : Ok2 K mg r (gInt f) := by
  intro φ h H x y a b Q v h' sm rx ry e k
  unfold gInt at e
  split at e
  · rw [VRep.int rx, VRep.int ry]
    rename_i a b
    cases e1 : f a b with
    | none => rw [e1] at e; cases e
    | some d =>
      rw [e1] at e
      cases e
      exact hr a b d H Q e1 fun z hz => k z H φ (Step.refl _ _ _) sm (hz _)
  · cases e
instance (a b : Int) : Decidable (IntMulOk a b) := by unfold IntMulOk; infer_instance
def fAdd (a b : Int) : Option Da := some (.int (a + b))
def fSub (a b : Int) : Option Da := some (.int (a - b))
def fMul (a b : Int) : Option Da := if IntMulOk a b then some (.int (a * b)) else none
def fDiv (a b : Int) : Option Da := if b ≠ 0 ∧ Builtin.divisionGoesByPylong a b = false then some (.int (a.fdiv b)) else none
def fMod (a b : Int) : Option Da := if b ≠ 0 then some (.int (a.fmod b)) else none
def fPow (a b : Int) : Option Da := if 0 ≤ b ∧ b ≤ 1000000 ∧ a.natAbs < 2 ^ 64 then some (.int (a ^ b.toNat)) else none
def fLt (a b : Int) : Option Da := some (.bool (decide (a < b)))
def fLe (a b : Int) : Option Da := some (.bool (decide (a ≤ b)))
def fGt (a b : Int) : Option Da := some (.bool (decide (b < a)))
def fGe (a b : Int) : Option Da := some (.bool (decide (b ≤ a)))
theorem ok_sub : Ok2 K mg (rI0 fun i j => .int (i - j)) (gInt fSub) := gInt_ok fun a b d H Q e k => by
  cases e
  exact ⟨a, b, rfl, rfl, k _ fun _ => .int _⟩
theorem ok_mod : Ok2 K mg (rI (fun _ j => j ≠ 0) fun i j => .int (i.fmod j)) (gInt fMod) := gInt_ok fun a b d H Q e k => by
  unfold fMod at e
  split at e
  · cases e
    exact ⟨a, b, rfl, rfl, by assumption, k _ fun _ => .int _⟩
  · cases e
/-- // where C divides -/
def CDivC (i j : Int) : Prop := j ≠ 0 ∧ Builtin.divisionGoesByPylong i j = false
theorem op_fdivC {X : Cx} : OpR X (binaryOp .FloorDiv) (rI CDivC fun i j => .int (i.fdiv j)) := opI fun i j _ _ _ _ _ hc q => PyProof.Rows.floordiv_int hc.1 q (.inl hc.2)
theorem ok_div : Ok2 K mg (rI CDivC fun i j => .int (i.fdiv j)) (gInt fDiv) := gInt_ok fun a b d H Q e k => by
  unfold fDiv at e
  split at e
  · cases e
    exact ⟨a, b, rfl, rfl, by assumption, k _ fun _ => .int _⟩
  · cases e
theorem op_mulC {X : Cx} : OpR X (binaryOp .Mult) (rI IntMulOk fun i j => .int (i * j)) := opI fun _ _ _ _ _ _ _ hc q => PyProof.Rows.mul_int q hc
theorem ok_mul : Ok2 K mg (rI IntMulOk fun i j => .int (i * j)) (gInt fMul) := gInt_ok fun a b d H Q e k => by
  unfold fMul at e
  split at e
  · cases e
    exact ⟨a, b, rfl, rfl, by assumption, k _ fun _ => .int _⟩
  · cases e
theorem ok_pow : Ok2 K mg (rI CPow fun i j => .int (i ^ j.toNat)) (gInt fPow) := gInt_ok fun a b d H Q e k => by
  unfold fPow at e
  split at e
  · cases e
    exact ⟨a, b, rfl, rfl, by assumption, k _ fun _ => .int _⟩
  · cases e
theorem ok_lt : Ok2 K mg (rI0 fun i j => .bl (decide (i < j))) (gInt fLt) := gInt_ok fun a b d H Q e k => by
  cases e
  exact ⟨a, b, rfl, rfl, k _ fun _ => .bl _⟩
theorem ok_le : Ok2 K mg (rI0 fun i j => .bl (decide (i ≤ j))) (gInt fLe) := gInt_ok fun a b d H Q e k => by
  cases e
  exact ⟨a, b, rfl, rfl, k _ fun _ => .bl _⟩
theorem ok_gt : Ok2 K mg (rI0 fun i j => .bl (decide (j < i))) (gInt fGt) := gInt_ok fun a b d H Q e k => by
  cases e
  exact ⟨a, b, rfl, rfl, k _ fun _ => .bl _⟩
theorem ok_ge : Ok2 K mg (rI0 fun i j => .bl (decide (j ≤ i))) (gInt fGe) := gInt_ok fun a b d H Q e k => by
  cases e
  exact ⟨a, b, rfl, rfl, k _ fun _ => .bl _⟩
end
/-! ### + -/
def gAdd : G2 := fun x y h => match x, y with
  | .d (.int a), .d (.int b) => some (.d (.int (a + b)), h)
  | .d (.str a), .d (.str b) => if fitB (a.length + b.length) then some (.d (.str (a ++ b)), h) else none
  | .d (.tuple a), .d (.tuple b) => if fitB (a.length + b.length) then some (.d (.tuple (a ++ b)), h) else none
  | x, y => match asL x h, asL y h with
    | some a, some b => if fitB (a.length + b.length) then some (.r h.length, h ++ [some (.lst (a ++ b))]) else none
    | _, _ => none
def rCatL (K : PySem.W.Frag) : R2 := fun x y H Q => ∃ a b xs ys, x = .ref a ∧ y = .ref b ∧ SqL K H a xs ∧ SqL K H b ys ∧ xs.length + ys.length ≤ sizeLine ∧ ∀ p, H p = none → Q (.ref p) (upd H p (.lst (xs ++ ys)))
def rAddA (K : PySem.W.Frag) : R2 := fun x y H Q => (∃ i j, x = .int i ∧ y = .int j ∧ Q (.int (i + j)) H) ∨ (∃ i j, x = .str i ∧ y = .str j ∧ i.length + j.length ≤ sizeLine ∧ Q (.str (i ++ j)) H) ∨ rCatA K x y H Q ∨ rCatL K x y H Q
section
variable {X : Cx}
theorem op_catL : OpR X (binaryOp .Add) (rCatL X.K) := by
  intro pins s σ H x y v u Q I rx ry h
  obtain ⟨a, b, xs, ys, rfl, rfl, ha, hb, hz, q⟩ := h
  cases rx
  cases ry
  obtain ⟨its, r1, ⟨⟨c1, dd1, da1, sl1⟩, n1, e1, f1, g1, k1⟩, z1⟩ := I.list ha
  obtain ⟨its2, r2, ⟨⟨c2, dd2, da2, sl2⟩, n2, e2, f2, g2, k2⟩, z2⟩ := I.list hb
  simp only at f1 g1 k1 f2 g2 k2
  subst f1 g1 k1 f2 g2 k2
  have e : its.toArray ++ its2.toArray = (its ++ its2).toArray := by simp
  have l1 := r1.length
  have l2 := r2.length
  refine PySem.concat_meets ⟨_, e1, rfl⟩ ⟨_, e2, rfl⟩ PySem.noFill_list_add PySem.seq_list_add PySem.F.slot_list_add PySem.F.entry_list_add (PySem.F.args_list_add_2 _ _) (PyProof.Rows.list_addW a b its.toArray its2.toArray n1 n2 none none sl1 sl2 (by simp; omega)) ⟨e1, e2, ?_⟩
  rw [e]
  exact ⟨.ref _, _, I.lnew (t' := s.toks) (r1.append r2) (by rw [List.length_append]; omega), rfl, q _ I.fresh⟩
theorem op_addA : OpR X (binaryOp .Add) (rAddA X.K) := op_add.or (op_add_str.or (op_catA.or op_catL))
end
section
variable {K : PySem.W.Frag}
/-- a new list of data -/
theorem new_list {φ : List Addr} {h : Hh} {H : Hp} {p : Addr} {xs : List V} {ds : List Da} (sm : Sim K φ h H) (r : Reps K H (Live φ h) xs ds) (hp : H p = none) :
    Step φ h H (φ ++ [p]) (h ++ [some (.lst ds)]) (upd H p (.lst xs)) ∧ Sim K (φ ++ [p]) (h ++ [some (.lst ds)]) (upd H p (.lst xs)) ∧ VRep K mg (φ ++ [p]) (h ++ [some (.lst ds)]) (upd H p (.lst xs)) (.ref p) (.r h.length) :=
  sm.new hp fun M st => ⟨xs, upd_same, r.stay st⟩
theorem new_tup {φ : List Addr} {h : Hh} {H : Hp} {p : Addr} {xs : List V} {ds : List Da} (sm : Sim K φ h H) (r : Reps K H (Live φ h) xs ds) (hp : H p = none) :
    Step φ h H φ h (upd H p (.tup xs)) ∧ Sim K φ h (upd H p (.tup xs)) ∧ VRep K mg φ h (upd H p (.tup xs)) (.ref p) (.d (.tuple ds)) := by
  obtain ⟨s1, s2⟩ := sm.grow (o := .tup xs) hp
  exact ⟨s1, s2, Rep.tup (.inl upd_same) (sm.fresh hp) (r.stay s1.st)⟩
theorem VRep.tup {φ : List Addr} {h : Hh} {H : Hp} {x : V} {ds : List Da} (r : VRep K mg φ h H x (.d (.tuple ds))) : ∃ a xs, x = .ref a ∧ SqT K H a xs ∧ Reps K H (Live φ h) xs ds := by
  cases r with
  | tup h n r => exact ⟨_, _, rfl, .inl h, r⟩
  | tupK h r => exact ⟨_, _, rfl, .inr h, r⟩
theorem Reps.ne {H : Hp} {M : Addr → Prop} {xs : List V} {ds : List Da} (r : Reps K H M xs ds) : xs = [] ↔ ds = [] := by
  cases r with
  | nil => simp
  | cons _ _ => simp
theorem ok_add : Ok2 K mg (rAddA K) gAdd := by
  intro φ h H x y a b Q v h' sm rx ry e k
  unfold gAdd at e
  split at e
  · cases e
    exact .inl ⟨_, _, VRep.int rx, VRep.int ry, k _ H φ (Step.refl _ _ _) sm (Rep.int _)⟩
  · split at e
    · cases e
      exact .inr (.inl ⟨_, _, VRep.str rx, VRep.str ry, fitB_le (by assumption), k _ H φ (Step.refl _ _ _) sm (Rep.str _)⟩)
    · cases e
  · split at e
    · rename_i da db hz
      cases e
      obtain ⟨pa, xs, rfl, sa, ra⟩ := VRep.tup rx
      obtain ⟨pb, ys, rfl, sb, rb⟩ := VRep.tup ry
      refine .inr (.inr (.inl ⟨pa, pb, xs, ys, rfl, rfl, sa, sb, by rw [ra.length, rb.length]; exact fitB_le hz, fun z => ?_, fun _ z => ?_, fun _ _ p hp => ?_⟩))
      · have : da = [] := ra.ne.mp z
        subst this
        exact k _ H φ (Step.refl _ _ _) sm ry
      · have : db = [] := rb.ne.mp z
        subst this
        rw [List.append_nil] at k
        exact k _ H φ (Step.refl _ _ _) sm rx
      · obtain ⟨s1, s2, s3⟩ := new_tup sm (ra.append rb) hp
        exact k _ _ _ s1 s2 s3
    · cases e
  · split at e
    · rename_i la lb ea eb
      split at e
      · rename_i hz
        cases e
        obtain ⟨pa, xs, rfl, sa, ra⟩ := asL_ok sm rx ea
        obtain ⟨pb, ys, rfl, sb, rb⟩ := asL_ok sm ry eb
        refine .inr (.inr (.inr ⟨pa, pb, xs, ys, rfl, rfl, sa, sb, by rw [ra.length, rb.length]; exact fitB_le hz, fun p hp => ?_⟩))
        obtain ⟨s1, s2, s3⟩ := new_list sm (ra.append rb) hp
        exact k _ _ _ s1 s2 s3
      · cases e
    · cases e
/-! ### ==, !=, is, in -/
/-- told by == and !=, no dict within -/
def sh (d : Da) : Bool := SeqAt.shaped d && !d.hasDict
theorem sh_parts {d : Da} (e : sh d = true) : SeqAt.shaped d = true ∧ d.hasDict = false := by
  unfold sh at e
  rw [Bool.and_eq_true] at e
  exact ⟨e.1, by simpa using e.2⟩
def eqvB (a b : Da) : Option Bool := if sh a && sh b then some (PyData.eqv a b) else none
def gEq : G2 := fun x y h => match x, y with
  | .d (.str a), .d (.str b) => some (.d (.bool (decide (a = b))), h)
  | x, y => match asD x h, asD y h with
    | some a, some b => (eqvB a b).map fun z => (.d (.bool z), h)
    | _, _ => none
def gNe : G2 := fun x y h => match x, y with
  | .d (.str a), .d (.str b) => some (.d (.bool (!decide (a = b))), h)
  | x, y => match asD x h, asD y h with
    | some a, some b => (eqvB a b).map fun z => (.d (.bool (!z)), h)
    | _, _ => none
theorem ok_eq : Ok2 K mg (fun x y H Q => rEq x y H Q ∨ rEqD K x y H Q) gEq := by
  intro φ h H x y a b Q v h' sm rx ry e k
  unfold gEq at e
  split at e
  · rename_i p q
    cases e
    rw [VRep.str rx, VRep.str ry]
    have d : decide (V.str p = V.str q) = decide (p = q) := decide_eq_decide.mpr ⟨fun z => by injection z, fun z => by rw [z]⟩
    exact .inl ⟨rfl, by rw [d]; exact k _ H φ (Step.refl _ _ _) sm (Rep.bl _)⟩
  · split at e
    · rename_i da db ea eb
      unfold eqvB at e
      split at e
      · rename_i hs
        rw [Bool.and_eq_true] at hs
        cases e
        have h1 := sh_parts hs.1
        have h2 := sh_parts hs.2
        exact .inr ⟨da, db, asD_ok sm rx ea h1.2, asD_ok sm ry eb h2.2, h1.1, h2.1, k _ H φ (Step.refl _ _ _) sm (Rep.bl _)⟩
      · cases e
    · cases e
theorem ok_ne : Ok2 K mg (fun x y H Q => rNe x y H Q ∨ rNeD K x y H Q) gNe := by
  intro φ h H x y a b Q v h' sm rx ry e k
  unfold gNe at e
  split at e
  · rename_i p q
    cases e
    rw [VRep.str rx, VRep.str ry]
    have d : decide (V.str p = V.str q) = decide (p = q) := decide_eq_decide.mpr ⟨fun z => by injection z, fun z => by rw [z]⟩
    exact .inl ⟨rfl, by rw [d]; exact k _ H φ (Step.refl _ _ _) sm (Rep.bl _)⟩
  · split at e
    · rename_i da db ea eb
      unfold eqvB at e
      split at e
      · rename_i hs
        rw [Bool.and_eq_true] at hs
        cases e
        have h1 := sh_parts hs.1
        have h2 := sh_parts hs.2
        exact .inr ⟨da, db, asD_ok sm rx ea h1.2, asD_ok sm ry eb h2.2, h1.1, h2.1, k _ H φ (Step.refl _ _ _) sm (Rep.bl _)⟩
      · cases e
    · cases e
def isN : Vl → Bool
  | .d .none => true
  | _ => false
def gIsN : G2 := fun x y h => match y with
  | .d .none => some (.d (.bool (isN x)), h)
  | _ => none
def gNotN : G2 := fun x y h => match y with
  | .d .none => some (.d (.bool (!isN x)), h)
  | _ => none
theorem isN_ok {φ : List Addr} {h : Hh} {H : Hp} {x : V} {v : Vl} (r : VRep K mg φ h H x v) : decide (x = .non) = isN v := by
  cases v with
  | d z =>
    cases r <;> first | rfl | exact decide_eq_false (fun q => nomatch q)
  | r n =>
    obtain ⟨a, _, rfl⟩ := r
    exact decide_eq_false (fun q => nomatch q)
  | x c fs =>
    obtain ⟨a, _, _, rfl, _⟩ := r
    exact decide_eq_false (fun q => nomatch q)
  | f D =>
    obtain ⟨rfl, _⟩ := r
    exact decide_eq_false (fun q => nomatch q)
theorem ok_isN : Ok2 K mg (fun x y H Q => y = .non ∧ Q (.bl (decide (x = .non))) H) gIsN := by
  intro φ h H x y a b Q v h' sm rx ry e k
  unfold gIsN at e
  split at e
  · cases e
    refine ⟨VRep.non ry, ?_⟩
    rw [isN_ok rx]
    exact k _ H φ (Step.refl _ _ _) sm (Rep.bl _)
  · cases e
theorem ok_notN : Ok2 K mg (fun x y H Q => y = .non ∧ Q (.bl (!decide (x = .non))) H) gNotN := by
  intro φ h H x y a b Q v h' sm rx ry e k
  unfold gNotN at e
  split at e
  · cases e
    refine ⟨VRep.non ry, ?_⟩
    rw [isN_ok rx]
    exact k _ H φ (Step.refl _ _ _) sm (Rep.bl _)
  · cases e
/-- is, is not of two truths -/
def gIsB : G2 := fun x y h => match x, y with
  | .d (.bool a), .d (.bool b) => some (.d (.bool (decide (a = b))), h)
  | _, _ => none
def gNotB : G2 := fun x y h => match x, y with
  | .d (.bool a), .d (.bool b) => some (.d (.bool (!decide (a = b))), h)
  | _, _ => none
theorem ok_isB : Ok2 K mg rIsB gIsB := by
  intro φ h H x y a b Q v h' sm rx ry e k
  unfold gIsB at e
  split at e
  · cases e
    exact ⟨_, _, VRep.bl rx, VRep.bl ry, k _ H φ (Step.refl _ _ _) sm (Rep.bl _)⟩
  · cases e
theorem ok_notB : Ok2 K mg rNotB gNotB := by
  intro φ h H x y a b Q v h' sm rx ry e k
  unfold gNotB at e
  split at e
  · cases e
    exact ⟨_, _, VRep.bl rx, VRep.bl ry, k _ H φ (Step.refl _ _ _) sm (Rep.bl _)⟩
  · cases e
/-- in, not in, of a list or a tuple of flat data -/
def flatD : Da → Bool
  | .none => true
  | .bool _ => true
  | .int _ => true
  | .str _ => true
  | _ => false
def eqF : Da → Da → Bool
  | .none, .none => true
  | .bool a, .bool b => a == b
  | .bool a, .int b => (if a then 1 else 0) == b
  | .int a, .bool b => a == (if b then 1 else 0)
  | .int a, .int b => a == b
  | .str a, .str b => a == b
  | _, _ => false
def inF (x : Da) (xs : List Da) : Bool := xs.any fun y => eqF y x
def asQ : Vl → Hh → Option (List Da)
  | .d (.tuple xs), _ => some xs
  | v, h => asL v h
def gIn (neg : Bool) : G2 := fun x y h => match x, asQ y h with
  | .d a, some bs => if flatD a && bs.all flatD then some (.d (.bool (if neg then !inF a bs else inF a bs)), h) else none
  | _, _ => none
theorem flat_ok {H : Hp} {M : Addr → Prop} {x : V} {d : Da} (r : Rep K H M x d) (f : flatD d = true) : flatV x = true := by
  cases r <;> first | rfl | cases f
theorem flats_ok {H : Hp} {M : Addr → Prop} : ∀ {xs : List V} {ds : List Da}, Reps K H M xs ds → ds.all flatD = true → xs.all flatV = true
  | _, _, .nil, _ => rfl
  | _, _, .cons r t, f => by
    rw [List.all_cons, Bool.and_eq_true] at f
    rw [List.all_cons, flat_ok r f.1, flats_ok t f.2]
    rfl
theorem eqF_ok {H H' : Hp} {M M' : Addr → Prop} {x y : V} {d e : Da} (r : Rep K H M x d) (q : Rep K H' M' y e) (f : flatD d = true) (g : flatD e = true) : eqV x y = eqF d e := by
  cases r <;> first | (cases f; done) | (cases q <;> first | rfl | (cases g; done))
theorem inF_ok {H : Hp} {M : Addr → Prop} {x : V} {d : Da} (r : Rep K H M x d) (f : flatD d = true) : ∀ {xs : List V} {ds : List Da}, Reps K H M xs ds → ds.all flatD = true → inV x xs = inF d ds
  | _, _, .nil, _ => rfl
  | _, _, .cons q t, g => by
    rw [List.all_cons, Bool.and_eq_true] at g
    have ih := inF_ok r f t g.2
    unfold inV inF at *
    rw [List.any_cons, List.any_cons, eqF_ok q r g.1 f, ih]
theorem asQ_ok {φ : List Addr} {h : Hh} {H : Hp} {x : V} {v : Vl} {ds : List Da} (s : Sim K φ h H) (r : VRep K mg φ h H x v) (e : asQ v h = some ds) : ∃ a xs, x = .ref a ∧ (SqL K H a xs ∨ SqT K H a xs) ∧ Reps K H (Live φ h) xs ds := by
  unfold asQ at e
  split at e
  · cases e
    obtain ⟨a, xs, rfl, q, z⟩ := VRep.tup r
    exact ⟨a, xs, rfl, .inr q, z⟩
  · obtain ⟨a, xs, rfl, q, z⟩ := asL_ok s r e
    exact ⟨a, xs, rfl, .inl q, z⟩
theorem ok_in (neg : Bool) : Ok2 K mg (rIn K neg) (gIn neg) := by
  intro φ h H x y a b Q v h' sm rx ry e k
  unfold gIn at e
  split at e
  · rename_i da bs eb
    split at e
    · rename_i hf
      rw [Bool.and_eq_true] at hf
      cases e
      obtain ⟨p, xs, rfl, sq, rs⟩ := asQ_ok sm ry eb
      refine ⟨p, xs, rfl, sq, flat_ok rx hf.1, flats_ok rs hf.2, ?_⟩
      rw [inF_ok rx hf.1 rs hf.2]
      exact k _ H φ (Step.refl _ _ _) sm (Rep.bl _)
    · cases e
  · cases e
end
/-! ### and, or, not, if .. else -/
def tvAnd (a b : Tv) : Tv := fun ρ h => (a ρ h).bind fun c h1 => if c then b ρ h1 else .ok false h1
def tvOr (a b : Tv) : Tv := fun ρ h => (a ρ h).bind fun c h1 => if c then .ok true h1 else b ρ h1
def tvNot (a : Tv) : Tv := fun ρ h => (a ρ h).bind fun c h1 => .ok (!c) h1
def eAnd (a b : Ev) : Ev := fun ρ h => (eT a ρ h).bind fun c h1 => if c then b ρ h1 else .ok (.d (.bool false)) h1
def eOr (a b : Ev) : Ev := fun ρ h => (eT a ρ h).bind fun c h1 => if c then .ok (.d (.bool true)) h1 else b ρ h1
def eNot (a : Ev) : Ev := fun ρ h => (eT a ρ h).bind fun c h1 => .ok (.d (.bool (!c))) h1
def eIf (c : Tv) (a b : Ev) : Ev := fun ρ h => (c ρ h).bind fun k h1 => if k then a ρ h1 else b ρ h1
def EW (X : Cx) (W : WX) (e : Expr) (f : Tv) : Prop := PW X e (tT X.K X.mg W f)
section
variable {X : Cx} {W : WX} {a b c : Expr} {fa fb : Ev} {ta tb tc : Tv} {pos : Pos} {rest : List Expr}
theorem EW.et (h : EW X W a ta) : ET X W a ta := PW.pt h
theorem ew_and1 (ha : ET X W a ta) : EW X W (.BoolOp .And [a] pos) ta := pw_and1 ha
theorem ew_or1 (ha : ET X W a ta) : EW X W (.BoolOp .Or [a] pos) ta := pw_or1 ha
theorem PoT.now {K : PySem.W.Frag} {mg : Str → Option Value} {φ : List Addr} {h : Hh} {H : Hp} {v : Bool} {Q : Bool → Hp → Prop} {E : XK} (q : PoT K mg φ h H (.ok v h) Q E) (s : Sim K φ h H) : Q v H := q H φ (Step.refl _ _ _) s
theorem ew_and (ha : ET X W a ta) (hb : EW X W (.BoolOp .And (b :: rest) pos) tb) : EW X W (.BoolOp .And (a :: b :: rest) pos) (tvAnd ta tb) :=
  PW.of (pw_and ha hb) fun σ H Q ⟨φ, h, ρ, sm, er, q⟩ => ⟨φ, h, ρ, sm, er, PoT.goT q fun v h1 H1 φ1 st sm1 q1 => by
    cases v with
    | true => exact iteT ⟨φ1, h1, ρ, sm1, er.step st, q1⟩
    | false => exact iteF (PoT.now q1 sm1)⟩
theorem ew_or (ha : ET X W a ta) (hb : EW X W (.BoolOp .Or (b :: rest) pos) tb) : EW X W (.BoolOp .Or (a :: b :: rest) pos) (tvOr ta tb) :=
  PW.of (pw_or ha hb) fun σ H Q ⟨φ, h, ρ, sm, er, q⟩ => ⟨φ, h, ρ, sm, er, PoT.goT q fun v h1 H1 φ1 st sm1 q1 => by
    cases v with
    | true => exact iteT (PoT.now q1 sm1)
    | false => exact iteF ⟨φ1, h1, ρ, sm1, er.step st, q1⟩⟩
theorem et_not (ha : ET X W a ta) : ET X W (.UnaryOp .Not a pos) (tvNot ta) :=
  PT.of (pt_not ha) fun σ H Q ⟨φ, h, ρ, sm, er, q⟩ => ⟨φ, h, ρ, sm, er, PoT.goT q fun v h1 H1 φ1 st sm1 q1 => PoT.now q1 sm1⟩
theorem ee_ifExp (hc : ET X W c tc) (ha : EE X W a fa) (hb : EE X W b fb) : EE X W (.IfExp c a b pos) (eIf tc fa fb) :=
  PE.of (pe_ifExp hc ha hb) fun σ H Q ⟨φ, h, ρ, sm, er, q⟩ => ⟨φ, h, ρ, sm, er, PoX.goT q fun v h1 H1 φ1 st sm1 q1 => by
    cases v with
    | true => exact iteT ⟨φ1, h1, ρ, sm1, er.step st, q1⟩
    | false => exact iteF ⟨φ1, h1, ρ, sm1, er.step st, q1⟩⟩
theorem ee_one {op : BoolOp} (ha : EE X W a fa) : EE X W (.BoolOp op [a] pos) fa := pe_one ha
theorem PoX.goV {K : PySem.W.Frag} {mg : Str → Option Value} {φ : List Addr} {h : Hh} {H : Hp} {E : XK} {o : Out Vl} {k : Bool → Hh → Out Vl} {Q : VK} {Q1 : VK} (q : PoX K mg φ h H ((o.bind truO).bind k) Q E)
    (hk : ∀ (c : Bool) (h1 : Hh) (H1 : Hp) (φ1 : List Addr), Step φ h H φ1 h1 H1 → Sim K φ1 h1 H1 → PoX K mg φ1 h1 H1 (k c h1) Q E → Q1 (.bl c) H1) : PoX K mg φ h H o Q1 E := by
  cases o with
  | ok v h1 =>
    intro x H1 φ1 st sm1 rv
    have q2 : PoX K mg φ h H ((truO v h1).bind k) Q E := q
    unfold truO at q2
    split at q2
    · rw [VRep.bl rv]
      exact hk _ _ _ φ1 st sm1 (PoX.pull st q2)
    · exact q2.elim
  | ex c fs h1 => exact q
  | no => exact q
theorem ee_and (ha : EE X W a fa) (hb : EE X W (.BoolOp .And (b :: rest) pos) fb) : EE X W (.BoolOp .And (a :: b :: rest) pos) (eAnd fa fb) :=
  PE.of (pe_and ha hb) fun σ H Q ⟨φ, h, ρ, sm, er, q⟩ => ⟨φ, h, ρ, sm, er, PoX.goV q fun v h1 H1 φ1 st sm1 q1 => ⟨v, rfl, by
    cases v with
    | true => exact iteT ⟨φ1, h1, ρ, sm1, er.step st, q1⟩
    | false => exact iteF (PoX.now (v := .d (.bool false)) q1 sm1 (Rep.bl false))⟩⟩
theorem ee_or (ha : EE X W a fa) (hb : EE X W (.BoolOp .Or (b :: rest) pos) fb) : EE X W (.BoolOp .Or (a :: b :: rest) pos) (eOr fa fb) :=
  PE.of (pe_or ha hb) fun σ H Q ⟨φ, h, ρ, sm, er, q⟩ => ⟨φ, h, ρ, sm, er, PoX.goV q fun v h1 H1 φ1 st sm1 q1 => ⟨v, rfl, by
    cases v with
    | true => exact iteT (PoX.now (v := .d (.bool true)) q1 sm1 (Rep.bl true))
    | false => exact iteF ⟨φ1, h1, ρ, sm1, er.step st, q1⟩⟩⟩
theorem ee_not (ha : EE X W a fa) : EE X W (.UnaryOp .Not a pos) (eNot fa) :=
  PE.of (pe_not ha) fun σ H Q ⟨φ, h, ρ, sm, er, q⟩ => ⟨φ, h, ρ, sm, er, PoX.goV q fun v h1 H1 φ1 st sm1 q1 => ⟨v, rfl, PoX.now (v := .d (.bool (!v))) q1 sm1 (Rep.bl (!v))⟩⟩
/-- - n -/
def eNeg (a : Ev) : Ev := fun ρ h => (a ρ h).bind fun x h1 => match x with
  | .d (.int i) => .ok (.d (.int (-i))) h1
  | _ => .no
theorem ee_neg (ha : EE X W a fa) : EE X W (.UnaryOp .USub a pos) (eNeg fa) :=
  PE.of (pe_un un_neg ha) fun σ H Q ⟨φ, h, ρ, sm, er, q⟩ => ⟨φ, h, ρ, sm, er, PoX.goE q fun x v h1 H1 φ1 st sm1 rv q1 => by
    cases v with
    | d z =>
      cases z with
      | int i => exact ⟨i, VRep.int rv, PoX.now (v := .d (.int (-i))) q1 sm1 (Rep.int _)⟩
      | _ => exact q1.elim
    | r n => exact q1.elim
    | x c fs => exact q1.elim
    | f D => exact q1.elim⟩
end
/-! ### argument lists, displays, calls -/
def aNil : Av := fun _ h => .ok [] h
def aCons (a : Ev) (r : Av) : Av := fun ρ h => (a ρ h).bind fun x h1 => (r ρ h1).bind fun xs h2 => .ok (x :: xs) h2
def eTup (as : Av) : Ev := fun ρ h => (as ρ h).bind fun vs h1 => match fzs vs h1 with
  | some (ds, h2) => if fitB ds.length then .ok (.d (.tuple ds)) h2 else .no
  | none => .no
def eLst (as : Av) : Ev := fun ρ h => (as ρ h).bind fun vs h1 => match fzs vs h1 with
  | some (ds, h2) => if fitB ds.length then .ok (.r h2.length) (h2 ++ [some (.lst ds)]) else .no
  | none => .no
def spF (K : PySem.W.Frag) (mg : Str → Option Value) (m : Fn) : Sp := fun vs H Q E => ∃ φ h as, Sim K φ h H ∧ VReps K mg φ h H vs as ∧ PoX K mg φ h H (m as h) Q E
def eCall (m : Fn) (as : Av) : Ev := fun ρ h => (as ρ h).bind m
abbrev GC := List Vl → Hh → Option (Vl × Hh)
def eBlt (g : GC) (as : Av) : Ev := fun ρ h => (as ρ h).bind fun vs h1 => ofO (g vs h1)
def OkC (K : PySem.W.Frag) (mg : Str → Option Value) (r : List V → Hp → VK → Prop) (g : GC) : Prop := ∀ (φ : List Addr) (h : Hh) (H : Hp) (xs : List V) (as : List Vl) (Q : VK) (v : Vl) (h' : Hh), Sim K φ h H → VReps K mg φ h H xs as → g as h = some (v, h') →
  (∀ z H' φ', Step φ h H φ' h' H' → Sim K φ' h' H' → VRep K mg φ' h' H' z v → Q z H') → r xs H Q
section
variable {X : Cx} {W : WX} {e : Expr} {es : List Expr} {fe : Ev} {fs : Av} {pos : Pos}
theorem ea_nil : EA X W [] aNil := PA.of pa_nil fun σ H Q ⟨φ, h, ρ, sm, er, q⟩ => q [] H φ (Step.refl _ _ _) sm .nil
theorem ea_cons (ha : EE X W e fe) (hr : EA X W es fs) (hs : starEach (e :: es) X.env = (false, eval e X.env) :: starEach es X.env := by rfl) : EA X W (e :: es) (aCons fe fs) :=
  PA.of (pa_cons ha hr hs) fun σ H Q ⟨φ, h, ρ, sm, er, q⟩ => ⟨φ, h, ρ, sm, er, PoA.goE q fun x v h1 H1 φ1 st sm1 rv q1 => ⟨φ1, h1, ρ, sm1, er.step st, PoA.goA q1 fun xs vs h2 H2 φ2 st2 sm2 rvs q2 =>
    q2 (x :: xs) H2 φ2 (Step.refl _ _ _) sm2 (.cons (rv.step st2) rvs)⟩⟩
theorem ee_tup {k : Nat} (ha : EA X W es fs) : EE X W (.Tuple es k pos) (eTup fs) :=
  PE.of (pe_tup ha) fun σ H Q ⟨φ, h, ρ, sm, er, q⟩ => ⟨φ, h, ρ, sm, er, PoX.goA q fun xs vs h1 H1 φ1 st sm1 rvs q1 => by
    cases e : fzs vs h1 with
    | none => rw [e] at q1; exact q1.elim
    | some p =>
      obtain ⟨ds, h2⟩ := p
      rw [e] at q1
      dsimp only at q1
      split at q1
      · obtain ⟨s1, s2, s3⟩ := fzs_ok sm1 rvs e
        refine ⟨by rw [s3.length]; exact fitB_le (by assumption), fun p hp => ?_⟩
        obtain ⟨t1, t2, t3⟩ := new_tup s2 s3 hp
        exact q1 _ _ _ (s1.trans t1) t2 t3
      · exact q1.elim⟩
theorem ee_lst (ha : EA X W es fs) : EE X W (.List es pos) (eLst fs) :=
  PE.of (pe_lst ha) fun σ H Q ⟨φ, h, ρ, sm, er, q⟩ => ⟨φ, h, ρ, sm, er, PoX.goA q fun xs vs h1 H1 φ1 st sm1 rvs q1 => by
    cases e : fzs vs h1 with
    | none => rw [e] at q1; exact q1.elim
    | some p =>
      obtain ⟨ds, h2⟩ := p
      rw [e] at q1
      dsimp only at q1
      split at q1
      · obtain ⟨s1, s2, s3⟩ := fzs_ok sm1 rvs e
        refine ⟨by rw [s3.length]; exact fitB_le (by assumption), fun p hp => ?_⟩
        obtain ⟨t1, t2, t3⟩ := new_list s2 s3 hp
        exact q1 _ _ _ (s1.trans t1) t2 t3
      · exact q1.elim⟩
theorem ee_call {k : Nat} {f : Addr} {fd : FuncData} {ps : List Str} {m : Fn} {x : Str} {p : Pos} (F : FnOk X.prog X.w X.K X.mg X.base (L2.CX X.prog X.w) k f fd ps (spF X.K X.mg m)) (hr : Room k X.A) (hg : Gl X x) (hm : X.mg x = some (.ref f)) (hk : PySem.W.keepIn X.K (.ref f) = true) (hb : Binds X.K fd ps []) (tk : Takes X W)
    (ha : EA X W (e :: es) fs) (hdb : (x == ("__debug__" : Str)) = false := by decide) (he : starEach (e :: es) X.env = (false, eval e X.env) :: starEach es X.env := by rfl) (hpl : (backTo pos (starEach es X.env)).any (·.1) = false := by rfl) :
    EE X W (.Call (.Name x p) (e :: es) [] pos) (eCall m fs) := by
  refine PE.of (pe_callS F hr hg hm hk hb (fun σ => passAt tk σ) ha hdb he hpl) fun σ H Q ⟨φ, h, ρ, sm, er, q⟩ => ⟨φ, h, ρ, sm, er, PoX.goA q fun xs vs h1 H1 φ1 st sm1 rvs q1 => ⟨φ1, h1, vs, sm1, rvs, q1⟩⟩
theorem ee_blt {x : Str} {id : String} {p : Pos} {r : List V → Hp → VK → Prop} {g : GC} (hc : CallR X (.builtin id) r) (ok : OkC X.K X.mg r g) (hg : Gl X x) (hm : X.mg x = none) (hv : bootBuiltins x = some (.builtin id)) (ha : EA X W (e :: es) fs) (hn : x ≠ "__name__" := by decide) (hdb : (x == ("__debug__" : Str)) = false := by decide)
    (he : starEach (e :: es) X.env = (false, eval e X.env) :: starEach es X.env := by rfl) (hpl : (backTo pos (starEach es X.env)).any (·.1) = false := by rfl) : EE X W (.Call (.Name x p) (e :: es) [] pos) (eBlt g fs) :=
  PE.of (pe_callB hc hg hm hv ha hn hdb he hpl) fun σ H Q ⟨φ, h, ρ, sm, er, q⟩ => ⟨φ, h, ρ, sm, er, PoX.goA q fun xs vs h1 H1 φ1 st sm1 rvs q1 => by
    obtain ⟨z, h2, e2, k⟩ := PoX.ofO q1
    exact ok φ1 h1 H1 xs vs Q z h2 sm1 rvs e2 k⟩
theorem ee_bltT {x : Str} {T : String} {p : Pos} {r : List V → Hp → VK → Prop} {g : GC} (hc : CallR X (.type T) r) (ok : OkC X.K X.mg r g) (hg : Gl X x) (hm : X.mg x = none) (hv : bootBuiltins x = some (.type T)) (ha : EA X W (e :: es) fs) (hn : x ≠ "__name__" := by decide) (hdb : (x == ("__debug__" : Str)) = false := by decide)
    (he : starEach (e :: es) X.env = (false, eval e X.env) :: starEach es X.env := by rfl) (hpl : (backTo pos (starEach es X.env)).any (·.1) = false := by rfl) : EE X W (.Call (.Name x p) (e :: es) [] pos) (eBlt g fs) :=
  PE.of (pe_callTy hc hg hm hv ha hn hdb he hpl) fun σ H Q ⟨φ, h, ρ, sm, er, q⟩ => ⟨φ, h, ρ, sm, er, PoX.goA q fun xs vs h1 H1 φ1 st sm1 rvs q1 => by
    obtain ⟨z, h2, e2, k⟩ := PoX.ofO q1
    exact ok φ1 h1 H1 xs vs Q z h2 sm1 rvs e2 k⟩
end
end Rk

/-! Rk4: subscripts, slices, built-in functions. -/
namespace Rk
open PySem PySem.Spec L2
variable {mg : Str → Option Value}
section
variable {K : PySem.W.Frag}
theorem Reps.atI {H : Hp} {M : Addr → Prop} {xs : List V} {ds : List Da} {i : Int} {d : Da} (r : Reps K H M xs ds) (e : atI ds i = some d) : ∃ v, L2.atI xs i = some v ∧ Rep K H M v d := by
  unfold L2.atI at *
  rw [r.length]
  cases q : ixN ds.length i with
  | none => rw [q] at e; cases e
  | some j =>
    rw [q] at e
    exact Reps.get r e
def gIx : G2 := fun x y h => match x, y with
  | .d (.tuple xs), .d (.int i) => (atI xs i).map fun d => (.d d, h)
  | .d (.str z), .d (.int i) => if fitB z.length then (atI z.cps.toList i).map fun c => (.d (.str ⟨#[c]⟩), h) else none
  | x, .d (.int i) => match asL x h with
    | some xs => (atI xs i).map fun d => (.d d, h)
    | none => none
  | _, _ => none
theorem ok_ix : Ok2 K mg (rIx K) gIx := by
  intro φ h H x y a b Q v h' sm rx ry e k
  unfold gIx at e
  split at e
  · rename_i xs i
    cases q : atI xs i with
    | none => rw [q] at e; cases e
    | some d =>
      rw [q] at e
      cases e
      obtain ⟨p, zs, rfl, sq, rs⟩ := VRep.tup rx
      obtain ⟨z, e1, rz⟩ := rs.atI q
      exact .inr (.inl ⟨p, zs, i, z, rfl, VRep.int ry, sq, e1, k z H φ (Step.refl _ _ _) sm rz⟩)
  · rename_i z i
    split at e
    · cases q : atI z.cps.toList i with
      | none => rw [q] at e; cases e
      | some c =>
        rw [q] at e
        cases e
        exact .inr (.inr ⟨z, i, c, VRep.str rx, VRep.int ry, fitB_le (by assumption), q, k _ H φ (Step.refl _ _ _) sm (Rep.str _)⟩)
    · cases e
  · rename_i i _ _
    split at e
    · rename_i xs ex
      cases q : atI xs i with
      | none => rw [q] at e; cases e
      | some d =>
        rw [q] at e
        cases e
        obtain ⟨p, zs, rfl, sq, rs⟩ := asL_ok sm rx ex
        obtain ⟨z, e1, rz⟩ := rs.atI q
        exact .inl ⟨p, zs, i, z, rfl, VRep.int ry, sq, e1, k z H φ (Step.refl _ _ _) sm rz⟩
    · cases e
  · cases e
end
section
variable {X : Cx} {W : WX} {a b : Expr} {fa fb : Ev} {pos : Pos}
theorem ee_ix (ha : EE X W a fa) (hb : EE X W b fb) (hs : PlainIx b := by exact fun _ _ => rfl) : EE X W (.Subscript a b pos) (eOp gIx fa fb) :=
  PE.of (pe_ix ix_seq ha hb hs) fun σ H Q hf => tOp_ok ok_ix hf
end
/-! ### slices -/
def cutD {α : Type} (xs : List α) (lo hi : Option Int) : List α := (xs.drop (HT.sIx xs.length 0 lo)).take (HT.sIx xs.length xs.length hi - HT.sIx xs.length 0 lo)
abbrev Ov := En → Hh → Out (Option Int)
def oNone : Ov := fun _ h => .ok none h
def oInt : Vl → Hh → Out (Option Int)
  | .d (.int i), h => .ok (some i) h
  | _, _ => .no
def oSome (f : Ev) : Ov := fun ρ h => (f ρ h).bind oInt
def gSl (x : Vl) (lo hi : Option Int) (h : Hh) : Option (Vl × Hh) := match x with
  | .d (.tuple xs) => some (.d (.tuple (cutD xs lo hi)), h)
  | .d (.str z) => if fitB z.length then some (.d (.str (cutS z lo hi)), h) else none
  | x => match asL x h with
    | some xs => some (.r h.length, h ++ [some (.lst (cutD xs lo hi))])
    | none => none
def eSl (f : Ev) (lo hi : Ov) : Ev := fun ρ h => (f ρ h).bind fun x h1 => (lo ρ h1).bind fun l h2 => (hi ρ h2).bind fun u h3 => ofO (gSl x l u h3)
def PoO (K : PySem.W.Frag) (mg : Str → Option Value) (φ : List Addr) (h : Hh) (H : Hp) (o : Out (Option Int)) (Q : Option Int → Hp → Prop) (E : XK) : Prop := match o with
  | .ok v h' => ∀ H' φ', Step φ h H φ' h' H' → Sim K φ' h' H' → Q v H'
  | .ex c fs h' => ∀ cls dd H' φ', Step φ h H φ' h' H' → Sim K φ' h' H' → XRep K mg H' (Live φ' h') c fs cls dd → E cls dd H'
  | .no => False
def tO (K : PySem.W.Frag) (mg : Str → Option Value) (W : WX) (f : Ov) : TO := fun σ H Q => ∃ φ h ρ, Sim K φ h H ∧ ERep K mg φ h H σ ρ ∧ PoO K mg φ h H (f ρ h) Q (WE W σ)
def EO (X : Cx) (W : WX) (e : Option Expr) (f : Ov) : Prop := PO X e (tO X.K X.mg W f)
theorem PO.of {X : Cx} {e : Option Expr} {t t' : TO} (h : PO X e t) (i : ∀ σ H Q, t' σ H Q → t σ H Q) : PO X e t' := ⟨fun pins s σ H Q I w => h.run pins s σ H Q I (i σ H Q w)⟩
section
variable {K : PySem.W.Frag} {mg : Str → Option Value} {φ : List Addr} {h : Hh} {H : Hp} {E : XK}
theorem PoX.goO {o : Out (Option Int)} {k : Option Int → Hh → Out Vl} {Q : VK} {Q1 : Option Int → Hp → Prop} (q : PoX K mg φ h H (o.bind k) Q E)
    (hk : ∀ (v : Option Int) (h1 : Hh) (H1 : Hp) (φ1 : List Addr), Step φ h H φ1 h1 H1 → Sim K φ1 h1 H1 → PoX K mg φ1 h1 H1 (k v h1) Q E → Q1 v H1) : PoO K mg φ h H o Q1 E := by
  cases o with
  | ok v h1 => exact fun H' φ' st sm' => hk v h1 H' φ' st sm' (PoX.pull st q)
  | ex c fs h1 => exact q
  | no => exact q
theorem PoO.goE {o : Out Vl} {Q : Option Int → Hp → Prop} {Q1 : VK} (q : PoO K mg φ h H (o.bind oInt) Q E)
    (hk : ∀ (i : Int) (H1 : Hp), Q (some i) H1 → Q1 (.int i) H1) : PoX K mg φ h H o Q1 E := by
  cases o with
  | ok v h1 =>
    intro x H' φ' st sm' rv
    have q2 : PoO K mg φ h H (oInt v h1) Q E := q
    unfold oInt at q2
    split at q2
    · rw [VRep.int rv]
      exact hk _ _ (q2 H' φ' st sm')
    · exact q2.elim
  | ex c fs h1 => exact q
  | no => exact q
theorem Reps.cut {H : Hp} {M : Addr → Prop} {xs : List V} {ds : List Da} (lo hi : Option Int) (r : Reps K H M xs ds) : Reps K H M (cutV xs lo hi) (cutD ds lo hi) := by
  unfold cutV cutD
  rw [r.length]
  exact (r.drop _).take _
def rSlAll (K : PySem.W.Frag) : V → Option Int → Option Int → Hp → VK → Prop := fun x lo hi H Q => rSlA K x lo hi H Q ∨ rSlS x lo hi H Q ∨ rSlL K x lo hi H Q
theorem sl_all {X : Cx} : SlR X (rSlAll X.K) := sl_tupA.or (sl_str.or sl_list)
theorem cutD_all {α : Type} {xs : List α} {lo hi : Option Int} (h : HT.sIx xs.length 0 lo = 0 ∧ HT.sIx xs.length xs.length hi = xs.length) : cutD xs lo hi = xs := by
  unfold cutD
  rw [h.1, h.2]
  simp
theorem gSl_ok {x : V} {v : Vl} {lo hi : Option Int} {Q : VK} {w : Vl} {h' : Hh} (sm : Sim K φ h H) (rx : VRep K mg φ h H x v) (e : gSl v lo hi h = some (w, h'))
    (k : ∀ z H' φ', Step φ h H φ' h' H' → Sim K φ' h' H' → VRep K mg φ' h' H' z w → Q z H') : rSlAll K x lo hi H Q := by
  unfold gSl at e
  split at e
  · cases e
    obtain ⟨p, zs, rfl, sq, rs⟩ := VRep.tup rx
    refine .inl ⟨p, zs, rfl, sq, fun hw => ?_, fun _ q hq => ?_⟩
    · rw [rs.length] at hw
      rw [cutD_all hw] at k
      exact k _ H φ (Step.refl _ _ _) sm rx
    · obtain ⟨s1, s2, s3⟩ := new_tup sm (rs.cut lo hi) hq
      exact k _ _ _ s1 s2 s3
  · split at e
    · cases e
      exact .inr (.inl ⟨_, VRep.str rx, fitB_le (by assumption), k _ H φ (Step.refl _ _ _) sm (Rep.str _)⟩)
    · cases e
  · split at e
    · rename_i xs ex
      cases e
      obtain ⟨p, zs, rfl, sq, rs⟩ := asL_ok sm rx ex
      refine .inr (.inr ⟨p, zs, rfl, sq, fun q hq => ?_⟩)
      obtain ⟨s1, s2, s3⟩ := new_list sm (rs.cut lo hi) hq
      exact k _ _ _ s1 s2 s3
    · cases e
end
section
variable {X : Cx} {W : WX} {a : Expr} {fa : Ev} {pos p2 : Pos} {lo hi : Option Expr} {fl fh : Ov}
theorem eo_none : EO X W none oNone := PO.of po_none fun σ H Q ⟨φ, h, ρ, sm, er, q⟩ => q H φ (Step.refl _ _ _) sm
theorem eo_some (ha : EE X W a fa) : EO X W (some a) (oSome fa) := PO.of (po_some ha) fun σ H Q ⟨φ, h, ρ, sm, er, q⟩ => ⟨φ, h, ρ, sm, er, PoO.goE q fun i H1 z => ⟨i, rfl, z⟩⟩
theorem ee_slice (ha : EE X W a fa) (hl : EO X W lo fl) (hh : EO X W hi fh) : EE X W (.Subscript a (.Slice lo hi none p2) pos) (eSl fa fl fh) :=
  PE.of (pe_slice sl_all ha hl hh) fun σ H Q ⟨φ, h, ρ, sm, er, q⟩ => ⟨φ, h, ρ, sm, er, PoX.goE q fun x v h1 H1 φ1 st sm1 rv q1 => ⟨φ1, h1, ρ, sm1, er.step st, PoX.goO q1 fun l h2 H2 φ2 st2 sm2 q2 =>
    ⟨φ2, h2, ρ, sm2, (er.step st).step st2, PoX.goO q2 fun u h3 H3 φ3 st3 sm3 q3 => by
      obtain ⟨z, h4, e4, k4⟩ := PoX.ofO q3
      exact gSl_ok sm3 (rv.step (st2.trans st3)) e4 k4⟩⟩⟩
end
/-! ### built-in functions -/
section
variable {K : PySem.W.Frag}
def gLen : GC := fun as h => match as with
  | [.d (.tuple xs)] => some (.d (.int xs.length), h)
  | [.d (.str z)] => if fitB z.length then some (.d (.int z.length), h) else none
  | [x] => match asL x h with
    | some xs => some (.d (.int xs.length), h)
    | none => none
  | _ => none
theorem VReps.one {φ : List Addr} {h : Hh} {H : Hp} {xs : List V} {v : Vl} (r : VReps K mg φ h H xs [v]) : ∃ x, xs = [x] ∧ VRep K mg φ h H x v := by
  cases r with
  | cons r t =>
    cases t
    exact ⟨_, rfl, r⟩
theorem VReps.two {φ : List Addr} {h : Hh} {H : Hp} {xs : List V} {v w : Vl} (r : VReps K mg φ h H xs [v, w]) : ∃ x y, xs = [x, y] ∧ VRep K mg φ h H x v ∧ VRep K mg φ h H y w := by
  cases r with
  | cons r t =>
    obtain ⟨y, e, q⟩ := VReps.one t
    subst e
    exact ⟨_, _, rfl, r, q⟩
theorem ok_len : OkC K mg (fun xs H Q => ∃ x n, xs = [x] ∧ LenV K x H n ∧ Q (.int n) H) gLen := by
  intro φ h H xs as Q v h' sm rs e k
  unfold gLen at e
  split at e
  · cases e
    obtain ⟨x, rfl, r⟩ := rs.one
    obtain ⟨p, zs, rfl, sq, rr⟩ := VRep.tup r
    refine ⟨_, zs.length, rfl, .inr ⟨zs, sq, rfl⟩, ?_⟩
    rw [rr.length]
    exact k _ H φ (Step.refl _ _ _) sm (Rep.int _)
  · split at e
    · cases e
      obtain ⟨x, rfl, r⟩ := rs.one
      rw [VRep.str r]
      exact ⟨_, _, rfl, ⟨fitB_le (by assumption), rfl⟩, k _ H φ (Step.refl _ _ _) sm (Rep.int _)⟩
    · cases e
  · split at e
    · rename_i ys ey
      cases e
      obtain ⟨x, rfl, r⟩ := rs.one
      obtain ⟨p, zs, rfl, sq, rr⟩ := asL_ok sm r ey
      refine ⟨_, zs.length, rfl, .inl ⟨zs, sq, rfl⟩, ?_⟩
      rw [rr.length]
      exact k _ H φ (Step.refl _ _ _) sm (Rep.int _)
    · cases e
  · cases e
def gAbs : GC := fun as h => match as with
  | [.d (.int i)] => some (.d (.int (if i < 0 then -i else i)), h)
  | _ => none
theorem ok_abs : OkC K mg (fun xs H Q => ∃ i, xs = [.int i] ∧ Q (.int (if i < 0 then -i else i)) H) gAbs := by
  intro φ h H xs as Q v h' sm rs e k
  unfold gAbs at e
  split at e
  · cases e
    obtain ⟨x, rfl, r⟩ := rs.one
    rw [VRep.int r]
    exact ⟨_, rfl, k _ H φ (Step.refl _ _ _) sm (Rep.int _)⟩
  · cases e
def gMax : GC := fun as h => match as with
  | [.d (.int i), .d (.int j)] => some (.d (.int (if j > i then j else i)), h)
  | _ => none
theorem ok_max : OkC K mg (fun xs H Q => ∃ i j, xs = [.int i, .int j] ∧ Q (.int (if j > i then j else i)) H) gMax := by
  intro φ h H xs as Q v h' sm rs e k
  unfold gMax at e
  split at e
  · cases e
    obtain ⟨x, y, rfl, r, r2⟩ := rs.two
    rw [VRep.int r, VRep.int r2]
    exact ⟨_, _, rfl, k _ H φ (Step.refl _ _ _) sm (Rep.int _)⟩
  · cases e
def gMin : GC := fun as h => match as with
  | [.d (.int i), .d (.int j)] => some (.d (.int (if j < i then j else i)), h)
  | _ => none
theorem ok_min : OkC K mg (fun xs H Q => ∃ i j, xs = [.int i, .int j] ∧ Q (.int (if j < i then j else i)) H) gMin := by
  intro φ h H xs as Q v h' sm rs e k
  unfold gMin at e
  split at e
  · cases e
    obtain ⟨x, y, rfl, r, r2⟩ := rs.two
    rw [VRep.int r, VRep.int r2]
    exact ⟨_, _, rfl, k _ H φ (Step.refl _ _ _) sm (Rep.int _)⟩
  · cases e
def gInt1 : GC := fun as h => match as with
  | [.d (.int i)] => some (.d (.int i), h)
  | [.d (.bool b)] => some (.d (.int (if b then 1 else 0)), h)
  | _ => none
theorem ok_int1 : OkC K mg (fun xs H Q => (∃ i, xs = [.int i] ∧ Q (.int i) H) ∨ ∃ k, xs = [.bl k] ∧ Q (.int (if k then 1 else 0)) H) gInt1 := by
  intro φ h H xs as Q v h' sm rs e k
  unfold gInt1 at e
  split at e
  · cases e
    obtain ⟨x, rfl, r⟩ := rs.one
    rw [VRep.int r]
    exact .inl ⟨_, rfl, k _ H φ (Step.refl _ _ _) sm (Rep.int _)⟩
  · cases e
    obtain ⟨x, rfl, r⟩ := rs.one
    rw [VRep.bl r]
    exact .inr ⟨_, rfl, k _ H φ (Step.refl _ _ _) sm (Rep.int _)⟩
  · cases e
/-- list(x), tuple(x) -/
def gList : GC := fun as h => match as with
  | [x] => match asQ x h with
    | some xs => some (.r h.length, h ++ [some (.lst xs)])
    | none => none
  | _ => none
def gTuple : GC := fun as h => match as with
  | [x] => match asQ x h with
    | some xs => some (.d (.tuple xs), h)
    | none => none
  | _ => none
theorem ok_list : OkC K mg (fun xs H Q => ∃ p ys, xs = [.ref p] ∧ (SqL K H p ys ∨ SqT K H p ys) ∧ ∀ l, H l = none → Q (.ref l) (upd H l (.lst ys))) gList := by
  intro φ h H xs as Q v h' sm rs e k
  unfold gList at e
  split at e
  · split at e
    · rename_i ys ey
      cases e
      obtain ⟨x, rfl, r⟩ := rs.one
      obtain ⟨p, zs, rfl, sq, rr⟩ := asQ_ok sm r ey
      refine ⟨p, zs, rfl, sq, fun l hl => ?_⟩
      obtain ⟨s1, s2, s3⟩ := new_list sm rr hl
      exact k _ _ _ s1 s2 s3
    · cases e
  · cases e
theorem ok_tuple : OkC K mg (fun xs H Q => ∃ p ys, xs = [.ref p] ∧ ((SqL K H p ys ∧ ∀ l, H l = none → Q (.ref l) (upd H l (.tup ys))) ∨ (SqT K H p ys ∧ Q (.ref p) H))) gTuple := by
  intro φ h H xs as Q v h' sm rs e k
  unfold gTuple at e
  split at e
  · split at e
    · rename_i w ys ey
      cases e
      obtain ⟨x, rfl, r⟩ := rs.one
      unfold asQ at ey
      split at ey
      · cases ey
        obtain ⟨p, zs, rfl, sq, rr⟩ := VRep.tup r
        exact ⟨p, zs, rfl, .inr ⟨sq, k _ H φ (Step.refl _ _ _) sm r⟩⟩
      · obtain ⟨p, zs, rfl, sq, rr⟩ := asL_ok sm r ey
        refine ⟨p, zs, rfl, .inl ⟨sq, fun l hl => ?_⟩⟩
        obtain ⟨s1, s2, s3⟩ := new_tup sm rr hl
        exact k _ _ _ s1 s2 s3
    · cases e
  · cases e
/-! ### isinstance with a built-in class -/
inductive Ty where
  | int | bool | str | tuple | list | dict
def Ty.name : Ty → String
  | .int => "int" | .bool => "bool" | .str => "str" | .tuple => "tuple" | .list => "list" | .dict => "dict"
def isTyD : Ty → Da → Option Bool
  | .int, .int _ => some true
  | .int, .bool _ => some true
  | .bool, .bool _ => some true
  | .str, .str _ => some true
  | .tuple, .tuple _ => some true
  | .list, .list _ => some true
  | .dict, .dict [] => some true
  | _, .dict [] => some false
  | _, .dict _ => none
  | _, _ => some false
def isTy (T : Ty) (v : Vl) (h : Hh) : Option Bool := match v with
  | .d x => isTyD T x
  | .r n => match h[n]? with
    | some (some (.lst xs)) => isTyD T (.list xs)
    | some (some (.dct _)) => some (match T with | .dict => true | _ => false)
    | _ => none
  | .x _ _ => none
  | .f _ => none
def eIsi (T : Ty) (a : Ev) : Ev := fun ρ h => (a ρ h).bind fun v h1 => match isTy T v h1 with
  | some b => .ok (.d (.bool b)) h1
  | none => .no
theorem kt_nn (T : Ty) : kitB "NoneType" T.name = some false := by cases T <;> decide +kernel
theorem kt_bl (T : Ty) : kitB "bool" T.name = some (match T with | .int => true | .bool => true | _ => false) := by cases T <;> decide +kernel
theorem kt_int (T : Ty) : kitB "int" T.name = some (match T with | .int => true | _ => false) := by cases T <;> decide +kernel
theorem kt_str (T : Ty) : kitB "str" T.name = some (match T with | .str => true | _ => false) := by cases T <;> decide +kernel
theorem kt_tup (T : Ty) : kitB "tuple" T.name = some (match T with | .tuple => true | _ => false) := by cases T <;> decide +kernel
theorem kt_lst (T : Ty) : kitB "list" T.name = some (match T with | .list => true | _ => false) := by cases T <;> decide +kernel
theorem kt_dct (T : Ty) : kitB "dict" T.name = some (match T with | .dict => true | _ => false) := by cases T <;> decide +kernel
theorem isTyD_ok {H : Hp} {M : Addr → Prop} {x : V} {d : Da} {T : Ty} {b : Bool} (r : Rep K H M x d) (e : isTyD T d = some b) : ∃ t, TyX K H x (.type t) ∧ kitB t T.name = some b := by
  cases r with
  | non => exact ⟨_, .base .non, by rw [kt_nn]; cases T <;> cases e <;> rfl⟩
  | bl c => exact ⟨_, .base (.bl c), by rw [kt_bl]; cases T <;> cases e <;> rfl⟩
  | int c => exact ⟨_, .base (.int c), by rw [kt_int]; cases T <;> cases e <;> rfl⟩
  | str c => exact ⟨_, .base (.str c), by rw [kt_str]; cases T <;> cases e <;> rfl⟩
  | tup h n r =>
    rcases h with h | ⟨o, h⟩
    · exact ⟨_, .base (.tup h), by rw [kt_tup]; cases T <;> cases e <;> rfl⟩
    · exact ⟨_, .fTuple h, by rw [kt_tup]; cases T <;> cases e <;> rfl⟩
  | tupK h r =>
    obtain ⟨o, its, n, h1, h2, _⟩ := h
    exact ⟨_, .kTuple h1 h2, by rw [kt_tup]; cases T <;> cases e <;> rfl⟩
  | lst h n r =>
    rcases h with h | ⟨o, h⟩
    · exact ⟨_, .base (.lst h), by rw [kt_lst]; cases T <;> cases e <;> rfl⟩
    · exact ⟨_, .base (.frz h), by rw [kt_lst]; cases T <;> cases e <;> rfl⟩
  | lstK h r =>
    obtain ⟨o, its, n, h1, h2, _⟩ := h
    exact ⟨_, .kList h1 h2, by rw [kt_lst]; cases T <;> cases e <;> rfl⟩
  | dct0 h n =>
    exact ⟨_, .base (.dT h), by rw [kt_dct]; cases T <;> cases e <;> rfl⟩
theorem isTy_ok {φ : List Addr} {h : Hh} {H : Hp} {x : V} {v : Vl} {T : Ty} {b : Bool} (sm : Sim K φ h H) (r : VRep K mg φ h H x v) (e : isTy T v h = some b) : ∃ t, TyX K H x (.type t) ∧ kitB t T.name = some b := by
  cases v with
  | d d => exact isTyD_ok (show Rep K H (Live φ h) x d from r) e
  | r n =>
    obtain ⟨a, ea, rfl⟩ := r
    unfold isTy at e
    dsimp only at e
    split at e
    · rename_i xs ex
      obtain ⟨zs, e2, q⟩ := sm.at_ ex ea
      exact ⟨_, .base (.lst e2), by rw [kt_lst]; cases T <;> cases e <;> rfl⟩
    · rename_i kvs ex
      obtain ⟨zs, e2, q⟩ := sm.at_ ex ea
      exact ⟨_, .base (.dK e2), by rw [kt_dct]; cases T <;> cases e <;> rfl⟩
    · cases e
  | x c fs =>
    unfold isTy at e
    cases e
  | f D =>
    unfold isTy at e
    cases e
end
section
variable {X : Cx} {W : WX} {a : Expr} {fa : Ev} {pos p q : Pos}
theorem ee_isi {x : Str} (T : Ty) (hg : Gl X "isinstance") (hm : X.mg "isinstance" = none) (hg2 : Gl X x) (hm2 : X.mg x = none) (hv2 : bootBuiltins x = some (.type T.name)) (hn2 : x ≠ "__name__" := by decide) (hd2 : (x == ("__debug__" : Str)) = false := by decide)
    (ha : EE X W a fa) (he : starEach [a, .Name x q] X.env = (false, eval a X.env) :: starEach [.Name x q] X.env := by rfl) (he2 : starEach [.Name x q] X.env = (false, eval (.Name x q) X.env) :: starEach [] X.env := by rfl) (hpl : (backTo pos (starEach [.Name x q] X.env)).any (·.1) = false := by rfl) :
    EE X W (.Call (.Name "isinstance" p) [a, .Name x q] [] pos) (eIsi T fa) :=
  PE.of (pe_callB call_isi hg hm PyProof.Rows.boot_isinstance (pa_cons ha (pa_cons (pe_bltn (v := .ty T.name) hg2 hm2 hv2 rfl hn2 hd2) pa_nil he2) he) (by decide) (by decide) he hpl) fun σ H Q ⟨φ, h, ρ, sm, er, qq⟩ => ⟨φ, h, ρ, sm, er, PoX.goE qq fun x v h1 H1 φ1 st sm1 rv q1 => by
    cases e : isTy T v h1 with
    | none => rw [e] at q1; exact q1.elim
    | some b =>
      rw [e] at q1
      obtain ⟨t, ty, kt⟩ := isTy_ok sm1 rv e
      exact ⟨x, .ty T.name, .type t, .type T.name, b, rfl, .ty _, ty, kit_ty kt, PoX.now (v := .d (.bool b)) q1 sm1 (Rep.bl b)⟩⟩
end
end Rk

/-! Rk5: targets, statements, loops, a def. -/
namespace Rk
open PySem PySem.Spec L2
variable {mg : Str → Option Value}
/-! ### targets -/
abbrev Gv := Vl → En → Hh → Option (En × Hh)
abbrev Gs := List Vl → En → Hh → Option (En × Hh)
def tG (K : PySem.W.Frag) (mg : Str → Option Value) (g : Gv) : TG := fun x σ H Q => ∃ φ h ρ v ρ' h', Sim K φ h H ∧ ERep K mg φ h H σ ρ ∧ VRep K mg φ h H x v ∧ g v ρ h = some (ρ', h') ∧ ∀ σ' H' φ', Step φ h H φ' h' H' → Sim K φ' h' H' → ERep K mg φ' h' H' σ' ρ' → Q σ' H'
def tGs (K : PySem.W.Frag) (mg : Str → Option Value) (g : Gs) : TGs := fun xs σ H Q => ∃ φ h ρ vs ρ' h', Sim K φ h H ∧ ERep K mg φ h H σ ρ ∧ VReps K mg φ h H xs vs ∧ g vs ρ h = some (ρ', h') ∧ ∀ σ' H' φ', Step φ h H φ' h' H' → Sim K φ' h' H' → ERep K mg φ' h' H' σ' ρ' → Q σ' H'
def EG (X : Cx) (tg : Expr) (g : Gv) : Prop := PG X tg (tG X.K X.mg g)
def EGs (X : Cx) (tg : List Expr) (g : Gs) : Prop := PGs X tg (tGs X.K X.mg g)
theorem PG.of {X : Cx} {e : Expr} {t t' : TG} (h : PG X e t) (i : ∀ x σ H Q, t' x σ H Q → t x σ H Q) : PG X e t' := ⟨fun pins s σ H v u Q I r w => h.run pins s σ H v u Q I r (i v σ H Q w)⟩
theorem PGs.of {X : Cx} {e : List Expr} {t t' : TGs} (h : PGs X e t) (i : ∀ x σ H Q, t' x σ H Q → t x σ H Q) : PGs X e t' := ⟨fun pins s σ H v u Q I r w => h.run pins s σ H v u Q I r (i v σ H Q w)⟩
def gN (i : Nat) : Gv := fun v ρ h => some (ρ.set i (some v), h)
def gsNil : Gs := fun vs ρ h => match vs with
  | [] => some (ρ, h)
  | _ => none
def gsCons (g : Gv) (r : Gs) : Gs := fun vs ρ h => match vs with
  | v :: t => (g v ρ h).bind fun p => r t p.1 p.2
  | [] => none
/-- a tuple, or a list, of n -/
def gTupT (n : Nat) (g : Gs) : Gv := fun v ρ h => match v with
  | .d (.tuple ds) => if ds.length = n then g (ds.map Vl.d) ρ h else none
  | _ => none
theorem Reps.vreps {K : PySem.W.Frag} {φ : List Addr} {h : Hh} {H : Hp} : ∀ {xs : List V} {ds : List Da}, Reps K H (Live φ h) xs ds → VReps K mg φ h H xs (ds.map Vl.d)
  | _, _, .nil => .nil
  | _, _, .cons r t => .cons r (Reps.vreps t)
section
variable {X : Cx} {pos : Pos}
theorem eg_name {i : Nat} {x : Str} (hN : X.N.Nodup) (hi : X.N[i]? = some x := by rfl) (hx : Loc X.env.scope x := by first | exact .inl rfl | exact .inr rfl) (hf : X.fn x = true ∨ X.env.scope.names.lookup x = some .local := by first | exact .inl rfl | exact .inr rfl | assumption) : EG X (.Name x pos) (gN i) :=
  PG.of (pg_name (i := i) hN hi hx hf) fun x σ H Q ⟨φ, h, ρ, v, ρ', h', sm, er, rv, e, k⟩ => by
    cases e
    exact k _ H φ (Step.refl _ _ _) sm (er.set rv)
theorem egs_nil : EGs X [] gsNil := PGs.of pgs_nil fun xs σ H Q ⟨φ, h, ρ, vs, ρ', h', sm, er, rv, e, k⟩ => by
  cases rv with
  | nil =>
    cases e
    exact ⟨rfl, k _ H φ (Step.refl _ _ _) sm er⟩
  | cons _ _ => cases e
theorem egs_cons {e : Expr} {es : List Expr} {g : Gv} {gs : Gs} (h1 : EG X e g) (h2 : EGs X es gs)
    (hs : (assignEach (e :: es) X.env).map (·.2) = assign e X.env :: (assignEach es X.env).map (·.2) := by rfl) : EGs X (e :: es) (gsCons g gs) :=
  PGs.of (pgs_cons h1 h2 hs) fun xs σ H Q ⟨φ, h, ρ, vs, ρ', h', sm, er, rv, e, k⟩ => by
    cases rv with
    | nil => cases e
    | @cons x xs v vs r t =>
      have e' : ((g v ρ h).bind fun p => gs vs p.1 p.2) = some (ρ', h') := e
      cases q : g v ρ h with
      | none => rw [q] at e'; cases e'
      | some p =>
        obtain ⟨ρ1, h1⟩ := p
        rw [q] at e'
        exact ⟨x, xs, rfl, φ, h, ρ, v, ρ1, h1, sm, er, r, q, fun σ1 H1 φ1 st sm1 er1 => ⟨φ1, h1, ρ1, vs, ρ', h', sm1, er1, t.step st, e', fun σ2 H2 φ2 st2 => k σ2 H2 φ2 (st.trans st2)⟩⟩
theorem eg_tup {es : List Expr} {k n : Nat} {gs : Gs} (hc : X.calm = true) (h : EGs X es gs) (hn : (assignEach es X.env).length = n := by rfl) (hst : (assignEach es X.env).findIdx? (·.1) = none := by rfl) : EG X (.Tuple es k pos) (gTupT n gs) :=
  PG.of (pg_tup hc h hn hst) fun x σ H Q ⟨φ, h, ρ, v, ρ', h', sm, er, rv, e, k⟩ => by
    unfold gTupT at e
    split at e
    · rename_i ds
      split at e
      · obtain ⟨a, xs, rfl, sq, rs⟩ := VRep.tup rv
        exact ⟨a, xs, rfl, sq, by rw [rs.length]; assumption, φ, h, ρ, _, ρ', h', sm, er, rs.vreps, e, k⟩
      · cases e
    · cases e
end
/-! ### statements -/
def ofG : Option (En × Hh) → So
  | some p => .nx p.1 p.2
  | none => .no
def sAsg (g : Gv) (f : Ev) : Sv := fun ρ h => Out.then ρ (f ρ h) fun v h1 => ofG (g v ρ h1)
def sSet (i : Nat) (f : Ev) : Sv := fun ρ h => Out.then ρ (f ρ h) fun v h1 => .nx (ρ.set i (some v)) h1
def sRet (f : Ev) : Sv := fun ρ h => Out.then ρ (f ρ h) fun v h1 => .rt v h1
def sRetN : Sv := fun _ h => .rt (.d .none) h
def sExpr (f : Ev) : Sv := fun ρ h => Out.then ρ (f ρ h) fun _ h1 => .nx ρ h1
def sIf (c : Tv) (a b : Sv) : Sv := fun ρ h => Out.then ρ (c ρ h) fun k h1 => if k then a ρ h1 else b ρ h1
def So.then : So → Sv → So
  | .nx ρ h, f => f ρ h
  | r, _ => r
def sSeq (a b : Sv) : Sv := fun ρ h => (a ρ h).then b
def sNil : Sv := fun ρ h => .nx ρ h
def sBrk : Sv := fun ρ h => .bk ρ h
def sCont : Sv := fun ρ h => .ct ρ h
def sPar (i j : Nat) (as : Av) : Sv := fun ρ h => Out.then ρ (as ρ h) fun vs h1 => match vs with
  | [v, w] => .nx ((ρ.set i (some v)).set j (some w)) h1
  | _ => .no
section
variable {X : Cx} {W : WX} {e : Expr} {fe : Ev} {pos : Pos}
theorem PoS.nxNow {K : PySem.W.Frag} {mg : Str → Option Value} {φ : List Addr} {h : Hh} {H : Hp} {ρ : En} {σ : L2.St} {D : Ends} {W : WX} (q : PoS K mg φ h H (.nx ρ h) D W) (sm : Sim K φ h H) (er : ERep K mg φ h H σ ρ) : D.nx σ H := q σ H φ (Step.refl _ _ _) sm er
theorem es_asg {tg : Expr} {g : Gv} (he : EE X W e fe) (hg : EG X tg g) (hs : swapsWithSole [tg] e pos.line X.env = pure false := by rfl) (hw : swappedStores [tg] e X.env = pure none := by rfl)
    (h1 : (assignEach [tg] X.env).map (·.2) = [assign tg X.env] := by rfl) : ES X W (.Assign [tg] e pos) (sAsg g fe) :=
  PS.of (ps_asg he hg hs hw h1) fun D σ H ⟨φ, h, ρ, sm, er, q⟩ => ⟨φ, h, ρ, sm, er, PoS.goE er q fun x v h1 H1 φ1 st sm1 er1 rv q1 => by
    cases e : g v ρ h1 with
    | none => rw [e] at q1; exact q1.elim
    | some p =>
      rw [e] at q1
      exact ⟨φ1, h1, ρ, v, p.1, p.2, sm1, er1, rv, e, q1⟩⟩
theorem es_set {i : Nat} {x : Str} {pos' : Pos} (hN : X.N.Nodup) (he : EE X W e fe) (hi : X.N[i]? = some x := by rfl) (hx : Loc X.env.scope x := by first | exact .inl rfl | exact .inr rfl) (hs : swapsWith e (some (.Name x pos')) pos.line X.env = pure false := by rfl) (hf : X.fn x = true ∨ X.env.scope.names.lookup x = some .local := by first | exact .inl rfl | exact .inr rfl | assumption) :
    ES X W (.Assign [.Name x pos'] e pos) (sSet i fe) :=
  PS.of (ps_set hN hi hx he hs hf) fun D σ H ⟨φ, h, ρ, sm, er, q⟩ => ⟨φ, h, ρ, sm, er, PoS.goE er q fun x v h1 H1 φ1 st sm1 er1 rv q1 => PoS.nxNow q1 sm1 (er1.set rv)⟩
theorem es_ret (he : EE X W e fe) : ES X W (.Return (some e) pos) (sRet fe) :=
  PS.of (ps_ret he) fun D σ H ⟨φ, h, ρ, sm, er, q⟩ => ⟨φ, h, ρ, sm, er, PoS.goE er q fun x v h1 H1 φ1 st sm1 er1 rv q1 => q1 x H1 φ1 (Step.refl _ _ _) sm1 rv⟩
theorem es_retN : ES X W (.Return none pos) sRetN := PS.of ps_retN fun D σ H ⟨φ, h, ρ, sm, er, q⟩ => q .non H φ (Step.refl _ _ _) sm Rep.non
theorem es_expr (he : EE X W e fe) (hs : swapsWith e none pos.line X.env = pure false := by rfl) : ES X W (.Expr e pos) (sExpr fe) :=
  PS.of (ps_expr he hs) fun D σ H ⟨φ, h, ρ, sm, er, q⟩ => ⟨φ, h, ρ, sm, er, PoS.goE er q fun x v h1 H1 φ1 st sm1 er1 rv q1 => PoS.nxNow q1 sm1 er1⟩
theorem es_if {c : Expr} {a b : List Stmt} {tc : Tv} {fa fb : Sv} (hc : ET X W c tc) (ha : ESs X W a fa) (hb : ESs X W b fb) : ES X W (.If c a b pos) (sIf tc fa fb) :=
  PS.of (ps_if hc ha hb) fun D σ H ⟨φ, h, ρ, sm, er, q⟩ => ⟨φ, h, ρ, sm, er, PoS.goT er q fun v h1 H1 φ1 st sm1 er1 q1 => by
    cases v with
    | true => exact iteT ⟨φ1, h1, ρ, sm1, er1, q1⟩
    | false => exact iteF ⟨φ1, h1, ρ, sm1, er1, q1⟩⟩
theorem ess_nil : ESs X W [] sNil := PSs.of pss_nil fun D σ H ⟨φ, h, ρ, sm, er, q⟩ => PoS.nxNow q sm er
theorem ess_one {st : Stmt} {f : Sv} (h : ES X W st f) : ESs X W [st] f := pss_one h
theorem ess_cons {st : Stmt} {rest : List Stmt} {f g : Sv} (h1 : ES X W st f) (h2 : ESs X W rest g) : ESs X W (st :: rest) (sSeq f g) :=
  PSs.of (pss_cons h1 h2) fun D σ H ⟨φ, h, ρ, sm, er, q⟩ => ⟨φ, h, ρ, sm, er, by
    unfold sSeq at q
    revert q
    cases f ρ h with
    | nx ρ1 h1 => exact fun q σ1 H1 φ1 st sm1 er1 => ⟨φ1, h1, ρ1, sm1, er1, PoS.pull st q⟩
    | rt v h1 => exact fun q => q
    | bk ρ1 h1 => exact fun q => q
    | ct ρ1 h1 => exact fun q => q
    | ex c fs ρ1 h1 => exact fun q => q
    | no => exact fun q => q⟩
theorem es_pass : ES X W (.Pass pos) sNil := PS.of ps_pass fun D σ H ⟨φ, h, ρ, sm, er, q⟩ => PoS.nxNow q sm er
theorem es_break : ES X W (.Break pos) sBrk := PS.of ps_break fun D σ H ⟨φ, h, ρ, sm, er, q⟩ => q σ H φ (Step.refl _ _ _) sm er
theorem es_continue : ES X W (.Continue pos) sCont := PS.of ps_continue fun D σ H ⟨φ, h, ρ, sm, er, q⟩ => q σ H φ (Step.refl _ _ _) sm er
theorem es_par {i j : Nat} {x y : Str} {a b : Expr} {fs : Av} {px py pt : Pos} {kt k2 : Nat} {pt2 : Pos} (hc : X.calm = true) (hN : X.N.Nodup) (ha : EA X W [a, b] fs) (hi : X.N[i]? = some x := by rfl) (hj : X.N[j]? = some y := by rfl) (hij : i ≠ j := by decide)
    (hx : X.env.scope.names.lookup x = some .local := by rfl) (hy : X.env.scope.names.lookup y = some .local := by rfl)
    (hw : swappedStores [.Tuple [.Name x px, .Name y py] kt pt] (.Tuple [a, b] k2 pt2) X.env = pure (some [x, y]) := by rfl)
    (hs : swapsWithSole [.Tuple [.Name x px, .Name y py] kt pt] (.Tuple [a, b] k2 pt2) pos.line X.env = pure false := by rfl) :
    ES X W (.Assign [.Tuple [.Name x px, .Name y py] kt pt] (.Tuple [a, b] k2 pt2) pos) (sPar i j fs) :=
  PS.of (ps_par hc hN hi hj hij hx hy ha hw hs) fun D σ H ⟨φ, h, ρ, sm, er, q⟩ => ⟨φ, h, ρ, sm, er, PoS.goA er q fun xs vs h1 H1 φ1 st sm1 er1 rv q1 => by
    split at q1
    · obtain ⟨x, y, rfl, r1, r2⟩ := rv.two
      exact ⟨x, y, rfl, PoS.nxNow q1 sm1 ((er1.set r1).set r2)⟩
    · exact q1.elim⟩
/-- name op= e -/
def sAug (i : Nat) (g : G2) (f : Ev) : Sv := fun ρ h => Out.then ρ (eVar i ρ h) fun x h0 => Out.then ρ (f ρ h0) fun y h1 => Out.then ρ (ofO (g x y h1)) fun z h2 => .nx (ρ.set i (some z)) h2
theorem es_aug {i : Nat} {x : Str} {op : Operator} {r : TIp} {g : G2} {pos' : Pos} (hN : X.N.Nodup) (ho : PIp X op r) (ok : Ok2 X.K X.mg r g) (he : EE X W e fe) (hi : X.N[i]? = some x := by rfl) (hx : Loc X.env.scope x := by first | exact .inl rfl | exact .inr rfl) (hf : X.fn x = true ∨ X.env.scope.names.lookup x = some .local := by first | exact .inl rfl | exact .inr rfl | assumption) :
    ES X W (.AugAssign (.Name x pos') op e pos) (sAug i g fe) :=
  PS.of (ps_aug hN hi hx he ho hf) fun D σ H ⟨φ, h, ρ, sm, er, q⟩ => by
    unfold sAug eVar at q
    split at q
    · rename_i v ev
      obtain ⟨y, e1, rv⟩ := er.at_ i v ev
      refine ⟨y, e1, φ, h, ρ, sm, er, PoS.goE er q fun x2 v2 h1 H1 φ1 st sm1 er1 rv2 q1 => ?_⟩
      have q2 := PoS.goE (Q1 := fun z H2 => D.nx (σ.set i (some z)) H2) er1 q1 fun z v3 h2 H2 φ2 st2 sm2 er2 rv3 q3 => PoS.nxNow q3 sm2 (er2.set rv3)
      obtain ⟨w, h3, e3, k3⟩ := PoX.ofO q2
      exact ok φ1 h1 H1 y x2 v v2 _ w h3 sm1 (rv.step st) rv2 e3 k3
    · exact q.elim
/-- o[i] = e, o a list -/
def okO : Out Vl → Option (Vl × Hh)
  | .ok v h => some (v, h)
  | _ => none
def setL (o i v : Vl) (h : Hh) : Option Hh := match o, i, fz v h with
  | .r n, .d (.int k), some (d, h1) => match h1[n]? with
    | some (some (.lst xs)) => (ixN xs.length k).map fun j => h1.set n (some (.lst (xs.set j d)))
    | _ => none
  | _, _, _ => none
def gSetL (o ix : Ev) : Gv := fun v ρ h => (okO (o ρ h)).bind fun p => (okO (ix ρ p.2)).bind fun q => (setL p.1 q.1 v q.2).map fun h' => (ρ, h')
theorem okO_some {o : Out Vl} {v : Vl} {h : Hh} (e : okO o = some (v, h)) : o = .ok v h := by
  cases o <;> cases e
  rfl
theorem setL_ok {K : PySem.W.Frag} {φ : List Addr} {h h' : Hh} {H : Hp} {x y z : V} {o i v : Vl} {Q : Hp → Prop} (sm : Sim K φ h H) (rx : VRep K mg φ h H x o) (ry : VRep K mg φ h H y i) (rz : VRep K mg φ h H z v) (e : setL o i v h = some h')
    (k : ∀ H' φ', Step φ h H φ' h' H' → Sim K φ' h' H' → Q H') : rSetL x y z H Q := by
  unfold setL at e
  split at e
  · rename_i n kk d h1 ef
    obtain ⟨s1, s2, s3⟩ := fz_ok sm rz ef
    split at e
    · rename_i xs en
      obtain ⟨a, ea, rfl⟩ := rx
      cases q : ixN xs.length kk with
      | none => rw [q] at e; cases e
      | some j =>
        rw [q] at e
        cases e
        obtain ⟨ys, eh, rs⟩ := s2.at_ en ea
        obtain ⟨t1, t2⟩ := s2.write (ob := .lst (xs.set j d)) (u := .lst (ys.set j z)) en ea fun M st => ⟨_, upd_same, Reps.set (s3.stay st) j (rs.stay st)⟩
        exact ⟨a, ys, kk, j, rfl, VRep.int ry, eh, by rw [rs.length]; exact q, k _ _ (s1.trans t1) t2⟩
    · cases e
  · cases e
theorem eg_setL {o ix : Expr} {fo fi : Ev} (ho : EE X W o fo) (hi : EE X W ix fi)
    (ha : ∀ v, assign (.Subscript o ix pos) X.env v = (do
      let ov ← holding [v] (eval o X.env)
      let iv ← holding [v, ov] (eval ix X.env)
      standAt pos
      holding [v, ov, iv] (setItem ov iv v)
      release [v, ov, iv] []) := by intro _; rfl) : EG X (.Subscript o ix pos) (gSetL fo fi) :=
  PG.of (pg_sub ho hi set_list ha) fun x σ H Q ⟨φ, h, ρ, v, ρ', h', sm, er, rv, e, k⟩ => by
    unfold gSetL at e
    cases e1 : okO (fo ρ h) with
    | none => rw [e1] at e; cases e
    | some p =>
      obtain ⟨ov, h1⟩ := p
      rw [e1] at e
      dsimp only [Option.bind_some] at e
      cases e2 : okO (fi ρ h1) with
      | none => rw [e2] at e; cases e
      | some p2 =>
        obtain ⟨iv, h2⟩ := p2
        rw [e2] at e
        dsimp only [Option.bind_some] at e
        cases e3 : setL ov iv v h2 with
        | none => rw [e3] at e; cases e
        | some h3 =>
          rw [e3] at e
          cases e
          refine ⟨φ, h, ρ, sm, er, ?_⟩
          rw [okO_some e1]
          intro y H1 φ1 st1 sm1 ry
          refine ⟨φ1, h1, ρ, sm1, er.step st1, ?_⟩
          rw [okO_some e2]
          intro z H2 φ2 st2 sm2 rz
          exact setL_ok sm2 (ry.step st2) rz (rv.step (st1.trans st2)) e3 fun H3 φ3 st3 sm3 => k σ H3 φ3 ((st1.trans st2).trans st3) sm3 (er.step ((st1.trans st2).trans st3))
end
end Rk

/-! Rk6: loops, defs. -/
namespace Rk
open PySem PySem.Spec L2
variable {mg : Str → Option Value}
/-! ### what is walked -/
/-- a list that must stand still -/
def gdOk (gd : Option (Nat × List Da)) (h : Hh) : Prop := match gd with
  | none => True
  | some (n, xs) => h[n]? = some (some (.lst xs))
structure Itm where
  ds : List Da
  gd : Option (Nat × List Da)
abbrev Iv := En → Hh → Out Itm
structure ItOk (K : PySem.W.Frag) (J : It) (m : Itm) (G : List Addr → Hh → Hp → Prop) : Prop where
  go : ∀ (φ : List Addr) (h : Hh) (H : Hp) (i : Nat), Sim K φ h H → G φ h H → gdOk m.gd h → i < m.ds.length → J.go i H
  yld : ∀ (φ : List Addr) (h : Hh) (H : Hp) (i : Nat) (x : V) (H' : Hp) (d : Da), Sim K φ h H → G φ h H → gdOk m.gd h → m.ds[i]? = some d → J.yld i H x H' → Step φ h H φ h H' ∧ Sim K φ h H' ∧ Rep K H' (Live φ h) x d
  stop : ∀ (φ : List Addr) (h : Hh) (H : Hp) (i : Nat), Sim K φ h H → G φ h H → gdOk m.gd h → m.ds.length ≤ i → J.stop i H
  keep : ∀ (φ : List Addr) (h : Hh) (H : Hp) (φ' : List Addr) (h' : Hh) (H' : Hp), G φ h H → Step φ h H φ' h' H' → G φ' h' H'
def PoI (K : PySem.W.Frag) (mg : Str → Option Value) (φ : List Addr) (h : Hh) (H : Hp) (o : Out Itm) (R : It → Hp → Prop) (E : XK) : Prop := match o with
  | .ok m h' => ∀ J H' φ' G, Step φ h H φ' h' H' → Sim K φ' h' H' → ItOk K J m G → G φ' h' H' → R J H'
  | .ex c fs h' => ∀ cls dd H' φ', Step φ h H φ' h' H' → Sim K φ' h' H' → XRep K mg H' (Live φ' h') c fs cls dd → E cls dd H'
  | .no => False
def tI (K : PySem.W.Frag) (mg : Str → Option Value) (W : WX) (f : Iv) : TI := fun σ H R => ∃ φ h ρ, Sim K φ h H ∧ ERep K mg φ h H σ ρ ∧ PoI K mg φ h H (f ρ h) R (WE W σ)
def EI (X : Cx) (W : WX) (tg iter : Expr) (f : Iv) : Prop := PI X tg iter (tI X.K X.mg W f)
theorem PI.of {X : Cx} {tg e : Expr} {t t' : TI} (h : PI X tg e t) (i : ∀ σ H Q, t' σ H Q → t σ H Q) : PI X tg e t' := ⟨fun pins s σ H Q I w => h.run pins s σ H Q I (i σ H Q w)⟩
section
variable {K : PySem.W.Frag} {mg : Str → Option Value} {φ φ1 : List Addr} {h h1 : Hh} {H H1 : Hp} {E : XK}
theorem PoI.pull {o : Out Itm} {Q : It → Hp → Prop} (s : Step φ h H φ1 h1 H1) (q : PoI K mg φ h H o Q E) : PoI K mg φ1 h1 H1 o Q E := by
  cases o with
  | ok v h2 => exact fun J H' φ' G st => q J H' φ' G (s.trans st)
  | ex c fs h2 => exact fun cls dd H' φ' st => q cls dd H' φ' (s.trans st)
  | no => exact q
theorem PoI.goE {o : Out Vl} {k : Vl → Hh → Out Itm} {Q : It → Hp → Prop} {Q1 : VK} (q : PoI K mg φ h H (o.bind k) Q E)
    (hk : ∀ (x : V) (v : Vl) (h1 : Hh) (H1 : Hp) (φ1 : List Addr), Step φ h H φ1 h1 H1 → Sim K φ1 h1 H1 → VRep K mg φ1 h1 H1 x v → PoI K mg φ1 h1 H1 (k v h1) Q E → Q1 x H1) : PoX K mg φ h H o Q1 E := by
  cases o with
  | ok v h1 => exact fun x H' φ' st sm' rv => hk x v h1 H' φ' st sm' rv (PoI.pull st q)
  | ex c fs h1 => exact q
  | no => exact q
theorem PoI.goA {o : Out (List Vl)} {k : List Vl → Hh → Out Itm} {Q : It → Hp → Prop} {Q1 : List V → Hp → Prop} (q : PoI K mg φ h H (o.bind k) Q E)
    (hk : ∀ (x : List V) (v : List Vl) (h1 : Hh) (H1 : Hp) (φ1 : List Addr), Step φ h H φ1 h1 H1 → Sim K φ1 h1 H1 → VReps K mg φ1 h1 H1 x v → PoI K mg φ1 h1 H1 (k v h1) Q E → Q1 x H1) : PoA K mg φ h H o Q1 E := by
  cases o with
  | ok v h1 => exact fun x H' φ' st sm' rv => hk x v h1 H' φ' st sm' rv (PoI.pull st q)
  | ex c fs h1 => exact q
  | no => exact q
end
/-- a list: data, or an object that must stand still -/
def itL : Vl → Hh → Out Itm
  | .d (.list ds), h => .ok ⟨ds, none⟩ h
  | .r n, h => match h[n]? with
    | some (some (.lst ds)) => .ok ⟨ds, some (n, ds)⟩ h
    | _ => .no
  | _, _ => .no
def itT : Vl → Hh → Out Itm
  | .d (.tuple ds), h => .ok ⟨ds, none⟩ h
  | _, _ => .no
def itQ : Vl → Hh → Out Itm
  | .d (.tuple ds), h => .ok ⟨ds, none⟩ h
  | v, h => itL v h
def iv (it : Vl → Hh → Out Itm) (f : Ev) : Iv := fun ρ h => (f ρ h).bind it
def iSeq (K : PySem.W.Frag) (tl : TE) : TI := fun σ H R => tl σ H fun x H1 => ∃ a, x = .ref a ∧ (((∃ xs, SqL K H1 a xs) ∧ R (Itl K a) H1) ∨ ((∃ xs, SqT K H1 a xs) ∧ R (Itt K a) H1))
theorem pi_seq {X : Cx} {tg l : Expr} {tl : TE} (hl : PE X l tl) : PI X tg l (iSeq X.K tl) := by
  refine ⟨fun pins s σ H R I h => ?_⟩
  refine thn (hl.run pins s σ H _ I h) fun v s1 ⟨x, H1, I1, r1, q1⟩ => ?_
  obtain ⟨a, e, q⟩ := q1
  subst e
  cases r1
  have nf : ∀ b : Addr, b ∈ [s1.heap.objs.size] → FpOk X pins H1 b := fun b hb => by
    have e : b = s1.heap.objs.size := by simpa using hb
    subst e
    exact I1.fpOk (Nat.le_refl _) (I1.hok.fresh (Nat.le_refl _))
  rcases q with ⟨⟨xs, hq⟩, q⟩ | ⟨⟨xs, hq⟩, q⟩
  · obtain ⟨its, rv, p, hz⟩ := I1.list hq
    exact wpAny_pyIter_list p.isList ⟨s1.heap.objs.size, [s1.heap.objs.size], _, _, H1, rfl, I1.kept (t' := s1.toks) fun b o e => Heap.get?_push_of_some _ e, turn_list a _, ⟨_, Heap.get?_push_size _ rfl, rfl, rfl⟩, nf, q⟩
  · obtain ⟨its, rv, p, hz⟩ := I1.tuple hq
    exact wpAny_pyIter_tuple (show s1.heap.IsTuple a its.toArray from p) ⟨s1.heap.objs.size, [s1.heap.objs.size], _, _, H1, rfl, I1.kept (t' := s1.toks) fun b o e => Heap.get?_push_of_some _ e, turn_tuple a _, ⟨_, Heap.get?_push_size _ rfl, rfl, rfl⟩, nf, q⟩
section
variable {K : PySem.W.Frag}
/-- how a list stands, for a walk -/
structure LOk (K : PySem.W.Frag) (a : Addr) (m : Itm) (G : List Addr → Hh → Hp → Prop) : Prop where
  sq : ∀ (φ : List Addr) (h : Hh) (H : Hp), Sim K φ h H → G φ h H → gdOk m.gd h → ∃ xs, SqL K H a xs ∧ Reps K H (Live φ h) xs m.ds
  keep : ∀ (φ : List Addr) (h : Hh) (H : Hp) (φ' : List Addr) (h' : Hh) (H' : Hp), G φ h H → Step φ h H φ' h' H' → G φ' h' H'
theorem itL_lok {φ : List Addr} {h h' : Hh} {H : Hp} {x : V} {v : Vl} {m : Itm} (sm : Sim K φ h H) (r : VRep K mg φ h H x v) (e : itL v h = .ok m h') : h' = h ∧ gdOk m.gd h ∧ ∃ a G, x = .ref a ∧ LOk K a m G ∧ G φ h H := by
  unfold itL at e
  split at e
  · cases e
    rename_i ds
    have r' : Rep K H (Live φ h) x (.list ds) := r
    cases r' with
    | @lst a xs _ h1 n r1 =>
      exact ⟨rfl, trivial, a, fun φ h H => Rep K H (Live φ h) (.ref a) (.list ds), rfl, ⟨fun φ h H _ g _ => Rep.sqL g, fun φ h H φ' h' H' g st => Rep.stay st.st g⟩, r⟩
    | @lstK a xs _ h1 r1 =>
      exact ⟨rfl, trivial, a, fun φ h H => Rep K H (Live φ h) (.ref a) (.list ds), rfl, ⟨fun φ h H _ g _ => Rep.sqL g, fun φ h H φ' h' H' g st => Rep.stay st.st g⟩, r⟩
  · split at e
    · rename_i n _ ds en
      cases e
      obtain ⟨a, ea, rfl⟩ := r
      refine ⟨rfl, en, a, fun (φ : List Addr) (h : Hh) (H : Hp) => φ[n]? = some a, rfl, ⟨fun φ h H sm g gd => ?_, fun φ h H φ' h' H' g st => pre_get st.pre g⟩, ea⟩
      obtain ⟨xs, e2, q⟩ := sm.at_ gd g
      exact ⟨xs, .of e2, q⟩
    · cases e
  · cases e
theorem LOk.it {a : Addr} {m : Itm} {G : List Addr → Hh → Hp → Prop} (L : LOk K a m G) : ItOk K (Itl K a) m G where
  go := fun φ h H i sm g gd hi => by
    obtain ⟨xs, sq, rs⟩ := L.sq φ h H sm g gd
    obtain ⟨y, e, _⟩ := rs.get (List.getElem?_eq_getElem hi)
    exact ⟨xs, y, sq, e⟩
  yld := fun φ h H i x H' d sm g gd ed ⟨e, q⟩ => by
    subst e
    obtain ⟨xs, sq, rs⟩ := L.sq φ h H' sm g gd
    obtain ⟨y, ey, ry⟩ := rs.get ed
    have e2 := q xs sq
    rw [ey] at e2
    cases e2
    exact ⟨Step.refl _ _ _, sm, ry⟩
  stop := fun φ h H i sm g gd hi => by
    obtain ⟨xs, sq, rs⟩ := L.sq φ h H sm g gd
    exact ⟨xs, sq, by rw [rs.length]; exact hi⟩
  keep := L.keep
theorem tup_it {a : Addr} {ds : List Da} : ItOk K (Itt K a) ⟨ds, none⟩ (fun φ h H => Rep K H (Live φ h) (.ref a) (.tuple ds)) where
  go := fun φ h H i sm g gd hi => by
    obtain ⟨xs, sq, rs⟩ := Rep.sqT g
    obtain ⟨y, e, _⟩ := rs.get (List.getElem?_eq_getElem hi)
    exact ⟨xs, y, sq, e⟩
  yld := fun φ h H i x H' d sm g gd ed ⟨e, q⟩ => by
    subst e
    obtain ⟨xs, sq, rs⟩ := Rep.sqT g
    obtain ⟨y, ey, ry⟩ := rs.get ed
    have e2 := q xs sq
    rw [ey] at e2
    cases e2
    exact ⟨Step.refl _ _ _, sm, ry⟩
  stop := fun φ h H i sm g gd hi => by
    obtain ⟨xs, sq, rs⟩ := Rep.sqT g
    exact ⟨xs, sq, by rw [rs.length]; exact hi⟩
  keep := fun φ h H φ' h' H' g st => Rep.stay st.st g
theorem enum_it {a : Addr} {m : Itm} {G : List Addr → Hh → Hp → Prop} (L : LOk K a m G) : ItOk K (Ite K a) ⟨m.ds.mapIdx fun i d => .tuple [.int (i : Nat), d], m.gd⟩ G where
  go := fun φ h H i sm g gd hi => by
    obtain ⟨xs, sq, rs⟩ := L.sq φ h H sm g gd
    obtain ⟨y, e, _⟩ := rs.get (List.getElem?_eq_getElem (show i < m.ds.length by simpa using hi))
    exact ⟨xs, y, sq, e⟩
  yld := fun φ h H i x H' d sm g gd ed ⟨T, y, ex, hT, e, q⟩ => by
    subst ex e
    obtain ⟨xs, sq, rs⟩ := L.sq φ h H sm g gd
    rw [List.getElem?_mapIdx] at ed
    cases e3 : m.ds[i]? with
    | none => rw [e3] at ed; cases ed
    | some d0 =>
      rw [e3] at ed
      cases ed
      obtain ⟨y2, ey, ry⟩ := rs.get e3
      have e2 := q xs sq
      rw [ey] at e2
      cases e2
      obtain ⟨s1, s2, s3⟩ := new_tup (mg := fun _ => none) sm (ds := [.int (i : Nat), d0]) (.cons (.int _) (.cons ry .nil)) hT
      exact ⟨s1, s2, s3⟩
  stop := fun φ h H i sm g gd hi => by
    obtain ⟨xs, sq, rs⟩ := L.sq φ h H sm g gd
    exact ⟨xs, sq, by rw [rs.length]; simpa using hi⟩
  keep := L.keep
def rngD (lo : Int) (n : Nat) : List Da := (List.range n).map fun k => .int (lo + (k : Nat))
theorem range_it {lo : Int} {n : Nat} : ItOk K (Itr lo n) ⟨rngD lo n, none⟩ (fun _ _ _ => True) where
  go := fun φ h H i sm g gd hi => by
    show i < n
    simpa [rngD] using hi
  yld := fun φ h H i x H' d sm g gd ed ⟨e, q⟩ => by
    subst e q
    unfold rngD at ed
    rw [List.getElem?_map] at ed
    cases e3 : (List.range n)[i]? with
    | none => rw [e3] at ed; cases ed
    | some k =>
      rw [e3] at ed
      have e4 := (List.getElem?_eq_some_iff.mp e3)
      obtain ⟨h1, h2⟩ := e4
      rw [List.getElem_range] at h2
      subst h2
      cases ed
      exact ⟨Step.refl _ _ _, sm, .int _⟩
  stop := fun φ h H i sm g gd hi => by
    show n ≤ i
    simpa [rngD] using hi
  keep := fun _ _ _ _ _ _ _ _ => trivial
end
def rgB (j : Int) : Bool := decide (-1000000000000 ≤ j) && decide (j ≤ 1000000000000)
theorem rgB_ok {j : Int} (h : rgB j = true) : -(2 ^ 62) ≤ j ∧ j < 2 ^ 62 := by
  unfold rgB at h
  rw [Bool.and_eq_true] at h
  exact ⟨Int.le_trans (by decide) (of_decide_eq_true h.1), Int.lt_of_le_of_lt (of_decide_eq_true h.2) (by decide)⟩
def iRange1 (as : Av) : Iv := fun ρ h => (as ρ h).bind fun vs h1 => match vs with
  | [.d (.int j)] => if rgB j then .ok ⟨rngD 0 j.toNat, none⟩ h1 else .no
  | _ => .no
def iRange2 (as : Av) : Iv := fun ρ h => (as ρ h).bind fun vs h1 => match vs with
  | [.d (.int i), .d (.int j)] => if rgB i && rgB j then .ok ⟨rngD i (j - i).toNat, none⟩ h1 else .no
  | _ => .no
def enumI (o : Out Itm) : Out Itm := o.bind fun m h => .ok ⟨m.ds.mapIdx fun i d => .tuple [.int (i : Nat), d], m.gd⟩ h
def iEnumL (as : Av) : Iv := fun ρ h => (as ρ h).bind fun vs h1 => match vs with
  | [v] => enumI (itL v h1)
  | _ => .no
section
variable {X : Cx} {W : WX} {tg e : Expr} {fe : Ev} {pos p : Pos} {fs : Av}
theorem ei_seq (he : EE X W e fe) : EI X W tg e (iv itQ fe) :=
  PI.of (pi_seq he) fun σ H R ⟨φ, h, ρ, sm, er, q⟩ => ⟨φ, h, ρ, sm, er, PoI.goE q fun x v h1 H1 φ1 st sm1 rv q1 => by
    unfold itQ at q1
    split at q1
    · obtain ⟨a, xs, rfl, sq, rs⟩ := VRep.tup rv
      exact ⟨a, rfl, .inr ⟨⟨xs, sq⟩, q1 _ H1 φ1 _ (Step.refl _ _ _) sm1 tup_it rv⟩⟩
    · cases e : itL v h1 with
      | ok m h2 =>
        rw [e] at q1
        obtain ⟨rfl, gd, a, G, rfl, L, g⟩ := itL_lok sm1 rv e
        obtain ⟨xs, sq, _⟩ := L.sq _ _ _ sm1 g gd
        exact ⟨a, rfl, .inl ⟨⟨xs, sq⟩, q1 _ H1 φ1 _ (Step.refl _ _ _) sm1 L.it g⟩⟩
      | ex c fs h2 =>
        unfold itL at e
        split at e
        · cases e
        · split at e <;> cases e
        · cases e
      | no => rw [e] at q1; exact q1.elim⟩
theorem ei_range1 {a : Expr} (hg : Gl X "range") (hm : X.mg "range" = none) (ha : EA X W [a] fs) (hs : starEach [a] X.env = [(false, eval a X.env)] := by rfl) : EI X W tg (.Call (.Name "range" p) [a] [] pos) (iRange1 fs) :=
  PI.of (pi_range1 hg hm ha hs) fun σ H R ⟨φ, h, ρ, sm, er, q⟩ => ⟨φ, h, ρ, sm, er, PoI.goA q fun xs vs h1 H1 φ1 st sm1 rv q1 => by
    split at q1
    · obtain ⟨x, rfl, r⟩ := rv.one
      split at q1
      · rename_i j hj
        rw [VRep.int r]
        exact ⟨j, rfl, (rgB_ok hj).1, (rgB_ok hj).2, q1 _ H1 φ1 _ (Step.refl _ _ _) sm1 range_it trivial⟩
      · exact q1.elim
    · exact q1.elim⟩
theorem ei_range2 {a b : Expr} (hg : Gl X "range") (hm : X.mg "range" = none) (ha : EA X W [a, b] fs) (hs : starEach [a, b] X.env = [(false, eval a X.env), (false, eval b X.env)] := by rfl) (hs2 : starEach [b] X.env = [(false, eval b X.env)] := by rfl) : EI X W tg (.Call (.Name "range" p) [a, b] [] pos) (iRange2 fs) :=
  PI.of (pi_range2 hg hm ha hs hs2) fun σ H R ⟨φ, h, ρ, sm, er, q⟩ => ⟨φ, h, ρ, sm, er, PoI.goA q fun xs vs h1 H1 φ1 st sm1 rv q1 => by
    split at q1
    · obtain ⟨x, y, rfl, r, r2⟩ := rv.two
      split at q1
      · rename_i i j hj
        rw [VRep.int r, VRep.int r2]
        rw [Bool.and_eq_true] at hj
        exact ⟨i, j, rfl, ⟨(rgB_ok hj.1).1, (rgB_ok hj.1).2, rgB_ok hj.2⟩, q1 _ H1 φ1 _ (Step.refl _ _ _) sm1 range_it trivial⟩
      · exact q1.elim
    · exact q1.elim⟩
theorem ei_enum {elts : List Expr} {kk : Nat} {tpos : Pos} {a : Expr} (hg : Gl X "enumerate") (hm : X.mg "enumerate" = none) (ha : EA X W [a] fs) (hs : starEach [a] X.env = [(false, eval a X.env)] := by rfl) : EI X W (.Tuple elts kk tpos) (.Call (.Name "enumerate" p) [a] [] pos) (iEnumL fs) :=
  PI.of (pi_enum hg hm ha hs) fun σ H R ⟨φ, h, ρ, sm, er, q⟩ => ⟨φ, h, ρ, sm, er, PoI.goA q fun xs vs h1 H1 φ1 st sm1 rv q1 => by
    split at q1
    · rename_i v
      obtain ⟨x, rfl, r⟩ := rv.one
      cases e : itL v h1 with
      | ok m h2 =>
        rw [e] at q1
        obtain ⟨rfl, gd, a, G, rfl, L, g⟩ := itL_lok sm1 r e
        obtain ⟨ys, sq, _⟩ := L.sq _ _ _ sm1 g gd
        exact ⟨a, ys, rfl, sq, q1 _ H1 φ1 _ (Step.refl _ _ _) sm1 (enum_it L) g⟩
      | ex c fs h2 =>
        unfold itL at e
        split at e
        · cases e
        · split at e <;> cases e
        · cases e
      | no => rw [e] at q1; exact q1.elim
    · exact q1.elim⟩
end
/-! ### for -/
open Classical in
noncomputable def forL (gd : Option (Nat × List Da)) (g : Gv) (body : Sv) : List Da → En → Hh → So
  | [], ρ, h => if gdOk gd h then .nx ρ h else .no
  | d :: ds, ρ, h => if gdOk gd h then (match g (.d d) ρ h with
      | none => .no
      | some p => match body p.1 p.2 with
        | .nx ρ' h' => forL gd g body ds ρ' h'
        | .ct ρ' h' => forL gd g body ds ρ' h'
        | .bk ρ' h' => .nx ρ' h'
        | r => r) else .no
noncomputable def sFor (i : Iv) (g : Gv) (body : Sv) : Sv := fun ρ h => Out.then ρ (i ρ h) fun m h1 => forL m.gd g body m.ds ρ h1
section
variable {X : Cx} {W : WX} {tg iter : Expr} {fi : Iv} {g : Gv} {body : List Stmt} {fb : Sv} {pos : Pos}
theorem for_ok {K : PySem.W.Frag} {mg : Str → Option Value} {W : WX} {D : Ends} {J : It} {m : Itm} {G : List Addr → Hh → Hp → Prop} (ok : ItOk K J m G) {φ : List Addr} {h : Hh} {H : Hp} {σ : L2.St} {ρ : En} (sm : Sim K φ h H) (er : ERep K mg φ h H σ ρ) (gg : G φ h H)
    (q : PoS K mg φ h H (forL m.gd g fb m.ds ρ h) D W) : ∃ W' : Nat → Nat → L2.St → Hp → Prop, (∃ n, W' 0 n σ H) ∧ ∀ i n σ H, W' i n σ H →
      (J.stop i H ∧ D.nx σ H) ∨ (J.go i H ∧ ∃ N : L2.St → Hp → Prop, (∀ σ' H', N σ' H' → ∃ m', m' < n ∧ W' (i + 1) m' σ' H') ∧ ∀ x H', J.yld i H x H' → tG K mg g x σ H' fun σ2 H2 => tS K mg W fb { D with nx := N, ct := N, bk := D.nx } σ2 H2) := by
  refine ⟨fun i n σ H => n = m.ds.length - i ∧ ∃ φ h ρ, Sim K φ h H ∧ ERep K mg φ h H σ ρ ∧ G φ h H ∧ PoS K mg φ h H (forL m.gd g fb (m.ds.drop i) ρ h) D W, ⟨_, rfl, φ, h, ρ, sm, er, gg, by rw [List.drop_zero]; exact q⟩, ?_⟩
  rintro i n σ H ⟨rfl, φ, h, ρ, sm, er, gg, q⟩
  cases ed : m.ds.drop i with
  | nil =>
    rw [ed] at q
    unfold forL at q
    split at q
    · rename_i gd
      exact .inl ⟨ok.stop φ h H i sm gg gd (List.drop_eq_nil_iff.mp ed), PoS.nxNow q sm er⟩
    · exact q.elim
  | cons d ds =>
    have hi : i < m.ds.length := by
      rcases Nat.lt_or_ge i m.ds.length with z | z
      · exact z
      · rw [List.drop_eq_nil_of_le z] at ed; cases ed
    have e1 : m.ds[i]? = some d := by
      have := List.getElem?_drop (xs := m.ds) (i := i) (j := 0)
      rw [ed] at this
      simpa using this.symm
    have e2 : m.ds.drop (i + 1) = ds := by
      have := List.drop_drop (i := 1) (j := i) (l := m.ds)
      rw [ed] at this
      simpa using this.symm
    rw [ed] at q
    unfold forL at q
    split at q
    · rename_i gd
      refine .inr ⟨ok.go φ h H i sm gg gd hi, fun σ' H' => ∃ φ h ρ, Sim K φ h H' ∧ ERep K mg φ h H' σ' ρ ∧ G φ h H' ∧ PoS K mg φ h H' (forL m.gd g fb ds ρ h) D W, fun σ' H' hN => ?_, fun x H' hy => ?_⟩
      · obtain ⟨φ', h', ρ', a1, a2, a3, a4⟩ := hN
        exact ⟨m.ds.length - (i + 1), by omega, rfl, φ', h', ρ', a1, a2, a3, by rw [e2]; exact a4⟩
      · obtain ⟨s1, s2, s3⟩ := ok.yld φ h H i x H' d sm gg gd e1 hy
        have q' := PoS.pull s1 q
        have gg' := ok.keep _ _ _ _ _ _ gg s1
        cases eg : g (.d d) ρ h with
        | none => rw [eg] at q'; exact q'.elim
        | some p =>
          obtain ⟨ρ1, h1⟩ := p
          rw [eg] at q'
          refine ⟨φ, h, ρ, .d d, ρ1, h1, s2, er.step s1, s3, eg, fun σ2 H2 φ2 st2 sm2 er2 => ⟨φ2, h1, ρ1, sm2, er2, ?_⟩⟩
          have q2 := PoS.pull st2 q'
          have gg2 := ok.keep _ _ _ _ _ _ gg' st2
          dsimp only at q2
          revert q2
          cases fb ρ1 h1 with
          | nx ρ3 h3 => exact fun q2 σ3 H3 φ3 st3 sm3 er3 => ⟨φ3, h3, ρ3, sm3, er3, ok.keep _ _ _ _ _ _ gg2 st3, PoS.pull st3 q2⟩
          | ct ρ3 h3 => exact fun q2 σ3 H3 φ3 st3 sm3 er3 => ⟨φ3, h3, ρ3, sm3, er3, ok.keep _ _ _ _ _ _ gg2 st3, PoS.pull st3 q2⟩
          | bk ρ3 h3 => exact fun q2 => q2
          | rt v h3 => exact fun q2 => q2
          | ex c fs ρ3 h3 => exact fun q2 => q2
          | no => exact fun q2 => q2
    · exact q.elim
theorem es_for (hp : PassesOwn (model X.prog X.w) X.A X.env X.xe) (hc : X.calm = true) (hi : EI X W tg iter fi) (hg : EG X tg g) (hb : ESs X W body fb) (hs : ∀ x, foldedSetIterable iter X.env x = pure x := by intro _; rfl) : ES X W (.For tg iter body [] pos) (sFor fi g fb) :=
  PS.of (ps_for hp hc hi hg hb hs) fun D σ H ⟨φ, h, ρ, sm, er, q⟩ => ⟨φ, h, ρ, sm, er, by
    unfold sFor at q
    revert q
    cases fi ρ h with
    | ok m h1 => exact fun q J H1 φ1 G st sm1 ok gg => for_ok ok sm1 (er.step st) gg (PoS.pull st q)
    | ex c fs h1 => exact fun q cls dd H' φ' st sm' xr => q cls dd σ H' φ' st sm' (er.step st) xr
    | no => exact fun q => q⟩
end
/-! ### while -/
def whileN (c : Tv) (b : Sv) : Nat → En → Hh → Option So
  | 0, _, _ => none
  | n + 1, ρ, h => match c ρ h with
    | .no => some .no
    | .ex k fs h1 => some (.ex k fs ρ h1)
    | .ok false h1 => some (.nx ρ h1)
    | .ok true h1 => match b ρ h1 with
      | .nx ρ' h' => whileN c b n ρ' h'
      | .ct ρ' h' => whileN c b n ρ' h'
      | .bk ρ' h' => some (.nx ρ' h')
      | r => some r
theorem whileN_mono (c : Tv) (b : Sv) : ∀ (n : Nat) (ρ : En) (h : Hh) (r : So), whileN c b n ρ h = some r → whileN c b (n + 1) ρ h = some r
  | 0, _, _, _, e => by cases e
  | n + 1, ρ, h, r, e => by
    unfold whileN at e ⊢
    split at e <;> try exact e
    split at e
    · exact whileN_mono c b n _ _ r e
    · exact whileN_mono c b n _ _ r e
    · exact e
    · exact e
theorem whileN_le (c : Tv) (b : Sv) {n m : Nat} (hl : n ≤ m) {ρ : En} {h : Hh} {r : So} (e : whileN c b n ρ h = some r) : whileN c b m ρ h = some r := by
  induction hl with
  | refl => exact e
  | step _ ih => exact whileN_mono c b _ ρ h r ih
theorem whileN_det (c : Tv) (b : Sv) {n m : Nat} {ρ : En} {h : Hh} {r r' : So} (e : whileN c b n ρ h = some r) (e' : whileN c b m ρ h = some r') : r = r' := by
  have a := whileN_le c b (Nat.le_max_left n m) e
  have b' := whileN_le c b (Nat.le_max_right n m) e'
  rw [a] at b'
  exact Option.some.inj b'
open Classical in
noncomputable def sWhile (c : Tv) (b : Sv) : Sv := fun ρ h => if H : ∃ r, ∃ n, whileN c b n ρ h = some r then Classical.choose H else .no
theorem sWhile_of {c : Tv} {b : Sv} {n : Nat} {ρ : En} {h : Hh} {r : So} (e : whileN c b n ρ h = some r) : sWhile c b ρ h = r := by
  have H : ∃ r, ∃ n, whileN c b n ρ h = some r := ⟨r, n, e⟩
  unfold sWhile
  rw [dif_pos H]
  obtain ⟨m, e'⟩ := Classical.choose_spec H
  exact whileN_det c b e' e
theorem sWhile_none {c : Tv} {b : Sv} {ρ : En} {h : Hh} (e : ∀ n, whileN c b n ρ h = none) : sWhile c b ρ h = .no := by
  unfold sWhile
  rw [dif_neg]
  rintro ⟨r, n, q⟩
  rw [e n] at q
  cases q
/-- one turn -/
theorem sWhile_eq (c : Tv) (b : Sv) (ρ : En) (h : Hh) : sWhile c b ρ h = Out.then ρ (c ρ h) fun k h1 => if k then (match b ρ h1 with
      | .nx ρ' h' => sWhile c b ρ' h'
      | .ct ρ' h' => sWhile c b ρ' h'
      | .bk ρ' h' => .nx ρ' h'
      | r => r) else .nx ρ h1 := by
  have step : ∀ n, whileN c b (n + 1) ρ h = match c ρ h with
    | .no => some .no
    | .ex k fs h1 => some (.ex k fs ρ h1)
    | .ok false h1 => some (.nx ρ h1)
    | .ok true h1 => match b ρ h1 with
      | .nx ρ' h' => whileN c b n ρ' h'
      | .ct ρ' h' => whileN c b n ρ' h'
      | .bk ρ' h' => some (.nx ρ' h')
      | r => some r := fun n => rfl
  cases ec : c ρ h with
  | no => exact sWhile_of (n := 1) (by rw [step, ec]; rfl)
  | ex k fs h1 => exact sWhile_of (n := 1) (by rw [step, ec]; rfl)
  | ok k h1 =>
    cases k with
    | false => exact sWhile_of (n := 1) (by rw [step, ec]; rfl)
    | true =>
      show sWhile c b ρ h = match b ρ h1 with
        | .nx ρ' h' => sWhile c b ρ' h'
        | .ct ρ' h' => sWhile c b ρ' h'
        | .bk ρ' h' => .nx ρ' h'
        | r => r
      have again : ∀ ρ' h', (∀ n, whileN c b (n + 1) ρ h = whileN c b n ρ' h') → sWhile c b ρ h = sWhile c b ρ' h' := fun ρ' h' z => by
        by_cases q : ∃ r, ∃ n, whileN c b n ρ' h' = some r
        · obtain ⟨r, n, e⟩ := q
          rw [sWhile_of e]
          exact sWhile_of (n := n + 1) (by rw [z]; exact e)
        · have n1 : ∀ n, whileN c b n ρ' h' = none := fun n => by
            cases e : whileN c b n ρ' h' with
            | none => rfl
            | some r => exact absurd ⟨r, n, e⟩ q
          rw [sWhile_none n1]
          refine sWhile_none fun n => ?_
          cases n with
          | zero => rfl
          | succ n => rw [z]; exact n1 n
      cases eb : b ρ h1 with
      | nx ρ' h' => exact again ρ' h' fun n => by rw [step, ec]; dsimp only; rw [eb]
      | ct ρ' h' => exact again ρ' h' fun n => by rw [step, ec]; dsimp only; rw [eb]
      | bk ρ' h' => exact sWhile_of (n := 1) (by rw [step, ec]; dsimp only; rw [eb])
      | rt v h' => exact sWhile_of (n := 1) (by rw [step, ec]; dsimp only; rw [eb])
      | ex k fs ρ' h' => exact sWhile_of (n := 1) (by rw [step, ec]; dsimp only; rw [eb])
      | no => exact sWhile_of (n := 1) (by rw [step, ec]; dsimp only; rw [eb])
section
variable {X : Cx} {W : WX} {c : Expr} {tc : Tv} {body : List Stmt} {fb : Sv} {pos : Pos}
theorem es_while (hp : PassesOwn (model X.prog X.w) X.A X.env X.xe) (hc : ET X W c tc) (hb : ESs X W body fb) : ES X W (.While c body [] pos) (sWhile tc fb) :=
  PS.of (ps_while hp hc hb) fun D σ H ⟨φ, h, ρ, sm, er, q⟩ => by
    by_cases ex : ∃ r, ∃ n, whileN tc fb n ρ h = some r
    · obtain ⟨r, n, e⟩ := ex
      rw [sWhile_of e] at q
      refine ⟨fun m σ H => ∃ φ h ρ r, Sim X.K φ h H ∧ ERep X.K X.mg φ h H σ ρ ∧ whileN tc fb m ρ h = some r ∧ PoS X.K X.mg φ h H r D W, ⟨n, φ, h, ρ, r, sm, er, e, q⟩, ?_⟩
      rintro m σ H ⟨φ, h, ρ, r, sm, er, e, q⟩
      refine ⟨φ, h, ρ, sm, er, ?_⟩
      cases m with
      | zero => cases e
      | succ m =>
        unfold whileN at e
        revert e
        cases tc ρ h with
        | no => intro e; cases e; exact q
        | ex k fs h1 => intro e; cases e; exact fun cls dd H' φ' st sm' xr => q cls dd σ H' φ' st sm' (er.step st) xr
        | ok k h1 =>
          cases k with
          | false =>
            intro e
            cases e
            intro H1 φ1 st sm1
            exact iteF (q σ H1 φ1 st sm1 (er.step st))
          | true =>
            intro e
            intro H1 φ1 st sm1
            refine iteT ⟨fun σ' H' => ∃ φ h ρ r, Sim X.K φ h H' ∧ ERep X.K X.mg φ h H' σ' ρ ∧ whileN tc fb m ρ h = some r ∧ PoS X.K X.mg φ h H' r D W, fun σ' H' z => ⟨m, Nat.lt_succ_self m, z⟩, φ1, h1, ρ, sm1, er.step st, ?_⟩
            dsimp only at e
            revert e
            cases fb ρ h1 with
            | nx ρ' h' => exact fun e σ2 H2 φ2 st2 sm2 er2 => ⟨φ2, h', ρ', r, sm2, er2, e, PoS.pull (st.trans st2) q⟩
            | ct ρ' h' => exact fun e σ2 H2 φ2 st2 sm2 er2 => ⟨φ2, h', ρ', r, sm2, er2, e, PoS.pull (st.trans st2) q⟩
            | bk ρ' h' => intro e; cases e; exact PoS.pull st q
            | rt v h' => intro e; cases e; exact PoS.pull st q
            | ex k fs ρ' h' => intro e; cases e; exact PoS.pull st q
            | no => intro e; cases e; exact PoS.pull st q
    · have n1 : ∀ n, whileN tc fb n ρ h = none := fun n => by
        cases e : whileN tc fb n ρ h with
        | none => rfl
        | some r => exact absurd ⟨r, n, e⟩ ex
      rw [sWhile_none n1] at q
      exact q.elim
end
/-! ### a def -/
def trunc (n : Nat) (v : Vl) (h : Hh) : Out Vl := match v with
  | .r i => if i < n then .ok (.r i) (h.take n) else match h[i]? with
    | some (some o) => .ok (.r n) (h.take n ++ [some o])
    | _ => .no
  | .f _ => .no
  | v => .ok v (h.take n)
def retF (n : Nat) : So → Out Vl
  | .rt v h => trunc n v h
  | .nx _ h => trunc n (.d .none) h
  | .ex c fs _ h => .ex c fs (h.take n)
  | _ => .no
def enter (N : Nat) (as : List Vl) : En := as.map some ++ List.replicate (N - as.length) none
def mkF (k N : Nat) (body : Sv) : Fn := fun as h => if as.length = k then retF h.length (body (enter N as) h) else .no
section
variable {K : PySem.W.Frag} {mg : Str → Option Value}
theorem enter_ok {φ : List Addr} {h : Hh} {H : Hp} {vs : List V} {as : List Vl} (N : List Str) (r : VReps K mg φ h H vs as) : ERep K mg φ h H (start N vs) (enter N.length as) := by
  have hl := r.length
  refine ⟨by unfold L2.start enter; simp [hl], fun i v e => ?_⟩
  unfold enter at e
  unfold L2.start
  by_cases hi : i < as.length
  · rw [List.getElem?_append_left (by simpa using hi), List.getElem?_map] at e
    rw [List.getElem?_append_left (by simp; omega), List.getElem?_map]
    have get : ∀ {vs : List V} {as : List Vl} {i : Nat} {v : Vl}, VReps K mg φ h H vs as → as[i]? = some v → ∃ x, vs[i]? = some x ∧ VRep K mg φ h H x v := by
      intro vs as i v r
      induction r generalizing i with
      | nil => intro e; simp at e
      | cons q t ih =>
        cases i with
        | zero => intro e; simp at e; subst e; exact ⟨_, rfl, q⟩
        | succ i => intro e; exact ih (by simpa using e)
    cases e2 : as[i]? with
    | none => rw [e2] at e; cases e
    | some w =>
      rw [e2] at e
      cases e
      obtain ⟨x, e3, q⟩ := get r e2
      exact ⟨x, by rw [e3]; rfl, q⟩
  · rw [List.getElem?_append_right (by simpa using Nat.le_of_not_lt hi)] at e
    rw [List.getElem?_replicate] at e
    split at e <;> cases e
/-- the numbers above n are forgotten -/
theorem Sim.cut {φ φ' : List Addr} {h' : Hh} {H' : Hp} {n : Nat} (sm : Sim K φ' h' H') (pre : φ <+: φ') (hn : φ.length = n) :
    Sim K φ (h'.take n) H' ∧ (∀ a, Live φ (h'.take n) a → Live φ' h' a) := by
  have le : n ≤ h'.length := by rw [← sm.len, ← hn]; exact pre.length_le
  have back : ∀ (i : Nat) (o : Option Ob), (h'.take n)[i]? = some o → h'[i]? = some o ∧ i < n := fun i o e => by
    rw [List.getElem?_take] at e
    split at e
    · exact ⟨e, by assumption⟩
    · cases e
  have less : ∀ a, Live φ (h'.take n) a → Live φ' h' a := fun a ⟨i, o, e1, e2⟩ => ⟨i, o, pre_get pre e1, (back i _ e2).1⟩
  have st : Stay H' (Live φ' h') H' (Live φ (h'.take n)) := fun a u q _ nl => ⟨q, fun l => nl (less a l)⟩
  refine ⟨⟨by rw [List.length_take, hn]; omega, fun i j a o o' e1 e2 e3 e4 => sm.inj i j a o o' (pre_get pre e1) (pre_get pre e2) (back i _ e3).1 (back j _ e4).1, fun i o e => ?_⟩, less⟩
  obtain ⟨e1, hi⟩ := back i _ e
  obtain ⟨a, e2, r⟩ := sm.ob i o e1
  obtain ⟨t, rfl⟩ := pre
  rw [List.getElem?_append_left (by omega)] at e2
  exact ⟨a, e2, r.stay st (fun _ z => z) fun _ _ z => sm.notCode z⟩
theorem trunc_ok {φ φ' : List Addr} {h h' : Hh} {H H' : Hp} {v : Vl} {x : V} {Q : VK} {E : XK} (sm : Sim K φ h H) (st : Step φ h H φ' h' H') (sm' : Sim K φ' h' H') (rv : VRep K mg φ' h' H' x v)
    (q : PoX K mg φ h H (trunc h.length v h') Q E) : Q x H' := by
  obtain ⟨c1, c2⟩ := sm'.cut st.pre sm.len
  have st2 : Stay H' (Live φ' h') H' (Live φ (h'.take h.length)) := fun a u q _ nl => ⟨q, fun l => nl (c2 a l)⟩
  have st1 : Step φ h H φ (h'.take h.length) H' := ⟨List.prefix_refl _, st.st.trans st2⟩
  cases v with
  | d z => exact q x H' φ st1 c1 (Rep.stay st2 rv)
  | x c fs =>
    obtain ⟨a, cls, dd, rfl, e1, e2, xr⟩ := rv
    exact q _ H' φ st1 c1 ⟨a, cls, dd, rfl, e1, fun l => e2 (c2 a l), xr.stay st2⟩
  | f D => exact q.elim
  | r i =>
    obtain ⟨a, ea, rfl⟩ := rv
    unfold trunc at q
    dsimp only at q
    split at q
    · rename_i hi
      have hi' : i < φ.length := by rw [sm.len]; exact hi
      obtain ⟨t, rfl⟩ := st.pre
      rw [List.getElem?_append_left hi'] at ea
      exact q _ H' φ st1 c1 ⟨a, ea, rfl⟩
    · rename_i hi
      split at q
      · rename_i o eo
        -- the object i becomes the object n
        have hl : h.length ≤ h'.length := by rw [← sm'.len, ← sm.len]; exact st.pre.length_le
        have lk : (h'.take h.length).length = h.length := by rw [List.length_take]; omega
        have nl : ¬ Live φ (h'.take h.length) a := fun ⟨j, u, e1, e2⟩ => by
          rw [List.getElem?_take] at e2
          split at e2
          · have := sm'.inj i j a o u ea (pre_get st.pre e1) eo e2
            omega
          · cases e2
        have lv : ∀ b, Live (φ ++ [a]) (h'.take h.length ++ [some o]) b ↔ Live φ (h'.take h.length) b ∨ b = a := fun b => live_new (by rw [lk, sm.len])
        have less : ∀ b, Live (φ ++ [a]) (h'.take h.length ++ [some o]) b → Live φ' h' b := fun b l => by
          rcases (lv b).mp l with l | rfl
          · exact c2 b l
          · exact ⟨i, o, ea, eo⟩
        have st3 : Stay H' (Live φ' h') H' (Live (φ ++ [a]) (h'.take h.length ++ [some o])) := fun b u q _ nb => ⟨q, fun l => nb (less b l)⟩
        have ora := sm'.at_ eo ea
        refine q _ H' (φ ++ [a]) ⟨List.prefix_append _ _, st.st.trans st3⟩ ⟨by simp [lk, sm.len], fun i1 j1 b u u' e1 e2 e3 e4 => ?_, fun i1 u e => ?_⟩ ⟨a, by rw [← sm.len]; simp, rfl⟩
        · have hgt : ∀ (k : Nat) (u : Ob), (φ ++ [a])[k]? = some b → (h'.take h.length ++ [some o])[k]? = some (some u) → (k < φ.length ∧ φ[k]? = some b ∧ (h'.take h.length)[k]? = some (some u)) ∨ (k = φ.length ∧ b = a) := fun k u e1 e2 => by
            by_cases hk : k < φ.length
            · rw [List.getElem?_append_left hk] at e1
              rw [List.getElem?_append_left (by rw [lk, ← sm.len]; exact hk)] at e2
              exact .inl ⟨hk, e1, e2⟩
            · have : k = φ.length := by
                have := (List.getElem?_eq_some_iff.mp e1).1
                simp at this
                omega
              subst this
              simp at e1
              exact .inr ⟨rfl, e1.symm⟩
          rcases hgt i1 u e1 e3 with ⟨a1, a2, a3⟩ | ⟨a1, a2⟩ <;> rcases hgt j1 u' e2 e4 with ⟨b1, b2, b3⟩ | ⟨b1, b2⟩
          · exact c1.inj i1 j1 b u u' a2 b2 a3 b3
          · subst b2; exact absurd ⟨i1, u, a2, a3⟩ nl
          · subst a2; exact absurd ⟨j1, u', b2, b3⟩ nl
          · omega
        · by_cases hk : i1 < h.length
          · rw [List.getElem?_append_left (by rw [lk]; exact hk)] at e
            obtain ⟨b, e2, r2⟩ := sm'.ob i1 u (by rw [List.getElem?_take, if_pos hk] at e; exact e)
            obtain ⟨t, et⟩ := st.pre
            rw [← et, List.getElem?_append_left (by rw [sm.len]; exact hk)] at e2
            exact ⟨b, by rw [List.getElem?_append_left (by rw [sm.len]; exact hk)]; exact e2, r2.stay st3 (fun _ z => z) fun _ _ z => sm'.notCode z⟩
          · have e0 : i1 = h.length := by
              have := (List.getElem?_eq_some_iff.mp e).1
              simp [lk] at this
              omega
            subst e0
            rw [List.getElem?_append_right (by rw [lk]; omega), lk] at e
            simp at e
            subst e
            exact ⟨a, by rw [← sm.len]; simp, ora.stay st3 (fun _ z => z) fun _ _ z => sm'.notCode z⟩
      · exact q.elim
end
/-- what stands for a def of the text -/
theorem fun_ok {P : Program} {w : World} {K : PySem.W.Frag} {mg : Str → Option Value} {base : Heap} {x qual : Str} {st : Stmt} {f : Addr} {fd : FuncData} {N ps : List Str} {k : Nat} {body : Sv} (F : Fun K x qual st f fd) (S : FnScope N ps (defScope st))
    (hb : ∀ (X : Cx) (W : WX), X.prog = P → X.w = w → X.K = K → X.mg = mg → X.base = base → X.N = N → X.env.scope = defScope st → (∀ y, X.fn y = true) → X.calm = true → Room k X.A → Takes X W → PassesOwn (model X.prog X.w) X.A X.env X.xe → X.stack = X.env :: X.outer → X.env.frame = some X.env.locals → ESs X W (defBody st) body) :
    FnOk P w K mg base (L2.CX P w) (k + 1) f fd ps (spF K mg (mkF ps.length N.length body)) := by
  refine F.okX S (fun vs H Q E ⟨φ, h, as, sm, rv, q⟩ => ?_) (fun cdv A outer s H vs Q E hr ⟨φ, h, as, sm, rv, q⟩ => ?_)
  · unfold mkF at q
    split at q
    · rename_i hl
      rw [rv.length]
      exact hl
    · exact q.elim
  · refine ⟨_, hb (cxOf (L2.CX P w) P w K mg base N qual (defScope st) f cdv A outer s H E) (fun cls d _ H => E cls d H) rfl rfl rfl rfl rfl rfl rfl (fun _ => rfl) rfl hr (takes_of rfl rfl rfl rfl) (passes_of rfl) rfl rfl, φ, h, enter N.length as, sm, enter_ok N rv, ?_⟩
    unfold mkF at q
    split at q
    · revert q
      show PoX K mg φ h H (retF h.length (body (enter N.length as) h)) Q E → _
      cases body (enter N.length as) h with
      | rt v h' => exact fun q x H' φ' st sm' rv => trunc_ok sm st sm' rv q
      | nx ρ' h' => exact fun q σ' H' φ' st sm' er => trunc_ok (v := .d .none) sm st sm' Rep.non q
      | ex c fs ρ' h' =>
        intro q cls dd σ' H' φ' st sm' er xr
        obtain ⟨c1, c2⟩ := sm'.cut st.pre sm.len
        have st2 : Stay H' (Live φ' h') H' (Live φ (h'.take h.length)) := fun a u q _ nl => ⟨q, fun l => nl (c2 a l)⟩
        exact q cls dd H' φ ⟨List.prefix_refl _, st.st.trans st2⟩ c1 ⟨xr.cl, xr.no, fun z => by
          obtain ⟨a, vs, e1, e2, e3, e4⟩ := xr.yes z
          exact ⟨a, vs, e1, e2, fun l => e3 (c2 a l), e4.stay st2⟩⟩
      | bk ρ' h' => exact fun q => q.elim
      | ct ρ' h' => exact fun q => q.elim
      | no => exact fun q => q.elim
    · exact q.elim
end Rk

/-! Rk7: defs of the text, constants of the top, the head. -/
namespace Rk
open PySem PySem.Spec L2
variable {mg : Str → Option Value}
abbrev FnP (K : PySem.W.Frag) (x : Str) (st : Stmt) (f : Addr) (fd : FuncData) : Prop := FunD K x x (defArgs st) (defBody st) (defScope st) [] [] f fd
/-! ### room: no guard stands -/
structure RoomG (k : Nat) (A : Around) : Prop where
  r : Room k A
  g : A.guards = some []
theorem RoomG.mono {j k : Nat} {A : Around} (h : RoomG k A) (hl : j ≤ k) : RoomG j A := ⟨h.r.mono hl, h.g⟩
theorem RoomG.units {k : Nat} {A : Around} (h : RoomG k A) : A.units + 64 < cLine := h.r.units
theorem RoomG.deeper {k : Nat} {A : Around} (h : RoomG (k + 1) A) (env : Env) : RoomG k (A.deeper env) := ⟨h.r.deeper env, h.g⟩
/-- what a function object keeps, where no guard stands -/
structure FnG (P : Program) (w : World) (K : PySem.W.Frag) (mg : Str → Option Value) (base : Heap) (k : Nat) (f : Addr) (fd : FuncData) (ps : List Str) (sp : Sp) : Prop where
  len : ∀ vs H Q E, sp vs H Q E → vs.length = ps.length
  run : ∀ (A : Around) (outer : List Env) (s : Shared) (H : Hp) (args : Args) (us : List Value) (vs : List V) (Q : VK) (E : XK),
    RoomG k A → Env0 P w K mg base A outer s H → BindsTo s fd args (ps.zip us) → Vals vs us → sp vs H Q E → codeAny (model P w) A (.call (.ref f) args) (CR (L2.CX P w) outer P w H s Q E) s
/-- a def by its name: what it means -/
def Df (P : Program) (w : World) (K : PySem.W.Frag) (mg : Str → Option Value) (base : Heap) (k : Nat) (x : Str) (ps : List Str) (m : Fn) : Prop :=
  ∃ f fd, mg x = some (.ref f) ∧ PySem.W.keepIn K (.ref f) = true ∧ Binds K fd ps [] ∧ FnG P w K mg base k f fd ps (spF K mg m)
abbrev WOf (E : XK) : WX := fun cls d _ H => E cls d H
/-- a function object's code -/
def CodeAt (K : PySem.W.Frag) (f : Addr) (cdv : Value) : Prop := ∃ (oc : Value) (od : Option Addr) (fd : FuncData) (osl : Array (Option Value)), K.lookup f = some ⟨oc, od, .func fd, osl⟩ ∧ fd.code = cdv
section
variable {P : Program} {w : World} {K : PySem.W.Frag} {mg : Str → Option Value} {base : Heap} {x : Str} {st : Stmt} {f : Addr} {fd : FuncData} {N ps : List Str} {k : Nat}
/-- a def of the text runs -/
theorem run_def (F : FnP K x st f fd) (S : FnScope N ps (defScope st)) {A : Around} {outer : List Env} {s : Shared} {H : Hp} {args : Args} {us : List Value} {vs : List V} {Q : VK} {E : XK} (len : vs.length = ps.length) (hr : RoomG (k + 1) A)
    (e0 : Env0 P w K mg base A outer s H) (hbd : BindsTo s fd args (ps.zip us)) (r : Vals vs us)
    (hb : ∀ cdv : Value, CodeAt K f cdv → RoomG k (A.deeper (PyProof.Rows.envOfC x (defScope st) s.heap.objs.size f cdv)) →
      ∃ t, PSs (cxOf (L2.CX P w) P w K mg base N x (defScope st) f cdv A outer s H E) (defBody st) t ∧ t { nx := fun _ H' => Q .non H', rt := Q } (start N vs) H) :
    codeAny (model P w) A (.call (.ref f) args) (CR (L2.CX P w) outer P w H s Q E) s := by
  obtain ⟨oc, od, dV, kV, doc, pm, an, cdv, ct, osl, rfl, lk, hcd, -, -⟩ := F.ex
  have old : ∀ b o, base.get? b = some o → s.heap.get? b = some o := fun b o e => (e0.bs b o e).1
  have KX : K.In s.heap := e0.mod.kin.keeps old
  have kinds : ∀ y ∈ ps.zip us, (defScope st).names.lookup y.1 = some .local ∨ ((defScope st).names.lookup y.1 = some .cell ∧ ((cellsFrom (s.heap.objs.size + 1) (defScope st).names []).lookup y.1).isSome = true) := by
    rintro ⟨n, v⟩ hy
    exact (S.par n (List.of_mem_zip hy).1).imp id fun q => ⟨q, PySem.W.cellsFrom_some _ _ _ (.inl q)⟩
  refine codeAny_call_function hr.r.depth (KX _ _ lk) rfl S.co S.gen rfl (PySem.W.codeRec_of KX hcd) (hbd _ _ _ _ (wpAny_newFunctionEnv_cells S.kind kinds ?_))
  rintro env rfl s1 x1
  refine ⟨(e0.mod.nolimit.keeps old).keeps x1.toInCall.keep, codeAny_func ?_⟩
  obtain ⟨t, ht, hq⟩ := hb cdv ⟨_, _, _, _, lk, rfl⟩ (hr.deeper _)
  have I := inv_start (CX := L2.CX P w) (E := E) S hr.r.hd e0 len r x1
  refine wpAny_mono (ht.run [] s1 (start N vs) H _ I hq) ?_ fun _ _ z => z
  intro fl s' hs
  cases fl with
  | ret u =>
    obtain ⟨v, σ', H', J, rv, q⟩ := hs
    exact ⟨v, H', J.os, J.bare, J.base, J.hok, rv, q⟩
  | next =>
    obtain ⟨σ', H', J, q⟩ := hs
    exact ⟨.non, H', J.os, J.bare, J.base, J.hok, rfl, q⟩
  | brk => exact hs.elim fun _ z => z.elim fun _ z => z.2.elim
  | cont => exact hs.elim fun _ z => z.elim fun _ z => z.2.elim
theorem spF_len {vs : List V} {H : Hp} {Q : VK} {E : XK} {n N : Nat} {body : Sv} (h : spF K mg (mkF n N body) vs H Q E) : vs.length = n := by
  obtain ⟨φ, h, as, sm, rv, q⟩ := h
  unfold mkF at q
  split at q
  · rename_i hl
    rw [rv.length]
    exact hl
  · exact q.elim
/-- a def's body, entered -/
theorem enter_body {cdv : Value} {A : Around} {outer : List Env} {s : Shared} {H : Hp} {vs : List V} {Q : VK} {E : XK} {n : Nat} {body : Sv} (hE : ESs (cxOf (L2.CX P w) P w K mg base N x (defScope st) f cdv A outer s H E) (WOf E) (defBody st) body) (h : spF K mg (mkF n N.length body) vs H Q E) :
    ∃ t, PSs (cxOf (L2.CX P w) P w K mg base N x (defScope st) f cdv A outer s H E) (defBody st) t ∧ t { nx := fun _ H' => Q .non H', rt := Q } (start N vs) H := by
  obtain ⟨φ, h, as, sm, rv, q⟩ := h
  refine ⟨_, hE, φ, h, enter N.length as, sm, enter_ok N rv, ?_⟩
  unfold mkF at q
  split at q
  · revert q
    show PoX K mg φ h H (retF h.length (body (enter N.length as) h)) Q E → _
    cases body (enter N.length as) h with
    | rt v h' => exact fun q x H' φ' st sm' rv => trunc_ok sm st sm' rv q
    | nx ρ' h' => exact fun q σ' H' φ' st sm' er => trunc_ok (v := .d .none) sm st sm' Rep.non q
    | ex c fs ρ' h' =>
      intro q cls dd σ' H' φ' st sm' er xr
      obtain ⟨c1, c2⟩ := sm'.cut st.pre sm.len
      have st2 : Stay H' (Live φ' h') H' (Live φ (h'.take h.length)) := fun a u q _ nl => ⟨q, fun l => nl (c2 a l)⟩
      exact q cls dd H' φ ⟨List.prefix_refl _, st.st.trans st2⟩ c1 ⟨xr.cl, xr.no, fun z => by
        obtain ⟨a, vs, e1, e2, e3, e4⟩ := xr.yes z
        exact ⟨a, vs, e1, e2, fun l => e3 (c2 a l), e4.stay st2⟩⟩
    | bk ρ' h' => exact fun q => q.elim
    | ct ρ' h' => exact fun q => q.elim
    | no => exact fun q => q.elim
  · exact q.elim
theorem fnOk_of {body : Sv} (F : FnP K x st f fd) (S : FnScope N ps (defScope st))
    (hb : ∀ (cdv : Value) (A : Around) (outer : List Env) (s : Shared) (H : Hp) (E : XK), CodeAt K f cdv → RoomG k (A.deeper (PyProof.Rows.envOfC x (defScope st) s.heap.objs.size f cdv)) → ESs (cxOf (L2.CX P w) P w K mg base N x (defScope st) f cdv A outer s H E) (WOf E) (defBody st) body) :
    FnG P w K mg base (k + 1) f fd ps (spF K mg (mkF ps.length N.length body)) :=
  ⟨fun _ _ _ _ h => spF_len h, fun A outer s H args us vs Q E hr e0 hbd r h => run_def F S (spF_len h) hr e0 hbd r fun cdv hc hr' => enter_body (hb cdv A outer s H E hc hr') h⟩
end
theorem cx_no {P : Program} {w : World} {outer : List Env} (H : Hp) (s : Shared) (e : Value) (s' : Shared) (h : L2.CX P w outer H s (fun _ _ _ => False) e s') : False := by
  obtain ⟨_, _, _, _, _, _, _, _, _, _, _, _, z⟩ := h
  exact z
theorem df_of {P : Program} {w : World} {K : PySem.W.Frag} {mg : Str → Option Value} {base : Heap} {x : Str} {st : Stmt} {f : Addr} {fd : FuncData} {N ps : List Str} {k kk NN : Nat} {body : Sv} (F : FnP K x st f fd) (g : mg x = some (.ref f)) (S : FnScope N ps (defScope st)) (e1 : ps.length = kk) (e2 : N.length = NN)
    (b : ∀ (dV kV doc pm : Value) (an : Option Addr) (cdv ct : Value) (us : List Value), us.length = ps.length → bindArgs (PySem.W.fnOf x x (defArgs st) (defBody st) (defScope st) .none kV doc pm an cdv ct) ⟨us, []⟩ = pure (ps.zip us))
    (hb : ∀ (cdv : Value) (A : Around) (outer : List Env) (s : Shared) (H : Hp) (E : XK), RoomG k (A.deeper (PyProof.Rows.envOfC x (defScope st) s.heap.objs.size f cdv)) → ESs (cxOf (L2.CX P w) P w K mg base N x (defScope st) f cdv A outer s H E) (WOf E) (defBody st) body) :
    Df P w K mg base (k + 1) x ps (mkF kk NN body) := by
  subst e1 e2
  exact ⟨f, fd, g, F.kp, FunD.bindsN F fun kV doc pm an cdv ct us hl => b .none kV doc pm an cdv ct us hl, fnOk_of F S fun cdv A outer s H E _ => hb cdv A outer s H E⟩
theorem law_of {P : Program} {w : World} {K : PySem.W.Frag} {mg : Str → Option Value} {base : Heap} {x : Str} {st : Stmt} {f : Addr} {fd : FuncData} {N ps : List Str} {k kk NN : Nat} {body : Sv} (F : FnP K x st f fd) (S : FnScope N ps (defScope st)) (e1 : ps.length = kk) (e2 : N.length = NN)
    (hb : ∀ (cdv : Value) (A : Around) (outer : List Env) (s : Shared) (H : Hp) (E : XK), RoomG k (A.deeper (PyProof.Rows.envOfC x (defScope st) s.heap.objs.size f cdv)) → ESs (cxOf (L2.CX P w) P w K mg base N x (defScope st) f cdv A outer s H E) (WOf E) (defBody st) body) :
    FnG P w K mg base (k + 1) f fd ps (spF K mg (mkF kk NN body)) := by
  subst e1 e2
  exact fnOk_of F S fun cdv A outer s H E _ => hb cdv A outer s H E
/-- the maker of lambdas: where its code object and that one's table stand -/
structure LamT (K : PySem.W.Frag) (mg : Str → Option Value) (base : Heap) (x : Str) (c P : Addr) : Prop where
  at_ : PySem.W.tabIn K x = some (c, P)
  tb : LamX.TabB base mg c P
  cd : ∀ f cdv, mg x = some (.ref f) → CodeAt K f cdv → cdv = .ref c
theorem df_ofT {P : Program} {w : World} {K : PySem.W.Frag} {mg : Str → Option Value} {base : Heap} {x : Str} {st : Stmt} {f : Addr} {fd : FuncData} {N ps : List Str} {k kk NN : Nat} {body : Sv} {c pt : Addr} (T : LamT K mg base x c pt) (F : FnP K x st f fd) (g : mg x = some (.ref f)) (S : FnScope N ps (defScope st)) (e1 : ps.length = kk) (e2 : N.length = NN)
    (b : ∀ (dV kV doc pm : Value) (an : Option Addr) (cdv ct : Value) (us : List Value), us.length = ps.length → bindArgs (PySem.W.fnOf x x (defArgs st) (defBody st) (defScope st) .none kV doc pm an cdv ct) ⟨us, []⟩ = pure (ps.zip us))
    (hb : ∀ (A : Around) (outer : List Env) (s : Shared) (H : Hp) (E : XK), RoomG k (A.deeper (PyProof.Rows.envOfC x (defScope st) s.heap.objs.size f (.ref c))) → ESs (cxOf (L2.CX P w) P w K mg base N x (defScope st) f (.ref c) A outer s H E) (WOf E) (defBody st) body) :
    Df P w K mg base (k + 1) x ps (mkF kk NN body) := by
  subst e1 e2
  refine ⟨f, fd, g, F.kp, FunD.bindsN F fun kV doc pm an cdv ct us hl => b .none kV doc pm an cdv ct us hl, fnOk_of F S fun cdv A outer s H E hc hr => ?_⟩
  have e := T.cd f cdv g hc
  subst e
  exact hb A outer s H E hr
theorem law_ofT {P : Program} {w : World} {K : PySem.W.Frag} {mg : Str → Option Value} {base : Heap} {x : Str} {st : Stmt} {f : Addr} {fd : FuncData} {N ps : List Str} {k kk NN : Nat} {body : Sv} {c pt : Addr} (T : LamT K mg base x c pt) (g : mg x = some (.ref f)) (F : FnP K x st f fd) (S : FnScope N ps (defScope st)) (e1 : ps.length = kk) (e2 : N.length = NN)
    (hb : ∀ (A : Around) (outer : List Env) (s : Shared) (H : Hp) (E : XK), RoomG k (A.deeper (PyProof.Rows.envOfC x (defScope st) s.heap.objs.size f (.ref c))) → ESs (cxOf (L2.CX P w) P w K mg base N x (defScope st) f (.ref c) A outer s H E) (WOf E) (defBody st) body) :
    FnG P w K mg base (k + 1) f fd ps (spF K mg (mkF kk NN body)) := by
  subst e1 e2
  refine fnOk_of F S fun cdv A outer s H E hc hr => ?_
  have e := T.cd f cdv g hc
  subst e
  exact hb A outer s H E hr
/-! ### in a def's body -/
section
variable {P : Program} {w : World} {K : PySem.W.Frag} {mg : Str → Option Value} {base : Heap} {N : List Str} {x : Str} {sc : Scope} {f : Addr} {cdv : Value} {A : Around} {outer : List Env} {s : Shared} {H : Hp} {E : XK}
theorem tk_of : Takes (cxOf (L2.CX P w) P w K mg base N x sc f cdv A outer s H E) (WOf E) := takes_of rfl rfl rfl rfl
theorem po_of : PassesOwn (model (cxOf (L2.CX P w) P w K mg base N x sc f cdv A outer s H E).prog (cxOf (L2.CX P w) P w K mg base N x sc f cdv A outer s H E).w) (cxOf (L2.CX P w) P w K mg base N x sc f cdv A outer s H E).A (cxOf (L2.CX P w) P w K mg base N x sc f cdv A outer s H E).env (cxOf (L2.CX P w) P w K mg base N x sc f cdv A outer s H E).xe := passes_of rfl
end
theorem run_G {X : Cx} {k : Nat} {f : Addr} {fd : FuncData} {ps : List Str} {sp : Sp} {E : L2.St → XK} {pins : List (Addr × Obj)} {σ : L2.St} {H : Hp} {s : Shared} {Q : VK} {us : List Value} {vs : List V} (F : FnG X.prog X.w X.K X.mg X.base k f fd ps sp) (hr : RoomG k X.A) (hb : Binds X.K fd ps [])
    (hx : PassesAt (L2.CX X.prog X.w) X σ (E σ)) (I : Inv X pins σ H s) (r : Vals vs us) (h : sp vs H Q (E σ)) : wpAny (model X.prog X.w) X.A (call (.ref f) us) (EP X pins σ Q) X.xe s := by
  have b := hb s us I.kIn (by rw [List.append_nil, ← r.length]; exact F.len _ _ _ _ h)
  rw [List.append_nil] at b
  refine wpAny_call (codeAny_mono (F.run X.A X.stack s H ⟨us, []⟩ us vs Q (E σ) hr I.env0 b r h) ?_)
  intro r s' hq
  match r, hq with
  | .error e, hq => exact hx pins H s e s' I hq
  | .ok (.ret u), hq => exact I.after hq
/-- a call of a def by its name -/
theorem ec {X : Cx} {W : WX} {k j : Nat} {y : Str} {ps : List Str} {m : Fn} {e : Expr} {es : List Expr} {fs : Av} {p pos : Pos} (D : Df X.prog X.w X.K X.mg X.base k y ps m) (hr : RoomG j X.A) (tk : Takes X W) (ha : EA X W (e :: es) fs) (hkj : k ≤ j := by decide) (hg : Gl X y := by rfl)
    (hdb : (y == ("__debug__" : Str)) = false := by decide) (he : starEach (e :: es) X.env = (false, eval e X.env) :: starEach es X.env := by rfl) (hpl : (backTo pos (starEach es X.env)).any (·.1) = false := by rfl) :
    EE X W (.Call (.Name y p) (e :: es) [] pos) (eCall m fs) := by
  obtain ⟨f, fd, g, kp, b, F⟩ := D
  have rd : PE X (.Call (.Name y p) (e :: es) [] pos) (tCallS (spF X.K X.mg m) (fun σ => WE W σ) (tA X.K X.mg W fs)) := by
    constructor
    intro pins s σ H Q I h
    refine wpAny_Call_Name_kw (ld_glob I hg g (PySem.W.callWith_K (h₀ := X.base) I.ok.mod.kin kp (thn (ha.run pos pins s σ H _ I h) ?_) he hpl) hdb)
    rintro us s1 ⟨vs, H1, I1, r, q⟩
    exact ⟨I1.kIn, run_G (E := fun σ => WE W σ) F (hr.mono hkj) b (passAt tk σ) I1 r q⟩
  exact PE.of rd fun σ H Q ⟨φ, h, ρ, sm, er, q⟩ => ⟨φ, h, ρ, sm, er, PoX.goA q fun xs vs h1 H1 φ1 st sm1 rvs q1 => ⟨φ1, h1, vs, sm1, rvs, q1⟩⟩
theorem ok_ipadd {K : PySem.W.Frag} : Ok2 K mg (ipI fun i j => i + j) (gInt fAdd) := gInt_ok fun a b d H Q e k => by
  cases e
  exact ⟨a, b, rfl, rfl, k _ fun _ => .int _⟩
theorem ok_ipsub {K : PySem.W.Frag} : Ok2 K mg (ipI fun i j => i - j) (gInt fSub) := gInt_ok fun a b d H Q e k => by
  cases e
  exact ⟨a, b, rfl, rfl, k _ fun _ => .int _⟩
/-! ### constants of the top -/
def GConst (K : PySem.W.Frag) (mg : Str → Option Value) (x : Str) (d : Da) : Prop := ∃ v u, mg x = some u ∧ RelV v u ∧ KRep K v d
theorem eg {X : Cx} {W : WX} {y : Str} {d : Da} {pos : Pos} (c : GConst X.K X.mg y d) (hg : Gl X y := by rfl) (hd : (y == ("__debug__" : Str)) = false := by decide) : EE X W (.Name y pos) (eD d) := by
  obtain ⟨v, u, h1, h2, h3⟩ := c
  exact ee_glob hg h1 h2 h3 hd
mutual
def cB (K : PySem.W.Frag) : Da → Value → Bool
  | .none, .none => true
  | .bool b, .bool c => b == c
  | .int i, .int j _ => decide (i = j)
  | .str x, .str y _ => decide (x = y)
  | .tuple ds, .ref a => match K.lookup a with
    | some ⟨.type c, _, .seq its _, _⟩ => decide (c = "tuple") && (decide (its.size ≤ sizeLine) && cBs K ds its.toList)
    | _ => false
  | _, _ => false
def cBs (K : PySem.W.Frag) : List Da → List Value → Bool
  | [], [] => true
  | d :: ds, u :: us => cB K d u && cBs K ds us
  | _, _ => false
end
mutual
theorem cB_ok {K : PySem.W.Frag} : ∀ {d : Da} {u : Value}, cB K d u = true → ∃ v, RelV v u ∧ KRep K v d
  | .none, .none, _ => ⟨.non, rfl, fun _ _ => .non⟩
  | .bool b, .bool c, h => by
    have e : b = c := by
      unfold cB at h
      exact eq_of_beq h
    subst e
    exact ⟨.bl b, rfl, fun _ _ => .bl b⟩
  | .int i, .int j t, h => by
    have e : i = j := by
      unfold cB at h
      exact of_decide_eq_true h
    subst e
    exact ⟨.int i, ⟨t, rfl⟩, fun _ _ => .int i⟩
  | .str i, .str j t, h => by
    have e : i = j := by
      unfold cB at h
      exact of_decide_eq_true h
    subst e
    exact ⟨.str i, ⟨t, rfl⟩, fun _ _ => .str i⟩
  | .tuple ds, .ref a, h => by
    unfold cB at h
    split at h
    · rename_i c dd its n sl q
      rw [Bool.and_eq_true, Bool.and_eq_true] at h
      obtain ⟨h1, h2, h3⟩ := h
      obtain ⟨vs, r1, r2⟩ := cBs_ok h3
      exact ⟨.ref a, rfl, fun H M => .tupK ⟨_, its, n, q, congrArg Value.type (of_decide_eq_true h1), rfl, of_decide_eq_true h2, r1⟩ (r2 H M)⟩
    · cases h
theorem cBs_ok {K : PySem.W.Frag} : ∀ {ds : List Da} {us : List Value}, cBs K ds us = true → ∃ vs, Vals vs us ∧ ∀ H M, Reps K H M vs ds
  | [], [], _ => ⟨[], .nil, fun _ _ => .nil⟩
  | d :: ds, u :: us, h => by
    unfold cBs at h
    rw [Bool.and_eq_true] at h
    obtain ⟨v, r1, r2⟩ := cB_ok h.1
    obtain ⟨vs, s1, s2⟩ := cBs_ok h.2
    exact ⟨v :: vs, .cons r1 s1, fun H M => .cons (r2 H M) (s2 H M)⟩
end
def gB (K : PySem.W.Frag) (x : Str) (d : Da) : Bool := match PySem.W.nsIn K mainGlobals x with
  | some (some u) => cB K d u
  | _ => false
theorem gB_ok {K : PySem.W.Frag} {h : Heap} {mg : Str → Option Value} (X : K.In h) (G : h.Ns mainGlobals mg) {x : Str} {d : Da} (c : gB K x d = true) : GConst K mg x d := by
  unfold gB at c
  split at c
  · rename_i u e
    obtain ⟨v, r1, r2⟩ := cB_ok c
    exact ⟨v, u, PySem.W.mg_of X G e, r1, r2⟩
  · cases c
/-! ### the Hook -/
abbrev AlR : Type := He.AlD × Bool
def obsR (n : Nat) (fa : List He.Fa) (fn : List He.DefD) (ex : PySem.W.Frag → Bool) (g : Addr → Option Obj) : AlR := (He.obsD fa fn (He.frG g (He.asD g n)), ex (He.frG g (He.asD g n)))
def SaysR (fa : List He.Fa) (fn : List He.DefD) (ex : PySem.W.Frag → Bool) (K : PySem.W.Frag) : Prop := He.SaysD fa fn K ∧ ex K = true
def hookR (n : Nat) (fa : List He.Fa) (fn : List He.DefD) (ex : PySem.W.Frag → Bool) : PySem.W.Hook where
  α := AlR
  obs := fun s => obsR n fa fn ex s.heap.get?
  val := fun _ => (He.valD fn, true)
  says := fun _ h => ∃ K : PySem.W.Frag, K.In h ∧ SaysR fa fn ex K
  of := fun _ _ e => ⟨_, He.frG_in, congrArg (fun z : AlR => z.1) e, congrArg (fun z : AlR => z.2) e⟩
  keeps := fun _ _ _ ⟨K, hK, c⟩ k => ⟨K, PySem.W.Frag.In.keeps hK k, c⟩
theorem obsR_eq {n : Nat} {fa : List He.Fa} {fn : List He.DefD} {ex : PySem.W.Frag → Bool} {g : Addr → Option Obj} {s : Shared} (h : ∀ a, g a = s.heap.get? a) : obsR n fa fn ex g = (hookR n fa fn ex).obs s := by
  have e : g = s.heap.get? := funext h
  rw [e] <;> rfl
/-- the script's data -/
theorem script_rep {K : PySem.W.Frag} {H : Hp} {a : Addr} {ns : List Int} (h : SqL K H a (ns.map V.int)) : Sim K [] [] H ∧ VReps K mg [] [] H [.ref a] [.d (.list (ns.map PyData.int))] := by
  have nl : ∀ b, ¬ Live [] [] b := fun b ⟨i, o, e, _⟩ => by simp at e
  have rs : ∀ ns : List Int, Reps K H (Live [] []) (ns.map V.int) (ns.map PyData.int) := fun ns => by
    induction ns with
    | nil => exact .nil
    | cons n ns ih => exact .cons (.int n) ih
  refine ⟨⟨rfl, fun i j a o o' e => by simp at e, fun i o e => by simp at e⟩, .cons ?_ .nil⟩
  rcases h with h | h
  · exact Rep.lst h (nl a) (rs ns)
  · exact Rep.lstK h (rs ns)
/-- the law's end -/
theorem law_sp {K : PySem.W.Frag} {mg : Str → Option Value} {m : Fn} {H : Hp} {a : Addr} {ns : List Int} (h : SqL K H a (ns.map V.int)) {h' : Hh} (e : m [.d (.list (ns.map PyData.int))] [] = .ok (.d (.bool true)) h') :
    spF K mg m [.ref a] H (fun v _ => v = .bl true) fun _ _ _ => False := by
  obtain ⟨s1, s2⟩ := script_rep h
  refine ⟨[], [], _, s1, s2, ?_⟩
  rw [e]
  exact fun x H' φ' _ _ r => VRep.bl r
end Rk
namespace Rk
open PySem PySem.Spec L2 PyProof.Rows
/-- the script's abstract heap: nothing but the script, as it stands -/
def scrH (a : Addr) (vs : List Value) (ns : List Int) : Hp := fun b => if b = a then some (.frz { cls := .type "list", data := .seq vs.toArray } (.lst (ns.map V.int))) else none
/-- the law's call from a ground -/
theorem call_from {P : Program} {w : World} {K : PySem.W.Frag} {mg mb : Str → Option Value} {k : Nat} {fa a : Addr} {fd : FuncData} {x : Str} {sp : Sp} {s : Shared} {vs : List Value} {H : Hp}
    (KX : K.In s.heap) (g1 : s.heap.Ns mainGlobals mg) (g2 : s.heap.Ns builtinsNs mb) (g3 : ∀ x : Str, x ≠ "__name__" → mb x = bootBuiltins x) (g4 : s.heap.NoLimit) (g5 : s.gens = #[])
    (ha : s.heap.get? a = some { cls := .type "list", data := .seq vs.toArray }) (hr : RoomG k callerA)
    (F : ∀ base : Heap, K.In base → base.Ns mainGlobals mg → FnG P w K mg base k fa fd [x] sp) (hbind : ∀ (s : Shared) (u : Value), BindsTo s fd ⟨[u], []⟩ [(x, u)])
    (hO : Only H) (hsp : sp [.ref a] H (fun v _ => v = .bl true) fun _ _ _ => False) (hok : HOk P w H s.heap) (hA : ∀ b, H b ≠ none → b = a) (hK : H a ≠ none → K.lookup a = none) :
    codeAny (model P w) callerA (.call (.ref fa) ⟨[.ref a], []⟩) (fun r s' => r = .ok (.ret (.bool true)) ∧ OldK s.heap s'.heap ∧ s'.os = s.os ∧ AllBare s'.gens) s := by
  have hid : ∀ {b : Addr} {o : Obj}, s.heap.get? b = some o → (H b ≠ none → False) → (hidT s.heap H).get? b = some o := fun {b o} e n => hidT_get e (by
    cases q : H b with
    | none => rfl
    | some u => exact (n (by rw [q]; exact nofun)).elim)
  have dic : ∀ {b : Addr} {o : Obj} {es : Array DictEntry} {ep : Nat}, s.heap.get? b = some o → o.data = .dict es ep → H b ≠ none → False := fun {b o es ep} e d n => by
    have := hA b n
    subst this
    rw [ha] at e
    cases e
    cases d
  have ns2 : ∀ {b : Addr} {m : Str → Option Value}, s.heap.Ns b m → (hidT s.heap H).Ns b m := fun ⟨o, es, ep, e, d, r⟩ => ⟨o, es, ep, hid e (dic e d), d, r⟩
  have kin : K.In (hidT s.heap H) := fun b o e => hid (KX b o e) fun n => by
    have := hA b n
    subst this
    rw [hK n] at e
    cases e
  obtain ⟨mc, l1, l2⟩ := g4
  have M : Mod K mg (hidT s.heap H) := ⟨kin, ns2 g1, ⟨mb, ns2 g2, g3⟩, mc, ns2 l1, l2⟩
  have e0 : Env0 P w K mg (hidT s.heap H) callerA [] s H := ⟨rfl, M, fun _ _ e => of_hidT e, Nat.le_of_eq (hidT_size _ _), trivial, nofun, hok, .of_eq g5⟩
  refine codeAny_mono ((F _ kin (ns2 g1)).run callerA [] s H ⟨[.ref a], []⟩ [.ref a] [.ref a] _ _ hr e0 (hbind s (.ref a)) (.cons rfl .nil) hsp) ?_
  intro r s' h
  match r, h with
  | .error e, h => exact (cx_no H s e s' h).elim
  | .ok (.ret u), h =>
    obtain ⟨v, H', os, bare, un, hok', r', q⟩ := h
    cases (show v = .bl true from q)
    cases (show u = Value.bool true from r')
    refine ⟨rfl, OldK.of_keep fun b o e => ?_, os, bare⟩
    rcases hO b with z | ⟨ob, xs, z⟩
    · exact un.keep b o e z nofun nofun
    · have e1 := (hok b _ z).1
      rw [e] at e1
      cases e1
      exact (hok' b _ (un.frzs b o _ z)).1
theorem walkG {l : PySem.W.OpenLaw} {n k : Nat} {q : Program} {loose : List Str} {XP : (Str → Option Value) → Heap → Prop} {YP : World → Heap → Prop} {d : DefRec} {x : Str} (hn : l.most = some n) (hn2 : n ≤ sizeLine) (hdf : d.params.defaults = []) (hr : RoomG k callerA)
    (F : ∀ (w : World) (mg : Str → Option Value) (fa : Addr) (h : Heap), YP w h → h.Ns mainGlobals mg → mg d.name = some (.ref fa) → ∃ (K : PySem.W.Frag) (fd : FuncData) (sp : Sp), K.In h ∧ (∀ (s : Shared) (u : Value), BindsTo s fd ⟨[u], []⟩ [(x, u)]) ∧
        (∀ (H : Hp) (a : Addr) (ns : List Int), ns.length ≤ n → Only H → SqL K H a (ns.map V.int) → sp [.ref a] H (fun v _ => v = .bl true) fun _ _ _ => False) ∧ ∀ base : Heap, K.In base → base.Ns mainGlobals mg → FnG l.prog w K mg base k fa fd [x] sp) :
    PySem.W.WalkO q loose XP YP l.row.toRowW d [] (fun f vs => PySem.call f vs) := by
  refine Att.attach_call hn hdf ?_
  intro w s₀ s mg mb fa o pm cd doc a vs ns G Y ho hd hcd hmg hobj hints hlen hg
  obtain ⟨K, fd, sp, KX, hb, hsp, hF⟩ := F w mg fa _ Y G.T.g hmg
  have rv := vals_ints hints
  have sz : ns.length ≤ sizeLine := Nat.le_trans hlen hn2
  have go := fun H => call_from (H := H) KX G.T.g G.T.b G.T.builtins G.T.nolimit hg hobj hr hF hb
  cases hk : K.lookup a with
  | some o' =>
    have e := KX a o' hk
    rw [hobj] at e
    cases e
    have sq : SqL K (fun _ => none) a (ns.map V.int) := .inr ⟨_, vs.toArray, _, hk, rfl, rfl, rfl, by rw [List.size_toArray, hints.length]; exact sz, by simpa using rv⟩
    exact go _ (fun _ => .inl rfl) (hsp _ a ns hlen (fun _ => .inl rfl) sq) (fun b u z => by cases (show (none : Option HO) = some u from z)) (fun b z => absurd rfl z) fun z => absurd rfl z
  | none =>
    have at_ : scrH a vs ns a = some (.frz { cls := .type "list", data := .seq vs.toArray } (.lst (ns.map V.int))) := if_pos rfl
    have only : Only (scrH a vs ns) := fun b => by
      by_cases e : b = a
      · exact .inr ⟨_, _, if_pos e⟩
      · exact .inl (if_neg e)
    have sq : SqL K (scrH a vs ns) a (ns.map V.int) := .inl (.inr ⟨_, at_⟩)
    have only_a : ∀ b, scrH a vs ns b ≠ none → b = a := fun b z => by
      by_cases e : b = a
      · exact e
      · exact absurd (if_neg e) z
    refine go _ only (hsp _ a ns hlen only sq) (fun b u z => ?_) only_a fun _ => hk
    have e := only_a b (by rw [z]; exact nofun)
    subst e
    rw [at_] at z
    cases z
    exact ⟨hobj, by rw [List.length_map]; exact sz, vs, _, rv, hobj⟩
end Rk

/-! Rk8: reckoning with meanings. -/
namespace Rk
open PySem PySem.Spec L2
/-! ### places of written tuples -/
section
variable {a0 a1 a2 a3 a4 a5 a6 : Da} {r : List Da} {h : Hh}
theorem ixN_nat {n k : Nat} (hk : k < n) : ixN n (k : Int) = some k := by
  unfold ixN
  rw [if_pos (by omega), if_pos (by omega)]
  simp
theorem atI_get0 {α : Type} {xs : List α} {k : Nat} {v : α} (e : xs[k]? = some v) : atI xs (k : Int) = some v := L2.atI_nat e
theorem gIx_nat {xs : List Da} {k : Nat} {v : Da} (e : xs[k]? = some v) : gIx (.d (.tuple xs)) (.d (.int (k : Int))) h = some (.d v, h) := by
  unfold gIx
  dsimp only
  rw [atI_get0 e]
  rfl
theorem ix0 : gIx (.d (.tuple (a0 :: r))) (.d (.int 0)) h = some (.d a0, h) := gIx_nat (k := 0) rfl
theorem ix1 : gIx (.d (.tuple (a0 :: a1 :: r))) (.d (.int 1)) h = some (.d a1, h) := gIx_nat (k := 1) rfl
theorem ix2 : gIx (.d (.tuple (a0 :: a1 :: a2 :: r))) (.d (.int 2)) h = some (.d a2, h) := gIx_nat (k := 2) rfl
theorem ix3 : gIx (.d (.tuple (a0 :: a1 :: a2 :: a3 :: r))) (.d (.int 3)) h = some (.d a3, h) := gIx_nat (k := 3) rfl
theorem ix4 : gIx (.d (.tuple (a0 :: a1 :: a2 :: a3 :: a4 :: r))) (.d (.int 4)) h = some (.d a4, h) := gIx_nat (k := 4) rfl
theorem ix5 : gIx (.d (.tuple (a0 :: a1 :: a2 :: a3 :: a4 :: a5 :: r))) (.d (.int 5)) h = some (.d a5, h) := gIx_nat (k := 5) rfl
theorem gIxL {n : Nat} {xs : List Da} {k : Nat} {v : Da} (e : h[n]? = some (some (.lst xs))) (ev : xs[k]? = some v) : gIx (.r n) (.d (.int (k : Int))) h = some (.d v, h) := by
  unfold gIx asL
  dsimp only
  rw [e]
  dsimp only
  rw [atI_get0 ev]
  rfl
theorem gIxF {xs : List Da} {k : Nat} {v : Da} (ev : xs[k]? = some v) : gIx (.d (.list xs)) (.d (.int (k : Int))) h = some (.d v, h) := by
  unfold gIx asL
  dsimp only
  rw [atI_get0 ev]
  rfl
end
/-! ### one step each -/
section
variable {ρ : En} {h h1 : Hh} {v w : Vl} {f g : Ev} {i : Nat} {a b : Int}
theorem eVar_at (e : ρ[i]? = some (some v)) : eVar i ρ h = .ok v h := by
  unfold eVar
  rw [e]
theorem eD_eq {d : Da} : eD d ρ h = .ok (.d d) h := rfl
theorem fAdd_eq : fAdd a b = some (.int (a + b)) := rfl
theorem fSub_eq : fSub a b = some (.int (a - b)) := rfl
theorem fMul_eq (h : IntMulOk a b) : fMul a b = some (.int (a * b)) := if_pos h
theorem fDiv_eq (h0 : b ≠ 0) (h1 : Builtin.divisionGoesByPylong a b = false) : fDiv a b = some (.int (a.fdiv b)) := if_pos ⟨h0, h1⟩
theorem fMod_eq (h0 : b ≠ 0) : fMod a b = some (.int (a.fmod b)) := if_pos h0
theorem fLt_eq : fLt a b = some (.bool (decide (a < b))) := rfl
theorem fLe_eq : fLe a b = some (.bool (decide (a ≤ b))) := rfl
theorem fGt_eq : fGt a b = some (.bool (decide (b < a))) := rfl
theorem fGe_eq : fGe a b = some (.bool (decide (b ≤ a))) := rfl
theorem gInt_eq {F : Int → Int → Option Da} : gInt F (.d (.int a)) (.d (.int b)) h = (F a b).map fun z => (.d z, h) := rfl
theorem gAdd_int : gAdd (.d (.int a)) (.d (.int b)) h = some (.d (.int (a + b)), h) := rfl
theorem gAbs_eq : gAbs [.d (.int a)] h = some (.d (.int (if a < 0 then -a else a)), h) := rfl
theorem truO_b {b : Bool} : truO (.d (.bool b)) h = .ok b h := rfl
theorem fzs_nil : fzs [] h = some ([], h) := rfl
theorem fzs_d {x : Da} {vs : List Vl} : fzs (.d x :: vs) h = (fzs vs h).map fun q => (x :: q.1, q.2) := rfl
theorem So.then_nx {f : Sv} : (So.nx ρ h).then f = f ρ h := rfl
theorem So.then_rt {f : Sv} : (So.rt v h).then f = .rt v h := rfl
theorem fit_lit {n : Nat} (e : n ≤ 16777216) : fitB n = true := fitB_ok e
end
/-! ### sizes -/
/-- below 2 ^ n in size -/
def Bd (n : Nat) (x : Int) : Prop := x.natAbs < 2 ^ n
theorem Bd.mono {n m : Nat} {x : Int} (h : Bd n x) (hl : n ≤ m) : Bd m x := Nat.lt_of_lt_of_le h (Nat.pow_le_pow_right (by decide) hl)
theorem Bd.mul {n m : Nat} {x y : Int} (hx : Bd n x) (hy : Bd m y) : Bd (n + m) (x * y) := by
  unfold Bd at *
  rw [Int.natAbs_mul, Nat.pow_add]
  exact Nat.mul_lt_mul'' hx hy
theorem Bd.add {n m : Nat} {x y : Int} (hx : Bd n x) (hy : Bd m y) : Bd (max n m + 1) (x + y) := by
  have h1 := hx.mono (Nat.le_max_left n m)
  have h2 := hy.mono (Nat.le_max_right n m)
  unfold Bd at *
  rw [Nat.pow_succ]
  omega
theorem Bd.neg {n : Nat} {x : Int} (hx : Bd n x) : Bd n (-x) := by
  unfold Bd at *
  omega
theorem Bd.sub {n m : Nat} {x y : Int} (hx : Bd n x) (hy : Bd m y) : Bd (max n m + 1) (x - y) := by
  rw [Int.sub_eq_add_neg]
  exact hx.add hy.neg
theorem Bd.of {n : Nat} {x : Int} (m : Nat) (h : x.natAbs ≤ m) (hm : m < 2 ^ n) : Bd n x := Nat.lt_of_le_of_lt h hm
theorem Bd.le {n : Nat} {x y : Int} (hy : Bd n y) (h : x.natAbs ≤ y.natAbs) : Bd n x := Nat.lt_of_le_of_lt h hy
theorem bits_le {n : Nat} {x : Int} (h : Bd n x) : Builtin.Int.intBits x ≤ n := by
  unfold Builtin.Int.intBits
  split
  · exact Nat.zero_le _
  · rename_i hx
    have h0 : x.natAbs ≠ 0 := fun z => hx (by simp; omega)
    exact (Nat.log2_lt h0).mpr h
theorem Bd.mulOk {n m : Nat} {x y : Int} (hx : Bd n x) (hy : Bd m y) (h : n + m ≤ 134217728) : IntMulOk x y := by
  have h1 := bits_le hx
  have h2 := bits_le hy
  have e : bitsLine = 134217728 := by decide
  unfold IntMulOk
  intro z
  rw [Bool.and_eq_true] at z
  have z2 := z.2
  unfold Builtin.Int.intTooBig at z2
  have z3 := of_decide_eq_true z2
  rw [e] at z3
  omega
theorem mulOk_small {x y : Int} (h : Bd 64 x) : IntMulOk x y := IntMulOk.of_left (bits_le h)
theorem mulOk_smallR {x y : Int} (h : Bd 64 y) : IntMulOk x y := IntMulOk.of_right (bits_le h)
theorem Bd.divOk {n : Nat} {x y : Int} (hy : Bd n y) (h0 : 0 < n) (h : n ≤ 9000) : Builtin.divisionGoesByPylong x y = false := PyProof.noPylong_of_log2 (by
  rcases Nat.eq_zero_or_pos y.natAbs with z | z
  · rw [z]; decide
  · exact (Nat.log2_lt (Nat.ne_of_gt z)).mpr (Nat.lt_of_lt_of_le hy (Nat.pow_le_pow_right (by decide) h)))
/-! ### fractions -/
/-- a fraction's data -/
def Q (r : Rat) : Da := .tuple [.int r.num, .int r.den]
theorem abs_eq (a : Int) : (if a < 0 then -a else a) = (a.natAbs : Int) := by
  split <;> omega
theorem fmod_nat (x y : Nat) : Int.fmod (x : Int) (y : Int) = ((x % y : Nat) : Int) := by
  rw [Int.fmod_eq_emod_of_nonneg _ (by omega)]
  rfl
/-- above and below, parted by the greatest common part with below's sign -/
theorem divInt_parts {x y : Int} (hy : y ≠ 0) : x.fdiv (if y < 0 then 0 - (Int.gcd x y : Int) else (Int.gcd x y : Int)) = (Rat.divInt x y).num ∧
    y.fdiv (if y < 0 then 0 - (Int.gcd x y : Int) else (Int.gcd x y : Int)) = ((Rat.divInt x y).den : Int) := by
  have hg : 0 < Int.gcd x y := Nat.pos_of_ne_zero fun z => hy (Int.gcd_eq_zero_iff.mp z).2
  have dx : (Int.gcd x y : Int) ∣ x := Int.gcd_dvd_left ..
  have dy : (Int.gcd x y : Int) ∣ y := Int.gcd_dvd_right ..
  rw [Rat.num_divInt, Rat.den_divInt, if_neg hy, Int.gcd_comm y x]
  obtain ⟨k, ek⟩ := dx
  obtain ⟨l, el⟩ := dy
  generalize hG : (Int.gcd x y : Int) = G at *
  have hG0 : 0 < G := by omega
  have hGn : G ≠ 0 := by omega
  have fx : ∀ s : Int, s ≠ 0 → ∀ z : Int, (s * z).fdiv s = z := fun s hs z => by
    rw [Int.mul_comm]
    exact Int.mul_fdiv_cancel _ hs
  by_cases hn : y < 0
  · rw [if_pos hn]
    have hs : y.sign = -1 := Int.sign_eq_neg_one_of_neg hn
    have e1 : x.fdiv (0 - G) = -k := by
      have : x = (0 - G) * (-k) := by rw [ek]; grind
      rw [this]
      exact fx _ (by omega) _
    have e2 : y.fdiv (0 - G) = -l := by
      have : y = (0 - G) * (-l) := by rw [el]; grind
      rw [this]
      exact fx _ (by omega) _
    refine ⟨?_, ?_⟩
    · rw [e1, hs, ek, show (-1 : Int) * (G * k) = G * (-k) by grind, Int.mul_ediv_cancel_left _ hGn]
    · rw [e2]
      have : (y.natAbs : Int) = G * (-l) := by
        have : (y.natAbs : Int) = -y := by omega
        rw [this, el]; grind
      rw [Int.natCast_ediv, this, hG, Int.mul_ediv_cancel_left _ hGn]
  · rw [if_neg hn]
    have hs : y.sign = 1 := Int.sign_eq_one_of_pos (by omega)
    have e1 : x.fdiv G = k := by rw [ek]; exact fx _ hGn _
    have e2 : y.fdiv G = l := by
      have : y.fdiv G = (G * l).fdiv G := by rw [← el]
      rw [this]; exact fx _ hGn _
    refine ⟨?_, ?_⟩
    · rw [e1, hs, ek, Int.one_mul, Int.mul_ediv_cancel_left _ hGn]
    · rw [e2]
      have : (y.natAbs : Int) = G * l := by
        have : (y.natAbs : Int) = y := by omega
        rw [this]; exact el
      rw [Int.natCast_ediv, this, hG, Int.mul_ediv_cancel_left _ hGn]
theorem bd_num {n : Nat} {x y : Int} (h : Bd n x) : Bd n (Rat.divInt x y).num := by
  rw [Rat.num_divInt]
  refine h.le ?_
  have h1 : (y.sign * x / (Int.gcd y x : Int)).natAbs ≤ (y.sign * x).natAbs := Int.natAbs_ediv_le_natAbs _ _
  rw [Int.natAbs_mul] at h1
  have h2 : y.sign.natAbs ≤ 1 := by
    rcases Int.lt_trichotomy y 0 with z | z | z
    · rw [Int.sign_eq_neg_one_of_neg z]; decide
    · rw [z]; decide
    · rw [Int.sign_eq_one_of_pos z]; decide
  have h3 : y.sign.natAbs * x.natAbs ≤ 1 * x.natAbs := Nat.mul_le_mul_right _ h2
  omega
theorem bd_den {n : Nat} {x y : Int} (h : Bd n y) (h0 : 0 < n) : Bd n ((Rat.divInt x y).den : Int) := by
  rw [Rat.den_divInt]
  split
  · exact Nat.one_lt_two_pow (by omega)
  · exact h.le (by rw [Int.natAbs_natCast]; exact Nat.div_le_self _ _)
end Rk
namespace Rk
open PySem PySem.Spec L2
/-- a fraction's numbers below 2 ^ n -/
def BQ (n : Nat) (r : Rat) : Prop := Bd n r.num ∧ Bd n (r.den : Int)
theorem BQ.mono {n m : Nat} {r : Rat} (h : BQ n r) (hl : n ≤ m) : BQ m r := ⟨h.1.mono hl, h.2.mono hl⟩
theorem den_ne (r : Rat) : (r.den : Int) ≠ 0 := by
  have := r.den_nz
  omega
theorem den_pos (r : Rat) : (0 : Int) < (r.den : Int) := by
  have := r.den_nz
  omega
theorem add_divInt (r s : Rat) : Rat.divInt (r.num * s.den + s.num * r.den) (r.den * s.den) = r + s := by
  rw [Rat.add_def', ← Int.natCast_mul, Rat.divInt_ofNat]
theorem sub_divInt (r s : Rat) : Rat.divInt (r.num * s.den - s.num * r.den) (r.den * s.den) = r - s := by
  rw [Rat.sub_def', ← Int.natCast_mul, Rat.divInt_ofNat]
theorem mul_divInt (r s : Rat) : Rat.divInt (r.num * s.num) (r.den * s.den) = r * s := by
  rw [Rat.mul_def', ← Int.natCast_mul, Rat.divInt_ofNat]
theorem div_divInt (r s : Rat) : Rat.divInt (r.num * s.den) (r.den * s.num) = r / s := by
  rw [← Rat.divInt_mul_divInt, Rat.num_divInt_den, ← Rat.inv_divInt, Rat.num_divInt_den, Rat.div_def]
theorem BQ.add {n m : Nat} {r s : Rat} (hr : BQ n r) (hs : BQ m s) (h0 : 0 < n + m) : BQ (n + m + 1) (r + s) := by
  rw [← add_divInt]
  refine ⟨bd_num ?_, bd_den ((hr.2.mul hs.2).mono (Nat.le_succ _)) (Nat.succ_pos _)⟩
  exact ((hr.1.mul hs.2).add (hs.1.mul hr.2)).mono (by omega)
theorem BQ.sub {n m : Nat} {r s : Rat} (hr : BQ n r) (hs : BQ m s) (h0 : 0 < n + m) : BQ (n + m + 1) (r - s) := by
  rw [← sub_divInt]
  refine ⟨bd_num ?_, bd_den ((hr.2.mul hs.2).mono (Nat.le_succ _)) (Nat.succ_pos _)⟩
  exact ((hr.1.mul hs.2).sub (hs.1.mul hr.2)).mono (by omega)
theorem BQ.mul {n m : Nat} {r s : Rat} (hr : BQ n r) (hs : BQ m s) (h0 : 0 < n + m) : BQ (n + m) (r * s) := by
  rw [← mul_divInt]
  exact ⟨bd_num (hr.1.mul hs.1), bd_den (hr.2.mul hs.2) h0⟩
theorem BQ.div {n m : Nat} {r s : Rat} (hr : BQ n r) (hs : BQ m s) (h0 : 0 < n + m) : BQ (n + m) (r / s) := by
  rw [← div_divInt]
  exact ⟨bd_num (hr.1.mul hs.2), bd_den (hr.2.mul hs.1) h0⟩
theorem BQ.neg {n : Nat} {r : Rat} (hr : BQ n r) : BQ n (-r) := ⟨by rw [Rat.neg_num]; exact hr.1.neg, by rw [Rat.neg_den]; exact hr.2⟩
theorem Q_neg (r : Rat) : Q (-r) = .tuple [.int (0 - r.num), .int r.den] := by
  unfold Q
  rw [Rat.neg_num, Rat.neg_den, Int.zero_sub]
theorem Q_int (n : Int) : Q (n : Rat) = .tuple [.int n, .int 1] := by
  unfold Q
  rw [Rat.num_intCast, Rat.den_intCast]
  rfl
theorem Q_abs (r : Rat) : Q r.abs = .tuple [.int (r.num.natAbs : Int), .int r.den] := by
  unfold Q Rat.abs
  split
  · rename_i h
    have : 0 ≤ r.num := Rat.num_nonneg.mpr h
    rw [show (r.num.natAbs : Int) = r.num by omega]
  · rename_i h
    have : ¬ 0 ≤ r.num := fun z => h (Rat.num_nonneg.mp z)
    rw [Rat.neg_num, Rat.neg_den, show (r.num.natAbs : Int) = -r.num by omega]
theorem lt_num (r s : Rat) : (r.num * s.den < s.num * r.den) ↔ r < s := by
  rw [Rat.lt_iff]
theorem floor_num (r : Rat) : r.num.fdiv r.den = r.floor := by
  rw [Rat.floor_def, Int.fdiv_eq_ediv_of_nonneg _ (by omega)]
end Rk
namespace Rk
open PySem PySem.Spec L2
theorem sh_int (a : Int) : sh (.int a) = true := by
  simp [sh, SeqAt.shaped, PyData.hasDict, PyData.hasDictAll, PyData.canLay0, PyData.depth]
theorem sh_Q (r : Rat) : sh (Q r) = true := by
  simp [Q, sh, SeqAt.shaped, PyData.hasDict, PyData.hasDictAll, PyData.canLay0, PyData.canLayAll0, PyData.depth, PyData.depthAll]
theorem eqv_int (a b : Int) : PyData.eqv (.int a) (.int b) = decide (a = b) := by
  show (a == b) = decide (a = b)
  by_cases e : a = b <;> simp [e]
theorem eqv_bool (a b : Bool) : PyData.eqv (.bool a) (.bool b) = decide (a = b) := by
  cases a <;> cases b <;> rfl
theorem sh_bool (a : Bool) : sh (.bool a) = true := by
  simp [sh, SeqAt.shaped, PyData.hasDict, PyData.hasDictAll, PyData.canLay0, PyData.depth]
theorem eqv_Q (r s : Rat) : PyData.eqv (Q r) (Q s) = decide (r = s) := by
  have e : (r = s) ↔ (r.num = s.num ∧ r.den = s.den) := ⟨fun z => by rw [z]; exact ⟨rfl, rfl⟩, fun ⟨z1, z2⟩ => Rat.ext z1 z2⟩
  simp only [Q, PyData.eqv, PyData.eqvAll]
  by_cases h1 : r.num = s.num <;> by_cases h2 : r.den = s.den <;> simp [e, h1, h2] <;> omega
section
variable {h : Hh}
theorem gEq_int {a b : Int} : gEq (.d (.int a)) (.d (.int b)) h = some (.d (.bool (decide (a = b))), h) := by
  simp [gEq, asD, eqvB, sh_int, eqv_int]
theorem gNe_int {a b : Int} : gNe (.d (.int a)) (.d (.int b)) h = some (.d (.bool (!decide (a = b))), h) := by
  simp [gNe, asD, eqvB, sh_int, eqv_int]
theorem gEq_Q {r s : Rat} : gEq (.d (Q r)) (.d (Q s)) h = some (.d (.bool (decide (r = s))), h) := by
  show (eqvB (Q r) (Q s)).map (fun z => (Vl.d (.bool z), h)) = _
  simp [eqvB, sh_Q, eqv_Q]
theorem gNe_Q {r s : Rat} : gNe (.d (Q r)) (.d (Q s)) h = some (.d (.bool (!decide (r = s))), h) := by
  show (eqvB (Q r) (Q s)).map (fun z => (Vl.d (.bool (!z)), h)) = _
  simp [eqvB, sh_Q, eqv_Q]
theorem gNe_bool {a b : Bool} : gNe (.d (.bool a)) (.d (.bool b)) h = some (.d (.bool (!decide (a = b))), h) := by
  simp [gNe, asD, eqvB, sh_bool, eqv_bool]
theorem gEq_bool {a b : Bool} : gEq (.d (.bool a)) (.d (.bool b)) h = some (.d (.bool (decide (a = b))), h) := by
  simp [gEq, asD, eqvB, sh_bool, eqv_bool]
end
theorem fdiv2 (l : Nat) : Int.fdiv (l : Int) 2 = ((l / 2 : Nat) : Int) := by
  rw [Int.fdiv_eq_ediv_of_nonneg _ (by omega)]
  rfl
theorem fmod2 (l : Nat) : Int.fmod (l : Int) 2 = ((l % 2 : Nat) : Int) := by
  rw [Int.fmod_eq_emod_of_nonneg _ (by omega)]
  rfl
theorem bd_nat {n : Nat} {a : Nat} (h : a < 2 ^ n) : Bd n (a : Int) := by
  unfold Bd
  rw [Int.natAbs_natCast]
  exact h
theorem div_lit {a : Int} {k : Nat} (hk : 0 < k) (h : k < 2 ^ 64) : fDiv a (k : Int) = some (.int (a.fdiv k)) := fDiv_eq (by omega) ((bd_nat h).divOk (by decide) (by decide))
theorem zpow_neg_nat (b : Rat) (n : Nat) : b ^ (-(n : Int)) = (b ^ n)⁻¹ := by
  rw [Rat.zpow_neg, Rat.zpow_natCast]
theorem Q_pow (b : Nat) (n : Nat) : Q ((b : Rat) ^ (n : Int)) = .tuple [.int ((b ^ n : Nat) : Int), .int 1] := by
  unfold Q
  rw [Rat.zpow_natCast, Rat.num_pow, Rat.den_pow]
  simp
theorem Q_powneg (b : Nat) (n : Nat) (hb : 0 < b) : Q ((b : Rat) ^ (-(n : Int))) = .tuple [.int 1, .int ((b ^ n : Nat) : Int)] := by
  have hp : 0 < b ^ n := Nat.pow_pos hb
  have e : (b : Rat) ^ (-(n : Int)) = Rat.divInt 1 ((b ^ n : Nat) : Int) := by
    rw [zpow_neg_nat, show ((b : Rat) ^ n) = Rat.divInt ((b ^ n : Nat) : Int) 1 by rw [← Rat.natCast_pow]; exact (Rat.num_divInt_den ((b ^ n : Nat) : Rat)).symm, Rat.inv_divInt]
  unfold Q
  rw [e, Rat.num_divInt, Rat.den_divInt, if_neg (by omega)]
  have hs : ((b ^ n : Nat) : Int).sign = 1 := Int.sign_eq_one_of_pos (by omega)
  rw [hs]
  simp
end Rk
namespace Rk
open PySem PySem.Spec L2
/-! ### a law's stream: four places -/
def Strm (K : Nat) (xs : List Da) : Prop := ∃ (c : Bool) (x : Int) (k : Nat) (m : Int), xs = [.bool c, .int x, .int (k : Int), .int m] ∧ k ≤ K
section
variable {h : Hh} {n : Nat} {a b c d : Da} {ρ : En}
theorem ixS0 (e : h[n]? = some (some (.lst [a, b, c, d]))) : gIx (.r n) (.d (.int 0)) h = some (.d a, h) := gIxL (k := 0) e rfl
theorem ixS1 (e : h[n]? = some (some (.lst [a, b, c, d]))) : gIx (.r n) (.d (.int 1)) h = some (.d b, h) := gIxL (k := 1) e rfl
theorem ixS2 (e : h[n]? = some (some (.lst [a, b, c, d]))) : gIx (.r n) (.d (.int 2)) h = some (.d c, h) := gIxL (k := 2) e rfl
theorem ixS3 (e : h[n]? = some (some (.lst [a, b, c, d]))) : gIx (.r n) (.d (.int 3)) h = some (.d d, h) := gIxL (k := 3) e rfl
theorem setS1 {v : Da} (e : h[n]? = some (some (.lst [a, b, c, d]))) : setL (.r n) (.d (.int 1)) (.d v) h = some (h.set n (some (.lst [a, v, c, d]))) := by
  have q : ixN [a, b, c, d].length 1 = some 1 := ixN_nat (k := 1) (by simp)
  unfold setL fz
  dsimp only
  rw [e]
  dsimp only
  rw [q]
  rfl
theorem setS2 {v : Da} (e : h[n]? = some (some (.lst [a, b, c, d]))) : setL (.r n) (.d (.int 2)) (.d v) h = some (h.set n (some (.lst [a, b, v, d]))) := by
  have q : ixN [a, b, c, d].length 2 = some 2 := ixN_nat (k := 2) (by simp)
  unfold setL fz
  dsimp only
  rw [e]
  dsimp only
  rw [q]
  rfl
theorem gIn01 {x : Int} : gIn false (.d (.int x)) (.d (.tuple [.int 0, .int (-1)])) h = some (.d (.bool (decide (x = 0) || decide (x = -1))), h) := by
  have e : inF (.int x) [.int 0, .int (-1)] = (decide (x = 0) || decide (x = -1)) := by
    simp only [inF, List.any_cons, List.any_nil, eqF, Bool.or_false]
    by_cases h1 : x = 0 <;> by_cases h2 : x = -1 <;> simp [h1, h2] <;> omega
  simp [gIn, asQ, flatD, e]
theorem okO_ok {v : Vl} : okO (.ok v h) = some (v, h) := rfl
theorem gSetL_eq {o ix : Ev} {v : Vl} : gSetL o ix v ρ h = (okO (o ρ h)).bind fun p => (okO (ix ρ p.2)).bind fun q => (setL p.1 q.1 v q.2).map fun h' => (ρ, h') := rfl
theorem get_set {o : Option Ob} (hn : n < h.length) : (h.set n o)[n]? = some o := List.getElem?_set_self hn
end
theorem fmod_bd {x p : Int} (hp : 0 < p) : 0 ≤ x.fmod p ∧ x.fmod p < p := by
  rw [Int.fmod_eq_emod_of_nonneg _ (by omega)]
  exact ⟨Int.emod_nonneg _ (by omega), Int.emod_lt_of_pos _ hp⟩
theorem bd_lit {n : Nat} {x : Int} (m : Nat) (h1 : -(m : Int) ≤ x) (h2 : x ≤ m) (hm : m < 2 ^ n) : Bd n x := Nat.lt_of_le_of_lt (by omega) hm
end Rk
namespace Rk
open PySem PySem.Spec L2
theorem fzs_ds (h : Hh) : ∀ ds : List Da, fzs (ds.map Vl.d) h = some (ds, h)
  | [] => rfl
  | d :: ds => by
    rw [List.map_cons, fzs_d, fzs_ds h ds]
    rfl
theorem set_app {h : Hh} {n : Nat} {o : Option Ob} {l : Hh} (hn : n < h.length) : (h ++ l).set n o = h.set n o ++ l := by
  rw [List.set_append, if_pos hn]
theorem get_app {h : Hh} {n : Nat} {l : Hh} (hn : n < h.length) : (h ++ l)[n]? = h[n]? := List.getElem?_append_left hn
theorem take_app {h l : Hh} {n : Nat} (e : h.length = n) : (h ++ l).take n = h := by
  subst e
  exact List.take_left' rfl
theorem gIx_list {h : Hh} {m : Nat} {ds : List Da} {v : Int} {d : Da} (e : h[m]? = some (some (.lst ds))) (hv : 0 ≤ v) (ed : ds[v.toNat]? = some d) : gIx (.r m) (.d (.int v)) h = some (.d d, h) := by
  have := gIxL (h := h) (k := v.toNat) e ed
  rw [show ((v.toNat : Nat) : Int) = v by omega] at this
  exact this
/-- a written list at the end, at a drawn place -/
theorem menu_at {h : Hh} {n : Nat} {o : Option Ob} {ds : List Da} {v : Int} {d : Da} (hv : 0 ≤ v) (ed : ds[v.toNat]? = some d) :
    gIx (.r h.length) (.d (.int v)) (h.set n o ++ [some (Ob.lst ds)]) = some (.d d, h.set n o ++ [some (Ob.lst ds)]) := by
  refine gIx_list ?_ hv ed
  rw [List.getElem?_append_right (by simp)]
  simp
theorem take_setApp {h l : Hh} {n : Nat} {o : Option Ob} : (h.set n o ++ l).take h.length = h.set n o := take_app (by rw [List.length_set])
end Rk
namespace Rk
open PySem PySem.Spec L2
section
variable {r : Rat} {h : Hh} {ρ : En} {g : Gs}
theorem gTupT_tup {n : Nat} {ds : List Da} : gTupT n g (.d (.tuple ds)) ρ h = if ds.length = n then g (ds.map Vl.d) ρ h else none := rfl
theorem gTupT_Q : gTupT 2 g (.d (Q r)) ρ h = g [.d (.int r.num), .d (.int r.den)] ρ h := rfl
theorem ixQ0 : gIx (.d (Q r)) (.d (.int 0)) h = some (.d (.int r.num), h) := ix0
theorem ixQ1 : gIx (.d (Q r)) (.d (.int 1)) h = some (.d (.int r.den), h) := ix1
theorem isQ_tup : isTyD .tuple (Q r) = some true := rfl
theorem isQ_bool : isTyD .bool (Q r) = some false := rfl
theorem isQ_int : isTyD .int (Q r) = some false := rfl
theorem isI_bool {i : Int} : isTyD .bool (.int i) = some false := rfl
theorem isI_int {i : Int} : isTyD .int (.int i) = some true := rfl
theorem isI_tup {i : Int} : isTyD .tuple (.int i) = some false := rfl
theorem isB_bool {i : Bool} : isTyD .bool (.bool i) = some true := rfl
theorem isB_int {i : Bool} : isTyD .int (.bool i) = some true := rfl
theorem isTy_d {T : Ty} {x : Da} : isTy T (.d x) h = isTyD T x := rfl
theorem tup_Q0 : (.tuple [.int 0, .int 1] : Da) = Q 0 := rfl
theorem tup_Q1 : (.tuple [.int 1, .int 1] : Da) = Q 1 := rfl
end
end Rk
namespace Rk
open PySem PySem.Spec L2
section
variable {a0 a1 a2 : Da} {l : List Da} {h : Hh}
theorem get_end {o : Option Ob} : (h ++ [o])[h.length]? = some o := by simp
theorem ixE0 : gIx (.r h.length) (.d (.int 0)) (h ++ [some (.lst (a0 :: l))]) = some (.d a0, h ++ [some (.lst (a0 :: l))]) := gIxL (k := 0) get_end rfl
theorem ixE1 : gIx (.r h.length) (.d (.int 1)) (h ++ [some (.lst (a0 :: a1 :: l))]) = some (.d a1, h ++ [some (.lst (a0 :: a1 :: l))]) := gIxL (k := 1) get_end rfl
theorem ixE2 : gIx (.r h.length) (.d (.int 2)) (h ++ [some (.lst (a0 :: a1 :: a2 :: l))]) = some (.d a2, h ++ [some (.lst (a0 :: a1 :: a2 :: l))]) := gIxL (k := 2) get_end rfl
theorem take_app0 {l : Hh} : (h ++ l).take h.length = h := List.take_left' rfl
end
theorem max_neg (a : Int) : (if 0 - a > a then 0 - a else a) = (a.natAbs : Int) := by
  split <;> omega
end Rk
namespace Rk
theorem rat_tri (r s : Rat) : r < s ∨ r = s ∨ s < r := by
  by_cases h1 : r < s
  · exact .inl h1
  · by_cases h2 : s < r
    · exact .inr (.inr h2)
    · exact .inr (.inl (Rat.le_antisymm (Rat.not_lt.mp h2) (Rat.not_lt.mp h1)))
end Rk
namespace Rk
open PySem PySem.Spec L2
theorem iRange1_ok {as : Av} {ρ : En} {h h1 : Hh} {n : Nat} (e : as ρ h = .ok [.d (.int (n : Int))] h1) (hn : n ≤ 1000000000) : iRange1 as ρ h = .ok ⟨rngD 0 n, none⟩ h1 := by
  unfold iRange1
  rw [e]
  simp only [Out.bind_ok]
  have r : rgB (n : Int) = true := by
    unfold rgB
    rw [decide_eq_true (by omega), decide_eq_true (by omega)]
    rfl
  rw [if_pos r, Int.toNat_natCast]
theorem sFor_ok {i : Iv} {g : Gv} {b : Sv} {ρ : En} {h h1 : Hh} {m : Itm} (e : i ρ h = .ok m h1) : sFor i g b ρ h = forL m.gd g b m.ds ρ h1 := by
  unfold sFor
  rw [e]
  rfl
end Rk

/-! Rk9: rulers, by numbers alone; loops' steps. -/
namespace Rk
open PySem PySem.Spec L2
theorem gd_none {h : Hh} : gdOk none h := trivial
theorem forL_nil {gd : Option (Nat × List Da)} {g : Gv} {b : Sv} {ρ : En} {h : Hh} (e : gdOk gd h) : forL gd g b [] ρ h = .nx ρ h := by
  unfold forL
  rw [if_pos e]
theorem forL_cons {gd : Option (Nat × List Da)} {g : Gv} {b : Sv} {d : Da} {ds : List Da} {ρ ρ1 ρ2 : En} {h h1 h2 : Hh} (e : gdOk gd h) (eg : g (.d d) ρ h = some (ρ1, h1)) (eb : b ρ1 h1 = .nx ρ2 h2) : forL gd g b (d :: ds) ρ h = forL gd g b ds ρ2 h2 := by
  rw [forL]
  rw [if_pos e, eg]
  dsimp only
  rw [eb]
theorem mapIdx_form (f : List Int) : ∀ d ∈ (f.map PyData.int).mapIdx (fun i d => (.tuple [.int (i : Nat), d] : Da)), ∃ (i : Nat) (c : Int), d = .tuple [.int (i : Int), .int c] ∧ i < f.length := by
  intro d hd
  obtain ⟨i, hi, e⟩ := List.mem_mapIdx.mp hd
  rw [List.length_map] at hi
  rw [List.getElem_map] at e
  exact ⟨i, f[i], e.symm, hi⟩
theorem cut63 (f : List Int) : cutD (f.map PyData.int) none (some 63) = (f.take 63).map PyData.int := by
  unfold cutD
  rw [show (some (63 : Int)) = some ((63 : Nat) : Int) from rfl, HT.sIx_nat, HT.sIx_none, List.drop_zero, Nat.sub_zero, List.map_take, List.length_map]
  rw [List.take_eq_take_min (l := f.map PyData.int) (i := 63), List.length_map]
theorem set_at {h l : Hh} {a b : Option Ob} : (h ++ a :: l).set h.length b = h ++ b :: l := by
  rw [List.set_append, if_neg (by omega)]
  simp
theorem get_at {h l : Hh} {a : Option Ob} : (h ++ a :: l)[h.length]? = some a := by simp
/-! ### powers -/
theorem pow_lt_one {b : Nat} (hb : 2 ≤ b) : ∀ k : Nat, (1 : Rat) < (b : Rat) ^ ((k : Int) + 1)
  | 0 => by
    rw [Int.natCast_zero, Int.zero_add, Rat.zpow_one]
    have : ((1 : Nat) : Rat) < (b : Rat) := Rat.natCast_lt_natCast.mpr (by omega)
    exact this
  | k + 1 => by
    have h0 : (b : Rat) ≠ 0 := fun z => by
      have : b = 0 := Rat.natCast_inj.mp z
      omega
    have h1 : (1 : Rat) < (b : Rat) := Rat.natCast_lt_natCast.mpr (show 1 < b by omega)
    have ih := pow_lt_one hb k
    rw [show ((k + 1 : Nat) : Int) + 1 = ((k : Int) + 1) + 1 by omega, Rat.zpow_add_one h0]
    have := Rat.mul_lt_mul_of_pos_left h1 (show (0 : Rat) < (b : Rat) ^ ((k : Int) + 1) by grind)
    grind
structure Ruler where
  b : Nat
  f : Nat
  l : Int
  w : String
def Ruler.da (R : Ruler) : Da := .tuple [.int R.b, .int R.f, .int R.l, .str R.w]
structure Ruler.Ok (R : Ruler) : Prop where
  b2 : 2 ≤ R.b
  b16 : R.b ≤ 16
  f1 : 1 ≤ R.f
  f24 : R.f ≤ 24
  l1 : -100 ≤ R.l
  l2 : R.l ≤ 100
  w4 : R.w = "near" ∨ R.w = "down" ∨ R.w = "up" ∨ R.w = "nought"
def Ruler.pw (R : Ruler) (e : Int) : Rat := (R.b : Rat) ^ e
section
variable {R : Ruler} (O : R.Ok)
include O
theorem bne : (R.b : Rat) ≠ 0 := fun z => by
  have : R.b = 0 := Rat.natCast_inj.mp z
  have := O.b2
  omega
theorem pw_pos (e : Int) : 0 < R.pw e := Rat.zpow_pos (by
  have h : ((0 : Nat) : Rat) < (R.b : Rat) := Rat.natCast_lt_natCast.mpr (by have := O.b2; omega)
  exact h)
theorem pw_ne (e : Int) : R.pw e ≠ 0 := fun z => by
  have := pw_pos O e
  rw [z] at this
  exact absurd this (by decide)
theorem pw_add (m n : Int) : R.pw (m + n) = R.pw m * R.pw n := Rat.zpow_add (bne O) m n
theorem pw_lt {m n : Int} (h : m < n) : R.pw m < R.pw n := by
  obtain ⟨k, ek⟩ : ∃ k : Nat, n = m + ((k : Int) + 1) := ⟨(n - m - 1).toNat, by omega⟩
  rw [ek, pw_add O]
  have h1 : (1 : Rat) < R.pw ((k : Int) + 1) := pow_lt_one O.b2 k
  have := Rat.mul_lt_mul_of_pos_left h1 (pw_pos O m)
  grind
theorem pw_le {m n : Int} (h : m ≤ n) : R.pw m ≤ R.pw n := by
  rcases Int.lt_or_eq_of_le h with z | z
  · exact Rat.le_of_lt (pw_lt O z)
  · rw [z]
    exact Rat.le_refl
theorem pw_lt_iff {m n : Int} : R.pw m < R.pw n ↔ m < n := ⟨fun h => by
  rcases Int.lt_or_le m n with z | z
  · exact z
  · exact absurd h (Rat.not_lt.mpr (pw_le O z)), pw_lt O⟩
theorem pw_inj {m n : Int} (h : R.pw m = R.pw n) : m = n := by
  rcases Int.lt_trichotomy m n with z | z | z
  · have := pw_lt O z
    grind
  · exact z
  · have := pw_lt O z
    grind
omit O in
theorem pw_zero : R.pw 0 = 1 := Rat.zpow_zero _
theorem pw_neg (m : Int) : R.pw (-m) = (R.pw m)⁻¹ := by
  unfold Ruler.pw
  rw [Rat.zpow_neg]
omit O in
theorem pw_nat (n : Nat) : R.pw n = ((R.b ^ n : Nat) : Rat) := by
  unfold Ruler.pw
  rw [Rat.zpow_natCast, Rat.natCast_pow]
theorem BQ_pw {E : Nat} {e : Int} (h : e.natAbs ≤ E) : BQ (4 * E + 1) (R.pw e) := by
  have hb : R.b ^ e.natAbs < 2 ^ (4 * E + 1) := by
    refine Nat.lt_of_le_of_lt (Nat.pow_le_pow_left O.b16 _) ?_
    rw [show (16 : Nat) = 2 ^ 4 from rfl, ← Nat.pow_mul]
    exact Nat.pow_lt_pow_right (by decide) (by omega)
  have h1 : Bd (4 * E + 1) 1 := Nat.one_lt_two_pow (by omega)
  rcases Int.le_total 0 e with z | z
  · have q := Q_pow R.b e.natAbs
    rw [show ((e.natAbs : Nat) : Int) = e by omega] at q
    injection q with q
    injection q with q1 q2
    injection q2 with q2
    injection q1 with q1
    injection q2 with q2
    refine ⟨?_, ?_⟩
    · show Bd _ ((R.b : Rat) ^ e).num
      rw [q1]
      exact bd_nat hb
    · show Bd _ (((R.b : Rat) ^ e).den : Int)
      rw [q2]
      exact h1
  · have q := Q_powneg R.b e.natAbs (by have := O.b2; omega)
    rw [show -((e.natAbs : Nat) : Int) = e by omega] at q
    injection q with q
    injection q with q1 q2
    injection q2 with q2
    injection q1 with q1
    injection q2 with q2
    refine ⟨?_, ?_⟩
    · show Bd _ ((R.b : Rat) ^ e).num
      rw [q1]
      exact h1
    · show Bd _ (((R.b : Rat) ^ e).den : Int)
      rw [q2]
      exact bd_nat hb
theorem num_pos {r : Rat} (h : 0 < r) : 0 < r.num := by
  have := (Rat.lt_iff 0 r).mp h
  simpa using this
omit O in
theorem BQ.abs {n : Nat} {r : Rat} (h : BQ n r) : BQ n r.abs := by
  unfold Rat.abs
  split
  · exact h
  · exact h.neg
omit O in
theorem abs_neg' (x : Rat) : (-x).abs = x.abs := by
  unfold Rat.abs
  grind
theorem abs_lt_pw {n : Nat} {x : Rat} (h : BQ n x) : x.abs < R.pw n := by
  have hx := h.abs
  have h0 : 0 ≤ x.abs := Rat.abs_nonneg
  have hn : 0 ≤ x.abs.num := Rat.num_nonneg.mpr h0
  have h1 : x.abs.num < ((R.b ^ n : Nat) : Int) := by
    have h2 : (2 : Nat) ^ n ≤ R.b ^ n := Nat.pow_le_pow_left O.b2 _
    have h3 := hx.1
    unfold Bd at h3
    omega
  rw [pw_nat, Rat.lt_iff]
  simp only [Rat.num_natCast, Rat.den_natCast]
  have h4 := den_pos x.abs
  have h5 : ((R.b ^ n : Nat) : Int) * 1 ≤ ((R.b ^ n : Nat) : Int) * (x.abs.den : Int) := Int.mul_le_mul_of_nonneg_left (by omega) (by omega)
  omega
end
/-! ### places -/
def IsPlc (R : Ruler) (x : Rat) (p : Int) : Prop := R.l ≤ p ∧ x.abs < R.pw (p + R.f) ∧ (p = R.l ∨ R.pw (p - 1 + R.f) ≤ x.abs)
noncomputable def Ruler.plc (R : Ruler) (x : Rat) : Int := Classical.epsilon (IsPlc R x)
section
variable {R : Ruler} (O : R.Ok)
include O
theorem plc_uniq {x : Rat} {p q : Int} (hp : IsPlc R x p) (hq : IsPlc R x q) : p = q := by
  have key : ∀ {p q : Int}, IsPlc R x p → IsPlc R x q → ¬ p < q := fun {p q} hp hq z => by
    rcases hq.2.2 with e | e
    · have := hp.1
      omega
    · have h1 : R.pw (q - 1 + R.f) < R.pw (p + R.f) := by
        have := hp.2.1
        grind
      have := (pw_lt_iff O).mp h1
      omega
  have h1 := key hp hq
  have h2 := key hq hp
  omega
theorem plc_eq {x : Rat} {p : Int} (hp : IsPlc R x p) : R.plc x = p := plc_uniq O (Classical.epsilon_spec ⟨p, hp⟩) hp
theorem plc_has {x : Rat} : ∀ k : Nat, x.abs < R.pw (R.l + k + R.f) → ∃ p, IsPlc R x p
  | 0, h => ⟨R.l, Int.le_refl _, by rw [Int.natCast_zero, Int.add_zero] at h; exact h, .inl rfl⟩
  | k + 1, h => by
    by_cases z : x.abs < R.pw (R.l + k + R.f)
    · exact plc_has k z
    · refine ⟨R.l + (k + 1 : Nat), by omega, h, .inr ?_⟩
      rw [show R.l + ((k + 1 : Nat) : Int) - 1 + R.f = R.l + k + R.f by omega]
      exact Rat.not_lt.mp z
theorem plc_ok {n : Nat} {x : Rat} (h : BQ n x) : IsPlc R x (R.plc x) := by
  refine Classical.epsilon_spec (plc_has O ((n : Int) - R.l).toNat ?_)
  have h1 := abs_lt_pw O h
  have h2 : R.pw n ≤ R.pw (R.l + ((n : Int) - R.l).toNat + R.f) := pw_le O (by omega)
  grind
theorem plc_neg (x : Rat) : R.plc (-x) = R.plc x := by
  unfold Ruler.plc IsPlc
  rw [abs_neg']
theorem plc_bd {n : Nat} {x : Rat} (h : BQ n x) : R.l ≤ R.plc x ∧ R.plc x ≤ max R.l n := by
  have q := plc_ok O h
  refine ⟨q.1, ?_⟩
  rcases q.2.2 with e | e
  · omega
  · have h1 := abs_lt_pw O h
    have h2 : R.pw (R.plc x - 1 + R.f) < R.pw n := by grind
    have := (pw_lt_iff O).mp h2
    have := O.f1
    omega
end
end Rk
namespace Rk
theorem mul_den_num (r : Rat) : r * ((r.den : Nat) : Rat) = ((r.num : Int) : Rat) := by
  have e : ((r.den : Nat) : Rat) = Rat.divInt (r.den : Int) 1 := by
    have := Rat.num_divInt_den ((r.den : Nat) : Rat)
    simp only [Rat.num_natCast, Rat.den_natCast] at this
    exact this.symm
  have e2 : ((r.num : Int) : Rat) = Rat.divInt r.num 1 := by
    have := Rat.num_divInt_den ((r.num : Int) : Rat)
    simp only [Rat.num_intCast, Rat.den_intCast] at this
    exact this.symm
  have e3 : r * Rat.divInt (r.den : Int) 1 = Rat.divInt r.num r.den * Rat.divInt (r.den : Int) 1 := by rw [Rat.num_divInt_den]
  rw [e, e2, e3, Rat.divInt_mul_divInt, Int.mul_one]
  have := Rat.divInt_mul_right (n := r.num) (d := 1) (a := (r.den : Int)) (den_ne r)
  rw [Int.one_mul] at this
  exact this
/-- told over below is whole just where below parts above -/
theorem den_one {x y : Int} (hy : 0 < y) : ((Rat.divInt x y).den = 1) ↔ x.fmod y = 0 := by
  rw [Rat.den_divInt, if_neg (by omega), Int.fmod_eq_emod_of_nonneg _ (by omega)]
  have g0 : 0 < Int.gcd y x := Nat.pos_of_ne_zero fun z => by
    have := (Int.gcd_eq_zero_iff.mp z).1
    omega
  have gd : Int.gcd y x ∣ y.natAbs := by
    have := Int.natAbs_dvd_natAbs.mpr (Int.gcd_dvd_left y x)
    rwa [Int.natAbs_natCast] at this
  constructor
  · intro e
    have e2 : y.natAbs = Int.gcd y x := by
      have := Nat.div_mul_cancel gd
      rw [e] at this
      omega
    have := Int.gcd_dvd_right y x
    rw [← e2] at this
    have : y ∣ x := by
      rw [show ((y.natAbs : Nat) : Int) = y by omega] at this
      exact this
    exact Int.emod_eq_zero_of_dvd this
  · intro e
    have d : y ∣ x := Int.dvd_of_emod_eq_zero e
    have e2 : Int.gcd y x = y.natAbs := Int.gcd_eq_left_iff_dvd (by omega) |>.mpr d |> fun z => by omega
    rw [e2]
    exact Nat.div_self (by omega)
end Rk
namespace Rk
theorem sSet_ok {f : Ev} {ρ : En} {h h1 : Hh} {v : Vl} (i : Nat) (e : f ρ h = .ok v h1) : sSet i f ρ h = .nx (ρ.set i (some v)) h1 := by
  unfold sSet
  rw [e]
  rfl
theorem sSeq_ok {f g : Sv} {ρ ρ1 : En} {h h1 : Hh} (e : f ρ h = .nx ρ1 h1) : sSeq f g ρ h = g ρ1 h1 := by
  unfold sSeq
  rw [e]
  rfl
end Rk

/-! Rk10: list comprehensions, append. -/
namespace Rk
open PySem PySem.Spec L2
variable {mg : Str → Option Value}
def wipeE (ρ : En) : List Nat → En
  | [] => ρ
  | v :: vs => (wipeE ρ vs).set v none
theorem ERep.setN {K : PySem.W.Frag} {φ : List Addr} {h : Hh} {H : Hp} {σ : L2.St} {ρ : En} (i : Nat) (r : ERep K mg φ h H σ ρ) : ERep K mg φ h H (σ.set i none) (ρ.set i none) := by
  refine ⟨by rw [List.length_set, List.length_set, r.len], fun j w e => ?_⟩
  by_cases hj : i = j
  · subst hj
    have hl : i < ρ.length := by
      have := (List.getElem?_eq_some_iff.mp e).1
      rwa [List.length_set] at this
    rw [List.getElem?_set_self hl] at e
    cases e
  · rw [List.getElem?_set_ne hj] at e
    rw [List.getElem?_set_ne hj]
    exact r.at_ j w e
theorem ERep.wipe {K : PySem.W.Frag} {φ : List Addr} {h : Hh} {H : Hp} {σ : L2.St} {ρ : En} (r : ERep K mg φ h H σ ρ) : ∀ vs : List Nat, ERep K mg φ h H (L2.wipe σ vs) (wipeE ρ vs)
  | [] => r
  | v :: vs => (ERep.wipe r vs).setN v
theorem wipe_get (σ : L2.St) (j : Nat) : ∀ vs : List Nat, (L2.wipe σ vs)[j]? = if j ∈ vs then (if j < σ.length then some none else none) else σ[j]?
  | [] => by simp [L2.wipe]
  | v :: vs => by
    unfold L2.wipe
    have ih := wipe_get σ j vs
    have hl := L2.wipe_length σ vs
    by_cases hj : v = j
    · subst hj
      by_cases hv : v < σ.length
      · rw [List.getElem?_set_self (by rw [hl]; exact hv)]
        simp [hv]
      · rw [List.getElem?_eq_none (by simp; omega)]
        simp [hv]
    · rw [List.getElem?_set_ne hj, ih]
      have : j ∈ v :: vs ↔ j ∈ vs := by
        rw [List.mem_cons]
        exact ⟨fun z => z.elim (fun z => absurd z.symm hj) id, .inr⟩
      simp only [this]
theorem wipe_set {σ : L2.St} {i : Nat} {o : Option V} {vs : List Nat} (hi : i ∈ vs) : L2.wipe (σ.set i o) vs = L2.wipe σ vs := by
  apply List.ext_getElem?
  intro j
  rw [wipe_get, wipe_get, List.length_set]
  by_cases hj : j ∈ vs
  · simp [hj]
  · have : i ≠ j := fun z => hj (z ▸ hi)
    simp [hj, List.getElem?_set_ne this]
/-! ### a block's targets -/
def tGw (K : PySem.W.Frag) (mg : Str → Option Value) (vs : List Nat) (g : Gv) : TG := fun x σ H Q => ∃ φ h ρ v ρ' h', Sim K φ h H ∧ ERep K mg φ h H σ ρ ∧ VRep K mg φ h H x v ∧ g v ρ h = some (ρ', h') ∧ ∀ σ' H' φ', Step φ h H φ' h' H' → Sim K φ' h' H' → ERep K mg φ' h' H' σ' ρ' → L2.wipe σ' vs = L2.wipe σ vs → Q σ' H'
def tGsw (K : PySem.W.Frag) (mg : Str → Option Value) (ws : List Nat) (g : Gs) : TGs := fun xs σ H Q => ∃ φ h ρ vs ρ' h', Sim K φ h H ∧ ERep K mg φ h H σ ρ ∧ VReps K mg φ h H xs vs ∧ g vs ρ h = some (ρ', h') ∧ ∀ σ' H' φ', Step φ h H φ' h' H' → Sim K φ' h' H' → ERep K mg φ' h' H' σ' ρ' → L2.wipe σ' ws = L2.wipe σ ws → Q σ' H'
def EGw (X : Cx) (vs : List Nat) (tg : Expr) (g : Gv) : Prop := PG X tg (tGw X.K X.mg vs g)
def EGsw (X : Cx) (vs : List Nat) (tg : List Expr) (g : Gs) : Prop := PGs X tg (tGsw X.K X.mg vs g)
section
variable {X : Cx} {pos : Pos} {ws : List Nat}
theorem egw_name {i : Nat} {x : Str} (hN : X.N.Nodup) (hw : i ∈ ws := by decide) (hi : X.N[i]? = some x := by rfl) (hx : Loc X.env.scope x := by first | exact .inl rfl | exact .inr rfl) (hf : X.fn x = true ∨ X.env.scope.names.lookup x = some .local := by first | exact .inl rfl | exact .inr rfl | assumption) : EGw X ws (.Name x pos) (gN i) :=
  PG.of (pg_name (i := i) hN hi hx hf) fun x σ H Q ⟨φ, h, ρ, v, ρ', h', sm, er, rv, e, k⟩ => by
    cases e
    exact k _ H φ (Step.refl _ _ _) sm (er.set rv) (wipe_set hw)
theorem egsw_nil : EGsw X ws [] gsNil := PGs.of pgs_nil fun xs σ H Q ⟨φ, h, ρ, vs, ρ', h', sm, er, rv, e, k⟩ => by
  cases rv with
  | nil =>
    cases e
    exact ⟨rfl, k _ H φ (Step.refl _ _ _) sm er rfl⟩
  | cons _ _ => cases e
theorem egsw_cons {e : Expr} {es : List Expr} {g : Gv} {gs : Gs} (h1 : EGw X ws e g) (h2 : EGsw X ws es gs)
    (hs : (assignEach (e :: es) X.env).map (·.2) = assign e X.env :: (assignEach es X.env).map (·.2) := by rfl) : EGsw X ws (e :: es) (gsCons g gs) :=
  PGs.of (pgs_cons h1 h2 hs) fun xs σ H Q ⟨φ, h, ρ, vs, ρ', h', sm, er, rv, e, k⟩ => by
    cases rv with
    | nil => cases e
    | @cons x xs v vs r t =>
      have e' : ((g v ρ h).bind fun p => gs vs p.1 p.2) = some (ρ', h') := e
      cases q : g v ρ h with
      | none => rw [q] at e'; cases e'
      | some p =>
        obtain ⟨ρ1, h1⟩ := p
        rw [q] at e'
        exact ⟨x, xs, rfl, φ, h, ρ, v, ρ1, h1, sm, er, r, q, fun σ1 H1 φ1 st sm1 er1 w1 => ⟨φ1, h1, ρ1, vs, ρ', h', sm1, er1, t.step st, e', fun σ2 H2 φ2 st2 sm2 er2 w2 => k σ2 H2 φ2 (st.trans st2) sm2 er2 (w2.trans w1)⟩⟩
theorem egw_tup {es : List Expr} {k n : Nat} {gs : Gs} (hc : X.calm = true) (h : EGsw X ws es gs) (hn : (assignEach es X.env).length = n := by rfl) (hst : (assignEach es X.env).findIdx? (·.1) = none := by rfl) : EGw X ws (.Tuple es k pos) (gTupT n gs) :=
  PG.of (pg_tup hc h hn hst) fun x σ H Q ⟨φ, h, ρ, v, ρ', h', sm, er, rv, e, k⟩ => by
    unfold gTupT at e
    split at e
    · rename_i ds
      split at e
      · obtain ⟨a, xs, rfl, sq, rs⟩ := VRep.tup rv
        exact ⟨a, xs, rfl, sq, by rw [rs.length]; assumption, φ, h, ρ, _, ρ', h', sm, er, rs.vreps, e, k⟩
      · cases e
    · cases e
end
/-! ### append -/
def appL (D : Nat) (v : Vl) (h : Hh) : Option Hh := (fz v h).bind fun p => match p.2[D]? with
  | some (some (.lst xs)) => if fitB (xs.length + 1) = true then some (p.2.set D (some (.lst (xs ++ [p.1])))) else none
  | _ => none
theorem Reps.snoc {K : PySem.W.Frag} {H : Hp} {M : Addr → Prop} : ∀ {xs : List V} {ds : List Da} {x : V} {d : Da}, Reps K H M xs ds → Rep K H M x d → Reps K H M (xs ++ [x]) (ds ++ [d])
  | _, _, _, _, .nil, r => .cons r .nil
  | _, _, _, _, .cons a t, r => .cons a (Reps.snoc t r)
theorem appL_ok {K : PySem.W.Frag} {φ : List Addr} {h h' : Hh} {H : Hp} {D : Nat} {a : Addr} {z : V} {v : Vl} (sm : Sim K φ h H) (ea : φ[D]? = some a) (rz : VRep K mg φ h H z v) (e : appL D v h = some h') :
    ∃ acc, H a = some (.lst acc) ∧ acc.length < sizeLine ∧ Step φ h H φ h' (upd H a (.lst (acc ++ [z]))) ∧ Sim K φ h' (upd H a (.lst (acc ++ [z]))) := by
  unfold appL at e
  cases ef : fz v h with
  | none => rw [ef] at e; cases e
  | some p =>
    obtain ⟨d, h1⟩ := p
    rw [ef] at e
    dsimp only [Option.bind_some] at e
    obtain ⟨s1, s2, s3⟩ := fz_ok sm rz ef
    split at e
    · rename_i xs en
      split at e
      · rename_i ft
        cases e
        obtain ⟨ys, eh, rs⟩ := s2.at_ en ea
        obtain ⟨t1, t2⟩ := s2.write (ob := .lst (xs ++ [d])) (u := .lst (ys ++ [z])) en ea fun M st => ⟨_, upd_same, Reps.snoc (rs.stay st) (s3.stay st)⟩
        refine ⟨ys, eh, ?_, s1.trans t1, t2⟩
        have := fitB_le ft
        rw [rs.length]
        omega
      · cases e
    · cases e
/-! ### comprehensions -/
def tvYes : Tv := fun _ h => .ok true h
def ETs (X : Cx) (W : WX) (es : List Expr) (f : Tv) : Prop := PTs X es (tT X.K X.mg W f)
theorem PTs.of {X : Cx} {es : List Expr} {t t' : TT} (h : PTs X es t) (i : ∀ σ H Q, t' σ H Q → t σ H Q) : PTs X es t' := ⟨fun pins s σ H Q I w => h.run pins s σ H Q I (i σ H Q w)⟩
theorem ets_nil {X : Cx} {W : WX} : ETs X W [] tvYes := PTs.of pts_nil fun σ H Q ⟨φ, h, ρ, sm, er, q⟩ => q H φ (Step.refl _ _ _) sm
theorem ets_one {X : Cx} {W : WX} {c : Expr} {t : Tv} (h : ET X W c t) : ETs X W [c] t := pts_one h
open Classical in
noncomputable def lcL (gd : Option (Nat × List Da)) (D : Nat) (g : Gv) (tt : Tv) (fe : Ev) (ρ0 : En) : List Da → Hh → Out Vl
  | [], h => if gdOk gd h then .ok (.r D) h else .no
  | d :: ds, h => if gdOk gd h then (match g (.d d) ρ0 h with
      | none => .no
      | some p => match tt p.1 p.2 with
        | .ok true h2 => (match fe p.1 h2 with
          | .ok v h3 => (match appL D v h3 with
            | some h4 => lcL gd D g tt fe ρ0 ds h4
            | none => .no)
          | _ => .no)
        | .ok false h2 => lcL gd D g tt fe ρ0 ds h2
        | _ => .no) else .no
noncomputable def eLc (vs : List Nat) (i : Iv) (g : Gv) (tt : Tv) (fe : Ev) : Ev := fun ρ h => (i ρ h).bind fun m h1 => lcL m.gd h1.length g tt fe (wipeE ρ vs) m.ds (h1 ++ [some (.lst [])])
abbrev WF : WX := fun _ _ _ _ => False
theorem lc_ok {K : PySem.W.Frag} {mg : Str → Option Value} {J : It} {m : Itm} {G : List Addr → Hh → Hp → Prop} (ok : ItOk K J m G) {g : Gv} {tt : Tv} {fe : Ev} {vs : List Nat} {φ : List Addr} {h : Hh} {H : Hp} {σ : L2.St} {ρ : En} {Q : VK} {E : XK} (sm : Sim K φ h H) (er : ERep K mg φ h H σ ρ) (gg : G φ h H)
    (q : PoX K mg φ h H (lcL m.gd h.length g tt fe (wipeE ρ vs) m.ds (h ++ [some (.lst [])])) Q E) (D : Addr) (nd : H D = none) : ∃ W' : Nat → Nat → Hp → Prop, (∃ n, W' 0 n (upd H D (.lst []))) ∧ ∀ i n H, W' i n H →
      (J.stop i H ∧ Q (.ref D) H) ∨ (J.go i H ∧ ∃ Nx : Hp → Prop, (∀ H', Nx H' → ∃ m', m' < n ∧ W' (i + 1) m' H') ∧ ∀ x H', J.yld i H x H' → tGw K mg vs g x (L2.wipe σ vs) H' fun σ2 H2 => L2.wipe σ2 vs = L2.wipe σ vs ∧ tT K mg WF tt σ2 H2 fun b H3 => if b = true then tE K mg WF fe σ2 H3 fun y H4 => ∃ acc, H4 D = some (.lst acc) ∧ acc.length < sizeLine ∧ Nx (upd H4 D (.lst (acc ++ [y]))) else Nx H3) := by
  obtain ⟨n1, n2, n3⟩ := sm.new (mg := mg) (ob := .lst []) (o := .lst []) nd fun M st => ⟨[], upd_same, .nil⟩
  have jD : (φ ++ [D])[h.length]? = some D := by
    rw [← sm.len]
    simp
  generalize h.length = j at *
  refine ⟨fun i n H => n = m.ds.length - i ∧ ∃ φ h, Sim K φ h H ∧ φ[j]? = some D ∧ ERep K mg φ h H (L2.wipe σ vs) (wipeE ρ vs) ∧ G φ h H ∧ PoX K mg φ h H (lcL m.gd j g tt fe (wipeE ρ vs) (m.ds.drop i) h) Q E, ⟨_, rfl, φ ++ [D], h ++ [some (.lst [])], n2, jD, (er.step n1).wipe vs, ok.keep _ _ _ _ _ _ gg n1, by rw [List.drop_zero]; exact PoX.pull n1 q⟩, ?_⟩
  rintro i n H ⟨rfl, φ, h, sm, jD, er, gg, q⟩
  cases ed : m.ds.drop i with
  | nil =>
    rw [ed] at q
    unfold lcL at q
    split at q
    · rename_i gd
      exact .inl ⟨ok.stop φ h H i sm gg gd (List.drop_eq_nil_iff.mp ed), q _ H φ (Step.refl _ _ _) sm ⟨D, jD, rfl⟩⟩
    · exact q.elim
  | cons d ds =>
    have hi : i < m.ds.length := by
      rcases Nat.lt_or_ge i m.ds.length with z | z
      · exact z
      · rw [List.drop_eq_nil_of_le z] at ed; cases ed
    have e1 : m.ds[i]? = some d := by
      have := List.getElem?_drop (xs := m.ds) (i := i) (j := 0)
      rw [ed] at this
      simpa using this.symm
    have e2 : m.ds.drop (i + 1) = ds := by
      have := List.drop_drop (i := 1) (j := i) (l := m.ds)
      rw [ed] at this
      simpa using this.symm
    rw [ed] at q
    unfold lcL at q
    split at q
    · rename_i gd
      refine .inr ⟨ok.go φ h H i sm gg gd hi, fun H' => ∃ φ h, Sim K φ h H' ∧ φ[j]? = some D ∧ ERep K mg φ h H' (L2.wipe σ vs) (wipeE ρ vs) ∧ G φ h H' ∧ PoX K mg φ h H' (lcL m.gd j g tt fe (wipeE ρ vs) ds h) Q E, fun H' hN => ?_, fun x H' hy => ?_⟩
      · obtain ⟨φ', h', a1, a2, a3, a4, a5⟩ := hN
        exact ⟨m.ds.length - (i + 1), by omega, rfl, φ', h', a1, a2, a3, a4, by rw [e2]; exact a5⟩
      · obtain ⟨s1, s2, s3⟩ := ok.yld φ h H i x H' d sm gg gd e1 hy
        have q' := PoX.pull s1 q
        have gg' := ok.keep _ _ _ _ _ _ gg s1
        have er' := er.step s1
        cases eg : g (.d d) (wipeE ρ vs) h with
        | none => rw [eg] at q'; exact q'.elim
        | some p =>
          obtain ⟨ρ1, h1⟩ := p
          rw [eg] at q'
          refine ⟨φ, h, _, .d d, ρ1, h1, s2, er', s3, eg, fun σ2 H2 φ2 st2 sm2 er2 w2 => ⟨by
            have idm : L2.wipe (L2.wipe σ vs) vs = L2.wipe σ vs := by
              apply List.ext_getElem?
              intro k
              rw [wipe_get, wipe_get, L2.wipe_length]
              by_cases hk : k ∈ vs <;> simp [hk]
            rw [w2, idm], φ2, h1, ρ1, sm2, er2, ?_⟩⟩
          have q2 := PoX.pull st2 q'
          have gg2 := ok.keep _ _ _ _ _ _ gg' st2
          have er3 := er'.step st2
          have jD2 := pre_get st2.pre jD
          dsimp only at q2
          revert q2
          cases tt ρ1 h1 with
          | no => exact fun q2 => q2
          | ex c fs h2 => exact fun q2 => q2.elim
          | ok b h2 =>
            intro q2 H3 φ3 st3 sm3
            have q3 := PoX.pull st3 q2
            have gg3 := ok.keep _ _ _ _ _ _ gg2 st3
            have jD3 := pre_get st3.pre jD2
            cases b with
            | false =>
              rw [if_neg (by decide)]
              exact ⟨φ3, h2, sm3, jD3, er3.step st3, gg3, q3⟩
            | true =>
              rw [if_pos rfl]
              refine ⟨φ3, h2, ρ1, sm3, er2.step st3, ?_⟩
              dsimp only at q3
              revert q3
              cases fe ρ1 h2 with
              | no => exact fun q3 => q3
              | ex c fs h3 => exact fun q3 => q3.elim
              | ok v h3 =>
                intro q3 y H4 φ4 st4 sm4 rv
                have q4 := PoX.pull st4 q3
                have gg4 := ok.keep _ _ _ _ _ _ gg3 st4
                have jD4 := pre_get st4.pre jD3
                dsimp only at q4
                cases ea : appL j v h3 with
                | none => rw [ea] at q4; exact q4.elim
                | some h4 =>
                  rw [ea] at q4
                  obtain ⟨acc, a1, a2, a3, a4⟩ := appL_ok sm4 jD4 rv ea
                  exact ⟨acc, a1, a2, φ4, h4, a4, jD4, ((er3.step st3).step st4).step a3, ok.keep _ _ _ _ _ _ gg4 a3, PoX.pull a3 q4⟩
    · exact q.elim
section
variable {X : Cx} {W : WX} {elt tg iter : Expr} {ifs : List Expr} {scope : Scope} {own : List (Str × Nat)} {pos spos py : Pos} {fi : Iv} {g : Gv} {tt : Tv} {fe : Ev}
theorem lc_read {σ : L2.St} {H : Hp} {Q : VK} {ws : List Nat} (hw : ws = own.map (·.2)) (t : tE X.K X.mg W (eLc ws fi g tt fe) σ H Q) : tLc (tI X.K X.mg W fi) (tGw X.K X.mg ws g) (tT X.K X.mg WF tt) (tE X.K X.mg WF fe) (own.map (·.2)) σ H Q := by
  subst hw
  obtain ⟨φ, h, ρ, sm, er, q⟩ := t
  refine ⟨φ, h, ρ, sm, er, ?_⟩
  unfold eLc at q
  revert q
  cases fi ρ h with
  | ok m h1 => exact fun q J H1 φ1 G st sm1 ok gg D nd => lc_ok ok sm1 (er.step st) gg (PoX.pull st q) D nd
  | ex c fs h1 => exact fun q => q
  | no => exact fun q => q
theorem ee_lc (ws : List Nat) (own : List (Str × Nat)) (hc : X.calm = true) (hN : X.N.Nodup) (hi : EI X W tg iter fi) (ok : BlkOk X.N X.env.scope scope own)
    (hg : ∀ (s : Shared) (H : Hp) (C : Addr) (cl : List (Str × Addr)) (fp : List Addr), EGw (X.blk s H scope (compEnvC scope cl C X.env) fp) ws tg g)
    (ht : ∀ (s : Shared) (H : Hp) (C : Addr) (cl : List (Str × Addr)) (fp : List Addr), ETs (X.blk s H scope (compEnvC scope cl C X.env) fp) WF ifs tt)
    (he : ∀ (s : Shared) (H : Hp) (C : Addr) (cl : List (Str × Addr)) (fp : List Addr), EE (X.blk s H scope (compEnvC scope cl C X.env) fp) WF elt fe)
    (hw : ws = own.map (·.2) := by rfl) (hs : ∀ x, foldedSetIterable iter X.env x = pure x := by intro _; rfl) : EE X W (.ListComp elt [⟨tg, iter, ifs, 0⟩] scope pos) (eLc ws fi g tt fe) :=
  PE.of (pe_lc (own := own) (g := tGw X.K X.mg ws g) (tt := tT X.K X.mg WF tt) (te := tE X.K X.mg WF fe) hc hN hi ok hg ht he hs) fun σ H Q t => lc_read hw t
theorem es_setLc {i : Nat} {y : Str} (ws : List Nat) (own : List (Str × Nat)) (hc : X.calm = true) (hN : X.N.Nodup) (hi : EI X W tg iter fi) (ok : BlkOk X.N X.env.scope scope own)
    (hg : ∀ (s : Shared) (H : Hp) (C : Addr) (cl : List (Str × Addr)) (fp : List Addr), EGw (X.blk s H scope (compEnvC scope cl C X.env) fp) ws tg g)
    (ht : ∀ (s : Shared) (H : Hp) (C : Addr) (cl : List (Str × Addr)) (fp : List Addr), ETs (X.blk s H scope (compEnvC scope cl C X.env) fp) WF ifs tt)
    (he : ∀ (s : Shared) (H : Hp) (C : Addr) (cl : List (Str × Addr)) (fp : List Addr), EE (X.blk s H scope (compEnvC scope cl C X.env) fp) WF elt fe)
    (hsw : swapsWith (.ListComp elt [⟨tg, iter, ifs, 0⟩] scope pos) (some (.Name y py)) spos.line X.env = pure true)
    (hy : X.N[i]? = some y := by rfl) (hyl : X.env.scope.names.lookup y = some .local := by rfl)
    (hw : ws = own.map (·.2) := by rfl) (hs : ∀ x, foldedSetIterable iter X.env x = pure x := by intro _; rfl) : ES X W (.Assign [.Name y py] (.ListComp elt [⟨tg, iter, ifs, 0⟩] scope pos) spos) (sSet i (eLc ws fi g tt fe)) :=
  PS.of (ps_setLc (i := i) (own := own) (g := tGw X.K X.mg ws g) (tt := tT X.K X.mg WF tt) (te := tE X.K X.mg WF fe) hc hN hy hyl hsw hi ok hg ht he hs) fun D σ H ⟨φ, h, ρ, sm, er, q⟩ => lc_read hw ⟨φ, h, ρ, sm, er, by
    unfold sSet at q
    revert q
    cases eLc ws fi g tt fe ρ h with
    | ok v h1 => exact fun q x H1 φ1 st sm1 rv => q _ H1 φ1 st sm1 ((er.step st).set rv)
    | ex c fs h1 => exact fun q cls dd H' φ' st sm' xr => q cls dd σ H' φ' st sm' (er.step st) xr
    | no => exact fun q => q⟩
end
theorem tk_blk {X : Cx} {s : Shared} {H : Hp} {scope : Scope} {e : Env} {fp : List Addr} : Takes (X.blk s H scope e fp) WF := fun u s' ⟨a, B, sI, pins, σ, H, cls, d, e, I, nb, up, sky, na, os, ag, w⟩ => w.elim
end Rk

/-! Rk11: methods of built-in types. -/
namespace Rk
open PySem PySem.Spec L2
variable {mg : Str → Option Value}
abbrev GM := Vl → List Vl → Hh → Option (Vl × Hh)
def eMt (ty : Vl → Hh → Bool) (g : GM) (o : Ev) (as : Av) : Ev := fun ρ h => (o ρ h).bind fun x h1 => if ty x h1 = true then (as ρ h1).bind fun vs h2 => ofO (g x vs h2) else .no
def TyOk (K : PySem.W.Frag) (mg : Str → Option Value) (T : String) (ty : Vl → Hh → Bool) : Prop := ∀ (φ : List Addr) (h : Hh) (H : Hp) (x : V) (v : Vl), Sim K φ h H → VRep K mg φ h H x v → ty v h = true → tyV K T x H
def OkM (K : PySem.W.Frag) (mg : Str → Option Value) (r : V → List V → Hp → VK → Prop) (g : GM) : Prop := ∀ (φ : List Addr) (h : Hh) (H : Hp) (x : V) (xs : List V) (o : Vl) (as : List Vl) (Q : VK) (v : Vl) (h' : Hh), Sim K φ h H → VRep K mg φ h H x o → VReps K mg φ h H xs as → g o as h = some (v, h') →
  (∀ z H' φ', Step φ h H φ' h' H' → Sim K φ' h' H' → VRep K mg φ' h' H' z v → Q z H') → r x xs H Q
def tyL (v : Vl) (h : Hh) : Bool := (asL v h).isSome
def tyS (v : Vl) (_ : Hh) : Bool := match v with
  | .d (.str _) => true
  | _ => false
section
variable {K : PySem.W.Frag}
theorem tyL_ok : TyOk K mg "list" tyL := fun φ h H x v sm r e => by
  unfold tyL at e
  cases q : asL v h with
  | none => rw [q] at e; cases e
  | some ds =>
    obtain ⟨a, xs, rfl, sq, _⟩ := asL_ok sm r q
    exact .inl ⟨rfl, xs, sq⟩
theorem tyS_ok : TyOk K mg "str" tyS := fun φ h H x v sm r e => by
  unfold tyS at e
  split at e
  · rw [VRep.str r]
    rfl
  · cases e
end
section
variable {X : Cx} {W : WX} {o e : Expr} {es : List Expr} {fo : Ev} {fs : Av} {apos cpos : Pos} {T : String} {name : Str} {id : String} {r : V → List V → Hp → VK → Prop} {ty : Vl → Hh → Bool} {g : GM}
theorem ee_mt (pa : PlainAttrs T) (slot : Slot T name id) (hty : typeOf (.builtin id) = pure (.type "method_descriptor")) (hm : MtR X id r) (tk : TyOk X.K X.mg T ty) (ok : OkM X.K X.mg r g) (ho : EE X W o fo) (ha : EA X W (e :: es) fs)
    (hbase : attributeBase o name X.env (eval o X.env) = eval o X.env := by rfl)
    (hfew : ((backTo cpos (starEach (e :: es) X.env)).all (fun x => !x.1) && (backToKw cpos (keywordEach [] X.env)).all (fun x => x.1.isSome)
      && decide ((e :: es).length + ([] : List Keyword).length + (if ([] : List Keyword).isEmpty then 0 else 1) < 30)) = true := by rfl)
    (hline : (apos.endLine == cpos.line) = true := by rfl) (hs : starEach (e :: es) X.env = (false, eval e X.env) :: starEach es X.env := by rfl) (hplain : (backTo cpos (starEach es X.env)).any (·.1) = false := by rfl) :
    EE X W (.Call (.Attribute o name apos) (e :: es) [] cpos) (eMt ty g fo fs) :=
  PE.of (pe_bm pa slot hty hm ho ha hbase hfew hline hs hplain) fun σ H Q ⟨φ, h, ρ, sm, er, q⟩ => ⟨φ, h, ρ, sm, er, PoX.goE q fun x v h1 H1 φ1 st sm1 rv q1 => by
    split at q1
    · rename_i ht
      refine ⟨tk _ _ _ _ _ sm1 rv ht, φ1, h1, ρ, sm1, er.step st, PoX.goA q1 fun xs vs h2 H2 φ2 st2 sm2 rvs q2 => ?_⟩
      obtain ⟨z, h3, e3, k⟩ := PoX.ofO q2
      exact ok φ2 h2 H2 x xs v vs Q z h3 sm2 (rv.step st2) rvs e3 k
    · exact q1.elim⟩
theorem ee_mt0 (pa : PlainAttrs T) (slot : Slot T name id) (hty : typeOf (.builtin id) = pure (.type "method_descriptor")) (hm : MtR X id r) (tk : TyOk X.K X.mg T ty) (ok : OkM X.K X.mg r g) (ho : EE X W o fo)
    (hbase : attributeBase o name X.env (eval o X.env) = eval o X.env := by rfl) (hline : (apos.endLine == cpos.line) = true := by rfl) :
    EE X W (.Call (.Attribute o name apos) [] [] cpos) (eMt ty g fo aNil) :=
  PE.of (pe_bm0 pa slot hty hm ho hbase hline) fun σ H Q ⟨φ, h, ρ, sm, er, q⟩ => ⟨φ, h, ρ, sm, er, PoX.goE q fun x v h1 H1 φ1 st sm1 rv q1 => by
    split at q1
    · rename_i ht
      refine ⟨tk _ _ _ _ _ sm1 rv ht, ?_⟩
      obtain ⟨z, h3, e3, k⟩ := PoX.ofO q1
      exact ok φ1 h1 H1 x [] v [] Q z h3 sm1 rv .nil e3 k
    · exact q1.elim⟩
end
/-! ### lists' methods -/
def gApp : GM := fun o as h => match o, as with
  | .r n, [v] => (appL n v h).map fun h' => (.d .none, h')
  | _, _ => none
theorem ok_app {K : PySem.W.Frag} : OkM K mg rAppend gApp := by
  intro φ h H x xs o as Q v h' sm rx rs e k
  unfold gApp at e
  split at e
  · rename_i n w
    obtain ⟨y, rfl, ry⟩ := rs.one
    obtain ⟨a, ea, rfl⟩ := rx
    cases q : appL n w h with
    | none => rw [q] at e; cases e
    | some h1 =>
      rw [q] at e
      cases e
      obtain ⟨acc, a1, a2, a3, a4⟩ := appL_ok sm ea ry q
      exact ⟨a, acc, y, rfl, rfl, a1, a2, k _ _ _ a3 a4 Rep.non⟩
  · cases e
end Rk

/-! Rk12: rounding, by numbers alone. -/
namespace Rk
open PySem PySem.Spec L2
/-! ### whole and rest -/
theorem rest_eq (t : Rat) : ((t.num.fmod t.den : Int) : Rat) = (t - (t.floor : Rat)) * ((t.den : Nat) : Rat) := by
  rw [Int.fmod_def, floor_num, Rat.intCast_sub, Rat.intCast_mul, ← mul_den_num t, Rat.intCast_natCast]
  grind
theorem den_posR (t : Rat) : (0 : Rat) < ((t.den : Nat) : Rat) := by
  have : ((0 : Nat) : Rat) < ((t.den : Nat) : Rat) := Rat.natCast_lt_natCast.mpr t.den_pos
  exact this
theorem rest_pos (t : Rat) : (0 < t.num.fmod t.den) ↔ 0 < t - (t.floor : Rat) := by
  rw [← Rat.intCast_lt_intCast, rest_eq]
  have d := den_posR t
  constructor
  · intro h
    refine Rat.lt_of_mul_lt_mul_right (c := ((t.den : Nat) : Rat)) ?_ (Rat.le_of_lt d)
    rw [Rat.zero_mul]
    exact h
  · intro h
    exact Rat.mul_pos h d
theorem rest_gt (t : Rat) : ((t.den : Int) < t.num.fmod t.den * 2) ↔ 1 < 2 * (t - (t.floor : Rat)) := by
  rw [← Rat.intCast_lt_intCast, Rat.intCast_mul, rest_eq, Rat.intCast_natCast]
  have d := den_posR t
  have e2 : ((2 : Int) : Rat) = 2 := rfl
  rw [e2]
  constructor
  · intro h
    refine Rat.lt_of_mul_lt_mul_right (c := ((t.den : Nat) : Rat)) ?_ (Rat.le_of_lt d)
    grind
  · intro h
    have := Rat.mul_lt_mul_of_pos_right h d
    grind
theorem rest_half (t : Rat) : (t.num.fmod t.den * 2 = (t.den : Int)) ↔ 2 * (t - (t.floor : Rat)) = 1 := by
  rw [← Rat.intCast_inj, Rat.intCast_mul, rest_eq, Rat.intCast_natCast]
  have d := den_posR t
  have e2 : ((2 : Int) : Rat) = 2 := rfl
  rw [e2]
  constructor
  · intro h
    rcases rat_tri (2 * (t - (t.floor : Rat))) 1 with z | z | z
    · have := Rat.mul_lt_mul_of_pos_right z d
      grind
    · exact z
    · have := Rat.mul_lt_mul_of_pos_right z d
      grind
  · intro h
    grind
theorem num_neg (t : Rat) : (t.num < 0) ↔ t < 0 := by
  rw [Rat.lt_iff]
  simp
theorem fl_le (t : Rat) : (t.floor : Rat) ≤ t := Rat.floor_le t
theorem fl_lt (t : Rat) : t < (t.floor : Rat) + 1 := by
  have := Rat.lt_floor_add_one (a := t)
  rw [Rat.intCast_add] at this
  exact this
def upB (w : String) (t : Rat) : Bool :=
  if w = "near" then decide (1 < 2 * (t - (t.floor : Rat))) || (decide (2 * (t - (t.floor : Rat)) = 1) && decide (t.floor.fmod 2 = 1))
  else if w = "nought" then decide (t < 0) && decide (0 < t - (t.floor : Rat))
  else decide (w = "up") && decide (0 < t - (t.floor : Rat))
/-- the whole number that a way tells -/
def wb (w : String) (t : Rat) : Int := t.floor + (if upB w t = true then 1 else 0)
theorem wb_int (w : String) (n : Int) : wb w (n : Rat) = n := by
  have e : ((n : Int) : Rat) - (((n : Rat).floor : Int) : Rat) = 0 := by
    rw [Rat.floor_intCast]
    grind
  have u : upB w (n : Rat) = false := by
    unfold upB
    rw [e]
    split
    · rw [Rat.mul_zero, decide_eq_false (by decide), decide_eq_false (by decide)]
      rfl
    · split
      · rw [decide_eq_false (p := (0 : Rat) < 0) (by decide), Bool.and_false]
      · rw [decide_eq_false (p := (0 : Rat) < 0) (by decide), Bool.and_false]
  unfold wb
  rw [u, Rat.floor_intCast]
  simp
theorem wb_lo (w : String) (t : Rat) : t.floor ≤ wb w t := by
  unfold wb
  split <;> omega
theorem wb_hi (w : String) (t : Rat) : wb w t ≤ t.floor + 1 := by
  unfold wb
  split <;> omega
/-- up only where there is a rest -/
theorem wb_up {w : String} {t : Rat} (h : wb w t = t.floor + 1) : (t.floor : Rat) < t := by
  have u : upB w t = true := by
    unfold wb at h
    split at h
    · assumption
    · omega
  unfold upB at u
  have l := fl_le t
  split at u
  · rw [Bool.or_eq_true] at u
    rcases u with u | u
    · have := of_decide_eq_true u
      grind
    · rw [Bool.and_eq_true] at u
      have := of_decide_eq_true u.1
      grind
  · split at u
    · rw [Bool.and_eq_true] at u
      have := of_decide_eq_true u.2
      grind
    · rw [Bool.and_eq_true] at u
      have := of_decide_eq_true u.2
      grind
/-- no farther than a whole number beyond -/
theorem wb_le {w : String} {t : Rat} {n : Int} (h : t ≤ (n : Rat)) : wb w t ≤ n := by
  have h1 := wb_hi w t
  rcases Int.lt_or_eq_of_le h1 with z | z
  · have : t.floor ≤ n := by
      have l := fl_le t
      rw [← Rat.intCast_le_intCast]
      grind
    omega
  · have u := wb_up z
    have : t.floor < n := by
      rw [← Rat.intCast_lt_intCast]
      grind
    omega
theorem wb_ge {w : String} {t : Rat} {n : Int} (h : (n : Rat) ≤ t) : n ≤ wb w t := by
  have h1 := wb_lo w t
  have : n ≤ t.floor := Rat.le_floor_iff.mpr h
  omega
noncomputable def Ruler.stp (R : Ruler) (x : Rat) : Rat := R.pw (R.plc x)
noncomputable def Ruler.rnd (R : Ruler) (x : Rat) : Rat := (wb R.w (x / R.stp x) : Rat) * R.stp x
theorem div_mul' {x s : Rat} (h : s ≠ 0) : x / s * s = x := Rat.div_mul_cancel h
section
variable {R : Ruler} (O : R.Ok)
include O
theorem stp_pos (x : Rat) : 0 < R.stp x := pw_pos O _
theorem stp_ne (x : Rat) : R.stp x ≠ 0 := pw_ne O _
theorem plc_le {n : Nat} {x : Rat} (h : BQ n x) {q : Int} (hl : R.l ≤ q) (hq : x.abs < R.pw (q + R.f)) : R.plc x ≤ q := by
  have k := plc_ok O h
  rcases k.2.2 with e | e
  · omega
  · have h1 : R.pw (R.plc x - 1 + R.f) < R.pw (q + R.f) := by grind
    have := (pw_lt_iff O).mp h1
    omega
/-- a step's size -/
theorem BQ_stp {n m : Nat} {x : Rat} (h : BQ n x) (h1 : 401 ≤ m) (h2 : n + 1 ≤ m) : BQ m (R.stp x) := by
  have k := plc_ok O h
  have l1 := O.l1
  have l2 := O.l2
  have f1 := O.f1
  unfold Ruler.stp
  by_cases z : R.plc x ≤ 100
  · exact (BQ_pw O (E := 100) (by have := k.1; omega)).mono (by omega)
  · rcases k.2.2 with e | e
    · omega
    · have a : R.pw (R.plc x) ≤ R.pw (R.plc x - 1 + R.f) := pw_le O (by omega)
      have hx := h.abs
      have b : x.abs ≤ ((x.abs.num.natAbs : Nat) : Rat) := by
        rw [Rat.le_iff]
        simp only [Rat.num_natCast, Rat.den_natCast]
        have h0 : 0 ≤ x.abs.num := Rat.num_nonneg.mpr Rat.abs_nonneg
        have d := den_pos x.abs
        have : x.abs.num * 1 ≤ x.abs.num * (x.abs.den : Int) := Int.mul_le_mul_of_nonneg_left (by omega) h0
        rw [show ((x.abs.num.natAbs : Nat) : Int) = x.abs.num by omega]
        omega
      obtain ⟨e', he⟩ : ∃ e' : Nat, R.plc x = (e' : Int) := ⟨(R.plc x).toNat, by omega⟩
      rw [he] at a ⊢
      have c : R.b ^ e' ≤ x.abs.num.natAbs := by
        have : R.pw (e' : Int) ≤ ((x.abs.num.natAbs : Nat) : Rat) := by grind
        rw [pw_nat] at this
        exact Rat.natCast_le_natCast.mp this
      have d : R.b ^ e' < 2 ^ m := by
        have := hx.1
        unfold Bd at this
        exact Nat.lt_of_le_of_lt c (Nat.lt_of_lt_of_le this (Nat.pow_le_pow_right (by decide) (by omega)))
      rw [pw_nat]
      refine ⟨?_, ?_⟩
      · rw [Rat.num_natCast]
        exact bd_nat d
      · rw [Rat.den_natCast]
        exact Nat.one_lt_two_pow (by omega)
theorem turns_lt {n : Nat} {x : Rat} (h : BQ n x) : (x / R.stp x).abs < R.pw R.f := by
  have k := (plc_ok O h).2.1
  have s := stp_pos O x
  rw [pw_add O] at k
  have e := div_mul' (x := x) (stp_ne O x)
  unfold Ruler.stp at *
  generalize x / R.pw (R.plc x) = t at *
  unfold Rat.abs at *
  have key : ∀ u v : Rat, u * R.pw (R.plc x) < R.pw (R.plc x) * v → u < v := fun u v hh => by
    refine Rat.lt_of_mul_lt_mul_right (c := R.pw (R.plc x)) ?_ (Rat.le_of_lt s)
    grind
  split at k
  · rename_i hx
    have h1 := key t _ (by rw [e]; exact k)
    have h2 : 0 ≤ t := by
      refine Rat.le_of_mul_le_mul_right (c := R.pw (R.plc x)) ?_ s
      rw [e, Rat.zero_mul]
      exact hx
    rw [if_pos h2]
    exact h1
  · rename_i hx
    have h1 := key (-t) _ (by rw [Rat.neg_mul, e]; exact k)
    split
    · have p := pw_pos O (R.f : Int)
      grind
    · exact h1
theorem wb_bd {n : Nat} {x : Rat} (h : BQ n x) : (wb R.w (x / R.stp x)).natAbs ≤ R.b ^ R.f := by
  have k := turns_lt O h
  rw [pw_nat] at k
  generalize x / R.stp x = t at *
  have h1 : t ≤ (((R.b ^ R.f : Nat) : Int) : Rat) := by
    rw [Rat.intCast_natCast]
    unfold Rat.abs at k
    grind
  have h2 : ((-((R.b ^ R.f : Nat) : Int) : Int) : Rat) ≤ t := by
    rw [Rat.intCast_neg, Rat.intCast_natCast]
    unfold Rat.abs at k
    grind
  have a := wb_le (w := R.w) h1
  have b := wb_ge (w := R.w) h2
  omega
theorem BQ_rnd {n m : Nat} {x : Rat} (h : BQ n x) (h1 : 401 ≤ m) (h2 : n + 1 ≤ m) : BQ (97 + m) (R.rnd x) := by
  unfold Ruler.rnd
  refine BQ.mul ?_ (BQ_stp O h h1 h2) (by omega)
  have b := wb_bd O h
  have p : R.b ^ R.f ≤ 16 ^ 24 := Nat.le_trans (Nat.pow_le_pow_left O.b16 _) (Nat.pow_le_pow_right (by decide) O.f24)
  refine ⟨?_, ?_⟩
  · rw [Rat.num_intCast]
    exact Nat.lt_of_le_of_lt (Nat.le_trans b p) (by decide)
  · rw [Rat.den_intCast]
    exact Nat.one_lt_two_pow (by omega)
/-- what is a whole multiple of its step stays -/
theorem rnd_fix {x : Rat} {k : Int} (h : x = (k : Rat) * R.stp x) : R.rnd x = x := by
  have e : x / R.stp x = (k : Rat) := by
    have h0 := stp_ne O x
    have h3 : x / R.stp x = (k : Rat) * R.stp x / R.stp x := congrArg (· / R.stp x) h
    rw [h3]
    exact Rat.mul_div_cancel h0
  unfold Ruler.rnd
  rw [e, wb_int]
  exact h.symm
theorem pw_sub_int {a b : Int} (h : a ≤ b) : ∃ k : Int, R.pw b = (k : Rat) * R.pw a := by
  refine ⟨((R.b ^ (b - a).toNat : Nat) : Int), ?_⟩
  have e : b = (((b - a).toNat : Nat) : Int) + a := by omega
  have e2 : R.pw b = R.pw ((((b - a).toNat : Nat) : Int) + a) := congrArg R.pw e
  rw [e2, pw_add O, pw_nat, Rat.intCast_natCast]
/-- what is rounded is a whole multiple of its own step -/
theorem rnd_mult {n : Nat} {x : Rat} (h : BQ n x) : ∃ k : Int, R.rnd x = (k : Rat) * R.stp (R.rnd x) := by
  have hb := BQ_rnd O h (m := 401 + n) (by omega) (by omega)
  have w := wb_bd O h
  have k := plc_ok O h
  have ry : R.rnd x = (wb R.w (x / R.stp x) : Rat) * R.pw (R.plc x) := rfl
  generalize R.rnd x = y at *
  generalize wb R.w (x / R.stp x) = m at *
  generalize R.plc x = p at *
  have pp := pw_pos O p
  have fin : R.plc y ≤ p → ∃ k : Int, y = (k : Rat) * R.stp y := fun hp => by
    obtain ⟨j, ej⟩ := pw_sub_int O hp
    refine ⟨m * j, ?_⟩
    unfold Ruler.stp
    rw [Rat.intCast_mul, Rat.mul_assoc, ← ej]
    exact ry
  have absm : y.abs = ((m.natAbs : Nat) : Rat) * R.pw p := by
    rw [ry]
    rcases Int.le_total 0 m with z | z
    · have z' : (0 : Rat) ≤ (m : Rat) := Rat.intCast_nonneg.mpr z
      have z2 : (0 : Rat) ≤ (m : Rat) * R.pw p := Rat.mul_nonneg z' (Rat.le_of_lt pp)
      unfold Rat.abs
      rw [if_pos z2, ← Rat.intCast_natCast, show ((m.natAbs : Nat) : Int) = m by omega]
    · have z' : (0 : Rat) ≤ ((-m : Int) : Rat) := Rat.intCast_nonneg.mpr (by omega)
      have z2 : (0 : Rat) ≤ ((-m : Int) : Rat) * R.pw p := Rat.mul_nonneg z' (Rat.le_of_lt pp)
      rw [← abs_neg', ← Rat.neg_mul, ← Rat.intCast_neg]
      unfold Rat.abs
      rw [if_pos z2, ← Rat.intCast_natCast, show ((m.natAbs : Nat) : Int) = -m by omega]
  rcases Nat.lt_or_eq_of_le w with z | z
  · apply fin
    refine plc_le O hb k.1 ?_
    rw [absm, Int.add_comm, pw_add O, pw_nat]
    exact Rat.mul_lt_mul_of_pos_right (Rat.natCast_lt_natCast.mpr z) pp
  · rw [z, ← pw_nat, ← pw_add O] at absm
    have h1 : R.plc y ≤ p + 1 := plc_le O hb (by have := k.1; omega) (by
      rw [absm]
      exact pw_lt O (by omega))
    rcases Int.lt_or_eq_of_le h1 with q | q
    · exact fin (by omega)
    · obtain ⟨j, ej⟩ := pw_sub_int O (a := p + 1) (b := R.f + p) (by have := O.f1; omega)
      unfold Ruler.stp
      rw [q]
      have sg : y = y.abs ∨ y = -y.abs := by
        unfold Rat.abs
        split
        · exact .inl rfl
        · exact .inr (by grind)
      rcases sg with s | s
      · exact ⟨j, by rw [← ej, ← absm]; exact s⟩
      · exact ⟨-j, by rw [Rat.intCast_neg, Rat.neg_mul, ← ej, ← absm]; exact s⟩
theorem rnd_rnd {n : Nat} {x : Rat} (h : BQ n x) : R.rnd (R.rnd x) = R.rnd x := by
  obtain ⟨k, e⟩ := rnd_mult O h
  exact rnd_fix O e
end
end Rk
namespace Rk
open PySem PySem.Spec L2
theorem sh_str {a : Str} (ha : PyData.strOk a = true) : sh (.str a) = true := by
  simp [sh, SeqAt.shaped, PyData.hasDict, PyData.hasDictAll, PyData.canLay0, PyData.depth, ha]
theorem eqv_str (a b : Str) : PyData.eqv (.str a) (.str b) = decide (a = b) := by
  show (a == b) = decide (a = b)
  by_cases e : a = b <;> simp [e]
theorem gEq_strO {a b : Str} {h : Hh} (ha : PyData.strOk a = true) (hb : PyData.strOk b = true) : gEq (.d (.str a)) (.d (.str b)) h = some (.d (.bool (decide (a = b))), h) := by
  simp [gEq, asD, eqvB, sh_str ha, sh_str hb, eqv_str]
theorem gNe_strO {a b : Str} {h : Hh} (ha : PyData.strOk a = true) (hb : PyData.strOk b = true) : gNe (.d (.str a)) (.d (.str b)) h = some (.d (.bool (!decide (a = b))), h) := by
  simp [gNe, asD, eqvB, sh_str ha, sh_str hb, eqv_str]
theorem gEq_str {a b : Str} {h : Hh} : gEq (.d (.str a)) (.d (.str b)) h = some (.d (.bool (decide (a = b))), h) := rfl
theorem gNe_str {a b : Str} {h : Hh} : gNe (.d (.str a)) (.d (.str b)) h = some (.d (.bool (!decide (a = b))), h) := rfl
theorem gInt1_b {b : Bool} {h : Hh} : gInt1 [.d (.bool b)] h = some (.d (.int (if b then 1 else 0)), h) := rfl
theorem gInt1_i {b : Int} {h : Hh} : gInt1 [.d (.int b)] h = some (.d (.int b), h) := rfl
theorem gLen_tup {ds : List Da} {h : Hh} : gLen [.d (.tuple ds)] h = some (.d (.int ds.length), h) := rfl
theorem gLen_Q {r : Rat} {h : Hh} : gLen [.d (Q r)] h = some (.d (.int 2), h) := rfl
theorem gNotB_b {a b : Bool} {h : Hh} : gNotB (.d (.bool a)) (.d (.bool b)) h = some (.d (.bool (!decide (a = b))), h) := rfl
theorem str_ne {a b : Str} (h : (a == b) = false) : ¬ a = b := by simpa using h
end Rk
namespace Rk
open PySem PySem.Spec L2
theorem so_near : PyData.strOk "near" = true := by decide +kernel
theorem so_down : PyData.strOk "down" = true := by decide +kernel
theorem so_up : PyData.strOk "up" = true := by decide +kernel
theorem so_nought : PyData.strOk "nought" = true := by decide +kernel
end Rk
namespace Rk
open PySem PySem.Spec L2
theorem mul_cancelR {a b c : Rat} (hc : c ≠ 0) (h : a * c = b * c) : a = b := by
  have h1 : a * c / c = b * c / c := congrArg (· / c) h
  rw [Rat.mul_div_cancel hc, Rat.mul_div_cancel hc] at h1
  exact h1
theorem divInt_mul_self {a b : Int} (hb : b ≠ 0) : Rat.divInt a b * (b : Rat) = (a : Rat) := by
  have e : ((b : Int) : Rat) = Rat.divInt b 1 := by
    have := Rat.num_divInt_den ((b : Int) : Rat)
    simp only [Rat.num_intCast, Rat.den_intCast] at this
    exact this.symm
  have e2 : ((a : Int) : Rat) = Rat.divInt a 1 := by
    have := Rat.num_divInt_den ((a : Int) : Rat)
    simp only [Rat.num_intCast, Rat.den_intCast] at this
    exact this.symm
  rw [e, e2, Rat.divInt_mul_divInt, Int.mul_one]
  have := Rat.divInt_mul_right (n := a) (d := 1) (a := b) hb
  rw [Int.one_mul] at this
  exact this
theorem floor_uniq {q : Rat} {k : Int} (h1 : (k : Rat) ≤ q) (h2 : q < (k : Rat) + 1) : q.floor = k := by
  have a : k ≤ q.floor := Rat.le_floor_iff.mpr h1
  have l := fl_le q
  have b : q.floor < k + 1 := by
    rw [← Rat.intCast_lt_intCast, Rat.intCast_add]
    have e : ((1 : Int) : Rat) = 1 := rfl
    rw [e]
    grind
  omega
theorem floor_divInt {a b : Int} (hb : 0 < b) : (Rat.divInt a b).floor = a.fdiv b := by
  have e := divInt_mul_self (a := a) (b := b) (by omega)
  have bp : (0 : Rat) < (b : Rat) := Rat.intCast_pos.mpr hb
  rw [Int.fdiv_eq_ediv_of_nonneg _ (by omega)]
  refine floor_uniq ?_ ?_
  · refine Rat.le_of_mul_le_mul_right (c := (b : Rat)) ?_ bp
    rw [e, ← Rat.intCast_mul, Rat.intCast_le_intCast]
    exact Int.ediv_mul_le _ (by omega)
  · refine Rat.lt_of_mul_lt_mul_right (c := (b : Rat)) ?_ (Rat.le_of_lt bp)
    have e1 : ((1 : Int) : Rat) = 1 := rfl
    rw [e, ← e1, ← Rat.intCast_add, ← Rat.intCast_mul, Rat.intCast_lt_intCast]
    exact Int.lt_ediv_add_one_mul_self _ hb
theorem floor_div (x : Rat) {s : Rat} (hs : 0 < s) : (x.num * s.den).fdiv (x.den * s.num) = (x / s).floor := by
  have sn : 0 < s.num := by
    have := (Rat.lt_iff 0 s).mp hs
    simpa using this
  rw [← div_divInt]
  exact (floor_divInt (Int.mul_pos (den_pos x) sn)).symm
/-- so many times a fraction -/
theorem int_mul (k : Int) (s : Rat) : Rat.divInt (k * s.num) s.den = (k : Rat) * s := by
  have := mul_divInt (k : Rat) s
  rw [Rat.num_intCast, Rat.den_intCast] at this
  rw [← this]
  congr 1
  simp
theorem cast_natAbs (z : Int) : (((z.natAbs : Nat) : Int) : Rat) = (z : Rat).abs := by
  unfold Rat.abs
  split
  · rename_i h
    have : 0 ≤ z := Rat.intCast_nonneg.mp h
    rw [show ((z.natAbs : Nat) : Int) = z by omega]
  · rename_i h
    have : ¬ 0 ≤ z := fun q => h (Rat.intCast_nonneg.mpr q)
    rw [← Rat.intCast_neg, show ((z.natAbs : Nat) : Int) = -z by omega]
/-- across -/
theorem across (b x : Rat) : ((b.num * x.den - x.num * b.den : Int) : Rat) = (b - x) * (((b.den : Nat) : Rat) * ((x.den : Nat) : Rat)) := by
  rw [Rat.intCast_sub, Rat.intCast_mul, Rat.intCast_mul, ← mul_den_num b, ← mul_den_num x, Rat.intCast_natCast, Rat.intCast_natCast]
  grind
theorem abs_mulP {a c : Rat} (hc : 0 < c) : (a * c).abs = a.abs * c := by
  unfold Rat.abs
  by_cases h : 0 ≤ a
  · rw [if_pos h, if_pos (Rat.mul_nonneg h (Rat.le_of_lt hc))]
  · have : ¬ 0 ≤ a * c := fun z => by
      have h2 := Rat.mul_lt_mul_of_pos_right (Rat.not_le.mp h) hc
      rw [Rat.zero_mul] at h2
      grind
    rw [if_neg h, if_neg this]
    grind
theorem BQ_int {n : Nat} {k : Int} (h : Bd n k) (h0 : 0 < n) : BQ n (k : Rat) := by
  refine ⟨?_, ?_⟩
  · rw [Rat.num_intCast]
    exact h
  · rw [Rat.den_intCast]
    exact Nat.one_lt_two_pow (by omega)
theorem bd_floor {n : Nat} {t : Rat} (h : BQ n t) : Bd n t.floor := by
  rw [Rat.floor_def]
  exact h.1.le (Int.natAbs_ediv_le_natAbs _ _)
/-! ### comprehensions step by step -/
section
variable {gd : Option (Nat × List Da)} {D : Nat} {g : Gv} {tt : Tv} {fe : Ev} {ρ0 ρ1 : En} {d : Da} {ds : List Da} {h h1 h2 h3 h4 : Hh} {v : Vl}
theorem lcL_nil (e : gdOk gd h) : lcL gd D g tt fe ρ0 [] h = .ok (.r D) h := by
  unfold lcL
  rw [if_pos e]
theorem lcL_cons (e : gdOk gd h) (eg : g (.d d) ρ0 h = some (ρ1, h1)) (et : tt ρ1 h1 = .ok true h2) (ef : fe ρ1 h2 = .ok v h3) (ea : appL D v h3 = some h4) : lcL gd D g tt fe ρ0 (d :: ds) h = lcL gd D g tt fe ρ0 ds h4 := by
  rw [lcL]
  rw [if_pos e, eg]
  dsimp only
  rw [et]
  dsimp only
  rw [ef]
  dsimp only
  rw [ea]
theorem lcL_skip (e : gdOk gd h) (eg : g (.d d) ρ0 h = some (ρ1, h1)) (et : tt ρ1 h1 = .ok false h2) : lcL gd D g tt fe ρ0 (d :: ds) h = lcL gd D g tt fe ρ0 ds h2 := by
  rw [lcL]
  rw [if_pos e, eg]
  dsimp only
  rw [et]
theorem appL_end {acc : List Da} {x : Da} {n : Nat} (hn : h.length = n) (hl : acc.length < 16777216) : appL n (.d x) (h ++ [some (.lst acc)]) = some (h ++ [some (.lst (acc ++ [x]))]) := by
  subst hn
  unfold appL fz
  dsimp only [Option.bind_some]
  rw [get_end]
  dsimp only
  rw [if_pos (fitB_ok (by omega)), set_at]
theorem appL_mid {acc : List Da} {x : Da} {n : Nat} {l : Hh} (hn : h.length = n) (hl : acc.length < 16777216) : appL n (.d x) (h ++ some (.lst acc) :: l) = some (h ++ some (.lst (acc ++ [x])) :: l) := by
  subst hn
  unfold appL fz
  dsimp only [Option.bind_some]
  rw [get_at]
  dsimp only
  rw [if_pos (fitB_ok (by omega)), set_at]
/-- of a row of things, thing by thing -/
theorem lc_map {F : Da → Da} (hgd : ∀ o, gdOk gd (h ++ [o])) : ∀ (ds acc : List Da), (∀ d ∈ ds, ∀ h', ∃ ρ1, g (.d d) ρ0 h' = some (ρ1, h') ∧ fe ρ1 h' = .ok (.d (F d)) h') → acc.length + ds.length ≤ 16777216 →
    lcL gd h.length g tvYes fe ρ0 ds (h ++ [some (.lst acc)]) = .ok (.r h.length) (h ++ [some (.lst (acc ++ ds.map F))])
  | [], acc, _, _ => by
    rw [lcL_nil (hgd _)]
    simp
  | d :: ds, acc, H, hl => by
    obtain ⟨ρ1, e1, e2⟩ := H d (List.mem_cons_self ..) (h ++ [some (.lst acc)])
    rw [List.length_cons] at hl
    rw [lcL_cons (hgd _) e1 rfl e2 (appL_end rfl (by omega)), lc_map hgd ds (acc ++ [F d]) (fun d hd => H d (List.mem_cons_of_mem _ hd)) (by rw [List.length_append, List.length_singleton]; omega)]
    simp
end
end Rk
namespace Rk
open PySem PySem.Spec L2
section
variable {h : Hh} {n : Nat} {l : List Da}
theorem asL_at (e : h[n]? = some (some (.lst l))) : asL (.r n) h = some l := by
  unfold asL
  dsimp only
  rw [e]
theorem tyL_at (e : h[n]? = some (some (.lst l))) : tyL (.r n) h = true := by
  unfold tyL
  rw [asL_at e]
  rfl
theorem itL_at (e : h[n]? = some (some (.lst l))) : itL (.r n) h = .ok ⟨l, some (n, l)⟩ h := by
  unfold itL
  dsimp only
  rw [e]
theorem gApp_at {d : Da} (e : h[n]? = some (some (.lst l))) (hl : l.length < 16777216) : gApp (.r n) [.d d] h = some (.d .none, h.set n (some (.lst (l ++ [d])))) := by
  unfold gApp appL fz
  dsimp only [Option.bind_some]
  rw [e]
  dsimp only
  rw [if_pos (fitB_ok (by omega))]
  rfl
end
end Rk
namespace Rk
theorem upB_down (t : Rat) : upB "down" t = false := by simp [upB]
theorem upB_up (t : Rat) : upB "up" t = decide (0 < t - (t.floor : Rat)) := by simp [upB]
theorem upB_nought (t : Rat) : upB "nought" t = (decide (t < 0) && decide (0 < t - (t.floor : Rat))) := by simp [upB]
theorem upB_near (t : Rat) : upB "near" t = (decide (1 < 2 * (t - (t.floor : Rat))) || (decide (2 * (t - (t.floor : Rat)) = 1) && decide (t.floor.fmod 2 = 1))) := by simp [upB]
end Rk
namespace Rk
open PySem PySem.Spec L2
theorem abs_divInt {a b : Int} (hb : 0 < b) : Rat.divInt ((a.natAbs : Nat) : Int) b = (Rat.divInt a b).abs := by
  have bp : (0 : Rat) < (b : Rat) := Rat.intCast_pos.mpr hb
  refine mul_cancelR (c := (b : Rat)) (fun z => by rw [z] at bp; exact absurd bp (by decide)) ?_
  rw [divInt_mul_self (by omega), ← abs_mulP bp, divInt_mul_self (by omega), cast_natAbs]
def ways : List Da := [.str "near", .str "down", .str "up", .str "nought"]
theorem sh_ruler {R : Ruler} (O : R.Ok) : sh R.da = true := by
  have s : PyData.strOk R.w = true := by
    rcases O.w4 with z | z | z | z <;> rw [z]
    · exact so_near
    · exact so_down
    · exact so_up
    · exact so_nought
  simp [Ruler.da, sh, SeqAt.shaped, PyData.hasDict, PyData.hasDictAll, PyData.canLay0, PyData.canLayAll0, PyData.depth, PyData.depthAll, s]
theorem gEq_R {R S : Ruler} (O : R.Ok) (P : S.Ok) (h : Hh) : ∃ c, gEq (.d R.da) (.d S.da) h = some (.d (.bool c), h) := ⟨PyData.eqv R.da S.da, by
  show (eqvB R.da S.da).map (fun z => (Vl.d (.bool z), h)) = _
  simp [eqvB, sh_ruler O, sh_ruler P]⟩
end Rk

/-! Rk13: repr of data. -/
namespace Rk
open PySem PySem.Spec L2
variable {mg : Str → Option Value}
def rRepr (K : PySem.W.Frag) (xs : List V) (H : Hp) (Q : VK) : Prop := ∃ x d, xs = [x] ∧ Dp K H x d ∧ d.showable = true ∧ d.hasDict = false ∧ d.depth ≤ 60 ∧ d.shown.length ≤ sizeLine ∧ Q (.str d.shown) H
theorem call_repr {X : Cx} (hg : X.A.guards = some []) (hu : X.A.units + 64 < cLine) : CallR X (.builtin "repr") (rRepr X.K) := by
  intro pins s σ H xs us Q I r h
  obtain ⟨x, d, rfl, dp, sh, nd, dd, sz, q⟩ := h
  cases r with
  | cons r1 r2 =>
    cases r2
    obtain ⟨as, rd⟩ := Dp.reads I d x _ dp r1
    have big : ∀ a, Reads s.heap (.ref a) d as → wpAny (model X.prog X.w) X.A (call (.builtin "repr") [.ref a]) (EP X pins σ Q) X.xe s := fun a rd =>
      repr_of_reads' rd sh (fun z => by rw [nd] at z; cases z) hg (by omega) (fun _ _ e => e) (fun h' u tk hk => ⟨.str _, H, I.kept (t' := tk) hk, ⟨_, rfl⟩, q⟩) sz
    cases rd with
    | none => exact PySem.P.repr_of_none ⟨.str _, H, I.tok _, ⟨_, rfl⟩, q⟩
    | bool b => exact PySem.P.repr_of_bool ⟨.str _, H, I.tok _, ⟨_, rfl⟩, q⟩
    | int i t => exact PySem.P.repr_of_int (of_decide_eq_true sh) ⟨.str _, H, I.tok _, ⟨_, rfl⟩, q⟩
    | str z t => exact PySem.P.repr_of_str ⟨.str _, H, I.tok _, ⟨_, rfl⟩, q⟩ sz
    | list a b c e => exact big _ (.list a b c e)
    | tuple a b c e => exact big _ (.tuple a b c e)
    | dict a b c e f => exact big _ (.dict a b c e f)
def gRepr : GC := fun as h => match as with
  | [x] => match asD x h with
    | some d => if d.showable && !d.hasDict && decide (d.depth ≤ 60) && fitB d.shown.length then some (.d (.str d.shown), h) else none
    | none => none
  | _ => none
theorem ok_repr {K : PySem.W.Frag} : OkC K mg (rRepr K) gRepr := by
  intro φ h H xs as Q v h' sm rs e k
  unfold gRepr at e
  split at e
  · rename_i a
    obtain ⟨x, rfl, rx⟩ := rs.one
    split at e
    · rename_i d ed
      split at e
      · rename_i hc
        cases e
        rw [Bool.and_eq_true, Bool.and_eq_true, Bool.and_eq_true] at hc
        obtain ⟨⟨⟨h1, h2⟩, h3⟩, h4⟩ := hc
        exact ⟨x, d, rfl, asD_ok sm rx ed (by simpa using h2), h1, by simpa using h2, of_decide_eq_true h3, fitB_le h4, k _ H φ (Step.refl _ _ _) sm (Rep.str _)⟩
      · cases e
    · cases e
  · cases e
end Rk

/-! Rk14: dicts. -/
namespace Rk
open PySem PySem.Spec L2
variable {mg : Str → Option Value}
def keyOf : Vl → Option Key
  | .d (.int i) => some (.inl i)
  | .d (.str x) => some (.inr x)
  | _ => none
def valD (kds : List (Key × Da)) (k : Key) : Option Da := (kds.find? fun kv => decide (kv.1 = k)).map (·.2)
def putD (kds : List (Key × Da)) (k : Key) (d : Da) : List (Key × Da) :=
  if (kds.any fun kv => decide (kv.1 = k)) = true then kds.map (fun kv => if kv.1 = k then (kv.1, d) else kv) else kds ++ [(k, d)]
section
variable {K : PySem.W.Frag}
theorem keyOf_ok {φ : List Addr} {h : Hh} {H : Hp} {y : V} {v : Vl} {k : Key} (r : VRep K mg φ h H y v) (e : keyOf v = some k) : y = kV k := by
  unfold keyOf at e
  split at e
  · cases e
    exact VRep.int r
  · cases e
    exact VRep.str r
  · cases e
section
variable {H : Hp} {M : Addr → Prop}
theorem KvRep.length : ∀ {vs : List (Key × V)} {ds : List (Key × Da)}, KvRep K H M vs ds → vs.length = ds.length
  | _, _, .nil => rfl
  | _, _, .cons _ t => by rw [List.length_cons, List.length_cons, KvRep.length t]
theorem KvRep.get : ∀ {vs : List (Key × V)} {ds : List (Key × Da)} {k : Key}, KvRep K H M vs ds → (valV vs k = none ∧ valD ds k = none) ∨ ∃ v d, valV vs k = some v ∧ valD ds k = some d ∧ Rep K H M v d
  | _, _, _, .nil => .inl ⟨rfl, rfl⟩
  | _, _, k, .cons (k := k0) (v := v) (d := d) r t => by
    by_cases e : k0 = k
    · refine .inr ⟨v, d, valV_pos e, ?_, r⟩
      simp [valD, List.find?_cons, e]
    · have e1 : ∀ l : List (Key × Da), valD ((k0, d) :: l) k = valD l k := fun l => by simp [valD, List.find?_cons, e]
      have e2 : ∀ l : List (Key × V), valV ((k0, v) :: l) k = valV l k := fun l => valV_neg (p := (k0, v)) e
      rw [e1, e2]
      exact KvRep.get t
theorem KvRep.any : ∀ {vs : List (Key × V)} {ds : List (Key × Da)} {k : Key}, KvRep K H M vs ds → (vs.any fun kv => decide (kv.1 = k)) = (ds.any fun kv => decide (kv.1 = k))
  | _, _, _, .nil => rfl
  | _, _, _, .cons r t => by rw [List.any_cons, List.any_cons, KvRep.any t]
theorem KvRep.map {k : Key} {v : V} {d : Da} (q : Rep K H M v d) : ∀ {vs : List (Key × V)} {ds : List (Key × Da)}, KvRep K H M vs ds → KvRep K H M (vs.map fun kv => if kv.1 = k then (kv.1, v) else kv) (ds.map fun kv => if kv.1 = k then (kv.1, d) else kv)
  | _, _, .nil => .nil
  | _, _, .cons (k := k0) r t => by
    rw [List.map_cons, List.map_cons]
    by_cases e : k0 = k
    · rw [if_pos e, if_pos e]
      exact .cons q (KvRep.map q t)
    · rw [if_neg e, if_neg e]
      exact .cons r (KvRep.map q t)
theorem KvRep.snoc {k : Key} {v : V} {d : Da} (q : Rep K H M v d) : ∀ {vs : List (Key × V)} {ds : List (Key × Da)}, KvRep K H M vs ds → KvRep K H M (vs ++ [(k, v)]) (ds ++ [(k, d)])
  | _, _, .nil => .cons q .nil
  | _, _, .cons r t => .cons r (KvRep.snoc q t)
theorem KvRep.put {k : Key} {v : V} {d : Da} (q : Rep K H M v d) {vs : List (Key × V)} {ds : List (Key × Da)} (r : KvRep K H M vs ds) : KvRep K H M (putK vs k v) (putD ds k d) := by
  unfold putK putD
  rw [r.any]
  split
  · exact r.map q
  · exact r.snoc q
end
theorem Sim.atD {φ : List Addr} {h : Hh} {H : Hp} {n : Nat} {a : Addr} {kds : List (Key × Da)} (sm : Sim K φ h H) (e : h[n]? = some (some (.dct kds))) (ea : φ[n]? = some a) : ∃ kvs, H a = some (.dK kvs) ∧ KvRep K H (Live φ h) kvs kds := by
  obtain ⟨b, e1, r⟩ := sm.ob n _ e
  rw [ea] at e1
  cases e1
  exact r
/-! ### d[k] -/
def gDG : G2 := fun x y h => match x, keyOf y with
  | .r n, some k => match h[n]? with
    | some (some (.dct kds)) => (valD kds k).map fun d => (.d d, h)
    | _ => none
  | _, _ => none
def rDG : R2 := fun x y H Q => ∃ a v, x = .ref a ∧ DGet H a y (some v) ∧ Q v H
theorem ok_dg : Ok2 K mg rDG gDG := by
  intro φ h H x y a b Q v h' sm rx ry e k
  unfold gDG at e
  split at e
  · rename_i n key ek
    split at e
    · rename_i kds en
      obtain ⟨p, ep, rfl⟩ := rx
      obtain ⟨kvs, eh, rk⟩ := sm.atD en ep
      rcases rk.get (k := key) with ⟨_, z⟩ | ⟨w, d, e1, e2, r⟩
      · rw [z] at e; cases e
      · rw [e2] at e
        cases e
        rw [keyOf_ok ry ek]
        refine ⟨p, w, rfl, ?_, k w H φ (Step.refl _ _ _) sm r⟩
        rw [← e1]
        exact DGet.k eh
    · cases e
  · cases e
/-- either -/
def gIy : G2 := fun x y h => match gDG x y h with
  | some r => some r
  | none => gIx x y h
end
section
variable {X : Cx} {W : WX} {a b : Expr} {fa fb : Ev} {pos : Pos}
theorem ee_dg (hu : X.A.units + 64 < cLine) (ha : EE X W a fa) (hb : EE X W b fb) (hs : NoSl b := by exact fun _ _ => rfl) : EE X W (.Subscript a b pos) (eOp gDG fa fb) :=
  PE.of (pe_dget (by omega) ha hb hs) fun σ H Q hf => tOp_ok (r := rDG) ok_dg hf
theorem PE.or {e : Expr} {t t' : TE} (h : PE X e t) (h' : PE X e t') : PE X e (fun σ H Q => t σ H Q ∨ t' σ H Q) := ⟨fun pins s σ H Q I w => w.elim (h.run pins s σ H Q I) (h'.run pins s σ H Q I)⟩
theorem ee_iy (hu : X.A.units + 64 < cLine) (ha : EE X W a fa) (hb : EE X W b fb) (hs : NoSl b := by exact fun _ _ => rfl) (hp : PlainIx b := by exact fun _ _ => rfl) : EE X W (.Subscript a b pos) (eOp gIy fa fb) :=
  PE.of (PE.or (ee_dg (pos := pos) hu ha hb hs) (ee_ix (pos := pos) ha hb hp)) fun σ H Q ⟨φ, h, ρ, sm, er, q⟩ => by
    unfold eOp at q
    cases e1 : fa ρ h with
    | no => rw [e1] at q; exact q.elim
    | ex c fs h1 =>
      refine .inr ⟨φ, h, ρ, sm, er, ?_⟩
      unfold eOp
      rw [e1] at q ⊢
      exact q
    | ok x h1 =>
      rw [e1] at q
      cases e2 : fb ρ h1 with
      | no =>
        simp only [Out.bind_ok] at q
        rw [e2] at q
        exact q.elim
      | ex c fs h2 =>
        refine .inr ⟨φ, h, ρ, sm, er, ?_⟩
        unfold eOp
        rw [e1]
        simp only [Out.bind_ok] at q ⊢
        rw [e2] at q ⊢
        exact q
      | ok y h2 =>
        simp only [Out.bind_ok] at q
        rw [e2] at q
        simp only [Out.bind_ok] at q
        unfold gIy at q
        cases e3 : gDG x y h2 with
        | some r =>
          refine .inl ⟨φ, h, ρ, sm, er, ?_⟩
          unfold eOp
          rw [e1]
          simp only [Out.bind_ok]
          rw [e2]
          simp only [Out.bind_ok]
          rw [e3] at q ⊢
          exact q
        | none =>
          refine .inr ⟨φ, h, ρ, sm, er, ?_⟩
          unfold eOp
          rw [e1]
          simp only [Out.bind_ok]
          rw [e2]
          simp only [Out.bind_ok]
          rw [e3] at q
          exact q
end
/-! ### d[k] = v -/
def setD (o i v : Vl) (h : Hh) : Option Hh := match o, keyOf i, fz v h with
  | .r n, some k, some (d, h1) => match h1[n]? with
    | some (some (.dct kds)) => if fitB (kds.length + 1) = true then some (h1.set n (some (.dct (putD kds k d)))) else none
    | _ => none
  | _, _, _ => none
def gSetD (o ix : Ev) : Gv := fun v ρ h => (okO (o ρ h)).bind fun p => (okO (ix ρ p.2)).bind fun q => (setD p.1 q.1 v q.2).map fun h' => (ρ, h')
theorem setD_ok {K : PySem.W.Frag} {φ : List Addr} {h h' : Hh} {H : Hp} {x y z : V} {o i v : Vl} (sm : Sim K φ h H) (rx : VRep K mg φ h H x o) (ry : VRep K mg φ h H y i) (rz : VRep K mg φ h H z v) (e : setD o i v h = some h') :
    ∃ a H', x = .ref a ∧ DPut H a y z H' ∧ Step φ h H φ h' H' ∧ Sim K φ h' H' := by
  unfold setD at e
  split at e
  · rename_i n kk d h1 ek ef
    obtain ⟨s1, s2, s3⟩ := fz_ok sm rz ef
    split at e
    · rename_i kds en
      split at e
      · rename_i ft
        cases e
        obtain ⟨a, ea, rfl⟩ := rx
        obtain ⟨kvs, eh, rk⟩ := s2.atD en ea
        obtain ⟨t1, t2⟩ := s2.write (ob := .dct (putD kds kk d)) (u := .dK (putK kvs kk z)) en ea fun M st => ⟨_, upd_same, KvRep.put (s3.stay st) (rk.stay st)⟩
        rw [keyOf_ok ry ek]
        refine ⟨a, _, rfl, DPut.k eh ?_, s1.trans t1, t2⟩
        have := fitB_le ft
        rw [rk.length]
        omega
      · cases e
    · cases e
  · cases e
section
variable {X : Cx} {W : WX} {o ix e : Expr} {fo fi fe : Ev} {pos pos' : Pos}
theorem PoS.atE {K : PySem.W.Frag} {mg : Str → Option Value} {φ : List Addr} {h : Hh} {H : Hp} {ρ : En} {σ : L2.St} {D : Ends} {W : WX} {f : Ev} {g : Vl → Hh → So} (er : ERep K mg φ h H σ ρ) (q : PoS K mg φ h H (Out.then ρ (f ρ h) g) D W) (sm : Sim K φ h H)
    {Q : VK} (k : ∀ x v h1 H1 φ1, f ρ h = .ok v h1 → Step φ h H φ1 h1 H1 → Sim K φ1 h1 H1 → VRep K mg φ1 h1 H1 x v → PoS K mg φ1 h1 H1 (g v h1) D W → Q x H1) : tE K mg W f σ H Q := by
  refine ⟨φ, h, ρ, sm, er, ?_⟩
  revert q
  cases ef : f ρ h with
  | ok v h1 => exact fun q x H1 φ1 st sm1 rv => k x v h1 H1 φ1 ef st sm1 rv (PoS.pull st q)
  | ex c fs h1 => exact fun q cls dd H' φ' st sm' xr => q cls dd σ H' φ' st sm' (er.step st) xr
  | no => exact fun q => q
theorem es_dput (hu : X.A.units + 64 < cLine) (ho : EE X W o fo) (hi : EE X W ix fi) (he : EE X W e fe) (hs : swapsWith e (some (.Subscript o ix pos')) pos.line X.env = pure false := by rfl) :
    ES X W (.Assign [.Subscript o ix pos'] e pos) (sAsg (gSetD fo fi) fe) :=
  PS.of (ps_dput (by omega) ho hi he hs) fun D σ H ⟨φ, h, ρ, sm, er, q⟩ => by
    refine PoS.atE er q sm fun z v h1 H1 φ1 e1 st1 sm1 rv q1 => ?_
    have er1 := er.step st1
    cases e2 : okO (fo ρ h1) with
    | none => unfold gSetD at q1; rw [e2] at q1; exact q1.elim
    | some p =>
      obtain ⟨ov, h2⟩ := p
      refine ⟨φ1, h1, ρ, sm1, er1, ?_⟩
      rw [okO_some e2]
      intro x H2 φ2 st2 sm2 rx
      cases e3 : okO (fi ρ h2) with
      | none => unfold gSetD at q1; rw [e2] at q1; dsimp only [Option.bind_some] at q1; rw [e3] at q1; exact q1.elim
      | some p3 =>
        obtain ⟨iv, h3⟩ := p3
        refine ⟨φ2, h2, ρ, sm2, er1.step st2, ?_⟩
        rw [okO_some e3]
        intro y H3 φ3 st3 sm3 ry
        cases e4 : setD ov iv v h3 with
        | none => unfold gSetD at q1; rw [e2] at q1; dsimp only [Option.bind_some] at q1; rw [e3] at q1; dsimp only [Option.bind_some] at q1; rw [e4] at q1; exact q1.elim
        | some h4 =>
          unfold gSetD at q1
          rw [e2] at q1
          dsimp only [Option.bind_some] at q1
          rw [e3] at q1
          dsimp only [Option.bind_some] at q1
          rw [e4] at q1
          obtain ⟨a, H4, e5, dp, st4, sm4⟩ := setD_ok sm3 (rx.step st3) ry ((rv.step st2).step st3) e4
          have st := (st2.trans st3).trans st4
          exact ⟨a, H4, e5, dp, q1 σ H4 φ3 st sm4 (er1.step st)⟩
end
/-! ### {k: v, ..} -/
abbrev Pv := En → Hh → Out (List (Key × Da))
def pNil : Pv := fun _ h => .ok [] h
def pCons (k v : Ev) (r : Pv) : Pv := fun ρ h => (k ρ h).bind fun x h1 => (v ρ h1).bind fun y h2 => (r ρ h2).bind fun l h3 => match keyOf x, fz y h3 with
  | some kk, some (d, h4) => .ok ((kk, d) :: l) h4
  | _, _ => .no
def eDct (p : Pv) : Ev := fun ρ h => (p ρ h).bind fun l h1 => if l.length ≤ 15 then .ok (.r h1.length) (h1 ++ [some (.dct (l.foldl (fun acc kv => putD acc kv.1 kv.2) []))]) else .no
end Rk

/-! Rk15: dict displays. -/
namespace Rk
open PySem PySem.Spec L2
def hdel (H : Hp) (p : Addr) : Hp := fun b => if b = p then none else H b
theorem del_ne {H : Hp} {p b : Addr} (h : b ≠ p) : hdel H p b = H b := if_neg h
theorem del_at {H : Hp} {p : Addr} : hdel H p p = none := if_pos rfl
theorem upd_del {H : Hp} {p : Addr} {u : HO} : upd (hdel H p) p u = upd H p u := by
  funext b
  by_cases e : b = p
  · subst e
    rw [upd_same, upd_same]
  · rw [upd_ne e, upd_ne e, del_ne e]
section
variable {K : PySem.W.Frag} {H : Hp} {p : Addr} {l : List (Key × V)}
theorem rd_del {a : Addr} {u : HO} (hp : H p = some (.dK l)) (hu : ∀ l', u ≠ .dK l') (h : Rd H a u) : Rd (hdel H p) a u := by
  have ne : a ≠ p := fun e => by
    subst e
    rcases h with h | ⟨o, h⟩
    · rw [hp] at h
      cases h
      exact hu _ rfl
    · rw [hp] at h
      cases h
  rcases h with h | ⟨o, h⟩
  · exact .inl (by rw [del_ne ne]; exact h)
  · exact .inr ⟨o, by rw [del_ne ne]; exact h⟩
mutual
theorem repDel {K : PySem.W.Frag} {H : Hp} {p : Addr} {l : List (Key × V)} {M : Addr → Prop} (hp : H p = some (.dK l)) : ∀ {v : V} {d : Da}, Rep K H M v d → Rep K (hdel H p) M v d
  | _, _, .non => .non
  | _, _, .bl b => .bl b
  | _, _, .int i => .int i
  | _, _, .str x => .str x
  | _, _, .tup h n r => .tup (rd_del hp (fun _ z => by cases z) h) n (repsDel hp r)
  | _, _, .tupK h r => .tupK h (repsDel hp r)
  | _, _, .lst h n r => .lst (rd_del hp (fun _ z => by cases z) h) n (repsDel hp r)
  | _, _, .lstK h r => .lstK h (repsDel hp r)
  | _, _, .dct0 h n => .dct0 (by
    rw [del_ne fun e => by
      rw [e, hp] at h
      cases h]
    exact h) n
theorem repsDel {K : PySem.W.Frag} {H : Hp} {p : Addr} {l : List (Key × V)} {M : Addr → Prop} (hp : H p = some (.dK l)) : ∀ {v : List V} {d : List Da}, Reps K H M v d → Reps K (hdel H p) M v d
  | _, _, .nil => .nil
  | _, _, .cons r t => .cons (repDel hp r) (repsDel hp t)
end
theorem KvRep.del {M : Addr → Prop} (hp : H p = some (.dK l)) : ∀ {v : List (Key × V)} {d : List (Key × Da)}, KvRep K H M v d → KvRep K (hdel H p) M v d
  | _, _, .nil => .nil
  | _, _, .cons r t => .cons (repDel hp r) (KvRep.del hp t)
theorem Sim.del {φ : List Addr} {h : Hh} (sm : Sim K φ h H) (hp : H p = some (.dK l)) (nl : ¬ Live φ h p) : Sim K φ h (hdel H p) := by
  refine ⟨sm.len, sm.inj, fun i o e => ?_⟩
  obtain ⟨a, e1, r⟩ := sm.ob i o e
  have ne : a ≠ p := fun z => nl (z ▸ ⟨i, o, e1, e⟩)
  refine ⟨a, e1, ?_⟩
  cases o with
  | lst ds =>
    obtain ⟨xs, h1, h2⟩ := r
    exact ⟨xs, by rw [del_ne ne]; exact h1, repsDel hp h2⟩
  | dct ds =>
    obtain ⟨xs, h1, h2⟩ := r
    exact ⟨xs, by rw [del_ne ne]; exact h1, h2.del hp⟩
  | tbl x =>
    obtain ⟨c, ps, h1, h2, h3, h4⟩ := r
    refine ⟨c, ps, h1, by rw [del_ne ne]; exact h2, h3, fun pos cv z => (h4 pos cv z).imp fun c' w => ⟨w.1, ?_⟩⟩
    rw [del_ne fun y => by
      rw [y, hp] at w
      have w2 := Option.some.inj w.2
      unfold LamX.CodeO at w2
      cases w2]
    exact w.2
end
def PoP (K : PySem.W.Frag) (mg : Str → Option Value) (φ : List Addr) (h : Hh) (H : Hp) (o : Out (List (Key × Da))) (Q : List (V × V) → Hp → Prop) (E : XK) : Prop := match o with
  | .ok l h' => ∀ kvs H' φ', Step φ h H φ' h' H' → Sim K φ' h' H' → KvRep K H' (Live φ' h') kvs l → Q (kvs.map fun kv => (kV kv.1, kv.2)) H'
  | .ex c fs h' => ∀ cls dd H' φ', Step φ h H φ' h' H' → Sim K φ' h' H' → XRep K mg H' (Live φ' h') c fs cls dd → E cls dd H'
  | .no => False
theorem PoP.pull {K : PySem.W.Frag} {mg : Str → Option Value} {φ φ1 : List Addr} {h h1 : Hh} {H H1 : Hp} {o : Out (List (Key × Da))} {Q : List (V × V) → Hp → Prop} {E : XK} (s : Step φ h H φ1 h1 H1) (q : PoP K mg φ h H o Q E) : PoP K mg φ1 h1 H1 o Q E := by
  cases o with
  | ok l h' => exact fun kvs H' φ' st => q kvs H' φ' (s.trans st)
  | ex c fs h' => exact fun cls dd H' φ' st => q cls dd H' φ' (s.trans st)
  | no => exact q
def EP_ (X : Cx) (W : WX) (pos : Pos) (ks : List (Option Expr)) (vs : List Expr) (f : Pv) : Prop :=
  ∃ trs, PPs X pos ks vs trs ∧ ∀ σ H Q φ h ρ, Sim X.K φ h H → ERep X.K X.mg φ h H σ ρ → PoP X.K X.mg φ h H (f ρ h) Q (WE W σ) → tPairs trs σ H Q
section
variable {X : Cx} {W : WX} {pos : Pos} {ks : List (Option Expr)} {vs : List Expr} {k v : Expr} {fk fv : Ev} {fr : Pv}
theorem ep_nil : EP_ X W pos [] [] pNil := ⟨[], pps_nil, fun σ H Q φ h ρ sm er q => q [] H φ (Step.refl _ _ _) sm .nil⟩
theorem ep_cons (hk : EE X W k fk) (hv : EE X W v fv) (hr : EP_ X W pos ks vs fr) : EP_ X W pos (some k :: ks) (v :: vs) (pCons fk fv fr) := by
  obtain ⟨trs, P, R⟩ := hr
  refine ⟨_, pps_cons hk hv P, fun σ H Q φ h ρ sm er q => ⟨φ, h, ρ, sm, er, ?_⟩⟩
  unfold pCons at q
  revert q
  cases fk ρ h with
  | no => exact fun q => q
  | ex c fs h1 => exact fun q => q
  | ok x h1 =>
    intro q kx H1 φ1 st1 sm1 rx
    have q1 := PoP.pull st1 q
    refine ⟨φ1, h1, ρ, sm1, er.step st1, ?_⟩
    simp only [Out.bind_ok] at q1
    revert q1
    cases fv ρ h1 with
    | no => exact fun q => q
    | ex c fs h2 => exact fun q => q
    | ok y h2 =>
      intro q1 ky H2 φ2 st2 sm2 ry
      have q2 := PoP.pull st2 q1
      refine R σ H2 _ φ2 h2 ρ sm2 ((er.step st1).step st2) ?_
      simp only [Out.bind_ok] at q2
      revert q2
      cases fr ρ h2 with
      | no => exact fun q => q
      | ex c fs h3 => exact fun q => q
      | ok l h3 =>
        intro q2 kvs H3 φ3 st3 sm3 rl
        have q3 := PoP.pull st3 q2
        simp only [Out.bind_ok] at q3
        split at q3
        · rename_i kk d h4 ek ef
          obtain ⟨s1, s2, s3⟩ := fz_ok sm3 (ry.step st3) ef
          rw [keyOf_ok rx ek]
          exact q3 ((kk, ky) :: kvs) H3 φ3 s1 s2 (.cons s3 (rl.stay s1.st))
        · exact q3.elim
theorem merge_rep {K : PySem.W.Frag} {H : Hp} {M : Addr → Prop} : ∀ {vs : List (Key × V)} {ds : List (Key × Da)} {as : List (Key × V)} {bs : List (Key × Da)}, KvRep K H M vs ds → KvRep K H M as bs → KvRep K H M (mergeK as vs) (ds.foldl (fun acc kv => putD acc kv.1 kv.2) bs)
  | _, _, _, _, .nil, r => r
  | _, _, _, _, .cons (k := kk) q t, r => by
    have z := merge_rep t (KvRep.put (k := kk) q r)
    exact z
theorem ee_dct {fp : Pv} (h : EP_ X W pos ks vs fp) (h0 : ks ≠ [] := by exact nofun) (hall : ks.all (·.isSome) = true := by rfl) (hl : ks.length = vs.length := by rfl) (h15 : ks.length ≤ 15 := by decide) : EE X W (.Dict ks vs pos) (eDct fp) := by
  obtain ⟨trs, P, R⟩ := h
  refine PE.of (pe_disp P hall hl h0 h15) fun σ H Q ⟨φ, h, ρ, sm, er, q⟩ p hp => ?_
  obtain ⟨g1, g2⟩ := sm.grow (o := .dK []) hp
  have np := sm.fresh hp
  refine R σ _ _ φ h ρ g2 (er.step g1) ?_
  unfold eDct at q
  revert q
  cases fp ρ h with
  | no => exact fun q => q
  | ex c fs h1 => exact fun q cls dd H' φ' st => q cls dd H' φ' (g1.trans st)
  | ok l h1 =>
    intro q kvs H2 φ2 st2 sm2 rl
    simp only [Out.bind_ok] at q
    split at q
    · rename_i hlen
      have e2 : H2 p = some (.dK []) := (st2.st p _ upd_same nofun np).1
      have n2 : ¬ Live φ2 h1 p := (st2.st p _ upd_same nofun np).2
      refine ⟨e2, kvs, rfl, by rw [rl.length]; exact hlen, ?_⟩
      have smd := sm2.del e2 n2
      have std : Step φ h H φ2 h1 (hdel H2 p) := ⟨(g1.trans st2).pre, fun a o ea nt na => by
        have z := (g1.trans st2).st a o ea nt na
        have ne : a ≠ p := fun w => by rw [w, hp] at ea; cases ea
        exact ⟨by rw [del_ne ne]; exact z.1, z.2⟩⟩
      obtain ⟨s1, s2, s3⟩ := smd.new (ob := .dct (l.foldl (fun acc kv => putD acc kv.1 kv.2) [])) (o := .dK (mergeK [] kvs)) del_at fun M st => ⟨_, upd_same, merge_rep ((rl.del e2).stay st) .nil⟩
      rw [upd_del] at s1 s2 s3
      exact q _ _ _ (std.trans s1) s2 s3
    · exact q.elim
theorem ee_dct0 : EE X W (.Dict [] [] pos) (eDct pNil) := PE.of pe_dnewK fun σ H Q ⟨φ, h, ρ, sm, er, q⟩ p hp => by
  obtain ⟨s1, s2, s3⟩ := sm.new (ob := .dct []) (o := .dK []) hp fun M st => ⟨_, upd_same, .nil⟩
  exact q _ _ _ s1 s2 s3
end
end Rk

/-! Rk16: slices of lists with a step. -/
namespace Rk
open PySem PySem.Spec L2 PyProof.Rows
def pickG {α : Type} (xs : List α) (lo hi st : Option Int) : List α :=
  (sliceRange (sliceBounds lo hi st xs.length).1 (sliceBounds lo hi st xs.length).2.1 (sliceBounds lo hi st xs.length).2.2).filterMap (xs[·]?)
theorem Vals.get_some : ∀ {xs : List V} {us : List Value}, Vals xs us → ∀ i : Nat, (xs[i]? = none ∧ us[i]? = none) ∨ ∃ x u, xs[i]? = some x ∧ us[i]? = some u ∧ RelV x u
  | _, _, .nil, i => .inl (by simp)
  | _, _, .cons r t, 0 => .inr ⟨_, _, rfl, rfl, r⟩
  | _, _, .cons r t, i + 1 => by simpa using Vals.get_some t i
theorem vals_pick {xs : List V} {us : List Value} (r : Vals xs us) : ∀ is : List Nat, Vals (is.filterMap (xs[·]?)) (is.filterMap (us[·]?))
  | [] => .nil
  | i :: is => by
    rcases Vals.get_some r i with ⟨e1, e2⟩ | ⟨x, u, e1, e2, q⟩
    · rw [List.filterMap_cons, List.filterMap_cons]
      simp only [e1, e2]
      exact vals_pick r is
    · rw [List.filterMap_cons, List.filterMap_cons]
      simp only [e1, e2]
      exact .cons q (vals_pick r is)
theorem reps_pick {K : PySem.W.Frag} {H : Hp} {M : Addr → Prop} {xs : List V} {ds : List Da} (r : Reps K H M xs ds) : ∀ is : List Nat, Reps K H M (is.filterMap (xs[·]?)) (is.filterMap (ds[·]?))
  | [] => .nil
  | i :: is => by
    have hl := r.length
    rw [List.filterMap_cons, List.filterMap_cons]
    cases e : ds[i]? with
    | none =>
      have : xs[i]? = none := by
        rw [List.getElem?_eq_none_iff] at e ⊢
        omega
      simp only [this]
      exact reps_pick r is
    | some d =>
      obtain ⟨v, e1, q⟩ := Reps.get r e
      simp only [e1]
      exact .cons q (reps_pick r is)
theorem Reps.pickG {K : PySem.W.Frag} {H : Hp} {M : Addr → Prop} {xs : List V} {ds : List Da} (r : Reps K H M xs ds) (lo hi st : Option Int) : Reps K H M (Rk.pickG xs lo hi st) (Rk.pickG ds lo hi st) := by
  unfold Rk.pickG
  rw [r.length]
  exact reps_pick r _
def tStep (K : PySem.W.Frag) (te : TE) (tl th ts : TO) : TE := fun σ H Q => te σ H fun x H1 => tl σ H1 fun lo H2 => th σ H2 fun hi H3 => ts σ H3 fun st H4 => ∃ a xs, x = .ref a ∧ SqL K H4 a xs ∧ st ≠ some 0 ∧ (pickG xs lo hi st).length ≤ sizeLine ∧ ∀ p, H4 p = none → Q (.ref p) (upd H4 p (.lst (pickG xs lo hi st)))
section
variable {X : Cx}
theorem pe_step {e : Expr} {lo hi : Option Expr} {st : Expr} {te : TE} {tl th ts : TO} {p3 pos : Pos} (he : PE X e te) (hl : PO X lo tl) (hh : PO X hi th) (hs : PO X (some st) ts) : PE X (.Subscript e (.Slice lo hi (some st) p3) pos) (tStep X.K te tl th ts) := by
  constructor
  intro pins s σ H Q I h
  refine Subscript_ (thn (he.run pins s σ H _ I h) ?_)
  rintro v s1 ⟨x, H1, I1, r1, q1⟩
  refine wpAny_Slice (thn (hl.run pins s1 σ H1 _ I1 q1) ?_)
  rintro vl s2 ⟨l, H2, I2, pl, q2⟩
  refine thn (hh.run pins s2 σ H2 _ I2 q2) ?_
  rintro vu s3 ⟨u, H3, I3, pu, q3⟩
  refine thn (hs.run pins s3 σ H3 _ I3 q3) ?_
  rintro vs s4 ⟨o, H4, I4, ps, a, xs, ex, hx, h0, hz, q⟩
  subst ex
  cases r1
  have I5 : Inv X pins σ H4 { s4 with heap := s4.heap.push { cls := .type "slice", data := .fields #[vl, vu, vs] } } := I4.kept (t' := s4.toks) fun b ob z => Heap.get?_push_of_some _ z
  obtain ⟨its, r, ht, hsz⟩ := I5.list hx
  have hlen := r.length
  refine tail_any (ops := [.ref a, .ref s4.heap.objs.size]) ht.isList.typeIs PySem.slot_list_getitem.lookup ?_ (by with_unfolding_all rfl)
  refine wpAny_getItem_list_slice ht.isList (Heap.IsSliceOf.new _ vl vu vs) pl pu ps h0 ?_ (by rw [List.size_toArray]; omega)
  have rv : Vals (pickG xs l u o) (slicePick its.toArray l u o).toList := by
    unfold slicePick pickG
    rw [List.size_toArray, hlen]
    simpa using vals_pick r _
  refine ⟨.ref _, _, I5.laid (t' := s4.toks) (o := .lst (pickG xs l u o)) (fun b ob z => Heap.get?_push_of_some _ z) (Nat.le_refl _) ?_, rfl, q _ (I5.hok.fresh (Nat.le_refl _))⟩
  refine ⟨hz, _, 0, rv, ?_⟩
  rw [Array.toArray_toList]
  exact Heap.get?_push_size _ rfl
end
def gSt (x : Vl) (lo hi st : Option Int) (h : Hh) : Option (Vl × Hh) := match asL x h with
  | some xs => if st ≠ some 0 ∧ (pickG xs lo hi st).length ≤ 16777216 then some (.r h.length, h ++ [some (.lst (pickG xs lo hi st))]) else none
  | none => none
def eSt (f : Ev) (lo hi st : Ov) : Ev := fun ρ h => (f ρ h).bind fun x h1 => (lo ρ h1).bind fun l h2 => (hi ρ h2).bind fun u h3 => (st ρ h3).bind fun t h4 => ofO (gSt x l u t h4)
section
variable {X : Cx} {W : WX} {a st : Expr} {fa : Ev} {pos p2 : Pos} {lo hi : Option Expr} {fl fh fs : Ov}
theorem ee_step (ha : EE X W a fa) (hl : EO X W lo fl) (hh : EO X W hi fh) (hs : EO X W (some st) fs) : EE X W (.Subscript a (.Slice lo hi (some st) p2) pos) (eSt fa fl fh fs) :=
  PE.of (pe_step ha hl hh hs) fun σ H Q ⟨φ, h, ρ, sm, er, q⟩ => ⟨φ, h, ρ, sm, er, PoX.goE q fun x v h1 H1 φ1 st1 sm1 rv q1 => ⟨φ1, h1, ρ, sm1, er.step st1, PoX.goO q1 fun l h2 H2 φ2 st2 sm2 q2 =>
    ⟨φ2, h2, ρ, sm2, (er.step st1).step st2, PoX.goO q2 fun u h3 H3 φ3 st3 sm3 q3 => ⟨φ3, h3, ρ, sm3, ((er.step st1).step st2).step st3, PoX.goO q3 fun t h4 H4 φ4 st4 sm4 q4 => by
      obtain ⟨z, h5, e5, k5⟩ := PoX.ofO q4
      unfold gSt at e5
      split at e5
      · rename_i xs ex
        split at e5
        · rename_i hc
          cases e5
          obtain ⟨p, zs, rfl, sq, rs⟩ := asL_ok sm4 (rv.step ((st2.trans st3).trans st4)) ex
          have rp := rs.pickG l u t
          refine ⟨p, zs, rfl, sq, hc.1, ?_, fun q hq => ?_⟩
          · rw [rp.length]
            exact fitB_le (fitB_ok hc.2)
          · obtain ⟨s1, s2, s3⟩ := new_list sm4 rp hq
            exact k5 _ _ _ s1 s2 s3
        · cases e5
      · cases e5⟩⟩⟩⟩
end
end Rk

/-! Rk17: a law's state in a dict. -/
namespace Rk
open PySem PySem.Spec L2
section
variable {a b c d v : Da}
def stD (a b c d : Da) : List (Key × Da) := [(.inr "cells", a), (.inr "left", b), (.inr "mixed", c), (.inr "at", d)]
theorem ne_key {x y : Str} (h : (x == y) = false) : ¬ (Sum.inr x : Key) = Sum.inr y := fun z => by
  injection z with z
  subst z
  simp at h
theorem k_cl : ¬ Str.ofString "cells" = Str.ofString "left" := str_ne (by decide +kernel)
theorem k_cm : ¬ Str.ofString "cells" = Str.ofString "mixed" := str_ne (by decide +kernel)
theorem k_ca : ¬ Str.ofString "cells" = Str.ofString "at" := str_ne (by decide +kernel)
theorem k_lc : ¬ Str.ofString "left" = Str.ofString "cells" := str_ne (by decide +kernel)
theorem k_lm : ¬ Str.ofString "left" = Str.ofString "mixed" := str_ne (by decide +kernel)
theorem k_la : ¬ Str.ofString "left" = Str.ofString "at" := str_ne (by decide +kernel)
theorem k_mc : ¬ Str.ofString "mixed" = Str.ofString "cells" := str_ne (by decide +kernel)
theorem k_ml : ¬ Str.ofString "mixed" = Str.ofString "left" := str_ne (by decide +kernel)
theorem k_ma : ¬ Str.ofString "mixed" = Str.ofString "at" := str_ne (by decide +kernel)
theorem k_ac : ¬ Str.ofString "at" = Str.ofString "cells" := str_ne (by decide +kernel)
theorem k_al : ¬ Str.ofString "at" = Str.ofString "left" := str_ne (by decide +kernel)
theorem k_am : ¬ Str.ofString "at" = Str.ofString "mixed" := str_ne (by decide +kernel)
theorem st_cells : valD (stD a b c d) (.inr "cells") = some a := by simp [valD, stD]
theorem st_left : valD (stD a b c d) (.inr "left") = some b := by simp [valD, stD, k_cl]
theorem st_mixed : valD (stD a b c d) (.inr "mixed") = some c := by simp [valD, stD, k_cm, k_lm]
theorem st_at : valD (stD a b c d) (.inr "at") = some d := by simp [valD, stD, k_ca, k_la, k_ma]
theorem pt_left : putD (stD a b c d) (.inr "left") v = stD a v c d := by simp [putD, stD, k_cl, k_ml, k_al]
theorem pt_mixed : putD (stD a b c d) (.inr "mixed") v = stD a b v d := by simp [putD, stD, k_cm, k_lm, k_am]
theorem pt_at : putD (stD a b c d) (.inr "at") v = stD a b c v := by simp [putD, stD, k_ca, k_la, k_ma]
theorem st_made : ([((Sum.inr (Str.ofString "cells") : Key), a), (.inr "left", b), (.inr "mixed", c), (.inr "at", d)] : List (Key × Da)).foldl (fun acc kv => putD acc kv.1 kv.2) [] = stD a b c d := by
  simp [putD, stD, k_cl, k_cm, k_ca, k_lm, k_la, k_ma]
end
section
variable {h : Hh} {n : Nat} {a b c d v : Da}
theorem dg_of {kds : List (Key × Da)} {x : Str} {w : Da} (e : h[n]? = some (some (.dct kds))) (ew : valD kds (.inr x) = some w) : gDG (.r n) (.d (.str x)) h = some (.d w, h) := by
  unfold gDG keyOf
  dsimp only
  rw [e]
  dsimp only
  rw [ew]
  rfl
theorem set_of {kds kds' : List (Key × Da)} {x : Str} (e : h[n]? = some (some (.dct kds))) (ep : putD kds (.inr x) v = kds') (hl : kds.length < 16777216) : setD (.r n) (.d (.str x)) (.d v) h = some (h.set n (some (.dct kds'))) := by
  unfold setD keyOf fz
  dsimp only
  rw [e]
  dsimp only
  rw [if_pos (fitB_ok (by omega)), ep]
theorem dgL (e : h[n]? = some (some (.dct (stD a b c d)))) : gDG (.r n) (.d (.str "left")) h = some (.d b, h) := dg_of e st_left
theorem dgM (e : h[n]? = some (some (.dct (stD a b c d)))) : gDG (.r n) (.d (.str "mixed")) h = some (.d c, h) := dg_of e st_mixed
theorem dgA (e : h[n]? = some (some (.dct (stD a b c d)))) : gDG (.r n) (.d (.str "at")) h = some (.d d, h) := dg_of e st_at
theorem dgC (e : h[n]? = some (some (.dct (stD a b c d)))) : gDG (.r n) (.d (.str "cells")) h = some (.d a, h) := dg_of e st_cells
theorem sdL (e : h[n]? = some (some (.dct (stD a b c d)))) : setD (.r n) (.d (.str "left")) (.d v) h = some (h.set n (some (.dct (stD a v c d)))) := set_of e pt_left (by show 4 < _; decide)
theorem sdM (e : h[n]? = some (some (.dct (stD a b c d)))) : setD (.r n) (.d (.str "mixed")) (.d v) h = some (h.set n (some (.dct (stD a b v d)))) := set_of e pt_mixed (by show 4 < _; decide)
theorem sdA (e : h[n]? = some (some (.dct (stD a b c d)))) : setD (.r n) (.d (.str "at")) (.d v) h = some (h.set n (some (.dct (stD a b c v)))) := set_of e pt_at (by show 4 < _; decide)
end
end Rk
namespace Rk
open PySem PySem.Spec L2
theorem pick_map {α β : Type} (f : α → β) (xs : List α) (lo hi st : Option Int) : pickG (xs.map f) lo hi st = (pickG xs lo hi st).map f := by
  unfold pickG
  rw [List.length_map, List.map_filterMap]
  congr 1
  funext i
  simp
theorem pick_len {α : Type} (xs : List α) (lo hi st : Option Int) : (pickG xs lo hi st).length ≤ xs.length := by
  have h := slicePick_size_le (xs.map fun _ => Value.none).toArray lo hi st
  have e : (slicePick (xs.map fun _ => Value.none).toArray lo hi st).toList = pickG (xs.map fun _ => Value.none) lo hi st := by
    unfold slicePick pickG
    simp
  have l : (slicePick (xs.map fun _ => Value.none).toArray lo hi st).size = (pickG xs lo hi st).length := by
    rw [← Array.length_toList, e, pick_map, List.length_map]
  rw [l] at h
  simpa using h
theorem sh_ints (ns : List Int) : sh (.list (ns.map PyData.int)) = true := by
  have h1 : ∀ l : List Int, PyData.canLayAll0 (l.map PyData.int) = true := fun l => by
    induction l with
    | nil => rfl
    | cons a l ih => simp [PyData.canLayAll0, PyData.canLay0, ih]
  have h2 : ∀ l : List Int, PyData.depthAll (l.map PyData.int) ≤ 1 := fun l => by
    induction l with
    | nil => simp [PyData.depthAll]
    | cons a l ih => simp [PyData.depthAll, PyData.depth, ih]
  have h2' := h2 ns
  have h3 : ∀ l : List Int, PyData.hasDictAll (l.map PyData.int) = false := fun l => by
    induction l with
    | nil => rfl
    | cons a l ih => simp [PyData.hasDictAll, PyData.hasDict, ih]
  simp [sh, h3, SeqAt.shaped, PyData.hasDict, PyData.hasDictAll, PyData.canLay0, PyData.depth, h1]
  omega
theorem eqv_ints (ns ms : List Int) : PyData.eqv (.list (ns.map PyData.int)) (.list (ms.map PyData.int)) = decide (ns = ms) := by
  have h : ∀ ns ms : List Int, PyData.eqvAll (ns.map PyData.int) (ms.map PyData.int) = decide (ns = ms) := fun ns => by
    induction ns with
    | nil => intro ms; cases ms <;> simp [PyData.eqvAll]
    | cons a l ih =>
      intro ms
      cases ms with
      | nil => simp [PyData.eqvAll]
      | cons b m =>
        simp [PyData.eqvAll, ih, PyData.eqv]
        by_cases z : a = b <;> simp [z]
  simp only [PyData.eqv]
  exact h ns ms
end Rk
namespace Rk
open PySem PySem.Spec L2
section
variable {gd : Option (Nat × List Da)} {g : Gv} {tt : Tv} {fe : Ev} {ρ0 : En} {h : Hh}
theorem lc_filter {F : Da → Da} {P : Da → Bool} (hgd : ∀ o, gdOk gd (h ++ [o])) : ∀ (ds acc : List Da), (∀ d ∈ ds, ∀ h', ∃ ρ1, g (.d d) ρ0 h' = some (ρ1, h') ∧ tt ρ1 h' = .ok (P d) h' ∧ (P d = true → fe ρ1 h' = .ok (.d (F d)) h')) → acc.length + ds.length ≤ 16777216 →
    lcL gd h.length g tt fe ρ0 ds (h ++ [some (.lst acc)]) = .ok (.r h.length) (h ++ [some (.lst (acc ++ (ds.filter P).map F))])
  | [], acc, _, _ => by
    rw [lcL_nil (hgd _)]
    simp
  | d :: ds, acc, H, hl => by
    obtain ⟨ρ1, e1, e2, e3⟩ := H d (List.mem_cons_self ..) (h ++ [some (.lst acc)])
    rw [List.length_cons] at hl
    by_cases p : P d = true
    · rw [p] at e2
      rw [lcL_cons (hgd _) e1 e2 (e3 p) (appL_end rfl (by omega)), lc_filter hgd ds (acc ++ [F d]) (fun d hd => H d (List.mem_cons_of_mem _ hd)) (by rw [List.length_append, List.length_singleton]; omega), List.filter_cons_of_pos p]
      simp
    · have p' : P d = false := by simpa using p
      rw [p'] at e2
      rw [lcL_skip (hgd _) e1 e2, lc_filter hgd ds acc (fun d hd => H d (List.mem_cons_of_mem _ hd)) (by omega), List.filter_cons_of_neg p]
end
end Rk
namespace Rk
open PySem PySem.Spec L2
theorem pow10 (k : Nat) (hk : k ≤ 1000000) : fPow 10 (k : Int) = some (.int ((10 ^ k : Nat) : Int)) := by
  unfold fPow
  rw [if_pos ⟨by omega, by omega, by decide⟩, Int.toNat_natCast, Int.natCast_pow]
  rfl
theorem take_set (h : Hh) (n : Nat) (o : Option Ob) : (h.set n o).take h.length = h.set n o := List.take_of_length_le (by rw [List.length_set]; exact Nat.le_refl _)
end Rk

/-! Rk18: lists that are never changed: frozen at once. -/
namespace Rk
open PySem PySem.Spec L2
variable {mg : Str → Option Value}
def eFz (f : Ev) : Ev := fun ρ h => match f ρ h with
  | .ok v h1 => match fz v h1 with
    | some p => trunc h.length (.d p.1) p.2
    | none => .no
  | .ex c fs h1 => .ex c fs (h1.take h.length)
  | .no => .no
theorem ex_cut {K : PySem.W.Frag} {mg : Str → Option Value} {φ φ' : List Addr} {h h' : Hh} {H H' : Hp} {c : Str} {fs : List (Str × Da)} {cls : Value} {dd : Option Addr} (sm : Sim K φ h H) (st : Step φ h H φ' h' H') (sm' : Sim K φ' h' H') (xr : XRep K mg H' (Live φ' h') c fs cls dd) :
    Step φ h H φ (h'.take h.length) H' ∧ Sim K φ (h'.take h.length) H' ∧ XRep K mg H' (Live φ (h'.take h.length)) c fs cls dd := by
  obtain ⟨c1, c2⟩ := sm'.cut st.pre sm.len
  have st2 : Stay H' (Live φ' h') H' (Live φ (h'.take h.length)) := fun a u q _ nl => ⟨q, fun l => nl (c2 a l)⟩
  exact ⟨⟨List.prefix_refl _, st.st.trans st2⟩, c1, xr.cl, xr.no, fun z => by
    obtain ⟨a, vs, e1, e2, e3, e4⟩ := xr.yes z
    exact ⟨a, vs, e1, e2, fun l => e3 (c2 a l), e4.stay st2⟩⟩
section
variable {X : Cx} {W : WX} {e : Expr} {f : Ev}
theorem ee_fz (p : EE X W e f) : EE X W e (eFz f) :=
  PE.of p fun σ H Q ⟨φ, h, ρ, sm, er, q⟩ => ⟨φ, h, ρ, sm, er, by
    unfold eFz at q
    revert q
    cases f ρ h with
    | no => exact fun q => q
    | ex c fs h1 =>
      intro q cls dd H' φ' st sm' xr
      obtain ⟨a, b, c⟩ := ex_cut sm st sm' xr
      exact q cls dd H' φ a b c
    | ok v h1 =>
      intro q x H' φ' st sm' rv
      dsimp only at q
      split at q
      · rename_i p e
        obtain ⟨d, h2⟩ := p
        obtain ⟨s1, s2, s3⟩ := fz_ok sm' rv e
        exact trunc_ok (v := .d d) sm (st.trans s1) s2 s3 q
      · exact q.elim⟩
end
/-! ### a statement that stores a list -/
section
variable {K : PySem.W.Frag} {φ φ' : List Addr} {h h' : Hh} {H H' : Hp} {σ σ' : L2.St} {ρ ρ' : En}
/-- which objects a value tells of -/
def RefB (k : Nat) : Vl → Prop
  | .r m => m < k
  | .f D => ∀ j m : Nat, D.ρ[j]? = some (some (Vl0.r m)) → m < k
  | _ => True
theorem VRep.refB {v : V} {x : Vl} (r : VRep K mg φ h H v x) : RefB φ.length x := by
  cases x with
  | d z => trivial
  | x c fs => trivial
  | r m =>
    obtain ⟨a, ea, _⟩ := r
    exact (List.getElem?_eq_some_iff.mp ea).1
  | f D =>
    obtain ⟨_, _, _, _, e5⟩ := r
    intro j m e
    obtain ⟨x, _, a, ea, _⟩ := e5 j _ e
    exact (List.getElem?_eq_some_iff.mp ea).1
theorem ERep.refs (er : ERep K mg φ h H σ ρ) (j : Nat) (v : Vl) (e : ρ[j]? = some (some v)) : RefB φ.length v := by
  obtain ⟨x, _, r⟩ := er.at_ j _ e
  exact r.refB
theorem ERep.cut {n : Nat} (pre : φ <+: φ') (c2 : ∀ a, Live φ (h'.take n) a → Live φ' h' a) (er : ERep K mg φ' h' H' σ' ρ') (hr : ∀ (j : Nat) (v : Vl), ρ'[j]? = some (some v) → RefB φ.length v) : ERep K mg φ (h'.take n) H' σ' ρ' := by
  refine ⟨er.len, fun i v e => ?_⟩
  obtain ⟨x, e1, r⟩ := er.at_ i v e
  refine ⟨x, e1, ?_⟩
  cases v with
  | d z => exact Rep.stay (M := Live φ' h') (fun a u q _ nl => ⟨q, fun l => nl (c2 a l)⟩) r
  | x c fs =>
    obtain ⟨a, cls, dd, rfl, e1, e2, xr⟩ := r
    exact ⟨a, cls, dd, rfl, e1, fun l => e2 (c2 a l), xr.stay (M := Live φ' h') (fun a u q _ nl => ⟨q, fun l => nl (c2 a l)⟩)⟩
  | r m =>
    obtain ⟨a, ea, rfl⟩ := r
    have hm : m < φ.length := hr i _ e
    obtain ⟨t, rfl⟩ := pre
    rw [List.getElem?_append_left hm] at ea
    exact ⟨a, ea, rfl⟩
  | f D =>
    obtain ⟨f1, f2, f3, f4, f5⟩ := r
    have hm : ∀ j m : Nat, D.ρ[j]? = some (some (Vl0.r m)) → m < φ.length := hr i _ e
    refine ⟨f1, f2, fun l => f3 (c2 _ l), f4, fun j w z => ?_⟩
    obtain ⟨x, g1, g2⟩ := f5 j w z
    refine ⟨x, g1, ?_⟩
    cases w with
    | d z => exact Rep.stay (M := Live φ' h') (fun a u q _ nl => ⟨q, fun l => nl (c2 a l)⟩) g2
    | r m =>
      have hm := hm j m z
      obtain ⟨a, ea, rfl⟩ := g2
      obtain ⟨t, rfl⟩ := pre
      rw [List.getElem?_append_left hm] at ea
      exact ⟨a, ea, rfl⟩
end
section
variable {X : Cx} {W : WX} {s : Stmt} {f : Ev}
theorem es_fz {i : Nat} (p : ES X W s (sSet i f)) : ES X W s (sSet i (eFz f)) :=
  PS.of p fun D σ H ⟨φ, h, ρ, sm, er, q⟩ => ⟨φ, h, ρ, sm, er, by
    unfold sSet eFz at q
    unfold sSet
    revert q
    cases f ρ h with
    | no => exact fun q => q
    | ex c fs h1 =>
      intro q cls dd σ' H' φ' st sm' er' xr
      obtain ⟨a, b, c⟩ := ex_cut sm st sm' xr
      exact q cls dd σ' H' φ a b (er'.cut st.pre (sm'.cut st.pre sm.len).2 er.refs) c
    | ok v h1 =>
      intro q σ' H' φ' st sm' er'
      dsimp only at q
      split at q
      · rename_i p e
        obtain ⟨d, h2⟩ := p
        dsimp only [trunc] at q
        by_cases hi : i < ρ.length
        · obtain ⟨x, e1, rv⟩ := er'.at_ i v (by rw [List.getElem?_set_self hi])
          obtain ⟨s1, s2, s3⟩ := fz_ok sm' rv e
          have er2 := er'.step s1
          have st2 := st.trans s1
          obtain ⟨c1, c2⟩ := s2.cut st2.pre sm.len
          have st3 : Stay H' (Live φ' h2) H' (Live φ (h2.take h.length)) := fun a u q _ nl => ⟨q, fun l => nl (c2 a l)⟩
          have er3 : ERep X.K X.mg φ' h2 H' σ' (ρ.set i (some (.d d))) := by
            refine ⟨by rw [er2.len, List.length_set, List.length_set], fun j w e2 => ?_⟩
            by_cases hj : i = j
            · subst hj
              rw [List.getElem?_set_self hi] at e2
              have e3 := Option.some.inj (Option.some.inj e2)
              subst e3
              exact ⟨x, e1, s3⟩
            · rw [List.getElem?_set_ne hj] at e2
              exact er2.at_ j w (by rw [List.getElem?_set_ne hj]; exact e2)
          refine q σ' H' φ ⟨List.prefix_refl _, st2.st.trans st3⟩ c1 (er3.cut st2.pre c2 fun j m e2 => ?_)
          by_cases hj : i = j
          · subst hj
            rw [List.getElem?_set_self hi] at e2
            cases e2
            trivial
          · rw [List.getElem?_set_ne hj] at e2
            exact er.refs j m e2
        · have e0 : ∀ w : Vl, ρ.set i (some w) = ρ := fun w => List.set_eq_of_length_le (by omega)
          rw [e0] at er'
          have hf : ∃ s1 : Step φ' h1 H' φ' h2 H', Sim X.K φ' h2 H' := by
            unfold fz at e
            split at e
            · cases e
              exact ⟨Step.refl _ _ _, sm'⟩
            · split at e
              · cases e
                rename_i n h xs hn
                obtain ⟨a, ea, _⟩ := sm'.ob _ _ hn
                exact ⟨(sm'.freeze hn ea).1, (sm'.freeze hn ea).2.1⟩
              · cases e
            · cases e
          obtain ⟨s1, s2⟩ := hf
          have st2 := st.trans s1
          obtain ⟨c1, c2⟩ := s2.cut st2.pre sm.len
          have st3 : Stay H' (Live φ' h2) H' (Live φ (h2.take h.length)) := fun a u q _ nl => ⟨q, fun l => nl (c2 a l)⟩
          refine q σ' H' φ ⟨List.prefix_refl _, st2.st.trans st3⟩ c1 ?_
          rw [e0]
          exact (er'.step s1).cut st2.pre c2 er.refs
      · exact q.elim⟩
end
end Rk

/-! Rk19: what is wished behind an outcome, rule by rule. -/
namespace Rk
open PySem PySem.Spec L2
abbrev XP := Str → List (Str × Da) → Hh → Prop
def Wp0 {α : Type} (o : Out α) (Q : α → Hh → Prop) (E : XP) : Prop := match o with
  | .ok a h => Q a h
  | .ex c fs h => E c fs h
  | .no => False
structure Wp {α : Type} (o : Out α) (Q : α → Hh → Prop) (E : XP) : Prop where
  w : Wp0 o Q E
abbrev NX : XP := fun _ _ _ => False
structure Ds where
  rt : Vl → Hh → Prop
  bk : En → Hh → Prop
  ct : En → Hh → Prop
  ex : Str → List (Str × Da) → En → Hh → Prop
def Ws0 (s : So) (N : En → Hh → Prop) (D : Ds) : Prop := match s with
  | .nx ρ h => N ρ h
  | .rt v h => D.rt v h
  | .bk ρ h => D.bk ρ h
  | .ct ρ h => D.ct ρ h
  | .ex c fs ρ h => D.ex c fs ρ h
  | .no => False
structure Ws (s : So) (N : En → Hh → Prop) (D : Ds) : Prop where
  w : Ws0 s N D
def Wo {α : Type} (o : Option (α × Hh)) (Q : α → Hh → Prop) : Prop := match o with
  | some p => Q p.1 p.2
  | none => False
def BrK (b : Bool) (A B : Prop) : Prop := if b = true then A else B
def SetK (i : Nat) (ρ : En) (v : Vl) (h : Hh) (N : En → Hh → Prop) : Prop := N (ρ.set i (some v)) h
def TupK (vs : List Vl) (h : Hh) (Q : Vl → Hh → Prop) : Prop := ∃ ds h2, fzs vs h = some (ds, h2) ∧ fitB ds.length = true ∧ Q (.d (.tuple ds)) h2
def LstK (vs : List Vl) (h : Hh) (Q : Vl → Hh → Prop) : Prop := ∃ ds h2, fzs vs h = some (ds, h2) ∧ fitB ds.length = true ∧ Q (.r h2.length) (h2 ++ [some (.lst ds)])
def FzK (v : Vl) (h : Hh) (n : Nat) (Q : Vl → Hh → Prop) : Prop := ∃ d h2, fz v h = some (d, h2) ∧ Q (.d d) (h2.take n)
def TrK (v : Vl) (h : Hh) (K : Bool → Hh → Prop) : Prop := ∃ b, v = .d (.bool b) ∧ K b h
def RetK (n : Nat) (Q : Vl → Hh → Prop) (v : Vl) (h : Hh) : Prop := ∃ v' h', trunc n v h = .ok v' h' ∧ Q v' h'
section
variable {α β : Type} {o : Out α} {Q : α → Hh → Prop} {E : XP} {N : En → Hh → Prop} {D : Ds} {ρ : En} {h h1 : Hh} {b : Bool} {A B : Prop} {K : Bool → Hh → Prop}
theorem wp_eq {a : α} (e : o = .ok a h1) (q : Q a h1) : Wp o Q E := by rw [e]; exact ⟨q⟩
theorem wp_ex {c : Str} {fs : List (Str × Da)} (e : o = .ex c fs h1) (q : E c fs h1) : Wp o Q E := by rw [e]; exact ⟨q⟩
theorem wp_out (w : Wp o Q NX) : ∃ a h1, o = .ok a h1 ∧ Q a h1 := by
  cases o with
  | ok a h1 => exact ⟨a, h1, rfl, w.w⟩
  | ex c fs h1 => exact w.w.elim
  | no => exact w.w.elim
theorem Wp.mono {Q' : α → Hh → Prop} {E' : XP} (w : Wp o Q' E') (k : ∀ a h1, Q' a h1 → Q a h1) (k2 : ∀ c fs h1, E' c fs h1 → E c fs h1) : Wp o Q E := by
  cases o with
  | ok a h1 => exact ⟨k a h1 w.w⟩
  | ex c fs h1 => exact ⟨k2 c fs h1 w.w⟩
  | no => exact w.w.elim
theorem wp_use {Q' : α → Hh → Prop} (w : Wp o Q' NX) (k : ∀ a h1, Q' a h1 → Q a h1) : Wp o Q E := w.mono k fun _ _ _ z => z.elim
theorem wp_bind {o : Out β} {k : β → Hh → Out α} (w : Wp o (fun a h1 => Wp (k a h1) Q E) E) : Wp (o.bind k) Q E := by
  cases o with
  | ok a h1 => exact w.w
  | ex c fs h1 => exact ⟨w.w⟩
  | no => exact w.w.elim
theorem ws_then {k : α → Hh → So} (w : Wp o (fun a h1 => Ws (k a h1) N D) (fun c fs h1 => D.ex c fs ρ h1)) : Ws (Out.then ρ o k) N D := by
  cases o with
  | ok a h1 => exact w.w
  | ex c fs h1 => exact ⟨w.w⟩
  | no => exact w.w.elim
theorem brk_t (a : A) : BrK true A B := a
theorem brk_f (a : B) : BrK false A B := a
theorem brk_not (w : BrK b B A) : BrK (!b) A B := by cases b <;> exact w
theorem brk_dec {p : Prop} [Decidable p] (ha : p → A) (hb : ¬ p → B) : BrK (decide p) A B := by
  by_cases z : p
  · rw [decide_eq_true z]; exact ha z
  · rw [decide_eq_false z]; exact hb z
theorem brk_dec1 {p : Prop} [Decidable p] (z : p) (ha : A) : BrK (decide p) A B := by
  rw [decide_eq_true z]; exact ha
theorem brk_dec0 {p : Prop} [Decidable p] (z : ¬ p) (hb : B) : BrK (decide p) A B := by
  rw [decide_eq_false z]; exact hb
theorem brk_and {c : Bool} (w : BrK b (BrK c A B) B) : BrK (b && c) A B := by cases b <;> cases c <;> exact w
theorem brk_or {c : Bool} (w : BrK b A (BrK c A B)) : BrK (b || c) A B := by cases b <;> cases c <;> exact w
theorem brk_b (ha : b = true → A) (hb : b = false → B) : BrK b A B := by
  cases b with
  | true => exact ha rfl
  | false => exact hb rfl
theorem trk (q : K b h) : TrK (.d (.bool b)) h K := ⟨b, rfl, q⟩
end
section
variable {Q : Vl → Hh → Prop} {E : XP} {ρ : En} {h : Hh} {a b c : Ev} {g g' : G2} {K : Bool → Hh → Prop} {t u : Tv} {m : Fn} {as : Av} {QL : List Vl → Hh → Prop}
theorem wp_D {d : Da} (q : Q (.d d) h) : Wp (eD d ρ h) Q E := ⟨q⟩
theorem wo_of {o : Option (Vl × Hh)} (w : Wo o Q) : Wp (ofO o) Q E := by
  cases o with
  | some p => exact ⟨w⟩
  | none => exact w.elim
theorem wp_op (w : Wp (a ρ h) (fun x h1 => Wp (b ρ h1) (fun y h2 => Wo (g x y h2) Q) E) E) : Wp (eOp g a b ρ h) Q E :=
  wp_bind (w.mono (fun _ _ w => wp_bind (w.mono (fun _ _ w => wo_of w) fun _ _ _ z => z)) fun _ _ _ z => z)
theorem wp_T (w : Wp (a ρ h) (fun v h1 => TrK v h1 K) E) : Wp (eT a ρ h) K E := wp_bind (w.mono (fun _ _ ⟨b, e, q⟩ => by rw [e]; exact ⟨q⟩) fun _ _ _ z => z)
theorem wp_if (w : Wp (t ρ h) (fun k h1 => BrK k (Wp (a ρ h1) Q E) (Wp (b ρ h1) Q E)) E) : Wp (eIf t a b ρ h) Q E :=
  wp_bind (w.mono (fun k _ w => by cases k <;> exact w) fun _ _ _ z => z)
theorem wp_tand (w : Wp (t ρ h) (fun k h1 => BrK k (Wp (u ρ h1) K E) (K false h1)) E) : Wp (tvAnd t u ρ h) K E :=
  wp_bind (w.mono (fun k _ w => by cases k <;> first | exact w | exact ⟨w⟩) fun _ _ _ z => z)
theorem wp_tor (w : Wp (t ρ h) (fun k h1 => BrK k (K true h1) (Wp (u ρ h1) K E)) E) : Wp (tvOr t u ρ h) K E :=
  wp_bind (w.mono (fun k _ w => by cases k <;> first | exact w | exact ⟨w⟩) fun _ _ _ z => z)
theorem wp_tnot (w : Wp (t ρ h) (fun k h1 => K (!k) h1) E) : Wp (tvNot t ρ h) K E := wp_bind (w.mono (fun _ _ w => ⟨w⟩) fun _ _ _ z => z)
theorem wp_tyes (w : K true h) : Wp (tvYes ρ h) K E := ⟨w⟩
theorem wp_and (w : Wp (a ρ h) (fun v h1 => TrK v h1 fun k h2 => BrK k (Wp (b ρ h2) Q E) (Q (.d (.bool false)) h2)) E) : Wp (eAnd a b ρ h) Q E :=
  wp_bind (wp_T (w.mono (fun _ _ ⟨k, e, q⟩ => ⟨k, e, by cases k <;> first | exact q | exact ⟨q⟩⟩) fun _ _ _ z => z))
theorem wp_or (w : Wp (a ρ h) (fun v h1 => TrK v h1 fun k h2 => BrK k (Q (.d (.bool true)) h2) (Wp (b ρ h2) Q E)) E) : Wp (eOr a b ρ h) Q E :=
  wp_bind (wp_T (w.mono (fun _ _ ⟨k, e, q⟩ => ⟨k, e, by cases k <;> first | exact q | exact ⟨q⟩⟩) fun _ _ _ z => z))
theorem wp_not (w : Wp (a ρ h) (fun v h1 => TrK v h1 fun k h2 => Q (.d (.bool (!k))) h2) E) : Wp (eNot a ρ h) Q E :=
  wp_bind (wp_T (w.mono (fun _ _ ⟨k, e, q⟩ => ⟨k, e, ⟨q⟩⟩) fun _ _ _ z => z))
theorem wp_neg (w : Wp (a ρ h) (fun v h1 => ∃ i, v = .d (.int i) ∧ Q (.d (.int (-i))) h1) E) : Wp (eNeg a ρ h) Q E :=
  wp_bind (w.mono (fun _ _ ⟨i, e, q⟩ => by rw [e]; exact ⟨q⟩) fun _ _ _ z => z)
theorem wp_chain (w : Wp (a ρ h) (fun x h1 => Wp (b ρ h1) (fun y h2 => Wo (g x y h2) fun v h3 => TrK v h3 fun k h4 => BrK k (Wp (c ρ h4) (fun z h5 => Wo (g' y z h5) Q) E) (Q (.d (.bool false)) h4)) E) E) : Wp (eChain g g' a b c ρ h) Q E := by
  refine wp_bind (w.mono (fun x h1 w => wp_bind (w.mono (fun y h2 w => wp_bind (wo_of ?_)) fun _ _ _ z => z)) fun _ _ _ z => z)
  cases e : g x y h2 with
  | none => rw [e] at w; exact w
  | some p =>
    rw [e] at w
    obtain ⟨k, e2, w⟩ := w
    show Wp _ _ _
    rw [e2]
    cases k with
    | false => exact ⟨w⟩
    | true => exact wp_bind (Wp.mono w (fun _ _ z => wo_of z) fun _ _ _ z => z)
theorem wp_nil (w : QL [] h) : Wp (aNil ρ h) QL E := ⟨w⟩
theorem wp_cons (w : Wp (a ρ h) (fun x h1 => Wp (as ρ h1) (fun xs h2 => QL (x :: xs) h2) E) E) : Wp (aCons a as ρ h) QL E :=
  wp_bind (w.mono (fun _ _ w => wp_bind (w.mono (fun _ _ w => ⟨w⟩) fun _ _ _ z => z)) fun _ _ _ z => z)
theorem wp_tup (w : Wp (as ρ h) (fun vs h1 => TupK vs h1 Q) E) : Wp (eTup as ρ h) Q E :=
  wp_bind (w.mono (fun _ _ ⟨ds, h2, e, f, q⟩ => by rw [e]; dsimp only; rw [if_pos f]; exact ⟨q⟩) fun _ _ _ z => z)
theorem wp_lst (w : Wp (as ρ h) (fun vs h1 => LstK vs h1 Q) E) : Wp (eLst as ρ h) Q E :=
  wp_bind (w.mono (fun _ _ ⟨ds, h2, e, f, q⟩ => by rw [e]; dsimp only; rw [if_pos f]; exact ⟨q⟩) fun _ _ _ z => z)
theorem wp_call (w : Wp (as ρ h) (fun vs h1 => Wp (m vs h1) Q E) E) : Wp (eCall m as ρ h) Q E := wp_bind w
theorem wp_blt {g : GC} (w : Wp (as ρ h) (fun vs h1 => Wo (g vs h1) Q) E) : Wp (eBlt g as ρ h) Q E := wp_bind (w.mono (fun _ _ w => wo_of w) fun _ _ _ z => z)
theorem wp_isi {T : Ty} (w : Wp (a ρ h) (fun v h1 => ∃ k, isTy T v h1 = some k ∧ Q (.d (.bool k)) h1) E) : Wp (eIsi T a ρ h) Q E :=
  wp_bind (w.mono (fun _ _ ⟨k, e, q⟩ => by rw [e]; exact ⟨q⟩) fun _ _ _ z => z)
theorem wp_fz (w : Wp (a ρ h) (fun v h1 => FzK v h1 h.length Q) (fun c fs h1 => E c fs (h1.take h.length))) : Wp (eFz a ρ h) Q E := by
  unfold eFz
  revert w
  cases a ρ h with
  | no => exact fun w => w.w.elim
  | ex c fs h1 => exact fun w => ⟨w.w⟩
  | ok v h1 =>
    intro w
    obtain ⟨d, h2, e, q⟩ := w.w
    dsimp only
    rw [e]
    exact ⟨q⟩
theorem wp_fzL (w : Wp (eLst as ρ h) (fun v h1 => FzK v h1 h.length Q) (fun c fs h1 => E c fs (h1.take h.length))) : Wp (eFz (eLst as) ρ h) Q E := wp_fz w
theorem wp_fzO (w : Wp (eOp g a b ρ h) (fun v h1 => FzK v h1 h.length Q) (fun c fs h1 => E c fs (h1.take h.length))) : Wp (eFz (eOp g a b) ρ h) Q E := wp_fz w
theorem wp_fzB {g : GC} (w : Wp (eBlt g as ρ h) (fun v h1 => FzK v h1 h.length Q) (fun c fs h1 => E c fs (h1.take h.length))) : Wp (eFz (eBlt g as) ρ h) Q E := wp_fz w
theorem wp_fzS {lo hi : Ov} (w : Wp (eSl a lo hi ρ h) (fun v h1 => FzK v h1 h.length Q) (fun c fs h1 => E c fs (h1.take h.length))) : Wp (eFz (eSl a lo hi) ρ h) Q E := wp_fz w
theorem wp_fzT {lo hi st : Ov} (w : Wp (eSt a lo hi st ρ h) (fun v h1 => FzK v h1 h.length Q) (fun c fs h1 => E c fs (h1.take h.length))) : Wp (eFz (eSt a lo hi st) ρ h) Q E := wp_fz w
theorem fzk_d {x : Da} {n : Nat} (e : h.length = n) (q : Q (.d x) h) : FzK (.d x) h n Q := ⟨x, h, rfl, by rw [← e, List.take_length]; exact q⟩
theorem fzk_end {ds : List Da} {n : Nat} (e : h.length = n) (q : Q (.d (.list ds)) h) : FzK (.r h.length) (h ++ [some (.lst ds)]) n Q :=
  ⟨.list ds, (h ++ [some (Ob.lst ds)]).set h.length none, by simp [fz], by
    subst e
    simp
    exact q⟩
theorem wp_slice {lo hi : Ov} (w : Wp (a ρ h) (fun x h1 => Wp (lo ρ h1) (fun l h2 => Wp (hi ρ h2) (fun u h3 => Wo (gSl x l u h3) Q) E) E) E) : Wp (eSl a lo hi ρ h) Q E :=
  wp_bind (w.mono (fun _ _ w => wp_bind (w.mono (fun _ _ w => wp_bind (w.mono (fun _ _ w => wo_of w) fun _ _ _ z => z)) fun _ _ _ z => z)) fun _ _ _ z => z)
theorem wp_oN {QO : Option Int → Hh → Prop} (w : QO none h) : Wp (oNone ρ h) QO E := ⟨w⟩
theorem wp_oS {QO : Option Int → Hh → Prop} (w : Wp (a ρ h) (fun v h1 => ∃ i, v = .d (.int i) ∧ QO (some i) h1) E) : Wp (oSome a ρ h) QO E :=
  wp_bind (w.mono (fun _ _ ⟨i, e, q⟩ => by rw [e]; exact ⟨q⟩) fun _ _ _ z => z)
theorem wp_step {lo hi st : Ov} (w : Wp (a ρ h) (fun x h1 => Wp (lo ρ h1) (fun l h2 => Wp (hi ρ h2) (fun u h3 => Wp (st ρ h3) (fun s h4 => Wo (gSt x l u s h4) Q) E) E) E) E) : Wp (eSt a lo hi st ρ h) Q E :=
  wp_bind (w.mono (fun _ _ w => wp_bind (w.mono (fun _ _ w => wp_bind (w.mono (fun _ _ w => wp_bind (w.mono (fun _ _ w => wo_of w) fun _ _ _ z => z)) fun _ _ _ z => z)) fun _ _ _ z => z)) fun _ _ _ z => z)
end
/-! ### statements -/
def ForK (m : Itm) (g : Gv) (b : Sv) (ρ : En) (h : Hh) (N : En → Hh → Prop) (D : Ds) : Prop := Ws (forL m.gd g b m.ds ρ h) N D
def GvK (o : Option (En × Hh)) (N : En → Hh → Prop) : Prop := Wo o N
section
variable {Q : Vl → Hh → Prop} {E : XP} {ρ : En} {h : Hh} {f : Ev} {N : En → Hh → Prop} {R : Vl → Hh → Prop} {B C : En → Hh → Prop} {X : Str → List (Str × Da) → En → Hh → Prop} {s u : Sv} {t : Tv} {g : Gv} {as : Av}
theorem ws_seq (w : Ws (s ρ h) (fun ρ1 h1 => Ws (u ρ1 h1) N ⟨R, B, C, X⟩) ⟨R, B, C, X⟩) : Ws (sSeq s u ρ h) N ⟨R, B, C, X⟩ := by
  unfold sSeq
  revert w
  cases s ρ h with
  | nx ρ1 h1 => exact fun w => w.w
  | no => exact fun w => w.w.elim
  | _ => exact fun w => ⟨w.w⟩
theorem ws_set {i : Nat} (w : Wp (f ρ h) (fun v h1 => SetK i ρ v h1 N) (fun c fs h1 => X c fs ρ h1)) : Ws (sSet i f ρ h) N ⟨R, B, C, X⟩ := ws_then (w.mono (fun _ _ q => ⟨q⟩) fun _ _ _ z => z)
theorem ws_ret (w : Wp (f ρ h) R (fun c fs h1 => X c fs ρ h1)) : Ws (sRet f ρ h) N ⟨R, B, C, X⟩ := ws_then (w.mono (fun _ _ q => ⟨q⟩) fun _ _ _ z => z)
theorem ws_retN (w : R (.d .none) h) : Ws (sRetN ρ h) N ⟨R, B, C, X⟩ := ⟨w⟩
theorem ws_expr (w : Wp (f ρ h) (fun _ h1 => N ρ h1) (fun c fs h1 => X c fs ρ h1)) : Ws (sExpr f ρ h) N ⟨R, B, C, X⟩ := ws_then (w.mono (fun _ _ q => ⟨q⟩) fun _ _ _ z => z)
theorem ws_if (w : Wp (t ρ h) (fun k h1 => BrK k (Ws (s ρ h1) N ⟨R, B, C, X⟩) (Ws (u ρ h1) N ⟨R, B, C, X⟩)) (fun c fs h1 => X c fs ρ h1)) : Ws (sIf t s u ρ h) N ⟨R, B, C, X⟩ :=
  ws_then (w.mono (fun k _ w => by cases k <;> exact w) fun _ _ _ z => z)
theorem ws_nil (w : N ρ h) : Ws (sNil ρ h) N ⟨R, B, C, X⟩ := ⟨w⟩
theorem ws_brk (w : B ρ h) : Ws (sBrk ρ h) N ⟨R, B, C, X⟩ := ⟨w⟩
theorem ws_cont (w : C ρ h) : Ws (sCont ρ h) N ⟨R, B, C, X⟩ := ⟨w⟩
theorem ws_par {i j : Nat} (w : Wp (as ρ h) (fun vs h1 => ∃ v v', vs = [v, v'] ∧ SetK i ρ v h1 fun ρ1 h1 => SetK j ρ1 v' h1 N) (fun c fs h1 => X c fs ρ h1)) : Ws (sPar i j as ρ h) N ⟨R, B, C, X⟩ :=
  ws_then (w.mono (fun _ _ ⟨v, v', e, q⟩ => by rw [e]; exact ⟨q⟩) fun _ _ _ z => z)
theorem ws_asg (w : Wp (f ρ h) (fun v h1 => GvK (g v ρ h1) N) (fun c fs h1 => X c fs ρ h1)) : Ws (sAsg g f ρ h) N ⟨R, B, C, X⟩ :=
  ws_then (w.mono (fun v h1 w => by
    unfold GvK at w
    revert w
    cases g v ρ h1 with
    | none => exact fun w => w.elim
    | some p => exact fun w => ⟨w⟩) fun _ _ _ z => z)
theorem ws_aug {i : Nat} {g : G2} (w : Wp (eVar i ρ h) (fun x h1 => Wp (f ρ h1) (fun y h2 => Wo (g x y h2) fun v h3 => SetK i ρ v h3 N) (fun c fs h1 => X c fs ρ h1)) (fun c fs h1 => X c fs ρ h1)) : Ws (sAug i g f ρ h) N ⟨R, B, C, X⟩ :=
  ws_then (w.mono (fun _ _ w => ws_then (w.mono (fun _ _ w => ws_then ((wo_of w).mono (fun _ _ q => ⟨q⟩) fun _ _ _ z => z)) fun _ _ _ z => z)) fun _ _ _ z => z)
theorem ws_for {i : Iv} (w : Wp (i ρ h) (fun m h1 => ForK m g s ρ h1 N ⟨R, B, C, X⟩) (fun c fs h1 => X c fs ρ h1)) : Ws (sFor i g s ρ h) N ⟨R, B, C, X⟩ := ws_then w
theorem gk_n {i : Nat} {v : Vl} (w : SetK i ρ v h N) : GvK (gN i v ρ h) N := w
theorem gk_setD {o ix : Ev} {v : Vl} (w : Wp (o ρ h) (fun x h1 => Wp (ix ρ h1) (fun y h2 => ∃ h3, setD x y v h2 = some h3 ∧ N ρ h3) NX) NX) : GvK (gSetD o ix v ρ h) N := by
  obtain ⟨x, h1, e1, w⟩ := wp_out w
  obtain ⟨y, h2, e2, h3, e3, q⟩ := wp_out w
  unfold GvK gSetD
  rw [e1]
  simp only [okO, Option.bind_some]
  rw [e2]
  simp only [okO, Option.bind_some]
  rw [e3]
  exact q
theorem gk_setL {o ix : Ev} {v : Vl} (w : Wp (o ρ h) (fun x h1 => Wp (ix ρ h1) (fun y h2 => ∃ h3, setL x y v h2 = some h3 ∧ N ρ h3) NX) NX) : GvK (gSetL o ix v ρ h) N := by
  obtain ⟨x, h1, e1, w⟩ := wp_out w
  obtain ⟨y, h2, e2, h3, e3, q⟩ := wp_out w
  unfold GvK gSetL
  rw [e1]
  simp only [okO, Option.bind_some]
  rw [e2]
  simp only [okO, Option.bind_some]
  rw [e3]
  exact q
theorem gk_tup2 {i j : Nat} {d0 d1 : Da} (w : SetK i ρ (.d d0) h fun ρ1 h1 => SetK j ρ1 (.d d1) h1 N) : GvK (gTupT 2 (gsCons (gN i) (gsCons (gN j) gsNil)) (.d (.tuple [d0, d1])) ρ h) N := w
theorem gk_tupQ {i j : Nat} {r : Rat} (w : SetK i ρ (.d (.int r.num)) h fun ρ1 h1 => SetK j ρ1 (.d (.int r.den)) h1 N) : GvK (gTupT 2 (gsCons (gN i) (gsCons (gN j) gsNil)) (.d (Rk.Q r)) ρ h) N := w
theorem gk_tup3 {i j k : Nat} {d0 d1 d2 : Da} (w : SetK i ρ (.d d0) h fun ρ1 h1 => SetK j ρ1 (.d d1) h1 fun ρ2 h2 => SetK k ρ2 (.d d2) h2 N) : GvK (gTupT 3 (gsCons (gN i) (gsCons (gN j) (gsCons (gN k) gsNil))) (.d (.tuple [d0, d1, d2])) ρ h) N := w
theorem forK_nil (w : N ρ h) : ForK ⟨[], none⟩ g s ρ h N ⟨R, B, C, X⟩ := by
  unfold ForK
  show Ws (forL none g s [] ρ h) N ⟨R, B, C, X⟩
  unfold forL
  rw [if_pos (show gdOk none h from trivial)]
  exact ⟨w⟩
theorem forK_gen {gd : Option (Nat × List Da)} {d : Da} {ds : List Da} (hg : gdOk gd h) (w : GvK (g (.d d) ρ h) fun ρ1 h1 => Ws (s ρ1 h1) (fun ρ2 h2 => ForK ⟨ds, gd⟩ g s ρ2 h2 N ⟨R, B, C, X⟩) ⟨R, N, fun ρ2 h2 => ForK ⟨ds, gd⟩ g s ρ2 h2 N ⟨R, B, C, X⟩, X⟩) : ForK ⟨d :: ds, gd⟩ g s ρ h N ⟨R, B, C, X⟩ := by
  unfold ForK
  show Ws (forL gd g s (d :: ds) ρ h) N ⟨R, B, C, X⟩
  unfold forL
  rw [if_pos hg]
  unfold GvK at w
  revert w
  cases g (.d d) ρ h with
  | none => exact fun w => w.elim
  | some p =>
    obtain ⟨ρ1, h1⟩ := p
    show Ws (s ρ1 h1) _ _ → Ws (match s ρ1 h1 with
      | .nx ρ' h' => forL gd g s ds ρ' h'
      | .ct ρ' h' => forL gd g s ds ρ' h'
      | .bk ρ' h' => .nx ρ' h'
      | r => r) N ⟨R, B, C, X⟩
    cases s ρ1 h1 with
    | nx ρ2 h2 => exact fun w => w.w
    | ct ρ2 h2 => exact fun w => w.w
    | no => exact fun w => w.w.elim
    | _ => exact fun w => ⟨w.w⟩
theorem forK_cons {d : Da} {ds : List Da} (w : GvK (g (.d d) ρ h) fun ρ1 h1 => Ws (s ρ1 h1) (fun ρ2 h2 => ForK ⟨ds, none⟩ g s ρ2 h2 N ⟨R, B, C, X⟩) ⟨R, N, fun ρ2 h2 => ForK ⟨ds, none⟩ g s ρ2 h2 N ⟨R, B, C, X⟩, X⟩) : ForK ⟨d :: ds, none⟩ g s ρ h N ⟨R, B, C, X⟩ := forK_gen trivial w
/-- a loop by what stands ahead of each turn -/
theorem forK_inv {ds : List Da} (I : Nat → En → Hh → Prop) (h0 : I 0 ρ h)
    (st : ∀ (k : Nat) (d : Da) (ρ1 : En) (h1 : Hh), ds[k]? = some d → I k ρ1 h1 → GvK (g (.d d) ρ1 h1) fun ρ2 h2 => Ws (s ρ2 h2) (I (k + 1)) ⟨R, N, I (k + 1), X⟩)
    (fin : ∀ ρ1 h1, I ds.length ρ1 h1 → N ρ1 h1) : ForK ⟨ds, none⟩ g s ρ h N ⟨R, B, C, X⟩ := by
  have go : ∀ (n k : Nat) (ρ : En) (h : Hh), n = ds.length - k → k ≤ ds.length → I k ρ h → ForK ⟨ds.drop k, none⟩ g s ρ h N ⟨R, B, C, X⟩ := by
    intro n
    induction n with
    | zero =>
      intro k ρ h hn hk i
      have : k = ds.length := by omega
      subst this
      rw [List.drop_length]
      exact forK_nil (fin _ _ i)
    | succ n ih =>
      intro k ρ h hn hk i
      have hk' : k < ds.length := by omega
      rw [List.drop_eq_getElem_cons hk']
      have w := st k ds[k] ρ h (List.getElem?_eq_getElem hk') i
      refine forK_cons ?_
      unfold GvK at *
      revert w
      cases g (.d ds[k]) ρ h with
      | none => exact fun w => w
      | some p =>
        obtain ⟨ρ1, h1⟩ := p
        show Ws (s ρ1 h1) _ _ → Ws (s ρ1 h1) _ _
        cases s ρ1 h1 with
        | nx ρ2 h2 => exact fun w => ⟨ih (k + 1) ρ2 h2 (by omega) (by omega) w.w⟩
        | ct ρ2 h2 => exact fun w => ⟨ih (k + 1) ρ2 h2 (by omega) (by omega) w.w⟩
        | bk ρ2 h2 => exact fun w => ⟨w.w⟩
        | rt v h2 => exact fun w => ⟨w.w⟩
        | ex c fs ρ2 h2 => exact fun w => ⟨w.w⟩
        | no => exact fun w => w.w.elim
  have := go _ 0 ρ h rfl (Nat.zero_le _) h0
  rwa [List.drop_zero] at this
/-- a while by what stands ahead of each turn, and a number that grows less -/
theorem ws_while (I : Nat → En → Hh → Prop) {n : Nat} (h0 : I n ρ h)
    (st : ∀ (k : Nat) (ρ1 : En) (h1 : Hh), I k ρ1 h1 → Wp (t ρ1 h1) (fun b h2 => BrK b (Ws (s ρ1 h2) (fun ρ2 h3 => ∃ j, j < k ∧ I j ρ2 h3) ⟨R, N, fun ρ2 h3 => ∃ j, j < k ∧ I j ρ2 h3, X⟩) (N ρ1 h2)) (fun c fs h1 => X c fs ρ1 h1)) : Ws (sWhile t s ρ h) N ⟨R, B, C, X⟩ := by
  induction n using Nat.strongRecOn generalizing ρ h with
  | ind n ih =>
    have w := st n ρ h h0
    rw [sWhile_eq]
    revert w
    cases t ρ h with
    | no => exact fun w => w.w.elim
    | ex c fs h1 => exact fun w => ⟨w.w⟩
    | ok b h1 =>
      cases b with
      | false => exact fun w => ⟨w.w⟩
      | true =>
        intro w
        have w := w.w
        revert w
        show Ws (s ρ h1) _ _ → Ws (match s ρ h1 with
          | .nx ρ' h' => sWhile t s ρ' h'
          | .ct ρ' h' => sWhile t s ρ' h'
          | .bk ρ' h' => .nx ρ' h'
          | r => r) N ⟨R, B, C, X⟩
        cases s ρ h1 with
        | nx ρ2 h2 => exact fun ⟨j, hj, i⟩ => ih j hj i
        | ct ρ2 h2 => exact fun ⟨j, hj, i⟩ => ih j hj i
        | bk ρ2 h2 => exact fun w => ⟨w.w⟩
        | rt v h2 => exact fun w => ⟨w.w⟩
        | ex c fs ρ2 h2 => exact fun w => ⟨w.w⟩
        | no => exact fun w => w.w.elim
end
/-! ### a def entered -/
section
variable {Q : Vl → Hh → Prop} {E : XP} {h : Hh} {body : Sv} {as : List Vl} {k n : Nat}
theorem wp_def (hl : as.length = k) {ρ : En} (er : enter n as = ρ) (w : Ws (body ρ h) (fun _ h1 => RetK h.length Q (.d .none) h1) ⟨RetK h.length Q, fun _ _ => False, fun _ _ => False, fun c fs _ h1 => E c fs (h1.take h.length)⟩) : Wp (mkF k n body as h) Q E := by
  unfold mkF
  rw [if_pos hl, er]
  revert w
  cases body ρ h with
  | nx ρ1 h1 => exact fun ⟨v, h2, e, q⟩ => wp_eq e q
  | rt v h1 => exact fun ⟨v, h2, e, q⟩ => wp_eq e q
  | bk ρ1 h1 => exact fun w => w.w.elim
  | ct ρ1 h1 => exact fun w => w.w.elim
  | ex c fs ρ1 h1 => exact fun w => ⟨w.w⟩
  | no => exact fun w => w.w.elim
theorem retK_d {x : Da} (e : h.length = n) (q : Q (.d x) h) : RetK n Q (.d x) h := ⟨.d x, h, by subst e; show Out.ok _ _ = _; rw [List.take_length], q⟩
theorem retK_d' {x : Da} {l : Hh} (e : h.length = n) (q : Q (.d x) h) : RetK n Q (.d x) (h ++ l) := ⟨.d x, h, by subst e; show Out.ok _ _ = _; rw [List.take_left' rfl], q⟩
theorem retK_r {i : Nat} {o : Ob} {r : Hh} {l : Hh} (hr : h.length = n) (hi : i = n) (q : Q (.r n) (h ++ [some o])) : RetK n Q (.r i) (h ++ some o :: l) := by
  subst hr hi
  refine ⟨.r h.length, h ++ [some o], ?_, q⟩
  unfold trunc
  dsimp only
  rw [if_neg (Nat.lt_irrefl _), List.getElem?_append_right (Nat.le_refl _)]
  simp
end

section
variable {Q : Vl → Hh → Prop} {E : XP} {h : Hh} {v : Vl} {N : En → Hh → Prop} {r : En}
variable {o0 o1 o2 o3 o4 o5 o6 o7 o8 o9 o10 o11 o12 o13 o14 o15 o16 o17 o18 o19 o20 o21 o22 o23 o24 o25 : Option Vl}
theorem wp_v0 (q : Q v h) : Wp (eVar 0 (some v :: r) h) Q E := ⟨q⟩
theorem setk0 (q : N (some v :: r) h) : SetK 0 (o0 :: r) v h N := q
theorem wp_v1 (q : Q v h) : Wp (eVar 1 (o0 :: some v :: r) h) Q E := ⟨q⟩
theorem setk1 (q : N (o0 :: some v :: r) h) : SetK 1 (o0 :: o1 :: r) v h N := q
theorem wp_v2 (q : Q v h) : Wp (eVar 2 (o0 :: o1 :: some v :: r) h) Q E := ⟨q⟩
theorem setk2 (q : N (o0 :: o1 :: some v :: r) h) : SetK 2 (o0 :: o1 :: o2 :: r) v h N := q
theorem wp_v3 (q : Q v h) : Wp (eVar 3 (o0 :: o1 :: o2 :: some v :: r) h) Q E := ⟨q⟩
theorem setk3 (q : N (o0 :: o1 :: o2 :: some v :: r) h) : SetK 3 (o0 :: o1 :: o2 :: o3 :: r) v h N := q
theorem wp_v4 (q : Q v h) : Wp (eVar 4 (o0 :: o1 :: o2 :: o3 :: some v :: r) h) Q E := ⟨q⟩
theorem setk4 (q : N (o0 :: o1 :: o2 :: o3 :: some v :: r) h) : SetK 4 (o0 :: o1 :: o2 :: o3 :: o4 :: r) v h N := q
theorem wp_v5 (q : Q v h) : Wp (eVar 5 (o0 :: o1 :: o2 :: o3 :: o4 :: some v :: r) h) Q E := ⟨q⟩
theorem setk5 (q : N (o0 :: o1 :: o2 :: o3 :: o4 :: some v :: r) h) : SetK 5 (o0 :: o1 :: o2 :: o3 :: o4 :: o5 :: r) v h N := q
theorem wp_v6 (q : Q v h) : Wp (eVar 6 (o0 :: o1 :: o2 :: o3 :: o4 :: o5 :: some v :: r) h) Q E := ⟨q⟩
theorem setk6 (q : N (o0 :: o1 :: o2 :: o3 :: o4 :: o5 :: some v :: r) h) : SetK 6 (o0 :: o1 :: o2 :: o3 :: o4 :: o5 :: o6 :: r) v h N := q
theorem wp_v7 (q : Q v h) : Wp (eVar 7 (o0 :: o1 :: o2 :: o3 :: o4 :: o5 :: o6 :: some v :: r) h) Q E := ⟨q⟩
theorem setk7 (q : N (o0 :: o1 :: o2 :: o3 :: o4 :: o5 :: o6 :: some v :: r) h) : SetK 7 (o0 :: o1 :: o2 :: o3 :: o4 :: o5 :: o6 :: o7 :: r) v h N := q
theorem wp_v8 (q : Q v h) : Wp (eVar 8 (o0 :: o1 :: o2 :: o3 :: o4 :: o5 :: o6 :: o7 :: some v :: r) h) Q E := ⟨q⟩
theorem setk8 (q : N (o0 :: o1 :: o2 :: o3 :: o4 :: o5 :: o6 :: o7 :: some v :: r) h) : SetK 8 (o0 :: o1 :: o2 :: o3 :: o4 :: o5 :: o6 :: o7 :: o8 :: r) v h N := q
theorem wp_v9 (q : Q v h) : Wp (eVar 9 (o0 :: o1 :: o2 :: o3 :: o4 :: o5 :: o6 :: o7 :: o8 :: some v :: r) h) Q E := ⟨q⟩
theorem setk9 (q : N (o0 :: o1 :: o2 :: o3 :: o4 :: o5 :: o6 :: o7 :: o8 :: some v :: r) h) : SetK 9 (o0 :: o1 :: o2 :: o3 :: o4 :: o5 :: o6 :: o7 :: o8 :: o9 :: r) v h N := q
theorem wp_v10 (q : Q v h) : Wp (eVar 10 (o0 :: o1 :: o2 :: o3 :: o4 :: o5 :: o6 :: o7 :: o8 :: o9 :: some v :: r) h) Q E := ⟨q⟩
theorem setk10 (q : N (o0 :: o1 :: o2 :: o3 :: o4 :: o5 :: o6 :: o7 :: o8 :: o9 :: some v :: r) h) : SetK 10 (o0 :: o1 :: o2 :: o3 :: o4 :: o5 :: o6 :: o7 :: o8 :: o9 :: o10 :: r) v h N := q
theorem wp_v11 (q : Q v h) : Wp (eVar 11 (o0 :: o1 :: o2 :: o3 :: o4 :: o5 :: o6 :: o7 :: o8 :: o9 :: o10 :: some v :: r) h) Q E := ⟨q⟩
theorem setk11 (q : N (o0 :: o1 :: o2 :: o3 :: o4 :: o5 :: o6 :: o7 :: o8 :: o9 :: o10 :: some v :: r) h) : SetK 11 (o0 :: o1 :: o2 :: o3 :: o4 :: o5 :: o6 :: o7 :: o8 :: o9 :: o10 :: o11 :: r) v h N := q
theorem wp_v12 (q : Q v h) : Wp (eVar 12 (o0 :: o1 :: o2 :: o3 :: o4 :: o5 :: o6 :: o7 :: o8 :: o9 :: o10 :: o11 :: some v :: r) h) Q E := ⟨q⟩
theorem setk12 (q : N (o0 :: o1 :: o2 :: o3 :: o4 :: o5 :: o6 :: o7 :: o8 :: o9 :: o10 :: o11 :: some v :: r) h) : SetK 12 (o0 :: o1 :: o2 :: o3 :: o4 :: o5 :: o6 :: o7 :: o8 :: o9 :: o10 :: o11 :: o12 :: r) v h N := q
theorem wp_v13 (q : Q v h) : Wp (eVar 13 (o0 :: o1 :: o2 :: o3 :: o4 :: o5 :: o6 :: o7 :: o8 :: o9 :: o10 :: o11 :: o12 :: some v :: r) h) Q E := ⟨q⟩
theorem setk13 (q : N (o0 :: o1 :: o2 :: o3 :: o4 :: o5 :: o6 :: o7 :: o8 :: o9 :: o10 :: o11 :: o12 :: some v :: r) h) : SetK 13 (o0 :: o1 :: o2 :: o3 :: o4 :: o5 :: o6 :: o7 :: o8 :: o9 :: o10 :: o11 :: o12 :: o13 :: r) v h N := q
theorem wp_v14 (q : Q v h) : Wp (eVar 14 (o0 :: o1 :: o2 :: o3 :: o4 :: o5 :: o6 :: o7 :: o8 :: o9 :: o10 :: o11 :: o12 :: o13 :: some v :: r) h) Q E := ⟨q⟩
theorem setk14 (q : N (o0 :: o1 :: o2 :: o3 :: o4 :: o5 :: o6 :: o7 :: o8 :: o9 :: o10 :: o11 :: o12 :: o13 :: some v :: r) h) : SetK 14 (o0 :: o1 :: o2 :: o3 :: o4 :: o5 :: o6 :: o7 :: o8 :: o9 :: o10 :: o11 :: o12 :: o13 :: o14 :: r) v h N := q
theorem wp_v15 (q : Q v h) : Wp (eVar 15 (o0 :: o1 :: o2 :: o3 :: o4 :: o5 :: o6 :: o7 :: o8 :: o9 :: o10 :: o11 :: o12 :: o13 :: o14 :: some v :: r) h) Q E := ⟨q⟩
theorem setk15 (q : N (o0 :: o1 :: o2 :: o3 :: o4 :: o5 :: o6 :: o7 :: o8 :: o9 :: o10 :: o11 :: o12 :: o13 :: o14 :: some v :: r) h) : SetK 15 (o0 :: o1 :: o2 :: o3 :: o4 :: o5 :: o6 :: o7 :: o8 :: o9 :: o10 :: o11 :: o12 :: o13 :: o14 :: o15 :: r) v h N := q
theorem wp_v16 (q : Q v h) : Wp (eVar 16 (o0 :: o1 :: o2 :: o3 :: o4 :: o5 :: o6 :: o7 :: o8 :: o9 :: o10 :: o11 :: o12 :: o13 :: o14 :: o15 :: some v :: r) h) Q E := ⟨q⟩
theorem setk16 (q : N (o0 :: o1 :: o2 :: o3 :: o4 :: o5 :: o6 :: o7 :: o8 :: o9 :: o10 :: o11 :: o12 :: o13 :: o14 :: o15 :: some v :: r) h) : SetK 16 (o0 :: o1 :: o2 :: o3 :: o4 :: o5 :: o6 :: o7 :: o8 :: o9 :: o10 :: o11 :: o12 :: o13 :: o14 :: o15 :: o16 :: r) v h N := q
theorem wp_v17 (q : Q v h) : Wp (eVar 17 (o0 :: o1 :: o2 :: o3 :: o4 :: o5 :: o6 :: o7 :: o8 :: o9 :: o10 :: o11 :: o12 :: o13 :: o14 :: o15 :: o16 :: some v :: r) h) Q E := ⟨q⟩
theorem setk17 (q : N (o0 :: o1 :: o2 :: o3 :: o4 :: o5 :: o6 :: o7 :: o8 :: o9 :: o10 :: o11 :: o12 :: o13 :: o14 :: o15 :: o16 :: some v :: r) h) : SetK 17 (o0 :: o1 :: o2 :: o3 :: o4 :: o5 :: o6 :: o7 :: o8 :: o9 :: o10 :: o11 :: o12 :: o13 :: o14 :: o15 :: o16 :: o17 :: r) v h N := q
theorem wp_v18 (q : Q v h) : Wp (eVar 18 (o0 :: o1 :: o2 :: o3 :: o4 :: o5 :: o6 :: o7 :: o8 :: o9 :: o10 :: o11 :: o12 :: o13 :: o14 :: o15 :: o16 :: o17 :: some v :: r) h) Q E := ⟨q⟩
theorem setk18 (q : N (o0 :: o1 :: o2 :: o3 :: o4 :: o5 :: o6 :: o7 :: o8 :: o9 :: o10 :: o11 :: o12 :: o13 :: o14 :: o15 :: o16 :: o17 :: some v :: r) h) : SetK 18 (o0 :: o1 :: o2 :: o3 :: o4 :: o5 :: o6 :: o7 :: o8 :: o9 :: o10 :: o11 :: o12 :: o13 :: o14 :: o15 :: o16 :: o17 :: o18 :: r) v h N := q
theorem wp_v19 (q : Q v h) : Wp (eVar 19 (o0 :: o1 :: o2 :: o3 :: o4 :: o5 :: o6 :: o7 :: o8 :: o9 :: o10 :: o11 :: o12 :: o13 :: o14 :: o15 :: o16 :: o17 :: o18 :: some v :: r) h) Q E := ⟨q⟩
theorem setk19 (q : N (o0 :: o1 :: o2 :: o3 :: o4 :: o5 :: o6 :: o7 :: o8 :: o9 :: o10 :: o11 :: o12 :: o13 :: o14 :: o15 :: o16 :: o17 :: o18 :: some v :: r) h) : SetK 19 (o0 :: o1 :: o2 :: o3 :: o4 :: o5 :: o6 :: o7 :: o8 :: o9 :: o10 :: o11 :: o12 :: o13 :: o14 :: o15 :: o16 :: o17 :: o18 :: o19 :: r) v h N := q
theorem wp_v20 (q : Q v h) : Wp (eVar 20 (o0 :: o1 :: o2 :: o3 :: o4 :: o5 :: o6 :: o7 :: o8 :: o9 :: o10 :: o11 :: o12 :: o13 :: o14 :: o15 :: o16 :: o17 :: o18 :: o19 :: some v :: r) h) Q E := ⟨q⟩
theorem setk20 (q : N (o0 :: o1 :: o2 :: o3 :: o4 :: o5 :: o6 :: o7 :: o8 :: o9 :: o10 :: o11 :: o12 :: o13 :: o14 :: o15 :: o16 :: o17 :: o18 :: o19 :: some v :: r) h) : SetK 20 (o0 :: o1 :: o2 :: o3 :: o4 :: o5 :: o6 :: o7 :: o8 :: o9 :: o10 :: o11 :: o12 :: o13 :: o14 :: o15 :: o16 :: o17 :: o18 :: o19 :: o20 :: r) v h N := q
theorem wp_v21 (q : Q v h) : Wp (eVar 21 (o0 :: o1 :: o2 :: o3 :: o4 :: o5 :: o6 :: o7 :: o8 :: o9 :: o10 :: o11 :: o12 :: o13 :: o14 :: o15 :: o16 :: o17 :: o18 :: o19 :: o20 :: some v :: r) h) Q E := ⟨q⟩
theorem setk21 (q : N (o0 :: o1 :: o2 :: o3 :: o4 :: o5 :: o6 :: o7 :: o8 :: o9 :: o10 :: o11 :: o12 :: o13 :: o14 :: o15 :: o16 :: o17 :: o18 :: o19 :: o20 :: some v :: r) h) : SetK 21 (o0 :: o1 :: o2 :: o3 :: o4 :: o5 :: o6 :: o7 :: o8 :: o9 :: o10 :: o11 :: o12 :: o13 :: o14 :: o15 :: o16 :: o17 :: o18 :: o19 :: o20 :: o21 :: r) v h N := q
theorem wp_v22 (q : Q v h) : Wp (eVar 22 (o0 :: o1 :: o2 :: o3 :: o4 :: o5 :: o6 :: o7 :: o8 :: o9 :: o10 :: o11 :: o12 :: o13 :: o14 :: o15 :: o16 :: o17 :: o18 :: o19 :: o20 :: o21 :: some v :: r) h) Q E := ⟨q⟩
theorem setk22 (q : N (o0 :: o1 :: o2 :: o3 :: o4 :: o5 :: o6 :: o7 :: o8 :: o9 :: o10 :: o11 :: o12 :: o13 :: o14 :: o15 :: o16 :: o17 :: o18 :: o19 :: o20 :: o21 :: some v :: r) h) : SetK 22 (o0 :: o1 :: o2 :: o3 :: o4 :: o5 :: o6 :: o7 :: o8 :: o9 :: o10 :: o11 :: o12 :: o13 :: o14 :: o15 :: o16 :: o17 :: o18 :: o19 :: o20 :: o21 :: o22 :: r) v h N := q
theorem wp_v23 (q : Q v h) : Wp (eVar 23 (o0 :: o1 :: o2 :: o3 :: o4 :: o5 :: o6 :: o7 :: o8 :: o9 :: o10 :: o11 :: o12 :: o13 :: o14 :: o15 :: o16 :: o17 :: o18 :: o19 :: o20 :: o21 :: o22 :: some v :: r) h) Q E := ⟨q⟩
theorem setk23 (q : N (o0 :: o1 :: o2 :: o3 :: o4 :: o5 :: o6 :: o7 :: o8 :: o9 :: o10 :: o11 :: o12 :: o13 :: o14 :: o15 :: o16 :: o17 :: o18 :: o19 :: o20 :: o21 :: o22 :: some v :: r) h) : SetK 23 (o0 :: o1 :: o2 :: o3 :: o4 :: o5 :: o6 :: o7 :: o8 :: o9 :: o10 :: o11 :: o12 :: o13 :: o14 :: o15 :: o16 :: o17 :: o18 :: o19 :: o20 :: o21 :: o22 :: o23 :: r) v h N := q
theorem wp_v24 (q : Q v h) : Wp (eVar 24 (o0 :: o1 :: o2 :: o3 :: o4 :: o5 :: o6 :: o7 :: o8 :: o9 :: o10 :: o11 :: o12 :: o13 :: o14 :: o15 :: o16 :: o17 :: o18 :: o19 :: o20 :: o21 :: o22 :: o23 :: some v :: r) h) Q E := ⟨q⟩
theorem setk24 (q : N (o0 :: o1 :: o2 :: o3 :: o4 :: o5 :: o6 :: o7 :: o8 :: o9 :: o10 :: o11 :: o12 :: o13 :: o14 :: o15 :: o16 :: o17 :: o18 :: o19 :: o20 :: o21 :: o22 :: o23 :: some v :: r) h) : SetK 24 (o0 :: o1 :: o2 :: o3 :: o4 :: o5 :: o6 :: o7 :: o8 :: o9 :: o10 :: o11 :: o12 :: o13 :: o14 :: o15 :: o16 :: o17 :: o18 :: o19 :: o20 :: o21 :: o22 :: o23 :: o24 :: r) v h N := q
theorem wp_v25 (q : Q v h) : Wp (eVar 25 (o0 :: o1 :: o2 :: o3 :: o4 :: o5 :: o6 :: o7 :: o8 :: o9 :: o10 :: o11 :: o12 :: o13 :: o14 :: o15 :: o16 :: o17 :: o18 :: o19 :: o20 :: o21 :: o22 :: o23 :: o24 :: some v :: r) h) Q E := ⟨q⟩
theorem setk25 (q : N (o0 :: o1 :: o2 :: o3 :: o4 :: o5 :: o6 :: o7 :: o8 :: o9 :: o10 :: o11 :: o12 :: o13 :: o14 :: o15 :: o16 :: o17 :: o18 :: o19 :: o20 :: o21 :: o22 :: o23 :: o24 :: some v :: r) h) : SetK 25 (o0 :: o1 :: o2 :: o3 :: o4 :: o5 :: o6 :: o7 :: o8 :: o9 :: o10 :: o11 :: o12 :: o13 :: o14 :: o15 :: o16 :: o17 :: o18 :: o19 :: o20 :: o21 :: o22 :: o23 :: o24 :: o25 :: r) v h N := q
end
section
variable {Q : Vl → Hh → Prop} {h : Hh}
variable {d0 d1 d2 d3 d4 d5 d6 d7 d8 d9 d10 d11 d12 d13 d14 d15 d16 d17 d18 d19 d20 d21 d22 d23 d24 d25 : Da}
theorem tupk0 (q : Q (.d (.tuple [])) h) : TupK [] h Q := ⟨[], h, rfl, rfl, q⟩
theorem lstk0 (q : Q (.r h.length) (h ++ [some (.lst [])])) : LstK [] h Q := ⟨[], h, rfl, rfl, q⟩
theorem tupk1 (q : Q (.d (.tuple [d0])) h) : TupK [.d d0] h Q := ⟨[d0], h, rfl, rfl, q⟩
theorem lstk1 (q : Q (.r h.length) (h ++ [some (.lst [d0])])) : LstK [.d d0] h Q := ⟨[d0], h, rfl, rfl, q⟩
theorem tupk2 (q : Q (.d (.tuple [d0, d1])) h) : TupK [.d d0, .d d1] h Q := ⟨[d0, d1], h, rfl, rfl, q⟩
theorem lstk2 (q : Q (.r h.length) (h ++ [some (.lst [d0, d1])])) : LstK [.d d0, .d d1] h Q := ⟨[d0, d1], h, rfl, rfl, q⟩
theorem tupk3 (q : Q (.d (.tuple [d0, d1, d2])) h) : TupK [.d d0, .d d1, .d d2] h Q := ⟨[d0, d1, d2], h, rfl, rfl, q⟩
theorem lstk3 (q : Q (.r h.length) (h ++ [some (.lst [d0, d1, d2])])) : LstK [.d d0, .d d1, .d d2] h Q := ⟨[d0, d1, d2], h, rfl, rfl, q⟩
theorem tupk4 (q : Q (.d (.tuple [d0, d1, d2, d3])) h) : TupK [.d d0, .d d1, .d d2, .d d3] h Q := ⟨[d0, d1, d2, d3], h, rfl, rfl, q⟩
theorem lstk4 (q : Q (.r h.length) (h ++ [some (.lst [d0, d1, d2, d3])])) : LstK [.d d0, .d d1, .d d2, .d d3] h Q := ⟨[d0, d1, d2, d3], h, rfl, rfl, q⟩
theorem tupk5 (q : Q (.d (.tuple [d0, d1, d2, d3, d4])) h) : TupK [.d d0, .d d1, .d d2, .d d3, .d d4] h Q := ⟨[d0, d1, d2, d3, d4], h, rfl, rfl, q⟩
theorem lstk5 (q : Q (.r h.length) (h ++ [some (.lst [d0, d1, d2, d3, d4])])) : LstK [.d d0, .d d1, .d d2, .d d3, .d d4] h Q := ⟨[d0, d1, d2, d3, d4], h, rfl, rfl, q⟩
theorem tupk6 (q : Q (.d (.tuple [d0, d1, d2, d3, d4, d5])) h) : TupK [.d d0, .d d1, .d d2, .d d3, .d d4, .d d5] h Q := ⟨[d0, d1, d2, d3, d4, d5], h, rfl, rfl, q⟩
theorem lstk6 (q : Q (.r h.length) (h ++ [some (.lst [d0, d1, d2, d3, d4, d5])])) : LstK [.d d0, .d d1, .d d2, .d d3, .d d4, .d d5] h Q := ⟨[d0, d1, d2, d3, d4, d5], h, rfl, rfl, q⟩
theorem tupk7 (q : Q (.d (.tuple [d0, d1, d2, d3, d4, d5, d6])) h) : TupK [.d d0, .d d1, .d d2, .d d3, .d d4, .d d5, .d d6] h Q := ⟨[d0, d1, d2, d3, d4, d5, d6], h, rfl, rfl, q⟩
theorem lstk7 (q : Q (.r h.length) (h ++ [some (.lst [d0, d1, d2, d3, d4, d5, d6])])) : LstK [.d d0, .d d1, .d d2, .d d3, .d d4, .d d5, .d d6] h Q := ⟨[d0, d1, d2, d3, d4, d5, d6], h, rfl, rfl, q⟩
theorem tupk8 (q : Q (.d (.tuple [d0, d1, d2, d3, d4, d5, d6, d7])) h) : TupK [.d d0, .d d1, .d d2, .d d3, .d d4, .d d5, .d d6, .d d7] h Q := ⟨[d0, d1, d2, d3, d4, d5, d6, d7], h, rfl, rfl, q⟩
theorem lstk8 (q : Q (.r h.length) (h ++ [some (.lst [d0, d1, d2, d3, d4, d5, d6, d7])])) : LstK [.d d0, .d d1, .d d2, .d d3, .d d4, .d d5, .d d6, .d d7] h Q := ⟨[d0, d1, d2, d3, d4, d5, d6, d7], h, rfl, rfl, q⟩
theorem tupk9 (q : Q (.d (.tuple [d0, d1, d2, d3, d4, d5, d6, d7, d8])) h) : TupK [.d d0, .d d1, .d d2, .d d3, .d d4, .d d5, .d d6, .d d7, .d d8] h Q := ⟨[d0, d1, d2, d3, d4, d5, d6, d7, d8], h, rfl, rfl, q⟩
theorem lstk9 (q : Q (.r h.length) (h ++ [some (.lst [d0, d1, d2, d3, d4, d5, d6, d7, d8])])) : LstK [.d d0, .d d1, .d d2, .d d3, .d d4, .d d5, .d d6, .d d7, .d d8] h Q := ⟨[d0, d1, d2, d3, d4, d5, d6, d7, d8], h, rfl, rfl, q⟩
theorem tupk10 (q : Q (.d (.tuple [d0, d1, d2, d3, d4, d5, d6, d7, d8, d9])) h) : TupK [.d d0, .d d1, .d d2, .d d3, .d d4, .d d5, .d d6, .d d7, .d d8, .d d9] h Q := ⟨[d0, d1, d2, d3, d4, d5, d6, d7, d8, d9], h, rfl, rfl, q⟩
theorem lstk10 (q : Q (.r h.length) (h ++ [some (.lst [d0, d1, d2, d3, d4, d5, d6, d7, d8, d9])])) : LstK [.d d0, .d d1, .d d2, .d d3, .d d4, .d d5, .d d6, .d d7, .d d8, .d d9] h Q := ⟨[d0, d1, d2, d3, d4, d5, d6, d7, d8, d9], h, rfl, rfl, q⟩
theorem tupk11 (q : Q (.d (.tuple [d0, d1, d2, d3, d4, d5, d6, d7, d8, d9, d10])) h) : TupK [.d d0, .d d1, .d d2, .d d3, .d d4, .d d5, .d d6, .d d7, .d d8, .d d9, .d d10] h Q := ⟨[d0, d1, d2, d3, d4, d5, d6, d7, d8, d9, d10], h, rfl, rfl, q⟩
theorem lstk11 (q : Q (.r h.length) (h ++ [some (.lst [d0, d1, d2, d3, d4, d5, d6, d7, d8, d9, d10])])) : LstK [.d d0, .d d1, .d d2, .d d3, .d d4, .d d5, .d d6, .d d7, .d d8, .d d9, .d d10] h Q := ⟨[d0, d1, d2, d3, d4, d5, d6, d7, d8, d9, d10], h, rfl, rfl, q⟩
theorem tupk12 (q : Q (.d (.tuple [d0, d1, d2, d3, d4, d5, d6, d7, d8, d9, d10, d11])) h) : TupK [.d d0, .d d1, .d d2, .d d3, .d d4, .d d5, .d d6, .d d7, .d d8, .d d9, .d d10, .d d11] h Q := ⟨[d0, d1, d2, d3, d4, d5, d6, d7, d8, d9, d10, d11], h, rfl, rfl, q⟩
theorem lstk12 (q : Q (.r h.length) (h ++ [some (.lst [d0, d1, d2, d3, d4, d5, d6, d7, d8, d9, d10, d11])])) : LstK [.d d0, .d d1, .d d2, .d d3, .d d4, .d d5, .d d6, .d d7, .d d8, .d d9, .d d10, .d d11] h Q := ⟨[d0, d1, d2, d3, d4, d5, d6, d7, d8, d9, d10, d11], h, rfl, rfl, q⟩
theorem tupk13 (q : Q (.d (.tuple [d0, d1, d2, d3, d4, d5, d6, d7, d8, d9, d10, d11, d12])) h) : TupK [.d d0, .d d1, .d d2, .d d3, .d d4, .d d5, .d d6, .d d7, .d d8, .d d9, .d d10, .d d11, .d d12] h Q := ⟨[d0, d1, d2, d3, d4, d5, d6, d7, d8, d9, d10, d11, d12], h, rfl, rfl, q⟩
theorem lstk13 (q : Q (.r h.length) (h ++ [some (.lst [d0, d1, d2, d3, d4, d5, d6, d7, d8, d9, d10, d11, d12])])) : LstK [.d d0, .d d1, .d d2, .d d3, .d d4, .d d5, .d d6, .d d7, .d d8, .d d9, .d d10, .d d11, .d d12] h Q := ⟨[d0, d1, d2, d3, d4, d5, d6, d7, d8, d9, d10, d11, d12], h, rfl, rfl, q⟩
theorem tupk14 (q : Q (.d (.tuple [d0, d1, d2, d3, d4, d5, d6, d7, d8, d9, d10, d11, d12, d13])) h) : TupK [.d d0, .d d1, .d d2, .d d3, .d d4, .d d5, .d d6, .d d7, .d d8, .d d9, .d d10, .d d11, .d d12, .d d13] h Q := ⟨[d0, d1, d2, d3, d4, d5, d6, d7, d8, d9, d10, d11, d12, d13], h, rfl, rfl, q⟩
theorem lstk14 (q : Q (.r h.length) (h ++ [some (.lst [d0, d1, d2, d3, d4, d5, d6, d7, d8, d9, d10, d11, d12, d13])])) : LstK [.d d0, .d d1, .d d2, .d d3, .d d4, .d d5, .d d6, .d d7, .d d8, .d d9, .d d10, .d d11, .d d12, .d d13] h Q := ⟨[d0, d1, d2, d3, d4, d5, d6, d7, d8, d9, d10, d11, d12, d13], h, rfl, rfl, q⟩
theorem tupk15 (q : Q (.d (.tuple [d0, d1, d2, d3, d4, d5, d6, d7, d8, d9, d10, d11, d12, d13, d14])) h) : TupK [.d d0, .d d1, .d d2, .d d3, .d d4, .d d5, .d d6, .d d7, .d d8, .d d9, .d d10, .d d11, .d d12, .d d13, .d d14] h Q := ⟨[d0, d1, d2, d3, d4, d5, d6, d7, d8, d9, d10, d11, d12, d13, d14], h, rfl, rfl, q⟩
theorem lstk15 (q : Q (.r h.length) (h ++ [some (.lst [d0, d1, d2, d3, d4, d5, d6, d7, d8, d9, d10, d11, d12, d13, d14])])) : LstK [.d d0, .d d1, .d d2, .d d3, .d d4, .d d5, .d d6, .d d7, .d d8, .d d9, .d d10, .d d11, .d d12, .d d13, .d d14] h Q := ⟨[d0, d1, d2, d3, d4, d5, d6, d7, d8, d9, d10, d11, d12, d13, d14], h, rfl, rfl, q⟩
end
end Rk

/-! Rk20: the operators' rules; sizes. -/
namespace Rk
open PySem PySem.Spec L2
section
variable {Q : Vl → Hh → Prop} {h : Hh} {a b : Int} {r s : Rat}
theorem wo_eq {o : Option (Vl × Hh)} {v : Vl} {h' : Hh} (e : o = some (v, h')) (q : Q v h') : Wo o Q := by rw [e]; exact q
theorem wo_add (q : Q (.d (.int (a + b))) h) : Wo (gAdd (.d (.int a)) (.d (.int b)) h) Q := q
theorem wo_iadd (q : Q (.d (.int (a + b))) h) : Wo (gInt fAdd (.d (.int a)) (.d (.int b)) h) Q := q
theorem wo_sub (q : Q (.d (.int (a - b))) h) : Wo (gInt fSub (.d (.int a)) (.d (.int b)) h) Q := q
theorem wo_mul (m : IntMulOk a b) (q : Q (.d (.int (a * b))) h) : Wo (gInt fMul (.d (.int a)) (.d (.int b)) h) Q := wo_eq (by rw [gInt_eq, fMul_eq m]; rfl) q
theorem wo_div (b0 : 0 < b) (m : Builtin.divisionGoesByPylong a b = false) (q : Q (.d (.int (a / b))) h) : Wo (gInt fDiv (.d (.int a)) (.d (.int b)) h) Q :=
  wo_eq (by rw [gInt_eq, fDiv_eq (by omega) m, Int.fdiv_eq_ediv_of_nonneg _ (by omega)]; rfl) q
theorem wo_mod (b0 : 0 < b) (q : Q (.d (.int (a % b))) h) : Wo (gInt fMod (.d (.int a)) (.d (.int b)) h) Q :=
  wo_eq (by rw [gInt_eq, fMod_eq (by omega), Int.fmod_eq_emod_of_nonneg _ (by omega)]; rfl) q
theorem wo_pow {n : Nat} (h1 : n ≤ 1000000) (h2 : a.natAbs < 2 ^ 64) (q : Q (.d (.int (a ^ n))) h) : Wo (gInt fPow (.d (.int a)) (.d (.int (OfNat.ofNat n))) h) Q :=
  wo_eq (by
    rw [gInt_eq, show (OfNat.ofNat n : Int) = (n : Int) from rfl]
    unfold fPow
    rw [if_pos ⟨by omega, by omega, h2⟩]; rfl) q
theorem wo_lt (q : Q (.d (.bool (decide (a < b)))) h) : Wo (gInt fLt (.d (.int a)) (.d (.int b)) h) Q := q
theorem wo_le (q : Q (.d (.bool (decide (a ≤ b)))) h) : Wo (gInt fLe (.d (.int a)) (.d (.int b)) h) Q := q
theorem wo_gt (q : Q (.d (.bool (decide (b < a)))) h) : Wo (gInt fGt (.d (.int a)) (.d (.int b)) h) Q := q
theorem wo_ge (q : Q (.d (.bool (decide (b ≤ a)))) h) : Wo (gInt fGe (.d (.int a)) (.d (.int b)) h) Q := q
theorem wo_eqI (q : Q (.d (.bool (decide (a = b)))) h) : Wo (gEq (.d (.int a)) (.d (.int b)) h) Q := wo_eq gEq_int q
theorem wo_neI (q : Q (.d (.bool (!decide (a = b)))) h) : Wo (gNe (.d (.int a)) (.d (.int b)) h) Q := wo_eq gNe_int q
theorem wo_eqQ (q : Q (.d (.bool (decide (r = s)))) h) : Wo (gEq (.d (Rk.Q r)) (.d (Rk.Q s)) h) Q := wo_eq gEq_Q q
theorem wo_neQ (q : Q (.d (.bool (!decide (r = s)))) h) : Wo (gNe (.d (Rk.Q r)) (.d (Rk.Q s)) h) Q := wo_eq gNe_Q q
theorem wo_eqS {x y : Str} (q : Q (.d (.bool (decide (x = y)))) h) : Wo (gEq (.d (.str x)) (.d (.str y)) h) Q := q
theorem wo_neS {x y : Str} (q : Q (.d (.bool (!decide (x = y)))) h) : Wo (gNe (.d (.str x)) (.d (.str y)) h) Q := q
theorem wo_eqB {x y : Bool} (q : Q (.d (.bool (decide (x = y)))) h) : Wo (gEq (.d (.bool x)) (.d (.bool y)) h) Q := wo_eq gEq_bool q
theorem wo_neB {x y : Bool} (q : Q (.d (.bool (!decide (x = y)))) h) : Wo (gNe (.d (.bool x)) (.d (.bool y)) h) Q := wo_eq gNe_bool q
theorem wo_isN {x : Vl} (q : Q (.d (.bool (isN x))) h) : Wo (gIsN x (.d .none) h) Q := q
theorem wo_notN {x : Vl} (q : Q (.d (.bool (!isN x))) h) : Wo (gNotN x (.d .none) h) Q := q
theorem wo_isB {x y : Bool} (q : Q (.d (.bool (decide (x = y)))) h) : Wo (gIsB (.d (.bool x)) (.d (.bool y)) h) Q := q
theorem wo_notB {x y : Bool} (q : Q (.d (.bool (!decide (x = y)))) h) : Wo (gNotB (.d (.bool x)) (.d (.bool y)) h) Q := q
theorem wo_ixQ0 (q : Q (.d (.int r.num)) h) : Wo (gIx (.d (Rk.Q r)) (.d (.int 0)) h) Q := wo_eq ixQ0 q
theorem wo_ixQ1 (q : Q (.d (.int r.den)) h) : Wo (gIx (.d (Rk.Q r)) (.d (.int 1)) h) Q := wo_eq ixQ1 q
theorem wo_iyT {x : Vl} {ds : List Da} (e : x = .d (.tuple ds)) (w : Wo (gIx x (.d (.int a)) h) Q) : Wo (gIy x (.d (.int a)) h) Q := by subst e; exact w
theorem wo_iyL {x : Vl} {ds : List Da} (e : x = .d (.list ds)) (w : Wo (gIx x (.d (.int a)) h) Q) : Wo (gIy x (.d (.int a)) h) Q := by subst e; exact w
theorem wo_iyQ (w : Wo (gIx (.d (Rk.Q r)) (.d (.int a)) h) Q) : Wo (gIy (.d (Rk.Q r)) (.d (.int a)) h) Q := w
/-- a written list, or tuple, at a drawn place -/
theorem wo_menu {ds : List Da} (P : Da → Prop) (h0 : 0 ≤ a) (h1 : a < ds.length) (hp : ∀ d ∈ ds, P d) (q : ∀ d, P d → Q (.d d) h) : Wo (gIx (.d (.list ds)) (.d (.int a)) h) Q := by
  have e : ds[a.toNat]? = some (ds[a.toNat]'(by omega)) := List.getElem?_eq_getElem _
  have := gIxF (h := h) e
  rw [show ((a.toNat : Nat) : Int) = a by omega] at this
  exact wo_eq this (q _ (hp _ (List.getElem_mem _)))
theorem wo_menuT {ds : List Da} (P : Da → Prop) (h0 : 0 ≤ a) (h1 : a < ds.length) (hp : ∀ d ∈ ds, P d) (q : ∀ d, P d → Q (.d d) h) : Wo (gIx (.d (.tuple ds)) (.d (.int a)) h) Q := by
  have e : ds[a.toNat]? = some (ds[a.toNat]'(by omega)) := List.getElem?_eq_getElem _
  have := gIx_nat (h := h) e
  rw [show ((a.toNat : Nat) : Int) = a by omega] at this
  exact wo_eq this (q _ (hp _ (List.getElem_mem _)))
def IntIn (lo hi : Int) (d : Da) : Prop := ∃ i, d = .int i ∧ lo ≤ i ∧ i ≤ hi
theorem wo_menuI (lo hi : Int) {ds : List Da} (h0 : 0 ≤ a) (h1 : a < ds.length) (hp : ∀ d ∈ ds, IntIn lo hi d) (q : ∀ i, lo ≤ i → i ≤ hi → Q (.d (.int i)) h) : Wo (gIx (.d (.list ds)) (.d (.int a)) h) Q :=
  wo_menu (IntIn lo hi) h0 h1 hp fun d ⟨i, e, l1, l2⟩ => by subst e; exact q i l1 l2
theorem wo_abs (q : Q (.d (.int (a.natAbs : Int))) h) : Wo (gAbs [.d (.int a)] h) Q := wo_eq (by rw [gAbs_eq, abs_eq]) q
theorem wo_max (q : Q (.d (.int (max a b))) h) : Wo (gMax [.d (.int a), .d (.int b)] h) Q := wo_eq (v := .d (.int (max a b))) (h' := h) (by
  show some _ = some _
  have e : (if b > a then b else a) = max a b := by split <;> omega
  rw [e]) q
theorem wo_min (q : Q (.d (.int (min a b))) h) : Wo (gMin [.d (.int a), .d (.int b)] h) Q := wo_eq (v := .d (.int (min a b))) (h' := h) (by
  show some _ = some _
  have e : (if b < a then b else a) = min a b := by split <;> omega
  rw [e]) q
theorem wo_int1b {c : Bool} (q : Q (.d (.int (if c then 1 else 0))) h) : Wo (gInt1 [.d (.bool c)] h) Q := q
theorem wo_int1i (q : Q (.d (.int a)) h) : Wo (gInt1 [.d (.int a)] h) Q := q
theorem wo_lenT {ds : List Da} (q : Q (.d (.int ds.length)) h) : Wo (gLen [.d (.tuple ds)] h) Q := q
theorem wo_lenL {ds : List Da} (q : Q (.d (.int ds.length)) h) : Wo (gLen [.d (.list ds)] h) Q := q
theorem wo_lenQ (q : Q (.d (.int 2)) h) : Wo (gLen [.d (Rk.Q r)] h) Q := q
theorem wo_listT {ds : List Da} (q : Q (.r h.length) (h ++ [some (.lst ds)])) : Wo (gList [.d (.tuple ds)] h) Q := q
theorem wo_listL {ds : List Da} (q : Q (.r h.length) (h ++ [some (.lst ds)])) : Wo (gList [.d (.list ds)] h) Q := q
theorem wo_listQ (q : Q (.r h.length) (h ++ [some (.lst [.int r.num, .int r.den])])) : Wo (gList [.d (Rk.Q r)] h) Q := q
theorem wo_tupT {ds : List Da} (q : Q (.d (.tuple ds)) h) : Wo (gTuple [.d (.tuple ds)] h) Q := q
theorem wo_tupL {ds : List Da} (q : Q (.d (.tuple ds)) h) : Wo (gTuple [.d (.list ds)] h) Q := q
theorem wo_addL {xs ys : List Da} (hl : xs.length + ys.length ≤ 16777216) (q : Q (.r h.length) (h ++ [some (.lst (xs ++ ys))])) : Wo (gAdd (.d (.list xs)) (.d (.list ys)) h) Q :=
  wo_eq (v := .r h.length) (h' := h ++ [some (.lst (xs ++ ys))]) (by
    unfold gAdd asL
    dsimp only
    rw [if_pos (fitB_ok hl)]) q
theorem wo_addL' {xs ys zs : List Da} (e : xs ++ ys = zs) (hl : xs.length + ys.length ≤ 16777216) (q : Q (.r h.length) (h ++ [some (.lst zs)])) : Wo (gAdd (.d (.list xs)) (.d (.list ys)) h) Q := wo_addL hl (by rw [e]; exact q)
theorem wo_addT' {xs ys zs : List Da} (e : xs ++ ys = zs) (hl : xs.length + ys.length ≤ 16777216) (q : Q (.d (.tuple zs)) h) : Wo (gAdd (.d (.tuple xs)) (.d (.tuple ys)) h) Q :=
  wo_eq (v := .d (.tuple zs)) (h' := h) (by
    unfold gAdd
    dsimp only
    rw [if_pos (fitB_ok hl), e]) q
theorem wo_addT {xs ys : List Da} (hl : xs.length + ys.length ≤ 16777216) (q : Q (.d (.tuple (xs ++ ys))) h) : Wo (gAdd (.d (.tuple xs)) (.d (.tuple ys)) h) Q :=
  wo_eq (v := .d (.tuple (xs ++ ys))) (h' := h) (by
    unfold gAdd
    dsimp only
    rw [if_pos (fitB_ok hl)]) q
theorem wo_slT {xs : List Da} {lo hi : Option Int} (q : Q (.d (.tuple (cutD xs lo hi))) h) : Wo (gSl (.d (.tuple xs)) lo hi h) Q := q
theorem wo_slL {xs : List Da} {lo hi : Option Int} (q : Q (.r h.length) (h ++ [some (.lst (cutD xs lo hi))])) : Wo (gSl (.d (.list xs)) lo hi h) Q := q
theorem wo_stL {xs : List Da} {lo hi st : Option Int} (h1 : st ≠ some 0) (h2 : (pickG xs lo hi st).length ≤ 16777216) (q : Q (.r h.length) (h ++ [some (.lst (pickG xs lo hi st))])) : Wo (gSt (.d (.list xs)) lo hi st h) Q :=
  wo_eq (v := .r h.length) (h' := h ++ [some (.lst (pickG xs lo hi st))]) (by
    unfold gSt asL
    dsimp only
    rw [if_pos ⟨h1, h2⟩]) q
end
section
variable {Q : Vl → Hh → Prop} {h : Hh} {a0 a1 a2 a3 a4 a5 : Da} {l : List Da}
theorem wo_ix0 (q : Q (.d a0) h) : Wo (gIx (.d (.tuple (a0 :: l))) (.d (.int 0)) h) Q := wo_eq ix0 q
theorem wo_ix1 (q : Q (.d a1) h) : Wo (gIx (.d (.tuple (a0 :: a1 :: l))) (.d (.int 1)) h) Q := wo_eq ix1 q
theorem wo_ix2 (q : Q (.d a2) h) : Wo (gIx (.d (.tuple (a0 :: a1 :: a2 :: l))) (.d (.int 2)) h) Q := wo_eq ix2 q
theorem wo_ix3 (q : Q (.d a3) h) : Wo (gIx (.d (.tuple (a0 :: a1 :: a2 :: a3 :: l))) (.d (.int 3)) h) Q := wo_eq ix3 q
theorem wo_ix4 (q : Q (.d a4) h) : Wo (gIx (.d (.tuple (a0 :: a1 :: a2 :: a3 :: a4 :: l))) (.d (.int 4)) h) Q := wo_eq ix4 q
theorem wo_ix5 (q : Q (.d a5) h) : Wo (gIx (.d (.tuple (a0 :: a1 :: a2 :: a3 :: a4 :: a5 :: l))) (.d (.int 5)) h) Q := wo_eq ix5 q
theorem wo_il0 (q : Q (.d a0) h) : Wo (gIx (.d (.list (a0 :: l))) (.d (.int 0)) h) Q := wo_eq (gIxF (k := 0) rfl) q
theorem wo_il1 (q : Q (.d a1) h) : Wo (gIx (.d (.list (a0 :: a1 :: l))) (.d (.int 1)) h) Q := wo_eq (gIxF (k := 1) rfl) q
theorem wo_il2 (q : Q (.d a2) h) : Wo (gIx (.d (.list (a0 :: a1 :: a2 :: l))) (.d (.int 2)) h) Q := wo_eq (gIxF (k := 2) rfl) q
theorem wo_il3 (q : Q (.d a3) h) : Wo (gIx (.d (.list (a0 :: a1 :: a2 :: a3 :: l))) (.d (.int 3)) h) Q := wo_eq (gIxF (k := 3) rfl) q
end
/-! ### sizes, by form -/
section
variable {n m : Nat} {x y : Int} {r s : Rat}
theorem Bd.lit (x : Int) : Bd (x.natAbs.log2 + 1) x := by
  unfold Bd
  exact Nat.lt_log2_self
theorem BQ.pos (h : BQ n r) : 0 < n := Nat.pos_of_ne_zero fun z => by
  subst z
  have h2 : ((r.den : Int)).natAbs < 1 := h.2
  have := r.den_nz
  omega
theorem BQ.nu (h : BQ n r) : Bd n r.num := h.1
theorem BQ.dn (h : BQ n r) : Bd n (r.den : Int) := h.2
theorem Bd.abs (h : Bd n x) : Bd n (x.natAbs : Int) := h.le (by omega)
theorem Bd.ediv (h : Bd n x) : Bd n (x / y) := h.le (Int.natAbs_ediv_le_natAbs _ _)
theorem Bd.emod (hy : Bd m y) (h0 : 0 < y) : Bd m (x % y) := hy.le (by
  have h1 := Int.emod_nonneg x (show y ≠ 0 by omega)
  have h2 := Int.emod_lt_of_pos x h0
  omega)
theorem BQ.add' (hr : BQ n r) (hs : BQ m s) : BQ (n + m + 1) (r + s) := hr.add hs (by have := hr.pos; omega)
theorem BQ.sub' (hr : BQ n r) (hs : BQ m s) : BQ (n + m + 1) (r - s) := hr.sub hs (by have := hr.pos; omega)
theorem BQ.mul' (hr : BQ n r) (hs : BQ m s) : BQ (n + m) (r * s) := hr.mul hs (by have := hr.pos; omega)
theorem BQ.div' (hr : BQ n r) (hs : BQ m s) : BQ (n + m) (r / s) := hr.div hs (by have := hr.pos; omega)
theorem BQ.ite {c : Prop} [Decidable c] (hr : BQ n r) (hs : BQ m s) : BQ (max n m) (if c then r else s) := by
  split
  · exact hr.mono (Nat.le_max_left ..)
  · exact hs.mono (Nat.le_max_right ..)
theorem BQ.i (h : Bd n x) : BQ (n + 1) (x : Rat) := BQ_int (h.mono (Nat.le_succ _)) (Nat.succ_pos _)
theorem BQ.zero : BQ 1 0 := by unfold BQ Bd; decide
theorem BQ.one : BQ 1 1 := by unfold BQ Bd; decide
theorem BQ.dv (hx : Bd n x) (hy : Bd m y) : BQ (max n m + 1) (Rat.divInt x y) := ⟨bd_num (hx.mono (by omega)), bd_den (hy.mono (by omega)) (by omega)⟩
theorem Bd.rg {lo hi : Int} (h1 : lo ≤ x) (h2 : x ≤ hi) : Bd (max (lo.natAbs.log2 + 1) (hi.natAbs.log2 + 1)) x := by
  have a := (Bd.lit lo).mono (Nat.le_max_left _ (hi.natAbs.log2 + 1))
  have b := (Bd.lit hi).mono (Nat.le_max_right (lo.natAbs.log2 + 1) _)
  unfold Bd at *
  omega
end
end Rk

/-! Rk21: heads of goals; what is walked; comprehensions; places of dicts. -/
namespace Rk
open PySem PySem.Spec L2
section
variable {α : Type} {o : Out α} {Q : α → Hh → Prop} {E : XP} {N : En → Hh → Prop} {D : Ds} {s : So} {oo : Option (α × Hh)} {ρ : En} {h : Hh} {i n : Nat} {v : Vl} {vs : List Vl} {QV : Vl → Hh → Prop} {b : Bool} {A B : Prop}
theorem hd_Wp (w : Wp o Q E) : Wp o Q E := w
theorem hd_Ws (w : Ws s N D) : Ws s N D := w
theorem hd_Wo (w : Wo oo Q) : Wo oo Q := w
theorem hd_SetK (w : SetK i ρ v h N) : SetK i ρ v h N := w
theorem hd_TupK (w : TupK vs h QV) : TupK vs h QV := w
theorem hd_LstK (w : LstK vs h QV) : LstK vs h QV := w
theorem hd_BrK (w : BrK b A B) : BrK b A B := w
end
section
variable {h : Hh} {QV : Vl → Hh → Prop}
theorem ex_isT {T : Ty} {x : Da} {k : Bool} {P : Bool → Prop} (e : isTyD T x = some k) (q : P k) : ∃ k, isTy T (.d x) h = some k ∧ P k := ⟨k, e, q⟩
theorem ex_int {i : Int} {P : Int → Prop} (q : P i) : ∃ j : Int, (Vl.d (.int i) : Vl) = .d (.int j) ∧ P j := ⟨i, rfl, q⟩
theorem ex_par {v w : Vl} {P : Vl → Vl → Prop} (q : P v w) : ∃ v' w', [v, w] = [v', w'] ∧ P v' w' := ⟨v, w, rfl, q⟩
end
/-! ### what is walked -/
section
variable {QI : Itm → Hh → Prop} {E : XP} {ρ : En} {h : Hh} {f : Ev} {as : Av} {QV : Vl → Hh → Prop}
theorem wp_iv (w : Wp (f ρ h) (fun v h1 => Wp (itQ v h1) QI E) E) : Wp (iv itQ f ρ h) QI E := wp_bind w
theorem wp_itT {ds : List Da} (q : QI ⟨ds, none⟩ h) : Wp (itQ (.d (.tuple ds)) h) QI E := ⟨q⟩
theorem wp_itL {ds : List Da} (q : QI ⟨ds, none⟩ h) : Wp (itQ (.d (.list ds)) h) QI E := ⟨q⟩
theorem wp_rng1 (w : Wp (as ρ h) (fun vs h1 => ∃ j : Int, vs = [.d (.int j)] ∧ rgB j = true ∧ QI ⟨rngD 0 j.toNat, none⟩ h1) E) : Wp (iRange1 as ρ h) QI E :=
  wp_bind (w.mono (fun _ _ ⟨j, e, r, q⟩ => by rw [e]; show Wp (if rgB j = true then _ else _) _ _; rw [if_pos r]; exact ⟨q⟩) fun _ _ _ z => z)
theorem wp_enum (w : Wp (as ρ h) (fun vs h1 => ∃ ds, vs = [.d (.list ds)] ∧ QI ⟨ds.mapIdx fun i d => .tuple [.int (i : Nat), d], none⟩ h1) E) : Wp (iEnumL as ρ h) QI E :=
  wp_bind (w.mono (fun _ _ ⟨ds, e, q⟩ => by rw [e]; exact ⟨q⟩) fun _ _ _ z => z)
theorem ex_enum {ds : List Da} {P : List Da → Prop} (q : P ds) : ∃ es, [Vl.d (.list ds)] = [.d (.list es)] ∧ P es := ⟨ds, rfl, q⟩
theorem ex_rng {j : Int} {P : Int → Prop} (r : rgB j = true) (q : P j) : ∃ k : Int, [Vl.d (.int j)] = [.d (.int k)] ∧ rgB k = true ∧ P k := ⟨j, rfl, r, q⟩
end
theorem rgB_of {j : Int} (h1 : -1000000000000 ≤ j) (h2 : j ≤ 1000000000000) : rgB j = true := by
  unfold rgB
  rw [decide_eq_true h1, decide_eq_true h2]
  rfl
/-! ### comprehensions whose list is never changed -/
section
variable {Q : Vl → Hh → Prop} {E : XP} {ρ : En} {h : Hh} {i : Iv} {g : Gv} {tt : Tv} {fe : Ev} {ws : List Nat}
/-- every part told by a function, some left out by a test -/
theorem wp_lc {ρ0 : En} (e00 : wipeE ρ ws = ρ0) (w : Wp (i ρ h) (fun m h1 => ∃ (F : Da → Da) (P : Da → Bool), m.gd = none ∧ m.ds.length ≤ 16777216 ∧ h1.length = h.length ∧
      (∀ d ∈ m.ds, ∀ h', GvK (g (.d d) ρ0 h') fun ρ1 h2 => h2 = h' ∧ Wp (tt ρ1 h') (fun b h3 => h3 = h' ∧ b = P d) NX ∧ (P d = true → Wp (fe ρ1 h') (fun v h3 => h3 = h' ∧ v = .d (F d)) NX)) ∧
      Q (.d (.list ((m.ds.filter P).map F))) h1) (fun c fs h1 => E c fs (h1.take h.length))) : Wp (eFz (eLc ws i g tt fe) ρ h) Q E := by
  subst e00
  refine wp_fz (wp_bind (w.mono ?_ fun _ _ _ z => z))
  rintro ⟨ds, gd⟩ h1 ⟨F, P, e0, hl, hh, H, q⟩
  dsimp only at e0 hl H q
  subst e0
  have lf := lc_filter (gd := none) (g := g) (tt := tt) (fe := fe) (ρ0 := wipeE ρ ws) (h := h1) (F := F) (P := P) (fun _ => trivial) ds [] (fun d hd h' => by
    have k := H d hd h'
    unfold GvK Wo at k
    revert k
    cases e : g (.d d) (wipeE ρ ws) h' with
    | none => exact fun z => z.elim
    | some p =>
      obtain ⟨ρ1, h2⟩ := p
      rintro ⟨rfl, wt, wf⟩
      obtain ⟨b, h3, e1, rfl, rfl⟩ := wp_out wt
      refine ⟨ρ1, rfl, e1, fun hp => ?_⟩
      obtain ⟨v, h3, e2, rfl, rfl⟩ := wp_out (wf hp)
      exact e2) (by simpa using hl)
  rw [List.nil_append] at lf
  exact wp_eq lf (fzk_end hh q)
/-- every part told by a function -/
theorem wp_lcm (F : Da → Da) {ρ0 : En} (e00 : wipeE ρ ws = ρ0) (w : Wp (i ρ h) (fun m h1 => m.gd = none ∧ m.ds.length ≤ 16777216 ∧ h1.length = h.length ∧
      (∀ d ∈ m.ds, ∀ h', GvK (g (.d d) ρ0 h') fun ρ1 h2 => h2 = h' ∧ Wp (fe ρ1 h') (fun v h3 => h3 = h' ∧ v = .d (F d)) NX) ∧
      Q (.d (.list (m.ds.map F))) h1) (fun c fs h1 => E c fs (h1.take h.length))) : Wp (eFz (eLc ws i g tvYes fe) ρ h) Q E :=
  wp_lc e00 (w.mono (fun m h1 ⟨e0, hl, hh, H, q⟩ => ⟨F, fun _ => true, e0, hl, hh, fun d hd h' => by
    have k := H d hd h'
    unfold GvK Wo at *
    revert k
    cases g (.d d) ρ0 h' with
    | none => exact fun z => z
    | some p => exact fun ⟨a, b⟩ => ⟨a, ⟨⟨rfl, rfl⟩⟩, fun _ => b⟩, by
      have e : m.ds.filter (fun _ => true) = m.ds := List.filter_eq_self.mpr fun _ _ => rfl
      rw [e]; exact q⟩) fun _ _ _ z => z)
end
end Rk

/-! Rk22: lesser, greater; truths; texts of data. -/
namespace Rk
open PySem PySem.Spec L2
def mn (r s : Rat) : Rat := if s < r then s else r
def mx (r s : Rat) : Rat := if r < s then s else r
theorem BQ.mn {n m : Nat} {r s : Rat} (hr : BQ n r) (hs : BQ m s) : BQ (max n m) (mn r s) := by
  unfold Rk.mn
  split
  · exact hs.mono (Nat.le_max_right ..)
  · exact hr.mono (Nat.le_max_left ..)
theorem BQ.mx {n m : Nat} {r s : Rat} (hr : BQ n r) (hs : BQ m s) : BQ (max n m) (mx r s) := by
  unfold Rk.mx
  split
  · exact hs.mono (Nat.le_max_right ..)
  · exact hr.mono (Nat.le_max_left ..)
section
variable {Q : Vl → Hh → Prop} {h : Hh} {x y : Da} {b c : Bool}
theorem qb (q : Q (.d (.bool b)) h) (e : c = b) : Q (.d (.bool c)) h := by rw [e]; exact q
theorem qd (q : Q (.d x) h) (e : y = x) : Q (.d y) h := by rw [e]; exact q
end
theorem tup2 {a b c d : Da} (e1 : a = c) (e2 : b = d) : (.tuple [a, b] : Da) = .tuple [c, d] := by rw [e1, e2]
theorem qq {r s : Rat} (e : r = s) : Q r = Q s := by rw [e]
theorem Q_inj {r s : Rat} (e : Q r = Q s) : r = s := by
  unfold Q at e
  injection e with e
  injection e with e1 e2
  injection e2 with e2 _
  injection e1 with e1
  injection e2 with e2
  exact Rat.ext e1 (by omega)
/-! ### data that can be told as a text -/
structure Shw (k e : Nat) (d : Da) : Prop where
  s : d.showable = true
  n : d.hasDict = false
  p : d.depth ≤ e
  l : d.shown.length ≤ k
structure ShwL (k e : Nat) (ds : List Da) : Prop where
  s : PyData.showableAll ds = true
  n : PyData.hasDictAll ds = false
  d : PyData.depthAll ds ≤ e
  l : piled (PyData.shownAll ds) ≤ k
theorem Shw.none : Shw 4 0 .none := ⟨by simp [PyData.showable], by simp [PyData.hasDict], by simp [PyData.depth], by simp only [PyData.shown]; decide⟩
theorem Shw.bool (b : Bool) : Shw 5 0 (.bool b) := ⟨by simp [PyData.showable], by simp [PyData.hasDict], by simp [PyData.depth], by cases b <;> simp only [PyData.shown] <;> decide⟩
theorem Shw.int {i : Int} {n : Nat} (h : Bd n i) (hn : n ≤ 1920) : Shw 1921 0 (.int i) := by
  have l : i.natAbs.log2 < 1920 := by
    rcases Nat.eq_zero_or_pos i.natAbs with z | z
    · rw [z]; decide
    · exact (Nat.log2_lt (Nat.ne_of_gt z)).mpr (Nat.lt_of_lt_of_le h (Nat.pow_le_pow_right (by decide) hn))
  exact ⟨by simp only [PyData.showable]; exact decide_eq_true l, by simp [PyData.hasDict], by simp [PyData.depth], by simp only [PyData.shown]; rw [ofString_length]; exact int_text_length_le (k := 1920) (by decide) l⟩
theorem ShwL.nil : ShwL 0 0 [] := ⟨by simp [PyData.showableAll], by simp [PyData.hasDictAll], by simp [PyData.depthAll], by simp [PyData.shownAll, piled]⟩
theorem ShwL.cons {k e k' e' : Nat} {d : Da} {ds : List Da} (h : Shw k e d) (t : ShwL k' e' ds) : ShwL (k + 2 + k') (max e e') (d :: ds) := by
  refine ⟨?_, ?_, ?_, ?_⟩
  · simp only [PyData.showableAll, h.s, t.s, Bool.and_self]
  · simp only [PyData.hasDictAll, h.n, t.n, Bool.or_self]
  · simp only [PyData.depthAll]
    have := h.p
    have := t.d
    omega
  · simp only [PyData.shownAll, piled_cons]
    have := h.l
    have := t.l
    omega
theorem Shw.tup {k e : Nat} {ds : List Da} (t : ShwL k e ds) : Shw (k + 3) (e + 1) (.tuple ds) := by
  refine ⟨by simp only [PyData.showable]; exact t.s, by simp only [PyData.hasDict]; exact t.n, by simp only [PyData.depth]; have := t.d; omega, ?_⟩
  simp only [PyData.shown]
  have hl := t.l
  unfold tupleText
  have j : (Str.join ", " (PyData.shownAll ds)).length ≤ piled (PyData.shownAll ds) := by
    by_cases z : PyData.shownAll ds = []
    · rw [z]; decide
    · have := join_length_add _ z
      omega
  rw [Str.length_append, Str.length_append]
  have a : (Str.ofString "(").length = 1 := by decide
  have b : (Str.ofString (if (PyData.shownAll ds).length == 1 then ",)" else ")")).length ≤ 2 := by split <;> decide
  have a' : ("(" : Str).length = 1 := a
  omega
theorem Shw.lst {k e : Nat} {ds : List Da} (t : ShwL k e ds) : Shw (k + 3) (e + 1) (.list ds) := by
  refine ⟨by simp only [PyData.showable]; exact t.s, by simp only [PyData.hasDict]; exact t.n, by simp only [PyData.depth]; have := t.d; omega, ?_⟩
  simp only [PyData.shown]
  have hl := t.l
  unfold listText
  have j : (textFrom 0 "[" (PyData.shownAll ds)).length ≤ 1 + piled (PyData.shownAll ds) := by
    cases e : PyData.shownAll ds with
    | nil => decide
    | cons x xs =>
      have h1 := textFrom_length_pos xs 1 (("[" : Str) ++ ("" : Str) ++ x) (by decide)
      have h2 : textFrom 0 "[" (x :: xs) = textFrom 1 (("[" : Str) ++ ("" : Str) ++ x) xs := rfl
      rw [h2, h1, piled_cons, Str.length_append, Str.length_append]
      have a1 : ("[" : Str).length = 1 := by decide
      have a2 : ("" : Str).length = 0 := by decide
      omega
  rw [Str.length_append]
  have b : ("]" : Str).length = 1 := by decide
  omega
theorem Shw.Q {r : Rat} {n : Nat} (h : BQ n r) (hn : n ≤ 1920) : Shw 4000 1 (Q r) :=
  let t := Shw.tup (ShwL.cons (Shw.int h.1 hn) (ShwL.cons (Shw.int h.2 hn) ShwL.nil))
  ⟨t.s, t.n, t.p, Nat.le_trans t.l (by decide)⟩
theorem Shw.mono {k e k' e' : Nat} {d : Da} (h : Shw k e d) (a : k ≤ k') (b : e ≤ e') : Shw k' e' d := ⟨h.s, h.n, Nat.le_trans h.p b, Nat.le_trans h.l a⟩
theorem wo_repr {Q : Vl → Hh → Prop} {h : Hh} {d : Da} {k e : Nat} (s : Shw k e d) (h1 : k ≤ 16777216) (h2 : e ≤ 60) (q : Q (.d (.str d.shown)) h) : Wo (gRepr [.d d] h) Q :=
  wo_eq (v := .d (.str d.shown)) (h' := h) (by
    unfold gRepr asD
    dsimp only
    rw [if_pos]
    rw [s.s, s.n, decide_eq_true (Nat.le_trans s.p h2), fitB_ok (Nat.le_trans s.l h1)]
    rfl) q
section
variable {Q : Vl → Hh → Prop} {h : Hh} {r : Rat}
theorem tq_neg (q : Q (.d (Rk.Q (-r))) h) : TupK [.d (.int (0 - r.num)), .d (.int r.den)] h Q := tupk2 (by rw [Q_neg] at q; exact q)
theorem tq_abs (q : Q (.d (Rk.Q r.abs)) h) : TupK [.d (.int (r.num.natAbs : Int)), .d (.int r.den)] h Q := tupk2 (by rw [Q_abs] at q; exact q)
theorem tq_self (q : Q (.d (Rk.Q r)) h) : TupK [.d (.int r.num), .d (.int r.den)] h Q := tupk2 q
theorem tq_lit {a b : Int} (r : Rat) (e1 : r.num = a) (e2 : (r.den : Int) = b) (q : Q (.d (Rk.Q r)) h) : TupK [.d (.int a), .d (.int b)] h Q := tupk2 (by unfold Rk.Q at q; rw [e1, e2] at q; exact q)
end
theorem Q_lit {a b : Int} (r : Rat) (e1 : r.num = a) (e2 : (r.den : Int) = b) : (.tuple [.int a, .int b] : Da) = Q r := by unfold Q; rw [e1, e2]
theorem BQ.lit (k : Nat) : BQ (k.log2 + 2) (OfNat.ofNat k : Rat) := by
  have : (OfNat.ofNat k : Rat) = ((k : Int) : Rat) := rfl
  rw [this]
  exact BQ_int (Bd.mono (bd_nat Nat.lt_log2_self) (Nat.le_succ _)) (Nat.succ_pos _)
section
variable {Q : Vl → Hh → Prop} {h : Hh} {d0 d1 d2 d3 d4 d5 d6 d7 d8 d9 d10 d11 d12 d13 d14 d15 : Da}
theorem wo_lenT0 (q : Q (.d (.int 0)) h) : Wo (gLen [.d (.tuple [])] h) Q := q
theorem wo_lenL0 (q : Q (.d (.int 0)) h) : Wo (gLen [.d (.list [])] h) Q := q
theorem wo_lenT1 (q : Q (.d (.int 1)) h) : Wo (gLen [.d (.tuple [d0])] h) Q := q
theorem wo_lenL1 (q : Q (.d (.int 1)) h) : Wo (gLen [.d (.list [d0])] h) Q := q
theorem wo_lenT2 (q : Q (.d (.int 2)) h) : Wo (gLen [.d (.tuple [d0, d1])] h) Q := q
theorem wo_lenL2 (q : Q (.d (.int 2)) h) : Wo (gLen [.d (.list [d0, d1])] h) Q := q
theorem wo_lenT3 (q : Q (.d (.int 3)) h) : Wo (gLen [.d (.tuple [d0, d1, d2])] h) Q := q
theorem wo_lenL3 (q : Q (.d (.int 3)) h) : Wo (gLen [.d (.list [d0, d1, d2])] h) Q := q
theorem wo_lenT4 (q : Q (.d (.int 4)) h) : Wo (gLen [.d (.tuple [d0, d1, d2, d3])] h) Q := q
theorem wo_lenL4 (q : Q (.d (.int 4)) h) : Wo (gLen [.d (.list [d0, d1, d2, d3])] h) Q := q
theorem wo_lenT5 (q : Q (.d (.int 5)) h) : Wo (gLen [.d (.tuple [d0, d1, d2, d3, d4])] h) Q := q
theorem wo_lenL5 (q : Q (.d (.int 5)) h) : Wo (gLen [.d (.list [d0, d1, d2, d3, d4])] h) Q := q
theorem wo_lenT6 (q : Q (.d (.int 6)) h) : Wo (gLen [.d (.tuple [d0, d1, d2, d3, d4, d5])] h) Q := q
theorem wo_lenL6 (q : Q (.d (.int 6)) h) : Wo (gLen [.d (.list [d0, d1, d2, d3, d4, d5])] h) Q := q
theorem wo_lenT7 (q : Q (.d (.int 7)) h) : Wo (gLen [.d (.tuple [d0, d1, d2, d3, d4, d5, d6])] h) Q := q
theorem wo_lenL7 (q : Q (.d (.int 7)) h) : Wo (gLen [.d (.list [d0, d1, d2, d3, d4, d5, d6])] h) Q := q
theorem wo_lenT8 (q : Q (.d (.int 8)) h) : Wo (gLen [.d (.tuple [d0, d1, d2, d3, d4, d5, d6, d7])] h) Q := q
theorem wo_lenL8 (q : Q (.d (.int 8)) h) : Wo (gLen [.d (.list [d0, d1, d2, d3, d4, d5, d6, d7])] h) Q := q
theorem wo_lenT9 (q : Q (.d (.int 9)) h) : Wo (gLen [.d (.tuple [d0, d1, d2, d3, d4, d5, d6, d7, d8])] h) Q := q
theorem wo_lenL9 (q : Q (.d (.int 9)) h) : Wo (gLen [.d (.list [d0, d1, d2, d3, d4, d5, d6, d7, d8])] h) Q := q
theorem wo_lenT10 (q : Q (.d (.int 10)) h) : Wo (gLen [.d (.tuple [d0, d1, d2, d3, d4, d5, d6, d7, d8, d9])] h) Q := q
theorem wo_lenL10 (q : Q (.d (.int 10)) h) : Wo (gLen [.d (.list [d0, d1, d2, d3, d4, d5, d6, d7, d8, d9])] h) Q := q
theorem wo_lenT11 (q : Q (.d (.int 11)) h) : Wo (gLen [.d (.tuple [d0, d1, d2, d3, d4, d5, d6, d7, d8, d9, d10])] h) Q := q
theorem wo_lenL11 (q : Q (.d (.int 11)) h) : Wo (gLen [.d (.list [d0, d1, d2, d3, d4, d5, d6, d7, d8, d9, d10])] h) Q := q
theorem wo_lenT12 (q : Q (.d (.int 12)) h) : Wo (gLen [.d (.tuple [d0, d1, d2, d3, d4, d5, d6, d7, d8, d9, d10, d11])] h) Q := q
theorem wo_lenL12 (q : Q (.d (.int 12)) h) : Wo (gLen [.d (.list [d0, d1, d2, d3, d4, d5, d6, d7, d8, d9, d10, d11])] h) Q := q
theorem wo_lenT13 (q : Q (.d (.int 13)) h) : Wo (gLen [.d (.tuple [d0, d1, d2, d3, d4, d5, d6, d7, d8, d9, d10, d11, d12])] h) Q := q
theorem wo_lenL13 (q : Q (.d (.int 13)) h) : Wo (gLen [.d (.list [d0, d1, d2, d3, d4, d5, d6, d7, d8, d9, d10, d11, d12])] h) Q := q
theorem wo_lenT14 (q : Q (.d (.int 14)) h) : Wo (gLen [.d (.tuple [d0, d1, d2, d3, d4, d5, d6, d7, d8, d9, d10, d11, d12, d13])] h) Q := q
theorem wo_lenL14 (q : Q (.d (.int 14)) h) : Wo (gLen [.d (.list [d0, d1, d2, d3, d4, d5, d6, d7, d8, d9, d10, d11, d12, d13])] h) Q := q
theorem wo_lenT15 (q : Q (.d (.int 15)) h) : Wo (gLen [.d (.tuple [d0, d1, d2, d3, d4, d5, d6, d7, d8, d9, d10, d11, d12, d13, d14])] h) Q := q
theorem wo_lenL15 (q : Q (.d (.int 15)) h) : Wo (gLen [.d (.list [d0, d1, d2, d3, d4, d5, d6, d7, d8, d9, d10, d11, d12, d13, d14])] h) Q := q
end
end Rk

/-! Rk23: a list that is no more changed from here on. -/
namespace Rk
open PySem PySem.Spec L2
def sFrz (i : Nat) : Sv := fun ρ h => match ρ[i]? with
  | some (some v) => match fz v h with
    | some p => .nx (ρ.set i (some (.d p.1))) p.2
    | none => .no
  | _ => .no
section
variable {X : Cx} {W : WX} {ss : List Stmt} {f : Sv}
theorem ess_frz (i : Nat) (p : ESs X W ss f) : ESs X W ss (sSeq (sFrz i) f) :=
  PSs.of p fun D σ H ⟨φ, h, ρ, sm, er, q⟩ => by
    unfold sSeq sFrz at q
    split at q
    · rename_i v ev
      split at q
      · rename_i p e
        obtain ⟨d, h2⟩ := p
        obtain ⟨x, e1, rv⟩ := er.at_ i v ev
        obtain ⟨s1, s2, s3⟩ := fz_ok sm rv e
        have hi : i < ρ.length := (List.getElem?_eq_some_iff.mp ev).1
        refine ⟨φ, h2, ρ.set i (some (.d d)), s2, ?_, PoS.pull s1 q⟩
        have er2 := er.step s1
        refine ⟨by rw [er2.len, List.length_set], fun j w e2 => ?_⟩
        by_cases hj : i = j
        · subst hj
          rw [List.getElem?_set_self hi] at e2
          have e3 := Option.some.inj (Option.some.inj e2)
          subst e3
          exact ⟨x, e1, s3⟩
        · rw [List.getElem?_set_ne hj] at e2
          exact er2.at_ j w e2
      · exact q.elim
    · exact q.elim
end
section
variable {N : En → Hh → Prop} {D : Ds} {ρ : En} {h l : Hh} {i k : Nat} {ds : List Da}
theorem ws_frz {v : Vl} {d : Da} {h2 : Hh} (ev : ρ[i]? = some (some v)) (e : fz v h = some (d, h2)) (q : SetK i ρ (.d d) h2 N) : Ws (sFrz i ρ h) N D := by
  unfold sFrz
  rw [ev]
  dsimp only
  rw [e]
  exact ⟨q⟩
/-- the list at the end -/
theorem ws_frzE (hk : h.length = k) (ev : ρ[i]? = some (some (.r k))) (q : SetK i ρ (.d (.list ds)) (h ++ none :: l) N) : Ws (sFrz i ρ (h ++ some (.lst ds) :: l)) N D := by
  subst hk
  exact ws_frz (d := .list ds) ev (by unfold fz; dsimp only; rw [get_at, set_at]) q
end
theorem mn_self (r : Rat) : mn r r = r := by unfold mn; split <;> rfl
theorem mx_self (r : Rat) : mx r r = r := by unfold mx; split <;> rfl
/-! ### comprehensions over typed parts -/
section
variable {gd : Option (Nat × List Da)} {g : Gv} {tt : Tv} {fe : Ev} {ρ0 : En} {h : Hh} {α : Type} {f g' : α → Da} {P : α → Bool}
theorem lc_mapR (hgd : ∀ o, gdOk gd (h ++ [o])) : ∀ (xs : List α) (acc : List Da), (∀ x ∈ xs, ∀ h', ∃ ρ1, g (.d (f x)) ρ0 h' = some (ρ1, h') ∧ tt ρ1 h' = .ok (P x) h' ∧ (P x = true → fe ρ1 h' = .ok (.d (g' x)) h')) → acc.length + xs.length ≤ 16777216 →
    lcL gd h.length g tt fe ρ0 (xs.map f) (h ++ [some (.lst acc)]) = .ok (.r h.length) (h ++ [some (.lst (acc ++ (xs.filter P).map g'))])
  | [], acc, _, _ => by
    rw [List.map_nil, lcL_nil (hgd _)]
    simp
  | d :: ds, acc, H, hl => by
    obtain ⟨ρ1, e1, e2, e3⟩ := H d (List.mem_cons_self ..) (h ++ [some (.lst acc)])
    rw [List.length_cons] at hl
    rw [List.map_cons]
    by_cases p : P d = true
    · rw [p] at e2
      rw [lcL_cons (hgd _) e1 e2 (e3 p) (appL_end rfl (by omega)), lc_mapR hgd ds (acc ++ [g' d]) (fun d hd => H d (List.mem_cons_of_mem _ hd)) (by rw [List.length_append, List.length_singleton]; omega), List.filter_cons_of_pos p]
      simp
    · have p' : P d = false := by simpa using p
      rw [p'] at e2
      rw [lcL_skip (hgd _) e1 e2, lc_mapR hgd ds acc (fun d hd => H d (List.mem_cons_of_mem _ hd)) (by omega), List.filter_cons_of_neg p]
end
section
variable {Q : Vl → Hh → Prop} {E : XP} {ρ : En} {h : Hh} {i : Iv} {g : Gv} {tt : Tv} {fe : Ev} {ws : List Nat}
/-- every part told by a function, some left out by a test -/
theorem wp_lcT {α : Type} (xs : List α) (f g' : α → Da) (P : α → Bool) {ρ0 : En} (e00 : wipeE ρ ws = ρ0) (w : Wp (i ρ h) (fun m h1 => m = ⟨xs.map f, none⟩ ∧ xs.length ≤ 16777216 ∧ h1.length = h.length ∧
      (∀ x ∈ xs, ∀ h', GvK (g (.d (f x)) ρ0 h') fun ρ1 h2 => h2 = h' ∧ Wp (tt ρ1 h') (fun b h3 => h3 = h' ∧ b = P x) NX ∧ (P x = true → Wp (fe ρ1 h') (fun v h3 => h3 = h' ∧ v = .d (g' x)) NX)) ∧
      Q (.d (.list ((xs.filter P).map g'))) h1) (fun c fs h1 => E c fs (h1.take h.length))) : Wp (eFz (eLc ws i g tt fe) ρ h) Q E := by
  subst e00
  refine wp_fz (wp_bind (w.mono ?_ fun _ _ _ z => z))
  rintro m h1 ⟨rfl, hl, hh, H, q⟩
  have lf := lc_mapR (gd := none) (g := g) (tt := tt) (fe := fe) (ρ0 := wipeE ρ ws) (h := h1) (f := f) (g' := g') (P := P) (fun _ => trivial) xs [] (fun d hd h' => by
    have k := H d hd h'
    unfold GvK Wo at k
    revert k
    cases e : g (.d (f d)) (wipeE ρ ws) h' with
    | none => exact fun z => z.elim
    | some p =>
      obtain ⟨ρ1, h2⟩ := p
      rintro ⟨rfl, wt, wf⟩
      obtain ⟨b, h3, e1, rfl, rfl⟩ := wp_out wt
      refine ⟨ρ1, rfl, e1, fun hp => ?_⟩
      obtain ⟨v, h3, e2, rfl, rfl⟩ := wp_out (wf hp)
      exact e2) (by simpa using hl)
  rw [List.nil_append] at lf
  exact wp_eq lf (fzk_end hh q)
/-- every part told by a function -/
theorem wp_lcR {α : Type} (xs : List α) (f g' : α → Da) {ρ0 : En} (e00 : wipeE ρ ws = ρ0) (w : Wp (i ρ h) (fun m h1 => m = ⟨xs.map f, none⟩ ∧ xs.length ≤ 16777216 ∧ h1.length = h.length ∧
      (∀ x ∈ xs, ∀ h', GvK (g (.d (f x)) ρ0 h') fun ρ1 h2 => h2 = h' ∧ Wp (fe ρ1 h') (fun v h3 => h3 = h' ∧ v = .d (g' x)) NX) ∧
      Q (.d (.list (xs.map g'))) h1) (fun c fs h1 => E c fs (h1.take h.length))) : Wp (eFz (eLc ws i g tvYes fe) ρ h) Q E :=
  wp_lcT xs f g' (fun _ => true) e00 (w.mono (fun m h1 ⟨e0, hl, hh, H, q⟩ => ⟨e0, hl, hh, fun d hd h' => by
    have k := H d hd h'
    unfold GvK Wo at *
    revert k
    cases g (.d (f d)) ρ0 h' with
    | none => exact fun z => z
    | some p => exact fun ⟨a, b⟩ => ⟨a, ⟨⟨rfl, rfl⟩⟩, fun _ => b⟩, by
      have e : xs.filter (fun _ => true) = xs := List.filter_eq_self.mpr fun _ _ => rfl
      rw [e]; exact q⟩) fun _ _ _ z => z)
end
/-! ### small ranges; menus -/
section
variable {ρ : En} {h : Hh} {N : En → Hh → Prop} {D : Ds} {g : Gv} {s : Sv}
theorem forK_r2 (w : ForK ⟨[.int 0, .int 1], none⟩ g s ρ h N D) : ForK ⟨rngD 0 (Int.toNat 2), none⟩ g s ρ h N D := w
theorem forK_r3 (w : ForK ⟨[.int 0, .int 1, .int 2], none⟩ g s ρ h N D) : ForK ⟨rngD 0 (Int.toNat 3), none⟩ g s ρ h N D := w
theorem forK_r4 (w : ForK ⟨[.int 0, .int 1, .int 2, .int 3], none⟩ g s ρ h N D) : ForK ⟨rngD 0 (Int.toNat 4), none⟩ g s ρ h N D := w
theorem ai_nil {lo hi : Int} : ∀ d ∈ ([] : List Da), IntIn lo hi d := fun _ h => nomatch h
theorem ai_cons {lo hi i : Int} {ds : List Da} (h1 : lo ≤ i) (h2 : i ≤ hi) (t : ∀ d ∈ ds, IntIn lo hi d) : ∀ d ∈ (.int i : Da) :: ds, IntIn lo hi d := fun d hd => by
  rcases List.mem_cons.mp hd with rfl | z
  · exact ⟨i, rfl, h1, h2⟩
  · exact t d z
theorem rng_get {lo : Int} {n k : Nat} {d : Da} (e : (rngD lo n)[k]? = some d) : d = .int (lo + (k : Int)) ∧ k < n := by
  unfold rngD at e
  rw [List.getElem?_map] at e
  cases z : (List.range n)[k]? with
  | none => rw [z] at e; cases e
  | some j =>
    rw [z] at e
    have hk := (List.getElem?_eq_some_iff.mp z).1
    rw [List.length_range] at hk
    rw [List.getElem?_range hk] at z
    cases z
    exact ⟨(Option.some.inj e).symm, hk⟩
end
/-- ways that meet -/
theorem ws_use {s : So} {N N' : En → Hh → Prop} {D : Ds} (w : Ws s N' D) (k : ∀ ρ h, N' ρ h → N ρ h) : Ws s N D := by
  cases s with
  | nx ρ h => exact ⟨k ρ h w.w⟩
  | no => exact w.w.elim
  | _ => exact ⟨w.w⟩
theorem num_nonpos {r : Rat} : r.num ≤ 0 ↔ r ≤ 0 := by
  have h1 := num_neg (-r)
  rw [Rat.neg_num] at h1
  have h2 : (-r < 0) ↔ ¬ r ≤ 0 := by grind
  rw [h2] at h1
  constructor
  · intro h
    by_cases z : r ≤ 0
    · exact z
    · have := h1.mpr z; omega
  · intro h
    rcases Int.lt_or_le 0 r.num with z | z
    · exact absurd h (h1.mp (by omega))
    · exact z
/-! ### a list at the end of the heap -/
section
variable {h l : Hh} {Q : Vl → Hh → Prop} {k : Nat} {ds : List Da} {v a0 a1 a2 : Da} {r : List Da}
theorem wo_ixE {j : Nat} (hk : k = h.length) (e : ds[j]? = some v) (q : Q (.d v) (h ++ some (.lst ds) :: l)) : Wo (gIx (.r k) (.d (.int (j : Int))) (h ++ some (.lst ds) :: l)) Q := by
  subst hk
  exact wo_eq (gIxL (k := j) get_at e) q
theorem wo_ixE0 (hk : h.length = k) (q : Q (.d a0) (h ++ some (.lst (a0 :: r)) :: l)) : Wo (gIx (.r k) (.d (.int 0)) (h ++ some (.lst (a0 :: r)) :: l)) Q := wo_ixE (j := 0) hk.symm rfl q
theorem wo_ixE1 (hk : h.length = k) (q : Q (.d a1) (h ++ some (.lst (a0 :: a1 :: r)) :: l)) : Wo (gIx (.r k) (.d (.int 1)) (h ++ some (.lst (a0 :: a1 :: r)) :: l)) Q := wo_ixE (j := 1) hk.symm rfl q
theorem ex_setLE {j : Nat} {N : Hh → Prop} (hk : k = h.length) (hj : j < ds.length) (q : N (h ++ some (.lst (ds.set j v)) :: l)) : ∃ h3, setL (.r k) (.d (.int (j : Int))) (.d v) (h ++ some (.lst ds) :: l) = some h3 ∧ N h3 := by
  subst hk
  refine ⟨h ++ some (.lst (ds.set j v)) :: l, ?_, q⟩
  have e : ixN ds.length (j : Int) = some j := ixN_nat hj
  unfold setL fz
  dsimp only
  rw [get_at]
  simp only [e, set_at, Option.map_some]
theorem ex_setL0 {N : Hh → Prop} (hk : h.length = k) (q : N (h ++ some (.lst (v :: r)) :: l)) : ∃ h3, setL (.r k) (.d (.int 0)) (.d v) (h ++ some (.lst (a0 :: r)) :: l) = some h3 ∧ N h3 := ex_setLE (j := 0) hk.symm (by simp) q
theorem ex_setL1 {N : Hh → Prop} (hk : h.length = k) (q : N (h ++ some (.lst (a0 :: v :: r)) :: l)) : ∃ h3, setL (.r k) (.d (.int 1)) (.d v) (h ++ some (.lst (a0 :: a1 :: r)) :: l) = some h3 ∧ N h3 := ex_setLE (j := 1) hk.symm (by simp) q
end
/-! ### pairs of fractions, equal or not -/
theorem sh_QQ (a b : Rat) : sh (.tuple [Q a, Q b]) = true := by
  simp [Q, sh, SeqAt.shaped, PyData.hasDict, PyData.hasDictAll, PyData.canLay0, PyData.canLayAll0, PyData.depth, PyData.depthAll]
theorem eqv_QQ (a b c d : Rat) : PyData.eqv (.tuple [Q a, Q b]) (.tuple [Q c, Q d]) = decide (a = c ∧ b = d) := by
  have h1 := eqv_Q a c
  have h2 := eqv_Q b d
  simp only [PyData.eqv, PyData.eqvAll, h1, h2]
  by_cases z1 : a = c <;> by_cases z2 : b = d <;> simp [z1, z2]
section
variable {Q : Vl → Hh → Prop} {h : Hh} {a b c d : Rat}
theorem wo_eqQQ (q : Q (.d (.bool (decide (a = c ∧ b = d)))) h) : Wo (gEq (.d (.tuple [Rk.Q a, Rk.Q b])) (.d (.tuple [Rk.Q c, Rk.Q d])) h) Q := wo_eq (v := .d (.bool (decide (a = c ∧ b = d)))) (h' := h) (by
  show (eqvB (.tuple [Rk.Q a, Rk.Q b]) (.tuple [Rk.Q c, Rk.Q d])).map (fun z => (Vl.d (.bool z), h)) = _
  simp [eqvB, sh_QQ, eqv_QQ]) q
theorem wo_neQQ (q : Q (.d (.bool (!decide (a = c ∧ b = d)))) h) : Wo (gNe (.d (.tuple [Rk.Q a, Rk.Q b])) (.d (.tuple [Rk.Q c, Rk.Q d])) h) Q := wo_eq (v := .d (.bool (!decide (a = c ∧ b = d)))) (h' := h) (by
  show (eqvB (.tuple [Rk.Q a, Rk.Q b]) (.tuple [Rk.Q c, Rk.Q d])).map (fun z => (Vl.d (.bool (!z)), h)) = _
  simp [eqvB, sh_QQ, eqv_QQ]) q
end
theorem eq_of_wp {o : Out Vl} {v : Vl} {h : Hh} (w : Wp o (fun a h1 => a = v ∧ h1 = h) NX) : o = .ok v h := by
  obtain ⟨a, h1, e, rfl, rfl⟩ := wp_out w
  exact e
end Rk

/-! Rk24: t[::-1]. -/
namespace Rk
open PySem PySem.Spec L2 PyProof.Rows
section
variable {prog : Program} {w : World} {A : Around} {E : Value → Shared → Prop} {s : Shared}
theorem sliceApplied_rev {sl : Addr} {vl vu vs : Value} {n : Nat} {Q : Int × Int × Nat → Shared → Prop} (hs : s.heap.IsSliceOf sl vl vu vs) (pl : IsPart vl none) (pu : IsPart vu none) (ps : IsPart vs (some (-1)))
    (h : Q ((n : Int) - 1, -1, n) s) : wpAny (model prog w) A (Builtin.Slice.sliceApplied (.ref sl) (pure (n : Int))) Q E s := by
  obtain ⟨os, hos, hcs, hds⟩ := id hs
  unfold Builtin.Slice.sliceApplied Builtin.Slice.sliceFields
  refine wpAny_bind (wpAny_bind (wpAny_field hos hds (x := vl) rfl (wpAny_bind (wpAny_field hos hds (x := vu) rfl (wpAny_bind (wpAny_field hos hds (x := vs) rfl (wpAny_pure ?_)))))))
  refine wpAny_bind (HT.slicePart_ ps ?_)
  show wpAny _ _ (if ((-1 : Int) == 0) = true then _ else _) _ _ s
  rw [if_neg (by decide)]
  refine wpAny_bind (HT.slicePart_ pl (wpAny_bind (HT.slicePart_ pu (wpAny_bind (wpAny_pure ?_)))))
  show wpAny _ _ (pure ((n : Int) - 1, (-1 : Int), Builtin.Slice.slicePlaces ((n : Int) - 1) (-1) (-1))) _ _ s
  have e : Builtin.Slice.slicePlaces ((n : Int) - 1) (-1) (-1) = n := by
    unfold Builtin.Slice.slicePlaces
    rw [if_neg (by decide), show -(-1 : Int) = 1 from rfl, Int.ediv_one]
    split <;> omega
  rw [e]
  exact wpAny_pure h
theorem pick_rev (xs : Array Value) : ((List.range xs.size).filterMap fun (m : Nat) => xs[(((xs.size : Nat) : Int) - 1 + (m : Int) * (-1)).toNat]?).toArray = xs.toList.reverse.toArray := by
  congr 1
  apply List.ext_getElem?
  intro i
  have all : ∀ k, k ≤ xs.size → ((List.range k).filterMap fun (m : Nat) => xs[(((xs.size : Nat) : Int) - 1 + (m : Int) * (-1)).toNat]?) = (List.range k).map fun m => xs.getD (xs.size - 1 - m) .none := by
    intro k
    induction k with
    | zero => intro _; rfl
    | succ k ih =>
      intro hk
      rw [List.range_succ, List.filterMap_append, List.map_append, ih (by omega)]
      congr 1
      have e : (((xs.size : Nat) : Int) - 1 + (k : Int) * (-1)).toNat = xs.size - 1 - k := by omega
      have hlt : xs.size - 1 - k < xs.size := by omega
      simp only [List.filterMap_cons, List.filterMap_nil, List.map_cons, List.map_nil, e, Array.getElem?_eq_getElem hlt, Array.getD, dif_pos hlt]
      rfl
  rw [all xs.size (Nat.le_refl _)]
  by_cases hi : i < xs.size
  · rw [List.getElem?_map, List.getElem?_range hi, List.getElem?_reverse (by simpa using hi)]
    have h2 : xs.size - 1 - i < xs.size := by omega
    simp [Array.getD, h2]
  · rw [List.getElem?_eq_none (by simp; omega), List.getElem?_eq_none (by simp; omega)]
theorem getItem_tuple_rev {t sl : Addr} {items : Array Value} {vl vu vs : Value} {Q : Value → Shared → Prop} (ht : IsTup s.heap t items) (hs : s.heap.IsSliceOf sl vl vu vs) (pl : IsPart vl none) (pu : IsPart vu none) (ps : IsPart vs (some (-1)))
    (h : Q (.ref s.heap.objs.size) { s with heap := s.heap.push { cls := .type "tuple", data := .seq items.toList.reverse.toArray } })
    (hsz : items.size ≤ sizeLine) : wpAny (model prog w) A (getItem (.ref t) (.ref sl)) Q E s := by
  have htake : sizeOk (.seq items.toList.reverse.toArray) := by
    show items.toList.reverse.toArray.size ≤ sizeLine
    simpa using hsz
  obtain ⟨os, hos, hcs, hds⟩ := id hs
  have hTs : s.TypeIs (.ref sl) "slice" := ⟨os, hos, hcs⟩
  unfold getItem
  try with_reducible refine wpAny_holding ?_
  first | refine wpAny_bind (wpAny_pure ?_) | skip
  refine wpAny_bind (wpAny_sequenceKey ht.typeIs (by decide) ?_)
  refine wpAny_bind (wpAny_callSpecial?_slot (name := Str.ofString "__getitem__") ht.typeIs PyProof.Rows.slot_tuple_getitem
    (wpAny_call_entry PyProof.Rows.slot_tuple_getitem ht.typeIs entry_tuple_getitem ?_ (args_tuple_getitem _ _)))
  show wpAny _ _ (Builtin.Tuple.tupleItemsOf (.ref t) >>= _) _ _ s
  refine wpAny_bind (tupleItemsOf_ ht ?_)
  refine wpAny_bind (wpAny_typeOf hTs ?_)
  rw [if_pos (by decide)]
  refine wpAny_bind (sliceApplied_rev hs pl pu ps ?_)
  have hno : ¬ ((((items.size : Nat) : Int) - 1 == 0 && (-1 : Int) == 1 && items.size == items.size) = true) := by
    intro q
    rw [Bool.and_eq_true, Bool.and_eq_true] at q
    exact absurd (eq_of_beq q.1.2) (by decide)
  show wpAny _ _ (if (((items.size : Nat) : Int) - 1 == 0 && (-1 : Int) == 1 && items.size == items.size) = true then _ else _) _ _ s
  rw [if_neg hno, pick_rev]
  first
    | exact wpAny_bind (m := Builtin.Tuple.tupleExact _) (wpAny_newObj_type (wpAny_pure ⟨_, rfl, wpAny_pure h⟩) htake)
    | exact wpAny_bind (m := Builtin.Tuple.tupleExact _) (wpAny_newObj_type (wpAny_bind (wpAny_pure (wpAny_pure ⟨_, rfl, wpAny_pure h⟩))) htake)
    | exact wpAny_bind (wpAny_bind (m := Builtin.Tuple.tupleExact _) (wpAny_newObj_type (wpAny_pure (wpAny_pure ⟨_, rfl, wpAny_pure h⟩)) htake))
    | exact wpAny_bind (wpAny_bind (m := Builtin.Tuple.tupleExact _) (wpAny_newObj_type (wpAny_pure ⟨_, rfl, wpAny_pure h⟩) htake))
end
theorem vals_rev {xs : List V} {us : List Value} (r : Vals xs us) : Vals xs.reverse us.reverse := by
  have app : ∀ {a b : List V} {c d : List Value}, Vals a c → Vals b d → Vals (a ++ b) (c ++ d) := by
    intro a b c d h1 h2
    induction h1 with
    | nil => exact h2
    | cons r t ih => exact .cons r ih
  induction r with
  | nil => exact .nil
  | cons r t ih =>
    rw [List.reverse_cons, List.reverse_cons]
    exact app ih (.cons r .nil)
theorem reps_rev {K : PySem.W.Frag} {H : Hp} {M : Addr → Prop} : ∀ {xs : List V} {ds : List Da}, Reps K H M xs ds → Reps K H M xs.reverse ds.reverse
  | _, _, .nil => .nil
  | _, _, .cons r t => by
    rw [List.reverse_cons, List.reverse_cons]
    exact (reps_rev t).append (.cons r .nil)
def tRev (K : PySem.W.Frag) (te : TE) (tl th ts : TO) : TE := fun σ H Q => te σ H fun x H1 => tl σ H1 fun lo H2 => th σ H2 fun hi H3 => ts σ H3 fun st H4 => ∃ a xs, x = .ref a ∧ SqT K H4 a xs ∧ lo = none ∧ hi = none ∧ st = some (-1) ∧ ∀ p, H4 p = none → Q (.ref p) (upd H4 p (.tup xs.reverse))
section
variable {X : Cx}
theorem pe_rev {e : Expr} {lo hi : Option Expr} {st : Expr} {te : TE} {tl th ts : TO} {p3 pos : Pos} (he : PE X e te) (hl : PO X lo tl) (hh : PO X hi th) (hs : PO X (some st) ts) : PE X (.Subscript e (.Slice lo hi (some st) p3) pos) (tRev X.K te tl th ts) := by
  constructor
  intro pins s σ H Q I h
  refine Subscript_ (thn (he.run pins s σ H _ I h) ?_)
  rintro v s1 ⟨x, H1, I1, r1, q1⟩
  refine wpAny_Slice (thn (hl.run pins s1 σ H1 _ I1 q1) ?_)
  rintro vl s2 ⟨l, H2, I2, pl, q2⟩
  refine thn (hh.run pins s2 σ H2 _ I2 q2) ?_
  rintro vu s3 ⟨u, H3, I3, pu, q3⟩
  refine thn (hs.run pins s3 σ H3 _ I3 q3) ?_
  rintro vs s4 ⟨o, H4, I4, ps, a, xs, ex, hx, rfl, rfl, rfl, q⟩
  subst ex
  cases r1
  have I5 : Inv X pins σ H4 { s4 with heap := s4.heap.push { cls := .type "slice", data := .fields #[vl, vu, vs] } } := I4.kept (t' := s4.toks) fun b ob z => Heap.get?_push_of_some _ z
  obtain ⟨its, r, ht, hz⟩ := I5.tuple hx
  have hlen := r.length
  refine tail_any (ops := [.ref a, .ref s4.heap.objs.size]) ht.typeIs PyProof.Rows.slot_tuple_getitem.lookup ?_ (by with_unfolding_all rfl)
  refine getItem_tuple_rev ht (Heap.IsSliceOf.new _ vl vu vs) pl pu ps ?_ (by rw [List.size_toArray, ← hlen]; exact hz)
  refine ⟨.ref _, _, I5.laid (t' := s4.toks) (o := .tup xs.reverse) (fun b ob z => Heap.get?_push_of_some _ z) (Nat.le_refl _) ?_, rfl, q _ (I5.hok.fresh (Nat.le_refl _))⟩
  exact ⟨by rw [List.length_reverse]; exact hz, _, vals_rev r, IsTup.new _ _⟩
theorem PE.orr {e : Expr} {t u : TE} (h : PE X e t) (k : PE X e u) : PE X e (fun σ H Q => t σ H Q ∨ u σ H Q) := ⟨fun pins s σ H Q I w => w.elim (h.run pins s σ H Q I) (k.run pins s σ H Q I)⟩
end
def gRv (x : Vl) (h : Hh) : Option (Vl × Hh) := match x with
  | .d (.tuple xs) => some (.d (.tuple xs.reverse), h)
  | x => gSt x none none (some (-1)) h
def eRv (f : Ev) : Ev := fun ρ h => (f ρ h).bind fun x h1 => ofO (gRv x h1)
section
variable {X : Cx} {W : WX} {a st : Expr} {fa : Ev} {pos p2 : Pos} {fs : Ov}
theorem ee_rv (ha : EE X W a fa) (hs : EO X W (some st) fs) (hf : ∀ ρ h, fs ρ h = .ok (some (-1)) h) : EE X W (.Subscript a (.Slice none none (some st) p2) pos) (eRv fa) :=
  PE.of (PE.orr (ee_step ha eo_none eo_none hs) (pe_rev ha (eo_none (X := X) (W := W)) (eo_none (X := X) (W := W)) hs)) fun σ H Q ⟨φ, h, ρ, sm, er, q⟩ => by
    unfold eRv at q
    by_cases c : ∃ xs h1, fa ρ h = .ok (.d (.tuple xs)) h1
    · right
      obtain ⟨xs, h1, e⟩ := c
      rw [e] at q
      refine ⟨φ, h, ρ, sm, er, ?_⟩
      rw [e]
      intro x H1 φ1 st1 sm1 rv
      refine ⟨φ1, h1, ρ, sm1, er.step st1, fun H2 φ2 st2 sm2 => ⟨φ2, h1, ρ, sm2, (er.step st1).step st2, fun H3 φ3 st3 sm3 => ⟨φ3, h1, ρ, sm3, ((er.step st1).step st2).step st3, ?_⟩⟩⟩
      rw [hf]
      intro H4 φ4 st4 sm4
      have rv4 := rv.step ((st2.trans st3).trans st4)
      obtain ⟨p, zs, rfl, sq, rs⟩ := VRep.tup rv4
      refine ⟨p, zs, rfl, sq, rfl, rfl, rfl, fun n hn => ?_⟩
      obtain ⟨s1, s2, s3⟩ := new_tup sm4 (reps_rev rs) hn
      exact q _ _ _ ((((st1.trans st2).trans st3).trans st4).trans s1) s2 s3
    · left
      refine ⟨φ, h, ρ, sm, er, ?_⟩
      revert q
      unfold eSt
      cases e : fa ρ h with
      | no => exact fun q => q
      | ex c fs h1 => exact fun q => q
      | ok v h1 =>
        show PoX _ _ _ _ _ (ofO (gRv v h1)) _ _ → PoX _ _ _ _ _ ((fs ρ h1).bind _) _ _
        rw [hf]
        have : gRv v h1 = gSt v none none (some (-1)) h1 := by
          unfold gRv
          split
          · exact absurd ⟨_, _, e⟩ c
          · rfl
        rw [this]
        exact fun q => q
end
section
variable {Q : Vl → Hh → Prop} {E : XP} {ρ : En} {h : Hh} {a : Ev} {xs : List Da}
theorem wp_rv (w : Wp (a ρ h) (fun x h1 => Wo (gRv x h1) Q) E) : Wp (eRv a ρ h) Q E := wp_bind (w.mono (fun _ _ w => wo_of w) fun _ _ _ z => z)
theorem wp_fzR (w : Wp (eRv a ρ h) (fun v h1 => FzK v h1 h.length Q) (fun c fs h1 => E c fs (h1.take h.length))) : Wp (eFz (eRv a) ρ h) Q E := wp_fz w
theorem wo_rv2 {x y : Da} (q : Q (.d (.tuple [y, x])) h) : Wo (gRv (.d (.tuple [x, y])) h) Q := q
theorem wo_rvT (q : Q (.d (.tuple xs.reverse)) h) : Wo (gRv (.d (.tuple xs)) h) Q := q
end
/-! ### append to a list at the end -/
section
variable {Q : Vl → Hh → Prop} {E : XP} {ρ : En} {h l : Hh} {o : Ev} {as : Av} {g : GM} {k : Nat} {ds es : List Da} {v : Da} {A : Prop}
theorem wp_mtL (w : Wp (o ρ h) (fun x h1 => tyL x h1 = true ∧ Wp (as ρ h1) (fun vs h2 => Wo (g x vs h2) Q) E) E) : Wp (eMt tyL g o as ρ h) Q E :=
  wp_bind (w.mono (fun _ _ ⟨e, w⟩ => by
    rw [if_pos e]
    exact wp_bind (w.mono (fun _ _ w => wo_of w) fun _ _ _ z => z)) fun _ _ _ z => z)
theorem tyL_E (hk : h.length = k) (a : A) : tyL (.r k) (h ++ some (.lst ds) :: l) = true ∧ A := by
  subst hk
  exact ⟨tyL_at get_at, a⟩
theorem wo_appE (hk : h.length = k) (e : ds ++ [v] = es) (hl : ds.length < 16777216) (q : Q (.d .none) (h ++ some (.lst es) :: l)) : Wo (gApp (.r k) [.d v] (h ++ some (.lst ds) :: l)) Q := by
  subst hk
  refine wo_eq (gApp_at get_at hl) ?_
  rw [set_at, e]
  exact q
end
def mn4 (p q r s : Rat) : Rat := mn (mn (mn p q) r) s
def mx4 (p q r s : Rat) : Rat := mx (mx (mx p q) r) s
theorem mn4_le {p q r s z : Rat} (h : p ≤ z ∨ q ≤ z ∨ r ≤ z ∨ s ≤ z) : mn4 p q r s ≤ z := by unfold mn4 mn; grind
theorem le_mx4 {p q r s z : Rat} (h : z ≤ p ∨ z ≤ q ∨ z ≤ r ∨ z ≤ s) : z ≤ mx4 p q r s := by unfold mx4 mx; grind
theorem lin_in {a b x : Rat} (h1 : a ≤ x) (h2 : x ≤ b) (y : Rat) : (a * y ≤ x * y ∧ x * y ≤ b * y) ∨ (b * y ≤ x * y ∧ x * y ≤ a * y) := by
  by_cases hy : 0 ≤ y
  · exact .inl ⟨Rat.mul_le_mul_of_nonneg_right h1 hy, Rat.mul_le_mul_of_nonneg_right h2 hy⟩
  · have hy' : 0 ≤ -y := by grind
    have e1 := Rat.mul_le_mul_of_nonneg_right h1 hy'
    have e2 := Rat.mul_le_mul_of_nonneg_right h2 hy'
    exact .inr ⟨by grind, by grind⟩
theorem mul_in {a b c d x y : Rat} (h1 : a ≤ x) (h2 : x ≤ b) (h3 : c ≤ y) (h4 : y ≤ d) :
    (a * c ≤ x * y ∨ a * d ≤ x * y ∨ b * c ≤ x * y ∨ b * d ≤ x * y) ∧ (x * y ≤ a * c ∨ x * y ≤ a * d ∨ x * y ≤ b * c ∨ x * y ≤ b * d) := by
  have ha := lin_in h3 h4 a
  have hb := lin_in h3 h4 b
  have hx := lin_in h1 h2 y
  rw [Rat.mul_comm c a, Rat.mul_comm y a, Rat.mul_comm d a] at ha
  rw [Rat.mul_comm c b, Rat.mul_comm y b, Rat.mul_comm d b] at hb
  constructor <;> grind
theorem inv_in {c d y : Rat} (h0 : ¬ (c ≤ 0 ∧ 0 ≤ d)) (h3 : c ≤ y) (h4 : y ≤ d) : d⁻¹ ≤ y⁻¹ ∧ y⁻¹ ≤ c⁻¹ := by
  have key : ∀ {p q : Rat}, 0 < p → p ≤ q → q⁻¹ ≤ p⁻¹ := by
    intro p q hp hq
    have hq0 : 0 < q := by grind
    have e1 : q⁻¹ = p * (p⁻¹ * q⁻¹) := by
      rw [← Rat.mul_assoc, Rat.mul_inv_cancel _ (by grind), Rat.one_mul]
    have e2 : p⁻¹ = q * (p⁻¹ * q⁻¹) := by
      rw [Rat.mul_comm p⁻¹ q⁻¹, ← Rat.mul_assoc, Rat.mul_inv_cancel _ (by grind), Rat.one_mul]
    have h : 0 ≤ p⁻¹ * q⁻¹ := Rat.mul_nonneg (Rat.le_of_lt (Rat.inv_pos.mpr hp)) (Rat.le_of_lt (Rat.inv_pos.mpr hq0))
    have := Rat.mul_le_mul_of_nonneg_right hq h
    rw [← e1, ← e2] at this
    exact this
  have neg : ∀ p : Rat, (-p)⁻¹ = -p⁻¹ := fun p => by
    by_cases z : p = 0
    · rw [z]; decide +kernel
    · have e : (-p) * (-p⁻¹) = 1 := by
        rw [Rat.neg_mul, Rat.mul_neg, Rat.neg_neg, Rat.mul_inv_cancel _ z]
      have z2 : -p ≠ 0 := by grind
      have := congrArg (fun t => (-p)⁻¹ * t) e
      simp only [Rat.mul_one] at this
      rw [← Rat.mul_assoc, Rat.inv_mul_cancel _ z2, Rat.one_mul] at this
      exact this.symm
  by_cases hc : 0 < c
  · exact ⟨key (by grind) h4, key hc h3⟩
  · have hd : d < 0 := by grind
    have k1 := key (p := -d) (q := -y) (by grind) (by grind)
    have k2 := key (p := -y) (q := -c) (by grind) (by grind)
    rw [neg, neg] at k1 k2
    constructor <;> grind
theorem div_in {a b c d x y : Rat} (h0 : ¬ (c ≤ 0 ∧ 0 ≤ d)) (h1 : a ≤ x) (h2 : x ≤ b) (h3 : c ≤ y) (h4 : y ≤ d) :
    (a / c ≤ x / y ∨ a / d ≤ x / y ∨ b / c ≤ x / y ∨ b / d ≤ x / y) ∧ (x / y ≤ a / c ∨ x / y ≤ a / d ∨ x / y ≤ b / c ∨ x / y ≤ b / d) := by
  obtain ⟨i1, i2⟩ := inv_in h0 h3 h4
  have := mul_in h1 h2 i1 i2
  simp only [Rat.div_def]
  constructor
  · rcases this.1 with z | z | z | z
    · exact .inr (.inl z)
    · exact .inl z
    · exact .inr (.inr (.inr z))
    · exact .inr (.inr (.inl z))
  · rcases this.2 with z | z | z | z
    · exact .inr (.inl z)
    · exact .inl z
    · exact .inr (.inr (.inr z))
    · exact .inr (.inr (.inl z))
section
variable {Q : Vl → Hh → Prop} {h : Hh} {ds : List Da} {r : Rat} {i : Int} {b : Bool} {x : Str}
theorem wo_isNn (q : Q (.d (.bool true)) h) : Wo (gIsN (.d .none) (.d .none) h) Q := q
theorem wo_isNt (q : Q (.d (.bool false)) h) : Wo (gIsN (.d (.tuple ds)) (.d .none) h) Q := q
theorem wo_isNl (q : Q (.d (.bool false)) h) : Wo (gIsN (.d (.list ds)) (.d .none) h) Q := q
theorem wo_isNq (q : Q (.d (.bool false)) h) : Wo (gIsN (.d (Rk.Q r)) (.d .none) h) Q := q
theorem wo_isNi (q : Q (.d (.bool false)) h) : Wo (gIsN (.d (.int i)) (.d .none) h) Q := q
theorem wo_isNb (q : Q (.d (.bool false)) h) : Wo (gIsN (.d (.bool b)) (.d .none) h) Q := q
theorem wo_isNs (q : Q (.d (.bool false)) h) : Wo (gIsN (.d (.str x)) (.d .none) h) Q := q
theorem wo_ntNn (q : Q (.d (.bool false)) h) : Wo (gNotN (.d .none) (.d .none) h) Q := q
theorem wo_ntNt (q : Q (.d (.bool true)) h) : Wo (gNotN (.d (.tuple ds)) (.d .none) h) Q := q
theorem wo_ntNl (q : Q (.d (.bool true)) h) : Wo (gNotN (.d (.list ds)) (.d .none) h) Q := q
theorem wo_ntNq (q : Q (.d (.bool true)) h) : Wo (gNotN (.d (Rk.Q r)) (.d .none) h) Q := q
theorem wo_ntNi (q : Q (.d (.bool true)) h) : Wo (gNotN (.d (.int i)) (.d .none) h) Q := q
theorem wo_ntNb (q : Q (.d (.bool true)) h) : Wo (gNotN (.d (.bool b)) (.d .none) h) Q := q
theorem wo_ntNs (q : Q (.d (.bool true)) h) : Wo (gNotN (.d (.str x)) (.d .none) h) Q := q
end
end Rk

/-! Rk25: comprehensions part by part; strings; rulers. -/
namespace Rk
open PySem PySem.Spec L2
def LcK (D : Nat) (g : Gv) (fe : Ev) (ρ0 : En) (ds acc : List Da) (hb : Hh) (Q : Vl → Hh → Prop) : Prop :=
  Wp (lcL none D g tvYes fe ρ0 ds (hb ++ [some (.lst acc)])) (fun v h1 => FzK v h1 D Q) NX
section
variable {Q : Vl → Hh → Prop} {E : XP} {ρ ρ0 : En} {h hb : Hh} {i : Iv} {g : Gv} {fe : Ev} {ws : List Nat} {D : Nat} {d : Da} {ds acc acc' : List Da}
theorem wp_lcU (e00 : wipeE ρ ws = ρ0) (w : Wp (i ρ h) (fun m h1 => m.gd = none ∧ h1.length = h.length ∧ LcK h.length g fe ρ0 m.ds [] h1 Q) (fun c fs h1 => E c fs (h1.take h.length))) : Wp (eFz (eLc ws i g tvYes fe) ρ h) Q E := by
  subst e00
  refine wp_fz (wp_bind (w.mono ?_ fun _ _ _ z => z))
  rintro ⟨ds, gd⟩ h1 ⟨e0, hl, w⟩
  dsimp only at e0 w
  subst e0
  dsimp only
  rw [hl]
  exact Wp.mono w (fun _ _ z => z) fun _ _ _ z => z.elim
theorem lck_nil (e : hb.length = D) (q : Q (.d (.list acc)) hb) : LcK D g fe ρ0 [] acc hb Q := by
  subst e
  unfold LcK
  rw [lcL_nil (gd := none) trivial]
  exact wp_eq rfl (fzk_end rfl q)
theorem lck_cons (w : GvK (g (.d d) ρ0 (hb ++ [some (.lst acc)])) fun ρ1 h1 => Wp (fe ρ1 h1) (fun v h2 => ∃ x hb', v = .d x ∧ h2 = hb' ++ [some (.lst acc)] ∧ hb'.length = D ∧ acc.length < 16777216 ∧ LcK D g fe ρ0 ds (acc ++ [x]) hb' Q) NX) : LcK D g fe ρ0 (d :: ds) acc hb Q := by
  unfold LcK
  unfold GvK Wo at w
  revert w
  cases e : g (.d d) ρ0 (hb ++ [some (.lst acc)]) with
  | none => exact fun z => z.elim
  | some p =>
    obtain ⟨ρ1, h1⟩ := p
    intro w
    obtain ⟨v, h2, e2, x, hb', rfl, rfl, e3, hl, w⟩ := wp_out w
    rw [lcL_cons (gd := none) trivial e rfl e2 (appL_end e3 hl)]
    exact w
theorem lck_put {x : Da} {l : List Da} (e : acc ++ [x] = l) (hl : hb.length = D) (ha : acc.length < 16777216) (w : LcK D g fe ρ0 ds l hb Q) : ∃ y hb', (Vl.d x) = .d y ∧ hb ++ [some (Ob.lst acc)] = hb' ++ [some (.lst acc)] ∧ hb'.length = D ∧ acc.length < 16777216 ∧ LcK D g fe ρ0 ds (acc ++ [y]) hb' Q :=
  ⟨x, hb, rfl, rfl, hl, ha, by rw [e]; exact w⟩
theorem ex_lcU {h1 : Hh} {n : Nat} {A : Prop} (hl : h1.length = n) (a : A) : (none : Option (Nat × List Da)) = none ∧ h1.length = n ∧ A := ⟨rfl, hl, a⟩
theorem lck_r2 {g : Gv} (w : LcK D g fe ρ0 [.int 0, .int 1] acc hb Q) : LcK D g fe ρ0 (rngD 0 (Int.toNat 2)) acc hb Q := w
theorem lck_r3 {g : Gv} (w : LcK D g fe ρ0 [.int 0, .int 1, .int 2] acc hb Q) : LcK D g fe ρ0 (rngD 0 (Int.toNat 3)) acc hb Q := w
end
theorem Q_k1 (k : Int) : (.tuple [.int k, .int 1] : Da) = Q (k : Rat) := (Q_int k).symm
section
variable {Q : Vl → Hh → Prop} {h : Hh} {R : Ruler}
theorem wo_ixR0 (q : Q (.d (.int R.b)) h) : Wo (gIx (.d R.da) (.d (.int 0)) h) Q := wo_eq ix0 q
theorem wo_ixR1 (q : Q (.d (.int R.f)) h) : Wo (gIx (.d R.da) (.d (.int 1)) h) Q := wo_eq ix1 q
theorem wo_ixR2 (q : Q (.d (.int R.l)) h) : Wo (gIx (.d R.da) (.d (.int 2)) h) Q := wo_eq ix2 q
theorem wo_ixR3 (q : Q (.d (.str R.w)) h) : Wo (gIx (.d R.da) (.d (.int 3)) h) Q := wo_eq ix3 q
end
end Rk

/-! Rk26: how far rounding goes. -/
namespace Rk
open PySem PySem.Spec L2
theorem wb_far (w : String) (t : Rat) : ((wb w t : Rat) - t).abs ≤ 1 := by
  have h1 := fl_le t
  have h2 := fl_lt t
  unfold wb
  by_cases u : upB w t = true
  · rw [if_pos u, Rat.intCast_add]
    unfold Rat.abs
    split <;> grind
  · rw [if_neg u, Int.add_zero]
    unfold Rat.abs
    split <;> grind
theorem wb_near (t : Rat) : ((wb "near" t : Rat) - t).abs ≤ 1 / 2 := by
  have h1 := fl_le t
  have h2 := fl_lt t
  unfold wb
  rw [upB_near]
  by_cases c1 : 1 < 2 * (t - (t.floor : Rat))
  · rw [decide_eq_true c1, Bool.true_or, if_pos rfl, Rat.intCast_add]
    unfold Rat.abs
    split <;> grind
  · by_cases c2 : 2 * (t - (t.floor : Rat)) = 1
    · rw [decide_eq_false c1, Bool.false_or, decide_eq_true c2, Bool.true_and]
      split
      · rw [Rat.intCast_add]
        unfold Rat.abs
        split <;> grind
      · rw [Int.add_zero]
        unfold Rat.abs
        split <;> grind
    · rw [decide_eq_false c1, Bool.false_or, decide_eq_false c2, Bool.false_and, if_neg (by decide), Int.add_zero]
      unfold Rat.abs
      split <;> grind
section
variable {R : Ruler} {x y : Rat} {n m : Nat}
theorem rnd_off (O : R.Ok) (x : Rat) : (R.rnd x - x).abs = ((wb R.w (x / R.stp x) : Rat) - x / R.stp x).abs * R.stp x := by
  have hs := stp_pos O x
  have hn := stp_ne O x
  rw [← abs_mulP hs]
  congr 1
  unfold Ruler.rnd
  have : x / R.stp x * R.stp x = x := div_mul' hn
  grind
theorem rnd_err (O : R.Ok) (x : Rat) : (R.rnd x - x).abs ≤ R.stp x := by
  rw [rnd_off O]
  have := Rat.mul_le_mul_of_nonneg_right (wb_far R.w (x / R.stp x)) (Rat.le_of_lt (stp_pos O x))
  rwa [Rat.one_mul] at this
theorem rnd_errN (O : R.Ok) (hw : R.w = "near") (x : Rat) : (R.rnd x - x).abs ≤ 1 / 2 * R.stp x := by
  rw [rnd_off O, hw]
  exact Rat.mul_le_mul_of_nonneg_right (wb_near (x / R.stp x)) (Rat.le_of_lt (stp_pos O x))
theorem plc_mono (O : R.Ok) (hx : BQ n x) (hy : BQ m y) (h : x.abs ≤ y.abs) : R.plc x ≤ R.plc y := by
  have iy := plc_ok O hy
  exact plc_le O hx iy.1 (Std.lt_of_le_of_lt h iy.2.1)
theorem stp_mono (O : R.Ok) (hx : BQ n x) (hy : BQ m y) (h : x.abs ≤ y.abs) : R.stp x ≤ R.stp y := pw_le O (plc_mono O hx hy h)
theorem mark_mult (O : R.Ok) (hx : BQ n x) {g k : Int} (hg : R.l ≤ g) (e : x = (k : Rat) * R.pw g) (h : x.abs ≤ R.pw (g + R.f)) : R.rnd x = x := by
  by_cases hl : x.abs < R.pw (g + R.f)
  · have p := plc_le O hx hg hl
    obtain ⟨j, ej⟩ := pw_sub_int O p
    refine rnd_fix O (k := k * j) ?_
    show x = _ * R.pw (R.plc x)
    rw [Rat.intCast_mul, Rat.mul_assoc, ← ej]
    exact e
  · have he : x.abs = R.pw (g + R.f) := Rat.le_antisymm h (Rat.not_lt.mp hl)
    have f1 := O.f1
    have p : R.plc x ≤ g + 1 := plc_le O hx (by omega) (by rw [he]; exact pw_lt O (by omega))
    obtain ⟨j, ej⟩ := pw_sub_int O (show R.plc x ≤ g + R.f by omega)
    by_cases hs : 0 ≤ x
    · refine rnd_fix O (k := j) ?_
      show x = _ * R.pw (R.plc x)
      rw [← ej, ← he]
      unfold Rat.abs
      rw [if_pos hs]
    · refine rnd_fix O (k := -j) ?_
      show x = _ * R.pw (R.plc x)
      rw [Rat.intCast_neg, Rat.neg_mul, ← ej, ← he]
      unfold Rat.abs
      rw [if_neg hs, Rat.neg_neg]
theorem abs_in {a b x : Rat} (h1 : a ≤ x) (h2 : x ≤ b) : x.abs ≤ mx a.abs b.abs := by
  unfold Rat.abs mx
  grind
end
end Rk

/-! Rk27: a list at the end, beside a state that is drawn from: the heap in the form (h ++ list :: l).set n o. -/
namespace Rk
open PySem PySem.Spec L2
section
variable {h l : Hh} {Q : Vl → Hh → Prop} {E : XP} {k n m : Nat} {ds es : List Da} {v a0 a1 : Da} {r : List Da} {o : Option Ob} {A : Prop} {N : En → Hh → Prop} {D : Ds} {ρ : En} {i : Nat}
theorem wp_norm {f : Fn} {as : List Vl} (hn : n < h.length) (w : n < (h ++ l).length → Wp (f as ((h ++ l).set n o)) Q E) : Wp (f as (h.set n o ++ l)) Q E := by
  have := w (by rw [List.length_append]; omega)
  rwa [set_app hn] at this
theorem wp_norm2 {f : Fn} {as : List Vl} {l2 : Hh} (hn : n < h.length) (w : n < (h ++ l).length → n < (h ++ l ++ l2).length → Wp (f as ((h ++ l ++ l2).set n o)) Q E) : Wp (f as (h.set n o ++ l ++ l2)) Q E := by
  have h1 : n < (h ++ l).length := by rw [List.length_append]; omega
  have := w h1 (by rw [List.length_append]; omega)
  rwa [set_app h1, set_app hn] at this
theorem wo_appS (hn : n < h.length) (hk : h.length = k) (e : ds ++ [v] = es) (hl : ds.length < 16777216) (q : Q (.d .none) ((h ++ some (.lst es) :: l).set n o)) : Wo (gApp (.r k) [.d v] ((h ++ some (.lst ds) :: l).set n o)) Q := by
  rw [set_app hn]
  rw [set_app hn] at q
  exact wo_appE (by rw [List.length_set]; exact hk) e hl q
theorem tyL_S (hn : n < h.length) (hk : h.length = k) (a : A) : tyL (.r k) ((h ++ some (.lst ds) :: l).set n o) = true ∧ A := by
  rw [set_app hn]
  exact tyL_E (by rw [List.length_set]; exact hk) a
theorem wo_ixS0' (hn : n < h.length) (hk : h.length = k) (q : Q (.d a0) ((h ++ some (.lst (a0 :: r)) :: l).set n o)) : Wo (gIx (.r k) (.d (.int 0)) ((h ++ some (.lst (a0 :: r)) :: l).set n o)) Q := by
  rw [set_app hn]
  rw [set_app hn] at q
  exact wo_ixE0 (by rw [List.length_set]; exact hk) q
theorem wo_ixS1' (hn : n < h.length) (hk : h.length = k) (q : Q (.d a1) ((h ++ some (.lst (a0 :: a1 :: r)) :: l).set n o)) : Wo (gIx (.r k) (.d (.int 1)) ((h ++ some (.lst (a0 :: a1 :: r)) :: l).set n o)) Q := by
  rw [set_app hn]
  rw [set_app hn] at q
  exact wo_ixE1 (by rw [List.length_set]; exact hk) q
theorem ex_setS0 {N : Hh → Prop} (hn : n < h.length) (hk : h.length = k) (q : N ((h ++ some (.lst (v :: r)) :: l).set n o)) : ∃ h3, setL (.r k) (.d (.int 0)) (.d v) ((h ++ some (.lst (a0 :: r)) :: l).set n o) = some h3 ∧ N h3 := by
  rw [set_app hn]
  rw [set_app hn] at q
  exact ex_setL0 (by rw [List.length_set]; exact hk) q
theorem ex_setS1 {N : Hh → Prop} (hn : n < h.length) (hk : h.length = k) (q : N ((h ++ some (.lst (a0 :: v :: r)) :: l).set n o)) : ∃ h3, setL (.r k) (.d (.int 1)) (.d v) ((h ++ some (.lst (a0 :: a1 :: r)) :: l).set n o) = some h3 ∧ N h3 := by
  rw [set_app hn]
  rw [set_app hn] at q
  exact ex_setL1 (by rw [List.length_set]; exact hk) q
theorem ws_frzS (hn : n < h.length) (hk : h.length = k) (ev : ρ[i]? = some (some (.r k))) (q : SetK i ρ (.d (.list ds)) ((h ++ none :: l).set n o) N) : Ws (sFrz i ρ ((h ++ some (.lst ds) :: l).set n o)) N D := by
  rw [set_app hn]
  rw [set_app hn] at q
  exact ws_frzE (by rw [List.length_set]; exact hk) ev q
theorem retK_S {x : Da} (hn : n < h.length) (e : h.length = m) (q : Q (.d x) (h.set n o)) : RetK m Q (.d x) ((h ++ l).set n o) := by
  rw [set_app hn]
  exact retK_d' (by rw [List.length_set]; exact e) q
end
end Rk

/-! Rk28: zip of two lists or of two tuples of data; all and any of a list of truths. -/
namespace Rk
open PySem PySem.Spec L2
variable {mg : Str → Option Value}
def zipD (xs ys : List Da) : List Da := (xs.zip ys).map fun p => .tuple [p.1, p.2]
theorem zipD_len (xs ys : List Da) : (zipD xs ys).length = min xs.length ys.length := by
  unfold zipD
  rw [List.length_map, List.length_zip]
theorem zipD_get {xs ys : List Da} {i : Nat} {d : Da} (e : (zipD xs ys)[i]? = some d) : ∃ a b, xs[i]? = some a ∧ ys[i]? = some b ∧ d = .tuple [a, b] := by
  unfold zipD at e
  rw [List.getElem?_map] at e
  cases e3 : (xs.zip ys)[i]? with
  | none => rw [e3] at e; cases e
  | some p =>
    rw [e3] at e
    cases e
    obtain ⟨h1, h2⟩ := List.getElem?_zip_eq_some.mp e3
    exact ⟨_, _, h1, h2, rfl⟩
section
variable {K : PySem.W.Frag}
theorem zip_it {a b : Addr} {xs ys : List Da} {G1 G2 : List Addr → Hh → Hp → Prop} (L1 : LOk K a ⟨xs, none⟩ G1) (L2 : LOk K b ⟨ys, none⟩ G2) : ItOk K (Itz K a b) ⟨zipD xs ys, none⟩ (fun φ h H => G1 φ h H ∧ G2 φ h H) where
  go := fun φ h H i sm g gd hi => by
    obtain ⟨us, sq, rs⟩ := L1.sq φ h H sm g.1 gd
    obtain ⟨vs, sq2, rs2⟩ := L2.sq φ h H sm g.2 gd
    have hi' : i < (zipD xs ys).length := hi
    rw [zipD_len] at hi'
    obtain ⟨y, e, _⟩ := rs.get (List.getElem?_eq_getElem (show i < xs.length by omega))
    obtain ⟨z, e2, _⟩ := rs2.get (List.getElem?_eq_getElem (show i < ys.length by omega))
    exact ⟨us, vs, y, z, sq, sq2, e, e2⟩
  yld := fun φ h H i x H' d sm g gd ed ⟨T, y, z, ex, hT, e, q, q2⟩ => by
    subst ex e
    obtain ⟨us, sq, rs⟩ := L1.sq φ h H sm g.1 gd
    obtain ⟨vs, sq2, rs2⟩ := L2.sq φ h H sm g.2 gd
    obtain ⟨d1, d2, e1, e2, rfl⟩ := zipD_get ed
    obtain ⟨y1, ey, ry⟩ := rs.get e1
    obtain ⟨z1, ez, rz⟩ := rs2.get e2
    have f1 := q us sq
    rw [ey] at f1
    cases f1
    have f2 := q2 vs sq2
    rw [ez] at f2
    cases f2
    obtain ⟨s1, s2, s3⟩ := new_tup (mg := fun _ => none) sm (ds := [d1, d2]) (.cons ry (.cons rz .nil)) hT
    exact ⟨s1, s2, s3⟩
  stop := fun φ h H i sm g gd hi => by
    obtain ⟨us, sq, rs⟩ := L1.sq φ h H sm g.1 gd
    obtain ⟨vs, sq2, rs2⟩ := L2.sq φ h H sm g.2 gd
    have hi' : (zipD xs ys).length ≤ i := hi
    rw [zipD_len] at hi'
    refine ⟨us, vs, sq, sq2, ?_⟩
    rw [rs.length, rs2.length]
    show xs.length ≤ i ∨ ys.length ≤ i
    omega
  keep := fun φ h H φ' h' H' g st => ⟨L1.keep _ _ _ _ _ _ g.1 st, L2.keep _ _ _ _ _ _ g.2 st⟩
theorem zipT_it {a b : Addr} {xs ys : List Da} : ItOk K (RZ.ItzT K a b) ⟨zipD xs ys, none⟩ (fun φ h H => Rep K H (Live φ h) (.ref a) (.tuple xs) ∧ Rep K H (Live φ h) (.ref b) (.tuple ys)) where
  go := fun φ h H i sm g gd hi => by
    obtain ⟨us, sq, rs⟩ := Rep.sqT g.1
    obtain ⟨vs, sq2, rs2⟩ := Rep.sqT g.2
    have hi' : i < (zipD xs ys).length := hi
    rw [zipD_len] at hi'
    obtain ⟨y, e, _⟩ := rs.get (List.getElem?_eq_getElem (show i < xs.length by omega))
    obtain ⟨z, e2, _⟩ := rs2.get (List.getElem?_eq_getElem (show i < ys.length by omega))
    exact ⟨us, vs, y, z, sq, sq2, e, e2⟩
  yld := fun φ h H i x H' d sm g gd ed ⟨T, y, z, ex, hT, e, q, q2⟩ => by
    subst ex e
    obtain ⟨us, sq, rs⟩ := Rep.sqT g.1
    obtain ⟨vs, sq2, rs2⟩ := Rep.sqT g.2
    obtain ⟨d1, d2, e1, e2, rfl⟩ := zipD_get ed
    obtain ⟨y1, ey, ry⟩ := rs.get e1
    obtain ⟨z1, ez, rz⟩ := rs2.get e2
    have f1 := q us sq
    rw [ey] at f1
    cases f1
    have f2 := q2 vs sq2
    rw [ez] at f2
    cases f2
    obtain ⟨s1, s2, s3⟩ := new_tup (mg := fun _ => none) sm (ds := [d1, d2]) (.cons ry (.cons rz .nil)) hT
    exact ⟨s1, s2, s3⟩
  stop := fun φ h H i sm g gd hi => by
    obtain ⟨us, sq, rs⟩ := Rep.sqT g.1
    obtain ⟨vs, sq2, rs2⟩ := Rep.sqT g.2
    have hi' : (zipD xs ys).length ≤ i := hi
    rw [zipD_len] at hi'
    refine ⟨us, vs, sq, sq2, ?_⟩
    rw [rs.length, rs2.length]
    omega
  keep := fun φ h H φ' h' H' g st => ⟨Rep.stay st.st g.1, Rep.stay st.st g.2⟩
end
def iZip (as : Av) : Iv := fun ρ h => (as ρ h).bind fun vs h1 => match vs with
  | [.d (.list xs), .d (.list ys)] => .ok ⟨zipD xs ys, none⟩ h1
  | [.d (.tuple xs), .d (.tuple ys)] => .ok ⟨zipD xs ys, none⟩ h1
  | _ => .no
section
variable {X : Cx} {W : WX} {pos p : Pos} {fs : Av}
theorem ei_zip {elts : List Expr} {kk : Nat} {tpos : Pos} {a b : Expr} (hg : Gl X "zip") (hm : X.mg "zip" = none) (ha : EA X W [a, b] fs) (hs : starEach [a, b] X.env = (false, eval a X.env) :: starEach [b] X.env := by rfl) (hpl : (backTo pos (starEach [b] X.env)).any (·.1) = false := by rfl) : EI X W (.Tuple elts kk tpos) (.Call (.Name "zip" p) [a, b] [] pos) (iZip fs) :=
  PI.of (RZ.pi_zipA hg hm ha hs hpl) fun σ H R ⟨φ, h, ρ, sm, er, q⟩ => ⟨φ, h, ρ, sm, er, PoI.goA q fun xs vs h1 H1 φ1 st sm1 rv q1 => by
    split at q1
    · obtain ⟨x, y, rfl, r, r2⟩ := rv.two
      obtain ⟨_, gd, a, G, rfl, L, g⟩ := itL_lok sm1 r rfl
      obtain ⟨_, gd2, b, G2, rfl, L2, g2⟩ := itL_lok sm1 r2 rfl
      obtain ⟨us, sq, _⟩ := L.sq _ _ _ sm1 g gd
      obtain ⟨ws, sq2, _⟩ := L2.sq _ _ _ sm1 g2 gd2
      exact ⟨a, b, us, ws, rfl, .inl ⟨sq, sq2, q1 _ H1 φ1 _ (Step.refl _ _ _) sm1 (zip_it L L2) ⟨g, g2⟩⟩⟩
    · obtain ⟨x, y, rfl, r, r2⟩ := rv.two
      obtain ⟨a, us, rfl, sq, rs⟩ := VRep.tup r
      obtain ⟨b, ws, rfl, sq2, rs2⟩ := VRep.tup r2
      exact ⟨a, b, us, ws, rfl, .inr ⟨sq, sq2, q1 _ H1 φ1 _ (Step.refl _ _ _) sm1 zipT_it ⟨r, r2⟩⟩⟩
    · exact q1.elim⟩
end
section
variable {QI : Itm → Hh → Prop} {E : XP} {ρ : En} {h : Hh} {as : Av} {xs ys : List Da}
theorem wp_zip (w : Wp (as ρ h) (fun vs h1 => ∃ ds, ((∃ xs ys, vs = [.d (.list xs), .d (.list ys)] ∧ ds = zipD xs ys) ∨ (∃ xs ys, vs = [.d (.tuple xs), .d (.tuple ys)] ∧ ds = zipD xs ys)) ∧ QI ⟨ds, none⟩ h1) E) : Wp (iZip as ρ h) QI E :=
  wp_bind (w.mono (fun _ _ ⟨ds, e, q⟩ => by
    rcases e with ⟨xs, ys, e, rfl⟩ | ⟨xs, ys, e, rfl⟩
    · rw [e]; exact ⟨q⟩
    · rw [e]; exact ⟨q⟩) fun _ _ _ z => z)
theorem ex_zipL {P : List Da → Prop} (q : P (zipD xs ys)) : ∃ ds, ((∃ us ws, [Vl.d (.list xs), Vl.d (.list ys)] = [.d (.list us), .d (.list ws)] ∧ ds = zipD us ws) ∨ (∃ us ws, [Vl.d (.list xs), Vl.d (.list ys)] = [.d (.tuple us), .d (.tuple ws)] ∧ ds = zipD us ws)) ∧ P ds := ⟨_, .inl ⟨_, _, rfl, rfl⟩, q⟩
theorem ex_zipT {P : List Da → Prop} (q : P (zipD xs ys)) : ∃ ds, ((∃ us ws, [Vl.d (.tuple xs), Vl.d (.tuple ys)] = [.d (.list us), .d (.list ws)] ∧ ds = zipD us ws) ∨ (∃ us ws, [Vl.d (.tuple xs), Vl.d (.tuple ys)] = [.d (.tuple us), .d (.tuple ws)] ∧ ds = zipD us ws)) ∧ P ds := ⟨_, .inr ⟨_, _, rfl, rfl⟩, q⟩
end
def boolsOf : List Da → Option (List Bool)
  | [] => some []
  | .bool b :: r => (boolsOf r).map (b :: ·)
  | _ => none
def intsOf : List Da → Option (List Int)
  | [] => some []
  | .int b :: r => (intsOf r).map (b :: ·)
  | _ => none
def gAll : GC := fun as h => match as with
  | [.d (.list ds)] => (boolsOf ds).map fun bs => (.d (.bool (bs.all id)), h)
  | _ => none
def gAny : GC := fun as h => match as with
  | [.d (.list ds)] => (boolsOf ds).map fun bs => (.d (.bool (bs.any id)), h)
  | _ => none
def gSum : GC := fun as h => match as with
  | [.d (.list ds)] => (intsOf ds).map fun ns => (.d (.int ns.sum), h)
  | _ => none
def minI : Int → List Int → Int
  | a, [] => a
  | a, b :: r => min a (minI b r)
def maxI : Int → List Int → Int
  | a, [] => a
  | a, b :: r => max a (maxI b r)
theorem minI_ok : ∀ (r : List Int) (a : Int), minI a r ∈ a :: r ∧ ∀ y ∈ a :: r, minI a r ≤ y
  | [], a => ⟨List.mem_cons_self, fun y hy => by
      rcases List.mem_cons.mp hy with rfl | z
      · exact Int.le_refl _
      · cases z⟩
  | b :: r, a => by
    obtain ⟨h1, h2⟩ := minI_ok r b
    unfold minI
    rcases Int.le_total a (minI b r) with z | z
    · rw [Int.min_eq_left z]
      refine ⟨List.mem_cons_self, fun y hy => ?_⟩
      rcases List.mem_cons.mp hy with rfl | hy
      · exact Int.le_refl _
      · exact Int.le_trans z (h2 y hy)
    · rw [Int.min_eq_right z]
      refine ⟨List.mem_cons_of_mem _ h1, fun y hy => ?_⟩
      rcases List.mem_cons.mp hy with rfl | hy
      · exact z
      · exact h2 y hy
theorem maxI_ok : ∀ (r : List Int) (a : Int), maxI a r ∈ a :: r ∧ ∀ y ∈ a :: r, y ≤ maxI a r
  | [], a => ⟨List.mem_cons_self, fun y hy => by
      rcases List.mem_cons.mp hy with rfl | z
      · exact Int.le_refl _
      · cases z⟩
  | b :: r, a => by
    obtain ⟨h1, h2⟩ := maxI_ok r b
    unfold maxI
    rcases Int.le_total a (maxI b r) with z | z
    · rw [Int.max_eq_right z]
      refine ⟨List.mem_cons_of_mem _ h1, fun y hy => ?_⟩
      rcases List.mem_cons.mp hy with rfl | hy
      · exact z
      · exact h2 y hy
    · rw [Int.max_eq_left z]
      refine ⟨List.mem_cons_self, fun y hy => ?_⟩
      rcases List.mem_cons.mp hy with rfl | hy
      · exact Int.le_refl _
      · exact Int.le_trans (h2 y hy) z
def gMinL : GC := fun as h => match as with
  | [.d (.list ds)] => match intsOf ds with
    | some (a :: r) => some (.d (.int (minI a r)), h)
    | _ => none
  | _ => none
def gMaxL : GC := fun as h => match as with
  | [.d (.list ds)] => match intsOf ds with
    | some (a :: r) => some (.d (.int (maxI a r)), h)
    | _ => none
  | _ => none
section
variable {K : PySem.W.Frag} {H : Hp} {L : Nat → Prop}
theorem reps_bools {φ : List Addr} {h : Hh} : ∀ {ds : List Da} {us : List V} {bs : List Bool}, Reps K H (Live φ h) us ds → boolsOf ds = some bs → us = bs.map V.bl
  | [], us, bs, rs, e => by
    cases e
    cases rs
    rfl
  | d :: ds, us, bs, rs, e => by
    cases rs with
    | cons r rr =>
      cases d <;> try (simp only [boolsOf, reduceCtorEq] at e)
      rename_i b
      obtain ⟨cs, e1, rfl⟩ := Option.map_eq_some_iff.mp (show (boolsOf ds).map (b :: ·) = some bs from e)
      rw [reps_bools rr e1]
      cases r
      rfl
theorem reps_ints {φ : List Addr} {h : Hh} : ∀ {ds : List Da} {us : List V} {bs : List Int}, Reps K H (Live φ h) us ds → intsOf ds = some bs → us = bs.map V.int
  | [], us, bs, rs, e => by
    cases e
    cases rs
    rfl
  | d :: ds, us, bs, rs, e => by
    cases rs with
    | cons r rr =>
      cases d <;> try (simp only [intsOf, reduceCtorEq] at e)
      rename_i b
      obtain ⟨cs, e1, rfl⟩ := Option.map_eq_some_iff.mp (show (intsOf ds).map (b :: ·) = some bs from e)
      rw [reps_ints rr e1]
      cases r
      rfl
theorem ok_all : OkC K mg (rAll K) gAll := by
  intro φ h H xs as Q v h' sm rs e k
  unfold gAll at e
  split at e
  · rename_i ds
    obtain ⟨bs, e1, e2⟩ := Option.map_eq_some_iff.mp e
    cases e2
    obtain ⟨x, rfl, r⟩ := rs.one
    obtain ⟨_, gd, a, G, rfl, L, g⟩ := itL_lok sm r rfl
    obtain ⟨us, sq, rs'⟩ := L.sq _ _ _ sm g gd
    rw [reps_bools rs' e1] at sq
    exact ⟨a, bs, rfl, sq, k _ H φ (Step.refl _ _ _) sm (Rep.bl _)⟩
  · cases e
theorem ok_any : OkC K mg (rAny K) gAny := by
  intro φ h H xs as Q v h' sm rs e k
  unfold gAny at e
  split at e
  · rename_i ds
    obtain ⟨bs, e1, e2⟩ := Option.map_eq_some_iff.mp e
    cases e2
    obtain ⟨x, rfl, r⟩ := rs.one
    obtain ⟨_, gd, a, G, rfl, L, g⟩ := itL_lok sm r rfl
    obtain ⟨us, sq, rs'⟩ := L.sq _ _ _ sm g gd
    rw [reps_bools rs' e1] at sq
    exact ⟨a, bs, rfl, sq, k _ H φ (Step.refl _ _ _) sm (Rep.bl _)⟩
  · cases e
theorem ok_sum : OkC K mg (rSum K) gSum := by
  intro φ h H xs as Q v h' sm rs e k
  unfold gSum at e
  split at e
  · rename_i ds
    obtain ⟨bs, e1, e2⟩ := Option.map_eq_some_iff.mp e
    cases e2
    obtain ⟨x, rfl, r⟩ := rs.one
    obtain ⟨_, gd, a, G, rfl, L, g⟩ := itL_lok sm r rfl
    obtain ⟨us, sq, rs'⟩ := L.sq _ _ _ sm g gd
    rw [reps_ints rs' e1] at sq
    exact ⟨a, bs, rfl, sq, k _ H φ (Step.refl _ _ _) sm (Rep.int _)⟩
  · cases e
theorem ok_minL : OkC K mg (rMin K) gMinL := by
  intro φ h H xs as Q v h' sm rs e k
  unfold gMinL at e
  split at e
  · rename_i ds
    split at e
    · rename_i c r ei
      cases e
      obtain ⟨x, rfl, rr⟩ := rs.one
      obtain ⟨_, gd, a, G, rfl, L, g⟩ := itL_lok sm rr rfl
      obtain ⟨us, sq, rs'⟩ := L.sq _ _ _ sm g gd
      rw [reps_ints rs' ei] at sq
      refine ⟨a, c :: r, rfl, sq, by simp, fun m hm hy => ?_⟩
      obtain ⟨k1, k2⟩ := minI_ok r c
      have : m = minI c r := Int.le_antisymm (hy _ k1) (k2 _ hm)
      rw [this]
      exact k _ H φ (Step.refl _ _ _) sm (Rep.int _)
    · cases e
  · cases e
theorem ok_maxL : OkC K mg (rMax K) gMaxL := by
  intro φ h H xs as Q v h' sm rs e k
  unfold gMaxL at e
  split at e
  · rename_i ds
    split at e
    · rename_i c r ei
      cases e
      obtain ⟨x, rfl, rr⟩ := rs.one
      obtain ⟨_, gd, a, G, rfl, L, g⟩ := itL_lok sm rr rfl
      obtain ⟨us, sq, rs'⟩ := L.sq _ _ _ sm g gd
      rw [reps_ints rs' ei] at sq
      refine ⟨a, c :: r, rfl, sq, by simp, fun m hm hy => ?_⟩
      obtain ⟨k1, k2⟩ := maxI_ok r c
      have : m = maxI c r := Int.le_antisymm (k2 _ hm) (hy _ k1)
      rw [this]
      exact k _ H φ (Step.refl _ _ _) sm (Rep.int _)
    · cases e
  · cases e
end
theorem boolsOf_map {α : Type} (g : α → Bool) : ∀ xs : List α, boolsOf (xs.map fun x => .bool (g x)) = some (xs.map g)
  | [] => rfl
  | x :: xs => by
    show (boolsOf (xs.map fun x => .bool (g x))).map (g x :: ·) = _
    rw [boolsOf_map g xs]
    rfl
theorem intsOf_map {α : Type} (g : α → Int) : ∀ xs : List α, intsOf (xs.map fun x => .int (g x)) = some (xs.map g)
  | [] => rfl
  | x :: xs => by
    show (intsOf (xs.map fun x => .int (g x))).map (g x :: ·) = _
    rw [intsOf_map g xs]
    rfl
section
variable {Q : Vl → Hh → Prop} {h : Hh} {ds : List Da} {bs : List Bool} {ns : List Int} {a : Int}
theorem wo_all (e : boolsOf ds = some bs) (q : Q (.d (.bool (bs.all id))) h) : Wo (gAll [.d (.list ds)] h) Q := wo_eq (v := .d (.bool (bs.all id))) (h' := h) (by unfold gAll; dsimp only; rw [e]; rfl) q
theorem wo_any (e : boolsOf ds = some bs) (q : Q (.d (.bool (bs.any id))) h) : Wo (gAny [.d (.list ds)] h) Q := wo_eq (v := .d (.bool (bs.any id))) (h' := h) (by unfold gAny; dsimp only; rw [e]; rfl) q
theorem wo_sum (e : intsOf ds = some ns) (q : Q (.d (.int ns.sum)) h) : Wo (gSum [.d (.list ds)] h) Q := wo_eq (v := .d (.int ns.sum)) (h' := h) (by unfold gSum; dsimp only; rw [e]; rfl) q
theorem wo_minL (e : intsOf ds = some (a :: ns)) (q : Q (.d (.int (minI a ns))) h) : Wo (gMinL [.d (.list ds)] h) Q := wo_eq (v := .d (.int (minI a ns))) (h' := h) (by unfold gMinL; dsimp only; rw [e]) q
theorem wo_maxL (e : intsOf ds = some (a :: ns)) (q : Q (.d (.int (maxI a ns))) h) : Wo (gMaxL [.d (.list ds)] h) Q := wo_eq (v := .d (.int (maxI a ns))) (h' := h) (by unfold gMaxL; dsimp only; rw [e]) q
end
def repB (n : Nat) (k : Int) : Bool := decide (2 ≤ k) && decide (k ≤ 1000) && decide (0 < n) && decide (n ≤ 1000)
def gRepL : G2 := fun x y h => match x, y with
  | .r n, .d (.int k) => match h[n]? with
    | some (some (.lst ds)) => if repB ds.length k then some (.r h.length, h ++ [some (.lst (List.replicate k.toNat ds).flatten)]) else none
    | _ => none
  | _, _ => none
def gRepT : G2 := fun x y h => match x, y with
  | .d (.tuple ds), .d (.int k) => if repB ds.length k then some (.d (.tuple (List.replicate k.toNat ds).flatten), h) else none
  | _, _ => none
theorem repB_ok {n : Nat} {k : Int} (h : repB n k = true) : 2 ≤ k ∧ k ≤ 1000 ∧ 0 < n ∧ n ≤ 1000 := by
  unfold repB at h
  simp only [Bool.and_eq_true, decide_eq_true_eq] at h
  exact ⟨h.1.1.1, h.1.1.2, h.1.2, h.2⟩
section
variable {K : PySem.W.Frag}
theorem reps_rep {H : Hp} {M : Addr → Prop} {xs : List V} {ds : List Da} (r : Reps K H M xs ds) : ∀ m : Nat, Reps K H M (List.replicate m xs).flatten (List.replicate m ds).flatten
  | 0 => .nil
  | m + 1 => by
    rw [List.replicate_succ, List.replicate_succ, List.flatten_cons, List.flatten_cons]
    exact r.append (reps_rep r m)
theorem ok_repL : Ok2 K mg rRep gRepL := by
  intro φ h H x y a b Q v h' sm rx ry e k
  unfold gRepL at e
  split at e
  · rename_i n k0
    split at e
    · rename_i ds en
      split at e
      · rename_i hz
        cases e
        obtain ⟨z1, z2, z3, z4⟩ := repB_ok hz
        obtain ⟨pa, ea, rfl⟩ := rx
        obtain ⟨xs, e2, q⟩ := sm.at_ en ea
        have hl : xs.length * k0.toNat ≤ sizeLine := by
          rw [q.length]
          have : ds.length * k0.toNat ≤ 1000 * 1000 := Nat.mul_le_mul z4 (by omega)
          exact Nat.le_trans this (by decide)
        refine ⟨pa, k0, xs, rfl, VRep.int ry, e2, Int.le_trans (by decide) z1, Int.lt_of_le_of_lt z2 (by decide), hl, fun p hp => ?_⟩
        obtain ⟨s1, s2, s3⟩ := new_list sm (reps_rep q k0.toNat) hp
        exact k _ _ _ s1 s2 s3
      · cases e
    · cases e
  · cases e
theorem ok_repT : Ok2 K mg (rRepT K) gRepT := by
  intro φ h H x y a b Q v h' sm rx ry e k
  unfold gRepT at e
  split at e
  · rename_i ds k0
    split at e
    · rename_i hz
      cases e
      obtain ⟨z1, z2, z3, z4⟩ := repB_ok hz
      obtain ⟨pa, xs, rfl, sa, ra⟩ := VRep.tup rx
      have hne : xs ≠ [] := fun z => by
        have := ra.ne.mp z
        subst this
        exact absurd z3 (by decide)
      refine ⟨pa, k0, xs, rfl, VRep.int ry, sa, hne, z1, z2, by rw [ra.length]; exact z4, fun p hp => ?_⟩
      obtain ⟨s1, s2, s3⟩ := new_tup (mg := fun _ => none) sm (reps_rep ra k0.toNat) hp
      exact k _ _ _ s1 s2 s3
    · cases e
  · cases e
end
section
variable {Q : Vl → Hh → Prop} {h : Hh} {ds es : List Da} {k : Int} {n : Nat}
theorem wo_repT (hk : repB ds.length k = true) (e : (List.replicate k.toNat ds).flatten = es) (q : Q (.d (.tuple es)) h) : Wo (gRepT (.d (.tuple ds)) (.d (.int k)) h) Q :=
  wo_eq (v := .d (.tuple es)) (h' := h) (by unfold gRepT; dsimp only; rw [if_pos hk, e]) q
theorem wo_repE (hn : h.length = n) (hk : repB ds.length k = true) (e : (List.replicate k.toNat ds).flatten = es) (q : Q (.r (n + 1)) ((h ++ [some (.lst ds)]) ++ [some (.lst es)])) : Wo (gRepL (.r n) (.d (.int k)) (h ++ [some (.lst ds)])) Q := by
  subst hn
  refine wo_eq (v := .r (h.length + 1)) (h' := (h ++ [some (.lst ds)]) ++ [some (.lst es)]) ?_ q
  unfold gRepL
  have g : (h ++ [some (Ob.lst ds)])[h.length]? = some (some (.lst ds)) := by simp
  dsimp only
  rw [g]
  dsimp only
  rw [if_pos hk, e, List.length_append]
  rfl
end
theorem fzk_end2 {Q : Vl → Hh → Prop} {h : Hh} {es : List Da} {D : Nat} {o : Option Ob} (e : h.length = D) (q : Q (.d (.list es)) h) : FzK (.r (D + 1)) ((h ++ [o]) ++ [some (.lst es)]) D Q := by
  subst e
  have hl : (h ++ [o]).length = h.length + 1 := by simp
  refine ⟨.list es, (h ++ [o]) ++ [none], ?_, ?_⟩
  · have g : ((h ++ [o]) ++ [some (Ob.lst es)])[h.length + 1]? = some (some (.lst es)) := by rw [← hl]; simp
    have g2 : ((h ++ [o]) ++ [some (Ob.lst es)]).set (h.length + 1) none = (h ++ [o]) ++ [none] := by rw [← hl]; simp
    unfold fz
    dsimp only
    rw [g]
    dsimp only
    rw [g2]
  · rw [List.append_assoc, List.take_left' rfl]
    exact q
end Rk

/-! Rk29: whole multiples of powers, grains. -/
namespace Rk
open PySem PySem.Spec L2
def Mult (R : Ruler) (x : Rat) (g : Int) : Prop := ∃ k : Int, x = (k : Rat) * R.pw g
section
variable {R : Ruler} {x y a b : Rat} {n m : Nat} {g j : Int}
theorem mult_zero : Mult R 0 g := ⟨0, by rw [Rat.intCast_zero, Rat.zero_mul]⟩
theorem mult_den (O : R.Ok) : (x / R.pw g).den = 1 ↔ Mult R x g := by
  have hn := pw_ne O g
  constructor
  · intro h
    refine ⟨(x / R.pw g).num, ?_⟩
    have e : (((x / R.pw g).num : Int) : Rat) = x / R.pw g := by
      conv => rhs; rw [← Rat.num_divInt_den (x / R.pw g), h]
      rw [Rat.divInt_eq_div]
      simp only [Int.cast_ofNat_Int, Rat.intCast_one]
      grind
    rw [e]
    exact (div_mul' hn).symm
  · rintro ⟨k, e⟩
    have : x / R.pw g = (k : Rat) := by rw [e, Rat.div_def, Rat.mul_assoc, Rat.mul_inv_cancel _ hn, Rat.mul_one]
    rw [this, Rat.den_intCast]
theorem mult_down (O : R.Ok) (h : Mult R x g) (hj : j ≤ g) : Mult R x j := by
  obtain ⟨k, e⟩ := h
  obtain ⟨i, ei⟩ := pw_sub_int O hj
  exact ⟨k * i, by rw [Rat.intCast_mul, Rat.mul_assoc, ← ei]; exact e⟩
theorem mult_add' (hx : Mult R x g) (hy : Mult R y g) : Mult R (x + y) g := by
  obtain ⟨k, rfl⟩ := hx
  obtain ⟨i, rfl⟩ := hy
  exact ⟨k + i, by rw [Rat.intCast_add, Rat.add_mul]⟩
theorem mult_neg (hx : Mult R x g) : Mult R (-x) g := by
  obtain ⟨k, rfl⟩ := hx
  exact ⟨-k, by rw [Rat.intCast_neg, Rat.neg_mul]⟩
theorem mult_sub (hx : Mult R x g) (hy : Mult R y g) : Mult R (x - y) g := by
  rw [Rat.sub_eq_add_neg]
  exact mult_add' hx (mult_neg hy)
theorem mult_mul (O : R.Ok) (hx : Mult R x g) (hy : Mult R y j) : Mult R (x * y) (g + j) := by
  obtain ⟨k, rfl⟩ := hx
  obtain ⟨i, rfl⟩ := hy
  refine ⟨k * i, ?_⟩
  rw [Rat.intCast_mul, pw_add O]
  grind
theorem mult_abs (hx : Mult R x g) : Mult R x.abs g := by
  unfold Rat.abs
  split
  · exact hx
  · exact mult_neg hx
theorem mult_pw (O : R.Ok) (h : j ≤ g) : Mult R (R.pw g) j := mult_down O ⟨1, by rw [Rat.intCast_one, Rat.one_mul]⟩ h
theorem mult_pwI (k : Int) : Mult R ((k : Rat) * R.pw g) g := ⟨k, rfl⟩
theorem mult_ge (O : R.Ok) (h : Mult R x g) (h0 : x ≠ 0) : R.pw g ≤ x.abs := by
  obtain ⟨k, rfl⟩ := h
  have p := pw_pos O g
  have k0 : k ≠ 0 := fun z => h0 (by rw [z, Rat.intCast_zero, Rat.zero_mul])
  rw [abs_mulP p]
  have : (1 : Rat) ≤ (k : Rat).abs := by
    unfold Rat.abs
    split
    · rename_i z
      have z1 : 0 ≤ k := Rat.intCast_nonneg.mp z
      have : (1 : Int) ≤ k := by omega
      exact Rat.intCast_le_intCast.mpr this
    · rename_i z
      have z1 : ¬ 0 ≤ k := fun w => z (Rat.intCast_nonneg.mpr w)
      have : (1 : Int) ≤ -k := by omega
      have h2 := Rat.intCast_le_intCast.mpr this
      rw [Rat.intCast_neg] at h2
      exact h2
  have := Rat.mul_le_mul_of_nonneg_right this (Rat.le_of_lt p)
  rwa [Rat.one_mul] at this
theorem mult_top (O : R.Ok) (h : Mult R x g) (h0 : x ≠ 0) (b : BQ n x) : g < n := by
  have h1 := mult_ge O h h0
  have h2 := abs_lt_pw O b
  exact (pw_lt_iff O).mp (Std.lt_of_le_of_lt h1 h2)
def IsGrn (R : Ruler) (x : Rat) (g : Int) : Prop := Mult R x g ∧ ¬ Mult R x (g + 1)
noncomputable def Ruler.grn (R : Ruler) (x : Rat) : Int := Classical.epsilon (IsGrn R x)
theorem grn_uniq (O : R.Ok) (h1 : IsGrn R x g) (h2 : IsGrn R x j) : g = j := by
  rcases Int.lt_trichotomy g j with z | z | z
  · exact absurd (mult_down O h2.1 (show g + 1 ≤ j by omega)) h1.2
  · exact z
  · exact absurd (mult_down O h1.1 (show j + 1 ≤ g by omega)) h2.2
theorem grn_ex (O : R.Ok) (b : BQ n x) (h0 : x ≠ 0) : ∀ (k : Nat) (s : Int), Mult R x s → (n : Int) - s ≤ k → ∃ g, s ≤ g ∧ IsGrn R x g
  | 0, s, h, hk => by have := mult_top O h h0 b; omega
  | k + 1, s, h, hk => by
    by_cases z : Mult R x (s + 1)
    · obtain ⟨g, h1, h2⟩ := grn_ex O b h0 k (s + 1) z (by omega)
      exact ⟨g, by omega, h2⟩
    · exact ⟨s, Int.le_refl _, h, z⟩
theorem grn_ok (O : R.Ok) (b : BQ n x) (h0 : x ≠ 0) {s : Int} (h : Mult R x s) : IsGrn R x (R.grn x) ∧ s ≤ R.grn x ∧ R.grn x < n := by
  obtain ⟨g, h1, h2⟩ := grn_ex O b h0 (n - s).toNat s h (by omega)
  have h3 : IsGrn R x (R.grn x) := Classical.epsilon_spec ⟨g, h2⟩
  have e := grn_uniq O h3 h2
  exact ⟨h3, by rw [e]; exact h1, mult_top O h3.1 h0 b⟩
theorem grn_le (O : R.Ok) (b : BQ n x) (h0 : x ≠ 0) {s : Int} (h : Mult R x s) : s ≤ R.grn x := (grn_ok O b h0 h).2.1
theorem rnd_plc (R : Ruler) (x : Rat) : Mult R (R.rnd x) (R.plc x) := ⟨_, rfl⟩
theorem mark_plc (e : R.rnd x = x) : Mult R x (R.plc x) := by
  have := rnd_plc R x
  rwa [e] at this
theorem mark_low (O : R.Ok) (b : BQ n x) (e : R.rnd x = x) : Mult R x R.l := mult_down O (mark_plc e) (plc_bd O b).1
theorem rnd_low (O : R.Ok) (b : BQ n x) : Mult R (R.rnd x) R.l := mult_down O (rnd_plc R x) (plc_bd O b).1
/-- a whole multiple of the least step that is no greater than another number is no longer by much -/
theorem BQ_in (O : R.Ok) (h : Mult R x g) (hg : g.natAbs ≤ m) (b : BQ n y) (hy : x.abs ≤ y.abs) : BQ (n + 8 * m + 4) x := by
  obtain ⟨k, e⟩ := h
  have hp := BQ_pw O (E := m) hg
  have bk : Bd (n + 4 * m + 2) k := by
    by_cases k0 : k = 0
    · rw [k0]
      unfold Bd
      exact Nat.two_pow_pos _
    have p := pw_pos O g
    have e1 : (k : Rat) = x / R.pw g := by rw [e, Rat.div_def, Rat.mul_assoc, Rat.mul_inv_cancel _ (pw_ne O g), Rat.mul_one]
    have h1 : (k : Rat).abs ≤ y.abs / R.pw g := by
      have e2 : x.abs = (k : Rat).abs * R.pw g := by rw [e, abs_mulP p]
      have e3 : (k : Rat).abs = x.abs / R.pw g := by rw [e2, Rat.div_def, Rat.mul_assoc, Rat.mul_inv_cancel _ (pw_ne O g), Rat.mul_one]
      rw [e3, Rat.div_def, Rat.div_def]
      exact Rat.mul_le_mul_of_nonneg_right hy (Rat.le_of_lt (Rat.inv_pos.mpr p))
    have b2 : BQ (n + (4 * m + 1)) (y.abs / R.pw g) := b.abs.div' hp
    have h2 := fl_lt (y.abs / R.pw g)
    have b3 := bd_floor b2
    have h3 : (k : Rat).abs = ((k.natAbs : Int) : Rat) := by
      unfold Rat.abs
      split
      · rename_i z
        have z1 : 0 ≤ k := Rat.intCast_nonneg.mp z
        rw [show ((k.natAbs : Int)) = k by omega]
      · rename_i z
        have z1 : ¬ 0 ≤ k := fun w => z (Rat.intCast_nonneg.mpr w)
        rw [show ((k.natAbs : Int)) = -k by omega, Rat.intCast_neg]
    rw [h3] at h1
    have h4 : ((k.natAbs : Int) : Rat) < (((y.abs / R.pw g).floor + 1 : Int) : Rat) := by
      rw [Rat.intCast_add]
      exact Std.lt_of_le_of_lt h1 h2
    have h5 : (k.natAbs : Int) < (y.abs / R.pw g).floor + 1 := Rat.intCast_lt_intCast.mp h4
    unfold Bd at b3 ⊢
    have : (2 : Nat) ^ (n + (4 * m + 1)) ≤ 2 ^ (n + 4 * m + 2) := Nat.pow_le_pow_right (by decide) (by omega)
    omega
  rw [e]
  have := (BQ.i bk).mul' hp
  exact BQ.mono this (by omega)
noncomputable def grnV (R : Ruler) (x : Rat) : Option Int := if x = 0 then none else some (R.grn x)
noncomputable def spnG (R : Ruler) (a b : Rat) : Option Int := if a = b then grnV R a else if a ≤ 0 ∧ 0 ≤ b then some R.l else some (R.plc (mn a.abs b.abs))
/-- every number of the span that is rounded is a whole multiple by the span's grain -/
theorem spnG_ok (O : R.Ok) (ba : BQ n a) (bx : BQ m x) (ma : R.rnd a = a) (h1 : a ≤ x) (h2 : x ≤ b) (bb : BQ m b) (hg : spnG R a b = some g) : Mult R (R.rnd x) g := by
  unfold spnG at hg
  by_cases c1 : a = b
  · rw [if_pos c1] at hg
    have e : x = a := Rat.le_antisymm (by rw [c1]; exact h2) h1
    rw [e, ma]
    unfold grnV at hg
    by_cases c2 : a = 0
    · rw [if_pos c2] at hg; cases hg
    · rw [if_neg c2] at hg
      cases hg
      exact (grn_ok O ba c2 (mark_plc ma)).1.1
  rw [if_neg c1] at hg
  by_cases c2 : a ≤ 0 ∧ 0 ≤ b
  · rw [if_pos c2] at hg
    cases hg
    exact rnd_low O bx
  · rw [if_neg c2] at hg
    cases hg
    have h3 : mn a.abs b.abs ≤ x.abs := by
      unfold mn Rat.abs
      grind
    have h4 : (mn a.abs b.abs).abs = mn a.abs b.abs := by
      unfold mn Rat.abs
      grind
    exact mult_down O (rnd_plc R x) (plc_mono O (n := max n m) (BQ.mn ba.abs bb.abs) bx (by rw [h4]; exact h3))
end
section
variable {α : Type} {h : Hh} {Q : Vl → Hh → Prop}
theorem atI_neg {xs : List α} {k : Nat} {v : α} (hk : 0 < k) (hl : k ≤ xs.length) (e : xs[xs.length - k]? = some v) : atI xs (-(k : Int)) = some v := by
  unfold atI ixN
  rw [if_neg (by omega), if_pos (by omega)]
  show xs[(-(k : Int) + xs.length).toNat]? = some v
  rw [show (-(k : Int) + xs.length).toNat = xs.length - k by omega]
  exact e
theorem wo_ilm1 {zs : List Da} {a : Da} (q : Q (.d a) h) : Wo (gIx (.d (.list (zs ++ [a]))) (.d (.int (-1))) h) Q :=
  wo_eq (by show (atI (zs ++ [a]) (-((1 : Nat) : Int))).map _ = _; rw [atI_neg (v := a) (by decide) (by simp) (by simp)]; rfl) q
theorem wo_ilm2 {zs : List Da} {a b : Da} (q : Q (.d a) h) : Wo (gIx (.d (.list (zs ++ [a, b]))) (.d (.int (-2))) h) Q :=
  wo_eq (by show (atI (zs ++ [a, b]) (-((2 : Nat) : Int))).map _ = _; rw [atI_neg (v := a) (by decide) (by simp) (by simp)]; rfl) q
theorem wo_ilm1' {zs : List Da} {a b : Da} (q : Q (.d b) h) : Wo (gIx (.d (.list (zs ++ [a, b]))) (.d (.int (-1))) h) Q :=
  wo_eq (by show (atI (zs ++ [a, b]) (-((1 : Nat) : Int))).map _ = _; rw [atI_neg (v := b) (by decide) (by simp) (by simp)]; rfl) q
end
theorem pw_fullR {R : Ruler} (O : R.Ok) : ∃ N : Nat, (R.pw R.f).num = (N : Int) ∧ R.pw R.f = ((N : Int) : Rat) ∧ 2 ≤ N ∧ N < 2 ^ 97 := by
  refine ⟨R.b ^ R.f, ?_, ?_, ?_, ?_⟩
  · rw [pw_nat R.f, ← Rat.intCast_natCast, Rat.num_intCast]
  · rw [pw_nat R.f, ← Rat.intCast_natCast]
  · have h1 := O.b2
    have h2 := O.f1
    exact Nat.le_trans h1 (Nat.le_self_pow (by omega) _)
  · have h1 := O.b16
    have h2 := O.f24
    have e1 : R.b ^ R.f ≤ 16 ^ R.f := Nat.pow_le_pow_left h1 _
    have e2 : 16 ^ R.f ≤ 16 ^ 24 := Nat.pow_le_pow_right (by decide) h2
    have e3 : (16 : Nat) ^ 24 < 2 ^ 97 := by decide
    omega
theorem abs_intR (k : Int) : (k : Rat).abs = ((k.natAbs : Int) : Rat) := by
  unfold Rat.abs
  split
  · rename_i z
    have z1 : 0 ≤ k := Rat.intCast_nonneg.mp z
    rw [show ((k.natAbs : Int)) = k by omega]
  · rename_i z
    have z1 : ¬ 0 ≤ k := fun w => z (Rat.intCast_nonneg.mpr w)
    rw [show ((k.natAbs : Int)) = -k by omega, Rat.intCast_neg]
/-- so many steps, no more than the figures are enough for: a mark -/
theorem mark_steps {R : Ruler} (O : R.Ok) {N n : Nat} (eN : R.pw R.f = ((N : Int) : Rat)) {k g : Int} (hk : k.natAbs ≤ N) (hg : R.l ≤ g) (b : BQ n ((k : Rat) * R.pw g)) : R.rnd ((k : Rat) * R.pw g) = (k : Rat) * R.pw g := by
  refine mark_mult O b hg rfl ?_
  rw [abs_mulP (pw_pos O g), pw_add O, Rat.mul_comm (R.pw g), eN, abs_intR]
  exact Rat.mul_le_mul_of_nonneg_right (Rat.intCast_le_intCast.mpr (by omega)) (Rat.le_of_lt (pw_pos O g))
end Rk

/-! Rk30: data without truths, its equality. -/
namespace Rk
open PySem PySem.Spec L2
mutual
def noB : Da → Bool
  | .none | .int _ | .str _ => true
  | .bool _ | .dict _ => false
  | .list xs | .tuple xs => noBs xs
def noBs : List Da → Bool
  | [] => true
  | x :: xs => noB x && noBs xs
end
mutual
theorem eqv_noB : ∀ (a b : Da), noB a = true → noB b = true → (PyData.eqv a b = true ↔ a = b)
  | .none, b, _, hb => by cases b <;> simp_all [PyData.eqv, noB]
  | .int i, b, _, hb => by cases b <;> simp_all [PyData.eqv, noB]
  | .str s, b, _, hb => by cases b <;> simp_all [PyData.eqv, noB]
  | .list xs, b, ha, hb => by
    cases b with
    | list ys =>
      have := eqv_noBs xs ys (by simpa [noB] using ha) (by simpa [noB] using hb)
      simp [PyData.eqv, this]
    | _ => simp_all [PyData.eqv, noB]
  | .tuple xs, b, ha, hb => by
    cases b with
    | tuple ys =>
      have := eqv_noBs xs ys (by simpa [noB] using ha) (by simpa [noB] using hb)
      simp [PyData.eqv, this]
    | _ => simp_all [PyData.eqv, noB]
  | .bool b, _, h, _ => by simp [noB] at h
  | .dict kvs, _, h, _ => by simp [noB] at h
theorem eqv_noBs : ∀ (a b : List Da), noBs a = true → noBs b = true → (PyData.eqvAll a b = true ↔ a = b)
  | [], [], _, _ => by simp [PyData.eqvAll]
  | [], _ :: _, _, _ => by simp [PyData.eqvAll]
  | _ :: _, [], _, _ => by simp [PyData.eqvAll]
  | x :: xs, y :: ys, ha, hb => by
    simp only [noBs, Bool.and_eq_true] at ha hb
    have h1 := eqv_noB x y ha.1 hb.1
    have h2 := eqv_noBs xs ys ha.2 hb.2
    simp [PyData.eqvAll, h1, h2]
end
mutual
theorem eqv_self : ∀ (a : Da), a.canLay0 = true → PyData.eqv a a = true
  | .none, _ => by simp [PyData.eqv]
  | .int i, _ => by simp [PyData.eqv]
  | .str s, _ => by simp [PyData.eqv]
  | .bool b, _ => by simp [PyData.eqv]
  | .list xs, h => by
    have := eqv_selfs xs (by simpa [PyData.canLay0] using h)
    simp [PyData.eqv, this]
  | .tuple xs, h => by
    have := eqv_selfs xs (by simpa [PyData.canLay0] using h)
    simp [PyData.eqv, this]
  | .dict kvs, h => by simp [PyData.canLay0] at h
theorem eqv_selfs : ∀ (a : List Da), PyData.canLayAll0 a = true → PyData.eqvAll a a = true
  | [], _ => by simp [PyData.eqvAll]
  | x :: xs, h => by
    simp only [PyData.canLayAll0, Bool.and_eq_true] at h
    simp [PyData.eqvAll, eqv_self x h.1, eqv_selfs xs h.2]
end
mutual
theorem nd_lay : ∀ (a : Da), a.canLay0 = true → a.hasDict = false
  | .none, _ => rfl
  | .int i, _ => rfl
  | .str s, _ => rfl
  | .bool b, _ => rfl
  | .list xs, h => by
    unfold PyData.hasDict
    exact nd_lays xs (by simpa [PyData.canLay0] using h)
  | .tuple xs, h => by
    unfold PyData.hasDict
    exact nd_lays xs (by simpa [PyData.canLay0] using h)
  | .dict kvs, h => by simp [PyData.canLay0] at h
theorem nd_lays : ∀ (a : List Da), PyData.canLayAll0 a = true → PyData.hasDictAll a = false
  | [], _ => rfl
  | x :: xs, h => by
    simp only [PyData.canLayAll0, Bool.and_eq_true] at h
    unfold PyData.hasDictAll
    rw [nd_lay x h.1, nd_lays xs h.2]
    rfl
end
/-- data that may be laid and compared: p tells whether it is without truths -/
structure Ly (p : Bool) (e : Nat) (x : Da) : Prop where
  s : x.canLay0 = true
  d : x.depth ≤ e
  n : p = true → noB x = true
structure LyL (p : Bool) (e : Nat) (ds : List Da) : Prop where
  s : PyData.canLayAll0 ds = true
  d : PyData.depthAll ds ≤ e
  n : p = true → noBs ds = true
section
variable {p : Bool} {e e' : Nat} {x y : Da} {ds es : List Da} {i : Int} {r : Rat}
theorem Ly.none : Ly p 0 .none := ⟨by simp [PyData.canLay0], by simp [PyData.depth], fun _ => by simp [noB]⟩
theorem Ly.int : Ly p 0 (.int i) := ⟨by simp [PyData.canLay0], by simp [PyData.depth], fun _ => by simp [noB]⟩
theorem Ly.bool {b : Bool} : Ly false 0 (.bool b) := ⟨by simp [PyData.canLay0], by simp [PyData.depth], fun h => by cases h⟩
theorem Ly.str {s : Str} (h : PyData.strOk s = true) : Ly p 0 (.str s) := ⟨by simp [PyData.canLay0, h], by simp [PyData.depth], fun _ => by simp [noB]⟩
theorem LyL.nil : LyL p 0 [] := ⟨by simp [PyData.canLayAll0], by simp [PyData.depthAll], fun _ => by simp [noBs]⟩
theorem LyL.cons (h : Ly p e x) (t : LyL p e' ds) : LyL p (max e e') (x :: ds) := ⟨by simp [PyData.canLayAll0, h.s, t.s], by
  have h1 := h.d
  have h2 := t.d
  simp only [PyData.depthAll]
  omega, fun z => by simp [noBs, h.n z, t.n z]⟩
theorem Ly.tup (t : LyL p e ds) : Ly p (e + 1) (.tuple ds) := ⟨by simp [PyData.canLay0, t.s], by
  have h2 := t.d
  simp only [PyData.depth]
  omega, fun z => by simp [noB, t.n z]⟩
theorem Ly.lst (t : LyL p e ds) : Ly p (e + 1) (.list ds) := ⟨by simp [PyData.canLay0, t.s], by
  have h2 := t.d
  simp only [PyData.depth]
  omega, fun z => by simp [noB, t.n z]⟩
theorem Ly.Q : Ly p 1 (Q r) := Ly.tup (LyL.cons .int (LyL.cons .int .nil))
theorem Ly.mono (h : Ly p e x) (hl : e ≤ e') : Ly p e' x := ⟨h.s, Nat.le_trans h.d hl, h.n⟩
theorem LyL.of (h : ∀ d ∈ ds, Ly p e d) : LyL p e ds := by
  induction ds with
  | nil => exact ⟨LyL.nil (p := p).s, Nat.le_trans (LyL.nil (p := p)).d (Nat.zero_le _), (LyL.nil (p := p)).n⟩
  | cons d ds ih =>
    have := LyL.cons (h d (List.mem_cons_self ..)) (ih fun z hz => h z (List.mem_cons_of_mem _ hz))
    rwa [Nat.max_self] at this
theorem Ly.sh (h : Ly p e x) (he : e ≤ 64) : sh x = true := by
  unfold Rk.sh SeqAt.shaped
  rw [h.s, decide_eq_true (Nat.le_trans h.d he), nd_lay x h.s]
  rfl
variable {Q : Vl → Hh → Prop} {h : Hh}
theorem gEq_d (x y : Da) (h : Hh) (b : Bool) (e : eqvB x y = some b) (hs : ∀ a c, x = .str a → y = .str c → b = decide (a = c)) : gEq (.d x) (.d y) h = some (.d (.bool b), h) := by
  unfold gEq
  split
  · rename_i a c e1 e2
    cases e1
    cases e2
    rw [hs a c rfl rfl]
  · rename_i hh
    simp only [asD]
    rw [e]
    rfl
theorem gNe_d (x y : Da) (h : Hh) (b : Bool) (e : eqvB x y = some b) (hs : ∀ a c, x = .str a → y = .str c → b = decide (a = c)) : gNe (.d x) (.d y) h = some (.d (.bool (!b)), h) := by
  unfold gNe
  split
  · rename_i a c e1 e2
    cases e1
    cases e2
    rw [hs a c rfl rfl]
  · rename_i hh
    simp only [asD]
    rw [e]
    rfl
theorem eqvB_self (hx : Ly p e x) (he : e ≤ 64) : eqvB x x = some true := by
  unfold eqvB
  rw [hx.sh he, eqv_self x hx.s]
  rfl
open Classical in
theorem eqvB_p (hx : Ly true e x) (hy : Ly true e' y) (he : e ≤ 64) (he' : e' ≤ 64) : eqvB x y = some (decide (x = y)) := by
  unfold eqvB
  rw [hx.sh he, hy.sh he']
  have := eqv_noB x y (hx.n rfl) (hy.n rfl)
  simp only [Bool.and_self, if_true, Option.some.injEq]
  rw [Bool.eq_iff_iff, this, decide_eq_true_iff]
theorem wo_eqSelf (hx : Ly p e x) (he : e ≤ 64) (q : Q (.d (.bool true)) h) : Wo (gEq (.d x) (.d x) h) Q := wo_eq (gEq_d x x h true (eqvB_self hx he) (fun a c e1 e2 => by rw [e1] at e2; cases e2; simp)) q
theorem wo_neSelf (hx : Ly p e x) (he : e ≤ 64) (q : Q (.d (.bool false)) h) : Wo (gNe (.d x) (.d x) h) Q := wo_eq (gNe_d x x h true (eqvB_self hx he) (fun a c e1 e2 => by rw [e1] at e2; cases e2; simp)) q
open Classical in
theorem wo_eqP (hx : Ly true e x) (hy : Ly true e' y) (he : e ≤ 64) (he' : e' ≤ 64) (q : Q (.d (.bool (decide (x = y)))) h) : Wo (gEq (.d x) (.d y) h) Q := wo_eq (gEq_d x y h _ (eqvB_p hx hy he he') (fun a c e1 e2 => by subst e1; subst e2; simp)) q
open Classical in
theorem wo_neP (hx : Ly true e x) (hy : Ly true e' y) (he : e ≤ 64) (he' : e' ≤ 64) (q : Q (.d (.bool (!decide (x = y)))) h) : Wo (gNe (.d x) (.d y) h) Q := wo_eq (gNe_d x y h _ (eqvB_p hx hy he he') (fun a c e1 e2 => by subst e1; subst e2; simp)) q
end
end Rk

/-! Rk31: more rules by wishes. -/
namespace Rk
open PySem PySem.Spec L2
theorem wp_lcE {Q : Vl → Hh → Prop} {E : XP} {ρ : En} {h : Hh} {i : Iv} {g : Gv} {tt : Tv} {fe : Ev} {ws : List Nat} {ρ0 : En} (e00 : wipeE ρ ws = ρ0) (w : Wp (i ρ h) (fun m h1 => ∃ (α : Type) (xs : List α) (f g' : α → Da) (P : α → Bool), m = ⟨xs.map f, none⟩ ∧ xs.length ≤ 16777216 ∧ h1.length = h.length ∧
      (∀ x ∈ xs, ∀ h', GvK (g (.d (f x)) ρ0 h') fun ρ1 h2 => h2 = h' ∧ Wp (tt ρ1 h') (fun b h3 => h3 = h' ∧ b = P x) NX ∧ (P x = true → Wp (fe ρ1 h') (fun v h3 => h3 = h' ∧ v = .d (g' x)) NX)) ∧
      Q (.d (.list ((xs.filter P).map g'))) h1) (fun c fs h1 => E c fs (h1.take h.length))) : Wp (eFz (eLc ws i g tt fe) ρ h) Q E := by
  have key : ∀ (m : Itm) (h1 : Hh), i ρ h = .ok m h1 → (∃ (α : Type) (xs : List α) (f g' : α → Da) (P : α → Bool), m = ⟨xs.map f, none⟩ ∧ xs.length ≤ 16777216 ∧ h1.length = h.length ∧
      (∀ x ∈ xs, ∀ h', GvK (g (.d (f x)) ρ0 h') fun ρ1 h2 => h2 = h' ∧ Wp (tt ρ1 h') (fun b h3 => h3 = h' ∧ b = P x) NX ∧ (P x = true → Wp (fe ρ1 h') (fun v h3 => h3 = h' ∧ v = .d (g' x)) NX)) ∧
      Q (.d (.list ((xs.filter P).map g'))) h1) → Wp (eFz (eLc ws i g tt fe) ρ h) Q E := by
    rintro m h1 e ⟨α, xs, f, g', P, w⟩
    refine wp_lcT xs f g' P e00 ?_
    rw [e]
    exact ⟨w⟩
  cases e : i ρ h with
  | no => rw [e] at w; exact w.w.elim
  | ex c fs h1 =>
    rw [e] at w
    refine wp_fz (wp_bind ?_)
    rw [e]
    exact ⟨w.w⟩
  | ok m h1 =>
    rw [e] at w
    exact key m h1 e w.w
theorem wo_neNo {Q : Vl → Hh → Prop} {h : Hh} {x y : Da} {e e' : Nat} (hx : Ly true e x) (hy : Ly true e' y) (he : e ≤ 64) (he' : e' ≤ 64) (ne : x ≠ y) (q : Q (.d (.bool true)) h) : Wo (gNe (.d x) (.d y) h) Q := wo_neP hx hy he he' (by simp only [ne, decide_false, Bool.not_false]; exact q)
theorem wo_eqNo {Q : Vl → Hh → Prop} {h : Hh} {x y : Da} {e e' : Nat} (hx : Ly true e x) (hy : Ly true e' y) (he : e ≤ 64) (he' : e' ≤ 64) (ne : x ≠ y) (q : Q (.d (.bool false)) h) : Wo (gEq (.d x) (.d y) h) Q := wo_eqP hx hy he he' (by simp only [ne, decide_false]; exact q)
theorem wo_eqSS {Q : Vl → Hh → Prop} {h : Hh} {x : Str} (q : Q (.d (.bool true)) h) : Wo (gEq (.d (.str x)) (.d (.str x)) h) Q := wo_eqS (by rw [decide_eq_true rfl]; exact q)
theorem wo_neSS {Q : Vl → Hh → Prop} {h : Hh} {x : Str} (q : Q (.d (.bool false)) h) : Wo (gNe (.d (.str x)) (.d (.str x)) h) Q := wo_neS (by rw [decide_eq_true rfl]; exact q)
theorem wo_rep2 {Q : Vl → Hh → Prop} {h : Hh} {n : Nat} {x : Da} (hn : h.length = n) (q : Q (.r (n + 1)) ((h ++ [some (.lst [x])]) ++ [some (.lst [x, x])])) : Wo (gRepL (.r n) (.d (.int 2)) (h ++ [some (.lst [x])])) Q := wo_repE (es := [x, x]) hn rfl rfl q
theorem lck_putS {D n : Nat} {g : Gv} {fe : Ev} {ρ0 : En} {ds acc l : List Da} {hb : Hh} {o : Option Ob} {Q : Vl → Hh → Prop} {x : Da} (hn : n < hb.length) (e : acc ++ [x] = l) (hl : (hb.set n o).length = D) (ha : acc.length < 16777216) (w : LcK D g fe ρ0 ds l (hb.set n o) Q) : ∃ y hb', (Vl.d x) = .d y ∧ (hb ++ [some (Ob.lst acc)]).set n o = hb' ++ [some (.lst acc)] ∧ hb'.length = D ∧ acc.length < 16777216 ∧ LcK D g fe ρ0 ds (acc ++ [y]) hb' Q := by
  rw [set_app hn]
  exact lck_put e hl ha w
theorem retK_nil {h : Hh} {x : Da} {Q : Vl → Hh → Prop} (q : Q (.d x) []) : RetK ([] : Hh).length Q (.d x) h := ⟨.d x, [], by show Out.ok _ _ = _; simp, q⟩
theorem many_nat (n c : Nat) (hc : 1 ≤ c) : ∃ m : Nat, max 1 (min (n : Int) (c : Int)) = (m : Int) ∧ 1 ≤ m ∧ m ≤ c := ⟨max 1 (min n c), by omega, by omega, by omega⟩

section
variable {α : Type} {Q : Vl → Hh → Prop} {h : Hh} {xs ys : List Da} {ρ : En} {N : En → Hh → Prop}
theorem cut_to (xs : List α) (k : Nat) : cutD xs none (some (k : Int)) = xs.take k := by
  unfold cutD
  rw [HT.sIx_nat, HT.sIx_none, List.drop_zero, Nat.sub_zero]
  by_cases h : k ≤ xs.length
  · rw [Nat.min_eq_left h]
  · rw [Nat.min_eq_right (by omega), List.take_length, List.take_of_length_le (by omega)]
theorem cut_from (xs : List α) (k : Nat) : cutD xs (some (k : Int)) none = xs.drop k := by
  unfold cutD
  rw [HT.sIx_nat, HT.sIx_none]
  by_cases h : k ≤ xs.length
  · rw [Nat.min_eq_left h, List.take_of_length_le (by rw [List.length_drop]; omega)]
  · rw [Nat.min_eq_right (by omega), List.drop_of_length_le (by omega), List.drop_of_length_le (by omega), List.take_nil]
theorem cut_mid (xs : List α) (i j : Nat) : cutD xs (some (i : Int)) (some (j : Int)) = (xs.drop i).take (j - i) := by
  unfold cutD
  rw [HT.sIx_nat, HT.sIx_nat]
  by_cases h2 : i ≤ xs.length
  · rw [Nat.min_eq_left h2]
    by_cases h : j ≤ xs.length
    · rw [Nat.min_eq_left h]
    · rw [List.take_of_length_le (by rw [List.length_drop]; omega), List.take_of_length_le (by rw [List.length_drop]; omega)]
  · rw [List.drop_of_length_le (by omega), List.drop_of_length_le (by omega), List.take_nil, List.take_nil]
theorem cut_to0 (xs : List α) : cutD xs none (some 0) = xs.take 0 := cut_to xs 0
theorem cut_from0 (xs : List α) : cutD xs (some 0) none = xs.drop 0 := cut_from xs 0
theorem cut_to1 (xs : List α) : cutD xs none (some 1) = xs.take 1 := cut_to xs 1
theorem cut_from1 (xs : List α) : cutD xs (some 1) none = xs.drop 1 := cut_from xs 1
theorem cut_to2 (xs : List α) : cutD xs none (some 2) = xs.take 2 := cut_to xs 2
theorem cut_from2 (xs : List α) : cutD xs (some 2) none = xs.drop 2 := cut_from xs 2
theorem cut_to3 (xs : List α) : cutD xs none (some 3) = xs.take 3 := cut_to xs 3
theorem cut_from3 (xs : List α) : cutD xs (some 3) none = xs.drop 3 := cut_from xs 3
theorem cut_to4 (xs : List α) : cutD xs none (some 4) = xs.take 4 := cut_to xs 4
theorem cut_from4 (xs : List α) : cutD xs (some 4) none = xs.drop 4 := cut_from xs 4
theorem cut_to5 (xs : List α) : cutD xs none (some 5) = xs.take 5 := cut_to xs 5
theorem cut_from5 (xs : List α) : cutD xs (some 5) none = xs.drop 5 := cut_from xs 5
theorem cut_to6 (xs : List α) : cutD xs none (some 6) = xs.take 6 := cut_to xs 6
theorem cut_from6 (xs : List α) : cutD xs (some 6) none = xs.drop 6 := cut_from xs 6
theorem cut_to7 (xs : List α) : cutD xs none (some 7) = xs.take 7 := cut_to xs 7
theorem cut_from7 (xs : List α) : cutD xs (some 7) none = xs.drop 7 := cut_from xs 7
theorem cut_to8 (xs : List α) : cutD xs none (some 8) = xs.take 8 := cut_to xs 8
theorem cut_from8 (xs : List α) : cutD xs (some 8) none = xs.drop 8 := cut_from xs 8
theorem cut_to9 (xs : List α) : cutD xs none (some 9) = xs.take 9 := cut_to xs 9
theorem cut_from9 (xs : List α) : cutD xs (some 9) none = xs.drop 9 := cut_from xs 9
theorem cut_0_1 (xs : List α) : cutD xs (some 0) (some 1) = (xs.drop 0).take 1 := cut_mid xs 0 1
theorem cut_0_2 (xs : List α) : cutD xs (some 0) (some 2) = (xs.drop 0).take 2 := cut_mid xs 0 2
theorem cut_0_3 (xs : List α) : cutD xs (some 0) (some 3) = (xs.drop 0).take 3 := cut_mid xs 0 3
theorem cut_0_4 (xs : List α) : cutD xs (some 0) (some 4) = (xs.drop 0).take 4 := cut_mid xs 0 4
theorem cut_0_5 (xs : List α) : cutD xs (some 0) (some 5) = (xs.drop 0).take 5 := cut_mid xs 0 5
theorem cut_0_6 (xs : List α) : cutD xs (some 0) (some 6) = (xs.drop 0).take 6 := cut_mid xs 0 6
theorem cut_1_2 (xs : List α) : cutD xs (some 1) (some 2) = (xs.drop 1).take 1 := cut_mid xs 1 2
theorem cut_1_3 (xs : List α) : cutD xs (some 1) (some 3) = (xs.drop 1).take 2 := cut_mid xs 1 3
theorem cut_1_4 (xs : List α) : cutD xs (some 1) (some 4) = (xs.drop 1).take 3 := cut_mid xs 1 4
theorem cut_1_5 (xs : List α) : cutD xs (some 1) (some 5) = (xs.drop 1).take 4 := cut_mid xs 1 5
theorem cut_1_6 (xs : List α) : cutD xs (some 1) (some 6) = (xs.drop 1).take 5 := cut_mid xs 1 6
theorem cut_2_3 (xs : List α) : cutD xs (some 2) (some 3) = (xs.drop 2).take 1 := cut_mid xs 2 3
theorem cut_2_4 (xs : List α) : cutD xs (some 2) (some 4) = (xs.drop 2).take 2 := cut_mid xs 2 4
theorem cut_2_5 (xs : List α) : cutD xs (some 2) (some 5) = (xs.drop 2).take 3 := cut_mid xs 2 5
theorem cut_2_6 (xs : List α) : cutD xs (some 2) (some 6) = (xs.drop 2).take 4 := cut_mid xs 2 6
theorem cut_3_4 (xs : List α) : cutD xs (some 3) (some 4) = (xs.drop 3).take 1 := cut_mid xs 3 4
theorem cut_3_5 (xs : List α) : cutD xs (some 3) (some 5) = (xs.drop 3).take 2 := cut_mid xs 3 5
theorem cut_3_6 (xs : List α) : cutD xs (some 3) (some 6) = (xs.drop 3).take 3 := cut_mid xs 3 6
theorem cut_4_5 (xs : List α) : cutD xs (some 4) (some 5) = (xs.drop 4).take 1 := cut_mid xs 4 5
theorem cut_4_6 (xs : List α) : cutD xs (some 4) (some 6) = (xs.drop 4).take 2 := cut_mid xs 4 6
theorem cut_5_6 (xs : List α) : cutD xs (some 5) (some 6) = (xs.drop 5).take 1 := cut_mid xs 5 6
theorem wo_slT' {lo hi : Option Int} (e : cutD xs lo hi = ys) (q : Q (.d (.tuple ys)) h) : Wo (gSl (.d (.tuple xs)) lo hi h) Q := by subst e; exact q
theorem wo_slL' {lo hi : Option Int} (e : cutD xs lo hi = ys) (q : Q (.r h.length) (h ++ [some (.lst ys)])) : Wo (gSl (.d (.list xs)) lo hi h) Q := by subst e; exact q
theorem gk_tup4 {i0 i1 i2 i3 : Nat} {d0 d1 d2 d3 : Da} (w : SetK i0 ρ (.d d0) h fun ρ1 h1 => SetK i1 ρ1 (.d d1) h1 fun ρ2 h2 => SetK i2 ρ2 (.d d2) h2 fun ρ3 h3 => SetK i3 ρ3 (.d d3) h3 N) : GvK (gTupT 4 (gsCons (gN i0) (gsCons (gN i1) (gsCons (gN i2) (gsCons (gN i3) gsNil)))) (.d (.tuple [d0, d1, d2, d3])) ρ h) N := w
theorem gk_tup5 {i0 i1 i2 i3 i4 : Nat} {d0 d1 d2 d3 d4 : Da} (w : SetK i0 ρ (.d d0) h fun ρ1 h1 => SetK i1 ρ1 (.d d1) h1 fun ρ2 h2 => SetK i2 ρ2 (.d d2) h2 fun ρ3 h3 => SetK i3 ρ3 (.d d3) h3 fun ρ4 h4 => SetK i4 ρ4 (.d d4) h4 N) : GvK (gTupT 5 (gsCons (gN i0) (gsCons (gN i1) (gsCons (gN i2) (gsCons (gN i3) (gsCons (gN i4) gsNil))))) (.d (.tuple [d0, d1, d2, d3, d4])) ρ h) N := w
theorem gk_tup6 {i0 i1 i2 i3 i4 i5 : Nat} {d0 d1 d2 d3 d4 d5 : Da} (w : SetK i0 ρ (.d d0) h fun ρ1 h1 => SetK i1 ρ1 (.d d1) h1 fun ρ2 h2 => SetK i2 ρ2 (.d d2) h2 fun ρ3 h3 => SetK i3 ρ3 (.d d3) h3 fun ρ4 h4 => SetK i4 ρ4 (.d d4) h4 fun ρ5 h5 => SetK i5 ρ5 (.d d5) h5 N) : GvK (gTupT 6 (gsCons (gN i0) (gsCons (gN i1) (gsCons (gN i2) (gsCons (gN i3) (gsCons (gN i4) (gsCons (gN i5) gsNil)))))) (.d (.tuple [d0, d1, d2, d3, d4, d5])) ρ h) N := w
theorem gk_tup7 {i0 i1 i2 i3 i4 i5 i6 : Nat} {d0 d1 d2 d3 d4 d5 d6 : Da} (w : SetK i0 ρ (.d d0) h fun ρ1 h1 => SetK i1 ρ1 (.d d1) h1 fun ρ2 h2 => SetK i2 ρ2 (.d d2) h2 fun ρ3 h3 => SetK i3 ρ3 (.d d3) h3 fun ρ4 h4 => SetK i4 ρ4 (.d d4) h4 fun ρ5 h5 => SetK i5 ρ5 (.d d5) h5 fun ρ6 h6 => SetK i6 ρ6 (.d d6) h6 N) : GvK (gTupT 7 (gsCons (gN i0) (gsCons (gN i1) (gsCons (gN i2) (gsCons (gN i3) (gsCons (gN i4) (gsCons (gN i5) (gsCons (gN i6) gsNil))))))) (.d (.tuple [d0, d1, d2, d3, d4, d5, d6])) ρ h) N := w
theorem wo_ix6 {a0 a1 a2 a3 a4 a5 a6 : Da} {l : List Da} (q : Q (.d a6) h) : Wo (gIx (.d (.tuple (a0 :: a1 :: a2 :: a3 :: a4 :: a5 :: a6 :: l))) (.d (.int 6)) h) Q := wo_eq (gIx_nat (k := 6) rfl) q
theorem wo_ix7 {a0 a1 a2 a3 a4 a5 a6 a7 : Da} {l : List Da} (q : Q (.d a7) h) : Wo (gIx (.d (.tuple (a0 :: a1 :: a2 :: a3 :: a4 :: a5 :: a6 :: a7 :: l))) (.d (.int 7)) h) Q := wo_eq (gIx_nat (k := 7) rfl) q
theorem wo_ix8 {a0 a1 a2 a3 a4 a5 a6 a7 a8 : Da} {l : List Da} (q : Q (.d a8) h) : Wo (gIx (.d (.tuple (a0 :: a1 :: a2 :: a3 :: a4 :: a5 :: a6 :: a7 :: a8 :: l))) (.d (.int 8)) h) Q := wo_eq (gIx_nat (k := 8) rfl) q
theorem wo_ix9 {a0 a1 a2 a3 a4 a5 a6 a7 a8 a9 : Da} {l : List Da} (q : Q (.d a9) h) : Wo (gIx (.d (.tuple (a0 :: a1 :: a2 :: a3 :: a4 :: a5 :: a6 :: a7 :: a8 :: a9 :: l))) (.d (.int 9)) h) Q := wo_eq (gIx_nat (k := 9) rfl) q
theorem wo_ix10 {a0 a1 a2 a3 a4 a5 a6 a7 a8 a9 a10 : Da} {l : List Da} (q : Q (.d a10) h) : Wo (gIx (.d (.tuple (a0 :: a1 :: a2 :: a3 :: a4 :: a5 :: a6 :: a7 :: a8 :: a9 :: a10 :: l))) (.d (.int 10)) h) Q := wo_eq (gIx_nat (k := 10) rfl) q
theorem wo_ix11 {a0 a1 a2 a3 a4 a5 a6 a7 a8 a9 a10 a11 : Da} {l : List Da} (q : Q (.d a11) h) : Wo (gIx (.d (.tuple (a0 :: a1 :: a2 :: a3 :: a4 :: a5 :: a6 :: a7 :: a8 :: a9 :: a10 :: a11 :: l))) (.d (.int 11)) h) Q := wo_eq (gIx_nat (k := 11) rfl) q
theorem wo_il4 {a0 a1 a2 a3 a4 : Da} {l : List Da} (q : Q (.d a4) h) : Wo (gIx (.d (.list (a0 :: a1 :: a2 :: a3 :: a4 :: l))) (.d (.int 4)) h) Q := wo_eq (gIxF (k := 4) rfl) q
theorem wo_il5 {a0 a1 a2 a3 a4 a5 : Da} {l : List Da} (q : Q (.d a5) h) : Wo (gIx (.d (.list (a0 :: a1 :: a2 :: a3 :: a4 :: a5 :: l))) (.d (.int 5)) h) Q := wo_eq (gIxF (k := 5) rfl) q
theorem wo_il6 {a0 a1 a2 a3 a4 a5 a6 : Da} {l : List Da} (q : Q (.d a6) h) : Wo (gIx (.d (.list (a0 :: a1 :: a2 :: a3 :: a4 :: a5 :: a6 :: l))) (.d (.int 6)) h) Q := wo_eq (gIxF (k := 6) rfl) q
theorem wo_il7 {a0 a1 a2 a3 a4 a5 a6 a7 : Da} {l : List Da} (q : Q (.d a7) h) : Wo (gIx (.d (.list (a0 :: a1 :: a2 :: a3 :: a4 :: a5 :: a6 :: a7 :: l))) (.d (.int 7)) h) Q := wo_eq (gIxF (k := 7) rfl) q
theorem wo_il8 {a0 a1 a2 a3 a4 a5 a6 a7 a8 : Da} {l : List Da} (q : Q (.d a8) h) : Wo (gIx (.d (.list (a0 :: a1 :: a2 :: a3 :: a4 :: a5 :: a6 :: a7 :: a8 :: l))) (.d (.int 8)) h) Q := wo_eq (gIxF (k := 8) rfl) q
theorem wo_il9 {a0 a1 a2 a3 a4 a5 a6 a7 a8 a9 : Da} {l : List Da} (q : Q (.d a9) h) : Wo (gIx (.d (.list (a0 :: a1 :: a2 :: a3 :: a4 :: a5 :: a6 :: a7 :: a8 :: a9 :: l))) (.d (.int 9)) h) Q := wo_eq (gIxF (k := 9) rfl) q
theorem wo_il10 {a0 a1 a2 a3 a4 a5 a6 a7 a8 a9 a10 : Da} {l : List Da} (q : Q (.d a10) h) : Wo (gIx (.d (.list (a0 :: a1 :: a2 :: a3 :: a4 :: a5 :: a6 :: a7 :: a8 :: a9 :: a10 :: l))) (.d (.int 10)) h) Q := wo_eq (gIxF (k := 10) rfl) q
theorem wo_il11 {a0 a1 a2 a3 a4 a5 a6 a7 a8 a9 a10 a11 : Da} {l : List Da} (q : Q (.d a11) h) : Wo (gIx (.d (.list (a0 :: a1 :: a2 :: a3 :: a4 :: a5 :: a6 :: a7 :: a8 :: a9 :: a10 :: a11 :: l))) (.d (.int 11)) h) Q := wo_eq (gIxF (k := 11) rfl) q
theorem wo_listE (q : Q (.r h.length) (h ++ [some (.lst xs)])) : Wo (gList [.d (.list xs)] h) Q := q
end
end Rk

/-! Rk32: grains as data, marks, entries. -/
namespace Rk
open PySem PySem.Spec L2
def gD : Option Int → Da
  | none => .none
  | some g => .int g
noncomputable def exactB (R : Ruler) (a b : Rat) : Option Int → Bool
  | none => false
  | some g => decide (R.l ≤ g) && !decide (R.pw (g + R.f) < mx a.abs b.abs)
def gOk (g : Option Int) : Prop := ∀ z, g = some z → z.natAbs ≤ 1000
def slackV (R : Ruler) (a b : Rat) (g : Option Int) (ex : Bool) (sz : Rat) (rd : Rat) : Rat :=
  if a = b then (rd - a).abs else if ex = true then 0 else if R.w = "near" then 1 / 2 * sz else sz
theorem near_iff {R : Ruler} (O : R.Ok) : (Str.ofString R.w = Str.ofString "near") ↔ R.w = "near" := by
  rcases O.w4 with z | z | z | z <;> rw [z]
  · exact ⟨fun _ => rfl, fun _ => rfl⟩
  · exact ⟨fun w => absurd w (str_ne (by decide +kernel)), fun w => absurd w (by decide)⟩
  · exact ⟨fun w => absurd w (str_ne (by decide +kernel)), fun w => absurd w (by decide)⟩
  · exact ⟨fun w => absurd w (str_ne (by decide +kernel)), fun w => absurd w (by decide)⟩
theorem BQ_mxa {a b : Rat} {n : Nat} (ha : BQ n a) (hb : BQ n b) : BQ n (mx a.abs b.abs) := BQ.mono (BQ.mx ha.abs hb.abs) (by omega)
theorem gD_int {g : Int} : gD (some g) = .int g := rfl
theorem gD_none : gD none = .none := rfl
theorem Shw.gD {g : Option Int} (hg : gOk g) : Shw 1921 0 (gD g) := by
  cases g with
  | none => exact Shw.none.mono (by decide) (by decide)
  | some z =>
    have := hg z rfl
    exact Shw.int (n := 64) (bd_lit 1000 (by omega) (by omega) (by decide)) (by decide)
theorem Ly.gD {p : Bool} {g : Option Int} : Ly p 0 (gD g) := by
  cases g with
  | none => exact Ly.none
  | some z => exact Ly.int
theorem grn_bd {R : Ruler} {x : Rat} {n : Nat} {z : Int} (O : R.Ok) (hx : BQ n x) (hm : Mult R x R.l) (e : grnV R x = some z) : z.natAbs ≤ n + 100 := by
  unfold grnV at e
  by_cases c : x = 0
  · rw [if_pos c] at e; cases e
  · rw [if_neg c] at e
    cases e
    have := grn_ok O hx c hm
    have l1 := O.l1
    omega
theorem spn_bd {R : Ruler} {a b : Rat} {n : Nat} {z : Int} (O : R.Ok) (ha : BQ n a) (hb : BQ n b) (hm : Mult R a R.l) (e : spnG R a b = some z) : z.natAbs ≤ n + 100 := by
  unfold spnG at e
  have l1 := O.l1
  have l2 := O.l2
  by_cases c : a = b
  · rw [if_pos c] at e
    exact grn_bd O ha hm e
  · rw [if_neg c] at e
    by_cases c2 : a ≤ 0 ∧ 0 ≤ b
    · rw [if_pos c2] at e
      cases e
      omega
    · rw [if_neg c2] at e
      cases e
      have := plc_bd O (BQ.mn ha.abs hb.abs)
      omega
theorem gok_grn {R : Ruler} {x : Rat} {n : Nat} (O : R.Ok) (hx : BQ n x) (hn : n ≤ 500) (hm : Mult R x R.l) : gOk (grnV R x) := fun z e => by
  have := grn_bd O hx hm e
  omega
theorem gok_spn {R : Ruler} {a b : Rat} {n : Nat} (O : R.Ok) (ha : BQ n a) (hb : BQ n b) (hn : n ≤ 500) (hm : Mult R a R.l) : gOk (spnG R a b) := fun z e => by
  have := spn_bd O ha hb hm e
  omega
theorem spn_none {R : Ruler} {a b : Rat} (h : spnG R a b = none) : a = b ∧ b = 0 := by
  unfold spnG at h
  by_cases c : a = b
  · rw [if_pos c] at h
    unfold grnV at h
    by_cases c2 : a = 0
    · exact ⟨c, c ▸ c2⟩
    · rw [if_neg c2] at h; cases h
  · rw [if_neg c] at h
    split at h <;> cases h
structure Mk (R : Ruler) (n : Nat) (x : Rat) : Prop where
  r : R.rnd x = x
  b : BQ n x
theorem Mk.mono {R : Ruler} {n m : Nat} {x : Rat} (h : Mk R n x) (hl : n ≤ m) : Mk R m x := ⟨h.r, h.b.mono hl⟩
def InS (R : Ruler) (a b x : Rat) : Prop := Mult R x R.l ∧ a ≤ x ∧ x ≤ b
theorem InS.bq {R : Ruler} {a b x : Rat} (O : R.Ok) (hl1 : -4 ≤ R.l) (hl2 : R.l ≤ 1) (ha : BQ 140 a) (hb : BQ 140 b) (i : InS R a b x) : BQ 176 x := by
  have h1 := abs_in i.2.1 i.2.2
  have h2 : (mx a.abs b.abs).abs = mx a.abs b.abs := by
    unfold mx Rat.abs
    grind
  exact BQ.mono (BQ_in O (m := 4) i.1 (by omega) (BQ_mxa ha hb) (by rw [h2]; exact h1)) (by decide)
theorem cap_da {R : Ruler} (O : R.Ok) : (.tuple [.int R.b, .int 24, .int R.l, .str R.w] : Da) = Ruler.da ⟨R.b, 24, R.l, R.w⟩ ∧ Ruler.Ok ⟨R.b, 24, R.l, R.w⟩ := ⟨rfl, ⟨O.b2, O.b16, (by decide : 1 ≤ 24), Nat.le_refl 24, O.l1, O.l2, O.w4⟩⟩
theorem gok_lit {z : Int} (hz : z.natAbs ≤ 1000) : gOk (some z) := fun y e => by cases e; exact hz
theorem gok_none : gOk none := fun y e => nomatch e
theorem grnV_of {R : Ruler} (O : R.Ok) {x : Rat} {g : Int} (h0 : x ≠ 0) (h : IsGrn R x g) : grnV R x = some g := by
  unfold grnV
  rw [if_neg h0]
  congr 1
  exact grn_uniq O (Classical.epsilon_spec ⟨g, h⟩) h
theorem mult_at {R : Ruler} {x : Rat} {p : Int} (O : R.Ok) (hp : IsPlc R x p) (h : (x / R.pw p).den = 1) : Mult R x (R.plc x) := by
  rw [plc_eq O hp]
  exact (mult_den O).mp h
structure Ent where
  lo : Rat
  hi : Rat
  tl : Rat
  th : Rat
  er : Rat
  g : Option Int
def Ent.da (e : Ent) : Da := .tuple [Rk.Q e.lo, Rk.Q e.hi, Rk.Q e.tl, Rk.Q e.th, Rk.Q e.er, gD e.g]
structure Ent.B (n : Nat) (e : Ent) : Prop where
  lo : BQ n e.lo
  hi : BQ n e.hi
  tl : BQ n e.tl
  th : BQ n e.th
  er : BQ n e.er
  g : ∀ z, e.g = some z → z.natAbs ≤ n
structure Ent.Ok (R : Ruler) (e : Ent) : Prop where
  lo : R.rnd e.lo = e.lo
  hi : R.rnd e.hi = e.hi
  lh : e.lo ≤ e.hi
  t : e.tl ≤ e.th
  er : 0 ≤ e.er
  gn : e.g = none ↔ e.lo = 0 ∧ e.hi = 0
  gl : ∀ z, e.g = some z → R.l ≤ z
theorem Ent.B.mono {n m : Nat} {e : Ent} (b : e.B n) (h : n ≤ m) : e.B m := ⟨b.lo.mono h, b.hi.mono h, b.tl.mono h, b.th.mono h, b.er.mono h, fun z x => Nat.le_trans (b.g z x) h⟩
theorem Ent.Ly {p : Bool} (e : Ent) : Ly p 2 e.da := by
  unfold Ent.da
  exact Ly.tup (LyL.cons .Q (LyL.cons .Q (LyL.cons .Q (LyL.cons .Q (LyL.cons .Q (LyL.cons .gD .nil))))))
theorem abs_nonneg' (r : Rat) : 0 ≤ r.abs := by
  unfold Rat.abs
  grind
theorem hd_v {i : Nat} {ρ : En} {h : Hh} {Q : Vl → Hh → Prop} {E : XP} (w : Wp (eVar i ρ h) Q E) : Wp (eVar i ρ h) Q E := w
theorem Ent.mkN {R : Ruler} {a b c d e : Rat} (ha : Mk R 140 a) (hb : Mk R 140 b) (hab : a ≤ b) (hc : BQ 300 c) (hd : BQ 300 d) (hcd : c ≤ d) (he : BQ 140 e) (z : a = 0 ∧ b = 0) : (Ent.mk a b c d e.abs none).Ok R ∧ (Ent.mk a b c d e.abs none).B 300 :=
  ⟨⟨ha.r, hb.r, hab, hcd, abs_nonneg' _, ⟨fun _ => z, fun _ => rfl⟩, fun _ x => nomatch x⟩, ⟨ha.b.mono (by decide), hb.b.mono (by decide), hc, hd, he.abs.mono (by decide), fun _ x => nomatch x⟩⟩
theorem Ent.mkS {R : Ruler} {a b c d e : Rat} {g : Int} (ha : Mk R 140 a) (hb : Mk R 140 b) (hab : a ≤ b) (hc : BQ 300 c) (hd : BQ 300 d) (hcd : c ≤ d) (he : BQ 140 e) (z : ¬ (a = 0 ∧ b = 0)) (hg : R.l ≤ g) (hz : g.natAbs ≤ 300) : (Ent.mk a b c d e.abs (some g)).Ok R ∧ (Ent.mk a b c d e.abs (some g)).B 300 :=
  ⟨⟨ha.r, hb.r, hab, hcd, abs_nonneg' _, ⟨fun x => (nomatch x), fun x => absurd x z⟩, fun _ x => by cases x; exact hg⟩, ⟨ha.b.mono (by decide), hb.b.mono (by decide), hc, hd, he.abs.mono (by decide), fun _ x => by cases x; exact hz⟩⟩
theorem Ent.eta {lo hi tl th er : Rat} {g : Option Int} : (.tuple [Rk.Q lo, Rk.Q hi, Rk.Q tl, Rk.Q th, Rk.Q er, gD g] : Da) = Ent.da ⟨lo, hi, tl, th, er, g⟩ := rfl
end Rk

/-! Rk33: rounding rises. -/
namespace Rk
open PySem PySem.Spec L2
theorem fl_eq {t : Rat} {k : Int} (h1 : (k : Rat) ≤ t) (h2 : t < (k : Rat) + 1) : t.floor = k := by
  have a := fl_le t
  have b := fl_lt t
  have c : (k : Rat) < (((t.floor + 1 : Int)) : Rat) := by rw [Rat.intCast_add]; exact Std.lt_of_le_of_lt h1 b
  have d : ((t.floor : Int) : Rat) < ((k + 1 : Int) : Rat) := by rw [Rat.intCast_add]; exact Std.lt_of_le_of_lt a h2
  have c' := Rat.intCast_lt_intCast.mp c
  have d' := Rat.intCast_lt_intCast.mp d
  omega
theorem wb_fl (w : String) (t : Rat) : t.floor ≤ wb w t ∧ wb w t ≤ t.floor + 1 := by
  unfold wb
  split <;> omega
theorem upB_false {w : String} {t : Rat} (hw : w = "near" ∨ w = "down" ∨ w = "up" ∨ w = "nought") (h : t - (t.floor : Rat) = 0) : upB w t = false := by
  rcases hw with rfl | rfl | rfl | rfl
  · rw [upB_near, h]
    have : (1 : Rat) < 2 * 0 ↔ False := by grind
    have e2 : (2 : Rat) * 0 = 1 ↔ False := by grind
    simp only [this, e2, decide_false, Bool.false_and, Bool.or_self]
  · exact upB_down t
  · rw [upB_up, h]; decide
  · rw [upB_nought, h]; simp
theorem wb_leK {w : String} {t : Rat} {k : Int} (hw : w = "near" ∨ w = "down" ∨ w = "up" ∨ w = "nought") (h : t ≤ (k : Rat)) : wb w t ≤ k := by
  have b := wb_fl w t
  have a := fl_le t
  by_cases c : t.floor < k
  · omega
  · have c1 : k ≤ t.floor := by omega
    have c2 : (k : Rat) ≤ ((t.floor : Int) : Rat) := Rat.intCast_le_intCast.mpr c1
    have e : t = (k : Rat) := Rat.le_antisymm h (Rat.le_trans c2 a)
    have e2 : t.floor = k := fl_eq (by rw [e]; exact Rat.le_refl) (by rw [e]; grind)
    unfold wb
    rw [upB_false hw (by rw [e2, e]; exact Rat.sub_self), if_neg (by decide), e2]
    omega
theorem wb_geK {w : String} {t : Rat} {k : Int} (h : (k : Rat) ≤ t) : k ≤ wb w t := by
  have b := wb_fl w t
  have a := fl_lt t
  have c : (k : Rat) < (((t.floor + 1 : Int)) : Rat) := by rw [Rat.intCast_add]; exact Std.lt_of_le_of_lt h a
  have c' := Rat.intCast_lt_intCast.mp c
  omega
theorem wb_mono {w : String} {t u : Rat} (hw : w = "near" ∨ w = "down" ∨ w = "up" ∨ w = "nought") (h : t ≤ u) : wb w t ≤ wb w u := by
  have bt := wb_fl w t
  have bu := wb_fl w u
  have ft := fl_le t
  have fu := fl_lt u
  have c : ((t.floor : Int) : Rat) < ((u.floor + 1 : Int) : Rat) := by rw [Rat.intCast_add]; exact Std.lt_of_le_of_lt (Rat.le_trans ft h) fu
  have c' := Rat.intCast_lt_intCast.mp c
  by_cases e : t.floor = u.floor
  · unfold wb
    rw [e]
    by_cases z : upB w t = true
    · have z2 : upB w u = true := by
        rcases hw with rfl | rfl | rfl | rfl
        · rw [upB_near] at z ⊢
          rw [e] at z
          simp only [Bool.or_eq_true, Bool.and_eq_true, decide_eq_true_eq] at z ⊢
          by_cases y : 1 < 2 * (u - (u.floor : Rat))
          · exact .inl y
          · right
            rcases z with z | ⟨z1, z2⟩
            · exfalso; grind
            · exact ⟨by grind, z2⟩
        · rw [upB_down] at z; cases z
        · rw [upB_up] at z ⊢
          rw [e] at z
          simp only [decide_eq_true_eq] at z ⊢
          grind
        · rw [upB_nought] at z ⊢
          rw [e] at z
          simp only [Bool.and_eq_true, decide_eq_true_eq] at z ⊢
          obtain ⟨z1, z2⟩ := z
          have u1 : ((u.floor : Int) : Rat) < ((0 : Int) : Rat) := by
            rw [← e]
            exact Std.lt_of_le_of_lt ft z1
          have u2 := Rat.intCast_lt_intCast.mp u1
          have u3 : ((u.floor + 1 : Int) : Rat) ≤ ((0 : Int) : Rat) := Rat.intCast_le_intCast.mpr (by omega)
          rw [Rat.intCast_add] at u3
          exact ⟨by grind, by grind⟩
      rw [if_pos z, if_pos z2]
      exact Int.le_refl _
    · rw [if_neg z]
      split <;> omega
  · omega
section
variable {R : Ruler} {x y : Rat} {n m : Nat}
theorem div_le_div {a b s : Rat} (hs : 0 < s) (h : a ≤ b) : a / s ≤ b / s := by
  rw [Rat.div_def, Rat.div_def]
  exact Rat.mul_le_mul_of_nonneg_right h (Rat.le_of_lt (Rat.inv_pos.mpr hs))
theorem mul_div_c {k s : Rat} (hs : s ≠ 0) : k * s / s = k := by
  rw [Rat.div_def, Rat.mul_assoc, Rat.mul_inv_cancel _ hs, Rat.mul_one]
theorem rnd_le_mult (O : R.Ok) {k : Int} (h : x ≤ (k : Rat) * R.stp x) : R.rnd x ≤ (k : Rat) * R.stp x := by
  have s0 := stp_pos O x
  have h1 := div_le_div s0 h
  rw [mul_div_c (stp_ne O x)] at h1
  unfold Ruler.rnd
  exact Rat.mul_le_mul_of_nonneg_right (Rat.intCast_le_intCast.mpr (wb_leK O.w4 h1)) (Rat.le_of_lt s0)
theorem le_rnd_mult (O : R.Ok) {k : Int} (h : (k : Rat) * R.stp x ≤ x) : (k : Rat) * R.stp x ≤ R.rnd x := by
  have s0 := stp_pos O x
  have h1 := div_le_div s0 h
  rw [mul_div_c (stp_ne O x)] at h1
  unfold Ruler.rnd
  exact Rat.mul_le_mul_of_nonneg_right (Rat.intCast_le_intCast.mpr (wb_geK h1)) (Rat.le_of_lt s0)
theorem rnd_le_M (O : R.Ok) (hm : Mult R y (R.plc x)) (h : x ≤ y) : R.rnd x ≤ y := by
  obtain ⟨k, rfl⟩ := hm
  exact rnd_le_mult O h
theorem le_rnd_M (O : R.Ok) (hm : Mult R y (R.plc x)) (h : y ≤ x) : y ≤ R.rnd x := by
  obtain ⟨k, rfl⟩ := hm
  exact le_rnd_mult O h
theorem rnd_mono (O : R.Ok) (bx : BQ n x) (by_ : BQ m y) (h : x ≤ y) : R.rnd x ≤ R.rnd y := by
  have px := plc_ok O bx
  have py := plc_ok O by_
  have f1 := O.f1
  rcases Int.lt_trichotomy (R.plc x) (R.plc y) with z | z | z
  · rcases py.2.2 with w | w
    · have := px.1; omega
    · have xa : x.abs < R.pw (R.plc y - 1 + R.f) := Std.lt_of_lt_of_le px.2.1 (pw_le O (by omega))
      have p0 := pw_pos O (R.plc y - 1 + R.f)
      have h1 : x ≤ R.pw (R.plc y - 1 + R.f) := by
        unfold Rat.abs at xa
        grind
      have h2 : R.pw (R.plc y - 1 + R.f) ≤ y := by
        unfold Rat.abs at xa w
        grind
      exact Rat.le_trans (rnd_le_M O (mult_pw O (by omega)) h1) (le_rnd_M O (mult_pw O (by omega)) h2)
  · unfold Ruler.rnd
    have e : R.stp x = R.stp y := by unfold Ruler.stp; rw [z]
    rw [e]
    exact Rat.mul_le_mul_of_nonneg_right (Rat.intCast_le_intCast.mpr (wb_mono O.w4 (div_le_div (stp_pos O y) h))) (Rat.le_of_lt (stp_pos O y))
  · rcases px.2.2 with w | w
    · have := py.1; omega
    · have ya : y.abs < R.pw (R.plc x - 1 + R.f) := Std.lt_of_lt_of_le py.2.1 (pw_le O (by omega))
      have p0 := pw_pos O (R.plc x - 1 + R.f)
      have h1 : -R.pw (R.plc x - 1 + R.f) ≤ y := by
        unfold Rat.abs at ya
        grind
      have h2 : x ≤ -R.pw (R.plc x - 1 + R.f) := by
        unfold Rat.abs at ya w
        grind
      exact Rat.le_trans (rnd_le_M O (mult_neg (mult_pw O (by omega))) h2) (le_rnd_M O (mult_neg (mult_pw O (by omega))) h1)
theorem rnd_abs_le (O : R.Ok) (bx : BQ n x) : (R.rnd x).abs ≤ R.pw (R.plc x + R.f) := by
  have px := plc_ok O bx
  have f1 := O.f1
  have p0 := pw_pos O (R.plc x + R.f)
  have h1 : x ≤ R.pw (R.plc x + R.f) := by
    have := px.2.1
    unfold Rat.abs at this
    grind
  have h2 : -R.pw (R.plc x + R.f) ≤ x := by
    have := px.2.1
    unfold Rat.abs at this
    grind
  have a := rnd_le_M O (mult_pw O (by omega)) h1
  have b := le_rnd_M O (mult_neg (mult_pw O (by omega))) h2
  unfold Rat.abs
  grind
theorem rnd_idem (O : R.Ok) (bx : BQ n x) (br : BQ m (R.rnd x)) : R.rnd (R.rnd x) = R.rnd x := by
  obtain ⟨k, e⟩ := rnd_plc R x
  exact mark_mult O br (plc_ok O bx).1 e (rnd_abs_le O bx)
theorem rnd_le_mark (O : R.Ok) (bx : BQ n x) (by_ : BQ m y) (hy : R.rnd y = y) (h : x ≤ y) : R.rnd x ≤ y := by
  have := rnd_mono O bx by_ h
  rwa [hy] at this
theorem le_rnd_mark (O : R.Ok) (bx : BQ n x) (by_ : BQ m y) (hy : R.rnd y = y) (h : y ≤ x) : y ≤ R.rnd x := by
  have := rnd_mono O by_ bx h
  rwa [hy] at this
end
end Rk

/-! Rk34: ranks of marks. -/
namespace Rk
open PySem PySem.Spec L2
def Ruler.N (R : Ruler) : Nat := R.b ^ R.f
def Ruler.M (R : Ruler) : Nat := R.b ^ (R.f - 1)
def Ruler.fr (R : Ruler) : Nat := R.N - R.M
def Ruler.far (R : Ruler) (k : Nat) : Nat := if k < R.N then 0 else (k - R.N) / R.fr + 1
def Ruler.st (R : Ruler) (k : Nat) : Nat := k - R.far k * R.fr
def Ruler.mkN (R : Ruler) (k : Nat) : Rat := ((R.st k : Int) : Rat) * R.pw (R.l + R.far k)
def Ruler.mkOf (R : Ruler) (k : Int) : Rat := if 0 ≤ k then R.mkN k.natAbs else -R.mkN k.natAbs
theorem lt_tr {a b c : Rat} (h1 : a < b) (h2 : b < c) : a < c := by grind
section
variable {R : Ruler} (O : R.Ok)
include O
theorem NM : R.N = R.M * R.b := by
  unfold Ruler.N Ruler.M
  have := O.f1
  rw [← Nat.pow_succ, show (R.f - 1).succ = R.f by omega]
theorem M_pos : 0 < R.M := Nat.pow_pos (by have := O.b2; omega)
theorem N_div : R.N / R.b = R.M := by
  rw [NM O, Nat.mul_div_cancel _ (by have := O.b2; omega)]
theorem M_lt : R.M < R.N := by
  have h := M_pos O
  have h2 := O.b2
  rw [NM O]
  calc R.M < R.M * 2 := by omega
    _ ≤ R.M * R.b := Nat.mul_le_mul_left _ h2
theorem fr_pos : 0 < R.fr := by
  have := M_lt O
  unfold Ruler.fr
  omega
theorem far_parts {t j : Nat} (hj : j < R.N) (h : t = 0 ∨ R.M ≤ j) : R.far (t * R.fr + j) = t := by
  have m := M_lt O
  have f := fr_pos O
  have ef : R.fr = R.N - R.M := rfl
  unfold Ruler.far
  cases t with
  | zero =>
    rw [Nat.zero_mul, Nat.zero_add, if_pos hj]
  | succ t =>
    have hM : R.M ≤ j := by
      rcases h with h | h
      · omega
      · exact h
    rw [Nat.succ_mul]
    rw [if_neg (by omega)]
    have e : t * R.fr + R.fr + j - R.N = (j - R.M) + t * R.fr := by omega
    rw [e, Nat.add_mul_div_right _ _ f, Nat.div_eq_of_lt (by omega), Nat.zero_add]
theorem far_le (k : Nat) : R.far k * R.fr ≤ k ∧ R.st k < R.N ∧ (R.far k = 0 ∨ R.M ≤ R.st k) := by
  have m := M_lt O
  have f := fr_pos O
  have ef : R.fr = R.N - R.M := rfl
  unfold Ruler.st
  unfold Ruler.far
  split
  · rename_i h
    rw [Nat.zero_mul]
    exact ⟨Nat.zero_le _, by omega, .inl rfl⟩
  · rename_i h
    have d := Nat.div_add_mod (k - R.N) R.fr
    have ml := Nat.mod_lt (k - R.N) f
    rw [Nat.succ_mul, Nat.mul_comm]
    generalize R.fr * ((k - R.N) / R.fr) = z at *
    exact ⟨by omega, by omega, .inr (by omega)⟩
theorem st_sum (k : Nat) : R.far k * R.fr + R.st k = k := by
  have h := (far_le O k).1
  unfold Ruler.st
  omega
theorem st_parts {t j : Nat} (hj : j < R.N) (h : t = 0 ∨ R.M ≤ j) : R.st (t * R.fr + j) = j := by
  unfold Ruler.st
  rw [far_parts O hj h]
  omega
theorem mkN_parts {t j : Nat} (hj : j < R.N) (h : t = 0 ∨ R.M ≤ j) : R.mkN (t * R.fr + j) = ((j : Int) : Rat) * R.pw (R.l + t) := by
  unfold Ruler.mkN
  rw [far_parts O hj h, st_parts O hj h]
theorem pwN : R.pw R.f = ((R.N : Int) : Rat) := by
  rw [pw_nat R.f, ← Rat.intCast_natCast]
  rfl
theorem pwM : R.pw ((R.f : Int) - 1) = ((R.M : Int) : Rat) := by
  have h := O.f1
  rw [show (R.f : Int) - 1 = ((R.f - 1 : Nat) : Int) by omega, pw_nat, ← Rat.intCast_natCast]
  rfl
theorem mkN_lt (k : Nat) : R.mkN k < R.mkN (k + 1) := by
  obtain ⟨h1, h2, h3⟩ := far_le O k
  have s := st_sum O k
  have p := pw_pos O (R.l + R.far k)
  by_cases z : R.st k + 1 < R.N
  · have e : k + 1 = R.far k * R.fr + (R.st k + 1) := by omega
    rw [e, mkN_parts O z (by rcases h3 with h3 | h3; exact .inl h3; exact .inr (by omega))]
    unfold Ruler.mkN
    refine Rat.mul_lt_mul_of_pos_right ?_ p
    exact Rat.intCast_lt_intCast.mpr (by omega)
  · have m := M_lt O
    have ef : R.fr = R.N - R.M := rfl
    have e : k + 1 = (R.far k + 1) * R.fr + R.M := by
      rw [Nat.succ_mul]
      omega
    rw [e, mkN_parts O m (.inr (Nat.le_refl _))]
    unfold Ruler.mkN
    have e2 : ((R.M : Int) : Rat) * R.pw (R.l + ((R.far k + 1 : Nat) : Int)) = ((R.N : Int) : Rat) * R.pw (R.l + R.far k) := by
      rw [show R.l + ((R.far k + 1 : Nat) : Int) = 1 + (R.l + R.far k) by omega, pw_add O, ← Rat.mul_assoc]
      congr 1
      rw [NM O, Int.natCast_mul, Rat.intCast_mul]
      congr 1
      have := pw_nat (R := R) 1
      rw [Nat.pow_one] at this
      rw [show (1 : Int) = ((1 : Nat) : Int) from rfl, this, ← Rat.intCast_natCast]
    rw [e2]
    refine Rat.mul_lt_mul_of_pos_right ?_ p
    exact Rat.intCast_lt_intCast.mpr (by omega)
theorem mkN_zero : R.mkN 0 = 0 := by
  have := mkN_parts O (t := 0) (j := 0) (by have := M_lt O; omega) (.inl rfl)
  rw [Nat.zero_mul, Nat.add_zero] at this
  rw [this, show ((0 : Nat) : Int) = 0 from rfl, Rat.intCast_zero, Rat.zero_mul]
theorem mkN_nonneg (k : Nat) : 0 ≤ R.mkN k := by
  unfold Ruler.mkN
  exact Rat.mul_nonneg (Rat.intCast_nonneg.mpr (by omega)) (Rat.le_of_lt (pw_pos O _))
theorem mkN_mono {i j : Nat} (h : i < j) : R.mkN i < R.mkN j := by
  obtain ⟨d, rfl⟩ := Nat.exists_eq_add_of_lt h
  clear h
  induction d with
  | zero => exact mkN_lt O i
  | succ d ih => exact lt_tr ih (mkN_lt O _)
theorem mkOf_neg (k : Int) : R.mkOf (-k) = -R.mkOf k := by
  unfold Ruler.mkOf
  rw [Int.natAbs_neg]
  by_cases h : k = 0
  · subst h
    rw [if_pos (by decide), if_pos (by decide), show (0 : Int).natAbs = 0 from rfl, mkN_zero O, Rat.neg_zero]
  · by_cases z : 0 ≤ k
    · rw [if_neg (by omega), if_pos z]
    · rw [if_pos (by omega), if_neg z, Rat.neg_neg]
theorem mkOf_mono {i j : Int} (h : i < j) : R.mkOf i < R.mkOf j := by
  unfold Ruler.mkOf
  by_cases a : 0 ≤ i
  · rw [if_pos a, if_pos (by omega)]
    exact mkN_mono O (by omega)
  · rw [if_neg a]
    have n1 := mkN_mono O (i := 0) (j := i.natAbs) (by omega)
    rw [mkN_zero O] at n1
    by_cases b : 0 ≤ j
    · rw [if_pos b]
      have := mkN_nonneg O j.natAbs
      grind
    · rw [if_neg b]
      have := mkN_mono O (i := j.natAbs) (j := i.natAbs) (by omega)
      grind
theorem mkOf_lt {i j : Int} : R.mkOf i < R.mkOf j ↔ i < j := by
  constructor
  · intro h
    by_cases z : i < j
    · exact z
    · rcases Int.lt_or_eq_of_le (Int.not_lt.mp z) with w | w
      · exact absurd (mkOf_mono O w) (by grind)
      · subst w
        exact absurd h Rat.lt_irrefl
  · exact mkOf_mono O
theorem mkOf_inj {i j : Int} (h : R.mkOf i = R.mkOf j) : i = j := by
  rcases Int.lt_trichotomy i j with z | z | z
  · exact absurd (mkOf_mono O z) (by rw [h]; exact Rat.lt_irrefl)
  · exact z
  · exact absurd (mkOf_mono O z) (by rw [h]; exact Rat.lt_irrefl)
theorem mkOf_abs (k : Int) : (R.mkOf k).abs = R.mkN k.natAbs := by
  have := mkN_nonneg O k.natAbs
  unfold Ruler.mkOf
  by_cases z : 0 ≤ k
  · rw [if_pos z, Rat.abs_of_nonneg this]
  · rw [if_neg z, abs_neg', Rat.abs_of_nonneg this]
theorem plc_mkN {n : Nat} {x : Rat} (k : Nat) (ha : x.abs = R.mkN k) : R.plc x = R.l + R.far k := by
  obtain ⟨h1, h2, h3⟩ := far_le O k
  have p := pw_pos O (R.l + R.far k)
  refine plc_eq O ⟨by omega, ?_, ?_⟩
  · rw [ha]
    unfold Ruler.mkN
    rw [pw_add O (R.l + R.far k), pwN O, Rat.mul_comm (R.pw _)]
    exact Rat.mul_lt_mul_of_pos_right (Rat.intCast_lt_intCast.mpr (by omega)) p
  · rcases h3 with h3 | h3
    · exact .inl (by omega)
    · refine .inr ?_
      rw [ha]
      unfold Ruler.mkN
      rw [show R.l + (R.far k : Int) - 1 + R.f = (R.l + R.far k) + ((R.f : Int) - 1) by omega, pw_add O (R.l + R.far k), pwM O, Rat.mul_comm (R.pw _)]
      exact Rat.mul_le_mul_of_nonneg_right (Rat.intCast_le_intCast.mpr (by omega)) (Rat.le_of_lt p)
/-- each mark has a rank -/
theorem mark_rank {n : Nat} {x : Rat} (b : BQ n x) (e : R.rnd x = x) : ∃ k : Int, x = R.mkOf k := by
  obtain ⟨j, ej⟩ := mark_plc e
  obtain ⟨i1, i2, i3⟩ := plc_ok O b
  have p := pw_pos O (R.plc x)
  obtain ⟨t, et⟩ : ∃ t : Nat, R.plc x = R.l + t := ⟨(R.plc x - R.l).toNat, by omega⟩
  have ax : x.abs = ((j.natAbs : Int) : Rat) * R.pw (R.plc x) := by
    conv => lhs; rw [ej]
    rw [abs_mulP p, abs_intR]
  have hj : j.natAbs < R.N := by
    rw [ax, pw_add O, pwN O, Rat.mul_comm (R.pw _)] at i2
    have := Rat.lt_of_mul_lt_mul_right i2 (Rat.le_of_lt p)
    have := Rat.intCast_lt_intCast.mp this
    omega
  have hM : t = 0 ∨ R.M ≤ j.natAbs := by
    rcases i3 with z | z
    · exact .inl (by omega)
    · refine .inr ?_
      rw [ax, show R.plc x - 1 + R.f = R.plc x + ((R.f : Int) - 1) by omega, pw_add O, pwM O, Rat.mul_comm (R.pw _)] at z
      have := Rat.le_of_mul_le_mul_right z p
      have := Rat.intCast_le_intCast.mp this
      omega
  have e1 := mkN_parts O hj hM
  rw [← et] at e1
  by_cases z : 0 ≤ j
  · refine ⟨((t * R.fr + j.natAbs : Nat) : Int), ?_⟩
    unfold Ruler.mkOf
    rw [if_pos (by omega), Int.natAbs_natCast, e1, show ((j.natAbs : Int)) = j by omega]
    exact ej
  · refine ⟨-((t * R.fr + j.natAbs : Nat) : Int), ?_⟩
    rw [mkOf_neg O]
    unfold Ruler.mkOf
    rw [if_pos (by omega), Int.natAbs_natCast, e1, show ((j.natAbs : Int)) = -j by omega, Rat.intCast_neg, Rat.neg_mul, Rat.neg_neg]
    exact ej
theorem BQ_mkN {E : Nat} (k : Nat) (h : (R.l + R.far k).natAbs ≤ E) : BQ (4 * E + 100) (R.mkN k) := by
  obtain ⟨h1, h2, h3⟩ := far_le O k
  obtain ⟨N, e1, e2, e3, e4⟩ := pw_fullR O
  have en : N = R.N := by
    rw [pwN O] at e2
    have := Rat.intCast_inj.mp e2
    omega
  unfold Ruler.mkN
  have b1 : BQ 98 ((R.st k : Int) : Rat) := BQ.i (bd_nat (Nat.lt_trans (Nat.lt_of_lt_of_eq h2 en.symm) e4))
  exact BQ.mono (BQ.mul b1 (BQ_pw O h) (by omega)) (by omega)
theorem mkOf_mark {n : Nat} (k : Int) (b : BQ n (R.mkOf k)) : R.rnd (R.mkOf k) = R.mkOf k := by
  obtain ⟨h1, h2, h3⟩ := far_le O k.natAbs
  have e : ∃ j : Int, R.mkOf k = (j : Rat) * R.pw (R.l + R.far k.natAbs) ∧ j.natAbs ≤ R.N := by
    unfold Ruler.mkOf Ruler.mkN
    split
    · exact ⟨R.st k.natAbs, rfl, by omega⟩
    · exact ⟨-(R.st k.natAbs : Int), by rw [Rat.intCast_neg, Rat.neg_mul], by omega⟩
  obtain ⟨j, ej, hj⟩ := e
  rw [ej] at b ⊢
  exact mark_steps O (pwN O) hj (by omega) b
end
end Rk

/-! Rk35: statements that are never reached. -/
namespace Rk
open PySem PySem.Spec L2
def sNo : Sv := fun _ _ => .no
theorem es_no {X : Cx} {W : WX} {st : Stmt} : ES X W st sNo := ⟨fun _ _ _ _ _ _ ⟨_, _, _, _, _, q⟩ => q.elim⟩
end Rk

/-! Rk36: enumerate over a tuple. -/
namespace PySem
open Sem (wp)
open AutoSeq1 (wpAny_loadPart')
/-- the iterator of the tuple at t -/
abbrev rkTi (t : Addr) : Obj := { cls := .type "tuple_iterator", data := .fields #[.ref t, .int 0 0] }
abbrev rkEn (j : Addr) : Obj := { cls := .type "enumerate", data := .fields #[.none, .bool false, .ref j, rawInt 0, .none, .none] }
theorem rk_meets_enumT (t : Addr) (us : Array Value) (m : Nat) (od : Option Addr) (ss : Array (Option Value)) :
    Meets (Builtin.«enumerate.__new__» ⟨[.type "enumerate", .ref t], []⟩) (fun _ R s => s.heap.get? t = some { cls := .type "tuple", dict := od, data := .seq us m, slots := ss } ∧ R (.ok (.ret (.ref (s.heap.push (rkTi t)).objs.size))) { s with heap := (s.heap.push (rkTi t)).push (rkEn s.heap.objs.size) }) :=
  .of_wp fun _ _ _ R s0 hyp => by
    obtain ⟨hp, g, d, tk, os⟩ := s0; obtain ⟨ht, hyp⟩ := hyp
    have subE := sub_enumerate
    have isT : Heap.IsTuple (Shared.heap ⟨hp, g, d, tk, os⟩) t us := ⟨_, ht, rfl, m, rfl⟩
    wp_walk using wpAny_loadPart' ht
    refine wpAny_stack_any fun _ => wpAny_pure ?_
    split
    · rename_i c0 _ _ _ _ _
      cases (c0 == Value.type "enumerate") <;> (wp_walk using wpAny_loadPart' ht, wpAny_pyIter_tuple isT; exact ⟨_, rfl, hyp⟩)
    · (wp_walk using wpAny_loadPart' ht, wpAny_pyIter_tuple isT; exact ⟨_, rfl, hyp⟩)
section
variable {prog : Program} {w : World} {A : Around} {E : Value → Shared → Prop} {s : Shared}
theorem rk_call_enumT {t : Addr} {us : Array Value} {Q : Value → Shared → Prop} (isT : s.heap.IsTuple t us)
    (k : ∀ h1, IsEnum h1 (s.heap.objs.size + 1) s.heap.objs.size 0 .none → h1.IsTupleIter s.heap.objs.size t 0 → h1.objs.size = s.heap.objs.size + 2 → (∀ b o, s.heap.get? b = some o → h1.get? b = some o) → Q (.ref (s.heap.objs.size + 1)) { s with heap := h1 }) :
    wpAny (model prog w) A (call (.type "enumerate") [.ref t]) Q E s := by
  obtain ⟨⟨c0, od, dat, ss⟩, ht, hcl, m, hdt⟩ := isT
  dsimp only at hcl hdt
  subst hcl hdt
  refine callType_new F.called_enumerate (by decide) (F.typeCall_enumerate_1 _) (F.newCall_enumerate_1 _) (fun o => F.args_object_init_2 o _) F.entry_enumerate_new (rk_meets_enumT t us m od ss) ⟨ht, ?_⟩
  have sz : (s.heap.push (rkTi t)).objs.size = s.heap.objs.size + 1 := Heap.size_push ..
  show _ ∧ _
  rw [sz]
  have en : IsEnum ((s.heap.push (rkTi t)).push (rkEn s.heap.objs.size)) (s.heap.objs.size + 1) s.heap.objs.size 0 .none := by
    have e0 := Heap.get?_push_size (s.heap.push (rkTi t)) (o := rkEn s.heap.objs.size) rfl
    rw [sz] at e0
    exact e0
  exact ⟨⟨_, en, rfl⟩, k _ en ⟨_, Heap.get?_push_of_some _ (Heap.get?_push_size _ rfl), rfl, rfl⟩ (by rw [Heap.size_push, sz]) fun _ _ x => Heap.get?_push_of_some _ (Heap.get?_push_of_some _ x)⟩
theorem rk_drawsT {it a : Addr} {us : Array Value} (hh : A.handled = none) (hne : it ≠ a) : Draws prog w A it [it, a] us.size (fun i x => us[i]? = some x) (fun i h => h.IsTupleIter it a i ∧ h.IsTuple a us) where
  live := fun i h st => let ⟨⟨o, ho, _⟩, _⟩ := st; ⟨o, ho⟩
  frame := fun i h h' st k => ⟨st.1.at fun o q => k it (by simp) o q, let ⟨o, ho, r⟩ := st.2; ⟨o, k a (by simp) o ho, r⟩⟩
  item := fun i s Q E hi st hQ => by
    have hx : us[i]? = some us[i] := Array.getElem?_eq_getElem hi
    refine RZ.nextOf_tuple_item st.1 st.2 hx fun h' h1 sb => ?_
    obtain ⟨o, ho, r⟩ := st.2
    exact hQ _ h' s.toks hx ⟨h1, ⟨o, (sb.2 a (Ne.symm hne)).trans ho, r⟩⟩ sb
  done := fun s Q E st hE => RZ.nextOf_tuple_end hh st.1 st.2 (by simp) hE
end
end PySem
namespace Rk
open PySem PySem.Spec PyProof.Rows L2
def IteT (K : PySem.W.Frag) (a : Addr) : It :=
  ⟨fun i H => ∃ (xs : List V) (x : V), SqT K H a xs ∧ xs[i]? = some x, fun i H v H' => ∃ T x, v = .ref T ∧ H T = none ∧ H' = upd H T (.tup [.int (i : Nat), x]) ∧ ∀ xs, SqT K H a xs → xs[i]? = some x, fun i H => ∃ xs : List V, SqT K H a xs ∧ xs.length ≤ i⟩
theorem turn_enumT {P : Program} {w : World} {K : PySem.W.Frag} {elts : List Expr} {kk : Nat} {tpos : Pos} (a e it : Addr) :
    Turn P w K (.Tuple elts kk tpos) (IteT K a) [e, it] e (fun i h => (∃ old, IsEnum h e it ((i : Nat) : Int) old) ∧ h.IsTupleIter it a i ∧ e ≠ it ∧ a ≠ e ∧ a ≠ it) where
  mem := by simp
  obj := fun i h st b hb => by
    obtain ⟨⟨_, en⟩, ⟨o, ho, _, hdt⟩, _⟩ := st
    rcases (show b = e ∨ b = it by simpa using hb) with rfl | rfl
    · exact ⟨_, en, fun _ q => nomatch q⟩
    · exact ⟨o, ho, fun _ q => by rw [hdt] at q; cases q⟩
  keep := fun i h h' st k => let ⟨⟨old, en⟩, ti, ne⟩ := st; ⟨⟨old, k e (by simp) _ en⟩, ti.at fun o q => k it (by simp) o q, ne⟩
  item := by
    intro X hP hw hK hc i pins s σ H E I hf st hg
    subst hP hw hK
    obtain ⟨⟨old, en⟩, ti, ne, nae, nai⟩ := st
    obtain ⟨xs, x, sq, hx⟩ := hg
    obtain ⟨us, rv, isT, _⟩ := I.tuple sq
    obtain ⟨u, hu, ru⟩ := rv.get hx
    have le : e < s.heap.objs.size := Heap.lt_size en
    have li : it < s.heap.objs.size := by obtain ⟨_, q, _⟩ := ti; exact Heap.lt_size q
    have isT' : s.heap.IsTuple a us.toArray := isT
    have hd0 : X.A.handled = none := I.ok.hd hc
    have hu' : us.toArray[i]? = some u := by simpa using hu
    refine wpAny_pyNext_enum_itemD (rk_drawsT (A := X.A.in1) hd0 (Ne.symm nai)) en ⟨ti, isT'⟩ (by simpa using (List.getElem?_eq_some_iff.mp hu).1) ne (by simp [ne, Ne.symm nae]) fun y h1 tk py ho st1 hT hsz hk => ?_
    rw [hu'] at py
    cases py
    refine ⟨_, rfl, wpAny_letOwnedTupleGo_enum (s := { s with heap := h1, toks := tk + 1 }) ho fun h2 en2 sb => ?_⟩
    have hT2 : h2.get? s.heap.objs.size = some { cls := .type "tuple", data := .seq #[.int i tk, u] } := (sb.2 _ (Nat.ne_of_gt le)).trans hT
    have nw : ObjOk X.prog X.w (upd H s.heap.objs.size (.tup [.int (i : Nat), x])) h2 s.heap.objs.size (.tup [.int (i : Nat), x]) :=
      ⟨by show 2 ≤ sizeLine; decide, [.int i tk, u], .cons ⟨_, rfl⟩ (.cons ru .nil), ⟨_, hT2, rfl, _, rfl⟩⟩
    have I1 : Inv X pins σ (upd H s.heap.objs.size (.tup [.int (i : Nat), x])) { s with heap := h2, toks := tk + 1 } :=
      I.turnedNew (ch := [e, it]) (fun b ob hb q => (sb.2 b (fun z => hb (by simp [z]))).trans (hk b ob (fun z => hb (by simp [z])) (fun z => hb (by simp [z])) q)) hf (Nat.le_refl _) nw
    refine ⟨.ref s.heap.objs.size, _, I1, rfl, ⟨_, x, rfl, I.hok.fresh (Nat.le_refl _), rfl, fun ys hy => by rw [I.tuple_inj hy sq]; exact hx⟩, ⟨⟨u, ?_⟩, st1.1.at fun o q => (sb.2 it (Ne.symm ne)).trans q, ne, nae, nai⟩, fun b hb => ?_⟩
    · rw [show ((i + 1 : Nat) : Int) = (i : Int) + 1 by omega]
      exact en2
    · have lb : b < s.heap.objs.size := by
        rcases (show b = e ∨ b = it by simpa using hb) with rfl | rfl
        · exact le
        · exact li
      rw [upd_ne (Nat.ne_of_lt lb)]
      exact (hf b hb).1
  done := by
    intro X hP hw hK hc i pins s σ H E I hf st hg
    subst hP hw hK
    obtain ⟨⟨old, en⟩, ti, ne, nae, nai⟩ := st
    obtain ⟨xs, sq, hx⟩ := hg
    obtain ⟨us, rv, isT, _⟩ := I.tuple sq
    obtain ⟨f0, f1, f2, f3, f4, f5⟩ := hf it (by simp)
    have ll := rv.length
    have isT' : s.heap.IsTuple a us.toArray := isT
    have hT : s.TypeIs (.ref e) "enumerate" := ⟨_, en, rfl⟩
    unfold pyNext
    refine wpAny_bind (wpAny_attempt (wpAny_callSpecial?_slot (name := Str.ofString "__next__") hT F.slot_enumerate_next (wpAny_call_entry F.slot_enumerate_next hT F.entry_enumerate_next ?_ (F.args_enumerate_next_1 _))))
    show wpAny _ _ (field (.ref e) 2 >>= _) _ _ _
    refine wpAny_bind (wpAny_field en rfl (x := .ref it) rfl ?_)
    refine wpAny_bind (RZ.nextOf_tuple_end (I.ok.hd hc) ti isT' (by simp; omega) fun h1 x1 eb hx1 => ?_)
    obtain ⟨o1, ho1, hc1⟩ := hx1
    refine wpAny_bind (wpAny_isInstance (T := "StopIteration") (b := true) ⟨o1, ho1, hc1⟩ isSubtype_stop (wpAny_pure ?_))
    exact ⟨rfl, I.turned (t' := s.toks) (fun b o hb q => eb b o hb q) f0 f1 f3 f4 f5⟩
  self := fun A i s Q E st h => let ⟨⟨_, en⟩, _⟩ := st; wpAny_pyIter_enum en h
def iEnumA (K : PySem.W.Frag) (ta : TA) : TI := fun σ H R => ta σ H fun vs H1 => ∃ a xs, vs = [.ref a] ∧ ((SqL K H1 a xs ∧ R (Ite K a) H1) ∨ (SqT K H1 a xs ∧ R (IteT K a) H1))
theorem pi_enumA {X : Cx} {e : Expr} {ta : TA} {p pos tpos : Pos} {elts : List Expr} {kk : Nat} (hg : Gl X "enumerate") (hm : X.mg "enumerate" = none) (ha : PA X [e] ta) (hs : starEach [e] X.env = [(false, eval e X.env)] := by rfl) :
    PI X (.Tuple elts kk tpos) (.Call (.Name "enumerate" p) [e] [] pos) (iEnumA X.K ta) := by
  refine ⟨fun pins s σ H R I h => ?_⟩
  refine Call_ (ld_blt I hg hm boot_enumerate (PyProof.Rows.callWith_type1 (thn (ha.run pos pins s σ H _ I h) fun us s1 ⟨vs, H1, I1, r1, q1⟩ => ?_) hs rfl))
  obtain ⟨a, xs, rfl, q1⟩ := q1
  cases r1 with
  | cons r rr =>
    cases rr
    cases r
    have fin : ∀ b, b ∈ [s1.heap.objs.size + 1, s1.heap.objs.size] → FpOk X pins H1 b := fun b hb => by
      have lb : s1.heap.objs.size ≤ b := by
        rcases (show b = s1.heap.objs.size + 1 ∨ b = s1.heap.objs.size by simpa using hb) with rfl | rfl
        · exact Nat.le_add_right _ _
        · exact Nat.le_refl _
      exact I1.fpOk lb (I1.hok.fresh lb)
    rcases q1 with ⟨sq, q⟩ | ⟨sq, q⟩
    · obtain ⟨its, rv, isL, _⟩ := I1.list sq
      refine call_enumerate_list isL.isList fun h1 en ti _ hk => wpAny_pyIter_enum en ?_
      exact ⟨s1.heap.objs.size + 1, [s1.heap.objs.size + 1, s1.heap.objs.size], _, _, H1, rfl, I1.kept (t' := s1.toks) hk, turn_enum a (s1.heap.objs.size + 1) s1.heap.objs.size, ⟨⟨.none, en⟩, ti, Nat.succ_ne_self _⟩, fin, q⟩
    · obtain ⟨its, rv, isT, _⟩ := I1.tuple sq
      obtain ⟨o0, ho0, _⟩ := id isT
      have la := Heap.lt_size ho0
      refine rk_call_enumT (show s1.heap.IsTuple a its.toArray from isT) fun h1 en ti _ hk => wpAny_pyIter_enum en ?_
      exact ⟨s1.heap.objs.size + 1, [s1.heap.objs.size + 1, s1.heap.objs.size], _, _, H1, rfl, I1.kept (t' := s1.toks) hk, turn_enumT a (s1.heap.objs.size + 1) s1.heap.objs.size, ⟨⟨.none, en⟩, ti, Nat.succ_ne_self _, Nat.ne_of_lt (Nat.lt_succ_of_lt la), Nat.ne_of_lt la⟩, fin, q⟩
end Rk

/-! Rk37: enumerate, of lists and tuples. -/
namespace Rk
open PySem PySem.Spec L2
section
variable {K : PySem.W.Frag}
theorem enumT_it {a : Addr} {ds : List Da} : ItOk K (IteT K a) ⟨ds.mapIdx fun i d => .tuple [.int (i : Nat), d], none⟩ (fun φ h H => Rep K H (Live φ h) (.ref a) (.tuple ds)) where
  go := fun φ h H i sm g gd hi => by
    obtain ⟨us, sq, rs⟩ := Rep.sqT g
    have hi' : i < ds.length := by simpa using hi
    obtain ⟨y, e, _⟩ := rs.get (List.getElem?_eq_getElem hi')
    exact ⟨us, y, sq, e⟩
  yld := fun φ h H i x H' d sm g gd ed ⟨T, y, ex, hT, e, q⟩ => by
    subst ex e
    obtain ⟨us, sq, rs⟩ := Rep.sqT g
    rw [List.getElem?_mapIdx] at ed
    cases e3 : ds[i]? with
    | none => rw [e3] at ed; cases ed
    | some d0 =>
      rw [e3] at ed
      cases ed
      obtain ⟨y2, ey, ry⟩ := rs.get e3
      have e2 := q us sq
      rw [ey] at e2
      cases e2
      obtain ⟨s1, s2, s3⟩ := new_tup (mg := fun _ => none) sm (ds := [.int (i : Nat), d0]) (.cons (.int _) (.cons ry .nil)) hT
      exact ⟨s1, s2, s3⟩
  stop := fun φ h H i sm g gd hi => by
    obtain ⟨us, sq, rs⟩ := Rep.sqT g
    exact ⟨us, sq, by rw [rs.length]; simpa using hi⟩
  keep := fun φ h H φ' h' H' g st => Rep.stay st.st g
end
def iEnumB (as : Av) : Iv := fun ρ h => (as ρ h).bind fun vs h1 => match vs with
  | [.d (.tuple ds)] => .ok ⟨ds.mapIdx fun i d => .tuple [.int (i : Nat), d], none⟩ h1
  | [v] => enumI (itL v h1)
  | _ => .no
section
variable {X : Cx} {W : WX} {pos p : Pos} {fs : Av}
theorem ei_enumB {elts : List Expr} {kk : Nat} {tpos : Pos} {a : Expr} (hg : Gl X "enumerate") (hm : X.mg "enumerate" = none) (ha : EA X W [a] fs) (hs : starEach [a] X.env = [(false, eval a X.env)] := by rfl) : EI X W (.Tuple elts kk tpos) (.Call (.Name "enumerate" p) [a] [] pos) (iEnumB fs) :=
  PI.of (pi_enumA hg hm ha hs) fun σ H R ⟨φ, h, ρ, sm, er, q⟩ => ⟨φ, h, ρ, sm, er, PoI.goA q fun xs vs h1 H1 φ1 st sm1 rv q1 => by
    split at q1
    · obtain ⟨x, rfl, r⟩ := rv.one
      obtain ⟨a, us, rfl, sq, rs⟩ := VRep.tup r
      exact ⟨a, us, rfl, .inr ⟨sq, q1 _ H1 φ1 _ (Step.refl _ _ _) sm1 enumT_it r⟩⟩
    · rename_i v _
      obtain ⟨x, rfl, r⟩ := rv.one
      cases e : itL v h1 with
      | ok m h2 =>
        rw [e] at q1
        obtain ⟨rfl, gd, a, G, rfl, L, g⟩ := itL_lok sm1 r e
        obtain ⟨ys, sq, _⟩ := L.sq _ _ _ sm1 g gd
        exact ⟨a, ys, rfl, .inl ⟨sq, q1 _ H1 φ1 _ (Step.refl _ _ _) sm1 (enum_it L) g⟩⟩
      | ex c fs h2 =>
        unfold itL at e
        split at e
        · cases e
        · split at e <;> cases e
        · cases e
      | no =>
        rw [e] at q1
        exact q1.elim
    · exact q1.elim⟩
end
section
variable {QI : Itm → Hh → Prop} {E : XP} {ρ : En} {h : Hh} {as : Av}
theorem wp_enumB (w : Wp (as ρ h) (fun vs h1 => ∃ ds, (vs = [.d (.list ds)] ∨ vs = [.d (.tuple ds)]) ∧ QI ⟨ds.mapIdx fun i d => .tuple [.int (i : Nat), d], none⟩ h1) E) : Wp (iEnumB as ρ h) QI E :=
  wp_bind (w.mono (fun _ _ ⟨ds, e, q⟩ => by
    rcases e with e | e
    · rw [e]; exact ⟨q⟩
    · rw [e]; exact ⟨q⟩) fun _ _ _ z => z)
theorem ex_enumL {ds : List Da} {P : List Da → Prop} (q : P ds) : ∃ es, ([Vl.d (.list ds)] = [.d (.list es)] ∨ [Vl.d (.list ds)] = [.d (.tuple es)]) ∧ P es := ⟨ds, .inl rfl, q⟩
theorem ex_enumT {ds : List Da} {P : List Da → Prop} (q : P ds) : ∃ es, ([Vl.d (.tuple ds)] = [.d (.list es)] ∨ [Vl.d (.tuple ds)] = [.d (.tuple es)]) ∧ P es := ⟨ds, .inr rfl, q⟩
end
theorem ex_is_int_none {h : Hh} {P : Bool → Prop} (q : P false) : ∃ k, isTy .int (.d .none) h = some k ∧ P k := ⟨false, rfl, q⟩
theorem ex_is_int_bool {b : Bool} {h : Hh} {P : Bool → Prop} (q : P true) : ∃ k, isTy .int (.d (.bool b)) h = some k ∧ P k := ⟨true, rfl, q⟩
theorem ex_is_int_int {i : Int} {h : Hh} {P : Bool → Prop} (q : P true) : ∃ k, isTy .int (.d (.int i)) h = some k ∧ P k := ⟨true, rfl, q⟩
theorem ex_is_int_str {x : Str} {h : Hh} {P : Bool → Prop} (q : P false) : ∃ k, isTy .int (.d (.str x)) h = some k ∧ P k := ⟨false, rfl, q⟩
theorem ex_is_int_tuple {ds : List Da} {h : Hh} {P : Bool → Prop} (q : P false) : ∃ k, isTy .int (.d (.tuple ds)) h = some k ∧ P k := ⟨false, rfl, q⟩
theorem ex_is_int_list {ds : List Da} {h : Hh} {P : Bool → Prop} (q : P false) : ∃ k, isTy .int (.d (.list ds)) h = some k ∧ P k := ⟨false, rfl, q⟩
theorem ex_is_int_Q {r : Rat} {h : Hh} {P : Bool → Prop} (q : P false) : ∃ k, isTy .int (.d (Rk.Q r)) h = some k ∧ P k := ⟨false, rfl, q⟩
theorem ex_is_bool_none {h : Hh} {P : Bool → Prop} (q : P false) : ∃ k, isTy .bool (.d .none) h = some k ∧ P k := ⟨false, rfl, q⟩
theorem ex_is_bool_bool {b : Bool} {h : Hh} {P : Bool → Prop} (q : P true) : ∃ k, isTy .bool (.d (.bool b)) h = some k ∧ P k := ⟨true, rfl, q⟩
theorem ex_is_bool_int {i : Int} {h : Hh} {P : Bool → Prop} (q : P false) : ∃ k, isTy .bool (.d (.int i)) h = some k ∧ P k := ⟨false, rfl, q⟩
theorem ex_is_bool_str {x : Str} {h : Hh} {P : Bool → Prop} (q : P false) : ∃ k, isTy .bool (.d (.str x)) h = some k ∧ P k := ⟨false, rfl, q⟩
theorem ex_is_bool_tuple {ds : List Da} {h : Hh} {P : Bool → Prop} (q : P false) : ∃ k, isTy .bool (.d (.tuple ds)) h = some k ∧ P k := ⟨false, rfl, q⟩
theorem ex_is_bool_list {ds : List Da} {h : Hh} {P : Bool → Prop} (q : P false) : ∃ k, isTy .bool (.d (.list ds)) h = some k ∧ P k := ⟨false, rfl, q⟩
theorem ex_is_bool_Q {r : Rat} {h : Hh} {P : Bool → Prop} (q : P false) : ∃ k, isTy .bool (.d (Rk.Q r)) h = some k ∧ P k := ⟨false, rfl, q⟩
theorem ex_is_str_none {h : Hh} {P : Bool → Prop} (q : P false) : ∃ k, isTy .str (.d .none) h = some k ∧ P k := ⟨false, rfl, q⟩
theorem ex_is_str_bool {b : Bool} {h : Hh} {P : Bool → Prop} (q : P false) : ∃ k, isTy .str (.d (.bool b)) h = some k ∧ P k := ⟨false, rfl, q⟩
theorem ex_is_str_int {i : Int} {h : Hh} {P : Bool → Prop} (q : P false) : ∃ k, isTy .str (.d (.int i)) h = some k ∧ P k := ⟨false, rfl, q⟩
theorem ex_is_str_str {x : Str} {h : Hh} {P : Bool → Prop} (q : P true) : ∃ k, isTy .str (.d (.str x)) h = some k ∧ P k := ⟨true, rfl, q⟩
theorem ex_is_str_tuple {ds : List Da} {h : Hh} {P : Bool → Prop} (q : P false) : ∃ k, isTy .str (.d (.tuple ds)) h = some k ∧ P k := ⟨false, rfl, q⟩
theorem ex_is_str_list {ds : List Da} {h : Hh} {P : Bool → Prop} (q : P false) : ∃ k, isTy .str (.d (.list ds)) h = some k ∧ P k := ⟨false, rfl, q⟩
theorem ex_is_str_Q {r : Rat} {h : Hh} {P : Bool → Prop} (q : P false) : ∃ k, isTy .str (.d (Rk.Q r)) h = some k ∧ P k := ⟨false, rfl, q⟩
theorem ex_is_tuple_none {h : Hh} {P : Bool → Prop} (q : P false) : ∃ k, isTy .tuple (.d .none) h = some k ∧ P k := ⟨false, rfl, q⟩
theorem ex_is_tuple_bool {b : Bool} {h : Hh} {P : Bool → Prop} (q : P false) : ∃ k, isTy .tuple (.d (.bool b)) h = some k ∧ P k := ⟨false, rfl, q⟩
theorem ex_is_tuple_int {i : Int} {h : Hh} {P : Bool → Prop} (q : P false) : ∃ k, isTy .tuple (.d (.int i)) h = some k ∧ P k := ⟨false, rfl, q⟩
theorem ex_is_tuple_str {x : Str} {h : Hh} {P : Bool → Prop} (q : P false) : ∃ k, isTy .tuple (.d (.str x)) h = some k ∧ P k := ⟨false, rfl, q⟩
theorem ex_is_tuple_tuple {ds : List Da} {h : Hh} {P : Bool → Prop} (q : P true) : ∃ k, isTy .tuple (.d (.tuple ds)) h = some k ∧ P k := ⟨true, rfl, q⟩
theorem ex_is_tuple_list {ds : List Da} {h : Hh} {P : Bool → Prop} (q : P false) : ∃ k, isTy .tuple (.d (.list ds)) h = some k ∧ P k := ⟨false, rfl, q⟩
theorem ex_is_tuple_Q {r : Rat} {h : Hh} {P : Bool → Prop} (q : P true) : ∃ k, isTy .tuple (.d (Rk.Q r)) h = some k ∧ P k := ⟨true, rfl, q⟩
theorem ex_is_list_none {h : Hh} {P : Bool → Prop} (q : P false) : ∃ k, isTy .list (.d .none) h = some k ∧ P k := ⟨false, rfl, q⟩
theorem ex_is_list_bool {b : Bool} {h : Hh} {P : Bool → Prop} (q : P false) : ∃ k, isTy .list (.d (.bool b)) h = some k ∧ P k := ⟨false, rfl, q⟩
theorem ex_is_list_int {i : Int} {h : Hh} {P : Bool → Prop} (q : P false) : ∃ k, isTy .list (.d (.int i)) h = some k ∧ P k := ⟨false, rfl, q⟩
theorem ex_is_list_str {x : Str} {h : Hh} {P : Bool → Prop} (q : P false) : ∃ k, isTy .list (.d (.str x)) h = some k ∧ P k := ⟨false, rfl, q⟩
theorem ex_is_list_tuple {ds : List Da} {h : Hh} {P : Bool → Prop} (q : P false) : ∃ k, isTy .list (.d (.tuple ds)) h = some k ∧ P k := ⟨false, rfl, q⟩
theorem ex_is_list_list {ds : List Da} {h : Hh} {P : Bool → Prop} (q : P true) : ∃ k, isTy .list (.d (.list ds)) h = some k ∧ P k := ⟨true, rfl, q⟩
theorem ex_is_list_Q {r : Rat} {h : Hh} {P : Bool → Prop} (q : P false) : ∃ k, isTy .list (.d (Rk.Q r)) h = some k ∧ P k := ⟨false, rfl, q⟩
theorem ex_is_dict_none {h : Hh} {P : Bool → Prop} (q : P false) : ∃ k, isTy .dict (.d .none) h = some k ∧ P k := ⟨false, rfl, q⟩
theorem ex_is_dict_bool {b : Bool} {h : Hh} {P : Bool → Prop} (q : P false) : ∃ k, isTy .dict (.d (.bool b)) h = some k ∧ P k := ⟨false, rfl, q⟩
theorem ex_is_dict_int {i : Int} {h : Hh} {P : Bool → Prop} (q : P false) : ∃ k, isTy .dict (.d (.int i)) h = some k ∧ P k := ⟨false, rfl, q⟩
theorem ex_is_dict_str {x : Str} {h : Hh} {P : Bool → Prop} (q : P false) : ∃ k, isTy .dict (.d (.str x)) h = some k ∧ P k := ⟨false, rfl, q⟩
theorem ex_is_dict_tuple {ds : List Da} {h : Hh} {P : Bool → Prop} (q : P false) : ∃ k, isTy .dict (.d (.tuple ds)) h = some k ∧ P k := ⟨false, rfl, q⟩
theorem ex_is_dict_list {ds : List Da} {h : Hh} {P : Bool → Prop} (q : P false) : ∃ k, isTy .dict (.d (.list ds)) h = some k ∧ P k := ⟨false, rfl, q⟩
theorem ex_is_dict_Q {r : Rat} {h : Hh} {P : Bool → Prop} (q : P false) : ∃ k, isTy .dict (.d (Rk.Q r)) h = some k ∧ P k := ⟨false, rfl, q⟩
end Rk

/-! Rk38: dicts at the end of the heap; rounding by each way. -/
namespace Rk
open PySem PySem.Spec L2
section
variable {h l : Hh} {k : Nat} {kds kds' : List (Key × Da)} {x : Str} {v d : Da} {Q : Vl → Hh → Prop} {E : XP} {N : Hh → Prop} {ρ : En}
theorem wp_dct0 (q : Q (.r h.length) (h ++ [some (.dct [])])) : Wp (eDct pNil ρ h) Q E := ⟨q⟩
theorem ex_setDE (hk : h.length = k) (e : putD kds (.inr x) v = kds') (hl : kds.length < 16777216) (q : N (h ++ some (.dct kds') :: l)) : ∃ h3, setD (.r k) (.d (.str x)) (.d v) (h ++ some (.dct kds) :: l) = some h3 ∧ N h3 := by
  subst hk e
  refine ⟨_, set_of (kds' := putD kds (.inr x) v) (by simp) rfl hl, ?_⟩
  simpa using q
theorem wo_dgE (hk : h.length = k) (e : valD kds (.inr x) = some d) (q : Q (.d d) (h ++ some (.dct kds) :: l)) : Wo (gDG (.r k) (.d (.str x)) (h ++ some (.dct kds) :: l)) Q := by
  subst hk
  exact wo_eq (dg_of (by simp) e) q
theorem putD_new {kds : List (Key × Da)} {k : Key} {d : Da} (h : ∀ kv ∈ kds, kv.1 ≠ k) : putD kds k d = kds ++ [(k, d)] := by
  unfold putD
  rw [if_neg]
  intro z
  obtain ⟨kv, m, e⟩ := List.any_eq_true.mp z
  exact h kv m (of_decide_eq_true e)
theorem putD_0 {k : Key} {d : Da} : putD [] k d = [(k, d)] := rfl
end
theorem wo_iyE {h l : Hh} {k : Nat} {kds : List (Key × Da)} {x : Str} {d : Da} {Q : Vl → Hh → Prop} (hk : h.length = k) (e : valD kds (.inr x) = some d) (q : Q (.d d) (h ++ some (.dct kds) :: l)) : Wo (gIy (.r k) (.d (.str x)) (h ++ some (.dct kds) :: l)) Q := by
  subst hk
  refine wo_eq (v := .d d) (h' := h ++ some (.dct kds) :: l) ?_ q
  unfold gIy
  rw [dg_of (by simp) e]
/-! ### rounding by each way -/
theorem fl_neg {t : Rat} (h : (t.floor : Rat) ≠ t) : (-t).floor = -t.floor - 1 := by
  have l1 := fl_le t
  have l2 := fl_lt t
  refine fl_eq ?_ ?_
  · rw [Rat.intCast_sub, Rat.intCast_neg, Rat.intCast_one]
    grind
  · rw [Rat.intCast_sub, Rat.intCast_neg, Rat.intCast_one]
    grind
theorem wb_down (t : Rat) : wb "down" t = t.floor := by
  unfold wb
  rw [upB_down]
  simp
theorem wb_upw (t : Rat) : wb "up" t = t.floor + (if (t.floor : Rat) = t then 0 else 1) := by
  have l1 := fl_le t
  unfold wb
  rw [upB_up]
  by_cases z : (t.floor : Rat) = t
  · rw [if_pos z, decide_eq_false (by grind)]
    simp
  · rw [if_neg z, decide_eq_true (by grind)]
    simp
theorem wb_nought (t : Rat) : wb "nought" t = if t < 0 then wb "up" t else wb "down" t := by
  rw [wb_upw, wb_down]
  have l1 := fl_le t
  unfold wb
  rw [upB_nought]
  by_cases z : t < 0
  · rw [if_pos z, decide_eq_true z, Bool.true_and]
    by_cases y : (t.floor : Rat) = t
    · rw [if_pos y, decide_eq_false (by grind)]
      simp
    · rw [if_neg y, decide_eq_true (by grind)]
      simp
  · rw [if_neg z, decide_eq_false z, Bool.false_and]
    simp
theorem wb_nearw (t : Rat) : wb "near" t = if t - t.floor < (t.floor : Rat) + 1 - t then t.floor else if t - t.floor = (t.floor : Rat) + 1 - t then (if t.floor % 2 = 0 then t.floor else t.floor + 1) else t.floor + 1 := by
  unfold wb
  rw [upB_near, Int.fmod_eq_emod_of_nonneg _ (by decide)]
  by_cases z : t - t.floor < (t.floor : Rat) + 1 - t
  · rw [if_pos z, decide_eq_false (by grind), decide_eq_false (by grind)]
    simp
  · rw [if_neg z]
    by_cases y : t - t.floor = (t.floor : Rat) + 1 - t
    · rw [if_pos y, decide_eq_false (by grind), decide_eq_true (show 2 * (t - (t.floor : Rat)) = 1 by grind)]
      by_cases x : t.floor % 2 = 0
      · rw [if_pos x, decide_eq_false (by omega)]
        simp
      · rw [if_neg x, decide_eq_true (by omega)]
        simp
    · rw [if_neg y, decide_eq_true (by grind)]
      simp
theorem wb_negD (t : Rat) : wb "down" (-t) = -wb "up" t := by
  rw [wb_down, wb_upw]
  by_cases z : (t.floor : Rat) = t
  · rw [if_pos z]
    have : (-t).floor = -t.floor := by
      conv => lhs; rw [← z, ← Rat.intCast_neg, Rat.floor_intCast]
    rw [this]
    omega
  · rw [if_neg z, fl_neg z]
    omega
theorem wb_negU (t : Rat) : wb "up" (-t) = -wb "down" t := by
  have := wb_negD (-t)
  rw [Rat.neg_neg] at this
  omega
theorem wb_negN (t : Rat) : wb "nought" (-t) = -wb "nought" t := by
  rw [wb_nought, wb_nought, wb_negD, wb_negU]
  by_cases z : t < 0
  · rw [if_pos z, if_neg (by grind)]
  · rw [if_neg z]
    by_cases y : -t < 0
    · rw [if_pos y]
    · rw [if_neg y]
      have : t = 0 := by grind
      subst this
      have e := wb_int "up" 0
      have e2 := wb_int "down" 0
      rw [Rat.intCast_zero] at e e2
      rw [e, e2]
theorem wb_negH (t : Rat) : wb "near" (-t) = -wb "near" t := by
  by_cases z : (t.floor : Rat) = t
  · have e := wb_int "near" t.floor
    have e2 := wb_int "near" (-t.floor)
    rw [Rat.intCast_neg, z] at e2
    rw [z] at e
    rw [e, e2]
  · have l1 := fl_le t
    rw [wb_nearw, wb_nearw, fl_neg z, Rat.intCast_sub, Rat.intCast_neg, Rat.intCast_one]
    by_cases a : t - t.floor < (t.floor : Rat) + 1 - t
    · rw [if_pos a, if_neg (by grind), if_neg (by grind)]
      omega
    · rw [if_neg a]
      by_cases b : t - t.floor = (t.floor : Rat) + 1 - t
      · rw [if_pos b, if_neg (by grind), if_pos (by grind)]
        by_cases c : t.floor % 2 = 0
        · rw [if_pos c, if_neg (by omega)]
          omega
        · rw [if_neg c, if_pos (by omega)]
          omega
      · rw [if_neg b, if_pos (by grind)]
        omega
end Rk

/-! Rk39: shifts, bit_length, the place of a part in a list. -/
namespace Rk
open PySem PySem.Spec L2
variable {mg : Str → Option Value}
def fShl (a b : Int) : Option Da := if 0 ≤ b ∧ b ≤ 1000000 ∧ a.natAbs < 2 ^ 64 then some (.int (a * 2 ^ b.toNat)) else none
section
variable {K : PySem.W.Frag}
theorem ok_shl : Ok2 K mg (rI CPow fun i j => .int (i * 2 ^ j.toNat)) (gInt fShl) := gInt_ok fun a b d H Q e k => by
  unfold fShl at e
  split at e
  · cases e
    exact ⟨a, b, rfl, rfl, by assumption, k _ fun _ => .int _⟩
  · cases e
def gIdx : GM := fun o as h => match asL o h, as with
  | some ds, [.d y] => if flatD y && ds.all flatD then (ds.findIdx? fun z => eqF z y).map fun j => (.d (.int (j : Nat)), h) else none
  | _, _ => none
theorem ok_idx : OkM K mg (rIndex K) gIdx := by
  intro φ h H x xs o as Q v h' sm rx rs e k
  unfold gIdx at e
  split at e
  · rename_i ds y ed
    obtain ⟨z, rfl, rz⟩ := rs.one
    obtain ⟨a, us, rfl, sq, rr⟩ := asL_ok sm rx ed
    split at e
    · rename_i hf
      rw [Bool.and_eq_true] at hf
      cases q : ds.findIdx? (fun z => eqF z y) with
      | none => rw [q] at e; cases e
      | some j =>
        rw [q] at e
        cases e
        obtain ⟨hj, e1, e2⟩ := List.findIdx?_eq_some_iff_getElem.mp q
        obtain ⟨u, eu, ru⟩ := rr.get (List.getElem?_eq_getElem hj)
        have fl : ∀ i (hi : i < ds.length), flatD ds[i] = true := fun i hi => List.all_eq_true.mp hf.2 _ (List.getElem_mem hi)
        refine ⟨a, us, z, j, u, rfl, rfl, sq, flat_ok rz hf.1, flats_ok rr hf.2, eu, ?_, fun m z' hm ez => ?_, k _ H φ (Step.refl _ _ _) sm (Rep.int _)⟩
        · rw [eqF_ok ru rz (fl j hj) hf.1]
          exact e1
        · have hm2 : m < ds.length := by omega
          obtain ⟨u2, eu2, ru2⟩ := rr.get (List.getElem?_eq_getElem hm2)
          rw [ez] at eu2
          cases eu2
          rw [eqF_ok ru2 rz (fl m hm2) hf.1]
          have := e2 m hm
          simpa using this
    · cases e
  · cases e
end
def eBits (f : Ev) : Ev := fun ρ h => (f ρ h).bind fun x h1 => match x with
  | .d (.int i) => .ok (.d (.int (Builtin.Int.intBits i : Nat))) h1
  | _ => .no
section
variable {X : Cx} {W : WX} {o : Expr} {fo : Ev} {apos pos : Pos}
theorem ee_bits (ho : EE X W o fo) (hbase : attributeBase o "bit_length" X.env (eval o X.env) = eval o X.env := by rfl) (hline : (apos.endLine == pos.line) = true := by rfl) : EE X W (.Call (.Attribute o "bit_length" apos) [] [] pos) (eBits fo) :=
  PE.of (pe_bits ho hbase hline) fun σ H Q ⟨φ, h, ρ, sm, er, q⟩ => ⟨φ, h, ρ, sm, er, PoX.goE q fun x v h1 H1 φ1 st sm1 rv q1 => by
    split at q1
    · exact ⟨_, VRep.int rv, q1.now sm1 (Rep.int _)⟩
    · exact q1.elim⟩
end
section
variable {Q : Vl → Hh → Prop} {E : XP} {ρ : En} {h : Hh} {f : Ev} {a b : Int} {ds : List Da}
theorem wo_shl (h1 : 0 ≤ b) (h2 : b ≤ 1000000) (h3 : Bd 64 a) (q : Q (.d (.int (a * 2 ^ b.toNat))) h) : Wo (gInt fShl (.d (.int a)) (.d (.int b)) h) Q := wo_eq (by rw [gInt_eq, fShl, if_pos ⟨h1, h2, h3⟩]; rfl) q
theorem wp_bits (w : Wp (f ρ h) (fun v h1 => ∃ i, v = .d (.int i) ∧ Q (.d (.int (Builtin.Int.intBits i : Nat))) h1) E) : Wp (eBits f ρ h) Q E :=
  wp_bind (w.mono (fun _ _ ⟨i, e, q⟩ => by rw [e]; exact ⟨q⟩) fun _ _ _ z => z)
theorem tyL_D {P : Prop} (q : P) : tyL (.d (.list ds)) h = true ∧ P := ⟨rfl, q⟩
theorem wo_idx {y : Da} {j : Nat} (h1 : (flatD y && ds.all flatD) = true) (e : ds.findIdx? (fun z => eqF z y) = some j) (q : Q (.d (.int (j : Int))) h) : Wo (gIdx (.d (.list ds)) [.d y] h) Q :=
  wo_eq (v := .d (.int (j : Int))) (h' := h) (by
    show (if (flatD y && ds.all flatD) = true then (ds.findIdx? fun z => eqF z y).map fun j => ((.d (.int (j : Nat)) : Vl), h) else none) = _
    rw [if_pos h1, e]
    rfl) q
end
end Rk

/-! Rk40: all, max and places over typed lists. -/
namespace Rk
open PySem PySem.Spec L2
section
variable {α : Type} {Q : Vl → Hh → Prop} {h : Hh}
theorem bools_map (P : α → Bool) : ∀ xs : List α, boolsOf (xs.map fun x => (.bool (P x) : Da)) = some (xs.map P)
  | [] => rfl
  | x :: xs => by
    rw [List.map_cons, List.map_cons]
    show (boolsOf (xs.map fun x => (.bool (P x) : Da))).map (P x :: ·) = _
    rw [bools_map P xs]
    rfl
theorem ints_map (f : α → Int) : ∀ xs : List α, intsOf (xs.map fun x => (.int (f x) : Da)) = some (xs.map f)
  | [] => rfl
  | x :: xs => by
    rw [List.map_cons, List.map_cons]
    show (intsOf (xs.map fun x => (.int (f x) : Da))).map (f x :: ·) = _
    rw [ints_map f xs]
    rfl
theorem wo_allP (xs : List α) (P : α → Bool) (q : Q (.d (.bool (xs.all P))) h) : Wo (gAll [.d (.list (xs.map fun x => .bool (P x)))] h) Q :=
  wo_all (bools_map P xs) (by
    rw [List.all_map]
    exact q)
theorem wo_allT (xs : List α) (q : Q (.d (.bool true)) h) : Wo (gAll [.d (.list (xs.map fun _ => .bool true))] h) Q :=
  wo_allP xs (fun _ => true) (by
    have e : (xs.all fun _ => true) = true := List.all_eq_true.mpr fun _ _ => rfl
    rw [e]
    exact q)
theorem flat_ints (f : α → Int) (xs : List α) (y : Int) : (flatD (.int y) && (xs.map fun x => (.int (f x) : Da)).all flatD) = true := by
  simp [flatD]
theorem maxI_max : ∀ (r : List Int) (a : Int), maxI a r ∈ a :: r ∧ ∀ y ∈ a :: r, y ≤ maxI a r
  | [], a => ⟨List.mem_cons_self, fun y hy => by
    simp at hy
    rw [hy]
    exact Int.le_refl _⟩
  | b :: r, a => by
    obtain ⟨h1, h2⟩ := maxI_max r b
    show max a (maxI b r) ∈ _ ∧ ∀ y ∈ _, y ≤ max a (maxI b r)
    refine ⟨?_, fun y hy => ?_⟩
    · rcases Int.le_total a (maxI b r) with z | z
      · rw [Int.max_eq_right z]
        exact List.mem_cons_of_mem _ h1
      · rw [Int.max_eq_left z]
        exact List.mem_cons_self
    · rcases List.mem_cons.mp hy with rfl | hy
      · omega
      · have := h2 y hy
        omega
end
end Rk

/-! Rk41: a target within a target; what many shown things take. -/
namespace Rk
open PySem PySem.Spec L2
section
variable {ρ : En} {h : Hh} {N : En → Hh → Prop} {i j k : Nat} {d0 d1 d2 : Da} {r s : Rat}
theorem gk_tupN (w : SetK i ρ (.d d0) h fun ρ1 h1 => SetK j ρ1 (.d d1) h1 fun ρ2 h2 => SetK k ρ2 (.d d2) h2 N) : GvK (gTupT 2 (gsCons (gN i) (gsCons (gTupT 2 (gsCons (gN j) (gsCons (gN k) gsNil))) gsNil)) (.d (.tuple [d0, .tuple [d1, d2]])) ρ h) N := w
theorem gk_tupM (w : SetK i ρ (.d d0) h fun ρ1 h1 => SetK j ρ1 (.d d1) h1 fun ρ2 h2 => SetK k ρ2 (.d d2) h2 N) : GvK (gTupT 2 (gsCons (gTupT 2 (gsCons (gN i) (gsCons (gN j) gsNil))) (gsCons (gN k) gsNil)) (.d (.tuple [.tuple [d0, d1], d2])) ρ h) N := w
end
theorem ShwL.of {k e n : Nat} {ds : List Da} (h : ∀ d ∈ ds, Shw k e d) (hl : ds.length ≤ n) : ShwL (n * (k + 2)) e ds := by
  induction ds generalizing n with
  | nil => exact ⟨ShwL.nil.s, ShwL.nil.n, Nat.le_trans ShwL.nil.d (Nat.zero_le _), Nat.le_trans ShwL.nil.l (Nat.zero_le _)⟩
  | cons d ds ih =>
    cases n with
    | zero => simp at hl
    | succ n =>
      have a := ih (n := n) (fun x hx => h x (List.mem_cons_of_mem _ hx)) (by simpa using hl)
      have b := ShwL.cons (h d (List.mem_cons_self ..)) a
      rw [Nat.max_self] at b
      refine ⟨b.s, b.n, b.d, Nat.le_trans b.l ?_⟩
      rw [Nat.succ_mul]
      omega
end Rk

/-! Rk42: errors raised, caught and kept; a caught error is told of in the abstract heap from then on. -/
namespace Rk
open PySem PySem.Spec L2
section
variable {X : Cx} {pins : List (Addr × Obj)} {σ : L2.St} {H : Hp} {s : Shared} {a : Addr} {oe : Obj} {vs : Array Value} {cls : Value} {dd : Option Addr}
theorem exO_is {P : Program} {w : World} {HH : Hp} {h : Heap} (e : h.get? a = some oe) (z : Zc cls dd oe) (hd : oe.data = .fields vs) : ObjOk P w HH h a (exO a cls dd) :=
  ⟨⟨oe, vs, e, z, hd⟩, ⟨oe, e⟩, fun _ _ ⟨o, us, e1, z1, d1⟩ k => ⟨o, us, k o e1, z1, d1⟩⟩
/-- an object that was there, untold, is told of from now on -/
theorem tell (I : Inv X pins σ H s) (e : s.heap.get? a = some oe) (z : Zc cls dd oe) (hd : oe.data = .fields vs) (na : H a = none) (n0 : a ∉ X.ex → X.s_0.heap.get? a = none) (nP : ∀ p ∈ X.pn ++ pins, p.1 ≠ a) : Inv X pins σ (upd H a (exO a cls dd)) s := by
  have ne : ∀ {b : Addr} {u : HO}, H b = some u → upd H a (exO a cls dd) b = some u := fun {b u} q => by
    rw [upd_ne fun y => by rw [y, na] at q; cases q]
    exact q
  have nl : X.env.locals ≠ a := fun y => by
    obtain ⟨m, ⟨o, es, ep, ho, hdat, _⟩, _⟩ := I.loc
    rw [y, e] at ho
    cases ho
    rw [hd] at hdat
    cases hdat
  have nc : ∀ x c, X.env.cells.lookup x = some c → c ≠ a := fun x c q y => by
    obtain ⟨v, o, ho, hdat⟩ := I.cell x c q
    rw [y, e] at ho
    cases ho
    rw [hd] at hdat
    cases hdat
  refine ⟨I.ok, I.os, I.bare, ⟨I.base.keep, I.base.slot, fun b o q1 q2 q3 => ?_, I.base.there, fun b xs q => ne (I.base.tups b xs q), fun b o u q => ne (I.base.frzs b o u q), fun b ps q => ?_⟩, I.loc, I.cell, ?_, fun x c q => ?_, fun p hp => ?_, fun b u q => ?_, I.len⟩
  · rw [upd_ne fun y => by rw [y, n0 (by rw [← y]; exact q3)] at q1; cases q1]
    exact I.base.free b o q1 q2 q3
  · obtain ⟨more, q1⟩ := I.base.tbls b ps q
    exact ⟨more, ne q1⟩
  · rw [upd_ne nl]
    exact I.free
  · rw [upd_ne (nc x c q)]
    exact I.freeC x c q
  · obtain ⟨p1, p2, p3⟩ := I.pin p hp
    exact ⟨p1, by rw [upd_ne (nP p hp)]; exact p2, p3⟩
  · by_cases y : b = a
    · subst y
      rw [upd_same] at q
      cases q
      exact exO_is e z hd
    · rw [upd_ne y] at q
      exact (I.hok b u q).stay (fun _ _ _ g => g) (fun _ g => ne g) fun _ _ g => ne g
theorem toSuite (I : Inv X pins σ H s) (a : Addr) : Inv (X.suite a (X.pn ++ pins)) [] σ H s :=
  ⟨I.ok.suite a _, I.os, I.bare, I.base, I.loc, I.cell, I.free, I.freeC, fun p hp => I.pin p (by rw [List.append_nil] at hp; exact hp), I.hok, I.len⟩
theorem offSuite {b : Addr} (I : Inv (X.suite b (X.pn ++ pins)) [] σ H s) (ok : X.Ok) : Inv X pins σ H s :=
  ⟨ok, I.os, I.bare, I.base, I.loc, I.cell, I.free, I.freeC, fun p hp => I.pin p (by rw [List.append_nil]; exact hp), I.hok, I.len⟩
end
/-- what is wished of an error that leaves a try's body: where the clause takes it, what the suite wishes, the error told of, its name gone behind -/
def wTl (K : PySem.W.Frag) (c : Value) (i : Nat) (ts : TS) (Wo : WX) (D : Ends) : WX := fun cls d σ H =>
  ∃ b, PySem.W.exmOne K cls c = some b ∧
    (b = true → ∀ a, H a = none → ts ⟨fun σ1 H1 => D.nx (σ1.set i none) H1, D.rt, fun σ1 H1 => D.bk (σ1.set i none) H1, fun σ1 H1 => D.ct (σ1.set i none) H1⟩ (σ.set i (some (.ref a))) (upd H a (exO a cls d))) ∧
    (b = false → Wo cls d σ H)
section
variable {X : Cx} {x n : Str} {c : Value} {i : Nat} {body suite : List Stmt} {st0 : Stmt} {np p1 p2 : Pos} {tb : WX → TS} {ts : TS} {Wo : WX}
theorem ps_tryT (hs : X.stack = X.env :: X.outer) (hf : X.env.frame = some X.env.locals) (hN : X.N.Nodup) (hi : X.N[i]? = some n) (hk : X.env.kindOf n = some .local) (hc : Names X x c) (tk : Takes X Wo)
    (hb : ∀ (W : WX) (pn : List (Addr × Obj)) (xe : Value → Shared → Prop), Takes (X.tr pn xe) W → PassesOwn (model X.prog X.w) X.A X.env xe → PSs (X.tr pn xe) body (tb W))
    (hsu : ∀ (a : Addr) (pn : List (Addr × Obj)), PSs (X.suite a pn) (st0 :: suite) ts) :
    PS X (.Try body [.ExceptHandler (some (.Name x np)) (some n) (st0 :: suite) p2] [] [] p1) (fun D σ H => tb (wTl X.K c i ts Wo D) D σ H) := by
  refine ⟨fun pins s σ H D I go => ?_⟩
  have ok := I.ok
  have frm : X.A.frames = some (X.env :: X.outer) := by rw [ok.frames, hs]
  have back : ∀ (fl : Flow) (sE : Shared), SP (X.tr (X.pn ++ pins) (fun e s1 => wpAny (model X.prog X.w) X.A (noteFrame e X.env) (fun _ s2 => wpAny (model X.prog X.w) X.A (setFlight e none) (fun _ s3 => wpAny (model X.prog X.w) X.A (handleBy e X.env [.ExceptHandler (some (.Name x np)) (some n) (st0 :: suite) p2]) (SP X pins D) X.xe s3) X.xe s2) X.xe s1)) [] D fl sE →
      SP X pins D fl sE := fun fl sE h => by
    cases fl with
    | ret u =>
      obtain ⟨v, σ9, H9, J9, r9, q9⟩ := h
      exact ⟨v, σ9, H9, J9.ofTry ok, r9, q9⟩
    | next => exact h.imp fun σ9 h => h.imp fun H9 h => ⟨h.1.ofTry ok, h.2⟩
    | brk => exact h.imp fun σ9 h => h.imp fun H9 h => ⟨h.1.ofTry ok, h.2⟩
    | cont => exact h.imp fun σ9 h => h.imp fun H9 h => ⟨h.1.ofTry ok, h.2⟩
  refine wpAny_Try_except (wpAny_mono ((hb (wTl X.K c i ts Wo D) (X.pn ++ pins) _ (fun u sC caught => ?_) PassesOwn.looking).run [] s σ H D (I.toTry _) go) (fun fl sE h => ?_) (fun _ _ z => z))
  · obtain ⟨a, B, sI, pinsT, σC, HC, cls, d, rfl, JT, nb, up, sky, na, os, ag, b, hb1, yes, no⟩ := caught
    have J : Inv X pins σC HC sI := JT.ofTry ok
    have skyC : Sky B (X.env :: X.outer) a (Zc cls d) X.env.locals sC.heap := by
      rw [← hs]
      exact sky
    show wpAny (model X.prog X.w) X.A (noteFrame (.ref a) X.env) _ _ _
    refine Sky.land Zc.steady frm hf skyC fun hA flA upA => ?_
    have JA : Inv X pins σC HC { sC with heap := hA } := J.landed nb flA.1 (up.trans upA) os ag
    obtain ⟨oA, vA, eA, zA, dA⟩ := flA.there
    have notF : a ∉ frs (X.env :: X.outer) := fun hm => by
      obtain ⟨_, oF, eF, nf⟩ := flA.2.2.1.mem hm
      rw [eA] at eF
      cases eF
      exact nf _ dA
    have nI : sI.heap.get? a = none := by
      cases q : sI.heap.get? a with
      | none => rfl
      | some o => exact absurd (nb a o q (by rw [hs]; exact notF)) (by rw [flA.2.1]; exact nofun)
    have n0 : a ∉ X.ex → X.s_0.heap.get? a = none := fun hx => by
      cases q : X.s_0.heap.get? a with
      | none => rfl
      | some o =>
        obtain ⟨o1, q1⟩ := J.base.there a o q hx
        rw [nI] at q1
        cases q1
    have nP : ∀ p ∈ X.pn ++ pins, p.1 ≠ a := fun p hp y => by
      have q1 := (J.pin p hp).1
      rw [y, nI] at q1
      cases q1
    have load : ∀ {Q : Value → Shared → Prop} {E : Value → Shared → Prop}, Q c { sC with heap := hA } → wpAny (model X.prog X.w) (X.A.mark (some (.ref a))) (eval (.Name x np) X.env) Q E { sC with heap := hA } := fun {Q E} q => by
      obtain ⟨g1, g2, g3 | ⟨g3, g4, g5⟩⟩ := hc
      · exact ld_glob (X := X.suite a (X.pn ++ pins)) (toSuite JA a) g1 g3 q g2
      · exact ld_blt (X := X.suite a (X.pn ++ pins)) (toSuite JA a) g1 g3 g4 q g5 g2
    have isC : PySem.W.Looks (model X.prog X.w) hA (typeOf (.ref a)) cls := fun A Q E s k q => wpAny_typeOf_ref (k _ _ eA) (by rw [zA.1]; exact q)
    refine wpAny_handleBy_cons (codeAny_handlers_test (load ((PySem.W.exm_one (M := model X.prog X.w) JA.kIn isC hb1).here ?_))) (fun q => nomatch q)
    cases b with
    | false =>
      show wpAny _ X.A (handleBy (.ref a) X.env []) _ _ _
      obtain ⟨_, _, _, oF, vF, aT, oT, vT, eF, _, dF, e1, _⟩ := id flA
      have on : wpAny (model X.prog X.w) X.A (setFlight (.ref a) X.env.frame) (fun _ sG => wpAny (model X.prog X.w) X.A (throw (.ref a) : Sem Flow) (SP X pins D) X.xe sG) X.xe { sC with heap := hA } := by
        rw [hf]
        exact HandSPX.setFlight_upZ flA fun hG heldG upG => wpAny_throw (tk _ _ ⟨a, B, sI, pins, σC, HC, cls, d, rfl, J, nb, (up.trans upA).trans upG, .inr (.inr (by rw [hs]; exact heldG)), na, os, ag, no rfl⟩)
      refine wpAny_handleBy_nil ?_
      unfold PySem.passOn
      refine wpAny_bind (wpAny_field eF dF e1 ?_)
      rw [if_neg (show ¬ ((Value.ref aT == Value.none) = true) from by simp)]
      first
        | exact wpAny_bind (wpAny_pure (wpAny_bind on))
        | exact wpAny_bind on
    | true =>
      refine codeAny_handlers_suite_as (HandSPX.lands_againZ flA fun hG flG upG => ?_)
      have JG : Inv X pins σC HC { sC with heap := hG } := J.landed nb flG.1 ((up.trans upA).trans upG) os ag
      obtain ⟨oG, vG, eG, zG, dG⟩ := flG.there
      have JT := toSuite (tell JG eG zG dG na n0 nP) a
      have away : ∀ {σ5 : L2.St} {H5 : Hp} {s5 : Shared} {Q : Shared → Prop}, Inv (X.suite a (X.pn ++ pins)) [] σ5 H5 s5 → (∀ s6, Inv X pins (σ5.set i none) H5 s6 → Q s6) → wpAny (model X.prog X.w) X.A (do bindName X.env n .none; unbindBehindTheSuite X.env n p2) (fun _ s6 => Q s6) X.xe s5 := fun {σ5 H5 s5 Q} S5 k => gone_ok (offSuite S5 ok) hN hi hk k
      refine store_ok (X := X.suite a (X.pn ++ pins)) (v := .ref a) JT hN hi (.inl hk) rfl (fun s4 S4 => ?_) (.inr hk)
      refine wpAny_mono ((hsu a (X.pn ++ pins)).run [] s4 _ _ _ S4 (yes rfl a na)) (fun fl s5 h => ?_) (fun _ _ z => z.elim)
      cases fl with
      | ret u =>
        obtain ⟨v, σ5, H5, S5, r5, q5⟩ := h
        exact away S5 fun s6 J6 => ⟨v, _, H5, J6, r5, q5⟩
      | next =>
        obtain ⟨σ5, H5, S5, q5⟩ := h
        exact away S5 fun s6 J6 => ⟨_, H5, J6, q5⟩
      | brk =>
        obtain ⟨σ5, H5, S5, q5⟩ := h
        exact away S5 fun s6 J6 => ⟨_, H5, J6, q5⟩
      | cont =>
        obtain ⟨σ5, H5, S5, q5⟩ := h
        exact away S5 fun s6 J6 => ⟨_, H5, J6, q5⟩
  · have r := back fl sE h
    cases fl with
    | next => exact wpAny_execs_nil r
    | ret u => exact r
    | brk => exact r
    | cont => exact r
end
end Rk

/-! Rk43: raise, try .. except .. as, isinstance of what was caught, as statements and expressions that mean something. -/
namespace Rk
open PySem PySem.Spec L2
/-! ### what the top's classes are -/
abbrev veT : List Value := [.type "ValueError", .type "Exception", .type "BaseException", .type "object"]
structure ErrC (K : PySem.W.Frag) (mg : Str → Option Value) (c : Str) : Prop where
  ex : ∃ C, mg c = some (.ref C) ∧ PySem.W.excIn K C veT "ValueError.__new__" = true ∧ PySem.W.keepIn K (.ref C) = true ∧ PySem.W.subIn K (.ref C) (.type "BaseException") = some true ∧ PySem.W.typeIn K (.ref C) = some (.type "type")
def clsAt (K : PySem.W.Frag) (c : Str) : Option Addr := match PySem.W.nsIn K mainGlobals c with
  | some (some (.ref C)) => some C
  | _ => none
theorem clsAt_ok {K : PySem.W.Frag} {h : Heap} {mg : Str → Option Value} (X : K.In h) (G : h.Ns mainGlobals mg) {c : Str} {C : Addr} (e : clsAt K c = some C) : mg c = some (.ref C) := by
  unfold clsAt at e
  split at e
  · rename_i D q
    cases e
    exact PySem.W.mg_of X G q
  · cases e
def errB (K : PySem.W.Frag) (c : Str) : Bool := match clsAt K c with
  | some C => PySem.W.excIn K C veT "ValueError.__new__" && (PySem.W.keepIn K (.ref C) && (decide (PySem.W.subIn K (.ref C) (.type "BaseException") = some true) && decide (PySem.W.typeIn K (.ref C) = some (.type "type"))))
  | none => false
theorem errB_ok {K : PySem.W.Frag} {h : Heap} {mg : Str → Option Value} (X : K.In h) (G : h.Ns mainGlobals mg) {c : Str} (e : errB K c = true) : ErrC K mg c := by
  unfold errB at e
  split at e
  · rename_i C q
    simp only [Bool.and_eq_true, decide_eq_true_eq] at e
    exact ⟨C, clsAt_ok X G q, e.1, e.2.1, e.2.2.1, e.2.2.2⟩
  · cases e
/-- which of the top's classes an except clause over x takes -/
structure CatC (K : PySem.W.Frag) (mg : Str → Option Value) (x : Str) (yes no : List Str) : Prop where
  ex : ∃ D, mg x = some (.ref D) ∧ (∀ c ∈ yes, ∃ C, mg c = some (.ref C) ∧ PySem.W.exmOne K (.ref C) (.ref D) = some true) ∧ (∀ c ∈ no, ∃ C, mg c = some (.ref C) ∧ PySem.W.exmOne K (.ref C) (.ref D) = some false)
def subB (K : PySem.W.Frag) (f : Value → Value → Option Bool) (u : Value) (b : Bool) (c : Str) : Bool := match clsAt K c with
  | some C => decide (f (.ref C) u = some b)
  | none => false
def catB (K : PySem.W.Frag) (x : Str) (yes no : List Str) : Bool := match clsAt K x with
  | some D => yes.all (subB K (PySem.W.exmOne K) (.ref D) true) && no.all (subB K (PySem.W.exmOne K) (.ref D) false)
  | none => false
theorem subB_ok {K : PySem.W.Frag} {h : Heap} {mg : Str → Option Value} (X : K.In h) (G : h.Ns mainGlobals mg) {f : Value → Value → Option Bool} {u : Value} {b : Bool} {c : Str} (e : subB K f u b c = true) : ∃ C, mg c = some (.ref C) ∧ f (.ref C) u = some b := by
  unfold subB at e
  split at e
  · rename_i C q
    exact ⟨C, clsAt_ok X G q, of_decide_eq_true e⟩
  · cases e
theorem catB_ok {K : PySem.W.Frag} {h : Heap} {mg : Str → Option Value} (X : K.In h) (G : h.Ns mainGlobals mg) {x : Str} {yes no : List Str} (e : catB K x yes no = true) : CatC K mg x yes no := by
  unfold catB at e
  split at e
  · rename_i D q
    rw [Bool.and_eq_true, List.all_eq_true, List.all_eq_true] at e
    exact ⟨D, clsAt_ok X G q, fun c hc => subB_ok X G (e.1 c hc), fun c hc => subB_ok X G (e.2 c hc)⟩
  · cases e
/-! ### raise X('..') -/
def sRaise (c : Str) : Sv := fun ρ h => .ex c [] ρ h
section
variable {X : Cx} {W : WX}
theorem es_raise {c m : Str} {j : Nat} {p p2 pos pos' : Pos} (F : ErrC X.K X.mg c) (tk : Takes X W) (hc : X.calm = true := by rfl) (hg : Gl X c := by rfl) (hdb : (c == ("__debug__" : Str)) = false := by decide) :
    ES X W (.Raise (some (.Call (.Name c p) [.Constant (.str m) j p2] [] pos)) none pos') (sRaise c) := by
  obtain ⟨C, g1, g2, g3, g4, g5⟩ := F.ex
  exact PS.of (ps_raise hc tk (pmk_own PySem.F.excBase_ValueError g2 g1 g3 (raises_own g4 g5) hg hdb)) fun D σ H ⟨φ, h, ρ, sm, er, q⟩ => q (.ref C) none σ H φ (Step.refl _ _ _) sm er ⟨g1, fun _ => rfl, fun z => absurd rfl z⟩
end
/-! ### try: .. except X as n: .. -/
def sTry (yes no : List Str) (i : Nat) (b s : Sv) : Sv := fun ρ h => match b ρ h with
  | .ex c fs ρ1 h1 => if c ∈ yes then (match s (ρ1.set i (some (.x c fs))) h1 with
      | .nx ρ2 h2 => .nx (ρ2.set i none) h2
      | .rt v h2 => .rt v h2
      | .bk ρ2 h2 => .bk (ρ2.set i none) h2
      | .ct ρ2 h2 => .ct (ρ2.set i none) h2
      | _ => .no) else if c ∈ no then .ex c fs ρ1 h1 else .no
  | o => o
theorem ERep.unset {K : PySem.W.Frag} {mg : Str → Option Value} {φ : List Addr} {h : Hh} {H : Hp} {σ : L2.St} {ρ : En} {i : Nat} (r : ERep K mg φ h H σ ρ) : ERep K mg φ h H (σ.set i none) (ρ.set i none) := by
  refine ⟨by rw [List.length_set, List.length_set, r.len], fun j w e => ?_⟩
  by_cases hj : i = j
  · subst hj
    rw [List.getElem?_set] at e
    rw [if_pos rfl] at e
    split at e <;> cases e
  · rw [List.getElem?_set_ne hj] at e
    obtain ⟨y, e1, q1⟩ := r.at_ j w e
    exact ⟨y, by rw [List.getElem?_set_ne hj]; exact e1, q1⟩
section
variable {X : Cx} {W : WX} {x n : Str} {i : Nat} {yes no : List Str} {body suite : List Stmt} {st0 : Stmt} {np p1 p2 : Pos} {fb fs : Sv}
theorem es_try (C : CatC X.K X.mg x yes no) (tk : Takes X W) (hN : X.N.Nodup)
    (hb : ∀ (W : WX) (pn : List (Addr × Obj)) (xe : Value → Shared → Prop), Takes (X.tr pn xe) W → PassesOwn (model X.prog X.w) X.A X.env xe → ESs (X.tr pn xe) W body fb)
    (hsu : ∀ (a : Addr) (pn : List (Addr × Obj)), ESs (X.suite a pn) WF (st0 :: suite) fs)
    (hs : X.stack = X.env :: X.outer := by rfl) (hf : X.env.frame = some X.env.locals := by rfl) (hi : X.N[i]? = some n := by rfl) (hk : X.env.kindOf n = some .local := by rfl) (hg : Gl X x := by rfl) (hdb : (x == ("__debug__" : Str)) = false := by decide) :
    ES X W (.Try body [.ExceptHandler (some (.Name x np)) (some n) (st0 :: suite) p2] [] [] p1) (sTry yes no i fb fs) := by
  obtain ⟨D, g1, gy, gn⟩ := C.ex
  refine PS.of (ps_tryT (tb := fun W' => tS X.K X.mg W' fb) (ts := tS X.K X.mg WF fs) hs hf hN hi hk ⟨hg, hdb, .inl g1⟩ tk (fun W' pn xe t po => hb W' pn xe t po) hsu) fun Dn σ H ⟨φ, h, ρ, sm, er, q⟩ => ⟨φ, h, ρ, sm, er, ?_⟩
  unfold sTry at q
  revert q
  cases fb ρ h with
  | nx ρ1 h1 => exact fun q => q
  | rt v h1 => exact fun q => q
  | bk ρ1 h1 => exact fun q => q
  | ct ρ1 h1 => exact fun q => q
  | no => exact fun q => q
  | ex c es ρ1 h1 =>
    dsimp only
    intro q cls dd σ1 H1 φ1 st1 sm1 er1 xr1
    by_cases hy : c ∈ yes
    · rw [if_pos hy] at q
      obtain ⟨C, e1, e2⟩ := gy c hy
      have ec := xr1.cl
      rw [e1] at ec
      cases ec
      refine ⟨true, e2, fun _ a na => ?_, fun z => Bool.noConfusion z⟩
      obtain ⟨w1, w2⟩ := sm1.grow (o := exO a (.ref C) dd) na
      have vx : VRep X.K X.mg φ1 h1 (upd H1 a (exO a (.ref C) dd)) (.ref a) (.x c es) := ⟨a, _, dd, rfl, upd_same, sm1.fresh na, xr1.stay w1.st⟩
      refine ⟨φ1, h1, ρ1.set i (some (.x c es)), w2, (er1.step w1).set vx, ?_⟩
      have q := PoS.pull (st1.trans w1) q
      revert q
      cases fs (ρ1.set i (some (.x c es))) h1 with
      | nx ρ2 h2 => exact fun q σ2 H2 φ2 st2 sm2 er2 => q _ H2 φ2 st2 sm2 er2.unset
      | bk ρ2 h2 => exact fun q σ2 H2 φ2 st2 sm2 er2 => q _ H2 φ2 st2 sm2 er2.unset
      | ct ρ2 h2 => exact fun q σ2 H2 φ2 st2 sm2 er2 => q _ H2 φ2 st2 sm2 er2.unset
      | rt v h2 => exact fun q => q
      | ex c2 es2 ρ2 h2 => exact fun q => q.elim
      | no => exact fun q => q
    · rw [if_neg hy] at q
      by_cases hn : c ∈ no
      · rw [if_pos hn] at q
        obtain ⟨C, e1, e2⟩ := gn c hn
        have ec := xr1.cl
        rw [e1] at ec
        cases ec
        exact ⟨false, e2, fun z => Bool.noConfusion z, fun _ => q _ dd σ1 H1 φ1 st1 sm1 er1 xr1⟩
      · rw [if_neg hn] at q
        exact q.elim
end
end Rk

/-! Rk44: isinstance of what was caught, its fields. -/
namespace Rk
open PySem PySem.Spec L2
/-- what a class of errors must say, so that its errors are asked rightly -/
structure ErrI (K : PySem.W.Frag) (C : Addr) : Prop where
  ga : PySem.W.findIn K (.ref C) "__getattribute__" = some (some (.builtin "BaseException.__getattribute__"))
  gt : PySem.W.findIn K (.ref C) "__getattr__" = some none
  sb : PySem.W.subIn K (.ref C) (.type "BaseException") = some true
  dc : PySem.W.hasDictIn K C = true
  cl : PySem.W.findIn K (.ref C) "__class__" = some (some (.builtin "object.__class__"))
  cg : PySem.W.specialIn K (.builtin "object.__class__") "__get__" = some (some (.builtin "getset_descriptor.__get__"))
  tk : PySem.W.takesIn K (.builtin "object.__class__") = some true
  mo : PySem.W.mroIn K C (.type "object") = some true
  ci : (PySem.W.clsIn K C).isSome = true
def errIB (K : PySem.W.Frag) (C : Addr) : Bool :=
  decide (PySem.W.findIn K (.ref C) "__getattribute__" = some (some (.builtin "BaseException.__getattribute__"))) && (decide (PySem.W.findIn K (.ref C) "__getattr__" = some none) && (decide (PySem.W.subIn K (.ref C) (.type "BaseException") = some true) && (PySem.W.hasDictIn K C &&
  (decide (PySem.W.findIn K (.ref C) "__class__" = some (some (.builtin "object.__class__"))) && (decide (PySem.W.specialIn K (.builtin "object.__class__") "__get__" = some (some (.builtin "getset_descriptor.__get__"))) && (decide (PySem.W.takesIn K (.builtin "object.__class__") = some true) && (decide (PySem.W.mroIn K C (.type "object") = some true) && (PySem.W.clsIn K C).isSome)))))))
theorem errIB_ok {K : PySem.W.Frag} {C : Addr} (e : errIB K C = true) : ErrI K C := by
  unfold errIB at e
  simp only [Bool.and_eq_true, decide_eq_true_eq] at e
  obtain ⟨e1, e2, e3, e4, e5, e6, e7, e8, e9⟩ := e
  exact ⟨e1, e2, e3, e4, e5, e6, e7, e8, e9⟩
theorem ErrI.xf {K : PySem.W.Frag} {C : Addr} (E : ErrI K C) : XfC K C := ⟨E.ga, E.gt, E.sb, E.dc⟩
/-- an error that is told of, its own dict too -/
def ExAt (H : Hp) (a D : Addr) : Prop := ∃ dd : Option Addr, H a = some (exO a (.ref D) dd) ∧ (dd = none ∨ ∃ d vs, dd = some d ∧ H d = some (.xd vs))
section
variable {X : Cx} {pins : List (Addr × Obj)} {σ : L2.St} {H : Hp} {s : Shared} {a D : Addr}
theorem exat_in (I : Inv X pins σ H s) (e : ExAt H a D) : ∃ ox od, PySem.W.InstAt s.heap a ox D od := by
  obtain ⟨dd, e1, e2⟩ := e
  obtain ⟨⟨oe, vs, g1, g2, g3⟩, _⟩ := (show ObjOk X.prog X.w H s.heap a (exO a (.ref D) dd) from I.hok a _ e1)
  have no : PySem.W.notCls oe = true := by
    unfold PySem.W.notCls
    rw [g3] <;> rfl
  rcases e2 with rfl | ⟨d, ws, rfl, e3⟩
  · exact ⟨oe, none, g1, g2.1, no, by rw [g2.2]; trivial⟩
  · obtain ⟨mA, hns, _⟩ := (show ObjOk X.prog X.w H s.heap d (.xd ws) from I.hok d _ e3)
    obtain ⟨od, ho, _⟩ := lookIn_ns hns
    exact ⟨oe, some od, g1, g2.1, no, by rw [g2.2]; exact ho⟩
/-- isinstance of an error: one class; a tuple of classes -/
def rIs1 (K : PySem.W.Frag) : List V → Hp → VK → Prop := fun xs H Q => ∃ (a D : Addr) (c : V) (u : Value) (b : Bool), xs = [.ref a, c] ∧ ExAt H a D ∧ ErrI K D ∧ ClsV c u ∧ PySem.W.kitOne K (.ref D) u = some b ∧ Q (.bl b) H
def rIsN (K : PySem.W.Frag) : List V → Hp → VK → Prop := fun xs H Q => ∃ (a D tp : Addr) (cs : List V) (us : List Value) (b : Bool), xs = [.ref a, .ref tp] ∧ ExAt H a D ∧ ErrI K D ∧ H tp = some (.tup cs) ∧ Paired ClsV cs us ∧ PySem.W.kitAny K (.ref D) us = some b ∧ Q (.bl b) H
theorem call_is1 : CallR X (.builtin "isinstance") (rIs1 X.K) := by
  intro pins s σ H xs us Q I r ⟨a, D, c, u, b, ex, at_, E, k, e, q⟩
  subst ex
  obtain ⟨u1, u2, rfl, r1, r2⟩ := vals2 r
  cases (show u1 = Value.ref a from r1)
  have e2 := k.eq r2
  subst e2
  obtain ⟨ox, od, J⟩ := exat_in I at_
  exact PySem.W.kia_one (PySem.W.kitx_exc E.ci E.ga E.gt E.sb E.cl E.cg E.tk E.mo) I.kIn J e (fun z => nomatch z) fun tk => ⟨.bl b, H, I.tok tk, rfl, q⟩
theorem call_isN : CallR X (.builtin "isinstance") (rIsN X.K) := by
  intro pins s σ H xs us Q I r ⟨a, D, tp, cs, ws, b, ex, at_, E, ht, k, e, q⟩
  subst ex
  obtain ⟨u1, u2, rfl, r1, r2⟩ := vals2 r
  cases (show u1 = Value.ref a from r1)
  cases (show u2 = Value.ref tp from r2)
  obtain ⟨ox, od, J⟩ := exat_in I at_
  obtain ⟨_, its, rv, o, h1, h2, n, h3⟩ := (show ObjOk X.prog X.w H s.heap tp (.tup cs) from I.hok tp _ ht)
  have ei := ClsV.all k rv
  subst ei
  obtain ⟨oc, odd, dt, sl⟩ := o
  simp only at h2 h3
  subst h2 h3
  exact PySem.W.kia_tup (PySem.W.kitx_exc E.ci E.ga E.gt E.sb E.cl E.cg E.tk E.mo) I.kIn J h1 e (fun z => nomatch z) fun tk => ⟨.bl b, H, I.tok tk, rfl, q⟩
theorem callR_or {f : Value} {r1 r2 : List V → Hp → VK → Prop} (a : CallR X f r1) (b : CallR X f r2) : CallR X f (fun xs H Q => r1 xs H Q ∨ r2 xs H Q) := fun pins s σ H xs us Q I r h => h.elim (a pins s σ H xs us Q I r) (b pins s σ H xs us Q I r)
end
theorem XRep.at_ {K : PySem.W.Frag} {mg : Str → Option Value} {H : Hp} {M : Addr → Prop} {c : Str} {fs : List (Str × Da)} {D a : Addr} {dd : Option Addr} (x : XRep K mg H M c fs (.ref D) dd) (e : H a = some (exO a (.ref D) dd)) : ExAt H a D := by
  refine ⟨dd, e, ?_⟩
  by_cases z : fs = []
  · exact .inl (x.no z)
  · obtain ⟨d, vs, e1, e2, _⟩ := x.yes z
    exact .inr ⟨d, vs, e1, e2⟩
/-- what the classes yes and no answer to isinstance over the classes us -/
structure IsF (K : PySem.W.Frag) (mg : Str → Option Value) (f : Value → Option Bool) (yes no : List Str) : Prop where
  nn : f (.type "NoneType") = some false
  y : ∀ c ∈ yes, ∃ C, mg c = some (.ref C) ∧ ErrI K C ∧ f (.ref C) = some true
  n : ∀ c ∈ no, ∃ C, mg c = some (.ref C) ∧ ErrI K C ∧ f (.ref C) = some false
def isFB1 (K : PySem.W.Frag) (f : Value → Option Bool) (b : Bool) (c : Str) : Bool := match clsAt K c with
  | some C => errIB K C && decide (f (.ref C) = some b)
  | none => false
def isFB (K : PySem.W.Frag) (f : Value → Option Bool) (yes no : List Str) : Bool := decide (f (.type "NoneType") = some false) && (yes.all (isFB1 K f true) && no.all (isFB1 K f false))
theorem isFB1_ok {K : PySem.W.Frag} {h : Heap} {mg : Str → Option Value} (X : K.In h) (G : h.Ns mainGlobals mg) {f : Value → Option Bool} {b : Bool} {c : Str} (e : isFB1 K f b c = true) : ∃ C, mg c = some (.ref C) ∧ ErrI K C ∧ f (.ref C) = some b := by
  unfold isFB1 at e
  split at e
  · rename_i C q
    rw [Bool.and_eq_true] at e
    exact ⟨C, clsAt_ok X G q, errIB_ok e.1, of_decide_eq_true e.2⟩
  · cases e
theorem isFB_ok {K : PySem.W.Frag} {h : Heap} {mg : Str → Option Value} (X : K.In h) (G : h.Ns mainGlobals mg) {f : Value → Option Bool} {yes no : List Str} (e : isFB K f yes no = true) : IsF K mg f yes no := by
  unfold isFB at e
  rw [Bool.and_eq_true, Bool.and_eq_true, List.all_eq_true, List.all_eq_true] at e
  exact ⟨of_decide_eq_true e.1, fun c hc => isFB1_ok X G (e.2.1 c hc), fun c hc => isFB1_ok X G (e.2.2 c hc)⟩
/-- isinstance(x, C), C a class of the top -/
def IsO (K : PySem.W.Frag) (mg : Str → Option Value) (x : Str) (yes no : List Str) : Prop := ∃ D, mg x = some (.ref D) ∧ IsF K mg (fun t => PySem.W.kitOne K t (.ref D)) yes no
def isOB (K : PySem.W.Frag) (x : Str) (yes no : List Str) : Bool := match clsAt K x with
  | some D => isFB K (fun t => PySem.W.kitOne K t (.ref D)) yes no
  | none => false
theorem isOB_ok {K : PySem.W.Frag} {h : Heap} {mg : Str → Option Value} (X : K.In h) (G : h.Ns mainGlobals mg) {x : Str} {yes no : List Str} (e : isOB K x yes no = true) : IsO K mg x yes no := by
  unfold isOB at e
  split at e
  · rename_i D q
    exact ⟨D, clsAt_ok X G q, isFB_ok X G e⟩
  · cases e
/-- isinstance(x, T), T a built-in class -/
def IsB (K : PySem.W.Frag) (mg : Str → Option Value) (T : String) (yes no : List Str) : Prop := IsF K mg (fun t => PySem.W.kitOne K t (.type T)) yes no
def isBB (K : PySem.W.Frag) (T : String) (yes no : List Str) : Bool := isFB K (fun t => PySem.W.kitOne K t (.type T)) yes no
/-- isinstance(x, (C1, C2, ..)) -/
def IsM (K : PySem.W.Frag) (mg : Str → Option Value) (xs : List Str) (yes no : List Str) : Prop := ∃ Cs : List Addr, Paired (fun x C => mg x = some (.ref C)) xs Cs ∧ IsF K mg (fun t => PySem.W.kitAny K t (Cs.map Value.ref)) yes no
def clsAts (K : PySem.W.Frag) : List Str → Option (List Addr)
  | [] => some []
  | x :: xs => (clsAt K x).bind fun C => (clsAts K xs).map (C :: ·)
def isMB (K : PySem.W.Frag) (xs : List Str) (yes no : List Str) : Bool := match clsAts K xs with
  | some Cs => isFB K (fun t => PySem.W.kitAny K t (Cs.map Value.ref)) yes no
  | none => false
theorem clsAts_ok {K : PySem.W.Frag} {h : Heap} {mg : Str → Option Value} (X : K.In h) (G : h.Ns mainGlobals mg) : ∀ {xs : List Str} {Cs : List Addr}, clsAts K xs = some Cs → Paired (fun x C => mg x = some (.ref C)) xs Cs
  | [], Cs, e => by
    cases e
    exact .nil
  | x :: xs, Cs, e => by
    unfold clsAts at e
    cases e1 : clsAt K x with
    | none => rw [e1] at e; cases e
    | some C =>
      rw [e1, Option.bind_some] at e
      cases e2 : clsAts K xs with
      | none => rw [e2] at e; cases e
      | some Ds =>
        rw [e2] at e
        cases e
        exact .cons (clsAt_ok X G e1) (clsAts_ok X G e2)
theorem isMB_ok {K : PySem.W.Frag} {h : Heap} {mg : Str → Option Value} (X : K.In h) (G : h.Ns mainGlobals mg) {xs yes no : List Str} (e : isMB K xs yes no = true) : IsM K mg xs yes no := by
  unfold isMB at e
  split at e
  · rename_i D q
    exact ⟨D, clsAts_ok X G q, isFB_ok X G e⟩
  · cases e
def isE (yes no : List Str) : Vl → Option Bool
  | .d .none => some false
  | .x c _ => if c ∈ yes then some true else if c ∈ no then some false else none
  | _ => none
def eIsE (yes no : List Str) (f : Ev) : Ev := fun ρ h => (f ρ h).bind fun v h1 => match isE yes no v with
  | some b => .ok (.d (.bool b)) h1
  | none => .no
section
variable {X : Cx} {W : WX} {a ce : Expr} {fa : Ev} {pos p q : Pos} {yes no : List Str}
theorem isE_ok {K : PySem.W.Frag} {mg : Str → Option Value} {φ : List Addr} {h : Hh} {H : Hp} {x : V} {v : Vl} {f : Value → Option Bool} {b : Bool} (F : IsF K mg f yes no) (r : VRep K mg φ h H x v) (e : isE yes no v = some b) :
    (x = .non ∧ f (.type "NoneType") = some b) ∨ ∃ a D, x = .ref a ∧ ExAt H a D ∧ ErrI K D ∧ f (.ref D) = some b := by
  unfold isE at e
  split at e
  · cases e
    exact .inl ⟨VRep.non r, F.nn⟩
  · rename_i c fs
    obtain ⟨a, cls, dd, rfl, e1, _, xr⟩ := r
    have e2 := xr.cl
    split at e
    · cases e
      obtain ⟨C, g1, g2, g3⟩ := F.y c (by assumption)
      rw [g1] at e2
      cases e2
      exact .inr ⟨a, C, rfl, xr.at_ e1, g2, g3⟩
    · split at e
      · cases e
        obtain ⟨C, g1, g2, g3⟩ := F.n c (by assumption)
        rw [g1] at e2
        cases e2
        exact .inr ⟨a, C, rfl, xr.at_ e1, g2, g3⟩
      · cases e
  · cases e
theorem ee_is1 {cv : V} {u : Value} (k : ClsV cv u) (F : IsF X.K X.mg (fun t => PySem.W.kitOne X.K t u) yes no) (hc : PE X ce (tC cv)) (hg : Gl X "isinstance") (hm : X.mg "isinstance" = none)
    (ha : EE X W a fa) (he : starEach [a, ce] X.env = (false, eval a X.env) :: starEach [ce] X.env := by rfl) (he2 : starEach [ce] X.env = (false, eval ce X.env) :: starEach [] X.env := by rfl) (hpl : (backTo pos (starEach [ce] X.env)).any (·.1) = false := by rfl) :
    EE X W (.Call (.Name "isinstance" p) [a, ce] [] pos) (eIsE yes no fa) :=
  PE.of (pe_callB (callR_or call_isi call_is1) hg hm PyProof.Rows.boot_isinstance (pa_cons ha (pa_cons hc pa_nil he2) he) (by decide) (by decide) he hpl) fun σ H Q ⟨φ, h, ρ, sm, er, qq⟩ => ⟨φ, h, ρ, sm, er, PoX.goE qq fun x v h1 H1 φ1 st sm1 rv q1 => by
    cases e : isE yes no v with
    | none => rw [e] at q1; exact q1.elim
    | some b =>
      rw [e] at q1
      have fin := PoX.now (v := .d (.bool b)) q1 sm1 (Rep.bl b)
      rcases isE_ok F rv e with ⟨rfl, z⟩ | ⟨a, D, rfl, g1, g2, g3⟩
      · exact .inl ⟨.non, cv, .type "NoneType", u, b, rfl, k, .base .non, z, fin⟩
      · exact .inr ⟨a, D, cv, u, b, rfl, g1, g2, k, g3, fin⟩⟩
theorem ee_isO {x : Str} (F : IsO X.K X.mg x yes no) (hg : Gl X "isinstance") (hm : X.mg "isinstance" = none) (ha : EE X W a fa) (hx : Gl X x := by rfl) (hd : (x == ("__debug__" : Str)) = false := by decide)
    (he : starEach [a, .Name x q] X.env = (false, eval a X.env) :: starEach [.Name x q] X.env := by rfl) (he2 : starEach [.Name x q] X.env = (false, eval (.Name x q) X.env) :: starEach [] X.env := by rfl) (hpl : (backTo pos (starEach [.Name x q] X.env)).any (·.1) = false := by rfl) :
    EE X W (.Call (.Name "isinstance" p) [a, .Name x q] [] pos) (eIsE yes no fa) := by
  obtain ⟨D, g, F⟩ := F
  exact ee_is1 (.own D) F (pe_glob hx g rfl hd) hg hm ha he he2 hpl
theorem ee_isB {x : Str} (T : String) (F : IsB X.K X.mg T yes no) (hv : bootBuiltins x = some (.type T)) (hg : Gl X "isinstance") (hm : X.mg "isinstance" = none) (hm2 : X.mg x = none) (ha : EE X W a fa) (hx : Gl X x := by rfl) (hd : (x == ("__debug__" : Str)) = false := by decide) (hn : x ≠ "__name__" := by decide)
    (he : starEach [a, .Name x q] X.env = (false, eval a X.env) :: starEach [.Name x q] X.env := by rfl) (he2 : starEach [.Name x q] X.env = (false, eval (.Name x q) X.env) :: starEach [] X.env := by rfl) (hpl : (backTo pos (starEach [.Name x q] X.env)).any (·.1) = false := by rfl) :
    EE X W (.Call (.Name "isinstance" p) [a, .Name x q] [] pos) (eIsE yes no fa) :=
  ee_is1 (.ty T) F (pe_bltn (v := .ty T) hx hm2 hv rfl hn hd) hg hm ha he he2 hpl
/-- names of classes, side by side -/
def CN (X : Cx) (es : List Expr) (cs : List V) : Prop := PA X es (fun _ H Q => Q cs H)
theorem cn_nil : CN X [] [] := pa_nil
theorem cn_cons {x : Str} {es : List Expr} {cs : List V} {D : Addr} (g : X.mg x = some (.ref D)) (t : CN X es cs) (hx : Gl X x := by rfl) (hd : (x == ("__debug__" : Str)) = false := by decide) (hs : starEach (.Name x q :: es) X.env = (false, eval (.Name x q) X.env) :: starEach es X.env := by rfl) : CN X (.Name x q :: es) (.ref D :: cs) :=
  PA.of (pa_cons (pe_glob (v := .ref D) hx g rfl hd) t hs) fun σ H Q h => h
theorem ee_isM {xs : List Str} {es : List Expr} {k : Nat} {tp : Pos} (F : IsM X.K X.mg xs yes no) (hcn : ∀ Cs : List Addr, Paired (fun x C => X.mg x = some (.ref C)) xs Cs → CN X es (Cs.map V.ref)) (hg : Gl X "isinstance") (hm : X.mg "isinstance" = none) (ha : EE X W a fa) (hn : xs.length ≤ 100 := by decide)
    (he : starEach [a, .Tuple es k tp] X.env = (false, eval a X.env) :: starEach [.Tuple es k tp] X.env := by rfl) (he2 : starEach [.Tuple es k tp] X.env = (false, eval (.Tuple es k tp) X.env) :: starEach [] X.env := by rfl) (hpl : (backTo pos (starEach [.Tuple es k tp] X.env)).any (·.1) = false := by rfl) :
    EE X W (.Call (.Name "isinstance" p) [a, .Tuple es k tp] [] pos) (eIsE yes no fa) := by
  obtain ⟨Cs, g, F⟩ := F
  have lc : Cs.length = xs.length := g.length.symm
  have pc : Paired ClsV (Cs.map V.ref) (Cs.map Value.ref) := by
    clear g F lc
    induction Cs with
    | nil => exact .nil
    | cons C Cs ih => exact .cons (.own C) ih
  exact PE.of (pe_callB (callR_or call_isiT call_isN) hg hm PyProof.Rows.boot_isinstance (pa_cons ha (pa_cons (pe_tup (hcn Cs g)) pa_nil he2) he) (by decide) (by decide) he hpl) fun σ H Q ⟨φ, h, ρ, sm, er, qq⟩ => ⟨φ, h, ρ, sm, er, PoX.goE qq fun x v h1 H1 φ1 st sm1 rv q1 => by
    cases e : isE yes no v with
    | none => rw [e] at q1; exact q1.elim
    | some b =>
      rw [e] at q1
      refine ⟨by rw [List.length_map, lc]; exact Nat.le_trans hn (by rw [sizeLine_eq]; decide), fun pt hp => ?_⟩
      obtain ⟨w1, w2⟩ := sm1.grow (o := .tup (Cs.map V.ref)) hp
      have fin := q1 (.bl b) _ φ1 w1 w2 (Rep.bl b)
      rcases isE_ok F rv e with ⟨rfl, z⟩ | ⟨a, D, rfl, g1, g2, g3⟩
      · exact .inl ⟨.non, pt, Cs.map V.ref, .type "NoneType", Cs.map Value.ref, b, rfl, upd_same, pc, .base .non, z, fin⟩
      · obtain ⟨dd, k1, k2⟩ := g1
        refine .inr ⟨a, D, pt, Cs.map V.ref, Cs.map Value.ref, b, rfl, ⟨dd, by rw [upd_ne (ne_of_none k1 hp)]; exact k1, ?_⟩, g2, upd_same, pc, g3, fin⟩
        rcases k2 with k2 | ⟨d, vs, k3, k4⟩
        · exact .inl k2
        · exact .inr ⟨d, vs, k3, by rw [upd_ne (ne_of_none k4 hp)]; exact k4⟩⟩
end
end Rk

/-! Rk45: errors by wishes; a call without arguments. -/
namespace Rk
open PySem PySem.Spec L2
section
variable {X : Cx} {W : WX}
theorem ec0 {k j : Nat} {y : Str} {m : Fn} {p pos : Pos} (D : Df X.prog X.w X.K X.mg X.base k y [] m) (hr : RoomG j X.A) (tk : Takes X W) (hkj : k ≤ j := by decide) (hg : Gl X y := by rfl) (hdb : (y == ("__debug__" : Str)) = false := by decide) :
    EE X W (.Call (.Name y p) [] [] pos) (eCall m aNil) := by
  obtain ⟨f, fd, g, kp, b, F⟩ := D
  have rd : PE X (.Call (.Name y p) [] [] pos) (fun σ H Q => spF X.K X.mg m [] H Q (WE W σ)) := by
    constructor
    intro pins s σ H Q I h
    exact wpAny_Call_Name_kw (ld_glob I hg g (PySem.W.callWith_K0 I.kIn kp (run_G (E := fun σ => WE W σ) F (hr.mono hkj) b (passAt tk σ) I .nil h)) hdb)
  exact PE.of rd fun σ H Q ⟨φ, h, ρ, sm, er, q⟩ => ⟨φ, h, [], sm, .nil, q⟩
end
def UnK (i : Nat) (ρ : En) (h : Hh) (N : En → Hh → Prop) : Prop := N (ρ.set i none) h
/-- an error at an except clause -/
structure TryK (yes no : List Str) (i : Nat) (s : Sv) (c : Str) (fs : List (Str × Da)) (ρ : En) (h : Hh) (N : En → Hh → Prop) (D : Ds) : Prop where
  w : if c ∈ yes then SetK i ρ (.x c fs) h (fun ρ1 h1 => Ws (s ρ1 h1) (fun ρ2 h2 => UnK i ρ2 h2 N) ⟨D.rt, fun ρ2 h2 => UnK i ρ2 h2 D.bk, fun ρ2 h2 => UnK i ρ2 h2 D.ct, fun _ _ _ _ => False⟩) else if c ∈ no then D.ex c fs ρ h else False
section
variable {ρ : En} {h : Hh} {N : En → Hh → Prop} {R : Vl → Hh → Prop} {B C : En → Hh → Prop} {X : Str → List (Str × Da) → En → Hh → Prop} {b s : Sv} {yes no : List Str} {i : Nat} {c : Str} {fs : List (Str × Da)} {Q : Vl → Hh → Prop} {E : XP} {f : Ev}
theorem ws_raise (w : X c [] ρ h) : Ws (sRaise c ρ h) N ⟨R, B, C, X⟩ := ⟨w⟩
theorem ws_try (w : Ws (b ρ h) N ⟨R, B, C, fun c fs ρ1 h1 => TryK yes no i s c fs ρ1 h1 N ⟨R, B, C, X⟩⟩) : Ws (sTry yes no i b s ρ h) N ⟨R, B, C, X⟩ := by
  unfold sTry
  revert w
  cases b ρ h with
  | ex c fs ρ1 h1 =>
    intro w
    have w := w.w.w
    dsimp only
    by_cases hy : c ∈ yes
    · rw [if_pos hy] at w ⊢
      have w : Ws (s (ρ1.set i (some (.x c fs))) h1) _ _ := w
      revert w
      cases s (ρ1.set i (some (.x c fs))) h1 with
      | ex c2 fs2 ρ2 h2 => exact fun w => w.w.elim
      | no => exact fun w => w.w.elim
      | _ => exact fun w => ⟨w.w⟩
    · rw [if_neg hy] at w ⊢
      by_cases hn : c ∈ no
      · rw [if_pos hn] at w ⊢
        exact ⟨w⟩
      · rw [if_neg hn] at w
        exact w.elim
  | no => exact fun w => w.w.elim
  | _ => exact fun w => ⟨w.w⟩
theorem tryk_y (e : c ∈ yes) (w : SetK i ρ (.x c fs) h (fun ρ1 h1 => Ws (s ρ1 h1) (fun ρ2 h2 => UnK i ρ2 h2 N) ⟨R, fun ρ2 h2 => UnK i ρ2 h2 B, fun ρ2 h2 => UnK i ρ2 h2 C, fun _ _ _ _ => False⟩)) : TryK yes no i s c fs ρ h N ⟨R, B, C, X⟩ := ⟨by rw [if_pos e]; exact w⟩
theorem tryk_n (e : c ∉ yes) (e2 : c ∈ no) (w : X c fs ρ h) : TryK yes no i s c fs ρ h N ⟨R, B, C, X⟩ := ⟨by rw [if_neg e, if_pos e2]; exact w⟩
theorem wp_isE (w : Wp (f ρ h) (fun v h1 => ∃ b, isE yes no v = some b ∧ Q (.d (.bool b)) h1) E) : Wp (eIsE yes no f ρ h) Q E :=
  wp_bind (w.mono (fun _ _ ⟨k, e, q⟩ => by rw [e]; exact ⟨q⟩) fun _ _ _ z => z)
theorem ex_isE_none {P : Bool → Prop} (q : P false) : ∃ b, isE yes no (.d .none) = some b ∧ P b := ⟨false, rfl, q⟩
theorem ex_isE_y {P : Bool → Prop} (e : c ∈ yes) (q : P true) : ∃ b, isE yes no (.x c fs) = some b ∧ P b := ⟨true, if_pos e, q⟩
theorem ex_isE_n {P : Bool → Prop} (e : c ∉ yes) (e2 : c ∈ no) (q : P false) : ∃ b, isE yes no (.x c fs) = some b ∧ P b := ⟨false, (if_neg e).trans (if_pos e2), q⟩
theorem wo_isNx (q : Q (.d (.bool false)) h) : Wo (gIsN (.x c fs) (.d .none) h) Q := q
theorem hd_UnK (w : UnK i ρ h N) : UnK i ρ h N := w
theorem hd_TryK {D : Ds} (w : TryK yes no i s c fs ρ h N D) : TryK yes no i s c fs ρ h N D := w
theorem wo_ntNx (q : Q (.d (.bool true)) h) : Wo (gNotN (.x c fs) (.d .none) h) Q := q
end

section
variable {h : Hh} {N : En → Hh → Prop} {r : En}
variable {o0 o1 o2 o3 o4 o5 o6 o7 o8 o9 o10 o11 o12 o13 o14 o15 o16 o17 o18 o19 o20 o21 o22 o23 o24 o25 : Option Vl}
theorem unk0 (q : N (none :: r) h) : UnK 0 (o0 :: r) h N := q
theorem unk1 (q : N (o0 :: none :: r) h) : UnK 1 (o0 :: o1 :: r) h N := q
theorem unk2 (q : N (o0 :: o1 :: none :: r) h) : UnK 2 (o0 :: o1 :: o2 :: r) h N := q
theorem unk3 (q : N (o0 :: o1 :: o2 :: none :: r) h) : UnK 3 (o0 :: o1 :: o2 :: o3 :: r) h N := q
theorem unk4 (q : N (o0 :: o1 :: o2 :: o3 :: none :: r) h) : UnK 4 (o0 :: o1 :: o2 :: o3 :: o4 :: r) h N := q
theorem unk5 (q : N (o0 :: o1 :: o2 :: o3 :: o4 :: none :: r) h) : UnK 5 (o0 :: o1 :: o2 :: o3 :: o4 :: o5 :: r) h N := q
theorem unk6 (q : N (o0 :: o1 :: o2 :: o3 :: o4 :: o5 :: none :: r) h) : UnK 6 (o0 :: o1 :: o2 :: o3 :: o4 :: o5 :: o6 :: r) h N := q
theorem unk7 (q : N (o0 :: o1 :: o2 :: o3 :: o4 :: o5 :: o6 :: none :: r) h) : UnK 7 (o0 :: o1 :: o2 :: o3 :: o4 :: o5 :: o6 :: o7 :: r) h N := q
theorem unk8 (q : N (o0 :: o1 :: o2 :: o3 :: o4 :: o5 :: o6 :: o7 :: none :: r) h) : UnK 8 (o0 :: o1 :: o2 :: o3 :: o4 :: o5 :: o6 :: o7 :: o8 :: r) h N := q
theorem unk9 (q : N (o0 :: o1 :: o2 :: o3 :: o4 :: o5 :: o6 :: o7 :: o8 :: none :: r) h) : UnK 9 (o0 :: o1 :: o2 :: o3 :: o4 :: o5 :: o6 :: o7 :: o8 :: o9 :: r) h N := q
theorem unk10 (q : N (o0 :: o1 :: o2 :: o3 :: o4 :: o5 :: o6 :: o7 :: o8 :: o9 :: none :: r) h) : UnK 10 (o0 :: o1 :: o2 :: o3 :: o4 :: o5 :: o6 :: o7 :: o8 :: o9 :: o10 :: r) h N := q
theorem unk11 (q : N (o0 :: o1 :: o2 :: o3 :: o4 :: o5 :: o6 :: o7 :: o8 :: o9 :: o10 :: none :: r) h) : UnK 11 (o0 :: o1 :: o2 :: o3 :: o4 :: o5 :: o6 :: o7 :: o8 :: o9 :: o10 :: o11 :: r) h N := q
theorem unk12 (q : N (o0 :: o1 :: o2 :: o3 :: o4 :: o5 :: o6 :: o7 :: o8 :: o9 :: o10 :: o11 :: none :: r) h) : UnK 12 (o0 :: o1 :: o2 :: o3 :: o4 :: o5 :: o6 :: o7 :: o8 :: o9 :: o10 :: o11 :: o12 :: r) h N := q
theorem unk13 (q : N (o0 :: o1 :: o2 :: o3 :: o4 :: o5 :: o6 :: o7 :: o8 :: o9 :: o10 :: o11 :: o12 :: none :: r) h) : UnK 13 (o0 :: o1 :: o2 :: o3 :: o4 :: o5 :: o6 :: o7 :: o8 :: o9 :: o10 :: o11 :: o12 :: o13 :: r) h N := q
theorem unk14 (q : N (o0 :: o1 :: o2 :: o3 :: o4 :: o5 :: o6 :: o7 :: o8 :: o9 :: o10 :: o11 :: o12 :: o13 :: none :: r) h) : UnK 14 (o0 :: o1 :: o2 :: o3 :: o4 :: o5 :: o6 :: o7 :: o8 :: o9 :: o10 :: o11 :: o12 :: o13 :: o14 :: r) h N := q
theorem unk15 (q : N (o0 :: o1 :: o2 :: o3 :: o4 :: o5 :: o6 :: o7 :: o8 :: o9 :: o10 :: o11 :: o12 :: o13 :: o14 :: none :: r) h) : UnK 15 (o0 :: o1 :: o2 :: o3 :: o4 :: o5 :: o6 :: o7 :: o8 :: o9 :: o10 :: o11 :: o12 :: o13 :: o14 :: o15 :: r) h N := q
theorem unk16 (q : N (o0 :: o1 :: o2 :: o3 :: o4 :: o5 :: o6 :: o7 :: o8 :: o9 :: o10 :: o11 :: o12 :: o13 :: o14 :: o15 :: none :: r) h) : UnK 16 (o0 :: o1 :: o2 :: o3 :: o4 :: o5 :: o6 :: o7 :: o8 :: o9 :: o10 :: o11 :: o12 :: o13 :: o14 :: o15 :: o16 :: r) h N := q
theorem unk17 (q : N (o0 :: o1 :: o2 :: o3 :: o4 :: o5 :: o6 :: o7 :: o8 :: o9 :: o10 :: o11 :: o12 :: o13 :: o14 :: o15 :: o16 :: none :: r) h) : UnK 17 (o0 :: o1 :: o2 :: o3 :: o4 :: o5 :: o6 :: o7 :: o8 :: o9 :: o10 :: o11 :: o12 :: o13 :: o14 :: o15 :: o16 :: o17 :: r) h N := q
theorem unk18 (q : N (o0 :: o1 :: o2 :: o3 :: o4 :: o5 :: o6 :: o7 :: o8 :: o9 :: o10 :: o11 :: o12 :: o13 :: o14 :: o15 :: o16 :: o17 :: none :: r) h) : UnK 18 (o0 :: o1 :: o2 :: o3 :: o4 :: o5 :: o6 :: o7 :: o8 :: o9 :: o10 :: o11 :: o12 :: o13 :: o14 :: o15 :: o16 :: o17 :: o18 :: r) h N := q
theorem unk19 (q : N (o0 :: o1 :: o2 :: o3 :: o4 :: o5 :: o6 :: o7 :: o8 :: o9 :: o10 :: o11 :: o12 :: o13 :: o14 :: o15 :: o16 :: o17 :: o18 :: none :: r) h) : UnK 19 (o0 :: o1 :: o2 :: o3 :: o4 :: o5 :: o6 :: o7 :: o8 :: o9 :: o10 :: o11 :: o12 :: o13 :: o14 :: o15 :: o16 :: o17 :: o18 :: o19 :: r) h N := q
theorem unk20 (q : N (o0 :: o1 :: o2 :: o3 :: o4 :: o5 :: o6 :: o7 :: o8 :: o9 :: o10 :: o11 :: o12 :: o13 :: o14 :: o15 :: o16 :: o17 :: o18 :: o19 :: none :: r) h) : UnK 20 (o0 :: o1 :: o2 :: o3 :: o4 :: o5 :: o6 :: o7 :: o8 :: o9 :: o10 :: o11 :: o12 :: o13 :: o14 :: o15 :: o16 :: o17 :: o18 :: o19 :: o20 :: r) h N := q
theorem unk21 (q : N (o0 :: o1 :: o2 :: o3 :: o4 :: o5 :: o6 :: o7 :: o8 :: o9 :: o10 :: o11 :: o12 :: o13 :: o14 :: o15 :: o16 :: o17 :: o18 :: o19 :: o20 :: none :: r) h) : UnK 21 (o0 :: o1 :: o2 :: o3 :: o4 :: o5 :: o6 :: o7 :: o8 :: o9 :: o10 :: o11 :: o12 :: o13 :: o14 :: o15 :: o16 :: o17 :: o18 :: o19 :: o20 :: o21 :: r) h N := q
theorem unk22 (q : N (o0 :: o1 :: o2 :: o3 :: o4 :: o5 :: o6 :: o7 :: o8 :: o9 :: o10 :: o11 :: o12 :: o13 :: o14 :: o15 :: o16 :: o17 :: o18 :: o19 :: o20 :: o21 :: none :: r) h) : UnK 22 (o0 :: o1 :: o2 :: o3 :: o4 :: o5 :: o6 :: o7 :: o8 :: o9 :: o10 :: o11 :: o12 :: o13 :: o14 :: o15 :: o16 :: o17 :: o18 :: o19 :: o20 :: o21 :: o22 :: r) h N := q
theorem unk23 (q : N (o0 :: o1 :: o2 :: o3 :: o4 :: o5 :: o6 :: o7 :: o8 :: o9 :: o10 :: o11 :: o12 :: o13 :: o14 :: o15 :: o16 :: o17 :: o18 :: o19 :: o20 :: o21 :: o22 :: none :: r) h) : UnK 23 (o0 :: o1 :: o2 :: o3 :: o4 :: o5 :: o6 :: o7 :: o8 :: o9 :: o10 :: o11 :: o12 :: o13 :: o14 :: o15 :: o16 :: o17 :: o18 :: o19 :: o20 :: o21 :: o22 :: o23 :: r) h N := q
theorem unk24 (q : N (o0 :: o1 :: o2 :: o3 :: o4 :: o5 :: o6 :: o7 :: o8 :: o9 :: o10 :: o11 :: o12 :: o13 :: o14 :: o15 :: o16 :: o17 :: o18 :: o19 :: o20 :: o21 :: o22 :: o23 :: none :: r) h) : UnK 24 (o0 :: o1 :: o2 :: o3 :: o4 :: o5 :: o6 :: o7 :: o8 :: o9 :: o10 :: o11 :: o12 :: o13 :: o14 :: o15 :: o16 :: o17 :: o18 :: o19 :: o20 :: o21 :: o22 :: o23 :: o24 :: r) h N := q
theorem unk25 (q : N (o0 :: o1 :: o2 :: o3 :: o4 :: o5 :: o6 :: o7 :: o8 :: o9 :: o10 :: o11 :: o12 :: o13 :: o14 :: o15 :: o16 :: o17 :: o18 :: o19 :: o20 :: o21 :: o22 :: o23 :: o24 :: none :: r) h) : UnK 25 (o0 :: o1 :: o2 :: o3 :: o4 :: o5 :: o6 :: o7 :: o8 :: o9 :: o10 :: o11 :: o12 :: o13 :: o14 :: o15 :: o16 :: o17 :: o18 :: o19 :: o20 :: o21 :: o22 :: o23 :: o24 :: o25 :: r) h N := q
end
end Rk

/-! Rk46: an empty dict that is never changed, as data. -/
namespace Rk
open PySem PySem.Spec L2
section
variable {X : Cx} {W : WX} {pos : Pos}
theorem ee_dnew : EE X W (.Dict [] [] pos) (eD (.dict [])) := PE.of pe_dnewT fun σ H Q ⟨φ, h, ρ, sm, er, q⟩ p hp => by
  obtain ⟨w1, w2⟩ := sm.grow (o := .dT []) hp
  exact q (.ref p) _ φ w1 w2 (Rep.dct0 upd_same (sm.fresh hp))
end
theorem ex_isy_int {h : Hh} {P : Bool → Prop} (q : P false) : ∃ k, isTy .int (.d (.dict [])) h = some k ∧ P k := ⟨false, rfl, q⟩
theorem ex_isy_bool {h : Hh} {P : Bool → Prop} (q : P false) : ∃ k, isTy .bool (.d (.dict [])) h = some k ∧ P k := ⟨false, rfl, q⟩
theorem ex_isy_str {h : Hh} {P : Bool → Prop} (q : P false) : ∃ k, isTy .str (.d (.dict [])) h = some k ∧ P k := ⟨false, rfl, q⟩
theorem ex_isy_tuple {h : Hh} {P : Bool → Prop} (q : P false) : ∃ k, isTy .tuple (.d (.dict [])) h = some k ∧ P k := ⟨false, rfl, q⟩
theorem ex_isy_list {h : Hh} {P : Bool → Prop} (q : P false) : ∃ k, isTy .list (.d (.dict [])) h = some k ∧ P k := ⟨false, rfl, q⟩
theorem ex_isy_dict {h : Hh} {P : Bool → Prop} (q : P true) : ∃ k, isTy .dict (.d (.dict [])) h = some k ∧ P k := ⟨true, rfl, q⟩
theorem wo_isNy {h : Hh} {Q : Vl → Hh → Prop} (q : Q (.d (.bool false)) h) : Wo (gIsN (.d (.dict [])) (.d .none) h) Q := q
theorem wo_ntNy {h : Hh} {Q : Vl → Hh → Prop} (q : Q (.d (.bool true)) h) : Wo (gNotN (.d (.dict [])) (.d .none) h) Q := q
end Rk

/-! Rk47: a list walked from its end. -/
namespace Rk
open PySem PySem.Spec L2
section
variable {K : PySem.W.Frag}
theorem rev_it {a : Addr} {m : Itm} {G : List Addr → Hh → Hp → Prop} (L : LOk K a m G) : ItOk K (Itv K a m.ds.length) ⟨m.ds.reverse, m.gd⟩ G where
  go := fun φ h H i sm g gd hi => by
    have hi : i < m.ds.length := by simpa using hi
    obtain ⟨xs, sq, rs⟩ := L.sq φ h H sm g gd
    obtain ⟨y, e, _⟩ := rs.get (List.getElem?_eq_getElem (show m.ds.length - 1 - i < m.ds.length by omega))
    exact ⟨hi, xs, y, sq, e⟩
  yld := fun φ h H i x H' d sm g gd ed ⟨e, q⟩ => by
    subst e
    obtain ⟨xs, sq, rs⟩ := L.sq φ h H' sm g gd
    have hi : i < m.ds.length := by
      have := (List.getElem?_eq_some_iff.mp ed).1
      simpa using this
    rw [List.getElem?_reverse hi] at ed
    obtain ⟨y, ey, ry⟩ := rs.get ed
    have e2 := q xs sq
    rw [ey] at e2
    cases e2
    exact ⟨Step.refl _ _ _, sm, ry⟩
  stop := fun φ h H i sm g gd hi => by
    show m.ds.length ≤ i
    simpa using hi
  keep := L.keep
end
def iRev (as : Av) : Iv := fun ρ h => (as ρ h).bind fun vs h1 => match vs with
  | [v] => (itL v h1).bind fun m h2 => .ok ⟨m.ds.reverse, m.gd⟩ h2
  | _ => .no
section
variable {X : Cx} {W : WX} {tg : Expr} {pos p : Pos} {fs : Av}
theorem ei_rev {a : Expr} (hg : Gl X "reversed") (hm : X.mg "reversed" = none) (ha : EA X W [a] fs) (hs : starEach [a] X.env = [(false, eval a X.env)] := by rfl) : EI X W tg (.Call (.Name "reversed" p) [a] [] pos) (iRev fs) :=
  PI.of (pi_reversed hg hm ha hs) fun σ H R ⟨φ, h, ρ, sm, er, q⟩ => ⟨φ, h, ρ, sm, er, PoI.goA q fun xs vs h1 H1 φ1 st sm1 rv q1 => by
    split at q1
    · rename_i v
      obtain ⟨x, rfl, r⟩ := rv.one
      cases e : itL v h1 with
      | ok m h2 =>
        rw [e] at q1
        obtain ⟨rfl, gd, a, G, rfl, L, g⟩ := itL_lok sm1 r e
        obtain ⟨ys, sq, rs⟩ := L.sq _ _ _ sm1 g gd
        exact ⟨a, ys, rfl, sq, by rw [rs.length]; exact q1 _ H1 φ1 _ (Step.refl _ _ _) sm1 (rev_it L) g⟩
      | ex c fs h2 =>
        unfold itL at e
        split at e
        · cases e
        · split at e <;> cases e
        · cases e
      | no => rw [e] at q1; exact q1.elim
    · exact q1.elim⟩
end
section
variable {E : XP} {ρ : En} {h : Hh} {as : Av} {QI : Itm → Hh → Prop}
theorem wp_rev (w : Wp (as ρ h) (fun vs h1 => ∃ ds, vs = [.d (.list ds)] ∧ QI ⟨ds.reverse, none⟩ h1) E) : Wp (iRev as ρ h) QI E :=
  wp_bind (w.mono (fun _ _ ⟨ds, e, q⟩ => by rw [e]; exact ⟨q⟩) fun _ _ _ z => z)
theorem ex_rev {ds : List Da} {P : List Da → Prop} (q : P ds) : ∃ es, [Vl.d (.list ds)] = [.d (.list es)] ∧ P es := ⟨ds, rfl, q⟩
end
end Rk

/-! Rk48: sorted(t), t a written tuple of texts. -/
namespace Rk
open PySem PySem.Spec L2 PyProof.Rows
section
variable {prog : Program} {w : World} {A : Around} {E : Value → Shared → Prop} {s : Shared}
theorem gathered {t : Addr} {us : List Value} {Q : List Value → Shared → Prop} (ht : IsTup s.heap t us.toArray) (hn : us.length ≤ sizeLine)
    (q : Q us { s with heap := (s.heap.push (seqObj "list" #[] 0)).update s.heap.objs.size (Obj.mapSeq (· ++ us.toArray)) }) : wpAny (model prog w) A (collect (.ref t)) Q E s := by
  obtain ⟨ot, e1, e2, n, e3⟩ := id ht
  have new0 : (s.heap.push (seqObj "list" #[] 0)).get? s.heap.objs.size = some (seqObj "list" #[] 0) := Heap.get?_push_size _ rfl
  have e4 : (s.heap.push (seqObj "list" #[] 0)).get? t = some ot := Heap.get?_push_of_some _ e1
  unfold collect
  refine wpAny_bind (wpAny_runValue (codeAny_builtin entry_proto_collect' (wpAny_bind (wpAny_newList (wpAny_pure ⟨Code.quiet_builtin _ (by decide +kernel), codeAny_builtin entry_list_iadd' ?_⟩)))))
  show wpAny _ _ (Builtin.List.listExtendWith (.ref s.heap.objs.size) (.ref t) (.ref s.heap.objs.size)) _ _ { s with heap := s.heap.push (seqObj "list" #[] 0) }
  unfold Builtin.List.listExtendWith
  refine wpAny_bind (wpAny_typeOf (T := "tuple") ⟨ot, e4, e2⟩ ?_)
  rw [if_pos (by have tt : (Value.type "tuple" == Value.type "tuple") = true := by rfl
                 rw [tt]
                 simp)]
  refine wpAny_bind (listItems_at e4 e3 (wpAny_bind (listItems_at new0 rfl ?_)))
  rw [if_neg (by simp)]
  refine wpAny_bind (listUpdate_at new0 rfl (wpAny_pure ?_) (Nat.zero_le _) (by
    simp only [Array.size_append, List.size_toArray, List.length_nil]
    omega))
  refine wpAny_bind (wpAny_load (get?_update_seq new0 _) ?_)
  have all : ((#[] : Array Value) ++ us.toArray).toList = us := by simp
  show wpAny _ _ (pure ((#[] : Array Value) ++ us.toArray).toList) Q E _
  rw [all]
  exact wpAny_pure q
theorem sorted_tupS {t : Addr} {us : List Value} {ss : List Str} {Q : Value → Shared → Prop} (ht : IsTup s.heap t us.toArray) (hS : StrsAre us ss) (hn : us.length < 64)
    (q : ∀ (out : Array Value) (rs : List Str), StrsAre out.toList rs → rs.Perm ss → sortedS rs = true → Q (.ref (s.heap.objs.size + 1)) { s with heap := sortedAll s.heap us out }) :
    wpAny (model prog w) A (call (.builtin "sorted") [.ref t]) Q E s := by
  refine Calls.call_function_entry kind_sorted plain_sorted entry_sorted (args_sorted1 _) ?_
  unfold Builtin.«sorted»
  refine wpAny_bind (m := checkCount "sorted" 1 1 _) (wpAny_pure (wpAny_bind (gathered ht (by rw [sizeLine_eq]; omega) (wpAny_bind (wpAny_newList ?_)))))
  have sz : ((s.heap.push (seqObj "list" #[] 0)).update s.heap.objs.size (Obj.mapSeq (· ++ us.toArray))).objs.size = s.heap.objs.size + 1 := (Heap.size_update _ _ _).trans (size_push' _ _)
  have at1 : (((s.heap.push (seqObj "list" #[] 0)).update s.heap.objs.size (Obj.mapSeq (· ++ us.toArray))).push (seqObj "list" us.toArray 0)).get? (s.heap.objs.size + 1) = some (seqObj "list" us.toArray 0) := by
    rw [← sz]
    exact Heap.get?_push_size _ rfl
  show wpAny _ _ _ _ _ { s with heap := ((s.heap.push (seqObj "list" #[] 0)).update s.heap.objs.size (Obj.mapSeq (· ++ us.toArray))).push (seqObj "list" us.toArray 0) }
  rw [sz]
  refine wpAny_bind (wpAny_holding (wpAny_call_entry slot_list_sort ⟨_, at1, rfl⟩ entry_list_sort (list_sort_treeK strKind_oneLt at1 hS.keysOf (fun v1 v2 r e => keyKind_strs (by rw [← e]; exact hS)) hn fun st hp hs => ⟨_, rfl, ?_⟩) (args_list_sort _)))
  obtain ⟨rs, h1, h2, h3⟩ := sorted_out_str hS hp hs
  exact wpAny_pure ⟨_, rfl, q _ rs h1 h2 h3⟩
end
def rSortT (K : PySem.W.Frag) : List V → Hp → VK → Prop := fun vs H Q => ∃ (a : Addr) (xs : List Str), vs = [V.ref a] ∧ SqT K H a (xs.map V.str) ∧ xs.length < 64 ∧ ∀ (ys : List Str) (p : Addr), ys.Perm xs → sortedS ys = true → H p = none → Q (.ref p) (upd H p (.lst (ys.map V.str)))
theorem cr_sortT_ {X : Cx} : CallR X (.builtin "sorted") (rSortT X.K) := by
  intro pins s σ H vs us Q I r ⟨a, xs, e, hs, h64, q⟩
  subst e
  obtain ⟨its, rv, ht, _⟩ := I.tuple hs
  rw [Vals.ref1 r]
  have l0 : xs.length = its.length := by
    have := rv.length
    rwa [List.length_map] at this
  refine sorted_tupS ht rv.strs (by omega) fun out ys h1 h2 h3 => ?_
  obtain ⟨ep, hq⟩ := sortedAll_at s.heap its out
  have ly : (ys.map V.str).length ≤ sizeLine := by
    rw [List.length_map, h2.length_eq, sizeLine_eq]
    omega
  exact ⟨.ref _, upd H (s.heap.objs.size + 1) (.lst (ys.map V.str)), I.laid (t' := s.toks) (fun _ _ => sortedAll_old) (Nat.le_succ _) ⟨ly, out.toList, ep, vals_of_strs h1, hq⟩, rfl, q ys _ h2 h3 (I.hok.fresh (Nat.le_succ _))⟩
def strsOf : List Da → Option (List Str)
  | [] => some []
  | .str x :: ds => (strsOf ds).map (x :: ·)
  | _ :: _ => none
def gSortC (src out : List Str) : GC := fun as h => match as with
  | [.d (.tuple ds)] => if strsOf ds = some src then some (.r h.length, h ++ [some (.lst (out.map PyData.str))]) else none
  | _ => none
theorem strsOf_ok {K : PySem.W.Frag} {H : Hp} {M : Addr → Prop} : ∀ {ds : List Da} {vs : List V} {xs : List Str}, Reps K H M vs ds → strsOf ds = some xs → vs = xs.map V.str
  | [], _, xs, .nil, e => by
    cases e
    rfl
  | d :: ds, _, xs, .cons (v := v) r t, e => by
    cases d with
    | str x =>
      unfold strsOf at e
      cases e2 : strsOf ds with
      | none => rw [e2] at e; cases e
      | some ys =>
        rw [e2] at e
        cases e
        cases r
        rw [strsOf_ok t e2]
        rfl
    | _ => cases e
theorem reps_strs {K : PySem.W.Frag} {H : Hp} {M : Addr → Prop} : ∀ xs : List Str, Reps K H M (xs.map V.str) (xs.map PyData.str)
  | [] => .nil
  | x :: xs => .cons (.str x) (reps_strs xs)
theorem ok_sortC {K : PySem.W.Frag} {mg : Str → Option Value} {src out : List Str} (hn : src.length < 64) (uq : ∀ ys : List Str, ys.Perm src → sortedS ys = true → ys = out) : OkC K mg (rSortT K) (gSortC src out) := by
  intro φ h H xs as Q v h' sm rs e k
  unfold gSortC at e
  split at e
  · rename_i ds
    obtain ⟨x, rfl, r⟩ := rs.one
    split at e
    · rename_i es
      cases e
      obtain ⟨a, zs, rfl, sq, rr⟩ := VRep.tup r
      have ez := strsOf_ok rr es
      subst ez
      refine ⟨a, src, rfl, sq, hn, fun ys p h1 h2 hp => ?_⟩
      rw [uq ys h1 h2]
      have ro := reps_strs (K := K) (H := H) (M := Live φ h) out
      obtain ⟨t1, t2, t3⟩ := new_list (mg := mg) sm ro hp
      exact k _ _ _ t1 t2 t3
    · cases e
  · cases e
theorem uq4 {a b c d : Str} {out : List Str} (h : ∀ w ∈ [a, b, c, d], ∀ x ∈ [a, b, c, d], ∀ y ∈ [a, b, c, d], ∀ z ∈ [a, b, c, d], sortedS [w, x, y, z] = true → [w, x, y, z].isPerm [a, b, c, d] = true → [w, x, y, z] = out) :
    ∀ ys : List Str, ys.Perm [a, b, c, d] → sortedS ys = true → ys = out := by
  intro ys p s
  have l := p.length_eq
  match ys, l with
  | [w, x, y, z], _ =>
    have m : ∀ v ∈ [w, x, y, z], v ∈ [a, b, c, d] := fun v hv => p.mem_iff.mp hv
    exact h w (m w (by simp)) x (m x (by simp)) y (m y (by simp)) z (m z (by simp)) s (List.isPerm_iff.mpr p)
theorem wo_sortC {Q : Vl → Hh → Prop} {h : Hh} {src out : List Str} {ds : List Da} (e : strsOf ds = some src) (q : Q (.r h.length) (h ++ [some (.lst (out.map PyData.str))])) : Wo (gSortC src out [.d (.tuple ds)] h) Q :=
  wo_eq (if_pos e) q
end Rk

/-! Rk49: an exception out of a list comprehension's block (only calls raise in it). -/
namespace Rk
open PySem PySem.Spec L2 PyProof.Rows
theorem note_env (e : Value) {cenv env : Env} (h : cenv.frame = env.frame) : noteFrame e cenv = noteFrame e env := by
  unfold noteFrame PySem.frameOf
  rw [h]
section
variable {M : Model} {A : Around} {E : Value → Shared → Prop} {s : Shared} {B : Heap} {env cenv : Env} {outer l : List Env} {a L C : Addr} {Z : Obj → Prop} {m : Str → Option Value}
/-- the note of a frame, whoever held the exception ahead -/
theorem note_sky {Q : Unit → Shared → Prop} (hZ : HandSPX.Steady Z) (hfr : A.frames = some (env :: outer)) (hf : env.frame = some L) (x : Sky B (env :: outer) a Z C s.heap)
    (hQ : ∀ h', HandSPX.HeldZ B (env :: outer) a Z L h' → s.heap.UpToSlots h' → Q () { s with heap := h' }) : wpAny M A (noteFrame (.ref a) env) Q E s := by
  rcases x with ⟨hB, hn, hl, oe, vs, he, hz, hd, h1⟩ | fl | hh
  · exact HandSPX.look_newZ hZ hfr hl hf he hB hn hd h1 hz hQ
  · exact HandSPX.looks_onZ hZ hfr hf fl hQ
  · by_cases hc : (rawInt C == rawInt L) = true
    · have hc' : rawInt C = rawInt L := by simpa using hc
      have hh' : HandSPX.HeldZ B (env :: outer) a Z L s.heap := ⟨hh.1, hh.2.1, hh.2.2.1, by have := hh.2.2.2; rwa [hc'] at this⟩
      exact HandSPX.againZ hf hh'.2.2.2 (hQ s.heap hh' (Heap.UpToSlots.refl _))
    · obtain ⟨hkb, hen, hl, oe, vs, T, oT, ts, he, hz, hd, h1, hnT, hTe, hT, hdT, h3⟩ := hh
      unfold noteFrame
      simp only [hf]
      refine wpAny_bind (wpAny_field he hd h1 ?_)
      rw [if_pos (show (Value.ref T != Value.none) = true from by simp)]
      refine wpAny_bind (wpAny_field hT hdT h3 ?_)
      rw [if_neg hc]
      refine wpAny_bind (wpAny_setField hT hdT (Array.getElem?_eq_some_iff.mp h3).1 ?_)
      have other : ∀ b, b ≠ T → (s.heap.update T (Obj.mapFields (·.setIfInBounds 3 Value.none))).get? b = s.heap.get? b := fun b hb => Heap.get?_update_other _ _ (Ne.symm hb)
      have noRecord : ∀ b o, s.heap.get? b = some o → (∀ vs, o.data ≠ .fields vs) → b ≠ T := fun b o hb hnf q => by
        rw [q, hT] at hb; injection hb with hb; subst hb; exact hnf ts hdT
      refine HandSPX.wpAny_entryZ hZ hfr (hl.of_keeps fun b o hb hnf => ⟨o, (other b (noRecord b o hb hnf)).trans hb, rfl⟩) hf ((other a (Ne.symm hTe)).trans he)
        (fun b o hbo => (other b fun q => by rw [q, hnT] at hbo; cases hbo).trans (hkb b o hbo)) hen hd (Array.getElem?_eq_some_iff.mp h1).1 hz fun h' hN => ?_
      obtain ⟨x1, x2, x3, x4⟩ := hN
      exact hQ h' ⟨x1, hen, x2, x3⟩ fun b o hb hnf => x4 b o ((other b (noRecord b o hb hnf)).trans hb) hnf
/-- a namespace changes that is no part of the ground -/
theorem held_sameBut {h h' : Heap} (hh : HandSPX.HeldZ B l a Z L h) (hC : B.get? C = none) (hn : h.Ns C m) (hn' : ∃ m', h'.Ns C m') (hs : Heap.SameBut C h h') : HandSPX.HeldZ B l a Z L h' := by
  obtain ⟨b1, b0, f1, oe, vs, T, oT, ts, he, hz, hd, h1, hnT, hTe, hT, hdT, h3⟩ := hh
  obtain ⟨m', hn'⟩ := hn'
  obtain ⟨oC, es, ep, hoC, hdC, _⟩ := hn
  have ne : ∀ {b : Addr} {o : Obj} {vs : Array Value}, h.get? b = some o → o.data = .fields vs → b ≠ C := fun {b o vs} e d q => by
    subst q
    rw [hoC] at e; cases e
    rw [hdC] at d; cases d
  exact ⟨fun b o hb => (hs.2 b fun q => by rw [q, hC] at hb; cases hb).trans (b1 b o hb), b0, Heap.FunFrames.sameBut hs hn' f1, oe, vs, T, oT, ts, (hs.2 a (ne he hd)).trans he, hz, hd, h1, hnT, hTe, (hs.2 T (ne hT hdT)).trans hT, hdT, h3⟩
theorem pass_held {what : String} (hf : cenv.frame = some L) (hh : HandSPX.HeldZ B l a Z L s.heap) (hQ : ∀ h', HandSPX.HeldZ B l a Z L h' → s.heap.UpToSlots h' → E (.ref a) { s with heap := h' }) :
    wpAny M A (PySem.passOn what (.ref a) cenv : Sem Value) (fun _ _ => False) E s := by
  have hh0 := hh
  obtain ⟨b1, b0, f1, oe, vs, T, oT, ts, he, hz, hd, h1, r⟩ := hh
  unfold PySem.passOn
  refine wpAny_bind (wpAny_field he hd h1 ?_)
  rw [if_neg (show ¬ ((Value.ref T == Value.none) = true) from by simp)]
  rw [hf]
  exact wpAny_bind (HandSPX.setFlight_onZ hh0 fun h' k up => wpAny_throw (hQ h' k up))
end
/-- behind the block: as the library's post, an exception with the frame's note -/
def cPost (M : Model) (A : Around) (E : Value → Shared → Prop) (use : Option (Value → Sem Unit)) (Q : Value → Shared → Prop) (acc : Value) (ce : Env) (r : Result) (s' : Shared) : Prop :=
  match r, use with
  | .ok _, none => ∃ m, s'.heap.Ns ce.locals m ∧ ∀ h', Heap.SameBut ce.locals s'.heap h' → Q acc { s' with heap := h' }
  | .ok _, some u => wpAny M A (u acc) (fun _ s'' => ∃ m, s''.heap.Ns ce.locals m ∧ ∀ h', Heap.SameBut ce.locals s''.heap h' → Q .none { s'' with heap := h' }) E s'
  | .error x, _ => ∃ m, s'.heap.Ns ce.locals m ∧ ∀ h', (∃ m', h'.Ns ce.locals m') → Heap.SameBut ce.locals s'.heap h' → ∀ cenv : Env, cenv.frame = ce.frame → wpAny M A (PySem.passOn "comprehension.variables-let-go" x cenv : Sem Value) (fun _ _ => False) E { s' with heap := h' }
section
variable {M : Model} {A : Around} {E : Value → Shared → Prop} {s : Shared} {env : Env}
theorem comp_free {e : Expr} {scope : Scope} {pos : Pos} {newAcc first : Sem Value} {g : Comprehension} {gs : List Comprehension} {cl : List (Str × Addr)} {use : Option (Value → Sem Unit)}
    {Q : Value → Shared → Prop}
    (hcl : clausesOf e = g :: gs) (hs : ∀ x, foldedSetIterable g.iter env x = pure x) (hclos : closureFor scope env = pure cl)
    (hkind : scope.kind = .function) (hnames : ∀ x ∈ scope.names, x.2 = .local → scope.names.lookup x.1 = some .local)
    (h : wpAny M A first (fun x s₁ => wpAny M A (pyIter x) (fun it s₂ => wpAny M A newAcc (fun acc s₃ =>
      wpAny M A (newFunctionEnv scope env.globals cl [] env.qual none .none (some env)) (fun cenv s₄ =>
        codeAny M A (.compStart e 0 it acc { cenv with scope := relabel scope env }) (cPost M A E use Q acc { cenv with scope := relabel scope env }) s₄) E s₃) E s₂) E s₁) E s) :
    wpAny M A (comprehension e scope env pos newAcc false first use) Q E s := by
  unfold comprehension
  rw [hclos, hcl]
  refine wpAny_bind (wpAny_mono h (fun x s₁ h₁ => wpAny_bind (wpAny_standAt (wpAny_bind (wpAny_of_eq (hs x) (wpAny_bind (wpAny_holding (wpAny_mono h₁ (fun it s₂ h₂ =>
    wpAny_standIf (wpAny_bind (wpAny_mono h₂ (fun acc s₃ h₃ => wpAny_bind (wpAny_pure (wpAny_bind (wpAny_mono h₃ (fun cenv s₄ h₄ => ?_) fun _ _ h' => h')))) fun _ _ h' => h')))
      fun _ _ h' => h'))))))) fun _ _ h' => h')
  dsimp only
  have hv0 : ∀ x ∈ (scope.names.filter fun x => (x.2 == .local || x.2 == .cell) && x.1 != (".0" : Str)), x.2 = .local →
      Env.kindOf { cenv with scope := relabel scope env } x.1 = some .local := fun x hx hl => lookup_relabel_local (hnames x (List.mem_filter.mp hx).1 hl)
  have hv : ∀ x ∈ (scope.names.filter fun x => (x.2 == .local || x.2 == .cell) && x.1 != (".0" : Str)).reverse, x.2 = .local →
      Env.kindOf { cenv with scope := relabel scope env } x.1 = some .local := fun x hx hl => hv0 x (List.mem_reverse.mp hx) hl
  have hv' : ∀ x ∈ (scope.names.filter fun x => (x.2 == .local || x.2 == .cell) && x.1 != (".0" : Str)).reverse.drop 1 ++ (scope.names.filter fun x => (x.2 == .local || x.2 == .cell) && x.1 != (".0" : Str)).reverse.take 1,
      x.2 = .local → Env.kindOf { cenv with scope := relabel scope env } x.1 = some .local := fun x hx hl => by
    rcases List.mem_append.mp hx with h1 | h1
    · exact hv x (List.mem_of_mem_drop h1) hl
    · exact hv x (List.mem_of_mem_take h1) hl
  refine wpAny_holding (wpAny_bind (wpAny_attempt (wpAny_holding (wpAny_run (codeAny_mono h₄ fun r s' hr => ?_)))))
  cases r with
  | ok f =>
    cases use with
    | none =>
      obtain ⟨m, hn, hr⟩ := hr
      exact wpAny_bind (wpAny_holding (wpAny_comp_letGo (cenv := { cenv with scope := relabel scope env }) hkind _ s' m hv hn fun h' m' _ hs' => wpAny_pure (hr h' hs')))
    | some u =>
      refine wpAny_bind (wpAny_rule (wpAny_bind (wpAny_holding (wpAny_mono hr (fun _ s'' hr' => ?_) fun _ _ h' => h'))))
      obtain ⟨m, hn, hr'⟩ := hr'
      exact wpAny_bind (wpAny_comp_letGo (cenv := { cenv with scope := relabel scope env }) hkind _ s'' m hv' hn fun h' m' _ hs' => wpAny_pure (hr' h' hs'))
  | error x =>
    have hr' : ∃ m, s'.heap.Ns cenv.locals m ∧ ∀ h', (∃ m', h'.Ns cenv.locals m') → Heap.SameBut cenv.locals s'.heap h' → ∀ cenv' : Env, cenv'.frame = cenv.frame → wpAny M A (PySem.passOn "comprehension.variables-let-go" x cenv' : Sem Value) (fun _ _ => False) E { s' with heap := h' } := by cases use <;> exact hr
    obtain ⟨m, hn, hr⟩ := hr'
    exact wpAny_bind (wpAny_holding (wpAny_comp_letGo (cenv := { cenv with scope := relabel scope env }) hkind _ s' m hv hn fun h' m' hm' hs' => wpAny_mono (hr h' ⟨m', hm'⟩ hs' _ rfl) (fun _ _ f => f.elim) fun _ _ y => y))
end
abbrev blkX (X : Cx) (s : Shared) (H : Hp) (scope : Scope) (ce : Env) (fp : List Addr) (xe : Value → Shared → Prop) : Cx := (X.blk s H scope ce fp).tr [] xe
theorem inv_xe {X : Cx} {pins : List (Addr × Obj)} {σ : L2.St} {H : Hp} {s : Shared} (I : Inv X pins σ H s) (xe : Value → Shared → Prop) : Inv (X.tr X.pn xe) pins σ H s :=
  ⟨⟨I.ok.mod, I.ok.kind, I.ok.glob, I.ok.blt, I.ok.above, I.ok.inj, I.ok.has, I.ok.cab, I.ok.hd, I.ok.frames, I.ok.stk, I.ok.exf, I.ok.bs, I.ok.bsz, I.ok.noex, I.ok.exfs, I.ok.funs, I.ok.frf⟩, I.os, I.bare, I.base, I.loc, I.cell, I.free, I.freeC, I.pin, I.hok, I.len⟩
/-- what the block lets out is in the air of the def -/
theorem blk_out {X : Cx} {W : WX} {pins pinsb : List (Addr × Obj)} {σ σb : L2.St} {H3 H' : Hp} {s3 sI s' : Shared} {B : Heap} {a : Addr} {cls : Value} {d : Option Addr} {scope : Scope} {ce : Env} {fp : List Addr} {xe : Value → Shared → Prop}
    (I3 : Inv X pins σ H3 s3) (f3 : ∀ b ∈ fp, FpOk X pins H3 b) (cL : ce.locals = s3.heap.objs.size) (I : Inv (blkX X s3 H3 scope ce fp xe) pinsb σb H' sI)
    (nb : ∀ b o, sI.heap.get? b = some o → b ∉ frs X.stack → b ≠ ce.locals → B.get? b = some o)
    (up : ∀ b o, sI.heap.get? b = some o → b ≠ ce.locals → (∀ vs, o.data ≠ .fields vs) → ∃ sl, s'.heap.get? b = some { o with slots := sl })
    (hh : HandSPX.HeldZ B X.stack a (Zc cls d) X.env.locals s'.heap) (na : H' a = none) (os : s'.os = sI.os) (ag : AllBare s'.gens) (w : W cls d σ H') : XE X W (.ref a) s' := by
  obtain ⟨G, g1, g2⟩ := restrict s'.heap fun b => (B.get? b).isSome || decide (b ∈ frs X.stack)
  have st : B.StaysIn s'.heap := hh.1
  have gB : ∀ b o, B.get? b = some o → G.get? b = some o := fun b o e => by
    rw [g1 b (by simp [e])]
    exact st b o e
  have gF : ∀ b, b ∈ frs X.stack → G.get? b = s'.heap.get? b := fun b hb => g1 b (by simp [hb])
  have og : ∀ b o, G.get? b = some o → s'.heap.get? b = some o ∧ ((B.get? b).isSome = true ∨ b ∈ frs X.stack) := fun b o e => by
    cases q : ((B.get? b).isSome || decide (b ∈ frs X.stack)) with
    | false => rw [g2 b q] at e; cases e
    | true =>
      rw [g1 b q] at e
      exact ⟨e, by simpa [Bool.or_eq_true] using q⟩
  have nC : ∀ b o, s3.heap.get? b = some o → b ≠ ce.locals := fun b o e q => by
    rw [q, cL] at e
    exact absurd (Heap.lt_size e) (Nat.lt_irrefl _)
  have fr : ∀ b ∈ frs X.stack, ∀ o, s3.heap.get? b = some o → b ∉ fp → ∃ sl, s'.heap.get? b = some { o with slots := sl } := fun b hb o e hc => by
    obtain ⟨_, o', e', hd⟩ := I3.stack.mem hb
    rw [e] at e'; cases e'
    obtain ⟨sl, e1⟩ := I.base.slot b o e (I3.stkFree b hb) hb hc
    obtain ⟨sl2, e2⟩ := up b _ e1 (nC b o e) hd
    exact ⟨sl2, e2⟩
  have hC : H' ce.locals = none := I.free
  have hokB : HOk X.prog X.w H' B := fun b o q =>
    (I.hok b o q).stay (fun c u hc r => nb c u r (fun hm => by
      have z := I.stkFree c hm
      rcases hc with hc | hc
      · rw [hc, q] at z; cases z
      · rw [hc] at z; cases z) (fun z => by
      rw [z] at hc
      rcases hc with hc | hc
      · rw [← hc, hC] at q; cases q
      · rw [hC] at hc; cases hc)) (fun _ r => r) fun _ _ r => r
  refine ⟨a, B, { s3 with heap := G, gens := s'.gens, drawn := s'.drawn, toks := s'.toks }, pins, σ, H', cls, d, rfl, ?_, fun b o e hb => ?_, Heap.UpToSlots.of_keeps fun b o e => (og b o e).1, .inr (.inr hh), na, os.trans I.os, ag, w⟩
  · refine I3.call' (ch := fp) rfl ⟨fun b o e n hb hc => gB b o (nb b o (I.base.keep b o e n hb hc) hb (nC b o e)), fun b o e n hb hc => ?_, fun b o e n hc => I.base.free b o e n hc, fun b o e hc => ?_, I.base.tups, I.base.frzs, I.base.tbls⟩ (hokB.kept gB) ag fun b hb => ⟨(f3 b hb).2.2.2.1, (f3 b hb).2.1, (f3 b hb).2.2.2.2.1, (f3 b hb).2.2.2.2.2⟩
    · obtain ⟨sl, q⟩ := fr b hb o e hc
      exact ⟨sl, by rw [gF b hb]; exact q⟩
    · by_cases hb : b ∈ frs X.stack
      · obtain ⟨sl, q⟩ := fr b hb o e hc
        exact ⟨_, by rw [gF b hb]; exact q⟩
      · obtain ⟨o', q⟩ := I.base.there b o e hc
        exact ⟨o', gB b o' (nb b o' q hb (nC b o e))⟩
  · obtain ⟨e', h⟩ := og b o e
    rcases h with h | h
    · obtain ⟨o', q⟩ := Option.isSome_iff_exists.mp h
      have z := st b o' q
      rw [e'] at z; cases z
      exact q
    · exact absurd h hb
theorem blk_noted {X : Cx} {W : WX} {pins : List (Addr × Obj)} {σ : L2.St} {H3 : Hp} {s3 s' : Shared} {scope : Scope} {ce : Env} {fp : List Addr} {xe : Value → Shared → Prop} {use : Option (Value → Sem Unit)} {Qf : Value → Shared → Prop} {acc u : Value}
    (hs : X.stack = X.env :: X.outer) (hf : X.env.frame = some X.env.locals) (tk : L2.Takes X W) (I3 : Inv X pins σ H3 s3) (f3 : ∀ b ∈ fp, FpOk X pins H3 b) (cL : ce.locals = s3.heap.objs.size) (cF : ce.frame = X.env.frame)
    (x : XE (blkX X s3 H3 scope ce fp xe) (fun c d _ H => W c d σ H) u s') :
    notedBy (model X.prog X.w) X.A ce (fun e s'' => cPost (model X.prog X.w) X.A X.xe use Qf acc ce (.error e) s'') u s' := by
  obtain ⟨a, B, sI, pinsb, σb, H', cls, d, rfl, I, nb, up, sky, na, os, ag, w⟩ := x
  have nb : ∀ b o, sI.heap.get? b = some o → b ∉ frs X.stack → B.get? b = some o := nb
  have sky : Sky B X.stack a (Zc cls d) ce.locals s'.heap := sky
  have hfr : X.A.frames = some (X.env :: X.outer) := by rw [I3.ok.frames, hs]
  show wpAny _ X.A (noteFrame (.ref a) ce) _ _ s'
  rw [note_env _ cF]
  rw [hs] at sky
  refine note_sky Zc.steady hfr hf sky fun h1 hh up1 => ?_
  obtain ⟨m, hn, _⟩ := I.loc
  have hn : sI.heap.Ns ce.locals m := hn
  obtain ⟨oC, es, ep, hoC, hdC, hk, hr⟩ := hn
  obtain ⟨sl1, e1⟩ := up _ _ hoC (fun vs q => by rw [hdC] at q; cases q)
  obtain ⟨sl2, e2⟩ := up1 _ _ e1 (fun vs q => by
    have q : oC.data = .fields vs := q
    rw [hdC] at q; cases q)
  have hn1 : h1.Ns ce.locals m := ⟨_, es, ep, e2, hdC, hk, hr⟩
  show ∃ m, h1.Ns ce.locals m ∧ _
  refine ⟨m, hn1, fun h' hn' hsb cenv hcf => ?_⟩
  have hB : ∀ b o, (PySem.W.hideAll B [ce.locals]).get? b = some o → B.get? b = some o := fun b o e => PySem.W.of_hideAll _ e
  have hBn : ∀ b, B.get? b = none → (PySem.W.hideAll B [ce.locals]).get? b = none := fun b e => by
    cases q : (PySem.W.hideAll B [ce.locals]).get? b with
    | none => rfl
    | some o => rw [hB b o q] at e; cases e
  have hC : (PySem.W.hideAll B [ce.locals]).get? ce.locals = none := PySem.W.hideAll_none _ (by simp)
  have hh1 : HandSPX.HeldZ (PySem.W.hideAll B [ce.locals]) (X.env :: X.outer) a (Zc cls d) X.env.locals h1 := by
    obtain ⟨b1, b0, f1, oe, vs, T, oT, ts, he, hz, hd, h1', hnT, r⟩ := hh
    exact ⟨fun b o e => b1 b o (hB b o e), hBn _ b0, funFrames_none f1 fun b hb => hBn b (f1.mem hb).1, oe, vs, T, oT, ts, he, hz, hd, h1', hBn _ hnT, r⟩
  have hh2 := held_sameBut hh1 hC hn1 hn' hsb
  refine pass_held (s := { s' with heap := h' }) (L := X.env.locals) (by rw [hcf, cF, hf]) hh2 fun h2 k2 up2 => ?_
  rw [← hs] at k2
  refine tk _ _ (blk_out (W := W) (s' := { s' with heap := h2 }) I3 f3 cL I (fun b o e hb hc => PySem.W.hideAll_get _ (nb b o e hb) (by simpa using hc)) (fun b o e hc hnf => ?_) k2 na os ag w)
  obtain ⟨sl1, e1⟩ := up b o e hnf
  obtain ⟨sl2, e2⟩ := up1 b _ e1 hnf
  have e3 : h'.get? b = some _ := (hsb.2 b hc).trans e2
  obtain ⟨sl4, e4⟩ := up2 b _ e3 hnf
  exact ⟨sl4, e4⟩
end Rk

/-! Rk50: a list comprehension whose block may let an exception out (of a call). -/
namespace Rk
open PySem PySem.Spec L2 PyProof.Rows
/-- the wish about exceptions, at the def's slots -/
abbrev wAt (W : WX) (σ : L2.St) : WX := fun c d _ H => W c d σ H
def tLcX (W : WX) (wi : TI) (g : TG) (tt : WX → TT) (te : WX → TE) (vs : List Nat) : TE := fun σ H Q => wi σ H fun J H1 => ∀ D, H1 D = none → ∃ V : Nat → Nat → Hp → Prop, (∃ m, V 0 m (L2.upd H1 D (.lst []))) ∧ ∀ i m H, V i m H →
  (J.stop i H ∧ Q (.ref D) H) ∨ (J.go i H ∧ ∃ Nx : Hp → Prop, (∀ H', Nx H' → ∃ m', m' < m ∧ V (i + 1) m' H') ∧ ∀ x H', J.yld i H x H' → g x (L2.wipe σ vs) H' fun σ2 H2 => L2.wipe σ2 vs = L2.wipe σ vs ∧ tt (wAt W σ) σ2 H2 fun b H3 =>
    if b = true then te (wAt W σ) σ2 H3 fun y H4 => ∃ acc, H4 D = some (.lst acc) ∧ acc.length < sizeLine ∧ Nx (L2.upd H4 D (.lst (acc ++ [y]))) else Nx H3)
section
variable {X : Cx} {W : WX}
theorem takes_blk {s : Shared} {H : Hp} {scope : Scope} {ce : Env} {fp : List Addr} : L2.Takes (blkX X s H scope ce fp fun u s' => XE (blkX X s H scope ce fp fun _ _ => False) W u s') W := fun u s' ⟨a, B, sI, pins, σ, H', cls, d, e, I, nb, up, sky, na, os, ag, w⟩ =>
  ⟨a, B, sI, pins, σ, H', cls, d, e, inv_xe I (fun _ _ => False), nb, up, sky, na, os, ag, w⟩
theorem lc_coreX {pins : List (Addr × Obj)} {s : Shared} {σ : L2.St} {H : Hp} {Q : VK} {elt tg iter : Expr} {ifs : List Expr} {scope : Scope} {own : List (Str × Nat)} {pos pos' : Pos} {wi : TI} {g : TG} {tt : WX → TT} {te : WX → TE} {use : Option (Value → Sem Unit)} {Qf : Value → Shared → Prop}
    (hst : X.stack = X.env :: X.outer) (hfr : X.env.frame = some X.env.locals) (tk : L2.Takes X W)
    (hc : X.calm = true) (hN : X.N.Nodup) (I : Inv X pins σ H s) (hi : PI X tg iter wi) (ok : BlkOk X.N X.env.scope scope own)
    (hg : ∀ (s : Shared) (H : Hp) (C : Addr) (cl : List (Str × Addr)) (fp : List Addr) (xe : Value → Shared → Prop), PG (blkX X s H scope (compEnvC scope cl C X.env) fp xe) tg g)
    (ht : ∀ (s : Shared) (H : Hp) (C : Addr) (cl : List (Str × Addr)) (fp : List Addr) (xe : Value → Shared → Prop) (W' : WX), L2.Takes (blkX X s H scope (compEnvC scope cl C X.env) fp xe) W' → PTs (blkX X s H scope (compEnvC scope cl C X.env) fp xe) ifs (tt W'))
    (he : ∀ (s : Shared) (H : Hp) (C : Addr) (cl : List (Str × Addr)) (fp : List Addr) (xe : Value → Shared → Prop) (W' : WX), L2.Takes (blkX X s H scope (compEnvC scope cl C X.env) fp xe) W' → PE (blkX X s H scope (compEnvC scope cl C X.env) fp xe) elt (te W')) (hs : ∀ x, foldedSetIterable iter X.env x = pure x)
    (h : tLcX W wi g tt te (own.map (·.2)) σ H Q)
    (hRR : ∀ D (ce : Env) s' m H', Inv X pins σ H' s' → Q (.ref D) H' → s'.heap.Ns ce.locals m → FpOk X pins H' ce.locals → cPost (model X.prog X.w) X.A X.xe use Qf (.ref D) ce (.ok .next) s') :
    wpAny (model X.prog X.w) X.A (comprehension (.ListComp elt [⟨tg, iter, ifs, 0⟩] scope pos) scope X.env pos' (newList []) false (eval iter X.env) use) Qf X.xe s := by
  have hfree : ∀ y ∈ scope.names, y.2 = .free → ∃ c, X.env.cells.lookup y.1 = some c := fun y hy e => by
    rcases ok.free y hy e with k | k
    · exact I.ok.has _ (.inl k)
    · exact I.ok.has _ (.inr k)
  refine comp_free (use := use) rfl hs (closure_ok hfree) ok.kind (fun y hy e => by rw [ok.uniq y hy, e])
    (thn (hi.run pins s σ H _ I h) fun xv s1 hx => thn hx fun itv s2 h2 => ?_)
  obtain ⟨it, fp, tn, J, H2, e, I2, T, st2, f2, q⟩ := h2
  subst e
  refine wpAny_newObj_type (newEnv_comp ?_) (by show 0 ≤ sizeLine; decide)
  generalize hD : s2.heap.objs.size = D
  have hDn : H2 D = none := I2.hok.fresh (Nat.le_of_eq hD)
  obtain ⟨V, ⟨m0, w0⟩, turn⟩ := q D hDn
  generalize hs3 : ({ s2 with heap := s2.heap.push { cls := .type "list", data := .seq ([] : List Value).toArray } } : Shared) = s3
  have I3 : Inv X pins σ (L2.upd H2 D (.lst [])) s3 := by
    rw [← hs3]
    refine I2.laid (t' := s2.toks) (fun b o e => Heap.get?_push_of_some _ e) (Nat.le_of_eq hD) ⟨Nat.zero_le _, [], 0, .nil, ?_⟩
    rw [← hD]
    exact Heap.get?_push_size _ rfl
  have h3 : s3.heap = s2.heap.push { cls := .type "list", data := .seq ([] : List Value).toArray } := by rw [← hs3]
  have sz : ∀ b ∈ fp, b < s2.heap.objs.size := fun b hb => by
    obtain ⟨o, e, _⟩ := T.obj _ _ st2 b hb
    exact Heap.lt_size e
  have f3 : ∀ b ∈ fp, FpOk X pins (L2.upd H2 D (.lst [])) b ∧ b < s3.heap.objs.size := fun b hb => by
    have hlt := sz b hb
    refine ⟨⟨?_, (f2 b hb).2⟩, by rw [h3, Heap.size_push]; exact Nat.lt_succ_of_lt hlt⟩
    rw [L2.upd_ne (by rw [← hD]; exact Nat.ne_of_lt hlt)]
    exact (f2 b hb).1
  have st3 : tn 0 s3.heap := T.keep _ _ _ st2 fun b _ o e => by rw [h3]; exact Heap.get?_push_of_some _ e
  have I4 := block_start I3 ok hN f3
  show codeAny _ _ (.compStart (.ListComp elt [⟨tg, iter, ifs, 0⟩] scope pos) 0 (.ref it) (.ref D) (compEnvC scope (cellsFrom (s3.heap.objs.size + 1) scope.names (cloFrom X.env.cells scope.names [])) s3.heap.objs.size X.env)) (cPost (model X.prog X.w) X.A X.xe use Qf (.ref D) (compEnvC scope (cellsFrom (s3.heap.objs.size + 1) scope.names (cloFrom X.env.cells scope.names [])) s3.heap.objs.size X.env)) { s3 with heap := pushCells (s3.heap.push { cls := .type "dict", data := .dict #[] }) scope.names }
  generalize hce : compEnvC scope (cellsFrom (s3.heap.objs.size + 1) scope.names (cloFrom X.env.cells scope.names [])) s3.heap.objs.size X.env = ce at I4
  have cL : ce.locals = s3.heap.objs.size := by subst hce; rfl
  have cF : ce.frame = X.env.frame := by subst hce; rfl
  have nfp : ∀ b ∈ fp, (L2.upd H2 D (.lst [])) b = none := fun b hb => (f3 b hb).1.1
  generalize hH3 : L2.upd H2 D (.lst []) = H3 at I3 I4 w0 nfp f3
  let xe : Value → Shared → Prop := fun u s' => XE (blkX X s3 H3 scope ce fp fun _ _ => False) (wAt W σ) u s'
  have tkb : L2.Takes (blkX X s3 H3 scope ce fp xe) (wAt W σ) := takes_blk
  have pg : PG (blkX X s3 H3 scope ce fp xe) tg g := by subst hce; exact hg _ _ _ _ _ _
  have pt : PTs (blkX X s3 H3 scope ce fp xe) ifs (tt (wAt W σ)) := by subst hce; exact ht _ _ _ _ _ _ _ tkb
  have pe : PE (blkX X s3 H3 scope ce fp xe) elt (te (wAt W σ)) := by subst hce; exact he _ _ _ _ _ _ _ tkb
  have I4 := inv_xe I4 xe
  have nt : ∀ {acc u : Value} {s' : Shared}, xe u s' → notedBy (model X.prog X.w) X.A ce (fun e s'' => cPost (model X.prog X.w) X.A X.xe use Qf acc ce (.error e) s'') u s' := fun {acc u s'} x =>
    blk_noted hst hfr tk I3 (fun b hb => (f3 b hb).1) cL cF x
  generalize hs4 : ({ s3 with heap := pushCells (s3.heap.push { cls := .type "dict", data := .dict #[] }) scope.names } : Shared) = s4 at I4
  have st4 : tn 0 s4.heap := T.keep _ _ _ st3 fun b _ o e => by rw [← hs4]; exact pushCells_keeps _ _ _ _ (Heap.get?_push_of_some _ e)
  have stat : ∀ {σ' : L2.St} {H' : Hp} {s' : Shared}, Inv (blkX X s3 H3 scope ce fp xe) [] σ' H' s' → (∀ b ∈ fp, H' b = none) → ∀ b ∈ fp, FpOk (blkX X s3 H3 scope ce fp xe) [] H' b := fun {σ' H' s'} I' hn b hb =>
    ⟨hn b hb, (I'.ok.exf b hb).1, I'.ok.exfs b hb, .inl hb, fun x c e => (I'.ok.exf b hb).2 x c e, fun p hp => absurd (show p ∈ ([] : List (Addr × Obj)) ++ [] from hp) (by simp)⟩
  have loop : codeAny (model X.prog X.w) X.A (.compLoop (.ListComp elt [⟨tg, iter, ifs, 0⟩] scope pos) 0 (.ref it) (.ref D) ce) (cPost (model X.prog X.w) X.A X.xe use Qf (.ref D) ce) s4 := by
    refine compLoop_any (fun n s' => ∃ i H', Inv (blkX X s3 H3 scope ce fp xe) [] (L2.wipe σ (own.map (·.2))) H' s' ∧ tn i s'.heap ∧ (∀ b ∈ fp, H' b = none) ∧ V i n H') ?_ m0 ⟨0, H3, I4, st4, nfp, w0⟩
    rintro n s5 ⟨i, H5, I5, st5, n5, w5⟩
    rcases turn i n H5 w5 with ⟨stop, qq⟩ | ⟨go, Nx, hNx, step⟩
    · have td := T.done (blkX X s3 H3 scope ce fp xe) rfl rfl rfl hc i [] s5 _ H5 (fun _ _ => False) I5 (stat I5 n5) st5 stop
      refine thnF td fun r s6 ⟨hr, I6⟩ => ?_
      subst hr
      have I7 : Inv X pins σ H5 s6 := I3.call' (ch := fp) I6.os I6.base I6.hok I6.bare fun b hb => ⟨(f3 b hb).1.2.2.2.1, (f3 b hb).1.2.1, (f3 b hb).1.2.2.2.2.1, (f3 b hb).1.2.2.2.2.2⟩
      have nC : H5 ce.locals = none := I6.free
      obtain ⟨m, hn, _⟩ := I6.loc
      have hn : s6.heap.Ns ce.locals m := hn
      exact hRR D ce s6 m H5 I7 qq hn (I3.fpOk (Nat.le_of_eq cL.symm) nC)
    · have ti := T.item (blkX X s3 H3 scope ce fp xe) rfl rfl rfl hc i [] s5 _ H5 (fun _ _ => False) I5 (stat I5 n5) st5 go
      refine thnF ti fun r s6 ⟨u, hr, h6⟩ => ?_
      subst hr
      refine thnF h6 fun _ s7 ⟨x, H7, I7, r7, y7, st7, n7⟩ => ?_
      have I7' := I7.pinned (stat I7 n7) (T.obj _ _ st7)
      refine wpAny_mono (pg.run _ s7 _ H7 x u _ I7' r7 (step x H7 y7)) (fun _ s8 ⟨σ8, H8, I8, hw8, q8⟩ => ?_) fun _ _ x => nt x
      refine wpAny_mono (pt.run _ s8 σ8 H8 _ I8 q8) (fun b s9 ⟨H9, I9, q9⟩ => ?_) fun _ _ x => nt x
      have fin : ∀ {s' : Shared} {H' : Hp}, Inv (blkX X s3 H3 scope ce fp xe) ([] ++ pinsAt fp s7.heap) σ8 H' s' → Nx H' → ∃ m, m < n ∧ ∃ i H', Inv (blkX X s3 H3 scope ce fp xe) [] (L2.wipe σ (own.map (·.2))) H' s' ∧ tn i s'.heap ∧ (∀ b ∈ fp, H' b = none) ∧ V i m H' := fun {s' H'} I' nx => by
        obtain ⟨m', hm, w'⟩ := hNx H' nx
        have pin' : ∀ b ∈ fp, ∀ o, s7.heap.get? b = some o → s'.heap.get? b = some o ∧ H' b = none := fun b hb o e =>
          let z := I'.pin (b, o) (List.mem_append_right _ (List.mem_append_right _ (mem_pinsAt hb e)))
          ⟨z.1, z.2.1⟩
        have hl : (L2.wipe σ (own.map (·.2))).length = σ8.length := by rw [← hw8, L2.wipe_length]
        refine ⟨m', hm, i + 1, H', (I'.unpinned (pins := [])).weak hl (fun j v e => ?_), T.keep _ _ _ st7 fun b hb o e => (pin' b hb o e).1, fun b hb => ?_, w'⟩
        · rw [← hw8] at e
          exact (L2.wipe_some e).1
        · obtain ⟨o, e, _⟩ := T.obj _ _ st7 b hb
          exact (pin' b hb o e).2
      cases b with
      | false =>
        simp only [Bool.false_eq_true, if_false] at q9 ⊢
        exact fin I9 q9
      | true =>
        simp only [if_true] at q9 ⊢
        refine wpAny_mono (pe.run _ s9 σ8 H9 _ I9 q9) (fun z s10 ⟨yv, H10, I10, r10, acc, hD10, hz10, nx⟩ => ?_) fun _ _ x => nt x
        exact app_ok (X := blkX X s3 H3 scope ce fp xe) I10 hD10 hz10 r10 fun s11 I11 => fin I11 nx
  have fin := codeAny_compStart_list loop (T.self X.A 0 _ _ _ st4 loop)
  exact fin
end
end Rk

/-! Rk51 (printed by mk51.py): list comprehensions that let an exception through. -/
namespace Rk
open PySem PySem.Spec L2
variable {mg : Str → Option Value}
open Classical in
noncomputable def lcLX (gd : Option (Nat × List Da)) (D : Nat) (g : Gv) (tt : Tv) (fe : Ev) (ρ0 : En) : List Da → Hh → Out Vl
  | [], h => if gdOk gd h then .ok (.r D) h else .no
  | d :: ds, h => if gdOk gd h then (match g (.d d) ρ0 h with
      | none => .no
      | some p => match tt p.1 p.2 with
        | .ok true h2 => (match fe p.1 h2 with
          | .ok v h3 => (match appL D v h3 with
            | some h4 => lcLX gd D g tt fe ρ0 ds h4
            | none => .no)
          | .ex c fs h3 => .ex c fs h3
          | .no => .no)
        | .ok false h2 => lcLX gd D g tt fe ρ0 ds h2
        | .ex c fs h2 => .ex c fs h2
        | .no => .no) else .no
noncomputable def eLcX (vs : List Nat) (i : Iv) (g : Gv) (tt : Tv) (fe : Ev) : Ev := fun ρ h => (i ρ h).bind fun m h1 => lcLX m.gd h1.length g tt fe (wipeE ρ vs) m.ds (h1 ++ [some (.lst [])])
theorem lc_okX {K : PySem.W.Frag} {mg : Str → Option Value} {J : It} {m : Itm} {G : List Addr → Hh → Hp → Prop} (ok : ItOk K J m G) {g : Gv} {tt : Tv} {fe : Ev} {vs : List Nat} {φ : List Addr} {h : Hh} {H : Hp} {σ : L2.St} {ρ : En} {Q : VK} {W : WX} (sm : Sim K φ h H) (er : ERep K mg φ h H σ ρ) (gg : G φ h H)
    (q : PoX K mg φ h H (lcLX m.gd h.length g tt fe (wipeE ρ vs) m.ds (h ++ [some (.lst [])])) Q (WE W σ)) (D : Addr) (nd : H D = none) : ∃ W' : Nat → Nat → Hp → Prop, (∃ n, W' 0 n (upd H D (.lst []))) ∧ ∀ i n H, W' i n H →
      (J.stop i H ∧ Q (.ref D) H) ∨ (J.go i H ∧ ∃ Nx : Hp → Prop, (∀ H', Nx H' → ∃ m', m' < n ∧ W' (i + 1) m' H') ∧ ∀ x H', J.yld i H x H' → tGw K mg vs g x (L2.wipe σ vs) H' fun σ2 H2 => L2.wipe σ2 vs = L2.wipe σ vs ∧ tT K mg (wAt W σ) tt σ2 H2 fun b H3 => if b = true then tE K mg (wAt W σ) fe σ2 H3 fun y H4 => ∃ acc, H4 D = some (.lst acc) ∧ acc.length < sizeLine ∧ Nx (upd H4 D (.lst (acc ++ [y]))) else Nx H3) := by
  obtain ⟨n1, n2, n3⟩ := sm.new (mg := mg) (ob := .lst []) (o := .lst []) nd fun M st => ⟨[], upd_same, .nil⟩
  have jD : (φ ++ [D])[h.length]? = some D := by
    rw [← sm.len]
    simp
  generalize h.length = j at *
  refine ⟨fun i n H => n = m.ds.length - i ∧ ∃ φ h, Sim K φ h H ∧ φ[j]? = some D ∧ ERep K mg φ h H (L2.wipe σ vs) (wipeE ρ vs) ∧ G φ h H ∧ PoX K mg φ h H (lcLX m.gd j g tt fe (wipeE ρ vs) (m.ds.drop i) h) Q (WE W σ), ⟨_, rfl, φ ++ [D], h ++ [some (.lst [])], n2, jD, (er.step n1).wipe vs, ok.keep _ _ _ _ _ _ gg n1, by rw [List.drop_zero]; exact PoX.pull n1 q⟩, ?_⟩
  rintro i n H ⟨rfl, φ, h, sm, jD, er, gg, q⟩
  cases ed : m.ds.drop i with
  | nil =>
    rw [ed] at q
    unfold lcLX at q
    split at q
    · rename_i gd
      exact .inl ⟨ok.stop φ h H i sm gg gd (List.drop_eq_nil_iff.mp ed), q _ H φ (Step.refl _ _ _) sm ⟨D, jD, rfl⟩⟩
    · exact q.elim
  | cons d ds =>
    have hi : i < m.ds.length := by
      rcases Nat.lt_or_ge i m.ds.length with z | z
      · exact z
      · rw [List.drop_eq_nil_of_le z] at ed; cases ed
    have e1 : m.ds[i]? = some d := by
      have := List.getElem?_drop (xs := m.ds) (i := i) (j := 0)
      rw [ed] at this
      simpa using this.symm
    have e2 : m.ds.drop (i + 1) = ds := by
      have := List.drop_drop (i := 1) (j := i) (l := m.ds)
      rw [ed] at this
      simpa using this.symm
    rw [ed] at q
    unfold lcLX at q
    split at q
    · rename_i gd
      refine .inr ⟨ok.go φ h H i sm gg gd hi, fun H' => ∃ φ h, Sim K φ h H' ∧ φ[j]? = some D ∧ ERep K mg φ h H' (L2.wipe σ vs) (wipeE ρ vs) ∧ G φ h H' ∧ PoX K mg φ h H' (lcLX m.gd j g tt fe (wipeE ρ vs) ds h) Q (WE W σ), fun H' hN => ?_, fun x H' hy => ?_⟩
      · obtain ⟨φ', h', a1, a2, a3, a4, a5⟩ := hN
        exact ⟨m.ds.length - (i + 1), by omega, rfl, φ', h', a1, a2, a3, a4, by rw [e2]; exact a5⟩
      · obtain ⟨s1, s2, s3⟩ := ok.yld φ h H i x H' d sm gg gd e1 hy
        have q' := PoX.pull s1 q
        have gg' := ok.keep _ _ _ _ _ _ gg s1
        have er' := er.step s1
        cases eg : g (.d d) (wipeE ρ vs) h with
        | none => rw [eg] at q'; exact q'.elim
        | some p =>
          obtain ⟨ρ1, h1⟩ := p
          rw [eg] at q'
          refine ⟨φ, h, _, .d d, ρ1, h1, s2, er', s3, eg, fun σ2 H2 φ2 st2 sm2 er2 w2 => ⟨by
            have idm : L2.wipe (L2.wipe σ vs) vs = L2.wipe σ vs := by
              apply List.ext_getElem?
              intro k
              rw [wipe_get, wipe_get, L2.wipe_length]
              by_cases hk : k ∈ vs <;> simp [hk]
            rw [w2, idm], φ2, h1, ρ1, sm2, er2, ?_⟩⟩
          have q2 := PoX.pull st2 q'
          have gg2 := ok.keep _ _ _ _ _ _ gg' st2
          have er3 := er'.step st2
          have jD2 := pre_get st2.pre jD
          dsimp only at q2
          revert q2
          cases tt ρ1 h1 with
          | no => exact fun q2 => q2
          | ex c fs h2 => exact fun q2 => q2
          | ok b h2 =>
            intro q2 H3 φ3 st3 sm3
            have q3 := PoX.pull st3 q2
            have gg3 := ok.keep _ _ _ _ _ _ gg2 st3
            have jD3 := pre_get st3.pre jD2
            cases b with
            | false =>
              rw [if_neg (by decide)]
              exact ⟨φ3, h2, sm3, jD3, er3.step st3, gg3, q3⟩
            | true =>
              rw [if_pos rfl]
              refine ⟨φ3, h2, ρ1, sm3, er2.step st3, ?_⟩
              dsimp only at q3
              revert q3
              cases fe ρ1 h2 with
              | no => exact fun q3 => q3
              | ex c fs h3 => exact fun q3 => q3
              | ok v h3 =>
                intro q3 y H4 φ4 st4 sm4 rv
                have q4 := PoX.pull st4 q3
                have gg4 := ok.keep _ _ _ _ _ _ gg3 st4
                have jD4 := pre_get st4.pre jD3
                dsimp only at q4
                cases ea : appL j v h3 with
                | none => rw [ea] at q4; exact q4.elim
                | some h4 =>
                  rw [ea] at q4
                  obtain ⟨acc, a1, a2, a3, a4⟩ := appL_ok sm4 jD4 rv ea
                  exact ⟨acc, a1, a2, φ4, h4, a4, jD4, ((er3.step st3).step st4).step a3, ok.keep _ _ _ _ _ _ gg4 a3, PoX.pull a3 q4⟩
    · exact q.elim
section
variable {X : Cx} {W : WX} {elt tg iter : Expr} {ifs : List Expr} {scope : Scope} {own : List (Str × Nat)} {pos spos py : Pos} {fi : Iv} {g : Gv} {tt : Tv} {fe : Ev}
theorem lc_readX {σ : L2.St} {H : Hp} {Q : VK} {ws : List Nat} (hw : ws = own.map (·.2)) (t : tE X.K X.mg W (eLcX ws fi g tt fe) σ H Q) : tLcX W (tI X.K X.mg W fi) (tGw X.K X.mg ws g) (fun W' => tT X.K X.mg W' tt) (fun W' => tE X.K X.mg W' fe) (own.map (·.2)) σ H Q := by
  subst hw
  obtain ⟨φ, h, ρ, sm, er, q⟩ := t
  refine ⟨φ, h, ρ, sm, er, ?_⟩
  unfold eLcX at q
  revert q
  cases fi ρ h with
  | ok m h1 => exact fun q J H1 φ1 G st sm1 ok gg D nd => lc_okX ok sm1 (er.step st) gg (PoX.pull st q) D nd
  | ex c fs h1 => exact fun q => q
  | no => exact fun q => q
theorem ee_lcX (ws : List Nat) (own : List (Str × Nat)) (tk : Takes X W) (hc : X.calm = true) (hN : X.N.Nodup) (hi : EI X W tg iter fi) (ok : BlkOk X.N X.env.scope scope own)
    (hg : ∀ (s : Shared) (H : Hp) (C : Addr) (cl : List (Str × Addr)) (fp : List Addr) (xe : Value → Shared → Prop), EGw (blkX X s H scope (compEnvC scope cl C X.env) fp xe) ws tg g)
    (ht : ∀ (s : Shared) (H : Hp) (C : Addr) (cl : List (Str × Addr)) (fp : List Addr) (xe : Value → Shared → Prop) (W' : WX), Takes (blkX X s H scope (compEnvC scope cl C X.env) fp xe) W' → ETs (blkX X s H scope (compEnvC scope cl C X.env) fp xe) W' ifs tt)
    (he : ∀ (s : Shared) (H : Hp) (C : Addr) (cl : List (Str × Addr)) (fp : List Addr) (xe : Value → Shared → Prop) (W' : WX), Takes (blkX X s H scope (compEnvC scope cl C X.env) fp xe) W' → EE (blkX X s H scope (compEnvC scope cl C X.env) fp xe) W' elt fe)
    (hst : X.stack = X.env :: X.outer := by rfl) (hfr : X.env.frame = some X.env.locals := by rfl)
    (hw : ws = own.map (·.2) := by rfl) (hs : ∀ x, foldedSetIterable iter X.env x = pure x := by intro _; rfl) : EE X W (.ListComp elt [⟨tg, iter, ifs, 0⟩] scope pos) (eLcX ws fi g tt fe) := by
  refine ⟨fun pins s σ H Q I h => ?_⟩
  rw [eval_ListComp]
  refine lc_coreX (own := own) (g := tGw X.K X.mg ws g) (tt := fun W' => tT X.K X.mg W' tt) (te := fun W' => tE X.K X.mg W' fe) hst hfr tk hc hN I hi ok hg ht he hs (lc_readX hw h) fun D ce s' m H' I' q hn f => ⟨m, hn, fun h'' sb => ?_⟩
  obtain ⟨f0, f1, f2, f3, f4, f5⟩ := f
  exact ⟨.ref D, H', I'.turned (t' := s'.toks) (fun b o hb e => (sb.2 b hb).trans e) f0 f1 f3 f4 f5, rfl, q⟩
end
end Rk

/-! Rk52: wishes for list comprehensions that may raise. -/
namespace Rk
open PySem PySem.Spec L2
section
variable {gd : Option (Nat × List Da)} {g : Gv} {tt : Tv} {fe : Ev} {ρ0 ρ1 : En} {h h1 h2 h3 h4 : Hh} {D : Nat} {d : Da} {ds : List Da} {v : Vl} {c : Str} {fs : List (Str × Da)}
theorem lcX_nil (e : gdOk gd h) : lcLX gd D g tt fe ρ0 [] h = .ok (.r D) h := by
  unfold lcLX
  rw [if_pos e]
theorem lcX_cons (e : gdOk gd h) (eg : g (.d d) ρ0 h = some (ρ1, h1)) (et : tt ρ1 h1 = .ok true h2) (ef : fe ρ1 h2 = .ok v h3) (ea : appL D v h3 = some h4) : lcLX gd D g tt fe ρ0 (d :: ds) h = lcLX gd D g tt fe ρ0 ds h4 := by
  rw [lcLX]
  rw [if_pos e, eg]
  dsimp only
  rw [et]
  dsimp only
  rw [ef]
  dsimp only
  rw [ea]
theorem lcX_ex (e : gdOk gd h) (eg : g (.d d) ρ0 h = some (ρ1, h1)) (et : tt ρ1 h1 = .ok true h2) (ef : fe ρ1 h2 = .ex c fs h3) : lcLX gd D g tt fe ρ0 (d :: ds) h = .ex c fs h3 := by
  rw [lcLX]
  rw [if_pos e, eg]
  dsimp only
  rw [et]
  dsimp only
  rw [ef]
end
section
variable {gd : Option (Nat × List Da)} {g : Gv} {fe : Ev} {ρ0 : En} {h : Hh} {α : Type} {f g' : α → Da} {P : α → Bool} {c : Str} {fs : List (Str × Da)}
theorem lcX_mapR (hgd : ∀ o, gdOk gd (h ++ [o])) : ∀ (xs : List α) (acc : List Da), (∀ x ∈ xs, ∀ h', ∃ ρ1, g (.d (f x)) ρ0 h' = some (ρ1, h') ∧ ((P x = true ∧ fe ρ1 h' = .ok (.d (g' x)) h') ∨ (P x = false ∧ fe ρ1 h' = .ex c fs h'))) → acc.length + xs.length ≤ 16777216 →
    (xs.all P = true ∧ lcLX gd h.length g tvYes fe ρ0 (xs.map f) (h ++ [some (.lst acc)]) = .ok (.r h.length) (h ++ [some (.lst (acc ++ xs.map g'))])) ∨ (xs.all P = false ∧ ∃ o, lcLX gd h.length g tvYes fe ρ0 (xs.map f) (h ++ [some (.lst acc)]) = .ex c fs (h ++ [o]))
  | [], acc, _, _ => by
    refine .inl ⟨rfl, ?_⟩
    rw [List.map_nil, lcX_nil (hgd _)]
    simp
  | d :: ds, acc, H, hl => by
    obtain ⟨ρ1, e1, e2⟩ := H d (List.mem_cons_self ..) (h ++ [some (.lst acc)])
    rw [List.length_cons] at hl
    rw [List.map_cons]
    rcases e2 with ⟨p, e2⟩ | ⟨p, e2⟩
    · rw [lcX_cons (hgd _) e1 rfl e2 (appL_end rfl (by omega))]
      have := lcX_mapR hgd ds (acc ++ [g' d]) (fun d hd => H d (List.mem_cons_of_mem _ hd)) (by rw [List.length_append, List.length_singleton]; omega)
      simpa [p] using this
    · rw [lcX_ex (hgd _) e1 rfl e2]
      exact .inr ⟨by simp [p], _, rfl⟩
end
section
variable {Q : Vl → Hh → Prop} {E : XP} {ρ : En} {h : Hh} {i : Iv} {g : Gv} {tt : Tv} {fe : Ev} {ws : List Nat}
/-- every part told by a function, or all at an end by the one exception -/
theorem wp_lcX {α : Type} (xs : List α) (f g' : α → Da) (P : α → Bool) (c : Str) (fs : List (Str × Da)) {ρ0 : En} (e00 : wipeE ρ ws = ρ0) (w : Wp (i ρ h) (fun m h1 => m = ⟨xs.map f, none⟩ ∧ xs.length ≤ 16777216 ∧ h1.length = h.length ∧
      (∀ x ∈ xs, ∀ h', GvK (g (.d (f x)) ρ0 h') fun ρ1 h2 => h2 = h' ∧ Wp (fe ρ1 h') (fun v h3 => h3 = h' ∧ P x = true ∧ v = .d (g' x)) (fun c' fs' h3 => h3 = h' ∧ P x = false ∧ c' = c ∧ fs' = fs)) ∧
      (xs.all P = true → Q (.d (.list (xs.map g'))) h1) ∧ (xs.all P = false → E c fs h1)) (fun c fs h1 => E c fs (h1.take h.length))) : Wp (eFz (eLcX ws i g tvYes fe) ρ h) Q E := by
  subst e00
  refine wp_fz (wp_bind (w.mono ?_ fun _ _ _ z => z))
  rintro m h1 ⟨rfl, hl, hh, H, q, qe⟩
  have lf := lcX_mapR (gd := none) (g := g) (fe := fe) (ρ0 := wipeE ρ ws) (h := h1) (f := f) (g' := g') (P := P) (c := c) (fs := fs) (fun _ => trivial) xs [] (fun d hd h' => by
    have k := H d hd h'
    unfold GvK Wo at k
    revert k
    cases e : g (.d (f d)) (wipeE ρ ws) h' with
    | none => exact fun z => z.elim
    | some p =>
      obtain ⟨ρ1, h2⟩ := p
      rintro ⟨rfl, wf⟩
      refine ⟨ρ1, rfl, ?_⟩
      have k := wf.w
      revert k
      cases fe ρ1 h2 with
      | ok v h3 => rintro ⟨rfl, p, rfl⟩; exact .inl ⟨p, rfl⟩
      | ex c' fs' h3 => rintro ⟨rfl, p, rfl, rfl⟩; exact .inr ⟨p, rfl⟩
      | no => exact fun z => z.elim) (by simpa using hl)
  rw [List.nil_append] at lf
  rcases lf with ⟨p, lf⟩ | ⟨p, o, lf⟩
  · exact wp_eq lf (fzk_end hh (q p))
  · refine ⟨?_⟩
    show Wp0 (lcLX none h1.length g tvYes fe (wipeE ρ ws) (xs.map f) (h1 ++ [some (.lst [])])) _ _
    rw [lf]
    show E c fs ((h1 ++ [o]).take h.length)
    rw [← hh, List.take_left]
    exact qe p
end
end Rk

/-! Rk53: name = [..], the block may let an exception out. -/
namespace Rk
open PySem PySem.Spec L2
section
variable {X : Cx} {W : WX} {elt tg iter : Expr} {ifs : List Expr} {scope : Scope} {own : List (Str × Nat)} {pos spos py : Pos} {fi : Iv} {g : Gv} {tt : Tv} {fe : Ev}
theorem ps_setLcX {i : Nat} {y : Str} {wi : TI} {g : TG} {tt : WX → TT} {te : WX → TE} (hst : X.stack = X.env :: X.outer) (hfr : X.env.frame = some X.env.locals) (tk : Takes X W) (hc : X.calm = true) (hN : X.N.Nodup) (hy : X.N[i]? = some y) (hyl : X.env.scope.names.lookup y = some .local)
    (hsw : swapsWith (.ListComp elt [⟨tg, iter, ifs, 0⟩] scope pos) (some (.Name y py)) spos.line X.env = pure true) (hi : PI X tg iter wi) (ok : BlkOk X.N X.env.scope scope own)
    (hg : ∀ (s : Shared) (H : Hp) (C : Addr) (cl : List (Str × Addr)) (fp : List Addr) (xe : Value → Shared → Prop), PG (blkX X s H scope (compEnvC scope cl C X.env) fp xe) tg g)
    (ht : ∀ (s : Shared) (H : Hp) (C : Addr) (cl : List (Str × Addr)) (fp : List Addr) (xe : Value → Shared → Prop) (W' : WX), Takes (blkX X s H scope (compEnvC scope cl C X.env) fp xe) W' → PTs (blkX X s H scope (compEnvC scope cl C X.env) fp xe) ifs (tt W'))
    (he : ∀ (s : Shared) (H : Hp) (C : Addr) (cl : List (Str × Addr)) (fp : List Addr) (xe : Value → Shared → Prop) (W' : WX), Takes (blkX X s H scope (compEnvC scope cl C X.env) fp xe) W' → PE (blkX X s H scope (compEnvC scope cl C X.env) fp xe) elt (te W')) (hs : ∀ x, foldedSetIterable iter X.env x = pure x) :
    PS X (.Assign [.Name y py] (.ListComp elt [⟨tg, iter, ifs, 0⟩] scope pos) spos) (tAsg (tLcX W wi g tt te (own.map (·.2))) (gName i)) := by
  refine ⟨fun pins s σ H D I h => ?_⟩
  rw [exec_Assign_Name_used _ _ _ _ hsw]
  refine wpAny_bind (wpAny_standAt (wpAny_bind ?_))
  show wpAny _ X.A (do let _ ← comprehension (.ListComp elt [⟨tg, iter, ifs, 0⟩] scope pos) scope X.env (firstIterPos [⟨tg, iter, ifs, 0⟩] pos) (newList []) false (eval iter X.env) (some (assign (.Name y py) X.env))) _ _ s
  have h : tLcX W wi g tt te (own.map (·.2)) σ H (fun x H1 => gName i x σ H1 D.nx) := h
  refine wpAny_bind (thn (lc_coreX (Qf := fun _ s' => SP X pins D .next s') hst hfr tk hc hN I hi ok hg ht he hs h fun L ce s' m H' I' q hn f => ?_) fun _ s' hq => wpAny_pure (wpAny_pure hq))
  show wpAny _ _ (assign (.Name y py) X.env (.ref L)) _ _ _
  refine wpAny_assign_Name (store_ok2 (v := V.ref L) I' hN hy (.inl hyl) rfl (fun s2 I2 ⟨a, sb, ha⟩ => ?_) (.inr hyl))
  obtain ⟨f0, f1, f2, f3, f4, f5⟩ := f
  have haC : ce.locals ≠ a := by
    rcases ha with z | z
    · rw [z]; exact f1
    · exact fun e => f4 y a z e.symm
  refine ⟨m, hn.sameBut sb haC, fun h3 sb3 => ?_⟩
  exact ⟨_, H', I2.turned (t' := s2.toks) (fun b o hb e => (sb3.2 b hb).trans e) f0 f1 f3 f4 f5, q⟩
theorem es_setLcX {i : Nat} {y : Str} (ws : List Nat) (own : List (Str × Nat)) (tk : Takes X W) (hc : X.calm = true) (hN : X.N.Nodup) (hi : EI X W tg iter fi) (ok : BlkOk X.N X.env.scope scope own)
    (hg : ∀ (s : Shared) (H : Hp) (C : Addr) (cl : List (Str × Addr)) (fp : List Addr) (xe : Value → Shared → Prop), EGw (blkX X s H scope (compEnvC scope cl C X.env) fp xe) ws tg g)
    (ht : ∀ (s : Shared) (H : Hp) (C : Addr) (cl : List (Str × Addr)) (fp : List Addr) (xe : Value → Shared → Prop) (W' : WX), Takes (blkX X s H scope (compEnvC scope cl C X.env) fp xe) W' → ETs (blkX X s H scope (compEnvC scope cl C X.env) fp xe) W' ifs tt)
    (he : ∀ (s : Shared) (H : Hp) (C : Addr) (cl : List (Str × Addr)) (fp : List Addr) (xe : Value → Shared → Prop) (W' : WX), Takes (blkX X s H scope (compEnvC scope cl C X.env) fp xe) W' → EE (blkX X s H scope (compEnvC scope cl C X.env) fp xe) W' elt fe)
    (hsw : swapsWith (.ListComp elt [⟨tg, iter, ifs, 0⟩] scope pos) (some (.Name y py)) spos.line X.env = pure true)
    (hy : X.N[i]? = some y := by rfl) (hyl : X.env.scope.names.lookup y = some .local := by rfl)
    (hst : X.stack = X.env :: X.outer := by rfl) (hfr : X.env.frame = some X.env.locals := by rfl)
    (hw : ws = own.map (·.2) := by rfl) (hs : ∀ x, foldedSetIterable iter X.env x = pure x := by intro _; rfl) : ES X W (.Assign [.Name y py] (.ListComp elt [⟨tg, iter, ifs, 0⟩] scope pos) spos) (sSet i (eLcX ws fi g tt fe)) :=
  PS.of (ps_setLcX (i := i) (own := own) (g := tGw X.K X.mg ws g) (tt := fun W' => tT X.K X.mg W' tt) (te := fun W' => tE X.K X.mg W' fe) hst hfr tk hc hN hy hyl hsw hi ok hg ht he hs) fun D σ H ⟨φ, h, ρ, sm, er, q⟩ => lc_readX hw ⟨φ, h, ρ, sm, er, by
    unfold sSet at q
    revert q
    cases eLcX ws fi g tt fe ρ h with
    | ok v h1 => exact fun q x H1 φ1 st sm1 rv => q _ H1 φ1 st sm1 ((er.step st).set rv)
    | ex c fs h1 => exact fun q cls dd H' φ' st sm' xr => q cls dd σ H' φ' st sm' (er.step st) xr
    | no => exact fun q => q⟩
end
end Rk

/-! Rk54: as wp_lcX (Rk52), the list kept as one that may be changed. -/
namespace Rk
open PySem PySem.Spec L2
section
variable {Q : Vl → Hh → Prop} {E : XP} {ρ : En} {h : Hh} {i : Iv} {g : Gv} {tt : Tv} {fe : Ev} {ws : List Nat}
theorem wp_lcXr {α : Type} (xs : List α) (f g' : α → Da) (P : α → Bool) (c : Str) (fs : List (Str × Da)) {ρ0 : En} (e00 : wipeE ρ ws = ρ0) (w : Wp (i ρ h) (fun m h1 => m = ⟨xs.map f, none⟩ ∧ xs.length ≤ 16777216 ∧
      (∀ x ∈ xs, ∀ h', GvK (g (.d (f x)) ρ0 h') fun ρ1 h2 => h2 = h' ∧ Wp (fe ρ1 h') (fun v h3 => h3 = h' ∧ P x = true ∧ v = .d (g' x)) (fun c' fs' h3 => h3 = h' ∧ P x = false ∧ c' = c ∧ fs' = fs)) ∧
      (xs.all P = true → Q (.r h1.length) (h1 ++ [some (.lst (xs.map g'))])) ∧ (xs.all P = false → ∀ o, E c fs (h1 ++ [o]))) E) : Wp (eLcX ws i g tvYes fe ρ h) Q E := by
  subst e00
  refine wp_bind (w.mono ?_ fun _ _ _ z => z)
  rintro m h1 ⟨rfl, hl, H, q, qe⟩
  have lf := lcX_mapR (gd := none) (g := g) (fe := fe) (ρ0 := wipeE ρ ws) (h := h1) (f := f) (g' := g') (P := P) (c := c) (fs := fs) (fun _ => trivial) xs [] (fun d hd h' => by
    have k := H d hd h'
    unfold GvK Wo at k
    revert k
    cases e : g (.d (f d)) (wipeE ρ ws) h' with
    | none => exact fun z => z.elim
    | some p =>
      obtain ⟨ρ1, h2⟩ := p
      rintro ⟨rfl, wf⟩
      refine ⟨ρ1, rfl, ?_⟩
      have k := wf.w
      revert k
      cases fe ρ1 h2 with
      | ok v h3 => rintro ⟨rfl, p, rfl⟩; exact .inl ⟨p, rfl⟩
      | ex c' fs' h3 => rintro ⟨rfl, p, rfl, rfl⟩; exact .inr ⟨p, rfl⟩
      | no => exact fun z => z.elim) (by simpa using hl)
  rw [List.nil_append] at lf
  refine ⟨?_⟩
  show Wp0 (lcLX none h1.length g tvYes fe (wipeE ρ ws) (xs.map f) (h1 ++ [some (.lst [])])) _ _
  rcases lf with ⟨p, lf⟩ | ⟨p, o, lf⟩
  · rw [lf]
    exact q p
  · rw [lf]
    exact qe p o
end
end Rk

/-! Rk55: deeds: a lambda without parameters, handed to a def that calls it. -/
namespace Rk
open PySem PySem.Spec L2
/-- what stands for the deed, what it tells -/
structure Deed where
  D : Dd
  T : Hh → Out Vl
open Classical in
noncomputable def eDeed (i : Nat) (d : Deed) : Ev := fun ρ h => match ρ[i]? with
  | some (some (.f D)) => if D = d.D then d.T h else .no
  | _ => .no
def cap1 : Option Vl → Option Vl0
  | some (.d x) => some (.d x)
  | some (.r n) => some (.r n)
  | _ => none
def up1 : Option Vl0 → Option Vl
  | some (.d x) => some (.d x)
  | some (.r n) => some (.r n)
  | none => none
def capE (ρ : En) : List (Option Vl0) := ρ.map cap1
def upE (ρ : List (Option Vl0)) : En := ρ.map up1
theorem cap_rep {K : PySem.W.Frag} {mg : Str → Option Value} {φ : List Addr} {h : Hh} {H : Hp} {σ : L2.St} {ρ : En} (er : ERep K mg φ h H σ ρ) : σ.length = (capE ρ).length ∧ ∀ (i : Nat) (w : Vl0), (capE ρ)[i]? = some (some w) → ∃ x, σ[i]? = some (some x) ∧ VRep0 K φ h H x w := by
  refine ⟨by unfold capE; rw [List.length_map]; exact er.len, fun i w e => ?_⟩
  unfold capE at e
  rw [List.getElem?_map] at e
  cases z : ρ[i]? with
  | none => rw [z] at e; cases e
  | some o =>
    rw [z] at e
    have e := Option.some.inj e
    cases o with
    | none => cases e
    | some v =>
      obtain ⟨x, e1, r⟩ := er.at_ i v z
      refine ⟨x, e1, ?_⟩
      cases v with
      | d y => cases e; exact r
      | r n => cases e; exact r
      | x c fs => cases e
      | f D => cases e
theorem up_rep {K : PySem.W.Frag} {mg : Str → Option Value} {φ : List Addr} {h : Hh} {H : Hp} {σ : L2.St} {ρ : List (Option Vl0)} (hl : σ.length = ρ.length) (g : ∀ (i : Nat) (w : Vl0), ρ[i]? = some (some w) → ∃ x, σ[i]? = some (some x) ∧ VRep0 K φ h H x w) : ERep K mg φ h H σ (upE ρ) := by
  refine ⟨by unfold upE; rw [List.length_map]; exact hl, fun i v e => ?_⟩
  unfold upE at e
  rw [List.getElem?_map] at e
  cases z : ρ[i]? with
  | none => rw [z] at e; cases e
  | some o =>
    rw [z] at e
    have e := Option.some.inj e
    cases o with
    | none => cases e
    | some w =>
      obtain ⟨x, e1, r⟩ := g i w z
      refine ⟨x, e1, ?_⟩
      cases w with
      | d y => cases e; exact r
      | r n => cases e; exact r
open Classical in
/-- whatever the addresses are -/
noncomputable def lamO (o : Addr → Addr → List (Option V) → Out Vl) : Out Vl := if z : ∃ r, ∀ f c σ, o f c σ = r then Classical.choose z else .no
theorem lamO_eq {o : Addr → Addr → List (Option V) → Out Vl} {r : Out Vl} (e : ∀ f c σ, o f c σ = r) : lamO o = r := by
  have z : ∃ r, ∀ f c σ, o f c σ = r := ⟨r, e⟩
  unfold lamO
  rw [dif_pos z, ← Classical.choose_spec z 0 0 []]
  exact e 0 0 []
theorem PoX.lam {K : PySem.W.Frag} {mg : Str → Option Value} {φ : List Addr} {h : Hh} {H : Hp} {Q : VK} {E : XK} {o : Addr → Addr → List (Option V) → Out Vl} (q : PoX K mg φ h H (lamO o) Q E) (f c : Addr) (σ : List (Option V)) : PoX K mg φ h H (o f c σ) Q E := by
  unfold lamO at q
  split at q
  · rename_i z
    rw [← Classical.choose_spec z f c σ] at q
    exact q
  · exact q.elim
/-- the maker's table stands where it is to stand -/
def hasTab (n : Nat) (x : Str) (h : Hh) : Bool := match h[n]? with
  | some (some (.tbl y)) => decide (y = x)
  | _ => false
theorem hasTab_ok {n : Nat} {x : Str} {h : Hh} (e : hasTab n x h = true) : h[n]? = some (some (.tbl x)) := by
  unfold hasTab at e
  split at e
  · rename_i y q
    rw [q, of_decide_eq_true e]
  · cases e
noncomputable def eLam (n : Nat) (x : Str) (m : Deed → Fn) (fb : Ev) : Ev := fun ρ h => if hasTab n x h = true then
    lamO fun f c σ => m ⟨⟨f, c, x ++ ".<locals>." ++ "<lambda>", σ, capE ρ⟩, fun h' => fb (upE (capE ρ)) h'⟩ [.f ⟨f, c, x ++ ".<locals>." ++ "<lambda>", σ, capE ρ⟩] h
  else .no
/-! ### the deed done -/
def Act (Z : Cx) (d : Deed) : Prop := ∀ (W : WX) (pn : List (Addr × Obj)) (xe : Value → Shared → Prop) (a : Str) (i : Nat) (p1 p2 : Pos), Takes (Z.tr pn xe) W → Z.N[i]? = some a → Vis Z.env.scope a →
  (a == ("__debug__" : Str)) = false → (a == ("__classdict__" : Str)) = false → EE (Z.tr pn xe) W (.Call (.Name a p1) [] [] p2) (eDeed i d)
theorem ee_deed {Z : Cx} {W : WX} {d : Deed} {pn : List (Addr × Obj)} {xe : Value → Shared → Prop} {a : Str} (i : Nat) {p1 p2 : Pos} (act : Act Z d) (tk : Takes (Z.tr pn xe) W) (hN : Z.N[i]? = some a := by rfl)
    (hv : Vis Z.env.scope a := by first | exact Or.inl rfl | exact Or.inr (Or.inl rfl) | exact Or.inr (Or.inr rfl)) (hd : (a == ("__debug__" : Str)) = false := by decide) (hcd : (a == ("__classdict__" : Str)) = false := by decide) : EE (Z.tr pn xe) W (.Call (.Name a p1) [] [] p2) (eDeed i d) := act W pn xe a i p1 p2 tk hN hv hd hcd
theorem tk_lam {X : Cx} {A : Around} {outer : List Env} {s : Shared} {H : Hp} {E : XK} {scope : Scope} {f c' : Addr} : Takes (LamX.lamCx X A outer s H E scope f c') (WOf E) := takes_of rfl rfl rfl rfl
section
variable {X : Cx} {pins : List (Addr × Obj)} {σ : L2.St} {H : Hp} {s : Shared} {y : Str} {N : List Str} {sc scope : Scope} {g f c' : Addr} {cdv pm ctv : Value} {params : Arguments} {body : Expr} {k : Nat} {E0 : XK} {fb : Ev} {ρ : En}
theorem deed_act (I : Inv X pins σ H s) (L : LamX.LamS X.env.scope scope) (hfn : H f = none) (hfr : f ∉ frs X.stack) (hr : RoomG (k + 2) X.A)
    (hf : s.heap.get? f = some (PySem.W.kla_obj "<lambda>" (X.env.qual ++ "<lambda>") params body scope (cloFrom X.env.cells scope.names []) pm c' ctv))
    (hbind : ∀ (q : Str) (cl : List (Str × Addr)) (pm cv ctv : Value), bindArgs (PySem.W.kla_fn "<lambda>" q params body scope cl pm cv ctv) ⟨[], []⟩ = pure [])
    (hb : ∀ (A : Around) (outer : List Env) (s : Shared) (H : Hp) (E : XK) (f c' : Addr), RoomG k (A.deeper (LamX.lamEnv X scope s.heap.objs.size f c')) → EE (LamX.lamCx X A outer s H E scope f c') (WOf E) body fb) :
    Act (cxOf (L2.CX X.prog X.w) X.prog X.w X.K X.mg X.base N y sc g cdv X.A X.stack s H E0) ⟨⟨f, c', X.env.qual ++ "<lambda>", σ, capE ρ⟩, fun h => fb (upE (capE ρ)) h⟩ := by
  intro W pn xe a i p1 p2 tk hN hv hd hcd
  refine PE.of ⟨?_⟩ fun _ _ _ z => z
  rintro pinsZ sZ σZ HZ Q IZ ⟨φ, h, ρZ, sm, er, q⟩
  unfold eDeed at q
  split at q
  · rename_i D eD
    split at q
    · rename_i e
      subst e
      obtain ⟨xv, e1, e2, e3, -, e5, e6⟩ := er.at_ i _ eD
      dsimp only at e2 e3 e5 e6 q
      subst e2
      have er0 : ERep X.K X.mg φ h HZ σ (upE (capE ρ)) := up_rep e5 e6
      have get := (pe_var (X := (cxOf (L2.CX X.prog X.w) X.prog X.w X.K X.mg X.base N y sc g cdv X.A X.stack s H E0).tr pn xe) (pos := p1) (i := i) hN hv hd hcd).run pinsZ sZ σZ HZ (fun v H1 => v = .ref f ∧ H1 = HZ) IZ ⟨.ref f, e1, rfl, rfl⟩
      refine wpAny_Call_Name_kw (thn get ?_)
      rintro u s1 ⟨_, H1, I1, r1, rfl, eH⟩
      rw [eH] at I1
      have r1 : u = Value.ref f := r1
      subst r1
      have un := I1.base
      have here := un.keep f _ hf hfn hfr nofun
      refine PySem.W.callWith_F0 ⟨_, _, _, _, here⟩ ?_
      obtain ⟨⟨oc, vs, t, o1, o2, o3⟩, _, _⟩ := I1.hok _ _ e3
      have hr1 : RoomG (k + 1) (X.A.deeper (PyProof.Rows.envOfC y sc s.heap.objs.size g cdv)) := hr.deeper _
      refine wpAny_call (codeAny_mono (R := CR (L2.CX X.prog X.w) (PyProof.Rows.envOfC y sc s.heap.objs.size g cdv :: X.stack) X.prog X.w HZ s1 Q (WE W σZ)) ?_ ?_)
      · refine PySem.W.kla_callFunE hr1.r.depth here rfl L.co L.gen rfl ⟨c', oc, vs, t, rfl, o1, o2, o3⟩ ?_
        rw [List.append_nil, hbind]
        refine wpAny_pure (wpAny_newFunctionEnv (fun z hz => (L.own z hz).2) (fun z hz => nomatch hz) (fun h₁ hns hsb => ⟨I1.nolimit.fresh _ hsb, ?_⟩) L.kind)
        have kp : ∀ b o, s1.heap.get? b = some o → h₁.get? b = some o := fun b o e => hsb.extBut b o (Nat.ne_of_lt (Heap.lt_size e)) (Heap.get?_push_of_some _ e)
        have J := LamX.lam_start2 (tk := s1.toks + ([] : List (Str × Value)).length) (f := f) (c' := c') (E := WE W σZ) I L I1.env0 hr1.r.hd un hns kp
        refine PySem.W.kla_codeExpr (wpAny_mono ((hb _ _ s1 _ (WE W σZ) f c' (hr1.deeper _)).run [] _ _ _ Q J ⟨φ, h, _, sm, er0, q⟩) ?_ fun _ _ z => z)
        rintro v s' ⟨w', H', J', rv, q'⟩
        exact ⟨w', H', J'.os, J'.bare, J'.base, J'.hok, rv, q'⟩
      · intro r s' hq
        match r, hq with
        | .error e, hq => exact passAt tk σZ pinsZ _ s1 e s' I1 hq
        | .ok (.ret u), hq => exact I1.after hq
    · exact q.elim
  · exact q.elim
end
/-! ### the def that does it -/
/-- a def whose first argument is a deed: it may do it -/
structure FnL (P : Program) (w : World) (K : PySem.W.Frag) (mg : Str → Option Value) (base : Heap) (k : Nat) (y : Str) (N : List Str) (sc : Scope) (g : Addr) (fd : FuncData) (ps : List Str) (m : Deed → Fn) : Prop where
  run : ∀ (d : Deed) (A : Around) (outer : List Env) (s : Shared) (H : Hp) (args : Args) (us : List Value) (vs : List V) (Q : VK) (E : XK), RoomG k A → (∀ cdv, Act (cxOf (L2.CX P w) P w K mg base N y sc g cdv A outer s H E) d) →
    Env0 P w K mg base A outer s H → BindsTo s fd args (ps.zip us) → Vals vs us → spF K mg (m d) vs H Q E → codeAny (model P w) A (.call (.ref g) args) (CR (L2.CX P w) outer P w H s Q E) s
def DfL (P : Program) (w : World) (K : PySem.W.Frag) (mg : Str → Option Value) (base : Heap) (k : Nat) (y : Str) (ps : List Str) (m : Deed → Fn) : Prop :=
  ∃ (g : Addr) (fd : FuncData) (N : List Str) (sc : Scope), mg y = some (.ref g) ∧ PySem.W.keepIn K (.ref g) = true ∧ Binds K fd ps [] ∧ FnL P w K mg base k y N sc g fd ps m
theorem dfL_of {P : Program} {w : World} {K : PySem.W.Frag} {mg : Str → Option Value} {base : Heap} {x : Str} {st : Stmt} {f : Addr} {fd : FuncData} {N ps : List Str} {k kk NN : Nat} {body : Deed → Sv} (F : FnP K x st f fd) (g : mg x = some (.ref f)) (S : FnScope N ps (defScope st)) (e1 : ps.length = kk) (e2 : N.length = NN)
    (b : ∀ (dV kV doc pm : Value) (an : Option Addr) (cdv ct : Value) (us : List Value), us.length = ps.length → bindArgs (PySem.W.fnOf x x (defArgs st) (defBody st) (defScope st) .none kV doc pm an cdv ct) ⟨us, []⟩ = pure (ps.zip us))
    (hb : ∀ (d : Deed) (cdv : Value) (A : Around) (outer : List Env) (s : Shared) (H : Hp) (E : XK), RoomG k (A.deeper (PyProof.Rows.envOfC x (defScope st) s.heap.objs.size f cdv)) → Act (cxOf (L2.CX P w) P w K mg base N x (defScope st) f cdv A outer s H E) d →
      ESs (cxOf (L2.CX P w) P w K mg base N x (defScope st) f cdv A outer s H E) (WOf E) (defBody st) (body d)) :
    DfL P w K mg base (k + 1) x ps (fun d => mkF kk NN (body d)) := by
  subst e1 e2
  refine ⟨f, fd, N, defScope st, g, F.kp, FunD.bindsN F fun kV doc pm an cdv ct us hl => b .none kV doc pm an cdv ct us hl, ⟨fun d A outer s H args us vs Q E hr act e0 hbd r h => ?_⟩⟩
  exact run_def F S (spF_len h) hr e0 hbd r fun cdv _ hr' => enter_body (hb d cdv A outer s H E hr' (act cdv)) h
/-! ### y(lambda: body) -/
section
variable {K : PySem.W.Frag} {φ : List Addr} {h : Hh} {H H1 : Hp}
/-- the tables that stand -/
def tabsOf : List Addr → Hh → List (Addr × Str)
  | a :: φ, some (.tbl x) :: h => (a, x ++ ".<locals>." ++ "<lambda>") :: tabsOf φ h
  | _ :: φ, _ :: h => tabsOf φ h
  | _, _ => []
theorem tabsOf_mem : ∀ {φ : List Addr} {h : Hh} {p : Addr × Str}, p ∈ tabsOf φ h → ∃ (i : Nat) (x : Str), φ[i]? = some p.1 ∧ h[i]? = some (some (.tbl x)) ∧ p.2 = x ++ ".<locals>." ++ "<lambda>"
  | [], [], _, e => by cases e
  | [], _ :: _, _, e => by cases e
  | _ :: _, [], _, e => by cases e
  | a :: φ, o :: h, p, e => by
    have next : p ∈ tabsOf φ h → ∃ (i : Nat) (x : Str), (a :: φ)[i]? = some p.1 ∧ (o :: h)[i]? = some (some (.tbl x)) ∧ p.2 = x ++ ".<locals>." ++ "<lambda>" := fun e => by
      obtain ⟨i, x, e1, e2, e3⟩ := tabsOf_mem e
      exact ⟨i + 1, x, e1, e2, e3⟩
    match o, e with
    | some (.tbl x), e =>
      rcases List.mem_cons.mp e with rfl | e
      · exact ⟨0, x, rfl, rfl, rfl⟩
      · exact next e
    | none, e => exact next e
    | some (.lst _), e => exact next e
    | some (.dct _), e => exact next e
theorem mem_tabsOf : ∀ {φ : List Addr} {h : Hh} {i : Nat} {x : Str} {a : Addr}, φ[i]? = some a → h[i]? = some (some (.tbl x)) → (a, x ++ ".<locals>." ++ "<lambda>") ∈ tabsOf φ h
  | [], _, _, _, _, e, _ => by simp at e
  | _ :: _, [], _, _, _, _, e => by simp at e
  | b :: φ, o :: h, 0, x, a, e1, e2 => by
    cases (Option.some.inj e1)
    cases (Option.some.inj e2)
    exact List.mem_cons_self
  | b :: φ, o :: h, i + 1, x, a, e1, e2 => by
    have r := mem_tabsOf (φ := φ) (h := h) (i := i) e1 e2
    match o with
    | some (.tbl y) => exact List.mem_cons_of_mem _ r
    | none => exact r
    | some (.lst _) => exact r
    | some (.dct _) => exact r
theorem Sim.tabs (s : Sim K φ h H) : LamX.Tabs (tabsOf φ h) H := fun p hp => by
  obtain ⟨i, x, e1, e2, e3⟩ := tabsOf_mem hp
  obtain ⟨a, e4, r⟩ := s.ob i _ e2
  rw [e1] at e4
  cases (Option.some.inj e4)
  obtain ⟨c, ps, -, f1, f2, f3⟩ := r
  exact ⟨ps, f1, f2, fun pos cv z => by rw [e3]; exact f3 pos cv z⟩
/-- a lambda was made: tables have grown, all else stays -/
theorem Sim.lam (s : Sim K φ h H) (e : LamX.ExtN H H1) (t : LamX.Tabs (tabsOf φ h) H1) : Step φ h H φ h H1 ∧ Sim K φ h H1 := by
  have st : Stay H (Live φ h) H1 (Live φ h) := fun a o q nt nl => ⟨e a o q nt, nl⟩
  refine ⟨⟨List.prefix_refl _, st⟩, s.len, s.inj, fun i o z => ?_⟩
  obtain ⟨a, e1, r⟩ := s.ob i o z
  refine ⟨a, e1, ?_⟩
  cases o with
  | lst ds =>
    obtain ⟨xs, f1, f2⟩ := r
    exact ⟨xs, e _ _ f1 nofun, f2.stay st⟩
  | dct ds =>
    obtain ⟨xs, f1, f2⟩ := r
    exact ⟨xs, e _ _ f1 nofun, f2.stay st⟩
  | tbl x =>
    obtain ⟨c, ps, f0, -⟩ := r
    obtain ⟨ps', g1, g2, g3⟩ := t _ (mem_tabsOf e1 z)
    exact ⟨c, ps', f0, g1, g2, g3⟩
end
section
variable {X : Cx} {W : WX} {x y : Str} {c pt : Addr} {k j : Nat} {m : Deed → Fn} {params : Arguments} {body : Expr} {scope : Scope} {fb : Ev} {p lpos pos : Pos} {a : Str}
theorem ee_lam (n : Nat) (T : LamT X.K X.mg X.base x c pt) (D : DfL X.prog X.w X.K X.mg X.base k y [a] m) (hr : RoomG j X.A) (tk : Takes X W) (hq : X.env.qual = x ++ ".<locals>.") (hcode : X.env.code = .ref c) (kl : Nat)
    (hb : ∀ (A : Around) (outer : List Env) (s : Shared) (H : Hp) (E : XK) (f c' : Addr), RoomG kl (A.deeper (LamX.lamEnv X scope s.heap.objs.size f c')) → EE (LamX.lamCx X A outer s H E scope f c') (WOf E) body fb)
    (L : LamX.LamS X.env.scope scope) (hdef : defaultsOf params X.env = ([], []) := by rfl)
    (hbind : ∀ (q : Str) (cl : List (Str × Addr)) (pm cv ctv : Value), bindArgs (PySem.W.kla_fn "<lambda>" q params body scope cl pm cv ctv) ⟨[], []⟩ = pure [] := by intros; rfl) (h1 : k ≤ j := by decide) (h2 : kl + 2 ≤ j := by decide)
    (hg : Gl X y := by rfl) (hdb : (y == ("__debug__" : Str)) = false := by decide) :
    EE X W (.Call (.Name y p) [.Lambda params body scope lpos] [] pos) (eLam n x m fb) := by
  obtain ⟨g, fd, N, sc, gm, kp, b, F⟩ := D
  refine PE.of ⟨?_⟩ fun _ _ _ z => z
  rintro pins s σ H Q I ⟨φ, h, ρ, sm, er, q⟩
  unfold eLam at q
  split at q
  · rename_i ht
    have ht := hasTab_ok ht
    obtain ⟨P, eP, rP⟩ := sm.ob _ _ ht
    obtain ⟨c2, ps, f0, -⟩ := rP
    rw [T.at_] at f0
    cases f0
    have mem : (pt, X.env.qual ++ "<lambda>") ∈ tabsOf φ h := by
      rw [hq]
      exact mem_tabsOf eP ht
    refine wpAny_Call_Name_kw (ld_glob I hg gm ?_ hdb)
    refine PySem.W.callWith_K (h₀ := X.base) I.ok.mod.kin kp ?_ (by rfl) (by rfl)
    show wpAny _ _ (spliced ((false, eval (.Lambda params body scope lpos) X.env) :: backTo pos (starEach [] X.env))) _ _ s
    refine Calls.spliced_cons (LamX.lam_make2 I T.tb hcode mem (fun p hp e => ?_) sm.tabs hdef (L.has I.ok) ?_)
    · obtain ⟨i, z, e1, e2, e3⟩ := tabsOf_mem hp
      have := sm.inj i n p.1 _ _ e1 (by rw [e]; exact eP) e2 ht
      subst this
      rw [e2] at ht
      cases ht
      rw [e3, hq]
    · intro f c' pm ctv H1 s' I1 eN T1 hf hfn hfr hco
      obtain ⟨st, sm1⟩ := sm.lam eN T1
      refine Calls.spliced_nil ⟨I1.kIn, ?_⟩
      obtain ⟨k1, k2⟩ := cap_rep (er.step st)
      have vr : VReps X.K X.mg φ h H1 [.ref f] [.f ⟨f, c', x ++ ".<locals>." ++ "<lambda>", σ, capE ρ⟩] := .cons ⟨rfl, by rw [← hq]; exact hco, sm1.notCode hco, k1, k2⟩ .nil
      have act := fun cdv => deed_act (k := kl) (y := y) (N := N) (sc := sc) (g := g) (cdv := cdv) (E0 := WE W σ) (fb := fb) (ρ := ρ) I1 L hfn hfr (hr.mono h2) hf hbind hb
      rw [hq] at act
      have run := F.run _ X.A X.stack s' H1 ⟨[.ref f], []⟩ [.ref f] [.ref f] Q (WE W σ) (hr.mono h1) act I1.env0 (b s' [.ref f] I1.kIn rfl) (.cons rfl .nil) ⟨φ, h, _, sm1, vr, PoX.lam (PoX.pull st q) f c' σ⟩
      refine wpAny_call (codeAny_mono run ?_)
      intro r s2 hq
      match r, hq with
      | .error e, hq => exact passAt tk σ pins _ s' e s2 I1 hq
      | .ok (.ret u), hq => exact I1.after hq
  · exact q.elim
end
end Rk

/-! Rk56: the head where lambdas are made: tables of code objects. -/
namespace Rk
open PySem PySem.Spec L2 PyProof.Rows
/-! ### the fragment without the tables -/
abbrev tsOf (cs : List (Addr × Addr)) : List Addr := cs.map fun p => p.2
def csOf (K : PySem.W.Frag) (xs : List Str) : List (Addr × Addr) := xs.filterMap (PySem.W.tabIn K)
def cutT (K : PySem.W.Frag) (ts : List Addr) : PySem.W.Frag := K.filter fun p => !ts.contains p.1
theorem cutT_no {ts : List Addr} {a : Addr} (h : a ∈ ts) : ∀ K : PySem.W.Frag, (cutT K ts).lookup a = none
  | [] => rfl
  | (b, o) :: K => by
    have ih := cutT_no h K
    unfold cutT at ih ⊢
    rw [List.filter_cons]
    split
    · rename_i hb
      rw [List.lookup_cons]
      have : (a == b) = false := beq_eq_false_iff_ne.mpr fun e => by
        subst e
        have : ts.contains a = true := by rw [List.contains_iff_mem]; exact h
        rw [this] at hb
        cases hb
      rw [this]
      exact ih
    · exact ih
theorem cutT_of {ts : List Addr} {a : Addr} {o : Obj} : ∀ {K : PySem.W.Frag}, (cutT K ts).lookup a = some o → K.lookup a = some o
  | [], h => by cases h
  | (b, u) :: K, h => by
    unfold cutT at h
    rw [List.filter_cons] at h
    rw [List.lookup_cons]
    split at h
    · rw [List.lookup_cons] at h
      cases e : a == b with
      | true => rw [e] at h; exact h
      | false => rw [e] at h; exact cutT_of h
    · rename_i hb
      have q := cutT_of (ts := ts) (K := K) h
      cases e : a == b with
      | true =>
        have ea := eq_of_beq e
        subst ea
        have : a ∈ ts := by
          have hb : ¬ (!ts.contains a) = true := hb
          rw [Bool.not_eq_true', Bool.not_eq_false] at hb
          exact List.contains_iff_mem.mp hb
        have n := cutT_no this K
        unfold cutT at n
        rw [n] at h
        cases h
      | false => exact q
def emptyT (K : PySem.W.Frag) (P : Addr) : Bool := match K.lookup P with
  | some ⟨.none, none, .fields vs, sl⟩ => vs.size == 0 && sl.size == 0
  | _ => false
theorem emptyT_ok {K : PySem.W.Frag} {h : Heap} {P : Addr} (X : K.In h) (e : emptyT K P = true) : h.get? P = some { cls := .none, data := .fields #[] } := by
  unfold emptyT at e
  split at e
  · rename_i vs sl q
    rw [Bool.and_eq_true, beq_iff_eq, beq_iff_eq] at e
    have e1 : vs = #[] := Array.eq_empty_of_size_eq_zero e.1
    have e2 : sl = #[] := Array.eq_empty_of_size_eq_zero e.2
    subst e1 e2
    exact X _ _ q
  · cases e
def tabsB (K : PySem.W.Frag) (xs : List Str) : Bool := decide ((tsOf (csOf K xs)).Nodup) && (decide (xs.map (PySem.W.tabIn (cutT K (tsOf (csOf K xs)))) = (csOf K xs).map some) && (csOf K xs).all fun p => emptyT K p.2 && PySem.W.codeHdIn K p.1 p.2)
/-- what the head's heap has of the makers -/
structure TabsK (K : PySem.W.Frag) (h : Heap) (xs : List Str) (cs : List (Addr × Addr)) : Prop where
  nd : (tsOf cs).Nodup
  at_ : xs.map (PySem.W.tabIn K) = cs.map some
  no : ∀ p ∈ cs, K.lookup p.2 = none
  em : ∀ p ∈ cs, h.get? p.2 = some { cls := .none, data := .fields #[] }
  hd : ∀ p ∈ cs, PySem.W.CodeHd h p.1 p.2
theorem tabsB_ok {K : PySem.W.Frag} {h : Heap} {xs : List Str} (X : K.In h) (e : tabsB K xs = true) : (cutT K (tsOf (csOf K xs))).In h ∧ TabsK (cutT K (tsOf (csOf K xs))) h xs (csOf K xs) := by
  unfold tabsB at e
  simp only [Bool.and_eq_true, decide_eq_true_eq, List.all_eq_true] at e
  obtain ⟨e1, e2, e3⟩ := e
  exact ⟨fun a o q => X a o (cutT_of q), e1, e2, fun p hp => cutT_no (List.mem_map.mpr ⟨p, hp, rfl⟩) K, fun p hp => emptyT_ok X (e3 p hp).1, fun p hp => PySem.W.codeHd_of_K X (e3 p hp).2⟩
/-! ### the Hook -/
def obsRT (n : Nat) (xs : List Str) (fa : List He.Fa) (fn : List He.DefD) (ex : PySem.W.Frag → Bool) (g : Addr → Option Obj) : AlR :=
  let K := He.frG g (He.asD g n)
  let K' := cutT K (tsOf (csOf K xs))
  (He.obsD fa fn K', ex K' && tabsB K xs)
def hookRT (n : Nat) (xs : List Str) (fa : List He.Fa) (fn : List He.DefD) (ex : PySem.W.Frag → Bool) : PySem.W.Hook where
  α := AlR
  obs := fun s => obsRT n xs fa fn ex s.heap.get?
  val := fun _ => (He.valD fn, true)
  says := fun _ h => ∃ K : PySem.W.Frag, K.In h ∧ tabsB K xs = true ∧ SaysR fa fn ex (cutT K (tsOf (csOf K xs)))
  of := fun _ _ e => by
    have e2 := (Bool.and_eq_true _ _).mp (congrArg (fun z : AlR => z.2) e)
    exact ⟨_, He.frG_in, e2.2, congrArg (fun z : AlR => z.1) e, e2.1⟩
  keeps := fun _ _ _ ⟨K, hK, t, c⟩ k => ⟨K, PySem.W.Frag.In.keeps hK k, t, c⟩
theorem obsRT_eq {n : Nat} {xs : List Str} {fa : List He.Fa} {fn : List He.DefD} {ex : PySem.W.Frag → Bool} {g : Addr → Option Obj} {s : Shared} (h : ∀ a, g a = s.heap.get? a) : obsRT n xs fa fn ex g = (hookRT n xs fa fn ex).obs s := by
  have e : g = s.heap.get? := funext h
  rw [e] <;> rfl
/-! ### the law's call -/
/-- the makers' tables as objects of the abstract heap -/
def tabH (xs : List Str) : Hh := xs.map fun x => some (.tbl x)
theorem List.getElem_inj_of_nodup' {l : List Addr} (nd : l.Nodup) {i j : Nat} {a : Addr} (e1 : ∃ h, l[i]'h = a) (e2 : ∃ h, l[j]'h = a) : i = j := by
  obtain ⟨h1, e1⟩ := e1
  obtain ⟨h2, e2⟩ := e2
  rcases Nat.lt_trichotomy i j with z | z | z
  · exact absurd (e1.trans e2.symm) (List.pairwise_iff_getElem.mp nd i j h1 h2 z)
  · exact z
  · exact absurd (e2.trans e1.symm) (List.pairwise_iff_getElem.mp nd j i h2 h1 z)
theorem tabs_sim {K : PySem.W.Frag} {H : Hp} : ∀ {xs : List Str} {cs : List (Addr × Addr)}, (tsOf cs).Nodup → xs.map (PySem.W.tabIn K) = cs.map some → (∀ p ∈ cs, H p.2 = some (.tbl #[])) → Sim K (tsOf cs) (tabH xs) H := by
  intro xs cs nd at_ hH
  have ln : xs.length = cs.length := by have := congrArg List.length at_; simpa using this
  refine ⟨by unfold tabH; rw [List.length_map, List.length_map, ln], fun i j a o o' e1 e2 _ _ => ?_, fun i o e => ?_⟩
  · have l1 := (List.getElem?_eq_some_iff.mp e1)
    have l2 := (List.getElem?_eq_some_iff.mp e2)
    exact List.getElem_inj_of_nodup' nd l1 l2
  · unfold tabH at e
    rw [List.getElem?_map] at e
    cases ex : xs[i]? with
    | none => rw [ex] at e; cases e
    | some x =>
      rw [ex] at e
      cases e
      have hi : i < cs.length := by rw [← ln]; exact (List.getElem?_eq_some_iff.mp ex).1
      have ec : cs[i]? = some cs[i] := List.getElem?_eq_getElem hi
      have q := congrArg (fun l => l[i]?) at_
      simp only [List.getElem?_map, ex, ec, Option.map_some] at q
      refine ⟨cs[i].2, by rw [List.getElem?_map, ec]; rfl, cs[i].1, #[], Option.some.inj q, hH _ (List.getElem_mem hi), trivial, fun pos cv z => ?_⟩
      have z : codeAmong pos [] = some cv := z
      simp [codeAmong] at z
theorem law_spT {K : PySem.W.Frag} {mg : Str → Option Value} {m : Fn} {H : Hp} {a : Addr} {ns : List Int} {xs : List Str} {cs : List (Addr × Addr)} {h' : Hh} (nd : (tsOf cs).Nodup) (at_ : xs.map (PySem.W.tabIn K) = cs.map some) (hH : ∀ p ∈ cs, H p.2 = some (.tbl #[]))
    (h : SqL K H a (ns.map V.int)) (e : m [.d (.list (ns.map PyData.int))] (tabH xs) = .ok (.d (.bool true)) h') : spF K mg m [.ref a] H (fun v _ => v = .bl true) fun _ _ _ => False := by
  have sm := tabs_sim nd at_ hH
  have rs : ∀ ns : List Int, Reps K H (Live (tsOf cs) (tabH xs)) (ns.map V.int) (ns.map PyData.int) := fun ns => by
    induction ns with
    | nil => exact .nil
    | cons n ns ih => exact .cons (.int n) ih
  refine ⟨_, _, _, sm, .cons (x := .d (.list (ns.map PyData.int))) ?_ .nil, ?_⟩
  · rcases h with h | h
    · refine Rep.lst h (fun l => ?_) (rs ns)
      obtain ⟨i, o, e1, _⟩ := l
      rw [List.getElem?_map] at e1
      cases ec : cs[i]? with
      | none => rw [ec] at e1; cases e1
      | some p =>
        rw [ec] at e1
        cases e1
        have z := hH p (List.mem_of_getElem? ec)
        rcases h with h | ⟨o, h⟩ <;> rw [z] at h <;> cases h
    · exact Rep.lstK h (rs ns)
  · rw [e]
    exact fun x H' φ' _ _ r => VRep.bl r
def scrT (a : Addr) (vs : List Value) (ns : List Int) (b : Bool) (ts : List Addr) : Hp := fun c => if c ∈ ts then some (.tbl #[]) else if c = a ∧ b = true then some (.frz { cls := .type "list", data := .seq vs.toArray } (.lst (ns.map V.int))) else none
theorem call_fromT {P : Program} {w : World} {K : PySem.W.Frag} {mg mb : Str → Option Value} {k : Nat} {fa a : Addr} {fd : FuncData} {x : Str} {sp : Sp} {s : Shared} {vs : List Value} {ns : List Int} {xs : List Str} {cs : List (Addr × Addr)} {bt : Bool}
    (KX : K.In s.heap) (g1 : s.heap.Ns mainGlobals mg) (g2 : s.heap.Ns builtinsNs mb) (g3 : ∀ x : Str, x ≠ "__name__" → mb x = bootBuiltins x) (g4 : s.heap.NoLimit) (g5 : s.gens = #[])
    (hbm : ∃ (bm : Addr) (ob : Obj), mg "__builtins__" = some (.ref bm) ∧ bm ≠ builtinsNs ∧ s.heap.get? bm = some ob ∧ ob.cls = .type "module" ∧ ob.dict = some builtinsNs ∧ ob.data = .plain)
    (T : TabsK K s.heap xs cs) (ha : s.heap.get? a = some { cls := .type "list", data := .seq vs.toArray }) (rv : Vals (ns.map V.int) vs) (sz : ns.length ≤ sizeLine) (hr : RoomG k callerA)
    (F : ∀ base : Heap, K.In base → base.Ns mainGlobals mg → (∀ p ∈ cs, LamX.TabB base mg p.1 p.2) → FnG P w K mg base k fa fd [x] sp) (hbind : ∀ (s : Shared) (u : Value), BindsTo s fd ⟨[u], []⟩ [(x, u)])
    (hK : bt = true → K.lookup a = none) (hsp : sp [.ref a] (scrT a vs ns bt (tsOf cs)) (fun v _ => v = .bl true) fun _ _ _ => False) :
    codeAny (model P w) callerA (.call (.ref fa) ⟨[.ref a], []⟩) (fun r s' => r = .ok (.ret (.bool true)) ∧ OldK s.heap s'.heap ∧ s'.os = s.os ∧ AllBare s'.gens) s := by
  have emp : ∀ b, b ∈ tsOf cs → s.heap.get? b = some { cls := .none, data := .fields #[] } := fun b hb => by
    obtain ⟨p, hp, rfl⟩ := List.mem_map.mp hb
    exact T.em p hp
  have aT : a ∉ tsOf cs := fun z => by
    have q := emp a z
    rw [ha] at q
    have q2 := congrArg Obj.data (Option.some.inj q)
    cases q2
  generalize hHe : scrT a vs ns bt (tsOf cs) = H at hsp
  have H1 : ∀ b, b ∈ tsOf cs → H b = some (.tbl #[]) := fun b hb => by rw [← hHe]; exact if_pos hb
  have H2 : ∀ b, b ∉ tsOf cs → H b ≠ none → b = a ∧ bt = true := fun b hb z => by
    by_cases e : b = a ∧ bt = true
    · exact e
    · exact absurd (by rw [← hHe]; exact (if_neg hb).trans (if_neg e)) z
  have H3 : bt = true → H a = some (.frz { cls := .type "list", data := .seq vs.toArray } (.lst (ns.map V.int))) := fun z => by rw [← hHe]; exact (if_neg aT).trans (if_pos ⟨rfl, z⟩)
  have hid : ∀ {b : Addr} {o : Obj}, s.heap.get? b = some o → b ∉ tsOf cs → (b = a → bt = true → False) → (hidT s.heap H).get? b = some o := fun {b o} e n1 n2 => hidT_get e (by
    cases q : H b with
    | none => rfl
    | some u => exact (n2 (H2 b n1 (by rw [q]; exact nofun)).1 (H2 b n1 (by rw [q]; exact nofun)).2).elim)
  have apart : ∀ {b : Addr} {o : Obj}, s.heap.get? b = some o → o.data ≠ .fields #[] → (∀ ws n, o.data ≠ .seq ws n) → (hidT s.heap H).get? b = some o := fun {b o} e n1 n2 => by
    refine hid e (fun z => ?_) fun z _ => ?_
    · rw [emp b z] at e
      cases e
      exact n1 rfl
    · rw [z, ha] at e
      cases e
      exact n2 _ _ rfl
  have ns2 : ∀ {b : Addr} {m : Str → Option Value}, s.heap.Ns b m → (hidT s.heap H).Ns b m := fun ⟨o, es, ep, e, d, r⟩ => ⟨o, es, ep, apart e (by rw [d]; exact nofun) (by rw [d]; exact nofun), d, r⟩
  have kin : K.In (hidT s.heap H) := fun b o e => by
    refine hid (KX b o e) (fun z => ?_) fun z zt => ?_
    · obtain ⟨p, hp, rfl⟩ := List.mem_map.mp z
      rw [T.no p hp] at e
      cases e
    · rw [z, hK zt] at e
      cases e
  obtain ⟨mc, l1, l2⟩ := g4
  have M : Mod K mg (hidT s.heap H) := ⟨kin, ns2 g1, ⟨mb, ns2 g2, g3⟩, mc, ns2 l1, l2⟩
  have hok : HOk P w H s.heap := fun b u z => by
    by_cases hb : b ∈ tsOf cs
    · rw [H1 b hb] at z
      cases z
      exact emp b hb
    · obtain ⟨rfl, zt⟩ := H2 b hb (by rw [z]; exact nofun)
      rw [H3 zt] at z
      cases z
      exact ⟨ha, by rw [List.length_map]; exact sz, vs, _, rv, ha⟩
  have e0 : Env0 P w K mg (hidT s.heap H) callerA [] s H := ⟨rfl, M, fun _ _ e => of_hidT e, Nat.le_of_eq (hidT_size _ _), trivial, nofun, hok, .of_eq g5⟩
  have tb : ∀ p ∈ cs, LamX.TabB (hidT s.heap H) mg p.1 p.2 := fun p hp => by
    have em := T.em p hp
    refine ⟨?_, ?_, fun z => ?_⟩
    · obtain ⟨o, us, f1, f2, f3, f4, f5, f6, f7, e1, r1, r2, r3, r⟩ := T.hd p hp
      exact ⟨o, us, f1, f2, f3, f4, f5, f6, f7, apart e1 (by rw [r2]; rintro ⟨⟩; simp at r3) (by rw [r2]; exact nofun), r1, r2, r3, r⟩
    · obtain ⟨bm, ob, b1, b2, b3, b4, b5, b6⟩ := hbm
      refine ⟨bm, ob, b1, b2, fun z => ?_, fun z => ?_, apart b3 (by rw [b6]; exact nofun) (by rw [b6]; exact nofun), b4, b5, b6⟩
      · obtain ⟨o, es, ep, e, d, _⟩ := g1
        rw [z, e] at b3
        cases b3
        rw [d] at b6
        cases b6
      · rw [z, em] at b3
        cases b3
        cases b6
    · obtain ⟨o, es, ep, e, d, _⟩ := g1
      rw [z, em] at e
      cases e
      cases d
  refine codeAny_mono ((F _ kin (ns2 g1) tb).run callerA [] s H ⟨[.ref a], []⟩ [.ref a] [.ref a] _ _ hr e0 (hbind s (.ref a)) (.cons rfl .nil) hsp) ?_
  intro r s' h
  match r, h with
  | .error e, h => exact (cx_no H s e s' h).elim
  | .ok (.ret u), h =>
    obtain ⟨v, H', os, bare, un, hok', r', q⟩ := h
    cases (show v = .bl true from q)
    cases (show u = Value.bool true from r')
    have kept : ∀ (b : Addr) (o : Obj), b ∉ tsOf cs → s.heap.get? b = some o → s'.heap.get? b = some o := fun b o nb e => by
      cases z : H b with
      | none => exact un.keep b o e z nofun nofun
      | some u =>
        obtain ⟨rfl, zt⟩ := H2 b nb (by rw [z]; exact nofun)
        have e1 := (hok b _ (H3 zt)).1
        rw [e] at e1
        cases e1
        exact (hok' _ _ (un.frzs _ _ _ (H3 zt))).1
    have more : ∀ b, b ∈ tsOf cs → ∃ ms : Array Value, s'.heap.get? b = some { cls := .none, data := .fields ms } := fun b hb => by
      obtain ⟨ms, z⟩ := un.tbls b #[] (H1 b hb)
      exact ⟨_, hok' b _ z⟩
    refine ⟨rfl, ⟨?_, ?_⟩, os, bare⟩
    · intro b o e
      by_cases hb : b ∈ tsOf cs
      · obtain ⟨ms, hm⟩ := more b hb
        obtain ⟨p, hp, rfl⟩ := List.mem_map.mp hb
        rw [T.em p hp] at e
        cases e
        exact .inr (.inl ⟨((T.hd p hp).tab (T.em p hp)).isCodeTable, rfl, #[], ms, rfl, by rw [Array.empty_append]; exact hm⟩)
      · exact .inl (kept b o hb e)
    · intro b o e
      by_cases hb : b ∈ tsOf cs
      · obtain ⟨ms, hm⟩ := more b hb
        exact ⟨_, hm⟩
      · exact ⟨o, kept b o hb e⟩
theorem walkGT {l : PySem.W.OpenLaw} {n k : Nat} {q : Program} {loose : List Str} {XP : (Str → Option Value) → Heap → Prop} {YP : World → Heap → Prop} {d : DefRec} {x : Str} {xs : List Str} (hn : l.most = some n) (hn2 : n ≤ sizeLine) (hdf : d.params.defaults = []) (hr : RoomG k callerA)
    (F : ∀ (w : World) (mg : Str → Option Value) (fa : Addr) (h : Heap), YP w h → h.Ns mainGlobals mg → mg d.name = some (.ref fa) → ∃ (K : PySem.W.Frag) (cs : List (Addr × Addr)) (fd : FuncData) (m : Fn), K.In h ∧ TabsK K h xs cs ∧ (∀ (s : Shared) (u : Value), BindsTo s fd ⟨[u], []⟩ [(x, u)]) ∧
        (∀ ns : List Int, ns.length ≤ n → ∃ h', m [.d (.list (ns.map PyData.int))] (tabH xs) = .ok (.d (.bool true)) h') ∧ ∀ base : Heap, K.In base → base.Ns mainGlobals mg → (∀ p ∈ cs, LamX.TabB base mg p.1 p.2) → FnG l.prog w K mg base k fa fd [x] (spF K mg m)) :
    PySem.W.WalkO q loose XP YP l.row.toRowW d [] (fun f vs => PySem.call f vs) := by
  refine Att.attach_call hn hdf ?_
  intro w s₀ s mg mb fa o pm cd doc a vs ns G Y ho hd hcd hmg hobj hints hlen hg
  obtain ⟨K, cs, fd, m, KX, T, hb, hm, hF⟩ := F w mg fa _ Y G.T.g hmg
  have rv := vals_ints hints
  have sz : ns.length ≤ sizeLine := Nat.le_trans hlen hn2
  obtain ⟨h', e⟩ := hm ns hlen
  have tH : ∀ bt, ∀ p ∈ cs, scrT a vs ns bt (tsOf cs) p.2 = some (.tbl #[]) := fun bt p hp => if_pos (List.mem_map.mpr ⟨p, hp, rfl⟩)
  have aT : a ∉ tsOf cs := fun z => by
    obtain ⟨p, hp, e⟩ := List.mem_map.mp z
    have q := T.em p hp
    rw [e, hobj] at q
    have q2 := congrArg Obj.data (Option.some.inj q)
    cases q2
  cases hk : K.lookup a with
  | some o' =>
    have e2 := KX a o' hk
    rw [hobj] at e2
    cases e2
    have sq : ∀ H, SqL K H a (ns.map V.int) := fun H => .inr ⟨_, vs.toArray, _, hk, rfl, rfl, rfl, by rw [List.size_toArray, hints.length]; exact sz, by simpa using rv⟩
    exact call_fromT (bt := false) KX G.T.g G.T.b G.T.builtins G.T.nolimit hg G.T.bmain T hobj rv sz hr hF hb nofun (law_spT T.nd T.at_ (tH _) (sq _) e)
  | none =>
    have at_ : scrT a vs ns true (tsOf cs) a = some (.frz { cls := .type "list", data := .seq vs.toArray } (.lst (ns.map V.int))) := (if_neg aT).trans (if_pos ⟨rfl, rfl⟩)
    exact call_fromT (bt := true) KX G.T.g G.T.b G.T.builtins G.T.nolimit hg G.T.bmain T hobj rv sz hr hF hb (fun _ => hk) (law_spT T.nd T.at_ (tH _) (.inl (.inr ⟨_, at_⟩)) e)
/-- a maker's facts, from the head's -/
theorem lamT_of {K : PySem.W.Frag} {h base : Heap} {mg : Str → Option Value} {xs : List Str} {cs : List (Addr × Addr)} (X : K.In h) (G : h.Ns mainGlobals mg) (T : TabsK K h xs cs) (tb : ∀ p ∈ cs, LamX.TabB base mg p.1 p.2) (i : Nat) {x : Str} (hx : xs[i]? = some x) : ∃ c P, LamT K mg base x c P := by
  have ln : xs.length = cs.length := by have := congrArg List.length T.at_; simpa using this
  have hi : i < cs.length := by rw [← ln]; exact (List.getElem?_eq_some_iff.mp hx).1
  have ec : cs[i]? = some cs[i] := List.getElem?_eq_getElem hi
  have q := congrArg (fun l => l[i]?) T.at_
  simp only [List.getElem?_map, hx, ec, Option.map_some] at q
  have q := Option.some.inj q
  have tbi := tb _ (List.getElem_mem hi)
  revert q tbi
  generalize cs[i] = ci
  intro q tbi
  refine ⟨ci.1, ci.2, q, tbi, fun f cdv hf ⟨oc, od, fd, osl, lk, e⟩ => ?_⟩
  unfold PySem.W.tabIn at q
  split at q
  · rename_i f' hf'
    have := PySem.W.mg_of X G hf'
    rw [hf] at this
    cases this
    rw [lk] at q
    dsimp only at q
    split at q
    · rename_i c hc
      split at q
      · split at q
        · cases q
          rw [← e, hc]
        · cases q
      · cases q
    · cases q
  · cases q
end Rk

/-! Rk57: wishes for deeds. -/
namespace Rk
open PySem PySem.Spec L2
section
variable {Q : Vl → Hh → Prop} {E : XP} {ρ ρ' : En} {h h0 : Hh} {n i : Nat} {x : Str} {m : Deed → Fn} {fb : Ev} {v0 : Vl} {d : Deed}
theorem wp_deed (e : ρ[i]? = some (some (.f d.D))) (w : Wp (d.T h) Q E) : Wp (eDeed i d ρ h) Q E := by
  have z : eDeed i d ρ h = d.T h := by
    unfold eDeed
    rw [e]
    exact if_pos rfl
  rw [z]
  exact w
theorem wp_lam (ht : hasTab n x h = true) (hρ : upE (capE ρ) = ρ') (w : ∀ d : Deed, (∀ h', d.T h' = fb ρ' h') → Wp (m d [.f d.D] h) (fun v h1 => v = v0 ∧ h1 = h0) NX) (q : Q v0 h0) : Wp (eLam n x m fb ρ h) Q E := by
  subst hρ
  have z : eLam n x m fb ρ h = .ok v0 h0 := by
    unfold eLam
    rw [if_pos ht]
    refine lamO_eq fun f c σ => ?_
    obtain ⟨v, h1, e, rfl, rfl⟩ := wp_out (w ⟨⟨f, c, x ++ ".<locals>." ++ "<lambda>", σ, capE ρ⟩, fun h' => fb (upE (capE ρ)) h'⟩ fun _ => rfl)
    exact e
  exact wp_eq z q
theorem hasTab_set {k : Nat} {o : Option Ob} (hk : k ≠ n) (e : hasTab n x h = true) : hasTab n x (h.set k o) = true := by
  have e := hasTab_ok e
  unfold hasTab
  rw [List.getElem?_set_ne hk, e]
  exact decide_eq_true rfl
theorem hasTab_app {l : Hh} (e : hasTab n x h = true) : hasTab n x (h ++ l) = true := by
  have e := hasTab_ok e
  unfold hasTab
  rw [List.getElem?_append_left (List.getElem?_eq_some_iff.mp e).1, e]
  exact decide_eq_true rfl
end
theorem ex_of_wp {o : Out Vl} {v0 : Vl} (w : Wp o (fun v _ => v = v0) NX) : ∃ h', o = .ok v0 h' := by
  obtain ⟨v, h', e, rfl⟩ := wp_out w
  exact ⟨h', e⟩
theorem retK_any {n : Nat} {h : Hh} {x : Da} {Q : Vl → Hh → Prop} (q : Q (.d x) (h.take n)) : RetK n Q (.d x) h := ⟨_, _, rfl, q⟩
end Rk

/-! Rk58: powers of great numbers. -/
namespace Rk
open PySem PySem.Spec L2
variable {mg : Str → Option Value}
def CPowG (i j : Int) : Prop := 0 ≤ j ∧ j ≤ 10000 ∧ Bd 10000 i
theorem op_powG {X : Cx} : OpR X (binaryOp .Pow) (rI CPowG fun i j => .int (i ^ j.toNat)) := opI fun a b _ _ _ _ _ hc q => PyProof.Rows.pow_int hc.1 (by
  have h1 := bits_le hc.2.2
  have h2 := hc.2.1
  have h0 := hc.1
  have h3 : ((Builtin.Int.intBits a : Nat) : Int) * b ≤ 10000 * 10000 := Int.mul_le_mul (by omega) h2 h0 (by decide)
  omega) q
open Classical in
noncomputable def fPowG (a b : Int) : Option Da := if CPowG a b then some (.int (a ^ b.toNat)) else none
section
variable {K : PySem.W.Frag}
theorem ok_powG : Ok2 K mg (rI CPowG fun i j => .int (i ^ j.toNat)) (gInt fPowG) := gInt_ok fun a b d H Q e k => by
  unfold fPowG at e
  split at e
  · cases e
    exact ⟨a, b, rfl, rfl, by assumption, k _ fun _ => .int _⟩
  · cases e
end
theorem wo_powG {Q : Vl → Hh → Prop} {h : Hh} {a : Int} {n : Nat} (h1 : n ≤ 10000) (h2 : Bd 10000 a) (q : Q (.d (.int (a ^ n))) h) : Wo (gInt fPowG (.d (.int a)) (.d (.int (OfNat.ofNat n))) h) Q :=
  wo_eq (by
    rw [gInt_eq, show (OfNat.ofNat n : Int) = (n : Int) from rfl]
    unfold fPowG
    rw [if_pos ⟨by omega, by omega, h2⟩, Int.toNat_natCast]
    rfl) q
end Rk

/-! Rk59: more wishes: range of two, lists put together. -/
namespace Rk
open PySem PySem.Spec L2
section
variable {QI : Itm → Hh → Prop} {E : XP} {ρ : En} {h : Hh} {as : Av}
theorem wp_rng2 (w : Wp (as ρ h) (fun vs h1 => ∃ i j : Int, vs = [.d (.int i), .d (.int j)] ∧ rgB i = true ∧ rgB j = true ∧ QI ⟨rngD i (j - i).toNat, none⟩ h1) E) : Wp (iRange2 as ρ h) QI E :=
  wp_bind (w.mono (fun _ _ ⟨i, j, e, r, s, q⟩ => by
    rw [e]
    show Wp (if (rgB i && rgB j) = true then _ else _) _ _
    rw [r, s]
    exact ⟨q⟩) fun _ _ _ z => z)
theorem ex_rng2 {i j : Int} {P : Int → Int → Prop} (r : rgB i = true) (s : rgB j = true) (q : P i j) : ∃ k l : Int, [Vl.d (.int i), Vl.d (.int j)] = [.d (.int k), .d (.int l)] ∧ rgB k = true ∧ rgB l = true ∧ P k l := ⟨i, j, rfl, r, s, q⟩
end
theorem rngD_range (lo : Int) (n : Nat) : rngD lo n = (List.range n).map fun t : Nat => (.int (lo + t) : Da) := rfl
/-- a row of things by number, put together of two -/
theorem map_add {α : Type} (f : Nat → α) (a b : Nat) : (List.range (a + b)).map f = (List.range a).map f ++ (List.range b).map (fun i => f (a + i)) := by
  rw [List.range_add, List.map_append, List.map_map]
  rfl
end Rk

namespace Lw
open PySem PySem.Spec L2 Rk
def c_GREATEST : Da := (.int ((10 ^ 600)))
def c_MOST_FAR : Da := (.int 2100)
def c_MOST_MARKS : Da := (.int 5000)
def c_WAYS : Da := (.tuple [(.str "near"), (.str "down"), (.str "up"), (.str "nought")])
theorem wk_GREATEST {ρ : En} {h : Hh} {Q : Vl → Hh → Prop} {E : XP} (q : Q (.d (.int ((10 ^ 600)))) h) : Wp (eD c_GREATEST ρ h) Q E := ⟨q⟩
theorem wk_MOST_FAR {ρ : En} {h : Hh} {Q : Vl → Hh → Prop} {E : XP} (q : Q (.d (.int 2100)) h) : Wp (eD c_MOST_FAR ρ h) Q E := ⟨q⟩
theorem wk_MOST_MARKS {ρ : En} {h : Hh} {Q : Vl → Hh → Prop} {E : XP} (q : Q (.d (.int 5000)) h) : Wp (eD c_MOST_MARKS ρ h) Q E := ⟨q⟩
theorem wk_WAYS {ρ : En} {h : Hh} {Q : Vl → Hh → Prop} {E : XP} (q : Q (.d (.tuple [(.str "near"), (.str "down"), (.str "up"), (.str "nought")])) h) : Wp (eD c_WAYS ρ h) Q E := ⟨q⟩
theorem tq_0_1 {h : Hh} {Q : Vl → Hh → Prop} (q : Q (.d (Rk.Q 0)) h) : TupK [.d (.int 0), .d (.int 1)] h Q := tq_lit 0 (by decide +kernel) (by decide +kernel) q
theorem tq_10_3 {h : Hh} {Q : Vl → Hh → Prop} (q : Q (.d (Rk.Q (10 / 3))) h) : TupK [.d (.int 10), .d (.int 3)] h Q := tq_lit (10 / 3) (by decide +kernel) (by decide +kernel) q
noncomputable def b_is_whole : Sv := sRet (eAnd (eIsi .int (eVar 0)) (eNot (eIsi .bool (eVar 0))))
noncomputable def m_is_whole : Fn := mkF 1 1 b_is_whole
theorem en_is_whole {v0 : Vl} {h : Hh} {Q : Vl → Hh → Prop} {E : XP} (w : Ws (b_is_whole [some v0] h) (fun _ h1 => RetK h.length Q (.d .none) h1) ⟨RetK h.length Q, fun _ _ => False, fun _ _ => False, fun c fs _ h1 => E c fs (h1.take h.length)⟩) : Wp (m_is_whole [v0] h) Q E := wp_def rfl rfl w
noncomputable def b_is_among : Sv := sRet (eAnd (eCall m_is_whole (aCons (eVar 0) (aNil))) (eChain (gInt fLe) (gInt fLe) (eVar 1) (eVar 0) (eVar 2)))
noncomputable def m_is_among : Fn := mkF 3 3 b_is_among
theorem en_is_among {v0 v1 v2 : Vl} {h : Hh} {Q : Vl → Hh → Prop} {E : XP} (w : Ws (b_is_among [some v0, some v1, some v2] h) (fun _ h1 => RetK h.length Q (.d .none) h1) ⟨RetK h.length Q, fun _ _ => False, fun _ _ => False, fun c fs _ h1 => E c fs (h1.take h.length)⟩) : Wp (m_is_among [v0, v1, v2] h) Q E := wp_def rfl rfl w
noncomputable def b_shared : Sv := sSeq (sSet 0 (eBlt gAbs (aCons (eVar 0) (aNil))))
    (sSeq (sSet 1 (eBlt gAbs (aCons (eVar 1) (aNil))))
    (sSeq (sWhile (eT (eOp (gInt fGt) (eVar 1) (eD (.int 0)))) (sPar 0 1 (aCons (eVar 1) (aCons (eOp (gInt fMod) (eVar 0) (eVar 1)) (aNil)))))
    (sRet (eVar 0))))
noncomputable def m_shared : Fn := mkF 2 2 b_shared
theorem en_shared {v0 v1 : Vl} {h : Hh} {Q : Vl → Hh → Prop} {E : XP} (w : Ws (b_shared [some v0, some v1] h) (fun _ h1 => RetK h.length Q (.d .none) h1) ⟨RetK h.length Q, fun _ _ => False, fun _ _ => False, fun c fs _ h1 => E c fs (h1.take h.length)⟩) : Wp (m_shared [v0, v1] h) Q E := wp_def rfl rfl w
noncomputable def b_fraction : Sv := sSeq (sSet 2 (eCall m_shared (aCons (eVar 0) (aCons (eVar 1) (aNil)))))
    (sSeq (sIf (eT (eOp (gInt fLt) (eVar 1) (eD (.int 0)))) (sSet 2 (eOp (gInt fSub) (eD (.int 0)) (eVar 2))) (sNil))
    (sRet (eTup (aCons (eOp (gInt fDiv) (eVar 0) (eVar 2)) (aCons (eOp (gInt fDiv) (eVar 1) (eVar 2)) (aNil))))))
noncomputable def m_fraction : Fn := mkF 2 3 b_fraction
theorem en_fraction {v0 v1 : Vl} {h : Hh} {Q : Vl → Hh → Prop} {E : XP} (w : Ws (b_fraction [some v0, some v1, none] h) (fun _ h1 => RetK h.length Q (.d .none) h1) ⟨RetK h.length Q, fun _ _ => False, fun _ _ => False, fun c fs _ h1 => E c fs (h1.take h.length)⟩) : Wp (m_fraction [v0, v1] h) Q E := wp_def rfl rfl w
noncomputable def b_is_fraction : Sv := sSeq (sIf (tvOr (tvNot (eT (eIsi .tuple (eVar 0)))) (tvOr (eT (eOp gNe (eBlt gLen (aCons (eVar 0) (aNil))) (eD (.int 2)))) (tvOr (tvNot (eT (eCall m_is_whole (aCons (eOp gIx (eVar 0) (eD (.int 0))) (aNil))))) (tvNot (eT (eCall m_is_whole (aCons (eOp gIx (eVar 0) (eD (.int 1))) (aNil)))))))) (sRet (eD (.bool false))) (sNil))
    (sRet (eAnd (eOp (gInt fGt) (eOp gIx (eVar 0) (eD (.int 1))) (eD (.int 0))) (eOp gEq (eCall m_shared (aCons (eOp gIx (eVar 0) (eD (.int 0))) (aCons (eOp gIx (eVar 0) (eD (.int 1))) (aNil)))) (eD (.int 1)))))
noncomputable def m_is_fraction : Fn := mkF 1 1 b_is_fraction
theorem en_is_fraction {v0 : Vl} {h : Hh} {Q : Vl → Hh → Prop} {E : XP} (w : Ws (b_is_fraction [some v0] h) (fun _ h1 => RetK h.length Q (.d .none) h1) ⟨RetK h.length Q, fun _ _ => False, fun _ _ => False, fun c fs _ h1 => E c fs (h1.take h.length)⟩) : Wp (m_is_fraction [v0] h) Q E := wp_def rfl rfl w
noncomputable def b_is_great : Sv := sRet (eOr (eOp (gInt fGt) (eBlt gAbs (aCons (eOp gIx (eVar 0) (eD (.int 0))) (aNil))) (eD c_GREATEST)) (eOp (gInt fGt) (eOp gIx (eVar 0) (eD (.int 1))) (eD c_GREATEST)))
noncomputable def m_is_great : Fn := mkF 1 1 b_is_great
theorem en_is_great {v0 : Vl} {h : Hh} {Q : Vl → Hh → Prop} {E : XP} (w : Ws (b_is_great [some v0] h) (fun _ h1 => RetK h.length Q (.d .none) h1) ⟨RetK h.length Q, fun _ _ => False, fun _ _ => False, fun c fs _ h1 => E c fs (h1.take h.length)⟩) : Wp (m_is_great [v0] h) Q E := wp_def rfl rfl w
noncomputable def b_need_small : Sv := sSeq (sIf (eT (eCall m_is_great (aCons (eVar 0) (aNil)))) (sRaise "TooGreat") (sNil))
    (sRet (eVar 0))
noncomputable def m_need_small : Fn := mkF 1 1 b_need_small
theorem en_need_small {v0 : Vl} {h : Hh} {Q : Vl → Hh → Prop} {E : XP} (w : Ws (b_need_small [some v0] h) (fun _ h1 => RetK h.length Q (.d .none) h1) ⟨RetK h.length Q, fun _ _ => False, fun _ _ => False, fun c fs _ h1 => E c fs (h1.take h.length)⟩) : Wp (m_need_small [v0] h) Q E := wp_def rfl rfl w
noncomputable def b_whole_of : Sv := sRet (eTup (aCons (eVar 0) (aCons (eD (.int 1)) (aNil))))
noncomputable def m_whole_of : Fn := mkF 1 1 b_whole_of
theorem en_whole_of {v0 : Vl} {h : Hh} {Q : Vl → Hh → Prop} {E : XP} (w : Ws (b_whole_of [some v0] h) (fun _ h1 => RetK h.length Q (.d .none) h1) ⟨RetK h.length Q, fun _ _ => False, fun _ _ => False, fun c fs _ h1 => E c fs (h1.take h.length)⟩) : Wp (m_whole_of [v0] h) Q E := wp_def rfl rfl w
noncomputable def b_turned : Sv := sRet (eTup (aCons (eOp (gInt fSub) (eD (.int 0)) (eOp gIx (eVar 0) (eD (.int 0)))) (aCons (eOp gIx (eVar 0) (eD (.int 1))) (aNil))))
noncomputable def m_turned : Fn := mkF 1 1 b_turned
theorem en_turned {v0 : Vl} {h : Hh} {Q : Vl → Hh → Prop} {E : XP} (w : Ws (b_turned [some v0] h) (fun _ h1 => RetK h.length Q (.d .none) h1) ⟨RetK h.length Q, fun _ _ => False, fun _ _ => False, fun c fs _ h1 => E c fs (h1.take h.length)⟩) : Wp (m_turned [v0] h) Q E := wp_def rfl rfl w
noncomputable def b_times : Sv := sRet (eCall m_fraction (aCons (eOp (gInt fMul) (eOp gIx (eVar 0) (eD (.int 0))) (eOp gIx (eVar 1) (eD (.int 0)))) (aCons (eOp (gInt fMul) (eOp gIx (eVar 0) (eD (.int 1))) (eOp gIx (eVar 1) (eD (.int 1)))) (aNil))))
noncomputable def m_times : Fn := mkF 2 2 b_times
theorem en_times {v0 v1 : Vl} {h : Hh} {Q : Vl → Hh → Prop} {E : XP} (w : Ws (b_times [some v0, some v1] h) (fun _ h1 => RetK h.length Q (.d .none) h1) ⟨RetK h.length Q, fun _ _ => False, fun _ _ => False, fun c fs _ h1 => E c fs (h1.take h.length)⟩) : Wp (m_times [v0, v1] h) Q E := wp_def rfl rfl w
noncomputable def b_over : Sv := sRet (eCall m_fraction (aCons (eOp (gInt fMul) (eOp gIx (eVar 0) (eD (.int 0))) (eOp gIx (eVar 1) (eD (.int 1)))) (aCons (eOp (gInt fMul) (eOp gIx (eVar 0) (eD (.int 1))) (eOp gIx (eVar 1) (eD (.int 0)))) (aNil))))
noncomputable def m_over : Fn := mkF 2 2 b_over
theorem en_over {v0 v1 : Vl} {h : Hh} {Q : Vl → Hh → Prop} {E : XP} (w : Ws (b_over [some v0, some v1] h) (fun _ h1 => RetK h.length Q (.d .none) h1) ⟨RetK h.length Q, fun _ _ => False, fun _ _ => False, fun c fs _ h1 => E c fs (h1.take h.length)⟩) : Wp (m_over [v0, v1] h) Q E := wp_def rfl rfl w
noncomputable def b_size_of : Sv := sRet (eTup (aCons (eBlt gAbs (aCons (eOp gIx (eVar 0) (eD (.int 0))) (aNil))) (aCons (eOp gIx (eVar 0) (eD (.int 1))) (aNil))))
noncomputable def m_size_of : Fn := mkF 1 1 b_size_of
theorem en_size_of {v0 : Vl} {h : Hh} {Q : Vl → Hh → Prop} {E : XP} (w : Ws (b_size_of [some v0] h) (fun _ h1 => RetK h.length Q (.d .none) h1) ⟨RetK h.length Q, fun _ _ => False, fun _ _ => False, fun c fs _ h1 => E c fs (h1.take h.length)⟩) : Wp (m_size_of [v0] h) Q E := wp_def rfl rfl w
noncomputable def b_is_less : Sv := sRet (eOp (gInt fLt) (eOp (gInt fMul) (eOp gIx (eVar 0) (eD (.int 0))) (eOp gIx (eVar 1) (eD (.int 1)))) (eOp (gInt fMul) (eOp gIx (eVar 1) (eD (.int 0))) (eOp gIx (eVar 0) (eD (.int 1)))))
noncomputable def m_is_less : Fn := mkF 2 2 b_is_less
theorem en_is_less {v0 v1 : Vl} {h : Hh} {Q : Vl → Hh → Prop} {E : XP} (w : Ws (b_is_less [some v0, some v1] h) (fun _ h1 => RetK h.length Q (.d .none) h1) ⟨RetK h.length Q, fun _ _ => False, fun _ _ => False, fun c fs _ h1 => E c fs (h1.take h.length)⟩) : Wp (m_is_less [v0, v1] h) Q E := wp_def rfl rfl w
noncomputable def b_power : Sv := sSeq (sSet 2 (eD (.int 1)))
    (sSeq (sSet 3 (eVar 0))
    (sSeq (sSet 4 (eBlt gAbs (aCons (eVar 1) (aNil))))
    (sSeq (sWhile (eT (eOp (gInt fGt) (eVar 4) (eD (.int 0)))) (sSeq (sIf (eT (eOp gEq (eOp (gInt fMod) (eVar 4) (eD (.int 2))) (eD (.int 1)))) (sSet 2 (eOp (gInt fMul) (eVar 2) (eVar 3))) (sNil))
    (sSeq (sSet 4 (eOp (gInt fDiv) (eVar 4) (eD (.int 2))))
    (sSet 3 (eIf (eT (eOp (gInt fGt) (eVar 4) (eD (.int 0)))) (eOp (gInt fMul) (eVar 3) (eVar 3)) (eVar 3))))))
    (sRet (eIf (eT (eOp (gInt fGe) (eVar 1) (eD (.int 0)))) (eTup (aCons (eVar 2) (aCons (eD (.int 1)) (aNil)))) (eTup (aCons (eD (.int 1)) (aCons (eVar 2) (aNil)))))))))
noncomputable def m_power : Fn := mkF 2 5 b_power
theorem en_power {v0 v1 : Vl} {h : Hh} {Q : Vl → Hh → Prop} {E : XP} (w : Ws (b_power [some v0, some v1, none, none, none] h) (fun _ h1 => RetK h.length Q (.d .none) h1) ⟨RetK h.length Q, fun _ _ => False, fun _ _ => False, fun c fs _ h1 => E c fs (h1.take h.length)⟩) : Wp (m_power [v0, v1] h) Q E := wp_def rfl rfl w
noncomputable def b_is_ruler : Sv := sSeq (sIf (tvOr (tvNot (eT (eIsi .tuple (eVar 0)))) (tvOr (eT (eOp gNe (eBlt gLen (aCons (eVar 0) (aNil))) (eD (.int 4)))) (tvNot (eT (eIsi .str (eOp gIx (eVar 0) (eD (.int 3)))))))) (sRet (eD (.bool false))) (sNil))
    (sSeq (sIf (tvOr (tvNot (eT (eCall m_is_among (aCons (eOp gIx (eVar 0) (eD (.int 0))) (aCons (eD (.int 2)) (aCons (eD (.int 16)) (aNil))))))) (tvOr (tvNot (eT (eCall m_is_among (aCons (eOp gIx (eVar 0) (eD (.int 1))) (aCons (eD (.int 1)) (aCons (eD (.int 24)) (aNil))))))) (tvNot (eT (eCall m_is_among (aCons (eOp gIx (eVar 0) (eD (.int 2))) (aCons (eNeg (eD (.int 100))) (aCons (eD (.int 100)) (aNil))))))))) (sRet (eD (.bool false))) (sNil))
    (sRet (eOp (gIn false) (eOp gIx (eVar 0) (eD (.int 3))) (eD c_WAYS))))
noncomputable def m_is_ruler : Fn := mkF 1 1 b_is_ruler
theorem en_is_ruler {v0 : Vl} {h : Hh} {Q : Vl → Hh → Prop} {E : XP} (w : Ws (b_is_ruler [some v0] h) (fun _ h1 => RetK h.length Q (.d .none) h1) ⟨RetK h.length Q, fun _ _ => False, fun _ _ => False, fun c fs _ h1 => E c fs (h1.take h.length)⟩) : Wp (m_is_ruler [v0] h) Q E := wp_def rfl rfl w
noncomputable def b_need_ruler : Sv := sIf (tvNot (eT (eCall m_is_ruler (aCons (eVar 0) (aNil))))) (sRaise "BadRuler") (sNil)
noncomputable def m_need_ruler : Fn := mkF 1 1 b_need_ruler
theorem en_need_ruler {v0 : Vl} {h : Hh} {Q : Vl → Hh → Prop} {E : XP} (w : Ws (b_need_ruler [some v0] h) (fun _ h1 => RetK h.length Q (.d .none) h1) ⟨RetK h.length Q, fun _ _ => False, fun _ _ => False, fun c fs _ h1 => E c fs (h1.take h.length)⟩) : Wp (m_need_ruler [v0] h) Q E := wp_def rfl rfl w
noncomputable def b_is_enough : Sv := sRet (eCall m_is_less (aCons (eVar 1) (aCons (eCall m_power (aCons (eOp gIx (eVar 0) (eD (.int 0))) (aCons (eOp gAdd (eVar 2) (eOp gIx (eVar 0) (eD (.int 1)))) (aNil)))) (aNil))))
noncomputable def m_is_enough : Fn := mkF 3 3 b_is_enough
theorem en_is_enough {v0 v1 v2 : Vl} {h : Hh} {Q : Vl → Hh → Prop} {E : XP} (w : Ws (b_is_enough [some v0, some v1, some v2] h) (fun _ h1 => RetK h.length Q (.d .none) h1) ⟨RetK h.length Q, fun _ _ => False, fun _ _ => False, fun c fs _ h1 => E c fs (h1.take h.length)⟩) : Wp (m_is_enough [v0, v1, v2] h) Q E := wp_def rfl rfl w
noncomputable def b_place_of : Sv := sSeq (sSet 2 (eCall m_size_of (aCons (eVar 1) (aNil))))
    (sSeq (sSet 3 (eOp gIx (eVar 0) (eD (.int 2))))
    (sSeq (sIf (eT (eCall m_is_enough (aCons (eVar 0) (aCons (eVar 2) (aCons (eVar 3) (aNil)))))) (sRet (eVar 3)) (sNil))
    (sSeq (sSet 4 (eD (.int 1)))
    (sSeq (sWhile (tvNot (eT (eCall m_is_enough (aCons (eVar 0) (aCons (eVar 2) (aCons (eOp gAdd (eVar 3) (eVar 4)) (aNil))))))) (sSet 4 (eOp (gInt fMul) (eVar 4) (eD (.int 2)))))
    (sSeq (sSet 5 (eOp gAdd (eVar 3) (eVar 4)))
    (sSeq (sSet 3 (eOp gAdd (eVar 3) (eOp (gInt fDiv) (eVar 4) (eD (.int 2)))))
    (sSeq (sWhile (eT (eOp (gInt fGt) (eOp (gInt fSub) (eVar 5) (eVar 3)) (eD (.int 1)))) (sSeq (sSet 6 (eOp (gInt fDiv) (eOp gAdd (eVar 3) (eVar 5)) (eD (.int 2))))
    (sIf (eT (eCall m_is_enough (aCons (eVar 0) (aCons (eVar 2) (aCons (eVar 6) (aNil)))))) (sSet 5 (eVar 6)) (sSet 3 (eVar 6)))))
    (sRet (eVar 5)))))))))
noncomputable def m_place_of : Fn := mkF 2 7 b_place_of
theorem en_place_of {v0 v1 : Vl} {h : Hh} {Q : Vl → Hh → Prop} {E : XP} (w : Ws (b_place_of [some v0, some v1, none, none, none, none, none] h) (fun _ h1 => RetK h.length Q (.d .none) h1) ⟨RetK h.length Q, fun _ _ => False, fun _ _ => False, fun c fs _ h1 => E c fs (h1.take h.length)⟩) : Wp (m_place_of [v0, v1] h) Q E := wp_def rfl rfl w
noncomputable def b_step_of : Sv := sRet (eCall m_power (aCons (eOp gIx (eVar 0) (eD (.int 0))) (aCons (eCall m_place_of (aCons (eVar 0) (aCons (eVar 1) (aNil)))) (aNil))))
noncomputable def m_step_of : Fn := mkF 2 2 b_step_of
theorem en_step_of {v0 v1 : Vl} {h : Hh} {Q : Vl → Hh → Prop} {E : XP} (w : Ws (b_step_of [some v0, some v1] h) (fun _ h1 => RetK h.length Q (.d .none) h1) ⟨RetK h.length Q, fun _ _ => False, fun _ _ => False, fun c fs _ h1 => E c fs (h1.take h.length)⟩) : Wp (m_step_of [v0, v1] h) Q E := wp_def rfl rfl w
noncomputable def b_whole_by : Sv := sSeq (sSet 3 (eOp (gInt fDiv) (eVar 1) (eVar 2)))
    (sSeq (sSet 4 (eOp (gInt fMod) (eVar 1) (eVar 2)))
    (sSeq (sIf (eT (eOp gEq (eVar 0) (eD (.str "near")))) (sSet 5 (eOr (eOp (gInt fGt) (eOp (gInt fMul) (eVar 4) (eD (.int 2))) (eVar 2)) (eAnd (eOp gEq (eOp (gInt fMul) (eVar 4) (eD (.int 2))) (eVar 2)) (eOp gEq (eOp (gInt fMod) (eVar 3) (eD (.int 2))) (eD (.int 1)))))) (sIf (eT (eOp gEq (eVar 0) (eD (.str "nought")))) (sSet 5 (eAnd (eOp (gInt fLt) (eVar 1) (eD (.int 0))) (eOp (gInt fGt) (eVar 4) (eD (.int 0))))) (sSet 5 (eAnd (eOp gEq (eVar 0) (eD (.str "up"))) (eOp (gInt fGt) (eVar 4) (eD (.int 0)))))))
    (sRet (eOp gAdd (eVar 3) (eBlt gInt1 (aCons (eVar 5) (aNil)))))))
noncomputable def m_whole_by : Fn := mkF 3 6 b_whole_by
theorem en_whole_by {v0 v1 v2 : Vl} {h : Hh} {Q : Vl → Hh → Prop} {E : XP} (w : Ws (b_whole_by [some v0, some v1, some v2, none, none, none] h) (fun _ h1 => RetK h.length Q (.d .none) h1) ⟨RetK h.length Q, fun _ _ => False, fun _ _ => False, fun c fs _ h1 => E c fs (h1.take h.length)⟩) : Wp (m_whole_by [v0, v1, v2] h) Q E := wp_def rfl rfl w
noncomputable def b_rounded : Sv := sSeq (sSet 2 (eCall m_step_of (aCons (eVar 0) (aCons (eVar 1) (aNil)))))
    (sSeq (sSet 3 (eCall m_over (aCons (eVar 1) (aCons (eVar 2) (aNil)))))
    (sRet (eCall m_times (aCons (eCall m_whole_of (aCons (eCall m_whole_by (aCons (eOp gIx (eVar 0) (eD (.int 3))) (aCons (eOp gIx (eVar 3) (eD (.int 0))) (aCons (eOp gIx (eVar 3) (eD (.int 1))) (aNil))))) (aNil))) (aCons (eVar 2) (aNil))))))
noncomputable def m_rounded : Fn := mkF 2 4 b_rounded
theorem en_rounded {v0 v1 : Vl} {h : Hh} {Q : Vl → Hh → Prop} {E : XP} (w : Ws (b_rounded [some v0, some v1, none, none] h) (fun _ h1 => RetK h.length Q (.d .none) h1) ⟨RetK h.length Q, fun _ _ => False, fun _ _ => False, fun c fs _ h1 => E c fs (h1.take h.length)⟩) : Wp (m_rounded [v0, v1] h) Q E := wp_def rfl rfl w
noncomputable def b_is_mark : Sv := sRet (eAnd (eCall m_is_fraction (aCons (eVar 1) (aNil))) (eOp gEq (eCall m_rounded (aCons (eVar 0) (aCons (eVar 1) (aNil)))) (eVar 1)))
noncomputable def m_is_mark : Fn := mkF 2 2 b_is_mark
theorem en_is_mark {v0 v1 : Vl} {h : Hh} {Q : Vl → Hh → Prop} {E : XP} (w : Ws (b_is_mark [some v0, some v1] h) (fun _ h1 => RetK h.length Q (.d .none) h1) ⟨RetK h.length Q, fun _ _ => False, fun _ _ => False, fun c fs _ h1 => E c fs (h1.take h.length)⟩) : Wp (m_is_mark [v0, v1] h) Q E := wp_def rfl rfl w
noncomputable def b_need_mark : Sv := sSeq (sExpr (eCall m_need_ruler (aCons (eVar 0) (aNil))))
    (sIf (tvNot (eT (eCall m_is_mark (aCons (eVar 0) (aCons (eVar 1) (aNil)))))) (sRaise "BadMark") (sNil))
noncomputable def m_need_mark : Fn := mkF 2 2 b_need_mark
theorem en_need_mark {v0 v1 : Vl} {h : Hh} {Q : Vl → Hh → Prop} {E : XP} (w : Ws (b_need_mark [some v0, some v1] h) (fun _ h1 => RetK h.length Q (.d .none) h1) ⟨RetK h.length Q, fun _ _ => False, fun _ _ => False, fun c fs _ h1 => E c fs (h1.take h.length)⟩) : Wp (m_need_mark [v0, v1] h) Q E := wp_def rfl rfl w
noncomputable def b_need_rank : Sv := sSeq (sExpr (eCall m_need_ruler (aCons (eVar 0) (aNil))))
    (sIf (tvNot (eT (eCall m_is_whole (aCons (eVar 1) (aNil))))) (sRaise "BadMark") (sNil))
noncomputable def m_need_rank : Fn := mkF 2 2 b_need_rank
theorem en_need_rank {v0 v1 : Vl} {h : Hh} {Q : Vl → Hh → Prop} {E : XP} (w : Ws (b_need_rank [some v0, some v1] h) (fun _ h1 => RetK h.length Q (.d .none) h1) ⟨RetK h.length Q, fun _ _ => False, fun _ _ => False, fun c fs _ h1 => E c fs (h1.take h.length)⟩) : Wp (m_need_rank [v0, v1] h) Q E := wp_def rfl rfl w
noncomputable def b_full_of : Sv := sSeq (sSet 1 (eOp gIx (eCall m_power (aCons (eOp gIx (eVar 0) (eD (.int 0))) (aCons (eOp gIx (eVar 0) (eD (.int 1))) (aNil)))) (eD (.int 0))))
    (sRet (eTup (aCons (eVar 1) (aCons (eOp (gInt fSub) (eVar 1) (eOp (gInt fDiv) (eVar 1) (eOp gIx (eVar 0) (eD (.int 0))))) (aNil)))))
noncomputable def m_full_of : Fn := mkF 1 2 b_full_of
theorem en_full_of {v0 : Vl} {h : Hh} {Q : Vl → Hh → Prop} {E : XP} (w : Ws (b_full_of [some v0, none] h) (fun _ h1 => RetK h.length Q (.d .none) h1) ⟨RetK h.length Q, fun _ _ => False, fun _ _ => False, fun c fs _ h1 => E c fs (h1.take h.length)⟩) : Wp (m_full_of [v0] h) Q E := wp_def rfl rfl w
noncomputable def b_rank_of : Sv := sSeq (sExpr (eCall m_need_mark (aCons (eVar 0) (aCons (eVar 1) (aNil)))))
    (sSeq (sSet 2 (eCall m_place_of (aCons (eVar 0) (aCons (eVar 1) (aNil)))))
    (sSeq (sSet 3 (eOp gIx (eCall m_over (aCons (eCall m_size_of (aCons (eVar 1) (aNil))) (aCons (eCall m_power (aCons (eOp gIx (eVar 0) (eD (.int 0))) (aCons (eVar 2) (aNil)))) (aNil)))) (eD (.int 0))))
    (sSeq (sSet 4 (eOp gAdd (eOp (gInt fMul) (eOp (gInt fSub) (eVar 2) (eOp gIx (eVar 0) (eD (.int 2)))) (eOp gIx (eCall m_full_of (aCons (eVar 0) (aNil))) (eD (.int 1)))) (eVar 3)))
    (sRet (eIf (eT (eOp (gInt fGe) (eOp gIx (eVar 1) (eD (.int 0))) (eD (.int 0)))) (eVar 4) (eOp (gInt fSub) (eD (.int 0)) (eVar 4)))))))
noncomputable def m_rank_of : Fn := mkF 2 5 b_rank_of
theorem en_rank_of {v0 v1 : Vl} {h : Hh} {Q : Vl → Hh → Prop} {E : XP} (w : Ws (b_rank_of [some v0, some v1, none, none, none] h) (fun _ h1 => RetK h.length Q (.d .none) h1) ⟨RetK h.length Q, fun _ _ => False, fun _ _ => False, fun c fs _ h1 => E c fs (h1.take h.length)⟩) : Wp (m_rank_of [v0, v1] h) Q E := wp_def rfl rfl w
noncomputable def b_far_of : Sv := sSeq (sAsg (gTupT 2 (gsCons (gN 2) (gsCons (gN 3) (gsNil)))) (eCall m_full_of (aCons (eVar 0) (aNil))))
    (sRet (eBlt gMax (aCons (eD (.int 0)) (aCons (eOp gAdd (eOp (gInt fDiv) (eOp (gInt fSub) (eBlt gAbs (aCons (eVar 1) (aNil))) (eVar 2)) (eVar 3)) (eD (.int 1))) (aNil)))))
noncomputable def m_far_of : Fn := mkF 2 4 b_far_of
theorem en_far_of {v0 v1 : Vl} {h : Hh} {Q : Vl → Hh → Prop} {E : XP} (w : Ws (b_far_of [some v0, some v1, none, none] h) (fun _ h1 => RetK h.length Q (.d .none) h1) ⟨RetK h.length Q, fun _ _ => False, fun _ _ => False, fun c fs _ h1 => E c fs (h1.take h.length)⟩) : Wp (m_far_of [v0, v1] h) Q E := wp_def rfl rfl w
noncomputable def b_of_rank : Sv := sSeq (sSet 2 (eCall m_far_of (aCons (eVar 0) (aCons (eVar 1) (aNil)))))
    (sSeq (sSet 3 (eCall m_times (aCons (eCall m_whole_of (aCons (eOp (gInt fSub) (eBlt gAbs (aCons (eVar 1) (aNil))) (eOp (gInt fMul) (eVar 2) (eOp gIx (eCall m_full_of (aCons (eVar 0) (aNil))) (eD (.int 1))))) (aNil))) (aCons (eCall m_power (aCons (eOp gIx (eVar 0) (eD (.int 0))) (aCons (eOp gAdd (eOp gIx (eVar 0) (eD (.int 2))) (eVar 2)) (aNil)))) (aNil)))))
    (sRet (eIf (eT (eOp (gInt fGe) (eVar 1) (eD (.int 0)))) (eVar 3) (eCall m_turned (aCons (eVar 3) (aNil))))))
noncomputable def m_of_rank : Fn := mkF 2 4 b_of_rank
theorem en_of_rank {v0 v1 : Vl} {h : Hh} {Q : Vl → Hh → Prop} {E : XP} (w : Ws (b_of_rank [some v0, some v1, none, none] h) (fun _ h1 => RetK h.length Q (.d .none) h1) ⟨RetK h.length Q, fun _ _ => False, fun _ _ => False, fun c fs _ h1 => E c fs (h1.take h.length)⟩) : Wp (m_of_rank [v0, v1] h) Q E := wp_def rfl rfl w
noncomputable def b_mark_at : Sv := sSeq (sExpr (eCall m_need_rank (aCons (eVar 0) (aCons (eVar 1) (aNil)))))
    (sSeq (sIf (eT (eOp (gInt fGt) (eCall m_far_of (aCons (eVar 0) (aCons (eVar 1) (aNil)))) (eD c_MOST_FAR))) (sRaise "TooGreat") (sNil))
    (sRet (eCall m_need_small (aCons (eCall m_of_rank (aCons (eVar 0) (aCons (eVar 1) (aNil)))) (aNil)))))
noncomputable def m_mark_at : Fn := mkF 2 2 b_mark_at
theorem en_mark_at {v0 v1 : Vl} {h : Hh} {Q : Vl → Hh → Prop} {E : XP} (w : Ws (b_mark_at [some v0, some v1] h) (fun _ h1 => RetK h.length Q (.d .none) h1) ⟨RetK h.length Q, fun _ _ => False, fun _ _ => False, fun c fs _ h1 => E c fs (h1.take h.length)⟩) : Wp (m_mark_at [v0, v1] h) Q E := wp_def rfl rfl w
noncomputable def b_beside : Sv := sSeq (sSet 3 (eCall m_rank_of (aCons (eVar 0) (aCons (eVar 1) (aNil)))))
    (sSeq (sExpr (eCall m_need_rank (aCons (eVar 0) (aCons (eVar 2) (aNil)))))
    (sRet (eCall m_mark_at (aCons (eVar 0) (aCons (eOp gAdd (eVar 3) (eVar 2)) (aNil))))))
noncomputable def m_beside : Fn := mkF 3 4 b_beside
theorem en_beside {v0 v1 v2 : Vl} {h : Hh} {Q : Vl → Hh → Prop} {E : XP} (w : Ws (b_beside [some v0, some v1, some v2, none] h) (fun _ h1 => RetK h.length Q (.d .none) h1) ⟨RetK h.length Q, fun _ _ => False, fun _ _ => False, fun c fs _ h1 => E c fs (h1.take h.length)⟩) : Wp (m_beside [v0, v1, v2] h) Q E := wp_def rfl rfl w
noncomputable def b_many_between : Sv := sSeq (sSet 3 (eCall m_rank_of (aCons (eVar 0) (aCons (eVar 1) (aNil)))))
    (sRet (eBlt gMax (aCons (eD (.int 0)) (aCons (eOp gAdd (eOp (gInt fSub) (eCall m_rank_of (aCons (eVar 0) (aCons (eVar 2) (aNil)))) (eVar 3)) (eD (.int 1))) (aNil)))))
noncomputable def m_many_between : Fn := mkF 3 4 b_many_between
theorem en_many_between {v0 v1 v2 : Vl} {h : Hh} {Q : Vl → Hh → Prop} {E : XP} (w : Ws (b_many_between [some v0, some v1, some v2, none] h) (fun _ h1 => RetK h.length Q (.d .none) h1) ⟨RetK h.length Q, fun _ _ => False, fun _ _ => False, fun c fs _ h1 => E c fs (h1.take h.length)⟩) : Wp (m_many_between [v0, v1, v2] h) Q E := wp_def rfl rfl w
noncomputable def b_middle_mark : Sv := sSeq (sSet 3 (eCall m_rank_of (aCons (eVar 0) (aCons (eVar 1) (aNil)))))
    (sRet (eCall m_of_rank (aCons (eVar 0) (aCons (eOp (gInt fDiv) (eOp gAdd (eVar 3) (eCall m_rank_of (aCons (eVar 0) (aCons (eVar 2) (aNil))))) (eD (.int 2))) (aNil)))))
noncomputable def m_middle_mark : Fn := mkF 3 4 b_middle_mark
theorem en_middle_mark {v0 v1 v2 : Vl} {h : Hh} {Q : Vl → Hh → Prop} {E : XP} (w : Ws (b_middle_mark [some v0, some v1, some v2, none] h) (fun _ h1 => RetK h.length Q (.d .none) h1) ⟨RetK h.length Q, fun _ _ => False, fun _ _ => False, fun c fs _ h1 => E c fs (h1.take h.length)⟩) : Wp (m_middle_mark [v0, v1, v2] h) Q E := wp_def rfl rfl w
noncomputable def b_marks_between : Sv := sSeq (sSet 3 (eCall m_many_between (aCons (eVar 0) (aCons (eVar 1) (aCons (eVar 2) (aNil))))))
    (sSeq (sIf (eT (eOp (gInt fGt) (eVar 3) (eD c_MOST_MARKS))) (sRaise "TooGreat") (sNil))
    (sSeq (sSet 4 (eCall m_rank_of (aCons (eVar 0) (aCons (eVar 1) (aNil)))))
    (sRet (eLcX [5] (iRange1 (aCons (eVar 3) (aNil))) (gN 5) (tvYes) (eCall m_mark_at (aCons (eVar 0) (aCons (eOp gAdd (eVar 4) (eVar 5)) (aNil))))))))
noncomputable def m_marks_between : Fn := mkF 3 6 b_marks_between
theorem en_marks_between {v0 v1 v2 : Vl} {h : Hh} {Q : Vl → Hh → Prop} {E : XP} (w : Ws (b_marks_between [some v0, some v1, some v2, none, none, none] h) (fun _ h1 => RetK h.length Q (.d .none) h1) ⟨RetK h.length Q, fun _ _ => False, fun _ _ => False, fun c fs _ h1 => E c fs (h1.take h.length)⟩) : Wp (m_marks_between [v0, v1, v2] h) Q E := wp_def rfl rfl w
noncomputable def b__law_mixed : Sv := sSeq (sSet 0 (eOp (gInt fMod) (eOp (gInt fMul) (eOp gAdd (eOp gAdd (eOp (gInt fMod) (eVar 0) (eD (.int 2147483647))) (eOp (gInt fMul) (eOp (gInt fMul) (eD (.int 7919)) (eVar 1)) (eVar 1))) (eOp (gInt fMul) (eD (.int 31)) (eVar 1))) (eD (.int 48271))) (eD (.int 2147483647))))
    (sRet (eOp (gInt fMod) (eOp (gInt fMul) (eVar 0) (eOp gAdd (eD (.int 69621)) (eOp (gInt fMul) (eD (.int 2)) (eVar 1)))) (eD (.int 2147483629))))
noncomputable def m__law_mixed : Fn := mkF 2 2 b__law_mixed
theorem en__law_mixed {v0 v1 : Vl} {h : Hh} {Q : Vl → Hh → Prop} {E : XP} (w : Ws (b__law_mixed [some v0, some v1] h) (fun _ h1 => RetK h.length Q (.d .none) h1) ⟨RetK h.length Q, fun _ _ => False, fun _ _ => False, fun c fs _ h1 => E c fs (h1.take h.length)⟩) : Wp (m__law_mixed [v0, v1] h) Q E := wp_def rfl rfl w
noncomputable def b__law_stream : Sv := sRet (eLst (aCons (eOp (gInt fGe) (eVar 0) (eOp (gInt fPow) (eD (.int 10)) (eD (.int 18)))) (aCons (eVar 0) (aCons (eD (.int 0)) (aCons (eCall m__law_mixed (aCons (eVar 0) (aCons (eVar 1) (aNil)))) (aNil))))))
noncomputable def m__law_stream : Fn := mkF 2 2 b__law_stream
theorem en__law_stream {v0 v1 : Vl} {h : Hh} {Q : Vl → Hh → Prop} {E : XP} (w : Ws (b__law_stream [some v0, some v1] h) (fun _ h1 => RetK h.length Q (.d .none) h1) ⟨RetK h.length Q, fun _ _ => False, fun _ _ => False, fun c fs _ h1 => E c fs (h1.take h.length)⟩) : Wp (m__law_stream [v0, v1] h) Q E := wp_def rfl rfl w
noncomputable def b__law_take : Sv := sSeq (sAsg (gSetL (eVar 0) (eD (.int 2))) (eOp gAdd (eOp gIx (eVar 0) (eD (.int 2))) (eD (.int 1))))
    (sSeq (sIf (tvOr (tvNot (eT (eOp gIx (eVar 0) (eD (.int 0))))) (tvOr (eT (eOp (gIn false) (eOp gIx (eVar 0) (eD (.int 1))) (eTup (aCons (eD (.int 0)) (aCons (eNeg (eD (.int 1))) (aNil)))))) (eT (eOp (gInt fGt) (eOp gIx (eVar 0) (eD (.int 2))) (eD (.int 60)))))) (sRet (eOp (gInt fMod) (eCall m__law_mixed (aCons (eCall m__law_mixed (aCons (eOp gIx (eVar 0) (eD (.int 3))) (aCons (eOp gIx (eVar 0) (eD (.int 2))) (aNil)))) (aCons (eD (.int 7)) (aNil)))) (eVar 1))) (sNil))
    (sSeq (sSet 2 (eOp (gInt fMod) (eOp gIx (eVar 0) (eD (.int 1))) (eVar 1)))
    (sSeq (sAsg (gSetL (eVar 0) (eD (.int 1))) (eOp (gInt fDiv) (eOp gIx (eVar 0) (eD (.int 1))) (eVar 1)))
    (sRet (eVar 2)))))
noncomputable def m__law_take : Fn := mkF 2 3 b__law_take
theorem en__law_take {v0 v1 : Vl} {h : Hh} {Q : Vl → Hh → Prop} {E : XP} (w : Ws (b__law_take [some v0, some v1, none] h) (fun _ h1 => RetK h.length Q (.d .none) h1) ⟨RetK h.length Q, fun _ _ => False, fun _ _ => False, fun c fs _ h1 => E c fs (h1.take h.length)⟩) : Wp (m__law_take [v0, v1] h) Q E := wp_def rfl rfl w
noncomputable def b__law_lowest : Sv := sSeq (sPar 2 3 (aCons (eBlt gAbs (aCons (eVar 0) (aNil))) (aCons (eBlt gAbs (aCons (eVar 1) (aNil))) (aNil))))
    (sSeq (sWhile (tvAnd (eT (eOp (gInt fGt) (eVar 2) (eD (.int 0)))) (eT (eOp (gInt fGt) (eVar 3) (eD (.int 0))))) (sIf (eT (eOp (gInt fGe) (eVar 2) (eVar 3))) (sSet 2 (eOp (gInt fMod) (eVar 2) (eVar 3))) (sSet 3 (eOp (gInt fMod) (eVar 3) (eVar 2)))))
    (sSeq (sSet 4 (eOp gAdd (eVar 2) (eVar 3)))
    (sSeq (sIf (eT (eOp (gInt fLt) (eVar 1) (eD (.int 0)))) (sSet 4 (eOp (gInt fSub) (eD (.int 0)) (eVar 4))) (sNil))
    (sRet (eTup (aCons (eOp (gInt fDiv) (eVar 0) (eVar 4)) (aCons (eOp (gInt fDiv) (eVar 1) (eVar 4)) (aNil))))))))
noncomputable def m__law_lowest : Fn := mkF 2 5 b__law_lowest
theorem en__law_lowest {v0 v1 : Vl} {h : Hh} {Q : Vl → Hh → Prop} {E : XP} (w : Ws (b__law_lowest [some v0, some v1, none, none, none] h) (fun _ h1 => RetK h.length Q (.d .none) h1) ⟨RetK h.length Q, fun _ _ => False, fun _ _ => False, fun c fs _ h1 => E c fs (h1.take h.length)⟩) : Wp (m__law_lowest [v0, v1] h) Q E := wp_def rfl rfl w
noncomputable def bl__law_power_1 : Sv := sSet 2 (eOp (gInt fMul) (eVar 2) (eVar 0))
noncomputable def b__law_power : Sv := sSeq (sSet 2 (eD (.int 1)))
    (sSeq (sFor (iRange1 (aCons (eBlt gAbs (aCons (eVar 1) (aNil))) (aNil))) (gN 3) bl__law_power_1)
    (sRet (eIf (eT (eOp (gInt fGe) (eVar 1) (eD (.int 0)))) (eTup (aCons (eVar 2) (aCons (eD (.int 1)) (aNil)))) (eTup (aCons (eD (.int 1)) (aCons (eVar 2) (aNil)))))))
noncomputable def m__law_power : Fn := mkF 2 4 b__law_power
theorem en__law_power {v0 v1 : Vl} {h : Hh} {Q : Vl → Hh → Prop} {E : XP} (w : Ws (b__law_power [some v0, some v1, none, none] h) (fun _ h1 => RetK h.length Q (.d .none) h1) ⟨RetK h.length Q, fun _ _ => False, fun _ _ => False, fun c fs _ h1 => E c fs (h1.take h.length)⟩) : Wp (m__law_power [v0, v1] h) Q E := wp_def rfl rfl w
noncomputable def bl__law_rising_1 : Sv := sSeq (sSet 8 (eCall m__law_power (aCons (eVar 1) (aCons (eVar 7) (aNil)))))
    (sSeq (sSet 9 (eIf (eT (eOp gEq (eVar 7) (eVar 3))) (eD (.int 1)) (eOp (gInt fDiv) (eVar 5) (eVar 1))))
    (sSet 6 (eFz (eOp gAdd (eVar 6) (eFz (eLc [10] (iRange2 (aCons (eVar 9) (aCons (eVar 5) (aNil)))) (gN 10) (tvYes) (eCall m__law_lowest (aCons (eOp (gInt fMul) (eVar 10) (eOp gIx (eVar 8) (eD (.int 0)))) (aCons (eOp gIx (eVar 8) (eD (.int 1))) (aNil))))))))))
noncomputable def b__law_rising : Sv := sSeq (sAsg (gTupT 4 (gsCons (gN 1) (gsCons (gN 2) (gsCons (gN 3) (gsCons (gN 4) (gsNil)))))) (eVar 0))
    (sSeq (sSet 5 (eOp gIx (eCall m__law_power (aCons (eVar 1) (aCons (eVar 2) (aNil)))) (eD (.int 0))))
    (sSeq (sSet 6 (eFz (eLst (aNil))))
    (sSeq (sFor (iRange2 (aCons (eVar 3) (aCons (eOp gAdd (eVar 3) (eD (.int 3))) (aNil)))) (gN 7) bl__law_rising_1)
    (sRet (eVar 6)))))
noncomputable def m__law_rising : Fn := mkF 1 11 b__law_rising
theorem en__law_rising {v0 : Vl} {h : Hh} {Q : Vl → Hh → Prop} {E : XP} (w : Ws (b__law_rising [some v0, none, none, none, none, none, none, none, none, none, none] h) (fun _ h1 => RetK h.length Q (.d .none) h1) ⟨RetK h.length Q, fun _ _ => False, fun _ _ => False, fun c fs _ h1 => E c fs (h1.take h.length)⟩) : Wp (m__law_rising [v0] h) Q E := wp_def rfl rfl w
noncomputable def b__law_is_great : Sv := sSeq (sSet 2 (eD .none))
    (sSeq (sSet 3 (eD .none))
    (sSeq (sTry ["TooGreat"] ["BadRuler", "BadMark"] 4 (sSet 3 (eCall m_marks_between (aCons (eVar 0) (aCons (eTup (aCons (eD (.int 0)) (aCons (eD (.int 1)) (aNil)))) (aCons (eCall m_mark_at (aCons (eVar 0) (aCons (eOp (gInt fSub) (eVar 1) (eD (.int 1))) (aNil)))) (aNil)))))) (sSet 2 (eVar 4)))
    (sSeq (sIf (eT (eOp gIsN (eVar 2) (eD .none))) (sRet (eOp gNe (eBlt gLen (aCons (eVar 3) (aNil))) (eVar 1))) (sNil))
    (sRet (eAnd (eNot (eIsE ["BadMark"] ["BadRuler", "TooGreat"] (eVar 2))) (eIsE ["BadRuler", "BadMark", "TooGreat"] [] (eVar 2)))))))
noncomputable def m__law_is_great : Fn := mkF 2 5 b__law_is_great
theorem en__law_is_great {v0 v1 : Vl} {h : Hh} {Q : Vl → Hh → Prop} {E : XP} (w : Ws (b__law_is_great [some v0, some v1, none, none, none] h) (fun _ h1 => RetK h.length Q (.d .none) h1) ⟨RetK h.length Q, fun _ _ => False, fun _ _ => False, fun c fs _ h1 => E c fs (h1.take h.length)⟩) : Wp (m__law_is_great [v0, v1] h) Q E := wp_def rfl rfl w
noncomputable def bl__law_two_right_1 : Sv := sIf (eT (eOp gNe (eCall m_middle_mark (aCons (eVar 0) (aCons (eOp gIy (eVar 1) (eVar 10)) (aCons (eOp gIy (eVar 1) (eVar 11)) (aNil))))) (eOp gIy (eVar 1) (eOp gAdd (eOp (gInt fDiv) (eOp (gInt fSub) (eOp gAdd (eVar 8) (eVar 9)) (eOp (gInt fMul) (eD (.int 2)) (eVar 4))) (eD (.int 2))) (eVar 4))))) (sRet (eD (.bool false))) (sNil)
noncomputable def b__law_two_right : Sv := sSeq (sSet 4 (eOp (gInt fDiv) (eBlt gLen (aCons (eVar 1) (aNil))) (eD (.int 2))))
    (sSeq (sPar 5 6 (aCons (eOp gIy (eVar 1) (eVar 2)) (aCons (eOp gIy (eVar 1) (eVar 3)) (aNil))))
    (sSeq (sSet 7 (eCall m_rank_of (aCons (eVar 0) (aCons (eVar 5) (aNil)))))
    (sSeq (sIf (tvOr (eT (eIsi .bool (eVar 7))) (tvOr (eT (eOp gNe (eVar 7) (eOp (gInt fSub) (eVar 2) (eVar 4)))) (eT (eOp gNe (eCall m_mark_at (aCons (eVar 0) (aCons (eVar 7) (aNil)))) (eVar 5))))) (sRet (eD (.bool false))) (sNil))
    (sSeq (sIf (tvOr (eT (eOp gNe (eCall m_beside (aCons (eVar 0) (aCons (eVar 5) (aCons (eOp (gInt fSub) (eVar 3) (eVar 2)) (aNil))))) (eVar 6))) (eT (eOp gNe (eCall m_many_between (aCons (eVar 0) (aCons (eVar 5) (aCons (eVar 6) (aNil))))) (eBlt gMax (aCons (eD (.int 0)) (aCons (eOp gAdd (eOp (gInt fSub) (eVar 3) (eVar 2)) (eD (.int 1))) (aNil))))))) (sRet (eD (.bool false))) (sNil))
    (sSeq (sPar 8 9 (aCons (eBlt gMin (aCons (eVar 2) (aCons (eVar 3) (aNil)))) (aCons (eBlt gMax (aCons (eVar 2) (aCons (eVar 3) (aNil)))) (aNil))))
    (sSeq (sFor (iv itQ (eTup (aCons (eTup (aCons (eVar 8) (aCons (eVar 9) (aNil)))) (aCons (eTup (aCons (eVar 9) (aCons (eVar 8) (aNil)))) (aNil))))) (gTupT 2 (gsCons (gN 10) (gsCons (gN 11) (gsNil)))) bl__law_two_right_1)
    (sSeq (sSet 12 (eCall m_marks_between (aCons (eVar 0) (aCons (eOp gIy (eVar 1) (eVar 8)) (aCons (eOp gIy (eVar 1) (eVar 9)) (aNil))))))
    (sSeq (sIf (tvOr (tvNot (eT (eIsi .list (eVar 12)))) (eT (eOp gNe (eVar 12) (eFz (eSl (eVar 1) (oSome (eVar 8)) (oSome (eOp gAdd (eVar 9) (eD (.int 1))))))))) (sRet (eD (.bool false))) (sNil))
    (sSeq (sExpr (eMt tyL gApp (eVar 12) (aCons (eVar 5) (aNil))))
    (sRet (eOp gEq (eCall m_marks_between (aCons (eVar 0) (aCons (eVar 5) (aCons (eVar 6) (aNil))))) (eIf (eT (eOp (gInt fLe) (eVar 2) (eVar 3))) (eFz (eSl (eVar 1) (oSome (eVar 2)) (oSome (eOp gAdd (eVar 3) (eD (.int 1)))))) (eFz (eLst (aNil)))))))))))))))
noncomputable def m__law_two_right : Fn := mkF 4 13 b__law_two_right
theorem en__law_two_right {v0 v1 v2 v3 : Vl} {h : Hh} {Q : Vl → Hh → Prop} {E : XP} (w : Ws (b__law_two_right [some v0, some v1, some v2, some v3, none, none, none, none, none, none, none, none, none] h) (fun _ h1 => RetK h.length Q (.d .none) h1) ⟨RetK h.length Q, fun _ _ => False, fun _ _ => False, fun c fs _ h1 => E c fs (h1.take h.length)⟩) : Wp (m__law_two_right [v0, v1, v2, v3] h) Q E := wp_def rfl rfl w
noncomputable def b__law_is_refused : Sv := sSeq (sSet 4 (eD .none))
    (sSeq (sTry ["TooGreat"] ["BadRuler", "BadMark"] 5 (sIf (eT (eOp gEq (eVar 0) (eD (.int 0)))) (sExpr (eCall m_mark_at (aCons (eVar 1) (aCons (eVar 2) (aNil))))) (sIf (eT (eOp gEq (eVar 0) (eD (.int 1)))) (sExpr (eCall m_beside (aCons (eVar 1) (aCons (eVar 2) (aCons (eVar 3) (aNil)))))) (sExpr (eCall m_marks_between (aCons (eVar 1) (aCons (eVar 2) (aCons (eVar 3) (aNil)))))))) (sSet 4 (eVar 5)))
    (sRet (eAnd (eOp gNotN (eVar 4) (eD .none)) (eNot (eIsE ["BadMark"] ["BadRuler", "TooGreat"] (eVar 4))))))
noncomputable def m__law_is_refused : Fn := mkF 4 6 b__law_is_refused
theorem en__law_is_refused {v0 v1 v2 v3 : Vl} {h : Hh} {Q : Vl → Hh → Prop} {E : XP} (w : Ws (b__law_is_refused [some v0, some v1, some v2, some v3, none, none] h) (fun _ h1 => RetK h.length Q (.d .none) h1) ⟨RetK h.length Q, fun _ _ => False, fun _ _ => False, fun c fs _ h1 => E c fs (h1.take h.length)⟩) : Wp (m__law_is_refused [v0, v1, v2, v3] h) Q E := wp_def rfl rfl w
noncomputable def bl__law_far_right_1 : Sv := sSet 0 (eOp (gInt fMul) (eVar 0) (eD (.int 2)))
noncomputable def bl__law_far_right_2 : Sv := sIf (tvNot (eT (eCall m__law_is_refused (aCons (eD (.int 2)) (aCons (eVar 3) (aCons (eTup (aCons (eVar 6) (aCons (eD (.int 1)) (aNil)))) (aCons (eTup (aCons (eVar 2) (aCons (eD (.int 1)) (aNil)))) (aNil)))))))) (sRet (eD (.bool false))) (sNil)
noncomputable def bl__law_far_right_3 : Sv := sSeq (sIf (tvOr (eT (eOp gNe (eCall m_rank_of (aCons (eVar 3) (aCons (eTup (aCons (eVar 0) (aCons (eD (.int 1)) (aNil)))) (aNil)))) (eVar 4))) (eT (eOp gNe (eCall m_mark_at (aCons (eVar 3) (aCons (eVar 4) (aNil)))) (eTup (aCons (eVar 0) (aCons (eD (.int 1)) (aNil))))))) (sRet (eD (.bool false))) (sNil))
    (sSeq (sIf (tvOr (eT (eOp gNe (eCall m_mark_at (aCons (eVar 3) (aCons (eOp (gInt fSub) (eD (.int 0)) (eVar 4)) (aNil)))) (eTup (aCons (eOp (gInt fSub) (eD (.int 0)) (eVar 0)) (aCons (eD (.int 1)) (aNil)))))) (tvNot (eT (eCall m__law_is_refused (aCons (eD (.int 0)) (aCons (eVar 3) (aCons (eOp gAdd (eVar 4) (eVar 5)) (aCons (eD .none) (aNil))))))))) (sRet (eD (.bool false))) (sNil))
    (sSeq (sIf (tvOr (tvNot (eT (eCall m__law_is_refused (aCons (eD (.int 1)) (aCons (eVar 3) (aCons (eTup (aCons (eVar 0) (aCons (eD (.int 1)) (aNil)))) (aCons (eVar 5) (aNil)))))))) (tvNot (eT (eCall m__law_is_refused (aCons (eD (.int 1)) (aCons (eVar 3) (aCons (eTup (aCons (eOp (gInt fSub) (eD (.int 0)) (eVar 0)) (aCons (eD (.int 1)) (aNil)))) (aCons (eOp (gInt fSub) (eD (.int 0)) (eVar 5)) (aNil))))))))) (sRet (eD (.bool false))) (sNil))
    (sSeq (sFor (iv itQ (eTup (aCons (eVar 0) (aCons (eVar 2) (aNil))))) (gN 6) bl__law_far_right_2)
    (sSeq (sIf (tvOr (eT (eOp gNotN (eCall m_need_mark (aCons (eVar 3) (aCons (eTup (aCons (eVar 2) (aCons (eD (.int 1)) (aNil)))) (aNil)))) (eD .none))) (eT (eOp gNe (eCall m_rank_of (aCons (eVar 3) (aCons (eTup (aCons (eVar 2) (aCons (eD (.int 1)) (aNil)))) (aNil)))) (eOp gAdd (eVar 4) (eVar 5))))) (sRet (eD (.bool false))) (sNil))
    (sSeq (sIf (eT (eOp gNe (eCall m_beside (aCons (eVar 3) (aCons (eTup (aCons (eVar 2) (aCons (eD (.int 1)) (aNil)))) (aCons (eOp (gInt fSub) (eD (.int 0)) (eVar 5)) (aNil))))) (eTup (aCons (eVar 0) (aCons (eD (.int 1)) (aNil)))))) (sRet (eD (.bool false))) (sNil))
    (sSeq (sIf (eT (eOp gNe (eCall m_many_between (aCons (eVar 3) (aCons (eTup (aCons (eVar 0) (aCons (eD (.int 1)) (aNil)))) (aCons (eTup (aCons (eVar 2) (aCons (eD (.int 1)) (aNil)))) (aNil))))) (eOp gAdd (eVar 5) (eD (.int 1))))) (sRet (eD (.bool false))) (sNil))
    (sIf (eT (eOp gNe (eCall m_middle_mark (aCons (eVar 3) (aCons (eTup (aCons (eVar 2) (aCons (eD (.int 1)) (aNil)))) (aCons (eTup (aCons (eOp (gInt fMul) (eVar 2) (eD (.int 4))) (aCons (eD (.int 1)) (aNil)))) (aNil))))) (eTup (aCons (eOp (gInt fMul) (eVar 2) (eD (.int 2))) (aCons (eD (.int 1)) (aNil)))))) (sRet (eD (.bool false))) (sNil))))))))
noncomputable def b__law_far_right : Sv := sSeq (sSet 0 (eD (.int 1)))
    (sSeq (sFor (iRange1 (aCons (eD (.int 1993)) (aNil))) (gN 1) bl__law_far_right_1)
    (sSeq (sSet 2 (eOp (gInt fMul) (eVar 0) (eD (.int 2))))
    (sSeq (sFor (iv itQ (eTup (aCons (eTup (aCons (eTup (aCons (eD (.int 2)) (aCons (eD (.int 1)) (aCons (eNeg (eD (.int 100))) (aCons (eD (.str "near")) (aNil)))))) (aCons (eD (.int 2094)) (aCons (eD (.int 1)) (aNil))))) (aCons (eTup (aCons (eTup (aCons (eD (.int 2)) (aCons (eD (.int 3)) (aCons (eNeg (eD (.int 100))) (aCons (eD (.str "up")) (aNil)))))) (aCons (eOp gAdd (eOp (gInt fMul) (eD (.int 4)) (eD (.int 2091))) (eD (.int 4))) (aCons (eD (.int 4)) (aNil))))) (aNil))))) (gTupT 3 (gsCons (gN 3) (gsCons (gN 4) (gsCons (gN 5) (gsNil))))) bl__law_far_right_3)
    (sRet (eD (.bool true))))))
noncomputable def m__law_far_right : Fn := mkF 0 7 b__law_far_right
theorem en__law_far_right {h : Hh} {Q : Vl → Hh → Prop} {E : XP} (w : Ws (b__law_far_right [none, none, none, none, none, none, none] h) (fun _ h1 => RetK h.length Q (.d .none) h1) ⟨RetK h.length Q, fun _ _ => False, fun _ _ => False, fun c fs _ h1 => E c fs (h1.take h.length)⟩) : Wp (m__law_far_right [] h) Q E := wp_def rfl rfl w
noncomputable def bl_law_1 : Sv := sSeq (sSet 12 (eCall m__law_take (aCons (eVar 4) (aCons (eBlt gLen (aCons (eVar 10) (aNil))) (aNil)))))
    (sSeq (sSet 13 (eIf (eT (eOp (gInt fGt) (eVar 11) (eD (.int 0)))) (eCall m__law_take (aCons (eVar 4) (aCons (eBlt gLen (aCons (eVar 10) (aNil))) (aNil)))) (eBlt gMin (aCons (eOp (gInt fSub) (eBlt gLen (aCons (eVar 10) (aNil))) (eD (.int 1))) (aCons (eOp gAdd (eVar 12) (eCall m__law_take (aCons (eVar 4) (aCons (eD (.int 6)) (aNil))))) (aNil))))))
    (sIf (tvNot (eT (eCall m__law_two_right (aCons (eVar 8) (aCons (eVar 10) (aCons (eVar 12) (aCons (eVar 13) (aNil)))))))) (sRet (eD (.bool false))) (sNil)))
noncomputable def bl_law_2 : Sv := sSeq (sSet 4 (eCall m__law_stream (aCons (eOp gAdd (eVar 3) (eBlt gSum (aCons (eFz (eLc [5] (iv itQ (eFz (eSl (eVar 0) (oSome (eOp gAdd (eOp (gInt fMul) (eD (.int 3)) (eVar 2)) (eD (.int 1)))) (oSome (eOp gAdd (eOp (gInt fMul) (eD (.int 3)) (eVar 2)) (eD (.int 3))))))) (gN 5) (tvYes) (eCall m__law_mixed (aCons (eVar 5) (aCons (eD (.int 3)) (aNil)))))) (aNil)))) (aCons (eVar 2) (aNil)))))
    (sSeq (sSet 6 (eOp gAdd (eD (.int 2)) (eCall m__law_take (aCons (eVar 4) (aCons (eD (.int 4)) (aNil))))))
    (sSeq (sSet 7 (eOp gAdd (eD (.int 1)) (eCall m__law_take (aCons (eVar 4) (aCons (eIf (eT (eOp (gInt fLt) (eVar 6) (eD (.int 4)))) (eD (.int 3)) (eD (.int 2))) (aNil))))))
    (sSeq (sSet 8 (eTup (aCons (eVar 6) (aCons (eVar 7) (aCons (eOp (gInt fSub) (eCall m__law_take (aCons (eVar 4) (aCons (eD (.int 9)) (aNil)))) (eD (.int 5))) (aCons (eOp gIx (eFz (eLst (aCons (eD (.str "near")) (aCons (eD (.str "down")) (aCons (eD (.str "up")) (aCons (eD (.str "nought")) (aNil))))))) (eCall m__law_take (aCons (eVar 4) (aCons (eD (.int 4)) (aNil))))) (aNil)))))))
    (sSeq (sSet 9 (eCall m__law_rising (aCons (eVar 8) (aNil))))
    (sSeq (sSet 10 (eFz (eOp gAdd (eFz (eOp gAdd (eFz (eLc [5] (iRev (aCons (eVar 9) (aNil))) (gN 5) (tvYes) (eTup (aCons (eOp (gInt fSub) (eD (.int 0)) (eOp gIx (eVar 5) (eD (.int 0)))) (aCons (eOp gIx (eVar 5) (eD (.int 1))) (aNil)))))) (eFz (eLst (aCons (eTup (aCons (eD (.int 0)) (aCons (eD (.int 1)) (aNil)))) (aNil)))))) (eVar 9))))
    (sSeq (sFor (iRange1 (aCons (eD (.int 2)) (aNil))) (gN 11) bl_law_1)
    (sSeq (sSet 14 (eOp gAdd (eTup (aCons (eD (.int 10)) (aCons (eD (.int 3)) (aNil)))) (eFz (eSl (eVar 8) (oSome (eD (.int 2))) (oNone)))))
    (sIf (tvAnd (eT (eOp gEq (eVar 2) (eD (.int 0)))) (tvAnd (eT (eVar 1)) (tvOr (eT (eCall m__law_is_great (aCons (eVar 14) (aCons (eD (.int 5000)) (aNil))))) (tvNot (eT (eCall m__law_is_great (aCons (eVar 14) (aCons (eD (.int 5001)) (aNil))))))))) (sRet (eD (.bool false))) (sNil)))))))))
noncomputable def b_law : Sv := sSeq (sSet 1 (eOp gEq (eOp (gInt fMod) (eBlt gLen (aCons (eVar 0) (aNil))) (eD (.int 4))) (eD (.int 0))))
    (sSeq (sIf (tvAnd (eT (eVar 1)) (tvNot (eT (eCall m__law_far_right aNil)))) (sRet (eD (.bool false))) (sNil))
    (sSeq (sFor (iEnumB (aCons (eFz (eSt (eFz (eOp gAdd (eVar 0) (eFz (eLst (aCons (eD (.int 0)) (aNil)))))) (oNone) (oSome (eD (.int 63))) (oSome (eD (.int 3))))) (aNil))) (gTupT 2 (gsCons (gN 2) (gsCons (gN 3) (gsNil)))) bl_law_2)
    (sRet (eD (.bool true)))))
noncomputable def m_law : Fn := mkF 1 15 b_law
theorem en_law {v0 : Vl} {h : Hh} {Q : Vl → Hh → Prop} {E : XP} (w : Ws (b_law [some v0, none, none, none, none, none, none, none, none, none, none, none, none, none, none] h) (fun _ h1 => RetK h.length Q (.d .none) h1) ⟨RetK h.length Q, fun _ _ => False, fun _ _ => False, fun c fs _ h1 => E c fs (h1.take h.length)⟩) : Wp (m_law [v0] h) Q E := wp_def rfl rfl w
def topS (i : Nat) : Stmt := PySem.Challenge.pw_roundsure_k07_marks_in_order.main.body.getD i (.Pass ⟨0, 0, 0, 0⟩)
structure Top (K : PySem.W.Frag) (mg : Str → Option Value) : Prop where
  f_ValueError : mg "ValueError" = none
  f_abs : mg "abs" = none
  f_bool : mg "bool" = none
  f_enumerate : mg "enumerate" = none
  f_int : mg "int" = none
  f_isinstance : mg "isinstance" = none
  f_len : mg "len" = none
  f_list : mg "list" = none
  f_max : mg "max" = none
  f_min : mg "min" = none
  f_range : mg "range" = none
  f_reversed : mg "reversed" = none
  f_str : mg "str" = none
  f_sum : mg "sum" = none
  f_tuple : mg "tuple" = none
  c_GREATEST : GConst K mg "GREATEST" c_GREATEST
  c_MOST_FAR : GConst K mg "MOST_FAR" c_MOST_FAR
  c_MOST_MARKS : GConst K mg "MOST_MARKS" c_MOST_MARKS
  c_WAYS : GConst K mg "WAYS" c_WAYS
  i_BadMark : IsO K mg "BadMark" ["BadMark"] ["BadRuler", "TooGreat"]
  i_ValueError : IsB K mg "ValueError" ["BadRuler", "BadMark", "TooGreat"] []
  t_TooGreat : CatC K mg "TooGreat" ["TooGreat"] ["BadRuler", "BadMark"]
  x_BadMark : ErrC K mg "BadMark"
  x_BadRuler : ErrC K mg "BadRuler"
  x_TooGreat : ErrC K mg "TooGreat"
section
variable {P : Program} {w : World} {K : PySem.W.Frag} {mg : Str → Option Value} {base : Heap}
abbrev s_is_whole : Stmt := topS 7
theorem sc_is_whole : FnScope ["thing"] ["thing"] (defScope s_is_whole) := ⟨rfl, rfl, rfl, by decide +kernel, rfl, by decide +kernel, by decide +kernel⟩
theorem ok_is_whole {f : Addr} {fd : FuncData} (T : Top K mg)  (F : FnP K "is_whole" s_is_whole f fd) (g : mg "is_whole" = some (.ref f)) : Df P w K mg base 1 "is_whole" ["thing"] m_is_whole :=
  have nd := sc_is_whole.nd
  df_of (kk := 1) (NN := 1) (body := b_is_whole) F g sc_is_whole rfl rfl (fun _ _ _ _ _ _ _ us hl => match us, hl with | [_], _ => rfl) fun cdv A outer s H E hr =>
    ess_one (es_ret (ee_and (ee_isi .int rfl T.f_isinstance rfl T.f_int (by decide +kernel) (by decide) (by decide) (ee_var 0)) (ee_one (ee_not (ee_isi .bool rfl T.f_isinstance rfl T.f_bool (by decide +kernel) (by decide) (by decide) (ee_var 0))))))
abbrev s_is_among : Stmt := topS 8
theorem sc_is_among : FnScope ["thing", "least", "most"] ["thing", "least", "most"] (defScope s_is_among) := ⟨rfl, rfl, rfl, by decide +kernel, rfl, by decide +kernel, by decide +kernel⟩
theorem ok_is_among {f : Addr} {fd : FuncData} (T : Top K mg) (D_is_whole : Df P w K mg base 1 "is_whole" ["thing"] m_is_whole) (F : FnP K "is_among" s_is_among f fd) (g : mg "is_among" = some (.ref f)) : Df P w K mg base 2 "is_among" ["thing", "least", "most"] m_is_among :=
  have nd := sc_is_among.nd
  df_of (kk := 3) (NN := 3) (body := b_is_among) F g sc_is_among rfl rfl (fun _ _ _ _ _ _ _ us hl => match us, hl with | [_, _, _], _ => rfl) fun cdv A outer s H E hr =>
    ess_one (es_ret (ee_and (ec D_is_whole hr tk_of (ea_cons (ee_var 0) (ea_nil))) (ee_one (ee_chain op_le op_le ok_le ok_le (ee_var 1) (ee_var 0) (ee_var 2)))))
abbrev s_shared : Stmt := topS 9
theorem sc_shared : FnScope ["one", "other"] ["one", "other"] (defScope s_shared) := ⟨rfl, rfl, rfl, by decide +kernel, rfl, by decide +kernel, by decide +kernel⟩
theorem ok_shared {f : Addr} {fd : FuncData} (T : Top K mg)  (F : FnP K "shared" s_shared f fd) (g : mg "shared" = some (.ref f)) : Df P w K mg base 1 "shared" ["one", "other"] m_shared :=
  have nd := sc_shared.nd
  df_of (kk := 2) (NN := 2) (body := b_shared) F g sc_shared rfl rfl (fun _ _ _ _ _ _ _ us hl => match us, hl with | [_, _], _ => rfl) fun cdv A outer s H E hr =>
    ess_cons (es_set (i := 0) nd (ee_blt call_abs ok_abs (by rfl) T.f_abs (by decide +kernel) (ea_cons (ee_var 0) (ea_nil))))
    (ess_cons (es_set (i := 1) nd (ee_blt call_abs ok_abs (by rfl) T.f_abs (by decide +kernel) (ea_cons (ee_var 1) (ea_nil))))
    (ess_cons (es_while po_of (et_cmp op_gt ok_gt (ee_var 1) (ee_int) (nomark _)) (ess_one (es_par (i := 0) (j := 1) rfl nd (ea_cons (ee_var 1) (ea_cons (ee_op op_modN ok_mod (ee_var 0) (ee_var 1)) (ea_nil))))))
    (ess_one (es_ret (ee_var 0)))))
abbrev s_fraction : Stmt := topS 10
theorem sc_fraction : FnScope ["above", "below", "part"] ["above", "below"] (defScope s_fraction) := ⟨rfl, rfl, rfl, by decide +kernel, rfl, by decide +kernel, by decide +kernel⟩
theorem ok_fraction {f : Addr} {fd : FuncData} (T : Top K mg) (D_shared : Df P w K mg base 1 "shared" ["one", "other"] m_shared) (F : FnP K "fraction" s_fraction f fd) (g : mg "fraction" = some (.ref f)) : Df P w K mg base 2 "fraction" ["above", "below"] m_fraction :=
  have nd := sc_fraction.nd
  df_of (kk := 2) (NN := 3) (body := b_fraction) F g sc_fraction rfl rfl (fun _ _ _ _ _ _ _ us hl => match us, hl with | [_, _], _ => rfl) fun cdv A outer s H E hr =>
    ess_cons (es_set (i := 2) nd (ec D_shared hr tk_of (ea_cons (ee_var 0) (ea_cons (ee_var 1) (ea_nil)))))
    (ess_cons (es_if (et_cmp op_lt ok_lt (ee_var 1) (ee_int) (nomark _)) (ess_one (es_set (i := 2) nd (ee_op op_sub ok_sub (ee_int) (ee_var 2)))) (ess_nil))
    (ess_one (es_ret (ee_tup (ea_cons (ee_op op_fdivC ok_div (ee_var 0) (ee_var 2)) (ea_cons (ee_op op_fdivC ok_div (ee_var 1) (ee_var 2)) (ea_nil)))))))
abbrev s_is_fraction : Stmt := topS 11
theorem sc_is_fraction : FnScope ["thing"] ["thing"] (defScope s_is_fraction) := ⟨rfl, rfl, rfl, by decide +kernel, rfl, by decide +kernel, by decide +kernel⟩
theorem ok_is_fraction {f : Addr} {fd : FuncData} (T : Top K mg) (D_is_whole : Df P w K mg base 1 "is_whole" ["thing"] m_is_whole) (D_shared : Df P w K mg base 1 "shared" ["one", "other"] m_shared) (F : FnP K "is_fraction" s_is_fraction f fd) (g : mg "is_fraction" = some (.ref f)) : Df P w K mg base 2 "is_fraction" ["thing"] m_is_fraction :=
  have nd := sc_is_fraction.nd
  df_of (kk := 1) (NN := 1) (body := b_is_fraction) F g sc_is_fraction rfl rfl (fun _ _ _ _ _ _ _ us hl => match us, hl with | [_], _ => rfl) fun cdv A outer s H E hr =>
    ess_cons (es_if (EW.et (ew_or (et_not (et_val (ee_isi .tuple rfl T.f_isinstance rfl T.f_tuple (by decide +kernel) (by decide) (by decide) (ee_var 0)))) (ew_or (et_cmp (OpR.or op_ne (op_neD hr.units)) ok_ne (ee_blt call_len ok_len (by rfl) T.f_len PySem.boot_len (ea_cons (ee_var 0) (ea_nil))) (ee_int) (nomark _)) (ew_or (et_not (et_val (ec D_is_whole hr tk_of (ea_cons (ee_ix (ee_var 0) (ee_int)) (ea_nil))))) (ew_or1 (et_not (et_val (ec D_is_whole hr tk_of (ea_cons (ee_ix (ee_var 0) (ee_int)) (ea_nil)))))))))) (ess_one (es_ret (ee_bl))) (ess_nil))
    (ess_one (es_ret (ee_and (ee_cmp op_gt ok_gt (ee_ix (ee_var 0) (ee_int)) (ee_int) (nomark _)) (ee_one (ee_cmp (OpR.or op_eq (op_eqD hr.units)) ok_eq (ec D_shared hr tk_of (ea_cons (ee_ix (ee_var 0) (ee_int)) (ea_cons (ee_ix (ee_var 0) (ee_int)) (ea_nil)))) (ee_int) (nomark _))))))
abbrev s_is_great : Stmt := topS 12
theorem sc_is_great : FnScope ["number"] ["number"] (defScope s_is_great) := ⟨rfl, rfl, rfl, by decide +kernel, rfl, by decide +kernel, by decide +kernel⟩
theorem ok_is_great {f : Addr} {fd : FuncData} (T : Top K mg)  (F : FnP K "is_great" s_is_great f fd) (g : mg "is_great" = some (.ref f)) : Df P w K mg base 1 "is_great" ["number"] m_is_great :=
  have nd := sc_is_great.nd
  df_of (kk := 1) (NN := 1) (body := b_is_great) F g sc_is_great rfl rfl (fun _ _ _ _ _ _ _ us hl => match us, hl with | [_], _ => rfl) fun cdv A outer s H E hr =>
    ess_one (es_ret (ee_or (ee_cmp op_gt ok_gt (ee_blt call_abs ok_abs (by rfl) T.f_abs (by decide +kernel) (ea_cons (ee_ix (ee_var 0) (ee_int)) (ea_nil))) (eg T.c_GREATEST) (nomark _)) (ee_one (ee_cmp op_gt ok_gt (ee_ix (ee_var 0) (ee_int)) (eg T.c_GREATEST) (nomark _)))))
abbrev s_need_small : Stmt := topS 13
theorem sc_need_small : FnScope ["number"] ["number"] (defScope s_need_small) := ⟨rfl, rfl, rfl, by decide +kernel, rfl, by decide +kernel, by decide +kernel⟩
theorem ok_need_small {f : Addr} {fd : FuncData} (T : Top K mg) (D_is_great : Df P w K mg base 1 "is_great" ["number"] m_is_great) (F : FnP K "need_small" s_need_small f fd) (g : mg "need_small" = some (.ref f)) : Df P w K mg base 2 "need_small" ["number"] m_need_small :=
  have nd := sc_need_small.nd
  df_of (kk := 1) (NN := 1) (body := b_need_small) F g sc_need_small rfl rfl (fun _ _ _ _ _ _ _ us hl => match us, hl with | [_], _ => rfl) fun cdv A outer s H E hr =>
    ess_cons (es_if (et_val (ec D_is_great hr tk_of (ea_cons (ee_var 0) (ea_nil)))) (ess_one (es_raise T.x_TooGreat tk_of)) (ess_nil))
    (ess_one (es_ret (ee_var 0)))
abbrev s_whole_of : Stmt := topS 14
theorem sc_whole_of : FnScope ["number"] ["number"] (defScope s_whole_of) := ⟨rfl, rfl, rfl, by decide +kernel, rfl, by decide +kernel, by decide +kernel⟩
theorem ok_whole_of {f : Addr} {fd : FuncData} (T : Top K mg)  (F : FnP K "whole_of" s_whole_of f fd) (g : mg "whole_of" = some (.ref f)) : Df P w K mg base 1 "whole_of" ["number"] m_whole_of :=
  have nd := sc_whole_of.nd
  df_of (kk := 1) (NN := 1) (body := b_whole_of) F g sc_whole_of rfl rfl (fun _ _ _ _ _ _ _ us hl => match us, hl with | [_], _ => rfl) fun cdv A outer s H E hr =>
    ess_one (es_ret (ee_tup (ea_cons (ee_var 0) (ea_cons (ee_int) (ea_nil)))))
abbrev s_turned : Stmt := topS 15
theorem sc_turned : FnScope ["one"] ["one"] (defScope s_turned) := ⟨rfl, rfl, rfl, by decide +kernel, rfl, by decide +kernel, by decide +kernel⟩
theorem ok_turned {f : Addr} {fd : FuncData} (T : Top K mg)  (F : FnP K "turned" s_turned f fd) (g : mg "turned" = some (.ref f)) : Df P w K mg base 1 "turned" ["one"] m_turned :=
  have nd := sc_turned.nd
  df_of (kk := 1) (NN := 1) (body := b_turned) F g sc_turned rfl rfl (fun _ _ _ _ _ _ _ us hl => match us, hl with | [_], _ => rfl) fun cdv A outer s H E hr =>
    ess_one (es_ret (ee_tup (ea_cons (ee_op op_sub ok_sub (ee_int) (ee_ix (ee_var 0) (ee_int))) (ea_cons (ee_ix (ee_var 0) (ee_int)) (ea_nil)))))
abbrev s_times : Stmt := topS 16
theorem sc_times : FnScope ["one", "other"] ["one", "other"] (defScope s_times) := ⟨rfl, rfl, rfl, by decide +kernel, rfl, by decide +kernel, by decide +kernel⟩
theorem ok_times {f : Addr} {fd : FuncData} (T : Top K mg) (D_fraction : Df P w K mg base 2 "fraction" ["above", "below"] m_fraction) (F : FnP K "times" s_times f fd) (g : mg "times" = some (.ref f)) : Df P w K mg base 3 "times" ["one", "other"] m_times :=
  have nd := sc_times.nd
  df_of (kk := 2) (NN := 2) (body := b_times) F g sc_times rfl rfl (fun _ _ _ _ _ _ _ us hl => match us, hl with | [_, _], _ => rfl) fun cdv A outer s H E hr =>
    ess_one (es_ret (ec D_fraction hr tk_of (ea_cons (ee_op op_mulC ok_mul (ee_ix (ee_var 0) (ee_int)) (ee_ix (ee_var 1) (ee_int))) (ea_cons (ee_op op_mulC ok_mul (ee_ix (ee_var 0) (ee_int)) (ee_ix (ee_var 1) (ee_int))) (ea_nil)))))
abbrev s_over : Stmt := topS 17
theorem sc_over : FnScope ["one", "other"] ["one", "other"] (defScope s_over) := ⟨rfl, rfl, rfl, by decide +kernel, rfl, by decide +kernel, by decide +kernel⟩
theorem ok_over {f : Addr} {fd : FuncData} (T : Top K mg) (D_fraction : Df P w K mg base 2 "fraction" ["above", "below"] m_fraction) (F : FnP K "over" s_over f fd) (g : mg "over" = some (.ref f)) : Df P w K mg base 3 "over" ["one", "other"] m_over :=
  have nd := sc_over.nd
  df_of (kk := 2) (NN := 2) (body := b_over) F g sc_over rfl rfl (fun _ _ _ _ _ _ _ us hl => match us, hl with | [_, _], _ => rfl) fun cdv A outer s H E hr =>
    ess_one (es_ret (ec D_fraction hr tk_of (ea_cons (ee_op op_mulC ok_mul (ee_ix (ee_var 0) (ee_int)) (ee_ix (ee_var 1) (ee_int))) (ea_cons (ee_op op_mulC ok_mul (ee_ix (ee_var 0) (ee_int)) (ee_ix (ee_var 1) (ee_int))) (ea_nil)))))
abbrev s_size_of : Stmt := topS 18
theorem sc_size_of : FnScope ["one"] ["one"] (defScope s_size_of) := ⟨rfl, rfl, rfl, by decide +kernel, rfl, by decide +kernel, by decide +kernel⟩
theorem ok_size_of {f : Addr} {fd : FuncData} (T : Top K mg)  (F : FnP K "size_of" s_size_of f fd) (g : mg "size_of" = some (.ref f)) : Df P w K mg base 1 "size_of" ["one"] m_size_of :=
  have nd := sc_size_of.nd
  df_of (kk := 1) (NN := 1) (body := b_size_of) F g sc_size_of rfl rfl (fun _ _ _ _ _ _ _ us hl => match us, hl with | [_], _ => rfl) fun cdv A outer s H E hr =>
    ess_one (es_ret (ee_tup (ea_cons (ee_blt call_abs ok_abs (by rfl) T.f_abs (by decide +kernel) (ea_cons (ee_ix (ee_var 0) (ee_int)) (ea_nil))) (ea_cons (ee_ix (ee_var 0) (ee_int)) (ea_nil)))))
abbrev s_is_less : Stmt := topS 19
theorem sc_is_less : FnScope ["one", "other"] ["one", "other"] (defScope s_is_less) := ⟨rfl, rfl, rfl, by decide +kernel, rfl, by decide +kernel, by decide +kernel⟩
theorem ok_is_less {f : Addr} {fd : FuncData} (T : Top K mg)  (F : FnP K "is_less" s_is_less f fd) (g : mg "is_less" = some (.ref f)) : Df P w K mg base 1 "is_less" ["one", "other"] m_is_less :=
  have nd := sc_is_less.nd
  df_of (kk := 2) (NN := 2) (body := b_is_less) F g sc_is_less rfl rfl (fun _ _ _ _ _ _ _ us hl => match us, hl with | [_, _], _ => rfl) fun cdv A outer s H E hr =>
    ess_one (es_ret (ee_cmp op_lt ok_lt (ee_op op_mulC ok_mul (ee_ix (ee_var 0) (ee_int)) (ee_ix (ee_var 1) (ee_int))) (ee_op op_mulC ok_mul (ee_ix (ee_var 1) (ee_int)) (ee_ix (ee_var 0) (ee_int))) (nomark _)))
abbrev s_power : Stmt := topS 20
theorem sc_power : FnScope ["base", "exponent", "found", "square", "left"] ["base", "exponent"] (defScope s_power) := ⟨rfl, rfl, rfl, by decide +kernel, rfl, by decide +kernel, by decide +kernel⟩
theorem ok_power {f : Addr} {fd : FuncData} (T : Top K mg)  (F : FnP K "power" s_power f fd) (g : mg "power" = some (.ref f)) : Df P w K mg base 1 "power" ["base", "exponent"] m_power :=
  have nd := sc_power.nd
  df_of (kk := 2) (NN := 5) (body := b_power) F g sc_power rfl rfl (fun _ _ _ _ _ _ _ us hl => match us, hl with | [_, _], _ => rfl) fun cdv A outer s H E hr =>
    ess_cons (es_set (i := 2) nd (ee_int))
    (ess_cons (es_set (i := 3) nd (ee_var 0))
    (ess_cons (es_set (i := 4) nd (ee_blt call_abs ok_abs (by rfl) T.f_abs (by decide +kernel) (ea_cons (ee_var 1) (ea_nil))))
    (ess_cons (es_while po_of (et_cmp op_gt ok_gt (ee_var 4) (ee_int) (nomark _)) (ess_cons (es_if (et_cmp (OpR.or op_eq (op_eqD hr.units)) ok_eq (ee_op op_modN ok_mod (ee_var 4) (ee_int)) (ee_int) (nomark _)) (ess_one (es_set (i := 2) nd (ee_op op_mulC ok_mul (ee_var 2) (ee_var 3)))) (ess_nil))
    (ess_cons (es_set (i := 4) nd (ee_op op_fdivC ok_div (ee_var 4) (ee_int)))
    (ess_one (es_set (i := 3) nd (ee_ifExp (et_cmp op_gt ok_gt (ee_var 4) (ee_int) (nomark _)) (ee_op op_mulC ok_mul (ee_var 3) (ee_var 3)) (ee_var 3)))))))
    (ess_one (es_ret (ee_ifExp (et_cmp op_ge ok_ge (ee_var 1) (ee_int) (nomark _)) (ee_tup (ea_cons (ee_var 2) (ea_cons (ee_int) (ea_nil)))) (ee_tup (ea_cons (ee_int) (ea_cons (ee_var 2) (ea_nil))))))))))
abbrev s_is_ruler : Stmt := topS 23
theorem sc_is_ruler : FnScope ["thing"] ["thing"] (defScope s_is_ruler) := ⟨rfl, rfl, rfl, by decide +kernel, rfl, by decide +kernel, by decide +kernel⟩
theorem ok_is_ruler {f : Addr} {fd : FuncData} (T : Top K mg) (D_is_among : Df P w K mg base 2 "is_among" ["thing", "least", "most"] m_is_among) (F : FnP K "is_ruler" s_is_ruler f fd) (g : mg "is_ruler" = some (.ref f)) : Df P w K mg base 3 "is_ruler" ["thing"] m_is_ruler :=
  have nd := sc_is_ruler.nd
  df_of (kk := 1) (NN := 1) (body := b_is_ruler) F g sc_is_ruler rfl rfl (fun _ _ _ _ _ _ _ us hl => match us, hl with | [_], _ => rfl) fun cdv A outer s H E hr =>
    ess_cons (es_if (EW.et (ew_or (et_not (et_val (ee_isi .tuple rfl T.f_isinstance rfl T.f_tuple (by decide +kernel) (by decide) (by decide) (ee_var 0)))) (ew_or (et_cmp (OpR.or op_ne (op_neD hr.units)) ok_ne (ee_blt call_len ok_len (by rfl) T.f_len PySem.boot_len (ea_cons (ee_var 0) (ea_nil))) (ee_int) (nomark _)) (ew_or1 (et_not (et_val (ee_isi .str rfl T.f_isinstance rfl T.f_str (by decide +kernel) (by decide) (by decide) (ee_ix (ee_var 0) (ee_int))))))))) (ess_one (es_ret (ee_bl))) (ess_nil))
    (ess_cons (es_if (EW.et (ew_or (et_not (et_val (ec D_is_among hr tk_of (ea_cons (ee_ix (ee_var 0) (ee_int)) (ea_cons (ee_int) (ea_cons (ee_int) (ea_nil))))))) (ew_or (et_not (et_val (ec D_is_among hr tk_of (ea_cons (ee_ix (ee_var 0) (ee_int)) (ea_cons (ee_int) (ea_cons (ee_int) (ea_nil))))))) (ew_or1 (et_not (et_val (ec D_is_among hr tk_of (ea_cons (ee_ix (ee_var 0) (ee_int)) (ea_cons (ee_neg (ee_int)) (ea_cons (ee_int) (ea_nil))))))))))) (ess_one (es_ret (ee_bl))) (ess_nil))
    (ess_one (es_ret (ee_cmp op_in_seq (ok_in false) (ee_ix (ee_var 0) (ee_int)) (eg T.c_WAYS) (by with_unfolding_all rfl)))))
abbrev s_need_ruler : Stmt := topS 24
theorem sc_need_ruler : FnScope ["thing"] ["thing"] (defScope s_need_ruler) := ⟨rfl, rfl, rfl, by decide +kernel, rfl, by decide +kernel, by decide +kernel⟩
theorem ok_need_ruler {f : Addr} {fd : FuncData} (T : Top K mg) (D_is_ruler : Df P w K mg base 3 "is_ruler" ["thing"] m_is_ruler) (F : FnP K "need_ruler" s_need_ruler f fd) (g : mg "need_ruler" = some (.ref f)) : Df P w K mg base 4 "need_ruler" ["thing"] m_need_ruler :=
  have nd := sc_need_ruler.nd
  df_of (kk := 1) (NN := 1) (body := b_need_ruler) F g sc_need_ruler rfl rfl (fun _ _ _ _ _ _ _ us hl => match us, hl with | [_], _ => rfl) fun cdv A outer s H E hr =>
    ess_one (es_if (et_not (et_val (ec D_is_ruler hr tk_of (ea_cons (ee_var 0) (ea_nil))))) (ess_one (es_raise T.x_BadRuler tk_of)) (ess_nil))
abbrev s_is_enough : Stmt := topS 25
theorem sc_is_enough : FnScope ["ruler", "size", "place"] ["ruler", "size", "place"] (defScope s_is_enough) := ⟨rfl, rfl, rfl, by decide +kernel, rfl, by decide +kernel, by decide +kernel⟩
theorem ok_is_enough {f : Addr} {fd : FuncData} (T : Top K mg) (D_is_less : Df P w K mg base 1 "is_less" ["one", "other"] m_is_less) (D_power : Df P w K mg base 1 "power" ["base", "exponent"] m_power) (F : FnP K "is_enough" s_is_enough f fd) (g : mg "is_enough" = some (.ref f)) : Df P w K mg base 2 "is_enough" ["ruler", "size", "place"] m_is_enough :=
  have nd := sc_is_enough.nd
  df_of (kk := 3) (NN := 3) (body := b_is_enough) F g sc_is_enough rfl rfl (fun _ _ _ _ _ _ _ us hl => match us, hl with | [_, _, _], _ => rfl) fun cdv A outer s H E hr =>
    ess_one (es_ret (ec D_is_less hr tk_of (ea_cons (ee_var 1) (ea_cons (ec D_power hr tk_of (ea_cons (ee_ix (ee_var 0) (ee_int)) (ea_cons (ee_op op_addA ok_add (ee_var 2) (ee_ix (ee_var 0) (ee_int))) (ea_nil)))) (ea_nil)))))
abbrev s_place_of : Stmt := topS 26
theorem sc_place_of : FnScope ["ruler", "number", "size", "low", "far", "high", "middle"] ["ruler", "number"] (defScope s_place_of) := ⟨rfl, rfl, rfl, by decide +kernel, rfl, by decide +kernel, by decide +kernel⟩
theorem ok_place_of {f : Addr} {fd : FuncData} (T : Top K mg) (D_size_of : Df P w K mg base 1 "size_of" ["one"] m_size_of) (D_is_enough : Df P w K mg base 2 "is_enough" ["ruler", "size", "place"] m_is_enough) (F : FnP K "place_of" s_place_of f fd) (g : mg "place_of" = some (.ref f)) : Df P w K mg base 3 "place_of" ["ruler", "number"] m_place_of :=
  have nd := sc_place_of.nd
  df_of (kk := 2) (NN := 7) (body := b_place_of) F g sc_place_of rfl rfl (fun _ _ _ _ _ _ _ us hl => match us, hl with | [_, _], _ => rfl) fun cdv A outer s H E hr =>
    ess_cons (es_set (i := 2) nd (ec D_size_of hr tk_of (ea_cons (ee_var 1) (ea_nil))))
    (ess_cons (es_set (i := 3) nd (ee_ix (ee_var 0) (ee_int)))
    (ess_cons (es_if (et_val (ec D_is_enough hr tk_of (ea_cons (ee_var 0) (ea_cons (ee_var 2) (ea_cons (ee_var 3) (ea_nil)))))) (ess_one (es_ret (ee_var 3))) (ess_nil))
    (ess_cons (es_set (i := 4) nd (ee_int))
    (ess_cons (es_while po_of (et_not (et_val (ec D_is_enough hr tk_of (ea_cons (ee_var 0) (ea_cons (ee_var 2) (ea_cons (ee_op op_addA ok_add (ee_var 3) (ee_var 4)) (ea_nil))))))) (ess_one (es_set (i := 4) nd (ee_op op_mulC ok_mul (ee_var 4) (ee_int)))))
    (ess_cons (es_set (i := 5) nd (ee_op op_addA ok_add (ee_var 3) (ee_var 4)))
    (ess_cons (es_set (i := 3) nd (ee_op op_addA ok_add (ee_var 3) (ee_op op_fdivC ok_div (ee_var 4) (ee_int))))
    (ess_cons (es_while po_of (et_cmp op_gt ok_gt (ee_op op_sub ok_sub (ee_var 5) (ee_var 3)) (ee_int) (nomark _)) (ess_cons (es_set (i := 6) nd (ee_op op_fdivC ok_div (ee_op op_addA ok_add (ee_var 3) (ee_var 5)) (ee_int)))
    (ess_one (es_if (et_val (ec D_is_enough hr tk_of (ea_cons (ee_var 0) (ea_cons (ee_var 2) (ea_cons (ee_var 6) (ea_nil)))))) (ess_one (es_set (i := 5) nd (ee_var 6))) (ess_one (es_set (i := 3) nd (ee_var 6)))))))
    (ess_one (es_ret (ee_var 5))))))))))
abbrev s_step_of : Stmt := topS 27
theorem sc_step_of : FnScope ["ruler", "number"] ["ruler", "number"] (defScope s_step_of) := ⟨rfl, rfl, rfl, by decide +kernel, rfl, by decide +kernel, by decide +kernel⟩
theorem ok_step_of {f : Addr} {fd : FuncData} (T : Top K mg) (D_power : Df P w K mg base 1 "power" ["base", "exponent"] m_power) (D_place_of : Df P w K mg base 3 "place_of" ["ruler", "number"] m_place_of) (F : FnP K "step_of" s_step_of f fd) (g : mg "step_of" = some (.ref f)) : Df P w K mg base 4 "step_of" ["ruler", "number"] m_step_of :=
  have nd := sc_step_of.nd
  df_of (kk := 2) (NN := 2) (body := b_step_of) F g sc_step_of rfl rfl (fun _ _ _ _ _ _ _ us hl => match us, hl with | [_, _], _ => rfl) fun cdv A outer s H E hr =>
    ess_one (es_ret (ec D_power hr tk_of (ea_cons (ee_ix (ee_var 0) (ee_int)) (ea_cons (ec D_place_of hr tk_of (ea_cons (ee_var 0) (ea_cons (ee_var 1) (ea_nil)))) (ea_nil)))))
abbrev s_whole_by : Stmt := topS 28
theorem sc_whole_by : FnScope ["way", "above", "below", "found", "rest", "is_up"] ["way", "above", "below"] (defScope s_whole_by) := ⟨rfl, rfl, rfl, by decide +kernel, rfl, by decide +kernel, by decide +kernel⟩
theorem ok_whole_by {f : Addr} {fd : FuncData} (T : Top K mg)  (F : FnP K "whole_by" s_whole_by f fd) (g : mg "whole_by" = some (.ref f)) : Df P w K mg base 1 "whole_by" ["way", "above", "below"] m_whole_by :=
  have nd := sc_whole_by.nd
  df_of (kk := 3) (NN := 6) (body := b_whole_by) F g sc_whole_by rfl rfl (fun _ _ _ _ _ _ _ us hl => match us, hl with | [_, _, _], _ => rfl) fun cdv A outer s H E hr =>
    ess_cons (es_set (i := 3) nd (ee_op op_fdivC ok_div (ee_var 1) (ee_var 2)))
    (ess_cons (es_set (i := 4) nd (ee_op op_modN ok_mod (ee_var 1) (ee_var 2)))
    (ess_cons (es_if (et_cmp (OpR.or op_eq (op_eqD hr.units)) ok_eq (ee_var 0) (ee_str) (nomark _)) (ess_one (es_set (i := 5) nd (ee_or (ee_cmp op_gt ok_gt (ee_op op_mulC ok_mul (ee_var 4) (ee_int)) (ee_var 2) (nomark _)) (ee_one (ee_and (ee_cmp (OpR.or op_eq (op_eqD hr.units)) ok_eq (ee_op op_mulC ok_mul (ee_var 4) (ee_int)) (ee_var 2) (nomark _)) (ee_one (ee_cmp (OpR.or op_eq (op_eqD hr.units)) ok_eq (ee_op op_modN ok_mod (ee_var 3) (ee_int)) (ee_int) (nomark _)))))))) (ess_one (es_if (et_cmp (OpR.or op_eq (op_eqD hr.units)) ok_eq (ee_var 0) (ee_str) (nomark _)) (ess_one (es_set (i := 5) nd (ee_and (ee_cmp op_lt ok_lt (ee_var 1) (ee_int) (nomark _)) (ee_one (ee_cmp op_gt ok_gt (ee_var 4) (ee_int) (nomark _)))))) (ess_one (es_set (i := 5) nd (ee_and (ee_cmp (OpR.or op_eq (op_eqD hr.units)) ok_eq (ee_var 0) (ee_str) (nomark _)) (ee_one (ee_cmp op_gt ok_gt (ee_var 4) (ee_int) (nomark _)))))))))
    (ess_one (es_ret (ee_op op_addA ok_add (ee_var 3) (ee_bltT call_int1 ok_int1 (by rfl) T.f_int (by decide +kernel) (ea_cons (ee_var 5) (ea_nil))))))))
abbrev s_rounded : Stmt := topS 29
theorem sc_rounded : FnScope ["ruler", "number", "step", "turns"] ["ruler", "number"] (defScope s_rounded) := ⟨rfl, rfl, rfl, by decide +kernel, rfl, by decide +kernel, by decide +kernel⟩
theorem ok_rounded {f : Addr} {fd : FuncData} (T : Top K mg) (D_step_of : Df P w K mg base 4 "step_of" ["ruler", "number"] m_step_of) (D_over : Df P w K mg base 3 "over" ["one", "other"] m_over) (D_times : Df P w K mg base 3 "times" ["one", "other"] m_times) (D_whole_of : Df P w K mg base 1 "whole_of" ["number"] m_whole_of) (D_whole_by : Df P w K mg base 1 "whole_by" ["way", "above", "below"] m_whole_by) (F : FnP K "rounded" s_rounded f fd) (g : mg "rounded" = some (.ref f)) : Df P w K mg base 5 "rounded" ["ruler", "number"] m_rounded :=
  have nd := sc_rounded.nd
  df_of (kk := 2) (NN := 4) (body := b_rounded) F g sc_rounded rfl rfl (fun _ _ _ _ _ _ _ us hl => match us, hl with | [_, _], _ => rfl) fun cdv A outer s H E hr =>
    ess_cons (es_set (i := 2) nd (ec D_step_of hr tk_of (ea_cons (ee_var 0) (ea_cons (ee_var 1) (ea_nil)))))
    (ess_cons (es_set (i := 3) nd (ec D_over hr tk_of (ea_cons (ee_var 1) (ea_cons (ee_var 2) (ea_nil)))))
    (ess_one (es_ret (ec D_times hr tk_of (ea_cons (ec D_whole_of hr tk_of (ea_cons (ec D_whole_by hr tk_of (ea_cons (ee_ix (ee_var 0) (ee_int)) (ea_cons (ee_ix (ee_var 3) (ee_int)) (ea_cons (ee_ix (ee_var 3) (ee_int)) (ea_nil))))) (ea_nil))) (ea_cons (ee_var 2) (ea_nil)))))))
abbrev s_is_mark : Stmt := topS 30
theorem sc_is_mark : FnScope ["ruler", "thing"] ["ruler", "thing"] (defScope s_is_mark) := ⟨rfl, rfl, rfl, by decide +kernel, rfl, by decide +kernel, by decide +kernel⟩
theorem ok_is_mark {f : Addr} {fd : FuncData} (T : Top K mg) (D_is_fraction : Df P w K mg base 2 "is_fraction" ["thing"] m_is_fraction) (D_rounded : Df P w K mg base 5 "rounded" ["ruler", "number"] m_rounded) (F : FnP K "is_mark" s_is_mark f fd) (g : mg "is_mark" = some (.ref f)) : Df P w K mg base 6 "is_mark" ["ruler", "thing"] m_is_mark :=
  have nd := sc_is_mark.nd
  df_of (kk := 2) (NN := 2) (body := b_is_mark) F g sc_is_mark rfl rfl (fun _ _ _ _ _ _ _ us hl => match us, hl with | [_, _], _ => rfl) fun cdv A outer s H E hr =>
    ess_one (es_ret (ee_and (ec D_is_fraction hr tk_of (ea_cons (ee_var 1) (ea_nil))) (ee_one (ee_cmp (OpR.or op_eq (op_eqD hr.units)) ok_eq (ec D_rounded hr tk_of (ea_cons (ee_var 0) (ea_cons (ee_var 1) (ea_nil)))) (ee_var 1) (nomark _)))))
abbrev s_need_mark : Stmt := topS 34
theorem sc_need_mark : FnScope ["ruler", "thing"] ["ruler", "thing"] (defScope s_need_mark) := ⟨rfl, rfl, rfl, by decide +kernel, rfl, by decide +kernel, by decide +kernel⟩
theorem ok_need_mark {f : Addr} {fd : FuncData} (T : Top K mg) (D_need_ruler : Df P w K mg base 4 "need_ruler" ["thing"] m_need_ruler) (D_is_mark : Df P w K mg base 6 "is_mark" ["ruler", "thing"] m_is_mark) (F : FnP K "need_mark" s_need_mark f fd) (g : mg "need_mark" = some (.ref f)) : Df P w K mg base 7 "need_mark" ["ruler", "thing"] m_need_mark :=
  have nd := sc_need_mark.nd
  df_of (kk := 2) (NN := 2) (body := b_need_mark) F g sc_need_mark rfl rfl (fun _ _ _ _ _ _ _ us hl => match us, hl with | [_, _], _ => rfl) fun cdv A outer s H E hr =>
    ess_cons (es_expr (ec D_need_ruler hr tk_of (ea_cons (ee_var 0) (ea_nil))))
    (ess_one (es_if (et_not (et_val (ec D_is_mark hr tk_of (ea_cons (ee_var 0) (ea_cons (ee_var 1) (ea_nil)))))) (ess_one (es_raise T.x_BadMark tk_of)) (ess_nil)))
abbrev s_need_rank : Stmt := topS 35
theorem sc_need_rank : FnScope ["ruler", "thing"] ["ruler", "thing"] (defScope s_need_rank) := ⟨rfl, rfl, rfl, by decide +kernel, rfl, by decide +kernel, by decide +kernel⟩
theorem ok_need_rank {f : Addr} {fd : FuncData} (T : Top K mg) (D_need_ruler : Df P w K mg base 4 "need_ruler" ["thing"] m_need_ruler) (D_is_whole : Df P w K mg base 1 "is_whole" ["thing"] m_is_whole) (F : FnP K "need_rank" s_need_rank f fd) (g : mg "need_rank" = some (.ref f)) : Df P w K mg base 5 "need_rank" ["ruler", "thing"] m_need_rank :=
  have nd := sc_need_rank.nd
  df_of (kk := 2) (NN := 2) (body := b_need_rank) F g sc_need_rank rfl rfl (fun _ _ _ _ _ _ _ us hl => match us, hl with | [_, _], _ => rfl) fun cdv A outer s H E hr =>
    ess_cons (es_expr (ec D_need_ruler hr tk_of (ea_cons (ee_var 0) (ea_nil))))
    (ess_one (es_if (et_not (et_val (ec D_is_whole hr tk_of (ea_cons (ee_var 1) (ea_nil))))) (ess_one (es_raise T.x_BadMark tk_of)) (ess_nil)))
abbrev s_full_of : Stmt := topS 36
theorem sc_full_of : FnScope ["ruler", "whole"] ["ruler"] (defScope s_full_of) := ⟨rfl, rfl, rfl, by decide +kernel, rfl, by decide +kernel, by decide +kernel⟩
theorem ok_full_of {f : Addr} {fd : FuncData} (T : Top K mg) (D_power : Df P w K mg base 1 "power" ["base", "exponent"] m_power) (F : FnP K "full_of" s_full_of f fd) (g : mg "full_of" = some (.ref f)) : Df P w K mg base 2 "full_of" ["ruler"] m_full_of :=
  have nd := sc_full_of.nd
  df_of (kk := 1) (NN := 2) (body := b_full_of) F g sc_full_of rfl rfl (fun _ _ _ _ _ _ _ us hl => match us, hl with | [_], _ => rfl) fun cdv A outer s H E hr =>
    ess_cons (es_set (i := 1) nd (ee_ix (ec D_power hr tk_of (ea_cons (ee_ix (ee_var 0) (ee_int)) (ea_cons (ee_ix (ee_var 0) (ee_int)) (ea_nil)))) (ee_int)))
    (ess_one (es_ret (ee_tup (ea_cons (ee_var 1) (ea_cons (ee_op op_sub ok_sub (ee_var 1) (ee_op op_fdivC ok_div (ee_var 1) (ee_ix (ee_var 0) (ee_int)))) (ea_nil))))))
abbrev s_rank_of : Stmt := topS 37
theorem sc_rank_of : FnScope ["ruler", "mark", "place", "steps", "found"] ["ruler", "mark"] (defScope s_rank_of) := ⟨rfl, rfl, rfl, by decide +kernel, rfl, by decide +kernel, by decide +kernel⟩
theorem ok_rank_of {f : Addr} {fd : FuncData} (T : Top K mg) (D_need_mark : Df P w K mg base 7 "need_mark" ["ruler", "thing"] m_need_mark) (D_place_of : Df P w K mg base 3 "place_of" ["ruler", "number"] m_place_of) (D_over : Df P w K mg base 3 "over" ["one", "other"] m_over) (D_power : Df P w K mg base 1 "power" ["base", "exponent"] m_power) (D_size_of : Df P w K mg base 1 "size_of" ["one"] m_size_of) (D_full_of : Df P w K mg base 2 "full_of" ["ruler"] m_full_of) (F : FnP K "rank_of" s_rank_of f fd) (g : mg "rank_of" = some (.ref f)) : Df P w K mg base 8 "rank_of" ["ruler", "mark"] m_rank_of :=
  have nd := sc_rank_of.nd
  df_of (kk := 2) (NN := 5) (body := b_rank_of) F g sc_rank_of rfl rfl (fun _ _ _ _ _ _ _ us hl => match us, hl with | [_, _], _ => rfl) fun cdv A outer s H E hr =>
    ess_cons (es_expr (ec D_need_mark hr tk_of (ea_cons (ee_var 0) (ea_cons (ee_var 1) (ea_nil)))))
    (ess_cons (es_set (i := 2) nd (ec D_place_of hr tk_of (ea_cons (ee_var 0) (ea_cons (ee_var 1) (ea_nil)))))
    (ess_cons (es_set (i := 3) nd (ee_ix (ec D_over hr tk_of (ea_cons (ec D_size_of hr tk_of (ea_cons (ee_var 1) (ea_nil))) (ea_cons (ec D_power hr tk_of (ea_cons (ee_ix (ee_var 0) (ee_int)) (ea_cons (ee_var 2) (ea_nil)))) (ea_nil)))) (ee_int)))
    (ess_cons (es_set (i := 4) nd (ee_op op_addA ok_add (ee_op op_mulC ok_mul (ee_op op_sub ok_sub (ee_var 2) (ee_ix (ee_var 0) (ee_int))) (ee_ix (ec D_full_of hr tk_of (ea_cons (ee_var 0) (ea_nil))) (ee_int))) (ee_var 3)))
    (ess_one (es_ret (ee_ifExp (et_cmp op_ge ok_ge (ee_ix (ee_var 1) (ee_int)) (ee_int) (nomark _)) (ee_var 4) (ee_op op_sub ok_sub (ee_int) (ee_var 4))))))))
abbrev s_far_of : Stmt := topS 38
theorem sc_far_of : FnScope ["ruler", "rank", "whole", "fresh"] ["ruler", "rank"] (defScope s_far_of) := ⟨rfl, rfl, rfl, by decide +kernel, rfl, by decide +kernel, by decide +kernel⟩
theorem ok_far_of {f : Addr} {fd : FuncData} (T : Top K mg) (D_full_of : Df P w K mg base 2 "full_of" ["ruler"] m_full_of) (F : FnP K "far_of" s_far_of f fd) (g : mg "far_of" = some (.ref f)) : Df P w K mg base 3 "far_of" ["ruler", "rank"] m_far_of :=
  have nd := sc_far_of.nd
  df_of (kk := 2) (NN := 4) (body := b_far_of) F g sc_far_of rfl rfl (fun _ _ _ _ _ _ _ us hl => match us, hl with | [_, _], _ => rfl) fun cdv A outer s H E hr =>
    ess_cons (es_asg (ec D_full_of hr tk_of (ea_cons (ee_var 0) (ea_nil))) (eg_tup rfl (egs_cons (eg_name (i := 2) nd) (egs_cons (eg_name (i := 3) nd) (egs_nil)))))
    (ess_one (es_ret (ee_blt (call_max2 rfl) ok_max (by rfl) T.f_max (by decide +kernel) (ea_cons (ee_int) (ea_cons (ee_op op_addA ok_add (ee_op op_fdivC ok_div (ee_op op_sub ok_sub (ee_blt call_abs ok_abs (by rfl) T.f_abs (by decide +kernel) (ea_cons (ee_var 1) (ea_nil))) (ee_var 2)) (ee_var 3)) (ee_int)) (ea_nil))))))
abbrev s_of_rank : Stmt := topS 39
theorem sc_of_rank : FnScope ["ruler", "rank", "far", "size"] ["ruler", "rank"] (defScope s_of_rank) := ⟨rfl, rfl, rfl, by decide +kernel, rfl, by decide +kernel, by decide +kernel⟩
theorem ok_of_rank {f : Addr} {fd : FuncData} (T : Top K mg) (D_far_of : Df P w K mg base 3 "far_of" ["ruler", "rank"] m_far_of) (D_times : Df P w K mg base 3 "times" ["one", "other"] m_times) (D_power : Df P w K mg base 1 "power" ["base", "exponent"] m_power) (D_whole_of : Df P w K mg base 1 "whole_of" ["number"] m_whole_of) (D_full_of : Df P w K mg base 2 "full_of" ["ruler"] m_full_of) (D_turned : Df P w K mg base 1 "turned" ["one"] m_turned) (F : FnP K "of_rank" s_of_rank f fd) (g : mg "of_rank" = some (.ref f)) : Df P w K mg base 4 "of_rank" ["ruler", "rank"] m_of_rank :=
  have nd := sc_of_rank.nd
  df_of (kk := 2) (NN := 4) (body := b_of_rank) F g sc_of_rank rfl rfl (fun _ _ _ _ _ _ _ us hl => match us, hl with | [_, _], _ => rfl) fun cdv A outer s H E hr =>
    ess_cons (es_set (i := 2) nd (ec D_far_of hr tk_of (ea_cons (ee_var 0) (ea_cons (ee_var 1) (ea_nil)))))
    (ess_cons (es_set (i := 3) nd (ec D_times hr tk_of (ea_cons (ec D_whole_of hr tk_of (ea_cons (ee_op op_sub ok_sub (ee_blt call_abs ok_abs (by rfl) T.f_abs (by decide +kernel) (ea_cons (ee_var 1) (ea_nil))) (ee_op op_mulC ok_mul (ee_var 2) (ee_ix (ec D_full_of hr tk_of (ea_cons (ee_var 0) (ea_nil))) (ee_int)))) (ea_nil))) (ea_cons (ec D_power hr tk_of (ea_cons (ee_ix (ee_var 0) (ee_int)) (ea_cons (ee_op op_addA ok_add (ee_ix (ee_var 0) (ee_int)) (ee_var 2)) (ea_nil)))) (ea_nil)))))
    (ess_one (es_ret (ee_ifExp (et_cmp op_ge ok_ge (ee_var 1) (ee_int) (nomark _)) (ee_var 3) (ec D_turned hr tk_of (ea_cons (ee_var 3) (ea_nil)))))))
abbrev s_mark_at : Stmt := topS 40
theorem sc_mark_at : FnScope ["ruler", "rank"] ["ruler", "rank"] (defScope s_mark_at) := ⟨rfl, rfl, rfl, by decide +kernel, rfl, by decide +kernel, by decide +kernel⟩
theorem ok_mark_at {f : Addr} {fd : FuncData} (T : Top K mg) (D_need_rank : Df P w K mg base 5 "need_rank" ["ruler", "thing"] m_need_rank) (D_far_of : Df P w K mg base 3 "far_of" ["ruler", "rank"] m_far_of) (D_need_small : Df P w K mg base 2 "need_small" ["number"] m_need_small) (D_of_rank : Df P w K mg base 4 "of_rank" ["ruler", "rank"] m_of_rank) (F : FnP K "mark_at" s_mark_at f fd) (g : mg "mark_at" = some (.ref f)) : Df P w K mg base 6 "mark_at" ["ruler", "rank"] m_mark_at :=
  have nd := sc_mark_at.nd
  df_of (kk := 2) (NN := 2) (body := b_mark_at) F g sc_mark_at rfl rfl (fun _ _ _ _ _ _ _ us hl => match us, hl with | [_, _], _ => rfl) fun cdv A outer s H E hr =>
    ess_cons (es_expr (ec D_need_rank hr tk_of (ea_cons (ee_var 0) (ea_cons (ee_var 1) (ea_nil)))))
    (ess_cons (es_if (et_cmp op_gt ok_gt (ec D_far_of hr tk_of (ea_cons (ee_var 0) (ea_cons (ee_var 1) (ea_nil)))) (eg T.c_MOST_FAR) (nomark _)) (ess_one (es_raise T.x_TooGreat tk_of)) (ess_nil))
    (ess_one (es_ret (ec D_need_small hr tk_of (ea_cons (ec D_of_rank hr tk_of (ea_cons (ee_var 0) (ea_cons (ee_var 1) (ea_nil)))) (ea_nil))))))
abbrev s_beside : Stmt := topS 41
theorem sc_beside : FnScope ["ruler", "mark", "many", "rank"] ["ruler", "mark", "many"] (defScope s_beside) := ⟨rfl, rfl, rfl, by decide +kernel, rfl, by decide +kernel, by decide +kernel⟩
theorem ok_beside {f : Addr} {fd : FuncData} (T : Top K mg) (D_rank_of : Df P w K mg base 8 "rank_of" ["ruler", "mark"] m_rank_of) (D_need_rank : Df P w K mg base 5 "need_rank" ["ruler", "thing"] m_need_rank) (D_mark_at : Df P w K mg base 6 "mark_at" ["ruler", "rank"] m_mark_at) (F : FnP K "beside" s_beside f fd) (g : mg "beside" = some (.ref f)) : Df P w K mg base 9 "beside" ["ruler", "mark", "many"] m_beside :=
  have nd := sc_beside.nd
  df_of (kk := 3) (NN := 4) (body := b_beside) F g sc_beside rfl rfl (fun _ _ _ _ _ _ _ us hl => match us, hl with | [_, _, _], _ => rfl) fun cdv A outer s H E hr =>
    ess_cons (es_set (i := 3) nd (ec D_rank_of hr tk_of (ea_cons (ee_var 0) (ea_cons (ee_var 1) (ea_nil)))))
    (ess_cons (es_expr (ec D_need_rank hr tk_of (ea_cons (ee_var 0) (ea_cons (ee_var 2) (ea_nil)))))
    (ess_one (es_ret (ec D_mark_at hr tk_of (ea_cons (ee_var 0) (ea_cons (ee_op op_addA ok_add (ee_var 3) (ee_var 2)) (ea_nil)))))))
abbrev s_many_between : Stmt := topS 42
theorem sc_many_between : FnScope ["ruler", "low", "high", "begin"] ["ruler", "low", "high"] (defScope s_many_between) := ⟨rfl, rfl, rfl, by decide +kernel, rfl, by decide +kernel, by decide +kernel⟩
theorem ok_many_between {f : Addr} {fd : FuncData} (T : Top K mg) (D_rank_of : Df P w K mg base 8 "rank_of" ["ruler", "mark"] m_rank_of) (F : FnP K "many_between" s_many_between f fd) (g : mg "many_between" = some (.ref f)) : Df P w K mg base 9 "many_between" ["ruler", "low", "high"] m_many_between :=
  have nd := sc_many_between.nd
  df_of (kk := 3) (NN := 4) (body := b_many_between) F g sc_many_between rfl rfl (fun _ _ _ _ _ _ _ us hl => match us, hl with | [_, _, _], _ => rfl) fun cdv A outer s H E hr =>
    ess_cons (es_set (i := 3) nd (ec D_rank_of hr tk_of (ea_cons (ee_var 0) (ea_cons (ee_var 1) (ea_nil)))))
    (ess_one (es_ret (ee_blt (call_max2 rfl) ok_max (by rfl) T.f_max (by decide +kernel) (ea_cons (ee_int) (ea_cons (ee_op op_addA ok_add (ee_op op_sub ok_sub (ec D_rank_of hr tk_of (ea_cons (ee_var 0) (ea_cons (ee_var 2) (ea_nil)))) (ee_var 3)) (ee_int)) (ea_nil))))))
abbrev s_middle_mark : Stmt := topS 43
theorem sc_middle_mark : FnScope ["ruler", "low", "high", "begin"] ["ruler", "low", "high"] (defScope s_middle_mark) := ⟨rfl, rfl, rfl, by decide +kernel, rfl, by decide +kernel, by decide +kernel⟩
theorem ok_middle_mark {f : Addr} {fd : FuncData} (T : Top K mg) (D_rank_of : Df P w K mg base 8 "rank_of" ["ruler", "mark"] m_rank_of) (D_of_rank : Df P w K mg base 4 "of_rank" ["ruler", "rank"] m_of_rank) (F : FnP K "middle_mark" s_middle_mark f fd) (g : mg "middle_mark" = some (.ref f)) : Df P w K mg base 9 "middle_mark" ["ruler", "low", "high"] m_middle_mark :=
  have nd := sc_middle_mark.nd
  df_of (kk := 3) (NN := 4) (body := b_middle_mark) F g sc_middle_mark rfl rfl (fun _ _ _ _ _ _ _ us hl => match us, hl with | [_, _, _], _ => rfl) fun cdv A outer s H E hr =>
    ess_cons (es_set (i := 3) nd (ec D_rank_of hr tk_of (ea_cons (ee_var 0) (ea_cons (ee_var 1) (ea_nil)))))
    (ess_one (es_ret (ec D_of_rank hr tk_of (ea_cons (ee_var 0) (ea_cons (ee_op op_fdivC ok_div (ee_op op_addA ok_add (ee_var 3) (ec D_rank_of hr tk_of (ea_cons (ee_var 0) (ea_cons (ee_var 2) (ea_nil))))) (ee_int)) (ea_nil))))))
abbrev s_marks_between : Stmt := topS 44
theorem sc_marks_between : FnScope ["ruler", "low", "high", "many", "begin", "turn"] ["ruler", "low", "high"] (defScope s_marks_between) := ⟨rfl, rfl, rfl, by decide +kernel, rfl, by decide +kernel, by decide +kernel⟩
theorem ok_marks_between {f : Addr} {fd : FuncData} (T : Top K mg) (D_many_between : Df P w K mg base 9 "many_between" ["ruler", "low", "high"] m_many_between) (D_rank_of : Df P w K mg base 8 "rank_of" ["ruler", "mark"] m_rank_of) (D_mark_at : Df P w K mg base 6 "mark_at" ["ruler", "rank"] m_mark_at) (F : FnP K "marks_between" s_marks_between f fd) (g : mg "marks_between" = some (.ref f)) : Df P w K mg base 10 "marks_between" ["ruler", "low", "high"] m_marks_between :=
  have nd := sc_marks_between.nd
  df_of (kk := 3) (NN := 6) (body := b_marks_between) F g sc_marks_between rfl rfl (fun _ _ _ _ _ _ _ us hl => match us, hl with | [_, _, _], _ => rfl) fun cdv A outer s H E hr =>
    ess_cons (es_set (i := 3) nd (ec D_many_between hr tk_of (ea_cons (ee_var 0) (ea_cons (ee_var 1) (ea_cons (ee_var 2) (ea_nil))))))
    (ess_cons (es_if (et_cmp op_gt ok_gt (ee_var 3) (eg T.c_MOST_MARKS) (nomark _)) (ess_one (es_raise T.x_TooGreat tk_of)) (ess_nil))
    (ess_cons (es_set (i := 4) nd (ec D_rank_of hr tk_of (ea_cons (ee_var 0) (ea_cons (ee_var 1) (ea_nil)))))
    (ess_one (es_ret (ee_lcX [5] [("turn", 5)] tk_of rfl nd (ei_range1 (by rfl) T.f_range (ea_cons (ee_var 3) (ea_nil))) (blkOk_by (N := ["ruler", "low", "high", "many", "begin", "turn"]) (sc := defScope s_marks_between) (by decide +kernel)) (fun _ _ _ _ _ _ => egw_name (i := 5) nd) (fun _ _ _ _ _ _ _ tb => ets_nil) (fun _ _ _ _ _ _ _ tb => ec D_mark_at hr tb (ea_cons (ee_var 0) (ea_cons (ee_op op_addA ok_add (ee_var 4) (ee_var 5)) (ea_nil)))))))))
abbrev s__law_mixed : Stmt := topS 46
theorem sc__law_mixed : FnScope ["_law_number", "_law_k"] ["_law_number", "_law_k"] (defScope s__law_mixed) := ⟨rfl, rfl, rfl, by decide +kernel, rfl, by decide +kernel, by decide +kernel⟩
theorem ok__law_mixed {f : Addr} {fd : FuncData} (T : Top K mg)  (F : FnP K "_law_mixed" s__law_mixed f fd) (g : mg "_law_mixed" = some (.ref f)) : Df P w K mg base 1 "_law_mixed" ["_law_number", "_law_k"] m__law_mixed :=
  have nd := sc__law_mixed.nd
  df_of (kk := 2) (NN := 2) (body := b__law_mixed) F g sc__law_mixed rfl rfl (fun _ _ _ _ _ _ _ us hl => match us, hl with | [_, _], _ => rfl) fun cdv A outer s H E hr =>
    ess_cons (es_set (i := 0) nd (ee_op op_modN ok_mod (ee_op op_mulC ok_mul (ee_op op_addA ok_add (ee_op op_addA ok_add (ee_op op_modN ok_mod (ee_var 0) (ee_int)) (ee_op op_mulC ok_mul (ee_op op_mulC ok_mul (ee_int) (ee_var 1)) (ee_var 1))) (ee_op op_mulC ok_mul (ee_int) (ee_var 1))) (ee_int)) (ee_int)))
    (ess_one (es_ret (ee_op op_modN ok_mod (ee_op op_mulC ok_mul (ee_var 0) (ee_op op_addA ok_add (ee_int) (ee_op op_mulC ok_mul (ee_int) (ee_var 1)))) (ee_int))))
abbrev s__law_stream : Stmt := topS 47
theorem sc__law_stream : FnScope ["_law_cell", "_law_k"] ["_law_cell", "_law_k"] (defScope s__law_stream) := ⟨rfl, rfl, rfl, by decide +kernel, rfl, by decide +kernel, by decide +kernel⟩
theorem ok__law_stream {f : Addr} {fd : FuncData} (T : Top K mg) (D__law_mixed : Df P w K mg base 1 "_law_mixed" ["_law_number", "_law_k"] m__law_mixed) (F : FnP K "_law_stream" s__law_stream f fd) (g : mg "_law_stream" = some (.ref f)) : Df P w K mg base 2 "_law_stream" ["_law_cell", "_law_k"] m__law_stream :=
  have nd := sc__law_stream.nd
  df_of (kk := 2) (NN := 2) (body := b__law_stream) F g sc__law_stream rfl rfl (fun _ _ _ _ _ _ _ us hl => match us, hl with | [_, _], _ => rfl) fun cdv A outer s H E hr =>
    ess_one (es_ret (ee_lst (ea_cons (ee_cmp op_ge ok_ge (ee_var 0) (ee_op op_pow ok_pow (ee_int) (ee_int)) (nomark _)) (ea_cons (ee_var 0) (ea_cons (ee_int) (ea_cons (ec D__law_mixed hr tk_of (ea_cons (ee_var 0) (ea_cons (ee_var 1) (ea_nil)))) (ea_nil)))))))
abbrev s__law_take : Stmt := topS 48
theorem sc__law_take : FnScope ["_law_stream_here", "_law_many", "_law_number"] ["_law_stream_here", "_law_many"] (defScope s__law_take) := ⟨rfl, rfl, rfl, by decide +kernel, rfl, by decide +kernel, by decide +kernel⟩
theorem ok__law_take {f : Addr} {fd : FuncData} (T : Top K mg) (D__law_mixed : Df P w K mg base 1 "_law_mixed" ["_law_number", "_law_k"] m__law_mixed) (F : FnP K "_law_take" s__law_take f fd) (g : mg "_law_take" = some (.ref f)) : Df P w K mg base 2 "_law_take" ["_law_stream_here", "_law_many"] m__law_take :=
  have nd := sc__law_take.nd
  df_of (kk := 2) (NN := 3) (body := b__law_take) F g sc__law_take rfl rfl (fun _ _ _ _ _ _ _ us hl => match us, hl with | [_, _], _ => rfl) fun cdv A outer s H E hr =>
    ess_cons (es_asg (ee_op op_addA ok_add (ee_ix (ee_var 0) (ee_int)) (ee_int)) (eg_setL (W := WOf E) (ee_var 0) (ee_int)))
    (ess_cons (es_if (EW.et (ew_or (et_not (et_val (ee_ix (ee_var 0) (ee_int)))) (ew_or (et_cmp op_in_seq (ok_in false) (ee_ix (ee_var 0) (ee_int)) (ee_tup (ea_cons (ee_int) (ea_cons (ee_neg (ee_int)) (ea_nil)))) (by with_unfolding_all rfl)) (ew_or1 (et_cmp op_gt ok_gt (ee_ix (ee_var 0) (ee_int)) (ee_int) (nomark _)))))) (ess_one (es_ret (ee_op op_modN ok_mod (ec D__law_mixed hr tk_of (ea_cons (ec D__law_mixed hr tk_of (ea_cons (ee_ix (ee_var 0) (ee_int)) (ea_cons (ee_ix (ee_var 0) (ee_int)) (ea_nil)))) (ea_cons (ee_int) (ea_nil)))) (ee_var 1)))) (ess_nil))
    (ess_cons (es_set (i := 2) nd (ee_op op_modN ok_mod (ee_ix (ee_var 0) (ee_int)) (ee_var 1)))
    (ess_cons (es_asg (ee_op op_fdivC ok_div (ee_ix (ee_var 0) (ee_int)) (ee_var 1)) (eg_setL (W := WOf E) (ee_var 0) (ee_int)))
    (ess_one (es_ret (ee_var 2))))))
abbrev s__law_lowest : Stmt := topS 49
theorem sc__law_lowest : FnScope ["_law_above", "_law_below", "_law_one", "_law_other", "_law_part"] ["_law_above", "_law_below"] (defScope s__law_lowest) := ⟨rfl, rfl, rfl, by decide +kernel, rfl, by decide +kernel, by decide +kernel⟩
theorem ok__law_lowest {f : Addr} {fd : FuncData} (T : Top K mg)  (F : FnP K "_law_lowest" s__law_lowest f fd) (g : mg "_law_lowest" = some (.ref f)) : Df P w K mg base 1 "_law_lowest" ["_law_above", "_law_below"] m__law_lowest :=
  have nd := sc__law_lowest.nd
  df_of (kk := 2) (NN := 5) (body := b__law_lowest) F g sc__law_lowest rfl rfl (fun _ _ _ _ _ _ _ us hl => match us, hl with | [_, _], _ => rfl) fun cdv A outer s H E hr =>
    ess_cons (es_par (i := 2) (j := 3) rfl nd (ea_cons (ee_blt call_abs ok_abs (by rfl) T.f_abs (by decide +kernel) (ea_cons (ee_var 0) (ea_nil))) (ea_cons (ee_blt call_abs ok_abs (by rfl) T.f_abs (by decide +kernel) (ea_cons (ee_var 1) (ea_nil))) (ea_nil))))
    (ess_cons (es_while po_of (EW.et (ew_and (et_cmp op_gt ok_gt (ee_var 2) (ee_int) (nomark _)) (ew_and1 (et_cmp op_gt ok_gt (ee_var 3) (ee_int) (nomark _))))) (ess_one (es_if (et_cmp op_ge ok_ge (ee_var 2) (ee_var 3) (nomark _)) (ess_one (es_set (i := 2) nd (ee_op op_modN ok_mod (ee_var 2) (ee_var 3)))) (ess_one (es_set (i := 3) nd (ee_op op_modN ok_mod (ee_var 3) (ee_var 2)))))))
    (ess_cons (es_set (i := 4) nd (ee_op op_addA ok_add (ee_var 2) (ee_var 3)))
    (ess_cons (es_if (et_cmp op_lt ok_lt (ee_var 1) (ee_int) (nomark _)) (ess_one (es_set (i := 4) nd (ee_op op_sub ok_sub (ee_int) (ee_var 4)))) (ess_nil))
    (ess_one (es_ret (ee_tup (ea_cons (ee_op op_fdivC ok_div (ee_var 0) (ee_var 4)) (ea_cons (ee_op op_fdivC ok_div (ee_var 1) (ee_var 4)) (ea_nil)))))))))
abbrev s__law_power : Stmt := topS 50
theorem sc__law_power : FnScope ["_law_base", "_law_many", "_law_whole", "_law_turn"] ["_law_base", "_law_many"] (defScope s__law_power) := ⟨rfl, rfl, rfl, by decide +kernel, rfl, by decide +kernel, by decide +kernel⟩
theorem ok__law_power {f : Addr} {fd : FuncData} (T : Top K mg)  (F : FnP K "_law_power" s__law_power f fd) (g : mg "_law_power" = some (.ref f)) : Df P w K mg base 1 "_law_power" ["_law_base", "_law_many"] m__law_power :=
  have nd := sc__law_power.nd
  df_of (kk := 2) (NN := 4) (body := b__law_power) F g sc__law_power rfl rfl (fun _ _ _ _ _ _ _ us hl => match us, hl with | [_, _], _ => rfl) fun cdv A outer s H E hr =>
    ess_cons (es_set (i := 2) nd (ee_int))
    (ess_cons (es_for (fb := bl__law_power_1) po_of rfl (ei_range1 (by rfl) T.f_range (ea_cons (ee_blt call_abs ok_abs (by rfl) T.f_abs (by decide +kernel) (ea_cons (ee_var 1) (ea_nil))) (ea_nil))) (eg_name (i := 3) nd) (ess_one (es_set (i := 2) nd (ee_op op_mulC ok_mul (ee_var 2) (ee_var 0)))))
    (ess_one (es_ret (ee_ifExp (et_cmp op_ge ok_ge (ee_var 1) (ee_int) (nomark _)) (ee_tup (ea_cons (ee_var 2) (ea_cons (ee_int) (ea_nil)))) (ee_tup (ea_cons (ee_int) (ea_cons (ee_var 2) (ea_nil))))))))
abbrev s__law_rising : Stmt := topS 51
theorem sc__law_rising : FnScope ["_law_ruler", "_law_base", "_law_figures", "_law_low", "_law_way", "_law_whole", "_law_found", "_law_place", "_law_step", "_law_first", "_law_turn"] ["_law_ruler"] (defScope s__law_rising) := ⟨rfl, rfl, rfl, by decide +kernel, rfl, by decide +kernel, by decide +kernel⟩
theorem ok__law_rising {f : Addr} {fd : FuncData} (T : Top K mg) (D__law_power : Df P w K mg base 1 "_law_power" ["_law_base", "_law_many"] m__law_power) (D__law_lowest : Df P w K mg base 1 "_law_lowest" ["_law_above", "_law_below"] m__law_lowest) (F : FnP K "_law_rising" s__law_rising f fd) (g : mg "_law_rising" = some (.ref f)) : Df P w K mg base 2 "_law_rising" ["_law_ruler"] m__law_rising :=
  have nd := sc__law_rising.nd
  df_of (kk := 1) (NN := 11) (body := b__law_rising) F g sc__law_rising rfl rfl (fun _ _ _ _ _ _ _ us hl => match us, hl with | [_], _ => rfl) fun cdv A outer s H E hr =>
    ess_cons (es_asg (ee_var 0) (eg_tup rfl (egs_cons (eg_name (i := 1) nd) (egs_cons (eg_name (i := 2) nd) (egs_cons (eg_name (i := 3) nd) (egs_cons (eg_name (i := 4) nd) (egs_nil)))))))
    (ess_cons (es_set (i := 5) nd (ee_ix (ec D__law_power hr tk_of (ea_cons (ee_var 1) (ea_cons (ee_var 2) (ea_nil)))) (ee_int)))
    (ess_cons (es_set (i := 6) nd (ee_fz (ee_lst (ea_nil))))
    (ess_cons (es_for (fb := bl__law_rising_1) po_of rfl (ei_range2 (by rfl) T.f_range (ea_cons (ee_var 3) (ea_cons (ee_op op_addA ok_add (ee_var 3) (ee_int)) (ea_nil)))) (eg_name (i := 7) nd) (ess_cons (es_set (i := 8) nd (ec D__law_power hr tk_of (ea_cons (ee_var 1) (ea_cons (ee_var 7) (ea_nil)))))
    (ess_cons (es_set (i := 9) nd (ee_ifExp (et_cmp (OpR.or op_eq (op_eqD hr.units)) ok_eq (ee_var 7) (ee_var 3) (nomark _)) (ee_int) (ee_op op_fdivC ok_div (ee_var 5) (ee_var 1))))
    (ess_one (es_set (i := 6) nd (ee_fz (ee_op op_addA ok_add (ee_var 6) (ee_fz (ee_lc [10] [("_law_turn", 10)] rfl nd (ei_range2 (by rfl) T.f_range (ea_cons (ee_var 9) (ea_cons (ee_var 5) (ea_nil)))) (blkOk_by (N := ["_law_ruler", "_law_base", "_law_figures", "_law_low", "_law_way", "_law_whole", "_law_found", "_law_place", "_law_step", "_law_first", "_law_turn"]) (sc := defScope s__law_rising) (by decide +kernel)) (fun _ _ _ _ _ => egw_name (i := 10) nd) (fun _ _ _ _ _ => ets_nil) (fun _ _ _ _ _ => ec D__law_lowest hr tk_blk (ea_cons (ee_op op_mulC ok_mul (ee_var 10) (ee_ix (ee_var 8) (ee_int))) (ea_cons (ee_ix (ee_var 8) (ee_int)) (ea_nil)))))))))))))
    (ess_one (es_ret (ee_var 6))))))
abbrev s__law_is_great : Stmt := topS 52
theorem sc__law_is_great : FnScope ["_law_ruler", "_law_many", "_law_caught", "_law_found", "error"] ["_law_ruler", "_law_many"] (defScope s__law_is_great) := ⟨rfl, rfl, rfl, by decide +kernel, rfl, by decide +kernel, by decide +kernel⟩
theorem ok__law_is_great {f : Addr} {fd : FuncData} (T : Top K mg) (D_marks_between : Df P w K mg base 10 "marks_between" ["ruler", "low", "high"] m_marks_between) (D_mark_at : Df P w K mg base 6 "mark_at" ["ruler", "rank"] m_mark_at) (F : FnP K "_law_is_great" s__law_is_great f fd) (g : mg "_law_is_great" = some (.ref f)) : Df P w K mg base 11 "_law_is_great" ["_law_ruler", "_law_many"] m__law_is_great :=
  have nd := sc__law_is_great.nd
  df_of (kk := 2) (NN := 5) (body := b__law_is_great) F g sc__law_is_great rfl rfl (fun _ _ _ _ _ _ _ us hl => match us, hl with | [_, _], _ => rfl) fun cdv A outer s H E hr =>
    ess_cons (es_set (i := 2) nd (ee_non))
    (ess_cons (es_set (i := 3) nd (ee_non))
    (ess_cons (es_try (i := 4) T.t_TooGreat tk_of nd (fun W pn xe tk po => ess_one (es_set (i := 3) nd (ec D_marks_between hr tk (ea_cons (ee_var 0) (ea_cons (ee_tup (ea_cons (ee_int) (ea_cons (ee_int) (ea_nil)))) (ea_cons (ec D_mark_at hr tk (ea_cons (ee_var 0) (ea_cons (ee_op op_sub ok_sub (ee_var 1) (ee_int)) (ea_nil)))) (ea_nil))))))) (fun a pn => ess_one (es_set (i := 2) nd (ee_var 4))))
    (ess_cons (es_if (et_cmp op_isN ok_isN (ee_var 2) (ee_non) (nomark _)) (ess_one (es_ret (ee_cmp (OpR.or op_ne (op_neD hr.units)) ok_ne (ee_blt call_len ok_len (by rfl) T.f_len PySem.boot_len (ea_cons (ee_var 3) (ea_nil))) (ee_var 1) (nomark _)))) (ess_nil))
    (ess_one (es_ret (ee_and (ee_not (ee_isO T.i_BadMark rfl T.f_isinstance (ee_var 2))) (ee_one (ee_isB "ValueError" T.i_ValueError (by decide +kernel) rfl T.f_isinstance T.f_ValueError (ee_var 2)))))))))
abbrev s__law_two_right : Stmt := topS 53
theorem sc__law_two_right : FnScope ["_law_ruler", "_law_row", "_law_at", "_law_other", "_law_middle", "_law_one", "_law_two", "_law_rank", "_law_low", "_law_high", "_law_first", "_law_second", "_law_found"] ["_law_ruler", "_law_row", "_law_at", "_law_other"] (defScope s__law_two_right) := ⟨rfl, rfl, rfl, by decide +kernel, rfl, by decide +kernel, by decide +kernel⟩
theorem ok__law_two_right {f : Addr} {fd : FuncData} (T : Top K mg) (D_rank_of : Df P w K mg base 8 "rank_of" ["ruler", "mark"] m_rank_of) (D_mark_at : Df P w K mg base 6 "mark_at" ["ruler", "rank"] m_mark_at) (D_beside : Df P w K mg base 9 "beside" ["ruler", "mark", "many"] m_beside) (D_many_between : Df P w K mg base 9 "many_between" ["ruler", "low", "high"] m_many_between) (D_middle_mark : Df P w K mg base 9 "middle_mark" ["ruler", "low", "high"] m_middle_mark) (D_marks_between : Df P w K mg base 10 "marks_between" ["ruler", "low", "high"] m_marks_between) (F : FnP K "_law_two_right" s__law_two_right f fd) (g : mg "_law_two_right" = some (.ref f)) : Df P w K mg base 11 "_law_two_right" ["_law_ruler", "_law_row", "_law_at", "_law_other"] m__law_two_right :=
  have nd := sc__law_two_right.nd
  df_of (kk := 4) (NN := 13) (body := b__law_two_right) F g sc__law_two_right rfl rfl (fun _ _ _ _ _ _ _ us hl => match us, hl with | [_, _, _, _], _ => rfl) fun cdv A outer s H E hr =>
    ess_cons (es_set (i := 4) nd (ee_op op_fdivC ok_div (ee_blt call_len ok_len (by rfl) T.f_len PySem.boot_len (ea_cons (ee_var 1) (ea_nil))) (ee_int)))
    (ess_cons (es_par (i := 5) (j := 6) rfl nd (ea_cons (ee_iy hr.units (ee_var 1) (ee_var 2)) (ea_cons (ee_iy hr.units (ee_var 1) (ee_var 3)) (ea_nil))))
    (ess_cons (es_set (i := 7) nd (ec D_rank_of hr tk_of (ea_cons (ee_var 0) (ea_cons (ee_var 5) (ea_nil)))))
    (ess_cons (es_if (EW.et (ew_or (et_val (ee_isi .bool rfl T.f_isinstance rfl T.f_bool (by decide +kernel) (by decide) (by decide) (ee_var 7))) (ew_or (et_cmp (OpR.or op_ne (op_neD hr.units)) ok_ne (ee_var 7) (ee_op op_sub ok_sub (ee_var 2) (ee_var 4)) (nomark _)) (ew_or1 (et_cmp (OpR.or op_ne (op_neD hr.units)) ok_ne (ec D_mark_at hr tk_of (ea_cons (ee_var 0) (ea_cons (ee_var 7) (ea_nil)))) (ee_var 5) (nomark _)))))) (ess_one (es_ret (ee_bl))) (ess_nil))
    (ess_cons (es_if (EW.et (ew_or (et_cmp (OpR.or op_ne (op_neD hr.units)) ok_ne (ec D_beside hr tk_of (ea_cons (ee_var 0) (ea_cons (ee_var 5) (ea_cons (ee_op op_sub ok_sub (ee_var 3) (ee_var 2)) (ea_nil))))) (ee_var 6) (nomark _)) (ew_or1 (et_cmp (OpR.or op_ne (op_neD hr.units)) ok_ne (ec D_many_between hr tk_of (ea_cons (ee_var 0) (ea_cons (ee_var 5) (ea_cons (ee_var 6) (ea_nil))))) (ee_blt (call_max2 rfl) ok_max (by rfl) T.f_max (by decide +kernel) (ea_cons (ee_int) (ea_cons (ee_op op_addA ok_add (ee_op op_sub ok_sub (ee_var 3) (ee_var 2)) (ee_int)) (ea_nil)))) (nomark _))))) (ess_one (es_ret (ee_bl))) (ess_nil))
    (ess_cons (es_par (i := 8) (j := 9) rfl nd (ea_cons (ee_blt (call_min2 rfl) ok_min (by rfl) T.f_min (by decide +kernel) (ea_cons (ee_var 2) (ea_cons (ee_var 3) (ea_nil)))) (ea_cons (ee_blt (call_max2 rfl) ok_max (by rfl) T.f_max (by decide +kernel) (ea_cons (ee_var 2) (ea_cons (ee_var 3) (ea_nil)))) (ea_nil))))
    (ess_cons (es_for (fb := bl__law_two_right_1) po_of rfl (ei_seq (ee_tup (ea_cons (ee_tup (ea_cons (ee_var 8) (ea_cons (ee_var 9) (ea_nil)))) (ea_cons (ee_tup (ea_cons (ee_var 9) (ea_cons (ee_var 8) (ea_nil)))) (ea_nil))))) (eg_tup rfl (egs_cons (eg_name (i := 10) nd) (egs_cons (eg_name (i := 11) nd) (egs_nil)))) (ess_one (es_if (et_cmp (OpR.or op_ne (op_neD hr.units)) ok_ne (ec D_middle_mark hr tk_of (ea_cons (ee_var 0) (ea_cons (ee_iy hr.units (ee_var 1) (ee_var 10)) (ea_cons (ee_iy hr.units (ee_var 1) (ee_var 11)) (ea_nil))))) (ee_iy hr.units (ee_var 1) (ee_op op_addA ok_add (ee_op op_fdivC ok_div (ee_op op_sub ok_sub (ee_op op_addA ok_add (ee_var 8) (ee_var 9)) (ee_op op_mulC ok_mul (ee_int) (ee_var 4))) (ee_int)) (ee_var 4))) (nomark _)) (ess_one (es_ret (ee_bl))) (ess_nil))))
    (ess_cons (es_set (i := 12) nd (ec D_marks_between hr tk_of (ea_cons (ee_var 0) (ea_cons (ee_iy hr.units (ee_var 1) (ee_var 8)) (ea_cons (ee_iy hr.units (ee_var 1) (ee_var 9)) (ea_nil))))))
    (ess_cons (es_if (EW.et (ew_or (et_not (et_val (ee_isi .list rfl T.f_isinstance rfl T.f_list (by decide +kernel) (by decide) (by decide) (ee_var 12)))) (ew_or1 (et_cmp (OpR.or op_ne (op_neD hr.units)) ok_ne (ee_var 12) (ee_fz (ee_slice (ee_var 1) (eo_some (ee_var 8)) (eo_some (ee_op op_addA ok_add (ee_var 9) (ee_int))))) (nomark _))))) (ess_one (es_ret (ee_bl))) (ess_nil))
    (ess_cons (es_expr (ee_mt PySem.F.plainAttrs_list PySem.F.slot_list_append PySem.F.type_list_append mt_append tyL_ok ok_app (ee_var 12) (ea_cons (ee_var 5) (ea_nil))))
    (ess_one (es_ret (ee_cmp (OpR.or op_eq (op_eqD hr.units)) ok_eq (ec D_marks_between hr tk_of (ea_cons (ee_var 0) (ea_cons (ee_var 5) (ea_cons (ee_var 6) (ea_nil))))) (ee_ifExp (et_cmp op_le ok_le (ee_var 2) (ee_var 3) (nomark _)) (ee_fz (ee_slice (ee_var 1) (eo_some (ee_var 2)) (eo_some (ee_op op_addA ok_add (ee_var 3) (ee_int))))) (ee_fz (ee_lst (ea_nil)))) (nomark _)))))))))))))
abbrev s__law_is_refused : Stmt := topS 55
theorem sc__law_is_refused : FnScope ["_law_which", "_law_ruler", "_law_one", "_law_other", "_law_caught", "error"] ["_law_which", "_law_ruler", "_law_one", "_law_other"] (defScope s__law_is_refused) := ⟨rfl, rfl, rfl, by decide +kernel, rfl, by decide +kernel, by decide +kernel⟩
theorem ok__law_is_refused {f : Addr} {fd : FuncData} (T : Top K mg) (D_mark_at : Df P w K mg base 6 "mark_at" ["ruler", "rank"] m_mark_at) (D_beside : Df P w K mg base 9 "beside" ["ruler", "mark", "many"] m_beside) (D_marks_between : Df P w K mg base 10 "marks_between" ["ruler", "low", "high"] m_marks_between) (F : FnP K "_law_is_refused" s__law_is_refused f fd) (g : mg "_law_is_refused" = some (.ref f)) : Df P w K mg base 11 "_law_is_refused" ["_law_which", "_law_ruler", "_law_one", "_law_other"] m__law_is_refused :=
  have nd := sc__law_is_refused.nd
  df_of (kk := 4) (NN := 6) (body := b__law_is_refused) F g sc__law_is_refused rfl rfl (fun _ _ _ _ _ _ _ us hl => match us, hl with | [_, _, _, _], _ => rfl) fun cdv A outer s H E hr =>
    ess_cons (es_set (i := 4) nd (ee_non))
    (ess_cons (es_try (i := 5) T.t_TooGreat tk_of nd (fun W pn xe tk po => ess_one (es_if (et_cmp (OpR.or op_eq (op_eqD hr.units)) ok_eq (ee_var 0) (ee_int) (nomark _)) (ess_one (es_expr (ec D_mark_at hr tk (ea_cons (ee_var 1) (ea_cons (ee_var 2) (ea_nil)))))) (ess_one (es_if (et_cmp (OpR.or op_eq (op_eqD hr.units)) ok_eq (ee_var 0) (ee_int) (nomark _)) (ess_one (es_expr (ec D_beside hr tk (ea_cons (ee_var 1) (ea_cons (ee_var 2) (ea_cons (ee_var 3) (ea_nil))))))) (ess_one (es_expr (ec D_marks_between hr tk (ea_cons (ee_var 1) (ea_cons (ee_var 2) (ea_cons (ee_var 3) (ea_nil))))))))))) (fun a pn => ess_one (es_set (i := 4) nd (ee_var 5))))
    (ess_one (es_ret (ee_and (ee_cmp op_notN ok_notN (ee_var 4) (ee_non) (nomark _)) (ee_one (ee_not (ee_isO T.i_BadMark rfl T.f_isinstance (ee_var 4))))))))
abbrev s__law_far_right : Stmt := topS 54
theorem sc__law_far_right : FnScope ["_law_high", "_law_turn", "_law_great", "_law_ruler", "_law_due", "_law_fresh", "_law_one"] [] (defScope s__law_far_right) := ⟨rfl, rfl, rfl, by decide +kernel, rfl, by decide +kernel, by decide +kernel⟩
theorem ok__law_far_right {f : Addr} {fd : FuncData} (T : Top K mg) (D_rank_of : Df P w K mg base 8 "rank_of" ["ruler", "mark"] m_rank_of) (D_mark_at : Df P w K mg base 6 "mark_at" ["ruler", "rank"] m_mark_at) (D__law_is_refused : Df P w K mg base 11 "_law_is_refused" ["_law_which", "_law_ruler", "_law_one", "_law_other"] m__law_is_refused) (D_need_mark : Df P w K mg base 7 "need_mark" ["ruler", "thing"] m_need_mark) (D_beside : Df P w K mg base 9 "beside" ["ruler", "mark", "many"] m_beside) (D_many_between : Df P w K mg base 9 "many_between" ["ruler", "low", "high"] m_many_between) (D_middle_mark : Df P w K mg base 9 "middle_mark" ["ruler", "low", "high"] m_middle_mark) (F : FnP K "_law_far_right" s__law_far_right f fd) (g : mg "_law_far_right" = some (.ref f)) : Df P w K mg base 12 "_law_far_right" [] m__law_far_right :=
  have nd := sc__law_far_right.nd
  df_of (kk := 0) (NN := 7) (body := b__law_far_right) F g sc__law_far_right rfl rfl (fun _ _ _ _ _ _ _ us hl => match us, hl with | [], _ => rfl) fun cdv A outer s H E hr =>
    ess_cons (es_set (i := 0) nd (ee_int))
    (ess_cons (es_for (fb := bl__law_far_right_1) po_of rfl (ei_range1 (by rfl) T.f_range (ea_cons (ee_int) (ea_nil))) (eg_name (i := 1) nd) (ess_one (es_set (i := 0) nd (ee_op op_mulC ok_mul (ee_var 0) (ee_int)))))
    (ess_cons (es_set (i := 2) nd (ee_op op_mulC ok_mul (ee_var 0) (ee_int)))
    (ess_cons (es_for (fb := bl__law_far_right_3) po_of rfl (ei_seq (ee_tup (ea_cons (ee_tup (ea_cons (ee_tup (ea_cons (ee_int) (ea_cons (ee_int) (ea_cons (ee_neg (ee_int)) (ea_cons (ee_str) (ea_nil)))))) (ea_cons (ee_int) (ea_cons (ee_int) (ea_nil))))) (ea_cons (ee_tup (ea_cons (ee_tup (ea_cons (ee_int) (ea_cons (ee_int) (ea_cons (ee_neg (ee_int)) (ea_cons (ee_str) (ea_nil)))))) (ea_cons (ee_op op_addA ok_add (ee_op op_mulC ok_mul (ee_int) (ee_int)) (ee_int)) (ea_cons (ee_int) (ea_nil))))) (ea_nil))))) (eg_tup rfl (egs_cons (eg_name (i := 3) nd) (egs_cons (eg_name (i := 4) nd) (egs_cons (eg_name (i := 5) nd) (egs_nil))))) (ess_cons (es_if (EW.et (ew_or (et_cmp (OpR.or op_ne (op_neD hr.units)) ok_ne (ec D_rank_of hr tk_of (ea_cons (ee_var 3) (ea_cons (ee_tup (ea_cons (ee_var 0) (ea_cons (ee_int) (ea_nil)))) (ea_nil)))) (ee_var 4) (nomark _)) (ew_or1 (et_cmp (OpR.or op_ne (op_neD hr.units)) ok_ne (ec D_mark_at hr tk_of (ea_cons (ee_var 3) (ea_cons (ee_var 4) (ea_nil)))) (ee_tup (ea_cons (ee_var 0) (ea_cons (ee_int) (ea_nil)))) (nomark _))))) (ess_one (es_ret (ee_bl))) (ess_nil))
    (ess_cons (es_if (EW.et (ew_or (et_cmp (OpR.or op_ne (op_neD hr.units)) ok_ne (ec D_mark_at hr tk_of (ea_cons (ee_var 3) (ea_cons (ee_op op_sub ok_sub (ee_int) (ee_var 4)) (ea_nil)))) (ee_tup (ea_cons (ee_op op_sub ok_sub (ee_int) (ee_var 0)) (ea_cons (ee_int) (ea_nil)))) (nomark _)) (ew_or1 (et_not (et_val (ec D__law_is_refused hr tk_of (ea_cons (ee_int) (ea_cons (ee_var 3) (ea_cons (ee_op op_addA ok_add (ee_var 4) (ee_var 5)) (ea_cons (ee_non) (ea_nil))))))))))) (ess_one (es_ret (ee_bl))) (ess_nil))
    (ess_cons (es_if (EW.et (ew_or (et_not (et_val (ec D__law_is_refused hr tk_of (ea_cons (ee_int) (ea_cons (ee_var 3) (ea_cons (ee_tup (ea_cons (ee_var 0) (ea_cons (ee_int) (ea_nil)))) (ea_cons (ee_var 5) (ea_nil)))))))) (ew_or1 (et_not (et_val (ec D__law_is_refused hr tk_of (ea_cons (ee_int) (ea_cons (ee_var 3) (ea_cons (ee_tup (ea_cons (ee_op op_sub ok_sub (ee_int) (ee_var 0)) (ea_cons (ee_int) (ea_nil)))) (ea_cons (ee_op op_sub ok_sub (ee_int) (ee_var 5)) (ea_nil))))))))))) (ess_one (es_ret (ee_bl))) (ess_nil))
    (ess_cons (es_for (fb := bl__law_far_right_2) po_of rfl (ei_seq (ee_tup (ea_cons (ee_var 0) (ea_cons (ee_var 2) (ea_nil))))) (eg_name (i := 6) nd) (ess_one (es_if (et_not (et_val (ec D__law_is_refused hr tk_of (ea_cons (ee_int) (ea_cons (ee_var 3) (ea_cons (ee_tup (ea_cons (ee_var 6) (ea_cons (ee_int) (ea_nil)))) (ea_cons (ee_tup (ea_cons (ee_var 2) (ea_cons (ee_int) (ea_nil)))) (ea_nil)))))))) (ess_one (es_ret (ee_bl))) (ess_nil))))
    (ess_cons (es_if (EW.et (ew_or (et_cmp op_notN ok_notN (ec D_need_mark hr tk_of (ea_cons (ee_var 3) (ea_cons (ee_tup (ea_cons (ee_var 2) (ea_cons (ee_int) (ea_nil)))) (ea_nil)))) (ee_non) (nomark _)) (ew_or1 (et_cmp (OpR.or op_ne (op_neD hr.units)) ok_ne (ec D_rank_of hr tk_of (ea_cons (ee_var 3) (ea_cons (ee_tup (ea_cons (ee_var 2) (ea_cons (ee_int) (ea_nil)))) (ea_nil)))) (ee_op op_addA ok_add (ee_var 4) (ee_var 5)) (nomark _))))) (ess_one (es_ret (ee_bl))) (ess_nil))
    (ess_cons (es_if (et_cmp (OpR.or op_ne (op_neD hr.units)) ok_ne (ec D_beside hr tk_of (ea_cons (ee_var 3) (ea_cons (ee_tup (ea_cons (ee_var 2) (ea_cons (ee_int) (ea_nil)))) (ea_cons (ee_op op_sub ok_sub (ee_int) (ee_var 5)) (ea_nil))))) (ee_tup (ea_cons (ee_var 0) (ea_cons (ee_int) (ea_nil)))) (nomark _)) (ess_one (es_ret (ee_bl))) (ess_nil))
    (ess_cons (es_if (et_cmp (OpR.or op_ne (op_neD hr.units)) ok_ne (ec D_many_between hr tk_of (ea_cons (ee_var 3) (ea_cons (ee_tup (ea_cons (ee_var 0) (ea_cons (ee_int) (ea_nil)))) (ea_cons (ee_tup (ea_cons (ee_var 2) (ea_cons (ee_int) (ea_nil)))) (ea_nil))))) (ee_op op_addA ok_add (ee_var 5) (ee_int)) (nomark _)) (ess_one (es_ret (ee_bl))) (ess_nil))
    (ess_one (es_if (et_cmp (OpR.or op_ne (op_neD hr.units)) ok_ne (ec D_middle_mark hr tk_of (ea_cons (ee_var 3) (ea_cons (ee_tup (ea_cons (ee_var 2) (ea_cons (ee_int) (ea_nil)))) (ea_cons (ee_tup (ea_cons (ee_op op_mulC ok_mul (ee_var 2) (ee_int)) (ea_cons (ee_int) (ea_nil)))) (ea_nil))))) (ee_tup (ea_cons (ee_op op_mulC ok_mul (ee_var 2) (ee_int)) (ea_cons (ee_int) (ea_nil)))) (nomark _)) (ess_one (es_ret (ee_bl))) (ess_nil)))))))))))
    (ess_one (es_ret (ee_bl))))))
abbrev s_law : Stmt := topS 56
theorem sc_law : FnScope ["_law_script", "_law_is_wide", "_law_k", "_law_cell", "_law_stream_here", "_law_one", "_law_base", "_law_figures", "_law_ruler", "_law_rising_here", "_law_row", "_law_turn", "_law_at", "_law_other", "_law_wide"] ["_law_script"] (defScope s_law) := ⟨rfl, rfl, rfl, by decide +kernel, rfl, by decide +kernel, by decide +kernel⟩
theorem ok_law {f : Addr} {fd : FuncData} (T : Top K mg) (D__law_far_right : Df P w K mg base 12 "_law_far_right" [] m__law_far_right) (D__law_stream : Df P w K mg base 2 "_law_stream" ["_law_cell", "_law_k"] m__law_stream) (D__law_mixed : Df P w K mg base 1 "_law_mixed" ["_law_number", "_law_k"] m__law_mixed) (D__law_take : Df P w K mg base 2 "_law_take" ["_law_stream_here", "_law_many"] m__law_take) (D__law_rising : Df P w K mg base 2 "_law_rising" ["_law_ruler"] m__law_rising) (D__law_two_right : Df P w K mg base 11 "_law_two_right" ["_law_ruler", "_law_row", "_law_at", "_law_other"] m__law_two_right) (D__law_is_great : Df P w K mg base 11 "_law_is_great" ["_law_ruler", "_law_many"] m__law_is_great) (F : FnP K "law" s_law f fd) : FnG P w K mg base 13 f fd ["_law_script"] (spF K mg m_law) :=
  have nd := sc_law.nd
  law_of (kk := 1) (NN := 15) (body := b_law) F sc_law rfl rfl fun cdv A outer s H E hr =>
    ess_cons (es_set (i := 1) nd (ee_cmp (OpR.or op_eq (op_eqD hr.units)) ok_eq (ee_op op_modN ok_mod (ee_blt call_len ok_len (by rfl) T.f_len PySem.boot_len (ea_cons (ee_var 0) (ea_nil))) (ee_int)) (ee_int) (nomark _)))
    (ess_cons (es_if (EW.et (ew_and (et_val (ee_var 1)) (ew_and1 (et_not (et_val (ec0 D__law_far_right hr tk_of)))))) (ess_one (es_ret (ee_bl))) (ess_nil))
    (ess_cons (es_for (fb := bl_law_2) po_of rfl (ei_enumB (by rfl) T.f_enumerate (ea_cons (ee_fz (ee_step (ee_fz (ee_op op_addA ok_add (ee_var 0) (ee_fz (ee_lst (ea_cons (ee_int) (ea_nil)))))) (eo_none) (eo_some (ee_int)) (eo_some (ee_int)))) (ea_nil))) (eg_tup rfl (egs_cons (eg_name (i := 2) nd) (egs_cons (eg_name (i := 3) nd) (egs_nil)))) (ess_cons (es_set (i := 4) nd (ec D__law_stream hr tk_of (ea_cons (ee_op op_addA ok_add (ee_var 3) (ee_blt (cr_sum rfl) ok_sum (by rfl) T.f_sum (by decide +kernel) (ea_cons (ee_fz (ee_lc [5] [("_law_one", 5)] rfl nd (ei_seq (ee_fz (ee_slice (ee_var 0) (eo_some (ee_op op_addA ok_add (ee_op op_mulC ok_mul (ee_int) (ee_var 2)) (ee_int))) (eo_some (ee_op op_addA ok_add (ee_op op_mulC ok_mul (ee_int) (ee_var 2)) (ee_int)))))) (blkOk_by (N := ["_law_script", "_law_is_wide", "_law_k", "_law_cell", "_law_stream_here", "_law_one", "_law_base", "_law_figures", "_law_ruler", "_law_rising_here", "_law_row", "_law_turn", "_law_at", "_law_other", "_law_wide"]) (sc := defScope s_law) (by decide +kernel)) (fun _ _ _ _ _ => egw_name (i := 5) nd) (fun _ _ _ _ _ => ets_nil) (fun _ _ _ _ _ => ec D__law_mixed hr tk_blk (ea_cons (ee_var 5) (ea_cons (ee_int) (ea_nil)))))) (ea_nil)))) (ea_cons (ee_var 2) (ea_nil)))))
    (ess_cons (es_set (i := 6) nd (ee_op op_addA ok_add (ee_int) (ec D__law_take hr tk_of (ea_cons (ee_var 4) (ea_cons (ee_int) (ea_nil))))))
    (ess_cons (es_set (i := 7) nd (ee_op op_addA ok_add (ee_int) (ec D__law_take hr tk_of (ea_cons (ee_var 4) (ea_cons (ee_ifExp (et_cmp op_lt ok_lt (ee_var 6) (ee_int) (nomark _)) (ee_int) (ee_int)) (ea_nil))))))
    (ess_cons (es_set (i := 8) nd (ee_tup (ea_cons (ee_var 6) (ea_cons (ee_var 7) (ea_cons (ee_op op_sub ok_sub (ec D__law_take hr tk_of (ea_cons (ee_var 4) (ea_cons (ee_int) (ea_nil)))) (ee_int)) (ea_cons (ee_ix (ee_fz (ee_lst (ea_cons (ee_str) (ea_cons (ee_str) (ea_cons (ee_str) (ea_cons (ee_str) (ea_nil))))))) (ec D__law_take hr tk_of (ea_cons (ee_var 4) (ea_cons (ee_int) (ea_nil))))) (ea_nil)))))))
    (ess_cons (es_set (i := 9) nd (ec D__law_rising hr tk_of (ea_cons (ee_var 8) (ea_nil))))
    (ess_cons (es_set (i := 10) nd (ee_fz (ee_op op_addA ok_add (ee_fz (ee_op op_addA ok_add (ee_fz (ee_lc [5] [("_law_one", 5)] rfl nd (ei_rev (by rfl) T.f_reversed (ea_cons (ee_var 9) (ea_nil))) (blkOk_by (N := ["_law_script", "_law_is_wide", "_law_k", "_law_cell", "_law_stream_here", "_law_one", "_law_base", "_law_figures", "_law_ruler", "_law_rising_here", "_law_row", "_law_turn", "_law_at", "_law_other", "_law_wide"]) (sc := defScope s_law) (by decide +kernel)) (fun _ _ _ _ _ => egw_name (i := 5) nd) (fun _ _ _ _ _ => ets_nil) (fun _ _ _ _ _ => ee_tup (ea_cons (ee_op op_sub ok_sub (ee_int) (ee_ix (ee_var 5) (ee_int))) (ea_cons (ee_ix (ee_var 5) (ee_int)) (ea_nil)))))) (ee_fz (ee_lst (ea_cons (ee_tup (ea_cons (ee_int) (ea_cons (ee_int) (ea_nil)))) (ea_nil)))))) (ee_var 9))))
    (ess_cons (es_for (fb := bl_law_1) po_of rfl (ei_range1 (by rfl) T.f_range (ea_cons (ee_int) (ea_nil))) (eg_name (i := 11) nd) (ess_cons (es_set (i := 12) nd (ec D__law_take hr tk_of (ea_cons (ee_var 4) (ea_cons (ee_blt call_len ok_len (by rfl) T.f_len PySem.boot_len (ea_cons (ee_var 10) (ea_nil))) (ea_nil)))))
    (ess_cons (es_set (i := 13) nd (ee_ifExp (et_cmp op_gt ok_gt (ee_var 11) (ee_int) (nomark _)) (ec D__law_take hr tk_of (ea_cons (ee_var 4) (ea_cons (ee_blt call_len ok_len (by rfl) T.f_len PySem.boot_len (ea_cons (ee_var 10) (ea_nil))) (ea_nil)))) (ee_blt (call_min2 rfl) ok_min (by rfl) T.f_min (by decide +kernel) (ea_cons (ee_op op_sub ok_sub (ee_blt call_len ok_len (by rfl) T.f_len PySem.boot_len (ea_cons (ee_var 10) (ea_nil))) (ee_int)) (ea_cons (ee_op op_addA ok_add (ee_var 12) (ec D__law_take hr tk_of (ea_cons (ee_var 4) (ea_cons (ee_int) (ea_nil))))) (ea_nil))))))
    (ess_one (es_if (et_not (et_val (ec D__law_two_right hr tk_of (ea_cons (ee_var 8) (ea_cons (ee_var 10) (ea_cons (ee_var 12) (ea_cons (ee_var 13) (ea_nil)))))))) (ess_one (es_ret (ee_bl))) (ess_nil))))))
    (ess_cons (es_set (i := 14) nd (ee_op op_addA ok_add (ee_tup (ea_cons (ee_int) (ea_cons (ee_int) (ea_nil)))) (ee_fz (ee_slice (ee_var 8) (eo_some (ee_int)) (eo_none)))))
    (ess_one (es_if (EW.et (ew_and (et_cmp (OpR.or op_eq (op_eqD hr.units)) ok_eq (ee_var 2) (ee_int) (nomark _)) (ew_and (et_val (ee_var 1)) (ew_and1 (EW.et (ew_or (et_val (ec D__law_is_great hr tk_of (ea_cons (ee_var 14) (ea_cons (ee_int) (ea_nil))))) (ew_or1 (et_not (et_val (ec D__law_is_great hr tk_of (ea_cons (ee_var 14) (ea_cons (ee_int) (ea_nil))))))))))))) (ess_one (es_ret (ee_bl))) (ess_nil))))))))))))
    (ess_one (es_ret (ee_bl)))))
end
def d_is_whole : He.DefD := ⟨("is_whole", none), "is_whole", "is_whole", defArgs s_is_whole, defBody s_is_whole, defScope s_is_whole, [], []⟩
def d_is_among : He.DefD := ⟨("is_among", none), "is_among", "is_among", defArgs s_is_among, defBody s_is_among, defScope s_is_among, [], []⟩
def d_shared : He.DefD := ⟨("shared", none), "shared", "shared", defArgs s_shared, defBody s_shared, defScope s_shared, [], []⟩
def d_fraction : He.DefD := ⟨("fraction", none), "fraction", "fraction", defArgs s_fraction, defBody s_fraction, defScope s_fraction, [], []⟩
def d_is_fraction : He.DefD := ⟨("is_fraction", none), "is_fraction", "is_fraction", defArgs s_is_fraction, defBody s_is_fraction, defScope s_is_fraction, [], []⟩
def d_is_great : He.DefD := ⟨("is_great", none), "is_great", "is_great", defArgs s_is_great, defBody s_is_great, defScope s_is_great, [], []⟩
def d_need_small : He.DefD := ⟨("need_small", none), "need_small", "need_small", defArgs s_need_small, defBody s_need_small, defScope s_need_small, [], []⟩
def d_whole_of : He.DefD := ⟨("whole_of", none), "whole_of", "whole_of", defArgs s_whole_of, defBody s_whole_of, defScope s_whole_of, [], []⟩
def d_turned : He.DefD := ⟨("turned", none), "turned", "turned", defArgs s_turned, defBody s_turned, defScope s_turned, [], []⟩
def d_times : He.DefD := ⟨("times", none), "times", "times", defArgs s_times, defBody s_times, defScope s_times, [], []⟩
def d_over : He.DefD := ⟨("over", none), "over", "over", defArgs s_over, defBody s_over, defScope s_over, [], []⟩
def d_size_of : He.DefD := ⟨("size_of", none), "size_of", "size_of", defArgs s_size_of, defBody s_size_of, defScope s_size_of, [], []⟩
def d_is_less : He.DefD := ⟨("is_less", none), "is_less", "is_less", defArgs s_is_less, defBody s_is_less, defScope s_is_less, [], []⟩
def d_power : He.DefD := ⟨("power", none), "power", "power", defArgs s_power, defBody s_power, defScope s_power, [], []⟩
def d_is_ruler : He.DefD := ⟨("is_ruler", none), "is_ruler", "is_ruler", defArgs s_is_ruler, defBody s_is_ruler, defScope s_is_ruler, [], []⟩
def d_need_ruler : He.DefD := ⟨("need_ruler", none), "need_ruler", "need_ruler", defArgs s_need_ruler, defBody s_need_ruler, defScope s_need_ruler, [], []⟩
def d_is_enough : He.DefD := ⟨("is_enough", none), "is_enough", "is_enough", defArgs s_is_enough, defBody s_is_enough, defScope s_is_enough, [], []⟩
def d_place_of : He.DefD := ⟨("place_of", none), "place_of", "place_of", defArgs s_place_of, defBody s_place_of, defScope s_place_of, [], []⟩
def d_step_of : He.DefD := ⟨("step_of", none), "step_of", "step_of", defArgs s_step_of, defBody s_step_of, defScope s_step_of, [], []⟩
def d_whole_by : He.DefD := ⟨("whole_by", none), "whole_by", "whole_by", defArgs s_whole_by, defBody s_whole_by, defScope s_whole_by, [], []⟩
def d_rounded : He.DefD := ⟨("rounded", none), "rounded", "rounded", defArgs s_rounded, defBody s_rounded, defScope s_rounded, [], []⟩
def d_is_mark : He.DefD := ⟨("is_mark", none), "is_mark", "is_mark", defArgs s_is_mark, defBody s_is_mark, defScope s_is_mark, [], []⟩
def d_need_mark : He.DefD := ⟨("need_mark", none), "need_mark", "need_mark", defArgs s_need_mark, defBody s_need_mark, defScope s_need_mark, [], []⟩
def d_need_rank : He.DefD := ⟨("need_rank", none), "need_rank", "need_rank", defArgs s_need_rank, defBody s_need_rank, defScope s_need_rank, [], []⟩
def d_full_of : He.DefD := ⟨("full_of", none), "full_of", "full_of", defArgs s_full_of, defBody s_full_of, defScope s_full_of, [], []⟩
def d_rank_of : He.DefD := ⟨("rank_of", none), "rank_of", "rank_of", defArgs s_rank_of, defBody s_rank_of, defScope s_rank_of, [], []⟩
def d_far_of : He.DefD := ⟨("far_of", none), "far_of", "far_of", defArgs s_far_of, defBody s_far_of, defScope s_far_of, [], []⟩
def d_of_rank : He.DefD := ⟨("of_rank", none), "of_rank", "of_rank", defArgs s_of_rank, defBody s_of_rank, defScope s_of_rank, [], []⟩
def d_mark_at : He.DefD := ⟨("mark_at", none), "mark_at", "mark_at", defArgs s_mark_at, defBody s_mark_at, defScope s_mark_at, [], []⟩
def d_beside : He.DefD := ⟨("beside", none), "beside", "beside", defArgs s_beside, defBody s_beside, defScope s_beside, [], []⟩
def d_many_between : He.DefD := ⟨("many_between", none), "many_between", "many_between", defArgs s_many_between, defBody s_many_between, defScope s_many_between, [], []⟩
def d_middle_mark : He.DefD := ⟨("middle_mark", none), "middle_mark", "middle_mark", defArgs s_middle_mark, defBody s_middle_mark, defScope s_middle_mark, [], []⟩
def d_marks_between : He.DefD := ⟨("marks_between", none), "marks_between", "marks_between", defArgs s_marks_between, defBody s_marks_between, defScope s_marks_between, [], []⟩
def d__law_mixed : He.DefD := ⟨("_law_mixed", none), "_law_mixed", "_law_mixed", defArgs s__law_mixed, defBody s__law_mixed, defScope s__law_mixed, [], []⟩
def d__law_stream : He.DefD := ⟨("_law_stream", none), "_law_stream", "_law_stream", defArgs s__law_stream, defBody s__law_stream, defScope s__law_stream, [], []⟩
def d__law_take : He.DefD := ⟨("_law_take", none), "_law_take", "_law_take", defArgs s__law_take, defBody s__law_take, defScope s__law_take, [], []⟩
def d__law_lowest : He.DefD := ⟨("_law_lowest", none), "_law_lowest", "_law_lowest", defArgs s__law_lowest, defBody s__law_lowest, defScope s__law_lowest, [], []⟩
def d__law_power : He.DefD := ⟨("_law_power", none), "_law_power", "_law_power", defArgs s__law_power, defBody s__law_power, defScope s__law_power, [], []⟩
def d__law_rising : He.DefD := ⟨("_law_rising", none), "_law_rising", "_law_rising", defArgs s__law_rising, defBody s__law_rising, defScope s__law_rising, [], []⟩
def d__law_is_great : He.DefD := ⟨("_law_is_great", none), "_law_is_great", "_law_is_great", defArgs s__law_is_great, defBody s__law_is_great, defScope s__law_is_great, [], []⟩
def d__law_two_right : He.DefD := ⟨("_law_two_right", none), "_law_two_right", "_law_two_right", defArgs s__law_two_right, defBody s__law_two_right, defScope s__law_two_right, [], []⟩
def d__law_is_refused : He.DefD := ⟨("_law_is_refused", none), "_law_is_refused", "_law_is_refused", defArgs s__law_is_refused, defBody s__law_is_refused, defScope s__law_is_refused, [], []⟩
def d__law_far_right : He.DefD := ⟨("_law_far_right", none), "_law_far_right", "_law_far_right", defArgs s__law_far_right, defBody s__law_far_right, defScope s__law_far_right, [], []⟩
def d_law : He.DefD := ⟨("law", none), "law", "law", defArgs s_law, defBody s_law, defScope s_law, [], []⟩
def fn : List He.DefD := [d_is_whole, d_is_among, d_shared, d_fraction, d_is_fraction, d_is_great, d_need_small, d_whole_of, d_turned, d_times, d_over, d_size_of, d_is_less, d_power, d_is_ruler, d_need_ruler, d_is_enough, d_place_of, d_step_of, d_whole_by, d_rounded, d_is_mark, d_need_mark, d_need_rank, d_full_of, d_rank_of, d_far_of, d_of_rank, d_mark_at, d_beside, d_many_between, d_middle_mark, d_marks_between, d__law_mixed, d__law_stream, d__law_take, d__law_lowest, d__law_power, d__law_rising, d__law_is_great, d__law_two_right, d__law_is_refused, d__law_far_right, d_law]
def fa : List He.Fa := [.glo "is_whole", .glo "is_among", .glo "shared", .glo "fraction", .glo "is_fraction", .glo "is_great", .glo "need_small", .glo "whole_of", .glo "turned", .glo "times", .glo "over", .glo "size_of", .glo "is_less", .glo "power", .glo "is_ruler", .glo "need_ruler", .glo "is_enough", .glo "place_of", .glo "step_of", .glo "whole_by", .glo "rounded", .glo "is_mark", .glo "need_mark", .glo "need_rank", .glo "full_of", .glo "rank_of", .glo "far_of", .glo "of_rank", .glo "mark_at", .glo "beside", .glo "many_between", .glo "middle_mark", .glo "marks_between", .glo "_law_mixed", .glo "_law_stream", .glo "_law_take", .glo "_law_lowest", .glo "_law_power", .glo "_law_rising", .glo "_law_is_great", .glo "_law_two_right", .glo "_law_is_refused", .glo "_law_far_right", .glo "law", .free "ValueError", .free "abs", .free "bool", .free "enumerate", .free "int", .free "isinstance", .free "len", .free "list", .free "max", .free "min", .free "range", .free "reversed", .free "str", .free "sum", .free "tuple"]
def ex (K : PySem.W.Frag) : Bool := (gB K "GREATEST" c_GREATEST) && (gB K "MOST_FAR" c_MOST_FAR) && (gB K "MOST_MARKS" c_MOST_MARKS) && (gB K "WAYS" c_WAYS) && (isOB K "BadMark" ["BadMark"] ["BadRuler", "TooGreat"]) && (isBB K "ValueError" ["BadRuler", "BadMark", "TooGreat"] []) && (catB K "TooGreat" ["TooGreat"] ["BadRuler", "BadMark"]) && (errB K "BadMark") && (errB K "BadRuler") && (errB K "TooGreat")
abbrev R : PySem.W.OpenRow := PySem.W.OpenLaw.row PySem.Challenge.rw_roundsure_k07_marks_in_order
abbrev hk : PySem.W.Hook := hookR 4 fa fn ex
def ob (s : PySem.W.SharedT) : AlR := obsR 4 fa fn ex (HandSHeadRun.getT s)
theorem ob_eq (s : PySem.W.SharedT) : ob s = hk.obs s.abs := obsR_eq (HandSHeadRun.getT_eq s)
def loose : List Str := (["RoundError", "BadRuler", "BadMark", "TooGreat", "GREATEST", "is_whole", "is_among", "shared", "fraction", "is_fraction", "is_great", "need_small", "whole_of", "turned", "times", "over", "size_of", "is_less", "power", "WAYS", "is_ruler", "need_ruler", "is_enough", "place_of", "step_of", "whole_by", "rounded", "is_mark", "MOST_MARKS", "MOST_FAR"] : List Str) ++ (["need_mark", "need_rank", "full_of", "rank_of", "far_of", "of_rank", "mark_at", "beside", "many_between", "middle_mark", "marks_between", "_law_mixed", "_law_stream", "_law_take", "_law_lowest", "_law_power", "_law_rising", "_law_is_great", "_law_two_right", "_law_far_right", "_law_is_refused"] : List Str)
theorem run (w : World) : HandSHeadRun.RunEq R (PySem.W.view R.prog [56]) hk ob 40000 loose w := by
  intro os
  kernel_rfl
theorem facts {P : Program} {w : World} {K : PySem.W.Frag} {h : Heap} {mg : Str → Option Value} {f : Addr} (X : K.In h) (G : h.Ns mainGlobals mg) (hfa : mg ("law" : Str) = some (.ref f)) (c : SaysR fa fn ex K) :
    ∃ fd : FuncData, (∀ (s : Shared) (v : Value), BindsTo s fd ⟨[v], []⟩ [("_law_script", v)]) ∧ ∀ base : Heap, K.In base → base.Ns mainGlobals mg → FnG P w K mg base 13 f fd ["_law_script"] (spF K mg m_law) := by
  obtain ⟨c, cx⟩ := c
  obtain ⟨fd_is_whole, F_is_whole⟩ := c.def_ 0 (d := d_is_whole) rfl
  obtain ⟨fd_is_among, F_is_among⟩ := c.def_ 1 (d := d_is_among) rfl
  obtain ⟨fd_shared, F_shared⟩ := c.def_ 2 (d := d_shared) rfl
  obtain ⟨fd_fraction, F_fraction⟩ := c.def_ 3 (d := d_fraction) rfl
  obtain ⟨fd_is_fraction, F_is_fraction⟩ := c.def_ 4 (d := d_is_fraction) rfl
  obtain ⟨fd_is_great, F_is_great⟩ := c.def_ 5 (d := d_is_great) rfl
  obtain ⟨fd_need_small, F_need_small⟩ := c.def_ 6 (d := d_need_small) rfl
  obtain ⟨fd_whole_of, F_whole_of⟩ := c.def_ 7 (d := d_whole_of) rfl
  obtain ⟨fd_turned, F_turned⟩ := c.def_ 8 (d := d_turned) rfl
  obtain ⟨fd_times, F_times⟩ := c.def_ 9 (d := d_times) rfl
  obtain ⟨fd_over, F_over⟩ := c.def_ 10 (d := d_over) rfl
  obtain ⟨fd_size_of, F_size_of⟩ := c.def_ 11 (d := d_size_of) rfl
  obtain ⟨fd_is_less, F_is_less⟩ := c.def_ 12 (d := d_is_less) rfl
  obtain ⟨fd_power, F_power⟩ := c.def_ 13 (d := d_power) rfl
  obtain ⟨fd_is_ruler, F_is_ruler⟩ := c.def_ 14 (d := d_is_ruler) rfl
  obtain ⟨fd_need_ruler, F_need_ruler⟩ := c.def_ 15 (d := d_need_ruler) rfl
  obtain ⟨fd_is_enough, F_is_enough⟩ := c.def_ 16 (d := d_is_enough) rfl
  obtain ⟨fd_place_of, F_place_of⟩ := c.def_ 17 (d := d_place_of) rfl
  obtain ⟨fd_step_of, F_step_of⟩ := c.def_ 18 (d := d_step_of) rfl
  obtain ⟨fd_whole_by, F_whole_by⟩ := c.def_ 19 (d := d_whole_by) rfl
  obtain ⟨fd_rounded, F_rounded⟩ := c.def_ 20 (d := d_rounded) rfl
  obtain ⟨fd_is_mark, F_is_mark⟩ := c.def_ 21 (d := d_is_mark) rfl
  obtain ⟨fd_need_mark, F_need_mark⟩ := c.def_ 22 (d := d_need_mark) rfl
  obtain ⟨fd_need_rank, F_need_rank⟩ := c.def_ 23 (d := d_need_rank) rfl
  obtain ⟨fd_full_of, F_full_of⟩ := c.def_ 24 (d := d_full_of) rfl
  obtain ⟨fd_rank_of, F_rank_of⟩ := c.def_ 25 (d := d_rank_of) rfl
  obtain ⟨fd_far_of, F_far_of⟩ := c.def_ 26 (d := d_far_of) rfl
  obtain ⟨fd_of_rank, F_of_rank⟩ := c.def_ 27 (d := d_of_rank) rfl
  obtain ⟨fd_mark_at, F_mark_at⟩ := c.def_ 28 (d := d_mark_at) rfl
  obtain ⟨fd_beside, F_beside⟩ := c.def_ 29 (d := d_beside) rfl
  obtain ⟨fd_many_between, F_many_between⟩ := c.def_ 30 (d := d_many_between) rfl
  obtain ⟨fd_middle_mark, F_middle_mark⟩ := c.def_ 31 (d := d_middle_mark) rfl
  obtain ⟨fd_marks_between, F_marks_between⟩ := c.def_ 32 (d := d_marks_between) rfl
  obtain ⟨fd__law_mixed, F__law_mixed⟩ := c.def_ 33 (d := d__law_mixed) rfl
  obtain ⟨fd__law_stream, F__law_stream⟩ := c.def_ 34 (d := d__law_stream) rfl
  obtain ⟨fd__law_take, F__law_take⟩ := c.def_ 35 (d := d__law_take) rfl
  obtain ⟨fd__law_lowest, F__law_lowest⟩ := c.def_ 36 (d := d__law_lowest) rfl
  obtain ⟨fd__law_power, F__law_power⟩ := c.def_ 37 (d := d__law_power) rfl
  obtain ⟨fd__law_rising, F__law_rising⟩ := c.def_ 38 (d := d__law_rising) rfl
  obtain ⟨fd__law_is_great, F__law_is_great⟩ := c.def_ 39 (d := d__law_is_great) rfl
  obtain ⟨fd__law_two_right, F__law_two_right⟩ := c.def_ 40 (d := d__law_two_right) rfl
  obtain ⟨fd__law_is_refused, F__law_is_refused⟩ := c.def_ 41 (d := d__law_is_refused) rfl
  obtain ⟨fd__law_far_right, F__law_far_right⟩ := c.def_ 42 (d := d__law_far_right) rfl
  obtain ⟨fd_law, F_law⟩ := c.def_ 43 (d := d_law) rfl
  have g_is_whole := He.glo_ok X G (c.fact 0 (f := .glo "is_whole") rfl)
  have g_is_among := He.glo_ok X G (c.fact 1 (f := .glo "is_among") rfl)
  have g_shared := He.glo_ok X G (c.fact 2 (f := .glo "shared") rfl)
  have g_fraction := He.glo_ok X G (c.fact 3 (f := .glo "fraction") rfl)
  have g_is_fraction := He.glo_ok X G (c.fact 4 (f := .glo "is_fraction") rfl)
  have g_is_great := He.glo_ok X G (c.fact 5 (f := .glo "is_great") rfl)
  have g_need_small := He.glo_ok X G (c.fact 6 (f := .glo "need_small") rfl)
  have g_whole_of := He.glo_ok X G (c.fact 7 (f := .glo "whole_of") rfl)
  have g_turned := He.glo_ok X G (c.fact 8 (f := .glo "turned") rfl)
  have g_times := He.glo_ok X G (c.fact 9 (f := .glo "times") rfl)
  have g_over := He.glo_ok X G (c.fact 10 (f := .glo "over") rfl)
  have g_size_of := He.glo_ok X G (c.fact 11 (f := .glo "size_of") rfl)
  have g_is_less := He.glo_ok X G (c.fact 12 (f := .glo "is_less") rfl)
  have g_power := He.glo_ok X G (c.fact 13 (f := .glo "power") rfl)
  have g_is_ruler := He.glo_ok X G (c.fact 14 (f := .glo "is_ruler") rfl)
  have g_need_ruler := He.glo_ok X G (c.fact 15 (f := .glo "need_ruler") rfl)
  have g_is_enough := He.glo_ok X G (c.fact 16 (f := .glo "is_enough") rfl)
  have g_place_of := He.glo_ok X G (c.fact 17 (f := .glo "place_of") rfl)
  have g_step_of := He.glo_ok X G (c.fact 18 (f := .glo "step_of") rfl)
  have g_whole_by := He.glo_ok X G (c.fact 19 (f := .glo "whole_by") rfl)
  have g_rounded := He.glo_ok X G (c.fact 20 (f := .glo "rounded") rfl)
  have g_is_mark := He.glo_ok X G (c.fact 21 (f := .glo "is_mark") rfl)
  have g_need_mark := He.glo_ok X G (c.fact 22 (f := .glo "need_mark") rfl)
  have g_need_rank := He.glo_ok X G (c.fact 23 (f := .glo "need_rank") rfl)
  have g_full_of := He.glo_ok X G (c.fact 24 (f := .glo "full_of") rfl)
  have g_rank_of := He.glo_ok X G (c.fact 25 (f := .glo "rank_of") rfl)
  have g_far_of := He.glo_ok X G (c.fact 26 (f := .glo "far_of") rfl)
  have g_of_rank := He.glo_ok X G (c.fact 27 (f := .glo "of_rank") rfl)
  have g_mark_at := He.glo_ok X G (c.fact 28 (f := .glo "mark_at") rfl)
  have g_beside := He.glo_ok X G (c.fact 29 (f := .glo "beside") rfl)
  have g_many_between := He.glo_ok X G (c.fact 30 (f := .glo "many_between") rfl)
  have g_middle_mark := He.glo_ok X G (c.fact 31 (f := .glo "middle_mark") rfl)
  have g_marks_between := He.glo_ok X G (c.fact 32 (f := .glo "marks_between") rfl)
  have g__law_mixed := He.glo_ok X G (c.fact 33 (f := .glo "_law_mixed") rfl)
  have g__law_stream := He.glo_ok X G (c.fact 34 (f := .glo "_law_stream") rfl)
  have g__law_take := He.glo_ok X G (c.fact 35 (f := .glo "_law_take") rfl)
  have g__law_lowest := He.glo_ok X G (c.fact 36 (f := .glo "_law_lowest") rfl)
  have g__law_power := He.glo_ok X G (c.fact 37 (f := .glo "_law_power") rfl)
  have g__law_rising := He.glo_ok X G (c.fact 38 (f := .glo "_law_rising") rfl)
  have g__law_is_great := He.glo_ok X G (c.fact 39 (f := .glo "_law_is_great") rfl)
  have g__law_two_right := He.glo_ok X G (c.fact 40 (f := .glo "_law_two_right") rfl)
  have g__law_is_refused := He.glo_ok X G (c.fact 41 (f := .glo "_law_is_refused") rfl)
  have g__law_far_right := He.glo_ok X G (c.fact 42 (f := .glo "_law_far_right") rfl)
  have g_law := He.glo_ok X G (c.fact 43 (f := .glo "law") rfl)
  have cx2 := cx
  unfold ex at cx2
  simp only [Bool.and_eq_true] at cx2
  have T : Top K mg := ⟨He.free_ok X G (c.fact 44 (f := .free "ValueError") rfl), He.free_ok X G (c.fact 45 (f := .free "abs") rfl), He.free_ok X G (c.fact 46 (f := .free "bool") rfl), He.free_ok X G (c.fact 47 (f := .free "enumerate") rfl), He.free_ok X G (c.fact 48 (f := .free "int") rfl), He.free_ok X G (c.fact 49 (f := .free "isinstance") rfl), He.free_ok X G (c.fact 50 (f := .free "len") rfl), He.free_ok X G (c.fact 51 (f := .free "list") rfl), He.free_ok X G (c.fact 52 (f := .free "max") rfl), He.free_ok X G (c.fact 53 (f := .free "min") rfl), He.free_ok X G (c.fact 54 (f := .free "range") rfl), He.free_ok X G (c.fact 55 (f := .free "reversed") rfl), He.free_ok X G (c.fact 56 (f := .free "str") rfl), He.free_ok X G (c.fact 57 (f := .free "sum") rfl), He.free_ok X G (c.fact 58 (f := .free "tuple") rfl), gB_ok X G cx2.1.1.1.1.1.1.1.1.1, gB_ok X G cx2.1.1.1.1.1.1.1.1.2, gB_ok X G cx2.1.1.1.1.1.1.1.2, gB_ok X G cx2.1.1.1.1.1.1.2, isOB_ok X G cx2.1.1.1.1.1.2, isFB_ok X G cx2.1.1.1.1.2, catB_ok X G cx2.1.1.1.2, errB_ok X G cx2.1.1.2, errB_ok X G cx2.1.2, errB_ok X G cx2.2⟩
  have e := hfa.symm.trans g_law
  cases e
  have b := FunD.bindsA (ps := ["_law_script"]) F_law fun _ _ _ _ _ _ us hl => match us, hl with | [_], _ => rfl
  refine ⟨fd_law, fun s v => b s [v] rfl, fun base _ _ => ?_⟩
  have D_is_whole : Df P w K mg base 1 "is_whole" ["thing"] m_is_whole := ok_is_whole T  F_is_whole g_is_whole
  have D_is_among : Df P w K mg base 2 "is_among" ["thing", "least", "most"] m_is_among := ok_is_among T D_is_whole F_is_among g_is_among
  have D_shared : Df P w K mg base 1 "shared" ["one", "other"] m_shared := ok_shared T  F_shared g_shared
  have D_fraction : Df P w K mg base 2 "fraction" ["above", "below"] m_fraction := ok_fraction T D_shared F_fraction g_fraction
  have D_is_fraction : Df P w K mg base 2 "is_fraction" ["thing"] m_is_fraction := ok_is_fraction T D_is_whole D_shared F_is_fraction g_is_fraction
  have D_is_great : Df P w K mg base 1 "is_great" ["number"] m_is_great := ok_is_great T  F_is_great g_is_great
  have D_need_small : Df P w K mg base 2 "need_small" ["number"] m_need_small := ok_need_small T D_is_great F_need_small g_need_small
  have D_whole_of : Df P w K mg base 1 "whole_of" ["number"] m_whole_of := ok_whole_of T  F_whole_of g_whole_of
  have D_turned : Df P w K mg base 1 "turned" ["one"] m_turned := ok_turned T  F_turned g_turned
  have D_times : Df P w K mg base 3 "times" ["one", "other"] m_times := ok_times T D_fraction F_times g_times
  have D_over : Df P w K mg base 3 "over" ["one", "other"] m_over := ok_over T D_fraction F_over g_over
  have D_size_of : Df P w K mg base 1 "size_of" ["one"] m_size_of := ok_size_of T  F_size_of g_size_of
  have D_is_less : Df P w K mg base 1 "is_less" ["one", "other"] m_is_less := ok_is_less T  F_is_less g_is_less
  have D_power : Df P w K mg base 1 "power" ["base", "exponent"] m_power := ok_power T  F_power g_power
  have D_is_ruler : Df P w K mg base 3 "is_ruler" ["thing"] m_is_ruler := ok_is_ruler T D_is_among F_is_ruler g_is_ruler
  have D_need_ruler : Df P w K mg base 4 "need_ruler" ["thing"] m_need_ruler := ok_need_ruler T D_is_ruler F_need_ruler g_need_ruler
  have D_is_enough : Df P w K mg base 2 "is_enough" ["ruler", "size", "place"] m_is_enough := ok_is_enough T D_is_less D_power F_is_enough g_is_enough
  have D_place_of : Df P w K mg base 3 "place_of" ["ruler", "number"] m_place_of := ok_place_of T D_size_of D_is_enough F_place_of g_place_of
  have D_step_of : Df P w K mg base 4 "step_of" ["ruler", "number"] m_step_of := ok_step_of T D_power D_place_of F_step_of g_step_of
  have D_whole_by : Df P w K mg base 1 "whole_by" ["way", "above", "below"] m_whole_by := ok_whole_by T  F_whole_by g_whole_by
  have D_rounded : Df P w K mg base 5 "rounded" ["ruler", "number"] m_rounded := ok_rounded T D_step_of D_over D_times D_whole_of D_whole_by F_rounded g_rounded
  have D_is_mark : Df P w K mg base 6 "is_mark" ["ruler", "thing"] m_is_mark := ok_is_mark T D_is_fraction D_rounded F_is_mark g_is_mark
  have D_need_mark : Df P w K mg base 7 "need_mark" ["ruler", "thing"] m_need_mark := ok_need_mark T D_need_ruler D_is_mark F_need_mark g_need_mark
  have D_need_rank : Df P w K mg base 5 "need_rank" ["ruler", "thing"] m_need_rank := ok_need_rank T D_need_ruler D_is_whole F_need_rank g_need_rank
  have D_full_of : Df P w K mg base 2 "full_of" ["ruler"] m_full_of := ok_full_of T D_power F_full_of g_full_of
  have D_rank_of : Df P w K mg base 8 "rank_of" ["ruler", "mark"] m_rank_of := ok_rank_of T D_need_mark D_place_of D_over D_power D_size_of D_full_of F_rank_of g_rank_of
  have D_far_of : Df P w K mg base 3 "far_of" ["ruler", "rank"] m_far_of := ok_far_of T D_full_of F_far_of g_far_of
  have D_of_rank : Df P w K mg base 4 "of_rank" ["ruler", "rank"] m_of_rank := ok_of_rank T D_far_of D_times D_power D_whole_of D_full_of D_turned F_of_rank g_of_rank
  have D_mark_at : Df P w K mg base 6 "mark_at" ["ruler", "rank"] m_mark_at := ok_mark_at T D_need_rank D_far_of D_need_small D_of_rank F_mark_at g_mark_at
  have D_beside : Df P w K mg base 9 "beside" ["ruler", "mark", "many"] m_beside := ok_beside T D_rank_of D_need_rank D_mark_at F_beside g_beside
  have D_many_between : Df P w K mg base 9 "many_between" ["ruler", "low", "high"] m_many_between := ok_many_between T D_rank_of F_many_between g_many_between
  have D_middle_mark : Df P w K mg base 9 "middle_mark" ["ruler", "low", "high"] m_middle_mark := ok_middle_mark T D_rank_of D_of_rank F_middle_mark g_middle_mark
  have D_marks_between : Df P w K mg base 10 "marks_between" ["ruler", "low", "high"] m_marks_between := ok_marks_between T D_many_between D_rank_of D_mark_at F_marks_between g_marks_between
  have D__law_mixed : Df P w K mg base 1 "_law_mixed" ["_law_number", "_law_k"] m__law_mixed := ok__law_mixed T  F__law_mixed g__law_mixed
  have D__law_stream : Df P w K mg base 2 "_law_stream" ["_law_cell", "_law_k"] m__law_stream := ok__law_stream T D__law_mixed F__law_stream g__law_stream
  have D__law_take : Df P w K mg base 2 "_law_take" ["_law_stream_here", "_law_many"] m__law_take := ok__law_take T D__law_mixed F__law_take g__law_take
  have D__law_lowest : Df P w K mg base 1 "_law_lowest" ["_law_above", "_law_below"] m__law_lowest := ok__law_lowest T  F__law_lowest g__law_lowest
  have D__law_power : Df P w K mg base 1 "_law_power" ["_law_base", "_law_many"] m__law_power := ok__law_power T  F__law_power g__law_power
  have D__law_rising : Df P w K mg base 2 "_law_rising" ["_law_ruler"] m__law_rising := ok__law_rising T D__law_power D__law_lowest F__law_rising g__law_rising
  have D__law_is_great : Df P w K mg base 11 "_law_is_great" ["_law_ruler", "_law_many"] m__law_is_great := ok__law_is_great T D_marks_between D_mark_at F__law_is_great g__law_is_great
  have D__law_two_right : Df P w K mg base 11 "_law_two_right" ["_law_ruler", "_law_row", "_law_at", "_law_other"] m__law_two_right := ok__law_two_right T D_rank_of D_mark_at D_beside D_many_between D_middle_mark D_marks_between F__law_two_right g__law_two_right
  have D__law_is_refused : Df P w K mg base 11 "_law_is_refused" ["_law_which", "_law_ruler", "_law_one", "_law_other"] m__law_is_refused := ok__law_is_refused T D_mark_at D_beside D_marks_between F__law_is_refused g__law_is_refused
  have D__law_far_right : Df P w K mg base 12 "_law_far_right" [] m__law_far_right := ok__law_far_right T D_rank_of D_mark_at D__law_is_refused D_need_mark D_beside D_many_between D_middle_mark F__law_far_right g__law_far_right
  exact ok_law T D__law_far_right D__law_stream D__law_mixed D__law_take D__law_rising D__law_two_right D__law_is_great F_law
local macro_rules | `(tactic| walk_at "ev") => `(tactic| simp only [mkF, enter, retF, trunc, sSeq, So.then_nx, So.then_rt, sSet, sRet, sRetN, sIf, sExpr, sNil, sPar, sAsg, ofG, gN, gsCons, gsNil, gTupT_tup, gTupT_Q, Out.then_ok, Out.then_ex, Out.bind_ok, Out.bind_ex, eVar, eD_eq, eOp, eCall, eBlt, aCons, aNil, eTup, eIf, eT, eNot, eAnd, eOr, tvAnd, tvOr, tvNot, eNeg, eIsi, isTy_d, isQ_tup, isQ_bool, isQ_int, isI_bool, isI_int, isI_tup, isB_bool, isB_int, ixQ0, ixQ1, truO_b, fzs_nil, fzs_d, gInt_eq, gAdd_int, gAbs_eq, fAdd_eq, fSub_eq, fLt_eq, fLe_eq, fGt_eq, fGe_eq, ix0, ix1, ix2, ix3, ix4, ix5, ofO_some, Option.map_some, Option.bind_some, List.length_cons, List.length_nil, List.map_cons, List.map_nil, List.replicate_succ, List.replicate_zero, List.cons_append, List.nil_append, List.getElem?_cons_zero, List.getElem?_cons_succ, List.set_cons_zero, List.set_cons_succ, List.take_length, Int.reduceEq, Int.reduceLT, Int.reduceLE, Nat.reduceSub, Nat.reduceAdd, Nat.reduceLeDiff, Nat.reduceLT, Nat.zero_add, Nat.add_zero, Nat.sub_self, if_true, if_false, reduceIte, Bool.false_eq_true, fitB, decide_true, decide_false, Bool.not_true, Bool.not_false])
local macro_rules | `(tactic| walk_at "rg") => `(tactic| first | rfl | exact rgB_of (by omega) (by omega))
local macro_rules | `(tactic| walk_at "len") => `(tactic| first | rfl | (simp only [List.length_set, List.length_append, List.length_cons, List.length_nil]; done))
local macro_rules | `(tactic| walk_at "bd") => `(tactic| with_reducible first
    | assumption
    | (apply BQ.nu; walk_at "bq")
    | (apply BQ.dn; walk_at "bq")
    | (apply Bd.mul <;> walk_at "bd")
    | (apply Bd.add <;> walk_at "bd")
    | (apply Bd.sub <;> walk_at "bd")
    | (apply Bd.neg; walk_at "bd")
    | (apply Bd.abs; walk_at "bd")
    | (apply Bd.ediv; walk_at "bd")
    | (apply Bd.emod; walk_at "bd"; walk_at "pos")
    | exact Bd.lit _)
local macro_rules | `(tactic| walk_at "bq") => `(tactic| with_reducible first
    | assumption
    | exact BQ.zero
    | exact BQ.one
    | (apply BQ.add' <;> walk_at "bq")
    | (apply BQ.sub' <;> walk_at "bq")
    | (apply BQ.mul' <;> walk_at "bq")
    | (apply BQ.div' <;> walk_at "bq")
    | (apply BQ.neg; walk_at "bq")
    | (apply BQ.abs; walk_at "bq")
    | (apply BQ.mn <;> walk_at "bq")
    | (apply BQ.mx <;> walk_at "bq")
    | (apply BQ.ite <;> walk_at "bq")
    | exact BQ.lit _
    | (apply BQ.i; walk_at "bd")
    | (apply BQ.dv <;> walk_at "bd"))
local macro_rules | `(tactic| walk_at "pos") => `(tactic| first | exact den_pos _ | omega | decide)
local macro_rules | `(tactic| walk_at "mok") => `(tactic| first | exact mulOk_smallR (Bd.mono (by walk_at "bd") (by walk_at "sm")) | exact mulOk_small (Bd.mono (by walk_at "bd") (by walk_at "sm")) | exact Bd.mulOk (by walk_at "bd") (by walk_at "bd") (by walk_at "sm"))
local macro_rules | `(tactic| walk_at "dok") => `(tactic| exact Bd.divOk (Bd.mono (m := 9000) (by walk_at "bd") (by walk_at "sm")) (by decide) (by decide))
local macro_rules | `(tactic| walk_at "nz") => `(tactic| assumption)
local macro_rules | `(tactic| walk_at "shw") => `(tactic| first
    | assumption
    | exact Shw.none
    | exact Shw.bool _
    | (apply Shw.Q; (walk_at "bq"); walk_at "sm")
    | (apply Shw.int; (walk_at "bd"); walk_at "sm")
    | (apply Shw.tup; walk_at "shwl")
    | (apply Shw.lst; walk_at "shwl"))
local macro_rules | `(tactic| walk_at "shwl") => `(tactic| first
    | exact ShwL.nil
    | (apply ShwL.cons; (walk_at "shw"); walk_at "shwl"))
local macro_rules | `(tactic| walk_at "sm") => `(tactic| first | decide | omega)
local macro_rules | `(tactic| walk_at "wp") => `(tactic| first
    | (refine hd_v ?_; first | refine wp_v0 ?_ | refine wp_v1 ?_ | refine wp_v2 ?_ | refine wp_v3 ?_ | refine wp_v4 ?_ | refine wp_v5 ?_ | refine wp_v6 ?_ | refine wp_v7 ?_ | refine wp_v8 ?_ | refine wp_v9 ?_ | refine wp_v10 ?_ | refine wp_v11 ?_ | refine wp_v12 ?_ | refine wp_v13 ?_ | refine wp_v14 ?_ | refine wp_v15 ?_ | refine wp_v16 ?_ | refine wp_v17 ?_ | refine wp_v18 ?_ | refine wp_v19 ?_ | refine wp_v20 ?_ | refine wp_v21 ?_ | refine wp_v22 ?_ | refine wp_v23 ?_ | refine wp_v24 ?_ | refine wp_v25 ?_)
    | walk_at "wk"
    | refine wp_D ?_
    | refine wp_op ?_
    | refine wp_call ?_
    | refine wp_cons ?_
    | refine wp_nil ?_
    | refine wp_T ?_
    | refine wp_if ?_
    | refine wp_tup ?_
    | refine wp_blt ?_
    | refine wp_fzL ?_
    | refine wp_fzO ?_
    | refine wp_fzB ?_
    | refine wp_fzS ?_
    | refine wp_fzT ?_
    | refine wp_fzR ?_
    | refine wp_rv ?_
    | refine wp_mtL ?_
    | refine wp_lst ?_
    | refine wp_tand ?_
    | refine wp_tor ?_
    | refine wp_tnot ?_
    | refine wp_and ?_
    | refine wp_or ?_
    | refine wp_not ?_
    | refine wp_chain ?_
    | refine wp_slice ?_
    | refine wp_oN ?_
    | refine wp_oS ?_
    | refine wp_step ?_
    | refine wp_tyes ?_
    | refine wp_isi ?_
    | refine wp_isE ?_
    | refine wp_neg ?_
    | refine wp_iv ?_
    | refine wp_itT ?_
    | refine wp_itL ?_
    | refine wp_rng1 ?_
    | refine wp_rng2 ?_
    | refine wp_zip ?_
    | refine wp_enumB ?_
    | refine wp_rev ?_
    | refine wp_dct0 ?_
    | refine wp_bits ?_
    | walk_at "wc")
local macro_rules | `(tactic| walk_at "ws") => `(tactic| first
    | refine ws_seq ?_
    | refine ws_set ?_
    | refine ws_if ?_
    | refine ws_ret ?_
    | refine ws_asg ?_
    | refine ws_expr ?_
    | refine ws_nil ?_
    | refine ws_for ?_
    | refine ws_par ?_
    | refine ws_aug ?_
    | refine ws_retN ?_
    | refine ws_cont ?_
    | refine ws_brk ?_
    | refine ws_raise ?_
    | refine ws_try ?_
    | (apply ws_frzE; exact (by walk_at "len"); (with_unfolding_all rfl))
    | (apply ws_frzS; assumption; exact (by walk_at "len"); (with_unfolding_all rfl))
    | walk_at "wsc")
local macro_rules | `(tactic| walk_at "wsc") => `(tactic| fail)
local macro_rules | `(tactic| walk_at "bqm") => `(tactic| exact BQ.mono (by walk_at "bq") (by walk_at "sm"))
local macro_rules | `(tactic| walk_at "wo") => `(tactic| first
    | refine wo_add ?_
    | refine wo_sub ?_
    | refine wo_ixQ0 ?_
    | refine wo_ixQ1 ?_
    | refine wo_ix0 ?_
    | refine wo_ix1 ?_
    | refine wo_lt ?_
    | refine wo_le ?_
    | refine wo_gt ?_
    | refine wo_ge ?_
    | refine wo_eqI ?_
    | refine wo_neI ?_
    | refine wo_eqQ ?_
    | refine wo_neQ ?_
    | refine wo_eqQQ ?_
    | refine wo_neQQ ?_
    | refine wo_eqSS ?_
    | refine wo_neSS ?_
    | refine wo_eqS ?_
    | refine wo_neS ?_
    | refine wo_eqB ?_
    | refine wo_neB ?_
    | refine wo_isNn ?_
    | refine wo_isNt ?_
    | refine wo_isNl ?_
    | refine wo_isNq ?_
    | refine wo_isNi ?_
    | refine wo_isNb ?_
    | refine wo_isNs ?_
    | refine wo_isNx ?_
    | refine wo_ntNx ?_
    | refine wo_isNy ?_
    | refine wo_ntNy ?_
    | refine wo_ntNn ?_
    | refine wo_ntNt ?_
    | refine wo_ntNl ?_
    | refine wo_ntNq ?_
    | refine wo_ntNi ?_
    | refine wo_ntNb ?_
    | refine wo_ntNs ?_
    | (refine wo_mul ?_ ?_; (walk_at "mok"))
    | (refine wo_mod ?_ ?_; (walk_at "pos"))
    | (refine wo_div ?_ ?_ ?_; (walk_at "pos"); (walk_at "dok"))
    | (apply wo_pow; exact (by decide); exact (by decide))
    | (apply wo_powG; exact (by decide); exact (Bd.mono (by walk_at "bd") (by walk_at "sm")))
    | (apply wo_shl; exact (by walk_at "sm"); exact (by walk_at "sm"); exact (Bd.mono (by walk_at "bd") (by walk_at "sm")))
    | refine wo_isB ?_
    | refine wo_notB ?_
    | refine wo_abs ?_
    | refine wo_max ?_
    | refine wo_min ?_
    | refine wo_int1b ?_
    | refine wo_int1i ?_
    | refine wo_lenQ ?_
    | refine wo_lenT0 ?_
    | refine wo_lenL0 ?_
    | refine wo_lenT1 ?_
    | refine wo_lenL1 ?_
    | refine wo_lenT2 ?_
    | refine wo_lenL2 ?_
    | refine wo_lenT3 ?_
    | refine wo_lenL3 ?_
    | refine wo_lenT4 ?_
    | refine wo_lenL4 ?_
    | refine wo_lenT5 ?_
    | refine wo_lenL5 ?_
    | refine wo_lenT6 ?_
    | refine wo_lenL6 ?_
    | refine wo_lenT7 ?_
    | refine wo_lenL7 ?_
    | refine wo_lenT8 ?_
    | refine wo_lenL8 ?_
    | refine wo_lenT9 ?_
    | refine wo_lenL9 ?_
    | refine wo_lenT10 ?_
    | refine wo_lenL10 ?_
    | refine wo_lenT11 ?_
    | refine wo_lenL11 ?_
    | refine wo_lenT12 ?_
    | refine wo_lenL12 ?_
    | refine wo_lenT13 ?_
    | refine wo_lenL13 ?_
    | refine wo_lenT14 ?_
    | refine wo_lenL14 ?_
    | refine wo_lenT15 ?_
    | refine wo_lenL15 ?_
    | refine wo_lenT ?_
    | refine wo_lenL ?_
    | refine wo_listT ?_
    | refine wo_listL ?_
    | refine wo_tupT ?_
    | refine wo_tupL ?_
    | refine wo_rv2 ?_
    | refine wo_rvT ?_
    | refine wo_iadd ?_
    | refine wo_ix2 ?_
    | refine wo_ix3 ?_
    | refine wo_ix4 ?_
    | refine wo_ix5 ?_
    | refine wo_il0 ?_
    | refine wo_il1 ?_
    | refine wo_il2 ?_
    | refine wo_il3 ?_
    | refine wo_ilm2 ?_
    | refine wo_ilm1' ?_
    | refine wo_ilm1 ?_
    | refine wo_ix6 ?_
    | refine wo_ix7 ?_
    | refine wo_ix8 ?_
    | refine wo_ix9 ?_
    | refine wo_ix10 ?_
    | refine wo_il4 ?_
    | refine wo_il5 ?_
    | refine wo_il6 ?_
    | refine wo_il7 ?_
    | refine wo_il8 ?_
    | refine wo_il9 ?_
    | refine wo_il10 ?_
    | refine wo_iyQ ?_
    | refine wo_iyT rfl ?_
    | refine wo_iyL rfl ?_
    | (apply wo_slT'; exact (by walk_at "cut"))
    | (apply wo_slL'; exact (by walk_at "cut"))
    | refine wo_slT ?_
    | refine wo_slL ?_
    | (apply wo_addL'; exact (by walk_at "app"); exact (by walk_at "lsz"))
    | (apply wo_addT'; exact (by walk_at "app"); exact (by walk_at "lsz"))
    | (apply wo_repr; exact (by walk_at "shw"); exact (by walk_at "sm"); exact (by walk_at "sm"))
    | refine wo_repT rfl rfl ?_
    | (apply wo_rep2; exact (by walk_at "len"))
    | (apply wo_repE; exact (by walk_at "len"); exact rfl; exact rfl)
    | (apply wo_appE; exact (by walk_at "len"); exact (by walk_at "app"); exact (by walk_at "lsz"))
    | (apply wo_appS; assumption; exact (by walk_at "len"); exact (by walk_at "app"); exact (by walk_at "lsz"))
    | (apply wo_ixS0'; assumption; exact (by walk_at "len"))
    | (apply wo_ixS1'; assumption; exact (by walk_at "len"))
    | (apply wo_ixE0; exact (by walk_at "len"))
    | (apply wo_ixE1; exact (by walk_at "len"))
    | (apply wo_dgE; exact (by walk_at "len"); exact (by walk_at "dval"))
    | (apply wo_iyE; exact (by walk_at "len"); exact (by walk_at "dval"))
    | walk_at "woc"
    | refine wo_eqSelf (p := false) (by walk_at "ly") (by decide) ?_
    | refine wo_neSelf (p := false) (by walk_at "ly") (by decide) ?_)
local macro_rules | `(tactic| walk_at "app") => `(tactic| first | (simp only [List.cons_append, List.nil_append] <;> rfl) | rfl)
local macro_rules | `(tactic| walk_at "lsz") => `(tactic| simp only [List.length_cons, List.length_nil, List.length_append, List.length_map] <;> first | decide | omega)
local macro_rules | `(tactic| walk_at "cut") => `(tactic| simp only [cut_to0, cut_from0, cut_to1, cut_from1, cut_to2, cut_from2, cut_to3, cut_from3, cut_to4, cut_from4, cut_to5, cut_from5, cut_to6, cut_from6, cut_to7, cut_from7, cut_to8, cut_from8, cut_to9, cut_from9, cut_0_1, cut_0_2, cut_0_3, cut_0_4, cut_0_5, cut_0_6, cut_1_2, cut_1_3, cut_1_4, cut_1_5, cut_1_6, cut_2_3, cut_2_4, cut_2_5, cut_2_6, cut_3_4, cut_3_5, cut_3_6, cut_4_5, cut_4_6, cut_5_6, List.take_succ_cons, List.take_zero, List.drop_succ_cons, List.drop_zero, List.take_nil, List.drop_nil] <;> rfl)
local macro_rules | `(tactic| walk_at "ly") => `(tactic| first
    | assumption
    | exact Ly.none
    | exact Ly.int
    | exact Ly.bool
    | exact Ly.Q
    | (apply Ly.tup; walk_at "lyl")
    | (apply Ly.lst; walk_at "lyl"))
local macro_rules | `(tactic| walk_at "lyl") => `(tactic| first
    | exact LyL.nil
    | (apply LyL.cons; (walk_at "ly"); walk_at "lyl"))
local macro_rules | `(tactic| walk_at "le") => `(tactic| first | exact Rat.le_refl | exact Rat.not_lt.mp ‹_› | exact Rat.le_of_lt ‹_› | assumption)
local macro_rules | `(tactic| walk_at "hn") => `(tactic| first | assumption | (simp only [List.length_append, List.length_cons, List.length_nil, List.length_set]; omega))
local macro_rules | `(tactic| walk_at "wk") => `(tactic| fail)
local macro_rules | `(tactic| walk_at "dval") => `(tactic| fail)
local macro_rules | `(tactic| walk_at "dput") => `(tactic| fail)
local macro_rules | `(tactic| walk_at "tupq") => `(tactic| first | refine tq_neg ?_ | refine tq_abs ?_ | refine tq_self ?_)
local macro_rules | `(tactic| walk_at "wc") => `(tactic| first | (apply wp_norm; assumption; intro _)| (apply wp_norm2; assumption; intro _ _))
local macro_rules | `(tactic| walk_at "wx") => `(tactic| fail)
local macro_rules | `(tactic| walk_at "woc") => `(tactic| fail)
local macro_rules | `(tactic| walk_at "wipe") => `(tactic| simp only [wipeE, List.set_cons_zero, List.set_cons_succ] <;> rfl)
local macro_rules | `(tactic| walk_at "setk") => `(tactic| first
    | refine setk0 ?_
    | refine setk1 ?_
    | refine setk2 ?_
    | refine setk3 ?_
    | refine setk4 ?_
    | refine setk5 ?_
    | refine setk6 ?_
    | refine setk7 ?_
    | refine setk8 ?_
    | refine setk9 ?_
    | refine setk10 ?_
    | refine setk11 ?_
    | refine setk12 ?_
    | refine setk13 ?_
    | refine setk14 ?_
    | refine setk15 ?_
    | refine setk16 ?_
    | refine setk17 ?_
    | refine setk18 ?_
    | refine setk19 ?_
    | refine setk20 ?_
    | refine setk21 ?_
    | refine setk22 ?_
    | refine setk23 ?_
    | refine setk24 ?_
    | refine setk25 ?_)
local macro_rules | `(tactic| walk_at "tupk") => `(tactic| first
    | walk_at "tupq"
    | refine tupk0 ?_
    | refine tupk1 ?_
    | refine tupk2 ?_
    | refine tupk3 ?_
    | refine tupk4 ?_
    | refine tupk5 ?_
    | refine tupk6 ?_
    | refine tupk7 ?_
    | refine tupk8 ?_
    | refine tupk9 ?_
    | refine tupk10 ?_
    | refine tupk11 ?_
    | refine tupk12 ?_
    | refine tupk13 ?_
    | refine tupk14 ?_
    | refine tupk15 ?_)
local macro_rules | `(tactic| walk_at "lstk") => `(tactic| first
    | refine lstk0 ?_
    | refine lstk1 ?_
    | refine lstk2 ?_
    | refine lstk3 ?_
    | refine lstk4 ?_
    | refine lstk5 ?_
    | refine lstk6 ?_
    | refine lstk7 ?_
    | refine lstk8 ?_
    | refine lstk9 ?_
    | refine lstk10 ?_
    | refine lstk11 ?_
    | refine lstk12 ?_
    | refine lstk13 ?_
    | refine lstk14 ?_
    | refine lstk15 ?_)
local macro_rules | `(tactic| walk_at "dc") => `(tactic| first | rfl | decide | exact decide_eq_true ‹_› | omega)
local macro_rules | `(tactic| walk_at "ai") => `(tactic| repeat' (first | exact ai_nil | (apply ai_cons; exact (by walk_at "sm"); exact (by walk_at "sm"))))
local macro_rules | `(tactic| walk_at "brk") => `(tactic| first
    | refine brk_t ?_
    | refine brk_f ?_
    | refine brk_not ?_
    | refine brk_and ?_
    | refine brk_or ?_
    | (apply brk_dec1; assumption)
    | (apply brk_dec0; assumption)
    | (apply brk_dec1; exact (by walk_at "dc"))
    | (apply brk_dec0; exact (by walk_at "dc"))
    | refine brk_dec (fun _ => ?_) (fun _ => ?_))
local macro_rules | `(tactic| walk_at "unk") => `(tactic| first
    | refine unk0 ?_
    | refine unk1 ?_
    | refine unk2 ?_
    | refine unk3 ?_
    | refine unk4 ?_
    | refine unk5 ?_
    | refine unk6 ?_
    | refine unk7 ?_
    | refine unk8 ?_
    | refine unk9 ?_
    | refine unk10 ?_
    | refine unk11 ?_
    | refine unk12 ?_
    | refine unk13 ?_
    | refine unk14 ?_
    | refine unk15 ?_
    | refine unk16 ?_
    | refine unk17 ?_
    | refine unk18 ?_
    | refine unk19 ?_
    | refine unk20 ?_
    | refine unk21 ?_
    | refine unk22 ?_
    | refine unk23 ?_
    | refine unk24 ?_
    | refine unk25 ?_)
local macro_rules | `(tactic| walk_at "w1") => `(tactic| with_reducible first
    | (refine hd_Wp ?_; walk_at "wp")
    | (refine hd_Ws ?_; walk_at "ws")
    | (refine hd_Wo ?_; walk_at "wo")
    | (refine hd_SetK ?_; walk_at "setk")
    | (refine hd_TupK ?_; walk_at "tupk")
    | (refine hd_BrK ?_; walk_at "brk")
    | refine trk ?_
    | (apply retK_d; exact (by walk_at "len"))
    | (apply retK_d'; exact (by walk_at "len"))
    | (apply retK_S; assumption; exact (by walk_at "len"))
    | (apply fzk_d; exact (by walk_at "len"))
    | (apply fzk_end; exact (by walk_at "len"))
    | (refine hd_LstK ?_; walk_at "lstk")
    | refine ex_is_int_none ?_
    | refine ex_is_int_bool ?_
    | refine ex_is_int_int ?_
    | refine ex_is_int_str ?_
    | refine ex_is_int_tuple ?_
    | refine ex_is_int_list ?_
    | refine ex_is_int_Q ?_
    | refine ex_is_bool_none ?_
    | refine ex_is_bool_bool ?_
    | refine ex_is_bool_int ?_
    | refine ex_is_bool_str ?_
    | refine ex_is_bool_tuple ?_
    | refine ex_is_bool_list ?_
    | refine ex_is_bool_Q ?_
    | refine ex_is_str_none ?_
    | refine ex_is_str_bool ?_
    | refine ex_is_str_int ?_
    | refine ex_is_str_str ?_
    | refine ex_is_str_tuple ?_
    | refine ex_is_str_list ?_
    | refine ex_is_str_Q ?_
    | refine ex_is_tuple_none ?_
    | refine ex_is_tuple_bool ?_
    | refine ex_is_tuple_int ?_
    | refine ex_is_tuple_str ?_
    | refine ex_is_tuple_tuple ?_
    | refine ex_is_tuple_list ?_
    | refine ex_is_tuple_Q ?_
    | refine ex_is_list_none ?_
    | refine ex_is_list_bool ?_
    | refine ex_is_list_int ?_
    | refine ex_is_list_str ?_
    | refine ex_is_list_tuple ?_
    | refine ex_is_list_list ?_
    | refine ex_is_list_Q ?_
    | refine ex_is_dict_none ?_
    | refine ex_is_dict_bool ?_
    | refine ex_is_dict_int ?_
    | refine ex_is_dict_str ?_
    | refine ex_is_dict_tuple ?_
    | refine ex_is_dict_list ?_
    | refine ex_is_dict_Q ?_
    | refine ex_int ?_
    | refine ex_par ?_
    | refine ex_rev ?_
    | refine ex_enumL ?_
    | refine ex_enumT ?_
    | refine ex_zipL ?_
    | refine ex_zipT ?_
    | (apply fzk_end2; exact (by walk_at "len"))
    | (apply ex_rng; exact (by walk_at "rg"))
    | (apply ex_rng2; exact (by walk_at "rg"); exact (by walk_at "rg"))
    | refine tyL_D ?_
    | (apply tyL_S; assumption; exact (by walk_at "len"))
    | (apply tyL_E; exact (by walk_at "len"))
    | (apply ex_setS0; assumption; exact (by walk_at "len"))
    | (apply ex_setS1; assumption; exact (by walk_at "len"))
    | (apply ex_setL0; exact (by walk_at "len"))
    | (apply ex_setL1; exact (by walk_at "len"))
    | (apply ex_setDE; exact (by walk_at "len"); exact (by walk_at "dput"); exact (by walk_at "lsz"))
    | walk_at "wx"
    | refine gk_n ?_
    | refine gk_tup2 ?_
    | refine gk_tup3 ?_
    | refine gk_tup4 ?_
    | refine gk_tup5 ?_
    | refine gk_tup6 ?_
    | refine gk_tupQ ?_
    | refine gk_tupN ?_
    | refine gk_tupM ?_
    | refine gk_setD ?_
    | refine gk_setL ?_
    | refine forK_r2 ?_
    | refine forK_r3 ?_
    | refine forK_r4 ?_
    | refine forK_nil ?_
    | refine forK_cons ?_
    | refine ex_isy_int ?_
    | refine ex_isy_bool ?_
    | refine ex_isy_str ?_
    | refine ex_isy_tuple ?_
    | refine ex_isy_list ?_
    | refine ex_isy_dict ?_
    | refine ex_isE_none ?_
    | (apply ex_isE_y; exact (by decide +kernel))
    | (apply ex_isE_n; exact (by decide +kernel); exact (by decide +kernel))
    | (refine hd_UnK ?_; walk_at "unk")
    | (refine hd_TryK ?_; first | (apply tryk_y; exact (by decide +kernel))| (apply tryk_n; exact (by decide +kernel); exact (by decide +kernel))))
local macro_rules | `(tactic| walk_at "w") => `(tactic| repeat' (walk_at "w1"))
local macro_rules | `(tactic| walk_at "wk") => `(tactic| refine wk_GREATEST ?_)
local macro_rules | `(tactic| walk_at "wk") => `(tactic| refine wk_MOST_FAR ?_)
local macro_rules | `(tactic| walk_at "wk") => `(tactic| refine wk_MOST_MARKS ?_)
local macro_rules | `(tactic| walk_at "wk") => `(tactic| refine wk_WAYS ?_)
local macro_rules | `(tactic| walk_at "tupq") => `(tactic| refine tq_0_1 ?_)
local macro_rules | `(tactic| walk_at "tupq") => `(tactic| refine tq_10_3 ?_)
/-! the numbers' defs -/
theorem w_shared (h : Hh) : ∀ (y x : Nat), ∃ z, sWhile (eT (eOp (gInt fGt) (eVar 1) (eD (.int 0)))) (sPar 0 1 (aCons (eVar 1) (aCons (eOp (gInt fMod) (eVar 0) (eVar 1)) (aNil)))) [some (.d (.int (x : Int))), some (.d (.int (y : Int)))] h = .nx [some (.d (.int (Nat.gcd x y : Nat))), some z] h := by
  intro y
  induction y using Nat.strongRecOn with
  | ind y ih =>
    intro x
    rw [sWhile_eq]
    by_cases hy : y = 0
    · subst hy
      refine ⟨.d (.int 0), ?_⟩
      walk_at "ev"
      simp
    · have hp : (0 : Int) < (y : Int) := by omega
      obtain ⟨z, e⟩ := ih (x % y) (Nat.mod_lt _ (by omega)) y
      refine ⟨z, ?_⟩
      have hn : ((y : Int)) ≠ 0 := by omega
      walk_at "ev"
      rw [decide_eq_true hp, fMod_eq hn, fmod_nat]
      walk_at "ev"
      rw [e, Nat.gcd_comm x y, Nat.gcd_rec y x, Nat.gcd_comm (x % y) y]
theorem sp_shared (x y : Int) (h : Hh) : m_shared [.d (.int x), .d (.int y)] h = .ok (.d (.int (Int.gcd x y : Nat))) h := by
  obtain ⟨z, e⟩ := w_shared h y.natAbs x.natAbs
  unfold m_shared b_shared
  walk_at "ev"
  rw [abs_eq, abs_eq, e]
  walk_at "ev"
  rfl
theorem sp_fraction {x y : Int} (hy : y ≠ 0) {n : Nat} (b : Bd n y) (hn : n ≤ 9000) (h : Hh) : m_fraction [.d (.int x), .d (.int y)] h = .ok (.d (Q (Rat.divInt x y))) h := by
  have hn0 : 0 < n := Nat.pos_of_ne_zero fun z => by
    subst z
    unfold Bd at b
    omega
  have hg : Int.gcd x y ≠ 0 := fun z => hy (Int.gcd_eq_zero_iff.mp z).2
  have hl : Int.gcd x y ≤ y.natAbs := Nat.gcd_le_right _ (by omega)
  obtain ⟨p1, p2⟩ := divInt_parts (x := x) hy
  unfold m_fraction b_fraction
  walk_at "ev"
  rw [sp_shared]
  walk_at "ev"
  by_cases hs : y < 0
  · rw [if_pos hs] at p1 p2
    have h0 : 0 - ((Int.gcd x y : Nat) : Int) ≠ 0 := by omega
    have hb : Bd n (0 - ((Int.gcd x y : Nat) : Int)) := b.le (by omega)
    rw [decide_eq_true hs]
    walk_at "ev"
    rw [fDiv_eq h0 (hb.divOk hn0 hn), fDiv_eq h0 (hb.divOk hn0 hn), p1, p2]
    walk_at "ev" <;> rfl
  · rw [if_neg hs] at p1 p2
    have h0 : ((Int.gcd x y : Nat) : Int) ≠ 0 := by omega
    have hb : Bd n ((Int.gcd x y : Nat) : Int) := b.le (by omega)
    rw [decide_eq_false hs]
    walk_at "ev"
    rw [fDiv_eq h0 (hb.divOk hn0 hn), fDiv_eq h0 (hb.divOk hn0 hn), p1, p2]
    walk_at "ev" <;> rfl
theorem sp_whole_of (n : Int) (h : Hh) : m_whole_of [.d (.int n)] h = .ok (.d (Q (n : Rat))) h := by
  unfold m_whole_of b_whole_of
  walk_at "ev"
  rw [Q_int]
theorem sp_turned (r : Rat) (h : Hh) : m_turned [.d (Q r)] h = .ok (.d (Q (-r))) h := by
  rw [Q_neg]
  unfold m_turned b_turned Q
  walk_at "ev"
theorem sp_times {r s : Rat} {n m : Nat} (hr : BQ n r) (hs : BQ m s) (hl : n + m ≤ 9000) (h : Hh) : m_times [.d (Q r), .d (Q s)] h = .ok (.d (Q (r * s))) h := by
  unfold m_times b_times Q
  walk_at "ev"
  rw [fMul_eq (hr.1.mulOk hs.1 (by omega)), fMul_eq (hr.2.mulOk hs.2 (by omega))]
  walk_at "ev"
  rw [sp_fraction (Int.mul_ne_zero (den_ne r) (den_ne s)) (hr.2.mul hs.2) hl, mul_divInt]
  walk_at "ev" <;> rfl
theorem sp_over {r s : Rat} {n m : Nat} (hr : BQ n r) (hs : BQ m s) (hl : n + m ≤ 9000) (h0 : s ≠ 0) (h : Hh) : m_over [.d (Q r), .d (Q s)] h = .ok (.d (Q (r / s))) h := by
  have hn : s.num ≠ 0 := fun z => h0 (Rat.num_eq_zero.mp z)
  unfold m_over b_over Q
  walk_at "ev"
  rw [fMul_eq (hr.1.mulOk hs.2 (by omega)), fMul_eq (hr.2.mulOk hs.1 (by omega))]
  walk_at "ev"
  rw [sp_fraction (Int.mul_ne_zero (den_ne r) hn) (hr.2.mul hs.1) hl, div_divInt]
  walk_at "ev" <;> rfl
theorem sp_size_of (r : Rat) (h : Hh) : m_size_of [.d (Q r)] h = .ok (.d (Q r.abs)) h := by
  rw [Q_abs]
  unfold m_size_of b_size_of Q
  walk_at "ev"
  rw [abs_eq]
theorem sp_is_less {r s : Rat} {n m : Nat} (hr : BQ n r) (hs : BQ m s) (hl : n + m ≤ 134217728) (h : Hh) : m_is_less [.d (Q r), .d (Q s)] h = .ok (.d (.bool (decide (r < s)))) h := by
  unfold m_is_less b_is_less Q
  walk_at "ev"
  rw [fMul_eq (hr.1.mulOk hs.2 (by omega)), fMul_eq (hs.1.mulOk hr.2 (by omega))]
  walk_at "ev"
  simp only [lt_num]
theorem w_power {N : Nat} (hN : 2 * N ≤ 134217728) (be ee : Option Vl) (h : Hh) : ∀ (l f s : Nat), 1 ≤ f → 1 ≤ s → Bd N ((f * s ^ l : Nat) : Int) → ∃ z,
    sWhile (eT (eOp (gInt fGt) (eVar 4) (eD (.int 0)))) (sSeq (sIf (eT (eOp gEq (eOp (gInt fMod) (eVar 4) (eD (.int 2))) (eD (.int 1)))) (sSet 2 (eOp (gInt fMul) (eVar 2) (eVar 3))) (sNil))
    (sSeq (sSet 4 (eOp (gInt fDiv) (eVar 4) (eD (.int 2))))
    (sSet 3 (eIf (eT (eOp (gInt fGt) (eVar 4) (eD (.int 0)))) (eOp (gInt fMul) (eVar 3) (eVar 3)) (eVar 3))))) [be, ee, some (.d (.int (f : Int))), some (.d (.int (s : Int))), some (.d (.int (l : Int)))] h
      = .nx [be, ee, some (.d (.int ((f * s ^ l : Nat) : Int))), some z, some (.d (.int 0))] h := by
  intro l
  induction l using Nat.strongRecOn with
  | ind l ih =>
    intro f s hf hs hb
    rw [sWhile_eq]
    by_cases hl : l = 0
    · subst hl
      refine ⟨.d (.int (s : Int)), ?_⟩
      walk_at "ev"
      simp
    · have hp : (0 : Int) < (l : Int) := by omega
      have sp : 1 ≤ s ^ (l - 1) := Nat.pow_pos hs
      have e0 : s ^ l = s ^ (l - 1) * s := by
        rw [← Nat.pow_succ]
        congr 1
        omega
      have le1 : s ≤ f * s ^ l := by
        rw [e0]
        exact Nat.le_trans (Nat.le_mul_of_pos_left s sp) (Nat.le_mul_of_pos_left _ hf)
      have le2 : f ≤ f * s ^ l := Nat.le_mul_of_pos_right f (Nat.pow_pos hs)
      have hbn : f * s ^ l < 2 ^ N := by
        unfold Bd at hb
        rw [Int.natAbs_natCast] at hb
        exact hb
      have bs : Bd N (s : Int) := bd_nat (Nat.lt_of_le_of_lt le1 hbn)
      have bf : Bd N (f : Int) := bd_nat (Nat.lt_of_le_of_lt le2 hbn)
      have d2 : fDiv (l : Int) 2 = some (.int ((l / 2 : Nat) : Int)) := by
        have := div_lit (a := (l : Int)) (k := 2) (by decide) (by decide)
        rw [show ((2 : Nat) : Int) = 2 from rfl, fdiv2] at this
        exact this
      -- the next state
      have key : ∀ f' : Nat, f' = (if l % 2 = 1 then f * s else f) → ∀ s' : Nat, s' = (if 0 < l / 2 then s * s else s) → f' * s' ^ (l / 2) = f * s ^ l := by
        rintro f' rfl s' rfl
        by_cases h2 : 0 < l / 2
        · rw [if_pos h2, ← Nat.pow_two, ← Nat.pow_mul]
          by_cases h1 : l % 2 = 1
          · rw [if_pos h1, Nat.mul_assoc, ← Nat.pow_succ']
            congr 2
            omega
          · rw [if_neg h1]
            congr 2
            omega
        · have h3 : l = 1 := by omega
          subst h3
          simp
      have hf1 : 1 ≤ (if l % 2 = 1 then f * s else f) := by split <;> first | exact hf | exact Nat.mul_pos hf hs
      have hs1 : 1 ≤ (if 0 < l / 2 then s * s else s) := by split <;> first | exact hs | exact Nat.mul_pos hs hs
      have kk := key _ rfl _ rfl
      obtain ⟨z, e⟩ := ih (l / 2) (by omega) _ _ hf1 hs1 (by rw [kk]; exact hb)
      rw [kk] at e
      refine ⟨z, ?_⟩
      have m2 : fMod (l : Int) 2 = some (.int ((l % 2 : Nat) : Int)) := by rw [fMod_eq (by decide), fmod2]
      have q1 := fMul_eq (bf.mulOk bs (by omega))
      have q2 := fMul_eq (bs.mulOk bs (by omega))
      by_cases h1 : l % 2 = 1 <;> by_cases h2 : 0 < l / 2
      · have g1 : ((l % 2 : Nat) : Int) = 1 := by omega
        have g2 : (0 : Int) < ((l / 2 : Nat) : Int) := by omega
        rw [if_pos h1, if_pos h2] at e
        simp only [mkF, enter, retF, trunc, sSeq, So.then_nx, So.then_rt, sSet, sRet, sRetN, sIf, sExpr, sNil, sPar, sAsg, ofG, gN, gsCons, gsNil, gTupT_tup, gTupT_Q, Out.then_ok, Out.then_ex, Out.bind_ok, Out.bind_ex, eVar, eD_eq, eOp, eCall, eBlt, aCons, aNil, eTup, eIf, eT, eNot, eAnd, eOr, tvAnd, tvOr, tvNot, eNeg, eIsi, isTy_d, isQ_tup, isQ_bool, isQ_int, isI_bool, isI_int, isI_tup, isB_bool, isB_int, ixQ0, ixQ1, truO_b, fzs_nil, fzs_d, gInt_eq, gAdd_int, gAbs_eq, fAdd_eq, fSub_eq, fLt_eq, fLe_eq, fGt_eq, fGe_eq, ix0, ix1, ix2, ix3, ix4, ix5, ofO_some, Option.map_some, Option.bind_some, List.length_cons, List.length_nil, List.map_cons, List.map_nil, List.replicate_succ, List.replicate_zero, List.cons_append, List.nil_append, List.getElem?_cons_zero, List.getElem?_cons_succ, List.set_cons_zero, List.set_cons_succ, List.take_length, Int.reduceEq, Int.reduceLT, Int.reduceLE, Nat.reduceSub, Nat.reduceAdd, Nat.reduceLeDiff, Nat.reduceLT, Nat.zero_add, Nat.add_zero, Nat.sub_self, if_true, if_false, reduceIte, Bool.false_eq_true, fitB, decide_true, decide_false, Bool.not_true, Bool.not_false, gEq_int, m2, d2, g1, q1, q2, hp, g2, decide_true, ← Int.natCast_mul]
        exact e
      · have g1 : ((l % 2 : Nat) : Int) = 1 := by omega
        have g2 : ¬ (0 : Int) < ((l / 2 : Nat) : Int) := by omega
        rw [if_pos h1, if_neg h2] at e
        simp only [mkF, enter, retF, trunc, sSeq, So.then_nx, So.then_rt, sSet, sRet, sRetN, sIf, sExpr, sNil, sPar, sAsg, ofG, gN, gsCons, gsNil, gTupT_tup, gTupT_Q, Out.then_ok, Out.then_ex, Out.bind_ok, Out.bind_ex, eVar, eD_eq, eOp, eCall, eBlt, aCons, aNil, eTup, eIf, eT, eNot, eAnd, eOr, tvAnd, tvOr, tvNot, eNeg, eIsi, isTy_d, isQ_tup, isQ_bool, isQ_int, isI_bool, isI_int, isI_tup, isB_bool, isB_int, ixQ0, ixQ1, truO_b, fzs_nil, fzs_d, gInt_eq, gAdd_int, gAbs_eq, fAdd_eq, fSub_eq, fLt_eq, fLe_eq, fGt_eq, fGe_eq, ix0, ix1, ix2, ix3, ix4, ix5, ofO_some, Option.map_some, Option.bind_some, List.length_cons, List.length_nil, List.map_cons, List.map_nil, List.replicate_succ, List.replicate_zero, List.cons_append, List.nil_append, List.getElem?_cons_zero, List.getElem?_cons_succ, List.set_cons_zero, List.set_cons_succ, List.take_length, Int.reduceEq, Int.reduceLT, Int.reduceLE, Nat.reduceSub, Nat.reduceAdd, Nat.reduceLeDiff, Nat.reduceLT, Nat.zero_add, Nat.add_zero, Nat.sub_self, if_true, if_false, reduceIte, Bool.false_eq_true, fitB, decide_true, decide_false, Bool.not_true, Bool.not_false, gEq_int, m2, d2, g1, q1, q2, hp, g2, decide_true, ← Int.natCast_mul]
        exact e
      · have g1 : ¬ ((l % 2 : Nat) : Int) = 1 := by omega
        have g2 : (0 : Int) < ((l / 2 : Nat) : Int) := by omega
        rw [if_neg h1, if_pos h2] at e
        simp only [mkF, enter, retF, trunc, sSeq, So.then_nx, So.then_rt, sSet, sRet, sRetN, sIf, sExpr, sNil, sPar, sAsg, ofG, gN, gsCons, gsNil, gTupT_tup, gTupT_Q, Out.then_ok, Out.then_ex, Out.bind_ok, Out.bind_ex, eVar, eD_eq, eOp, eCall, eBlt, aCons, aNil, eTup, eIf, eT, eNot, eAnd, eOr, tvAnd, tvOr, tvNot, eNeg, eIsi, isTy_d, isQ_tup, isQ_bool, isQ_int, isI_bool, isI_int, isI_tup, isB_bool, isB_int, ixQ0, ixQ1, truO_b, fzs_nil, fzs_d, gInt_eq, gAdd_int, gAbs_eq, fAdd_eq, fSub_eq, fLt_eq, fLe_eq, fGt_eq, fGe_eq, ix0, ix1, ix2, ix3, ix4, ix5, ofO_some, Option.map_some, Option.bind_some, List.length_cons, List.length_nil, List.map_cons, List.map_nil, List.replicate_succ, List.replicate_zero, List.cons_append, List.nil_append, List.getElem?_cons_zero, List.getElem?_cons_succ, List.set_cons_zero, List.set_cons_succ, List.take_length, Int.reduceEq, Int.reduceLT, Int.reduceLE, Nat.reduceSub, Nat.reduceAdd, Nat.reduceLeDiff, Nat.reduceLT, Nat.zero_add, Nat.add_zero, Nat.sub_self, if_true, if_false, reduceIte, Bool.false_eq_true, fitB, decide_true, decide_false, Bool.not_true, Bool.not_false, gEq_int, m2, d2, g1, q1, q2, hp, g2, decide_true, ← Int.natCast_mul]
        exact e
      · have g1 : ¬ ((l % 2 : Nat) : Int) = 1 := by omega
        have g2 : ¬ (0 : Int) < ((l / 2 : Nat) : Int) := by omega
        rw [if_neg h1, if_neg h2] at e
        simp only [mkF, enter, retF, trunc, sSeq, So.then_nx, So.then_rt, sSet, sRet, sRetN, sIf, sExpr, sNil, sPar, sAsg, ofG, gN, gsCons, gsNil, gTupT_tup, gTupT_Q, Out.then_ok, Out.then_ex, Out.bind_ok, Out.bind_ex, eVar, eD_eq, eOp, eCall, eBlt, aCons, aNil, eTup, eIf, eT, eNot, eAnd, eOr, tvAnd, tvOr, tvNot, eNeg, eIsi, isTy_d, isQ_tup, isQ_bool, isQ_int, isI_bool, isI_int, isI_tup, isB_bool, isB_int, ixQ0, ixQ1, truO_b, fzs_nil, fzs_d, gInt_eq, gAdd_int, gAbs_eq, fAdd_eq, fSub_eq, fLt_eq, fLe_eq, fGt_eq, fGe_eq, ix0, ix1, ix2, ix3, ix4, ix5, ofO_some, Option.map_some, Option.bind_some, List.length_cons, List.length_nil, List.map_cons, List.map_nil, List.replicate_succ, List.replicate_zero, List.cons_append, List.nil_append, List.getElem?_cons_zero, List.getElem?_cons_succ, List.set_cons_zero, List.set_cons_succ, List.take_length, Int.reduceEq, Int.reduceLT, Int.reduceLE, Nat.reduceSub, Nat.reduceAdd, Nat.reduceLeDiff, Nat.reduceLT, Nat.zero_add, Nat.add_zero, Nat.sub_self, if_true, if_false, reduceIte, Bool.false_eq_true, fitB, decide_true, decide_false, Bool.not_true, Bool.not_false, gEq_int, m2, d2, g1, q1, q2, hp, g2, decide_true, ← Int.natCast_mul]
        exact e
theorem sp_power {b : Nat} {e : Int} {N : Nat} (hb : 1 ≤ b) (hN : 2 * N ≤ 134217728) (bd : Bd N ((b ^ e.natAbs : Nat) : Int)) (h : Hh) : m_power [.d (.int (b : Int)), .d (.int e)] h = .ok (.d (Q ((b : Rat) ^ e))) h := by
  obtain ⟨z, ez⟩ := w_power hN (some (.d (.int (b : Int)))) (some (.d (.int e))) h e.natAbs 1 b (Nat.le_refl 1) hb (by rw [Nat.one_mul]; exact bd)
  unfold m_power b_power
  walk_at "ev"
  rw [abs_eq]
  rw [Nat.one_mul] at ez
  have ez' : sWhile (eT (eOp (gInt fGt) (eVar 4) (eD (.int 0)))) (sSeq (sIf (eT (eOp gEq (eOp (gInt fMod) (eVar 4) (eD (.int 2))) (eD (.int 1)))) (sSet 2 (eOp (gInt fMul) (eVar 2) (eVar 3))) (sNil))
    (sSeq (sSet 4 (eOp (gInt fDiv) (eVar 4) (eD (.int 2))))
    (sSet 3 (eIf (eT (eOp (gInt fGt) (eVar 4) (eD (.int 0)))) (eOp (gInt fMul) (eVar 3) (eVar 3)) (eVar 3))))) [some (.d (.int (b : Int))), some (.d (.int e)), some (.d (.int 1)), some (.d (.int (b : Int))), some (.d (.int (e.natAbs : Int)))] h = _ := ez
  rw [ez']
  walk_at "ev"
  by_cases he : 0 ≤ e
  · have ee : e = (e.natAbs : Int) := by omega
    rw [decide_eq_true he]
    walk_at "ev"
    have q := Q_pow b e.natAbs
    rw [← ee] at q
    rw [q]
  · have ee : e = -(e.natAbs : Int) := by omega
    rw [decide_eq_false he]
    walk_at "ev"
    have q := Q_powneg b e.natAbs hb
    rw [← ee] at q
    rw [q]

/-! rulers' defs -/
theorem ixR0 {R : Ruler} {h : Hh} : gIx (.d R.da) (.d (.int 0)) h = some (.d (.int R.b), h) := ix0
theorem ixR1 {R : Ruler} {h : Hh} : gIx (.d R.da) (.d (.int 1)) h = some (.d (.int R.f), h) := ix1
theorem ixR2 {R : Ruler} {h : Hh} : gIx (.d R.da) (.d (.int 2)) h = some (.d (.int R.l), h) := ix2
theorem ixR3 {R : Ruler} {h : Hh} : gIx (.d R.da) (.d (.int 3)) h = some (.d (.str R.w), h) := ix3
theorem sp_pw {R : Ruler} (O : R.Ok) {e : Int} (he : e.natAbs ≤ 1000000) (h : Hh) : m_power [.d (.int (R.b : Int)), .d (.int e)] h = .ok (.d (Q (R.pw e))) h := by
  refine sp_power (N := 4000001) (by have := O.b2; omega) (by decide) ?_ h
  refine bd_nat (Nat.lt_of_le_of_lt (Nat.pow_le_pow_left O.b16 _) ?_)
  rw [show (16 : Nat) = 2 ^ 4 from rfl, ← Nat.pow_mul]
  exact Nat.pow_lt_pow_right (by decide) (by omega)
theorem sp_is_enough {R : Ruler} (O : R.Ok) {s : Rat} {n : Nat} (hs : BQ n s) (hn : n ≤ 9000) {p : Int} (hp : p.natAbs ≤ 100000) (h : Hh) : m_is_enough [.d R.da, .d (Q s), .d (.int p)] h = .ok (.d (.bool (decide (s < R.pw (p + R.f))))) h := by
  have hf := O.f24
  have he : (p + (R.f : Int)).natAbs ≤ 200000 := by omega
  have b := BQ_pw O he
  unfold m_is_enough b_is_enough
  simp only [mkF, enter, retF, trunc, sSeq, So.then_nx, So.then_rt, sSet, sRet, sRetN, sIf, sExpr, sNil, sPar, sAsg, ofG, gN, gsCons, gsNil, gTupT_tup, gTupT_Q, Out.then_ok, Out.then_ex, Out.bind_ok, Out.bind_ex, eVar, eD_eq, eOp, eCall, eBlt, aCons, aNil, eTup, eIf, eT, eNot, eAnd, eOr, tvAnd, tvOr, tvNot, eNeg, eIsi, isTy_d, isQ_tup, isQ_bool, isQ_int, isI_bool, isI_int, isI_tup, isB_bool, isB_int, ixQ0, ixQ1, truO_b, fzs_nil, fzs_d, gInt_eq, gAdd_int, gAbs_eq, fAdd_eq, fSub_eq, fLt_eq, fLe_eq, fGt_eq, fGe_eq, ix0, ix1, ix2, ix3, ix4, ix5, ofO_some, Option.map_some, Option.bind_some, List.length_cons, List.length_nil, List.map_cons, List.map_nil, List.replicate_succ, List.replicate_zero, List.cons_append, List.nil_append, List.getElem?_cons_zero, List.getElem?_cons_succ, List.set_cons_zero, List.set_cons_succ, List.take_length, Int.reduceEq, Int.reduceLT, Int.reduceLE, Nat.reduceSub, Nat.reduceAdd, Nat.reduceLeDiff, Nat.reduceLT, Nat.zero_add, Nat.add_zero, Nat.sub_self, if_true, if_false, reduceIte, Bool.false_eq_true, fitB, decide_true, decide_false, Bool.not_true, Bool.not_false, ixR0, ixR1, sp_pw O (Nat.le_trans he (by decide)), sp_is_less hs b (by omega)]
theorem w1_place {R : Ruler} (O : R.Ok) {s : Rat} {n : Nat} (hs : BQ n s) (hn : n ≤ 9000) (h0 : 0 ≤ s) (o1 o5 o6 : Option Vl) (h : Hh) : ∀ (m far : Nat), 1 ≤ far → 9200 ≤ far + m → far ≤ 20000 → ¬ s < R.pw (R.l + ((far / 2 : Nat) : Int) + R.f) →
    ∃ far' : Nat, 1 ≤ far' ∧ far' ≤ 20000 ∧ s < R.pw (R.l + (far' : Int) + R.f) ∧ ¬ s < R.pw (R.l + ((far' / 2 : Nat) : Int) + R.f) ∧
    sWhile (tvNot (eT (eCall m_is_enough (aCons (eVar 0) (aCons (eVar 2) (aCons (eOp gAdd (eVar 3) (eVar 4)) (aNil))))))) (sSet 4 (eOp (gInt fMul) (eVar 4) (eD (.int 2)))) [some (.d R.da), o1, some (.d (Q s)), some (.d (.int R.l)), some (.d (.int (far : Int))), o5, o6] h
      = .nx [some (.d R.da), o1, some (.d (Q s)), some (.d (.int R.l)), some (.d (.int (far' : Int))), o5, o6] h := by
  intro m
  induction m with
  | zero =>
    intro far h1 h2 h3 h4
    have l1 := O.l1
    have l2 := O.l2
    have e := sp_is_enough O hs hn (p := R.l + (far : Int)) (by omega) h
    have lt : s < R.pw (R.l + (far : Int) + R.f) := by
      have a := abs_lt_pw O hs
      have ab : s.abs = s := by unfold Rat.abs; rw [if_pos h0]
      have b : R.pw n ≤ R.pw (R.l + (far : Int) + R.f) := pw_le O (by omega)
      grind
    refine ⟨far, h1, h3, lt, h4, ?_⟩
    rw [sWhile_eq]
    simp only [mkF, enter, retF, trunc, sSeq, So.then_nx, So.then_rt, sSet, sRet, sRetN, sIf, sExpr, sNil, sPar, sAsg, ofG, gN, gsCons, gsNil, gTupT_tup, gTupT_Q, Out.then_ok, Out.then_ex, Out.bind_ok, Out.bind_ex, eVar, eD_eq, eOp, eCall, eBlt, aCons, aNil, eTup, eIf, eT, eNot, eAnd, eOr, tvAnd, tvOr, tvNot, eNeg, eIsi, isTy_d, isQ_tup, isQ_bool, isQ_int, isI_bool, isI_int, isI_tup, isB_bool, isB_int, ixQ0, ixQ1, truO_b, fzs_nil, fzs_d, gInt_eq, gAdd_int, gAbs_eq, fAdd_eq, fSub_eq, fLt_eq, fLe_eq, fGt_eq, fGe_eq, ix0, ix1, ix2, ix3, ix4, ix5, ofO_some, Option.map_some, Option.bind_some, List.length_cons, List.length_nil, List.map_cons, List.map_nil, List.replicate_succ, List.replicate_zero, List.cons_append, List.nil_append, List.getElem?_cons_zero, List.getElem?_cons_succ, List.set_cons_zero, List.set_cons_succ, List.take_length, Int.reduceEq, Int.reduceLT, Int.reduceLE, Nat.reduceSub, Nat.reduceAdd, Nat.reduceLeDiff, Nat.reduceLT, Nat.zero_add, Nat.add_zero, Nat.sub_self, if_true, if_false, reduceIte, Bool.false_eq_true, fitB, decide_true, decide_false, Bool.not_true, Bool.not_false, e, lt]
  | succ m ih =>
    intro far h1 h2 h3 h4
    have l1 := O.l1
    have l2 := O.l2
    have e := sp_is_enough O hs hn (p := R.l + (far : Int)) (by omega) h
    by_cases lt : s < R.pw (R.l + (far : Int) + R.f)
    · refine ⟨far, h1, h3, lt, h4, ?_⟩
      rw [sWhile_eq]
      simp only [mkF, enter, retF, trunc, sSeq, So.then_nx, So.then_rt, sSet, sRet, sRetN, sIf, sExpr, sNil, sPar, sAsg, ofG, gN, gsCons, gsNil, gTupT_tup, gTupT_Q, Out.then_ok, Out.then_ex, Out.bind_ok, Out.bind_ex, eVar, eD_eq, eOp, eCall, eBlt, aCons, aNil, eTup, eIf, eT, eNot, eAnd, eOr, tvAnd, tvOr, tvNot, eNeg, eIsi, isTy_d, isQ_tup, isQ_bool, isQ_int, isI_bool, isI_int, isI_tup, isB_bool, isB_int, ixQ0, ixQ1, truO_b, fzs_nil, fzs_d, gInt_eq, gAdd_int, gAbs_eq, fAdd_eq, fSub_eq, fLt_eq, fLe_eq, fGt_eq, fGe_eq, ix0, ix1, ix2, ix3, ix4, ix5, ofO_some, Option.map_some, Option.bind_some, List.length_cons, List.length_nil, List.map_cons, List.map_nil, List.replicate_succ, List.replicate_zero, List.cons_append, List.nil_append, List.getElem?_cons_zero, List.getElem?_cons_succ, List.set_cons_zero, List.set_cons_succ, List.take_length, Int.reduceEq, Int.reduceLT, Int.reduceLE, Nat.reduceSub, Nat.reduceAdd, Nat.reduceLeDiff, Nat.reduceLT, Nat.zero_add, Nat.add_zero, Nat.sub_self, if_true, if_false, reduceIte, Bool.false_eq_true, fitB, decide_true, decide_false, Bool.not_true, Bool.not_false, e, lt]
    · have fb : far < 9200 := by
        rcases Nat.lt_or_ge far 9200 with z | z
        · exact z
        · exfalso
          apply lt
          have a := abs_lt_pw O hs
          have ab : s.abs = s := by unfold Rat.abs; rw [if_pos h0]
          have b : R.pw n ≤ R.pw (R.l + (far : Int) + R.f) := pw_le O (by omega)
          grind
      obtain ⟨far', a1, a2, a3, a4, a5⟩ := ih (far * 2) (by omega) (by omega) (by omega) (by
        rw [Nat.mul_div_cancel _ (by decide)]
        exact lt)
      refine ⟨far', a1, a2, a3, a4, ?_⟩
      have m2 : fMul (far : Int) 2 = some (.int ((far * 2 : Nat) : Int)) := by
        rw [fMul_eq (mulOk_smallR (bd_lit 2 (by decide) (by decide) (by decide)))]
        rfl
      rw [sWhile_eq]
      simp only [mkF, enter, retF, trunc, sSeq, So.then_nx, So.then_rt, sSet, sRet, sRetN, sIf, sExpr, sNil, sPar, sAsg, ofG, gN, gsCons, gsNil, gTupT_tup, gTupT_Q, Out.then_ok, Out.then_ex, Out.bind_ok, Out.bind_ex, eVar, eD_eq, eOp, eCall, eBlt, aCons, aNil, eTup, eIf, eT, eNot, eAnd, eOr, tvAnd, tvOr, tvNot, eNeg, eIsi, isTy_d, isQ_tup, isQ_bool, isQ_int, isI_bool, isI_int, isI_tup, isB_bool, isB_int, ixQ0, ixQ1, truO_b, fzs_nil, fzs_d, gInt_eq, gAdd_int, gAbs_eq, fAdd_eq, fSub_eq, fLt_eq, fLe_eq, fGt_eq, fGe_eq, ix0, ix1, ix2, ix3, ix4, ix5, ofO_some, Option.map_some, Option.bind_some, List.length_cons, List.length_nil, List.map_cons, List.map_nil, List.replicate_succ, List.replicate_zero, List.cons_append, List.nil_append, List.getElem?_cons_zero, List.getElem?_cons_succ, List.set_cons_zero, List.set_cons_succ, List.take_length, Int.reduceEq, Int.reduceLT, Int.reduceLE, Nat.reduceSub, Nat.reduceAdd, Nat.reduceLeDiff, Nat.reduceLT, Nat.zero_add, Nat.add_zero, Nat.sub_self, if_true, if_false, reduceIte, Bool.false_eq_true, fitB, decide_true, decide_false, Bool.not_true, Bool.not_false, e, lt, m2]
      exact a5
theorem w2_place {R : Ruler} (O : R.Ok) {s : Rat} {n : Nat} (hs : BQ n s) (hn : n ≤ 9000) (o1 o4 : Option Vl) (h : Hh) : ∀ (m : Nat) (lo hi : Int) (o6 : Option Vl), (hi - lo).toNat ≤ m → lo < hi → lo.natAbs ≤ 50000 → hi.natAbs ≤ 50000 → ¬ s < R.pw (lo + R.f) → s < R.pw (hi + R.f) →
    ∃ (p : Int) (z : Option Vl), lo < p ∧ ¬ s < R.pw (p - 1 + R.f) ∧ s < R.pw (p + R.f) ∧
    sWhile (eT (eOp (gInt fGt) (eOp (gInt fSub) (eVar 5) (eVar 3)) (eD (.int 1)))) (sSeq (sSet 6 (eOp (gInt fDiv) (eOp gAdd (eVar 3) (eVar 5)) (eD (.int 2))))
    (sIf (eT (eCall m_is_enough (aCons (eVar 0) (aCons (eVar 2) (aCons (eVar 6) (aNil)))))) (sSet 5 (eVar 6)) (sSet 3 (eVar 6)))) [some (.d R.da), o1, some (.d (Q s)), some (.d (.int lo)), o4, some (.d (.int hi)), o6] h
      = .nx [some (.d R.da), o1, some (.d (Q s)), some (.d (.int (p - 1))), o4, some (.d (.int p)), z] h := by
  intro m
  induction m with
  | zero =>
    intro lo hi o6 h1 h2
    omega
  | succ m ih =>
    intro lo hi o6 h1 h2 h3 h4 h5 h6
    rw [sWhile_eq]
    by_cases g : 1 < hi - lo
    · have d2 : fDiv (lo + hi) 2 = some (.int ((lo + hi) / 2)) := by
        have := div_lit (a := lo + hi) (k := 2) (by decide) (by decide)
        rw [Int.fdiv_eq_ediv_of_nonneg _ (by omega)] at this
        exact this
      have e := sp_is_enough O hs hn (p := (lo + hi) / 2) (by omega) h
      by_cases lt : s < R.pw ((lo + hi) / 2 + R.f)
      · obtain ⟨p, z, a1, a2, a3, a4⟩ := ih lo ((lo + hi) / 2) (some (.d (.int ((lo + hi) / 2)))) (by omega) (by omega) h3 (by omega) h5 lt
        refine ⟨p, z, a1, a2, a3, ?_⟩
        simp only [mkF, enter, retF, trunc, sSeq, So.then_nx, So.then_rt, sSet, sRet, sRetN, sIf, sExpr, sNil, sPar, sAsg, ofG, gN, gsCons, gsNil, gTupT_tup, gTupT_Q, Out.then_ok, Out.then_ex, Out.bind_ok, Out.bind_ex, eVar, eD_eq, eOp, eCall, eBlt, aCons, aNil, eTup, eIf, eT, eNot, eAnd, eOr, tvAnd, tvOr, tvNot, eNeg, eIsi, isTy_d, isQ_tup, isQ_bool, isQ_int, isI_bool, isI_int, isI_tup, isB_bool, isB_int, ixQ0, ixQ1, truO_b, fzs_nil, fzs_d, gInt_eq, gAdd_int, gAbs_eq, fAdd_eq, fSub_eq, fLt_eq, fLe_eq, fGt_eq, fGe_eq, ix0, ix1, ix2, ix3, ix4, ix5, ofO_some, Option.map_some, Option.bind_some, List.length_cons, List.length_nil, List.map_cons, List.map_nil, List.replicate_succ, List.replicate_zero, List.cons_append, List.nil_append, List.getElem?_cons_zero, List.getElem?_cons_succ, List.set_cons_zero, List.set_cons_succ, List.take_length, Int.reduceEq, Int.reduceLT, Int.reduceLE, Nat.reduceSub, Nat.reduceAdd, Nat.reduceLeDiff, Nat.reduceLT, Nat.zero_add, Nat.add_zero, Nat.sub_self, if_true, if_false, reduceIte, Bool.false_eq_true, fitB, decide_true, decide_false, Bool.not_true, Bool.not_false, g, d2, e, lt]
        exact a4
      · obtain ⟨p, z, a1, a2, a3, a4⟩ := ih ((lo + hi) / 2) hi (some (.d (.int ((lo + hi) / 2)))) (by omega) (by omega) (by omega) h4 lt h6
        refine ⟨p, z, by omega, a2, a3, ?_⟩
        simp only [mkF, enter, retF, trunc, sSeq, So.then_nx, So.then_rt, sSet, sRet, sRetN, sIf, sExpr, sNil, sPar, sAsg, ofG, gN, gsCons, gsNil, gTupT_tup, gTupT_Q, Out.then_ok, Out.then_ex, Out.bind_ok, Out.bind_ex, eVar, eD_eq, eOp, eCall, eBlt, aCons, aNil, eTup, eIf, eT, eNot, eAnd, eOr, tvAnd, tvOr, tvNot, eNeg, eIsi, isTy_d, isQ_tup, isQ_bool, isQ_int, isI_bool, isI_int, isI_tup, isB_bool, isB_int, ixQ0, ixQ1, truO_b, fzs_nil, fzs_d, gInt_eq, gAdd_int, gAbs_eq, fAdd_eq, fSub_eq, fLt_eq, fLe_eq, fGt_eq, fGe_eq, ix0, ix1, ix2, ix3, ix4, ix5, ofO_some, Option.map_some, Option.bind_some, List.length_cons, List.length_nil, List.map_cons, List.map_nil, List.replicate_succ, List.replicate_zero, List.cons_append, List.nil_append, List.getElem?_cons_zero, List.getElem?_cons_succ, List.set_cons_zero, List.set_cons_succ, List.take_length, Int.reduceEq, Int.reduceLT, Int.reduceLE, Nat.reduceSub, Nat.reduceAdd, Nat.reduceLeDiff, Nat.reduceLT, Nat.zero_add, Nat.add_zero, Nat.sub_self, if_true, if_false, reduceIte, Bool.false_eq_true, fitB, decide_true, decide_false, Bool.not_true, Bool.not_false, g, d2, e, lt]
        exact a4
    · have hh : lo = hi - 1 := by omega
      subst hh
      refine ⟨hi, o6, by omega, h5, h6, ?_⟩
      simp only [mkF, enter, retF, trunc, sSeq, So.then_nx, So.then_rt, sSet, sRet, sRetN, sIf, sExpr, sNil, sPar, sAsg, ofG, gN, gsCons, gsNil, gTupT_tup, gTupT_Q, Out.then_ok, Out.then_ex, Out.bind_ok, Out.bind_ex, eVar, eD_eq, eOp, eCall, eBlt, aCons, aNil, eTup, eIf, eT, eNot, eAnd, eOr, tvAnd, tvOr, tvNot, eNeg, eIsi, isTy_d, isQ_tup, isQ_bool, isQ_int, isI_bool, isI_int, isI_tup, isB_bool, isB_int, ixQ0, ixQ1, truO_b, fzs_nil, fzs_d, gInt_eq, gAdd_int, gAbs_eq, fAdd_eq, fSub_eq, fLt_eq, fLe_eq, fGt_eq, fGe_eq, ix0, ix1, ix2, ix3, ix4, ix5, ofO_some, Option.map_some, Option.bind_some, List.length_cons, List.length_nil, List.map_cons, List.map_nil, List.replicate_succ, List.replicate_zero, List.cons_append, List.nil_append, List.getElem?_cons_zero, List.getElem?_cons_succ, List.set_cons_zero, List.set_cons_succ, List.take_length, Int.reduceEq, Int.reduceLT, Int.reduceLE, Nat.reduceSub, Nat.reduceAdd, Nat.reduceLeDiff, Nat.reduceLT, Nat.zero_add, Nat.add_zero, Nat.sub_self, if_true, if_false, reduceIte, Bool.false_eq_true, fitB, decide_true, decide_false, Bool.not_true, Bool.not_false, g]
theorem sp_place_of {R : Ruler} (O : R.Ok) {x : Rat} {n : Nat} (hx : BQ n x) (hn : n ≤ 9000) (h : Hh) : m_place_of [.d R.da, .d (Q x)] h = .ok (.d (.int (R.plc x))) h := by
  have l1 := O.l1
  have l2 := O.l2
  have hs := hx.abs
  have h0 : 0 ≤ x.abs := Rat.abs_nonneg
  have e0 := sp_is_enough O hs hn (p := R.l) (by omega) h
  unfold m_place_of b_place_of
  by_cases lt : x.abs < R.pw (R.l + R.f)
  · have q : IsPlc R x R.l := ⟨Int.le_refl _, lt, .inl rfl⟩
    rw [plc_eq O q]
    simp only [mkF, enter, retF, trunc, sSeq, So.then_nx, So.then_rt, sSet, sRet, sRetN, sIf, sExpr, sNil, sPar, sAsg, ofG, gN, gsCons, gsNil, gTupT_tup, gTupT_Q, Out.then_ok, Out.then_ex, Out.bind_ok, Out.bind_ex, eVar, eD_eq, eOp, eCall, eBlt, aCons, aNil, eTup, eIf, eT, eNot, eAnd, eOr, tvAnd, tvOr, tvNot, eNeg, eIsi, isTy_d, isQ_tup, isQ_bool, isQ_int, isI_bool, isI_int, isI_tup, isB_bool, isB_int, ixQ0, ixQ1, truO_b, fzs_nil, fzs_d, gInt_eq, gAdd_int, gAbs_eq, fAdd_eq, fSub_eq, fLt_eq, fLe_eq, fGt_eq, fGe_eq, ix0, ix1, ix2, ix3, ix4, ix5, ofO_some, Option.map_some, Option.bind_some, List.length_cons, List.length_nil, List.map_cons, List.map_nil, List.replicate_succ, List.replicate_zero, List.cons_append, List.nil_append, List.getElem?_cons_zero, List.getElem?_cons_succ, List.set_cons_zero, List.set_cons_succ, List.take_length, Int.reduceEq, Int.reduceLT, Int.reduceLE, Nat.reduceSub, Nat.reduceAdd, Nat.reduceLeDiff, Nat.reduceLT, Nat.zero_add, Nat.add_zero, Nat.sub_self, if_true, if_false, reduceIte, Bool.false_eq_true, fitB, decide_true, decide_false, Bool.not_true, Bool.not_false, sp_size_of, ixR2, e0, lt]
  · obtain ⟨far, a1, a2, a3, a4, a5⟩ := w1_place O hs hn h0 (some (.d (Q x))) none none h 9200 1 (Nat.le_refl 1) (by omega) (by omega) (by
      rw [show ((1 / 2 : Nat) : Int) = 0 from rfl, Int.add_zero]
      exact lt)
    have a5' : sWhile (tvNot (eT (eCall m_is_enough (aCons (eVar 0) (aCons (eVar 2) (aCons (eOp gAdd (eVar 3) (eVar 4)) (aNil))))))) (sSet 4 (eOp (gInt fMul) (eVar 4) (eD (.int 2)))) [some (.d R.da), some (.d (Q x)), some (.d (Q x.abs)), some (.d (.int R.l)), some (.d (.int 1)), none, none] h = _ := a5
    have d2 : fDiv (far : Int) 2 = some (.int ((far / 2 : Nat) : Int)) := by
      have := div_lit (a := (far : Int)) (k := 2) (by decide) (by decide)
      rw [show ((2 : Nat) : Int) = 2 from rfl, fdiv2] at this
      exact this
    obtain ⟨p, z, b1, b2, b3, b4⟩ := w2_place O hs hn (some (.d (Q x))) (some (.d (.int (far : Int)))) h 40000 (R.l + ((far / 2 : Nat) : Int)) (R.l + (far : Int)) none (by omega) (by omega) (by omega) (by omega) a4 a3
    have q : IsPlc R x p := ⟨by omega, b3, .inr (Rat.not_lt.mp b2)⟩
    rw [plc_eq O q]
    simp only [mkF, enter, retF, trunc, sSeq, So.then_nx, So.then_rt, sSet, sRet, sRetN, sIf, sExpr, sNil, sPar, sAsg, ofG, gN, gsCons, gsNil, gTupT_tup, gTupT_Q, Out.then_ok, Out.then_ex, Out.bind_ok, Out.bind_ex, eVar, eD_eq, eOp, eCall, eBlt, aCons, aNil, eTup, eIf, eT, eNot, eAnd, eOr, tvAnd, tvOr, tvNot, eNeg, eIsi, isTy_d, isQ_tup, isQ_bool, isQ_int, isI_bool, isI_int, isI_tup, isB_bool, isB_int, ixQ0, ixQ1, truO_b, fzs_nil, fzs_d, gInt_eq, gAdd_int, gAbs_eq, fAdd_eq, fSub_eq, fLt_eq, fLe_eq, fGt_eq, fGe_eq, ix0, ix1, ix2, ix3, ix4, ix5, ofO_some, Option.map_some, Option.bind_some, List.length_cons, List.length_nil, List.map_cons, List.map_nil, List.replicate_succ, List.replicate_zero, List.cons_append, List.nil_append, List.getElem?_cons_zero, List.getElem?_cons_succ, List.set_cons_zero, List.set_cons_succ, List.take_length, Int.reduceEq, Int.reduceLT, Int.reduceLE, Nat.reduceSub, Nat.reduceAdd, Nat.reduceLeDiff, Nat.reduceLT, Nat.zero_add, Nat.add_zero, Nat.sub_self, if_true, if_false, reduceIte, Bool.false_eq_true, fitB, decide_true, decide_false, Bool.not_true, Bool.not_false, sp_size_of, ixR2, e0, lt, a5', d2, b4]
theorem sp_step_of {R : Ruler} (O : R.Ok) {x : Rat} {n : Nat} (hx : BQ n x) (hn : n ≤ 9000) (h : Hh) : m_step_of [.d R.da, .d (Q x)] h = .ok (.d (Q (R.pw (R.plc x)))) h := by
  have l1 := O.l1
  have l2 := O.l2
  have b := plc_bd O hx
  unfold m_step_of b_step_of
  simp only [mkF, enter, retF, trunc, sSeq, So.then_nx, So.then_rt, sSet, sRet, sRetN, sIf, sExpr, sNil, sPar, sAsg, ofG, gN, gsCons, gsNil, gTupT_tup, gTupT_Q, Out.then_ok, Out.then_ex, Out.bind_ok, Out.bind_ex, eVar, eD_eq, eOp, eCall, eBlt, aCons, aNil, eTup, eIf, eT, eNot, eAnd, eOr, tvAnd, tvOr, tvNot, eNeg, eIsi, isTy_d, isQ_tup, isQ_bool, isQ_int, isI_bool, isI_int, isI_tup, isB_bool, isB_int, ixQ0, ixQ1, truO_b, fzs_nil, fzs_d, gInt_eq, gAdd_int, gAbs_eq, fAdd_eq, fSub_eq, fLt_eq, fLe_eq, fGt_eq, fGe_eq, ix0, ix1, ix2, ix3, ix4, ix5, ofO_some, Option.map_some, Option.bind_some, List.length_cons, List.length_nil, List.map_cons, List.map_nil, List.replicate_succ, List.replicate_zero, List.cons_append, List.nil_append, List.getElem?_cons_zero, List.getElem?_cons_succ, List.set_cons_zero, List.set_cons_succ, List.take_length, Int.reduceEq, Int.reduceLT, Int.reduceLE, Nat.reduceSub, Nat.reduceAdd, Nat.reduceLeDiff, Nat.reduceLT, Nat.zero_add, Nat.add_zero, Nat.sub_self, if_true, if_false, reduceIte, Bool.false_eq_true, fitB, decide_true, decide_false, Bool.not_true, Bool.not_false, ixR0, sp_place_of O hx hn, sp_pw O (e := R.plc x) (by omega)]

/-! what is a fraction; rounding -/
theorem sp_is_whole_int (i : Int) (h : Hh) : m_is_whole [.d (.int i)] h = .ok (.d (.bool true)) h := by
  unfold m_is_whole b_is_whole
  walk_at "ev"
theorem sp_is_fraction (r : Rat) (h : Hh) : m_is_fraction [.d (Q r)] h = .ok (.d (.bool true)) h := by
  have g : ((Int.gcd r.num r.den : Nat) : Int) = 1 := by
    have := r.reduced
    unfold Nat.Coprime at this
    unfold Int.gcd
    rw [Int.natAbs_natCast, this]
    rfl
  have d := den_pos r
  unfold m_is_fraction b_is_fraction
  simp only [mkF, enter, retF, trunc, sSeq, So.then_nx, So.then_rt, sSet, sRet, sRetN, sIf, sExpr, sNil, sPar, sAsg, ofG, gN, gsCons, gsNil, gTupT_tup, gTupT_Q, Out.then_ok, Out.then_ex, Out.bind_ok, Out.bind_ex, eVar, eD_eq, eOp, eCall, eBlt, aCons, aNil, eTup, eIf, eT, eNot, eAnd, eOr, tvAnd, tvOr, tvNot, eNeg, eIsi, isTy_d, isQ_tup, isQ_bool, isQ_int, isI_bool, isI_int, isI_tup, isB_bool, isB_int, ixQ0, ixQ1, truO_b, fzs_nil, fzs_d, gInt_eq, gAdd_int, gAbs_eq, fAdd_eq, fSub_eq, fLt_eq, fLe_eq, fGt_eq, fGe_eq, ix0, ix1, ix2, ix3, ix4, ix5, ofO_some, Option.map_some, Option.bind_some, List.length_cons, List.length_nil, List.map_cons, List.map_nil, List.replicate_succ, List.replicate_zero, List.cons_append, List.nil_append, List.getElem?_cons_zero, List.getElem?_cons_succ, List.set_cons_zero, List.set_cons_succ, List.take_length, Int.reduceEq, Int.reduceLT, Int.reduceLE, Nat.reduceSub, Nat.reduceAdd, Nat.reduceLeDiff, Nat.reduceLT, Nat.zero_add, Nat.add_zero, Nat.sub_self, if_true, if_false, reduceIte, Bool.false_eq_true, fitB, decide_true, decide_false, Bool.not_true, Bool.not_false, gLen_Q, gNe_int, sp_is_whole_int, sp_shared, g, gEq_int, d]
theorem sp_whole_by {w : String} (hw : w = "near" ∨ w = "down" ∨ w = "up" ∨ w = "nought") {t : Rat} {n : Nat} (ht : BQ n t) (h0 : 0 < n) (hl : n ≤ 9000) (h : Hh) : m_whole_by [.d (.str w), .d (.int t.num), .d (.int t.den)] h = .ok (.d (.int (wb w t))) h := by
  have d1 := fDiv_eq (a := t.num) (den_ne t) (ht.2.divOk h0 hl)
  rw [floor_num] at d1
  have d2 := fMod_eq (a := t.num) (den_ne t)
  have m2 : fMul (t.num.fmod t.den) 2 = some (.int (t.num.fmod t.den * 2)) := fMul_eq (mulOk_smallR (bd_lit 2 (by decide) (by decide) (by decide)))
  have m3 : fMod t.floor 2 = some (.int (t.floor.fmod 2)) := fMod_eq (by decide)
  have r1 := rest_gt t
  have r2 := rest_half t
  have r3 := rest_pos t
  have r4 := num_neg t
  unfold wb upB
  unfold m_whole_by b_whole_by
  rcases hw with z | z | z | z <;> subst z
  · by_cases c1 : 1 < 2 * (t - (t.floor : Rat))
    · have q1 := r1.mpr c1
      simp only [mkF, enter, retF, trunc, sSeq, So.then_nx, So.then_rt, sSet, sRet, sRetN, sIf, sExpr, sNil, sPar, sAsg, ofG, gN, gsCons, gsNil, gTupT_tup, gTupT_Q, Out.then_ok, Out.then_ex, Out.bind_ok, Out.bind_ex, eVar, eD_eq, eOp, eCall, eBlt, aCons, aNil, eTup, eIf, eT, eNot, eAnd, eOr, tvAnd, tvOr, tvNot, eNeg, eIsi, isTy_d, isQ_tup, isQ_bool, isQ_int, isI_bool, isI_int, isI_tup, isB_bool, isB_int, ixQ0, ixQ1, truO_b, fzs_nil, fzs_d, gInt_eq, gAdd_int, gAbs_eq, fAdd_eq, fSub_eq, fLt_eq, fLe_eq, fGt_eq, fGe_eq, ix0, ix1, ix2, ix3, ix4, ix5, ofO_some, Option.map_some, Option.bind_some, List.length_cons, List.length_nil, List.map_cons, List.map_nil, List.replicate_succ, List.replicate_zero, List.cons_append, List.nil_append, List.getElem?_cons_zero, List.getElem?_cons_succ, List.set_cons_zero, List.set_cons_succ, List.take_length, Int.reduceEq, Int.reduceLT, Int.reduceLE, Nat.reduceSub, Nat.reduceAdd, Nat.reduceLeDiff, Nat.reduceLT, Nat.zero_add, Nat.add_zero, Nat.sub_self, if_true, if_false, reduceIte, Bool.false_eq_true, fitB, decide_true, decide_false, Bool.not_true, Bool.not_false, d1, d2, m2, m3, gEq_strO, so_near, so_down, so_up, so_nought, gInt1_b, q1, c1, Bool.true_or]
    · have q1 : ¬ (t.den : Int) < t.num.fmod t.den * 2 := fun z => c1 (r1.mp z)
      by_cases c2 : 2 * (t - (t.floor : Rat)) = 1
      · have q2 := r2.mpr c2
        by_cases c3 : t.floor.fmod 2 = 1
        · simp only [mkF, enter, retF, trunc, sSeq, So.then_nx, So.then_rt, sSet, sRet, sRetN, sIf, sExpr, sNil, sPar, sAsg, ofG, gN, gsCons, gsNil, gTupT_tup, gTupT_Q, Out.then_ok, Out.then_ex, Out.bind_ok, Out.bind_ex, eVar, eD_eq, eOp, eCall, eBlt, aCons, aNil, eTup, eIf, eT, eNot, eAnd, eOr, tvAnd, tvOr, tvNot, eNeg, eIsi, isTy_d, isQ_tup, isQ_bool, isQ_int, isI_bool, isI_int, isI_tup, isB_bool, isB_int, ixQ0, ixQ1, truO_b, fzs_nil, fzs_d, gInt_eq, gAdd_int, gAbs_eq, fAdd_eq, fSub_eq, fLt_eq, fLe_eq, fGt_eq, fGe_eq, ix0, ix1, ix2, ix3, ix4, ix5, ofO_some, Option.map_some, Option.bind_some, List.length_cons, List.length_nil, List.map_cons, List.map_nil, List.replicate_succ, List.replicate_zero, List.cons_append, List.nil_append, List.getElem?_cons_zero, List.getElem?_cons_succ, List.set_cons_zero, List.set_cons_succ, List.take_length, Int.reduceEq, Int.reduceLT, Int.reduceLE, Nat.reduceSub, Nat.reduceAdd, Nat.reduceLeDiff, Nat.reduceLT, Nat.zero_add, Nat.add_zero, Nat.sub_self, if_true, if_false, reduceIte, Bool.false_eq_true, fitB, decide_true, decide_false, Bool.not_true, Bool.not_false, d1, d2, m2, m3, gEq_strO, so_near, so_down, so_up, so_nought, gEq_int, gInt1_b, q1, q2, c1, c2, c3, Int.lt_irrefl, Rat.lt_irrefl, Bool.false_or, Bool.true_and]
        · simp only [mkF, enter, retF, trunc, sSeq, So.then_nx, So.then_rt, sSet, sRet, sRetN, sIf, sExpr, sNil, sPar, sAsg, ofG, gN, gsCons, gsNil, gTupT_tup, gTupT_Q, Out.then_ok, Out.then_ex, Out.bind_ok, Out.bind_ex, eVar, eD_eq, eOp, eCall, eBlt, aCons, aNil, eTup, eIf, eT, eNot, eAnd, eOr, tvAnd, tvOr, tvNot, eNeg, eIsi, isTy_d, isQ_tup, isQ_bool, isQ_int, isI_bool, isI_int, isI_tup, isB_bool, isB_int, ixQ0, ixQ1, truO_b, fzs_nil, fzs_d, gInt_eq, gAdd_int, gAbs_eq, fAdd_eq, fSub_eq, fLt_eq, fLe_eq, fGt_eq, fGe_eq, ix0, ix1, ix2, ix3, ix4, ix5, ofO_some, Option.map_some, Option.bind_some, List.length_cons, List.length_nil, List.map_cons, List.map_nil, List.replicate_succ, List.replicate_zero, List.cons_append, List.nil_append, List.getElem?_cons_zero, List.getElem?_cons_succ, List.set_cons_zero, List.set_cons_succ, List.take_length, Int.reduceEq, Int.reduceLT, Int.reduceLE, Nat.reduceSub, Nat.reduceAdd, Nat.reduceLeDiff, Nat.reduceLT, Nat.zero_add, Nat.add_zero, Nat.sub_self, if_true, if_false, reduceIte, Bool.false_eq_true, fitB, decide_true, decide_false, Bool.not_true, Bool.not_false, d1, d2, m2, m3, gEq_strO, so_near, so_down, so_up, so_nought, gEq_int, gInt1_b, q1, q2, c1, c2, c3, Int.lt_irrefl, Rat.lt_irrefl, Bool.false_or, Bool.true_and]
      · have q2 : ¬ t.num.fmod t.den * 2 = (t.den : Int) := fun z => c2 (r2.mp z)
        simp only [mkF, enter, retF, trunc, sSeq, So.then_nx, So.then_rt, sSet, sRet, sRetN, sIf, sExpr, sNil, sPar, sAsg, ofG, gN, gsCons, gsNil, gTupT_tup, gTupT_Q, Out.then_ok, Out.then_ex, Out.bind_ok, Out.bind_ex, eVar, eD_eq, eOp, eCall, eBlt, aCons, aNil, eTup, eIf, eT, eNot, eAnd, eOr, tvAnd, tvOr, tvNot, eNeg, eIsi, isTy_d, isQ_tup, isQ_bool, isQ_int, isI_bool, isI_int, isI_tup, isB_bool, isB_int, ixQ0, ixQ1, truO_b, fzs_nil, fzs_d, gInt_eq, gAdd_int, gAbs_eq, fAdd_eq, fSub_eq, fLt_eq, fLe_eq, fGt_eq, fGe_eq, ix0, ix1, ix2, ix3, ix4, ix5, ofO_some, Option.map_some, Option.bind_some, List.length_cons, List.length_nil, List.map_cons, List.map_nil, List.replicate_succ, List.replicate_zero, List.cons_append, List.nil_append, List.getElem?_cons_zero, List.getElem?_cons_succ, List.set_cons_zero, List.set_cons_succ, List.take_length, Int.reduceEq, Int.reduceLT, Int.reduceLE, Nat.reduceSub, Nat.reduceAdd, Nat.reduceLeDiff, Nat.reduceLT, Nat.zero_add, Nat.add_zero, Nat.sub_self, if_true, if_false, reduceIte, Bool.false_eq_true, fitB, decide_true, decide_false, Bool.not_true, Bool.not_false, d1, d2, m2, m3, gEq_strO, so_near, so_down, so_up, so_nought, gEq_int, gInt1_b, q1, q2, c1, c2, Bool.false_or, Bool.false_and]
  · have s1 : ¬ ((Str.ofString "down") = (Str.ofString "near")) := str_ne (by decide +kernel)
    have s2 : ¬ ((Str.ofString "down") = (Str.ofString "nought")) := str_ne (by decide +kernel)
    have s3 : ¬ ((Str.ofString "down") = (Str.ofString "up")) := str_ne (by decide +kernel)
    have s1' : ¬ ("down" : String) = "near" := by decide
    have s2' : ¬ ("down" : String) = "nought" := by decide
    have s3' : ¬ ("down" : String) = "up" := by decide
    simp only [mkF, enter, retF, trunc, sSeq, So.then_nx, So.then_rt, sSet, sRet, sRetN, sIf, sExpr, sNil, sPar, sAsg, ofG, gN, gsCons, gsNil, gTupT_tup, gTupT_Q, Out.then_ok, Out.then_ex, Out.bind_ok, Out.bind_ex, eVar, eD_eq, eOp, eCall, eBlt, aCons, aNil, eTup, eIf, eT, eNot, eAnd, eOr, tvAnd, tvOr, tvNot, eNeg, eIsi, isTy_d, isQ_tup, isQ_bool, isQ_int, isI_bool, isI_int, isI_tup, isB_bool, isB_int, ixQ0, ixQ1, truO_b, fzs_nil, fzs_d, gInt_eq, gAdd_int, gAbs_eq, fAdd_eq, fSub_eq, fLt_eq, fLe_eq, fGt_eq, fGe_eq, ix0, ix1, ix2, ix3, ix4, ix5, ofO_some, Option.map_some, Option.bind_some, List.length_cons, List.length_nil, List.map_cons, List.map_nil, List.replicate_succ, List.replicate_zero, List.cons_append, List.nil_append, List.getElem?_cons_zero, List.getElem?_cons_succ, List.set_cons_zero, List.set_cons_succ, List.take_length, Int.reduceEq, Int.reduceLT, Int.reduceLE, Nat.reduceSub, Nat.reduceAdd, Nat.reduceLeDiff, Nat.reduceLT, Nat.zero_add, Nat.add_zero, Nat.sub_self, if_true, if_false, reduceIte, Bool.false_eq_true, fitB, decide_true, decide_false, Bool.not_true, Bool.not_false, d1, d2, gEq_strO, so_near, so_down, so_up, so_nought, gInt1_b, s1, s2, s3, s1', s2', s3', Bool.false_and]
  · have s1 : ¬ ((Str.ofString "up") = (Str.ofString "near")) := str_ne (by decide +kernel)
    have s2 : ¬ ((Str.ofString "up") = (Str.ofString "nought")) := str_ne (by decide +kernel)
    have s1' : ¬ ("up" : String) = "near" := by decide
    have s2' : ¬ ("up" : String) = "nought" := by decide
    by_cases c3 : 0 < t - (t.floor : Rat)
    · have q3 := r3.mpr c3
      simp only [mkF, enter, retF, trunc, sSeq, So.then_nx, So.then_rt, sSet, sRet, sRetN, sIf, sExpr, sNil, sPar, sAsg, ofG, gN, gsCons, gsNil, gTupT_tup, gTupT_Q, Out.then_ok, Out.then_ex, Out.bind_ok, Out.bind_ex, eVar, eD_eq, eOp, eCall, eBlt, aCons, aNil, eTup, eIf, eT, eNot, eAnd, eOr, tvAnd, tvOr, tvNot, eNeg, eIsi, isTy_d, isQ_tup, isQ_bool, isQ_int, isI_bool, isI_int, isI_tup, isB_bool, isB_int, ixQ0, ixQ1, truO_b, fzs_nil, fzs_d, gInt_eq, gAdd_int, gAbs_eq, fAdd_eq, fSub_eq, fLt_eq, fLe_eq, fGt_eq, fGe_eq, ix0, ix1, ix2, ix3, ix4, ix5, ofO_some, Option.map_some, Option.bind_some, List.length_cons, List.length_nil, List.map_cons, List.map_nil, List.replicate_succ, List.replicate_zero, List.cons_append, List.nil_append, List.getElem?_cons_zero, List.getElem?_cons_succ, List.set_cons_zero, List.set_cons_succ, List.take_length, Int.reduceEq, Int.reduceLT, Int.reduceLE, Nat.reduceSub, Nat.reduceAdd, Nat.reduceLeDiff, Nat.reduceLT, Nat.zero_add, Nat.add_zero, Nat.sub_self, if_true, if_false, reduceIte, Bool.false_eq_true, fitB, decide_true, decide_false, Bool.not_true, Bool.not_false, d1, d2, gEq_strO, so_near, so_down, so_up, so_nought, gInt1_b, s1, s2, s1', s2', c3, q3, Bool.true_and]
    · have q3 : ¬ 0 < t.num.fmod t.den := fun z => c3 (r3.mp z)
      simp only [mkF, enter, retF, trunc, sSeq, So.then_nx, So.then_rt, sSet, sRet, sRetN, sIf, sExpr, sNil, sPar, sAsg, ofG, gN, gsCons, gsNil, gTupT_tup, gTupT_Q, Out.then_ok, Out.then_ex, Out.bind_ok, Out.bind_ex, eVar, eD_eq, eOp, eCall, eBlt, aCons, aNil, eTup, eIf, eT, eNot, eAnd, eOr, tvAnd, tvOr, tvNot, eNeg, eIsi, isTy_d, isQ_tup, isQ_bool, isQ_int, isI_bool, isI_int, isI_tup, isB_bool, isB_int, ixQ0, ixQ1, truO_b, fzs_nil, fzs_d, gInt_eq, gAdd_int, gAbs_eq, fAdd_eq, fSub_eq, fLt_eq, fLe_eq, fGt_eq, fGe_eq, ix0, ix1, ix2, ix3, ix4, ix5, ofO_some, Option.map_some, Option.bind_some, List.length_cons, List.length_nil, List.map_cons, List.map_nil, List.replicate_succ, List.replicate_zero, List.cons_append, List.nil_append, List.getElem?_cons_zero, List.getElem?_cons_succ, List.set_cons_zero, List.set_cons_succ, List.take_length, Int.reduceEq, Int.reduceLT, Int.reduceLE, Nat.reduceSub, Nat.reduceAdd, Nat.reduceLeDiff, Nat.reduceLT, Nat.zero_add, Nat.add_zero, Nat.sub_self, if_true, if_false, reduceIte, Bool.false_eq_true, fitB, decide_true, decide_false, Bool.not_true, Bool.not_false, d1, d2, gEq_strO, so_near, so_down, so_up, so_nought, gInt1_b, s1, s2, s1', s2', c3, q3, Bool.true_and]
  · have s1 : ¬ ((Str.ofString "nought") = (Str.ofString "near")) := str_ne (by decide +kernel)
    have s1' : ¬ ("nought" : String) = "near" := by decide
    by_cases c4 : t < 0
    · have q4 := r4.mpr c4
      by_cases c3 : 0 < t - (t.floor : Rat)
      · have q3 := r3.mpr c3
        simp only [mkF, enter, retF, trunc, sSeq, So.then_nx, So.then_rt, sSet, sRet, sRetN, sIf, sExpr, sNil, sPar, sAsg, ofG, gN, gsCons, gsNil, gTupT_tup, gTupT_Q, Out.then_ok, Out.then_ex, Out.bind_ok, Out.bind_ex, eVar, eD_eq, eOp, eCall, eBlt, aCons, aNil, eTup, eIf, eT, eNot, eAnd, eOr, tvAnd, tvOr, tvNot, eNeg, eIsi, isTy_d, isQ_tup, isQ_bool, isQ_int, isI_bool, isI_int, isI_tup, isB_bool, isB_int, ixQ0, ixQ1, truO_b, fzs_nil, fzs_d, gInt_eq, gAdd_int, gAbs_eq, fAdd_eq, fSub_eq, fLt_eq, fLe_eq, fGt_eq, fGe_eq, ix0, ix1, ix2, ix3, ix4, ix5, ofO_some, Option.map_some, Option.bind_some, List.length_cons, List.length_nil, List.map_cons, List.map_nil, List.replicate_succ, List.replicate_zero, List.cons_append, List.nil_append, List.getElem?_cons_zero, List.getElem?_cons_succ, List.set_cons_zero, List.set_cons_succ, List.take_length, Int.reduceEq, Int.reduceLT, Int.reduceLE, Nat.reduceSub, Nat.reduceAdd, Nat.reduceLeDiff, Nat.reduceLT, Nat.zero_add, Nat.add_zero, Nat.sub_self, if_true, if_false, reduceIte, Bool.false_eq_true, fitB, decide_true, decide_false, Bool.not_true, Bool.not_false, d1, d2, gEq_strO, so_near, so_down, so_up, so_nought, gInt1_b, s1, s1', c3, q3, c4, q4, Bool.true_and]
      · have q3 : ¬ 0 < t.num.fmod t.den := fun z => c3 (r3.mp z)
        simp only [mkF, enter, retF, trunc, sSeq, So.then_nx, So.then_rt, sSet, sRet, sRetN, sIf, sExpr, sNil, sPar, sAsg, ofG, gN, gsCons, gsNil, gTupT_tup, gTupT_Q, Out.then_ok, Out.then_ex, Out.bind_ok, Out.bind_ex, eVar, eD_eq, eOp, eCall, eBlt, aCons, aNil, eTup, eIf, eT, eNot, eAnd, eOr, tvAnd, tvOr, tvNot, eNeg, eIsi, isTy_d, isQ_tup, isQ_bool, isQ_int, isI_bool, isI_int, isI_tup, isB_bool, isB_int, ixQ0, ixQ1, truO_b, fzs_nil, fzs_d, gInt_eq, gAdd_int, gAbs_eq, fAdd_eq, fSub_eq, fLt_eq, fLe_eq, fGt_eq, fGe_eq, ix0, ix1, ix2, ix3, ix4, ix5, ofO_some, Option.map_some, Option.bind_some, List.length_cons, List.length_nil, List.map_cons, List.map_nil, List.replicate_succ, List.replicate_zero, List.cons_append, List.nil_append, List.getElem?_cons_zero, List.getElem?_cons_succ, List.set_cons_zero, List.set_cons_succ, List.take_length, Int.reduceEq, Int.reduceLT, Int.reduceLE, Nat.reduceSub, Nat.reduceAdd, Nat.reduceLeDiff, Nat.reduceLT, Nat.zero_add, Nat.add_zero, Nat.sub_self, if_true, if_false, reduceIte, Bool.false_eq_true, fitB, decide_true, decide_false, Bool.not_true, Bool.not_false, d1, d2, gEq_strO, so_near, so_down, so_up, so_nought, gInt1_b, s1, s1', c3, q3, c4, q4, Bool.true_and]
    · have q4 : ¬ t.num < 0 := fun z => c4 (r4.mp z)
      simp only [mkF, enter, retF, trunc, sSeq, So.then_nx, So.then_rt, sSet, sRet, sRetN, sIf, sExpr, sNil, sPar, sAsg, ofG, gN, gsCons, gsNil, gTupT_tup, gTupT_Q, Out.then_ok, Out.then_ex, Out.bind_ok, Out.bind_ex, eVar, eD_eq, eOp, eCall, eBlt, aCons, aNil, eTup, eIf, eT, eNot, eAnd, eOr, tvAnd, tvOr, tvNot, eNeg, eIsi, isTy_d, isQ_tup, isQ_bool, isQ_int, isI_bool, isI_int, isI_tup, isB_bool, isB_int, ixQ0, ixQ1, truO_b, fzs_nil, fzs_d, gInt_eq, gAdd_int, gAbs_eq, fAdd_eq, fSub_eq, fLt_eq, fLe_eq, fGt_eq, fGe_eq, ix0, ix1, ix2, ix3, ix4, ix5, ofO_some, Option.map_some, Option.bind_some, List.length_cons, List.length_nil, List.map_cons, List.map_nil, List.replicate_succ, List.replicate_zero, List.cons_append, List.nil_append, List.getElem?_cons_zero, List.getElem?_cons_succ, List.set_cons_zero, List.set_cons_succ, List.take_length, Int.reduceEq, Int.reduceLT, Int.reduceLE, Nat.reduceSub, Nat.reduceAdd, Nat.reduceLeDiff, Nat.reduceLT, Nat.zero_add, Nat.add_zero, Nat.sub_self, if_true, if_false, reduceIte, Bool.false_eq_true, fitB, decide_true, decide_false, Bool.not_true, Bool.not_false, d1, d2, gEq_strO, so_near, so_down, so_up, so_nought, gInt1_b, s1, s1', c4, q4, Bool.false_and]
theorem sp_rounded {R : Ruler} (O : R.Ok) {x : Rat} {n : Nat} (hx : BQ n x) (hn : n ≤ 4000) (h : Hh) : m_rounded [.d R.da, .d (Q x)] h = .ok (.d (Q (R.rnd x))) h := by
  have bs := BQ_stp O hx (m := 401 + n) (by omega) (by omega)
  have bt := hx.div bs (by omega)
  have st : ∀ h, m_step_of [.d R.da, .d (Q x)] h = .ok (.d (Q (R.stp x))) h := fun h => sp_step_of O hx (by omega) h
  have wbd : BQ 97 ((wb R.w (x / R.stp x) : Int) : Rat) := by
    have b := wb_bd O hx
    have p : R.b ^ R.f ≤ 16 ^ 24 := Nat.le_trans (Nat.pow_le_pow_left O.b16 _) (Nat.pow_le_pow_right (by decide) O.f24)
    refine ⟨?_, ?_⟩
    · rw [Rat.num_intCast]
      exact Nat.lt_of_le_of_lt (Nat.le_trans b p) (by decide)
    · rw [Rat.den_intCast]
      exact Nat.one_lt_two_pow (by omega)
  unfold m_rounded b_rounded Ruler.rnd
  simp only [mkF, enter, retF, trunc, sSeq, So.then_nx, So.then_rt, sSet, sRet, sRetN, sIf, sExpr, sNil, sPar, sAsg, ofG, gN, gsCons, gsNil, gTupT_tup, gTupT_Q, Out.then_ok, Out.then_ex, Out.bind_ok, Out.bind_ex, eVar, eD_eq, eOp, eCall, eBlt, aCons, aNil, eTup, eIf, eT, eNot, eAnd, eOr, tvAnd, tvOr, tvNot, eNeg, eIsi, isTy_d, isQ_tup, isQ_bool, isQ_int, isI_bool, isI_int, isI_tup, isB_bool, isB_int, ixQ0, ixQ1, truO_b, fzs_nil, fzs_d, gInt_eq, gAdd_int, gAbs_eq, fAdd_eq, fSub_eq, fLt_eq, fLe_eq, fGt_eq, fGe_eq, ix0, ix1, ix2, ix3, ix4, ix5, ofO_some, Option.map_some, Option.bind_some, List.length_cons, List.length_nil, List.map_cons, List.map_nil, List.replicate_succ, List.replicate_zero, List.cons_append, List.nil_append, List.getElem?_cons_zero, List.getElem?_cons_succ, List.set_cons_zero, List.set_cons_succ, List.take_length, Int.reduceEq, Int.reduceLT, Int.reduceLE, Nat.reduceSub, Nat.reduceAdd, Nat.reduceLeDiff, Nat.reduceLT, Nat.zero_add, Nat.add_zero, Nat.sub_self, if_true, if_false, reduceIte, Bool.false_eq_true, fitB, decide_true, decide_false, Bool.not_true, Bool.not_false, st, sp_over hx bs (by omega) (stp_ne O x), ixR3, sp_whole_by O.w4 bt (by omega) (by omega), sp_whole_of, sp_times wbd bs (by omega)]
theorem sp_is_mark {R : Ruler} (O : R.Ok) {x : Rat} {n : Nat} (hx : BQ n x) (hn : n ≤ 4000) (h : Hh) : m_is_mark [.d R.da, .d (Q x)] h = .ok (.d (.bool (decide (R.rnd x = x)))) h := by
  unfold m_is_mark b_is_mark
  simp only [mkF, enter, retF, trunc, sSeq, So.then_nx, So.then_rt, sSet, sRet, sRetN, sIf, sExpr, sNil, sPar, sAsg, ofG, gN, gsCons, gsNil, gTupT_tup, gTupT_Q, Out.then_ok, Out.then_ex, Out.bind_ok, Out.bind_ex, eVar, eD_eq, eOp, eCall, eBlt, aCons, aNil, eTup, eIf, eT, eNot, eAnd, eOr, tvAnd, tvOr, tvNot, eNeg, eIsi, isTy_d, isQ_tup, isQ_bool, isQ_int, isI_bool, isI_int, isI_tup, isB_bool, isB_int, ixQ0, ixQ1, truO_b, fzs_nil, fzs_d, gInt_eq, gAdd_int, gAbs_eq, fAdd_eq, fSub_eq, fLt_eq, fLe_eq, fGt_eq, fGe_eq, ix0, ix1, ix2, ix3, ix4, ix5, ofO_some, Option.map_some, Option.bind_some, List.length_cons, List.length_nil, List.map_cons, List.map_nil, List.replicate_succ, List.replicate_zero, List.cons_append, List.nil_append, List.getElem?_cons_zero, List.getElem?_cons_succ, List.set_cons_zero, List.set_cons_succ, List.take_length, Int.reduceEq, Int.reduceLT, Int.reduceLE, Nat.reduceSub, Nat.reduceAdd, Nat.reduceLeDiff, Nat.reduceLT, Nat.zero_add, Nat.add_zero, Nat.sub_self, if_true, if_false, reduceIte, Bool.false_eq_true, fitB, decide_true, decide_false, Bool.not_true, Bool.not_false, sp_is_fraction, sp_rounded O hx hn, gEq_Q]

/-! the numbers' defs, by wishes -/
section
variable {h : Hh} {Q : Vl → Hh → Prop} {E : XP} {r s : Rat} {n m : Nat}
theorem wp_times (hr : BQ n r) (hs : BQ m s) (hl : n + m ≤ 9000) (q : Q (.d (Rk.Q (r * s))) h) : Wp (m_times [.d (Rk.Q r), .d (Rk.Q s)] h) Q E := wp_eq (sp_times hr hs hl h) q
theorem wp_over (hr : BQ n r) (hs : BQ m s) (hl : n + m ≤ 9000) (h0 : s ≠ 0) (q : Q (.d (Rk.Q (r / s))) h) : Wp (m_over [.d (Rk.Q r), .d (Rk.Q s)] h) Q E := wp_eq (sp_over hr hs hl h0 h) q
theorem wp_turned (q : Q (.d (Rk.Q (-r))) h) : Wp (m_turned [.d (Rk.Q r)] h) Q E := wp_eq (sp_turned r h) q
theorem wp_size_of (q : Q (.d (Rk.Q r.abs)) h) : Wp (m_size_of [.d (Rk.Q r)] h) Q E := wp_eq (sp_size_of r h) q
theorem wp_whole_of {k : Int} (q : Q (.d (Rk.Q (k : Rat))) h) : Wp (m_whole_of [.d (.int k)] h) Q E := wp_eq (sp_whole_of k h) q
theorem wp_is_less (hr : BQ n r) (hs : BQ m s) (hl : n + m ≤ 134217728) (q : Q (.d (.bool (decide (r < s)))) h) : Wp (m_is_less [.d (Rk.Q r), .d (Rk.Q s)] h) Q E := wp_eq (sp_is_less hr hs hl h) q
theorem wp_fraction {x y : Int} (hy : y ≠ 0) (b : Bd n y) (hl : n ≤ 9000) (q : Q (.d (Rk.Q (Rat.divInt x y))) h) : Wp (m_fraction [.d (.int x), .d (.int y)] h) Q E := wp_eq (sp_fraction hy b hl h) q
theorem wp_shared {x y : Int} (q : Q (.d (.int (Int.gcd x y : Nat))) h) : Wp (m_shared [.d (.int x), .d (.int y)] h) Q E := wp_eq (sp_shared x y h) q
end
local macro_rules | `(tactic| walk_at "wc") => `(tactic| (apply wp_times; exact (by walk_at "bq"); exact (by walk_at "bq"); exact (by walk_at "sm")))
local macro_rules | `(tactic| walk_at "wc") => `(tactic| (apply wp_over; exact (by walk_at "bq"); exact (by walk_at "bq"); exact (by walk_at "sm"); exact (by walk_at "nz")))
local macro_rules | `(tactic| walk_at "wc") => `(tactic| refine wp_turned ?_)
local macro_rules | `(tactic| walk_at "wc") => `(tactic| refine wp_size_of ?_)
local macro_rules | `(tactic| walk_at "wc") => `(tactic| refine wp_whole_of ?_)
local macro_rules | `(tactic| walk_at "wc") => `(tactic| (apply wp_is_less; exact (by walk_at "bq"); exact (by walk_at "bq"); exact (by walk_at "sm")))
local macro_rules | `(tactic| walk_at "wc") => `(tactic| refine wp_shared ?_)

/-! the laws' own drawing -/
theorem sp_mixed (a : Int) (k : Nat) (hk : k < 2 ^ 32) (h : Hh) : ∃ v : Int, m__law_mixed [.d (.int a), .d (.int (k : Int))] h = .ok (.d (.int v)) h ∧ 0 ≤ v ∧ v < 2147483629 := by
  have bk : Bd 64 (k : Int) := bd_nat (Nat.lt_trans hk (by decide))
  have q1 : fMod a 2147483647 = some (.int (a.fmod 2147483647)) := fMod_eq (by decide)
  have q2 : fMul 7919 (k : Int) = some (.int (7919 * (k : Int))) := fMul_eq (mulOk_smallR bk)
  have q3 : fMul (7919 * (k : Int)) (k : Int) = some (.int (7919 * (k : Int) * (k : Int))) := fMul_eq (mulOk_smallR bk)
  have q4 : fMul 31 (k : Int) = some (.int (31 * (k : Int))) := fMul_eq (mulOk_smallR bk)
  have q5 : ∀ z : Int, fMul z 48271 = some (.int (z * 48271)) := fun z => fMul_eq (mulOk_smallR (bd_lit 48271 (by decide) (by decide) (by decide)))
  have q6 : ∀ z : Int, fMod z 2147483647 = some (.int (z.fmod 2147483647)) := fun z => fMod_eq (by decide)
  have q7 : fMul 2 (k : Int) = some (.int (2 * (k : Int))) := fMul_eq (mulOk_smallR bk)
  have q8 : ∀ z : Int, fMul z (69621 + 2 * (k : Int)) = some (.int (z * (69621 + 2 * (k : Int)))) := fun z => fMul_eq (mulOk_smallR (bd_lit (69621 + 2 * 2 ^ 32) (by omega) (by omega) (by decide)))
  have q9 : ∀ z : Int, fMod z 2147483629 = some (.int (z.fmod 2147483629)) := fun z => fMod_eq (by decide)
  refine ⟨_, ?_, fmod_bd (x := ((a.fmod 2147483647 + 7919 * (k : Int) * (k : Int) + 31 * (k : Int)) * 48271).fmod 2147483647 * (69621 + 2 * (k : Int))) (by decide)⟩
  unfold m__law_mixed b__law_mixed
  simp only [mkF, enter, retF, trunc, sSeq, So.then_nx, So.then_rt, sSet, sRet, sRetN, sIf, sExpr, sNil, sPar, sAsg, ofG, gN, gsCons, gsNil, gTupT_tup, gTupT_Q, Out.then_ok, Out.then_ex, Out.bind_ok, Out.bind_ex, eVar, eD_eq, eOp, eCall, eBlt, aCons, aNil, eTup, eIf, eT, eNot, eAnd, eOr, tvAnd, tvOr, tvNot, eNeg, eIsi, isTy_d, isQ_tup, isQ_bool, isQ_int, isI_bool, isI_int, isI_tup, isB_bool, isB_int, ixQ0, ixQ1, truO_b, fzs_nil, fzs_d, gInt_eq, gAdd_int, gAbs_eq, fAdd_eq, fSub_eq, fLt_eq, fLe_eq, fGt_eq, fGe_eq, ix0, ix1, ix2, ix3, ix4, ix5, ofO_some, Option.map_some, Option.bind_some, List.length_cons, List.length_nil, List.map_cons, List.map_nil, List.replicate_succ, List.replicate_zero, List.cons_append, List.nil_append, List.getElem?_cons_zero, List.getElem?_cons_succ, List.set_cons_zero, List.set_cons_succ, List.take_length, Int.reduceEq, Int.reduceLT, Int.reduceLE, Nat.reduceSub, Nat.reduceAdd, Nat.reduceLeDiff, Nat.reduceLT, Nat.zero_add, Nat.add_zero, Nat.sub_self, if_true, if_false, reduceIte, Bool.false_eq_true, fitB, decide_true, decide_false, Bool.not_true, Bool.not_false, q1, q2, q3, q4, q5, q6, q7, q8, q9]
theorem sp_take {K : Nat} {xs : List Da} (st : Strm K xs) (hK : K < 2 ^ 30) {n : Nat} {h : Hh} (e : h[n]? = some (some (.lst xs))) {many : Int} (hm : 0 < many) (hm2 : many < 2 ^ 62) :
    ∃ (v : Int) (xs' : List Da), m__law_take [.r n, .d (.int many)] h = .ok (.d (.int v)) (h.set n (some (.lst xs'))) ∧ 0 ≤ v ∧ v < many ∧ Strm (K + 1) xs' := by
  obtain ⟨c, x, k, m, rfl, hk⟩ := st
  have hn : n < h.length := (List.getElem?_eq_some_iff.mp e).1
  have e1 := get_set (o := some (.lst [.bool c, .int x, .int ((k : Int) + 1), .int m])) hn
  obtain ⟨v1, m1, _, _⟩ := sp_mixed m (k + 1) (by omega) (h.set n (some (.lst [.bool c, .int x, .int ((k : Int) + 1), .int m])))
  rw [Int.natCast_add, show ((1 : Nat) : Int) = 1 from rfl] at m1
  obtain ⟨v2, m2, _, _⟩ := sp_mixed v1 7 (by decide) (h.set n (some (.lst [.bool c, .int x, .int ((k : Int) + 1), .int m])))
  rw [show ((7 : Nat) : Int) = 7 from rfl] at m2
  have q1 : ∀ z, fMod z many = some (.int (z.fmod many)) := fun z => fMod_eq (by omega)
  have q2 : fDiv x many = some (.int (x.fdiv many)) := fDiv_eq (by omega) (Bd.divOk (n := 64) (bd_lit (2 ^ 62) (by omega) (by omega) (by decide)) (by decide) (by decide))
  have tl : (h.set n (some (.lst [.bool c, .int x, .int ((k : Int) + 1), .int m]))).take h.length = h.set n (some (.lst [.bool c, .int x, .int ((k : Int) + 1), .int m])) := List.take_of_length_le (by rw [List.length_set]; exact Nat.le_refl _)
  have st' : ∀ y : Int, Strm (K + 1) [.bool c, .int y, .int ((k : Int) + 1), .int m] := fun y => ⟨c, y, k + 1, m, by rw [Int.natCast_add]; rfl, by omega⟩
  have tl2 : ∀ o : Option Ob, (h.set n o).take h.length = h.set n o := fun o => List.take_of_length_le (by rw [List.length_set]; exact Nat.le_refl _)
  by_cases hc : c = true ∧ ¬ x = 0 ∧ ¬ x = -1 ∧ ¬ (60 : Int) < (k : Int) + 1
  · obtain ⟨rfl, h1, h2, h3⟩ := hc
    refine ⟨x.fmod many, _, ?_, (fmod_bd hm).1, (fmod_bd hm).2, st' (x.fdiv many)⟩
    unfold m__law_take b__law_take
    simp only [mkF, enter, retF, trunc, sSeq, So.then_nx, So.then_rt, sSet, sRet, sRetN, sIf, sExpr, sNil, sPar, sAsg, ofG, gN, gsCons, gsNil, gTupT_tup, gTupT_Q, Out.then_ok, Out.then_ex, Out.bind_ok, Out.bind_ex, eVar, eD_eq, eOp, eCall, eBlt, aCons, aNil, eTup, eIf, eT, eNot, eAnd, eOr, tvAnd, tvOr, tvNot, eNeg, eIsi, isTy_d, isQ_tup, isQ_bool, isQ_int, isI_bool, isI_int, isI_tup, isB_bool, isB_int, ixQ0, ixQ1, truO_b, fzs_nil, fzs_d, gInt_eq, gAdd_int, gAbs_eq, fAdd_eq, fSub_eq, fLt_eq, fLe_eq, fGt_eq, fGe_eq, ix0, ix1, ix2, ix3, ix4, ix5, ofO_some, Option.map_some, Option.bind_some, List.length_cons, List.length_nil, List.map_cons, List.map_nil, List.replicate_succ, List.replicate_zero, List.cons_append, List.nil_append, List.getElem?_cons_zero, List.getElem?_cons_succ, List.set_cons_zero, List.set_cons_succ, List.take_length, Int.reduceEq, Int.reduceLT, Int.reduceLE, Nat.reduceSub, Nat.reduceAdd, Nat.reduceLeDiff, Nat.reduceLT, Nat.zero_add, Nat.add_zero, Nat.sub_self, if_true, if_false, reduceIte, Bool.false_eq_true, fitB, decide_true, decide_false, Bool.not_true, Bool.not_false, gSetL_eq, okO_ok, ixS2 e, setS2 e, ixS0 e1, ixS1 e1, ixS2 e1, ixS3 e1, setS1 e1, gIn01, h1, h2, h3, Bool.or_self, q1, q2, List.set_set, tl2]
  · refine ⟨v2.fmod many, _, ?_, (fmod_bd hm).1, (fmod_bd hm).2, st' x⟩
    unfold m__law_take b__law_take
    cases c with
    | false => simp only [mkF, enter, retF, trunc, sSeq, So.then_nx, So.then_rt, sSet, sRet, sRetN, sIf, sExpr, sNil, sPar, sAsg, ofG, gN, gsCons, gsNil, gTupT_tup, gTupT_Q, Out.then_ok, Out.then_ex, Out.bind_ok, Out.bind_ex, eVar, eD_eq, eOp, eCall, eBlt, aCons, aNil, eTup, eIf, eT, eNot, eAnd, eOr, tvAnd, tvOr, tvNot, eNeg, eIsi, isTy_d, isQ_tup, isQ_bool, isQ_int, isI_bool, isI_int, isI_tup, isB_bool, isB_int, ixQ0, ixQ1, truO_b, fzs_nil, fzs_d, gInt_eq, gAdd_int, gAbs_eq, fAdd_eq, fSub_eq, fLt_eq, fLe_eq, fGt_eq, fGe_eq, ix0, ix1, ix2, ix3, ix4, ix5, ofO_some, Option.map_some, Option.bind_some, List.length_cons, List.length_nil, List.map_cons, List.map_nil, List.replicate_succ, List.replicate_zero, List.cons_append, List.nil_append, List.getElem?_cons_zero, List.getElem?_cons_succ, List.set_cons_zero, List.set_cons_succ, List.take_length, Int.reduceEq, Int.reduceLT, Int.reduceLE, Nat.reduceSub, Nat.reduceAdd, Nat.reduceLeDiff, Nat.reduceLT, Nat.zero_add, Nat.add_zero, Nat.sub_self, if_true, if_false, reduceIte, Bool.false_eq_true, fitB, decide_true, decide_false, Bool.not_true, Bool.not_false, gSetL_eq, okO_ok, ixS2 e, setS2 e, ixS0 e1, ixS1 e1, ixS2 e1, ixS3 e1, gIn01, m1, m2, q1, tl2]
    | true =>
      by_cases h1 : x = 0 ∨ x = -1
      · have hb : (decide (x = 0) || decide (x = -1)) = true := by
          rcases h1 with z | z <;> simp [z]
        simp only [mkF, enter, retF, trunc, sSeq, So.then_nx, So.then_rt, sSet, sRet, sRetN, sIf, sExpr, sNil, sPar, sAsg, ofG, gN, gsCons, gsNil, gTupT_tup, gTupT_Q, Out.then_ok, Out.then_ex, Out.bind_ok, Out.bind_ex, eVar, eD_eq, eOp, eCall, eBlt, aCons, aNil, eTup, eIf, eT, eNot, eAnd, eOr, tvAnd, tvOr, tvNot, eNeg, eIsi, isTy_d, isQ_tup, isQ_bool, isQ_int, isI_bool, isI_int, isI_tup, isB_bool, isB_int, ixQ0, ixQ1, truO_b, fzs_nil, fzs_d, gInt_eq, gAdd_int, gAbs_eq, fAdd_eq, fSub_eq, fLt_eq, fLe_eq, fGt_eq, fGe_eq, ix0, ix1, ix2, ix3, ix4, ix5, ofO_some, Option.map_some, Option.bind_some, List.length_cons, List.length_nil, List.map_cons, List.map_nil, List.replicate_succ, List.replicate_zero, List.cons_append, List.nil_append, List.getElem?_cons_zero, List.getElem?_cons_succ, List.set_cons_zero, List.set_cons_succ, List.take_length, Int.reduceEq, Int.reduceLT, Int.reduceLE, Nat.reduceSub, Nat.reduceAdd, Nat.reduceLeDiff, Nat.reduceLT, Nat.zero_add, Nat.add_zero, Nat.sub_self, if_true, if_false, reduceIte, Bool.false_eq_true, fitB, decide_true, decide_false, Bool.not_true, Bool.not_false, gSetL_eq, okO_ok, ixS2 e, setS2 e, ixS0 e1, ixS1 e1, ixS2 e1, ixS3 e1, gIn01, hb, m1, m2, q1, tl2]
      · have ha : ¬ x = 0 := fun z => h1 (.inl z)
        have hb : ¬ x = -1 := fun z => h1 (.inr z)
        have h3 : (60 : Int) < (k : Int) + 1 := by
          rcases Int.lt_or_le 60 ((k : Int) + 1) with z | z
          · exact z
          · exact absurd ⟨rfl, ha, hb, by omega⟩ hc
        simp only [mkF, enter, retF, trunc, sSeq, So.then_nx, So.then_rt, sSet, sRet, sRetN, sIf, sExpr, sNil, sPar, sAsg, ofG, gN, gsCons, gsNil, gTupT_tup, gTupT_Q, Out.then_ok, Out.then_ex, Out.bind_ok, Out.bind_ex, eVar, eD_eq, eOp, eCall, eBlt, aCons, aNil, eTup, eIf, eT, eNot, eAnd, eOr, tvAnd, tvOr, tvNot, eNeg, eIsi, isTy_d, isQ_tup, isQ_bool, isQ_int, isI_bool, isI_int, isI_tup, isB_bool, isB_int, ixQ0, ixQ1, truO_b, fzs_nil, fzs_d, gInt_eq, gAdd_int, gAbs_eq, fAdd_eq, fSub_eq, fLt_eq, fLe_eq, fGt_eq, fGe_eq, ix0, ix1, ix2, ix3, ix4, ix5, ofO_some, Option.map_some, Option.bind_some, List.length_cons, List.length_nil, List.map_cons, List.map_nil, List.replicate_succ, List.replicate_zero, List.cons_append, List.nil_append, List.getElem?_cons_zero, List.getElem?_cons_succ, List.set_cons_zero, List.set_cons_succ, List.take_length, Int.reduceEq, Int.reduceLT, Int.reduceLE, Nat.reduceSub, Nat.reduceAdd, Nat.reduceLeDiff, Nat.reduceLT, Nat.zero_add, Nat.add_zero, Nat.sub_self, if_true, if_false, reduceIte, Bool.false_eq_true, fitB, decide_true, decide_false, Bool.not_true, Bool.not_false, gSetL_eq, okO_ok, ixS2 e, setS2 e, ixS0 e1, ixS1 e1, ixS2 e1, ixS3 e1, gIn01, ha, hb, h3, Bool.or_self, m1, m2, q1, tl2]
theorem w_lowest (A B P : Option Vl) (h : Hh) : ∀ (s x y : Nat), x + y ≤ s → ∃ x' y' : Nat, x' + y' = Nat.gcd x y ∧
    sWhile (tvAnd (eT (eOp (gInt fGt) (eVar 2) (eD (.int 0)))) (eT (eOp (gInt fGt) (eVar 3) (eD (.int 0))))) (sIf (eT (eOp (gInt fGe) (eVar 2) (eVar 3))) (sSet 2 (eOp (gInt fMod) (eVar 2) (eVar 3))) (sSet 3 (eOp (gInt fMod) (eVar 3) (eVar 2)))) [A, B, some (.d (.int (x : Int))), some (.d (.int (y : Int))), P] h
      = .nx [A, B, some (.d (.int (x' : Int))), some (.d (.int (y' : Int))), P] h := by
  intro s
  induction s with
  | zero =>
    intro x y hs
    have hx : x = 0 := by omega
    have hy : y = 0 := by omega
    subst hx hy
    refine ⟨0, 0, rfl, ?_⟩
    rw [sWhile_eq]
    have z0 : ¬ (0 : Int) < ((0 : Nat) : Int) := by decide
    simp only [mkF, enter, retF, trunc, sSeq, So.then_nx, So.then_rt, sSet, sRet, sRetN, sIf, sExpr, sNil, sPar, sAsg, ofG, gN, gsCons, gsNil, gTupT_tup, gTupT_Q, Out.then_ok, Out.then_ex, Out.bind_ok, Out.bind_ex, eVar, eD_eq, eOp, eCall, eBlt, aCons, aNil, eTup, eIf, eT, eNot, eAnd, eOr, tvAnd, tvOr, tvNot, eNeg, eIsi, isTy_d, isQ_tup, isQ_bool, isQ_int, isI_bool, isI_int, isI_tup, isB_bool, isB_int, ixQ0, ixQ1, truO_b, fzs_nil, fzs_d, gInt_eq, gAdd_int, gAbs_eq, fAdd_eq, fSub_eq, fLt_eq, fLe_eq, fGt_eq, fGe_eq, ix0, ix1, ix2, ix3, ix4, ix5, ofO_some, Option.map_some, Option.bind_some, List.length_cons, List.length_nil, List.map_cons, List.map_nil, List.replicate_succ, List.replicate_zero, List.cons_append, List.nil_append, List.getElem?_cons_zero, List.getElem?_cons_succ, List.set_cons_zero, List.set_cons_succ, List.take_length, Int.reduceEq, Int.reduceLT, Int.reduceLE, Nat.reduceSub, Nat.reduceAdd, Nat.reduceLeDiff, Nat.reduceLT, Nat.zero_add, Nat.add_zero, Nat.sub_self, if_true, if_false, reduceIte, Bool.false_eq_true, fitB, decide_true, decide_false, Bool.not_true, Bool.not_false, z0]
  | succ s ih =>
    intro x y hs
    rw [sWhile_eq]
    by_cases hx : x = 0
    · subst hx
      refine ⟨0, y, by simp, ?_⟩
      have z0 : ¬ (0 : Int) < ((0 : Nat) : Int) := by decide
      simp only [mkF, enter, retF, trunc, sSeq, So.then_nx, So.then_rt, sSet, sRet, sRetN, sIf, sExpr, sNil, sPar, sAsg, ofG, gN, gsCons, gsNil, gTupT_tup, gTupT_Q, Out.then_ok, Out.then_ex, Out.bind_ok, Out.bind_ex, eVar, eD_eq, eOp, eCall, eBlt, aCons, aNil, eTup, eIf, eT, eNot, eAnd, eOr, tvAnd, tvOr, tvNot, eNeg, eIsi, isTy_d, isQ_tup, isQ_bool, isQ_int, isI_bool, isI_int, isI_tup, isB_bool, isB_int, ixQ0, ixQ1, truO_b, fzs_nil, fzs_d, gInt_eq, gAdd_int, gAbs_eq, fAdd_eq, fSub_eq, fLt_eq, fLe_eq, fGt_eq, fGe_eq, ix0, ix1, ix2, ix3, ix4, ix5, ofO_some, Option.map_some, Option.bind_some, List.length_cons, List.length_nil, List.map_cons, List.map_nil, List.replicate_succ, List.replicate_zero, List.cons_append, List.nil_append, List.getElem?_cons_zero, List.getElem?_cons_succ, List.set_cons_zero, List.set_cons_succ, List.take_length, Int.reduceEq, Int.reduceLT, Int.reduceLE, Nat.reduceSub, Nat.reduceAdd, Nat.reduceLeDiff, Nat.reduceLT, Nat.zero_add, Nat.add_zero, Nat.sub_self, if_true, if_false, reduceIte, Bool.false_eq_true, fitB, decide_true, decide_false, Bool.not_true, Bool.not_false, z0]
    · have gx : (0 : Int) < (x : Int) := by omega
      by_cases hy : y = 0
      · subst hy
        refine ⟨x, 0, by simp, ?_⟩
        have z0 : ¬ (0 : Int) < ((0 : Nat) : Int) := by decide
        simp only [mkF, enter, retF, trunc, sSeq, So.then_nx, So.then_rt, sSet, sRet, sRetN, sIf, sExpr, sNil, sPar, sAsg, ofG, gN, gsCons, gsNil, gTupT_tup, gTupT_Q, Out.then_ok, Out.then_ex, Out.bind_ok, Out.bind_ex, eVar, eD_eq, eOp, eCall, eBlt, aCons, aNil, eTup, eIf, eT, eNot, eAnd, eOr, tvAnd, tvOr, tvNot, eNeg, eIsi, isTy_d, isQ_tup, isQ_bool, isQ_int, isI_bool, isI_int, isI_tup, isB_bool, isB_int, ixQ0, ixQ1, truO_b, fzs_nil, fzs_d, gInt_eq, gAdd_int, gAbs_eq, fAdd_eq, fSub_eq, fLt_eq, fLe_eq, fGt_eq, fGe_eq, ix0, ix1, ix2, ix3, ix4, ix5, ofO_some, Option.map_some, Option.bind_some, List.length_cons, List.length_nil, List.map_cons, List.map_nil, List.replicate_succ, List.replicate_zero, List.cons_append, List.nil_append, List.getElem?_cons_zero, List.getElem?_cons_succ, List.set_cons_zero, List.set_cons_succ, List.take_length, Int.reduceEq, Int.reduceLT, Int.reduceLE, Nat.reduceSub, Nat.reduceAdd, Nat.reduceLeDiff, Nat.reduceLT, Nat.zero_add, Nat.add_zero, Nat.sub_self, if_true, if_false, reduceIte, Bool.false_eq_true, fitB, decide_true, decide_false, Bool.not_true, Bool.not_false, gx, z0]
      · have gy : (0 : Int) < (y : Int) := by omega
        have m1 : fMod (x : Int) (y : Int) = some (.int ((x % y : Nat) : Int)) := by rw [fMod_eq (by omega), fmod_nat]
        have m2 : fMod (y : Int) (x : Int) = some (.int ((y % x : Nat) : Int)) := by rw [fMod_eq (by omega), fmod_nat]
        have l1 := Nat.mod_lt x (show 0 < y by omega)
        have l2 := Nat.mod_lt y (show 0 < x by omega)
        by_cases hg : (y : Int) ≤ (x : Int)
        · obtain ⟨x', y', e1, e2⟩ := ih (x % y) y (by omega)
          refine ⟨x', y', by rw [e1, Nat.gcd_comm x y, Nat.gcd_rec y x], ?_⟩
          simp only [mkF, enter, retF, trunc, sSeq, So.then_nx, So.then_rt, sSet, sRet, sRetN, sIf, sExpr, sNil, sPar, sAsg, ofG, gN, gsCons, gsNil, gTupT_tup, gTupT_Q, Out.then_ok, Out.then_ex, Out.bind_ok, Out.bind_ex, eVar, eD_eq, eOp, eCall, eBlt, aCons, aNil, eTup, eIf, eT, eNot, eAnd, eOr, tvAnd, tvOr, tvNot, eNeg, eIsi, isTy_d, isQ_tup, isQ_bool, isQ_int, isI_bool, isI_int, isI_tup, isB_bool, isB_int, ixQ0, ixQ1, truO_b, fzs_nil, fzs_d, gInt_eq, gAdd_int, gAbs_eq, fAdd_eq, fSub_eq, fLt_eq, fLe_eq, fGt_eq, fGe_eq, ix0, ix1, ix2, ix3, ix4, ix5, ofO_some, Option.map_some, Option.bind_some, List.length_cons, List.length_nil, List.map_cons, List.map_nil, List.replicate_succ, List.replicate_zero, List.cons_append, List.nil_append, List.getElem?_cons_zero, List.getElem?_cons_succ, List.set_cons_zero, List.set_cons_succ, List.take_length, Int.reduceEq, Int.reduceLT, Int.reduceLE, Nat.reduceSub, Nat.reduceAdd, Nat.reduceLeDiff, Nat.reduceLT, Nat.zero_add, Nat.add_zero, Nat.sub_self, if_true, if_false, reduceIte, Bool.false_eq_true, fitB, decide_true, decide_false, Bool.not_true, Bool.not_false, gx, gy, hg, m1]
          exact e2
        · obtain ⟨x', y', e1, e2⟩ := ih x (y % x) (by omega)
          refine ⟨x', y', by rw [e1, Nat.gcd_rec x y, Nat.gcd_comm], ?_⟩
          simp only [mkF, enter, retF, trunc, sSeq, So.then_nx, So.then_rt, sSet, sRet, sRetN, sIf, sExpr, sNil, sPar, sAsg, ofG, gN, gsCons, gsNil, gTupT_tup, gTupT_Q, Out.then_ok, Out.then_ex, Out.bind_ok, Out.bind_ex, eVar, eD_eq, eOp, eCall, eBlt, aCons, aNil, eTup, eIf, eT, eNot, eAnd, eOr, tvAnd, tvOr, tvNot, eNeg, eIsi, isTy_d, isQ_tup, isQ_bool, isQ_int, isI_bool, isI_int, isI_tup, isB_bool, isB_int, ixQ0, ixQ1, truO_b, fzs_nil, fzs_d, gInt_eq, gAdd_int, gAbs_eq, fAdd_eq, fSub_eq, fLt_eq, fLe_eq, fGt_eq, fGe_eq, ix0, ix1, ix2, ix3, ix4, ix5, ofO_some, Option.map_some, Option.bind_some, List.length_cons, List.length_nil, List.map_cons, List.map_nil, List.replicate_succ, List.replicate_zero, List.cons_append, List.nil_append, List.getElem?_cons_zero, List.getElem?_cons_succ, List.set_cons_zero, List.set_cons_succ, List.take_length, Int.reduceEq, Int.reduceLT, Int.reduceLE, Nat.reduceSub, Nat.reduceAdd, Nat.reduceLeDiff, Nat.reduceLT, Nat.zero_add, Nat.add_zero, Nat.sub_self, if_true, if_false, reduceIte, Bool.false_eq_true, fitB, decide_true, decide_false, Bool.not_true, Bool.not_false, gx, gy, hg, m2]
          exact e2
theorem sp_lowest {x y : Int} (hy : y ≠ 0) {n : Nat} (b : Bd n y) (hn : n ≤ 9000) (h : Hh) : m__law_lowest [.d (.int x), .d (.int y)] h = .ok (.d (Q (Rat.divInt x y))) h := by
  have hn0 : 0 < n := Nat.pos_of_ne_zero fun z => by
    subst z
    unfold Bd at b
    omega
  have hg : Int.gcd x y ≠ 0 := fun z => hy (Int.gcd_eq_zero_iff.mp z).2
  have hl : Int.gcd x y ≤ y.natAbs := Nat.gcd_le_right _ (by omega)
  obtain ⟨p1, p2⟩ := divInt_parts (x := x) hy
  obtain ⟨x', y', e1, e2⟩ := w_lowest (some (.d (.int x))) (some (.d (.int y))) none h _ x.natAbs y.natAbs (Nat.le_refl _)
  have e3 : (x' : Int) + (y' : Int) = ((Int.gcd x y : Nat) : Int) := by
    have : x' + y' = Int.gcd x y := e1
    omega
  unfold m__law_lowest b__law_lowest
  by_cases hs : y < 0
  · rw [if_pos hs] at p1 p2
    have h0 : 0 - ((Int.gcd x y : Nat) : Int) ≠ 0 := by omega
    have hb : Bd n (0 - ((Int.gcd x y : Nat) : Int)) := b.le (by omega)
    simp only [mkF, enter, retF, trunc, sSeq, So.then_nx, So.then_rt, sSet, sRet, sRetN, sIf, sExpr, sNil, sPar, sAsg, ofG, gN, gsCons, gsNil, gTupT_tup, gTupT_Q, Out.then_ok, Out.then_ex, Out.bind_ok, Out.bind_ex, eVar, eD_eq, eOp, eCall, eBlt, aCons, aNil, eTup, eIf, eT, eNot, eAnd, eOr, tvAnd, tvOr, tvNot, eNeg, eIsi, isTy_d, isQ_tup, isQ_bool, isQ_int, isI_bool, isI_int, isI_tup, isB_bool, isB_int, ixQ0, ixQ1, truO_b, fzs_nil, fzs_d, gInt_eq, gAdd_int, gAbs_eq, fAdd_eq, fSub_eq, fLt_eq, fLe_eq, fGt_eq, fGe_eq, ix0, ix1, ix2, ix3, ix4, ix5, ofO_some, Option.map_some, Option.bind_some, List.length_cons, List.length_nil, List.map_cons, List.map_nil, List.replicate_succ, List.replicate_zero, List.cons_append, List.nil_append, List.getElem?_cons_zero, List.getElem?_cons_succ, List.set_cons_zero, List.set_cons_succ, List.take_length, Int.reduceEq, Int.reduceLT, Int.reduceLE, Nat.reduceSub, Nat.reduceAdd, Nat.reduceLeDiff, Nat.reduceLT, Nat.zero_add, Nat.add_zero, Nat.sub_self, if_true, if_false, reduceIte, Bool.false_eq_true, fitB, decide_true, decide_false, Bool.not_true, Bool.not_false, abs_eq, e2, e3]
    simp only [mkF, enter, retF, trunc, sSeq, So.then_nx, So.then_rt, sSet, sRet, sRetN, sIf, sExpr, sNil, sPar, sAsg, ofG, gN, gsCons, gsNil, gTupT_tup, gTupT_Q, Out.then_ok, Out.then_ex, Out.bind_ok, Out.bind_ex, eVar, eD_eq, eOp, eCall, eBlt, aCons, aNil, eTup, eIf, eT, eNot, eAnd, eOr, tvAnd, tvOr, tvNot, eNeg, eIsi, isTy_d, isQ_tup, isQ_bool, isQ_int, isI_bool, isI_int, isI_tup, isB_bool, isB_int, ixQ0, ixQ1, truO_b, fzs_nil, fzs_d, gInt_eq, gAdd_int, gAbs_eq, fAdd_eq, fSub_eq, fLt_eq, fLe_eq, fGt_eq, fGe_eq, ix0, ix1, ix2, ix3, ix4, ix5, ofO_some, Option.map_some, Option.bind_some, List.length_cons, List.length_nil, List.map_cons, List.map_nil, List.replicate_succ, List.replicate_zero, List.cons_append, List.nil_append, List.getElem?_cons_zero, List.getElem?_cons_succ, List.set_cons_zero, List.set_cons_succ, List.take_length, Int.reduceEq, Int.reduceLT, Int.reduceLE, Nat.reduceSub, Nat.reduceAdd, Nat.reduceLeDiff, Nat.reduceLT, Nat.zero_add, Nat.add_zero, Nat.sub_self, if_true, if_false, reduceIte, Bool.false_eq_true, fitB, decide_true, decide_false, Bool.not_true, Bool.not_false, hs, fDiv_eq h0 (hb.divOk hn0 hn), p1, p2]
    rfl
  · rw [if_neg hs] at p1 p2
    have h0 : ((Int.gcd x y : Nat) : Int) ≠ 0 := by omega
    have hb : Bd n ((Int.gcd x y : Nat) : Int) := b.le (by omega)
    simp only [mkF, enter, retF, trunc, sSeq, So.then_nx, So.then_rt, sSet, sRet, sRetN, sIf, sExpr, sNil, sPar, sAsg, ofG, gN, gsCons, gsNil, gTupT_tup, gTupT_Q, Out.then_ok, Out.then_ex, Out.bind_ok, Out.bind_ex, eVar, eD_eq, eOp, eCall, eBlt, aCons, aNil, eTup, eIf, eT, eNot, eAnd, eOr, tvAnd, tvOr, tvNot, eNeg, eIsi, isTy_d, isQ_tup, isQ_bool, isQ_int, isI_bool, isI_int, isI_tup, isB_bool, isB_int, ixQ0, ixQ1, truO_b, fzs_nil, fzs_d, gInt_eq, gAdd_int, gAbs_eq, fAdd_eq, fSub_eq, fLt_eq, fLe_eq, fGt_eq, fGe_eq, ix0, ix1, ix2, ix3, ix4, ix5, ofO_some, Option.map_some, Option.bind_some, List.length_cons, List.length_nil, List.map_cons, List.map_nil, List.replicate_succ, List.replicate_zero, List.cons_append, List.nil_append, List.getElem?_cons_zero, List.getElem?_cons_succ, List.set_cons_zero, List.set_cons_succ, List.take_length, Int.reduceEq, Int.reduceLT, Int.reduceLE, Nat.reduceSub, Nat.reduceAdd, Nat.reduceLeDiff, Nat.reduceLT, Nat.zero_add, Nat.add_zero, Nat.sub_self, if_true, if_false, reduceIte, Bool.false_eq_true, fitB, decide_true, decide_false, Bool.not_true, Bool.not_false, abs_eq, e2, e3]
    simp only [mkF, enter, retF, trunc, sSeq, So.then_nx, So.then_rt, sSet, sRet, sRetN, sIf, sExpr, sNil, sPar, sAsg, ofG, gN, gsCons, gsNil, gTupT_tup, gTupT_Q, Out.then_ok, Out.then_ex, Out.bind_ok, Out.bind_ex, eVar, eD_eq, eOp, eCall, eBlt, aCons, aNil, eTup, eIf, eT, eNot, eAnd, eOr, tvAnd, tvOr, tvNot, eNeg, eIsi, isTy_d, isQ_tup, isQ_bool, isQ_int, isI_bool, isI_int, isI_tup, isB_bool, isB_int, ixQ0, ixQ1, truO_b, fzs_nil, fzs_d, gInt_eq, gAdd_int, gAbs_eq, fAdd_eq, fSub_eq, fLt_eq, fLe_eq, fGt_eq, fGe_eq, ix0, ix1, ix2, ix3, ix4, ix5, ofO_some, Option.map_some, Option.bind_some, List.length_cons, List.length_nil, List.map_cons, List.map_nil, List.replicate_succ, List.replicate_zero, List.cons_append, List.nil_append, List.getElem?_cons_zero, List.getElem?_cons_succ, List.set_cons_zero, List.set_cons_succ, List.take_length, Int.reduceEq, Int.reduceLT, Int.reduceLE, Nat.reduceSub, Nat.reduceAdd, Nat.reduceLeDiff, Nat.reduceLT, Nat.zero_add, Nat.add_zero, Nat.sub_self, if_true, if_false, reduceIte, Bool.false_eq_true, fitB, decide_true, decide_false, Bool.not_true, Bool.not_false, hs, fDiv_eq h0 (hb.divOk hn0 hn), p1, p2]
    rfl
section
variable {K n : Nat} {xs : List Da} {h : Hh} {Q : Vl → Hh → Prop} {E : XP}
theorem Strm.mono {K J : Nat} {xs : List Da} (s : Strm K xs) (h : K ≤ J) : Strm J xs := let ⟨c, x, k, m, e, hk⟩ := s; ⟨c, x, k, m, e, by omega⟩
theorem wp_take (st : Strm K xs) (hn : n < h.length) {many : Int} (hK : K < 2 ^ 30) (hm : 0 < many) (hm2 : many < 2 ^ 62)
    (q : ∀ (v : Int) (xs' : List Da), 0 ≤ v → v < many → Bd 62 v → Strm (K + 1) xs' → Q (.d (.int v)) (h.set n (some (.lst xs')))) : Wp (m__law_take [.r n, .d (.int many)] (h.set n (some (.lst xs)))) Q E := by
  obtain ⟨v, S', e, v0, v1, s1⟩ := sp_take st hK (n := n) (h := h.set n (some (.lst xs))) (by rw [get_set hn]) hm hm2
  rw [List.set_set] at e
  exact wp_eq e (q v S' v0 v1 (bd_lit (2 ^ 62 - 1) (by omega) (by omega) (by decide)) s1)
theorem wp_takeX {l : Hh} (st : Strm K xs) (hn : n < h.length) {many : Int} (hK : K < 2 ^ 30) (hm : 0 < many) (hm2 : many < 2 ^ 62)
    (q : ∀ (v : Int) (xs' : List Da), 0 ≤ v → v < many → Bd 62 v → Strm (K + 1) xs' → Q (.d (.int v)) (h.set n (some (.lst xs')) ++ l)) : Wp (m__law_take [.r n, .d (.int many)] (h.set n (some (.lst xs)) ++ l)) Q E := by
  rw [← set_app hn]
  refine wp_take st (by rw [List.length_append]; omega) hK hm hm2 fun v xs' a b c d => ?_
  rw [set_app hn]
  exact q v xs' a b c d
theorem wp_lowest {x y : Int} (hy : y ≠ 0) {n : Nat} (b : Bd n y) (hn : n ≤ 9000) (q : Q (.d (Rk.Q (Rat.divInt x y))) h) : Wp (m__law_lowest [.d (.int x), .d (.int y)] h) Q E := wp_eq (sp_lowest hy b hn h) q
end
local macro_rules | `(tactic| walk_at "wc") => `(tactic| (apply wp_take; assumption; assumption; exact (by walk_at "sm"); exact (by walk_at "sm"); exact (by walk_at "sm"); intro _ _ _ _ _ _))
local macro_rules | `(tactic| walk_at "wc") => `(tactic| (apply wp_takeX; assumption; assumption; exact (by walk_at "sm"); exact (by walk_at "sm"); exact (by walk_at "sm"); intro _ _ _ _ _ _))
local macro_rules | `(tactic| walk_at "wc") => `(tactic| (apply wp_lowest; exact (by walk_at "sm"); exact (by walk_at "bd"); exact (by walk_at "sm")))
def WayD (d : Da) : Prop := ∃ w : String, d = .str w ∧ (w = "near" ∨ w = "down" ∨ w = "up" ∨ w = "nought")
theorem ways_menu : ∀ d ∈ ([.str "near", .str "down", .str "up", .str "nought"] : List Da), WayD d := by
  intro e he
  simp only [List.mem_cons, List.not_mem_nil, or_false] at he
  rcases he with rfl | rfl | rfl | rfl
  · exact ⟨_, rfl, .inl rfl⟩
  · exact ⟨_, rfl, .inr (.inl rfl)⟩
  · exact ⟨_, rfl, .inr (.inr (.inl rfl))⟩
  · exact ⟨_, rfl, .inr (.inr (.inr rfl))⟩
theorem ruler_da {b f l : Int} {w : String} (b1 : 2 ≤ b) (b2 : b ≤ 16) (f1 : 1 ≤ f) (f2 : f ≤ 24) (l1 : -100 ≤ l) (l2 : l ≤ 100) (hw : w = "near" ∨ w = "down" ∨ w = "up" ∨ w = "nought") : (.tuple [.int b, .int f, .int l, .str w] : Da) = Ruler.da ⟨b.toNat, f.toNat, l, w⟩ ∧ Ruler.Ok ⟨b.toNat, f.toNat, l, w⟩ := by
  refine ⟨?_, ⟨by show 2 ≤ b.toNat; omega, by show b.toNat ≤ 16; omega, by show 1 ≤ f.toNat; omega, by show f.toNat ≤ 24; omega, l1, l2, hw⟩⟩
  unfold Ruler.da
  rw [Int.toNat_of_nonneg (by omega), Int.toNat_of_nonneg (by omega)]
theorem wp_stream {h : Hh} {Q : Vl → Hh → Prop} {E : XP} (c : Int) (k : Nat) (hk : k < 2 ^ 32) (q : ∀ xs, Strm 0 xs → Q (.r h.length) ((h ++ [none]).set h.length (some (.lst xs)))) : Wp (m__law_stream [.d (.int c), .d (.int (k : Int))] h) Q E := by
  obtain ⟨v, e, _, _⟩ := sp_mixed c k hk (h := h)
  refine en__law_stream ?_
  unfold b__law_stream
  walk_at "w"
  refine wp_eq e ?_
  walk_at "w"
  refine retK_r (r := []) rfl rfl ?_
  have ee : ∀ o : Option Ob, (h ++ [none] : Hh).set h.length o = h ++ [o] := fun o => by simp
  have z := q [.bool (decide (10 ^ 18 ≤ c)), .int c, .int 0, .int v] ⟨_, c, 0, v, rfl, Nat.le_refl _⟩
  rw [ee] at z
  exact z

/-! rulers, by wishes: the program's and the law's own -/
local macro_rules | `(tactic| walk_at "woc") => `(tactic| first | refine wo_ixR0 ?_ | refine wo_ixR1 ?_ | refine wo_ixR2 ?_ | refine wo_ixR3 ?_)
section
variable {h : Hh} {Q : Vl → Hh → Prop} {E : XP} {R : Ruler} {x s : Rat} {e : Int}
theorem wp_power (O : R.Ok) (he : e.natAbs ≤ 2000) (q : Q (.d (Rk.Q (R.pw e))) h) : Wp (m_power [.d (.int (R.b : Int)), .d (.int e)] h) Q E := wp_eq (sp_pw O (by omega) h) q
theorem wp_place_of (O : R.Ok) (hx : BQ 4000 x) (q : Q (.d (.int (R.plc x))) h) : Wp (m_place_of [.d R.da, .d (Rk.Q x)] h) Q E := wp_eq (sp_place_of O hx (by decide) h) q
theorem wp_step_of (O : R.Ok) (hx : BQ 4000 x) (q : Q (.d (Rk.Q (R.stp x))) h) : Wp (m_step_of [.d R.da, .d (Rk.Q x)] h) Q E := wp_eq (sp_step_of O hx (by decide) h) q
theorem wp_rounded (O : R.Ok) (hx : BQ 4000 x) (q : Q (.d (Rk.Q (R.rnd x))) h) : Wp (m_rounded [.d R.da, .d (Rk.Q x)] h) Q E := wp_eq (sp_rounded O hx (by decide) h) q
theorem wp_is_mark (O : R.Ok) (hx : BQ 4000 x) (q : Q (.d (.bool (decide (R.rnd x = x)))) h) : Wp (m_is_mark [.d R.da, .d (Rk.Q x)] h) Q E := wp_eq (sp_is_mark O hx (by decide) h) q
end
local macro_rules | `(tactic| walk_at "wc") => `(tactic| (apply wp_power; assumption; exact (by walk_at "sm")))
local macro_rules | `(tactic| walk_at "wc") => `(tactic| (apply wp_place_of; assumption; exact (by walk_at "bqm")))
local macro_rules | `(tactic| walk_at "wc") => `(tactic| (apply wp_step_of; assumption; exact (by walk_at "bqm")))
local macro_rules | `(tactic| walk_at "wc") => `(tactic| (apply wp_rounded; assumption; exact (by walk_at "bqm")))
local macro_rules | `(tactic| walk_at "wc") => `(tactic| (apply wp_is_mark; assumption; exact (by walk_at "bqm")))
local macro_rules | `(tactic| walk_at "dc") => `(tactic| exact str_ne (by decide +kernel))
theorem Bd.flag {b : Bool} : Bd 1 (if b = true then 1 else 0) := by cases b <;> (unfold Bd; decide)
local macro_rules | `(tactic| walk_at "bd") => `(tactic| with_reducible exact Bd.flag)

/-! ranks of marks, by wishes -/
local macro_rules | `(tactic| walk_at "woc") => `(tactic| first | refine wo_ixR0 ?_ | refine wo_ixR1 ?_ | refine wo_ixR2 ?_ | refine wo_ixR3 ?_)
section
variable {h : Hh} {Q : Vl → Hh → Prop} {E : XP} {R : Ruler} {x : Rat} {i j k : Int}
theorem wp_is_whole (q : Q (.d (.bool true)) h) : Wp (m_is_whole [.d (.int i)] h) Q E := wp_eq (sp_is_whole_int i h) q
theorem wp_is_fraction (q : Q (.d (.bool true)) h) : Wp (m_is_fraction [.d (Rk.Q x)] h) Q E := wp_eq (sp_is_fraction x h) q
end
local macro_rules | `(tactic| walk_at "wc") => `(tactic| refine wp_is_whole ?_)
local macro_rules | `(tactic| walk_at "wc") => `(tactic| refine wp_is_fraction ?_)
section
variable {h : Hh} {Q : Vl → Hh → Prop} {E : XP} {R : Ruler} {x : Rat} {i j k : Int}
theorem wp_is_among (h1 : i ≤ k) (h2 : k ≤ j) (q : Q (.d (.bool true)) h) : Wp (m_is_among [.d (.int k), .d (.int i), .d (.int j)] h) Q E := by
  refine en_is_among ?_
  unfold b_is_among
  walk_at "w"
  rw [decide_eq_true h2]
  exact q
end
local macro_rules | `(tactic| walk_at "wc") => `(tactic| (apply wp_is_among; exact (by walk_at "sm"); exact (by walk_at "sm")))
section
variable {h : Hh} {Q : Vl → Hh → Prop} {E : XP} {R : Ruler} {x : Rat} {i j k : Int}
theorem wp_is_ruler (O : R.Ok) (q : Q (.d (.bool true)) h) : Wp (m_is_ruler [.d R.da] h) Q E := by
  obtain ⟨b, f, l, w⟩ := R
  obtain ⟨b2, b16, f1, f24, l1, l2, w4⟩ := O
  dsimp only at *
  refine en_is_ruler ?_
  unfold b_is_ruler Ruler.da
  dsimp only
  walk_at "w"
  have e : gIn false (.d (.str (Str.ofString w))) (.d (.tuple [.str (Str.ofString "near"), .str (Str.ofString "down"), .str (Str.ofString "up"), .str (Str.ofString "nought")])) h = some (.d (.bool true), h) := by
    rcases w4 with rfl | rfl | rfl | rfl <;> rfl
  refine wo_eq e ?_
  walk_at "w"
  exact q
end
local macro_rules | `(tactic| walk_at "wc") => `(tactic| (apply wp_is_ruler; assumption))
section
variable {h : Hh} {Q : Vl → Hh → Prop} {E : XP} {R : Ruler} {x : Rat} {i j k : Int}
theorem wp_need_ruler (O : R.Ok) (q : Q (.d .none) h) : Wp (m_need_ruler [.d R.da] h) Q E := by
  refine en_need_ruler ?_
  unfold b_need_ruler
  walk_at "w"
  exact q
theorem wp_is_great {n : Nat} (hx : BQ n x) (hn : n ≤ 1993) (q : Q (.d (.bool false)) h) : Wp (m_is_great [.d (Rk.Q x)] h) Q E := by
  have g : (2 : Nat) ^ 1993 ≤ 10 ^ 600 := by decide +kernel
  have m : (2 : Nat) ^ n ≤ 2 ^ 1993 := Nat.pow_le_pow_right (by decide) hn
  have p : ((10 ^ 600 : Nat) : Int) = (10 : Int) ^ 600 := by rw [Int.natCast_pow]; rfl
  have h1 := hx.1
  have h2 := hx.2
  unfold Bd at h1 h2
  have c1 : ¬ (10 : Int) ^ 600 < (x.num.natAbs : Int) := by
    rw [← p]
    have := Nat.lt_of_lt_of_le h1 (Nat.le_trans m g)
    generalize (10 ^ 600 : Nat) = z at *
    omega
  have c2 : ¬ (10 : Int) ^ 600 < (x.den : Int) := by
    rw [← p]
    have := Nat.lt_of_lt_of_le h2 (Nat.le_trans m g)
    generalize (10 ^ 600 : Nat) = z at *
    omega
  refine en_is_great ?_
  unfold b_is_great
  walk_at "w"
  rw [decide_eq_false c2]
  exact q
end
local macro_rules | `(tactic| walk_at "wc") => `(tactic| (apply wp_need_ruler; assumption))
local macro_rules | `(tactic| walk_at "wc") => `(tactic| (apply wp_is_great; exact (by walk_at "bq"); exact (by walk_at "sm")))
section
variable {h : Hh} {Q : Vl → Hh → Prop} {E : XP} {R : Ruler} {x : Rat} {i j k : Int}
theorem wp_need_small {n : Nat} (hx : BQ n x) (hn : n ≤ 1993) (q : Q (.d (Rk.Q x)) h) : Wp (m_need_small [.d (Rk.Q x)] h) Q E := by
  refine en_need_small ?_
  unfold b_need_small
  walk_at "w"
  exact q
theorem wp_need_mark (O : R.Ok) (hx : BQ 4000 x) (e : R.rnd x = x) (q : Q (.d .none) h) : Wp (m_need_mark [.d R.da, .d (Rk.Q x)] h) Q E := by
  refine en_need_mark ?_
  unfold b_need_mark
  walk_at "w"
  exact q
theorem wp_need_rank (O : R.Ok) (q : Q (.d .none) h) : Wp (m_need_rank [.d R.da, .d (.int k)] h) Q E := by
  refine en_need_rank ?_
  unfold b_need_rank
  walk_at "w"
  exact q
theorem wp_full_of (O : R.Ok) (q : Q (.d (.tuple [.int (R.N : Int), .int (R.fr : Int)])) h) : Wp (m_full_of [.d R.da] h) Q E := by
  have f1 := O.f1
  have f2 := O.f24
  have b2 := O.b2
  have bb : Bd 64 (R.b : Int) := bd_nat (Nat.lt_of_le_of_lt O.b16 (by decide))
  refine en_full_of ?_
  unfold b_full_of
  walk_at "w"
  have e : (R.pw R.f).num = (R.N : Int) := by rw [pwN O, Rat.num_intCast]
  have m := M_lt O
  rw [e, ← Int.natCast_ediv, N_div O, ← Int.natCast_sub (by omega)]
  exact q
end
local macro_rules | `(tactic| walk_at "wc") => `(tactic| (apply wp_need_small; exact (by walk_at "bq"); exact (by walk_at "sm")))
local macro_rules | `(tactic| walk_at "wc") => `(tactic| (apply wp_need_mark; assumption; exact (by walk_at "bqm"); assumption))
local macro_rules | `(tactic| walk_at "wc") => `(tactic| (apply wp_need_rank; assumption))
local macro_rules | `(tactic| walk_at "wc") => `(tactic| (apply wp_full_of; assumption))
theorem N_bd {R : Ruler} (O : R.Ok) : Bd 97 (R.N : Int) := by
  obtain ⟨N, e1, e2, e3, e4⟩ := pw_fullR O
  rw [pwN O] at e2
  have := Rat.intCast_inj.mp e2
  rw [this]
  exact bd_nat e4
section
variable {h : Hh} {Q : Vl → Hh → Prop} {E : XP} {R : Ruler} {x : Rat} {i j k : Int}
theorem wp_far_of (O : R.Ok) (q : Q (.d (.int (R.far k.natAbs : Int))) h) : Wp (m_far_of [.d R.da, .d (.int k)] h) Q E := by
  have bN := N_bd O
  have m := M_lt O
  have f := fr_pos O
  have ef : R.fr = R.N - R.M := rfl
  have bf : Bd 97 (R.fr : Int) := Bd.le bN (by omega)
  refine en_far_of ?_
  unfold b_far_of
  walk_at "w"
  have e : max 0 (((k.natAbs : Int) - (R.N : Int)) / (R.fr : Int) + 1) = (R.far k.natAbs : Int) := by
    unfold Ruler.far
    by_cases z : k.natAbs < R.N
    · rw [if_pos z]
      have : ((k.natAbs : Int) - (R.N : Int)) / (R.fr : Int) < 0 := Int.ediv_neg_of_neg_of_pos (by omega) (by omega)
      omega
    · rw [if_neg z, ← Int.natCast_sub (by omega), ← Int.natCast_ediv]
      generalize (k.natAbs - R.N) / R.fr = z1
      omega
  rw [e]
  exact q
end
local macro_rules | `(tactic| walk_at "wc") => `(tactic| (apply wp_far_of; assumption))
section
variable {h : Hh} {Q : Vl → Hh → Prop} {E : XP} {R : Ruler} {x : Rat} {i j k : Int}
theorem wp_of_rank (O : R.Ok) (hf : R.far k.natAbs ≤ 1800) (q : Q (.d (Rk.Q (R.mkOf k))) h) : Wp (m_of_rank [.d R.da, .d (.int k)] h) Q E := by
  have l1 := O.l1
  have l2 := O.l2
  have s := st_sum O k.natAbs
  obtain ⟨t1, t2, t3⟩ := far_le O k.natAbs
  have bf : Bd 64 (R.far k.natAbs : Int) := bd_nat (Nat.lt_of_le_of_lt hf (by decide))
  have bs : Bd 97 (R.st k.natAbs : Int) := Bd.le (N_bd O) (by omega)
  have e1 : (k.natAbs : Int) - (R.far k.natAbs : Int) * (R.fr : Int) = (R.st k.natAbs : Int) := by
    rw [← Int.natCast_mul]
    omega
  have bp : BQ 7601 (R.pw (R.l + (R.far k.natAbs : Int))) := BQ_pw O (E := 1900) (by omega)
  refine en_of_rank ?_
  unfold b_of_rank
  walk_at "w"
  rw [e1]
  walk_at "w"
  · rename_i z
    have : R.mkOf k = R.mkN k.natAbs := by unfold Ruler.mkOf; rw [if_pos z]
    rw [this] at q
    exact q
  · rename_i z
    have : R.mkOf k = -R.mkN k.natAbs := by unfold Ruler.mkOf; rw [if_neg z]
    rw [this] at q
    exact q
theorem wp_rank_of (O : R.Ok) (b : BQ 1800 (R.mkOf k)) (q : Q (.d (.int k)) h) : Wp (m_rank_of [.d R.da, .d (Rk.Q (R.mkOf k))] h) Q E := by
  have e := mkOf_mark O k b
  have ep := plc_mkN O (n := 0) k.natAbs (mkOf_abs O k)
  have ib := plc_bd O b
  have l1 := O.l1
  have l2 := O.l2
  have s := st_sum O k.natAbs
  have f := fr_pos O
  have bs : BQ 1801 (R.pw (R.plc (R.mkOf k))) := BQ_stp O b (by decide) (by decide)
  have bp : Bd 64 (R.plc (R.mkOf k) - R.l) := bd_lit 2000 (by omega) (by omega) (by decide)
  have p0 := pw_ne O (R.plc (R.mkOf k))
  have e2 : ((R.mkOf k).abs / R.pw (R.plc (R.mkOf k))).num = (R.st k.natAbs : Int) := by
    rw [mkOf_abs O, ep]
    unfold Ruler.mkN
    rw [mul_div_c (pw_ne O _), Rat.num_intCast]
  have e3 : (R.plc (R.mkOf k) - R.l) * (R.fr : Int) + (R.st k.natAbs : Int) = (k.natAbs : Int) := by
    rw [ep, show R.l + (R.far k.natAbs : Int) - R.l = (R.far k.natAbs : Int) by omega, ← Int.natCast_mul]
    omega
  refine en_rank_of ?_
  unfold b_rank_of
  walk_at "w"
  · rename_i z
    rw [e2, e3]
    have z1 : 0 ≤ R.mkOf k := Rat.num_nonneg.mp z
    have : 0 ≤ k := by
      by_cases w : 0 ≤ k
      · exact w
      · have w1 := mkOf_mono O (i := k) (j := 0) (by omega)
        have w2 : R.mkOf 0 = 0 := by
          unfold Ruler.mkOf
          rw [if_pos (by decide)]
          exact mkN_zero O
        rw [w2] at w1
        exact absurd z1 (by grind)
    rw [show (k.natAbs : Int) = k by omega]
    exact q
  · rename_i z
    rw [e2, e3]
    have z1 : ¬ 0 ≤ R.mkOf k := fun w => z (Rat.num_nonneg.mpr w)
    have : ¬ 0 ≤ k := fun w => z1 (by
      unfold Ruler.mkOf
      rw [if_pos w]
      exact mkN_nonneg O _)
    rw [show 0 - (k.natAbs : Int) = k by omega]
    exact q
end
local macro_rules | `(tactic| walk_at "wc") => `(tactic| (apply wp_of_rank; assumption; exact (by walk_at "sm")))
local macro_rules | `(tactic| walk_at "wc") => `(tactic| (apply wp_rank_of; assumption; exact (by walk_at "bqm")))
section
variable {h : Hh} {Q : Vl → Hh → Prop} {E : XP} {R : Ruler} {x : Rat} {i j k : Int}
theorem wp_mark_at (O : R.Ok) (hf : R.far k.natAbs ≤ 1800) (b : BQ 1993 (R.mkOf k)) (q : Q (.d (Rk.Q (R.mkOf k))) h) : Wp (m_mark_at [.d R.da, .d (.int k)] h) Q E := by
  refine en_mark_at ?_
  unfold b_mark_at
  walk_at "w"
  exact q
theorem far_bd {n : Nat} (O : R.Ok) (b : BQ n (R.mkOf k)) : R.far k.natAbs ≤ n + 200 := by
  have ep := plc_mkN O (n := 0) k.natAbs (mkOf_abs O k)
  have ib := plc_bd O b
  have l1 := O.l1
  have l2 := O.l2
  omega
theorem wp_mark_atB (O : R.Ok) (b : BQ 1600 (R.mkOf k)) (q : Q (.d (Rk.Q (R.mkOf k))) h) : Wp (m_mark_at [.d R.da, .d (.int k)] h) Q E := wp_mark_at O (far_bd O b) (b.mono (by decide)) q
end
local macro_rules | `(tactic| walk_at "wc") => `(tactic| (apply wp_mark_atB; assumption; exact (by walk_at "bqm")))
section
variable {h : Hh} {Q : Vl → Hh → Prop} {E : XP} {R : Ruler} {x : Rat} {i j k : Int}
theorem wp_beside (O : R.Ok) (b : BQ 1600 (R.mkOf k)) (b2 : BQ 1600 (R.mkOf (k + j))) (q : Q (.d (Rk.Q (R.mkOf (k + j)))) h) : Wp (m_beside [.d R.da, .d (Rk.Q (R.mkOf k)), .d (.int j)] h) Q E := by
  refine en_beside ?_
  unfold b_beside
  walk_at "w"
  exact q
end

/-! law_k07: how many between, the middle one, all between -/
section
variable {h : Hh} {Q : Vl → Hh → Prop} {E : XP} {R : Ruler} {i j k : Int}
theorem wp_many (O : R.Ok) (b1 : BQ 1800 (R.mkOf i)) (b2 : BQ 1800 (R.mkOf j)) (q : Q (.d (.int (max 0 (j - i + 1)))) h) : Wp (m_many_between [.d R.da, .d (Rk.Q (R.mkOf i)), .d (Rk.Q (R.mkOf j))] h) Q E := by
  refine en_many_between ?_
  unfold b_many_between
  walk_at "w"
  exact q
theorem wp_middle (O : R.Ok) (b1 : BQ 1800 (R.mkOf i)) (b2 : BQ 1800 (R.mkOf j)) (hf : R.far ((i + j) / 2).natAbs ≤ 1800) (q : Q (.d (Rk.Q (R.mkOf ((i + j) / 2)))) h) : Wp (m_middle_mark [.d R.da, .d (Rk.Q (R.mkOf i)), .d (Rk.Q (R.mkOf j))] h) Q E := by
  refine en_middle_mark ?_
  unfold b_middle_mark
  walk_at "w"
  exact q
end
local macro_rules | `(tactic| walk_at "wc") => `(tactic| (apply wp_many; assumption; exact (by walk_at "bqm"); exact (by walk_at "bqm")))
section
variable {h : Hh} {Q : Vl → Hh → Prop} {E : XP} {R : Ruler} {i j k : Int}
theorem wp_between (O : R.Ok) (b1 : BQ 1800 (R.mkOf i)) (b2 : BQ 1800 (R.mkOf j)) (hm : j - i + 1 ≤ 5000) (B : ∀ k, i ≤ k → k ≤ j → BQ 1600 (R.mkOf k))
    (q : Q (.r h.length) (h ++ [some (.lst ((List.range (max 0 (j - i + 1)).toNat).map fun t : Nat => Rk.Q (R.mkOf (i + t))))])) : Wp (m_marks_between [.d R.da, .d (Rk.Q (R.mkOf i)), .d (Rk.Q (R.mkOf j))] h) Q E := by
  refine en_marks_between ?_
  unfold b_marks_between
  walk_at "w"
  refine wp_lcXr (List.range (max 0 (j - i + 1)).toNat) (fun t : Nat => .int (t : Int)) (fun t => Rk.Q (R.mkOf (i + t))) (fun _ => true) "TooGreat" [] (by walk_at "wipe") ?_
  walk_at "w"
  refine ⟨by simp [rngD], by rw [List.length_range]; omega, fun t ht h' => ?_, fun _ => ?_, fun hf => absurd hf (by simp)⟩
  · rw [List.mem_range] at ht
    have bt := B (i + t) (by omega) (by omega)
    walk_at "w"
    refine ⟨rfl, ?_⟩
    walk_at "w"
    exact ⟨rfl, rfl, rfl⟩
  · exact retK_r (r := []) rfl rfl q
theorem wp_between_n (O : R.Ok) (b1 : BQ 1800 (R.mkOf i)) (b2 : BQ 1800 (R.mkOf j)) (hm : 5000 < j - i + 1) (q : E "TooGreat" [] h) : Wp (m_marks_between [.d R.da, .d (Rk.Q (R.mkOf i)), .d (Rk.Q (R.mkOf j))] h) Q E := by
  refine en_marks_between ?_
  unfold b_marks_between
  walk_at "w"
  rw [List.take_length]
  exact q
/-- some mark between is too great -/
theorem wp_between_g (O : R.Ok) (b1 : BQ 1800 (R.mkOf i)) (b2 : BQ 1800 (R.mkOf j)) (hm : j - i + 1 ≤ 5000) (G : Int → Bool) (B : ∀ (k : Int) {h : Hh} {Q : Vl → Hh → Prop} {E : XP}, i ≤ k → k ≤ j → (G k = true → Q (.d (Rk.Q (R.mkOf k))) h) → (G k = false → E "TooGreat" [] h) → Wp (m_mark_at [.d R.da, .d (.int k)] h) Q E)
    (hG : ∃ k, i ≤ k ∧ k ≤ j ∧ G k = false) (q : E "TooGreat" [] h) : Wp (m_marks_between [.d R.da, .d (Rk.Q (R.mkOf i)), .d (Rk.Q (R.mkOf j))] h) Q E := by
  refine en_marks_between ?_
  unfold b_marks_between
  walk_at "w"
  refine wp_lcXr (List.range (max 0 (j - i + 1)).toNat) (fun t : Nat => .int (t : Int)) (fun t => Rk.Q (R.mkOf (i + t))) (fun t => G (i + t)) "TooGreat" [] (by walk_at "wipe") ?_
  walk_at "w"
  refine ⟨by simp [rngD], by rw [List.length_range]; omega, fun t ht h' => ?_, fun ha => ?_, fun hf o => ?_⟩
  · rw [List.mem_range] at ht
    walk_at "w"
    refine ⟨rfl, ?_⟩
    walk_at "w"
    exact B _ (by omega) (by omega) (fun hg => ⟨rfl, hg, rfl⟩) (fun hg => ⟨rfl, hg, rfl, rfl⟩)
  · obtain ⟨k, k1, k2, k3⟩ := hG
    rw [List.all_eq_true] at ha
    have := ha (k - i).toNat (List.mem_range.mpr (by omega))
    rw [show i + ((k - i).toNat : Int) = k by omega, k3] at this
    cases this
  · rw [List.take_left]
    exact q
end

/-! law_k07: the law's own marks, rising -/
section
variable {h : Hh} {Q : Vl → Hh → Prop} {E : XP} {R : Ruler} {e : Int}
theorem qd7 {x y : Da} (q : Q (.d x) h) (e : y = x) : Q (.d y) h := by rw [e]; exact q
theorem wp_lpower7 (O : R.Ok) (he : e.natAbs ≤ 2000) (q : Q (.d (Rk.Q (R.pw e))) h) : Wp (m__law_power [.d (.int (R.b : Int)), .d (.int e)] h) Q E := by
  have bb : Bd 64 (R.b : Int) := bd_nat (Nat.lt_of_le_of_lt O.b16 (by decide))
  refine en__law_power ?_
  unfold b__law_power bl__law_power_1
  walk_at "w"
  rw [Int.toNat_natCast]
  refine forK_inv (fun k ρ h' => h' = h ∧ ∃ o3, ρ = [some (.d (.int (R.b : Int))), some (.d (.int e)), some (.d (.int ((R.b ^ k : Nat) : Int))), o3]) ⟨rfl, none, by simp⟩ ?_ ?_
  · rintro k d ρ1 h1 ek ⟨rfl, o3, rfl⟩
    walk_at "w"
    exact ⟨rfl, _, by rw [Nat.pow_succ, Int.natCast_mul]⟩
  · rintro ρ1 h1 ⟨rfl, o3, rfl⟩
    have el : (rngD 0 e.natAbs).length = e.natAbs := by simp [rngD]
    rw [el]
    walk_at "w"
    · have ee : e = (e.natAbs : Int) := by omega
      have qp := Q_pow R.b e.natAbs
      rw [← ee] at qp
      refine qd7 q ?_
      unfold Ruler.pw
      rw [qp]
    · have ee : e = -(e.natAbs : Int) := by omega
      have qp := Q_powneg R.b e.natAbs (by have := O.b2; omega)
      rw [← ee] at qp
      refine qd7 q ?_
      unfold Ruler.pw
      rw [qp]
end
local macro_rules | `(tactic| walk_at "wc") => `(tactic| (apply wp_lpower7; assumption; exact (by walk_at "sm")))
/-- how many marks there are above nought in the first places -/
def cntR (R : Ruler) : Nat → Nat
  | 0 => 0
  | 1 => R.N - 1
  | k + 2 => cntR R (k + 1) + R.fr
theorem cntR_one {R : Ruler} (k : Nat) : cntR R (k + 1) = R.N - 1 + k * R.fr := by
  induction k with
  | zero => simp [cntR]
  | succ k ih => rw [cntR, ih, Nat.succ_mul]; omega
def rowR (R : Ruler) (n : Nat) : List Da := (List.range n).map fun i : Nat => Rk.Q (R.mkOf ((i : Int) + 1))
theorem mkOf_nat {R : Ruler} (k : Nat) : R.mkOf (k : Int) = R.mkN k := by
  unfold Ruler.mkOf
  rw [if_pos (by omega), Int.natAbs_natCast]
theorem lowest_mul {R : Ruler} (O : R.Ok) (t : Int) (p : Int) : Rat.divInt (t * (R.pw p).num) ((R.pw p).den : Int) = (t : Rat) * R.pw p := by
  have := mul_divInt (t : Rat) (R.pw p)
  rw [Rat.num_intCast, Rat.den_intCast, show ((1 : Nat) : Int) = 1 from rfl, Int.one_mul] at this
  exact this
theorem wp_lrising {h : Hh} {Q : Vl → Hh → Prop} {E : XP} {R : Ruler} (O : R.Ok) (hl : R.l.natAbs ≤ 20) (hN : R.N ≤ 1000) (q : Q (.d (.list (rowR R (cntR R 3)))) h) : Wp (m__law_rising [.d R.da] h) Q E := by
  have f1 := O.f1
  have f2 := O.f24
  have b2 := O.b2
  have m := M_lt O
  have eN : (R.pw R.f).num = (R.N : Int) := by rw [pwN O, Rat.num_intCast]
  have eM : (R.N : Int) / (R.b : Int) = (R.M : Int) := by rw [← Int.natCast_ediv, N_div O]
  have bb : Bd 64 (R.b : Int) := bd_nat (Nat.lt_of_le_of_lt O.b16 (by decide))
  refine en__law_rising ?_
  unfold b__law_rising
  have eda : (.d R.da : Vl) = .d (.tuple [.int R.b, .int R.f, .int R.l, .str R.w]) := rfl
  rw [eda]
  walk_at "w"
  rw [eN]
  walk_at "w"
  refine forK_inv (fun k ρ h' => h' = h ∧ ∃ o7 o8 o9, ρ = [some (.d (.tuple [.int R.b, .int R.f, .int R.l, .str R.w])), some (.d (.int R.b)), some (.d (.int R.f)), some (.d (.int R.l)), some (.d (.str R.w)), some (.d (.int R.N)), some (.d (.list (rowR R (cntR R k)))), o7, o8, o9, none]) ⟨rfl, none, none, none, rfl⟩ ?_ ?_
  · rintro k d ρ1 h1 ek ⟨rfl, o7, o8, o9, rfl⟩
    obtain ⟨rfl, hk⟩ := rng_get ek
    have hk3 : k < 3 := by omega
    have bp : BQ 401 (R.pw (R.l + (k : Int))) := BQ_pw O (E := 100) (by omega)
    unfold bl__law_rising_1
    have step : ∀ (s : Nat), (s : Int) = (if k = 0 then 1 else (R.M : Int)) → cntR R (k + 1) = cntR R k + (R.N - s) ∧ ∀ t : Nat, t < R.N - s → (((s + t : Nat) : Int) : Rat) * R.pw (R.l + (k : Int)) = R.mkOf (((cntR R k + t : Nat) : Int) + 1) := fun s hs => by
      have ef : R.fr = R.N - R.M := rfl
      have up : ∀ n : Nat, R.mkOf ((n : Int) + 1) = R.mkN (n + 1) := fun n => by rw [← mkOf_nat, Int.natCast_add]; rfl
      cases k with
      | zero =>
        have hs : s = 1 := by rw [if_pos rfl] at hs; omega
        subst hs
        refine ⟨by simp [cntR], fun t ht => ?_⟩
        rw [up, show cntR R 0 + t + 1 = 0 * R.fr + (1 + t) by simp [cntR]; omega, mkN_parts O (by omega) (.inl rfl)]
      | succ k =>
        have hs : s = R.M := by rw [if_neg (by omega)] at hs; omega
        subst hs
        refine ⟨by rw [← ef]; rfl, fun t ht => ?_⟩
        rw [up, cntR_one, show R.N - 1 + k * R.fr + t + 1 = (k + 1) * R.fr + (R.M + t) by rw [Nat.succ_mul]; omega, mkN_parts O (by omega) (.inr (by omega))]
    have cN : cntR R k ≤ 3000 := by
      have ef : R.fr = R.N - R.M := rfl
      cases k with
      | zero => exact Nat.zero_le _
      | succ k =>
        rw [cntR_one]
        have : k * R.fr ≤ 1 * R.fr := Nat.mul_le_mul_right _ (by omega)
        omega
    have fin : ∀ (s : Nat), (s : Int) = (if k = 0 then 1 else (R.M : Int)) → ∀ (QF : Vl → Hh → Prop) (EF : XP) (x : Int), x = (s : Int) → QF (.d (.list (rowR R (cntR R (k + 1))))) h1 →
        Wp (eFz (eLc [10] (iRange2 (aCons (eVar 9) (aCons (eVar 5) (aNil)))) (gN 10) (tvYes) (eCall m__law_lowest (aCons (eOp (gInt fMul) (eVar 10) (eOp gIx (eVar 8) (eD (.int 0)))) (aCons (eOp gIx (eVar 8) (eD (.int 1))) (aNil))))) [some (.d (.tuple [.int R.b, .int R.f, .int R.l, .str R.w])), some (.d (.int R.b)), some (.d (.int R.f)), some (.d (.int R.l)), some (.d (.str R.w)), some (.d (.int R.N)), some (.d (.list (rowR R (cntR R k)))), some (.d (.int (R.l + (k : Int)))), some (.d (Rk.Q (R.pw (R.l + (k : Int))))), some (.d (.int x)), none] h1) (fun y h2 => Wo (gAdd (.d (.list (rowR R (cntR R k)))) y h2) fun v h1_1 => FzK v h1_1 (List.length h1) QF) EF := fun s hs QF EF x hx qf => by
      obtain ⟨st1, st2⟩ := step s hs
      subst hx
      refine wp_lcR (List.range (R.N - s)) (fun t : Nat => .int ((s : Int) + t)) (fun t : Nat => Rk.Q (R.mkOf (((cntR R k + t : Nat) : Int) + 1))) (by walk_at "wipe") ?_
      walk_at "w"
      refine ⟨?_, by rw [List.length_range]; omega, rfl, fun t ht h' => ?_, ?_⟩
      · rw [rngD_range, show ((R.N : Int) - (s : Int)).toNat = R.N - s by omega]
      · rw [List.mem_range] at ht
        have bst : Bd 64 ((s : Int) + (t : Int)) := bd_lit 9000 (by omega) (by split at hs <;> omega) (by decide)
        walk_at "w"
        refine ⟨rfl, ?_⟩
        walk_at "w"
        refine wp_lowest (den_ne _) bp.2 (by decide) ?_
        rw [lowest_mul O, ← Int.natCast_add, st2 t ht]
        exact ⟨rfl, rfl⟩
      walk_at "w"
      refine wo_addL' (zs := rowR R (cntR R (k + 1))) ?_ ?_ ?_
      · rw [st1]
        unfold rowR
        rw [map_add]
      · unfold rowR
        simp only [List.length_map, List.length_range]
        omega
      walk_at "w"
      exact qf
    walk_at "w"
    · rename_i z
      refine fin 1 (by rw [if_pos (by omega)]; rfl) _ _ _ rfl ?_
      walk_at "w"
      exact ⟨rfl, _, _, _, rfl⟩
    · rename_i z
      rw [eM]
      refine fin R.M (by rw [if_neg (by omega)]) _ _ _ rfl ?_
      walk_at "w"
      exact ⟨rfl, _, _, _, rfl⟩
  · rintro ρ1 h1 ⟨rfl, o7, o8, o9, rfl⟩
    have el : (rngD R.l (R.l + 3 - R.l).toNat).length = 3 := by
      rw [rngD_range, List.length_map, List.length_range]
      omega
    rw [el]
    walk_at "w"
    exact q

/-! law_k07: two marks of the row -/
def rowA (R : Ruler) (n : Nat) : List Da := (List.range (2 * n + 1)).map fun i : Nat => Rk.Q (R.mkOf ((i : Int) - n))
def seg (R : Ruler) (i : Int) (m : Nat) : List Da := (List.range m).map fun t : Nat => Rk.Q (R.mkOf (i + t))
section
variable {h : Hh} {Q : Vl → Hh → Prop} {E : XP} {R : Ruler} {n : Nat}
theorem row_len : (rowA R n).length = 2 * n + 1 := by unfold rowA; simp
theorem row_get {k : Int} (h0 : 0 ≤ k) (h1 : k < 2 * n + 1) : (rowA R n)[k.toNat]? = some (Rk.Q (R.mkOf (k - n))) := by
  unfold rowA
  rw [List.getElem?_map, List.getElem?_range (by omega)]
  show some (Rk.Q (R.mkOf (((k.toNat : Nat) : Int) - n))) = _
  rw [Int.toNat_of_nonneg h0]
theorem row_cut {a b : Int} (h0 : 0 ≤ a) (h1 : a ≤ b) (h2 : b ≤ 2 * n + 1) : cutD (rowA R n) (some a) (some b) = seg R (a - n) (b - a).toNat := by
  obtain ⟨a, rfl⟩ := Int.eq_ofNat_of_zero_le h0
  obtain ⟨b, rfl⟩ := Int.eq_ofNat_of_zero_le (show 0 ≤ b by omega)
  rw [cut_mid]
  have e : ((b : Int) - (a : Int)).toNat = b - a := by omega
  rw [e]
  refine List.ext_getElem? fun t => ?_
  unfold rowA seg
  rw [List.getElem?_take, List.getElem?_drop, List.getElem?_map, List.getElem?_map]
  by_cases ht : t < b - a
  · rw [if_pos ht, List.getElem?_range (by omega), List.getElem?_range ht]
    show some (Rk.Q (R.mkOf (((a + t : Nat) : Int) - n))) = some (Rk.Q (R.mkOf (((a : Int) - n) + (t : Nat))))
    rw [show (((a + t : Nat) : Int) - n) = ((a : Int) - n) + (t : Nat) by omega]
  · rw [if_neg ht, List.getElem?_eq_none (by rw [List.length_range]; omega)]
    rfl
theorem wo_row {k : Int} (h0 : 0 ≤ k) (h1 : k < 2 * n + 1) (q : Q (.d (Rk.Q (R.mkOf (k - n)))) h) : Wo (gIx (.d (.list (rowA R n))) (.d (.int k)) h) Q := by
  have e := gIxF (h := h) (row_get (R := R) h0 h1)
  rw [Int.toNat_of_nonneg h0] at e
  exact wo_eq e q
theorem wo_rowS {a b : Int} (h0 : 0 ≤ a) (h1 : a ≤ b) (h2 : b ≤ 2 * n + 1) (q : Q (.r h.length) (h ++ [some (.lst (seg R (a - n) (b - a).toNat))])) : Wo (gSl (.d (.list (rowA R n))) (some a) (some b) h) Q := wo_slL' (row_cut h0 h1 h2) q
theorem wo_lenRow (q : Q (.d (.int (2 * n + 1))) h) : Wo (gLen [.d (.list (rowA R n))] h) Q := wo_lenL (by rw [row_len]; exact q)
theorem ly_seg {i : Int} {m : Nat} : Ly false 2 (.list (seg R i m)) := Ly.lst (LyL.of fun d hd => by
  obtain ⟨t, _, rfl⟩ := List.mem_map.mp hd
  exact Ly.Q)
theorem ne_ref {m : Nat} {xs : List Da} {d : Da} (e : h[m]? = some (some (.lst xs))) (hd : ∀ s, d ≠ .str s) : gNe (.r m) (.d d) h = gNe (.d (.list xs)) (.d d) h := by
  cases d with
  | str s => exact absurd rfl (hd s)
  | _ => unfold gNe asD; simp only [e]
theorem eq_ref {m : Nat} {xs : List Da} {d : Da} (e : h[m]? = some (some (.lst xs))) (hd : ∀ s, d ≠ .str s) : gEq (.r m) (.d d) h = gEq (.d (.list xs)) (.d d) h := by
  cases d with
  | str s => exact absurd rfl (hd s)
  | _ => unfold gEq asD; simp only [e]
end
local macro_rules | `(tactic| walk_at "woc") => `(tactic| first | (apply wo_row; exact (by omega); exact (by omega))| (apply wo_rowS; exact (by omega); exact (by omega); exact (by omega))| refine wo_lenRow ?_)
local macro_rules | `(tactic| walk_at "wc") => `(tactic| (apply wp_beside; assumption; exact (by walk_at "bqm"); exact (by walk_at "bqm")))
theorem wo_rowY {h : Hh} {Q : Vl → Hh → Prop} {R : Ruler} {n : Nat} {k : Int} (h0 : 0 ≤ k) (h1 : k < 2 * n + 1) (q : Q (.d (Rk.Q (R.mkOf (k - n)))) h) : Wo (gIy (.d (.list (rowA R n))) (.d (.int k)) h) Q := wo_iyL rfl (wo_row h0 h1 q)
local macro_rules | `(tactic| walk_at "woc") => `(tactic| (apply wo_rowY; exact (by omega); exact (by omega)))
local macro_rules | `(tactic| walk_at "wc") => `(tactic| (apply wp_middle; assumption; exact (by walk_at "bqm"); exact (by walk_at "bqm"); exact (by assumption)))
theorem w_two {h : Hh} {R : Ruler} {n : Nat} {a b x y lo hi : Int} {s5 s6 s7 o12 : Option Vl} {N : En → Hh → Prop} {D : Ds} (O : R.Ok) (B : ∀ k : Int, k.natAbs ≤ n → BQ 1000 (R.mkOf k)) (hn : n ≤ 1000) (a0 : 0 ≤ a) (a1 : a < 2 * n + 1) (b0 : 0 ≤ b) (b1 : b < 2 * n + 1)
    (hxy : x + y = a + b) (x0 : 0 ≤ x) (x1 : x < 2 * n + 1) (y0 : 0 ≤ y) (y1 : y < 2 * n + 1)
    (hlh : lo + hi = a + b) (q : N [some (.d R.da), some (.d (.list (rowA R n))), some (.d (.int a)), some (.d (.int b)), some (.d (.int n)), s5, s6, s7, some (.d (.int lo)), some (.d (.int hi)), some (.d (.int x)), some (.d (.int y)), o12] h) :
    Ws (bl__law_two_right_1 [some (.d R.da), some (.d (.list (rowA R n))), some (.d (.int a)), some (.d (.int b)), some (.d (.int n)), s5, s6, s7, some (.d (.int lo)), some (.d (.int hi)), some (.d (.int x)), some (.d (.int y)), o12] h) N D := by
  obtain ⟨R', B', C, X⟩ := D
  have bx := B (x - n) (by omega)
  have by' := B (y - n) (by omega)
  have hf : R.far ((x - n + (y - n)) / 2).natAbs ≤ 1800 := Nat.le_trans (far_bd O (B ((x - n + (y - n)) / 2) (by omega))) (by decide)
  have bn : Bd 64 (n : Int) := bd_nat (by omega)
  unfold bl__law_two_right_1
  walk_at "w"
  · exact q
  · rename_i z
    refine absurd ?_ z
    rw [show (x - n + (y - n)) / 2 = (lo + hi - 2 * n) / 2 + n - n by omega]
theorem seg_len {R : Ruler} {i : Int} {m : Nat} : (seg R i m).length = m := by unfold seg; simp
theorem wp_betweenS {h : Hh} {Q : Vl → Hh → Prop} {E : XP} {R : Ruler} {i j : Int} {m : Nat} (O : R.Ok) (b1 : BQ 1800 (R.mkOf i)) (b2 : BQ 1800 (R.mkOf j)) (hm : j - i + 1 ≤ 5000) (B : ∀ k, i ≤ k → k ≤ j → BQ 1600 (R.mkOf k)) (em : m = (j - i + 1).toNat)
    (q : Q (.r h.length) (h ++ [some (.lst (seg R i m))])) : Wp (m_marks_between [.d R.da, .d (Rk.Q (R.mkOf i)), .d (Rk.Q (R.mkOf j))] h) Q E := by
  refine wp_between O b1 b2 hm B ?_
  rw [show (max 0 (j - i + 1)).toNat = m by omega]
  exact q
theorem isL_end {h : Hh} {xs : List Da} : isTy .list (.r h.length) (h ++ [some (.lst xs)]) = some true := by
  unfold isTy
  simp
  rfl
theorem wo_neEnd {h l : Hh} {Q : Vl → Hh → Prop} {xs : List Da} (ly : Ly false 2 (.list xs)) (q : Q (.d (.bool false)) (h ++ some (.lst xs) :: l)) : Wo (gNe (.r h.length) (.d (.list xs)) (h ++ some (.lst xs) :: l)) Q := by
  rw [ne_ref (xs := xs) (by simp) (fun s z => by cases z)]
  exact wo_neSelf ly (by decide) q
theorem wo_eqEnd {h l : Hh} {Q : Vl → Hh → Prop} {xs : List Da} (ly : Ly false 2 (.list xs)) (q : Q (.d (.bool true)) (h ++ some (.lst xs) :: l)) : Wo (gEq (.r h.length) (.d (.list xs)) (h ++ some (.lst xs) :: l)) Q := by
  rw [eq_ref (xs := xs) (by simp) (fun s z => by cases z)]
  exact wo_eqSelf ly (by decide) q
theorem wp_two {h : Hh} {Q : Vl → Hh → Prop} {E : XP} {R : Ruler} {n : Nat} {a b : Int} (O : R.Ok) (B : ∀ k : Int, k.natAbs ≤ n → BQ 1000 (R.mkOf k)) (hn : n ≤ 1000) (a0 : 0 ≤ a) (a1 : a < 2 * n + 1) (b0 : 0 ≤ b) (b1 : b < 2 * n + 1) (q : Q (.d (.bool true)) h) :
    Wp (m__law_two_right [.d R.da, .d (.list (rowA R n)), .d (.int a), .d (.int b)] h) Q E := by
  have ba := B (a - n) (by omega)
  have bb := B (b - n) (by omega)
  have bs := B (a - n + (b - a)) (by omega)
  refine en__law_two_right ?_
  unfold b__law_two_right
  walk_at "w"
  have em : ((rowA R n).length : Int) / 2 = n := by
    rw [row_len]
    omega
  rw [em]
  refine w_two O B hn a0 a1 b0 b1 (by omega) (by omega) (by omega) (by omega) (by omega) (by omega) ?_
  walk_at "w"
  refine w_two O B hn a0 a1 b0 b1 (by omega) (by omega) (by omega) (by omega) (by omega) (by omega) ?_
  walk_at "w"
  refine wp_betweenS (m := (max a b - min a b + 1).toNat) O (BQ.mono (B _ (by omega)) (by decide)) (BQ.mono (B _ (by omega)) (by decide)) (by omega) (fun k k1 k2 => BQ.mono (B k (by omega)) (by decide)) (by omega) ?_
  walk_at "w"
  refine ⟨true, isL_end, trk ?_⟩
  walk_at "w"
  rw [row_cut (by omega) (by omega) (by omega), show (max a b + 1 - min a b).toNat = (max a b - min a b + 1).toNat by omega]
  refine wo_neEnd ly_seg ?_
  walk_at "w"
  · refine wo_appE rfl rfl (by rw [seg_len]; omega) ?_
    walk_at "w"
    refine wp_betweenS (m := (b - a + 1).toNat) O (BQ.mono ba (by decide)) (BQ.mono bb (by decide)) (by omega) (fun k k1 k2 => BQ.mono (B k (by omega)) (by decide)) (by omega) ?_
    walk_at "w"
    · rw [row_cut (by omega) (by omega) (by omega), show (b + 1 - a).toNat = (b - a + 1).toNat by omega]
      refine wo_eqEnd (l := []) ly_seg ?_
      refine retK_any ?_
      rw [List.append_assoc, List.take_left]
      exact q
    · have e0 : seg R (a - n) (b - a + 1).toNat = [] := by
        rw [show (b - a + 1).toNat = 0 by omega]
        rfl
      rw [e0]
      refine wo_eqEnd (l := []) (Ly.mono (Ly.lst LyL.nil) (by decide)) ?_
      refine retK_any ?_
      rw [List.append_assoc, List.take_left]
      exact q
  · rename_i z
    exact absurd (by rw [show a - n + (b - a) = b - n by omega]) z
  · rename_i z
    refine absurd ?_ z
    rw [row_len]
    omega

/-! law_k07: rows, wide rulers -/
theorem mkOf_zero {R : Ruler} (O : R.Ok) : R.mkOf 0 = 0 := by
  unfold Ruler.mkOf
  rw [if_pos (by decide)]
  exact mkN_zero O
theorem BQ_mkOf {R : Ruler} (O : R.Ok) {E : Nat} (k : Int) (h : (R.l + R.far k.natAbs).natAbs ≤ E) : BQ (4 * E + 100) (R.mkOf k) := by
  have b := BQ_mkN O k.natAbs h
  unfold Ruler.mkOf
  split
  · exact b
  · exact b.neg
theorem far_few {R : Ruler} (O : R.Ok) {k c : Nat} (h : k < R.N + c * R.fr) : R.far k ≤ c := by
  have f := fr_pos O
  unfold Ruler.far
  split
  · exact Nat.zero_le _
  · rename_i z
    have : (k - R.N) / R.fr < c := (Nat.div_lt_iff_lt_mul f).mpr (by omega)
    omega
/-- the marks of both signs, nought in the midst -/
theorem row_all {R : Ruler} (O : R.Ok) (n : Nat) : ((List.range n).reverse.map fun i : Nat => Rk.Q (R.mkOf (-((i : Int) + 1)))) ++ [Rk.Q 0] ++ rowR R n = rowA R n := by
  refine List.ext_getElem? fun t => ?_
  have l1 : ((List.range n).reverse.map fun i : Nat => Rk.Q (R.mkOf (-((i : Int) + 1)))).length = n := by simp
  have ga : t < 2 * n + 1 → (rowA R n)[t]? = some (Rk.Q (R.mkOf ((t : Int) - n))) := fun ht => by
    have := row_get (R := R) (n := n) (k := (t : Int)) (by omega) (by omega)
    exact this
  rcases Nat.lt_trichotomy t n with z | z | z
  · rw [ga (by omega), List.getElem?_append_left (by rw [List.length_append, l1]; simp; omega), List.getElem?_append_left (by rw [l1]; exact z), List.getElem?_map, List.getElem?_reverse (by rw [List.length_range]; exact z), List.length_range, List.getElem?_range (by omega)]
    show some (Rk.Q (R.mkOf (-(((n - 1 - t : Nat) : Int) + 1)))) = _
    rw [show (-(((n - 1 - t : Nat) : Int) + 1)) = (t : Int) - n by omega]
  · subst z
    rw [ga (by omega), List.getElem?_append_left (by rw [List.length_append, l1]; simp), List.getElem?_append_right (by omega), l1, Nat.sub_self]
    show some (Rk.Q 0) = _
    rw [show (t : Int) - t = 0 by omega, mkOf_zero O]
  · by_cases ht : t < 2 * n + 1
    · rw [ga ht, List.getElem?_append_right (by rw [List.length_append, l1]; simp; omega), List.length_append, l1]
      unfold rowR
      rw [List.getElem?_map, List.getElem?_range (by simp; omega)]
      show some (Rk.Q (R.mkOf (((t - (n + 1) : Nat) : Int) + 1))) = _
      rw [show ((t - (n + 1) : Nat) : Int) + 1 = (t : Int) - n by omega]
    · rw [List.getElem?_eq_none (by rw [List.length_append, List.length_append, l1]; unfold rowR; simp; omega), List.getElem?_eq_none (by rw [row_len]; omega)]
theorem len_ref {h : Hh} {m : Nat} {xs : List Da} {Q : Vl → Hh → Prop} (e : h[m]? = some (some (.lst xs))) (hl : xs.length ≤ 16777216) (q : Q (.d (.int (xs.length : Nat))) h) : Wo (gLen [.r m] h) Q := by
  refine wo_eq (v := .d (.int (xs.length : Nat))) (h' := h) ?_ q
  unfold gLen asL
  simp only [e]
section
variable {h : Hh} {Q : Vl → Hh → Prop} {E : XP} {R : Ruler}
theorem wide_bq (O : R.Ok) (hl : R.l.natAbs ≤ 20) {k : Int} (hk : k.natAbs < R.N + 5 * R.fr) : BQ 200 (R.mkOf k) := by
  have := far_few O hk
  exact BQ.mono (BQ_mkOf O (E := 25) k (by omega)) (by decide)
theorem wp_great0 (O : R.Ok) (hl : R.l.natAbs ≤ 20) (hN : 5000 < R.N + 5 * R.fr) (q : Q (.d (.bool false)) h) : Wp (m__law_is_great [.d R.da, .d (.int 5000)] h) Q E := by
  have b1 := wide_bq O hl (k := 4999) (by omega)
  have b2 := wide_bq O hl (k := 5000 - 1) (by omega)
  have b0 := wide_bq O hl (k := 0) (by omega)
  refine en__law_is_great ?_
  unfold b__law_is_great
  walk_at "w"
  rw [← mkOf_zero O]
  refine wp_betweenS (m := 5000) O (b0.mono (by decide)) (b2.mono (by decide)) (by decide) (fun k k1 k2 => BQ.mono (wide_bq O hl (by omega)) (by decide)) (by decide) ?_
  walk_at "w"
  refine len_ref (xs := seg R 0 5000) (by simp) (by rw [seg_len]; decide) ?_
  rw [seg_len]
  walk_at "w"
  rw [show (!decide (((5000 : Nat) : Int) = 5000)) = false by decide]
  exact q
theorem wp_great1 (O : R.Ok) (hl : R.l.natAbs ≤ 20) (hN : 5001 < R.N + 5 * R.fr) (q : Q (.d (.bool true)) h) : Wp (m__law_is_great [.d R.da, .d (.int 5001)] h) Q E := by
  have b1 := wide_bq O hl (k := 5000) (by omega)
  have b2 := wide_bq O hl (k := 5001 - 1) (by omega)
  have b0 := wide_bq O hl (k := 0) (by omega)
  refine en__law_is_great ?_
  unfold b__law_is_great
  walk_at "w"
  rw [← mkOf_zero O]
  refine wp_between_n O (b0.mono (by decide)) (b2.mono (by decide)) (by decide) ?_
  walk_at "w"
  exact q
end


/-! law_k07: each third cell -/
theorem mixed_any (a : Int) (k : Nat) (hk : k < 2 ^ 32) : ∃ v : Int, ∀ h : Hh, m__law_mixed [.d (.int a), .d (.int (k : Int))] h = .ok (.d (.int v)) h := by
  have bk : Bd 64 (k : Int) := bd_nat (Nat.lt_trans hk (by decide))
  have q1 : fMod a 2147483647 = some (.int (a.fmod 2147483647)) := fMod_eq (by decide)
  have q2 : fMul 7919 (k : Int) = some (.int (7919 * (k : Int))) := fMul_eq (mulOk_smallR bk)
  have q3 : fMul (7919 * (k : Int)) (k : Int) = some (.int (7919 * (k : Int) * (k : Int))) := fMul_eq (mulOk_smallR bk)
  have q4 : fMul 31 (k : Int) = some (.int (31 * (k : Int))) := fMul_eq (mulOk_smallR bk)
  have q5 : ∀ z : Int, fMul z 48271 = some (.int (z * 48271)) := fun z => fMul_eq (mulOk_smallR (bd_lit 48271 (by decide) (by decide) (by decide)))
  have q6 : ∀ z : Int, fMod z 2147483647 = some (.int (z.fmod 2147483647)) := fun z => fMod_eq (by decide)
  have q7 : fMul 2 (k : Int) = some (.int (2 * (k : Int))) := fMul_eq (mulOk_smallR bk)
  have q8 : ∀ z : Int, fMul z (69621 + 2 * (k : Int)) = some (.int (z * (69621 + 2 * (k : Int)))) := fun z => fMul_eq (mulOk_smallR (bd_lit (69621 + 2 * 2 ^ 32) (by omega) (by omega) (by decide)))
  have q9 : ∀ z : Int, fMod z 2147483629 = some (.int (z.fmod 2147483629)) := fun z => fMod_eq (by decide)
  refine ⟨(((a.fmod 2147483647 + 7919 * (k : Int) * (k : Int) + 31 * (k : Int)) * 48271).fmod 2147483647 * (69621 + 2 * (k : Int))).fmod 2147483629, fun h => ?_⟩
  unfold m__law_mixed b__law_mixed
  simp only [mkF, enter, retF, trunc, sSeq, So.then_nx, So.then_rt, sSet, sRet, sRetN, sIf, sExpr, sNil, sPar, sAsg, ofG, gN, gsCons, gsNil, gTupT_tup, gTupT_Q, Out.then_ok, Out.then_ex, Out.bind_ok, Out.bind_ex, eVar, eD_eq, eOp, eCall, eBlt, aCons, aNil, eTup, eIf, eT, eNot, eAnd, eOr, tvAnd, tvOr, tvNot, eNeg, eIsi, isTy_d, isQ_tup, isQ_bool, isQ_int, isI_bool, isI_int, isI_tup, isB_bool, isB_int, ixQ0, ixQ1, truO_b, fzs_nil, fzs_d, gInt_eq, gAdd_int, gAbs_eq, fAdd_eq, fSub_eq, fLt_eq, fLe_eq, fGt_eq, fGe_eq, ix0, ix1, ix2, ix3, ix4, ix5, ofO_some, Option.map_some, Option.bind_some, List.length_cons, List.length_nil, List.map_cons, List.map_nil, List.replicate_succ, List.replicate_zero, List.cons_append, List.nil_append, List.getElem?_cons_zero, List.getElem?_cons_succ, List.set_cons_zero, List.set_cons_succ, List.take_length, Int.reduceEq, Int.reduceLT, Int.reduceLE, Nat.reduceSub, Nat.reduceAdd, Nat.reduceLeDiff, Nat.reduceLT, Nat.zero_add, Nat.add_zero, Nat.sub_self, if_true, if_false, reduceIte, Bool.false_eq_true, fitB, decide_true, decide_false, Bool.not_true, Bool.not_false, q1, q2, q3, q4, q5, q6, q7, q8, q9]
theorem cut_map {α β : Type} (f : α → β) (xs : List α) (i j : Nat) : cutD (xs.map f) (some (i : Int)) (some (j : Int)) = ((xs.drop i).take (j - i)).map f := by
  rw [cut_mid, List.map_take, List.map_drop]
local macro_rules | `(tactic| walk_at "wc") => `(tactic| (apply wp_takeX; assumption; assumption; exact (by walk_at "sm"); exact (by walk_at "sm"); exact (by walk_at "sm"); intro _ _ _ _ _ _))
theorem w_turn7 {K nn : Nat} {xs : List Da} {h : Hh} {R : Ruler} {n : Nat} {t : Int} {o0 o1 o2 o3 o5 o6 o7 o9 o12 o13 o14 : Option Vl} {N : En → Hh → Prop} {D : Ds} (st : Strm K xs) (hn : nn < h.length) (hK : K + 2 < 2 ^ 30) (O : R.Ok) (B : ∀ k : Int, k.natAbs ≤ n → BQ 1000 (R.mkOf k)) (hN : n ≤ 1000)
    (q : ∀ (xs' : List Da) (o12 o13 : Option Vl), Strm (K + 2) xs' → N [o0, o1, o2, o3, some (.r nn), o5, o6, o7, some (.d R.da), o9, some (.d (.list (rowA R n))), some (.d (.int t)), o12, o13, o14] (h.set nn (some (.lst xs')))) :
    Ws (bl_law_1 [o0, o1, o2, o3, some (.r nn), o5, o6, o7, some (.d R.da), o9, some (.d (.list (rowA R n))), some (.d (.int t)), o12, o13, o14] (h.set nn (some (.lst xs)))) N D := by
  obtain ⟨R', B', C, X⟩ := D
  have el : ((rowA R n).length : Int) = 2 * n + 1 := by
    rw [row_len]
    omega
  unfold bl_law_1
  walk_at "w"
  · refine wp_two O B hN (by omega) (by omega) (by omega) (by omega) ?_
    walk_at "w"
    exact q _ _ _ (Strm.mono ‹_› (by omega))
  · refine wp_two O B hN (by omega) (by omega) (by omega) (by omega) ?_
    walk_at "w"
    exact q _ _ _ (Strm.mono ‹_› (by omega))
theorem pow_few {b f : Nat} (hb : b ≤ 5) (hf : f ≤ 3) : b ^ f ≤ 125 := Nat.le_trans (Nat.pow_le_pow_left hb f) (Nat.pow_le_pow_right (by decide) hf)
theorem w_tail7 {ns : List Int} {h : Hh} {c : Int} {k nn K : Nat} {xs : List Da} {w : Bool} {b f l : Int} {wy : String} (st : Strm K xs) (hn : nn < h.length) (hK : K + 4 < 2 ^ 30) (b1 : 2 ≤ b) (b2 : b ≤ 5) (f1 : 1 ≤ f) (f2 : f ≤ 3) (l1 : -5 ≤ l) (l2 : l ≤ 5) (hw : wy = "near" ∨ wy = "down" ∨ wy = "up" ∨ wy = "nought") {o5 o9 o10 o11 o12 o13 o14 : Option Vl} {N : En → Hh → Prop} {D : Ds}
    (q : ∀ (h' : Hh) (o4 o5 o6 o7 o8 o9 o10 o11 o12 o13 o14 : Option Vl), N [some (.d (.list (ns.map PyData.int))), some (.d (.bool w)), some (.d (.int (k : Int))), some (.d (.int c)), o4, o5, o6, o7, o8, o9, o10, o11, o12, o13, o14] h') :
    Ws ((sSeq (sSet 9 (eCall m__law_rising (aCons (eVar 8) aNil)))
                (sSeq
                  (sSet 10
                    (eFz
                      (eOp gAdd
                        (eFz
                          (eOp gAdd
                            (eFz
                              (eLc [5] (Rk.iRev (aCons (eVar 9) aNil)) (gN 5) tvYes
                                (eTup
                                  (aCons (eOp (gInt fSub) (eD (PyData.int 0)) (eOp gIx (eVar 5) (eD (PyData.int 0))))
                                    (aCons (eOp gIx (eVar 5) (eD (PyData.int 1))) aNil)))))
                            (eFz
                              (eLst (aCons (eTup (aCons (eD (PyData.int 0)) (aCons (eD (PyData.int 1)) aNil))) aNil)))))
                        (eVar 9))))
                  (sSeq (sFor (iRange1 (aCons (eD (PyData.int 2)) aNil)) (gN 11) bl_law_1)
                    (sSeq
                      (sSet 14
                        (eOp gAdd (eTup (aCons (eD (PyData.int 10)) (aCons (eD (PyData.int 3)) aNil)))
                          (eFz (eSl (eVar 8) (oSome (eD (PyData.int 2))) oNone))))
                      (sIf
                        (tvAnd (eT (eOp gEq (eVar 2) (eD (PyData.int 0))))
                          (tvAnd (eT (eVar 1))
                            (tvOr (eT (eCall m__law_is_great (aCons (eVar 14) (aCons (eD (PyData.int 5000)) aNil))))
                              (tvNot
                                (eT (eCall m__law_is_great (aCons (eVar 14) (aCons (eD (PyData.int 5001)) aNil))))))))
                        (sRet (eD (PyData.bool false))) sNil)))))
      [some (.d (.list (ns.map PyData.int))), some (.d (.bool w)), some (.d (.int (k : Int))), some (.d (.int c)), some (.r nn), o5, some (.d (.int b)), some (.d (.int f)), some (.d (.tuple [.int b, .int f, .int l, .str wy])), o9, o10, o11, o12, o13, o14] (h.set nn (some (.lst xs)))) N D := by
  obtain ⟨R', B', C, X⟩ := D
  have z1 := ruler_da (b := b) (f := f) (l := l) b1 (by omega) f1 (by omega) (by omega) (by omega) hw
  have z2 := ruler_da (b := 10) (f := 3) (l := l) (by decide) (by decide) (by decide) (by decide) (by omega) (by omega) hw
  rw [z1.1]
  have O := z1.2
  have O2 := z2.2
  have eN : (⟨b.toNat, f.toNat, l, wy⟩ : Ruler).N ≤ 125 := pow_few (by show b.toNat ≤ 5; omega) (by show f.toNat ≤ 3; omega)
  have el : (⟨b.toNat, f.toNat, l, wy⟩ : Ruler).l = l := rfl
  revert O eN el
  generalize hR : (⟨b.toNat, f.toNat, l, wy⟩ : Ruler) = R
  intro O eN el
  have ef : R.fr = R.N - R.M := rfl
  have ec : cntR R 3 = R.N - 1 + 2 * R.fr := cntR_one 2
  have B : ∀ k : Int, k.natAbs ≤ cntR R 3 → BQ 1000 (R.mkOf k) := fun k hk => by
    have := far_few O (k := k.natAbs) (c := 3) (by have := fr_pos O; have := M_lt O; omega)
    exact BQ.mono (BQ_mkOf O (E := 8) k (by omega)) (by decide)
  walk_at "w"
  refine wp_lrising O (by omega) (by omega) ?_
  walk_at "w"
  refine wp_lcR (List.range (cntR R 3)).reverse (fun i : Nat => Rk.Q (R.mkOf ((i : Int) + 1))) (fun i : Nat => Rk.Q (R.mkOf (-((i : Int) + 1)))) (by walk_at "wipe") ?_
  refine wp_rev ?_
  walk_at "w"
  refine ⟨?_, by rw [List.length_reverse, List.length_range]; omega, rfl, fun i hi h' => ?_, ?_⟩
  · unfold rowR
    rw [List.map_reverse]
  · rw [List.mem_reverse, List.mem_range] at hi
    have bi := B ((i : Int) + 1) (by omega)
    walk_at "w"
    refine ⟨rfl, ?_⟩
    walk_at "w"
    rw [mkOf_neg O]
    exact ⟨rfl, rfl⟩
  walk_at "w"
  refine wo_addL' rfl (by simp; omega) ?_
  walk_at "w"
  refine wo_addL' (row_all O _) (by unfold rowR; simp; omega) ?_
  walk_at "w"
  refine w_turn7 st hn (by omega) O B (by omega) (fun _ _ _ st1 => ?_)
  walk_at "w"
  refine w_turn7 st1 hn (by omega) O B (by omega) (fun _ _ _ st2 => ?_)
  have eda : (.d R.da : Vl) = .d (.tuple [.int R.b, .int R.f, .int R.l, .str R.w]) := rfl
  rw [eda]
  walk_at "w"
  rw [show Rk.Q (10 / 3) = PyData.tuple [.int 10, .int 3] by unfold Rk.Q; rw [show ((10 : Rat) / 3).num = 10 by decide +kernel, show ((10 : Rat) / 3).den = 3 by decide +kernel]; rfl]
  refine wo_addT' (zs := [.int 10, .int 3, .int R.l, .str R.w]) rfl (by simp) ?_
  have ew : R.w = wy := by rw [← hR]
  rw [el, ew, z2.1]
  have g0 : 5001 < Ruler.N ⟨(10 : Int).toNat, (3 : Int).toNat, l, wy⟩ + 5 * Ruler.fr ⟨(10 : Int).toNat, (3 : Int).toNat, l, wy⟩ := by
    show 5001 < 10 ^ 3 + 5 * (10 ^ 3 - 10 ^ 2)
    decide
  cases w
  all_goals walk_at "w"
  all_goals try (exact q _ _ _ _ _ _ _ _ _ _ _ _)
  refine wp_great0 O2 (by show l.natAbs ≤ 20; omega) (by omega) ?_
  walk_at "w"
  refine wp_great1 O2 (by show l.natAbs ≤ 20; omega) (by omega) ?_
  walk_at "w"
  all_goals first | exact q _ _ _ _ _ _ _ _ _ _ _ _ | skip
theorem w_cell7 {ns : List Int} (hl : ns.length ≤ 63) {h : Hh} {c : Int} {k : Nat} {w : Bool} (hk : k < 64) {o4 o5 o6 o7 o8 o9 o10 o11 o12 o13 o14 : Option Vl} {N : En → Hh → Prop} {D : Ds}
    (q : ∀ (h' : Hh) (o4 o5 o6 o7 o8 o9 o10 o11 o12 o13 o14 : Option Vl), N [some (.d (.list (ns.map PyData.int))), some (.d (.bool w)), some (.d (.int (k : Int))), some (.d (.int c)), o4, o5, o6, o7, o8, o9, o10, o11, o12, o13, o14] h') :
    Ws (bl_law_2 [some (.d (.list (ns.map PyData.int))), some (.d (.bool w)), some (.d (.int (k : Int))), some (.d (.int c)), o4, o5, o6, o7, o8, o9, o10, o11, o12, o13, o14] h) N D := by
  obtain ⟨R', B', C, X⟩ := D
  obtain ⟨g, hg⟩ := Classical.axiomOfChoice (fun a => mixed_any a 3 (by decide))
  unfold bl_law_2
  walk_at "w"
  refine wp_lcR ((ns.drop (3 * k + 1)).take 2) PyData.int (fun c => .int (g c)) (by walk_at "wipe") ?_
  walk_at "w"
  refine ⟨?_, Nat.le_trans (List.length_take_le _ _) (by decide), rfl, fun c hc h' => ?_, ?_⟩
  · rw [show (3 * (k : Int) + 1) = ((3 * k + 1 : Nat) : Int) by omega, show (3 * (k : Int) + 3) = ((3 * k + 3 : Nat) : Int) by omega, cut_map, show 3 * k + 3 - (3 * k + 1) = 2 by omega]
  · walk_at "w"
    refine ⟨rfl, ?_⟩
    walk_at "w"
    exact wp_eq (hg c _) ⟨rfl, rfl⟩
  walk_at "w"
  refine wo_sum (ints_map g _) ?_
  walk_at "w"
  refine wp_stream _ k (by omega) fun xs st => ?_
  have hn : h.length < (h ++ [none]).length := by simp
  walk_at "w"
  all_goals refine wo_menu WayD (by assumption) (by assumption) ways_menu ?_
  all_goals rintro _ ⟨wy, rfl, hw⟩
  all_goals refine wp_nil ?_
  all_goals refine tupk4 ?_
  all_goals refine setk8 ?_
  all_goals refine w_tail7 (K := 4) (Strm.mono ‹_› (by omega)) hn (by decide) ?_ ?_ ?_ ?_ ?_ ?_ hw q
  all_goals omega

/-! law_k07: far marks -/
section
variable {h : Hh} {Q : Vl → Hh → Prop} {E : XP} {R : Ruler} {x : Rat} {k m : Int}
theorem wp_rankX (O : R.Ok) (hx : x = R.mkOf k) (b : BQ 2100 x) (q : Q (.d (.int k)) h) : Wp (m_rank_of [.d R.da, .d (Rk.Q x)] h) Q E := by
  subst hx
  have e := mkOf_mark O k b
  have ep := plc_mkN O (n := 0) k.natAbs (mkOf_abs O k)
  have ib := plc_bd O b
  have l1 := O.l1
  have l2 := O.l2
  have s := st_sum O k.natAbs
  have f := fr_pos O
  have bs : BQ 2101 (R.pw (R.plc (R.mkOf k))) := BQ_stp O b (by decide) (by decide)
  have bp : Bd 64 (R.plc (R.mkOf k) - R.l) := bd_lit 2300 (by omega) (by omega) (by decide)
  have p0 := pw_ne O (R.plc (R.mkOf k))
  have e2 : ((R.mkOf k).abs / R.pw (R.plc (R.mkOf k))).num = (R.st k.natAbs : Int) := by
    rw [mkOf_abs O, ep]
    unfold Ruler.mkN
    rw [mul_div_c (pw_ne O _), Rat.num_intCast]
  have e3 : (R.plc (R.mkOf k) - R.l) * (R.fr : Int) + (R.st k.natAbs : Int) = (k.natAbs : Int) := by
    rw [ep, show R.l + (R.far k.natAbs : Int) - R.l = (R.far k.natAbs : Int) by omega, ← Int.natCast_mul]
    omega
  refine en_rank_of ?_
  unfold b_rank_of
  walk_at "w"
  refine wp_eq (sp_pw O (by omega) _) ?_
  walk_at "w"
  · rename_i z
    rw [e2, e3]
    have z1 : 0 ≤ R.mkOf k := Rat.num_nonneg.mp z
    have : 0 ≤ k := by
      by_cases w : 0 ≤ k
      · exact w
      · have w1 := mkOf_mono O (i := k) (j := 0) (by omega)
        have w2 : R.mkOf 0 = 0 := by
          unfold Ruler.mkOf
          rw [if_pos (by decide)]
          exact mkN_zero O
        rw [w2] at w1
        exact absurd z1 (by grind)
    rw [show (k.natAbs : Int) = k by omega]
    exact q
  · rename_i z
    rw [e2, e3]
    have z1 : ¬ 0 ≤ R.mkOf k := fun w => z (Rat.num_nonneg.mpr w)
    have : ¬ 0 ≤ k := fun w => z1 (by
      unfold Ruler.mkOf
      rw [if_pos w]
      exact mkN_nonneg O _)
    rw [show 0 - (k.natAbs : Int) = k by omega]
    exact q
theorem wp_ofrankX (O : R.Ok) (bp : BQ 8000 (R.pw (R.l + (R.far k.natAbs : Int)))) (hf : R.far k.natAbs ≤ 2200) (hx : R.mkOf k = x) (q : Q (.d (Rk.Q x)) h) : Wp (m_of_rank [.d R.da, .d (.int k)] h) Q E := by
  subst hx
  have l1 := O.l1
  have l2 := O.l2
  have s := st_sum O k.natAbs
  obtain ⟨t1, t2, t3⟩ := far_le O k.natAbs
  have bf : Bd 64 (R.far k.natAbs : Int) := bd_nat (Nat.lt_of_le_of_lt hf (by decide))
  have bs : Bd 97 (R.st k.natAbs : Int) := Bd.le (N_bd O) (by omega)
  have e1 : (k.natAbs : Int) - (R.far k.natAbs : Int) * (R.fr : Int) = (R.st k.natAbs : Int) := by
    rw [← Int.natCast_mul]
    omega
  refine en_of_rank ?_
  unfold b_of_rank
  walk_at "w"
  rw [e1]
  walk_at "w"
  refine wp_eq (sp_pw O (by omega) _) ?_
  walk_at "w"
  · rename_i z
    have : R.mkOf k = R.mkN k.natAbs := by unfold Ruler.mkOf; rw [if_pos z]
    rw [this] at q
    exact q
  · rename_i z
    have : R.mkOf k = -R.mkN k.natAbs := by unfold Ruler.mkOf; rw [if_neg z]
    rw [this] at q
    exact q
theorem wp_nsY (s1 : x.num.natAbs ≤ 10 ^ 600) (s2 : x.den ≤ 10 ^ 600) (q : Q (.d (Rk.Q x)) h) : Wp (m_need_small [.d (Rk.Q x)] h) Q E := by
  have p : ((10 ^ 600 : Nat) : Int) = (10 : Int) ^ 600 := by rw [Int.natCast_pow]; rfl
  have c1 : ¬ (10 : Int) ^ 600 < (x.num.natAbs : Int) := by
    rw [← p]
    generalize (10 ^ 600 : Nat) = z at *
    omega
  have c2 : ¬ (10 : Int) ^ 600 < (x.den : Int) := by
    rw [← p]
    generalize (10 ^ 600 : Nat) = z at *
    omega
  refine en_need_small ?_
  unfold b_need_small
  walk_at "w"
  refine en_is_great ?_
  unfold b_is_great
  walk_at "w"
  exact q
theorem wp_nsN (s1 : 10 ^ 600 < x.num.natAbs) (q : E "TooGreat" [] h) : Wp (m_need_small [.d (Rk.Q x)] h) Q E := by
  have p : ((10 ^ 600 : Nat) : Int) = (10 : Int) ^ 600 := by rw [Int.natCast_pow]; rfl
  have c1 : (10 : Int) ^ 600 < (x.num.natAbs : Int) := by
    rw [← p]
    generalize (10 ^ 600 : Nat) = z at *
    omega
  refine en_need_small ?_
  unfold b_need_small
  walk_at "w"
  refine en_is_great ?_
  unfold b_is_great
  walk_at "w"
  rw [List.take_length]
  exact q
theorem wp_markY (O : R.Ok) (bp : BQ 8000 (R.pw (R.l + (R.far k.natAbs : Int)))) (hf : R.far k.natAbs ≤ 2100) (hx : R.mkOf k = x) (s1 : x.num.natAbs ≤ 10 ^ 600) (s2 : x.den ≤ 10 ^ 600) (q : Q (.d (Rk.Q x)) h) : Wp (m_mark_at [.d R.da, .d (.int k)] h) Q E := by
  refine en_mark_at ?_
  unfold b_mark_at
  walk_at "w"
  refine wp_ofrankX O bp (Nat.le_trans hf (by decide)) hx ?_
  walk_at "w"
  refine wp_nsY s1 s2 ?_
  walk_at "w"
  exact q
theorem wp_markG (O : R.Ok) (bp : BQ 8000 (R.pw (R.l + (R.far k.natAbs : Int)))) (hf : R.far k.natAbs ≤ 2100) (hx : R.mkOf k = x) (s1 : 10 ^ 600 < x.num.natAbs) (q : E "TooGreat" [] h) : Wp (m_mark_at [.d R.da, .d (.int k)] h) Q E := by
  refine en_mark_at ?_
  unfold b_mark_at
  walk_at "w"
  refine wp_ofrankX O bp (Nat.le_trans hf (by decide)) hx ?_
  walk_at "w"
  refine wp_nsN s1 ?_
  rw [List.take_length]
  exact q
end

/-! law_k07: the far rulers -/
def r1 : Ruler := ⟨2, 1, -100, "near"⟩
def r2 : Ruler := ⟨2, 3, -100, "up"⟩
theorem r1_ok : r1.Ok := ⟨by decide, by decide, by decide, by decide, by decide, by decide, .inl rfl⟩
theorem r2_ok : r2.Ok := ⟨by decide, by decide, by decide, by decide, by decide, by decide, .inr (.inr (.inl rfl))⟩
def HH : Int := 2 ^ 1993
theorem pow2 (a : Nat) : ((2 : Nat) : Rat) ^ (a : Int) = (((2 ^ a : Nat) : Int) : Rat) := by
  rw [Rat.zpow_natCast, Rat.intCast_natCast, Rat.natCast_pow]
theorem far1 (t : Nat) : r1.mkOf ((t + 101 : Nat) : Int) = (((2 ^ t : Nat) : Int) : Rat) := by
  rw [mkOf_nat, show t + 101 = (t + 100) * r1.fr + 1 by show t + 101 = (t + 100) * 1 + 1; omega, mkN_parts r1_ok (by decide) (.inr (by decide))]
  show ((1 : Int) : Rat) * ((2 : Nat) : Rat) ^ ((-100 : Int) + ((t + 100 : Nat) : Int)) = _
  rw [show (-100 : Int) + ((t + 100 : Nat) : Int) = (t : Int) by omega, pow2, Rat.intCast_one, Rat.one_mul]
theorem far2 (t j : Nat) (h1 : 4 ≤ j) (h2 : j < 8) : r2.mkOf ((4 * (t + 100) + j : Nat) : Int) = (((j * 2 ^ t : Nat) : Int) : Rat) := by
  rw [mkOf_nat, show 4 * (t + 100) + j = (t + 100) * r2.fr + j by show _ = (t + 100) * 4 + j; omega, mkN_parts r2_ok (by show j < 8; exact h2) (.inr (by show 4 ≤ j; exact h1))]
  show ((j : Int) : Rat) * ((2 : Nat) : Rat) ^ ((-100 : Int) + ((t + 100 : Nat) : Int)) = _
  rw [show (-100 : Int) + ((t + 100 : Nat) : Int) = (t : Int) by omega, pow2, ← Rat.intCast_mul, ← Int.natCast_mul]
theorem farN1 (t : Nat) : r1.far (t + 101) = t + 100 := by
  rw [show t + 101 = (t + 100) * r1.fr + 1 by show t + 101 = (t + 100) * 1 + 1; omega]
  exact far_parts r1_ok (by decide) (.inr (by decide))
theorem farN2 (t j : Nat) (h1 : 4 ≤ j) (h2 : j < 8) : r2.far (4 * (t + 100) + j) = t + 100 := by
  rw [show 4 * (t + 100) + j = (t + 100) * r2.fr + j by show _ = (t + 100) * 4 + j; omega]
  exact far_parts r2_ok (by show j < 8; exact h2) (.inr (by show 4 ≤ j; exact h1))
theorem pw2 {R : Ruler} (hb : R.b = 2) (hl : R.l = -100) (t : Nat) (ht : t ≤ 2100) : BQ 8000 (R.pw (R.l + ((t + 100 : Nat) : Int))) := by
  unfold Ruler.pw
  rw [hb, hl, show (-100 : Int) + ((t + 100 : Nat) : Int) = (t : Int) by omega, pow2]
  refine ⟨?_, ?_⟩
  · rw [Rat.num_intCast]
    exact bd_nat (Nat.pow_lt_pow_right (by decide) (by omega))
  · rw [Rat.den_intCast]
    exact bd_nat (by decide)
theorem bq_int {n : Nat} {k : Int} (h : k.natAbs < 2 ^ 2100) (hn : n = 2100) : BQ n (k : Rat) := by
  subst hn
  exact ⟨by rw [Rat.num_intCast]; exact h, by rw [Rat.den_intCast]; exact bd_nat (by decide)⟩
/-- what a rank's mark is, whether it is told -/
structure MA (R : Ruler) (k : Int) (x : Int) (g : Bool) : Prop where
  e : R.mkOf k = (x : Rat)
  b : BQ 2100 (x : Rat)
  m : ∀ {h : Hh} {Q : Vl → Hh → Prop} {E : XP}, (g = true → Q (.d (Rk.Q (x : Rat))) h) → (g = false → E "TooGreat" [] h) → Wp (m_mark_at [.d R.da, .d (.int k)] h) Q E
theorem ma_of {R : Ruler} {k x : Int} (O : R.Ok) (hb : R.b = 2) (hl : R.l = -100) {t : Nat} (hf : R.far k.natAbs = t + 100) (ht : t ≤ 2000) (e : R.mkOf k = (x : Rat)) (hx : x.natAbs < 2 ^ 2100) : MA R k x (decide (x.natAbs ≤ 10 ^ 600)) := by
  have bp := pw2 hb hl t (by omega)
  rw [← hf] at bp
  refine ⟨e, bq_int hx rfl, fun {h Q E} q1 q2 => ?_⟩
  by_cases z : x.natAbs ≤ 10 ^ 600
  · exact wp_markY O bp (by omega) e (by rw [Rat.num_intCast]; exact z) (by rw [Rat.den_intCast]; exact Nat.pow_pos (by decide)) (q1 (decide_eq_true z))
  · exact wp_markG O bp (by omega) e (by rw [Rat.num_intCast]; exact Nat.lt_of_not_le z) (q2 (decide_eq_false z))
structure FarR (R : Ruler) (d f : Int) where
  O : R.Ok
  d0 : 0 ≤ d
  f0 : 1 ≤ f
  f1 : f ≤ 100
  hi : MA R d HH true
  nh : MA R (0 - d) (0 - HH) true
  gr : MA R (d + f) (HH * 2) false
  ng : MA R (0 - (d + f)) (0 - HH * 2) false
  e2 : R.mkOf (d + f + f) = ((HH * 2 * 2 : Int) : Rat)
  p2 : BQ 8000 (R.pw (R.l + (R.far (d + f + f).natAbs : Int)))
  n2 : R.far (d + f + f).natAbs ≤ 2200
  e4 : R.mkOf (d + f + f + f) = ((HH * 2 * 4 : Int) : Rat)
  b4 : BQ 2100 ((HH * 2 * 4 : Int) : Rat)
  G : Int → Bool
  bt : ∀ (k : Int) {h : Hh} {Q : Vl → Hh → Prop} {E : XP}, d ≤ k → k ≤ d + f → (G k = true → Q (.d (Rk.Q (R.mkOf k))) h) → (G k = false → E "TooGreat" [] h) → Wp (m_mark_at [.d R.da, .d (.int k)] h) Q E
  gG : G (d + f) = false

/-! law_k07: far marks refused -/
theorem hh0 : HH = ((2 ^ 1993 : Nat) : Int) := by unfold HH; rw [Int.natCast_pow]; rfl
theorem hh1 : HH * 2 = ((2 ^ 1994 : Nat) : Int) := by rw [hh0, Nat.pow_succ 2 1993, Int.natCast_mul]; rfl
theorem hh2 : HH * 2 * 2 = ((2 ^ 1995 : Nat) : Int) := by rw [hh1, Nat.pow_succ 2 1994, Int.natCast_mul]; rfl
theorem hh4 : HH * 2 * 4 = ((2 ^ 1996 : Nat) : Int) := by rw [hh1, Nat.pow_succ 2 1995, Nat.pow_succ 2 1994, Int.natCast_mul, Int.natCast_mul, Int.mul_assoc]; rfl
theorem hb0 : decide (HH.natAbs ≤ 10 ^ 600) = true := by unfold HH; decide +kernel
theorem hb0n : decide ((0 - HH).natAbs ≤ 10 ^ 600) = true := by unfold HH; decide +kernel
theorem hb1 : decide ((HH * 2).natAbs ≤ 10 ^ 600) = false := by unfold HH; decide +kernel
theorem hb1n : decide ((0 - HH * 2).natAbs ≤ 10 ^ 600) = false := by unfold HH; decide +kernel
theorem hs0 : HH.natAbs < 2 ^ 2100 := by unfold HH; decide +kernel
theorem hs0n : (0 - HH).natAbs < 2 ^ 2100 := by unfold HH; decide +kernel
theorem hs1 : (HH * 2).natAbs < 2 ^ 2100 := by unfold HH; decide +kernel
theorem hs1n : (0 - HH * 2).natAbs < 2 ^ 2100 := by unfold HH; decide +kernel
theorem hs4 : (HH * 2 * 4).natAbs < 2 ^ 2100 := by unfold HH; decide +kernel
theorem neg_c {R : Ruler} (O : R.Ok) {k x : Int} (e : R.mkOf k = (x : Rat)) : R.mkOf (0 - k) = ((0 - x : Int) : Rat) := by
  rw [Int.zero_sub, Int.zero_sub, mkOf_neg O, e, Rat.intCast_neg]
theorem MA.to {R : Ruler} {k x : Int} {g : Bool} (M : MA R k x g) {h : Hh} {Q : Vl → Hh → Prop} {E : XP} (q1 : g = true → Q (.d (Rk.Q (R.mkOf k))) h) (q2 : g = false → E "TooGreat" [] h) : Wp (m_mark_at [.d R.da, .d (.int k)] h) Q E := M.m (fun z => by rw [← M.e]; exact q1 z) q2
noncomputable def F1 : FarR r1 2094 1 := by
  have e0 : r1.mkOf 2094 = ((HH : Int) : Rat) := by rw [hh0]; exact far1 1993
  have e1 : r1.mkOf (2094 + 1) = ((HH * 2 : Int) : Rat) := by rw [hh1]; exact far1 1994
  have m0 : MA r1 2094 HH true := by
    have := ma_of (R := r1) (k := 2094) (x := HH) (t := 1993) r1_ok rfl rfl (farN1 1993) (by decide) e0 hs0
    rw [hb0] at this
    exact this
  have m1 : MA r1 (2094 + 1) (HH * 2) false := by
    have := ma_of (R := r1) (k := 2094 + 1) (x := HH * 2) (t := 1994) r1_ok rfl rfl (farN1 1994) (by decide) e1 hs1
    rw [hb1] at this
    exact this
  refine { O := r1_ok, d0 := by decide, f0 := by decide, f1 := by decide, hi := m0, nh := ?_, gr := m1, ng := ?_, e2 := ?_, p2 := ?_, n2 := ?_, e4 := ?_, b4 := bq_int hs4 rfl, G := fun k => decide (k = 2094), bt := ?_, gG := by decide }
  · have := ma_of (R := r1) (k := 0 - 2094) (x := 0 - HH) (t := 1993) r1_ok rfl rfl (farN1 1993) (by decide) (neg_c r1_ok e0) hs0n
    rw [hb0n] at this
    exact this
  · have := ma_of (R := r1) (k := 0 - (2094 + 1)) (x := 0 - HH * 2) (t := 1994) r1_ok rfl rfl (farN1 1994) (by decide) (neg_c r1_ok e1) hs1n
    rw [hb1n] at this
    exact this
  · rw [hh2]; exact far1 1995
  · exact (farN1 1995) ▸ pw2 rfl rfl 1995 (by decide)
  · exact Nat.le_trans (Nat.le_of_eq (farN1 1995)) (by decide)
  · rw [hh4]; exact far1 1996
  · intro k h Q E k1 k2 q1 q2
    have : k = 2094 ∨ k = 2094 + 1 := by omega
    rcases this with rfl | rfl
    · exact m0.to (fun _ => q1 (by decide)) (fun z => by cases z)
    · exact m1.to (fun z => by cases z) (fun _ => q2 (by decide))
noncomputable def F2 : FarR r2 8368 4 := by
  have e0 : r2.mkOf 8368 = ((HH : Int) : Rat) := by
    rw [hh0, show (2 ^ 1993 : Nat) = 4 * 2 ^ 1991 by rw [show (1993 : Nat) = 1991 + 2 from rfl, Nat.pow_add, Nat.mul_comm]]
    exact far2 1991 4 (by decide) (by decide)
  have e1 : r2.mkOf (8368 + 4) = ((HH * 2 : Int) : Rat) := by
    rw [hh1, show (2 ^ 1994 : Nat) = 4 * 2 ^ 1992 by rw [show (1994 : Nat) = 1992 + 2 from rfl, Nat.pow_add, Nat.mul_comm]]
    exact far2 1992 4 (by decide) (by decide)
  have m0 : MA r2 8368 HH true := by
    have := ma_of (R := r2) (k := 8368) (x := HH) (t := 1991) r2_ok rfl rfl (farN2 1991 4 (by decide) (by decide)) (by decide) e0 hs0
    rw [hb0] at this
    exact this
  have m1 : MA r2 (8368 + 4) (HH * 2) false := by
    have := ma_of (R := r2) (k := 8368 + 4) (x := HH * 2) (t := 1992) r2_ok rfl rfl (farN2 1992 4 (by decide) (by decide)) (by decide) e1 hs1
    rw [hb1] at this
    exact this
  have mj : ∀ j : Nat, 5 ≤ j → j < 8 → MA r2 ((4 * (1991 + 100) + j : Nat) : Int) ((j * 2 ^ 1991 : Nat) : Int) false := fun j j1 j2 => by
    have := ma_of (R := r2) (k := ((4 * (1991 + 100) + j : Nat) : Int)) (x := ((j * 2 ^ 1991 : Nat) : Int)) (t := 1991) r2_ok rfl rfl (by rw [Int.natAbs_natCast]; exact farN2 1991 j (by omega) j2) (by decide) (far2 1991 j (by omega) j2) (by
      rw [Int.natAbs_natCast]
      refine Nat.lt_of_lt_of_le (Nat.mul_lt_mul_of_pos_right j2 (Nat.pow_pos (by decide))) ?_
      rw [show (8 : Nat) = 2 ^ 3 from rfl, ← Nat.pow_add]
      exact Nat.pow_le_pow_right (by decide) (by decide))
    rw [decide_eq_false (by
      rw [Int.natAbs_natCast]
      have h5 : 10 ^ 600 < 5 * 2 ^ 1991 := by decide +kernel
      exact Nat.not_le_of_lt (Nat.lt_of_lt_of_le h5 (Nat.mul_le_mul_right _ j1)))] at this
    exact this
  refine { O := r2_ok, d0 := by decide, f0 := by decide, f1 := by decide, hi := m0, nh := ?_, gr := m1, ng := ?_, e2 := ?_, p2 := ?_, n2 := ?_, e4 := ?_, b4 := bq_int hs4 rfl, G := fun k => decide (k = 8368), bt := ?_, gG := by decide }
  · have := ma_of (R := r2) (k := 0 - 8368) (x := 0 - HH) (t := 1991) r2_ok rfl rfl (farN2 1991 4 (by decide) (by decide)) (by decide) (neg_c r2_ok e0) hs0n
    rw [hb0n] at this
    exact this
  · have := ma_of (R := r2) (k := 0 - (8368 + 4)) (x := 0 - HH * 2) (t := 1992) r2_ok rfl rfl (farN2 1992 4 (by decide) (by decide)) (by decide) (neg_c r2_ok e1) hs1n
    rw [hb1n] at this
    exact this
  · rw [hh2, show (2 ^ 1995 : Nat) = 4 * 2 ^ 1993 by rw [show (1995 : Nat) = 1993 + 2 from rfl, Nat.pow_add, Nat.mul_comm]]
    exact far2 1993 4 (by decide) (by decide)
  · exact (farN2 1993 4 (by decide) (by decide)) ▸ pw2 rfl rfl 1993 (by decide)
  · exact Nat.le_trans (Nat.le_of_eq (farN2 1993 4 (by decide) (by decide))) (by decide)
  · rw [hh4, show (2 ^ 1996 : Nat) = 4 * 2 ^ 1994 by rw [show (1996 : Nat) = 1994 + 2 from rfl, Nat.pow_add, Nat.mul_comm]]
    exact far2 1994 4 (by decide) (by decide)
  · intro k h Q E k1 k2 q1 q2
    have : k = 8368 ∨ k = ((4 * (1991 + 100) + 5 : Nat) : Int) ∨ k = ((4 * (1991 + 100) + 6 : Nat) : Int) ∨ k = ((4 * (1991 + 100) + 7 : Nat) : Int) ∨ k = 8368 + 4 := by omega
    rcases this with rfl | rfl | rfl | rfl | rfl
    · exact m0.to (fun _ => q1 (by decide)) (fun z => by cases z)
    · exact (mj 5 (by decide) (by decide)).to (fun z => by cases z) (fun _ => q2 (by decide))
    · exact (mj 6 (by decide) (by decide)).to (fun z => by cases z) (fun _ => q2 (by decide))
    · exact (mj 7 (by decide) (by decide)).to (fun z => by cases z) (fun _ => q2 (by decide))
    · exact m1.to (fun z => by cases z) (fun _ => q2 (by decide))

/-! law_k07: the far rulers asked -/
section
variable {h : Hh} {Q : Vl → Hh → Prop} {E : XP} {R : Ruler} {k m x : Int}
theorem wp_besX {g : Bool} {y : Int} (O : R.Ok) (e : R.mkOf k = (x : Rat)) (b : BQ 2100 (x : Rat)) (M : MA R (k + m) y g) (q1 : g = true → Q (.d (Rk.Q (y : Rat))) h) (q2 : g = false → E "TooGreat" [] h) : Wp (m_beside [.d R.da, .d (Rk.Q (x : Rat)), .d (.int m)] h) Q E := by
  refine en_beside ?_
  unfold b_beside
  walk_at "w"
  refine wp_rankX O e.symm b ?_
  walk_at "w"
  refine M.m (fun z => ?_) (fun z => ?_)
  · walk_at "w"
    exact q1 z
  · rw [List.take_length]
    exact q2 z
theorem wp_manyX {y i j : Int} (O : R.Ok) (e : R.mkOf i = (x : Rat)) (b : BQ 2100 (x : Rat)) (e2 : R.mkOf j = (y : Rat)) (b2 : BQ 2100 (y : Rat)) (q : Q (.d (.int (max 0 (j - i + 1)))) h) : Wp (m_many_between [.d R.da, .d (Rk.Q (x : Rat)), .d (Rk.Q (y : Rat))] h) Q E := by
  refine en_many_between ?_
  unfold b_many_between
  walk_at "w"
  refine wp_rankX O e.symm b ?_
  walk_at "w"
  refine wp_rankX O e2.symm b2 ?_
  walk_at "w"
  exact q
theorem wp_midX {y z i j : Int} (O : R.Ok) (e : R.mkOf i = (x : Rat)) (b : BQ 2100 (x : Rat)) (e2 : R.mkOf j = (y : Rat)) (b2 : BQ 2100 (y : Rat)) (bp : BQ 8000 (R.pw (R.l + (R.far ((i + j) / 2).natAbs : Int)))) (hf : R.far ((i + j) / 2).natAbs ≤ 2200) (e3 : R.mkOf ((i + j) / 2) = (z : Rat)) (q : Q (.d (Rk.Q (z : Rat))) h) : Wp (m_middle_mark [.d R.da, .d (Rk.Q (x : Rat)), .d (Rk.Q (y : Rat))] h) Q E := by
  refine en_middle_mark ?_
  unfold b_middle_mark
  walk_at "w"
  refine wp_rankX O e.symm b ?_
  walk_at "w"
  refine wp_rankX O e2.symm b2 ?_
  walk_at "w"
  refine wp_ofrankX O bp hf e3 ?_
  walk_at "w"
  exact q
theorem wp_betX {y i j : Int} (O : R.Ok) (e : R.mkOf i = (x : Rat)) (b : BQ 2100 (x : Rat)) (e2 : R.mkOf j = (y : Rat)) (b2 : BQ 2100 (y : Rat)) (hm : j - i + 1 ≤ 5000) (G : Int → Bool)
    (B : ∀ (k : Int) {h : Hh} {Q : Vl → Hh → Prop} {E : XP}, i ≤ k → k ≤ j → (G k = true → Q (.d (Rk.Q (R.mkOf k))) h) → (G k = false → E "TooGreat" [] h) → Wp (m_mark_at [.d R.da, .d (.int k)] h) Q E)
    (hG : ∃ k, i ≤ k ∧ k ≤ j ∧ G k = false) (q : E "TooGreat" [] h) : Wp (m_marks_between [.d R.da, .d (Rk.Q (x : Rat)), .d (Rk.Q (y : Rat))] h) Q E := by
  refine en_marks_between ?_
  unfold b_marks_between
  walk_at "w"
  refine wp_manyX O e b e2 b2 ?_
  walk_at "w"
  refine wp_rankX O e.symm b ?_
  walk_at "w"
  refine wp_lcXr (List.range (max 0 (j - i + 1)).toNat) (fun t : Nat => .int (t : Int)) (fun t => Rk.Q (R.mkOf (i + t))) (fun t => G (i + t)) "TooGreat" [] (by walk_at "wipe") ?_
  walk_at "w"
  refine ⟨by simp [rngD], by rw [List.length_range]; omega, fun t ht h' => ?_, fun ha => ?_, fun hf o => ?_⟩
  · rw [List.mem_range] at ht
    walk_at "w"
    refine ⟨rfl, ?_⟩
    walk_at "w"
    exact B _ (by omega) (by omega) (fun hg => ⟨rfl, hg, rfl⟩) (fun hg => ⟨rfl, hg, rfl, rfl⟩)
  · obtain ⟨k, k1, k2, k3⟩ := hG
    rw [List.all_eq_true] at ha
    have := ha (k - i).toNat (List.mem_range.mpr (by omega))
    rw [show i + ((k - i).toNat : Int) = k by omega, k3] at this
    cases this
  · rw [List.take_left]
    exact q
theorem wp_ref0 {y : Int} {d : Da} (M : MA R k y false) (q : Q (.d (.bool true)) h) : Wp (m__law_is_refused [.d (.int 0), .d R.da, .d (.int k), .d d] h) Q E := by
  refine en__law_is_refused ?_
  unfold b__law_is_refused
  walk_at "w"
  refine M.m (fun z => by cases z) (fun _ => ?_)
  walk_at "w"
  exact q
theorem wp_ref1 {y : Int} (O : R.Ok) (e : R.mkOf k = (x : Rat)) (b : BQ 2100 (x : Rat)) (M : MA R (k + m) y false) (q : Q (.d (.bool true)) h) : Wp (m__law_is_refused [.d (.int 1), .d R.da, .d (Rk.Q (x : Rat)), .d (.int m)] h) Q E := by
  refine en__law_is_refused ?_
  unfold b__law_is_refused
  walk_at "w"
  refine wp_besX O e b M (fun z => by cases z) (fun _ => ?_)
  walk_at "w"
  exact q
theorem wp_ref2 {y i j : Int} (O : R.Ok) (e : R.mkOf i = (x : Rat)) (b : BQ 2100 (x : Rat)) (e2 : R.mkOf j = (y : Rat)) (b2 : BQ 2100 (y : Rat)) (hm : j - i + 1 ≤ 5000) (G : Int → Bool)
    (B : ∀ (k : Int) {h : Hh} {Q : Vl → Hh → Prop} {E : XP}, i ≤ k → k ≤ j → (G k = true → Q (.d (Rk.Q (R.mkOf k))) h) → (G k = false → E "TooGreat" [] h) → Wp (m_mark_at [.d R.da, .d (.int k)] h) Q E)
    (hG : ∃ k, i ≤ k ∧ k ≤ j ∧ G k = false) (q : Q (.d (.bool true)) h) : Wp (m__law_is_refused [.d (.int 2), .d R.da, .d (Rk.Q (x : Rat)), .d (Rk.Q (y : Rat))] h) Q E := by
  refine en__law_is_refused ?_
  unfold b__law_is_refused
  walk_at "w"
  refine wp_betX O e b e2 b2 hm G B hG ?_
  walk_at "w"
  exact q
end
theorem tq_k1 {k : Int} {h : Hh} {Q : Vl → Hh → Prop} (q : Q (.d (Rk.Q (k : Rat))) h) : TupK [.d (.int k), .d (.int 1)] h Q := tupk2 (by rw [Q_k1]; exact q)
local macro_rules | `(tactic| walk_at "tupq") => `(tactic| refine tq_k1 ?_)
theorem bdH : Bd 2000 HH := by unfold Bd HH; decide +kernel
theorem bdH2 : Bd 2000 (HH * 2) := by unfold Bd HH; decide +kernel
local macro_rules | `(tactic| walk_at "bd") => `(tactic| with_reducible first | exact bdH | exact bdH2)
theorem w_far {R : Ruler} {d f : Int} {h : Hh} {o1 o6 : Option Vl} {N : En → Hh → Prop} {D : Ds} (F : FarR R d f) (q : ∀ o6, N [some (.d (.int HH)), o1, some (.d (.int (HH * 2))), some (.d R.da), some (.d (.int d)), some (.d (.int f)), o6] h) :
    Ws (bl__law_far_right_3 [some (.d (.int HH)), o1, some (.d (.int (HH * 2))), some (.d R.da), some (.d (.int d)), some (.d (.int f)), o6] h) N D := by
  obtain ⟨R', B', C, X⟩ := D
  have O := F.O
  have ef : d + f - f = d := by omega
  unfold bl__law_far_right_3
  walk_at "w"
  refine wp_rankX O F.hi.e.symm F.hi.b ?_
  walk_at "w"
  refine F.hi.m (fun _ => ?_) (fun z => by cases z)
  walk_at "w"
  refine F.nh.m (fun _ => ?_) (fun z => by cases z)
  walk_at "w"
  refine wp_ref0 F.gr ?_
  walk_at "w"
  refine wp_ref1 O F.hi.e F.hi.b F.gr ?_
  walk_at "w"
  refine wp_ref1 O F.nh.e F.nh.b (y := 0 - HH * 2) (by rw [show 0 - d + (0 - f) = 0 - (d + f) by omega]; exact F.ng) ?_
  walk_at "w"
  have f0 := F.f0
  have f1 := F.f1
  unfold bl__law_far_right_2
  walk_at "w"
  refine wp_ref2 O F.hi.e F.hi.b F.gr.e F.gr.b (by omega) F.G F.bt ⟨d + f, by omega, by omega, F.gG⟩ ?_
  walk_at "w"
  refine wp_ref2 O F.gr.e F.gr.b F.gr.e F.gr.b (by omega) F.G (fun k h Q E k1 k2 => F.bt k (by omega) k2) ⟨d + f, by omega, by omega, F.gG⟩ ?_
  walk_at "w"
  have mk : R.rnd ((HH * 2 : Int) : Rat) = ((HH * 2 : Int) : Rat) := by
    have b := F.gr.b
    rw [← F.gr.e] at b
    have := mkOf_mark O (d + f) b
    rw [F.gr.e] at this
    exact this
  refine wp_need_mark O (F.gr.b.mono (by decide)) mk ?_
  walk_at "w"
  refine wp_rankX O F.gr.e.symm F.gr.b ?_
  walk_at "w"
  refine wp_besX O F.gr.e F.gr.b (y := HH) (g := true) (by rw [show d + f + (0 - f) = d by omega]; exact F.hi) (fun _ => ?_) (fun z => by cases z)
  walk_at "w"
  refine wp_manyX O F.hi.e F.hi.b F.gr.e F.gr.b ?_
  walk_at "w"
  have em : (d + f + (d + f + f + f)) / 2 = d + f + f := by omega
  refine wp_midX O F.gr.e F.gr.b F.e4 F.b4 (by rw [em]; exact F.p2) (by rw [em]; exact F.n2) (z := HH * 2 * 2) (by rw [em]; exact F.e2) ?_
  walk_at "w"
  exact q _

/-! law_k07: the end -/
theorem wp_far {h : Hh} {Q : Vl → Hh → Prop} {E : XP} (q : Q (.d (.bool true)) h) : Wp (m__law_far_right [] h) Q E := by
  refine en__law_far_right ?_
  unfold b__law_far_right bl__law_far_right_1
  walk_at "w"
  refine forK_inv (fun k ρ h' => h' = h ∧ ∃ o1, ρ = [some (.d (.int ((2 ^ k : Nat) : Int))), o1, none, none, none, none, none]) ⟨rfl, none, rfl⟩ ?_ ?_
  · rintro k d ρ1 h1 ek ⟨rfl, o1, rfl⟩
    obtain ⟨rfl, hk⟩ := rng_get ek
    have bk : Bd 2000 ((2 ^ k : Nat) : Int) := bd_nat (Nat.pow_lt_pow_right (by decide) (by omega))
    walk_at "w"
    exact ⟨rfl, _, by rw [Nat.pow_succ 2 k, Int.natCast_mul]; rfl⟩
  · rintro ρ1 h1 ⟨rfl, o1, rfl⟩
    rw [show (rngD 0 (1993 : Int).toNat).length = 1993 by simp [rngD], ← hh0]
    walk_at "w"
    refine w_far (R := r1) F1 (fun o6 => ?_)
    walk_at "w"
    rw [show ((4 : Int) * 2091 + 4) = 8368 by decide]
    refine w_far (R := r2) F2 (fun o6 => ?_)
    walk_at "w"
    exact q
theorem pick7 (ns : List Int) : ∃ cs : List Int, pickG (ns.map PyData.int ++ [PyData.int 0]) none (some 63) (some 3) = cs.map PyData.int ∧ cs.length ≤ ns.length + 1 := by
  refine ⟨pickG (ns ++ [0]) none (some 63) (some 3), ?_, ?_⟩
  · rw [← pick_map, List.map_append]
    rfl
  · have := pick_len (ns ++ [0]) none (some 63) (some 3)
    rw [List.length_append] at this
    exact this
theorem law_true (ns : List Int) (hl : ns.length ≤ 63) : m_law [.d (.list (ns.map PyData.int))] [] = .ok (.d (.bool true)) [] := by
  refine eq_of_wp ?_
  refine en_law ?_
  unfold b_law
  obtain ⟨cs, ec, lc⟩ := pick7 ns
  walk_at "w"
  any_goals (with_reducible refine wp_far ?_; walk_at "w")
  all_goals
    refine wo_stL (fun z => by cases z) (by rw [ec, List.length_map]; omega) ?_
    rw [ec]
    walk_at "w"
    refine forK_inv (fun _ ρ _ => ∃ o2 o3 o4 o5 o6 o7 o8 o9 o10 o11 o12 o13 o14 : Option Vl, ρ = [some (.d (.list (ns.map PyData.int))), some (.d (.bool (decide (((ns.map PyData.int).length : Int) % 4 = 0)))), o2, o3, o4, o5, o6, o7, o8, o9, o10, o11, o12, o13, o14]) ⟨_, _, _, _, _, _, _, _, _, _, _, _, _, rfl⟩ ?_ ?_
    · rintro k d ρ1 h1 ek ⟨o2, o3, o4, o5, o6, o7, o8, o9, o10, o11, o12, o13, o14, rfl⟩
      rw [List.getElem?_mapIdx, List.getElem?_map] at ek
      cases hc : cs[k]? with
      | none => rw [hc] at ek; cases ek
      | some c =>
        rw [hc] at ek
        cases ek
        have hk : k < 64 := by
          have := (List.getElem?_eq_some_iff.mp hc).1
          omega
        walk_at "w"
        exact w_cell7 hl hk fun h' _ _ _ _ _ _ _ _ _ _ _ => ⟨_, _, _, _, _, _, _, _, _, _, _, _, _, rfl⟩
    · rintro ρ1 h1 ⟨o2, o3, o4, o5, o6, o7, o8, o9, o10, o11, o12, o13, o14, rfl⟩
      walk_at "w"
      exact retK_nil ⟨rfl, rfl⟩

end Lw
open PySem PySem.W PySem.Calls PyProof.Rows
theorem PySem.Challenge.cw_roundsure_k07_marks_in_order_holds : PySem.Challenge.rw_roundsure_k07_marks_in_order.Holds := by
  w_on; o_law
  refine HandSHeadRun.head_any (r := OpenLaw.row PySem.Challenge.rw_roundsure_k07_marks_in_order) (q := view (OpenLaw.row PySem.Challenge.rw_roundsure_k07_marks_in_order).prog [56]) (H := Lw.hk) (ob := Lw.ob) (M := 40000) (loose := Lw.loose) (d := HandSHeadRun.topDef (OpenLaw.row PySem.Challenge.rw_roundsure_k07_marks_in_order).prog 56) (kwd := []) Lw.ob_eq
    (by kernel_rfl) (fun s => by kernel_rfl) Lw.run (by kernel_rfl) (by kernel_rfl) (by kernel_rfl) (by rfl) (by first | assumption | decide +kernel) (by decide +kernel) ⟨rfl, rfl, rfl, rfl, rfl, by decide +kernel⟩ ?hw ?hc
  case hw => w_witness2
  case hc =>
    refine Rk.walkG (l := PySem.Challenge.rw_roundsure_k07_marks_in_order) (n := 63) (k := 13) (x := "_law_script") rfl (by decide) (by kernel_rfl) ⟨⟨rfl, by decide, by decide⟩, rfl⟩ ?F
    intro w mg fa h Y G hmg0
    obtain ⟨K, KX, c⟩ := Y
    have hmg : mg ("law" : PySem.Str) = some (.ref fa) := by
      have e : (HandSHeadRun.topDef (OpenLaw.row PySem.Challenge.rw_roundsure_k07_marks_in_order).prog 56).name = ("law" : PySem.Str) := by kernel_rfl
      rw [← e]
      exact hmg0
    obtain ⟨fd, hb, hF⟩ := Lw.facts (P := (PySem.Challenge.rw_roundsure_k07_marks_in_order).prog) (w := w) KX G hmg c
    exact ⟨K, fd, Rk.spF K mg Lw.m_law, KX, hb, fun H a ns hl _ hS => Rk.law_sp hS (Lw.law_true ns hl), hF⟩
#print axioms PySem.Challenge.cw_roundsure_k07_marks_in_order_holds
