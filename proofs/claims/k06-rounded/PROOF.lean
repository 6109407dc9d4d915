import PyProof.Rows.All
import Wide.All
import OpenK.AllK
import Wide.FinOn
import KE.KStateDown
import HandS.ForMost
import HandS.Exc
import HandS.ExcOwn
import HandS.TryOnly
import HandS.WordsExc
import HandS.CallSlots
import HandS.Wide
import HandS.WideBits
import HandS.IsInst
import HandS.Flow
import HandS.TupAny
import HandS.Style
import HandS.Deep
import HandS.Zip
import HandS.Comp
import HandS.Defaults
import HandS.Head0
import HandS.Head1
import HandS.Head2
import HandS.HeadEnd
import HandS.HeadHook1
import HandS.HeadHook2
import PySem.Challenge.RW_roundsure_k06_rounded
set_option Elab.async false
set_option linter.all false
set_option maxRecDepth 100000
set_option maxHeartbeats 4000000
set_option autoImplicit false
/-! Rk0: pure data, an abstract heap of lists and dicts by number, outcomes; what stands for what. -/
namespace Rk
open PySem PySem.Spec L2

abbrev Da := PyData
/-- an object that changes, by its number -/
inductive Ob where
  | lst (xs : List Da)
  | dct (kvs : List (Key × Da))
/-- a value: data, an object by its number, an error that was caught -/
inductive Vl where
  | d (x : Da)
  | r (n : Nat)
  | x (c : Str) (fs : List (Str × Da))
abbrev Hh := List (Option Ob)
inductive Out (α : Type) where
  | ok (a : α) (h : Hh)
  | ex (c : Str) (fs : List (Str × Da)) (h : Hh)
  | no
abbrev En := List (Option Vl)
inductive So where
  | nx (ρ : En) (h : Hh)
  | rt (v : Vl) (h : Hh)
  | bk (ρ : En) (h : Hh)
  | ct (ρ : En) (h : Hh)
  | ex (c : Str) (fs : List (Str × Da)) (ρ : En) (h : Hh)
  | no
def Out.bind {α β : Type} : Out α → (α → Hh → Out β) → Out β
  | .ok a h, f => f a h
  | .ex c fs h, _ => .ex c fs h
  | .no, _ => .no
theorem Out.bind_ok {α β : Type} (a : α) (h : Hh) (f : α → Hh → Out β) : (Out.ok a h).bind f = f a h := rfl
theorem Out.bind_ex {α β : Type} (c : Str) (fs : List (Str × Da)) (h : Hh) (f : α → Hh → Out β) : (Out.ex c fs h).bind f = .ex c fs h := rfl
theorem Out.bind_no {α β : Type} (f : α → Hh → Out β) : (Out.no : Out α).bind f = .no := rfl
abbrev Ev := En → Hh → Out Vl
abbrev Tv := En → Hh → Out Bool
abbrev Av := En → Hh → Out (List Vl)
abbrev Sv := En → Hh → So
abbrev Fn := List Vl → Hh → Out Vl

/-! ### what stands for what -/
def KT (K : PySem.W.Frag) (a : Addr) (xs : List V) : Prop :=
  ∃ (o : Obj) (its : Array Value) (n : Nat), K.lookup a = some o ∧ o.cls = .type "tuple" ∧ o.data = .seq its n ∧ its.size ≤ sizeLine ∧ Vals xs its.toList
def KL (K : PySem.W.Frag) (a : Addr) (xs : List V) : Prop :=
  ∃ (o : Obj) (its : Array Value) (n : Nat), K.lookup a = some o ∧ o.cls = .type "list" ∧ o.dict = none ∧ o.data = .seq its n ∧ its.size ≤ sizeLine ∧ Vals xs its.toList
mutual
inductive Rep (K : PySem.W.Frag) (H : Hp) (M : Addr → Prop) : V → Da → Prop
  | non : Rep K H M .non .none
  | bl (b : Bool) : Rep K H M (.bl b) (.bool b)
  | int (i : Int) : Rep K H M (.int i) (.int i)
  | str (x : Str) : Rep K H M (.str x) (.str x)
  | tup {a : Addr} {xs : List V} {ds : List Da} : Rd H a (.tup xs) → ¬ M a → Reps K H M xs ds → Rep K H M (.ref a) (.tuple ds)
  | tupK {a : Addr} {xs : List V} {ds : List Da} : KT K a xs → Reps K H M xs ds → Rep K H M (.ref a) (.tuple ds)
  | lst {a : Addr} {xs : List V} {ds : List Da} : Rd H a (.lst xs) → ¬ M a → Reps K H M xs ds → Rep K H M (.ref a) (.list ds)
  | lstK {a : Addr} {xs : List V} {ds : List Da} : KL K a xs → Reps K H M xs ds → Rep K H M (.ref a) (.list ds)
inductive Reps (K : PySem.W.Frag) (H : Hp) (M : Addr → Prop) : List V → List Da → Prop
  | nil : Reps K H M [] []
  | cons {v : V} {vs : List V} {d : Da} {ds : List Da} : Rep K H M v d → Reps K H M vs ds → Reps K H M (v :: vs) (d :: ds)
end
/-- what is not M stands still -/
def Stay (H : Hp) (M : Addr → Prop) (H' : Hp) (M' : Addr → Prop) : Prop := ∀ a o, H a = some o → ¬ M a → H' a = some o ∧ ¬ M' a
theorem Stay.rd {H H' : Hp} {M M' : Addr → Prop} (s : Stay H M H' M') {a : Addr} {u : HO} (h : Rd H a u) (n : ¬ M a) : Rd H' a u ∧ ¬ M' a := by
  rcases h with h | ⟨o, h⟩
  · exact ⟨.inl (s a _ h n).1, (s a _ h n).2⟩
  · exact ⟨.inr ⟨o, (s a _ h n).1⟩, (s a _ h n).2⟩
mutual
theorem Rep.stay {K : PySem.W.Frag} {H H' : Hp} {M M' : Addr → Prop} (s : Stay H M H' M') : ∀ {v : V} {d : Da}, Rep K H M v d → Rep K H' M' v d
  | _, _, .non => .non
  | _, _, .bl b => .bl b
  | _, _, .int i => .int i
  | _, _, .str x => .str x
  | _, _, .tup h n r => .tup (s.rd h n).1 (s.rd h n).2 (Reps.stay s r)
  | _, _, .tupK h r => .tupK h (Reps.stay s r)
  | _, _, .lst h n r => .lst (s.rd h n).1 (s.rd h n).2 (Reps.stay s r)
  | _, _, .lstK h r => .lstK h (Reps.stay s r)
theorem Reps.stay {K : PySem.W.Frag} {H H' : Hp} {M M' : Addr → Prop} (s : Stay H M H' M') : ∀ {v : List V} {d : List Da}, Reps K H M v d → Reps K H' M' v d
  | _, _, .nil => .nil
  | _, _, .cons r t => .cons (Rep.stay s r) (Reps.stay s t)
end
theorem Stay.refl (H : Hp) (M : Addr → Prop) : Stay H M H M := fun _ _ h n => ⟨h, n⟩
theorem Stay.trans {H H1 H2 : Hp} {M M1 M2 : Addr → Prop} (a : Stay H M H1 M1) (b : Stay H1 M1 H2 M2) : Stay H M H2 M2 := fun x o h n => b x o (a x o h n).1 (a x o h n).2
section
variable {K : PySem.W.Frag} {H : Hp} {M : Addr → Prop}
theorem Reps.length : ∀ {vs : List V} {ds : List Da}, Reps K H M vs ds → vs.length = ds.length
  | _, _, .nil => rfl
  | _, _, .cons _ t => by rw [List.length_cons, List.length_cons, Reps.length t]
theorem Reps.get : ∀ {vs : List V} {ds : List Da} {i : Nat} {d : Da}, Reps K H M vs ds → ds[i]? = some d → ∃ v, vs[i]? = some v ∧ Rep K H M v d
  | _, _, _, _, .nil, h => by simp at h
  | _, _, 0, _, .cons r _, h => by
    have e := Option.some.inj h
    subst e
    exact ⟨_, rfl, r⟩
  | _, _, i + 1, _, .cons _ t, h => by
    obtain ⟨v, e, r⟩ := Reps.get (i := i) t h
    exact ⟨v, e, r⟩
theorem Reps.append : ∀ {vs ws : List V} {ds es : List Da}, Reps K H M vs ds → Reps K H M ws es → Reps K H M (vs ++ ws) (ds ++ es)
  | _, _, _, _, .nil, s => s
  | _, _, _, _, .cons r t, s => .cons r (Reps.append t s)
theorem Reps.take : ∀ {vs : List V} {ds : List Da} (n : Nat), Reps K H M vs ds → Reps K H M (vs.take n) (ds.take n)
  | _, _, 0, _ => .nil
  | _, _, _ + 1, .nil => .nil
  | _, _, n + 1, .cons r t => .cons r (Reps.take n t)
theorem Reps.drop : ∀ {vs : List V} {ds : List Da} (n : Nat), Reps K H M vs ds → Reps K H M (vs.drop n) (ds.drop n)
  | _, _, 0, s => s
  | _, _, _ + 1, .nil => .nil
  | _, _, n + 1, .cons _ t => Reps.drop n t
theorem Reps.set {v : V} {d : Da} (r : Rep K H M v d) : ∀ {vs : List V} {ds : List Da} (i : Nat), Reps K H M vs ds → Reps K H M (vs.set i v) (ds.set i d)
  | _, _, _, .nil => .nil
  | _, _, 0, .cons _ t => .cons r t
  | _, _, i + 1, .cons q t => .cons q (Reps.set r i t)
theorem Rep.sqT {a : Addr} {ds : List Da} (r : Rep K H M (.ref a) (.tuple ds)) : ∃ xs, SqT K H a xs ∧ Reps K H M xs ds := by
  cases r with
  | tup h _ r => exact ⟨_, .inl h, r⟩
  | tupK h r => exact ⟨_, .inr h, r⟩
theorem Rep.sqL {a : Addr} {ds : List Da} (r : Rep K H M (.ref a) (.list ds)) : ∃ xs, SqL K H a xs ∧ Reps K H M xs ds := by
  cases r with
  | lst h _ r => exact ⟨_, .inl h, r⟩
  | lstK h r => exact ⟨_, .inr h, r⟩
end
/-- the constants of the top: the same whatever the heap -/
def KRep (K : PySem.W.Frag) (v : V) (d : Da) : Prop := ∀ H M, Rep K H M v d

/-! ### the abstract heap's objects, where they stand -/
def Live (φ : List Addr) (h : Hh) (a : Addr) : Prop := ∃ (i : Nat) (o : Ob), φ[i]? = some a ∧ h[i]? = some (some o)
inductive KvRep (K : PySem.W.Frag) (H : Hp) (M : Addr → Prop) : List (Key × V) → List (Key × Da) → Prop
  | nil : KvRep K H M [] []
  | cons {k : Key} {v : V} {vs : List (Key × V)} {d : Da} {ds : List (Key × Da)} : Rep K H M v d → KvRep K H M vs ds → KvRep K H M ((k, v) :: vs) ((k, d) :: ds)
theorem KvRep.stay {K : PySem.W.Frag} {H H' : Hp} {M M' : Addr → Prop} (s : Stay H M H' M') : ∀ {vs : List (Key × V)} {ds : List (Key × Da)}, KvRep K H M vs ds → KvRep K H' M' vs ds
  | _, _, .nil => .nil
  | _, _, .cons r t => .cons (r.stay s) (KvRep.stay s t)
def ORep (K : PySem.W.Frag) (H : Hp) (M : Addr → Prop) (a : Addr) : Ob → Prop
  | .lst ds => ∃ xs, H a = some (.lst xs) ∧ Reps K H M xs ds
  | .dct kds => ∃ kvs, H a = some (.dK kvs) ∧ KvRep K H M kvs kds
structure Sim (K : PySem.W.Frag) (φ : List Addr) (h : Hh) (H : Hp) : Prop where
  len : φ.length = h.length
  inj : ∀ (i j : Nat) (a : Addr) (o o' : Ob), φ[i]? = some a → φ[j]? = some a → h[i]? = some (some o) → h[j]? = some (some o') → i = j
  ob : ∀ (i : Nat) (o : Ob), h[i]? = some (some o) → ∃ a, φ[i]? = some a ∧ ORep K H (Live φ h) a o
structure Step (φ : List Addr) (h : Hh) (H : Hp) (φ' : List Addr) (h' : Hh) (H' : Hp) : Prop where
  pre : φ <+: φ'
  st : Stay H (Live φ h) H' (Live φ' h')
theorem Step.refl (φ : List Addr) (h : Hh) (H : Hp) : Step φ h H φ h H := ⟨List.prefix_refl φ, Stay.refl _ _⟩
theorem Step.trans {φ φ1 φ2 : List Addr} {h h1 h2 : Hh} {H H1 H2 : Hp} (a : Step φ h H φ1 h1 H1) (b : Step φ1 h1 H1 φ2 h2 H2) : Step φ h H φ2 h2 H2 := ⟨a.pre.trans b.pre, a.st.trans b.st⟩
theorem pre_get {φ φ' : List Addr} (p : φ <+: φ') {n : Nat} {a : Addr} (e : φ[n]? = some a) : φ'[n]? = some a := by
  obtain ⟨t, rfl⟩ := p
  rw [List.getElem?_append_left (List.getElem?_eq_some_iff.mp e).1]
  exact e
/-- the own dict of a caught error, its fields -/
inductive FsRep (K : PySem.W.Frag) (H : Hp) (M : Addr → Prop) : List (Str × V) → List (Str × Da) → Prop
  | nil : FsRep K H M [] []
  | cons {k : Str} {v : V} {vs : List (Str × V)} {d : Da} {ds : List (Str × Da)} : Rep K H M v d → FsRep K H M vs ds → FsRep K H M ((k, v) :: vs) ((k, d) :: ds)
theorem FsRep.stay {K : PySem.W.Frag} {H H' : Hp} {M M' : Addr → Prop} (s : Stay H M H' M') : ∀ {vs : List (Str × V)} {ds : List (Str × Da)}, FsRep K H M vs ds → FsRep K H' M' vs ds
  | _, _, .nil => .nil
  | _, _, .cons r t => .cons (r.stay s) (FsRep.stay s t)
/-- an error in the air: its class by its name, its fields -/
structure XRep (K : PySem.W.Frag) (mg : Str → Option Value) (H : Hp) (M : Addr → Prop) (c : Str) (fs : List (Str × Da)) (cls : Value) (dd : Option Addr) : Prop where
  cl : mg c = some cls
  no : fs = [] → dd = none
  yes : fs ≠ [] → ∃ a vs, dd = some a ∧ H a = some (.xd vs) ∧ ¬ M a ∧ FsRep K H M vs fs
/-- a value of the def's -/
def VRep (K : PySem.W.Frag) (φ : List Addr) (h : Hh) (H : Hp) (v : V) : Vl → Prop
  | .d x => Rep K H (Live φ h) v x
  | .r n => ∃ a, φ[n]? = some a ∧ v = .ref a
  | .x _ _ => False
theorem VRep.step {K : PySem.W.Frag} {φ φ' : List Addr} {h h' : Hh} {H H' : Hp} {v : V} {x : Vl} (s : Step φ h H φ' h' H') (r : VRep K φ h H v x) : VRep K φ' h' H' v x := by
  cases x with
  | d x => exact Rep.stay s.st r
  | r n =>
    obtain ⟨a, e, rfl⟩ := r
    exact ⟨a, pre_get s.pre e, rfl⟩
  | x c fs => exact r.elim
inductive VReps (K : PySem.W.Frag) (φ : List Addr) (h : Hh) (H : Hp) : List V → List Vl → Prop
  | nil : VReps K φ h H [] []
  | cons {v : V} {vs : List V} {x : Vl} {xs : List Vl} : VRep K φ h H v x → VReps K φ h H vs xs → VReps K φ h H (v :: vs) (x :: xs)
theorem VReps.step {K : PySem.W.Frag} {φ φ' : List Addr} {h h' : Hh} {H H' : Hp} (s : Step φ h H φ' h' H') : ∀ {vs : List V} {xs : List Vl}, VReps K φ h H vs xs → VReps K φ' h' H' vs xs
  | _, _, .nil => .nil
  | _, _, .cons r t => .cons (r.step s) (VReps.step s t)
theorem VReps.length {K : PySem.W.Frag} {φ : List Addr} {h : Hh} {H : Hp} : ∀ {vs : List V} {xs : List Vl}, VReps K φ h H vs xs → vs.length = xs.length
  | _, _, .nil => rfl
  | _, _, .cons _ t => by rw [List.length_cons, List.length_cons, VReps.length t]
/-- the slots -/
structure ERep (K : PySem.W.Frag) (φ : List Addr) (h : Hh) (H : Hp) (σ : St) (ρ : En) : Prop where
  len : σ.length = ρ.length
  at_ : ∀ (i : Nat) (v : Vl), ρ[i]? = some (some v) → ∃ x, σ[i]? = some (some x) ∧ VRep K φ h H x v
theorem ERep.step {K : PySem.W.Frag} {φ φ' : List Addr} {h h' : Hh} {H H' : Hp} {σ : St} {ρ : En} (s : Step φ h H φ' h' H') (r : ERep K φ h H σ ρ) : ERep K φ' h' H' σ ρ :=
  ⟨r.len, fun i v e => let ⟨x, e1, q⟩ := r.at_ i v e; ⟨x, e1, q.step s⟩⟩
theorem ERep.set {K : PySem.W.Frag} {φ : List Addr} {h : Hh} {H : Hp} {σ : St} {ρ : En} {i : Nat} {x : V} {v : Vl} (r : ERep K φ h H σ ρ) (q : VRep K φ h H x v) : ERep K φ h H (σ.set i (some x)) (ρ.set i (some v)) := by
  refine ⟨by rw [List.length_set, List.length_set, r.len], fun j w e => ?_⟩
  by_cases hj : i = j
  · subst hj
    have hl : i < ρ.length := by
      have := (List.getElem?_eq_some_iff.mp e).1
      rw [List.length_set] at this
      exact this
    rw [List.getElem?_set_self hl] at e
    have e' := Option.some.inj (Option.some.inj e)
    subst e'
    exact ⟨x, by rw [List.getElem?_set_self (by rw [r.len]; exact hl)], q⟩
  · rw [List.getElem?_set_ne hj] at e
    obtain ⟨y, e1, q1⟩ := r.at_ j w e
    exact ⟨y, by rw [List.getElem?_set_ne hj]; exact e1, q1⟩

/-! ### readings made of outcomes -/
section
variable (K : PySem.W.Frag) (mg : Str → Option Value)
/-- behind an outcome: Q of a value -/
def PoV (φ : List Addr) (h : Hh) (H : Hp) (o : Out Vl) (Q : VK) : Prop := match o with
  | .ok v h' => ∀ x H' φ', Step φ h H φ' h' H' → Sim K φ' h' H' → VRep K φ' h' H' x v → Q x H'
  | _ => False
def PoX (φ : List Addr) (h : Hh) (H : Hp) (o : Out Vl) (Q : VK) (E : XK) : Prop := match o with
  | .ok v h' => ∀ x H' φ', Step φ h H φ' h' H' → Sim K φ' h' H' → VRep K φ' h' H' x v → Q x H'
  | .ex c fs h' => ∀ cls dd H' φ', Step φ h H φ' h' H' → Sim K φ' h' H' → XRep K mg H' (Live φ' h') c fs cls dd → E cls dd H'
  | .no => False
def PoT (φ : List Addr) (h : Hh) (H : Hp) (o : Out Bool) (Q : Bool → Hp → Prop) (E : XK) : Prop := match o with
  | .ok b h' => ∀ H' φ', Step φ h H φ' h' H' → Sim K φ' h' H' → Q b H'
  | .ex c fs h' => ∀ cls dd H' φ', Step φ h H φ' h' H' → Sim K φ' h' H' → XRep K mg H' (Live φ' h') c fs cls dd → E cls dd H'
  | .no => False
def PoA (φ : List Addr) (h : Hh) (H : Hp) (o : Out (List Vl)) (Q : List V → Hp → Prop) (E : XK) : Prop := match o with
  | .ok vs h' => ∀ xs H' φ', Step φ h H φ' h' H' → Sim K φ' h' H' → VReps K φ' h' H' xs vs → Q xs H'
  | .ex c fs h' => ∀ cls dd H' φ', Step φ h H φ' h' H' → Sim K φ' h' H' → XRep K mg H' (Live φ' h') c fs cls dd → E cls dd H'
  | .no => False
def PoS (φ : List Addr) (h : Hh) (H : Hp) (o : So) (D : Ends) (W : WX) : Prop := match o with
  | .nx ρ h' => ∀ σ' H' φ', Step φ h H φ' h' H' → Sim K φ' h' H' → ERep K φ' h' H' σ' ρ → D.nx σ' H'
  | .bk ρ h' => ∀ σ' H' φ', Step φ h H φ' h' H' → Sim K φ' h' H' → ERep K φ' h' H' σ' ρ → D.bk σ' H'
  | .ct ρ h' => ∀ σ' H' φ', Step φ h H φ' h' H' → Sim K φ' h' H' → ERep K φ' h' H' σ' ρ → D.ct σ' H'
  | .rt v h' => ∀ x H' φ', Step φ h H φ' h' H' → Sim K φ' h' H' → VRep K φ' h' H' x v → D.rt x H'
  | .ex c fs ρ h' => ∀ cls dd σ' H' φ', Step φ h H φ' h' H' → Sim K φ' h' H' → ERep K φ' h' H' σ' ρ → XRep K mg H' (Live φ' h') c fs cls dd → W cls dd σ' H'
  | .no => False
def tE (W : WX) (f : Ev) : TE := fun σ H Q => ∃ φ h ρ, Sim K φ h H ∧ ERep K φ h H σ ρ ∧ PoX K mg φ h H (f ρ h) Q (WE W σ)
def tT (W : WX) (f : Tv) : TT := fun σ H Q => ∃ φ h ρ, Sim K φ h H ∧ ERep K φ h H σ ρ ∧ PoT K mg φ h H (f ρ h) Q (WE W σ)
def tA (W : WX) (f : Av) : TA := fun σ H Q => ∃ φ h ρ, Sim K φ h H ∧ ERep K φ h H σ ρ ∧ PoA K mg φ h H (f ρ h) Q (WE W σ)
def tS (W : WX) (f : Sv) : TS := fun D σ H => ∃ φ h ρ, Sim K φ h H ∧ ERep K φ h H σ ρ ∧ PoS K mg φ h H (f ρ h) D W
end
/-- the judgements: X's code e means f; W: what is wished of errors -/
def EE (X : Cx) (W : WX) (e : Expr) (f : Ev) : Prop := PE X e (tE X.K X.mg W f)
def ET (X : Cx) (W : WX) (e : Expr) (f : Tv) : Prop := PT X e (tT X.K X.mg W f)
def EA (X : Cx) (W : WX) (es : List Expr) (f : Av) : Prop := PA X es (tA X.K X.mg W f)
def ES (X : Cx) (W : WX) (st : Stmt) (f : Sv) : Prop := PS X st (tS X.K X.mg W f)
def ESs (X : Cx) (W : WX) (st : List Stmt) (f : Sv) : Prop := PSs X st (tS X.K X.mg W f)

theorem PE.of {X : Cx} {e : Expr} {t t' : TE} (h : PE X e t) (i : ∀ σ H Q, t' σ H Q → t σ H Q) : PE X e t' := ⟨fun pins s σ H Q I w => h.run pins s σ H Q I (i σ H Q w)⟩
theorem PT.of {X : Cx} {e : Expr} {t t' : TT} (h : PT X e t) (i : ∀ σ H Q, t' σ H Q → t σ H Q) : PT X e t' := ⟨fun pins s σ H Q I w => h.run pins s σ H Q I (i σ H Q w)⟩
theorem PW.of {X : Cx} {e : Expr} {t t' : TT} (h : PW X e t) (i : ∀ σ H Q, t' σ H Q → t σ H Q) : PW X e t' := ⟨fun wh pins s σ H Q I w => h.run wh pins s σ H Q I (i σ H Q w)⟩
theorem PA.of {X : Cx} {e : List Expr} {t t' : TA} (h : PA X e t) (i : ∀ σ H Q, t' σ H Q → t σ H Q) : PA X e t' := ⟨fun pos pins s σ H Q I w => h.run pos pins s σ H Q I (i σ H Q w)⟩
theorem PS.of {X : Cx} {e : Stmt} {t t' : TS} (h : PS X e t) (i : ∀ D σ H, t' D σ H → t D σ H) : PS X e t' := ⟨fun pins s σ H Q I w => h.run pins s σ H Q I (i Q σ H w)⟩
theorem PSs.of {X : Cx} {e : List Stmt} {t t' : TS} (h : PSs X e t) (i : ∀ D σ H, t' D σ H → t D σ H) : PSs X e t' := ⟨fun pins s σ H Q I w => h.run pins s σ H Q I (i Q σ H w)⟩
end Rk

/-! Rk1: the abstract heap grows, changes, is frozen; readings in a row. -/
namespace Rk
open PySem PySem.Spec L2
section
variable {K : PySem.W.Frag} {mg : Str → Option Value} {φ φ' φ1 : List Addr} {h h' h1 : Hh} {H H' H1 : Hp} {a p : Addr} {n : Nat}

theorem Sim.live (s : Sim K φ h H) {a : Addr} (l : Live φ h a) : ∃ o, H a = some o := by
  obtain ⟨i, o, e1, e2⟩ := l
  obtain ⟨b, e3, r⟩ := s.ob i o e2
  rw [e1] at e3
  have e4 := Option.some.inj e3
  subst e4
  cases o with
  | lst xs => obtain ⟨xs, e, _⟩ := r; exact ⟨_, e⟩
  | dct kvs => obtain ⟨xs, e, _⟩ := r; exact ⟨_, e⟩
theorem Sim.fresh (s : Sim K φ h H) (e : H p = none) : ¬ Live φ h p := fun l => by
  obtain ⟨o, q⟩ := s.live l
  rw [e] at q
  cases q
theorem ORep.stay {M M' : Addr → Prop} {o : Ob} (st : Stay H M H' M') (k : ∀ u, H a = some u → H' a = some u) (r : ORep K H M a o) : ORep K H' M' a o := by
  cases o with
  | lst xs => obtain ⟨xs, e, q⟩ := r; exact ⟨xs, k _ e, q.stay st⟩
  | dct kvs => obtain ⟨xs, e, q⟩ := r; exact ⟨xs, k _ e, q.stay st⟩
/-- a new object that is not numbered -/
theorem Sim.grow (s : Sim K φ h H) {o : HO} (e : H p = none) : Step φ h H φ h (upd H p o) ∧ Sim K φ h (upd H p o) := by
  have k : ∀ b u, H b = some u → upd H p o b = some u := fun b u q => by rw [upd_ne (ne_of_none q e)]; exact q
  have st : Stay H (Live φ h) (upd H p o) (Live φ h) := fun b u q n => ⟨k b u q, n⟩
  refine ⟨⟨List.prefix_refl φ, st⟩, s.len, s.inj, fun i ob e2 => ?_⟩
  obtain ⟨b, e3, r⟩ := s.ob i ob e2
  exact ⟨b, e3, r.stay st (k b)⟩
theorem live_new {o : Ob} (hl : φ.length = h.length) {b : Addr} : Live (φ ++ [p]) (h ++ [some o]) b ↔ Live φ h b ∨ b = p := by
  constructor
  · rintro ⟨i, u, e1, e2⟩
    by_cases hi : i < φ.length
    · rw [List.getElem?_append_left hi] at e1
      rw [List.getElem?_append_left (by omega)] at e2
      exact .inl ⟨i, u, e1, e2⟩
    · rw [List.getElem?_append_right (by omega)] at e1
      have : i - φ.length = 0 := by
        have := (List.getElem?_eq_some_iff.mp e1).1
        simp at this
        omega
      rw [this] at e1
      exact .inr (Option.some.inj e1).symm
  · rintro (⟨i, u, e1, e2⟩ | rfl)
    · exact ⟨i, u, by rw [List.getElem?_append_left (List.getElem?_eq_some_iff.mp e1).1]; exact e1, by rw [List.getElem?_append_left (List.getElem?_eq_some_iff.mp e2).1]; exact e2⟩
    · exact ⟨φ.length, o, by simp, by rw [hl]; simp⟩
/-- a new object that is numbered -/
theorem Sim.new (s : Sim K φ h H) {o : HO} {ob : Ob} (e : H p = none) (r : ∀ M, Stay H (Live φ h) (upd H p o) M → ORep K (upd H p o) M p ob) :
    Step φ h H (φ ++ [p]) (h ++ [some ob]) (upd H p o) ∧ Sim K (φ ++ [p]) (h ++ [some ob]) (upd H p o) ∧ VRep K (φ ++ [p]) (h ++ [some ob]) (upd H p o) (.ref p) (.r h.length) := by
  have k : ∀ b u, H b = some u → upd H p o b = some u := fun b u q => by rw [upd_ne (ne_of_none q e)]; exact q
  have st : Stay H (Live φ h) (upd H p o) (Live (φ ++ [p]) (h ++ [some ob])) := fun b u q n => ⟨k b u q, fun l => by
    rcases (live_new s.len).mp l with l | rfl
    · exact n l
    · rw [e] at q; cases q⟩
  have nl := s.fresh e
  have hgt : ∀ (i : Nat) (b : Addr) (u : Ob), (φ ++ [p])[i]? = some b → (h ++ [some ob])[i]? = some (some u) → (i < φ.length ∧ φ[i]? = some b ∧ h[i]? = some (some u)) ∨ (i = φ.length ∧ b = p ∧ u = ob) := fun i b u e1 e2 => by
    by_cases hi : i < φ.length
    · rw [List.getElem?_append_left hi] at e1
      rw [List.getElem?_append_left (by rw [← s.len]; exact hi)] at e2
      exact .inl ⟨hi, e1, e2⟩
    · have hz : i = φ.length := by
        have := (List.getElem?_eq_some_iff.mp e1).1
        simp at this
        omega
      subst hz
      rw [List.getElem?_append_right (by omega)] at e1
      rw [s.len, List.getElem?_append_right (by omega)] at e2
      simp at e1 e2
      exact .inr ⟨rfl, e1.symm, e2.symm⟩
  refine ⟨⟨List.prefix_append φ [p], st⟩, ⟨by simp [s.len], fun i j b u u' e1 e2 e3 e4 => ?_, fun i u e2 => ?_⟩, ?_⟩
  · rcases hgt i b u e1 e3 with ⟨h1, h2, h3⟩ | ⟨h1, h2, h3⟩ <;> rcases hgt j b u' e2 e4 with ⟨g1, g2, g3⟩ | ⟨g1, g2, g3⟩
    · exact s.inj i j b u u' h2 g2 h3 g3
    · subst g2; exact absurd ⟨i, u, h2, h3⟩ nl
    · subst h2; exact absurd ⟨j, u', g2, g3⟩ nl
    · omega
  · by_cases hi : i < φ.length
    · have e2' : h[i]? = some (some u) := by
        rw [List.getElem?_append_left (by rw [← s.len]; exact hi)] at e2
        exact e2
      obtain ⟨b, e3, q⟩ := s.ob i u e2'
      exact ⟨b, by rw [List.getElem?_append_left hi]; exact e3, q.stay st (k b)⟩
    · have hz : i = h.length := by
        have := (List.getElem?_eq_some_iff.mp e2).1
        have := s.len
        simp at *
        omega
      subst hz
      rw [List.getElem?_append_right (by omega)] at e2
      simp at e2
      subst e2
      exact ⟨p, by rw [← s.len]; simp, r _ st⟩
  · exact ⟨p, by rw [← s.len]; simp, rfl⟩
theorem live_set {o ob : Ob} (e : h[n]? = some (some o)) {b : Addr} : Live φ (h.set n (some ob)) b ↔ Live φ h b := by
  have hl := (List.getElem?_eq_some_iff.mp e).1
  constructor
  · rintro ⟨i, u, e1, e2⟩
    by_cases hi : n = i
    · subst hi; exact ⟨n, o, e1, e⟩
    · rw [List.getElem?_set_ne hi] at e2; exact ⟨i, u, e1, e2⟩
  · rintro ⟨i, u, e1, e2⟩
    by_cases hi : n = i
    · subst hi; exact ⟨n, ob, e1, by rw [List.getElem?_set_self hl]⟩
    · exact ⟨i, u, e1, by rw [List.getElem?_set_ne hi]; exact e2⟩
/-- an object changes -/
theorem Sim.write (s : Sim K φ h H) {o ob : Ob} {u : HO} (e : h[n]? = some (some o)) (ea : φ[n]? = some a) (r : ∀ M, Stay H (Live φ h) (upd H a u) M → ORep K (upd H a u) M a ob) :
    Step φ h H φ (h.set n (some ob)) (upd H a u) ∧ Sim K φ (h.set n (some ob)) (upd H a u) := by
  have la : Live φ h a := ⟨n, o, ea, e⟩
  have hl := (List.getElem?_eq_some_iff.mp e).1
  have st : Stay H (Live φ h) (upd H a u) (Live φ (h.set n (some ob))) := fun b v q nb => ⟨by rw [upd_ne (fun z => nb (by rw [z]; exact la))]; exact q, fun l => nb ((live_set e).mp l)⟩
  have back : ∀ (i : Nat) (v : Ob), (h.set n (some ob))[i]? = some (some v) → ∃ v', h[i]? = some (some v') := fun i v e2 => by
    by_cases hi : n = i
    · subst hi; exact ⟨o, e⟩
    · rw [List.getElem?_set_ne hi] at e2; exact ⟨v, e2⟩
  refine ⟨⟨List.prefix_refl φ, st⟩, ⟨by rw [List.length_set]; exact s.len, fun i j b v v' e1 e2 e3 e4 => ?_, fun i v e2 => ?_⟩⟩
  · obtain ⟨w, f3⟩ := back i v e3
    obtain ⟨w', f4⟩ := back j v' e4
    exact s.inj i j b w w' e1 e2 f3 f4
  · by_cases hi : n = i
    · subst hi
      rw [List.getElem?_set_self hl] at e2
      have e3 := Option.some.inj (Option.some.inj e2)
      subst e3
      exact ⟨a, ea, r _ st⟩
    · rw [List.getElem?_set_ne hi] at e2
      obtain ⟨b, e3, q⟩ := s.ob i v e2
      refine ⟨b, e3, q.stay st fun w hw => ?_⟩
      rw [upd_ne (fun z => hi (s.inj n i a o v ea (by rw [← z]; exact e3) e e2))]
      exact hw
/-- an object is frozen: it never changes from now on -/
theorem Sim.freeze (s : Sim K φ h H) {o : Ob} (e : h[n]? = some (some o)) (ea : φ[n]? = some a) : Step φ h H φ (h.set n none) H ∧ Sim K φ (h.set n none) H ∧ ¬ Live φ (h.set n none) a := by
  have hl := (List.getElem?_eq_some_iff.mp e).1
  have less : ∀ b, Live φ (h.set n none) b → Live φ h b := fun b ⟨i, u, e1, e2⟩ => by
    by_cases hi : n = i
    · subst hi; rw [List.getElem?_set_self hl] at e2; cases e2
    · rw [List.getElem?_set_ne hi] at e2; exact ⟨i, u, e1, e2⟩
  have st : Stay H (Live φ h) H (Live φ (h.set n none)) := fun b v q nb => ⟨q, fun l => nb (less b l)⟩
  have back : ∀ (i : Nat) (v : Ob), (h.set n none)[i]? = some (some v) → h[i]? = some (some v) ∧ n ≠ i := fun i v e2 => by
    by_cases hi : n = i
    · subst hi; rw [List.getElem?_set_self hl] at e2; cases e2
    · rw [List.getElem?_set_ne hi] at e2; exact ⟨e2, hi⟩
  refine ⟨⟨List.prefix_refl φ, st⟩, ⟨by rw [List.length_set]; exact s.len, fun i j b v v' e1 e2 e3 e4 => s.inj i j b v v' e1 e2 (back i v e3).1 (back j v' e4).1, fun i v e2 => ?_⟩, ?_⟩
  · obtain ⟨b, e3, q⟩ := s.ob i v (back i v e2).1
    exact ⟨b, e3, q.stay st fun _ hw => hw⟩
  · rintro ⟨i, v, e1, e2⟩
    have q := back i v e2
    exact q.2 (s.inj n i a o v ea e1 e q.1)

/-! ### readings in a row -/
theorem PoX.pull {o : Out Vl} {Q : VK} {E : XK} (s : Step φ h H φ1 h1 H1) (q : PoX K mg φ h H o Q E) : PoX K mg φ1 h1 H1 o Q E := by
  cases o with
  | ok v h2 => exact fun x H' φ' st => q x H' φ' (s.trans st)
  | ex c fs h2 => exact fun cls dd H' φ' st => q cls dd H' φ' (s.trans st)
  | no => exact q
theorem PoT.pull {o : Out Bool} {Q : Bool → Hp → Prop} {E : XK} (s : Step φ h H φ1 h1 H1) (q : PoT K mg φ h H o Q E) : PoT K mg φ1 h1 H1 o Q E := by
  cases o with
  | ok v h2 => exact fun H' φ' st => q H' φ' (s.trans st)
  | ex c fs h2 => exact fun cls dd H' φ' st => q cls dd H' φ' (s.trans st)
  | no => exact q
theorem PoA.pull {o : Out (List Vl)} {Q : List V → Hp → Prop} {E : XK} (s : Step φ h H φ1 h1 H1) (q : PoA K mg φ h H o Q E) : PoA K mg φ1 h1 H1 o Q E := by
  cases o with
  | ok v h2 => exact fun x H' φ' st => q x H' φ' (s.trans st)
  | ex c fs h2 => exact fun cls dd H' φ' st => q cls dd H' φ' (s.trans st)
  | no => exact q
theorem PoS.pull {o : So} {D : Ends} {W : WX} (s : Step φ h H φ1 h1 H1) (q : PoS K mg φ h H o D W) : PoS K mg φ1 h1 H1 o D W := by
  cases o with
  | nx ρ h2 => exact fun x H' φ' st => q x H' φ' (s.trans st)
  | rt v h2 => exact fun x H' φ' st => q x H' φ' (s.trans st)
  | bk ρ h2 => exact fun x H' φ' st => q x H' φ' (s.trans st)
  | ct ρ h2 => exact fun x H' φ' st => q x H' φ' (s.trans st)
  | ex c fs ρ h2 => exact fun cls dd x H' φ' st => q cls dd x H' φ' (s.trans st)
  | no => exact q
/-- the outcome's own end, at once -/
theorem PoX.now {v : Vl} {x : V} {Q : VK} {E : XK} (q : PoX K mg φ h H (.ok v h) Q E) (s : Sim K φ h H) (r : VRep K φ h H x v) : Q x H := q x H φ (Step.refl _ _ _) s r
variable {E : XK}
theorem PoX.goE {o : Out Vl} {k : Vl → Hh → Out Vl} {Q : VK} {Q1 : VK} (q : PoX K mg φ h H (o.bind k) Q E)
    (hk : ∀ (x : V) (v : Vl) (h1 : Hh) (H1 : Hp) (φ1 : List Addr), Step φ h H φ1 h1 H1 → Sim K φ1 h1 H1 → VRep K φ1 h1 H1 x v → PoX K mg φ1 h1 H1 (k v h1) Q E → Q1 x H1) : PoX K mg φ h H o Q1 E := by
  cases o with
  | ok v h1 => exact fun x H' φ' st sm' rv => hk x v h1 H' φ' st sm' rv (PoX.pull st q)
  | ex c fs h1 => exact q
  | no => exact q
theorem PoX.goT {o : Out Bool} {k : Bool → Hh → Out Vl} {Q : VK} {Q1 : (Bool → Hp → Prop)} (q : PoX K mg φ h H (o.bind k) Q E)
    (hk : ∀ (v : Bool) (h1 : Hh) (H1 : Hp) (φ1 : List Addr), Step φ h H φ1 h1 H1 → Sim K φ1 h1 H1 → PoX K mg φ1 h1 H1 (k v h1) Q E → Q1 v H1) : PoT K mg φ h H o Q1 E := by
  cases o with
  | ok v h1 => exact fun H' φ' st sm' => hk v h1 H' φ' st sm' (PoX.pull st q)
  | ex c fs h1 => exact q
  | no => exact q
theorem PoX.goA {o : Out (List Vl)} {k : (List Vl) → Hh → Out Vl} {Q : VK} {Q1 : (List V → Hp → Prop)} (q : PoX K mg φ h H (o.bind k) Q E)
    (hk : ∀ (x : List V) (v : List Vl) (h1 : Hh) (H1 : Hp) (φ1 : List Addr), Step φ h H φ1 h1 H1 → Sim K φ1 h1 H1 → VReps K φ1 h1 H1 x v → PoX K mg φ1 h1 H1 (k v h1) Q E → Q1 x H1) : PoA K mg φ h H o Q1 E := by
  cases o with
  | ok v h1 => exact fun x H' φ' st sm' rv => hk x v h1 H' φ' st sm' rv (PoX.pull st q)
  | ex c fs h1 => exact q
  | no => exact q
theorem PoT.goE {o : Out Vl} {k : Vl → Hh → Out Bool} {Q : (Bool → Hp → Prop)} {Q1 : VK} (q : PoT K mg φ h H (o.bind k) Q E)
    (hk : ∀ (x : V) (v : Vl) (h1 : Hh) (H1 : Hp) (φ1 : List Addr), Step φ h H φ1 h1 H1 → Sim K φ1 h1 H1 → VRep K φ1 h1 H1 x v → PoT K mg φ1 h1 H1 (k v h1) Q E → Q1 x H1) : PoX K mg φ h H o Q1 E := by
  cases o with
  | ok v h1 => exact fun x H' φ' st sm' rv => hk x v h1 H' φ' st sm' rv (PoT.pull st q)
  | ex c fs h1 => exact q
  | no => exact q
theorem PoT.goT {o : Out Bool} {k : Bool → Hh → Out Bool} {Q : (Bool → Hp → Prop)} {Q1 : (Bool → Hp → Prop)} (q : PoT K mg φ h H (o.bind k) Q E)
    (hk : ∀ (v : Bool) (h1 : Hh) (H1 : Hp) (φ1 : List Addr), Step φ h H φ1 h1 H1 → Sim K φ1 h1 H1 → PoT K mg φ1 h1 H1 (k v h1) Q E → Q1 v H1) : PoT K mg φ h H o Q1 E := by
  cases o with
  | ok v h1 => exact fun H' φ' st sm' => hk v h1 H' φ' st sm' (PoT.pull st q)
  | ex c fs h1 => exact q
  | no => exact q
theorem PoT.goA {o : Out (List Vl)} {k : (List Vl) → Hh → Out Bool} {Q : (Bool → Hp → Prop)} {Q1 : (List V → Hp → Prop)} (q : PoT K mg φ h H (o.bind k) Q E)
    (hk : ∀ (x : List V) (v : List Vl) (h1 : Hh) (H1 : Hp) (φ1 : List Addr), Step φ h H φ1 h1 H1 → Sim K φ1 h1 H1 → VReps K φ1 h1 H1 x v → PoT K mg φ1 h1 H1 (k v h1) Q E → Q1 x H1) : PoA K mg φ h H o Q1 E := by
  cases o with
  | ok v h1 => exact fun x H' φ' st sm' rv => hk x v h1 H' φ' st sm' rv (PoT.pull st q)
  | ex c fs h1 => exact q
  | no => exact q
theorem PoA.goE {o : Out Vl} {k : Vl → Hh → Out (List Vl)} {Q : (List V → Hp → Prop)} {Q1 : VK} (q : PoA K mg φ h H (o.bind k) Q E)
    (hk : ∀ (x : V) (v : Vl) (h1 : Hh) (H1 : Hp) (φ1 : List Addr), Step φ h H φ1 h1 H1 → Sim K φ1 h1 H1 → VRep K φ1 h1 H1 x v → PoA K mg φ1 h1 H1 (k v h1) Q E → Q1 x H1) : PoX K mg φ h H o Q1 E := by
  cases o with
  | ok v h1 => exact fun x H' φ' st sm' rv => hk x v h1 H' φ' st sm' rv (PoA.pull st q)
  | ex c fs h1 => exact q
  | no => exact q
theorem PoA.goT {o : Out Bool} {k : Bool → Hh → Out (List Vl)} {Q : (List V → Hp → Prop)} {Q1 : (Bool → Hp → Prop)} (q : PoA K mg φ h H (o.bind k) Q E)
    (hk : ∀ (v : Bool) (h1 : Hh) (H1 : Hp) (φ1 : List Addr), Step φ h H φ1 h1 H1 → Sim K φ1 h1 H1 → PoA K mg φ1 h1 H1 (k v h1) Q E → Q1 v H1) : PoT K mg φ h H o Q1 E := by
  cases o with
  | ok v h1 => exact fun H' φ' st sm' => hk v h1 H' φ' st sm' (PoA.pull st q)
  | ex c fs h1 => exact q
  | no => exact q
theorem PoA.goA {o : Out (List Vl)} {k : (List Vl) → Hh → Out (List Vl)} {Q : (List V → Hp → Prop)} {Q1 : (List V → Hp → Prop)} (q : PoA K mg φ h H (o.bind k) Q E)
    (hk : ∀ (x : List V) (v : List Vl) (h1 : Hh) (H1 : Hp) (φ1 : List Addr), Step φ h H φ1 h1 H1 → Sim K φ1 h1 H1 → VReps K φ1 h1 H1 x v → PoA K mg φ1 h1 H1 (k v h1) Q E → Q1 x H1) : PoA K mg φ h H o Q1 E := by
  cases o with
  | ok v h1 => exact fun x H' φ' st sm' rv => hk x v h1 H' φ' st sm' rv (PoA.pull st q)
  | ex c fs h1 => exact q
  | no => exact q
/-- outcome of an expression, then a statement's end -/
def Out.then {α : Type} (ρ : En) : Out α → (α → Hh → So) → So
  | .ok a h, f => f a h
  | .ex c fs h, _ => .ex c fs ρ h
  | .no, _ => .no
theorem Out.then_ok {α : Type} (ρ : En) (a : α) (h : Hh) (f : α → Hh → So) : Out.then ρ (Out.ok a h) f = f a h := rfl
theorem Out.then_ex {α : Type} (ρ : En) (c : Str) (fs : List (Str × Da)) (h : Hh) (f : α → Hh → So) : Out.then ρ (Out.ex c fs h) f = .ex c fs ρ h := rfl
variable {W : WX} {σ : L2.St} {ρ : En} {D : Ends}
theorem PoS.goE {o : Out Vl} {k : Vl → Hh → So} {Q1 : VK} (er : ERep K φ h H σ ρ) (q : PoS K mg φ h H (Out.then ρ o k) D W)
    (hk : ∀ (x : V) (v : Vl) (h1 : Hh) (H1 : Hp) (φ1 : List Addr), Step φ h H φ1 h1 H1 → Sim K φ1 h1 H1 → ERep K φ1 h1 H1 σ ρ → VRep K φ1 h1 H1 x v → PoS K mg φ1 h1 H1 (k v h1) D W → Q1 x H1) : PoX K mg φ h H o Q1 (WE W σ) := by
  cases o with
  | ok v h1 => exact fun x H' φ' st sm' rv => hk x v h1 H' φ' st sm' (er.step st) rv (PoS.pull st q)
  | ex c fs h1 => exact fun cls dd H' φ' st sm' xr => q cls dd σ H' φ' st sm' (er.step st) xr
  | no => exact q
theorem PoS.goT {o : Out Bool} {k : Bool → Hh → So} {Q1 : (Bool → Hp → Prop)} (er : ERep K φ h H σ ρ) (q : PoS K mg φ h H (Out.then ρ o k) D W)
    (hk : ∀ (v : Bool) (h1 : Hh) (H1 : Hp) (φ1 : List Addr), Step φ h H φ1 h1 H1 → Sim K φ1 h1 H1 → ERep K φ1 h1 H1 σ ρ → PoS K mg φ1 h1 H1 (k v h1) D W → Q1 v H1) : PoT K mg φ h H o Q1 (WE W σ) := by
  cases o with
  | ok v h1 => exact fun H' φ' st sm' => hk v h1 H' φ' st sm' (er.step st) (PoS.pull st q)
  | ex c fs h1 => exact fun cls dd H' φ' st sm' xr => q cls dd σ H' φ' st sm' (er.step st) xr
  | no => exact q
theorem PoS.goA {o : Out (List Vl)} {k : (List Vl) → Hh → So} {Q1 : (List V → Hp → Prop)} (er : ERep K φ h H σ ρ) (q : PoS K mg φ h H (Out.then ρ o k) D W)
    (hk : ∀ (x : List V) (v : List Vl) (h1 : Hh) (H1 : Hp) (φ1 : List Addr), Step φ h H φ1 h1 H1 → Sim K φ1 h1 H1 → ERep K φ1 h1 H1 σ ρ → VReps K φ1 h1 H1 x v → PoS K mg φ1 h1 H1 (k v h1) D W → Q1 x H1) : PoA K mg φ h H o Q1 (WE W σ) := by
  cases o with
  | ok v h1 => exact fun x H' φ' st sm' rv => hk x v h1 H' φ' st sm' (er.step st) rv (PoS.pull st q)
  | ex c fs h1 => exact fun cls dd H' φ' st sm' xr => q cls dd σ H' φ' st sm' (er.step st) xr
  | no => exact q
end
end Rk

/-! Rk2: expressions. -/
namespace Rk
open PySem PySem.Spec L2
/-! ### data out of values -/
def fitB (n : Nat) : Bool := decide (n ≤ 16777216)
theorem fitB_ok {n : Nat} (h : n ≤ 16777216) : fitB n = true := decide_eq_true h
theorem fitB_le {n : Nat} (h : fitB n = true) : n ≤ sizeLine := by
  rw [sizeLine_eq]
  exact of_decide_eq_true h
/-- a list that is read -/
def asL : Vl → Hh → Option (List Da)
  | .d (.list xs), _ => some xs
  | .r n, h => match h[n]? with
    | some (some (.lst xs)) => some xs
    | _ => none
  | _, _ => none
/-- the data of a value, as it stands now -/
def asD : Vl → Hh → Option Da
  | .d x, _ => some x
  | .r n, h => match h[n]? with
    | some (some (.lst xs)) => some (.list xs)
    | _ => none
  | _, _ => none
/-- data for ever: an object is frozen -/
def fz : Vl → Hh → Option (Da × Hh)
  | .d x, h => some (x, h)
  | .r n, h => match h[n]? with
    | some (some (.lst xs)) => some (.list xs, h.set n none)
    | _ => none
  | _, _ => none
def fzs : List Vl → Hh → Option (List Da × Hh)
  | [], h => some ([], h)
  | v :: vs, h => (fz v h).bind fun p => (fzs vs p.2).map fun q => (p.1 :: q.1, q.2)
section
variable {K : PySem.W.Frag} {φ : List Addr} {h h' : Hh} {H : Hp} {x : V} {v : Vl}
theorem Sim.at_ (s : Sim K φ h H) {n : Nat} {o : Ob} {a : Addr} (e : h[n]? = some (some o)) (ea : φ[n]? = some a) : ORep K H (Live φ h) a o := by
  obtain ⟨b, e1, r⟩ := s.ob n o e
  rw [ea] at e1
  have := Option.some.inj e1
  subst this
  exact r
theorem asL_ok {ds : List Da} (s : Sim K φ h H) (r : VRep K φ h H x v) (e : asL v h = some ds) : ∃ a xs, x = .ref a ∧ SqL K H a xs ∧ Reps K H (Live φ h) xs ds := by
  unfold asL at e
  split at e
  · cases e
    cases r with
    | lst h1 n r => exact ⟨_, _, rfl, .inl h1, r⟩
    | lstK h1 r => exact ⟨_, _, rfl, .inr h1, r⟩
  · split at e
    · cases e
      obtain ⟨a, ea, rfl⟩ := r
      obtain ⟨xs, e2, q⟩ := s.at_ (by assumption) ea
      exact ⟨a, xs, rfl, .of e2, q⟩
    · cases e
  · cases e
mutual
theorem Rep.dp {M : Addr → Prop} : ∀ {v : V} {d : Da}, Rep K H M v d → Dp K H v d
  | _, _, .non => .non
  | _, _, .bl b => .bl b
  | _, _, .int i => .int i
  | _, _, .str x => .str x
  | _, _, .tup h n r => .tup (.inl h) (Reps.dp r)
  | _, _, .tupK h r => .tup (.inr h) (Reps.dp r)
  | _, _, .lst h n r => .lst (.inl h) (Reps.dp r)
  | _, _, .lstK h r => .lst (.inr h) (Reps.dp r)
theorem Reps.dp {M : Addr → Prop} : ∀ {vs : List V} {ds : List Da}, Reps K H M vs ds → DpAll K H vs ds
  | _, _, .nil => .nil
  | _, _, .cons r t => .cons (Rep.dp r) (Reps.dp t)
end
theorem asD_ok {d : Da} (s : Sim K φ h H) (r : VRep K φ h H x v) (e : asD v h = some d) : Dp K H x d := by
  unfold asD at e
  split at e
  · cases e
    exact Rep.dp r
  · split at e
    · cases e
      obtain ⟨a, ea, rfl⟩ := r
      obtain ⟨xs, e2, q⟩ := s.at_ (by assumption) ea
      exact .lst (.of e2) (Reps.dp q)
    · cases e
  · cases e
theorem fz_ok {d : Da} (s : Sim K φ h H) (r : VRep K φ h H x v) (e : fz v h = some (d, h')) : Step φ h H φ h' H ∧ Sim K φ h' H ∧ Rep K H (Live φ h') x d := by
  unfold fz at e
  split at e
  · cases e
    exact ⟨Step.refl _ _ _, s, r⟩
  · split at e
    · cases e
      obtain ⟨a, ea, rfl⟩ := r
      rename_i hn
      obtain ⟨xs, e2, q⟩ := s.at_ hn ea
      obtain ⟨s1, s2, s3⟩ := s.freeze hn ea
      exact ⟨s1, s2, .lst (.inl e2) s3 (q.stay s1.st)⟩
    · cases e
  · cases e
theorem fzs_ok : ∀ {vs : List Vl} {xs : List V} {ds : List Da} {h h' : Hh}, Sim K φ h H → VReps K φ h H xs vs → fzs vs h = some (ds, h') → Step φ h H φ h' H ∧ Sim K φ h' H ∧ Reps K H (Live φ h') xs ds
  | [], _, _, _, _, s, .nil, e => by
    cases e
    exact ⟨Step.refl _ _ _, s, .nil⟩
  | v :: vs, _, ds, h, h', s, .cons r t, e => by
    unfold fzs at e
    cases e1 : fz v h with
    | none => rw [e1] at e; cases e
    | some p =>
      obtain ⟨d, h1⟩ := p
      rw [e1] at e
      dsimp only [Option.bind_some] at e
      obtain ⟨s1, s2, s3⟩ := fz_ok s r e1
      cases e2 : fzs vs h1 with
      | none => rw [e2] at e; cases e
      | some q =>
        obtain ⟨es, h2⟩ := q
        rw [e2] at e
        cases e
        obtain ⟨t1, t2, t3⟩ := fzs_ok s2 (t.step s1) e2
        exact ⟨s1.trans t1, t2, .cons (s3.stay t1.st) t3⟩
end

/-! ### names, constants -/
def eVar (i : Nat) : Ev := fun ρ h => match ρ[i]? with
  | some (some v) => .ok v h
  | _ => .no
def eD (d : Da) : Ev := fun _ h => .ok (.d d) h
section
variable {X : Cx} {W : WX}
theorem ee_var (i : Nat) {x : Str} {pos : Pos} (hN : X.N[i]? = some x := by rfl) (hv : Vis X.env.scope x := by first | exact Or.inl rfl | exact Or.inr (Or.inl rfl) | exact Or.inr (Or.inr rfl)) (hd : (x == ("__debug__" : Str)) = false := by decide)
    (hcd : (x == ("__classdict__" : Str)) = false := by decide) : EE X W (.Name x pos) (eVar i) :=
  PE.of (pe_var hN hv hd hcd) fun σ H Q ⟨φ, h, ρ, sm, er, q⟩ => by
    unfold eVar at q
    split at q
    · rename_i v e
      obtain ⟨y, e1, r⟩ := er.at_ i v e
      exact ⟨y, e1, q.now sm r⟩
    · exact q.elim
theorem ee_c {e : Expr} {v : V} {d : Da} (p : PE X e (tC v)) (k : KRep X.K v d) : EE X W e (eD d) :=
  PE.of p fun σ H Q ⟨φ, h, ρ, sm, er, q⟩ => PoX.now (v := .d d) q sm (k _ _)
theorem ee_int {i : Int} {j : Nat} {pos : Pos} : EE X W (.Constant (.int i) j pos) (eD (.int i)) := ee_c pe_int fun _ _ => .int i
theorem ee_bl {b : Bool} {j : Nat} {pos : Pos} : EE X W (.Constant (.bool b) j pos) (eD (.bool b)) := ee_c pe_bl fun _ _ => .bl b
theorem ee_non {j : Nat} {pos : Pos} : EE X W (.Constant .none j pos) (eD .none) := ee_c pe_non fun _ _ => .non
theorem ee_str {x : Str} {j : Nat} {pos : Pos} : EE X W (.Constant (.str x) j pos) (eD (.str x)) := ee_c pe_str fun _ _ => .str x
theorem ee_glob {x : Str} {v : V} {u : Value} {d : Da} {pos : Pos} (hg : Gl X x) (hm : X.mg x = some u) (r : RelV v u) (k : KRep X.K v d) (hd : (x == ("__debug__" : Str)) = false := by decide) : EE X W (.Name x pos) (eD d) := ee_c (pe_glob hg hm r hd) k
end

/-! ### operators -/
def ofO : Option (Vl × Hh) → Out Vl
  | some p => .ok p.1 p.2
  | none => .no
theorem ofO_some (v : Vl) (h : Hh) : ofO (some (v, h)) = .ok v h := rfl
abbrev G2 := Vl → Vl → Hh → Option (Vl × Hh)
def eOp (g : G2) (a b : Ev) : Ev := fun ρ h => (a ρ h).bind fun x h1 => (b ρ h1).bind fun y h2 => ofO (g x y h2)
def Ok2 (K : PySem.W.Frag) (r : R2) (g : G2) : Prop := ∀ (φ : List Addr) (h : Hh) (H : Hp) (x y : V) (a b : Vl) (Q : VK) (v : Vl) (h' : Hh), Sim K φ h H → VRep K φ h H x a → VRep K φ h H y b → g a b h = some (v, h') →
  (∀ z H' φ', Step φ h H φ' h' H' → Sim K φ' h' H' → VRep K φ' h' H' z v → Q z H') → r x y H Q
theorem PoX.ofO {K : PySem.W.Frag} {mg : Str → Option Value} {φ : List Addr} {h : Hh} {H : Hp} {o : Option (Vl × Hh)} {Q : VK} {E : XK} (q : PoX K mg φ h H (Rk.ofO o) Q E) :
    ∃ v h', o = some (v, h') ∧ ∀ z H' φ', Step φ h H φ' h' H' → Sim K φ' h' H' → VRep K φ' h' H' z v → Q z H' := by
  cases o with
  | none => exact q.elim
  | some p => exact ⟨p.1, p.2, rfl, q⟩
section
variable {X : Cx} {W : WX} {a b c : Expr} {fa fb fc : Ev} {pos : Pos} {r r' : R2} {g g' : G2}
theorem tOp_ok {σ : L2.St} {H : Hp} {Q : VK} (ok : Ok2 X.K r g) (hf : tE X.K X.mg W (eOp g fa fb) σ H Q) : tOp r (tE X.K X.mg W fa) (tE X.K X.mg W fb) σ H Q := by
  obtain ⟨φ, h, ρ, sm, er, q⟩ := hf
  refine ⟨φ, h, ρ, sm, er, PoX.goE q fun x v h1 H1 φ1 st sm1 rv q1 => ⟨φ1, h1, ρ, sm1, er.step st, PoX.goE q1 fun y w h2 H2 φ2 st2 sm2 rw q2 => ?_⟩⟩
  obtain ⟨z, h3, e, k⟩ := PoX.ofO q2
  exact ok φ2 h2 H2 x y v w Q z h3 sm2 (rv.step st2) rw e k
theorem ee_op {op : Operator} (ho : OpR X (binaryOp op) r) (ok : Ok2 X.K r g) (ha : EE X W a fa) (hb : EE X W b fb) : EE X W (.BinOp a op b pos) (eOp g fa fb) :=
  PE.of (pe_op ho ha hb) fun σ H Q hf => tOp_ok ok hf
theorem ee_cmp {op : CmpOp} (ho : OpR X (compareOp op) r) (ok : Ok2 X.K r g) (ha : EE X W a fa) (hb : EE X W b fb) (hm : behindInMarks op b = false) : EE X W (.Compare a [op] [b] pos) (eOp g fa fb) :=
  PE.of (pe_cmpR ho ha hb hm) fun σ H Q hf => tOp_ok ok hf
/-- a value that is a truth -/
def truO : Vl → Hh → Out Bool
  | .d (.bool b), h => .ok b h
  | _, _ => .no
def eT (f : Ev) : Tv := fun ρ h => (f ρ h).bind truO
theorem VRep.bl {K : PySem.W.Frag} {φ : List Addr} {h : Hh} {H : Hp} {x : V} {c : Bool} (r : VRep K φ h H x (.d (.bool c))) : x = .bl c := by
  cases r
  rfl
theorem PoT.bl {K : PySem.W.Frag} {mg : Str → Option Value} {φ : List Addr} {h : Hh} {H : Hp} {v : Vl} {x : V} {Q : Bool → Hp → Prop} {E : XK} (sm : Sim K φ h H) (rv : VRep K φ h H x v)
    (q : PoT K mg φ h H (truO v h) Q E) : ∃ k, x = .bl k ∧ Q k H := by
  unfold truO at q
  split at q
  · exact ⟨_, VRep.bl rv, q H φ (Step.refl _ _ _) sm⟩
  · exact q.elim
theorem tTest_ok {f : Ev} {t : TE} {σ : L2.St} {H : Hp} {Q : Bool → Hp → Prop} (i : ∀ Q, tE X.K X.mg W f σ H Q → t σ H Q) (hf : tT X.K X.mg W (eT f) σ H Q) : tTest t σ H Q := by
  obtain ⟨φ, h, ρ, sm, er, q⟩ := hf
  exact i _ ⟨φ, h, ρ, sm, er, PoT.goE q fun x v h1 H1 φ1 st sm1 rv q1 => PoT.bl sm1 rv q1⟩
theorem et_cmp {op : CmpOp} (ho : OpR X (compareOp op) r) (ok : Ok2 X.K r g) (ha : EE X W a fa) (hb : EE X W b fb) (hm : behindInMarks op b = false) : ET X W (.Compare a [op] [b] pos) (eT (eOp g fa fb)) :=
  PT.of (pt_cmpR ho ha hb hm) fun σ H Q hf => tTest_ok (fun Q hf => tOp_ok ok hf) hf
theorem et_val (ha : EE X W a fa) (he : ∀ whole, isTrue a X.env whole = (do let v ← whole; standAt a.pos; holding [v] (truthy v)) := by intro _; rfl) : ET X W a (eT fa) :=
  PT.of (pt_val ha he) fun σ H Q hf => tTest_ok (t := tE X.K X.mg W fa) (fun Q hf => hf) hf
/-- a op b op' c -/
def eChain (g g' : G2) (a b c : Ev) : Ev := fun ρ h => (a ρ h).bind fun x h1 => (b ρ h1).bind fun y h2 => (ofO (g x y h2)).bind fun z h3 => match z with
  | .d (.bool true) => (c ρ h3).bind fun w h4 => ofO (g' y w h4)
  | .d (.bool false) => .ok (.d (.bool false)) h3
  | _ => .no
theorem tChain_ok {σ : L2.St} {H : Hp} {Q : VK} (ok : Ok2 X.K r g) (ok' : Ok2 X.K r' g') (hf : tE X.K X.mg W (eChain g g' fa fb fc) σ H Q) : tChain r r' (tE X.K X.mg W fa) (tE X.K X.mg W fb) (tE X.K X.mg W fc) σ H Q := by
  obtain ⟨φ, h, ρ, sm, er, q⟩ := hf
  refine ⟨φ, h, ρ, sm, er, PoX.goE q fun x v h1 H1 φ1 st sm1 rv q1 => ⟨φ1, h1, ρ, sm1, er.step st, PoX.goE q1 fun y w h2 H2 φ2 st2 sm2 rw q2 => ?_⟩⟩
  have q3 := PoX.goE (Q1 := fun z H3 => ∃ k, z = .bl k ∧ if k = true then tE X.K X.mg W fc σ H3 (fun zz H4 => r' y zz H4 Q) else Q (.bl false) H3) q2 fun z u h3 H3 φ3 st3 sm3 ru q3 => by
    split at q3
    · refine ⟨true, VRep.bl ru, ?_⟩
      rw [if_pos rfl]
      refine ⟨φ3, h3, ρ, sm3, (er.step (st.trans st2)).step st3, PoX.goE q3 fun zz ww h4 H4 φ4 st4 sm4 rw4 q4 => ?_⟩
      obtain ⟨z5, h5, e5, k5⟩ := PoX.ofO q4
      exact ok' φ4 h4 H4 y zz w ww Q z5 h5 sm4 (rw.step (st3.trans st4)) rw4 e5 k5
    · refine ⟨false, VRep.bl ru, ?_⟩
      rw [if_neg Bool.false_ne_true]
      exact PoX.now (v := .d (.bool false)) q3 sm3 (Rep.bl false)
    · exact q3.elim
  obtain ⟨z, h3, e, k⟩ := PoX.ofO q3
  exact ok φ2 h2 H2 x y v w _ z h3 sm2 (rv.step st2) rw e k
theorem ee_chain {op op' : CmpOp} (ho : OpR X (compareOp op) r) (ho' : OpR X (compareOp op') r') (ok : Ok2 X.K r g) (ok' : Ok2 X.K r' g') (ha : EE X W a fa) (hb : EE X W b fb) (hc : EE X W c fc)
    (hm : lastMarks [op, op'] [b, c] = false := by with_unfolding_all rfl) : EE X W (.Compare a [op, op'] [b, c] pos) (eChain g g' fa fb fc) :=
  PE.of (pe_chain ho ho' ha hb hc hm) fun σ H Q hf => tChain_ok ok ok' hf
theorem et_chain {op op' : CmpOp} (ho : OpR X (compareOp op) r) (ho' : OpR X (compareOp op') r') (ok : Ok2 X.K r g) (ok' : Ok2 X.K r' g') (ha : EE X W a fa) (hb : EE X W b fb) (hc : EE X W c fc)
    (hm : lastMarks [op, op'] [b, c] = false := by with_unfolding_all rfl) : ET X W (.Compare a [op, op'] [b, c] pos) (eT (eChain g g' fa fb fc)) :=
  PT.of (pt_chain ho ho' ha hb hc hm) fun σ H Q hf => tTest_ok (fun Q hf => tChain_ok ok ok' hf) hf
end
end Rk

/-! Rk3: the operators themselves. -/
namespace Rk
open PySem PySem.Spec L2
/-! ### ints -/
def gInt (f : Int → Int → Option Da) : G2 := fun x y h => match x, y with
  | .d (.int a), .d (.int b) => (f a b).map fun z => (.d z, h)
  | _, _ => none
section
variable {K : PySem.W.Frag}
theorem VRep.int {φ : List Addr} {h : Hh} {H : Hp} {x : V} {c : Int} (r : VRep K φ h H x (.d (.int c))) : x = .int c := by
  cases r
  rfl
theorem VRep.str {φ : List Addr} {h : Hh} {H : Hp} {x : V} {c : Str} (r : VRep K φ h H x (.d (.str c))) : x = .str c := by
  cases r
  rfl
theorem VRep.non {φ : List Addr} {h : Hh} {H : Hp} {x : V} (r : VRep K φ h H x (.d .none)) : x = .non := by
  cases r
  rfl
theorem gInt_ok {f : Int → Int → Option Da} {r : R2} (hr : ∀ (a b : Int) (d : Da) (H : Hp) (Q : VK), f a b = some d → (∀ z, (∀ M, Rep K H M z d) → Q z H) → r (.int a) (.int b) H Q) : Ok2 K r (gInt f) := by
  intro φ h H x y a b Q v h' sm rx ry e k
  unfold gInt at e
  split at e
  · rw [VRep.int rx, VRep.int ry]
    rename_i a b
    cases e1 : f a b with
    | none => rw [e1] at e; cases e
    | some d =>
      rw [e1] at e
      cases e
      exact hr a b d H Q e1 fun z hz => k z H φ (Step.refl _ _ _) sm (hz _)
  · cases e
instance (a b : Int) : Decidable (IntMulOk a b) := by unfold IntMulOk; infer_instance
def fAdd (a b : Int) : Option Da := some (.int (a + b))
def fSub (a b : Int) : Option Da := some (.int (a - b))
def fMul (a b : Int) : Option Da := if IntMulOk a b then some (.int (a * b)) else none
def fDiv (a b : Int) : Option Da := if b ≠ 0 ∧ Builtin.divisionGoesByPylong a b = false then some (.int (a.fdiv b)) else none
def fMod (a b : Int) : Option Da := if b ≠ 0 then some (.int (a.fmod b)) else none
def fPow (a b : Int) : Option Da := if 0 ≤ b ∧ b ≤ 1000000 ∧ a.natAbs < 2 ^ 64 then some (.int (a ^ b.toNat)) else none
def fLt (a b : Int) : Option Da := some (.bool (decide (a < b)))
def fLe (a b : Int) : Option Da := some (.bool (decide (a ≤ b)))
def fGt (a b : Int) : Option Da := some (.bool (decide (b < a)))
def fGe (a b : Int) : Option Da := some (.bool (decide (b ≤ a)))
theorem ok_sub : Ok2 K (rI0 fun i j => .int (i - j)) (gInt fSub) := gInt_ok fun a b d H Q e k => by
  cases e
  exact ⟨a, b, rfl, rfl, k _ fun _ => .int _⟩
theorem ok_mod : Ok2 K (rI (fun _ j => j ≠ 0) fun i j => .int (i.fmod j)) (gInt fMod) := gInt_ok fun a b d H Q e k => by
  unfold fMod at e
  split at e
  · cases e
    exact ⟨a, b, rfl, rfl, by assumption, k _ fun _ => .int _⟩
  · cases e
/-- // where C divides -/
def CDivC (i j : Int) : Prop := j ≠ 0 ∧ Builtin.divisionGoesByPylong i j = false
theorem op_fdivC {X : Cx} : OpR X (binaryOp .FloorDiv) (rI CDivC fun i j => .int (i.fdiv j)) := opI fun i j _ _ _ _ _ hc q => PyProof.Rows.floordiv_int hc.1 q (.inl hc.2)
theorem ok_div : Ok2 K (rI CDivC fun i j => .int (i.fdiv j)) (gInt fDiv) := gInt_ok fun a b d H Q e k => by
  unfold fDiv at e
  split at e
  · cases e
    exact ⟨a, b, rfl, rfl, by assumption, k _ fun _ => .int _⟩
  · cases e
theorem op_mulC {X : Cx} : OpR X (binaryOp .Mult) (rI IntMulOk fun i j => .int (i * j)) := opI fun _ _ _ _ _ _ _ hc q => PyProof.Rows.mul_int q hc
theorem ok_mul : Ok2 K (rI IntMulOk fun i j => .int (i * j)) (gInt fMul) := gInt_ok fun a b d H Q e k => by
  unfold fMul at e
  split at e
  · cases e
    exact ⟨a, b, rfl, rfl, by assumption, k _ fun _ => .int _⟩
  · cases e
theorem ok_pow : Ok2 K (rI CPow fun i j => .int (i ^ j.toNat)) (gInt fPow) := gInt_ok fun a b d H Q e k => by
  unfold fPow at e
  split at e
  · cases e
    exact ⟨a, b, rfl, rfl, by assumption, k _ fun _ => .int _⟩
  · cases e
theorem ok_lt : Ok2 K (rI0 fun i j => .bl (decide (i < j))) (gInt fLt) := gInt_ok fun a b d H Q e k => by
  cases e
  exact ⟨a, b, rfl, rfl, k _ fun _ => .bl _⟩
theorem ok_le : Ok2 K (rI0 fun i j => .bl (decide (i ≤ j))) (gInt fLe) := gInt_ok fun a b d H Q e k => by
  cases e
  exact ⟨a, b, rfl, rfl, k _ fun _ => .bl _⟩
theorem ok_gt : Ok2 K (rI0 fun i j => .bl (decide (j < i))) (gInt fGt) := gInt_ok fun a b d H Q e k => by
  cases e
  exact ⟨a, b, rfl, rfl, k _ fun _ => .bl _⟩
theorem ok_ge : Ok2 K (rI0 fun i j => .bl (decide (j ≤ i))) (gInt fGe) := gInt_ok fun a b d H Q e k => by
  cases e
  exact ⟨a, b, rfl, rfl, k _ fun _ => .bl _⟩
end
/-! ### + -/
def gAdd : G2 := fun x y h => match x, y with
  | .d (.int a), .d (.int b) => some (.d (.int (a + b)), h)
  | .d (.str a), .d (.str b) => if fitB (a.length + b.length) then some (.d (.str (a ++ b)), h) else none
  | .d (.tuple a), .d (.tuple b) => if fitB (a.length + b.length) then some (.d (.tuple (a ++ b)), h) else none
  | x, y => match asL x h, asL y h with
    | some a, some b => if fitB (a.length + b.length) then some (.r h.length, h ++ [some (.lst (a ++ b))]) else none
    | _, _ => none
def rCatL (K : PySem.W.Frag) : R2 := fun x y H Q => ∃ a b xs ys, x = .ref a ∧ y = .ref b ∧ SqL K H a xs ∧ SqL K H b ys ∧ xs.length + ys.length ≤ sizeLine ∧ ∀ p, H p = none → Q (.ref p) (upd H p (.lst (xs ++ ys)))
def rAddA (K : PySem.W.Frag) : R2 := fun x y H Q => (∃ i j, x = .int i ∧ y = .int j ∧ Q (.int (i + j)) H) ∨ (∃ i j, x = .str i ∧ y = .str j ∧ i.length + j.length ≤ sizeLine ∧ Q (.str (i ++ j)) H) ∨ rCatA K x y H Q ∨ rCatL K x y H Q
section
variable {X : Cx}
theorem op_catL : OpR X (binaryOp .Add) (rCatL X.K) := by
  intro pins s σ H x y v u Q I rx ry h
  obtain ⟨a, b, xs, ys, rfl, rfl, ha, hb, hz, q⟩ := h
  cases rx
  cases ry
  obtain ⟨its, r1, ⟨⟨c1, dd1, da1, sl1⟩, n1, e1, f1, g1, k1⟩, z1⟩ := I.list ha
  obtain ⟨its2, r2, ⟨⟨c2, dd2, da2, sl2⟩, n2, e2, f2, g2, k2⟩, z2⟩ := I.list hb
  simp only at f1 g1 k1 f2 g2 k2
  subst f1 g1 k1 f2 g2 k2
  have e : its.toArray ++ its2.toArray = (its ++ its2).toArray := by simp
  have l1 := r1.length
  have l2 := r2.length
  refine PySem.concat_meets ⟨_, e1, rfl⟩ ⟨_, e2, rfl⟩ PySem.noFill_list_add PySem.seq_list_add PySem.F.slot_list_add PySem.F.entry_list_add (PySem.F.args_list_add_2 _ _) (PyProof.Rows.list_addW a b its.toArray its2.toArray n1 n2 none none sl1 sl2 (by simp; omega)) ⟨e1, e2, ?_⟩
  rw [e]
  exact ⟨.ref _, _, I.lnew (t' := s.toks) (r1.append r2) (by rw [List.length_append]; omega), rfl, q _ I.fresh⟩
theorem op_addA : OpR X (binaryOp .Add) (rAddA X.K) := op_add.or (op_add_str.or (op_catA.or op_catL))
end
section
variable {K : PySem.W.Frag}
/-- a new list of data -/
theorem new_list {φ : List Addr} {h : Hh} {H : Hp} {p : Addr} {xs : List V} {ds : List Da} (sm : Sim K φ h H) (r : Reps K H (Live φ h) xs ds) (hp : H p = none) :
    Step φ h H (φ ++ [p]) (h ++ [some (.lst ds)]) (upd H p (.lst xs)) ∧ Sim K (φ ++ [p]) (h ++ [some (.lst ds)]) (upd H p (.lst xs)) ∧ VRep K (φ ++ [p]) (h ++ [some (.lst ds)]) (upd H p (.lst xs)) (.ref p) (.r h.length) :=
  sm.new hp fun M st => ⟨xs, upd_same, r.stay st⟩
theorem new_tup {φ : List Addr} {h : Hh} {H : Hp} {p : Addr} {xs : List V} {ds : List Da} (sm : Sim K φ h H) (r : Reps K H (Live φ h) xs ds) (hp : H p = none) :
    Step φ h H φ h (upd H p (.tup xs)) ∧ Sim K φ h (upd H p (.tup xs)) ∧ VRep K φ h (upd H p (.tup xs)) (.ref p) (.d (.tuple ds)) := by
  obtain ⟨s1, s2⟩ := sm.grow (o := .tup xs) hp
  exact ⟨s1, s2, Rep.tup (.inl upd_same) (sm.fresh hp) (r.stay s1.st)⟩
theorem VRep.tup {φ : List Addr} {h : Hh} {H : Hp} {x : V} {ds : List Da} (r : VRep K φ h H x (.d (.tuple ds))) : ∃ a xs, x = .ref a ∧ SqT K H a xs ∧ Reps K H (Live φ h) xs ds := by
  cases r with
  | tup h n r => exact ⟨_, _, rfl, .inl h, r⟩
  | tupK h r => exact ⟨_, _, rfl, .inr h, r⟩
theorem Reps.ne {H : Hp} {M : Addr → Prop} {xs : List V} {ds : List Da} (r : Reps K H M xs ds) : xs = [] ↔ ds = [] := by
  cases r with
  | nil => simp
  | cons _ _ => simp
theorem ok_add : Ok2 K (rAddA K) gAdd := by
  intro φ h H x y a b Q v h' sm rx ry e k
  unfold gAdd at e
  split at e
  · cases e
    exact .inl ⟨_, _, VRep.int rx, VRep.int ry, k _ H φ (Step.refl _ _ _) sm (Rep.int _)⟩
  · split at e
    · cases e
      exact .inr (.inl ⟨_, _, VRep.str rx, VRep.str ry, fitB_le (by assumption), k _ H φ (Step.refl _ _ _) sm (Rep.str _)⟩)
    · cases e
  · split at e
    · rename_i da db hz
      cases e
      obtain ⟨pa, xs, rfl, sa, ra⟩ := VRep.tup rx
      obtain ⟨pb, ys, rfl, sb, rb⟩ := VRep.tup ry
      refine .inr (.inr (.inl ⟨pa, pb, xs, ys, rfl, rfl, sa, sb, by rw [ra.length, rb.length]; exact fitB_le hz, fun z => ?_, fun _ z => ?_, fun _ _ p hp => ?_⟩))
      · have : da = [] := ra.ne.mp z
        subst this
        exact k _ H φ (Step.refl _ _ _) sm ry
      · have : db = [] := rb.ne.mp z
        subst this
        rw [List.append_nil] at k
        exact k _ H φ (Step.refl _ _ _) sm rx
      · obtain ⟨s1, s2, s3⟩ := new_tup sm (ra.append rb) hp
        exact k _ _ _ s1 s2 s3
    · cases e
  · split at e
    · rename_i la lb ea eb
      split at e
      · rename_i hz
        cases e
        obtain ⟨pa, xs, rfl, sa, ra⟩ := asL_ok sm rx ea
        obtain ⟨pb, ys, rfl, sb, rb⟩ := asL_ok sm ry eb
        refine .inr (.inr (.inr ⟨pa, pb, xs, ys, rfl, rfl, sa, sb, by rw [ra.length, rb.length]; exact fitB_le hz, fun p hp => ?_⟩))
        obtain ⟨s1, s2, s3⟩ := new_list sm (ra.append rb) hp
        exact k _ _ _ s1 s2 s3
      · cases e
    · cases e
/-! ### ==, !=, is, in -/
def eqvB (a b : Da) : Option Bool := if SeqAt.shaped a && SeqAt.shaped b then some (PyData.eqv a b) else none
def gEq : G2 := fun x y h => match asD x h, asD y h with
  | some a, some b => (eqvB a b).map fun z => (.d (.bool z), h)
  | _, _ => none
def gNe : G2 := fun x y h => match asD x h, asD y h with
  | some a, some b => (eqvB a b).map fun z => (.d (.bool (!z)), h)
  | _, _ => none
theorem ok_eq : Ok2 K (rEqD K) gEq := by
  intro φ h H x y a b Q v h' sm rx ry e k
  unfold gEq at e
  split at e
  · rename_i da db ea eb
    unfold eqvB at e
    split at e
    · rename_i hs
      rw [Bool.and_eq_true] at hs
      cases e
      exact ⟨da, db, asD_ok sm rx ea, asD_ok sm ry eb, hs.1, hs.2, k _ H φ (Step.refl _ _ _) sm (Rep.bl _)⟩
    · cases e
  · cases e
theorem ok_ne : Ok2 K (rNeD K) gNe := by
  intro φ h H x y a b Q v h' sm rx ry e k
  unfold gNe at e
  split at e
  · rename_i da db ea eb
    unfold eqvB at e
    split at e
    · rename_i hs
      rw [Bool.and_eq_true] at hs
      cases e
      exact ⟨da, db, asD_ok sm rx ea, asD_ok sm ry eb, hs.1, hs.2, k _ H φ (Step.refl _ _ _) sm (Rep.bl _)⟩
    · cases e
  · cases e
/-- is None, of anything -/
def isN : Vl → Bool
  | .d .none => true
  | _ => false
def gIsN : G2 := fun x y h => match y with
  | .d .none => some (.d (.bool (isN x)), h)
  | _ => none
def gNotN : G2 := fun x y h => match y with
  | .d .none => some (.d (.bool (!isN x)), h)
  | _ => none
theorem isN_ok {φ : List Addr} {h : Hh} {H : Hp} {x : V} {v : Vl} (r : VRep K φ h H x v) : decide (x = .non) = isN v := by
  cases v with
  | d z =>
    cases r <;> first | rfl | exact decide_eq_false (fun q => nomatch q)
  | r n =>
    obtain ⟨a, _, rfl⟩ := r
    exact decide_eq_false (fun q => nomatch q)
  | x c fs => exact r.elim
theorem ok_isN : Ok2 K (fun x y H Q => y = .non ∧ Q (.bl (decide (x = .non))) H) gIsN := by
  intro φ h H x y a b Q v h' sm rx ry e k
  unfold gIsN at e
  split at e
  · cases e
    refine ⟨VRep.non ry, ?_⟩
    rw [isN_ok rx]
    exact k _ H φ (Step.refl _ _ _) sm (Rep.bl _)
  · cases e
theorem ok_notN : Ok2 K (fun x y H Q => y = .non ∧ Q (.bl (!decide (x = .non))) H) gNotN := by
  intro φ h H x y a b Q v h' sm rx ry e k
  unfold gNotN at e
  split at e
  · cases e
    refine ⟨VRep.non ry, ?_⟩
    rw [isN_ok rx]
    exact k _ H φ (Step.refl _ _ _) sm (Rep.bl _)
  · cases e
/-- is, is not of two truths -/
def gIsB : G2 := fun x y h => match x, y with
  | .d (.bool a), .d (.bool b) => some (.d (.bool (decide (a = b))), h)
  | _, _ => none
def gNotB : G2 := fun x y h => match x, y with
  | .d (.bool a), .d (.bool b) => some (.d (.bool (!decide (a = b))), h)
  | _, _ => none
theorem ok_isB : Ok2 K rIsB gIsB := by
  intro φ h H x y a b Q v h' sm rx ry e k
  unfold gIsB at e
  split at e
  · cases e
    exact ⟨_, _, VRep.bl rx, VRep.bl ry, k _ H φ (Step.refl _ _ _) sm (Rep.bl _)⟩
  · cases e
theorem ok_notB : Ok2 K rNotB gNotB := by
  intro φ h H x y a b Q v h' sm rx ry e k
  unfold gNotB at e
  split at e
  · cases e
    exact ⟨_, _, VRep.bl rx, VRep.bl ry, k _ H φ (Step.refl _ _ _) sm (Rep.bl _)⟩
  · cases e
/-- in, not in, of a list or a tuple of flat data -/
def flatD : Da → Bool
  | .none => true
  | .bool _ => true
  | .int _ => true
  | .str _ => true
  | _ => false
def eqF : Da → Da → Bool
  | .none, .none => true
  | .bool a, .bool b => a == b
  | .bool a, .int b => (if a then 1 else 0) == b
  | .int a, .bool b => a == (if b then 1 else 0)
  | .int a, .int b => a == b
  | .str a, .str b => a == b
  | _, _ => false
def inF (x : Da) (xs : List Da) : Bool := xs.any fun y => eqF y x
def asQ : Vl → Hh → Option (List Da)
  | .d (.tuple xs), _ => some xs
  | v, h => asL v h
def gIn (neg : Bool) : G2 := fun x y h => match x, asQ y h with
  | .d a, some bs => if flatD a && bs.all flatD then some (.d (.bool (if neg then !inF a bs else inF a bs)), h) else none
  | _, _ => none
theorem flat_ok {H : Hp} {M : Addr → Prop} {x : V} {d : Da} (r : Rep K H M x d) (f : flatD d = true) : flatV x = true := by
  cases r <;> first | rfl | cases f
theorem flats_ok {H : Hp} {M : Addr → Prop} : ∀ {xs : List V} {ds : List Da}, Reps K H M xs ds → ds.all flatD = true → xs.all flatV = true
  | _, _, .nil, _ => rfl
  | _, _, .cons r t, f => by
    rw [List.all_cons, Bool.and_eq_true] at f
    rw [List.all_cons, flat_ok r f.1, flats_ok t f.2]
    rfl
theorem eqF_ok {H H' : Hp} {M M' : Addr → Prop} {x y : V} {d e : Da} (r : Rep K H M x d) (q : Rep K H' M' y e) (f : flatD d = true) (g : flatD e = true) : eqV x y = eqF d e := by
  cases r <;> first | (cases f; done) | (cases q <;> first | rfl | (cases g; done))
theorem inF_ok {H : Hp} {M : Addr → Prop} {x : V} {d : Da} (r : Rep K H M x d) (f : flatD d = true) : ∀ {xs : List V} {ds : List Da}, Reps K H M xs ds → ds.all flatD = true → inV x xs = inF d ds
  | _, _, .nil, _ => rfl
  | _, _, .cons q t, g => by
    rw [List.all_cons, Bool.and_eq_true] at g
    have ih := inF_ok r f t g.2
    unfold inV inF at *
    rw [List.any_cons, List.any_cons, eqF_ok q r g.1 f, ih]
theorem asQ_ok {φ : List Addr} {h : Hh} {H : Hp} {x : V} {v : Vl} {ds : List Da} (s : Sim K φ h H) (r : VRep K φ h H x v) (e : asQ v h = some ds) : ∃ a xs, x = .ref a ∧ (SqL K H a xs ∨ SqT K H a xs) ∧ Reps K H (Live φ h) xs ds := by
  unfold asQ at e
  split at e
  · cases e
    obtain ⟨a, xs, rfl, q, z⟩ := VRep.tup r
    exact ⟨a, xs, rfl, .inr q, z⟩
  · obtain ⟨a, xs, rfl, q, z⟩ := asL_ok s r e
    exact ⟨a, xs, rfl, .inl q, z⟩
theorem ok_in (neg : Bool) : Ok2 K (rIn K neg) (gIn neg) := by
  intro φ h H x y a b Q v h' sm rx ry e k
  unfold gIn at e
  split at e
  · rename_i da bs eb
    split at e
    · rename_i hf
      rw [Bool.and_eq_true] at hf
      cases e
      obtain ⟨p, xs, rfl, sq, rs⟩ := asQ_ok sm ry eb
      refine ⟨p, xs, rfl, sq, flat_ok rx hf.1, flats_ok rs hf.2, ?_⟩
      rw [inF_ok rx hf.1 rs hf.2]
      exact k _ H φ (Step.refl _ _ _) sm (Rep.bl _)
    · cases e
  · cases e
end
/-! ### and, or, not, if .. else -/
def tvAnd (a b : Tv) : Tv := fun ρ h => (a ρ h).bind fun c h1 => if c then b ρ h1 else .ok false h1
def tvOr (a b : Tv) : Tv := fun ρ h => (a ρ h).bind fun c h1 => if c then .ok true h1 else b ρ h1
def tvNot (a : Tv) : Tv := fun ρ h => (a ρ h).bind fun c h1 => .ok (!c) h1
def eAnd (a b : Ev) : Ev := fun ρ h => (eT a ρ h).bind fun c h1 => if c then b ρ h1 else .ok (.d (.bool false)) h1
def eOr (a b : Ev) : Ev := fun ρ h => (eT a ρ h).bind fun c h1 => if c then .ok (.d (.bool true)) h1 else b ρ h1
def eNot (a : Ev) : Ev := fun ρ h => (eT a ρ h).bind fun c h1 => .ok (.d (.bool (!c))) h1
def eIf (c : Tv) (a b : Ev) : Ev := fun ρ h => (c ρ h).bind fun k h1 => if k then a ρ h1 else b ρ h1
def EW (X : Cx) (W : WX) (e : Expr) (f : Tv) : Prop := PW X e (tT X.K X.mg W f)
section
variable {X : Cx} {W : WX} {a b c : Expr} {fa fb : Ev} {ta tb tc : Tv} {pos : Pos} {rest : List Expr}
theorem EW.et (h : EW X W a ta) : ET X W a ta := PW.pt h
theorem ew_and1 (ha : ET X W a ta) : EW X W (.BoolOp .And [a] pos) ta := pw_and1 ha
theorem ew_or1 (ha : ET X W a ta) : EW X W (.BoolOp .Or [a] pos) ta := pw_or1 ha
theorem PoT.now {K : PySem.W.Frag} {mg : Str → Option Value} {φ : List Addr} {h : Hh} {H : Hp} {v : Bool} {Q : Bool → Hp → Prop} {E : XK} (q : PoT K mg φ h H (.ok v h) Q E) (s : Sim K φ h H) : Q v H := q H φ (Step.refl _ _ _) s
theorem ew_and (ha : ET X W a ta) (hb : EW X W (.BoolOp .And (b :: rest) pos) tb) : EW X W (.BoolOp .And (a :: b :: rest) pos) (tvAnd ta tb) :=
  PW.of (pw_and ha hb) fun σ H Q ⟨φ, h, ρ, sm, er, q⟩ => ⟨φ, h, ρ, sm, er, PoT.goT q fun v h1 H1 φ1 st sm1 q1 => by
    cases v with
    | true => exact iteT ⟨φ1, h1, ρ, sm1, er.step st, q1⟩
    | false => exact iteF (PoT.now q1 sm1)⟩
theorem ew_or (ha : ET X W a ta) (hb : EW X W (.BoolOp .Or (b :: rest) pos) tb) : EW X W (.BoolOp .Or (a :: b :: rest) pos) (tvOr ta tb) :=
  PW.of (pw_or ha hb) fun σ H Q ⟨φ, h, ρ, sm, er, q⟩ => ⟨φ, h, ρ, sm, er, PoT.goT q fun v h1 H1 φ1 st sm1 q1 => by
    cases v with
    | true => exact iteT (PoT.now q1 sm1)
    | false => exact iteF ⟨φ1, h1, ρ, sm1, er.step st, q1⟩⟩
theorem et_not (ha : ET X W a ta) : ET X W (.UnaryOp .Not a pos) (tvNot ta) :=
  PT.of (pt_not ha) fun σ H Q ⟨φ, h, ρ, sm, er, q⟩ => ⟨φ, h, ρ, sm, er, PoT.goT q fun v h1 H1 φ1 st sm1 q1 => PoT.now q1 sm1⟩
theorem ee_ifExp (hc : ET X W c tc) (ha : EE X W a fa) (hb : EE X W b fb) : EE X W (.IfExp c a b pos) (eIf tc fa fb) :=
  PE.of (pe_ifExp hc ha hb) fun σ H Q ⟨φ, h, ρ, sm, er, q⟩ => ⟨φ, h, ρ, sm, er, PoX.goT q fun v h1 H1 φ1 st sm1 q1 => by
    cases v with
    | true => exact iteT ⟨φ1, h1, ρ, sm1, er.step st, q1⟩
    | false => exact iteF ⟨φ1, h1, ρ, sm1, er.step st, q1⟩⟩
theorem ee_one {op : BoolOp} (ha : EE X W a fa) : EE X W (.BoolOp op [a] pos) fa := pe_one ha
theorem PoX.goV {K : PySem.W.Frag} {mg : Str → Option Value} {φ : List Addr} {h : Hh} {H : Hp} {E : XK} {o : Out Vl} {k : Bool → Hh → Out Vl} {Q : VK} {Q1 : VK} (q : PoX K mg φ h H ((o.bind truO).bind k) Q E)
    (hk : ∀ (c : Bool) (h1 : Hh) (H1 : Hp) (φ1 : List Addr), Step φ h H φ1 h1 H1 → Sim K φ1 h1 H1 → PoX K mg φ1 h1 H1 (k c h1) Q E → Q1 (.bl c) H1) : PoX K mg φ h H o Q1 E := by
  cases o with
  | ok v h1 =>
    intro x H1 φ1 st sm1 rv
    have q2 : PoX K mg φ h H ((truO v h1).bind k) Q E := q
    unfold truO at q2
    split at q2
    · rw [VRep.bl rv]
      exact hk _ _ _ φ1 st sm1 (PoX.pull st q2)
    · exact q2.elim
  | ex c fs h1 => exact q
  | no => exact q
theorem ee_and (ha : EE X W a fa) (hb : EE X W (.BoolOp .And (b :: rest) pos) fb) : EE X W (.BoolOp .And (a :: b :: rest) pos) (eAnd fa fb) :=
  PE.of (pe_and ha hb) fun σ H Q ⟨φ, h, ρ, sm, er, q⟩ => ⟨φ, h, ρ, sm, er, PoX.goV q fun v h1 H1 φ1 st sm1 q1 => ⟨v, rfl, by
    cases v with
    | true => exact iteT ⟨φ1, h1, ρ, sm1, er.step st, q1⟩
    | false => exact iteF (PoX.now (v := .d (.bool false)) q1 sm1 (Rep.bl false))⟩⟩
theorem ee_or (ha : EE X W a fa) (hb : EE X W (.BoolOp .Or (b :: rest) pos) fb) : EE X W (.BoolOp .Or (a :: b :: rest) pos) (eOr fa fb) :=
  PE.of (pe_or ha hb) fun σ H Q ⟨φ, h, ρ, sm, er, q⟩ => ⟨φ, h, ρ, sm, er, PoX.goV q fun v h1 H1 φ1 st sm1 q1 => ⟨v, rfl, by
    cases v with
    | true => exact iteT (PoX.now (v := .d (.bool true)) q1 sm1 (Rep.bl true))
    | false => exact iteF ⟨φ1, h1, ρ, sm1, er.step st, q1⟩⟩⟩
theorem ee_not (ha : EE X W a fa) : EE X W (.UnaryOp .Not a pos) (eNot fa) :=
  PE.of (pe_not ha) fun σ H Q ⟨φ, h, ρ, sm, er, q⟩ => ⟨φ, h, ρ, sm, er, PoX.goV q fun v h1 H1 φ1 st sm1 q1 => ⟨v, rfl, PoX.now (v := .d (.bool (!v))) q1 sm1 (Rep.bl (!v))⟩⟩
/-- - n -/
def eNeg (a : Ev) : Ev := fun ρ h => (a ρ h).bind fun x h1 => match x with
  | .d (.int i) => .ok (.d (.int (-i))) h1
  | _ => .no
theorem ee_neg (ha : EE X W a fa) : EE X W (.UnaryOp .USub a pos) (eNeg fa) :=
  PE.of (pe_un un_neg ha) fun σ H Q ⟨φ, h, ρ, sm, er, q⟩ => ⟨φ, h, ρ, sm, er, PoX.goE q fun x v h1 H1 φ1 st sm1 rv q1 => by
    cases v with
    | d z =>
      cases z with
      | int i => exact ⟨i, VRep.int rv, PoX.now (v := .d (.int (-i))) q1 sm1 (Rep.int _)⟩
      | _ => exact q1.elim
    | r n => exact q1.elim
    | x c fs => exact q1.elim⟩
end
/-! ### argument lists, displays, calls -/
def aNil : Av := fun _ h => .ok [] h
def aCons (a : Ev) (r : Av) : Av := fun ρ h => (a ρ h).bind fun x h1 => (r ρ h1).bind fun xs h2 => .ok (x :: xs) h2
def eTup (as : Av) : Ev := fun ρ h => (as ρ h).bind fun vs h1 => match fzs vs h1 with
  | some (ds, h2) => if fitB ds.length then .ok (.d (.tuple ds)) h2 else .no
  | none => .no
def eLst (as : Av) : Ev := fun ρ h => (as ρ h).bind fun vs h1 => match fzs vs h1 with
  | some (ds, h2) => if fitB ds.length then .ok (.r h2.length) (h2 ++ [some (.lst ds)]) else .no
  | none => .no
def spF (K : PySem.W.Frag) (mg : Str → Option Value) (m : Fn) : Sp := fun vs H Q E => ∃ φ h as, Sim K φ h H ∧ VReps K φ h H vs as ∧ PoX K mg φ h H (m as h) Q E
def eCall (m : Fn) (as : Av) : Ev := fun ρ h => (as ρ h).bind m
abbrev GC := List Vl → Hh → Option (Vl × Hh)
def eBlt (g : GC) (as : Av) : Ev := fun ρ h => (as ρ h).bind fun vs h1 => ofO (g vs h1)
def OkC (K : PySem.W.Frag) (r : List V → Hp → VK → Prop) (g : GC) : Prop := ∀ (φ : List Addr) (h : Hh) (H : Hp) (xs : List V) (as : List Vl) (Q : VK) (v : Vl) (h' : Hh), Sim K φ h H → VReps K φ h H xs as → g as h = some (v, h') →
  (∀ z H' φ', Step φ h H φ' h' H' → Sim K φ' h' H' → VRep K φ' h' H' z v → Q z H') → r xs H Q
section
variable {X : Cx} {W : WX} {e : Expr} {es : List Expr} {fe : Ev} {fs : Av} {pos : Pos}
theorem ea_nil : EA X W [] aNil := PA.of pa_nil fun σ H Q ⟨φ, h, ρ, sm, er, q⟩ => q [] H φ (Step.refl _ _ _) sm .nil
theorem ea_cons (ha : EE X W e fe) (hr : EA X W es fs) (hs : starEach (e :: es) X.env = (false, eval e X.env) :: starEach es X.env := by rfl) : EA X W (e :: es) (aCons fe fs) :=
  PA.of (pa_cons ha hr hs) fun σ H Q ⟨φ, h, ρ, sm, er, q⟩ => ⟨φ, h, ρ, sm, er, PoA.goE q fun x v h1 H1 φ1 st sm1 rv q1 => ⟨φ1, h1, ρ, sm1, er.step st, PoA.goA q1 fun xs vs h2 H2 φ2 st2 sm2 rvs q2 =>
    q2 (x :: xs) H2 φ2 (Step.refl _ _ _) sm2 (.cons (rv.step st2) rvs)⟩⟩
theorem ee_tup {k : Nat} (ha : EA X W es fs) : EE X W (.Tuple es k pos) (eTup fs) :=
  PE.of (pe_tup ha) fun σ H Q ⟨φ, h, ρ, sm, er, q⟩ => ⟨φ, h, ρ, sm, er, PoX.goA q fun xs vs h1 H1 φ1 st sm1 rvs q1 => by
    cases e : fzs vs h1 with
    | none => rw [e] at q1; exact q1.elim
    | some p =>
      obtain ⟨ds, h2⟩ := p
      rw [e] at q1
      dsimp only at q1
      split at q1
      · obtain ⟨s1, s2, s3⟩ := fzs_ok sm1 rvs e
        refine ⟨by rw [s3.length]; exact fitB_le (by assumption), fun p hp => ?_⟩
        obtain ⟨t1, t2, t3⟩ := new_tup s2 s3 hp
        exact q1 _ _ _ (s1.trans t1) t2 t3
      · exact q1.elim⟩
theorem ee_lst (ha : EA X W es fs) : EE X W (.List es pos) (eLst fs) :=
  PE.of (pe_lst ha) fun σ H Q ⟨φ, h, ρ, sm, er, q⟩ => ⟨φ, h, ρ, sm, er, PoX.goA q fun xs vs h1 H1 φ1 st sm1 rvs q1 => by
    cases e : fzs vs h1 with
    | none => rw [e] at q1; exact q1.elim
    | some p =>
      obtain ⟨ds, h2⟩ := p
      rw [e] at q1
      dsimp only at q1
      split at q1
      · obtain ⟨s1, s2, s3⟩ := fzs_ok sm1 rvs e
        refine ⟨by rw [s3.length]; exact fitB_le (by assumption), fun p hp => ?_⟩
        obtain ⟨t1, t2, t3⟩ := new_list s2 s3 hp
        exact q1 _ _ _ (s1.trans t1) t2 t3
      · exact q1.elim⟩
theorem ee_call {k : Nat} {f : Addr} {fd : FuncData} {ps : List Str} {m : Fn} {x : Str} {p : Pos} (F : FnOk X.prog X.w X.K X.mg X.base (L2.CX X.prog X.w) k f fd ps (spF X.K X.mg m)) (hr : Room k X.A) (hg : Gl X x) (hm : X.mg x = some (.ref f)) (hk : PySem.W.keepIn X.K (.ref f) = true) (hb : Binds X.K fd ps []) (tk : Takes X W)
    (ha : EA X W (e :: es) fs) (hdb : (x == ("__debug__" : Str)) = false := by decide) (he : starEach (e :: es) X.env = (false, eval e X.env) :: starEach es X.env := by rfl) (hpl : (backTo pos (starEach es X.env)).any (·.1) = false := by rfl) :
    EE X W (.Call (.Name x p) (e :: es) [] pos) (eCall m fs) := by
  refine PE.of (pe_callS F hr hg hm hk hb (fun σ => passAt tk σ) ha hdb he hpl) fun σ H Q ⟨φ, h, ρ, sm, er, q⟩ => ⟨φ, h, ρ, sm, er, PoX.goA q fun xs vs h1 H1 φ1 st sm1 rvs q1 => ⟨φ1, h1, vs, sm1, rvs, q1⟩⟩
theorem ee_blt {x : Str} {id : String} {p : Pos} {r : List V → Hp → VK → Prop} {g : GC} (hc : CallR X (.builtin id) r) (ok : OkC X.K r g) (hg : Gl X x) (hm : X.mg x = none) (hv : bootBuiltins x = some (.builtin id)) (ha : EA X W (e :: es) fs) (hn : x ≠ "__name__" := by decide) (hdb : (x == ("__debug__" : Str)) = false := by decide)
    (he : starEach (e :: es) X.env = (false, eval e X.env) :: starEach es X.env := by rfl) (hpl : (backTo pos (starEach es X.env)).any (·.1) = false := by rfl) : EE X W (.Call (.Name x p) (e :: es) [] pos) (eBlt g fs) :=
  PE.of (pe_callB hc hg hm hv ha hn hdb he hpl) fun σ H Q ⟨φ, h, ρ, sm, er, q⟩ => ⟨φ, h, ρ, sm, er, PoX.goA q fun xs vs h1 H1 φ1 st sm1 rvs q1 => by
    obtain ⟨z, h2, e2, k⟩ := PoX.ofO q1
    exact ok φ1 h1 H1 xs vs Q z h2 sm1 rvs e2 k⟩
theorem ee_bltT {x : Str} {T : String} {p : Pos} {r : List V → Hp → VK → Prop} {g : GC} (hc : CallR X (.type T) r) (ok : OkC X.K r g) (hg : Gl X x) (hm : X.mg x = none) (hv : bootBuiltins x = some (.type T)) (ha : EA X W (e :: es) fs) (hn : x ≠ "__name__" := by decide) (hdb : (x == ("__debug__" : Str)) = false := by decide)
    (he : starEach (e :: es) X.env = (false, eval e X.env) :: starEach es X.env := by rfl) (hpl : (backTo pos (starEach es X.env)).any (·.1) = false := by rfl) : EE X W (.Call (.Name x p) (e :: es) [] pos) (eBlt g fs) :=
  PE.of (pe_callTy hc hg hm hv ha hn hdb he hpl) fun σ H Q ⟨φ, h, ρ, sm, er, q⟩ => ⟨φ, h, ρ, sm, er, PoX.goA q fun xs vs h1 H1 φ1 st sm1 rvs q1 => by
    obtain ⟨z, h2, e2, k⟩ := PoX.ofO q1
    exact ok φ1 h1 H1 xs vs Q z h2 sm1 rvs e2 k⟩
end
end Rk

/-! Rk4: subscripts, slices, built-in functions. -/
namespace Rk
open PySem PySem.Spec L2
section
variable {K : PySem.W.Frag}
theorem Reps.atI {H : Hp} {M : Addr → Prop} {xs : List V} {ds : List Da} {i : Int} {d : Da} (r : Reps K H M xs ds) (e : atI ds i = some d) : ∃ v, L2.atI xs i = some v ∧ Rep K H M v d := by
  unfold L2.atI at *
  rw [r.length]
  cases q : ixN ds.length i with
  | none => rw [q] at e; cases e
  | some j =>
    rw [q] at e
    exact Reps.get r e
def gIx : G2 := fun x y h => match x, y with
  | .d (.tuple xs), .d (.int i) => (atI xs i).map fun d => (.d d, h)
  | .d (.str z), .d (.int i) => if fitB z.length then (atI z.cps.toList i).map fun c => (.d (.str ⟨#[c]⟩), h) else none
  | x, .d (.int i) => match asL x h with
    | some xs => (atI xs i).map fun d => (.d d, h)
    | none => none
  | _, _ => none
theorem ok_ix : Ok2 K (rIx K) gIx := by
  intro φ h H x y a b Q v h' sm rx ry e k
  unfold gIx at e
  split at e
  · rename_i xs i
    cases q : atI xs i with
    | none => rw [q] at e; cases e
    | some d =>
      rw [q] at e
      cases e
      obtain ⟨p, zs, rfl, sq, rs⟩ := VRep.tup rx
      obtain ⟨z, e1, rz⟩ := rs.atI q
      exact .inr (.inl ⟨p, zs, i, z, rfl, VRep.int ry, sq, e1, k z H φ (Step.refl _ _ _) sm rz⟩)
  · rename_i z i
    split at e
    · cases q : atI z.cps.toList i with
      | none => rw [q] at e; cases e
      | some c =>
        rw [q] at e
        cases e
        exact .inr (.inr ⟨z, i, c, VRep.str rx, VRep.int ry, fitB_le (by assumption), q, k _ H φ (Step.refl _ _ _) sm (Rep.str _)⟩)
    · cases e
  · rename_i i _ _
    split at e
    · rename_i xs ex
      cases q : atI xs i with
      | none => rw [q] at e; cases e
      | some d =>
        rw [q] at e
        cases e
        obtain ⟨p, zs, rfl, sq, rs⟩ := asL_ok sm rx ex
        obtain ⟨z, e1, rz⟩ := rs.atI q
        exact .inl ⟨p, zs, i, z, rfl, VRep.int ry, sq, e1, k z H φ (Step.refl _ _ _) sm rz⟩
    · cases e
  · cases e
end
section
variable {X : Cx} {W : WX} {a b : Expr} {fa fb : Ev} {pos : Pos}
theorem ee_ix (ha : EE X W a fa) (hb : EE X W b fb) (hs : PlainIx b := by exact fun _ _ => rfl) : EE X W (.Subscript a b pos) (eOp gIx fa fb) :=
  PE.of (pe_ix ix_seq ha hb hs) fun σ H Q hf => tOp_ok ok_ix hf
end
/-! ### slices -/
def cutD {α : Type} (xs : List α) (lo hi : Option Int) : List α := (xs.drop (HT.sIx xs.length 0 lo)).take (HT.sIx xs.length xs.length hi - HT.sIx xs.length 0 lo)
abbrev Ov := En → Hh → Out (Option Int)
def oNone : Ov := fun _ h => .ok none h
def oInt : Vl → Hh → Out (Option Int)
  | .d (.int i), h => .ok (some i) h
  | _, _ => .no
def oSome (f : Ev) : Ov := fun ρ h => (f ρ h).bind oInt
def gSl (x : Vl) (lo hi : Option Int) (h : Hh) : Option (Vl × Hh) := match x with
  | .d (.tuple xs) => some (.d (.tuple (cutD xs lo hi)), h)
  | .d (.str z) => if fitB z.length then some (.d (.str (cutS z lo hi)), h) else none
  | x => match asL x h with
    | some xs => some (.r h.length, h ++ [some (.lst (cutD xs lo hi))])
    | none => none
def eSl (f : Ev) (lo hi : Ov) : Ev := fun ρ h => (f ρ h).bind fun x h1 => (lo ρ h1).bind fun l h2 => (hi ρ h2).bind fun u h3 => ofO (gSl x l u h3)
def PoO (K : PySem.W.Frag) (mg : Str → Option Value) (φ : List Addr) (h : Hh) (H : Hp) (o : Out (Option Int)) (Q : Option Int → Hp → Prop) (E : XK) : Prop := match o with
  | .ok v h' => ∀ H' φ', Step φ h H φ' h' H' → Sim K φ' h' H' → Q v H'
  | .ex c fs h' => ∀ cls dd H' φ', Step φ h H φ' h' H' → Sim K φ' h' H' → XRep K mg H' (Live φ' h') c fs cls dd → E cls dd H'
  | .no => False
def tO (K : PySem.W.Frag) (mg : Str → Option Value) (W : WX) (f : Ov) : TO := fun σ H Q => ∃ φ h ρ, Sim K φ h H ∧ ERep K φ h H σ ρ ∧ PoO K mg φ h H (f ρ h) Q (WE W σ)
def EO (X : Cx) (W : WX) (e : Option Expr) (f : Ov) : Prop := PO X e (tO X.K X.mg W f)
theorem PO.of {X : Cx} {e : Option Expr} {t t' : TO} (h : PO X e t) (i : ∀ σ H Q, t' σ H Q → t σ H Q) : PO X e t' := ⟨fun pins s σ H Q I w => h.run pins s σ H Q I (i σ H Q w)⟩
section
variable {K : PySem.W.Frag} {mg : Str → Option Value} {φ : List Addr} {h : Hh} {H : Hp} {E : XK}
theorem PoX.goO {o : Out (Option Int)} {k : Option Int → Hh → Out Vl} {Q : VK} {Q1 : Option Int → Hp → Prop} (q : PoX K mg φ h H (o.bind k) Q E)
    (hk : ∀ (v : Option Int) (h1 : Hh) (H1 : Hp) (φ1 : List Addr), Step φ h H φ1 h1 H1 → Sim K φ1 h1 H1 → PoX K mg φ1 h1 H1 (k v h1) Q E → Q1 v H1) : PoO K mg φ h H o Q1 E := by
  cases o with
  | ok v h1 => exact fun H' φ' st sm' => hk v h1 H' φ' st sm' (PoX.pull st q)
  | ex c fs h1 => exact q
  | no => exact q
theorem PoO.goE {o : Out Vl} {Q : Option Int → Hp → Prop} {Q1 : VK} (q : PoO K mg φ h H (o.bind oInt) Q E)
    (hk : ∀ (i : Int) (H1 : Hp), Q (some i) H1 → Q1 (.int i) H1) : PoX K mg φ h H o Q1 E := by
  cases o with
  | ok v h1 =>
    intro x H' φ' st sm' rv
    have q2 : PoO K mg φ h H (oInt v h1) Q E := q
    unfold oInt at q2
    split at q2
    · rw [VRep.int rv]
      exact hk _ _ (q2 H' φ' st sm')
    · exact q2.elim
  | ex c fs h1 => exact q
  | no => exact q
theorem Reps.cut {H : Hp} {M : Addr → Prop} {xs : List V} {ds : List Da} (lo hi : Option Int) (r : Reps K H M xs ds) : Reps K H M (cutV xs lo hi) (cutD ds lo hi) := by
  unfold cutV cutD
  rw [r.length]
  exact (r.drop _).take _
def rSlAll (K : PySem.W.Frag) : V → Option Int → Option Int → Hp → VK → Prop := fun x lo hi H Q => rSlA K x lo hi H Q ∨ rSlS x lo hi H Q ∨ rSlL K x lo hi H Q
theorem sl_all {X : Cx} : SlR X (rSlAll X.K) := sl_tupA.or (sl_str.or sl_list)
theorem cutD_all {α : Type} {xs : List α} {lo hi : Option Int} (h : HT.sIx xs.length 0 lo = 0 ∧ HT.sIx xs.length xs.length hi = xs.length) : cutD xs lo hi = xs := by
  unfold cutD
  rw [h.1, h.2]
  simp
theorem gSl_ok {x : V} {v : Vl} {lo hi : Option Int} {Q : VK} {w : Vl} {h' : Hh} (sm : Sim K φ h H) (rx : VRep K φ h H x v) (e : gSl v lo hi h = some (w, h'))
    (k : ∀ z H' φ', Step φ h H φ' h' H' → Sim K φ' h' H' → VRep K φ' h' H' z w → Q z H') : rSlAll K x lo hi H Q := by
  unfold gSl at e
  split at e
  · cases e
    obtain ⟨p, zs, rfl, sq, rs⟩ := VRep.tup rx
    refine .inl ⟨p, zs, rfl, sq, fun hw => ?_, fun _ q hq => ?_⟩
    · rw [rs.length] at hw
      rw [cutD_all hw] at k
      exact k _ H φ (Step.refl _ _ _) sm rx
    · obtain ⟨s1, s2, s3⟩ := new_tup sm (rs.cut lo hi) hq
      exact k _ _ _ s1 s2 s3
  · split at e
    · cases e
      exact .inr (.inl ⟨_, VRep.str rx, fitB_le (by assumption), k _ H φ (Step.refl _ _ _) sm (Rep.str _)⟩)
    · cases e
  · split at e
    · rename_i xs ex
      cases e
      obtain ⟨p, zs, rfl, sq, rs⟩ := asL_ok sm rx ex
      refine .inr (.inr ⟨p, zs, rfl, sq, fun q hq => ?_⟩)
      obtain ⟨s1, s2, s3⟩ := new_list sm (rs.cut lo hi) hq
      exact k _ _ _ s1 s2 s3
    · cases e
end
section
variable {X : Cx} {W : WX} {a : Expr} {fa : Ev} {pos p2 : Pos} {lo hi : Option Expr} {fl fh : Ov}
theorem eo_none : EO X W none oNone := PO.of po_none fun σ H Q ⟨φ, h, ρ, sm, er, q⟩ => q H φ (Step.refl _ _ _) sm
theorem eo_some (ha : EE X W a fa) : EO X W (some a) (oSome fa) := PO.of (po_some ha) fun σ H Q ⟨φ, h, ρ, sm, er, q⟩ => ⟨φ, h, ρ, sm, er, PoO.goE q fun i H1 z => ⟨i, rfl, z⟩⟩
theorem ee_slice (ha : EE X W a fa) (hl : EO X W lo fl) (hh : EO X W hi fh) : EE X W (.Subscript a (.Slice lo hi none p2) pos) (eSl fa fl fh) :=
  PE.of (pe_slice sl_all ha hl hh) fun σ H Q ⟨φ, h, ρ, sm, er, q⟩ => ⟨φ, h, ρ, sm, er, PoX.goE q fun x v h1 H1 φ1 st sm1 rv q1 => ⟨φ1, h1, ρ, sm1, er.step st, PoX.goO q1 fun l h2 H2 φ2 st2 sm2 q2 =>
    ⟨φ2, h2, ρ, sm2, (er.step st).step st2, PoX.goO q2 fun u h3 H3 φ3 st3 sm3 q3 => by
      obtain ⟨z, h4, e4, k4⟩ := PoX.ofO q3
      exact gSl_ok sm3 (rv.step (st2.trans st3)) e4 k4⟩⟩⟩
end
/-! ### built-in functions -/
section
variable {K : PySem.W.Frag}
def gLen : GC := fun as h => match as with
  | [.d (.tuple xs)] => some (.d (.int xs.length), h)
  | [.d (.str z)] => if fitB z.length then some (.d (.int z.length), h) else none
  | [x] => match asL x h with
    | some xs => some (.d (.int xs.length), h)
    | none => none
  | _ => none
theorem VReps.one {φ : List Addr} {h : Hh} {H : Hp} {xs : List V} {v : Vl} (r : VReps K φ h H xs [v]) : ∃ x, xs = [x] ∧ VRep K φ h H x v := by
  cases r with
  | cons r t =>
    cases t
    exact ⟨_, rfl, r⟩
theorem VReps.two {φ : List Addr} {h : Hh} {H : Hp} {xs : List V} {v w : Vl} (r : VReps K φ h H xs [v, w]) : ∃ x y, xs = [x, y] ∧ VRep K φ h H x v ∧ VRep K φ h H y w := by
  cases r with
  | cons r t =>
    obtain ⟨y, e, q⟩ := VReps.one t
    subst e
    exact ⟨_, _, rfl, r, q⟩
theorem ok_len : OkC K (fun xs H Q => ∃ x n, xs = [x] ∧ LenV K x H n ∧ Q (.int n) H) gLen := by
  intro φ h H xs as Q v h' sm rs e k
  unfold gLen at e
  split at e
  · cases e
    obtain ⟨x, rfl, r⟩ := rs.one
    obtain ⟨p, zs, rfl, sq, rr⟩ := VRep.tup r
    refine ⟨_, zs.length, rfl, .inr ⟨zs, sq, rfl⟩, ?_⟩
    rw [rr.length]
    exact k _ H φ (Step.refl _ _ _) sm (Rep.int _)
  · split at e
    · cases e
      obtain ⟨x, rfl, r⟩ := rs.one
      rw [VRep.str r]
      exact ⟨_, _, rfl, ⟨fitB_le (by assumption), rfl⟩, k _ H φ (Step.refl _ _ _) sm (Rep.int _)⟩
    · cases e
  · split at e
    · rename_i ys ey
      cases e
      obtain ⟨x, rfl, r⟩ := rs.one
      obtain ⟨p, zs, rfl, sq, rr⟩ := asL_ok sm r ey
      refine ⟨_, zs.length, rfl, .inl ⟨zs, sq, rfl⟩, ?_⟩
      rw [rr.length]
      exact k _ H φ (Step.refl _ _ _) sm (Rep.int _)
    · cases e
  · cases e
def gAbs : GC := fun as h => match as with
  | [.d (.int i)] => some (.d (.int (if i < 0 then -i else i)), h)
  | _ => none
theorem ok_abs : OkC K (fun xs H Q => ∃ i, xs = [.int i] ∧ Q (.int (if i < 0 then -i else i)) H) gAbs := by
  intro φ h H xs as Q v h' sm rs e k
  unfold gAbs at e
  split at e
  · cases e
    obtain ⟨x, rfl, r⟩ := rs.one
    rw [VRep.int r]
    exact ⟨_, rfl, k _ H φ (Step.refl _ _ _) sm (Rep.int _)⟩
  · cases e
def gMax : GC := fun as h => match as with
  | [.d (.int i), .d (.int j)] => some (.d (.int (if j > i then j else i)), h)
  | _ => none
theorem ok_max : OkC K (fun xs H Q => ∃ i j, xs = [.int i, .int j] ∧ Q (.int (if j > i then j else i)) H) gMax := by
  intro φ h H xs as Q v h' sm rs e k
  unfold gMax at e
  split at e
  · cases e
    obtain ⟨x, y, rfl, r, r2⟩ := rs.two
    rw [VRep.int r, VRep.int r2]
    exact ⟨_, _, rfl, k _ H φ (Step.refl _ _ _) sm (Rep.int _)⟩
  · cases e
def gMin : GC := fun as h => match as with
  | [.d (.int i), .d (.int j)] => some (.d (.int (if j < i then j else i)), h)
  | _ => none
theorem ok_min : OkC K (fun xs H Q => ∃ i j, xs = [.int i, .int j] ∧ Q (.int (if j < i then j else i)) H) gMin := by
  intro φ h H xs as Q v h' sm rs e k
  unfold gMin at e
  split at e
  · cases e
    obtain ⟨x, y, rfl, r, r2⟩ := rs.two
    rw [VRep.int r, VRep.int r2]
    exact ⟨_, _, rfl, k _ H φ (Step.refl _ _ _) sm (Rep.int _)⟩
  · cases e
def gInt1 : GC := fun as h => match as with
  | [.d (.int i)] => some (.d (.int i), h)
  | [.d (.bool b)] => some (.d (.int (if b then 1 else 0)), h)
  | _ => none
theorem ok_int1 : OkC K (fun xs H Q => (∃ i, xs = [.int i] ∧ Q (.int i) H) ∨ ∃ k, xs = [.bl k] ∧ Q (.int (if k then 1 else 0)) H) gInt1 := by
  intro φ h H xs as Q v h' sm rs e k
  unfold gInt1 at e
  split at e
  · cases e
    obtain ⟨x, rfl, r⟩ := rs.one
    rw [VRep.int r]
    exact .inl ⟨_, rfl, k _ H φ (Step.refl _ _ _) sm (Rep.int _)⟩
  · cases e
    obtain ⟨x, rfl, r⟩ := rs.one
    rw [VRep.bl r]
    exact .inr ⟨_, rfl, k _ H φ (Step.refl _ _ _) sm (Rep.int _)⟩
  · cases e
/-- list(x), tuple(x) -/
def gList : GC := fun as h => match as with
  | [x] => match asQ x h with
    | some xs => some (.r h.length, h ++ [some (.lst xs)])
    | none => none
  | _ => none
def gTuple : GC := fun as h => match as with
  | [x] => match asQ x h with
    | some xs => some (.d (.tuple xs), h)
    | none => none
  | _ => none
theorem ok_list : OkC K (fun xs H Q => ∃ p ys, xs = [.ref p] ∧ (SqL K H p ys ∨ SqT K H p ys) ∧ ∀ l, H l = none → Q (.ref l) (upd H l (.lst ys))) gList := by
  intro φ h H xs as Q v h' sm rs e k
  unfold gList at e
  split at e
  · split at e
    · rename_i ys ey
      cases e
      obtain ⟨x, rfl, r⟩ := rs.one
      obtain ⟨p, zs, rfl, sq, rr⟩ := asQ_ok sm r ey
      refine ⟨p, zs, rfl, sq, fun l hl => ?_⟩
      obtain ⟨s1, s2, s3⟩ := new_list sm rr hl
      exact k _ _ _ s1 s2 s3
    · cases e
  · cases e
theorem ok_tuple : OkC K (fun xs H Q => ∃ p ys, xs = [.ref p] ∧ ((SqL K H p ys ∧ ∀ l, H l = none → Q (.ref l) (upd H l (.tup ys))) ∨ (SqT K H p ys ∧ Q (.ref p) H))) gTuple := by
  intro φ h H xs as Q v h' sm rs e k
  unfold gTuple at e
  split at e
  · split at e
    · rename_i w ys ey
      cases e
      obtain ⟨x, rfl, r⟩ := rs.one
      unfold asQ at ey
      split at ey
      · cases ey
        obtain ⟨p, zs, rfl, sq, rr⟩ := VRep.tup r
        exact ⟨p, zs, rfl, .inr ⟨sq, k _ H φ (Step.refl _ _ _) sm r⟩⟩
      · obtain ⟨p, zs, rfl, sq, rr⟩ := asL_ok sm r ey
        refine ⟨p, zs, rfl, .inl ⟨sq, fun l hl => ?_⟩⟩
        obtain ⟨s1, s2, s3⟩ := new_tup sm rr hl
        exact k _ _ _ s1 s2 s3
    · cases e
  · cases e
/-! ### isinstance with a built-in class -/
inductive Ty where
  | int | bool | str | tuple | list | dict
def Ty.name : Ty → String
  | .int => "int" | .bool => "bool" | .str => "str" | .tuple => "tuple" | .list => "list" | .dict => "dict"
def isTyD : Ty → Da → Option Bool
  | .int, .int _ => some true
  | .int, .bool _ => some true
  | .bool, .bool _ => some true
  | .str, .str _ => some true
  | .tuple, .tuple _ => some true
  | .list, .list _ => some true
  | _, .dict _ => none
  | _, _ => some false
def isTy (T : Ty) (v : Vl) (h : Hh) : Option Bool := match v with
  | .d x => isTyD T x
  | .r n => match h[n]? with
    | some (some (.lst xs)) => isTyD T (.list xs)
    | some (some (.dct _)) => some (match T with | .dict => true | _ => false)
    | _ => none
  | .x _ _ => some false
def eIsi (T : Ty) (a : Ev) : Ev := fun ρ h => (a ρ h).bind fun v h1 => match isTy T v h1 with
  | some b => .ok (.d (.bool b)) h1
  | none => .no
theorem kt_nn (T : Ty) : kitB "NoneType" T.name = some false := by cases T <;> decide +kernel
theorem kt_bl (T : Ty) : kitB "bool" T.name = some (match T with | .int => true | .bool => true | _ => false) := by cases T <;> decide +kernel
theorem kt_int (T : Ty) : kitB "int" T.name = some (match T with | .int => true | _ => false) := by cases T <;> decide +kernel
theorem kt_str (T : Ty) : kitB "str" T.name = some (match T with | .str => true | _ => false) := by cases T <;> decide +kernel
theorem kt_tup (T : Ty) : kitB "tuple" T.name = some (match T with | .tuple => true | _ => false) := by cases T <;> decide +kernel
theorem kt_lst (T : Ty) : kitB "list" T.name = some (match T with | .list => true | _ => false) := by cases T <;> decide +kernel
theorem kt_dct (T : Ty) : kitB "dict" T.name = some (match T with | .dict => true | _ => false) := by cases T <;> decide +kernel
theorem isTyD_ok {H : Hp} {M : Addr → Prop} {x : V} {d : Da} {T : Ty} {b : Bool} (r : Rep K H M x d) (e : isTyD T d = some b) : ∃ t, TyX K H x (.type t) ∧ kitB t T.name = some b := by
  cases r with
  | non => exact ⟨_, .base .non, by rw [kt_nn]; cases T <;> cases e <;> rfl⟩
  | bl c => exact ⟨_, .base (.bl c), by rw [kt_bl]; cases T <;> cases e <;> rfl⟩
  | int c => exact ⟨_, .base (.int c), by rw [kt_int]; cases T <;> cases e <;> rfl⟩
  | str c => exact ⟨_, .base (.str c), by rw [kt_str]; cases T <;> cases e <;> rfl⟩
  | tup h n r =>
    rcases h with h | ⟨o, h⟩
    · exact ⟨_, .base (.tup h), by rw [kt_tup]; cases T <;> cases e <;> rfl⟩
    · exact ⟨_, .fTuple h, by rw [kt_tup]; cases T <;> cases e <;> rfl⟩
  | tupK h r =>
    obtain ⟨o, its, n, h1, h2, _⟩ := h
    exact ⟨_, .kTuple h1 h2, by rw [kt_tup]; cases T <;> cases e <;> rfl⟩
  | lst h n r =>
    rcases h with h | ⟨o, h⟩
    · exact ⟨_, .base (.lst h), by rw [kt_lst]; cases T <;> cases e <;> rfl⟩
    · exact ⟨_, .base (.frz h), by rw [kt_lst]; cases T <;> cases e <;> rfl⟩
  | lstK h r =>
    obtain ⟨o, its, n, h1, h2, _⟩ := h
    exact ⟨_, .kList h1 h2, by rw [kt_lst]; cases T <;> cases e <;> rfl⟩
theorem isTy_ok {φ : List Addr} {h : Hh} {H : Hp} {x : V} {v : Vl} {T : Ty} {b : Bool} (sm : Sim K φ h H) (r : VRep K φ h H x v) (e : isTy T v h = some b) : ∃ t, TyX K H x (.type t) ∧ kitB t T.name = some b := by
  cases v with
  | d d => exact isTyD_ok (show Rep K H (Live φ h) x d from r) e
  | r n =>
    obtain ⟨a, ea, rfl⟩ := r
    unfold isTy at e
    dsimp only at e
    split at e
    · rename_i xs ex
      obtain ⟨zs, e2, q⟩ := sm.at_ ex ea
      exact ⟨_, .base (.lst e2), by rw [kt_lst]; cases T <;> cases e <;> rfl⟩
    · rename_i kvs ex
      obtain ⟨zs, e2, q⟩ := sm.at_ ex ea
      exact ⟨_, .base (.dK e2), by rw [kt_dct]; cases T <;> cases e <;> rfl⟩
    · cases e
  | x c fs => exact r.elim
end
section
variable {X : Cx} {W : WX} {a : Expr} {fa : Ev} {pos p q : Pos}
theorem ee_isi {x : Str} (T : Ty) (hg : Gl X "isinstance") (hm : X.mg "isinstance" = none) (hg2 : Gl X x) (hm2 : X.mg x = none) (hv2 : bootBuiltins x = some (.type T.name)) (hn2 : x ≠ "__name__" := by decide) (hd2 : (x == ("__debug__" : Str)) = false := by decide)
    (ha : EE X W a fa) (he : starEach [a, .Name x q] X.env = (false, eval a X.env) :: starEach [.Name x q] X.env := by rfl) (he2 : starEach [.Name x q] X.env = (false, eval (.Name x q) X.env) :: starEach [] X.env := by rfl) (hpl : (backTo pos (starEach [.Name x q] X.env)).any (·.1) = false := by rfl) :
    EE X W (.Call (.Name "isinstance" p) [a, .Name x q] [] pos) (eIsi T fa) :=
  PE.of (pe_callB call_isi hg hm PyProof.Rows.boot_isinstance (pa_cons ha (pa_cons (pe_bltn (v := .ty T.name) hg2 hm2 hv2 rfl hn2 hd2) pa_nil he2) he) (by decide) (by decide) he hpl) fun σ H Q ⟨φ, h, ρ, sm, er, qq⟩ => ⟨φ, h, ρ, sm, er, PoX.goE qq fun x v h1 H1 φ1 st sm1 rv q1 => by
    cases e : isTy T v h1 with
    | none => rw [e] at q1; exact q1.elim
    | some b =>
      rw [e] at q1
      obtain ⟨t, ty, kt⟩ := isTy_ok sm1 rv e
      exact ⟨x, .ty T.name, .type t, .type T.name, b, rfl, .ty _, ty, kit_ty kt, PoX.now (v := .d (.bool b)) q1 sm1 (Rep.bl b)⟩⟩
end
end Rk

/-! Rk5: targets, statements, loops, a def. -/
namespace Rk
open PySem PySem.Spec L2
/-! ### targets -/
abbrev Gv := Vl → En → Hh → Option (En × Hh)
abbrev Gs := List Vl → En → Hh → Option (En × Hh)
def tG (K : PySem.W.Frag) (g : Gv) : TG := fun x σ H Q => ∃ φ h ρ v ρ' h', Sim K φ h H ∧ ERep K φ h H σ ρ ∧ VRep K φ h H x v ∧ g v ρ h = some (ρ', h') ∧ ∀ σ' H' φ', Step φ h H φ' h' H' → Sim K φ' h' H' → ERep K φ' h' H' σ' ρ' → Q σ' H'
def tGs (K : PySem.W.Frag) (g : Gs) : TGs := fun xs σ H Q => ∃ φ h ρ vs ρ' h', Sim K φ h H ∧ ERep K φ h H σ ρ ∧ VReps K φ h H xs vs ∧ g vs ρ h = some (ρ', h') ∧ ∀ σ' H' φ', Step φ h H φ' h' H' → Sim K φ' h' H' → ERep K φ' h' H' σ' ρ' → Q σ' H'
def EG (X : Cx) (tg : Expr) (g : Gv) : Prop := PG X tg (tG X.K g)
def EGs (X : Cx) (tg : List Expr) (g : Gs) : Prop := PGs X tg (tGs X.K g)
theorem PG.of {X : Cx} {e : Expr} {t t' : TG} (h : PG X e t) (i : ∀ x σ H Q, t' x σ H Q → t x σ H Q) : PG X e t' := ⟨fun pins s σ H v u Q I r w => h.run pins s σ H v u Q I r (i v σ H Q w)⟩
theorem PGs.of {X : Cx} {e : List Expr} {t t' : TGs} (h : PGs X e t) (i : ∀ x σ H Q, t' x σ H Q → t x σ H Q) : PGs X e t' := ⟨fun pins s σ H v u Q I r w => h.run pins s σ H v u Q I r (i v σ H Q w)⟩
def gN (i : Nat) : Gv := fun v ρ h => some (ρ.set i (some v), h)
def gsNil : Gs := fun vs ρ h => match vs with
  | [] => some (ρ, h)
  | _ => none
def gsCons (g : Gv) (r : Gs) : Gs := fun vs ρ h => match vs with
  | v :: t => (g v ρ h).bind fun p => r t p.1 p.2
  | [] => none
/-- a tuple, or a list, of n -/
def gTupT (n : Nat) (g : Gs) : Gv := fun v ρ h => match v with
  | .d (.tuple ds) => if ds.length = n then g (ds.map Vl.d) ρ h else none
  | _ => none
theorem Reps.vreps {K : PySem.W.Frag} {φ : List Addr} {h : Hh} {H : Hp} : ∀ {xs : List V} {ds : List Da}, Reps K H (Live φ h) xs ds → VReps K φ h H xs (ds.map Vl.d)
  | _, _, .nil => .nil
  | _, _, .cons r t => .cons r (Reps.vreps t)
section
variable {X : Cx} {pos : Pos}
theorem eg_name {i : Nat} {x : Str} (hN : X.N.Nodup) (hi : X.N[i]? = some x := by rfl) (hx : Loc X.env.scope x := by first | exact .inl rfl | exact .inr rfl) (hf : X.fn x = true ∨ X.env.scope.names.lookup x = some .local := by first | exact .inl rfl | exact .inr rfl | assumption) : EG X (.Name x pos) (gN i) :=
  PG.of (pg_name (i := i) hN hi hx hf) fun x σ H Q ⟨φ, h, ρ, v, ρ', h', sm, er, rv, e, k⟩ => by
    cases e
    exact k _ H φ (Step.refl _ _ _) sm (er.set rv)
theorem egs_nil : EGs X [] gsNil := PGs.of pgs_nil fun xs σ H Q ⟨φ, h, ρ, vs, ρ', h', sm, er, rv, e, k⟩ => by
  cases rv with
  | nil =>
    cases e
    exact ⟨rfl, k _ H φ (Step.refl _ _ _) sm er⟩
  | cons _ _ => cases e
theorem egs_cons {e : Expr} {es : List Expr} {g : Gv} {gs : Gs} (h1 : EG X e g) (h2 : EGs X es gs)
    (hs : (assignEach (e :: es) X.env).map (·.2) = assign e X.env :: (assignEach es X.env).map (·.2) := by rfl) : EGs X (e :: es) (gsCons g gs) :=
  PGs.of (pgs_cons h1 h2 hs) fun xs σ H Q ⟨φ, h, ρ, vs, ρ', h', sm, er, rv, e, k⟩ => by
    cases rv with
    | nil => cases e
    | @cons x xs v vs r t =>
      have e' : ((g v ρ h).bind fun p => gs vs p.1 p.2) = some (ρ', h') := e
      cases q : g v ρ h with
      | none => rw [q] at e'; cases e'
      | some p =>
        obtain ⟨ρ1, h1⟩ := p
        rw [q] at e'
        exact ⟨x, xs, rfl, φ, h, ρ, v, ρ1, h1, sm, er, r, q, fun σ1 H1 φ1 st sm1 er1 => ⟨φ1, h1, ρ1, vs, ρ', h', sm1, er1, t.step st, e', fun σ2 H2 φ2 st2 => k σ2 H2 φ2 (st.trans st2)⟩⟩
theorem eg_tup {es : List Expr} {k n : Nat} {gs : Gs} (hc : X.calm = true) (h : EGs X es gs) (hn : (assignEach es X.env).length = n := by rfl) (hst : (assignEach es X.env).findIdx? (·.1) = none := by rfl) : EG X (.Tuple es k pos) (gTupT n gs) :=
  PG.of (pg_tup hc h hn hst) fun x σ H Q ⟨φ, h, ρ, v, ρ', h', sm, er, rv, e, k⟩ => by
    unfold gTupT at e
    split at e
    · rename_i ds
      split at e
      · obtain ⟨a, xs, rfl, sq, rs⟩ := VRep.tup rv
        exact ⟨a, xs, rfl, sq, by rw [rs.length]; assumption, φ, h, ρ, _, ρ', h', sm, er, rs.vreps, e, k⟩
      · cases e
    · cases e
end
/-! ### statements -/
def ofG : Option (En × Hh) → So
  | some p => .nx p.1 p.2
  | none => .no
def sAsg (g : Gv) (f : Ev) : Sv := fun ρ h => Out.then ρ (f ρ h) fun v h1 => ofG (g v ρ h1)
def sSet (i : Nat) (f : Ev) : Sv := fun ρ h => Out.then ρ (f ρ h) fun v h1 => .nx (ρ.set i (some v)) h1
def sRet (f : Ev) : Sv := fun ρ h => Out.then ρ (f ρ h) fun v h1 => .rt v h1
def sRetN : Sv := fun _ h => .rt (.d .none) h
def sExpr (f : Ev) : Sv := fun ρ h => Out.then ρ (f ρ h) fun _ h1 => .nx ρ h1
def sIf (c : Tv) (a b : Sv) : Sv := fun ρ h => Out.then ρ (c ρ h) fun k h1 => if k then a ρ h1 else b ρ h1
def So.then : So → Sv → So
  | .nx ρ h, f => f ρ h
  | r, _ => r
def sSeq (a b : Sv) : Sv := fun ρ h => (a ρ h).then b
def sNil : Sv := fun ρ h => .nx ρ h
def sBrk : Sv := fun ρ h => .bk ρ h
def sCont : Sv := fun ρ h => .ct ρ h
def sPar (i j : Nat) (as : Av) : Sv := fun ρ h => Out.then ρ (as ρ h) fun vs h1 => match vs with
  | [v, w] => .nx ((ρ.set i (some v)).set j (some w)) h1
  | _ => .no
section
variable {X : Cx} {W : WX} {e : Expr} {fe : Ev} {pos : Pos}
theorem PoS.nxNow {K : PySem.W.Frag} {mg : Str → Option Value} {φ : List Addr} {h : Hh} {H : Hp} {ρ : En} {σ : L2.St} {D : Ends} {W : WX} (q : PoS K mg φ h H (.nx ρ h) D W) (sm : Sim K φ h H) (er : ERep K φ h H σ ρ) : D.nx σ H := q σ H φ (Step.refl _ _ _) sm er
theorem es_asg {tg : Expr} {g : Gv} (he : EE X W e fe) (hg : EG X tg g) (hs : swapsWithSole [tg] e pos.line X.env = pure false := by rfl) (hw : swappedStores [tg] e X.env = pure none := by rfl)
    (h1 : (assignEach [tg] X.env).map (·.2) = [assign tg X.env] := by rfl) : ES X W (.Assign [tg] e pos) (sAsg g fe) :=
  PS.of (ps_asg he hg hs hw h1) fun D σ H ⟨φ, h, ρ, sm, er, q⟩ => ⟨φ, h, ρ, sm, er, PoS.goE er q fun x v h1 H1 φ1 st sm1 er1 rv q1 => by
    cases e : g v ρ h1 with
    | none => rw [e] at q1; exact q1.elim
    | some p =>
      rw [e] at q1
      exact ⟨φ1, h1, ρ, v, p.1, p.2, sm1, er1, rv, e, q1⟩⟩
theorem es_set {i : Nat} {x : Str} {pos' : Pos} (hN : X.N.Nodup) (he : EE X W e fe) (hi : X.N[i]? = some x := by rfl) (hx : Loc X.env.scope x := by first | exact .inl rfl | exact .inr rfl) (hs : swapsWith e (some (.Name x pos')) pos.line X.env = pure false := by rfl) (hf : X.fn x = true ∨ X.env.scope.names.lookup x = some .local := by first | exact .inl rfl | exact .inr rfl | assumption) :
    ES X W (.Assign [.Name x pos'] e pos) (sSet i fe) :=
  PS.of (ps_set hN hi hx he hs hf) fun D σ H ⟨φ, h, ρ, sm, er, q⟩ => ⟨φ, h, ρ, sm, er, PoS.goE er q fun x v h1 H1 φ1 st sm1 er1 rv q1 => PoS.nxNow q1 sm1 (er1.set rv)⟩
theorem es_ret (he : EE X W e fe) : ES X W (.Return (some e) pos) (sRet fe) :=
  PS.of (ps_ret he) fun D σ H ⟨φ, h, ρ, sm, er, q⟩ => ⟨φ, h, ρ, sm, er, PoS.goE er q fun x v h1 H1 φ1 st sm1 er1 rv q1 => q1 x H1 φ1 (Step.refl _ _ _) sm1 rv⟩
theorem es_retN : ES X W (.Return none pos) sRetN := PS.of ps_retN fun D σ H ⟨φ, h, ρ, sm, er, q⟩ => q .non H φ (Step.refl _ _ _) sm Rep.non
theorem es_expr (he : EE X W e fe) (hs : swapsWith e none pos.line X.env = pure false := by rfl) : ES X W (.Expr e pos) (sExpr fe) :=
  PS.of (ps_expr he hs) fun D σ H ⟨φ, h, ρ, sm, er, q⟩ => ⟨φ, h, ρ, sm, er, PoS.goE er q fun x v h1 H1 φ1 st sm1 er1 rv q1 => PoS.nxNow q1 sm1 er1⟩
theorem es_if {c : Expr} {a b : List Stmt} {tc : Tv} {fa fb : Sv} (hc : ET X W c tc) (ha : ESs X W a fa) (hb : ESs X W b fb) : ES X W (.If c a b pos) (sIf tc fa fb) :=
  PS.of (ps_if hc ha hb) fun D σ H ⟨φ, h, ρ, sm, er, q⟩ => ⟨φ, h, ρ, sm, er, PoS.goT er q fun v h1 H1 φ1 st sm1 er1 q1 => by
    cases v with
    | true => exact iteT ⟨φ1, h1, ρ, sm1, er1, q1⟩
    | false => exact iteF ⟨φ1, h1, ρ, sm1, er1, q1⟩⟩
theorem ess_nil : ESs X W [] sNil := PSs.of pss_nil fun D σ H ⟨φ, h, ρ, sm, er, q⟩ => PoS.nxNow q sm er
theorem ess_one {st : Stmt} {f : Sv} (h : ES X W st f) : ESs X W [st] f := pss_one h
theorem ess_cons {st : Stmt} {rest : List Stmt} {f g : Sv} (h1 : ES X W st f) (h2 : ESs X W rest g) : ESs X W (st :: rest) (sSeq f g) :=
  PSs.of (pss_cons h1 h2) fun D σ H ⟨φ, h, ρ, sm, er, q⟩ => ⟨φ, h, ρ, sm, er, by
    unfold sSeq at q
    revert q
    cases f ρ h with
    | nx ρ1 h1 => exact fun q σ1 H1 φ1 st sm1 er1 => ⟨φ1, h1, ρ1, sm1, er1, PoS.pull st q⟩
    | rt v h1 => exact fun q => q
    | bk ρ1 h1 => exact fun q => q
    | ct ρ1 h1 => exact fun q => q
    | ex c fs ρ1 h1 => exact fun q => q
    | no => exact fun q => q⟩
theorem es_pass : ES X W (.Pass pos) sNil := PS.of ps_pass fun D σ H ⟨φ, h, ρ, sm, er, q⟩ => PoS.nxNow q sm er
theorem es_break : ES X W (.Break pos) sBrk := PS.of ps_break fun D σ H ⟨φ, h, ρ, sm, er, q⟩ => q σ H φ (Step.refl _ _ _) sm er
theorem es_continue : ES X W (.Continue pos) sCont := PS.of ps_continue fun D σ H ⟨φ, h, ρ, sm, er, q⟩ => q σ H φ (Step.refl _ _ _) sm er
theorem es_par {i j : Nat} {x y : Str} {a b : Expr} {fs : Av} {px py pt : Pos} {kt k2 : Nat} {pt2 : Pos} (hc : X.calm = true) (hN : X.N.Nodup) (ha : EA X W [a, b] fs) (hi : X.N[i]? = some x := by rfl) (hj : X.N[j]? = some y := by rfl) (hij : i ≠ j := by decide)
    (hx : X.env.scope.names.lookup x = some .local := by rfl) (hy : X.env.scope.names.lookup y = some .local := by rfl)
    (hw : swappedStores [.Tuple [.Name x px, .Name y py] kt pt] (.Tuple [a, b] k2 pt2) X.env = pure (some [x, y]) := by rfl)
    (hs : swapsWithSole [.Tuple [.Name x px, .Name y py] kt pt] (.Tuple [a, b] k2 pt2) pos.line X.env = pure false := by rfl) :
    ES X W (.Assign [.Tuple [.Name x px, .Name y py] kt pt] (.Tuple [a, b] k2 pt2) pos) (sPar i j fs) :=
  PS.of (ps_par hc hN hi hj hij hx hy ha hw hs) fun D σ H ⟨φ, h, ρ, sm, er, q⟩ => ⟨φ, h, ρ, sm, er, PoS.goA er q fun xs vs h1 H1 φ1 st sm1 er1 rv q1 => by
    split at q1
    · obtain ⟨x, y, rfl, r1, r2⟩ := rv.two
      exact ⟨x, y, rfl, PoS.nxNow q1 sm1 ((er1.set r1).set r2)⟩
    · exact q1.elim⟩
/-- name op= e -/
def sAug (i : Nat) (g : G2) (f : Ev) : Sv := fun ρ h => Out.then ρ (eVar i ρ h) fun x h0 => Out.then ρ (f ρ h0) fun y h1 => Out.then ρ (ofO (g x y h1)) fun z h2 => .nx (ρ.set i (some z)) h2
theorem es_aug {i : Nat} {x : Str} {op : Operator} {r : TIp} {g : G2} {pos' : Pos} (hN : X.N.Nodup) (ho : PIp X op r) (ok : Ok2 X.K r g) (he : EE X W e fe) (hi : X.N[i]? = some x := by rfl) (hx : Loc X.env.scope x := by first | exact .inl rfl | exact .inr rfl) (hf : X.fn x = true ∨ X.env.scope.names.lookup x = some .local := by first | exact .inl rfl | exact .inr rfl | assumption) :
    ES X W (.AugAssign (.Name x pos') op e pos) (sAug i g fe) :=
  PS.of (ps_aug hN hi hx he ho hf) fun D σ H ⟨φ, h, ρ, sm, er, q⟩ => by
    unfold sAug eVar at q
    split at q
    · rename_i v ev
      obtain ⟨y, e1, rv⟩ := er.at_ i v ev
      refine ⟨y, e1, φ, h, ρ, sm, er, PoS.goE er q fun x2 v2 h1 H1 φ1 st sm1 er1 rv2 q1 => ?_⟩
      have q2 := PoS.goE (Q1 := fun z H2 => D.nx (σ.set i (some z)) H2) er1 q1 fun z v3 h2 H2 φ2 st2 sm2 er2 rv3 q3 => PoS.nxNow q3 sm2 (er2.set rv3)
      obtain ⟨w, h3, e3, k3⟩ := PoX.ofO q2
      exact ok φ1 h1 H1 y x2 v v2 _ w h3 sm1 (rv.step st) rv2 e3 k3
    · exact q.elim
/-- o[i] = e, o a list -/
def okO : Out Vl → Option (Vl × Hh)
  | .ok v h => some (v, h)
  | _ => none
def setL (o i v : Vl) (h : Hh) : Option Hh := match o, i, fz v h with
  | .r n, .d (.int k), some (d, h1) => match h1[n]? with
    | some (some (.lst xs)) => (ixN xs.length k).map fun j => h1.set n (some (.lst (xs.set j d)))
    | _ => none
  | _, _, _ => none
def gSetL (o ix : Ev) : Gv := fun v ρ h => (okO (o ρ h)).bind fun p => (okO (ix ρ p.2)).bind fun q => (setL p.1 q.1 v q.2).map fun h' => (ρ, h')
theorem okO_some {o : Out Vl} {v : Vl} {h : Hh} (e : okO o = some (v, h)) : o = .ok v h := by
  cases o <;> cases e
  rfl
theorem setL_ok {K : PySem.W.Frag} {φ : List Addr} {h h' : Hh} {H : Hp} {x y z : V} {o i v : Vl} {Q : Hp → Prop} (sm : Sim K φ h H) (rx : VRep K φ h H x o) (ry : VRep K φ h H y i) (rz : VRep K φ h H z v) (e : setL o i v h = some h')
    (k : ∀ H' φ', Step φ h H φ' h' H' → Sim K φ' h' H' → Q H') : rSetL x y z H Q := by
  unfold setL at e
  split at e
  · rename_i n kk d h1 ef
    obtain ⟨s1, s2, s3⟩ := fz_ok sm rz ef
    split at e
    · rename_i xs en
      obtain ⟨a, ea, rfl⟩ := rx
      cases q : ixN xs.length kk with
      | none => rw [q] at e; cases e
      | some j =>
        rw [q] at e
        cases e
        obtain ⟨ys, eh, rs⟩ := s2.at_ en ea
        obtain ⟨t1, t2⟩ := s2.write (ob := .lst (xs.set j d)) (u := .lst (ys.set j z)) en ea fun M st => ⟨_, upd_same, Reps.set (s3.stay st) j (rs.stay st)⟩
        exact ⟨a, ys, kk, j, rfl, VRep.int ry, eh, by rw [rs.length]; exact q, k _ _ (s1.trans t1) t2⟩
    · cases e
  · cases e
theorem eg_setL {o ix : Expr} {fo fi : Ev} (ho : EE X W o fo) (hi : EE X W ix fi)
    (ha : ∀ v, assign (.Subscript o ix pos) X.env v = (do
      let ov ← holding [v] (eval o X.env)
      let iv ← holding [v, ov] (eval ix X.env)
      standAt pos
      holding [v, ov, iv] (setItem ov iv v)
      release [v, ov, iv] []) := by intro _; rfl) : EG X (.Subscript o ix pos) (gSetL fo fi) :=
  PG.of (pg_sub ho hi set_list ha) fun x σ H Q ⟨φ, h, ρ, v, ρ', h', sm, er, rv, e, k⟩ => by
    unfold gSetL at e
    cases e1 : okO (fo ρ h) with
    | none => rw [e1] at e; cases e
    | some p =>
      obtain ⟨ov, h1⟩ := p
      rw [e1] at e
      dsimp only [Option.bind_some] at e
      cases e2 : okO (fi ρ h1) with
      | none => rw [e2] at e; cases e
      | some p2 =>
        obtain ⟨iv, h2⟩ := p2
        rw [e2] at e
        dsimp only [Option.bind_some] at e
        cases e3 : setL ov iv v h2 with
        | none => rw [e3] at e; cases e
        | some h3 =>
          rw [e3] at e
          cases e
          refine ⟨φ, h, ρ, sm, er, ?_⟩
          rw [okO_some e1]
          intro y H1 φ1 st1 sm1 ry
          refine ⟨φ1, h1, ρ, sm1, er.step st1, ?_⟩
          rw [okO_some e2]
          intro z H2 φ2 st2 sm2 rz
          exact setL_ok sm2 (ry.step st2) rz (rv.step (st1.trans st2)) e3 fun H3 φ3 st3 sm3 => k σ H3 φ3 ((st1.trans st2).trans st3) sm3 (er.step ((st1.trans st2).trans st3))
end
end Rk

/-! Rk6: loops, defs. -/
namespace Rk
open PySem PySem.Spec L2
/-! ### what is walked -/
/-- a list that must stand still -/
def gdOk (gd : Option (Nat × List Da)) (h : Hh) : Prop := match gd with
  | none => True
  | some (n, xs) => h[n]? = some (some (.lst xs))
structure Itm where
  ds : List Da
  gd : Option (Nat × List Da)
abbrev Iv := En → Hh → Out Itm
structure ItOk (K : PySem.W.Frag) (J : It) (m : Itm) (G : List Addr → Hh → Hp → Prop) : Prop where
  go : ∀ (φ : List Addr) (h : Hh) (H : Hp) (i : Nat), Sim K φ h H → G φ h H → gdOk m.gd h → i < m.ds.length → J.go i H
  yld : ∀ (φ : List Addr) (h : Hh) (H : Hp) (i : Nat) (x : V) (H' : Hp) (d : Da), Sim K φ h H → G φ h H → gdOk m.gd h → m.ds[i]? = some d → J.yld i H x H' → Step φ h H φ h H' ∧ Sim K φ h H' ∧ Rep K H' (Live φ h) x d
  stop : ∀ (φ : List Addr) (h : Hh) (H : Hp) (i : Nat), Sim K φ h H → G φ h H → gdOk m.gd h → m.ds.length ≤ i → J.stop i H
  keep : ∀ (φ : List Addr) (h : Hh) (H : Hp) (φ' : List Addr) (h' : Hh) (H' : Hp), G φ h H → Step φ h H φ' h' H' → G φ' h' H'
def PoI (K : PySem.W.Frag) (mg : Str → Option Value) (φ : List Addr) (h : Hh) (H : Hp) (o : Out Itm) (R : It → Hp → Prop) (E : XK) : Prop := match o with
  | .ok m h' => ∀ J H' φ' G, Step φ h H φ' h' H' → Sim K φ' h' H' → ItOk K J m G → G φ' h' H' → R J H'
  | .ex c fs h' => ∀ cls dd H' φ', Step φ h H φ' h' H' → Sim K φ' h' H' → XRep K mg H' (Live φ' h') c fs cls dd → E cls dd H'
  | .no => False
def tI (K : PySem.W.Frag) (mg : Str → Option Value) (W : WX) (f : Iv) : TI := fun σ H R => ∃ φ h ρ, Sim K φ h H ∧ ERep K φ h H σ ρ ∧ PoI K mg φ h H (f ρ h) R (WE W σ)
def EI (X : Cx) (W : WX) (tg iter : Expr) (f : Iv) : Prop := PI X tg iter (tI X.K X.mg W f)
theorem PI.of {X : Cx} {tg e : Expr} {t t' : TI} (h : PI X tg e t) (i : ∀ σ H Q, t' σ H Q → t σ H Q) : PI X tg e t' := ⟨fun pins s σ H Q I w => h.run pins s σ H Q I (i σ H Q w)⟩
section
variable {K : PySem.W.Frag} {mg : Str → Option Value} {φ φ1 : List Addr} {h h1 : Hh} {H H1 : Hp} {E : XK}
theorem PoI.pull {o : Out Itm} {Q : It → Hp → Prop} (s : Step φ h H φ1 h1 H1) (q : PoI K mg φ h H o Q E) : PoI K mg φ1 h1 H1 o Q E := by
  cases o with
  | ok v h2 => exact fun J H' φ' G st => q J H' φ' G (s.trans st)
  | ex c fs h2 => exact fun cls dd H' φ' st => q cls dd H' φ' (s.trans st)
  | no => exact q
theorem PoI.goE {o : Out Vl} {k : Vl → Hh → Out Itm} {Q : It → Hp → Prop} {Q1 : VK} (q : PoI K mg φ h H (o.bind k) Q E)
    (hk : ∀ (x : V) (v : Vl) (h1 : Hh) (H1 : Hp) (φ1 : List Addr), Step φ h H φ1 h1 H1 → Sim K φ1 h1 H1 → VRep K φ1 h1 H1 x v → PoI K mg φ1 h1 H1 (k v h1) Q E → Q1 x H1) : PoX K mg φ h H o Q1 E := by
  cases o with
  | ok v h1 => exact fun x H' φ' st sm' rv => hk x v h1 H' φ' st sm' rv (PoI.pull st q)
  | ex c fs h1 => exact q
  | no => exact q
theorem PoI.goA {o : Out (List Vl)} {k : List Vl → Hh → Out Itm} {Q : It → Hp → Prop} {Q1 : List V → Hp → Prop} (q : PoI K mg φ h H (o.bind k) Q E)
    (hk : ∀ (x : List V) (v : List Vl) (h1 : Hh) (H1 : Hp) (φ1 : List Addr), Step φ h H φ1 h1 H1 → Sim K φ1 h1 H1 → VReps K φ1 h1 H1 x v → PoI K mg φ1 h1 H1 (k v h1) Q E → Q1 x H1) : PoA K mg φ h H o Q1 E := by
  cases o with
  | ok v h1 => exact fun x H' φ' st sm' rv => hk x v h1 H' φ' st sm' rv (PoI.pull st q)
  | ex c fs h1 => exact q
  | no => exact q
end
/-- a list: data, or an object that must stand still -/
def itL : Vl → Hh → Out Itm
  | .d (.list ds), h => .ok ⟨ds, none⟩ h
  | .r n, h => match h[n]? with
    | some (some (.lst ds)) => .ok ⟨ds, some (n, ds)⟩ h
    | _ => .no
  | _, _ => .no
def itT : Vl → Hh → Out Itm
  | .d (.tuple ds), h => .ok ⟨ds, none⟩ h
  | _, _ => .no
def itQ : Vl → Hh → Out Itm
  | .d (.tuple ds), h => .ok ⟨ds, none⟩ h
  | v, h => itL v h
def iv (it : Vl → Hh → Out Itm) (f : Ev) : Iv := fun ρ h => (f ρ h).bind it
def iSeq (K : PySem.W.Frag) (tl : TE) : TI := fun σ H R => tl σ H fun x H1 => ∃ a, x = .ref a ∧ (((∃ xs, SqL K H1 a xs) ∧ R (Itl K a) H1) ∨ ((∃ xs, SqT K H1 a xs) ∧ R (Itt K a) H1))
theorem pi_seq {X : Cx} {tg l : Expr} {tl : TE} (hl : PE X l tl) : PI X tg l (iSeq X.K tl) := by
  refine ⟨fun pins s σ H R I h => ?_⟩
  refine thn (hl.run pins s σ H _ I h) fun v s1 ⟨x, H1, I1, r1, q1⟩ => ?_
  obtain ⟨a, e, q⟩ := q1
  subst e
  cases r1
  have nf : ∀ b : Addr, b ∈ [s1.heap.objs.size] → FpOk X pins H1 b := fun b hb => by
    have e : b = s1.heap.objs.size := by simpa using hb
    subst e
    exact I1.fpOk (Nat.le_refl _) (I1.hok.fresh (Nat.le_refl _))
  rcases q with ⟨⟨xs, hq⟩, q⟩ | ⟨⟨xs, hq⟩, q⟩
  · obtain ⟨its, rv, p, hz⟩ := I1.list hq
    exact wpAny_pyIter_list p.isList ⟨s1.heap.objs.size, [s1.heap.objs.size], _, _, H1, rfl, I1.kept (t' := s1.toks) fun b o e => Heap.get?_push_of_some _ e, turn_list a _, ⟨_, Heap.get?_push_size _ rfl, rfl, rfl⟩, nf, q⟩
  · obtain ⟨its, rv, p, hz⟩ := I1.tuple hq
    exact wpAny_pyIter_tuple (show s1.heap.IsTuple a its.toArray from p) ⟨s1.heap.objs.size, [s1.heap.objs.size], _, _, H1, rfl, I1.kept (t' := s1.toks) fun b o e => Heap.get?_push_of_some _ e, turn_tuple a _, ⟨_, Heap.get?_push_size _ rfl, rfl, rfl⟩, nf, q⟩
section
variable {K : PySem.W.Frag}
/-- how a list stands, for a walk -/
structure LOk (K : PySem.W.Frag) (a : Addr) (m : Itm) (G : List Addr → Hh → Hp → Prop) : Prop where
  sq : ∀ (φ : List Addr) (h : Hh) (H : Hp), Sim K φ h H → G φ h H → gdOk m.gd h → ∃ xs, SqL K H a xs ∧ Reps K H (Live φ h) xs m.ds
  keep : ∀ (φ : List Addr) (h : Hh) (H : Hp) (φ' : List Addr) (h' : Hh) (H' : Hp), G φ h H → Step φ h H φ' h' H' → G φ' h' H'
theorem itL_lok {φ : List Addr} {h h' : Hh} {H : Hp} {x : V} {v : Vl} {m : Itm} (sm : Sim K φ h H) (r : VRep K φ h H x v) (e : itL v h = .ok m h') : h' = h ∧ gdOk m.gd h ∧ ∃ a G, x = .ref a ∧ LOk K a m G ∧ G φ h H := by
  unfold itL at e
  split at e
  · cases e
    rename_i ds
    have r' : Rep K H (Live φ h) x (.list ds) := r
    cases r' with
    | @lst a xs _ h1 n r1 =>
      exact ⟨rfl, trivial, a, fun φ h H => Rep K H (Live φ h) (.ref a) (.list ds), rfl, ⟨fun φ h H _ g _ => Rep.sqL g, fun φ h H φ' h' H' g st => Rep.stay st.st g⟩, r⟩
    | @lstK a xs _ h1 r1 =>
      exact ⟨rfl, trivial, a, fun φ h H => Rep K H (Live φ h) (.ref a) (.list ds), rfl, ⟨fun φ h H _ g _ => Rep.sqL g, fun φ h H φ' h' H' g st => Rep.stay st.st g⟩, r⟩
  · split at e
    · rename_i n _ ds en
      cases e
      obtain ⟨a, ea, rfl⟩ := r
      refine ⟨rfl, en, a, fun (φ : List Addr) (h : Hh) (H : Hp) => φ[n]? = some a, rfl, ⟨fun φ h H sm g gd => ?_, fun φ h H φ' h' H' g st => pre_get st.pre g⟩, ea⟩
      obtain ⟨xs, e2, q⟩ := sm.at_ gd g
      exact ⟨xs, .of e2, q⟩
    · cases e
  · cases e
theorem LOk.it {a : Addr} {m : Itm} {G : List Addr → Hh → Hp → Prop} (L : LOk K a m G) : ItOk K (Itl K a) m G where
  go := fun φ h H i sm g gd hi => by
    obtain ⟨xs, sq, rs⟩ := L.sq φ h H sm g gd
    obtain ⟨y, e, _⟩ := rs.get (List.getElem?_eq_getElem hi)
    exact ⟨xs, y, sq, e⟩
  yld := fun φ h H i x H' d sm g gd ed ⟨e, q⟩ => by
    subst e
    obtain ⟨xs, sq, rs⟩ := L.sq φ h H' sm g gd
    obtain ⟨y, ey, ry⟩ := rs.get ed
    have e2 := q xs sq
    rw [ey] at e2
    cases e2
    exact ⟨Step.refl _ _ _, sm, ry⟩
  stop := fun φ h H i sm g gd hi => by
    obtain ⟨xs, sq, rs⟩ := L.sq φ h H sm g gd
    exact ⟨xs, sq, by rw [rs.length]; exact hi⟩
  keep := L.keep
theorem tup_it {a : Addr} {ds : List Da} : ItOk K (Itt K a) ⟨ds, none⟩ (fun φ h H => Rep K H (Live φ h) (.ref a) (.tuple ds)) where
  go := fun φ h H i sm g gd hi => by
    obtain ⟨xs, sq, rs⟩ := Rep.sqT g
    obtain ⟨y, e, _⟩ := rs.get (List.getElem?_eq_getElem hi)
    exact ⟨xs, y, sq, e⟩
  yld := fun φ h H i x H' d sm g gd ed ⟨e, q⟩ => by
    subst e
    obtain ⟨xs, sq, rs⟩ := Rep.sqT g
    obtain ⟨y, ey, ry⟩ := rs.get ed
    have e2 := q xs sq
    rw [ey] at e2
    cases e2
    exact ⟨Step.refl _ _ _, sm, ry⟩
  stop := fun φ h H i sm g gd hi => by
    obtain ⟨xs, sq, rs⟩ := Rep.sqT g
    exact ⟨xs, sq, by rw [rs.length]; exact hi⟩
  keep := fun φ h H φ' h' H' g st => Rep.stay st.st g
theorem enum_it {a : Addr} {m : Itm} {G : List Addr → Hh → Hp → Prop} (L : LOk K a m G) : ItOk K (Ite K a) ⟨m.ds.mapIdx fun i d => .tuple [.int (i : Nat), d], m.gd⟩ G where
  go := fun φ h H i sm g gd hi => by
    obtain ⟨xs, sq, rs⟩ := L.sq φ h H sm g gd
    obtain ⟨y, e, _⟩ := rs.get (List.getElem?_eq_getElem (show i < m.ds.length by simpa using hi))
    exact ⟨xs, y, sq, e⟩
  yld := fun φ h H i x H' d sm g gd ed ⟨T, y, ex, hT, e, q⟩ => by
    subst ex e
    obtain ⟨xs, sq, rs⟩ := L.sq φ h H sm g gd
    rw [List.getElem?_mapIdx] at ed
    cases e3 : m.ds[i]? with
    | none => rw [e3] at ed; cases ed
    | some d0 =>
      rw [e3] at ed
      cases ed
      obtain ⟨y2, ey, ry⟩ := rs.get e3
      have e2 := q xs sq
      rw [ey] at e2
      cases e2
      obtain ⟨s1, s2, s3⟩ := new_tup sm (ds := [.int (i : Nat), d0]) (.cons (.int _) (.cons ry .nil)) hT
      exact ⟨s1, s2, s3⟩
  stop := fun φ h H i sm g gd hi => by
    obtain ⟨xs, sq, rs⟩ := L.sq φ h H sm g gd
    exact ⟨xs, sq, by rw [rs.length]; simpa using hi⟩
  keep := L.keep
def rngD (lo : Int) (n : Nat) : List Da := (List.range n).map fun k => .int (lo + (k : Nat))
theorem range_it {lo : Int} {n : Nat} : ItOk K (Itr lo n) ⟨rngD lo n, none⟩ (fun _ _ _ => True) where
  go := fun φ h H i sm g gd hi => by
    show i < n
    simpa [rngD] using hi
  yld := fun φ h H i x H' d sm g gd ed ⟨e, q⟩ => by
    subst e q
    unfold rngD at ed
    rw [List.getElem?_map] at ed
    cases e3 : (List.range n)[i]? with
    | none => rw [e3] at ed; cases ed
    | some k =>
      rw [e3] at ed
      have e4 := (List.getElem?_eq_some_iff.mp e3)
      obtain ⟨h1, h2⟩ := e4
      rw [List.getElem_range] at h2
      subst h2
      cases ed
      exact ⟨Step.refl _ _ _, sm, .int _⟩
  stop := fun φ h H i sm g gd hi => by
    show n ≤ i
    simpa [rngD] using hi
  keep := fun _ _ _ _ _ _ _ _ => trivial
end
def rgB (j : Int) : Bool := decide (-1000000000000 ≤ j) && decide (j ≤ 1000000000000)
theorem rgB_ok {j : Int} (h : rgB j = true) : -(2 ^ 62) ≤ j ∧ j < 2 ^ 62 := by
  unfold rgB at h
  rw [Bool.and_eq_true] at h
  exact ⟨Int.le_trans (by decide) (of_decide_eq_true h.1), Int.lt_of_le_of_lt (of_decide_eq_true h.2) (by decide)⟩
def iRange1 (as : Av) : Iv := fun ρ h => (as ρ h).bind fun vs h1 => match vs with
  | [.d (.int j)] => if rgB j then .ok ⟨rngD 0 j.toNat, none⟩ h1 else .no
  | _ => .no
def iRange2 (as : Av) : Iv := fun ρ h => (as ρ h).bind fun vs h1 => match vs with
  | [.d (.int i), .d (.int j)] => if rgB i && rgB j then .ok ⟨rngD i (j - i).toNat, none⟩ h1 else .no
  | _ => .no
def enumI (o : Out Itm) : Out Itm := o.bind fun m h => .ok ⟨m.ds.mapIdx fun i d => .tuple [.int (i : Nat), d], m.gd⟩ h
def iEnumL (as : Av) : Iv := fun ρ h => (as ρ h).bind fun vs h1 => match vs with
  | [v] => enumI (itL v h1)
  | _ => .no
section
variable {X : Cx} {W : WX} {tg e : Expr} {fe : Ev} {pos p : Pos} {fs : Av}
theorem ei_seq (he : EE X W e fe) : EI X W tg e (iv itQ fe) :=
  PI.of (pi_seq he) fun σ H R ⟨φ, h, ρ, sm, er, q⟩ => ⟨φ, h, ρ, sm, er, PoI.goE q fun x v h1 H1 φ1 st sm1 rv q1 => by
    unfold itQ at q1
    split at q1
    · obtain ⟨a, xs, rfl, sq, rs⟩ := VRep.tup rv
      exact ⟨a, rfl, .inr ⟨⟨xs, sq⟩, q1 _ H1 φ1 _ (Step.refl _ _ _) sm1 tup_it rv⟩⟩
    · cases e : itL v h1 with
      | ok m h2 =>
        rw [e] at q1
        obtain ⟨rfl, gd, a, G, rfl, L, g⟩ := itL_lok sm1 rv e
        obtain ⟨xs, sq, _⟩ := L.sq _ _ _ sm1 g gd
        exact ⟨a, rfl, .inl ⟨⟨xs, sq⟩, q1 _ H1 φ1 _ (Step.refl _ _ _) sm1 L.it g⟩⟩
      | ex c fs h2 =>
        unfold itL at e
        split at e
        · cases e
        · split at e <;> cases e
        · cases e
      | no => rw [e] at q1; exact q1.elim⟩
theorem ei_range1 {a : Expr} (hg : Gl X "range") (hm : X.mg "range" = none) (ha : EA X W [a] fs) (hs : starEach [a] X.env = [(false, eval a X.env)] := by rfl) : EI X W tg (.Call (.Name "range" p) [a] [] pos) (iRange1 fs) :=
  PI.of (pi_range1 hg hm ha hs) fun σ H R ⟨φ, h, ρ, sm, er, q⟩ => ⟨φ, h, ρ, sm, er, PoI.goA q fun xs vs h1 H1 φ1 st sm1 rv q1 => by
    split at q1
    · obtain ⟨x, rfl, r⟩ := rv.one
      split at q1
      · rename_i j hj
        rw [VRep.int r]
        exact ⟨j, rfl, (rgB_ok hj).1, (rgB_ok hj).2, q1 _ H1 φ1 _ (Step.refl _ _ _) sm1 range_it trivial⟩
      · exact q1.elim
    · exact q1.elim⟩
theorem ei_range2 {a b : Expr} (hg : Gl X "range") (hm : X.mg "range" = none) (ha : EA X W [a, b] fs) (hs : starEach [a, b] X.env = [(false, eval a X.env), (false, eval b X.env)] := by rfl) (hs2 : starEach [b] X.env = [(false, eval b X.env)] := by rfl) : EI X W tg (.Call (.Name "range" p) [a, b] [] pos) (iRange2 fs) :=
  PI.of (pi_range2 hg hm ha hs hs2) fun σ H R ⟨φ, h, ρ, sm, er, q⟩ => ⟨φ, h, ρ, sm, er, PoI.goA q fun xs vs h1 H1 φ1 st sm1 rv q1 => by
    split at q1
    · obtain ⟨x, y, rfl, r, r2⟩ := rv.two
      split at q1
      · rename_i i j hj
        rw [VRep.int r, VRep.int r2]
        rw [Bool.and_eq_true] at hj
        exact ⟨i, j, rfl, ⟨(rgB_ok hj.1).1, (rgB_ok hj.1).2, rgB_ok hj.2⟩, q1 _ H1 φ1 _ (Step.refl _ _ _) sm1 range_it trivial⟩
      · exact q1.elim
    · exact q1.elim⟩
theorem ei_enum {elts : List Expr} {kk : Nat} {tpos : Pos} {a : Expr} (hg : Gl X "enumerate") (hm : X.mg "enumerate" = none) (ha : EA X W [a] fs) (hs : starEach [a] X.env = [(false, eval a X.env)] := by rfl) : EI X W (.Tuple elts kk tpos) (.Call (.Name "enumerate" p) [a] [] pos) (iEnumL fs) :=
  PI.of (pi_enum hg hm ha hs) fun σ H R ⟨φ, h, ρ, sm, er, q⟩ => ⟨φ, h, ρ, sm, er, PoI.goA q fun xs vs h1 H1 φ1 st sm1 rv q1 => by
    split at q1
    · rename_i v
      obtain ⟨x, rfl, r⟩ := rv.one
      cases e : itL v h1 with
      | ok m h2 =>
        rw [e] at q1
        obtain ⟨rfl, gd, a, G, rfl, L, g⟩ := itL_lok sm1 r e
        obtain ⟨ys, sq, _⟩ := L.sq _ _ _ sm1 g gd
        exact ⟨a, ys, rfl, sq, q1 _ H1 φ1 _ (Step.refl _ _ _) sm1 (enum_it L) g⟩
      | ex c fs h2 =>
        unfold itL at e
        split at e
        · cases e
        · split at e <;> cases e
        · cases e
      | no => rw [e] at q1; exact q1.elim
    · exact q1.elim⟩
end
/-! ### for -/
open Classical in
noncomputable def forL (gd : Option (Nat × List Da)) (g : Gv) (body : Sv) : List Da → En → Hh → So
  | [], ρ, h => if gdOk gd h then .nx ρ h else .no
  | d :: ds, ρ, h => if gdOk gd h then (match g (.d d) ρ h with
      | none => .no
      | some p => match body p.1 p.2 with
        | .nx ρ' h' => forL gd g body ds ρ' h'
        | .ct ρ' h' => forL gd g body ds ρ' h'
        | .bk ρ' h' => .nx ρ' h'
        | r => r) else .no
noncomputable def sFor (i : Iv) (g : Gv) (body : Sv) : Sv := fun ρ h => Out.then ρ (i ρ h) fun m h1 => forL m.gd g body m.ds ρ h1
section
variable {X : Cx} {W : WX} {tg iter : Expr} {fi : Iv} {g : Gv} {body : List Stmt} {fb : Sv} {pos : Pos}
theorem for_ok {K : PySem.W.Frag} {mg : Str → Option Value} {W : WX} {D : Ends} {J : It} {m : Itm} {G : List Addr → Hh → Hp → Prop} (ok : ItOk K J m G) {φ : List Addr} {h : Hh} {H : Hp} {σ : L2.St} {ρ : En} (sm : Sim K φ h H) (er : ERep K φ h H σ ρ) (gg : G φ h H)
    (q : PoS K mg φ h H (forL m.gd g fb m.ds ρ h) D W) : ∃ W' : Nat → Nat → L2.St → Hp → Prop, (∃ n, W' 0 n σ H) ∧ ∀ i n σ H, W' i n σ H →
      (J.stop i H ∧ D.nx σ H) ∨ (J.go i H ∧ ∃ N : L2.St → Hp → Prop, (∀ σ' H', N σ' H' → ∃ m', m' < n ∧ W' (i + 1) m' σ' H') ∧ ∀ x H', J.yld i H x H' → tG K g x σ H' fun σ2 H2 => tS K mg W fb { D with nx := N, ct := N, bk := D.nx } σ2 H2) := by
  refine ⟨fun i n σ H => n = m.ds.length - i ∧ ∃ φ h ρ, Sim K φ h H ∧ ERep K φ h H σ ρ ∧ G φ h H ∧ PoS K mg φ h H (forL m.gd g fb (m.ds.drop i) ρ h) D W, ⟨_, rfl, φ, h, ρ, sm, er, gg, by rw [List.drop_zero]; exact q⟩, ?_⟩
  rintro i n σ H ⟨rfl, φ, h, ρ, sm, er, gg, q⟩
  cases ed : m.ds.drop i with
  | nil =>
    rw [ed] at q
    unfold forL at q
    split at q
    · rename_i gd
      exact .inl ⟨ok.stop φ h H i sm gg gd (List.drop_eq_nil_iff.mp ed), PoS.nxNow q sm er⟩
    · exact q.elim
  | cons d ds =>
    have hi : i < m.ds.length := by
      rcases Nat.lt_or_ge i m.ds.length with z | z
      · exact z
      · rw [List.drop_eq_nil_of_le z] at ed; cases ed
    have e1 : m.ds[i]? = some d := by
      have := List.getElem?_drop (xs := m.ds) (i := i) (j := 0)
      rw [ed] at this
      simpa using this.symm
    have e2 : m.ds.drop (i + 1) = ds := by
      have := List.drop_drop (i := 1) (j := i) (l := m.ds)
      rw [ed] at this
      simpa using this.symm
    rw [ed] at q
    unfold forL at q
    split at q
    · rename_i gd
      refine .inr ⟨ok.go φ h H i sm gg gd hi, fun σ' H' => ∃ φ h ρ, Sim K φ h H' ∧ ERep K φ h H' σ' ρ ∧ G φ h H' ∧ PoS K mg φ h H' (forL m.gd g fb ds ρ h) D W, fun σ' H' hN => ?_, fun x H' hy => ?_⟩
      · obtain ⟨φ', h', ρ', a1, a2, a3, a4⟩ := hN
        exact ⟨m.ds.length - (i + 1), by omega, rfl, φ', h', ρ', a1, a2, a3, by rw [e2]; exact a4⟩
      · obtain ⟨s1, s2, s3⟩ := ok.yld φ h H i x H' d sm gg gd e1 hy
        have q' := PoS.pull s1 q
        have gg' := ok.keep _ _ _ _ _ _ gg s1
        cases eg : g (.d d) ρ h with
        | none => rw [eg] at q'; exact q'.elim
        | some p =>
          obtain ⟨ρ1, h1⟩ := p
          rw [eg] at q'
          refine ⟨φ, h, ρ, .d d, ρ1, h1, s2, er.step s1, s3, eg, fun σ2 H2 φ2 st2 sm2 er2 => ⟨φ2, h1, ρ1, sm2, er2, ?_⟩⟩
          have q2 := PoS.pull st2 q'
          have gg2 := ok.keep _ _ _ _ _ _ gg' st2
          dsimp only at q2
          revert q2
          cases fb ρ1 h1 with
          | nx ρ3 h3 => exact fun q2 σ3 H3 φ3 st3 sm3 er3 => ⟨φ3, h3, ρ3, sm3, er3, ok.keep _ _ _ _ _ _ gg2 st3, PoS.pull st3 q2⟩
          | ct ρ3 h3 => exact fun q2 σ3 H3 φ3 st3 sm3 er3 => ⟨φ3, h3, ρ3, sm3, er3, ok.keep _ _ _ _ _ _ gg2 st3, PoS.pull st3 q2⟩
          | bk ρ3 h3 => exact fun q2 => q2
          | rt v h3 => exact fun q2 => q2
          | ex c fs ρ3 h3 => exact fun q2 => q2
          | no => exact fun q2 => q2
    · exact q.elim
theorem es_for (hp : PassesOwn (model X.prog X.w) X.A X.env X.xe) (hc : X.calm = true) (hi : EI X W tg iter fi) (hg : EG X tg g) (hb : ESs X W body fb) (hs : ∀ x, foldedSetIterable iter X.env x = pure x := by intro _; rfl) : ES X W (.For tg iter body [] pos) (sFor fi g fb) :=
  PS.of (ps_for hp hc hi hg hb hs) fun D σ H ⟨φ, h, ρ, sm, er, q⟩ => ⟨φ, h, ρ, sm, er, by
    unfold sFor at q
    revert q
    cases fi ρ h with
    | ok m h1 => exact fun q J H1 φ1 G st sm1 ok gg => for_ok ok sm1 (er.step st) gg (PoS.pull st q)
    | ex c fs h1 => exact fun q cls dd H' φ' st sm' xr => q cls dd σ H' φ' st sm' (er.step st) xr
    | no => exact fun q => q⟩
end
/-! ### while -/
def whileN (c : Tv) (b : Sv) : Nat → En → Hh → Option So
  | 0, _, _ => none
  | n + 1, ρ, h => match c ρ h with
    | .no => some .no
    | .ex k fs h1 => some (.ex k fs ρ h1)
    | .ok false h1 => some (.nx ρ h1)
    | .ok true h1 => match b ρ h1 with
      | .nx ρ' h' => whileN c b n ρ' h'
      | .ct ρ' h' => whileN c b n ρ' h'
      | .bk ρ' h' => some (.nx ρ' h')
      | r => some r
theorem whileN_mono (c : Tv) (b : Sv) : ∀ (n : Nat) (ρ : En) (h : Hh) (r : So), whileN c b n ρ h = some r → whileN c b (n + 1) ρ h = some r
  | 0, _, _, _, e => by cases e
  | n + 1, ρ, h, r, e => by
    unfold whileN at e ⊢
    split at e <;> try exact e
    split at e
    · exact whileN_mono c b n _ _ r e
    · exact whileN_mono c b n _ _ r e
    · exact e
    · exact e
theorem whileN_le (c : Tv) (b : Sv) {n m : Nat} (hl : n ≤ m) {ρ : En} {h : Hh} {r : So} (e : whileN c b n ρ h = some r) : whileN c b m ρ h = some r := by
  induction hl with
  | refl => exact e
  | step _ ih => exact whileN_mono c b _ ρ h r ih
theorem whileN_det (c : Tv) (b : Sv) {n m : Nat} {ρ : En} {h : Hh} {r r' : So} (e : whileN c b n ρ h = some r) (e' : whileN c b m ρ h = some r') : r = r' := by
  have a := whileN_le c b (Nat.le_max_left n m) e
  have b' := whileN_le c b (Nat.le_max_right n m) e'
  rw [a] at b'
  exact Option.some.inj b'
open Classical in
noncomputable def sWhile (c : Tv) (b : Sv) : Sv := fun ρ h => if H : ∃ r, ∃ n, whileN c b n ρ h = some r then Classical.choose H else .no
theorem sWhile_of {c : Tv} {b : Sv} {n : Nat} {ρ : En} {h : Hh} {r : So} (e : whileN c b n ρ h = some r) : sWhile c b ρ h = r := by
  have H : ∃ r, ∃ n, whileN c b n ρ h = some r := ⟨r, n, e⟩
  unfold sWhile
  rw [dif_pos H]
  obtain ⟨m, e'⟩ := Classical.choose_spec H
  exact whileN_det c b e' e
theorem sWhile_none {c : Tv} {b : Sv} {ρ : En} {h : Hh} (e : ∀ n, whileN c b n ρ h = none) : sWhile c b ρ h = .no := by
  unfold sWhile
  rw [dif_neg]
  rintro ⟨r, n, q⟩
  rw [e n] at q
  cases q
/-- one turn -/
theorem sWhile_eq (c : Tv) (b : Sv) (ρ : En) (h : Hh) : sWhile c b ρ h = Out.then ρ (c ρ h) fun k h1 => if k then (match b ρ h1 with
      | .nx ρ' h' => sWhile c b ρ' h'
      | .ct ρ' h' => sWhile c b ρ' h'
      | .bk ρ' h' => .nx ρ' h'
      | r => r) else .nx ρ h1 := by
  have step : ∀ n, whileN c b (n + 1) ρ h = match c ρ h with
    | .no => some .no
    | .ex k fs h1 => some (.ex k fs ρ h1)
    | .ok false h1 => some (.nx ρ h1)
    | .ok true h1 => match b ρ h1 with
      | .nx ρ' h' => whileN c b n ρ' h'
      | .ct ρ' h' => whileN c b n ρ' h'
      | .bk ρ' h' => some (.nx ρ' h')
      | r => some r := fun n => rfl
  cases ec : c ρ h with
  | no => exact sWhile_of (n := 1) (by rw [step, ec]; rfl)
  | ex k fs h1 => exact sWhile_of (n := 1) (by rw [step, ec]; rfl)
  | ok k h1 =>
    cases k with
    | false => exact sWhile_of (n := 1) (by rw [step, ec]; rfl)
    | true =>
      show sWhile c b ρ h = match b ρ h1 with
        | .nx ρ' h' => sWhile c b ρ' h'
        | .ct ρ' h' => sWhile c b ρ' h'
        | .bk ρ' h' => .nx ρ' h'
        | r => r
      have again : ∀ ρ' h', (∀ n, whileN c b (n + 1) ρ h = whileN c b n ρ' h') → sWhile c b ρ h = sWhile c b ρ' h' := fun ρ' h' z => by
        by_cases q : ∃ r, ∃ n, whileN c b n ρ' h' = some r
        · obtain ⟨r, n, e⟩ := q
          rw [sWhile_of e]
          exact sWhile_of (n := n + 1) (by rw [z]; exact e)
        · have n1 : ∀ n, whileN c b n ρ' h' = none := fun n => by
            cases e : whileN c b n ρ' h' with
            | none => rfl
            | some r => exact absurd ⟨r, n, e⟩ q
          rw [sWhile_none n1]
          refine sWhile_none fun n => ?_
          cases n with
          | zero => rfl
          | succ n => rw [z]; exact n1 n
      cases eb : b ρ h1 with
      | nx ρ' h' => exact again ρ' h' fun n => by rw [step, ec]; dsimp only; rw [eb]
      | ct ρ' h' => exact again ρ' h' fun n => by rw [step, ec]; dsimp only; rw [eb]
      | bk ρ' h' => exact sWhile_of (n := 1) (by rw [step, ec]; dsimp only; rw [eb])
      | rt v h' => exact sWhile_of (n := 1) (by rw [step, ec]; dsimp only; rw [eb])
      | ex k fs ρ' h' => exact sWhile_of (n := 1) (by rw [step, ec]; dsimp only; rw [eb])
      | no => exact sWhile_of (n := 1) (by rw [step, ec]; dsimp only; rw [eb])
section
variable {X : Cx} {W : WX} {c : Expr} {tc : Tv} {body : List Stmt} {fb : Sv} {pos : Pos}
theorem es_while (hp : PassesOwn (model X.prog X.w) X.A X.env X.xe) (hc : ET X W c tc) (hb : ESs X W body fb) : ES X W (.While c body [] pos) (sWhile tc fb) :=
  PS.of (ps_while hp hc hb) fun D σ H ⟨φ, h, ρ, sm, er, q⟩ => by
    by_cases ex : ∃ r, ∃ n, whileN tc fb n ρ h = some r
    · obtain ⟨r, n, e⟩ := ex
      rw [sWhile_of e] at q
      refine ⟨fun m σ H => ∃ φ h ρ r, Sim X.K φ h H ∧ ERep X.K φ h H σ ρ ∧ whileN tc fb m ρ h = some r ∧ PoS X.K X.mg φ h H r D W, ⟨n, φ, h, ρ, r, sm, er, e, q⟩, ?_⟩
      rintro m σ H ⟨φ, h, ρ, r, sm, er, e, q⟩
      refine ⟨φ, h, ρ, sm, er, ?_⟩
      cases m with
      | zero => cases e
      | succ m =>
        unfold whileN at e
        revert e
        cases tc ρ h with
        | no => intro e; cases e; exact q
        | ex k fs h1 => intro e; cases e; exact fun cls dd H' φ' st sm' xr => q cls dd σ H' φ' st sm' (er.step st) xr
        | ok k h1 =>
          cases k with
          | false =>
            intro e
            cases e
            intro H1 φ1 st sm1
            exact iteF (q σ H1 φ1 st sm1 (er.step st))
          | true =>
            intro e
            intro H1 φ1 st sm1
            refine iteT ⟨fun σ' H' => ∃ φ h ρ r, Sim X.K φ h H' ∧ ERep X.K φ h H' σ' ρ ∧ whileN tc fb m ρ h = some r ∧ PoS X.K X.mg φ h H' r D W, fun σ' H' z => ⟨m, Nat.lt_succ_self m, z⟩, φ1, h1, ρ, sm1, er.step st, ?_⟩
            dsimp only at e
            revert e
            cases fb ρ h1 with
            | nx ρ' h' => exact fun e σ2 H2 φ2 st2 sm2 er2 => ⟨φ2, h', ρ', r, sm2, er2, e, PoS.pull (st.trans st2) q⟩
            | ct ρ' h' => exact fun e σ2 H2 φ2 st2 sm2 er2 => ⟨φ2, h', ρ', r, sm2, er2, e, PoS.pull (st.trans st2) q⟩
            | bk ρ' h' => intro e; cases e; exact PoS.pull st q
            | rt v h' => intro e; cases e; exact PoS.pull st q
            | ex k fs ρ' h' => intro e; cases e; exact PoS.pull st q
            | no => intro e; cases e; exact PoS.pull st q
    · have n1 : ∀ n, whileN tc fb n ρ h = none := fun n => by
        cases e : whileN tc fb n ρ h with
        | none => rfl
        | some r => exact absurd ⟨r, n, e⟩ ex
      rw [sWhile_none n1] at q
      exact q.elim
end
/-! ### a def -/
def trunc (n : Nat) (v : Vl) (h : Hh) : Out Vl := match v with
  | .r i => if i < n then .ok (.r i) (h.take n) else match h[i]? with
    | some (some o) => .ok (.r n) (h.take n ++ [some o])
    | _ => .no
  | v => .ok v (h.take n)
def retF (n : Nat) : So → Out Vl
  | .rt v h => trunc n v h
  | .nx _ h => trunc n (.d .none) h
  | .ex c fs _ h => .ex c fs (h.take n)
  | _ => .no
def enter (N : Nat) (as : List Vl) : En := as.map some ++ List.replicate (N - as.length) none
def mkF (k N : Nat) (body : Sv) : Fn := fun as h => if as.length = k then retF h.length (body (enter N as) h) else .no
section
variable {K : PySem.W.Frag} {mg : Str → Option Value}
theorem enter_ok {φ : List Addr} {h : Hh} {H : Hp} {vs : List V} {as : List Vl} (N : List Str) (r : VReps K φ h H vs as) : ERep K φ h H (start N vs) (enter N.length as) := by
  have hl := r.length
  refine ⟨by unfold L2.start enter; simp [hl], fun i v e => ?_⟩
  unfold enter at e
  unfold L2.start
  by_cases hi : i < as.length
  · rw [List.getElem?_append_left (by simpa using hi), List.getElem?_map] at e
    rw [List.getElem?_append_left (by simp; omega), List.getElem?_map]
    have get : ∀ {vs : List V} {as : List Vl} {i : Nat} {v : Vl}, VReps K φ h H vs as → as[i]? = some v → ∃ x, vs[i]? = some x ∧ VRep K φ h H x v := by
      intro vs as i v r
      induction r generalizing i with
      | nil => intro e; simp at e
      | cons q t ih =>
        cases i with
        | zero => intro e; simp at e; subst e; exact ⟨_, rfl, q⟩
        | succ i => intro e; exact ih (by simpa using e)
    cases e2 : as[i]? with
    | none => rw [e2] at e; cases e
    | some w =>
      rw [e2] at e
      cases e
      obtain ⟨x, e3, q⟩ := get r e2
      exact ⟨x, by rw [e3]; rfl, q⟩
  · rw [List.getElem?_append_right (by simpa using Nat.le_of_not_lt hi)] at e
    rw [List.getElem?_replicate] at e
    split at e <;> cases e
/-- the numbers above n are forgotten -/
theorem Sim.cut {φ φ' : List Addr} {h' : Hh} {H' : Hp} {n : Nat} (sm : Sim K φ' h' H') (pre : φ <+: φ') (hn : φ.length = n) :
    Sim K φ (h'.take n) H' ∧ (∀ a, Live φ (h'.take n) a → Live φ' h' a) := by
  have le : n ≤ h'.length := by rw [← sm.len, ← hn]; exact pre.length_le
  have back : ∀ (i : Nat) (o : Option Ob), (h'.take n)[i]? = some o → h'[i]? = some o ∧ i < n := fun i o e => by
    rw [List.getElem?_take] at e
    split at e
    · exact ⟨e, by assumption⟩
    · cases e
  have less : ∀ a, Live φ (h'.take n) a → Live φ' h' a := fun a ⟨i, o, e1, e2⟩ => ⟨i, o, pre_get pre e1, (back i _ e2).1⟩
  have st : Stay H' (Live φ' h') H' (Live φ (h'.take n)) := fun a u q nl => ⟨q, fun l => nl (less a l)⟩
  refine ⟨⟨by rw [List.length_take, hn]; omega, fun i j a o o' e1 e2 e3 e4 => sm.inj i j a o o' (pre_get pre e1) (pre_get pre e2) (back i _ e3).1 (back j _ e4).1, fun i o e => ?_⟩, less⟩
  obtain ⟨e1, hi⟩ := back i _ e
  obtain ⟨a, e2, r⟩ := sm.ob i o e1
  obtain ⟨t, rfl⟩ := pre
  rw [List.getElem?_append_left (by omega)] at e2
  exact ⟨a, e2, r.stay st fun _ z => z⟩
theorem trunc_ok {φ φ' : List Addr} {h h' : Hh} {H H' : Hp} {v : Vl} {x : V} {Q : VK} {E : XK} (sm : Sim K φ h H) (st : Step φ h H φ' h' H') (sm' : Sim K φ' h' H') (rv : VRep K φ' h' H' x v)
    (q : PoX K mg φ h H (trunc h.length v h') Q E) : Q x H' := by
  obtain ⟨c1, c2⟩ := sm'.cut st.pre sm.len
  have st2 : Stay H' (Live φ' h') H' (Live φ (h'.take h.length)) := fun a u q nl => ⟨q, fun l => nl (c2 a l)⟩
  have st1 : Step φ h H φ (h'.take h.length) H' := ⟨List.prefix_refl _, st.st.trans st2⟩
  cases v with
  | d z => exact q x H' φ st1 c1 (Rep.stay st2 rv)
  | x c fs => exact rv.elim
  | r i =>
    obtain ⟨a, ea, rfl⟩ := rv
    unfold trunc at q
    dsimp only at q
    split at q
    · rename_i hi
      have hi' : i < φ.length := by rw [sm.len]; exact hi
      obtain ⟨t, rfl⟩ := st.pre
      rw [List.getElem?_append_left hi'] at ea
      exact q _ H' φ st1 c1 ⟨a, ea, rfl⟩
    · rename_i hi
      split at q
      · rename_i o eo
        -- the object i becomes the object n
        have hl : h.length ≤ h'.length := by rw [← sm'.len, ← sm.len]; exact st.pre.length_le
        have lk : (h'.take h.length).length = h.length := by rw [List.length_take]; omega
        have nl : ¬ Live φ (h'.take h.length) a := fun ⟨j, u, e1, e2⟩ => by
          rw [List.getElem?_take] at e2
          split at e2
          · have := sm'.inj i j a o u ea (pre_get st.pre e1) eo e2
            omega
          · cases e2
        have lv : ∀ b, Live (φ ++ [a]) (h'.take h.length ++ [some o]) b ↔ Live φ (h'.take h.length) b ∨ b = a := fun b => live_new (by rw [lk, sm.len])
        have less : ∀ b, Live (φ ++ [a]) (h'.take h.length ++ [some o]) b → Live φ' h' b := fun b l => by
          rcases (lv b).mp l with l | rfl
          · exact c2 b l
          · exact ⟨i, o, ea, eo⟩
        have st3 : Stay H' (Live φ' h') H' (Live (φ ++ [a]) (h'.take h.length ++ [some o])) := fun b u q nb => ⟨q, fun l => nb (less b l)⟩
        have ora := sm'.at_ eo ea
        refine q _ H' (φ ++ [a]) ⟨List.prefix_append _ _, st.st.trans st3⟩ ⟨by simp [lk, sm.len], fun i1 j1 b u u' e1 e2 e3 e4 => ?_, fun i1 u e => ?_⟩ ⟨a, by rw [← sm.len]; simp, rfl⟩
        · have hgt : ∀ (k : Nat) (u : Ob), (φ ++ [a])[k]? = some b → (h'.take h.length ++ [some o])[k]? = some (some u) → (k < φ.length ∧ φ[k]? = some b ∧ (h'.take h.length)[k]? = some (some u)) ∨ (k = φ.length ∧ b = a) := fun k u e1 e2 => by
            by_cases hk : k < φ.length
            · rw [List.getElem?_append_left hk] at e1
              rw [List.getElem?_append_left (by rw [lk, ← sm.len]; exact hk)] at e2
              exact .inl ⟨hk, e1, e2⟩
            · have : k = φ.length := by
                have := (List.getElem?_eq_some_iff.mp e1).1
                simp at this
                omega
              subst this
              simp at e1
              exact .inr ⟨rfl, e1.symm⟩
          rcases hgt i1 u e1 e3 with ⟨a1, a2, a3⟩ | ⟨a1, a2⟩ <;> rcases hgt j1 u' e2 e4 with ⟨b1, b2, b3⟩ | ⟨b1, b2⟩
          · exact c1.inj i1 j1 b u u' a2 b2 a3 b3
          · subst b2; exact absurd ⟨i1, u, a2, a3⟩ nl
          · subst a2; exact absurd ⟨j1, u', b2, b3⟩ nl
          · omega
        · by_cases hk : i1 < h.length
          · rw [List.getElem?_append_left (by rw [lk]; exact hk)] at e
            obtain ⟨b, e2, r2⟩ := sm'.ob i1 u (by rw [List.getElem?_take, if_pos hk] at e; exact e)
            obtain ⟨t, et⟩ := st.pre
            rw [← et, List.getElem?_append_left (by rw [sm.len]; exact hk)] at e2
            exact ⟨b, by rw [List.getElem?_append_left (by rw [sm.len]; exact hk)]; exact e2, r2.stay st3 fun _ z => z⟩
          · have e0 : i1 = h.length := by
              have := (List.getElem?_eq_some_iff.mp e).1
              simp [lk] at this
              omega
            subst e0
            rw [List.getElem?_append_right (by rw [lk]; omega), lk] at e
            simp at e
            subst e
            exact ⟨a, by rw [← sm.len]; simp, ora.stay st3 fun _ z => z⟩
      · exact q.elim
end
/-- what stands for a def of the text -/
theorem fun_ok {P : Program} {w : World} {K : PySem.W.Frag} {mg : Str → Option Value} {base : Heap} {x qual : Str} {st : Stmt} {f : Addr} {fd : FuncData} {N ps : List Str} {k : Nat} {body : Sv} (F : Fun K x qual st f fd) (S : FnScope N ps (defScope st))
    (hb : ∀ (X : Cx) (W : WX), X.prog = P → X.w = w → X.K = K → X.mg = mg → X.base = base → X.N = N → X.env.scope = defScope st → (∀ y, X.fn y = true) → X.calm = true → Room k X.A → Takes X W → PassesOwn (model X.prog X.w) X.A X.env X.xe → X.stack = X.env :: X.outer → X.env.frame = some X.env.locals → ESs X W (defBody st) body) :
    FnOk P w K mg base (L2.CX P w) (k + 1) f fd ps (spF K mg (mkF ps.length N.length body)) := by
  refine F.okX S (fun vs H Q E ⟨φ, h, as, sm, rv, q⟩ => ?_) (fun cdv A outer s H vs Q E hr ⟨φ, h, as, sm, rv, q⟩ => ?_)
  · unfold mkF at q
    split at q
    · rename_i hl
      rw [rv.length]
      exact hl
    · exact q.elim
  · refine ⟨_, hb (cxOf (L2.CX P w) P w K mg base N qual (defScope st) f cdv A outer s H E) (fun cls d _ H => E cls d H) rfl rfl rfl rfl rfl rfl rfl (fun _ => rfl) rfl hr (takes_of rfl rfl rfl rfl) (passes_of rfl) rfl rfl, φ, h, enter N.length as, sm, enter_ok N rv, ?_⟩
    unfold mkF at q
    split at q
    · revert q
      show PoX K mg φ h H (retF h.length (body (enter N.length as) h)) Q E → _
      cases body (enter N.length as) h with
      | rt v h' => exact fun q x H' φ' st sm' rv => trunc_ok sm st sm' rv q
      | nx ρ' h' => exact fun q σ' H' φ' st sm' er => trunc_ok (v := .d .none) sm st sm' Rep.non q
      | ex c fs ρ' h' =>
        intro q cls dd σ' H' φ' st sm' er xr
        obtain ⟨c1, c2⟩ := sm'.cut st.pre sm.len
        have st2 : Stay H' (Live φ' h') H' (Live φ (h'.take h.length)) := fun a u q nl => ⟨q, fun l => nl (c2 a l)⟩
        exact q cls dd H' φ ⟨List.prefix_refl _, st.st.trans st2⟩ c1 ⟨xr.cl, xr.no, fun z => by
          obtain ⟨a, vs, e1, e2, e3, e4⟩ := xr.yes z
          exact ⟨a, vs, e1, e2, fun l => e3 (c2 a l), e4.stay st2⟩⟩
      | bk ρ' h' => exact fun q => q.elim
      | ct ρ' h' => exact fun q => q.elim
      | no => exact fun q => q.elim
    · exact q.elim
end Rk

/-! Rk7: defs of the text, constants of the top, the head. -/
namespace Rk
open PySem PySem.Spec L2
abbrev FnP (K : PySem.W.Frag) (x : Str) (st : Stmt) (f : Addr) (fd : FuncData) : Prop := FunD K x x (defArgs st) (defBody st) (defScope st) [] [] f fd
/-- a def by its name: what it means -/
def Df (P : Program) (w : World) (K : PySem.W.Frag) (mg : Str → Option Value) (base : Heap) (k : Nat) (x : Str) (ps : List Str) (m : Fn) : Prop :=
  ∃ f fd, mg x = some (.ref f) ∧ PySem.W.keepIn K (.ref f) = true ∧ Binds K fd ps [] ∧ FnOk P w K mg base (L2.CX P w) k f fd ps (spF K mg m)
abbrev WOf (E : XK) : WX := fun cls d _ H => E cls d H
theorem fnOk_of {P : Program} {w : World} {K : PySem.W.Frag} {mg : Str → Option Value} {base : Heap} {x : Str} {st : Stmt} {f : Addr} {fd : FuncData} {N ps : List Str} {k : Nat} {body : Sv} (F : FnP K x st f fd) (S : FnScope N ps (defScope st))
    (hb : ∀ (cdv : Value) (A : Around) (outer : List Env) (s : Shared) (H : Hp) (E : XK), Room k (A.deeper (PyProof.Rows.envOfC x (defScope st) s.heap.objs.size f cdv)) → ESs (cxOf (L2.CX P w) P w K mg base N x (defScope st) f cdv A outer s H E) (WOf E) (defBody st) body) :
    FnOk P w K mg base (L2.CX P w) (k + 1) f fd ps (spF K mg (mkF ps.length N.length body)) := by
  refine FunD.ok F S (fun vs H Q E ⟨φ, h, as, sm, rv, q⟩ => ?_) (fun cdv A outer s H vs Q E hr ⟨φ, h, as, sm, rv, q⟩ => ?_)
  · unfold mkF at q
    split at q
    · rename_i hl
      rw [rv.length]
      exact hl
    · exact q.elim
  · refine ⟨_, hb cdv A outer s H E hr, φ, h, enter N.length as, sm, enter_ok N rv, ?_⟩
    unfold mkF at q
    split at q
    · revert q
      show PoX K mg φ h H (retF h.length (body (enter N.length as) h)) Q E → _
      cases body (enter N.length as) h with
      | rt v h' => exact fun q x H' φ' st sm' rv => trunc_ok sm st sm' rv q
      | nx ρ' h' => exact fun q σ' H' φ' st sm' er => trunc_ok (v := .d .none) sm st sm' Rep.non q
      | ex c fs ρ' h' =>
        intro q cls dd σ' H' φ' st sm' er xr
        obtain ⟨c1, c2⟩ := sm'.cut st.pre sm.len
        have st2 : Stay H' (Live φ' h') H' (Live φ (h'.take h.length)) := fun a u q nl => ⟨q, fun l => nl (c2 a l)⟩
        exact q cls dd H' φ ⟨List.prefix_refl _, st.st.trans st2⟩ c1 ⟨xr.cl, xr.no, fun z => by
          obtain ⟨a, vs, e1, e2, e3, e4⟩ := xr.yes z
          exact ⟨a, vs, e1, e2, fun l => e3 (c2 a l), e4.stay st2⟩⟩
      | bk ρ' h' => exact fun q => q.elim
      | ct ρ' h' => exact fun q => q.elim
      | no => exact fun q => q.elim
    · exact q.elim
theorem cx_no {P : Program} {w : World} {outer : List Env} (H : Hp) (s : Shared) (e : Value) (s' : Shared) (h : L2.CX P w outer H s (fun _ _ _ => False) e s') : False := by
  obtain ⟨_, _, _, _, _, _, _, _, _, _, _, _, z⟩ := h
  exact z
/-- the law's own def: nothing is raised out of it -/
theorem fnOk_cx0 {P : Program} {w : World} {K : PySem.W.Frag} {mg : Str → Option Value} {base : Heap} {k : Nat} {f : Addr} {fd : FuncData} {ps : List Str} {sp : Sp} (F : FnOk P w K mg base (L2.CX P w) k f fd ps sp) :
    FnOk P w K mg base CX0 k f fd ps (fun vs H Q _ => sp vs H Q fun _ _ _ => False) :=
  ⟨fun vs H Q E h => F.len vs H Q _ h, fun A outer s H args us vs Q E hr e0 hb r h => codeAny_mono (F.run A outer s H args us vs Q _ hr e0 hb r h) fun x s' hq => by
    cases x with
    | error e => exact (cx_no H s e s' hq).elim
    | ok fl => cases fl <;> exact hq⟩
theorem fnOk_of' {P : Program} {w : World} {K : PySem.W.Frag} {mg : Str → Option Value} {base : Heap} {x : Str} {st : Stmt} {f : Addr} {fd : FuncData} {N ps : List Str} {k kk NN : Nat} {body : Sv} (F : FnP K x st f fd) (S : FnScope N ps (defScope st)) (e1 : ps.length = kk) (e2 : N.length = NN)
    (hb : ∀ (cdv : Value) (A : Around) (outer : List Env) (s : Shared) (H : Hp) (E : XK), Room k (A.deeper (PyProof.Rows.envOfC x (defScope st) s.heap.objs.size f cdv)) → ESs (cxOf (L2.CX P w) P w K mg base N x (defScope st) f cdv A outer s H E) (WOf E) (defBody st) body) :
    FnOk P w K mg base CX0 (k + 1) f fd ps (fun vs H Q _ => spF K mg (mkF kk NN body) vs H Q fun _ _ _ => False) := by
  subst e1 e2
  exact fnOk_cx0 (fnOk_of F S hb)
theorem df_of {P : Program} {w : World} {K : PySem.W.Frag} {mg : Str → Option Value} {base : Heap} {x : Str} {st : Stmt} {f : Addr} {fd : FuncData} {N ps : List Str} {k kk NN : Nat} {body : Sv} (F : FnP K x st f fd) (g : mg x = some (.ref f)) (S : FnScope N ps (defScope st)) (e1 : ps.length = kk) (e2 : N.length = NN)
    (b : ∀ (dV kV doc pm : Value) (an : Option Addr) (cdv ct : Value) (us : List Value), us.length = ps.length → bindArgs (PySem.W.fnOf x x (defArgs st) (defBody st) (defScope st) .none kV doc pm an cdv ct) ⟨us, []⟩ = pure (ps.zip us))
    (hb : ∀ (cdv : Value) (A : Around) (outer : List Env) (s : Shared) (H : Hp) (E : XK), Room k (A.deeper (PyProof.Rows.envOfC x (defScope st) s.heap.objs.size f cdv)) → ESs (cxOf (L2.CX P w) P w K mg base N x (defScope st) f cdv A outer s H E) (WOf E) (defBody st) body) :
    Df P w K mg base (k + 1) x ps (mkF kk NN body) := by
  subst e1 e2
  exact ⟨f, fd, g, F.kp, FunD.bindsN F fun kV doc pm an cdv ct us hl => b .none kV doc pm an cdv ct us hl, fnOk_of F S hb⟩
/-! ### in a def's body -/
section
variable {P : Program} {w : World} {K : PySem.W.Frag} {mg : Str → Option Value} {base : Heap} {N : List Str} {x : Str} {sc : Scope} {f : Addr} {cdv : Value} {A : Around} {outer : List Env} {s : Shared} {H : Hp} {E : XK}
theorem tk_of : Takes (cxOf (L2.CX P w) P w K mg base N x sc f cdv A outer s H E) (WOf E) := takes_of rfl rfl rfl rfl
theorem po_of : PassesOwn (model (cxOf (L2.CX P w) P w K mg base N x sc f cdv A outer s H E).prog (cxOf (L2.CX P w) P w K mg base N x sc f cdv A outer s H E).w) (cxOf (L2.CX P w) P w K mg base N x sc f cdv A outer s H E).A (cxOf (L2.CX P w) P w K mg base N x sc f cdv A outer s H E).env (cxOf (L2.CX P w) P w K mg base N x sc f cdv A outer s H E).xe := passes_of rfl
end
/-- a call of a def by its name -/
theorem ec {X : Cx} {W : WX} {k j : Nat} {y : Str} {ps : List Str} {m : Fn} {e : Expr} {es : List Expr} {fs : Av} {p pos : Pos} (D : Df X.prog X.w X.K X.mg X.base k y ps m) (hr : Room j X.A) (tk : Takes X W) (ha : EA X W (e :: es) fs) (hkj : k ≤ j := by decide) (hg : Gl X y := by rfl)
    (hdb : (y == ("__debug__" : Str)) = false := by decide) (he : starEach (e :: es) X.env = (false, eval e X.env) :: starEach es X.env := by rfl) (hpl : (backTo pos (starEach es X.env)).any (·.1) = false := by rfl) :
    EE X W (.Call (.Name y p) (e :: es) [] pos) (eCall m fs) := by
  obtain ⟨f, fd, g, kp, b, F⟩ := D
  exact ee_call F (hr.mono hkj) hg g kp b tk ha hdb he hpl
theorem ok_ipadd {K : PySem.W.Frag} : Ok2 K (ipI fun i j => i + j) (gInt fAdd) := gInt_ok fun a b d H Q e k => by
  cases e
  exact ⟨a, b, rfl, rfl, k _ fun _ => .int _⟩
theorem ok_ipsub {K : PySem.W.Frag} : Ok2 K (ipI fun i j => i - j) (gInt fSub) := gInt_ok fun a b d H Q e k => by
  cases e
  exact ⟨a, b, rfl, rfl, k _ fun _ => .int _⟩
/-! ### constants of the top -/
def GConst (K : PySem.W.Frag) (mg : Str → Option Value) (x : Str) (d : Da) : Prop := ∃ v u, mg x = some u ∧ RelV v u ∧ KRep K v d
theorem eg {X : Cx} {W : WX} {y : Str} {d : Da} {pos : Pos} (c : GConst X.K X.mg y d) (hg : Gl X y := by rfl) (hd : (y == ("__debug__" : Str)) = false := by decide) : EE X W (.Name y pos) (eD d) := by
  obtain ⟨v, u, h1, h2, h3⟩ := c
  exact ee_glob hg h1 h2 h3 hd
mutual
def cB (K : PySem.W.Frag) : Da → Value → Bool
  | .none, .none => true
  | .bool b, .bool c => b == c
  | .int i, .int j _ => decide (i = j)
  | .str x, .str y _ => decide (x = y)
  | .tuple ds, .ref a => match K.lookup a with
    | some ⟨.type c, _, .seq its _, _⟩ => decide (c = "tuple") && (decide (its.size ≤ sizeLine) && cBs K ds its.toList)
    | _ => false
  | _, _ => false
def cBs (K : PySem.W.Frag) : List Da → List Value → Bool
  | [], [] => true
  | d :: ds, u :: us => cB K d u && cBs K ds us
  | _, _ => false
end
mutual
theorem cB_ok {K : PySem.W.Frag} : ∀ {d : Da} {u : Value}, cB K d u = true → ∃ v, RelV v u ∧ KRep K v d
  | .none, .none, _ => ⟨.non, rfl, fun _ _ => .non⟩
  | .bool b, .bool c, h => by
    have e : b = c := by
      unfold cB at h
      exact eq_of_beq h
    subst e
    exact ⟨.bl b, rfl, fun _ _ => .bl b⟩
  | .int i, .int j t, h => by
    have e : i = j := by
      unfold cB at h
      exact of_decide_eq_true h
    subst e
    exact ⟨.int i, ⟨t, rfl⟩, fun _ _ => .int i⟩
  | .str i, .str j t, h => by
    have e : i = j := by
      unfold cB at h
      exact of_decide_eq_true h
    subst e
    exact ⟨.str i, ⟨t, rfl⟩, fun _ _ => .str i⟩
  | .tuple ds, .ref a, h => by
    unfold cB at h
    split at h
    · rename_i c dd its n sl q
      rw [Bool.and_eq_true, Bool.and_eq_true] at h
      obtain ⟨h1, h2, h3⟩ := h
      obtain ⟨vs, r1, r2⟩ := cBs_ok h3
      exact ⟨.ref a, rfl, fun H M => .tupK ⟨_, its, n, q, congrArg Value.type (of_decide_eq_true h1), rfl, of_decide_eq_true h2, r1⟩ (r2 H M)⟩
    · cases h
theorem cBs_ok {K : PySem.W.Frag} : ∀ {ds : List Da} {us : List Value}, cBs K ds us = true → ∃ vs, Vals vs us ∧ ∀ H M, Reps K H M vs ds
  | [], [], _ => ⟨[], .nil, fun _ _ => .nil⟩
  | d :: ds, u :: us, h => by
    unfold cBs at h
    rw [Bool.and_eq_true] at h
    obtain ⟨v, r1, r2⟩ := cB_ok h.1
    obtain ⟨vs, s1, s2⟩ := cBs_ok h.2
    exact ⟨v :: vs, .cons r1 s1, fun H M => .cons (r2 H M) (s2 H M)⟩
end
def gB (K : PySem.W.Frag) (x : Str) (d : Da) : Bool := match PySem.W.nsIn K mainGlobals x with
  | some (some u) => cB K d u
  | _ => false
theorem gB_ok {K : PySem.W.Frag} {h : Heap} {mg : Str → Option Value} (X : K.In h) (G : h.Ns mainGlobals mg) {x : Str} {d : Da} (c : gB K x d = true) : GConst K mg x d := by
  unfold gB at c
  split at c
  · rename_i u e
    obtain ⟨v, r1, r2⟩ := cB_ok c
    exact ⟨v, u, PySem.W.mg_of X G e, r1, r2⟩
  · cases c
/-! ### the Hook -/
abbrev AlR : Type := He.AlD × Bool
def obsR (n : Nat) (fa : List He.Fa) (fn : List He.DefD) (ex : PySem.W.Frag → Bool) (g : Addr → Option Obj) : AlR := (He.obsD fa fn (He.frG g (He.asD g n)), ex (He.frG g (He.asD g n)))
def SaysR (fa : List He.Fa) (fn : List He.DefD) (ex : PySem.W.Frag → Bool) (K : PySem.W.Frag) : Prop := He.SaysD fa fn K ∧ ex K = true
def hookR (n : Nat) (fa : List He.Fa) (fn : List He.DefD) (ex : PySem.W.Frag → Bool) : PySem.W.Hook where
  α := AlR
  obs := fun s => obsR n fa fn ex s.heap.get?
  val := fun _ => (He.valD fn, true)
  says := fun _ h => ∃ K : PySem.W.Frag, K.In h ∧ SaysR fa fn ex K
  of := fun _ _ e => ⟨_, He.frG_in, congrArg (fun z : AlR => z.1) e, congrArg (fun z : AlR => z.2) e⟩
  keeps := fun _ _ _ ⟨K, hK, c⟩ k => ⟨K, PySem.W.Frag.In.keeps hK k, c⟩
theorem obsR_eq {n : Nat} {fa : List He.Fa} {fn : List He.DefD} {ex : PySem.W.Frag → Bool} {g : Addr → Option Obj} {s : Shared} (h : ∀ a, g a = s.heap.get? a) : obsR n fa fn ex g = (hookR n fa fn ex).obs s := by
  have e : g = s.heap.get? := funext h
  rw [e] <;> rfl
/-- the script's data -/
theorem script_rep {K : PySem.W.Frag} {H : Hp} {a : Addr} {ns : List Int} (h : SqL K H a (ns.map V.int)) : Sim K [] [] H ∧ VReps K [] [] H [.ref a] [.d (.list (ns.map PyData.int))] := by
  have nl : ∀ b, ¬ Live [] [] b := fun b ⟨i, o, e, _⟩ => by simp at e
  have rs : ∀ ns : List Int, Reps K H (Live [] []) (ns.map V.int) (ns.map PyData.int) := fun ns => by
    induction ns with
    | nil => exact .nil
    | cons n ns ih => exact .cons (.int n) ih
  refine ⟨⟨rfl, fun i j a o o' e => by simp at e, fun i o e => by simp at e⟩, .cons ?_ .nil⟩
  rcases h with h | h
  · exact Rep.lst h (nl a) (rs ns)
  · exact Rep.lstK h (rs ns)
/-- the law's end -/
theorem law_sp {K : PySem.W.Frag} {mg : Str → Option Value} {m : Fn} {H : Hp} {a : Addr} {ns : List Int} (h : SqL K H a (ns.map V.int)) {h' : Hh} (e : m [.d (.list (ns.map PyData.int))] [] = .ok (.d (.bool true)) h') :
    spF K mg m [.ref a] H (fun v _ => v = .bl true) fun _ _ _ => False := by
  obtain ⟨s1, s2⟩ := script_rep h
  refine ⟨[], [], _, s1, s2, ?_⟩
  rw [e]
  exact fun x H' φ' _ _ r => VRep.bl r
end Rk

/-! Rk8: reckoning with meanings. -/
namespace Rk
open PySem PySem.Spec L2
/-! ### places of written tuples -/
section
variable {a0 a1 a2 a3 a4 a5 a6 : Da} {r : List Da} {h : Hh}
theorem ixN_nat {n k : Nat} (hk : k < n) : ixN n (k : Int) = some k := by
  unfold ixN
  rw [if_pos (by omega), if_pos (by omega)]
  simp
theorem atI_get0 {α : Type} {xs : List α} {k : Nat} {v : α} (e : xs[k]? = some v) : atI xs (k : Int) = some v := L2.atI_nat e
theorem gIx_nat {xs : List Da} {k : Nat} {v : Da} (e : xs[k]? = some v) : gIx (.d (.tuple xs)) (.d (.int (k : Int))) h = some (.d v, h) := by
  unfold gIx
  dsimp only
  rw [atI_get0 e]
  rfl
theorem ix0 : gIx (.d (.tuple (a0 :: r))) (.d (.int 0)) h = some (.d a0, h) := gIx_nat (k := 0) rfl
theorem ix1 : gIx (.d (.tuple (a0 :: a1 :: r))) (.d (.int 1)) h = some (.d a1, h) := gIx_nat (k := 1) rfl
theorem ix2 : gIx (.d (.tuple (a0 :: a1 :: a2 :: r))) (.d (.int 2)) h = some (.d a2, h) := gIx_nat (k := 2) rfl
theorem ix3 : gIx (.d (.tuple (a0 :: a1 :: a2 :: a3 :: r))) (.d (.int 3)) h = some (.d a3, h) := gIx_nat (k := 3) rfl
theorem ix4 : gIx (.d (.tuple (a0 :: a1 :: a2 :: a3 :: a4 :: r))) (.d (.int 4)) h = some (.d a4, h) := gIx_nat (k := 4) rfl
theorem ix5 : gIx (.d (.tuple (a0 :: a1 :: a2 :: a3 :: a4 :: a5 :: r))) (.d (.int 5)) h = some (.d a5, h) := gIx_nat (k := 5) rfl
theorem gIxL {n : Nat} {xs : List Da} {k : Nat} {v : Da} (e : h[n]? = some (some (.lst xs))) (ev : xs[k]? = some v) : gIx (.r n) (.d (.int (k : Int))) h = some (.d v, h) := by
  unfold gIx asL
  dsimp only
  rw [e]
  dsimp only
  rw [atI_get0 ev]
  rfl
theorem gIxF {xs : List Da} {k : Nat} {v : Da} (ev : xs[k]? = some v) : gIx (.d (.list xs)) (.d (.int (k : Int))) h = some (.d v, h) := by
  unfold gIx asL
  dsimp only
  rw [atI_get0 ev]
  rfl
end
/-! ### one step each -/
section
variable {ρ : En} {h h1 : Hh} {v w : Vl} {f g : Ev} {i : Nat} {a b : Int}
theorem eVar_at (e : ρ[i]? = some (some v)) : eVar i ρ h = .ok v h := by
  unfold eVar
  rw [e]
theorem eD_eq {d : Da} : eD d ρ h = .ok (.d d) h := rfl
theorem fAdd_eq : fAdd a b = some (.int (a + b)) := rfl
theorem fSub_eq : fSub a b = some (.int (a - b)) := rfl
theorem fMul_eq (h : IntMulOk a b) : fMul a b = some (.int (a * b)) := if_pos h
theorem fDiv_eq (h0 : b ≠ 0) (h1 : Builtin.divisionGoesByPylong a b = false) : fDiv a b = some (.int (a.fdiv b)) := if_pos ⟨h0, h1⟩
theorem fMod_eq (h0 : b ≠ 0) : fMod a b = some (.int (a.fmod b)) := if_pos h0
theorem fLt_eq : fLt a b = some (.bool (decide (a < b))) := rfl
theorem fLe_eq : fLe a b = some (.bool (decide (a ≤ b))) := rfl
theorem fGt_eq : fGt a b = some (.bool (decide (b < a))) := rfl
theorem fGe_eq : fGe a b = some (.bool (decide (b ≤ a))) := rfl
theorem gInt_eq {F : Int → Int → Option Da} : gInt F (.d (.int a)) (.d (.int b)) h = (F a b).map fun z => (.d z, h) := rfl
theorem gAdd_int : gAdd (.d (.int a)) (.d (.int b)) h = some (.d (.int (a + b)), h) := rfl
theorem gAbs_eq : gAbs [.d (.int a)] h = some (.d (.int (if a < 0 then -a else a)), h) := rfl
theorem truO_b {b : Bool} : truO (.d (.bool b)) h = .ok b h := rfl
theorem fzs_nil : fzs [] h = some ([], h) := rfl
theorem fzs_d {x : Da} {vs : List Vl} : fzs (.d x :: vs) h = (fzs vs h).map fun q => (x :: q.1, q.2) := rfl
theorem So.then_nx {f : Sv} : (So.nx ρ h).then f = f ρ h := rfl
theorem So.then_rt {f : Sv} : (So.rt v h).then f = .rt v h := rfl
theorem fit_lit {n : Nat} (e : n ≤ 16777216) : fitB n = true := fitB_ok e
end
/-! ### sizes -/
/-- below 2 ^ n in size -/
def Bd (n : Nat) (x : Int) : Prop := x.natAbs < 2 ^ n
theorem Bd.mono {n m : Nat} {x : Int} (h : Bd n x) (hl : n ≤ m) : Bd m x := Nat.lt_of_lt_of_le h (Nat.pow_le_pow_right (by decide) hl)
theorem Bd.mul {n m : Nat} {x y : Int} (hx : Bd n x) (hy : Bd m y) : Bd (n + m) (x * y) := by
  unfold Bd at *
  rw [Int.natAbs_mul, Nat.pow_add]
  exact Nat.mul_lt_mul'' hx hy
theorem Bd.add {n m : Nat} {x y : Int} (hx : Bd n x) (hy : Bd m y) : Bd (max n m + 1) (x + y) := by
  have h1 := hx.mono (Nat.le_max_left n m)
  have h2 := hy.mono (Nat.le_max_right n m)
  unfold Bd at *
  rw [Nat.pow_succ]
  omega
theorem Bd.neg {n : Nat} {x : Int} (hx : Bd n x) : Bd n (-x) := by
  unfold Bd at *
  omega
theorem Bd.sub {n m : Nat} {x y : Int} (hx : Bd n x) (hy : Bd m y) : Bd (max n m + 1) (x - y) := by
  rw [Int.sub_eq_add_neg]
  exact hx.add hy.neg
theorem Bd.of {n : Nat} {x : Int} (m : Nat) (h : x.natAbs ≤ m) (hm : m < 2 ^ n) : Bd n x := Nat.lt_of_le_of_lt h hm
theorem Bd.le {n : Nat} {x y : Int} (hy : Bd n y) (h : x.natAbs ≤ y.natAbs) : Bd n x := Nat.lt_of_le_of_lt h hy
theorem bits_le {n : Nat} {x : Int} (h : Bd n x) : Builtin.Int.intBits x ≤ n := by
  unfold Builtin.Int.intBits
  split
  · exact Nat.zero_le _
  · rename_i hx
    have h0 : x.natAbs ≠ 0 := fun z => hx (by simp; omega)
    exact (Nat.log2_lt h0).mpr h
theorem Bd.mulOk {n m : Nat} {x y : Int} (hx : Bd n x) (hy : Bd m y) (h : n + m ≤ 134217728) : IntMulOk x y := by
  have h1 := bits_le hx
  have h2 := bits_le hy
  have e : bitsLine = 134217728 := by decide
  unfold IntMulOk
  intro z
  rw [Bool.and_eq_true] at z
  have z2 := z.2
  unfold Builtin.Int.intTooBig at z2
  have z3 := of_decide_eq_true z2
  rw [e] at z3
  omega
theorem mulOk_small {x y : Int} (h : Bd 64 x) : IntMulOk x y := IntMulOk.of_left (bits_le h)
theorem mulOk_smallR {x y : Int} (h : Bd 64 y) : IntMulOk x y := IntMulOk.of_right (bits_le h)
theorem Bd.divOk {n : Nat} {x y : Int} (hy : Bd n y) (h0 : 0 < n) (h : n ≤ 9000) : Builtin.divisionGoesByPylong x y = false := PyProof.noPylong_of_log2 (by
  rcases Nat.eq_zero_or_pos y.natAbs with z | z
  · rw [z]; decide
  · exact (Nat.log2_lt (Nat.ne_of_gt z)).mpr (Nat.lt_of_lt_of_le hy (Nat.pow_le_pow_right (by decide) h)))
/-! ### fractions -/
/-- a fraction's data -/
def Q (r : Rat) : Da := .tuple [.int r.num, .int r.den]
theorem abs_eq (a : Int) : (if a < 0 then -a else a) = (a.natAbs : Int) := by
  split <;> omega
theorem fmod_nat (x y : Nat) : Int.fmod (x : Int) (y : Int) = ((x % y : Nat) : Int) := by
  rw [Int.fmod_eq_emod_of_nonneg _ (by omega)]
  rfl
/-- above and below, parted by the greatest common part with below's sign -/
theorem divInt_parts {x y : Int} (hy : y ≠ 0) : x.fdiv (if y < 0 then 0 - (Int.gcd x y : Int) else (Int.gcd x y : Int)) = (Rat.divInt x y).num ∧
    y.fdiv (if y < 0 then 0 - (Int.gcd x y : Int) else (Int.gcd x y : Int)) = ((Rat.divInt x y).den : Int) := by
  have hg : 0 < Int.gcd x y := Nat.pos_of_ne_zero fun z => hy (Int.gcd_eq_zero_iff.mp z).2
  have dx : (Int.gcd x y : Int) ∣ x := Int.gcd_dvd_left ..
  have dy : (Int.gcd x y : Int) ∣ y := Int.gcd_dvd_right ..
  rw [Rat.num_divInt, Rat.den_divInt, if_neg hy, Int.gcd_comm y x]
  obtain ⟨k, ek⟩ := dx
  obtain ⟨l, el⟩ := dy
  generalize hG : (Int.gcd x y : Int) = G at *
  have hG0 : 0 < G := by omega
  have hGn : G ≠ 0 := by omega
  have fx : ∀ s : Int, s ≠ 0 → ∀ z : Int, (s * z).fdiv s = z := fun s hs z => by
    rw [Int.mul_comm]
    exact Int.mul_fdiv_cancel _ hs
  by_cases hn : y < 0
  · rw [if_pos hn]
    have hs : y.sign = -1 := Int.sign_eq_neg_one_of_neg hn
    have e1 : x.fdiv (0 - G) = -k := by
      have : x = (0 - G) * (-k) := by rw [ek]; grind
      rw [this]
      exact fx _ (by omega) _
    have e2 : y.fdiv (0 - G) = -l := by
      have : y = (0 - G) * (-l) := by rw [el]; grind
      rw [this]
      exact fx _ (by omega) _
    refine ⟨?_, ?_⟩
    · rw [e1, hs, ek, show (-1 : Int) * (G * k) = G * (-k) by grind, Int.mul_ediv_cancel_left _ hGn]
    · rw [e2]
      have : (y.natAbs : Int) = G * (-l) := by
        have : (y.natAbs : Int) = -y := by omega
        rw [this, el]; grind
      rw [Int.natCast_ediv, this, hG, Int.mul_ediv_cancel_left _ hGn]
  · rw [if_neg hn]
    have hs : y.sign = 1 := Int.sign_eq_one_of_pos (by omega)
    have e1 : x.fdiv G = k := by rw [ek]; exact fx _ hGn _
    have e2 : y.fdiv G = l := by
      have : y.fdiv G = (G * l).fdiv G := by rw [← el]
      rw [this]; exact fx _ hGn _
    refine ⟨?_, ?_⟩
    · rw [e1, hs, ek, Int.one_mul, Int.mul_ediv_cancel_left _ hGn]
    · rw [e2]
      have : (y.natAbs : Int) = G * l := by
        have : (y.natAbs : Int) = y := by omega
        rw [this]; exact el
      rw [Int.natCast_ediv, this, hG, Int.mul_ediv_cancel_left _ hGn]
theorem bd_num {n : Nat} {x y : Int} (h : Bd n x) : Bd n (Rat.divInt x y).num := by
  rw [Rat.num_divInt]
  refine h.le ?_
  have h1 : (y.sign * x / (Int.gcd y x : Int)).natAbs ≤ (y.sign * x).natAbs := Int.natAbs_ediv_le_natAbs _ _
  rw [Int.natAbs_mul] at h1
  have h2 : y.sign.natAbs ≤ 1 := by
    rcases Int.lt_trichotomy y 0 with z | z | z
    · rw [Int.sign_eq_neg_one_of_neg z]; decide
    · rw [z]; decide
    · rw [Int.sign_eq_one_of_pos z]; decide
  have h3 : y.sign.natAbs * x.natAbs ≤ 1 * x.natAbs := Nat.mul_le_mul_right _ h2
  omega
theorem bd_den {n : Nat} {x y : Int} (h : Bd n y) (h0 : 0 < n) : Bd n ((Rat.divInt x y).den : Int) := by
  rw [Rat.den_divInt]
  split
  · exact Nat.one_lt_two_pow (by omega)
  · exact h.le (by rw [Int.natAbs_natCast]; exact Nat.div_le_self _ _)
end Rk
namespace Rk
open PySem PySem.Spec L2
/-- a fraction's numbers below 2 ^ n -/
def BQ (n : Nat) (r : Rat) : Prop := Bd n r.num ∧ Bd n (r.den : Int)
theorem BQ.mono {n m : Nat} {r : Rat} (h : BQ n r) (hl : n ≤ m) : BQ m r := ⟨h.1.mono hl, h.2.mono hl⟩
theorem den_ne (r : Rat) : (r.den : Int) ≠ 0 := by
  have := r.den_nz
  omega
theorem den_pos (r : Rat) : (0 : Int) < (r.den : Int) := by
  have := r.den_nz
  omega
theorem add_divInt (r s : Rat) : Rat.divInt (r.num * s.den + s.num * r.den) (r.den * s.den) = r + s := by
  rw [Rat.add_def', ← Int.natCast_mul, Rat.divInt_ofNat]
theorem sub_divInt (r s : Rat) : Rat.divInt (r.num * s.den - s.num * r.den) (r.den * s.den) = r - s := by
  rw [Rat.sub_def', ← Int.natCast_mul, Rat.divInt_ofNat]
theorem mul_divInt (r s : Rat) : Rat.divInt (r.num * s.num) (r.den * s.den) = r * s := by
  rw [Rat.mul_def', ← Int.natCast_mul, Rat.divInt_ofNat]
theorem div_divInt (r s : Rat) : Rat.divInt (r.num * s.den) (r.den * s.num) = r / s := by
  rw [← Rat.divInt_mul_divInt, Rat.num_divInt_den, ← Rat.inv_divInt, Rat.num_divInt_den, Rat.div_def]
theorem BQ.add {n m : Nat} {r s : Rat} (hr : BQ n r) (hs : BQ m s) (h0 : 0 < n + m) : BQ (n + m + 1) (r + s) := by
  rw [← add_divInt]
  refine ⟨bd_num ?_, bd_den ((hr.2.mul hs.2).mono (Nat.le_succ _)) (Nat.succ_pos _)⟩
  exact ((hr.1.mul hs.2).add (hs.1.mul hr.2)).mono (by omega)
theorem BQ.sub {n m : Nat} {r s : Rat} (hr : BQ n r) (hs : BQ m s) (h0 : 0 < n + m) : BQ (n + m + 1) (r - s) := by
  rw [← sub_divInt]
  refine ⟨bd_num ?_, bd_den ((hr.2.mul hs.2).mono (Nat.le_succ _)) (Nat.succ_pos _)⟩
  exact ((hr.1.mul hs.2).sub (hs.1.mul hr.2)).mono (by omega)
theorem BQ.mul {n m : Nat} {r s : Rat} (hr : BQ n r) (hs : BQ m s) (h0 : 0 < n + m) : BQ (n + m) (r * s) := by
  rw [← mul_divInt]
  exact ⟨bd_num (hr.1.mul hs.1), bd_den (hr.2.mul hs.2) h0⟩
theorem BQ.div {n m : Nat} {r s : Rat} (hr : BQ n r) (hs : BQ m s) (h0 : 0 < n + m) : BQ (n + m) (r / s) := by
  rw [← div_divInt]
  exact ⟨bd_num (hr.1.mul hs.2), bd_den (hr.2.mul hs.1) h0⟩
theorem BQ.neg {n : Nat} {r : Rat} (hr : BQ n r) : BQ n (-r) := ⟨by rw [Rat.neg_num]; exact hr.1.neg, by rw [Rat.neg_den]; exact hr.2⟩
theorem Q_neg (r : Rat) : Q (-r) = .tuple [.int (0 - r.num), .int r.den] := by
  unfold Q
  rw [Rat.neg_num, Rat.neg_den, Int.zero_sub]
theorem Q_int (n : Int) : Q (n : Rat) = .tuple [.int n, .int 1] := by
  unfold Q
  rw [Rat.num_intCast, Rat.den_intCast]
  rfl
theorem Q_abs (r : Rat) : Q r.abs = .tuple [.int (r.num.natAbs : Int), .int r.den] := by
  unfold Q Rat.abs
  split
  · rename_i h
    have : 0 ≤ r.num := Rat.num_nonneg.mpr h
    rw [show (r.num.natAbs : Int) = r.num by omega]
  · rename_i h
    have : ¬ 0 ≤ r.num := fun z => h (Rat.num_nonneg.mp z)
    rw [Rat.neg_num, Rat.neg_den, show (r.num.natAbs : Int) = -r.num by omega]
theorem lt_num (r s : Rat) : (r.num * s.den < s.num * r.den) ↔ r < s := by
  rw [Rat.lt_iff]
theorem floor_num (r : Rat) : r.num.fdiv r.den = r.floor := by
  rw [Rat.floor_def, Int.fdiv_eq_ediv_of_nonneg _ (by omega)]
end Rk
namespace Rk
open PySem PySem.Spec L2
theorem sh_int (a : Int) : SeqAt.shaped (.int a) = true := by
  simp [SeqAt.shaped, PyData.canLay0, PyData.depth]
theorem sh_Q (r : Rat) : SeqAt.shaped (Q r) = true := by
  simp [Q, SeqAt.shaped, PyData.canLay0, PyData.canLayAll0, PyData.depth, PyData.depthAll]
theorem eqv_int (a b : Int) : PyData.eqv (.int a) (.int b) = decide (a = b) := by
  show (a == b) = decide (a = b)
  by_cases e : a = b <;> simp [e]
theorem eqv_bool (a b : Bool) : PyData.eqv (.bool a) (.bool b) = decide (a = b) := by
  cases a <;> cases b <;> rfl
theorem sh_bool (a : Bool) : SeqAt.shaped (.bool a) = true := by
  simp [SeqAt.shaped, PyData.canLay0, PyData.depth]
theorem eqv_Q (r s : Rat) : PyData.eqv (Q r) (Q s) = decide (r = s) := by
  have e : (r = s) ↔ (r.num = s.num ∧ r.den = s.den) := ⟨fun z => by rw [z]; exact ⟨rfl, rfl⟩, fun ⟨z1, z2⟩ => Rat.ext z1 z2⟩
  simp only [Q, PyData.eqv, PyData.eqvAll]
  by_cases h1 : r.num = s.num <;> by_cases h2 : r.den = s.den <;> simp [e, h1, h2] <;> omega
section
variable {h : Hh}
theorem gEq_int {a b : Int} : gEq (.d (.int a)) (.d (.int b)) h = some (.d (.bool (decide (a = b))), h) := by
  simp [gEq, asD, eqvB, sh_int, eqv_int]
theorem gNe_int {a b : Int} : gNe (.d (.int a)) (.d (.int b)) h = some (.d (.bool (!decide (a = b))), h) := by
  simp [gNe, asD, eqvB, sh_int, eqv_int]
theorem gEq_Q {r s : Rat} : gEq (.d (Q r)) (.d (Q s)) h = some (.d (.bool (decide (r = s))), h) := by
  simp [gEq, asD, eqvB, sh_Q, eqv_Q]
theorem gNe_Q {r s : Rat} : gNe (.d (Q r)) (.d (Q s)) h = some (.d (.bool (!decide (r = s))), h) := by
  simp [gNe, asD, eqvB, sh_Q, eqv_Q]
theorem gNe_bool {a b : Bool} : gNe (.d (.bool a)) (.d (.bool b)) h = some (.d (.bool (!decide (a = b))), h) := by
  simp [gNe, asD, eqvB, sh_bool, eqv_bool]
theorem gEq_bool {a b : Bool} : gEq (.d (.bool a)) (.d (.bool b)) h = some (.d (.bool (decide (a = b))), h) := by
  simp [gEq, asD, eqvB, sh_bool, eqv_bool]
end
theorem fdiv2 (l : Nat) : Int.fdiv (l : Int) 2 = ((l / 2 : Nat) : Int) := by
  rw [Int.fdiv_eq_ediv_of_nonneg _ (by omega)]
  rfl
theorem fmod2 (l : Nat) : Int.fmod (l : Int) 2 = ((l % 2 : Nat) : Int) := by
  rw [Int.fmod_eq_emod_of_nonneg _ (by omega)]
  rfl
theorem bd_nat {n : Nat} {a : Nat} (h : a < 2 ^ n) : Bd n (a : Int) := by
  unfold Bd
  rw [Int.natAbs_natCast]
  exact h
theorem div_lit {a : Int} {k : Nat} (hk : 0 < k) (h : k < 2 ^ 64) : fDiv a (k : Int) = some (.int (a.fdiv k)) := fDiv_eq (by omega) ((bd_nat h).divOk (by decide) (by decide))
theorem zpow_neg_nat (b : Rat) (n : Nat) : b ^ (-(n : Int)) = (b ^ n)⁻¹ := by
  rw [Rat.zpow_neg, Rat.zpow_natCast]
theorem Q_pow (b : Nat) (n : Nat) : Q ((b : Rat) ^ (n : Int)) = .tuple [.int ((b ^ n : Nat) : Int), .int 1] := by
  unfold Q
  rw [Rat.zpow_natCast, Rat.num_pow, Rat.den_pow]
  simp
theorem Q_powneg (b : Nat) (n : Nat) (hb : 0 < b) : Q ((b : Rat) ^ (-(n : Int))) = .tuple [.int 1, .int ((b ^ n : Nat) : Int)] := by
  have hp : 0 < b ^ n := Nat.pow_pos hb
  have e : (b : Rat) ^ (-(n : Int)) = Rat.divInt 1 ((b ^ n : Nat) : Int) := by
    rw [zpow_neg_nat, show ((b : Rat) ^ n) = Rat.divInt ((b ^ n : Nat) : Int) 1 by rw [← Rat.natCast_pow]; exact (Rat.num_divInt_den ((b ^ n : Nat) : Rat)).symm, Rat.inv_divInt]
  unfold Q
  rw [e, Rat.num_divInt, Rat.den_divInt, if_neg (by omega)]
  have hs : ((b ^ n : Nat) : Int).sign = 1 := Int.sign_eq_one_of_pos (by omega)
  rw [hs]
  simp
end Rk
namespace Rk
open PySem PySem.Spec L2
/-! ### a law's stream: four places -/
def Strm (K : Nat) (xs : List Da) : Prop := ∃ (c : Bool) (x : Int) (k : Nat) (m : Int), xs = [.bool c, .int x, .int (k : Int), .int m] ∧ k ≤ K
section
variable {h : Hh} {n : Nat} {a b c d : Da} {ρ : En}
theorem ixS0 (e : h[n]? = some (some (.lst [a, b, c, d]))) : gIx (.r n) (.d (.int 0)) h = some (.d a, h) := gIxL (k := 0) e rfl
theorem ixS1 (e : h[n]? = some (some (.lst [a, b, c, d]))) : gIx (.r n) (.d (.int 1)) h = some (.d b, h) := gIxL (k := 1) e rfl
theorem ixS2 (e : h[n]? = some (some (.lst [a, b, c, d]))) : gIx (.r n) (.d (.int 2)) h = some (.d c, h) := gIxL (k := 2) e rfl
theorem ixS3 (e : h[n]? = some (some (.lst [a, b, c, d]))) : gIx (.r n) (.d (.int 3)) h = some (.d d, h) := gIxL (k := 3) e rfl
theorem setS1 {v : Da} (e : h[n]? = some (some (.lst [a, b, c, d]))) : setL (.r n) (.d (.int 1)) (.d v) h = some (h.set n (some (.lst [a, v, c, d]))) := by
  have q : ixN [a, b, c, d].length 1 = some 1 := ixN_nat (k := 1) (by simp)
  unfold setL fz
  dsimp only
  rw [e]
  dsimp only
  rw [q]
  rfl
theorem setS2 {v : Da} (e : h[n]? = some (some (.lst [a, b, c, d]))) : setL (.r n) (.d (.int 2)) (.d v) h = some (h.set n (some (.lst [a, b, v, d]))) := by
  have q : ixN [a, b, c, d].length 2 = some 2 := ixN_nat (k := 2) (by simp)
  unfold setL fz
  dsimp only
  rw [e]
  dsimp only
  rw [q]
  rfl
theorem gIn01 {x : Int} : gIn false (.d (.int x)) (.d (.tuple [.int 0, .int (-1)])) h = some (.d (.bool (decide (x = 0) || decide (x = -1))), h) := by
  have e : inF (.int x) [.int 0, .int (-1)] = (decide (x = 0) || decide (x = -1)) := by
    simp only [inF, List.any_cons, List.any_nil, eqF, Bool.or_false]
    by_cases h1 : x = 0 <;> by_cases h2 : x = -1 <;> simp [h1, h2] <;> omega
  simp [gIn, asQ, flatD, e]
theorem okO_ok {v : Vl} : okO (.ok v h) = some (v, h) := rfl
theorem gSetL_eq {o ix : Ev} {v : Vl} : gSetL o ix v ρ h = (okO (o ρ h)).bind fun p => (okO (ix ρ p.2)).bind fun q => (setL p.1 q.1 v q.2).map fun h' => (ρ, h') := rfl
theorem get_set {o : Option Ob} (hn : n < h.length) : (h.set n o)[n]? = some o := List.getElem?_set_self hn
end
theorem fmod_bd {x p : Int} (hp : 0 < p) : 0 ≤ x.fmod p ∧ x.fmod p < p := by
  rw [Int.fmod_eq_emod_of_nonneg _ (by omega)]
  exact ⟨Int.emod_nonneg _ (by omega), Int.emod_lt_of_pos _ hp⟩
theorem bd_lit {n : Nat} {x : Int} (m : Nat) (h1 : -(m : Int) ≤ x) (h2 : x ≤ m) (hm : m < 2 ^ n) : Bd n x := Nat.lt_of_le_of_lt (by omega) hm
end Rk
namespace Rk
open PySem PySem.Spec L2
theorem fzs_ds (h : Hh) : ∀ ds : List Da, fzs (ds.map Vl.d) h = some (ds, h)
  | [] => rfl
  | d :: ds => by
    rw [List.map_cons, fzs_d, fzs_ds h ds]
    rfl
theorem set_app {h : Hh} {n : Nat} {o : Option Ob} {l : Hh} (hn : n < h.length) : (h ++ l).set n o = h.set n o ++ l := by
  rw [List.set_append, if_pos hn]
theorem get_app {h : Hh} {n : Nat} {l : Hh} (hn : n < h.length) : (h ++ l)[n]? = h[n]? := List.getElem?_append_left hn
theorem take_app {h l : Hh} {n : Nat} (e : h.length = n) : (h ++ l).take n = h := by
  subst e
  exact List.take_left' rfl
theorem gIx_list {h : Hh} {m : Nat} {ds : List Da} {v : Int} {d : Da} (e : h[m]? = some (some (.lst ds))) (hv : 0 ≤ v) (ed : ds[v.toNat]? = some d) : gIx (.r m) (.d (.int v)) h = some (.d d, h) := by
  have := gIxL (h := h) (k := v.toNat) e ed
  rw [show ((v.toNat : Nat) : Int) = v by omega] at this
  exact this
/-- a written list at the end, at a drawn place -/
theorem menu_at {h : Hh} {n : Nat} {o : Option Ob} {ds : List Da} {v : Int} {d : Da} (hv : 0 ≤ v) (ed : ds[v.toNat]? = some d) :
    gIx (.r h.length) (.d (.int v)) (h.set n o ++ [some (Ob.lst ds)]) = some (.d d, h.set n o ++ [some (Ob.lst ds)]) := by
  refine gIx_list ?_ hv ed
  rw [List.getElem?_append_right (by simp)]
  simp
theorem take_setApp {h l : Hh} {n : Nat} {o : Option Ob} : (h.set n o ++ l).take h.length = h.set n o := take_app (by rw [List.length_set])
end Rk
namespace Rk
open PySem PySem.Spec L2
section
variable {r : Rat} {h : Hh} {ρ : En} {g : Gs}
theorem gTupT_tup {n : Nat} {ds : List Da} : gTupT n g (.d (.tuple ds)) ρ h = if ds.length = n then g (ds.map Vl.d) ρ h else none := rfl
theorem gTupT_Q : gTupT 2 g (.d (Q r)) ρ h = g [.d (.int r.num), .d (.int r.den)] ρ h := rfl
theorem ixQ0 : gIx (.d (Q r)) (.d (.int 0)) h = some (.d (.int r.num), h) := ix0
theorem ixQ1 : gIx (.d (Q r)) (.d (.int 1)) h = some (.d (.int r.den), h) := ix1
theorem isQ_tup : isTyD .tuple (Q r) = some true := rfl
theorem isQ_bool : isTyD .bool (Q r) = some false := rfl
theorem isQ_int : isTyD .int (Q r) = some false := rfl
theorem isI_bool {i : Int} : isTyD .bool (.int i) = some false := rfl
theorem isI_int {i : Int} : isTyD .int (.int i) = some true := rfl
theorem isI_tup {i : Int} : isTyD .tuple (.int i) = some false := rfl
theorem isB_bool {i : Bool} : isTyD .bool (.bool i) = some true := rfl
theorem isB_int {i : Bool} : isTyD .int (.bool i) = some true := rfl
theorem isTy_d {T : Ty} {x : Da} : isTy T (.d x) h = isTyD T x := rfl
theorem tup_Q0 : (.tuple [.int 0, .int 1] : Da) = Q 0 := rfl
theorem tup_Q1 : (.tuple [.int 1, .int 1] : Da) = Q 1 := rfl
end
end Rk
namespace Rk
open PySem PySem.Spec L2
section
variable {a0 a1 a2 : Da} {l : List Da} {h : Hh}
theorem get_end {o : Option Ob} : (h ++ [o])[h.length]? = some o := by simp
theorem ixE0 : gIx (.r h.length) (.d (.int 0)) (h ++ [some (.lst (a0 :: l))]) = some (.d a0, h ++ [some (.lst (a0 :: l))]) := gIxL (k := 0) get_end rfl
theorem ixE1 : gIx (.r h.length) (.d (.int 1)) (h ++ [some (.lst (a0 :: a1 :: l))]) = some (.d a1, h ++ [some (.lst (a0 :: a1 :: l))]) := gIxL (k := 1) get_end rfl
theorem ixE2 : gIx (.r h.length) (.d (.int 2)) (h ++ [some (.lst (a0 :: a1 :: a2 :: l))]) = some (.d a2, h ++ [some (.lst (a0 :: a1 :: a2 :: l))]) := gIxL (k := 2) get_end rfl
theorem take_app0 {l : Hh} : (h ++ l).take h.length = h := List.take_left' rfl
end
theorem max_neg (a : Int) : (if 0 - a > a then 0 - a else a) = (a.natAbs : Int) := by
  split <;> omega
end Rk
namespace Rk
theorem rat_tri (r s : Rat) : r < s ∨ r = s ∨ s < r := by
  by_cases h1 : r < s
  · exact .inl h1
  · by_cases h2 : s < r
    · exact .inr (.inr h2)
    · exact .inr (.inl (Rat.le_antisymm (Rat.not_lt.mp h2) (Rat.not_lt.mp h1)))
end Rk
namespace Rk
open PySem PySem.Spec L2
theorem iRange1_ok {as : Av} {ρ : En} {h h1 : Hh} {n : Nat} (e : as ρ h = .ok [.d (.int (n : Int))] h1) (hn : n ≤ 1000000000) : iRange1 as ρ h = .ok ⟨rngD 0 n, none⟩ h1 := by
  unfold iRange1
  rw [e]
  simp only [Out.bind_ok]
  have r : rgB (n : Int) = true := by
    unfold rgB
    rw [decide_eq_true (by omega), decide_eq_true (by omega)]
    rfl
  rw [if_pos r, Int.toNat_natCast]
theorem sFor_ok {i : Iv} {g : Gv} {b : Sv} {ρ : En} {h h1 : Hh} {m : Itm} (e : i ρ h = .ok m h1) : sFor i g b ρ h = forL m.gd g b m.ds ρ h1 := by
  unfold sFor
  rw [e]
  rfl
end Rk

/-! Rk9: rulers, by numbers alone; loops' steps. -/
namespace Rk
open PySem PySem.Spec L2
theorem gd_none {h : Hh} : gdOk none h := trivial
theorem forL_nil {gd : Option (Nat × List Da)} {g : Gv} {b : Sv} {ρ : En} {h : Hh} (e : gdOk gd h) : forL gd g b [] ρ h = .nx ρ h := by
  unfold forL
  rw [if_pos e]
theorem forL_cons {gd : Option (Nat × List Da)} {g : Gv} {b : Sv} {d : Da} {ds : List Da} {ρ ρ1 ρ2 : En} {h h1 h2 : Hh} (e : gdOk gd h) (eg : g (.d d) ρ h = some (ρ1, h1)) (eb : b ρ1 h1 = .nx ρ2 h2) : forL gd g b (d :: ds) ρ h = forL gd g b ds ρ2 h2 := by
  rw [forL]
  rw [if_pos e, eg]
  dsimp only
  rw [eb]
theorem mapIdx_form (f : List Int) : ∀ d ∈ (f.map PyData.int).mapIdx (fun i d => (.tuple [.int (i : Nat), d] : Da)), ∃ (i : Nat) (c : Int), d = .tuple [.int (i : Int), .int c] ∧ i < f.length := by
  intro d hd
  obtain ⟨i, hi, e⟩ := List.mem_mapIdx.mp hd
  rw [List.length_map] at hi
  rw [List.getElem_map] at e
  exact ⟨i, f[i], e.symm, hi⟩
theorem cut63 (f : List Int) : cutD (f.map PyData.int) none (some 63) = (f.take 63).map PyData.int := by
  unfold cutD
  rw [show (some (63 : Int)) = some ((63 : Nat) : Int) from rfl, HT.sIx_nat, HT.sIx_none, List.drop_zero, Nat.sub_zero, List.map_take, List.length_map]
  rw [List.take_eq_take_min (l := f.map PyData.int) (i := 63), List.length_map]
theorem set_at {h l : Hh} {a b : Option Ob} : (h ++ a :: l).set h.length b = h ++ b :: l := by
  rw [List.set_append, if_neg (by omega)]
  simp
theorem get_at {h l : Hh} {a : Option Ob} : (h ++ a :: l)[h.length]? = some a := by simp
/-! ### powers -/
theorem pow_lt_one {b : Nat} (hb : 2 ≤ b) : ∀ k : Nat, (1 : Rat) < (b : Rat) ^ ((k : Int) + 1)
  | 0 => by
    rw [Int.natCast_zero, Int.zero_add, Rat.zpow_one]
    have : ((1 : Nat) : Rat) < (b : Rat) := Rat.natCast_lt_natCast.mpr (by omega)
    exact this
  | k + 1 => by
    have h0 : (b : Rat) ≠ 0 := fun z => by
      have : b = 0 := Rat.natCast_inj.mp z
      omega
    have h1 : (1 : Rat) < (b : Rat) := Rat.natCast_lt_natCast.mpr (show 1 < b by omega)
    have ih := pow_lt_one hb k
    rw [show ((k + 1 : Nat) : Int) + 1 = ((k : Int) + 1) + 1 by omega, Rat.zpow_add_one h0]
    have := Rat.mul_lt_mul_of_pos_left h1 (show (0 : Rat) < (b : Rat) ^ ((k : Int) + 1) by grind)
    grind
structure Ruler where
  b : Nat
  f : Nat
  l : Int
  w : String
def Ruler.da (R : Ruler) : Da := .tuple [.int R.b, .int R.f, .int R.l, .str R.w]
structure Ruler.Ok (R : Ruler) : Prop where
  b2 : 2 ≤ R.b
  b16 : R.b ≤ 16
  f1 : 1 ≤ R.f
  f24 : R.f ≤ 24
  l1 : -100 ≤ R.l
  l2 : R.l ≤ 100
  w4 : R.w = "near" ∨ R.w = "down" ∨ R.w = "up" ∨ R.w = "nought"
def Ruler.pw (R : Ruler) (e : Int) : Rat := (R.b : Rat) ^ e
section
variable {R : Ruler} (O : R.Ok)
include O
theorem bne : (R.b : Rat) ≠ 0 := fun z => by
  have : R.b = 0 := Rat.natCast_inj.mp z
  have := O.b2
  omega
theorem pw_pos (e : Int) : 0 < R.pw e := Rat.zpow_pos (by
  have h : ((0 : Nat) : Rat) < (R.b : Rat) := Rat.natCast_lt_natCast.mpr (by have := O.b2; omega)
  exact h)
theorem pw_ne (e : Int) : R.pw e ≠ 0 := fun z => by
  have := pw_pos O e
  rw [z] at this
  exact absurd this (by decide)
theorem pw_add (m n : Int) : R.pw (m + n) = R.pw m * R.pw n := Rat.zpow_add (bne O) m n
theorem pw_lt {m n : Int} (h : m < n) : R.pw m < R.pw n := by
  obtain ⟨k, ek⟩ : ∃ k : Nat, n = m + ((k : Int) + 1) := ⟨(n - m - 1).toNat, by omega⟩
  rw [ek, pw_add O]
  have h1 : (1 : Rat) < R.pw ((k : Int) + 1) := pow_lt_one O.b2 k
  have := Rat.mul_lt_mul_of_pos_left h1 (pw_pos O m)
  grind
theorem pw_le {m n : Int} (h : m ≤ n) : R.pw m ≤ R.pw n := by
  rcases Int.lt_or_eq_of_le h with z | z
  · exact Rat.le_of_lt (pw_lt O z)
  · rw [z]
    exact Rat.le_refl
theorem pw_lt_iff {m n : Int} : R.pw m < R.pw n ↔ m < n := ⟨fun h => by
  rcases Int.lt_or_le m n with z | z
  · exact z
  · exact absurd h (Rat.not_lt.mpr (pw_le O z)), pw_lt O⟩
theorem pw_inj {m n : Int} (h : R.pw m = R.pw n) : m = n := by
  rcases Int.lt_trichotomy m n with z | z | z
  · have := pw_lt O z
    grind
  · exact z
  · have := pw_lt O z
    grind
omit O in
theorem pw_zero : R.pw 0 = 1 := Rat.zpow_zero _
theorem pw_neg (m : Int) : R.pw (-m) = (R.pw m)⁻¹ := by
  unfold Ruler.pw
  rw [Rat.zpow_neg]
omit O in
theorem pw_nat (n : Nat) : R.pw n = ((R.b ^ n : Nat) : Rat) := by
  unfold Ruler.pw
  rw [Rat.zpow_natCast, Rat.natCast_pow]
theorem BQ_pw {E : Nat} {e : Int} (h : e.natAbs ≤ E) : BQ (4 * E + 1) (R.pw e) := by
  have hb : R.b ^ e.natAbs < 2 ^ (4 * E + 1) := by
    refine Nat.lt_of_le_of_lt (Nat.pow_le_pow_left O.b16 _) ?_
    rw [show (16 : Nat) = 2 ^ 4 from rfl, ← Nat.pow_mul]
    exact Nat.pow_lt_pow_right (by decide) (by omega)
  have h1 : Bd (4 * E + 1) 1 := Nat.one_lt_two_pow (by omega)
  rcases Int.le_total 0 e with z | z
  · have q := Q_pow R.b e.natAbs
    rw [show ((e.natAbs : Nat) : Int) = e by omega] at q
    injection q with q
    injection q with q1 q2
    injection q2 with q2
    injection q1 with q1
    injection q2 with q2
    refine ⟨?_, ?_⟩
    · show Bd _ ((R.b : Rat) ^ e).num
      rw [q1]
      exact bd_nat hb
    · show Bd _ (((R.b : Rat) ^ e).den : Int)
      rw [q2]
      exact h1
  · have q := Q_powneg R.b e.natAbs (by have := O.b2; omega)
    rw [show -((e.natAbs : Nat) : Int) = e by omega] at q
    injection q with q
    injection q with q1 q2
    injection q2 with q2
    injection q1 with q1
    injection q2 with q2
    refine ⟨?_, ?_⟩
    · show Bd _ ((R.b : Rat) ^ e).num
      rw [q1]
      exact h1
    · show Bd _ (((R.b : Rat) ^ e).den : Int)
      rw [q2]
      exact bd_nat hb
theorem num_pos {r : Rat} (h : 0 < r) : 0 < r.num := by
  have := (Rat.lt_iff 0 r).mp h
  simpa using this
omit O in
theorem BQ.abs {n : Nat} {r : Rat} (h : BQ n r) : BQ n r.abs := by
  unfold Rat.abs
  split
  · exact h
  · exact h.neg
omit O in
theorem abs_neg' (x : Rat) : (-x).abs = x.abs := by
  unfold Rat.abs
  grind
theorem abs_lt_pw {n : Nat} {x : Rat} (h : BQ n x) : x.abs < R.pw n := by
  have hx := h.abs
  have h0 : 0 ≤ x.abs := Rat.abs_nonneg
  have hn : 0 ≤ x.abs.num := Rat.num_nonneg.mpr h0
  have h1 : x.abs.num < ((R.b ^ n : Nat) : Int) := by
    have h2 : (2 : Nat) ^ n ≤ R.b ^ n := Nat.pow_le_pow_left O.b2 _
    have h3 := hx.1
    unfold Bd at h3
    omega
  rw [pw_nat, Rat.lt_iff]
  simp only [Rat.num_natCast, Rat.den_natCast]
  have h4 := den_pos x.abs
  have h5 : ((R.b ^ n : Nat) : Int) * 1 ≤ ((R.b ^ n : Nat) : Int) * (x.abs.den : Int) := Int.mul_le_mul_of_nonneg_left (by omega) (by omega)
  omega
end
/-! ### places -/
def IsPlc (R : Ruler) (x : Rat) (p : Int) : Prop := R.l ≤ p ∧ x.abs < R.pw (p + R.f) ∧ (p = R.l ∨ R.pw (p - 1 + R.f) ≤ x.abs)
noncomputable def Ruler.plc (R : Ruler) (x : Rat) : Int := Classical.epsilon (IsPlc R x)
section
variable {R : Ruler} (O : R.Ok)
include O
theorem plc_uniq {x : Rat} {p q : Int} (hp : IsPlc R x p) (hq : IsPlc R x q) : p = q := by
  have key : ∀ {p q : Int}, IsPlc R x p → IsPlc R x q → ¬ p < q := fun {p q} hp hq z => by
    rcases hq.2.2 with e | e
    · have := hp.1
      omega
    · have h1 : R.pw (q - 1 + R.f) < R.pw (p + R.f) := by
        have := hp.2.1
        grind
      have := (pw_lt_iff O).mp h1
      omega
  have h1 := key hp hq
  have h2 := key hq hp
  omega
theorem plc_eq {x : Rat} {p : Int} (hp : IsPlc R x p) : R.plc x = p := plc_uniq O (Classical.epsilon_spec ⟨p, hp⟩) hp
theorem plc_has {x : Rat} : ∀ k : Nat, x.abs < R.pw (R.l + k + R.f) → ∃ p, IsPlc R x p
  | 0, h => ⟨R.l, Int.le_refl _, by rw [Int.natCast_zero, Int.add_zero] at h; exact h, .inl rfl⟩
  | k + 1, h => by
    by_cases z : x.abs < R.pw (R.l + k + R.f)
    · exact plc_has k z
    · refine ⟨R.l + (k + 1 : Nat), by omega, h, .inr ?_⟩
      rw [show R.l + ((k + 1 : Nat) : Int) - 1 + R.f = R.l + k + R.f by omega]
      exact Rat.not_lt.mp z
theorem plc_ok {n : Nat} {x : Rat} (h : BQ n x) : IsPlc R x (R.plc x) := by
  refine Classical.epsilon_spec (plc_has O ((n : Int) - R.l).toNat ?_)
  have h1 := abs_lt_pw O h
  have h2 : R.pw n ≤ R.pw (R.l + ((n : Int) - R.l).toNat + R.f) := pw_le O (by omega)
  grind
theorem plc_neg (x : Rat) : R.plc (-x) = R.plc x := by
  unfold Ruler.plc IsPlc
  rw [abs_neg']
theorem plc_bd {n : Nat} {x : Rat} (h : BQ n x) : R.l ≤ R.plc x ∧ R.plc x ≤ max R.l n := by
  have q := plc_ok O h
  refine ⟨q.1, ?_⟩
  rcases q.2.2 with e | e
  · omega
  · have h1 := abs_lt_pw O h
    have h2 : R.pw (R.plc x - 1 + R.f) < R.pw n := by grind
    have := (pw_lt_iff O).mp h2
    have := O.f1
    omega
end
end Rk
namespace Rk
theorem mul_den_num (r : Rat) : r * ((r.den : Nat) : Rat) = ((r.num : Int) : Rat) := by
  have e : ((r.den : Nat) : Rat) = Rat.divInt (r.den : Int) 1 := by
    have := Rat.num_divInt_den ((r.den : Nat) : Rat)
    simp only [Rat.num_natCast, Rat.den_natCast] at this
    exact this.symm
  have e2 : ((r.num : Int) : Rat) = Rat.divInt r.num 1 := by
    have := Rat.num_divInt_den ((r.num : Int) : Rat)
    simp only [Rat.num_intCast, Rat.den_intCast] at this
    exact this.symm
  have e3 : r * Rat.divInt (r.den : Int) 1 = Rat.divInt r.num r.den * Rat.divInt (r.den : Int) 1 := by rw [Rat.num_divInt_den]
  rw [e, e2, e3, Rat.divInt_mul_divInt, Int.mul_one]
  have := Rat.divInt_mul_right (n := r.num) (d := 1) (a := (r.den : Int)) (den_ne r)
  rw [Int.one_mul] at this
  exact this
/-- told over below is whole just where below parts above -/
theorem den_one {x y : Int} (hy : 0 < y) : ((Rat.divInt x y).den = 1) ↔ x.fmod y = 0 := by
  rw [Rat.den_divInt, if_neg (by omega), Int.fmod_eq_emod_of_nonneg _ (by omega)]
  have g0 : 0 < Int.gcd y x := Nat.pos_of_ne_zero fun z => by
    have := (Int.gcd_eq_zero_iff.mp z).1
    omega
  have gd : Int.gcd y x ∣ y.natAbs := by
    have := Int.natAbs_dvd_natAbs.mpr (Int.gcd_dvd_left y x)
    rwa [Int.natAbs_natCast] at this
  constructor
  · intro e
    have e2 : y.natAbs = Int.gcd y x := by
      have := Nat.div_mul_cancel gd
      rw [e] at this
      omega
    have := Int.gcd_dvd_right y x
    rw [← e2] at this
    have : y ∣ x := by
      rw [show ((y.natAbs : Nat) : Int) = y by omega] at this
      exact this
    exact Int.emod_eq_zero_of_dvd this
  · intro e
    have d : y ∣ x := Int.dvd_of_emod_eq_zero e
    have e2 : Int.gcd y x = y.natAbs := Int.gcd_eq_left_iff_dvd (by omega) |>.mpr d |> fun z => by omega
    rw [e2]
    exact Nat.div_self (by omega)
end Rk
namespace Rk
theorem sSet_ok {f : Ev} {ρ : En} {h h1 : Hh} {v : Vl} (i : Nat) (e : f ρ h = .ok v h1) : sSet i f ρ h = .nx (ρ.set i (some v)) h1 := by
  unfold sSet
  rw [e]
  rfl
theorem sSeq_ok {f g : Sv} {ρ ρ1 : En} {h h1 : Hh} (e : f ρ h = .nx ρ1 h1) : sSeq f g ρ h = g ρ1 h1 := by
  unfold sSeq
  rw [e]
  rfl
end Rk

/-! Rk10: list comprehensions, append. -/
namespace Rk
open PySem PySem.Spec L2
def wipeE (ρ : En) : List Nat → En
  | [] => ρ
  | v :: vs => (wipeE ρ vs).set v none
theorem ERep.setN {K : PySem.W.Frag} {φ : List Addr} {h : Hh} {H : Hp} {σ : L2.St} {ρ : En} (i : Nat) (r : ERep K φ h H σ ρ) : ERep K φ h H (σ.set i none) (ρ.set i none) := by
  refine ⟨by rw [List.length_set, List.length_set, r.len], fun j w e => ?_⟩
  by_cases hj : i = j
  · subst hj
    have hl : i < ρ.length := by
      have := (List.getElem?_eq_some_iff.mp e).1
      rwa [List.length_set] at this
    rw [List.getElem?_set_self hl] at e
    cases e
  · rw [List.getElem?_set_ne hj] at e
    rw [List.getElem?_set_ne hj]
    exact r.at_ j w e
theorem ERep.wipe {K : PySem.W.Frag} {φ : List Addr} {h : Hh} {H : Hp} {σ : L2.St} {ρ : En} (r : ERep K φ h H σ ρ) : ∀ vs : List Nat, ERep K φ h H (L2.wipe σ vs) (wipeE ρ vs)
  | [] => r
  | v :: vs => (ERep.wipe r vs).setN v
theorem wipe_get (σ : L2.St) (j : Nat) : ∀ vs : List Nat, (L2.wipe σ vs)[j]? = if j ∈ vs then (if j < σ.length then some none else none) else σ[j]?
  | [] => by simp [L2.wipe]
  | v :: vs => by
    unfold L2.wipe
    have ih := wipe_get σ j vs
    have hl := L2.wipe_length σ vs
    by_cases hj : v = j
    · subst hj
      by_cases hv : v < σ.length
      · rw [List.getElem?_set_self (by rw [hl]; exact hv)]
        simp [hv]
      · rw [List.getElem?_eq_none (by simp; omega)]
        simp [hv]
    · rw [List.getElem?_set_ne hj, ih]
      have : j ∈ v :: vs ↔ j ∈ vs := by
        rw [List.mem_cons]
        exact ⟨fun z => z.elim (fun z => absurd z.symm hj) id, .inr⟩
      simp only [this]
theorem wipe_set {σ : L2.St} {i : Nat} {o : Option V} {vs : List Nat} (hi : i ∈ vs) : L2.wipe (σ.set i o) vs = L2.wipe σ vs := by
  apply List.ext_getElem?
  intro j
  rw [wipe_get, wipe_get, List.length_set]
  by_cases hj : j ∈ vs
  · simp [hj]
  · have : i ≠ j := fun z => hj (z ▸ hi)
    simp [hj, List.getElem?_set_ne this]
/-! ### a block's targets -/
def tGw (K : PySem.W.Frag) (vs : List Nat) (g : Gv) : TG := fun x σ H Q => ∃ φ h ρ v ρ' h', Sim K φ h H ∧ ERep K φ h H σ ρ ∧ VRep K φ h H x v ∧ g v ρ h = some (ρ', h') ∧ ∀ σ' H' φ', Step φ h H φ' h' H' → Sim K φ' h' H' → ERep K φ' h' H' σ' ρ' → L2.wipe σ' vs = L2.wipe σ vs → Q σ' H'
def tGsw (K : PySem.W.Frag) (ws : List Nat) (g : Gs) : TGs := fun xs σ H Q => ∃ φ h ρ vs ρ' h', Sim K φ h H ∧ ERep K φ h H σ ρ ∧ VReps K φ h H xs vs ∧ g vs ρ h = some (ρ', h') ∧ ∀ σ' H' φ', Step φ h H φ' h' H' → Sim K φ' h' H' → ERep K φ' h' H' σ' ρ' → L2.wipe σ' ws = L2.wipe σ ws → Q σ' H'
def EGw (X : Cx) (vs : List Nat) (tg : Expr) (g : Gv) : Prop := PG X tg (tGw X.K vs g)
def EGsw (X : Cx) (vs : List Nat) (tg : List Expr) (g : Gs) : Prop := PGs X tg (tGsw X.K vs g)
section
variable {X : Cx} {pos : Pos} {ws : List Nat}
theorem egw_name {i : Nat} {x : Str} (hN : X.N.Nodup) (hw : i ∈ ws := by decide) (hi : X.N[i]? = some x := by rfl) (hx : Loc X.env.scope x := by first | exact .inl rfl | exact .inr rfl) (hf : X.fn x = true ∨ X.env.scope.names.lookup x = some .local := by first | exact .inl rfl | exact .inr rfl | assumption) : EGw X ws (.Name x pos) (gN i) :=
  PG.of (pg_name (i := i) hN hi hx hf) fun x σ H Q ⟨φ, h, ρ, v, ρ', h', sm, er, rv, e, k⟩ => by
    cases e
    exact k _ H φ (Step.refl _ _ _) sm (er.set rv) (wipe_set hw)
theorem egsw_nil : EGsw X ws [] gsNil := PGs.of pgs_nil fun xs σ H Q ⟨φ, h, ρ, vs, ρ', h', sm, er, rv, e, k⟩ => by
  cases rv with
  | nil =>
    cases e
    exact ⟨rfl, k _ H φ (Step.refl _ _ _) sm er rfl⟩
  | cons _ _ => cases e
theorem egsw_cons {e : Expr} {es : List Expr} {g : Gv} {gs : Gs} (h1 : EGw X ws e g) (h2 : EGsw X ws es gs)
    (hs : (assignEach (e :: es) X.env).map (·.2) = assign e X.env :: (assignEach es X.env).map (·.2) := by rfl) : EGsw X ws (e :: es) (gsCons g gs) :=
  PGs.of (pgs_cons h1 h2 hs) fun xs σ H Q ⟨φ, h, ρ, vs, ρ', h', sm, er, rv, e, k⟩ => by
    cases rv with
    | nil => cases e
    | @cons x xs v vs r t =>
      have e' : ((g v ρ h).bind fun p => gs vs p.1 p.2) = some (ρ', h') := e
      cases q : g v ρ h with
      | none => rw [q] at e'; cases e'
      | some p =>
        obtain ⟨ρ1, h1⟩ := p
        rw [q] at e'
        exact ⟨x, xs, rfl, φ, h, ρ, v, ρ1, h1, sm, er, r, q, fun σ1 H1 φ1 st sm1 er1 w1 => ⟨φ1, h1, ρ1, vs, ρ', h', sm1, er1, t.step st, e', fun σ2 H2 φ2 st2 sm2 er2 w2 => k σ2 H2 φ2 (st.trans st2) sm2 er2 (w2.trans w1)⟩⟩
theorem egw_tup {es : List Expr} {k n : Nat} {gs : Gs} (hc : X.calm = true) (h : EGsw X ws es gs) (hn : (assignEach es X.env).length = n := by rfl) (hst : (assignEach es X.env).findIdx? (·.1) = none := by rfl) : EGw X ws (.Tuple es k pos) (gTupT n gs) :=
  PG.of (pg_tup hc h hn hst) fun x σ H Q ⟨φ, h, ρ, v, ρ', h', sm, er, rv, e, k⟩ => by
    unfold gTupT at e
    split at e
    · rename_i ds
      split at e
      · obtain ⟨a, xs, rfl, sq, rs⟩ := VRep.tup rv
        exact ⟨a, xs, rfl, sq, by rw [rs.length]; assumption, φ, h, ρ, _, ρ', h', sm, er, rs.vreps, e, k⟩
      · cases e
    · cases e
end
/-! ### append -/
def appL (D : Nat) (v : Vl) (h : Hh) : Option Hh := (fz v h).bind fun p => match p.2[D]? with
  | some (some (.lst xs)) => if fitB (xs.length + 1) = true then some (p.2.set D (some (.lst (xs ++ [p.1])))) else none
  | _ => none
theorem Reps.snoc {K : PySem.W.Frag} {H : Hp} {M : Addr → Prop} : ∀ {xs : List V} {ds : List Da} {x : V} {d : Da}, Reps K H M xs ds → Rep K H M x d → Reps K H M (xs ++ [x]) (ds ++ [d])
  | _, _, _, _, .nil, r => .cons r .nil
  | _, _, _, _, .cons a t, r => .cons a (Reps.snoc t r)
theorem appL_ok {K : PySem.W.Frag} {φ : List Addr} {h h' : Hh} {H : Hp} {D : Nat} {a : Addr} {z : V} {v : Vl} (sm : Sim K φ h H) (ea : φ[D]? = some a) (rz : VRep K φ h H z v) (e : appL D v h = some h') :
    ∃ acc, H a = some (.lst acc) ∧ acc.length < sizeLine ∧ Step φ h H φ h' (upd H a (.lst (acc ++ [z]))) ∧ Sim K φ h' (upd H a (.lst (acc ++ [z]))) := by
  unfold appL at e
  cases ef : fz v h with
  | none => rw [ef] at e; cases e
  | some p =>
    obtain ⟨d, h1⟩ := p
    rw [ef] at e
    dsimp only [Option.bind_some] at e
    obtain ⟨s1, s2, s3⟩ := fz_ok sm rz ef
    split at e
    · rename_i xs en
      split at e
      · rename_i ft
        cases e
        obtain ⟨ys, eh, rs⟩ := s2.at_ en ea
        obtain ⟨t1, t2⟩ := s2.write (ob := .lst (xs ++ [d])) (u := .lst (ys ++ [z])) en ea fun M st => ⟨_, upd_same, Reps.snoc (rs.stay st) (s3.stay st)⟩
        refine ⟨ys, eh, ?_, s1.trans t1, t2⟩
        have := fitB_le ft
        rw [rs.length]
        omega
      · cases e
    · cases e
/-! ### comprehensions -/
def tvYes : Tv := fun _ h => .ok true h
def ETs (X : Cx) (W : WX) (es : List Expr) (f : Tv) : Prop := PTs X es (tT X.K X.mg W f)
theorem PTs.of {X : Cx} {es : List Expr} {t t' : TT} (h : PTs X es t) (i : ∀ σ H Q, t' σ H Q → t σ H Q) : PTs X es t' := ⟨fun pins s σ H Q I w => h.run pins s σ H Q I (i σ H Q w)⟩
theorem ets_nil {X : Cx} {W : WX} : ETs X W [] tvYes := PTs.of pts_nil fun σ H Q ⟨φ, h, ρ, sm, er, q⟩ => q H φ (Step.refl _ _ _) sm
theorem ets_one {X : Cx} {W : WX} {c : Expr} {t : Tv} (h : ET X W c t) : ETs X W [c] t := pts_one h
open Classical in
noncomputable def lcL (gd : Option (Nat × List Da)) (D : Nat) (g : Gv) (tt : Tv) (fe : Ev) (ρ0 : En) : List Da → Hh → Out Vl
  | [], h => if gdOk gd h then .ok (.r D) h else .no
  | d :: ds, h => if gdOk gd h then (match g (.d d) ρ0 h with
      | none => .no
      | some p => match tt p.1 p.2 with
        | .ok true h2 => (match fe p.1 h2 with
          | .ok v h3 => (match appL D v h3 with
            | some h4 => lcL gd D g tt fe ρ0 ds h4
            | none => .no)
          | _ => .no)
        | .ok false h2 => lcL gd D g tt fe ρ0 ds h2
        | _ => .no) else .no
noncomputable def eLc (vs : List Nat) (i : Iv) (g : Gv) (tt : Tv) (fe : Ev) : Ev := fun ρ h => (i ρ h).bind fun m h1 => lcL m.gd h1.length g tt fe (wipeE ρ vs) m.ds (h1 ++ [some (.lst [])])
abbrev WF : WX := fun _ _ _ _ => False
theorem lc_ok {K : PySem.W.Frag} {mg : Str → Option Value} {J : It} {m : Itm} {G : List Addr → Hh → Hp → Prop} (ok : ItOk K J m G) {g : Gv} {tt : Tv} {fe : Ev} {vs : List Nat} {φ : List Addr} {h : Hh} {H : Hp} {σ : L2.St} {ρ : En} {Q : VK} {E : XK} (sm : Sim K φ h H) (er : ERep K φ h H σ ρ) (gg : G φ h H)
    (q : PoX K mg φ h H (lcL m.gd h.length g tt fe (wipeE ρ vs) m.ds (h ++ [some (.lst [])])) Q E) (D : Addr) (nd : H D = none) : ∃ W' : Nat → Nat → Hp → Prop, (∃ n, W' 0 n (upd H D (.lst []))) ∧ ∀ i n H, W' i n H →
      (J.stop i H ∧ Q (.ref D) H) ∨ (J.go i H ∧ ∃ Nx : Hp → Prop, (∀ H', Nx H' → ∃ m', m' < n ∧ W' (i + 1) m' H') ∧ ∀ x H', J.yld i H x H' → tGw K vs g x (L2.wipe σ vs) H' fun σ2 H2 => L2.wipe σ2 vs = L2.wipe σ vs ∧ tT K mg WF tt σ2 H2 fun b H3 => if b = true then tE K mg WF fe σ2 H3 fun y H4 => ∃ acc, H4 D = some (.lst acc) ∧ acc.length < sizeLine ∧ Nx (upd H4 D (.lst (acc ++ [y]))) else Nx H3) := by
  obtain ⟨n1, n2, n3⟩ := sm.new (ob := .lst []) (o := .lst []) nd fun M st => ⟨[], upd_same, .nil⟩
  have jD : (φ ++ [D])[h.length]? = some D := by
    rw [← sm.len]
    simp
  generalize h.length = j at *
  refine ⟨fun i n H => n = m.ds.length - i ∧ ∃ φ h, Sim K φ h H ∧ φ[j]? = some D ∧ ERep K φ h H (L2.wipe σ vs) (wipeE ρ vs) ∧ G φ h H ∧ PoX K mg φ h H (lcL m.gd j g tt fe (wipeE ρ vs) (m.ds.drop i) h) Q E, ⟨_, rfl, φ ++ [D], h ++ [some (.lst [])], n2, jD, (er.step n1).wipe vs, ok.keep _ _ _ _ _ _ gg n1, by rw [List.drop_zero]; exact PoX.pull n1 q⟩, ?_⟩
  rintro i n H ⟨rfl, φ, h, sm, jD, er, gg, q⟩
  cases ed : m.ds.drop i with
  | nil =>
    rw [ed] at q
    unfold lcL at q
    split at q
    · rename_i gd
      exact .inl ⟨ok.stop φ h H i sm gg gd (List.drop_eq_nil_iff.mp ed), q _ H φ (Step.refl _ _ _) sm ⟨D, jD, rfl⟩⟩
    · exact q.elim
  | cons d ds =>
    have hi : i < m.ds.length := by
      rcases Nat.lt_or_ge i m.ds.length with z | z
      · exact z
      · rw [List.drop_eq_nil_of_le z] at ed; cases ed
    have e1 : m.ds[i]? = some d := by
      have := List.getElem?_drop (xs := m.ds) (i := i) (j := 0)
      rw [ed] at this
      simpa using this.symm
    have e2 : m.ds.drop (i + 1) = ds := by
      have := List.drop_drop (i := 1) (j := i) (l := m.ds)
      rw [ed] at this
      simpa using this.symm
    rw [ed] at q
    unfold lcL at q
    split at q
    · rename_i gd
      refine .inr ⟨ok.go φ h H i sm gg gd hi, fun H' => ∃ φ h, Sim K φ h H' ∧ φ[j]? = some D ∧ ERep K φ h H' (L2.wipe σ vs) (wipeE ρ vs) ∧ G φ h H' ∧ PoX K mg φ h H' (lcL m.gd j g tt fe (wipeE ρ vs) ds h) Q E, fun H' hN => ?_, fun x H' hy => ?_⟩
      · obtain ⟨φ', h', a1, a2, a3, a4, a5⟩ := hN
        exact ⟨m.ds.length - (i + 1), by omega, rfl, φ', h', a1, a2, a3, a4, by rw [e2]; exact a5⟩
      · obtain ⟨s1, s2, s3⟩ := ok.yld φ h H i x H' d sm gg gd e1 hy
        have q' := PoX.pull s1 q
        have gg' := ok.keep _ _ _ _ _ _ gg s1
        have er' := er.step s1
        cases eg : g (.d d) (wipeE ρ vs) h with
        | none => rw [eg] at q'; exact q'.elim
        | some p =>
          obtain ⟨ρ1, h1⟩ := p
          rw [eg] at q'
          refine ⟨φ, h, _, .d d, ρ1, h1, s2, er', s3, eg, fun σ2 H2 φ2 st2 sm2 er2 w2 => ⟨by
            have idm : L2.wipe (L2.wipe σ vs) vs = L2.wipe σ vs := by
              apply List.ext_getElem?
              intro k
              rw [wipe_get, wipe_get, L2.wipe_length]
              by_cases hk : k ∈ vs <;> simp [hk]
            rw [w2, idm], φ2, h1, ρ1, sm2, er2, ?_⟩⟩
          have q2 := PoX.pull st2 q'
          have gg2 := ok.keep _ _ _ _ _ _ gg' st2
          have er3 := er'.step st2
          have jD2 := pre_get st2.pre jD
          dsimp only at q2
          revert q2
          cases tt ρ1 h1 with
          | no => exact fun q2 => q2
          | ex c fs h2 => exact fun q2 => q2.elim
          | ok b h2 =>
            intro q2 H3 φ3 st3 sm3
            have q3 := PoX.pull st3 q2
            have gg3 := ok.keep _ _ _ _ _ _ gg2 st3
            have jD3 := pre_get st3.pre jD2
            cases b with
            | false =>
              rw [if_neg (by decide)]
              exact ⟨φ3, h2, sm3, jD3, er3.step st3, gg3, q3⟩
            | true =>
              rw [if_pos rfl]
              refine ⟨φ3, h2, ρ1, sm3, er2.step st3, ?_⟩
              dsimp only at q3
              revert q3
              cases fe ρ1 h2 with
              | no => exact fun q3 => q3
              | ex c fs h3 => exact fun q3 => q3.elim
              | ok v h3 =>
                intro q3 y H4 φ4 st4 sm4 rv
                have q4 := PoX.pull st4 q3
                have gg4 := ok.keep _ _ _ _ _ _ gg3 st4
                have jD4 := pre_get st4.pre jD3
                dsimp only at q4
                cases ea : appL j v h3 with
                | none => rw [ea] at q4; exact q4.elim
                | some h4 =>
                  rw [ea] at q4
                  obtain ⟨acc, a1, a2, a3, a4⟩ := appL_ok sm4 jD4 rv ea
                  exact ⟨acc, a1, a2, φ4, h4, a4, jD4, ((er3.step st3).step st4).step a3, ok.keep _ _ _ _ _ _ gg4 a3, PoX.pull a3 q4⟩
    · exact q.elim
section
variable {X : Cx} {W : WX} {elt tg iter : Expr} {ifs : List Expr} {scope : Scope} {own : List (Str × Nat)} {pos spos py : Pos} {fi : Iv} {g : Gv} {tt : Tv} {fe : Ev}
theorem lc_read {σ : L2.St} {H : Hp} {Q : VK} {ws : List Nat} (hw : ws = own.map (·.2)) (t : tE X.K X.mg W (eLc ws fi g tt fe) σ H Q) : tLc (tI X.K X.mg W fi) (tGw X.K ws g) (tT X.K X.mg WF tt) (tE X.K X.mg WF fe) (own.map (·.2)) σ H Q := by
  subst hw
  obtain ⟨φ, h, ρ, sm, er, q⟩ := t
  refine ⟨φ, h, ρ, sm, er, ?_⟩
  unfold eLc at q
  revert q
  cases fi ρ h with
  | ok m h1 => exact fun q J H1 φ1 G st sm1 ok gg D nd => lc_ok ok sm1 (er.step st) gg (PoX.pull st q) D nd
  | ex c fs h1 => exact fun q => q
  | no => exact fun q => q
theorem ee_lc (ws : List Nat) (own : List (Str × Nat)) (hc : X.calm = true) (hN : X.N.Nodup) (hi : EI X W tg iter fi) (ok : BlkOk X.N X.env.scope scope own)
    (hg : ∀ (s : Shared) (H : Hp) (C : Addr) (cl : List (Str × Addr)) (fp : List Addr), EGw (X.blk s H scope (compEnvC scope cl C X.env) fp) ws tg g)
    (ht : ∀ (s : Shared) (H : Hp) (C : Addr) (cl : List (Str × Addr)) (fp : List Addr), ETs (X.blk s H scope (compEnvC scope cl C X.env) fp) WF ifs tt)
    (he : ∀ (s : Shared) (H : Hp) (C : Addr) (cl : List (Str × Addr)) (fp : List Addr), EE (X.blk s H scope (compEnvC scope cl C X.env) fp) WF elt fe)
    (hw : ws = own.map (·.2) := by rfl) (hs : ∀ x, foldedSetIterable iter X.env x = pure x := by intro _; rfl) : EE X W (.ListComp elt [⟨tg, iter, ifs, 0⟩] scope pos) (eLc ws fi g tt fe) :=
  PE.of (pe_lc (own := own) (g := tGw X.K ws g) (tt := tT X.K X.mg WF tt) (te := tE X.K X.mg WF fe) hc hN hi ok hg ht he hs) fun σ H Q t => lc_read hw t
theorem es_setLc {i : Nat} {y : Str} (ws : List Nat) (own : List (Str × Nat)) (hc : X.calm = true) (hN : X.N.Nodup) (hi : EI X W tg iter fi) (ok : BlkOk X.N X.env.scope scope own)
    (hg : ∀ (s : Shared) (H : Hp) (C : Addr) (cl : List (Str × Addr)) (fp : List Addr), EGw (X.blk s H scope (compEnvC scope cl C X.env) fp) ws tg g)
    (ht : ∀ (s : Shared) (H : Hp) (C : Addr) (cl : List (Str × Addr)) (fp : List Addr), ETs (X.blk s H scope (compEnvC scope cl C X.env) fp) WF ifs tt)
    (he : ∀ (s : Shared) (H : Hp) (C : Addr) (cl : List (Str × Addr)) (fp : List Addr), EE (X.blk s H scope (compEnvC scope cl C X.env) fp) WF elt fe)
    (hsw : swapsWith (.ListComp elt [⟨tg, iter, ifs, 0⟩] scope pos) (some (.Name y py)) spos.line X.env = pure true)
    (hy : X.N[i]? = some y := by rfl) (hyl : X.env.scope.names.lookup y = some .local := by rfl)
    (hw : ws = own.map (·.2) := by rfl) (hs : ∀ x, foldedSetIterable iter X.env x = pure x := by intro _; rfl) : ES X W (.Assign [.Name y py] (.ListComp elt [⟨tg, iter, ifs, 0⟩] scope pos) spos) (sSet i (eLc ws fi g tt fe)) :=
  PS.of (ps_setLc (i := i) (own := own) (g := tGw X.K ws g) (tt := tT X.K X.mg WF tt) (te := tE X.K X.mg WF fe) hc hN hy hyl hsw hi ok hg ht he hs) fun D σ H ⟨φ, h, ρ, sm, er, q⟩ => lc_read hw ⟨φ, h, ρ, sm, er, by
    unfold sSet at q
    revert q
    cases eLc ws fi g tt fe ρ h with
    | ok v h1 => exact fun q x H1 φ1 st sm1 rv => q _ H1 φ1 st sm1 ((er.step st).set rv)
    | ex c fs h1 => exact fun q cls dd H' φ' st sm' xr => q cls dd σ H' φ' st sm' (er.step st) xr
    | no => exact fun q => q⟩
end
theorem tk_blk {X : Cx} {s : Shared} {H : Hp} {scope : Scope} {e : Env} {fp : List Addr} : Takes (X.blk s H scope e fp) WF := fun u s' ⟨a, B, sI, pins, σ, H, cls, d, e, I, nb, up, sky, na, os, ag, w⟩ => w.elim
end Rk

/-! Rk11: methods of built-in types. -/
namespace Rk
open PySem PySem.Spec L2
abbrev GM := Vl → List Vl → Hh → Option (Vl × Hh)
def eMt (ty : Vl → Hh → Bool) (g : GM) (o : Ev) (as : Av) : Ev := fun ρ h => (o ρ h).bind fun x h1 => if ty x h1 = true then (as ρ h1).bind fun vs h2 => ofO (g x vs h2) else .no
def TyOk (K : PySem.W.Frag) (T : String) (ty : Vl → Hh → Bool) : Prop := ∀ (φ : List Addr) (h : Hh) (H : Hp) (x : V) (v : Vl), Sim K φ h H → VRep K φ h H x v → ty v h = true → tyV K T x H
def OkM (K : PySem.W.Frag) (r : V → List V → Hp → VK → Prop) (g : GM) : Prop := ∀ (φ : List Addr) (h : Hh) (H : Hp) (x : V) (xs : List V) (o : Vl) (as : List Vl) (Q : VK) (v : Vl) (h' : Hh), Sim K φ h H → VRep K φ h H x o → VReps K φ h H xs as → g o as h = some (v, h') →
  (∀ z H' φ', Step φ h H φ' h' H' → Sim K φ' h' H' → VRep K φ' h' H' z v → Q z H') → r x xs H Q
def tyL (v : Vl) (h : Hh) : Bool := (asL v h).isSome
def tyS (v : Vl) (_ : Hh) : Bool := match v with
  | .d (.str _) => true
  | _ => false
section
variable {K : PySem.W.Frag}
theorem tyL_ok : TyOk K "list" tyL := fun φ h H x v sm r e => by
  unfold tyL at e
  cases q : asL v h with
  | none => rw [q] at e; cases e
  | some ds =>
    obtain ⟨a, xs, rfl, sq, _⟩ := asL_ok sm r q
    exact .inl ⟨rfl, xs, sq⟩
theorem tyS_ok : TyOk K "str" tyS := fun φ h H x v sm r e => by
  unfold tyS at e
  split at e
  · rw [VRep.str r]
    rfl
  · cases e
end
section
variable {X : Cx} {W : WX} {o e : Expr} {es : List Expr} {fo : Ev} {fs : Av} {apos cpos : Pos} {T : String} {name : Str} {id : String} {r : V → List V → Hp → VK → Prop} {ty : Vl → Hh → Bool} {g : GM}
theorem ee_mt (pa : PlainAttrs T) (slot : Slot T name id) (hty : typeOf (.builtin id) = pure (.type "method_descriptor")) (hm : MtR X id r) (tk : TyOk X.K T ty) (ok : OkM X.K r g) (ho : EE X W o fo) (ha : EA X W (e :: es) fs)
    (hbase : attributeBase o name X.env (eval o X.env) = eval o X.env := by rfl)
    (hfew : ((backTo cpos (starEach (e :: es) X.env)).all (fun x => !x.1) && (backToKw cpos (keywordEach [] X.env)).all (fun x => x.1.isSome)
      && decide ((e :: es).length + ([] : List Keyword).length + (if ([] : List Keyword).isEmpty then 0 else 1) < 30)) = true := by rfl)
    (hline : (apos.endLine == cpos.line) = true := by rfl) (hs : starEach (e :: es) X.env = (false, eval e X.env) :: starEach es X.env := by rfl) (hplain : (backTo cpos (starEach es X.env)).any (·.1) = false := by rfl) :
    EE X W (.Call (.Attribute o name apos) (e :: es) [] cpos) (eMt ty g fo fs) :=
  PE.of (pe_bm pa slot hty hm ho ha hbase hfew hline hs hplain) fun σ H Q ⟨φ, h, ρ, sm, er, q⟩ => ⟨φ, h, ρ, sm, er, PoX.goE q fun x v h1 H1 φ1 st sm1 rv q1 => by
    split at q1
    · rename_i ht
      refine ⟨tk _ _ _ _ _ sm1 rv ht, φ1, h1, ρ, sm1, er.step st, PoX.goA q1 fun xs vs h2 H2 φ2 st2 sm2 rvs q2 => ?_⟩
      obtain ⟨z, h3, e3, k⟩ := PoX.ofO q2
      exact ok φ2 h2 H2 x xs v vs Q z h3 sm2 (rv.step st2) rvs e3 k
    · exact q1.elim⟩
theorem ee_mt0 (pa : PlainAttrs T) (slot : Slot T name id) (hty : typeOf (.builtin id) = pure (.type "method_descriptor")) (hm : MtR X id r) (tk : TyOk X.K T ty) (ok : OkM X.K r g) (ho : EE X W o fo)
    (hbase : attributeBase o name X.env (eval o X.env) = eval o X.env := by rfl) (hline : (apos.endLine == cpos.line) = true := by rfl) :
    EE X W (.Call (.Attribute o name apos) [] [] cpos) (eMt ty g fo aNil) :=
  PE.of (pe_bm0 pa slot hty hm ho hbase hline) fun σ H Q ⟨φ, h, ρ, sm, er, q⟩ => ⟨φ, h, ρ, sm, er, PoX.goE q fun x v h1 H1 φ1 st sm1 rv q1 => by
    split at q1
    · rename_i ht
      refine ⟨tk _ _ _ _ _ sm1 rv ht, ?_⟩
      obtain ⟨z, h3, e3, k⟩ := PoX.ofO q1
      exact ok φ1 h1 H1 x [] v [] Q z h3 sm1 rv .nil e3 k
    · exact q1.elim⟩
end
/-! ### lists' methods -/
def gApp : GM := fun o as h => match o, as with
  | .r n, [v] => (appL n v h).map fun h' => (.d .none, h')
  | _, _ => none
theorem ok_app {K : PySem.W.Frag} : OkM K rAppend gApp := by
  intro φ h H x xs o as Q v h' sm rx rs e k
  unfold gApp at e
  split at e
  · rename_i n w
    obtain ⟨y, rfl, ry⟩ := rs.one
    obtain ⟨a, ea, rfl⟩ := rx
    cases q : appL n w h with
    | none => rw [q] at e; cases e
    | some h1 =>
      rw [q] at e
      cases e
      obtain ⟨acc, a1, a2, a3, a4⟩ := appL_ok sm ea ry q
      exact ⟨a, acc, y, rfl, rfl, a1, a2, k _ _ _ a3 a4 Rep.non⟩
  · cases e
end Rk

/-! Rk12: rounding, by numbers alone. -/
namespace Rk
open PySem PySem.Spec L2
/-! ### whole and rest -/
theorem rest_eq (t : Rat) : ((t.num.fmod t.den : Int) : Rat) = (t - (t.floor : Rat)) * ((t.den : Nat) : Rat) := by
  rw [Int.fmod_def, floor_num, Rat.intCast_sub, Rat.intCast_mul, ← mul_den_num t, Rat.intCast_natCast]
  grind
theorem den_posR (t : Rat) : (0 : Rat) < ((t.den : Nat) : Rat) := by
  have : ((0 : Nat) : Rat) < ((t.den : Nat) : Rat) := Rat.natCast_lt_natCast.mpr t.den_pos
  exact this
theorem rest_pos (t : Rat) : (0 < t.num.fmod t.den) ↔ 0 < t - (t.floor : Rat) := by
  rw [← Rat.intCast_lt_intCast, rest_eq]
  have d := den_posR t
  constructor
  · intro h
    refine Rat.lt_of_mul_lt_mul_right (c := ((t.den : Nat) : Rat)) ?_ (Rat.le_of_lt d)
    rw [Rat.zero_mul]
    exact h
  · intro h
    exact Rat.mul_pos h d
theorem rest_gt (t : Rat) : ((t.den : Int) < t.num.fmod t.den * 2) ↔ 1 < 2 * (t - (t.floor : Rat)) := by
  rw [← Rat.intCast_lt_intCast, Rat.intCast_mul, rest_eq, Rat.intCast_natCast]
  have d := den_posR t
  have e2 : ((2 : Int) : Rat) = 2 := rfl
  rw [e2]
  constructor
  · intro h
    refine Rat.lt_of_mul_lt_mul_right (c := ((t.den : Nat) : Rat)) ?_ (Rat.le_of_lt d)
    grind
  · intro h
    have := Rat.mul_lt_mul_of_pos_right h d
    grind
theorem rest_half (t : Rat) : (t.num.fmod t.den * 2 = (t.den : Int)) ↔ 2 * (t - (t.floor : Rat)) = 1 := by
  rw [← Rat.intCast_inj, Rat.intCast_mul, rest_eq, Rat.intCast_natCast]
  have d := den_posR t
  have e2 : ((2 : Int) : Rat) = 2 := rfl
  rw [e2]
  constructor
  · intro h
    rcases rat_tri (2 * (t - (t.floor : Rat))) 1 with z | z | z
    · have := Rat.mul_lt_mul_of_pos_right z d
      grind
    · exact z
    · have := Rat.mul_lt_mul_of_pos_right z d
      grind
  · intro h
    grind
theorem num_neg (t : Rat) : (t.num < 0) ↔ t < 0 := by
  rw [Rat.lt_iff]
  simp
theorem fl_le (t : Rat) : (t.floor : Rat) ≤ t := Rat.floor_le t
theorem fl_lt (t : Rat) : t < (t.floor : Rat) + 1 := by
  have := Rat.lt_floor_add_one (a := t)
  rw [Rat.intCast_add] at this
  exact this
def upB (w : String) (t : Rat) : Bool :=
  if w = "near" then decide (1 < 2 * (t - (t.floor : Rat))) || (decide (2 * (t - (t.floor : Rat)) = 1) && decide (t.floor.fmod 2 = 1))
  else if w = "nought" then decide (t < 0) && decide (0 < t - (t.floor : Rat))
  else decide (w = "up") && decide (0 < t - (t.floor : Rat))
/-- the whole number that a way tells -/
def wb (w : String) (t : Rat) : Int := t.floor + (if upB w t = true then 1 else 0)
theorem wb_int (w : String) (n : Int) : wb w (n : Rat) = n := by
  have e : ((n : Int) : Rat) - (((n : Rat).floor : Int) : Rat) = 0 := by
    rw [Rat.floor_intCast]
    grind
  have u : upB w (n : Rat) = false := by
    unfold upB
    rw [e]
    split
    · rw [Rat.mul_zero, decide_eq_false (by decide), decide_eq_false (by decide)]
      rfl
    · split
      · rw [decide_eq_false (p := (0 : Rat) < 0) (by decide), Bool.and_false]
      · rw [decide_eq_false (p := (0 : Rat) < 0) (by decide), Bool.and_false]
  unfold wb
  rw [u, Rat.floor_intCast]
  simp
theorem wb_lo (w : String) (t : Rat) : t.floor ≤ wb w t := by
  unfold wb
  split <;> omega
theorem wb_hi (w : String) (t : Rat) : wb w t ≤ t.floor + 1 := by
  unfold wb
  split <;> omega
/-- up only where there is a rest -/
theorem wb_up {w : String} {t : Rat} (h : wb w t = t.floor + 1) : (t.floor : Rat) < t := by
  have u : upB w t = true := by
    unfold wb at h
    split at h
    · assumption
    · omega
  unfold upB at u
  have l := fl_le t
  split at u
  · rw [Bool.or_eq_true] at u
    rcases u with u | u
    · have := of_decide_eq_true u
      grind
    · rw [Bool.and_eq_true] at u
      have := of_decide_eq_true u.1
      grind
  · split at u
    · rw [Bool.and_eq_true] at u
      have := of_decide_eq_true u.2
      grind
    · rw [Bool.and_eq_true] at u
      have := of_decide_eq_true u.2
      grind
/-- no farther than a whole number beyond -/
theorem wb_le {w : String} {t : Rat} {n : Int} (h : t ≤ (n : Rat)) : wb w t ≤ n := by
  have h1 := wb_hi w t
  rcases Int.lt_or_eq_of_le h1 with z | z
  · have : t.floor ≤ n := by
      have l := fl_le t
      rw [← Rat.intCast_le_intCast]
      grind
    omega
  · have u := wb_up z
    have : t.floor < n := by
      rw [← Rat.intCast_lt_intCast]
      grind
    omega
theorem wb_ge {w : String} {t : Rat} {n : Int} (h : (n : Rat) ≤ t) : n ≤ wb w t := by
  have h1 := wb_lo w t
  have : n ≤ t.floor := Rat.le_floor_iff.mpr h
  omega
noncomputable def Ruler.stp (R : Ruler) (x : Rat) : Rat := R.pw (R.plc x)
noncomputable def Ruler.rnd (R : Ruler) (x : Rat) : Rat := (wb R.w (x / R.stp x) : Rat) * R.stp x
theorem div_mul' {x s : Rat} (h : s ≠ 0) : x / s * s = x := Rat.div_mul_cancel h
section
variable {R : Ruler} (O : R.Ok)
include O
theorem stp_pos (x : Rat) : 0 < R.stp x := pw_pos O _
theorem stp_ne (x : Rat) : R.stp x ≠ 0 := pw_ne O _
theorem plc_le {n : Nat} {x : Rat} (h : BQ n x) {q : Int} (hl : R.l ≤ q) (hq : x.abs < R.pw (q + R.f)) : R.plc x ≤ q := by
  have k := plc_ok O h
  rcases k.2.2 with e | e
  · omega
  · have h1 : R.pw (R.plc x - 1 + R.f) < R.pw (q + R.f) := by grind
    have := (pw_lt_iff O).mp h1
    omega
/-- a step's size -/
theorem BQ_stp {n m : Nat} {x : Rat} (h : BQ n x) (h1 : 401 ≤ m) (h2 : n + 1 ≤ m) : BQ m (R.stp x) := by
  have k := plc_ok O h
  have l1 := O.l1
  have l2 := O.l2
  have f1 := O.f1
  unfold Ruler.stp
  by_cases z : R.plc x ≤ 100
  · exact (BQ_pw O (E := 100) (by have := k.1; omega)).mono (by omega)
  · rcases k.2.2 with e | e
    · omega
    · have a : R.pw (R.plc x) ≤ R.pw (R.plc x - 1 + R.f) := pw_le O (by omega)
      have hx := h.abs
      have b : x.abs ≤ ((x.abs.num.natAbs : Nat) : Rat) := by
        rw [Rat.le_iff]
        simp only [Rat.num_natCast, Rat.den_natCast]
        have h0 : 0 ≤ x.abs.num := Rat.num_nonneg.mpr Rat.abs_nonneg
        have d := den_pos x.abs
        have : x.abs.num * 1 ≤ x.abs.num * (x.abs.den : Int) := Int.mul_le_mul_of_nonneg_left (by omega) h0
        rw [show ((x.abs.num.natAbs : Nat) : Int) = x.abs.num by omega]
        omega
      obtain ⟨e', he⟩ : ∃ e' : Nat, R.plc x = (e' : Int) := ⟨(R.plc x).toNat, by omega⟩
      rw [he] at a ⊢
      have c : R.b ^ e' ≤ x.abs.num.natAbs := by
        have : R.pw (e' : Int) ≤ ((x.abs.num.natAbs : Nat) : Rat) := by grind
        rw [pw_nat] at this
        exact Rat.natCast_le_natCast.mp this
      have d : R.b ^ e' < 2 ^ m := by
        have := hx.1
        unfold Bd at this
        exact Nat.lt_of_le_of_lt c (Nat.lt_of_lt_of_le this (Nat.pow_le_pow_right (by decide) (by omega)))
      rw [pw_nat]
      refine ⟨?_, ?_⟩
      · rw [Rat.num_natCast]
        exact bd_nat d
      · rw [Rat.den_natCast]
        exact Nat.one_lt_two_pow (by omega)
theorem turns_lt {n : Nat} {x : Rat} (h : BQ n x) : (x / R.stp x).abs < R.pw R.f := by
  have k := (plc_ok O h).2.1
  have s := stp_pos O x
  rw [pw_add O] at k
  have e := div_mul' (x := x) (stp_ne O x)
  unfold Ruler.stp at *
  generalize x / R.pw (R.plc x) = t at *
  unfold Rat.abs at *
  have key : ∀ u v : Rat, u * R.pw (R.plc x) < R.pw (R.plc x) * v → u < v := fun u v hh => by
    refine Rat.lt_of_mul_lt_mul_right (c := R.pw (R.plc x)) ?_ (Rat.le_of_lt s)
    grind
  split at k
  · rename_i hx
    have h1 := key t _ (by rw [e]; exact k)
    have h2 : 0 ≤ t := by
      refine Rat.le_of_mul_le_mul_right (c := R.pw (R.plc x)) ?_ s
      rw [e, Rat.zero_mul]
      exact hx
    rw [if_pos h2]
    exact h1
  · rename_i hx
    have h1 := key (-t) _ (by rw [Rat.neg_mul, e]; exact k)
    split
    · have p := pw_pos O (R.f : Int)
      grind
    · exact h1
theorem wb_bd {n : Nat} {x : Rat} (h : BQ n x) : (wb R.w (x / R.stp x)).natAbs ≤ R.b ^ R.f := by
  have k := turns_lt O h
  rw [pw_nat] at k
  generalize x / R.stp x = t at *
  have h1 : t ≤ (((R.b ^ R.f : Nat) : Int) : Rat) := by
    rw [Rat.intCast_natCast]
    unfold Rat.abs at k
    grind
  have h2 : ((-((R.b ^ R.f : Nat) : Int) : Int) : Rat) ≤ t := by
    rw [Rat.intCast_neg, Rat.intCast_natCast]
    unfold Rat.abs at k
    grind
  have a := wb_le (w := R.w) h1
  have b := wb_ge (w := R.w) h2
  omega
theorem BQ_rnd {n m : Nat} {x : Rat} (h : BQ n x) (h1 : 401 ≤ m) (h2 : n + 1 ≤ m) : BQ (97 + m) (R.rnd x) := by
  unfold Ruler.rnd
  refine BQ.mul ?_ (BQ_stp O h h1 h2) (by omega)
  have b := wb_bd O h
  have p : R.b ^ R.f ≤ 16 ^ 24 := Nat.le_trans (Nat.pow_le_pow_left O.b16 _) (Nat.pow_le_pow_right (by decide) O.f24)
  refine ⟨?_, ?_⟩
  · rw [Rat.num_intCast]
    exact Nat.lt_of_le_of_lt (Nat.le_trans b p) (by decide)
  · rw [Rat.den_intCast]
    exact Nat.one_lt_two_pow (by omega)
/-- what is a whole multiple of its step stays -/
theorem rnd_fix {x : Rat} {k : Int} (h : x = (k : Rat) * R.stp x) : R.rnd x = x := by
  have e : x / R.stp x = (k : Rat) := by
    have h0 := stp_ne O x
    have h3 : x / R.stp x = (k : Rat) * R.stp x / R.stp x := congrArg (· / R.stp x) h
    rw [h3]
    exact Rat.mul_div_cancel h0
  unfold Ruler.rnd
  rw [e, wb_int]
  exact h.symm
theorem pw_sub_int {a b : Int} (h : a ≤ b) : ∃ k : Int, R.pw b = (k : Rat) * R.pw a := by
  refine ⟨((R.b ^ (b - a).toNat : Nat) : Int), ?_⟩
  have e : b = (((b - a).toNat : Nat) : Int) + a := by omega
  have e2 : R.pw b = R.pw ((((b - a).toNat : Nat) : Int) + a) := congrArg R.pw e
  rw [e2, pw_add O, pw_nat, Rat.intCast_natCast]
/-- what is rounded is a whole multiple of its own step -/
theorem rnd_mult {n : Nat} {x : Rat} (h : BQ n x) : ∃ k : Int, R.rnd x = (k : Rat) * R.stp (R.rnd x) := by
  have hb := BQ_rnd O h (m := 401 + n) (by omega) (by omega)
  have w := wb_bd O h
  have k := plc_ok O h
  have ry : R.rnd x = (wb R.w (x / R.stp x) : Rat) * R.pw (R.plc x) := rfl
  generalize R.rnd x = y at *
  generalize wb R.w (x / R.stp x) = m at *
  generalize R.plc x = p at *
  have pp := pw_pos O p
  have fin : R.plc y ≤ p → ∃ k : Int, y = (k : Rat) * R.stp y := fun hp => by
    obtain ⟨j, ej⟩ := pw_sub_int O hp
    refine ⟨m * j, ?_⟩
    unfold Ruler.stp
    rw [Rat.intCast_mul, Rat.mul_assoc, ← ej]
    exact ry
  have absm : y.abs = ((m.natAbs : Nat) : Rat) * R.pw p := by
    rw [ry]
    rcases Int.le_total 0 m with z | z
    · have z' : (0 : Rat) ≤ (m : Rat) := Rat.intCast_nonneg.mpr z
      have z2 : (0 : Rat) ≤ (m : Rat) * R.pw p := Rat.mul_nonneg z' (Rat.le_of_lt pp)
      unfold Rat.abs
      rw [if_pos z2, ← Rat.intCast_natCast, show ((m.natAbs : Nat) : Int) = m by omega]
    · have z' : (0 : Rat) ≤ ((-m : Int) : Rat) := Rat.intCast_nonneg.mpr (by omega)
      have z2 : (0 : Rat) ≤ ((-m : Int) : Rat) * R.pw p := Rat.mul_nonneg z' (Rat.le_of_lt pp)
      rw [← abs_neg', ← Rat.neg_mul, ← Rat.intCast_neg]
      unfold Rat.abs
      rw [if_pos z2, ← Rat.intCast_natCast, show ((m.natAbs : Nat) : Int) = -m by omega]
  rcases Nat.lt_or_eq_of_le w with z | z
  · apply fin
    refine plc_le O hb k.1 ?_
    rw [absm, Int.add_comm, pw_add O, pw_nat]
    exact Rat.mul_lt_mul_of_pos_right (Rat.natCast_lt_natCast.mpr z) pp
  · rw [z, ← pw_nat, ← pw_add O] at absm
    have h1 : R.plc y ≤ p + 1 := plc_le O hb (by have := k.1; omega) (by
      rw [absm]
      exact pw_lt O (by omega))
    rcases Int.lt_or_eq_of_le h1 with q | q
    · exact fin (by omega)
    · obtain ⟨j, ej⟩ := pw_sub_int O (a := p + 1) (b := R.f + p) (by have := O.f1; omega)
      unfold Ruler.stp
      rw [q]
      have sg : y = y.abs ∨ y = -y.abs := by
        unfold Rat.abs
        split
        · exact .inl rfl
        · exact .inr (by grind)
      rcases sg with s | s
      · exact ⟨j, by rw [← ej, ← absm]; exact s⟩
      · exact ⟨-j, by rw [Rat.intCast_neg, Rat.neg_mul, ← ej, ← absm]; exact s⟩
theorem rnd_rnd {n : Nat} {x : Rat} (h : BQ n x) : R.rnd (R.rnd x) = R.rnd x := by
  obtain ⟨k, e⟩ := rnd_mult O h
  exact rnd_fix O e
end
end Rk
namespace Rk
open PySem PySem.Spec L2
theorem sh_str {a : Str} (ha : PyData.strOk a = true) : SeqAt.shaped (.str a) = true := by
  simp [SeqAt.shaped, PyData.canLay0, PyData.depth, ha]
theorem eqv_str (a b : Str) : PyData.eqv (.str a) (.str b) = decide (a = b) := by
  show (a == b) = decide (a = b)
  by_cases e : a = b <;> simp [e]
theorem gEq_strO {a b : Str} {h : Hh} (ha : PyData.strOk a = true) (hb : PyData.strOk b = true) : gEq (.d (.str a)) (.d (.str b)) h = some (.d (.bool (decide (a = b))), h) := by
  simp [gEq, asD, eqvB, sh_str ha, sh_str hb, eqv_str]
theorem gNe_strO {a b : Str} {h : Hh} (ha : PyData.strOk a = true) (hb : PyData.strOk b = true) : gNe (.d (.str a)) (.d (.str b)) h = some (.d (.bool (!decide (a = b))), h) := by
  simp [gNe, asD, eqvB, sh_str ha, sh_str hb, eqv_str]
theorem gInt1_b {b : Bool} {h : Hh} : gInt1 [.d (.bool b)] h = some (.d (.int (if b then 1 else 0)), h) := rfl
theorem gInt1_i {b : Int} {h : Hh} : gInt1 [.d (.int b)] h = some (.d (.int b), h) := rfl
theorem gLen_tup {ds : List Da} {h : Hh} : gLen [.d (.tuple ds)] h = some (.d (.int ds.length), h) := rfl
theorem gLen_Q {r : Rat} {h : Hh} : gLen [.d (Q r)] h = some (.d (.int 2), h) := rfl
theorem gNotB_b {a b : Bool} {h : Hh} : gNotB (.d (.bool a)) (.d (.bool b)) h = some (.d (.bool (!decide (a = b))), h) := rfl
theorem str_ne {a b : Str} (h : (a == b) = false) : ¬ a = b := by simpa using h
end Rk
namespace Rk
open PySem PySem.Spec L2
theorem so_near : PyData.strOk "near" = true := by decide +kernel
theorem so_down : PyData.strOk "down" = true := by decide +kernel
theorem so_up : PyData.strOk "up" = true := by decide +kernel
theorem so_nought : PyData.strOk "nought" = true := by decide +kernel
end Rk
namespace Rk
open PySem PySem.Spec L2
theorem mul_cancelR {a b c : Rat} (hc : c ≠ 0) (h : a * c = b * c) : a = b := by
  have h1 : a * c / c = b * c / c := congrArg (· / c) h
  rw [Rat.mul_div_cancel hc, Rat.mul_div_cancel hc] at h1
  exact h1
theorem divInt_mul_self {a b : Int} (hb : b ≠ 0) : Rat.divInt a b * (b : Rat) = (a : Rat) := by
  have e : ((b : Int) : Rat) = Rat.divInt b 1 := by
    have := Rat.num_divInt_den ((b : Int) : Rat)
    simp only [Rat.num_intCast, Rat.den_intCast] at this
    exact this.symm
  have e2 : ((a : Int) : Rat) = Rat.divInt a 1 := by
    have := Rat.num_divInt_den ((a : Int) : Rat)
    simp only [Rat.num_intCast, Rat.den_intCast] at this
    exact this.symm
  rw [e, e2, Rat.divInt_mul_divInt, Int.mul_one]
  have := Rat.divInt_mul_right (n := a) (d := 1) (a := b) hb
  rw [Int.one_mul] at this
  exact this
theorem floor_uniq {q : Rat} {k : Int} (h1 : (k : Rat) ≤ q) (h2 : q < (k : Rat) + 1) : q.floor = k := by
  have a : k ≤ q.floor := Rat.le_floor_iff.mpr h1
  have l := fl_le q
  have b : q.floor < k + 1 := by
    rw [← Rat.intCast_lt_intCast, Rat.intCast_add]
    have e : ((1 : Int) : Rat) = 1 := rfl
    rw [e]
    grind
  omega
theorem floor_divInt {a b : Int} (hb : 0 < b) : (Rat.divInt a b).floor = a.fdiv b := by
  have e := divInt_mul_self (a := a) (b := b) (by omega)
  have bp : (0 : Rat) < (b : Rat) := Rat.intCast_pos.mpr hb
  rw [Int.fdiv_eq_ediv_of_nonneg _ (by omega)]
  refine floor_uniq ?_ ?_
  · refine Rat.le_of_mul_le_mul_right (c := (b : Rat)) ?_ bp
    rw [e, ← Rat.intCast_mul, Rat.intCast_le_intCast]
    exact Int.ediv_mul_le _ (by omega)
  · refine Rat.lt_of_mul_lt_mul_right (c := (b : Rat)) ?_ (Rat.le_of_lt bp)
    have e1 : ((1 : Int) : Rat) = 1 := rfl
    rw [e, ← e1, ← Rat.intCast_add, ← Rat.intCast_mul, Rat.intCast_lt_intCast]
    exact Int.lt_ediv_add_one_mul_self _ hb
theorem floor_div (x : Rat) {s : Rat} (hs : 0 < s) : (x.num * s.den).fdiv (x.den * s.num) = (x / s).floor := by
  have sn : 0 < s.num := by
    have := (Rat.lt_iff 0 s).mp hs
    simpa using this
  rw [← div_divInt]
  exact (floor_divInt (Int.mul_pos (den_pos x) sn)).symm
/-- so many times a fraction -/
theorem int_mul (k : Int) (s : Rat) : Rat.divInt (k * s.num) s.den = (k : Rat) * s := by
  have := mul_divInt (k : Rat) s
  rw [Rat.num_intCast, Rat.den_intCast] at this
  rw [← this]
  congr 1
  simp
theorem cast_natAbs (z : Int) : (((z.natAbs : Nat) : Int) : Rat) = (z : Rat).abs := by
  unfold Rat.abs
  split
  · rename_i h
    have : 0 ≤ z := Rat.intCast_nonneg.mp h
    rw [show ((z.natAbs : Nat) : Int) = z by omega]
  · rename_i h
    have : ¬ 0 ≤ z := fun q => h (Rat.intCast_nonneg.mpr q)
    rw [← Rat.intCast_neg, show ((z.natAbs : Nat) : Int) = -z by omega]
/-- across -/
theorem across (b x : Rat) : ((b.num * x.den - x.num * b.den : Int) : Rat) = (b - x) * (((b.den : Nat) : Rat) * ((x.den : Nat) : Rat)) := by
  rw [Rat.intCast_sub, Rat.intCast_mul, Rat.intCast_mul, ← mul_den_num b, ← mul_den_num x, Rat.intCast_natCast, Rat.intCast_natCast]
  grind
theorem abs_mulP {a c : Rat} (hc : 0 < c) : (a * c).abs = a.abs * c := by
  unfold Rat.abs
  by_cases h : 0 ≤ a
  · rw [if_pos h, if_pos (Rat.mul_nonneg h (Rat.le_of_lt hc))]
  · have : ¬ 0 ≤ a * c := fun z => by
      have h2 := Rat.mul_lt_mul_of_pos_right (Rat.not_le.mp h) hc
      rw [Rat.zero_mul] at h2
      grind
    rw [if_neg h, if_neg this]
    grind
theorem BQ_int {n : Nat} {k : Int} (h : Bd n k) (h0 : 0 < n) : BQ n (k : Rat) := by
  refine ⟨?_, ?_⟩
  · rw [Rat.num_intCast]
    exact h
  · rw [Rat.den_intCast]
    exact Nat.one_lt_two_pow (by omega)
theorem bd_floor {n : Nat} {t : Rat} (h : BQ n t) : Bd n t.floor := by
  rw [Rat.floor_def]
  exact h.1.le (Int.natAbs_ediv_le_natAbs _ _)
/-! ### comprehensions step by step -/
section
variable {gd : Option (Nat × List Da)} {D : Nat} {g : Gv} {tt : Tv} {fe : Ev} {ρ0 ρ1 : En} {d : Da} {ds : List Da} {h h1 h2 h3 h4 : Hh} {v : Vl}
theorem lcL_nil (e : gdOk gd h) : lcL gd D g tt fe ρ0 [] h = .ok (.r D) h := by
  unfold lcL
  rw [if_pos e]
theorem lcL_cons (e : gdOk gd h) (eg : g (.d d) ρ0 h = some (ρ1, h1)) (et : tt ρ1 h1 = .ok true h2) (ef : fe ρ1 h2 = .ok v h3) (ea : appL D v h3 = some h4) : lcL gd D g tt fe ρ0 (d :: ds) h = lcL gd D g tt fe ρ0 ds h4 := by
  rw [lcL]
  rw [if_pos e, eg]
  dsimp only
  rw [et]
  dsimp only
  rw [ef]
  dsimp only
  rw [ea]
theorem lcL_skip (e : gdOk gd h) (eg : g (.d d) ρ0 h = some (ρ1, h1)) (et : tt ρ1 h1 = .ok false h2) : lcL gd D g tt fe ρ0 (d :: ds) h = lcL gd D g tt fe ρ0 ds h2 := by
  rw [lcL]
  rw [if_pos e, eg]
  dsimp only
  rw [et]
theorem appL_end {acc : List Da} {x : Da} {n : Nat} (hn : h.length = n) (hl : acc.length < 16777216) : appL n (.d x) (h ++ [some (.lst acc)]) = some (h ++ [some (.lst (acc ++ [x]))]) := by
  subst hn
  unfold appL fz
  dsimp only [Option.bind_some]
  rw [get_end]
  dsimp only
  rw [if_pos (fitB_ok (by omega)), set_at]
theorem appL_mid {acc : List Da} {x : Da} {n : Nat} {l : Hh} (hn : h.length = n) (hl : acc.length < 16777216) : appL n (.d x) (h ++ some (.lst acc) :: l) = some (h ++ some (.lst (acc ++ [x])) :: l) := by
  subst hn
  unfold appL fz
  dsimp only [Option.bind_some]
  rw [get_at]
  dsimp only
  rw [if_pos (fitB_ok (by omega)), set_at]
/-- of a row of things, thing by thing -/
theorem lc_map {F : Da → Da} (hgd : ∀ o, gdOk gd (h ++ [o])) : ∀ (ds acc : List Da), (∀ d ∈ ds, ∀ h', ∃ ρ1, g (.d d) ρ0 h' = some (ρ1, h') ∧ fe ρ1 h' = .ok (.d (F d)) h') → acc.length + ds.length ≤ 16777216 →
    lcL gd h.length g tvYes fe ρ0 ds (h ++ [some (.lst acc)]) = .ok (.r h.length) (h ++ [some (.lst (acc ++ ds.map F))])
  | [], acc, _, _ => by
    rw [lcL_nil (hgd _)]
    simp
  | d :: ds, acc, H, hl => by
    obtain ⟨ρ1, e1, e2⟩ := H d (List.mem_cons_self ..) (h ++ [some (.lst acc)])
    rw [List.length_cons] at hl
    rw [lcL_cons (hgd _) e1 rfl e2 (appL_end rfl (by omega)), lc_map hgd ds (acc ++ [F d]) (fun d hd => H d (List.mem_cons_of_mem _ hd)) (by rw [List.length_append, List.length_singleton]; omega)]
    simp
end
end Rk
namespace Rk
open PySem PySem.Spec L2
section
variable {h : Hh} {n : Nat} {l : List Da}
theorem asL_at (e : h[n]? = some (some (.lst l))) : asL (.r n) h = some l := by
  unfold asL
  dsimp only
  rw [e]
theorem tyL_at (e : h[n]? = some (some (.lst l))) : tyL (.r n) h = true := by
  unfold tyL
  rw [asL_at e]
  rfl
theorem itL_at (e : h[n]? = some (some (.lst l))) : itL (.r n) h = .ok ⟨l, some (n, l)⟩ h := by
  unfold itL
  dsimp only
  rw [e]
theorem gApp_at {d : Da} (e : h[n]? = some (some (.lst l))) (hl : l.length < 16777216) : gApp (.r n) [.d d] h = some (.d .none, h.set n (some (.lst (l ++ [d])))) := by
  unfold gApp appL fz
  dsimp only [Option.bind_some]
  rw [e]
  dsimp only
  rw [if_pos (fitB_ok (by omega))]
  rfl
end
end Rk
namespace Rk
theorem upB_down (t : Rat) : upB "down" t = false := by simp [upB]
theorem upB_up (t : Rat) : upB "up" t = decide (0 < t - (t.floor : Rat)) := by simp [upB]
theorem upB_nought (t : Rat) : upB "nought" t = (decide (t < 0) && decide (0 < t - (t.floor : Rat))) := by simp [upB]
theorem upB_near (t : Rat) : upB "near" t = (decide (1 < 2 * (t - (t.floor : Rat))) || (decide (2 * (t - (t.floor : Rat)) = 1) && decide (t.floor.fmod 2 = 1))) := by simp [upB]
end Rk
namespace Rk
open PySem PySem.Spec L2
theorem abs_divInt {a b : Int} (hb : 0 < b) : Rat.divInt ((a.natAbs : Nat) : Int) b = (Rat.divInt a b).abs := by
  have bp : (0 : Rat) < (b : Rat) := Rat.intCast_pos.mpr hb
  refine mul_cancelR (c := (b : Rat)) (fun z => by rw [z] at bp; exact absurd bp (by decide)) ?_
  rw [divInt_mul_self (by omega), ← abs_mulP bp, divInt_mul_self (by omega), cast_natAbs]
def ways : List Da := [.str "near", .str "down", .str "up", .str "nought"]
theorem sh_ruler {R : Ruler} (O : R.Ok) : SeqAt.shaped R.da = true := by
  have s : PyData.strOk R.w = true := by
    rcases O.w4 with z | z | z | z <;> rw [z]
    · exact so_near
    · exact so_down
    · exact so_up
    · exact so_nought
  simp [Ruler.da, SeqAt.shaped, PyData.canLay0, PyData.canLayAll0, PyData.depth, PyData.depthAll, s]
theorem gEq_R {R S : Ruler} (O : R.Ok) (P : S.Ok) (h : Hh) : ∃ c, gEq (.d R.da) (.d S.da) h = some (.d (.bool c), h) := ⟨PyData.eqv R.da S.da, by simp [gEq, asD, eqvB, sh_ruler O, sh_ruler P]⟩
end Rk

namespace Lw
open PySem PySem.Spec L2 Rk
noncomputable def b_is_whole : Sv := sRet (eAnd (eIsi .int (eVar 0)) (eNot (eIsi .bool (eVar 0))))
noncomputable def m_is_whole : Fn := mkF 1 1 b_is_whole
noncomputable def b_shared : Sv := sSeq (sSet 0 (eBlt gAbs (aCons (eVar 0) (aNil))))
    (sSeq (sSet 1 (eBlt gAbs (aCons (eVar 1) (aNil))))
    (sSeq (sWhile (eT (eOp (gInt fGt) (eVar 1) (eD (.int 0)))) (sPar 0 1 (aCons (eVar 1) (aCons (eOp (gInt fMod) (eVar 0) (eVar 1)) (aNil)))))
    (sRet (eVar 0))))
noncomputable def m_shared : Fn := mkF 2 2 b_shared
noncomputable def b_fraction : Sv := sSeq (sSet 2 (eCall m_shared (aCons (eVar 0) (aCons (eVar 1) (aNil)))))
    (sSeq (sIf (eT (eOp (gInt fLt) (eVar 1) (eD (.int 0)))) (sSet 2 (eOp (gInt fSub) (eD (.int 0)) (eVar 2))) (sNil))
    (sRet (eTup (aCons (eOp (gInt fDiv) (eVar 0) (eVar 2)) (aCons (eOp (gInt fDiv) (eVar 1) (eVar 2)) (aNil))))))
noncomputable def m_fraction : Fn := mkF 2 3 b_fraction
noncomputable def b_is_fraction : Sv := sSeq (sIf (tvOr (tvNot (eT (eIsi .tuple (eVar 0)))) (tvOr (eT (eOp gNe (eBlt gLen (aCons (eVar 0) (aNil))) (eD (.int 2)))) (tvOr (tvNot (eT (eCall m_is_whole (aCons (eOp gIx (eVar 0) (eD (.int 0))) (aNil))))) (tvNot (eT (eCall m_is_whole (aCons (eOp gIx (eVar 0) (eD (.int 1))) (aNil)))))))) (sRet (eD (.bool false))) (sNil))
    (sRet (eAnd (eOp (gInt fGt) (eOp gIx (eVar 0) (eD (.int 1))) (eD (.int 0))) (eOp gEq (eCall m_shared (aCons (eOp gIx (eVar 0) (eD (.int 0))) (aCons (eOp gIx (eVar 0) (eD (.int 1))) (aNil)))) (eD (.int 1)))))
noncomputable def m_is_fraction : Fn := mkF 1 1 b_is_fraction
noncomputable def b_whole_of : Sv := sRet (eTup (aCons (eVar 0) (aCons (eD (.int 1)) (aNil))))
noncomputable def m_whole_of : Fn := mkF 1 1 b_whole_of
noncomputable def b_plus : Sv := sRet (eCall m_fraction (aCons (eOp gAdd (eOp (gInt fMul) (eOp gIx (eVar 0) (eD (.int 0))) (eOp gIx (eVar 1) (eD (.int 1)))) (eOp (gInt fMul) (eOp gIx (eVar 1) (eD (.int 0))) (eOp gIx (eVar 0) (eD (.int 1))))) (aCons (eOp (gInt fMul) (eOp gIx (eVar 0) (eD (.int 1))) (eOp gIx (eVar 1) (eD (.int 1)))) (aNil))))
noncomputable def m_plus : Fn := mkF 2 2 b_plus
noncomputable def b_turned : Sv := sRet (eTup (aCons (eOp (gInt fSub) (eD (.int 0)) (eOp gIx (eVar 0) (eD (.int 0)))) (aCons (eOp gIx (eVar 0) (eD (.int 1))) (aNil))))
noncomputable def m_turned : Fn := mkF 1 1 b_turned
noncomputable def b_less : Sv := sRet (eCall m_plus (aCons (eVar 0) (aCons (eCall m_turned (aCons (eVar 1) (aNil))) (aNil))))
noncomputable def m_less : Fn := mkF 2 2 b_less
noncomputable def b_times : Sv := sRet (eCall m_fraction (aCons (eOp (gInt fMul) (eOp gIx (eVar 0) (eD (.int 0))) (eOp gIx (eVar 1) (eD (.int 0)))) (aCons (eOp (gInt fMul) (eOp gIx (eVar 0) (eD (.int 1))) (eOp gIx (eVar 1) (eD (.int 1)))) (aNil))))
noncomputable def m_times : Fn := mkF 2 2 b_times
noncomputable def b_over : Sv := sRet (eCall m_fraction (aCons (eOp (gInt fMul) (eOp gIx (eVar 0) (eD (.int 0))) (eOp gIx (eVar 1) (eD (.int 1)))) (aCons (eOp (gInt fMul) (eOp gIx (eVar 0) (eD (.int 1))) (eOp gIx (eVar 1) (eD (.int 0)))) (aNil))))
noncomputable def m_over : Fn := mkF 2 2 b_over
noncomputable def b_size_of : Sv := sRet (eTup (aCons (eBlt gAbs (aCons (eOp gIx (eVar 0) (eD (.int 0))) (aNil))) (aCons (eOp gIx (eVar 0) (eD (.int 1))) (aNil))))
noncomputable def m_size_of : Fn := mkF 1 1 b_size_of
noncomputable def b_is_less : Sv := sRet (eOp (gInt fLt) (eOp (gInt fMul) (eOp gIx (eVar 0) (eD (.int 0))) (eOp gIx (eVar 1) (eD (.int 1)))) (eOp (gInt fMul) (eOp gIx (eVar 1) (eD (.int 0))) (eOp gIx (eVar 0) (eD (.int 1)))))
noncomputable def m_is_less : Fn := mkF 2 2 b_is_less
noncomputable def b_power : Sv := sSeq (sSet 2 (eD (.int 1)))
    (sSeq (sSet 3 (eVar 0))
    (sSeq (sSet 4 (eBlt gAbs (aCons (eVar 1) (aNil))))
    (sSeq (sWhile (eT (eOp (gInt fGt) (eVar 4) (eD (.int 0)))) (sSeq (sIf (eT (eOp gEq (eOp (gInt fMod) (eVar 4) (eD (.int 2))) (eD (.int 1)))) (sSet 2 (eOp (gInt fMul) (eVar 2) (eVar 3))) (sNil))
    (sSeq (sSet 4 (eOp (gInt fDiv) (eVar 4) (eD (.int 2))))
    (sSet 3 (eIf (eT (eOp (gInt fGt) (eVar 4) (eD (.int 0)))) (eOp (gInt fMul) (eVar 3) (eVar 3)) (eVar 3))))))
    (sRet (eIf (eT (eOp (gInt fGe) (eVar 1) (eD (.int 0)))) (eTup (aCons (eVar 2) (aCons (eD (.int 1)) (aNil)))) (eTup (aCons (eD (.int 1)) (aCons (eVar 2) (aNil)))))))))
noncomputable def m_power : Fn := mkF 2 5 b_power
noncomputable def b_is_enough : Sv := sRet (eCall m_is_less (aCons (eVar 1) (aCons (eCall m_power (aCons (eOp gIx (eVar 0) (eD (.int 0))) (aCons (eOp gAdd (eVar 2) (eOp gIx (eVar 0) (eD (.int 1)))) (aNil)))) (aNil))))
noncomputable def m_is_enough : Fn := mkF 3 3 b_is_enough
noncomputable def b_place_of : Sv := sSeq (sSet 2 (eCall m_size_of (aCons (eVar 1) (aNil))))
    (sSeq (sSet 3 (eOp gIx (eVar 0) (eD (.int 2))))
    (sSeq (sIf (eT (eCall m_is_enough (aCons (eVar 0) (aCons (eVar 2) (aCons (eVar 3) (aNil)))))) (sRet (eVar 3)) (sNil))
    (sSeq (sSet 4 (eD (.int 1)))
    (sSeq (sWhile (tvNot (eT (eCall m_is_enough (aCons (eVar 0) (aCons (eVar 2) (aCons (eOp gAdd (eVar 3) (eVar 4)) (aNil))))))) (sSet 4 (eOp (gInt fMul) (eVar 4) (eD (.int 2)))))
    (sSeq (sSet 5 (eOp gAdd (eVar 3) (eVar 4)))
    (sSeq (sSet 3 (eOp gAdd (eVar 3) (eOp (gInt fDiv) (eVar 4) (eD (.int 2)))))
    (sSeq (sWhile (eT (eOp (gInt fGt) (eOp (gInt fSub) (eVar 5) (eVar 3)) (eD (.int 1)))) (sSeq (sSet 6 (eOp (gInt fDiv) (eOp gAdd (eVar 3) (eVar 5)) (eD (.int 2))))
    (sIf (eT (eCall m_is_enough (aCons (eVar 0) (aCons (eVar 2) (aCons (eVar 6) (aNil)))))) (sSet 5 (eVar 6)) (sSet 3 (eVar 6)))))
    (sRet (eVar 5)))))))))
noncomputable def m_place_of : Fn := mkF 2 7 b_place_of
noncomputable def b_step_of : Sv := sRet (eCall m_power (aCons (eOp gIx (eVar 0) (eD (.int 0))) (aCons (eCall m_place_of (aCons (eVar 0) (aCons (eVar 1) (aNil)))) (aNil))))
noncomputable def m_step_of : Fn := mkF 2 2 b_step_of
noncomputable def b_whole_by : Sv := sSeq (sSet 3 (eOp (gInt fDiv) (eVar 1) (eVar 2)))
    (sSeq (sSet 4 (eOp (gInt fMod) (eVar 1) (eVar 2)))
    (sSeq (sIf (eT (eOp gEq (eVar 0) (eD (.str "near")))) (sSet 5 (eOr (eOp (gInt fGt) (eOp (gInt fMul) (eVar 4) (eD (.int 2))) (eVar 2)) (eAnd (eOp gEq (eOp (gInt fMul) (eVar 4) (eD (.int 2))) (eVar 2)) (eOp gEq (eOp (gInt fMod) (eVar 3) (eD (.int 2))) (eD (.int 1)))))) (sIf (eT (eOp gEq (eVar 0) (eD (.str "nought")))) (sSet 5 (eAnd (eOp (gInt fLt) (eVar 1) (eD (.int 0))) (eOp (gInt fGt) (eVar 4) (eD (.int 0))))) (sSet 5 (eAnd (eOp gEq (eVar 0) (eD (.str "up"))) (eOp (gInt fGt) (eVar 4) (eD (.int 0)))))))
    (sRet (eOp gAdd (eVar 3) (eBlt gInt1 (aCons (eVar 5) (aNil)))))))
noncomputable def m_whole_by : Fn := mkF 3 6 b_whole_by
noncomputable def b_rounded : Sv := sSeq (sSet 2 (eCall m_step_of (aCons (eVar 0) (aCons (eVar 1) (aNil)))))
    (sSeq (sSet 3 (eCall m_over (aCons (eVar 1) (aCons (eVar 2) (aNil)))))
    (sRet (eCall m_times (aCons (eCall m_whole_of (aCons (eCall m_whole_by (aCons (eOp gIx (eVar 0) (eD (.int 3))) (aCons (eOp gIx (eVar 3) (eD (.int 0))) (aCons (eOp gIx (eVar 3) (eD (.int 1))) (aNil))))) (aNil))) (aCons (eVar 2) (aNil))))))
noncomputable def m_rounded : Fn := mkF 2 4 b_rounded
noncomputable def b_is_mark : Sv := sRet (eAnd (eCall m_is_fraction (aCons (eVar 1) (aNil))) (eOp gEq (eCall m_rounded (aCons (eVar 0) (aCons (eVar 1) (aNil)))) (eVar 1)))
noncomputable def m_is_mark : Fn := mkF 2 2 b_is_mark
noncomputable def b_off_of : Sv := sRet (eCall m_size_of (aCons (eCall m_less (aCons (eCall m_rounded (aCons (eVar 0) (aCons (eVar 1) (aNil)))) (aCons (eVar 1) (aNil)))) (aNil)))
noncomputable def m_off_of : Fn := mkF 2 2 b_off_of
noncomputable def b__law_mixed : Sv := sSeq (sSet 0 (eOp (gInt fMod) (eOp (gInt fMul) (eOp gAdd (eOp gAdd (eOp (gInt fMod) (eVar 0) (eD (.int 2147483647))) (eOp (gInt fMul) (eOp (gInt fMul) (eD (.int 7919)) (eVar 1)) (eVar 1))) (eOp (gInt fMul) (eD (.int 31)) (eVar 1))) (eD (.int 48271))) (eD (.int 2147483647))))
    (sRet (eOp (gInt fMod) (eOp (gInt fMul) (eVar 0) (eOp gAdd (eD (.int 69621)) (eOp (gInt fMul) (eD (.int 2)) (eVar 1)))) (eD (.int 2147483629))))
noncomputable def m__law_mixed : Fn := mkF 2 2 b__law_mixed
noncomputable def b__law_stream : Sv := sRet (eLst (aCons (eOp (gInt fGe) (eVar 0) (eOp (gInt fPow) (eD (.int 10)) (eD (.int 18)))) (aCons (eVar 0) (aCons (eD (.int 0)) (aCons (eCall m__law_mixed (aCons (eVar 0) (aCons (eVar 1) (aNil)))) (aNil))))))
noncomputable def m__law_stream : Fn := mkF 2 2 b__law_stream
noncomputable def b__law_take : Sv := sSeq (sAsg (gSetL (eVar 0) (eD (.int 2))) (eOp gAdd (eOp gIx (eVar 0) (eD (.int 2))) (eD (.int 1))))
    (sSeq (sIf (tvOr (tvNot (eT (eOp gIx (eVar 0) (eD (.int 0))))) (tvOr (eT (eOp (gIn false) (eOp gIx (eVar 0) (eD (.int 1))) (eTup (aCons (eD (.int 0)) (aCons (eNeg (eD (.int 1))) (aNil)))))) (eT (eOp (gInt fGt) (eOp gIx (eVar 0) (eD (.int 2))) (eD (.int 60)))))) (sRet (eOp (gInt fMod) (eCall m__law_mixed (aCons (eCall m__law_mixed (aCons (eOp gIx (eVar 0) (eD (.int 3))) (aCons (eOp gIx (eVar 0) (eD (.int 2))) (aNil)))) (aCons (eD (.int 7)) (aNil)))) (eVar 1))) (sNil))
    (sSeq (sSet 2 (eOp (gInt fMod) (eOp gIx (eVar 0) (eD (.int 1))) (eVar 1)))
    (sSeq (sAsg (gSetL (eVar 0) (eD (.int 1))) (eOp (gInt fDiv) (eOp gIx (eVar 0) (eD (.int 1))) (eVar 1)))
    (sRet (eVar 2)))))
noncomputable def m__law_take : Fn := mkF 2 3 b__law_take
noncomputable def b__law_lowest : Sv := sSeq (sPar 2 3 (aCons (eBlt gAbs (aCons (eVar 0) (aNil))) (aCons (eBlt gAbs (aCons (eVar 1) (aNil))) (aNil))))
    (sSeq (sWhile (tvAnd (eT (eOp (gInt fGt) (eVar 2) (eD (.int 0)))) (eT (eOp (gInt fGt) (eVar 3) (eD (.int 0))))) (sIf (eT (eOp (gInt fGe) (eVar 2) (eVar 3))) (sSet 2 (eOp (gInt fMod) (eVar 2) (eVar 3))) (sSet 3 (eOp (gInt fMod) (eVar 3) (eVar 2)))))
    (sSeq (sSet 4 (eOp gAdd (eVar 2) (eVar 3)))
    (sSeq (sIf (eT (eOp (gInt fLt) (eVar 1) (eD (.int 0)))) (sSet 4 (eOp (gInt fSub) (eD (.int 0)) (eVar 4))) (sNil))
    (sRet (eTup (aCons (eOp (gInt fDiv) (eVar 0) (eVar 4)) (aCons (eOp (gInt fDiv) (eVar 1) (eVar 4)) (aNil))))))))
noncomputable def m__law_lowest : Fn := mkF 2 5 b__law_lowest
noncomputable def b__law_number_by : Sv := sSeq (sSet 1 (eCall m__law_take (aCons (eVar 0) (aCons (eD (.int 7)) (aNil)))))
    (sSeq (sSet 2 (eOp (gInt fSub) (eCall m__law_take (aCons (eVar 0) (aCons (eD (.int 199)) (aNil)))) (eD (.int 99))))
    (sSeq (sIf (eT (eOp gEq (eVar 1) (eD (.int 0)))) (sRet (eTup (aCons (eOp (gInt fDiv) (eVar 2) (eD (.int 20))) (aCons (eD (.int 1)) (aNil))))) (sNil))
    (sSeq (sIf (eT (eOp (gInt fLt) (eVar 1) (eD (.int 3)))) (sRet (eCall m__law_lowest (aCons (eVar 2) (aCons (eOp gAdd (eD (.int 1)) (eCall m__law_take (aCons (eVar 0) (aCons (eD (.int 40)) (aNil))))) (aNil))))) (sNil))
    (sSeq (sIf (eT (eOp gEq (eVar 1) (eD (.int 3)))) (sRet (eCall m__law_lowest (aCons (eOp gAdd (eOp (gInt fMul) (eVar 2) (eD (.int 1000))) (eCall m__law_take (aCons (eVar 0) (aCons (eD (.int 1000)) (aNil))))) (aCons (eOp gIx (eLst (aCons (eD (.int 10)) (aCons (eD (.int 1000)) (aCons (eD (.int 128)) (aCons (eD (.int 729)) (aNil)))))) (eCall m__law_take (aCons (eVar 0) (aCons (eD (.int 4)) (aNil))))) (aNil))))) (sNil))
    (sSeq (sIf (eT (eOp gEq (eVar 1) (eD (.int 4)))) (sSeq (sSet 3 (eOp gAdd (eD (.int 2)) (eCall m__law_take (aCons (eVar 0) (aCons (eD (.int 15)) (aNil))))))
    (sRet (eCall m__law_lowest (aCons (eOp (gInt fSub) (eOp gAdd (eOp (gInt fMul) (eOp (gInt fMul) (eOp (gInt fMul) (eVar 3) (eVar 3)) (eVar 3)) (eOp (gInt fSub) (eOp (gInt fMod) (eVar 2) (eD (.int 5))) (eD (.int 2)))) (eCall m__law_take (aCons (eVar 0) (aCons (eD (.int 3)) (aNil))))) (eD (.int 1))) (aCons (eVar 3) (aNil)))))) (sNil))
    (sSeq (sSet 4 (eOp gIx (eLst (aCons (eOp gAdd (eOp (gInt fMul) (eVar 2) (eOp (gInt fPow) (eD (.int 10)) (eD (.int 30)))) (eD (.int 7))) (aCons (eOp gAdd (eOp (gInt fMul) (eD (.int 3)) (eOp (gInt fPow) (eD (.int 10)) (eD (.int 40)))) (eVar 2)) (aCons (eVar 2) (aNil))))) (eCall m__law_take (aCons (eVar 0) (aCons (eD (.int 3)) (aNil))))))
    (sRet (eCall m__law_lowest (aCons (eVar 4) (aCons (eOp gAdd (eOp (gInt fPow) (eD (.int 10)) (eD (.int 25))) (eCall m__law_take (aCons (eVar 0) (aCons (eD (.int 9)) (aNil))))) (aNil)))))))))))
noncomputable def m__law_number_by : Fn := mkF 1 5 b__law_number_by
noncomputable def b__law_ruler_by : Sv := sSeq (sSet 1 (eOp gIx (eLst (aCons (eD (.str "near")) (aCons (eD (.str "down")) (aCons (eD (.str "up")) (aCons (eD (.str "nought")) (aNil)))))) (eCall m__law_take (aCons (eVar 0) (aCons (eD (.int 4)) (aNil))))))
    (sSeq (sIf (eT (eOp gEq (eCall m__law_take (aCons (eVar 0) (aCons (eD (.int 9)) (aNil)))) (eD (.int 0)))) (sRet (eTup (aCons (eOp gAdd (eD (.int 2)) (eCall m__law_take (aCons (eVar 0) (aCons (eD (.int 15)) (aNil))))) (aCons (eOp gAdd (eD (.int 1)) (eCall m__law_take (aCons (eVar 0) (aCons (eD (.int 24)) (aNil))))) (aCons (eOp (gInt fSub) (eCall m__law_take (aCons (eVar 0) (aCons (eD (.int 201)) (aNil)))) (eD (.int 100))) (aCons (eVar 1) (aNil))))))) (sNil))
    (sRet (eTup (aCons (eOp gAdd (eD (.int 2)) (eCall m__law_take (aCons (eVar 0) (aCons (eD (.int 4)) (aNil))))) (aCons (eOp gAdd (eD (.int 1)) (eCall m__law_take (aCons (eVar 0) (aCons (eD (.int 3)) (aNil))))) (aCons (eOp (gInt fSub) (eCall m__law_take (aCons (eVar 0) (aCons (eD (.int 7)) (aNil)))) (eD (.int 5))) (aCons (eVar 1) (aNil))))))))
noncomputable def m__law_ruler_by : Fn := mkF 1 2 b__law_ruler_by
noncomputable def bl__law_due_1 : Sv := sSeq (sSet 8 (eBlt gAbs (aCons (eOp (gInt fSub) (eOp (gInt fMul) (eOp gIx (eVar 7) (eD (.int 0))) (eOp gIx (eVar 1) (eD (.int 1)))) (eOp (gInt fMul) (eOp gIx (eVar 1) (eD (.int 0))) (eOp gIx (eVar 7) (eD (.int 1))))) (aNil))))
    (sExpr (eMt tyL gApp (eVar 6) (aCons (eOp (gInt fDiv) (eOp (gInt fMul) (eOp (gInt fMul) (eVar 8) (eOp gIx (eOp gIx (eVar 4) (eD (.int 0))) (eD (.int 1)))) (eOp gIx (eOp gIx (eVar 4) (eD (.int 1))) (eD (.int 1)))) (eOp gIx (eVar 7) (eD (.int 1)))) (aNil))))
noncomputable def b__law_due : Sv := sSeq (sSet 3 (eOp (gInt fDiv) (eOp (gInt fMul) (eOp gIx (eVar 1) (eD (.int 0))) (eOp gIx (eVar 2) (eD (.int 1)))) (eOp (gInt fMul) (eOp gIx (eVar 1) (eD (.int 1))) (eOp gIx (eVar 2) (eD (.int 0))))))
    (sSeq (sSet 4 (eLc [5] (iv itQ (eTup (aCons (eVar 3) (aCons (eOp gAdd (eVar 3) (eD (.int 1))) (aNil))))) (gN 5) (tvYes) (eCall m__law_lowest (aCons (eOp (gInt fMul) (eVar 5) (eOp gIx (eVar 2) (eD (.int 0)))) (aCons (eOp gIx (eVar 2) (eD (.int 1))) (aNil))))))
    (sSeq (sIf (eT (eOp gEq (eOp gIx (eVar 4) (eD (.int 0))) (eVar 1))) (sRet (eVar 1)) (sNil))
    (sSeq (sIf (eT (eOp gEq (eVar 0) (eD (.str "nought")))) (sRet (eOp gIx (eVar 4) (eBlt gInt1 (aCons (eOp (gInt fLt) (eOp gIx (eVar 1) (eD (.int 0))) (eD (.int 0))) (aNil))))) (sNil))
    (sSeq (sIf (eT (eOp (gIn false) (eVar 0) (eTup (aCons (eD (.str "down")) (aCons (eD (.str "up")) (aNil)))))) (sRet (eOp gIx (eVar 4) (eBlt gInt1 (aCons (eOp gEq (eVar 0) (eD (.str "up"))) (aNil))))) (sNil))
    (sSeq (sSet 6 (eLst (aNil)))
    (sSeq (sFor (iv itQ (eVar 4)) (gN 7) bl__law_due_1)
    (sSeq (sIf (eT (eOp gEq (eOp gIx (eVar 6) (eD (.int 0))) (eOp gIx (eVar 6) (eD (.int 1))))) (sRet (eOp gIx (eVar 4) (eOp (gInt fMod) (eVar 3) (eD (.int 2))))) (sNil))
    (sRet (eOp gIx (eVar 4) (eBlt gInt1 (aCons (eOp (gInt fLt) (eOp gIx (eVar 6) (eD (.int 1))) (eOp gIx (eVar 6) (eD (.int 0)))) (aNil))))))))))))
noncomputable def m__law_due : Fn := mkF 3 9 b__law_due
noncomputable def b__law_halfway : Sv := sSeq (sSet 3 (eCall m_step_of (aCons (eVar 1) (aCons (eVar 2) (aNil)))))
    (sSeq (sSet 4 (eOp (gInt fDiv) (eOp (gInt fMul) (eOp gIx (eVar 2) (eD (.int 0))) (eOp gIx (eVar 3) (eD (.int 1)))) (eOp (gInt fMul) (eOp gIx (eVar 2) (eD (.int 1))) (eOp gIx (eVar 3) (eD (.int 0))))))
    (sSeq (sSet 5 (eOp (gInt fSub) (eCall m__law_take (aCons (eVar 0) (aCons (eD (.int 3)) (aNil)))) (eD (.int 1))))
    (sRet (eCall m__law_lowest (aCons (eOp gAdd (eOp (gInt fMul) (eOp (gInt fMul) (eOp gAdd (eOp (gInt fMul) (eD (.int 2)) (eVar 4)) (eD (.int 1))) (eOp gIx (eVar 3) (eD (.int 0)))) (eD (.int 1000))) (eOp (gInt fMul) (eVar 5) (eOp gIx (eVar 3) (eD (.int 0))))) (aCons (eOp (gInt fMul) (eOp gIx (eVar 3) (eD (.int 1))) (eD (.int 2000))) (aNil)))))))
noncomputable def m__law_halfway : Fn := mkF 3 6 b__law_halfway
noncomputable def b__law_right : Sv := sSeq (sSet 2 (eCall m__law_due (aCons (eOp gIx (eVar 0) (eD (.int 3))) (aCons (eVar 1) (aCons (eCall m_step_of (aCons (eVar 0) (aCons (eVar 1) (aNil)))) (aNil))))))
    (sSeq (sSet 3 (eCall m_rounded (aCons (eVar 0) (aCons (eVar 1) (aNil)))))
    (sSeq (sIf (tvOr (tvNot (eT (eIsi .tuple (eVar 3)))) (tvOr (eT (eOp gNe (eVar 3) (eVar 2))) (eT (eOp gNe (eCall m_rounded (aCons (eVar 0) (aCons (eVar 3) (aNil)))) (eVar 3))))) (sRet (eD (.bool false))) (sNil))
    (sSeq (sSet 4 (eCall m__law_lowest (aCons (eBlt gAbs (aCons (eOp (gInt fSub) (eOp (gInt fMul) (eOp gIx (eVar 2) (eD (.int 0))) (eOp gIx (eVar 1) (eD (.int 1)))) (eOp (gInt fMul) (eOp gIx (eVar 1) (eD (.int 0))) (eOp gIx (eVar 2) (eD (.int 1))))) (aNil))) (aCons (eOp (gInt fMul) (eOp gIx (eVar 2) (eD (.int 1))) (eOp gIx (eVar 1) (eD (.int 1)))) (aNil)))))
    (sSeq (sIf (tvOr (eT (eOp gNe (eCall m_off_of (aCons (eVar 0) (aCons (eVar 1) (aNil)))) (eVar 4))) (eT (eOp gNotB (eCall m_is_mark (aCons (eVar 0) (aCons (eVar 3) (aNil)))) (eD (.bool true))))) (sRet (eD (.bool false))) (sNil))
    (sSeq (sSet 5 (eCall m_is_mark (aCons (eVar 0) (aCons (eVar 1) (aNil)))))
    (sRet (eAnd (eIsi .bool (eVar 5)) (eOp gEq (eVar 5) (eOp gEq (eVar 2) (eVar 1))))))))))
noncomputable def m__law_right : Fn := mkF 2 6 b__law_right
noncomputable def bl_law_1 : Sv := sSeq (sSet 9 (eOp gAdd (eSl (eVar 4) (oNone) (oSome (eD (.int 3)))) (eTup (aCons (eOp gIx (eLst (aCons (eD (.str "near")) (aCons (eD (.str "down")) (aCons (eD (.str "up")) (aCons (eD (.str "nought")) (aNil)))))) (eVar 8)) (aNil)))))
    (sIf (tvAnd (tvOr (eT (eOp (gInt fLt) (eVar 8) (eD (.int 1)))) (eT (eOp gEq (eVar 9) (eVar 4)))) (tvNot (eT (eCall m__law_right (aCons (eVar 9) (aCons (eVar 7) (aNil))))))) (sRet (eD (.bool false))) (sNil))
noncomputable def bl_law_2 : Sv := sSeq (sFor (iRange1 (aCons (eD (.int 4)) (aNil))) (gN 8) bl_law_1)
    (sIf (tvNot (eT (eCall m__law_right (aCons (eVar 4) (aCons (eTup (aCons (eOp (gInt fSub) (eD (.int 0)) (eOp gIx (eVar 7) (eD (.int 0)))) (aCons (eOp gIx (eVar 7) (eD (.int 1))) (aNil)))) (aNil)))))) (sRet (eD (.bool false))) (sNil))
noncomputable def bl_law_3 : Sv := sSeq (sSet 3 (eCall m__law_stream (aCons (eVar 2) (aCons (eVar 1) (aNil)))))
    (sSeq (sSet 4 (eCall m__law_ruler_by (aCons (eVar 3) (aNil))))
    (sSeq (sSet 5 (eCall m__law_number_by (aCons (eVar 3) (aNil))))
    (sSeq (sSet 6 (eCall m__law_halfway (aCons (eVar 3) (aCons (eVar 4) (aCons (eVar 5) (aNil))))))
    (sFor (iv itQ (eTup (aCons (eVar 5) (aCons (eVar 6) (aNil))))) (gN 7) bl_law_2))))
noncomputable def b_law : Sv := sSeq (sFor (iEnumL (aCons (eSl (eOp gAdd (eVar 0) (eLst (aCons (eD (.int 0)) (aNil)))) (oNone) (oSome (eD (.int 63)))) (aNil))) (gTupT 2 (gsCons (gN 1) (gsCons (gN 2) (gsNil)))) bl_law_3)
    (sRet (eD (.bool true)))
noncomputable def m_law : Fn := mkF 1 10 b_law
local macro_rules | `(tactic| walk_at "ev") => `(tactic| simp only [mkF, enter, retF, trunc, sSeq, So.then_nx, So.then_rt, sSet, sRet, sRetN, sIf, sExpr, sNil, sPar, sAsg, ofG, gN, gsCons, gsNil, gTupT_tup, gTupT_Q, Out.then_ok, Out.then_ex, Out.bind_ok, Out.bind_ex, eVar, eD_eq, eOp, eCall, eBlt, aCons, aNil, eTup, eIf, eT, eNot, eAnd, eOr, tvAnd, tvOr, tvNot, eNeg, eIsi, isTy_d, isQ_tup, isQ_bool, isQ_int, isI_bool, isI_int, isI_tup, isB_bool, isB_int, ixQ0, ixQ1, truO_b, fzs_nil, fzs_d, gInt_eq, gAdd_int, gAbs_eq, fAdd_eq, fSub_eq, fLt_eq, fLe_eq, fGt_eq, fGe_eq, ix0, ix1, ix2, ix3, ix4, ix5, ofO_some, Option.map_some, Option.bind_some, List.length_cons, List.length_nil, List.map_cons, List.map_nil, List.replicate_succ, List.replicate_zero, List.cons_append, List.nil_append, List.getElem?_cons_zero, List.getElem?_cons_succ, List.set_cons_zero, List.set_cons_succ, List.take_length, Int.reduceEq, Int.reduceLT, Int.reduceLE, Nat.reduceSub, Nat.reduceAdd, Nat.reduceLeDiff, Nat.reduceLT, Nat.zero_add, Nat.add_zero, Nat.sub_self, if_true, if_false, reduceIte, Bool.false_eq_true, fitB, decide_true, decide_false, Bool.not_true, Bool.not_false])
/-! the numbers' defs -/
theorem w_shared (h : Hh) : ∀ (y x : Nat), ∃ z, sWhile (eT (eOp (gInt fGt) (eVar 1) (eD (.int 0)))) (sPar 0 1 (aCons (eVar 1) (aCons (eOp (gInt fMod) (eVar 0) (eVar 1)) (aNil)))) [some (.d (.int (x : Int))), some (.d (.int (y : Int)))] h = .nx [some (.d (.int (Nat.gcd x y : Nat))), some z] h := by
  intro y
  induction y using Nat.strongRecOn with
  | ind y ih =>
    intro x
    rw [sWhile_eq]
    by_cases hy : y = 0
    · subst hy
      refine ⟨.d (.int 0), ?_⟩
      walk_at "ev"
      simp
    · have hp : (0 : Int) < (y : Int) := by omega
      obtain ⟨z, e⟩ := ih (x % y) (Nat.mod_lt _ (by omega)) y
      refine ⟨z, ?_⟩
      have hn : ((y : Int)) ≠ 0 := by omega
      walk_at "ev"
      rw [decide_eq_true hp, fMod_eq hn, fmod_nat]
      walk_at "ev"
      rw [e, Nat.gcd_comm x y, Nat.gcd_rec y x, Nat.gcd_comm (x % y) y]
theorem sp_shared (x y : Int) (h : Hh) : m_shared [.d (.int x), .d (.int y)] h = .ok (.d (.int (Int.gcd x y : Nat))) h := by
  obtain ⟨z, e⟩ := w_shared h y.natAbs x.natAbs
  unfold m_shared b_shared
  walk_at "ev"
  rw [abs_eq, abs_eq, e]
  walk_at "ev"
  rfl
theorem sp_fraction {x y : Int} (hy : y ≠ 0) {n : Nat} (b : Bd n y) (hn : n ≤ 9000) (h : Hh) : m_fraction [.d (.int x), .d (.int y)] h = .ok (.d (Q (Rat.divInt x y))) h := by
  have hn0 : 0 < n := Nat.pos_of_ne_zero fun z => by
    subst z
    unfold Bd at b
    omega
  have hg : Int.gcd x y ≠ 0 := fun z => hy (Int.gcd_eq_zero_iff.mp z).2
  have hl : Int.gcd x y ≤ y.natAbs := Nat.gcd_le_right _ (by omega)
  obtain ⟨p1, p2⟩ := divInt_parts (x := x) hy
  unfold m_fraction b_fraction
  walk_at "ev"
  rw [sp_shared]
  walk_at "ev"
  by_cases hs : y < 0
  · rw [if_pos hs] at p1 p2
    have h0 : 0 - ((Int.gcd x y : Nat) : Int) ≠ 0 := by omega
    have hb : Bd n (0 - ((Int.gcd x y : Nat) : Int)) := b.le (by omega)
    rw [decide_eq_true hs]
    walk_at "ev"
    rw [fDiv_eq h0 (hb.divOk hn0 hn), fDiv_eq h0 (hb.divOk hn0 hn), p1, p2]
    walk_at "ev" <;> rfl
  · rw [if_neg hs] at p1 p2
    have h0 : ((Int.gcd x y : Nat) : Int) ≠ 0 := by omega
    have hb : Bd n ((Int.gcd x y : Nat) : Int) := b.le (by omega)
    rw [decide_eq_false hs]
    walk_at "ev"
    rw [fDiv_eq h0 (hb.divOk hn0 hn), fDiv_eq h0 (hb.divOk hn0 hn), p1, p2]
    walk_at "ev" <;> rfl
theorem sp_whole_of (n : Int) (h : Hh) : m_whole_of [.d (.int n)] h = .ok (.d (Q (n : Rat))) h := by
  unfold m_whole_of b_whole_of
  walk_at "ev"
  rw [Q_int]
theorem sp_plus {r s : Rat} {n m : Nat} (hr : BQ n r) (hs : BQ m s) (hl : n + m ≤ 9000) (h : Hh) : m_plus [.d (Q r), .d (Q s)] h = .ok (.d (Q (r + s))) h := by
  unfold m_plus b_plus Q
  walk_at "ev"
  rw [fMul_eq (hr.1.mulOk hs.2 (by omega)), fMul_eq (hs.1.mulOk hr.2 (by omega)), fMul_eq (hr.2.mulOk hs.2 (by omega))]
  walk_at "ev"
  rw [sp_fraction (Int.mul_ne_zero (den_ne r) (den_ne s)) (hr.2.mul hs.2) hl, add_divInt]
  walk_at "ev" <;> rfl
theorem sp_turned (r : Rat) (h : Hh) : m_turned [.d (Q r)] h = .ok (.d (Q (-r))) h := by
  rw [Q_neg]
  unfold m_turned b_turned Q
  walk_at "ev"
theorem sp_less {r s : Rat} {n m : Nat} (hr : BQ n r) (hs : BQ m s) (hl : n + m ≤ 9000) (h : Hh) : m_less [.d (Q r), .d (Q s)] h = .ok (.d (Q (r - s))) h := by
  unfold m_less b_less
  walk_at "ev"
  rw [sp_turned]
  walk_at "ev"
  rw [sp_plus hr hs.neg hl, ← Rat.sub_eq_add_neg]
  walk_at "ev"
theorem sp_times {r s : Rat} {n m : Nat} (hr : BQ n r) (hs : BQ m s) (hl : n + m ≤ 9000) (h : Hh) : m_times [.d (Q r), .d (Q s)] h = .ok (.d (Q (r * s))) h := by
  unfold m_times b_times Q
  walk_at "ev"
  rw [fMul_eq (hr.1.mulOk hs.1 (by omega)), fMul_eq (hr.2.mulOk hs.2 (by omega))]
  walk_at "ev"
  rw [sp_fraction (Int.mul_ne_zero (den_ne r) (den_ne s)) (hr.2.mul hs.2) hl, mul_divInt]
  walk_at "ev" <;> rfl
theorem sp_over {r s : Rat} {n m : Nat} (hr : BQ n r) (hs : BQ m s) (hl : n + m ≤ 9000) (h0 : s ≠ 0) (h : Hh) : m_over [.d (Q r), .d (Q s)] h = .ok (.d (Q (r / s))) h := by
  have hn : s.num ≠ 0 := fun z => h0 (Rat.num_eq_zero.mp z)
  unfold m_over b_over Q
  walk_at "ev"
  rw [fMul_eq (hr.1.mulOk hs.2 (by omega)), fMul_eq (hr.2.mulOk hs.1 (by omega))]
  walk_at "ev"
  rw [sp_fraction (Int.mul_ne_zero (den_ne r) hn) (hr.2.mul hs.1) hl, div_divInt]
  walk_at "ev" <;> rfl
theorem sp_size_of (r : Rat) (h : Hh) : m_size_of [.d (Q r)] h = .ok (.d (Q r.abs)) h := by
  rw [Q_abs]
  unfold m_size_of b_size_of Q
  walk_at "ev"
  rw [abs_eq]
theorem sp_is_less {r s : Rat} {n m : Nat} (hr : BQ n r) (hs : BQ m s) (hl : n + m ≤ 134217728) (h : Hh) : m_is_less [.d (Q r), .d (Q s)] h = .ok (.d (.bool (decide (r < s)))) h := by
  unfold m_is_less b_is_less Q
  walk_at "ev"
  rw [fMul_eq (hr.1.mulOk hs.2 (by omega)), fMul_eq (hs.1.mulOk hr.2 (by omega))]
  walk_at "ev"
  simp only [lt_num]
theorem w_power {N : Nat} (hN : 2 * N ≤ 134217728) (be ee : Option Vl) (h : Hh) : ∀ (l f s : Nat), 1 ≤ f → 1 ≤ s → Bd N ((f * s ^ l : Nat) : Int) → ∃ z,
    sWhile (eT (eOp (gInt fGt) (eVar 4) (eD (.int 0)))) (sSeq (sIf (eT (eOp gEq (eOp (gInt fMod) (eVar 4) (eD (.int 2))) (eD (.int 1)))) (sSet 2 (eOp (gInt fMul) (eVar 2) (eVar 3))) (sNil))
    (sSeq (sSet 4 (eOp (gInt fDiv) (eVar 4) (eD (.int 2))))
    (sSet 3 (eIf (eT (eOp (gInt fGt) (eVar 4) (eD (.int 0)))) (eOp (gInt fMul) (eVar 3) (eVar 3)) (eVar 3))))) [be, ee, some (.d (.int (f : Int))), some (.d (.int (s : Int))), some (.d (.int (l : Int)))] h
      = .nx [be, ee, some (.d (.int ((f * s ^ l : Nat) : Int))), some z, some (.d (.int 0))] h := by
  intro l
  induction l using Nat.strongRecOn with
  | ind l ih =>
    intro f s hf hs hb
    rw [sWhile_eq]
    by_cases hl : l = 0
    · subst hl
      refine ⟨.d (.int (s : Int)), ?_⟩
      walk_at "ev"
      simp
    · have hp : (0 : Int) < (l : Int) := by omega
      have sp : 1 ≤ s ^ (l - 1) := Nat.pow_pos hs
      have e0 : s ^ l = s ^ (l - 1) * s := by
        rw [← Nat.pow_succ]
        congr 1
        omega
      have le1 : s ≤ f * s ^ l := by
        rw [e0]
        exact Nat.le_trans (Nat.le_mul_of_pos_left s sp) (Nat.le_mul_of_pos_left _ hf)
      have le2 : f ≤ f * s ^ l := Nat.le_mul_of_pos_right f (Nat.pow_pos hs)
      have hbn : f * s ^ l < 2 ^ N := by
        unfold Bd at hb
        rw [Int.natAbs_natCast] at hb
        exact hb
      have bs : Bd N (s : Int) := bd_nat (Nat.lt_of_le_of_lt le1 hbn)
      have bf : Bd N (f : Int) := bd_nat (Nat.lt_of_le_of_lt le2 hbn)
      have d2 : fDiv (l : Int) 2 = some (.int ((l / 2 : Nat) : Int)) := by
        have := div_lit (a := (l : Int)) (k := 2) (by decide) (by decide)
        rw [show ((2 : Nat) : Int) = 2 from rfl, fdiv2] at this
        exact this
      -- the next state
      have key : ∀ f' : Nat, f' = (if l % 2 = 1 then f * s else f) → ∀ s' : Nat, s' = (if 0 < l / 2 then s * s else s) → f' * s' ^ (l / 2) = f * s ^ l := by
        rintro f' rfl s' rfl
        by_cases h2 : 0 < l / 2
        · rw [if_pos h2, ← Nat.pow_two, ← Nat.pow_mul]
          by_cases h1 : l % 2 = 1
          · rw [if_pos h1, Nat.mul_assoc, ← Nat.pow_succ']
            congr 2
            omega
          · rw [if_neg h1]
            congr 2
            omega
        · have h3 : l = 1 := by omega
          subst h3
          simp
      have hf1 : 1 ≤ (if l % 2 = 1 then f * s else f) := by split <;> first | exact hf | exact Nat.mul_pos hf hs
      have hs1 : 1 ≤ (if 0 < l / 2 then s * s else s) := by split <;> first | exact hs | exact Nat.mul_pos hs hs
      have kk := key _ rfl _ rfl
      obtain ⟨z, e⟩ := ih (l / 2) (by omega) _ _ hf1 hs1 (by rw [kk]; exact hb)
      rw [kk] at e
      refine ⟨z, ?_⟩
      have m2 : fMod (l : Int) 2 = some (.int ((l % 2 : Nat) : Int)) := by rw [fMod_eq (by decide), fmod2]
      have q1 := fMul_eq (bf.mulOk bs (by omega))
      have q2 := fMul_eq (bs.mulOk bs (by omega))
      by_cases h1 : l % 2 = 1 <;> by_cases h2 : 0 < l / 2
      · have g1 : ((l % 2 : Nat) : Int) = 1 := by omega
        have g2 : (0 : Int) < ((l / 2 : Nat) : Int) := by omega
        rw [if_pos h1, if_pos h2] at e
        simp only [mkF, enter, retF, trunc, sSeq, So.then_nx, So.then_rt, sSet, sRet, sRetN, sIf, sExpr, sNil, sPar, sAsg, ofG, gN, gsCons, gsNil, gTupT_tup, gTupT_Q, Out.then_ok, Out.then_ex, Out.bind_ok, Out.bind_ex, eVar, eD_eq, eOp, eCall, eBlt, aCons, aNil, eTup, eIf, eT, eNot, eAnd, eOr, tvAnd, tvOr, tvNot, eNeg, eIsi, isTy_d, isQ_tup, isQ_bool, isQ_int, isI_bool, isI_int, isI_tup, isB_bool, isB_int, ixQ0, ixQ1, truO_b, fzs_nil, fzs_d, gInt_eq, gAdd_int, gAbs_eq, fAdd_eq, fSub_eq, fLt_eq, fLe_eq, fGt_eq, fGe_eq, ix0, ix1, ix2, ix3, ix4, ix5, ofO_some, Option.map_some, Option.bind_some, List.length_cons, List.length_nil, List.map_cons, List.map_nil, List.replicate_succ, List.replicate_zero, List.cons_append, List.nil_append, List.getElem?_cons_zero, List.getElem?_cons_succ, List.set_cons_zero, List.set_cons_succ, List.take_length, Int.reduceEq, Int.reduceLT, Int.reduceLE, Nat.reduceSub, Nat.reduceAdd, Nat.reduceLeDiff, Nat.reduceLT, Nat.zero_add, Nat.add_zero, Nat.sub_self, if_true, if_false, reduceIte, Bool.false_eq_true, fitB, decide_true, decide_false, Bool.not_true, Bool.not_false, gEq_int, m2, d2, g1, q1, q2, hp, g2, decide_true, ← Int.natCast_mul]
        exact e
      · have g1 : ((l % 2 : Nat) : Int) = 1 := by omega
        have g2 : ¬ (0 : Int) < ((l / 2 : Nat) : Int) := by omega
        rw [if_pos h1, if_neg h2] at e
        simp only [mkF, enter, retF, trunc, sSeq, So.then_nx, So.then_rt, sSet, sRet, sRetN, sIf, sExpr, sNil, sPar, sAsg, ofG, gN, gsCons, gsNil, gTupT_tup, gTupT_Q, Out.then_ok, Out.then_ex, Out.bind_ok, Out.bind_ex, eVar, eD_eq, eOp, eCall, eBlt, aCons, aNil, eTup, eIf, eT, eNot, eAnd, eOr, tvAnd, tvOr, tvNot, eNeg, eIsi, isTy_d, isQ_tup, isQ_bool, isQ_int, isI_bool, isI_int, isI_tup, isB_bool, isB_int, ixQ0, ixQ1, truO_b, fzs_nil, fzs_d, gInt_eq, gAdd_int, gAbs_eq, fAdd_eq, fSub_eq, fLt_eq, fLe_eq, fGt_eq, fGe_eq, ix0, ix1, ix2, ix3, ix4, ix5, ofO_some, Option.map_some, Option.bind_some, List.length_cons, List.length_nil, List.map_cons, List.map_nil, List.replicate_succ, List.replicate_zero, List.cons_append, List.nil_append, List.getElem?_cons_zero, List.getElem?_cons_succ, List.set_cons_zero, List.set_cons_succ, List.take_length, Int.reduceEq, Int.reduceLT, Int.reduceLE, Nat.reduceSub, Nat.reduceAdd, Nat.reduceLeDiff, Nat.reduceLT, Nat.zero_add, Nat.add_zero, Nat.sub_self, if_true, if_false, reduceIte, Bool.false_eq_true, fitB, decide_true, decide_false, Bool.not_true, Bool.not_false, gEq_int, m2, d2, g1, q1, q2, hp, g2, decide_true, ← Int.natCast_mul]
        exact e
      · have g1 : ¬ ((l % 2 : Nat) : Int) = 1 := by omega
        have g2 : (0 : Int) < ((l / 2 : Nat) : Int) := by omega
        rw [if_neg h1, if_pos h2] at e
        simp only [mkF, enter, retF, trunc, sSeq, So.then_nx, So.then_rt, sSet, sRet, sRetN, sIf, sExpr, sNil, sPar, sAsg, ofG, gN, gsCons, gsNil, gTupT_tup, gTupT_Q, Out.then_ok, Out.then_ex, Out.bind_ok, Out.bind_ex, eVar, eD_eq, eOp, eCall, eBlt, aCons, aNil, eTup, eIf, eT, eNot, eAnd, eOr, tvAnd, tvOr, tvNot, eNeg, eIsi, isTy_d, isQ_tup, isQ_bool, isQ_int, isI_bool, isI_int, isI_tup, isB_bool, isB_int, ixQ0, ixQ1, truO_b, fzs_nil, fzs_d, gInt_eq, gAdd_int, gAbs_eq, fAdd_eq, fSub_eq, fLt_eq, fLe_eq, fGt_eq, fGe_eq, ix0, ix1, ix2, ix3, ix4, ix5, ofO_some, Option.map_some, Option.bind_some, List.length_cons, List.length_nil, List.map_cons, List.map_nil, List.replicate_succ, List.replicate_zero, List.cons_append, List.nil_append, List.getElem?_cons_zero, List.getElem?_cons_succ, List.set_cons_zero, List.set_cons_succ, List.take_length, Int.reduceEq, Int.reduceLT, Int.reduceLE, Nat.reduceSub, Nat.reduceAdd, Nat.reduceLeDiff, Nat.reduceLT, Nat.zero_add, Nat.add_zero, Nat.sub_self, if_true, if_false, reduceIte, Bool.false_eq_true, fitB, decide_true, decide_false, Bool.not_true, Bool.not_false, gEq_int, m2, d2, g1, q1, q2, hp, g2, decide_true, ← Int.natCast_mul]
        exact e
      · have g1 : ¬ ((l % 2 : Nat) : Int) = 1 := by omega
        have g2 : ¬ (0 : Int) < ((l / 2 : Nat) : Int) := by omega
        rw [if_neg h1, if_neg h2] at e
        simp only [mkF, enter, retF, trunc, sSeq, So.then_nx, So.then_rt, sSet, sRet, sRetN, sIf, sExpr, sNil, sPar, sAsg, ofG, gN, gsCons, gsNil, gTupT_tup, gTupT_Q, Out.then_ok, Out.then_ex, Out.bind_ok, Out.bind_ex, eVar, eD_eq, eOp, eCall, eBlt, aCons, aNil, eTup, eIf, eT, eNot, eAnd, eOr, tvAnd, tvOr, tvNot, eNeg, eIsi, isTy_d, isQ_tup, isQ_bool, isQ_int, isI_bool, isI_int, isI_tup, isB_bool, isB_int, ixQ0, ixQ1, truO_b, fzs_nil, fzs_d, gInt_eq, gAdd_int, gAbs_eq, fAdd_eq, fSub_eq, fLt_eq, fLe_eq, fGt_eq, fGe_eq, ix0, ix1, ix2, ix3, ix4, ix5, ofO_some, Option.map_some, Option.bind_some, List.length_cons, List.length_nil, List.map_cons, List.map_nil, List.replicate_succ, List.replicate_zero, List.cons_append, List.nil_append, List.getElem?_cons_zero, List.getElem?_cons_succ, List.set_cons_zero, List.set_cons_succ, List.take_length, Int.reduceEq, Int.reduceLT, Int.reduceLE, Nat.reduceSub, Nat.reduceAdd, Nat.reduceLeDiff, Nat.reduceLT, Nat.zero_add, Nat.add_zero, Nat.sub_self, if_true, if_false, reduceIte, Bool.false_eq_true, fitB, decide_true, decide_false, Bool.not_true, Bool.not_false, gEq_int, m2, d2, g1, q1, q2, hp, g2, decide_true, ← Int.natCast_mul]
        exact e
theorem sp_power {b : Nat} {e : Int} {N : Nat} (hb : 1 ≤ b) (hN : 2 * N ≤ 134217728) (bd : Bd N ((b ^ e.natAbs : Nat) : Int)) (h : Hh) : m_power [.d (.int (b : Int)), .d (.int e)] h = .ok (.d (Q ((b : Rat) ^ e))) h := by
  obtain ⟨z, ez⟩ := w_power hN (some (.d (.int (b : Int)))) (some (.d (.int e))) h e.natAbs 1 b (Nat.le_refl 1) hb (by rw [Nat.one_mul]; exact bd)
  unfold m_power b_power
  walk_at "ev"
  rw [abs_eq]
  rw [Nat.one_mul] at ez
  have ez' : sWhile (eT (eOp (gInt fGt) (eVar 4) (eD (.int 0)))) (sSeq (sIf (eT (eOp gEq (eOp (gInt fMod) (eVar 4) (eD (.int 2))) (eD (.int 1)))) (sSet 2 (eOp (gInt fMul) (eVar 2) (eVar 3))) (sNil))
    (sSeq (sSet 4 (eOp (gInt fDiv) (eVar 4) (eD (.int 2))))
    (sSet 3 (eIf (eT (eOp (gInt fGt) (eVar 4) (eD (.int 0)))) (eOp (gInt fMul) (eVar 3) (eVar 3)) (eVar 3))))) [some (.d (.int (b : Int))), some (.d (.int e)), some (.d (.int 1)), some (.d (.int (b : Int))), some (.d (.int (e.natAbs : Int)))] h = _ := ez
  rw [ez']
  walk_at "ev"
  by_cases he : 0 ≤ e
  · have ee : e = (e.natAbs : Int) := by omega
    rw [decide_eq_true he]
    walk_at "ev"
    have q := Q_pow b e.natAbs
    rw [← ee] at q
    rw [q]
  · have ee : e = -(e.natAbs : Int) := by omega
    rw [decide_eq_false he]
    walk_at "ev"
    have q := Q_powneg b e.natAbs hb
    rw [← ee] at q
    rw [q]

/-! the laws' own drawing -/
theorem sp_mixed (a : Int) (k : Nat) (hk : k < 2 ^ 32) (h : Hh) : ∃ v : Int, m__law_mixed [.d (.int a), .d (.int (k : Int))] h = .ok (.d (.int v)) h ∧ 0 ≤ v ∧ v < 2147483629 := by
  have bk : Bd 64 (k : Int) := bd_nat (Nat.lt_trans hk (by decide))
  have q1 : fMod a 2147483647 = some (.int (a.fmod 2147483647)) := fMod_eq (by decide)
  have q2 : fMul 7919 (k : Int) = some (.int (7919 * (k : Int))) := fMul_eq (mulOk_smallR bk)
  have q3 : fMul (7919 * (k : Int)) (k : Int) = some (.int (7919 * (k : Int) * (k : Int))) := fMul_eq (mulOk_smallR bk)
  have q4 : fMul 31 (k : Int) = some (.int (31 * (k : Int))) := fMul_eq (mulOk_smallR bk)
  have q5 : ∀ z : Int, fMul z 48271 = some (.int (z * 48271)) := fun z => fMul_eq (mulOk_smallR (bd_lit 48271 (by decide) (by decide) (by decide)))
  have q6 : ∀ z : Int, fMod z 2147483647 = some (.int (z.fmod 2147483647)) := fun z => fMod_eq (by decide)
  have q7 : fMul 2 (k : Int) = some (.int (2 * (k : Int))) := fMul_eq (mulOk_smallR bk)
  have q8 : ∀ z : Int, fMul z (69621 + 2 * (k : Int)) = some (.int (z * (69621 + 2 * (k : Int)))) := fun z => fMul_eq (mulOk_smallR (bd_lit (69621 + 2 * 2 ^ 32) (by omega) (by omega) (by decide)))
  have q9 : ∀ z : Int, fMod z 2147483629 = some (.int (z.fmod 2147483629)) := fun z => fMod_eq (by decide)
  refine ⟨_, ?_, fmod_bd (x := ((a.fmod 2147483647 + 7919 * (k : Int) * (k : Int) + 31 * (k : Int)) * 48271).fmod 2147483647 * (69621 + 2 * (k : Int))) (by decide)⟩
  unfold m__law_mixed b__law_mixed
  simp only [mkF, enter, retF, trunc, sSeq, So.then_nx, So.then_rt, sSet, sRet, sRetN, sIf, sExpr, sNil, sPar, sAsg, ofG, gN, gsCons, gsNil, gTupT_tup, gTupT_Q, Out.then_ok, Out.then_ex, Out.bind_ok, Out.bind_ex, eVar, eD_eq, eOp, eCall, eBlt, aCons, aNil, eTup, eIf, eT, eNot, eAnd, eOr, tvAnd, tvOr, tvNot, eNeg, eIsi, isTy_d, isQ_tup, isQ_bool, isQ_int, isI_bool, isI_int, isI_tup, isB_bool, isB_int, ixQ0, ixQ1, truO_b, fzs_nil, fzs_d, gInt_eq, gAdd_int, gAbs_eq, fAdd_eq, fSub_eq, fLt_eq, fLe_eq, fGt_eq, fGe_eq, ix0, ix1, ix2, ix3, ix4, ix5, ofO_some, Option.map_some, Option.bind_some, List.length_cons, List.length_nil, List.map_cons, List.map_nil, List.replicate_succ, List.replicate_zero, List.cons_append, List.nil_append, List.getElem?_cons_zero, List.getElem?_cons_succ, List.set_cons_zero, List.set_cons_succ, List.take_length, Int.reduceEq, Int.reduceLT, Int.reduceLE, Nat.reduceSub, Nat.reduceAdd, Nat.reduceLeDiff, Nat.reduceLT, Nat.zero_add, Nat.add_zero, Nat.sub_self, if_true, if_false, reduceIte, Bool.false_eq_true, fitB, decide_true, decide_false, Bool.not_true, Bool.not_false, q1, q2, q3, q4, q5, q6, q7, q8, q9]
theorem sp_take {K : Nat} {xs : List Da} (st : Strm K xs) (hK : K < 2 ^ 30) {n : Nat} {h : Hh} (e : h[n]? = some (some (.lst xs))) {many : Int} (hm : 0 < many) (hm2 : many < 2 ^ 62) :
    ∃ (v : Int) (xs' : List Da), m__law_take [.r n, .d (.int many)] h = .ok (.d (.int v)) (h.set n (some (.lst xs'))) ∧ 0 ≤ v ∧ v < many ∧ Strm (K + 1) xs' := by
  obtain ⟨c, x, k, m, rfl, hk⟩ := st
  have hn : n < h.length := (List.getElem?_eq_some_iff.mp e).1
  have e1 := get_set (o := some (.lst [.bool c, .int x, .int ((k : Int) + 1), .int m])) hn
  obtain ⟨v1, m1, _, _⟩ := sp_mixed m (k + 1) (by omega) (h.set n (some (.lst [.bool c, .int x, .int ((k : Int) + 1), .int m])))
  rw [Int.natCast_add, show ((1 : Nat) : Int) = 1 from rfl] at m1
  obtain ⟨v2, m2, _, _⟩ := sp_mixed v1 7 (by decide) (h.set n (some (.lst [.bool c, .int x, .int ((k : Int) + 1), .int m])))
  rw [show ((7 : Nat) : Int) = 7 from rfl] at m2
  have q1 : ∀ z, fMod z many = some (.int (z.fmod many)) := fun z => fMod_eq (by omega)
  have q2 : fDiv x many = some (.int (x.fdiv many)) := fDiv_eq (by omega) (Bd.divOk (n := 64) (bd_lit (2 ^ 62) (by omega) (by omega) (by decide)) (by decide) (by decide))
  have tl : (h.set n (some (.lst [.bool c, .int x, .int ((k : Int) + 1), .int m]))).take h.length = h.set n (some (.lst [.bool c, .int x, .int ((k : Int) + 1), .int m])) := List.take_of_length_le (by rw [List.length_set]; exact Nat.le_refl _)
  have st' : ∀ y : Int, Strm (K + 1) [.bool c, .int y, .int ((k : Int) + 1), .int m] := fun y => ⟨c, y, k + 1, m, by rw [Int.natCast_add]; rfl, by omega⟩
  have tl2 : ∀ o : Option Ob, (h.set n o).take h.length = h.set n o := fun o => List.take_of_length_le (by rw [List.length_set]; exact Nat.le_refl _)
  by_cases hc : c = true ∧ ¬ x = 0 ∧ ¬ x = -1 ∧ ¬ (60 : Int) < (k : Int) + 1
  · obtain ⟨rfl, h1, h2, h3⟩ := hc
    refine ⟨x.fmod many, _, ?_, (fmod_bd hm).1, (fmod_bd hm).2, st' (x.fdiv many)⟩
    unfold m__law_take b__law_take
    simp only [mkF, enter, retF, trunc, sSeq, So.then_nx, So.then_rt, sSet, sRet, sRetN, sIf, sExpr, sNil, sPar, sAsg, ofG, gN, gsCons, gsNil, gTupT_tup, gTupT_Q, Out.then_ok, Out.then_ex, Out.bind_ok, Out.bind_ex, eVar, eD_eq, eOp, eCall, eBlt, aCons, aNil, eTup, eIf, eT, eNot, eAnd, eOr, tvAnd, tvOr, tvNot, eNeg, eIsi, isTy_d, isQ_tup, isQ_bool, isQ_int, isI_bool, isI_int, isI_tup, isB_bool, isB_int, ixQ0, ixQ1, truO_b, fzs_nil, fzs_d, gInt_eq, gAdd_int, gAbs_eq, fAdd_eq, fSub_eq, fLt_eq, fLe_eq, fGt_eq, fGe_eq, ix0, ix1, ix2, ix3, ix4, ix5, ofO_some, Option.map_some, Option.bind_some, List.length_cons, List.length_nil, List.map_cons, List.map_nil, List.replicate_succ, List.replicate_zero, List.cons_append, List.nil_append, List.getElem?_cons_zero, List.getElem?_cons_succ, List.set_cons_zero, List.set_cons_succ, List.take_length, Int.reduceEq, Int.reduceLT, Int.reduceLE, Nat.reduceSub, Nat.reduceAdd, Nat.reduceLeDiff, Nat.reduceLT, Nat.zero_add, Nat.add_zero, Nat.sub_self, if_true, if_false, reduceIte, Bool.false_eq_true, fitB, decide_true, decide_false, Bool.not_true, Bool.not_false, gSetL_eq, okO_ok, ixS2 e, setS2 e, ixS0 e1, ixS1 e1, ixS2 e1, ixS3 e1, setS1 e1, gIn01, h1, h2, h3, Bool.or_self, q1, q2, List.set_set, tl2]
  · refine ⟨v2.fmod many, _, ?_, (fmod_bd hm).1, (fmod_bd hm).2, st' x⟩
    unfold m__law_take b__law_take
    cases c with
    | false => simp only [mkF, enter, retF, trunc, sSeq, So.then_nx, So.then_rt, sSet, sRet, sRetN, sIf, sExpr, sNil, sPar, sAsg, ofG, gN, gsCons, gsNil, gTupT_tup, gTupT_Q, Out.then_ok, Out.then_ex, Out.bind_ok, Out.bind_ex, eVar, eD_eq, eOp, eCall, eBlt, aCons, aNil, eTup, eIf, eT, eNot, eAnd, eOr, tvAnd, tvOr, tvNot, eNeg, eIsi, isTy_d, isQ_tup, isQ_bool, isQ_int, isI_bool, isI_int, isI_tup, isB_bool, isB_int, ixQ0, ixQ1, truO_b, fzs_nil, fzs_d, gInt_eq, gAdd_int, gAbs_eq, fAdd_eq, fSub_eq, fLt_eq, fLe_eq, fGt_eq, fGe_eq, ix0, ix1, ix2, ix3, ix4, ix5, ofO_some, Option.map_some, Option.bind_some, List.length_cons, List.length_nil, List.map_cons, List.map_nil, List.replicate_succ, List.replicate_zero, List.cons_append, List.nil_append, List.getElem?_cons_zero, List.getElem?_cons_succ, List.set_cons_zero, List.set_cons_succ, List.take_length, Int.reduceEq, Int.reduceLT, Int.reduceLE, Nat.reduceSub, Nat.reduceAdd, Nat.reduceLeDiff, Nat.reduceLT, Nat.zero_add, Nat.add_zero, Nat.sub_self, if_true, if_false, reduceIte, Bool.false_eq_true, fitB, decide_true, decide_false, Bool.not_true, Bool.not_false, gSetL_eq, okO_ok, ixS2 e, setS2 e, ixS0 e1, ixS1 e1, ixS2 e1, ixS3 e1, gIn01, m1, m2, q1, tl2]
    | true =>
      by_cases h1 : x = 0 ∨ x = -1
      · have hb : (decide (x = 0) || decide (x = -1)) = true := by
          rcases h1 with z | z <;> simp [z]
        simp only [mkF, enter, retF, trunc, sSeq, So.then_nx, So.then_rt, sSet, sRet, sRetN, sIf, sExpr, sNil, sPar, sAsg, ofG, gN, gsCons, gsNil, gTupT_tup, gTupT_Q, Out.then_ok, Out.then_ex, Out.bind_ok, Out.bind_ex, eVar, eD_eq, eOp, eCall, eBlt, aCons, aNil, eTup, eIf, eT, eNot, eAnd, eOr, tvAnd, tvOr, tvNot, eNeg, eIsi, isTy_d, isQ_tup, isQ_bool, isQ_int, isI_bool, isI_int, isI_tup, isB_bool, isB_int, ixQ0, ixQ1, truO_b, fzs_nil, fzs_d, gInt_eq, gAdd_int, gAbs_eq, fAdd_eq, fSub_eq, fLt_eq, fLe_eq, fGt_eq, fGe_eq, ix0, ix1, ix2, ix3, ix4, ix5, ofO_some, Option.map_some, Option.bind_some, List.length_cons, List.length_nil, List.map_cons, List.map_nil, List.replicate_succ, List.replicate_zero, List.cons_append, List.nil_append, List.getElem?_cons_zero, List.getElem?_cons_succ, List.set_cons_zero, List.set_cons_succ, List.take_length, Int.reduceEq, Int.reduceLT, Int.reduceLE, Nat.reduceSub, Nat.reduceAdd, Nat.reduceLeDiff, Nat.reduceLT, Nat.zero_add, Nat.add_zero, Nat.sub_self, if_true, if_false, reduceIte, Bool.false_eq_true, fitB, decide_true, decide_false, Bool.not_true, Bool.not_false, gSetL_eq, okO_ok, ixS2 e, setS2 e, ixS0 e1, ixS1 e1, ixS2 e1, ixS3 e1, gIn01, hb, m1, m2, q1, tl2]
      · have ha : ¬ x = 0 := fun z => h1 (.inl z)
        have hb : ¬ x = -1 := fun z => h1 (.inr z)
        have h3 : (60 : Int) < (k : Int) + 1 := by
          rcases Int.lt_or_le 60 ((k : Int) + 1) with z | z
          · exact z
          · exact absurd ⟨rfl, ha, hb, by omega⟩ hc
        simp only [mkF, enter, retF, trunc, sSeq, So.then_nx, So.then_rt, sSet, sRet, sRetN, sIf, sExpr, sNil, sPar, sAsg, ofG, gN, gsCons, gsNil, gTupT_tup, gTupT_Q, Out.then_ok, Out.then_ex, Out.bind_ok, Out.bind_ex, eVar, eD_eq, eOp, eCall, eBlt, aCons, aNil, eTup, eIf, eT, eNot, eAnd, eOr, tvAnd, tvOr, tvNot, eNeg, eIsi, isTy_d, isQ_tup, isQ_bool, isQ_int, isI_bool, isI_int, isI_tup, isB_bool, isB_int, ixQ0, ixQ1, truO_b, fzs_nil, fzs_d, gInt_eq, gAdd_int, gAbs_eq, fAdd_eq, fSub_eq, fLt_eq, fLe_eq, fGt_eq, fGe_eq, ix0, ix1, ix2, ix3, ix4, ix5, ofO_some, Option.map_some, Option.bind_some, List.length_cons, List.length_nil, List.map_cons, List.map_nil, List.replicate_succ, List.replicate_zero, List.cons_append, List.nil_append, List.getElem?_cons_zero, List.getElem?_cons_succ, List.set_cons_zero, List.set_cons_succ, List.take_length, Int.reduceEq, Int.reduceLT, Int.reduceLE, Nat.reduceSub, Nat.reduceAdd, Nat.reduceLeDiff, Nat.reduceLT, Nat.zero_add, Nat.add_zero, Nat.sub_self, if_true, if_false, reduceIte, Bool.false_eq_true, fitB, decide_true, decide_false, Bool.not_true, Bool.not_false, gSetL_eq, okO_ok, ixS2 e, setS2 e, ixS0 e1, ixS1 e1, ixS2 e1, ixS3 e1, gIn01, ha, hb, h3, Bool.or_self, m1, m2, q1, tl2]
theorem w_lowest (A B P : Option Vl) (h : Hh) : ∀ (s x y : Nat), x + y ≤ s → ∃ x' y' : Nat, x' + y' = Nat.gcd x y ∧
    sWhile (tvAnd (eT (eOp (gInt fGt) (eVar 2) (eD (.int 0)))) (eT (eOp (gInt fGt) (eVar 3) (eD (.int 0))))) (sIf (eT (eOp (gInt fGe) (eVar 2) (eVar 3))) (sSet 2 (eOp (gInt fMod) (eVar 2) (eVar 3))) (sSet 3 (eOp (gInt fMod) (eVar 3) (eVar 2)))) [A, B, some (.d (.int (x : Int))), some (.d (.int (y : Int))), P] h
      = .nx [A, B, some (.d (.int (x' : Int))), some (.d (.int (y' : Int))), P] h := by
  intro s
  induction s with
  | zero =>
    intro x y hs
    have hx : x = 0 := by omega
    have hy : y = 0 := by omega
    subst hx hy
    refine ⟨0, 0, rfl, ?_⟩
    rw [sWhile_eq]
    have z0 : ¬ (0 : Int) < ((0 : Nat) : Int) := by decide
    simp only [mkF, enter, retF, trunc, sSeq, So.then_nx, So.then_rt, sSet, sRet, sRetN, sIf, sExpr, sNil, sPar, sAsg, ofG, gN, gsCons, gsNil, gTupT_tup, gTupT_Q, Out.then_ok, Out.then_ex, Out.bind_ok, Out.bind_ex, eVar, eD_eq, eOp, eCall, eBlt, aCons, aNil, eTup, eIf, eT, eNot, eAnd, eOr, tvAnd, tvOr, tvNot, eNeg, eIsi, isTy_d, isQ_tup, isQ_bool, isQ_int, isI_bool, isI_int, isI_tup, isB_bool, isB_int, ixQ0, ixQ1, truO_b, fzs_nil, fzs_d, gInt_eq, gAdd_int, gAbs_eq, fAdd_eq, fSub_eq, fLt_eq, fLe_eq, fGt_eq, fGe_eq, ix0, ix1, ix2, ix3, ix4, ix5, ofO_some, Option.map_some, Option.bind_some, List.length_cons, List.length_nil, List.map_cons, List.map_nil, List.replicate_succ, List.replicate_zero, List.cons_append, List.nil_append, List.getElem?_cons_zero, List.getElem?_cons_succ, List.set_cons_zero, List.set_cons_succ, List.take_length, Int.reduceEq, Int.reduceLT, Int.reduceLE, Nat.reduceSub, Nat.reduceAdd, Nat.reduceLeDiff, Nat.reduceLT, Nat.zero_add, Nat.add_zero, Nat.sub_self, if_true, if_false, reduceIte, Bool.false_eq_true, fitB, decide_true, decide_false, Bool.not_true, Bool.not_false, z0]
  | succ s ih =>
    intro x y hs
    rw [sWhile_eq]
    by_cases hx : x = 0
    · subst hx
      refine ⟨0, y, by simp, ?_⟩
      have z0 : ¬ (0 : Int) < ((0 : Nat) : Int) := by decide
      simp only [mkF, enter, retF, trunc, sSeq, So.then_nx, So.then_rt, sSet, sRet, sRetN, sIf, sExpr, sNil, sPar, sAsg, ofG, gN, gsCons, gsNil, gTupT_tup, gTupT_Q, Out.then_ok, Out.then_ex, Out.bind_ok, Out.bind_ex, eVar, eD_eq, eOp, eCall, eBlt, aCons, aNil, eTup, eIf, eT, eNot, eAnd, eOr, tvAnd, tvOr, tvNot, eNeg, eIsi, isTy_d, isQ_tup, isQ_bool, isQ_int, isI_bool, isI_int, isI_tup, isB_bool, isB_int, ixQ0, ixQ1, truO_b, fzs_nil, fzs_d, gInt_eq, gAdd_int, gAbs_eq, fAdd_eq, fSub_eq, fLt_eq, fLe_eq, fGt_eq, fGe_eq, ix0, ix1, ix2, ix3, ix4, ix5, ofO_some, Option.map_some, Option.bind_some, List.length_cons, List.length_nil, List.map_cons, List.map_nil, List.replicate_succ, List.replicate_zero, List.cons_append, List.nil_append, List.getElem?_cons_zero, List.getElem?_cons_succ, List.set_cons_zero, List.set_cons_succ, List.take_length, Int.reduceEq, Int.reduceLT, Int.reduceLE, Nat.reduceSub, Nat.reduceAdd, Nat.reduceLeDiff, Nat.reduceLT, Nat.zero_add, Nat.add_zero, Nat.sub_self, if_true, if_false, reduceIte, Bool.false_eq_true, fitB, decide_true, decide_false, Bool.not_true, Bool.not_false, z0]
    · have gx : (0 : Int) < (x : Int) := by omega
      by_cases hy : y = 0
      · subst hy
        refine ⟨x, 0, by simp, ?_⟩
        have z0 : ¬ (0 : Int) < ((0 : Nat) : Int) := by decide
        simp only [mkF, enter, retF, trunc, sSeq, So.then_nx, So.then_rt, sSet, sRet, sRetN, sIf, sExpr, sNil, sPar, sAsg, ofG, gN, gsCons, gsNil, gTupT_tup, gTupT_Q, Out.then_ok, Out.then_ex, Out.bind_ok, Out.bind_ex, eVar, eD_eq, eOp, eCall, eBlt, aCons, aNil, eTup, eIf, eT, eNot, eAnd, eOr, tvAnd, tvOr, tvNot, eNeg, eIsi, isTy_d, isQ_tup, isQ_bool, isQ_int, isI_bool, isI_int, isI_tup, isB_bool, isB_int, ixQ0, ixQ1, truO_b, fzs_nil, fzs_d, gInt_eq, gAdd_int, gAbs_eq, fAdd_eq, fSub_eq, fLt_eq, fLe_eq, fGt_eq, fGe_eq, ix0, ix1, ix2, ix3, ix4, ix5, ofO_some, Option.map_some, Option.bind_some, List.length_cons, List.length_nil, List.map_cons, List.map_nil, List.replicate_succ, List.replicate_zero, List.cons_append, List.nil_append, List.getElem?_cons_zero, List.getElem?_cons_succ, List.set_cons_zero, List.set_cons_succ, List.take_length, Int.reduceEq, Int.reduceLT, Int.reduceLE, Nat.reduceSub, Nat.reduceAdd, Nat.reduceLeDiff, Nat.reduceLT, Nat.zero_add, Nat.add_zero, Nat.sub_self, if_true, if_false, reduceIte, Bool.false_eq_true, fitB, decide_true, decide_false, Bool.not_true, Bool.not_false, gx, z0]
      · have gy : (0 : Int) < (y : Int) := by omega
        have m1 : fMod (x : Int) (y : Int) = some (.int ((x % y : Nat) : Int)) := by rw [fMod_eq (by omega), fmod_nat]
        have m2 : fMod (y : Int) (x : Int) = some (.int ((y % x : Nat) : Int)) := by rw [fMod_eq (by omega), fmod_nat]
        have l1 := Nat.mod_lt x (show 0 < y by omega)
        have l2 := Nat.mod_lt y (show 0 < x by omega)
        by_cases hg : (y : Int) ≤ (x : Int)
        · obtain ⟨x', y', e1, e2⟩ := ih (x % y) y (by omega)
          refine ⟨x', y', by rw [e1, Nat.gcd_comm x y, Nat.gcd_rec y x], ?_⟩
          simp only [mkF, enter, retF, trunc, sSeq, So.then_nx, So.then_rt, sSet, sRet, sRetN, sIf, sExpr, sNil, sPar, sAsg, ofG, gN, gsCons, gsNil, gTupT_tup, gTupT_Q, Out.then_ok, Out.then_ex, Out.bind_ok, Out.bind_ex, eVar, eD_eq, eOp, eCall, eBlt, aCons, aNil, eTup, eIf, eT, eNot, eAnd, eOr, tvAnd, tvOr, tvNot, eNeg, eIsi, isTy_d, isQ_tup, isQ_bool, isQ_int, isI_bool, isI_int, isI_tup, isB_bool, isB_int, ixQ0, ixQ1, truO_b, fzs_nil, fzs_d, gInt_eq, gAdd_int, gAbs_eq, fAdd_eq, fSub_eq, fLt_eq, fLe_eq, fGt_eq, fGe_eq, ix0, ix1, ix2, ix3, ix4, ix5, ofO_some, Option.map_some, Option.bind_some, List.length_cons, List.length_nil, List.map_cons, List.map_nil, List.replicate_succ, List.replicate_zero, List.cons_append, List.nil_append, List.getElem?_cons_zero, List.getElem?_cons_succ, List.set_cons_zero, List.set_cons_succ, List.take_length, Int.reduceEq, Int.reduceLT, Int.reduceLE, Nat.reduceSub, Nat.reduceAdd, Nat.reduceLeDiff, Nat.reduceLT, Nat.zero_add, Nat.add_zero, Nat.sub_self, if_true, if_false, reduceIte, Bool.false_eq_true, fitB, decide_true, decide_false, Bool.not_true, Bool.not_false, gx, gy, hg, m1]
          exact e2
        · obtain ⟨x', y', e1, e2⟩ := ih x (y % x) (by omega)
          refine ⟨x', y', by rw [e1, Nat.gcd_rec x y, Nat.gcd_comm], ?_⟩
          simp only [mkF, enter, retF, trunc, sSeq, So.then_nx, So.then_rt, sSet, sRet, sRetN, sIf, sExpr, sNil, sPar, sAsg, ofG, gN, gsCons, gsNil, gTupT_tup, gTupT_Q, Out.then_ok, Out.then_ex, Out.bind_ok, Out.bind_ex, eVar, eD_eq, eOp, eCall, eBlt, aCons, aNil, eTup, eIf, eT, eNot, eAnd, eOr, tvAnd, tvOr, tvNot, eNeg, eIsi, isTy_d, isQ_tup, isQ_bool, isQ_int, isI_bool, isI_int, isI_tup, isB_bool, isB_int, ixQ0, ixQ1, truO_b, fzs_nil, fzs_d, gInt_eq, gAdd_int, gAbs_eq, fAdd_eq, fSub_eq, fLt_eq, fLe_eq, fGt_eq, fGe_eq, ix0, ix1, ix2, ix3, ix4, ix5, ofO_some, Option.map_some, Option.bind_some, List.length_cons, List.length_nil, List.map_cons, List.map_nil, List.replicate_succ, List.replicate_zero, List.cons_append, List.nil_append, List.getElem?_cons_zero, List.getElem?_cons_succ, List.set_cons_zero, List.set_cons_succ, List.take_length, Int.reduceEq, Int.reduceLT, Int.reduceLE, Nat.reduceSub, Nat.reduceAdd, Nat.reduceLeDiff, Nat.reduceLT, Nat.zero_add, Nat.add_zero, Nat.sub_self, if_true, if_false, reduceIte, Bool.false_eq_true, fitB, decide_true, decide_false, Bool.not_true, Bool.not_false, gx, gy, hg, m2]
          exact e2
theorem sp_lowest {x y : Int} (hy : y ≠ 0) {n : Nat} (b : Bd n y) (hn : n ≤ 9000) (h : Hh) : m__law_lowest [.d (.int x), .d (.int y)] h = .ok (.d (Q (Rat.divInt x y))) h := by
  have hn0 : 0 < n := Nat.pos_of_ne_zero fun z => by
    subst z
    unfold Bd at b
    omega
  have hg : Int.gcd x y ≠ 0 := fun z => hy (Int.gcd_eq_zero_iff.mp z).2
  have hl : Int.gcd x y ≤ y.natAbs := Nat.gcd_le_right _ (by omega)
  obtain ⟨p1, p2⟩ := divInt_parts (x := x) hy
  obtain ⟨x', y', e1, e2⟩ := w_lowest (some (.d (.int x))) (some (.d (.int y))) none h _ x.natAbs y.natAbs (Nat.le_refl _)
  have e3 : (x' : Int) + (y' : Int) = ((Int.gcd x y : Nat) : Int) := by
    have : x' + y' = Int.gcd x y := e1
    omega
  unfold m__law_lowest b__law_lowest
  by_cases hs : y < 0
  · rw [if_pos hs] at p1 p2
    have h0 : 0 - ((Int.gcd x y : Nat) : Int) ≠ 0 := by omega
    have hb : Bd n (0 - ((Int.gcd x y : Nat) : Int)) := b.le (by omega)
    simp only [mkF, enter, retF, trunc, sSeq, So.then_nx, So.then_rt, sSet, sRet, sRetN, sIf, sExpr, sNil, sPar, sAsg, ofG, gN, gsCons, gsNil, gTupT_tup, gTupT_Q, Out.then_ok, Out.then_ex, Out.bind_ok, Out.bind_ex, eVar, eD_eq, eOp, eCall, eBlt, aCons, aNil, eTup, eIf, eT, eNot, eAnd, eOr, tvAnd, tvOr, tvNot, eNeg, eIsi, isTy_d, isQ_tup, isQ_bool, isQ_int, isI_bool, isI_int, isI_tup, isB_bool, isB_int, ixQ0, ixQ1, truO_b, fzs_nil, fzs_d, gInt_eq, gAdd_int, gAbs_eq, fAdd_eq, fSub_eq, fLt_eq, fLe_eq, fGt_eq, fGe_eq, ix0, ix1, ix2, ix3, ix4, ix5, ofO_some, Option.map_some, Option.bind_some, List.length_cons, List.length_nil, List.map_cons, List.map_nil, List.replicate_succ, List.replicate_zero, List.cons_append, List.nil_append, List.getElem?_cons_zero, List.getElem?_cons_succ, List.set_cons_zero, List.set_cons_succ, List.take_length, Int.reduceEq, Int.reduceLT, Int.reduceLE, Nat.reduceSub, Nat.reduceAdd, Nat.reduceLeDiff, Nat.reduceLT, Nat.zero_add, Nat.add_zero, Nat.sub_self, if_true, if_false, reduceIte, Bool.false_eq_true, fitB, decide_true, decide_false, Bool.not_true, Bool.not_false, abs_eq, e2, e3]
    simp only [mkF, enter, retF, trunc, sSeq, So.then_nx, So.then_rt, sSet, sRet, sRetN, sIf, sExpr, sNil, sPar, sAsg, ofG, gN, gsCons, gsNil, gTupT_tup, gTupT_Q, Out.then_ok, Out.then_ex, Out.bind_ok, Out.bind_ex, eVar, eD_eq, eOp, eCall, eBlt, aCons, aNil, eTup, eIf, eT, eNot, eAnd, eOr, tvAnd, tvOr, tvNot, eNeg, eIsi, isTy_d, isQ_tup, isQ_bool, isQ_int, isI_bool, isI_int, isI_tup, isB_bool, isB_int, ixQ0, ixQ1, truO_b, fzs_nil, fzs_d, gInt_eq, gAdd_int, gAbs_eq, fAdd_eq, fSub_eq, fLt_eq, fLe_eq, fGt_eq, fGe_eq, ix0, ix1, ix2, ix3, ix4, ix5, ofO_some, Option.map_some, Option.bind_some, List.length_cons, List.length_nil, List.map_cons, List.map_nil, List.replicate_succ, List.replicate_zero, List.cons_append, List.nil_append, List.getElem?_cons_zero, List.getElem?_cons_succ, List.set_cons_zero, List.set_cons_succ, List.take_length, Int.reduceEq, Int.reduceLT, Int.reduceLE, Nat.reduceSub, Nat.reduceAdd, Nat.reduceLeDiff, Nat.reduceLT, Nat.zero_add, Nat.add_zero, Nat.sub_self, if_true, if_false, reduceIte, Bool.false_eq_true, fitB, decide_true, decide_false, Bool.not_true, Bool.not_false, hs, fDiv_eq h0 (hb.divOk hn0 hn), p1, p2]
    rfl
  · rw [if_neg hs] at p1 p2
    have h0 : ((Int.gcd x y : Nat) : Int) ≠ 0 := by omega
    have hb : Bd n ((Int.gcd x y : Nat) : Int) := b.le (by omega)
    simp only [mkF, enter, retF, trunc, sSeq, So.then_nx, So.then_rt, sSet, sRet, sRetN, sIf, sExpr, sNil, sPar, sAsg, ofG, gN, gsCons, gsNil, gTupT_tup, gTupT_Q, Out.then_ok, Out.then_ex, Out.bind_ok, Out.bind_ex, eVar, eD_eq, eOp, eCall, eBlt, aCons, aNil, eTup, eIf, eT, eNot, eAnd, eOr, tvAnd, tvOr, tvNot, eNeg, eIsi, isTy_d, isQ_tup, isQ_bool, isQ_int, isI_bool, isI_int, isI_tup, isB_bool, isB_int, ixQ0, ixQ1, truO_b, fzs_nil, fzs_d, gInt_eq, gAdd_int, gAbs_eq, fAdd_eq, fSub_eq, fLt_eq, fLe_eq, fGt_eq, fGe_eq, ix0, ix1, ix2, ix3, ix4, ix5, ofO_some, Option.map_some, Option.bind_some, List.length_cons, List.length_nil, List.map_cons, List.map_nil, List.replicate_succ, List.replicate_zero, List.cons_append, List.nil_append, List.getElem?_cons_zero, List.getElem?_cons_succ, List.set_cons_zero, List.set_cons_succ, List.take_length, Int.reduceEq, Int.reduceLT, Int.reduceLE, Nat.reduceSub, Nat.reduceAdd, Nat.reduceLeDiff, Nat.reduceLT, Nat.zero_add, Nat.add_zero, Nat.sub_self, if_true, if_false, reduceIte, Bool.false_eq_true, fitB, decide_true, decide_false, Bool.not_true, Bool.not_false, abs_eq, e2, e3]
    simp only [mkF, enter, retF, trunc, sSeq, So.then_nx, So.then_rt, sSet, sRet, sRetN, sIf, sExpr, sNil, sPar, sAsg, ofG, gN, gsCons, gsNil, gTupT_tup, gTupT_Q, Out.then_ok, Out.then_ex, Out.bind_ok, Out.bind_ex, eVar, eD_eq, eOp, eCall, eBlt, aCons, aNil, eTup, eIf, eT, eNot, eAnd, eOr, tvAnd, tvOr, tvNot, eNeg, eIsi, isTy_d, isQ_tup, isQ_bool, isQ_int, isI_bool, isI_int, isI_tup, isB_bool, isB_int, ixQ0, ixQ1, truO_b, fzs_nil, fzs_d, gInt_eq, gAdd_int, gAbs_eq, fAdd_eq, fSub_eq, fLt_eq, fLe_eq, fGt_eq, fGe_eq, ix0, ix1, ix2, ix3, ix4, ix5, ofO_some, Option.map_some, Option.bind_some, List.length_cons, List.length_nil, List.map_cons, List.map_nil, List.replicate_succ, List.replicate_zero, List.cons_append, List.nil_append, List.getElem?_cons_zero, List.getElem?_cons_succ, List.set_cons_zero, List.set_cons_succ, List.take_length, Int.reduceEq, Int.reduceLT, Int.reduceLE, Nat.reduceSub, Nat.reduceAdd, Nat.reduceLeDiff, Nat.reduceLT, Nat.zero_add, Nat.add_zero, Nat.sub_self, if_true, if_false, reduceIte, Bool.false_eq_true, fitB, decide_true, decide_false, Bool.not_true, Bool.not_false, hs, fDiv_eq h0 (hb.divOk hn0 hn), p1, p2]
    rfl
theorem sp_takeX {K : Nat} {xs : List Da} (st : Strm K xs) (hK : K < 2 ^ 30) {n : Nat} {h : Hh} (hn : n < h.length) {many : Int} (hm : 0 < many) (hm2 : many < 2 ^ 62) (l : Hh) :
    ∃ (v : Int) (xs' : List Da), m__law_take [.r n, .d (.int many)] (h.set n (some (.lst xs)) ++ l) = .ok (.d (.int v)) (h.set n (some (.lst xs')) ++ l) ∧ 0 ≤ v ∧ v < many ∧ Strm (K + 1) xs' := by
  have hn' : n < (h.set n (some (.lst xs))).length := by rw [List.length_set]; exact hn
  obtain ⟨v, xs', e, a, b, s⟩ := sp_take st hK (n := n) (h := h.set n (some (.lst xs)) ++ l) (by rw [get_app hn', get_set hn]) hm hm2
  rw [set_app hn', List.set_set] at e
  exact ⟨v, xs', e, a, b, s⟩
theorem pow10 (k : Nat) (hk : k ≤ 1000000) : fPow 10 (k : Int) = some (.int ((10 ^ k : Nat) : Int)) := by
  unfold fPow
  rw [if_pos ⟨by omega, by omega, by decide⟩, Int.toNat_natCast, Int.natCast_pow]
  rfl
theorem take_set (h : Hh) (n : Nat) (o : Option Ob) : (h.set n o).take h.length = h.set n o := List.take_of_length_le (by rw [List.length_set]; exact Nat.le_refl _)
theorem sp_number_by {K : Nat} {xs : List Da} (st : Strm K xs) (hK : K + 5 < 2 ^ 30) {n : Nat} {h : Hh} (e : h[n]? = some (some (.lst xs))) :
    ∃ (r : Rat) (xs' : List Da), m__law_number_by [.r n] h = .ok (.d (Q r)) (h.set n (some (.lst xs'))) ∧ BQ 200 r ∧ Strm (K + 5) xs' := by
  have hn : n < h.length := (List.getElem?_eq_some_iff.mp e).1
  have st5 : ∀ {j : Nat} {ys : List Da}, j ≤ K + 5 → Strm j ys → Strm (K + 5) ys := fun hj ⟨c, x, k, m, e, hk⟩ => ⟨c, x, k, m, e, by omega⟩
  obtain ⟨v1, x1, t1, a1, b1, s1⟩ := sp_take st (by omega) e (many := 7) (by decide) (by decide)
  have g1 := get_set (o := some (.lst x1)) hn
  obtain ⟨v2, x2, t2, a2, b2, s2⟩ := sp_take s1 (by omega) g1 (many := 199) (by decide) (by decide)
  rw [List.set_set] at t2
  have g2 := get_set (o := some (.lst x2)) hn
  have hab : ∀ m : Nat, 99 ≤ m → (v2 - 99).natAbs ≤ m := fun m hm => by omega
  unfold m__law_number_by b__law_number_by
  by_cases k0 : v1 = 0
  · have d20 : fDiv (v2 - 99) 20 = some (.int ((v2 - 99).fdiv 20)) := div_lit (k := 20) (by decide) (by decide)
    refine ⟨(((v2 - 99).fdiv 20 : Int) : Rat), x2, ?_, ?_, st5 (by omega) s2⟩
    · rw [Q_int]
      simp only [mkF, enter, retF, trunc, sSeq, So.then_nx, So.then_rt, sSet, sRet, sRetN, sIf, sExpr, sNil, sPar, sAsg, ofG, gN, gsCons, gsNil, gTupT_tup, gTupT_Q, Out.then_ok, Out.then_ex, Out.bind_ok, Out.bind_ex, eVar, eD_eq, eOp, eCall, eBlt, aCons, aNil, eTup, eIf, eT, eNot, eAnd, eOr, tvAnd, tvOr, tvNot, eNeg, eIsi, isTy_d, isQ_tup, isQ_bool, isQ_int, isI_bool, isI_int, isI_tup, isB_bool, isB_int, ixQ0, ixQ1, truO_b, fzs_nil, fzs_d, gInt_eq, gAdd_int, gAbs_eq, fAdd_eq, fSub_eq, fLt_eq, fLe_eq, fGt_eq, fGe_eq, ix0, ix1, ix2, ix3, ix4, ix5, ofO_some, Option.map_some, Option.bind_some, List.length_cons, List.length_nil, List.map_cons, List.map_nil, List.replicate_succ, List.replicate_zero, List.cons_append, List.nil_append, List.getElem?_cons_zero, List.getElem?_cons_succ, List.set_cons_zero, List.set_cons_succ, List.take_length, Int.reduceEq, Int.reduceLT, Int.reduceLE, Nat.reduceSub, Nat.reduceAdd, Nat.reduceLeDiff, Nat.reduceLT, Nat.zero_add, Nat.add_zero, Nat.sub_self, if_true, if_false, reduceIte, Bool.false_eq_true, fitB, decide_true, decide_false, Bool.not_true, Bool.not_false, t1, t2, gEq_int, k0, d20, take_set]
    · have : ((v2 - 99).fdiv 20).natAbs ≤ 100 := by
        rw [Int.fdiv_eq_ediv_of_nonneg _ (by decide)]
        omega
      exact ⟨by rw [Rat.num_intCast]; exact Bd.of 100 this (by decide), by rw [Rat.den_intCast]; exact Bd.of 1 (by decide) (by decide)⟩
  · by_cases k1 : v1 < 3
    · obtain ⟨v3, x3, t3, a3, b3, s3⟩ := sp_take s2 (by omega) g2 (many := 40) (by decide) (by decide)
      rw [List.set_set] at t3
      have bd : Bd 200 (1 + v3) := Bd.of 100 (by omega) (by decide)
      refine ⟨Rat.divInt (v2 - 99) (1 + v3), x3, ?_, ⟨bd_num (Bd.of 100 (by omega) (by decide)), bd_den bd (by decide)⟩, st5 (by omega) s3⟩
      simp only [mkF, enter, retF, trunc, sSeq, So.then_nx, So.then_rt, sSet, sRet, sRetN, sIf, sExpr, sNil, sPar, sAsg, ofG, gN, gsCons, gsNil, gTupT_tup, gTupT_Q, Out.then_ok, Out.then_ex, Out.bind_ok, Out.bind_ex, eVar, eD_eq, eOp, eCall, eBlt, aCons, aNil, eTup, eIf, eT, eNot, eAnd, eOr, tvAnd, tvOr, tvNot, eNeg, eIsi, isTy_d, isQ_tup, isQ_bool, isQ_int, isI_bool, isI_int, isI_tup, isB_bool, isB_int, ixQ0, ixQ1, truO_b, fzs_nil, fzs_d, gInt_eq, gAdd_int, gAbs_eq, fAdd_eq, fSub_eq, fLt_eq, fLe_eq, fGt_eq, fGe_eq, ix0, ix1, ix2, ix3, ix4, ix5, ofO_some, Option.map_some, Option.bind_some, List.length_cons, List.length_nil, List.map_cons, List.map_nil, List.replicate_succ, List.replicate_zero, List.cons_append, List.nil_append, List.getElem?_cons_zero, List.getElem?_cons_succ, List.set_cons_zero, List.set_cons_succ, List.take_length, Int.reduceEq, Int.reduceLT, Int.reduceLE, Nat.reduceSub, Nat.reduceAdd, Nat.reduceLeDiff, Nat.reduceLT, Nat.zero_add, Nat.add_zero, Nat.sub_self, if_true, if_false, reduceIte, Bool.false_eq_true, fitB, decide_true, decide_false, Bool.not_true, Bool.not_false, t1, t2, t3, gEq_int, k0, k1, sp_lowest (show 1 + v3 ≠ 0 by omega) bd (by decide), take_set]
    · by_cases k3 : v1 = 3
      · obtain ⟨v3, x3, t3, a3, b3, s3⟩ := sp_take s2 (by omega) g2 (many := 1000) (by decide) (by decide)
        rw [List.set_set] at t3
        obtain ⟨v4, x4, t4, a4, b4, s4⟩ := sp_takeX s3 (by omega) hn (many := 4) (by decide) (by decide) [some (.lst [.int 10, .int 1000, .int 128, .int 729])]
        obtain ⟨w, ew, w1, w2⟩ : ∃ w : Int, ([.int 10, .int 1000, .int 128, .int 729] : List Da)[v4.toNat]? = some (.int w) ∧ 10 ≤ w ∧ w ≤ 1000 := by
          have : v4 = 0 ∨ v4 = 1 ∨ v4 = 2 ∨ v4 = 3 := by omega
          rcases this with z | z | z | z <;> subst z
          · exact ⟨10, rfl, by decide, by decide⟩
          · exact ⟨1000, rfl, by decide, by decide⟩
          · exact ⟨128, rfl, by decide, by decide⟩
          · exact ⟨729, rfl, by decide, by decide⟩
        have bd : Bd 200 w := Bd.of 1000 (by omega) (by decide)
        have q : fMul (v2 - 99) 1000 = some (.int ((v2 - 99) * 1000)) := fMul_eq (mulOk_smallR (bd_lit 1000 (by decide) (by decide) (by decide)))
        refine ⟨Rat.divInt ((v2 - 99) * 1000 + v3) w, x4, ?_, ⟨bd_num (Bd.of 200000 (by omega) (by decide)), bd_den bd (by decide)⟩, st5 (by omega) s4⟩
        simp only [mkF, enter, retF, trunc, sSeq, So.then_nx, So.then_rt, sSet, sRet, sRetN, sIf, sExpr, sNil, sPar, sAsg, ofG, gN, gsCons, gsNil, gTupT_tup, gTupT_Q, Out.then_ok, Out.then_ex, Out.bind_ok, Out.bind_ex, eVar, eD_eq, eOp, eCall, eBlt, aCons, aNil, eTup, eIf, eT, eNot, eAnd, eOr, tvAnd, tvOr, tvNot, eNeg, eIsi, isTy_d, isQ_tup, isQ_bool, isQ_int, isI_bool, isI_int, isI_tup, isB_bool, isB_int, ixQ0, ixQ1, truO_b, fzs_nil, fzs_d, gInt_eq, gAdd_int, gAbs_eq, fAdd_eq, fSub_eq, fLt_eq, fLe_eq, fGt_eq, fGe_eq, ix0, ix1, ix2, ix3, ix4, ix5, ofO_some, Option.map_some, Option.bind_some, List.length_cons, List.length_nil, List.map_cons, List.map_nil, List.replicate_succ, List.replicate_zero, List.cons_append, List.nil_append, List.getElem?_cons_zero, List.getElem?_cons_succ, List.set_cons_zero, List.set_cons_succ, List.take_length, Int.reduceEq, Int.reduceLT, Int.reduceLE, Nat.reduceSub, Nat.reduceAdd, Nat.reduceLeDiff, Nat.reduceLT, Nat.zero_add, Nat.add_zero, Nat.sub_self, if_true, if_false, reduceIte, Bool.false_eq_true, fitB, decide_true, decide_false, Bool.not_true, Bool.not_false, t1, t2, t3, gEq_int, k0, k1, k3, q, eLst, t4, List.length_set, menu_at a4 ew, sp_lowest (show w ≠ 0 by omega) bd (by decide), take_setApp]
      · by_cases k4 : v1 = 4
        · obtain ⟨v3, x3, t3, a3, b3, s3⟩ := sp_take s2 (by omega) g2 (many := 15) (by decide) (by decide)
          rw [List.set_set] at t3
          have g3 := get_set (o := some (.lst x3)) hn
          obtain ⟨v4, x4, t4, a4, b4, s4⟩ := sp_take s3 (by omega) g3 (many := 3) (by decide) (by decide)
          rw [List.set_set] at t4
          have bb : Bd 60 (2 + v3) := Bd.of 20 (by omega) (by decide)
          have bd : Bd 200 (2 + v3) := bb.mono (by decide)
          have m5 : fMod (v2 - 99) 5 = some (.int ((v2 - 99).fmod 5)) := fMod_eq (by decide)
          obtain ⟨f1, f2⟩ := fmod_bd (x := v2 - 99) (p := 5) (by decide)
          have bf : Bd 60 ((v2 - 99).fmod 5 - 2) := Bd.of 10 (by omega) (by decide)
          have q1 : fMul (2 + v3) (2 + v3) = some (.int ((2 + v3) * (2 + v3))) := fMul_eq (mulOk_smallR (bb.mono (by decide)))
          have q2 : fMul ((2 + v3) * (2 + v3)) (2 + v3) = some (.int ((2 + v3) * (2 + v3) * (2 + v3))) := fMul_eq (mulOk_smallR (bb.mono (by decide)))
          have q3 : fMul ((2 + v3) * (2 + v3) * (2 + v3)) ((v2 - 99).fmod 5 - 2) = some (.int ((2 + v3) * (2 + v3) * (2 + v3) * ((v2 - 99).fmod 5 - 2))) := fMul_eq (mulOk_smallR (bf.mono (by decide)))
          have bn : Bd 200 ((2 + v3) * (2 + v3) * (2 + v3) * ((v2 - 99).fmod 5 - 2) + v4 - 1) := by
            have hb1 : Bd 5 (2 + v3) := Bd.of 20 (by omega) (by decide)
            have hb2 : Bd 5 ((v2 - 99).fmod 5 - 2) := Bd.of 10 (by omega) (by decide)
            have hb3 : Bd 5 v4 := Bd.of 10 (by omega) (by decide)
            exact (((((hb1.mul hb1).mul hb1).mul hb2).add hb3).sub (Bd.of (n := 5) (x := 1) 1 (by decide) (by decide))).mono (by decide)
          refine ⟨Rat.divInt ((2 + v3) * (2 + v3) * (2 + v3) * ((v2 - 99).fmod 5 - 2) + v4 - 1) (2 + v3), x4, ?_, ⟨bd_num bn, bd_den bd (by decide)⟩, st5 (by omega) s4⟩
          simp only [mkF, enter, retF, trunc, sSeq, So.then_nx, So.then_rt, sSet, sRet, sRetN, sIf, sExpr, sNil, sPar, sAsg, ofG, gN, gsCons, gsNil, gTupT_tup, gTupT_Q, Out.then_ok, Out.then_ex, Out.bind_ok, Out.bind_ex, eVar, eD_eq, eOp, eCall, eBlt, aCons, aNil, eTup, eIf, eT, eNot, eAnd, eOr, tvAnd, tvOr, tvNot, eNeg, eIsi, isTy_d, isQ_tup, isQ_bool, isQ_int, isI_bool, isI_int, isI_tup, isB_bool, isB_int, ixQ0, ixQ1, truO_b, fzs_nil, fzs_d, gInt_eq, gAdd_int, gAbs_eq, fAdd_eq, fSub_eq, fLt_eq, fLe_eq, fGt_eq, fGe_eq, ix0, ix1, ix2, ix3, ix4, ix5, ofO_some, Option.map_some, Option.bind_some, List.length_cons, List.length_nil, List.map_cons, List.map_nil, List.replicate_succ, List.replicate_zero, List.cons_append, List.nil_append, List.getElem?_cons_zero, List.getElem?_cons_succ, List.set_cons_zero, List.set_cons_succ, List.take_length, Int.reduceEq, Int.reduceLT, Int.reduceLE, Nat.reduceSub, Nat.reduceAdd, Nat.reduceLeDiff, Nat.reduceLT, Nat.zero_add, Nat.add_zero, Nat.sub_self, if_true, if_false, reduceIte, Bool.false_eq_true, fitB, decide_true, decide_false, Bool.not_true, Bool.not_false, t1, t2, t3, t4, gEq_int, k0, k1, k3, k4, m5, q1, q2, q3, sp_lowest (show 2 + v3 ≠ 0 by omega) bd (by decide), take_set]
        · have p30 := pow10 30 (by decide)
          have p40 := pow10 40 (by decide)
          have p25 := pow10 25 (by decide)
          rw [show ((30 : Nat) : Int) = 30 from rfl] at p30
          rw [show ((40 : Nat) : Int) = 40 from rfl] at p40
          rw [show ((25 : Nat) : Int) = 25 from rfl] at p25
          have q1 : fMul (v2 - 99) ((10 ^ 30 : Nat) : Int) = some (.int ((v2 - 99) * ((10 ^ 30 : Nat) : Int))) := fMul_eq (mulOk_small (Bd.of 200 (by omega) (by decide)))
          have q2 : fMul 3 ((10 ^ 40 : Nat) : Int) = some (.int (3 * ((10 ^ 40 : Nat) : Int))) := fMul_eq (mulOk_small (Bd.of 3 (by decide) (by decide)))
          obtain ⟨v3, x3, t3, a3, b3, s3⟩ := sp_takeX s2 (by omega) hn (many := 3) (by decide) (by decide) [some (.lst [.int ((v2 - 99) * ((10 ^ 30 : Nat) : Int) + 7), .int (3 * ((10 ^ 40 : Nat) : Int) + (v2 - 99)), .int (v2 - 99)])]
          obtain ⟨v4, x4, t4, a4, b4, s4⟩ := sp_takeX s3 (by omega) hn (many := 9) (by decide) (by decide) [some (.lst [.int ((v2 - 99) * ((10 ^ 30 : Nat) : Int) + 7), .int (3 * ((10 ^ 40 : Nat) : Int) + (v2 - 99)), .int (v2 - 99)])]
          obtain ⟨w, ew, bw⟩ : ∃ w : Int, ([.int ((v2 - 99) * ((10 ^ 30 : Nat) : Int) + 7), .int (3 * ((10 ^ 40 : Nat) : Int) + (v2 - 99)), .int (v2 - 99)] : List Da)[v3.toNat]? = some (.int w) ∧ Bd 200 w := by
            have : v3 = 0 ∨ v3 = 1 ∨ v3 = 2 := by omega
            rcases this with z | z | z <;> subst z
            · exact ⟨_, rfl, (((Bd.of (n := 8) (x := v2 - 99) 200 (by omega) (by decide)).mul (bd_nat (n := 110) (a := 10 ^ 30) (by decide))).add (Bd.of (n := 5) (x := 7) 7 (by decide) (by decide))).mono (by decide)⟩
            · exact ⟨_, rfl, (((Bd.of (n := 8) (x := 3) 200 (by decide) (by decide)).mul (bd_nat (n := 140) (a := 10 ^ 40) (by decide))).add (Bd.of (n := 8) (x := v2 - 99) 200 (by omega) (by decide))).mono (by decide)⟩
            · exact ⟨_, rfl, Bd.of 200 (by omega) (by decide)⟩
          have bd : Bd 200 (((10 ^ 25 : Nat) : Int) + v4) := ((bd_nat (n := 100) (a := 10 ^ 25) (by decide)).add (Bd.of (n := 5) (x := v4) 9 (by omega) (by decide))).mono (by decide)
          have nz : ((10 ^ 25 : Nat) : Int) + v4 ≠ 0 := by omega
          refine ⟨Rat.divInt w (((10 ^ 25 : Nat) : Int) + v4), x4, ?_, ⟨bd_num bw, bd_den bd (by decide)⟩, st5 (by omega) s4⟩
          simp only [mkF, enter, retF, trunc, sSeq, So.then_nx, So.then_rt, sSet, sRet, sRetN, sIf, sExpr, sNil, sPar, sAsg, ofG, gN, gsCons, gsNil, gTupT_tup, gTupT_Q, Out.then_ok, Out.then_ex, Out.bind_ok, Out.bind_ex, eVar, eD_eq, eOp, eCall, eBlt, aCons, aNil, eTup, eIf, eT, eNot, eAnd, eOr, tvAnd, tvOr, tvNot, eNeg, eIsi, isTy_d, isQ_tup, isQ_bool, isQ_int, isI_bool, isI_int, isI_tup, isB_bool, isB_int, ixQ0, ixQ1, truO_b, fzs_nil, fzs_d, gInt_eq, gAdd_int, gAbs_eq, fAdd_eq, fSub_eq, fLt_eq, fLe_eq, fGt_eq, fGe_eq, ix0, ix1, ix2, ix3, ix4, ix5, ofO_some, Option.map_some, Option.bind_some, List.length_cons, List.length_nil, List.map_cons, List.map_nil, List.replicate_succ, List.replicate_zero, List.cons_append, List.nil_append, List.getElem?_cons_zero, List.getElem?_cons_succ, List.set_cons_zero, List.set_cons_succ, List.take_length, Int.reduceEq, Int.reduceLT, Int.reduceLE, Nat.reduceSub, Nat.reduceAdd, Nat.reduceLeDiff, Nat.reduceLT, Nat.zero_add, Nat.add_zero, Nat.sub_self, if_true, if_false, reduceIte, Bool.false_eq_true, fitB, decide_true, decide_false, Bool.not_true, Bool.not_false, t1, t2, gEq_int, k0, k1, k3, k4, p30, p40, p25, q1, q2, eLst, t3, t4, List.length_set, menu_at a3 ew, sp_lowest nz bd (by decide), take_setApp]
theorem sp_stream (c : Int) (k : Nat) (hk : k < 2 ^ 32) (h : Hh) : ∃ xs, m__law_stream [.d (.int c), .d (.int (k : Int))] h = .ok (.r h.length) (h ++ [some (.lst xs)]) ∧ Strm 0 xs := by
  obtain ⟨v, e, _, _⟩ := sp_mixed c k hk h
  have p := pow10 18 (by decide)
  rw [show ((18 : Nat) : Int) = 18 from rfl] at p
  refine ⟨[.bool (decide (((10 ^ 18 : Nat) : Int) ≤ c)), .int c, .int 0, .int v], ?_, _, c, 0, v, rfl, Nat.le_refl _⟩
  unfold m__law_stream b__law_stream
  simp only [mkF, enter, retF, trunc, sSeq, So.then_nx, So.then_rt, sSet, sRet, sRetN, sIf, sExpr, sNil, sPar, sAsg, ofG, gN, gsCons, gsNil, gTupT_tup, gTupT_Q, Out.then_ok, Out.then_ex, Out.bind_ok, Out.bind_ex, eVar, eD_eq, eOp, eCall, eBlt, aCons, aNil, eTup, eIf, eT, eNot, eAnd, eOr, tvAnd, tvOr, tvNot, eNeg, eIsi, isTy_d, isQ_tup, isQ_bool, isQ_int, isI_bool, isI_int, isI_tup, isB_bool, isB_int, ixQ0, ixQ1, truO_b, fzs_nil, fzs_d, gInt_eq, gAdd_int, gAbs_eq, fAdd_eq, fSub_eq, fLt_eq, fLe_eq, fGt_eq, fGe_eq, ix0, ix1, ix2, ix3, ix4, ix5, ofO_some, Option.map_some, Option.bind_some, List.length_cons, List.length_nil, List.map_cons, List.map_nil, List.replicate_succ, List.replicate_zero, List.cons_append, List.nil_append, List.getElem?_cons_zero, List.getElem?_cons_succ, List.set_cons_zero, List.set_cons_succ, List.take_length, Int.reduceEq, Int.reduceLT, Int.reduceLE, Nat.reduceSub, Nat.reduceAdd, Nat.reduceLeDiff, Nat.reduceLT, Nat.zero_add, Nat.add_zero, Nat.sub_self, if_true, if_false, reduceIte, Bool.false_eq_true, fitB, decide_true, decide_false, Bool.not_true, Bool.not_false, p, e, eLst, Nat.lt_irrefl, get_end, take_app0]

/-! rulers' defs -/
theorem ixR0 {R : Ruler} {h : Hh} : gIx (.d R.da) (.d (.int 0)) h = some (.d (.int R.b), h) := ix0
theorem ixR1 {R : Ruler} {h : Hh} : gIx (.d R.da) (.d (.int 1)) h = some (.d (.int R.f), h) := ix1
theorem ixR2 {R : Ruler} {h : Hh} : gIx (.d R.da) (.d (.int 2)) h = some (.d (.int R.l), h) := ix2
theorem ixR3 {R : Ruler} {h : Hh} : gIx (.d R.da) (.d (.int 3)) h = some (.d (.str R.w), h) := ix3
theorem sp_pw {R : Ruler} (O : R.Ok) {e : Int} (he : e.natAbs ≤ 1000000) (h : Hh) : m_power [.d (.int (R.b : Int)), .d (.int e)] h = .ok (.d (Q (R.pw e))) h := by
  refine sp_power (N := 4000001) (by have := O.b2; omega) (by decide) ?_ h
  refine bd_nat (Nat.lt_of_le_of_lt (Nat.pow_le_pow_left O.b16 _) ?_)
  rw [show (16 : Nat) = 2 ^ 4 from rfl, ← Nat.pow_mul]
  exact Nat.pow_lt_pow_right (by decide) (by omega)
theorem sp_is_enough {R : Ruler} (O : R.Ok) {s : Rat} {n : Nat} (hs : BQ n s) (hn : n ≤ 9000) {p : Int} (hp : p.natAbs ≤ 100000) (h : Hh) : m_is_enough [.d R.da, .d (Q s), .d (.int p)] h = .ok (.d (.bool (decide (s < R.pw (p + R.f))))) h := by
  have hf := O.f24
  have he : (p + (R.f : Int)).natAbs ≤ 200000 := by omega
  have b := BQ_pw O he
  unfold m_is_enough b_is_enough
  simp only [mkF, enter, retF, trunc, sSeq, So.then_nx, So.then_rt, sSet, sRet, sRetN, sIf, sExpr, sNil, sPar, sAsg, ofG, gN, gsCons, gsNil, gTupT_tup, gTupT_Q, Out.then_ok, Out.then_ex, Out.bind_ok, Out.bind_ex, eVar, eD_eq, eOp, eCall, eBlt, aCons, aNil, eTup, eIf, eT, eNot, eAnd, eOr, tvAnd, tvOr, tvNot, eNeg, eIsi, isTy_d, isQ_tup, isQ_bool, isQ_int, isI_bool, isI_int, isI_tup, isB_bool, isB_int, ixQ0, ixQ1, truO_b, fzs_nil, fzs_d, gInt_eq, gAdd_int, gAbs_eq, fAdd_eq, fSub_eq, fLt_eq, fLe_eq, fGt_eq, fGe_eq, ix0, ix1, ix2, ix3, ix4, ix5, ofO_some, Option.map_some, Option.bind_some, List.length_cons, List.length_nil, List.map_cons, List.map_nil, List.replicate_succ, List.replicate_zero, List.cons_append, List.nil_append, List.getElem?_cons_zero, List.getElem?_cons_succ, List.set_cons_zero, List.set_cons_succ, List.take_length, Int.reduceEq, Int.reduceLT, Int.reduceLE, Nat.reduceSub, Nat.reduceAdd, Nat.reduceLeDiff, Nat.reduceLT, Nat.zero_add, Nat.add_zero, Nat.sub_self, if_true, if_false, reduceIte, Bool.false_eq_true, fitB, decide_true, decide_false, Bool.not_true, Bool.not_false, ixR0, ixR1, sp_pw O (Nat.le_trans he (by decide)), sp_is_less hs b (by omega)]
theorem w1_place {R : Ruler} (O : R.Ok) {s : Rat} {n : Nat} (hs : BQ n s) (hn : n ≤ 9000) (h0 : 0 ≤ s) (o1 o5 o6 : Option Vl) (h : Hh) : ∀ (m far : Nat), 1 ≤ far → 9200 ≤ far + m → far ≤ 20000 → ¬ s < R.pw (R.l + ((far / 2 : Nat) : Int) + R.f) →
    ∃ far' : Nat, 1 ≤ far' ∧ far' ≤ 20000 ∧ s < R.pw (R.l + (far' : Int) + R.f) ∧ ¬ s < R.pw (R.l + ((far' / 2 : Nat) : Int) + R.f) ∧
    sWhile (tvNot (eT (eCall m_is_enough (aCons (eVar 0) (aCons (eVar 2) (aCons (eOp gAdd (eVar 3) (eVar 4)) (aNil))))))) (sSet 4 (eOp (gInt fMul) (eVar 4) (eD (.int 2)))) [some (.d R.da), o1, some (.d (Q s)), some (.d (.int R.l)), some (.d (.int (far : Int))), o5, o6] h
      = .nx [some (.d R.da), o1, some (.d (Q s)), some (.d (.int R.l)), some (.d (.int (far' : Int))), o5, o6] h := by
  intro m
  induction m with
  | zero =>
    intro far h1 h2 h3 h4
    have l1 := O.l1
    have l2 := O.l2
    have e := sp_is_enough O hs hn (p := R.l + (far : Int)) (by omega) h
    have lt : s < R.pw (R.l + (far : Int) + R.f) := by
      have a := abs_lt_pw O hs
      have ab : s.abs = s := by unfold Rat.abs; rw [if_pos h0]
      have b : R.pw n ≤ R.pw (R.l + (far : Int) + R.f) := pw_le O (by omega)
      grind
    refine ⟨far, h1, h3, lt, h4, ?_⟩
    rw [sWhile_eq]
    simp only [mkF, enter, retF, trunc, sSeq, So.then_nx, So.then_rt, sSet, sRet, sRetN, sIf, sExpr, sNil, sPar, sAsg, ofG, gN, gsCons, gsNil, gTupT_tup, gTupT_Q, Out.then_ok, Out.then_ex, Out.bind_ok, Out.bind_ex, eVar, eD_eq, eOp, eCall, eBlt, aCons, aNil, eTup, eIf, eT, eNot, eAnd, eOr, tvAnd, tvOr, tvNot, eNeg, eIsi, isTy_d, isQ_tup, isQ_bool, isQ_int, isI_bool, isI_int, isI_tup, isB_bool, isB_int, ixQ0, ixQ1, truO_b, fzs_nil, fzs_d, gInt_eq, gAdd_int, gAbs_eq, fAdd_eq, fSub_eq, fLt_eq, fLe_eq, fGt_eq, fGe_eq, ix0, ix1, ix2, ix3, ix4, ix5, ofO_some, Option.map_some, Option.bind_some, List.length_cons, List.length_nil, List.map_cons, List.map_nil, List.replicate_succ, List.replicate_zero, List.cons_append, List.nil_append, List.getElem?_cons_zero, List.getElem?_cons_succ, List.set_cons_zero, List.set_cons_succ, List.take_length, Int.reduceEq, Int.reduceLT, Int.reduceLE, Nat.reduceSub, Nat.reduceAdd, Nat.reduceLeDiff, Nat.reduceLT, Nat.zero_add, Nat.add_zero, Nat.sub_self, if_true, if_false, reduceIte, Bool.false_eq_true, fitB, decide_true, decide_false, Bool.not_true, Bool.not_false, e, lt]
  | succ m ih =>
    intro far h1 h2 h3 h4
    have l1 := O.l1
    have l2 := O.l2
    have e := sp_is_enough O hs hn (p := R.l + (far : Int)) (by omega) h
    by_cases lt : s < R.pw (R.l + (far : Int) + R.f)
    · refine ⟨far, h1, h3, lt, h4, ?_⟩
      rw [sWhile_eq]
      simp only [mkF, enter, retF, trunc, sSeq, So.then_nx, So.then_rt, sSet, sRet, sRetN, sIf, sExpr, sNil, sPar, sAsg, ofG, gN, gsCons, gsNil, gTupT_tup, gTupT_Q, Out.then_ok, Out.then_ex, Out.bind_ok, Out.bind_ex, eVar, eD_eq, eOp, eCall, eBlt, aCons, aNil, eTup, eIf, eT, eNot, eAnd, eOr, tvAnd, tvOr, tvNot, eNeg, eIsi, isTy_d, isQ_tup, isQ_bool, isQ_int, isI_bool, isI_int, isI_tup, isB_bool, isB_int, ixQ0, ixQ1, truO_b, fzs_nil, fzs_d, gInt_eq, gAdd_int, gAbs_eq, fAdd_eq, fSub_eq, fLt_eq, fLe_eq, fGt_eq, fGe_eq, ix0, ix1, ix2, ix3, ix4, ix5, ofO_some, Option.map_some, Option.bind_some, List.length_cons, List.length_nil, List.map_cons, List.map_nil, List.replicate_succ, List.replicate_zero, List.cons_append, List.nil_append, List.getElem?_cons_zero, List.getElem?_cons_succ, List.set_cons_zero, List.set_cons_succ, List.take_length, Int.reduceEq, Int.reduceLT, Int.reduceLE, Nat.reduceSub, Nat.reduceAdd, Nat.reduceLeDiff, Nat.reduceLT, Nat.zero_add, Nat.add_zero, Nat.sub_self, if_true, if_false, reduceIte, Bool.false_eq_true, fitB, decide_true, decide_false, Bool.not_true, Bool.not_false, e, lt]
    · have fb : far < 9200 := by
        rcases Nat.lt_or_ge far 9200 with z | z
        · exact z
        · exfalso
          apply lt
          have a := abs_lt_pw O hs
          have ab : s.abs = s := by unfold Rat.abs; rw [if_pos h0]
          have b : R.pw n ≤ R.pw (R.l + (far : Int) + R.f) := pw_le O (by omega)
          grind
      obtain ⟨far', a1, a2, a3, a4, a5⟩ := ih (far * 2) (by omega) (by omega) (by omega) (by
        rw [Nat.mul_div_cancel _ (by decide)]
        exact lt)
      refine ⟨far', a1, a2, a3, a4, ?_⟩
      have m2 : fMul (far : Int) 2 = some (.int ((far * 2 : Nat) : Int)) := by
        rw [fMul_eq (mulOk_smallR (bd_lit 2 (by decide) (by decide) (by decide)))]
        rfl
      rw [sWhile_eq]
      simp only [mkF, enter, retF, trunc, sSeq, So.then_nx, So.then_rt, sSet, sRet, sRetN, sIf, sExpr, sNil, sPar, sAsg, ofG, gN, gsCons, gsNil, gTupT_tup, gTupT_Q, Out.then_ok, Out.then_ex, Out.bind_ok, Out.bind_ex, eVar, eD_eq, eOp, eCall, eBlt, aCons, aNil, eTup, eIf, eT, eNot, eAnd, eOr, tvAnd, tvOr, tvNot, eNeg, eIsi, isTy_d, isQ_tup, isQ_bool, isQ_int, isI_bool, isI_int, isI_tup, isB_bool, isB_int, ixQ0, ixQ1, truO_b, fzs_nil, fzs_d, gInt_eq, gAdd_int, gAbs_eq, fAdd_eq, fSub_eq, fLt_eq, fLe_eq, fGt_eq, fGe_eq, ix0, ix1, ix2, ix3, ix4, ix5, ofO_some, Option.map_some, Option.bind_some, List.length_cons, List.length_nil, List.map_cons, List.map_nil, List.replicate_succ, List.replicate_zero, List.cons_append, List.nil_append, List.getElem?_cons_zero, List.getElem?_cons_succ, List.set_cons_zero, List.set_cons_succ, List.take_length, Int.reduceEq, Int.reduceLT, Int.reduceLE, Nat.reduceSub, Nat.reduceAdd, Nat.reduceLeDiff, Nat.reduceLT, Nat.zero_add, Nat.add_zero, Nat.sub_self, if_true, if_false, reduceIte, Bool.false_eq_true, fitB, decide_true, decide_false, Bool.not_true, Bool.not_false, e, lt, m2]
      exact a5
theorem w2_place {R : Ruler} (O : R.Ok) {s : Rat} {n : Nat} (hs : BQ n s) (hn : n ≤ 9000) (o1 o4 : Option Vl) (h : Hh) : ∀ (m : Nat) (lo hi : Int) (o6 : Option Vl), (hi - lo).toNat ≤ m → lo < hi → lo.natAbs ≤ 50000 → hi.natAbs ≤ 50000 → ¬ s < R.pw (lo + R.f) → s < R.pw (hi + R.f) →
    ∃ (p : Int) (z : Option Vl), lo < p ∧ ¬ s < R.pw (p - 1 + R.f) ∧ s < R.pw (p + R.f) ∧
    sWhile (eT (eOp (gInt fGt) (eOp (gInt fSub) (eVar 5) (eVar 3)) (eD (.int 1)))) (sSeq (sSet 6 (eOp (gInt fDiv) (eOp gAdd (eVar 3) (eVar 5)) (eD (.int 2))))
    (sIf (eT (eCall m_is_enough (aCons (eVar 0) (aCons (eVar 2) (aCons (eVar 6) (aNil)))))) (sSet 5 (eVar 6)) (sSet 3 (eVar 6)))) [some (.d R.da), o1, some (.d (Q s)), some (.d (.int lo)), o4, some (.d (.int hi)), o6] h
      = .nx [some (.d R.da), o1, some (.d (Q s)), some (.d (.int (p - 1))), o4, some (.d (.int p)), z] h := by
  intro m
  induction m with
  | zero =>
    intro lo hi o6 h1 h2
    omega
  | succ m ih =>
    intro lo hi o6 h1 h2 h3 h4 h5 h6
    rw [sWhile_eq]
    by_cases g : 1 < hi - lo
    · have d2 : fDiv (lo + hi) 2 = some (.int ((lo + hi) / 2)) := by
        have := div_lit (a := lo + hi) (k := 2) (by decide) (by decide)
        rw [Int.fdiv_eq_ediv_of_nonneg _ (by omega)] at this
        exact this
      have e := sp_is_enough O hs hn (p := (lo + hi) / 2) (by omega) h
      by_cases lt : s < R.pw ((lo + hi) / 2 + R.f)
      · obtain ⟨p, z, a1, a2, a3, a4⟩ := ih lo ((lo + hi) / 2) (some (.d (.int ((lo + hi) / 2)))) (by omega) (by omega) h3 (by omega) h5 lt
        refine ⟨p, z, a1, a2, a3, ?_⟩
        simp only [mkF, enter, retF, trunc, sSeq, So.then_nx, So.then_rt, sSet, sRet, sRetN, sIf, sExpr, sNil, sPar, sAsg, ofG, gN, gsCons, gsNil, gTupT_tup, gTupT_Q, Out.then_ok, Out.then_ex, Out.bind_ok, Out.bind_ex, eVar, eD_eq, eOp, eCall, eBlt, aCons, aNil, eTup, eIf, eT, eNot, eAnd, eOr, tvAnd, tvOr, tvNot, eNeg, eIsi, isTy_d, isQ_tup, isQ_bool, isQ_int, isI_bool, isI_int, isI_tup, isB_bool, isB_int, ixQ0, ixQ1, truO_b, fzs_nil, fzs_d, gInt_eq, gAdd_int, gAbs_eq, fAdd_eq, fSub_eq, fLt_eq, fLe_eq, fGt_eq, fGe_eq, ix0, ix1, ix2, ix3, ix4, ix5, ofO_some, Option.map_some, Option.bind_some, List.length_cons, List.length_nil, List.map_cons, List.map_nil, List.replicate_succ, List.replicate_zero, List.cons_append, List.nil_append, List.getElem?_cons_zero, List.getElem?_cons_succ, List.set_cons_zero, List.set_cons_succ, List.take_length, Int.reduceEq, Int.reduceLT, Int.reduceLE, Nat.reduceSub, Nat.reduceAdd, Nat.reduceLeDiff, Nat.reduceLT, Nat.zero_add, Nat.add_zero, Nat.sub_self, if_true, if_false, reduceIte, Bool.false_eq_true, fitB, decide_true, decide_false, Bool.not_true, Bool.not_false, g, d2, e, lt]
        exact a4
      · obtain ⟨p, z, a1, a2, a3, a4⟩ := ih ((lo + hi) / 2) hi (some (.d (.int ((lo + hi) / 2)))) (by omega) (by omega) (by omega) h4 lt h6
        refine ⟨p, z, by omega, a2, a3, ?_⟩
        simp only [mkF, enter, retF, trunc, sSeq, So.then_nx, So.then_rt, sSet, sRet, sRetN, sIf, sExpr, sNil, sPar, sAsg, ofG, gN, gsCons, gsNil, gTupT_tup, gTupT_Q, Out.then_ok, Out.then_ex, Out.bind_ok, Out.bind_ex, eVar, eD_eq, eOp, eCall, eBlt, aCons, aNil, eTup, eIf, eT, eNot, eAnd, eOr, tvAnd, tvOr, tvNot, eNeg, eIsi, isTy_d, isQ_tup, isQ_bool, isQ_int, isI_bool, isI_int, isI_tup, isB_bool, isB_int, ixQ0, ixQ1, truO_b, fzs_nil, fzs_d, gInt_eq, gAdd_int, gAbs_eq, fAdd_eq, fSub_eq, fLt_eq, fLe_eq, fGt_eq, fGe_eq, ix0, ix1, ix2, ix3, ix4, ix5, ofO_some, Option.map_some, Option.bind_some, List.length_cons, List.length_nil, List.map_cons, List.map_nil, List.replicate_succ, List.replicate_zero, List.cons_append, List.nil_append, List.getElem?_cons_zero, List.getElem?_cons_succ, List.set_cons_zero, List.set_cons_succ, List.take_length, Int.reduceEq, Int.reduceLT, Int.reduceLE, Nat.reduceSub, Nat.reduceAdd, Nat.reduceLeDiff, Nat.reduceLT, Nat.zero_add, Nat.add_zero, Nat.sub_self, if_true, if_false, reduceIte, Bool.false_eq_true, fitB, decide_true, decide_false, Bool.not_true, Bool.not_false, g, d2, e, lt]
        exact a4
    · have hh : lo = hi - 1 := by omega
      subst hh
      refine ⟨hi, o6, by omega, h5, h6, ?_⟩
      simp only [mkF, enter, retF, trunc, sSeq, So.then_nx, So.then_rt, sSet, sRet, sRetN, sIf, sExpr, sNil, sPar, sAsg, ofG, gN, gsCons, gsNil, gTupT_tup, gTupT_Q, Out.then_ok, Out.then_ex, Out.bind_ok, Out.bind_ex, eVar, eD_eq, eOp, eCall, eBlt, aCons, aNil, eTup, eIf, eT, eNot, eAnd, eOr, tvAnd, tvOr, tvNot, eNeg, eIsi, isTy_d, isQ_tup, isQ_bool, isQ_int, isI_bool, isI_int, isI_tup, isB_bool, isB_int, ixQ0, ixQ1, truO_b, fzs_nil, fzs_d, gInt_eq, gAdd_int, gAbs_eq, fAdd_eq, fSub_eq, fLt_eq, fLe_eq, fGt_eq, fGe_eq, ix0, ix1, ix2, ix3, ix4, ix5, ofO_some, Option.map_some, Option.bind_some, List.length_cons, List.length_nil, List.map_cons, List.map_nil, List.replicate_succ, List.replicate_zero, List.cons_append, List.nil_append, List.getElem?_cons_zero, List.getElem?_cons_succ, List.set_cons_zero, List.set_cons_succ, List.take_length, Int.reduceEq, Int.reduceLT, Int.reduceLE, Nat.reduceSub, Nat.reduceAdd, Nat.reduceLeDiff, Nat.reduceLT, Nat.zero_add, Nat.add_zero, Nat.sub_self, if_true, if_false, reduceIte, Bool.false_eq_true, fitB, decide_true, decide_false, Bool.not_true, Bool.not_false, g]
theorem sp_place_of {R : Ruler} (O : R.Ok) {x : Rat} {n : Nat} (hx : BQ n x) (hn : n ≤ 9000) (h : Hh) : m_place_of [.d R.da, .d (Q x)] h = .ok (.d (.int (R.plc x))) h := by
  have l1 := O.l1
  have l2 := O.l2
  have hs := hx.abs
  have h0 : 0 ≤ x.abs := Rat.abs_nonneg
  have e0 := sp_is_enough O hs hn (p := R.l) (by omega) h
  unfold m_place_of b_place_of
  by_cases lt : x.abs < R.pw (R.l + R.f)
  · have q : IsPlc R x R.l := ⟨Int.le_refl _, lt, .inl rfl⟩
    rw [plc_eq O q]
    simp only [mkF, enter, retF, trunc, sSeq, So.then_nx, So.then_rt, sSet, sRet, sRetN, sIf, sExpr, sNil, sPar, sAsg, ofG, gN, gsCons, gsNil, gTupT_tup, gTupT_Q, Out.then_ok, Out.then_ex, Out.bind_ok, Out.bind_ex, eVar, eD_eq, eOp, eCall, eBlt, aCons, aNil, eTup, eIf, eT, eNot, eAnd, eOr, tvAnd, tvOr, tvNot, eNeg, eIsi, isTy_d, isQ_tup, isQ_bool, isQ_int, isI_bool, isI_int, isI_tup, isB_bool, isB_int, ixQ0, ixQ1, truO_b, fzs_nil, fzs_d, gInt_eq, gAdd_int, gAbs_eq, fAdd_eq, fSub_eq, fLt_eq, fLe_eq, fGt_eq, fGe_eq, ix0, ix1, ix2, ix3, ix4, ix5, ofO_some, Option.map_some, Option.bind_some, List.length_cons, List.length_nil, List.map_cons, List.map_nil, List.replicate_succ, List.replicate_zero, List.cons_append, List.nil_append, List.getElem?_cons_zero, List.getElem?_cons_succ, List.set_cons_zero, List.set_cons_succ, List.take_length, Int.reduceEq, Int.reduceLT, Int.reduceLE, Nat.reduceSub, Nat.reduceAdd, Nat.reduceLeDiff, Nat.reduceLT, Nat.zero_add, Nat.add_zero, Nat.sub_self, if_true, if_false, reduceIte, Bool.false_eq_true, fitB, decide_true, decide_false, Bool.not_true, Bool.not_false, sp_size_of, ixR2, e0, lt]
  · obtain ⟨far, a1, a2, a3, a4, a5⟩ := w1_place O hs hn h0 (some (.d (Q x))) none none h 9200 1 (Nat.le_refl 1) (by omega) (by omega) (by
      rw [show ((1 / 2 : Nat) : Int) = 0 from rfl, Int.add_zero]
      exact lt)
    have a5' : sWhile (tvNot (eT (eCall m_is_enough (aCons (eVar 0) (aCons (eVar 2) (aCons (eOp gAdd (eVar 3) (eVar 4)) (aNil))))))) (sSet 4 (eOp (gInt fMul) (eVar 4) (eD (.int 2)))) [some (.d R.da), some (.d (Q x)), some (.d (Q x.abs)), some (.d (.int R.l)), some (.d (.int 1)), none, none] h = _ := a5
    have d2 : fDiv (far : Int) 2 = some (.int ((far / 2 : Nat) : Int)) := by
      have := div_lit (a := (far : Int)) (k := 2) (by decide) (by decide)
      rw [show ((2 : Nat) : Int) = 2 from rfl, fdiv2] at this
      exact this
    obtain ⟨p, z, b1, b2, b3, b4⟩ := w2_place O hs hn (some (.d (Q x))) (some (.d (.int (far : Int)))) h 40000 (R.l + ((far / 2 : Nat) : Int)) (R.l + (far : Int)) none (by omega) (by omega) (by omega) (by omega) a4 a3
    have q : IsPlc R x p := ⟨by omega, b3, .inr (Rat.not_lt.mp b2)⟩
    rw [plc_eq O q]
    simp only [mkF, enter, retF, trunc, sSeq, So.then_nx, So.then_rt, sSet, sRet, sRetN, sIf, sExpr, sNil, sPar, sAsg, ofG, gN, gsCons, gsNil, gTupT_tup, gTupT_Q, Out.then_ok, Out.then_ex, Out.bind_ok, Out.bind_ex, eVar, eD_eq, eOp, eCall, eBlt, aCons, aNil, eTup, eIf, eT, eNot, eAnd, eOr, tvAnd, tvOr, tvNot, eNeg, eIsi, isTy_d, isQ_tup, isQ_bool, isQ_int, isI_bool, isI_int, isI_tup, isB_bool, isB_int, ixQ0, ixQ1, truO_b, fzs_nil, fzs_d, gInt_eq, gAdd_int, gAbs_eq, fAdd_eq, fSub_eq, fLt_eq, fLe_eq, fGt_eq, fGe_eq, ix0, ix1, ix2, ix3, ix4, ix5, ofO_some, Option.map_some, Option.bind_some, List.length_cons, List.length_nil, List.map_cons, List.map_nil, List.replicate_succ, List.replicate_zero, List.cons_append, List.nil_append, List.getElem?_cons_zero, List.getElem?_cons_succ, List.set_cons_zero, List.set_cons_succ, List.take_length, Int.reduceEq, Int.reduceLT, Int.reduceLE, Nat.reduceSub, Nat.reduceAdd, Nat.reduceLeDiff, Nat.reduceLT, Nat.zero_add, Nat.add_zero, Nat.sub_self, if_true, if_false, reduceIte, Bool.false_eq_true, fitB, decide_true, decide_false, Bool.not_true, Bool.not_false, sp_size_of, ixR2, e0, lt, a5', d2, b4]
theorem sp_step_of {R : Ruler} (O : R.Ok) {x : Rat} {n : Nat} (hx : BQ n x) (hn : n ≤ 9000) (h : Hh) : m_step_of [.d R.da, .d (Q x)] h = .ok (.d (Q (R.pw (R.plc x)))) h := by
  have l1 := O.l1
  have l2 := O.l2
  have b := plc_bd O hx
  unfold m_step_of b_step_of
  simp only [mkF, enter, retF, trunc, sSeq, So.then_nx, So.then_rt, sSet, sRet, sRetN, sIf, sExpr, sNil, sPar, sAsg, ofG, gN, gsCons, gsNil, gTupT_tup, gTupT_Q, Out.then_ok, Out.then_ex, Out.bind_ok, Out.bind_ex, eVar, eD_eq, eOp, eCall, eBlt, aCons, aNil, eTup, eIf, eT, eNot, eAnd, eOr, tvAnd, tvOr, tvNot, eNeg, eIsi, isTy_d, isQ_tup, isQ_bool, isQ_int, isI_bool, isI_int, isI_tup, isB_bool, isB_int, ixQ0, ixQ1, truO_b, fzs_nil, fzs_d, gInt_eq, gAdd_int, gAbs_eq, fAdd_eq, fSub_eq, fLt_eq, fLe_eq, fGt_eq, fGe_eq, ix0, ix1, ix2, ix3, ix4, ix5, ofO_some, Option.map_some, Option.bind_some, List.length_cons, List.length_nil, List.map_cons, List.map_nil, List.replicate_succ, List.replicate_zero, List.cons_append, List.nil_append, List.getElem?_cons_zero, List.getElem?_cons_succ, List.set_cons_zero, List.set_cons_succ, List.take_length, Int.reduceEq, Int.reduceLT, Int.reduceLE, Nat.reduceSub, Nat.reduceAdd, Nat.reduceLeDiff, Nat.reduceLT, Nat.zero_add, Nat.add_zero, Nat.sub_self, if_true, if_false, reduceIte, Bool.false_eq_true, fitB, decide_true, decide_false, Bool.not_true, Bool.not_false, ixR0, sp_place_of O hx hn, sp_pw O (e := R.plc x) (by omega)]

/-! the laws' own rulers, powers, places -/
theorem sp_ruler_by {K : Nat} {xs : List Da} (st : Strm K xs) (hK : K + 5 < 2 ^ 30) {n : Nat} {h : Hh} (e : h[n]? = some (some (.lst xs))) :
    ∃ (R : Ruler) (xs' : List Da), m__law_ruler_by [.r n] h = .ok (.d R.da) (h.set n (some (.lst xs'))) ∧ R.Ok ∧ Strm (K + 5) xs' := by
  have hn : n < h.length := (List.getElem?_eq_some_iff.mp e).1
  have st5 : ∀ {j : Nat} {ys : List Da}, j ≤ K + 5 → Strm j ys → Strm (K + 5) ys := fun hj ⟨c, x, k, m, e, hk⟩ => ⟨c, x, k, m, e, by omega⟩
  have t0 : ∃ (v : Int) (xs' : List Da), m__law_take [.r n, .d (.int 4)] (h ++ [some (.lst [.str "near", .str "down", .str "up", .str "nought"])]) = .ok (.d (.int v)) (h.set n (some (.lst xs')) ++ [some (.lst [.str "near", .str "down", .str "up", .str "nought"])]) ∧ 0 ≤ v ∧ v < 4 ∧ Strm (K + 1) xs' := by
    obtain ⟨v, x, t, a, b, s⟩ := sp_take st (by omega) (n := n) (h := h ++ [some (.lst [.str "near", .str "down", .str "up", .str "nought"])]) (by rw [get_app hn, e]) (many := 4) (by decide) (by decide)
    rw [set_app hn] at t
    exact ⟨v, x, t, a, b, s⟩
  obtain ⟨v1, x1, t1, a1, b1, s1⟩ := t0
  obtain ⟨w, ew, hw⟩ : ∃ w : String, ([.str "near", .str "down", .str "up", .str "nought"] : List Da)[v1.toNat]? = some (.str w) ∧ (w = "near" ∨ w = "down" ∨ w = "up" ∨ w = "nought") := by
    have : v1 = 0 ∨ v1 = 1 ∨ v1 = 2 ∨ v1 = 3 := by omega
    rcases this with z | z | z | z <;> subst z
    · exact ⟨_, rfl, .inl rfl⟩
    · exact ⟨_, rfl, .inr (.inl rfl)⟩
    · exact ⟨_, rfl, .inr (.inr (.inl rfl))⟩
    · exact ⟨_, rfl, .inr (.inr (.inr rfl))⟩
  have mm := menu_at (h := h) (n := n) (o := some (.lst x1)) a1 ew
  have tk : ∀ {j : Nat} {ys : List Da} {l : Hh} (s : Strm j ys) (hj : j < 2 ^ 30) (many : Int) (hm : 0 < many) (hm2 : many < 2 ^ 62), _ := fun {j ys l} s hj many hm hm2 => sp_takeX s hj (h := h) hn hm hm2 l
  obtain ⟨v2, x2, t2, a2, b2, s2⟩ := tk (l := [some (.lst [.str "near", .str "down", .str "up", .str "nought"])]) s1 (by omega) 9 (by decide) (by decide)
  by_cases z : v2 = 0
  · obtain ⟨v3, x3, t3, a3, b3, s3⟩ := tk (l := [some (.lst [.str "near", .str "down", .str "up", .str "nought"])]) s2 (by omega) 15 (by decide) (by decide)
    obtain ⟨v4, x4, t4, a4, b4, s4⟩ := tk (l := [some (.lst [.str "near", .str "down", .str "up", .str "nought"])]) s3 (by omega) 24 (by decide) (by decide)
    obtain ⟨v5, x5, t5, a5, b5, s5⟩ := tk (l := [some (.lst [.str "near", .str "down", .str "up", .str "nought"])]) s4 (by omega) 201 (by decide) (by decide)
    refine ⟨⟨(2 + v3).toNat, (1 + v4).toNat, v5 - 100, w⟩, x5, ?_, ⟨by simp only; omega, by simp only; omega, by simp only; omega, by simp only; omega, by simp only; omega, by simp only; omega, hw⟩, st5 (by omega) s5⟩
    unfold m__law_ruler_by b__law_ruler_by Ruler.da
    have e3 : (((2 + v3).toNat : Nat) : Int) = 2 + v3 := by omega
    have e4 : (((1 + v4).toNat : Nat) : Int) = 1 + v4 := by omega
    simp only [mkF, enter, retF, trunc, sSeq, So.then_nx, So.then_rt, sSet, sRet, sRetN, sIf, sExpr, sNil, sPar, sAsg, ofG, gN, gsCons, gsNil, gTupT_tup, gTupT_Q, Out.then_ok, Out.then_ex, Out.bind_ok, Out.bind_ex, eVar, eD_eq, eOp, eCall, eBlt, aCons, aNil, eTup, eIf, eT, eNot, eAnd, eOr, tvAnd, tvOr, tvNot, eNeg, eIsi, isTy_d, isQ_tup, isQ_bool, isQ_int, isI_bool, isI_int, isI_tup, isB_bool, isB_int, ixQ0, ixQ1, truO_b, fzs_nil, fzs_d, gInt_eq, gAdd_int, gAbs_eq, fAdd_eq, fSub_eq, fLt_eq, fLe_eq, fGt_eq, fGe_eq, ix0, ix1, ix2, ix3, ix4, ix5, ofO_some, Option.map_some, Option.bind_some, List.length_cons, List.length_nil, List.map_cons, List.map_nil, List.replicate_succ, List.replicate_zero, List.cons_append, List.nil_append, List.getElem?_cons_zero, List.getElem?_cons_succ, List.set_cons_zero, List.set_cons_succ, List.take_length, Int.reduceEq, Int.reduceLT, Int.reduceLE, Nat.reduceSub, Nat.reduceAdd, Nat.reduceLeDiff, Nat.reduceLT, Nat.zero_add, Nat.add_zero, Nat.sub_self, if_true, if_false, reduceIte, Bool.false_eq_true, fitB, decide_true, decide_false, Bool.not_true, Bool.not_false, eLst, t1, mm, t2, t3, t4, t5, z, gEq_int, e3, e4, List.length_append, take_setApp]
  · obtain ⟨v3, x3, t3, a3, b3, s3⟩ := tk (l := [some (.lst [.str "near", .str "down", .str "up", .str "nought"])]) s2 (by omega) 4 (by decide) (by decide)
    obtain ⟨v4, x4, t4, a4, b4, s4⟩ := tk (l := [some (.lst [.str "near", .str "down", .str "up", .str "nought"])]) s3 (by omega) 3 (by decide) (by decide)
    obtain ⟨v5, x5, t5, a5, b5, s5⟩ := tk (l := [some (.lst [.str "near", .str "down", .str "up", .str "nought"])]) s4 (by omega) 7 (by decide) (by decide)
    refine ⟨⟨(2 + v3).toNat, (1 + v4).toNat, v5 - 5, w⟩, x5, ?_, ⟨by simp only; omega, by simp only; omega, by simp only; omega, by simp only; omega, by simp only; omega, by simp only; omega, hw⟩, st5 (by omega) s5⟩
    unfold m__law_ruler_by b__law_ruler_by Ruler.da
    have e3 : (((2 + v3).toNat : Nat) : Int) = 2 + v3 := by omega
    have e4 : (((1 + v4).toNat : Nat) : Int) = 1 + v4 := by omega
    simp only [mkF, enter, retF, trunc, sSeq, So.then_nx, So.then_rt, sSet, sRet, sRetN, sIf, sExpr, sNil, sPar, sAsg, ofG, gN, gsCons, gsNil, gTupT_tup, gTupT_Q, Out.then_ok, Out.then_ex, Out.bind_ok, Out.bind_ex, eVar, eD_eq, eOp, eCall, eBlt, aCons, aNil, eTup, eIf, eT, eNot, eAnd, eOr, tvAnd, tvOr, tvNot, eNeg, eIsi, isTy_d, isQ_tup, isQ_bool, isQ_int, isI_bool, isI_int, isI_tup, isB_bool, isB_int, ixQ0, ixQ1, truO_b, fzs_nil, fzs_d, gInt_eq, gAdd_int, gAbs_eq, fAdd_eq, fSub_eq, fLt_eq, fLe_eq, fGt_eq, fGe_eq, ix0, ix1, ix2, ix3, ix4, ix5, ofO_some, Option.map_some, Option.bind_some, List.length_cons, List.length_nil, List.map_cons, List.map_nil, List.replicate_succ, List.replicate_zero, List.cons_append, List.nil_append, List.getElem?_cons_zero, List.getElem?_cons_succ, List.set_cons_zero, List.set_cons_succ, List.take_length, Int.reduceEq, Int.reduceLT, Int.reduceLE, Nat.reduceSub, Nat.reduceAdd, Nat.reduceLeDiff, Nat.reduceLT, Nat.zero_add, Nat.add_zero, Nat.sub_self, if_true, if_false, reduceIte, Bool.false_eq_true, fitB, decide_true, decide_false, Bool.not_true, Bool.not_false, eLst, t1, mm, t2, t3, t4, t5, z, gEq_int, e3, e4, List.length_append, take_setApp]
/-- what the law's going keeps: the size, times below, is above times a power -/
def PlI (R : Ruler) (s : Rat) (a b : Nat) (k : Int) : Prop := s * (b : Rat) = (a : Rat) * R.pw k
theorem w1_lplace {R : Ruler} (O : R.Ok) (s : Rat) (o0 o1 o3 o4 o5 : Option Vl) (h : Hh) (a : Nat) : ∀ (m b : Nat) (k : Int), a < b + m → 1 ≤ b → PlI R s a b k →
    ∃ (b' : Nat) (k' : Int), 1 ≤ b' ∧ PlI R s a b' k' ∧ a < b' * R.b ∧ sWhile (eT (eOp (gInt fGe) (eVar 6) (eOp (gInt fMul) (eVar 7) (eVar 2)))) (sSeq (sSet 7 (eOp (gInt fMul) (eVar 7) (eVar 2)))
    (sSet 8 (eOp gAdd (eVar 8) (eD (.int 1))))) [o0, o1, some (.d (.int (R.b : Int))), o3, o4, o5, some (.d (.int (a : Int))), some (.d (.int (b : Int))), some (.d (.int k))] h
      = .nx [o0, o1, some (.d (.int (R.b : Int))), o3, o4, o5, some (.d (.int (a : Int))), some (.d (.int (b' : Int))), some (.d (.int k'))] h := by
  intro m
  induction m with
  | zero =>
    intro b k hm hb hi
    have l1 : b ≤ b * R.b := Nat.le_mul_of_pos_right b (by have := O.b2; omega)
    refine ⟨b, k, hb, hi, by omega, ?_⟩
    have mu : fMul (b : Int) (R.b : Int) = some (.int ((b * R.b : Nat) : Int)) := by
      rw [fMul_eq (mulOk_smallR (bd_nat (by have := O.b16; omega))), Int.natCast_mul]
    have g : ¬ ((b * R.b : Nat) : Int) ≤ (a : Int) := by omega
    rw [sWhile_eq]
    simp only [mkF, enter, retF, trunc, sSeq, So.then_nx, So.then_rt, sSet, sRet, sRetN, sIf, sExpr, sNil, sPar, sAsg, ofG, gN, gsCons, gsNil, gTupT_tup, gTupT_Q, Out.then_ok, Out.then_ex, Out.bind_ok, Out.bind_ex, eVar, eD_eq, eOp, eCall, eBlt, aCons, aNil, eTup, eIf, eT, eNot, eAnd, eOr, tvAnd, tvOr, tvNot, eNeg, eIsi, isTy_d, isQ_tup, isQ_bool, isQ_int, isI_bool, isI_int, isI_tup, isB_bool, isB_int, ixQ0, ixQ1, truO_b, fzs_nil, fzs_d, gInt_eq, gAdd_int, gAbs_eq, fAdd_eq, fSub_eq, fLt_eq, fLe_eq, fGt_eq, fGe_eq, ix0, ix1, ix2, ix3, ix4, ix5, ofO_some, Option.map_some, Option.bind_some, List.length_cons, List.length_nil, List.map_cons, List.map_nil, List.replicate_succ, List.replicate_zero, List.cons_append, List.nil_append, List.getElem?_cons_zero, List.getElem?_cons_succ, List.set_cons_zero, List.set_cons_succ, List.take_length, Int.reduceEq, Int.reduceLT, Int.reduceLE, Nat.reduceSub, Nat.reduceAdd, Nat.reduceLeDiff, Nat.reduceLT, Nat.zero_add, Nat.add_zero, Nat.sub_self, if_true, if_false, reduceIte, Bool.false_eq_true, fitB, decide_true, decide_false, Bool.not_true, Bool.not_false, mu, g]
  | succ m ih =>
    intro b k hm hb hi
    have mu : fMul (b : Int) (R.b : Int) = some (.int ((b * R.b : Nat) : Int)) := by
      rw [fMul_eq (mulOk_smallR (bd_nat (by have := O.b16; omega))), Int.natCast_mul]
    by_cases g : b * R.b ≤ a
    · have l1 : b * 2 ≤ b * R.b := Nat.mul_le_mul_left b O.b2
      obtain ⟨b', k', a1, a2, a3, a4⟩ := ih (b * R.b) (k + 1) (by omega) (by omega) (by
        unfold PlI at *
        rw [pw_add O, show R.pw 1 = (R.b : Rat) from Rat.zpow_one _, Rat.natCast_mul]
        grind)
      refine ⟨b', k', a1, a2, a3, ?_⟩
      have g' : ((b * R.b : Nat) : Int) ≤ (a : Int) := by omega
      rw [sWhile_eq]
      simp only [mkF, enter, retF, trunc, sSeq, So.then_nx, So.then_rt, sSet, sRet, sRetN, sIf, sExpr, sNil, sPar, sAsg, ofG, gN, gsCons, gsNil, gTupT_tup, gTupT_Q, Out.then_ok, Out.then_ex, Out.bind_ok, Out.bind_ex, eVar, eD_eq, eOp, eCall, eBlt, aCons, aNil, eTup, eIf, eT, eNot, eAnd, eOr, tvAnd, tvOr, tvNot, eNeg, eIsi, isTy_d, isQ_tup, isQ_bool, isQ_int, isI_bool, isI_int, isI_tup, isB_bool, isB_int, ixQ0, ixQ1, truO_b, fzs_nil, fzs_d, gInt_eq, gAdd_int, gAbs_eq, fAdd_eq, fSub_eq, fLt_eq, fLe_eq, fGt_eq, fGe_eq, ix0, ix1, ix2, ix3, ix4, ix5, ofO_some, Option.map_some, Option.bind_some, List.length_cons, List.length_nil, List.map_cons, List.map_nil, List.replicate_succ, List.replicate_zero, List.cons_append, List.nil_append, List.getElem?_cons_zero, List.getElem?_cons_succ, List.set_cons_zero, List.set_cons_succ, List.take_length, Int.reduceEq, Int.reduceLT, Int.reduceLE, Nat.reduceSub, Nat.reduceAdd, Nat.reduceLeDiff, Nat.reduceLT, Nat.zero_add, Nat.add_zero, Nat.sub_self, if_true, if_false, reduceIte, Bool.false_eq_true, fitB, decide_true, decide_false, Bool.not_true, Bool.not_false, mu, g']
      exact a4
    · refine ⟨b, k, hb, hi, by omega, ?_⟩
      have g' : ¬ ((b * R.b : Nat) : Int) ≤ (a : Int) := by omega
      rw [sWhile_eq]
      simp only [mkF, enter, retF, trunc, sSeq, So.then_nx, So.then_rt, sSet, sRet, sRetN, sIf, sExpr, sNil, sPar, sAsg, ofG, gN, gsCons, gsNil, gTupT_tup, gTupT_Q, Out.then_ok, Out.then_ex, Out.bind_ok, Out.bind_ex, eVar, eD_eq, eOp, eCall, eBlt, aCons, aNil, eTup, eIf, eT, eNot, eAnd, eOr, tvAnd, tvOr, tvNot, eNeg, eIsi, isTy_d, isQ_tup, isQ_bool, isQ_int, isI_bool, isI_int, isI_tup, isB_bool, isB_int, ixQ0, ixQ1, truO_b, fzs_nil, fzs_d, gInt_eq, gAdd_int, gAbs_eq, fAdd_eq, fSub_eq, fLt_eq, fLe_eq, fGt_eq, fGe_eq, ix0, ix1, ix2, ix3, ix4, ix5, ofO_some, Option.map_some, Option.bind_some, List.length_cons, List.length_nil, List.map_cons, List.map_nil, List.replicate_succ, List.replicate_zero, List.cons_append, List.nil_append, List.getElem?_cons_zero, List.getElem?_cons_succ, List.set_cons_zero, List.set_cons_succ, List.take_length, Int.reduceEq, Int.reduceLT, Int.reduceLE, Nat.reduceSub, Nat.reduceAdd, Nat.reduceLeDiff, Nat.reduceLT, Nat.zero_add, Nat.add_zero, Nat.sub_self, if_true, if_false, reduceIte, Bool.false_eq_true, fitB, decide_true, decide_false, Bool.not_true, Bool.not_false, mu, g']
theorem w2_lplace {R : Ruler} (O : R.Ok) (s : Rat) (o0 o1 o3 o4 o5 : Option Vl) (h : Hh) (b : Nat) : ∀ (m a : Nat) (k : Int), b ≤ a + m → 1 ≤ a → a < b * R.b → PlI R s a b k →
    ∃ (a' : Nat) (k' : Int), b ≤ a' ∧ a' < b * R.b ∧ PlI R s a' b k' ∧ sWhile (eT (eOp (gInt fLt) (eVar 6) (eVar 7))) (sSeq (sSet 6 (eOp (gInt fMul) (eVar 6) (eVar 2)))
    (sSet 8 (eOp (gInt fSub) (eVar 8) (eD (.int 1))))) [o0, o1, some (.d (.int (R.b : Int))), o3, o4, o5, some (.d (.int (a : Int))), some (.d (.int (b : Int))), some (.d (.int k))] h
      = .nx [o0, o1, some (.d (.int (R.b : Int))), o3, o4, o5, some (.d (.int (a' : Int))), some (.d (.int (b : Int))), some (.d (.int k'))] h := by
  intro m
  induction m with
  | zero =>
    intro a k hm ha hl hi
    refine ⟨a, k, by omega, hl, hi, ?_⟩
    have g : ¬ (a : Int) < (b : Int) := by omega
    rw [sWhile_eq]
    simp only [mkF, enter, retF, trunc, sSeq, So.then_nx, So.then_rt, sSet, sRet, sRetN, sIf, sExpr, sNil, sPar, sAsg, ofG, gN, gsCons, gsNil, gTupT_tup, gTupT_Q, Out.then_ok, Out.then_ex, Out.bind_ok, Out.bind_ex, eVar, eD_eq, eOp, eCall, eBlt, aCons, aNil, eTup, eIf, eT, eNot, eAnd, eOr, tvAnd, tvOr, tvNot, eNeg, eIsi, isTy_d, isQ_tup, isQ_bool, isQ_int, isI_bool, isI_int, isI_tup, isB_bool, isB_int, ixQ0, ixQ1, truO_b, fzs_nil, fzs_d, gInt_eq, gAdd_int, gAbs_eq, fAdd_eq, fSub_eq, fLt_eq, fLe_eq, fGt_eq, fGe_eq, ix0, ix1, ix2, ix3, ix4, ix5, ofO_some, Option.map_some, Option.bind_some, List.length_cons, List.length_nil, List.map_cons, List.map_nil, List.replicate_succ, List.replicate_zero, List.cons_append, List.nil_append, List.getElem?_cons_zero, List.getElem?_cons_succ, List.set_cons_zero, List.set_cons_succ, List.take_length, Int.reduceEq, Int.reduceLT, Int.reduceLE, Nat.reduceSub, Nat.reduceAdd, Nat.reduceLeDiff, Nat.reduceLT, Nat.zero_add, Nat.add_zero, Nat.sub_self, if_true, if_false, reduceIte, Bool.false_eq_true, fitB, decide_true, decide_false, Bool.not_true, Bool.not_false, g]
  | succ m ih =>
    intro a k hm ha hl hi
    have mu : fMul (a : Int) (R.b : Int) = some (.int ((a * R.b : Nat) : Int)) := by
      rw [fMul_eq (mulOk_smallR (bd_nat (by have := O.b16; omega))), Int.natCast_mul]
    by_cases g : a < b
    · have l1 : a * 2 ≤ a * R.b := Nat.mul_le_mul_left a O.b2
      obtain ⟨a', k', a1, a2, a3, a4⟩ := ih (a * R.b) (k - 1) (by omega) (by omega) (Nat.mul_lt_mul_of_pos_right g (by have := O.b2; omega)) (by
        unfold PlI at *
        rw [hi, Rat.natCast_mul, show k = (k - 1) + 1 by omega, pw_add O, show R.pw 1 = (R.b : Rat) from Rat.zpow_one _, show k - 1 + 1 - 1 = k - 1 by omega]
        grind)
      refine ⟨a', k', a1, a2, a3, ?_⟩
      have g' : (a : Int) < (b : Int) := by omega
      rw [sWhile_eq]
      simp only [mkF, enter, retF, trunc, sSeq, So.then_nx, So.then_rt, sSet, sRet, sRetN, sIf, sExpr, sNil, sPar, sAsg, ofG, gN, gsCons, gsNil, gTupT_tup, gTupT_Q, Out.then_ok, Out.then_ex, Out.bind_ok, Out.bind_ex, eVar, eD_eq, eOp, eCall, eBlt, aCons, aNil, eTup, eIf, eT, eNot, eAnd, eOr, tvAnd, tvOr, tvNot, eNeg, eIsi, isTy_d, isQ_tup, isQ_bool, isQ_int, isI_bool, isI_int, isI_tup, isB_bool, isB_int, ixQ0, ixQ1, truO_b, fzs_nil, fzs_d, gInt_eq, gAdd_int, gAbs_eq, fAdd_eq, fSub_eq, fLt_eq, fLe_eq, fGt_eq, fGe_eq, ix0, ix1, ix2, ix3, ix4, ix5, ofO_some, Option.map_some, Option.bind_some, List.length_cons, List.length_nil, List.map_cons, List.map_nil, List.replicate_succ, List.replicate_zero, List.cons_append, List.nil_append, List.getElem?_cons_zero, List.getElem?_cons_succ, List.set_cons_zero, List.set_cons_succ, List.take_length, Int.reduceEq, Int.reduceLT, Int.reduceLE, Nat.reduceSub, Nat.reduceAdd, Nat.reduceLeDiff, Nat.reduceLT, Nat.zero_add, Nat.add_zero, Nat.sub_self, if_true, if_false, reduceIte, Bool.false_eq_true, fitB, decide_true, decide_false, Bool.not_true, Bool.not_false, mu, g']
      exact a4
    · refine ⟨a, k, by omega, hl, hi, ?_⟩
      have g' : ¬ (a : Int) < (b : Int) := by omega
      rw [sWhile_eq]
      simp only [mkF, enter, retF, trunc, sSeq, So.then_nx, So.then_rt, sSet, sRet, sRetN, sIf, sExpr, sNil, sPar, sAsg, ofG, gN, gsCons, gsNil, gTupT_tup, gTupT_Q, Out.then_ok, Out.then_ex, Out.bind_ok, Out.bind_ex, eVar, eD_eq, eOp, eCall, eBlt, aCons, aNil, eTup, eIf, eT, eNot, eAnd, eOr, tvAnd, tvOr, tvNot, eNeg, eIsi, isTy_d, isQ_tup, isQ_bool, isQ_int, isI_bool, isI_int, isI_tup, isB_bool, isB_int, ixQ0, ixQ1, truO_b, fzs_nil, fzs_d, gInt_eq, gAdd_int, gAbs_eq, fAdd_eq, fSub_eq, fLt_eq, fLe_eq, fGt_eq, fGe_eq, ix0, ix1, ix2, ix3, ix4, ix5, ofO_some, Option.map_some, Option.bind_some, List.length_cons, List.length_nil, List.map_cons, List.map_nil, List.replicate_succ, List.replicate_zero, List.cons_append, List.nil_append, List.getElem?_cons_zero, List.getElem?_cons_succ, List.set_cons_zero, List.set_cons_succ, List.take_length, Int.reduceEq, Int.reduceLT, Int.reduceLE, Nat.reduceSub, Nat.reduceAdd, Nat.reduceLeDiff, Nat.reduceLT, Nat.zero_add, Nat.add_zero, Nat.sub_self, if_true, if_false, reduceIte, Bool.false_eq_true, fitB, decide_true, decide_false, Bool.not_true, Bool.not_false, g']

/-! what is a fraction; rounding -/
theorem sp_is_whole_int (i : Int) (h : Hh) : m_is_whole [.d (.int i)] h = .ok (.d (.bool true)) h := by
  unfold m_is_whole b_is_whole
  walk_at "ev"
theorem sp_is_fraction (r : Rat) (h : Hh) : m_is_fraction [.d (Q r)] h = .ok (.d (.bool true)) h := by
  have g : ((Int.gcd r.num r.den : Nat) : Int) = 1 := by
    have := r.reduced
    unfold Nat.Coprime at this
    unfold Int.gcd
    rw [Int.natAbs_natCast, this]
    rfl
  have d := den_pos r
  unfold m_is_fraction b_is_fraction
  simp only [mkF, enter, retF, trunc, sSeq, So.then_nx, So.then_rt, sSet, sRet, sRetN, sIf, sExpr, sNil, sPar, sAsg, ofG, gN, gsCons, gsNil, gTupT_tup, gTupT_Q, Out.then_ok, Out.then_ex, Out.bind_ok, Out.bind_ex, eVar, eD_eq, eOp, eCall, eBlt, aCons, aNil, eTup, eIf, eT, eNot, eAnd, eOr, tvAnd, tvOr, tvNot, eNeg, eIsi, isTy_d, isQ_tup, isQ_bool, isQ_int, isI_bool, isI_int, isI_tup, isB_bool, isB_int, ixQ0, ixQ1, truO_b, fzs_nil, fzs_d, gInt_eq, gAdd_int, gAbs_eq, fAdd_eq, fSub_eq, fLt_eq, fLe_eq, fGt_eq, fGe_eq, ix0, ix1, ix2, ix3, ix4, ix5, ofO_some, Option.map_some, Option.bind_some, List.length_cons, List.length_nil, List.map_cons, List.map_nil, List.replicate_succ, List.replicate_zero, List.cons_append, List.nil_append, List.getElem?_cons_zero, List.getElem?_cons_succ, List.set_cons_zero, List.set_cons_succ, List.take_length, Int.reduceEq, Int.reduceLT, Int.reduceLE, Nat.reduceSub, Nat.reduceAdd, Nat.reduceLeDiff, Nat.reduceLT, Nat.zero_add, Nat.add_zero, Nat.sub_self, if_true, if_false, reduceIte, Bool.false_eq_true, fitB, decide_true, decide_false, Bool.not_true, Bool.not_false, gLen_Q, gNe_int, sp_is_whole_int, sp_shared, g, gEq_int, d]
theorem sp_whole_by {w : String} (hw : w = "near" ∨ w = "down" ∨ w = "up" ∨ w = "nought") {t : Rat} {n : Nat} (ht : BQ n t) (h0 : 0 < n) (hl : n ≤ 9000) (h : Hh) : m_whole_by [.d (.str w), .d (.int t.num), .d (.int t.den)] h = .ok (.d (.int (wb w t))) h := by
  have d1 := fDiv_eq (a := t.num) (den_ne t) (ht.2.divOk h0 hl)
  rw [floor_num] at d1
  have d2 := fMod_eq (a := t.num) (den_ne t)
  have m2 : fMul (t.num.fmod t.den) 2 = some (.int (t.num.fmod t.den * 2)) := fMul_eq (mulOk_smallR (bd_lit 2 (by decide) (by decide) (by decide)))
  have m3 : fMod t.floor 2 = some (.int (t.floor.fmod 2)) := fMod_eq (by decide)
  have r1 := rest_gt t
  have r2 := rest_half t
  have r3 := rest_pos t
  have r4 := num_neg t
  unfold wb upB
  unfold m_whole_by b_whole_by
  rcases hw with z | z | z | z <;> subst z
  · by_cases c1 : 1 < 2 * (t - (t.floor : Rat))
    · have q1 := r1.mpr c1
      simp only [mkF, enter, retF, trunc, sSeq, So.then_nx, So.then_rt, sSet, sRet, sRetN, sIf, sExpr, sNil, sPar, sAsg, ofG, gN, gsCons, gsNil, gTupT_tup, gTupT_Q, Out.then_ok, Out.then_ex, Out.bind_ok, Out.bind_ex, eVar, eD_eq, eOp, eCall, eBlt, aCons, aNil, eTup, eIf, eT, eNot, eAnd, eOr, tvAnd, tvOr, tvNot, eNeg, eIsi, isTy_d, isQ_tup, isQ_bool, isQ_int, isI_bool, isI_int, isI_tup, isB_bool, isB_int, ixQ0, ixQ1, truO_b, fzs_nil, fzs_d, gInt_eq, gAdd_int, gAbs_eq, fAdd_eq, fSub_eq, fLt_eq, fLe_eq, fGt_eq, fGe_eq, ix0, ix1, ix2, ix3, ix4, ix5, ofO_some, Option.map_some, Option.bind_some, List.length_cons, List.length_nil, List.map_cons, List.map_nil, List.replicate_succ, List.replicate_zero, List.cons_append, List.nil_append, List.getElem?_cons_zero, List.getElem?_cons_succ, List.set_cons_zero, List.set_cons_succ, List.take_length, Int.reduceEq, Int.reduceLT, Int.reduceLE, Nat.reduceSub, Nat.reduceAdd, Nat.reduceLeDiff, Nat.reduceLT, Nat.zero_add, Nat.add_zero, Nat.sub_self, if_true, if_false, reduceIte, Bool.false_eq_true, fitB, decide_true, decide_false, Bool.not_true, Bool.not_false, d1, d2, m2, m3, gEq_strO, so_near, so_down, so_up, so_nought, gInt1_b, q1, c1, Bool.true_or]
    · have q1 : ¬ (t.den : Int) < t.num.fmod t.den * 2 := fun z => c1 (r1.mp z)
      by_cases c2 : 2 * (t - (t.floor : Rat)) = 1
      · have q2 := r2.mpr c2
        by_cases c3 : t.floor.fmod 2 = 1
        · simp only [mkF, enter, retF, trunc, sSeq, So.then_nx, So.then_rt, sSet, sRet, sRetN, sIf, sExpr, sNil, sPar, sAsg, ofG, gN, gsCons, gsNil, gTupT_tup, gTupT_Q, Out.then_ok, Out.then_ex, Out.bind_ok, Out.bind_ex, eVar, eD_eq, eOp, eCall, eBlt, aCons, aNil, eTup, eIf, eT, eNot, eAnd, eOr, tvAnd, tvOr, tvNot, eNeg, eIsi, isTy_d, isQ_tup, isQ_bool, isQ_int, isI_bool, isI_int, isI_tup, isB_bool, isB_int, ixQ0, ixQ1, truO_b, fzs_nil, fzs_d, gInt_eq, gAdd_int, gAbs_eq, fAdd_eq, fSub_eq, fLt_eq, fLe_eq, fGt_eq, fGe_eq, ix0, ix1, ix2, ix3, ix4, ix5, ofO_some, Option.map_some, Option.bind_some, List.length_cons, List.length_nil, List.map_cons, List.map_nil, List.replicate_succ, List.replicate_zero, List.cons_append, List.nil_append, List.getElem?_cons_zero, List.getElem?_cons_succ, List.set_cons_zero, List.set_cons_succ, List.take_length, Int.reduceEq, Int.reduceLT, Int.reduceLE, Nat.reduceSub, Nat.reduceAdd, Nat.reduceLeDiff, Nat.reduceLT, Nat.zero_add, Nat.add_zero, Nat.sub_self, if_true, if_false, reduceIte, Bool.false_eq_true, fitB, decide_true, decide_false, Bool.not_true, Bool.not_false, d1, d2, m2, m3, gEq_strO, so_near, so_down, so_up, so_nought, gEq_int, gInt1_b, q1, q2, c1, c2, c3, Int.lt_irrefl, Rat.lt_irrefl, Bool.false_or, Bool.true_and]
        · simp only [mkF, enter, retF, trunc, sSeq, So.then_nx, So.then_rt, sSet, sRet, sRetN, sIf, sExpr, sNil, sPar, sAsg, ofG, gN, gsCons, gsNil, gTupT_tup, gTupT_Q, Out.then_ok, Out.then_ex, Out.bind_ok, Out.bind_ex, eVar, eD_eq, eOp, eCall, eBlt, aCons, aNil, eTup, eIf, eT, eNot, eAnd, eOr, tvAnd, tvOr, tvNot, eNeg, eIsi, isTy_d, isQ_tup, isQ_bool, isQ_int, isI_bool, isI_int, isI_tup, isB_bool, isB_int, ixQ0, ixQ1, truO_b, fzs_nil, fzs_d, gInt_eq, gAdd_int, gAbs_eq, fAdd_eq, fSub_eq, fLt_eq, fLe_eq, fGt_eq, fGe_eq, ix0, ix1, ix2, ix3, ix4, ix5, ofO_some, Option.map_some, Option.bind_some, List.length_cons, List.length_nil, List.map_cons, List.map_nil, List.replicate_succ, List.replicate_zero, List.cons_append, List.nil_append, List.getElem?_cons_zero, List.getElem?_cons_succ, List.set_cons_zero, List.set_cons_succ, List.take_length, Int.reduceEq, Int.reduceLT, Int.reduceLE, Nat.reduceSub, Nat.reduceAdd, Nat.reduceLeDiff, Nat.reduceLT, Nat.zero_add, Nat.add_zero, Nat.sub_self, if_true, if_false, reduceIte, Bool.false_eq_true, fitB, decide_true, decide_false, Bool.not_true, Bool.not_false, d1, d2, m2, m3, gEq_strO, so_near, so_down, so_up, so_nought, gEq_int, gInt1_b, q1, q2, c1, c2, c3, Int.lt_irrefl, Rat.lt_irrefl, Bool.false_or, Bool.true_and]
      · have q2 : ¬ t.num.fmod t.den * 2 = (t.den : Int) := fun z => c2 (r2.mp z)
        simp only [mkF, enter, retF, trunc, sSeq, So.then_nx, So.then_rt, sSet, sRet, sRetN, sIf, sExpr, sNil, sPar, sAsg, ofG, gN, gsCons, gsNil, gTupT_tup, gTupT_Q, Out.then_ok, Out.then_ex, Out.bind_ok, Out.bind_ex, eVar, eD_eq, eOp, eCall, eBlt, aCons, aNil, eTup, eIf, eT, eNot, eAnd, eOr, tvAnd, tvOr, tvNot, eNeg, eIsi, isTy_d, isQ_tup, isQ_bool, isQ_int, isI_bool, isI_int, isI_tup, isB_bool, isB_int, ixQ0, ixQ1, truO_b, fzs_nil, fzs_d, gInt_eq, gAdd_int, gAbs_eq, fAdd_eq, fSub_eq, fLt_eq, fLe_eq, fGt_eq, fGe_eq, ix0, ix1, ix2, ix3, ix4, ix5, ofO_some, Option.map_some, Option.bind_some, List.length_cons, List.length_nil, List.map_cons, List.map_nil, List.replicate_succ, List.replicate_zero, List.cons_append, List.nil_append, List.getElem?_cons_zero, List.getElem?_cons_succ, List.set_cons_zero, List.set_cons_succ, List.take_length, Int.reduceEq, Int.reduceLT, Int.reduceLE, Nat.reduceSub, Nat.reduceAdd, Nat.reduceLeDiff, Nat.reduceLT, Nat.zero_add, Nat.add_zero, Nat.sub_self, if_true, if_false, reduceIte, Bool.false_eq_true, fitB, decide_true, decide_false, Bool.not_true, Bool.not_false, d1, d2, m2, m3, gEq_strO, so_near, so_down, so_up, so_nought, gEq_int, gInt1_b, q1, q2, c1, c2, Bool.false_or, Bool.false_and]
  · have s1 : ¬ ((Str.ofString "down") = (Str.ofString "near")) := str_ne (by decide +kernel)
    have s2 : ¬ ((Str.ofString "down") = (Str.ofString "nought")) := str_ne (by decide +kernel)
    have s3 : ¬ ((Str.ofString "down") = (Str.ofString "up")) := str_ne (by decide +kernel)
    have s1' : ¬ ("down" : String) = "near" := by decide
    have s2' : ¬ ("down" : String) = "nought" := by decide
    have s3' : ¬ ("down" : String) = "up" := by decide
    simp only [mkF, enter, retF, trunc, sSeq, So.then_nx, So.then_rt, sSet, sRet, sRetN, sIf, sExpr, sNil, sPar, sAsg, ofG, gN, gsCons, gsNil, gTupT_tup, gTupT_Q, Out.then_ok, Out.then_ex, Out.bind_ok, Out.bind_ex, eVar, eD_eq, eOp, eCall, eBlt, aCons, aNil, eTup, eIf, eT, eNot, eAnd, eOr, tvAnd, tvOr, tvNot, eNeg, eIsi, isTy_d, isQ_tup, isQ_bool, isQ_int, isI_bool, isI_int, isI_tup, isB_bool, isB_int, ixQ0, ixQ1, truO_b, fzs_nil, fzs_d, gInt_eq, gAdd_int, gAbs_eq, fAdd_eq, fSub_eq, fLt_eq, fLe_eq, fGt_eq, fGe_eq, ix0, ix1, ix2, ix3, ix4, ix5, ofO_some, Option.map_some, Option.bind_some, List.length_cons, List.length_nil, List.map_cons, List.map_nil, List.replicate_succ, List.replicate_zero, List.cons_append, List.nil_append, List.getElem?_cons_zero, List.getElem?_cons_succ, List.set_cons_zero, List.set_cons_succ, List.take_length, Int.reduceEq, Int.reduceLT, Int.reduceLE, Nat.reduceSub, Nat.reduceAdd, Nat.reduceLeDiff, Nat.reduceLT, Nat.zero_add, Nat.add_zero, Nat.sub_self, if_true, if_false, reduceIte, Bool.false_eq_true, fitB, decide_true, decide_false, Bool.not_true, Bool.not_false, d1, d2, gEq_strO, so_near, so_down, so_up, so_nought, gInt1_b, s1, s2, s3, s1', s2', s3', Bool.false_and]
  · have s1 : ¬ ((Str.ofString "up") = (Str.ofString "near")) := str_ne (by decide +kernel)
    have s2 : ¬ ((Str.ofString "up") = (Str.ofString "nought")) := str_ne (by decide +kernel)
    have s1' : ¬ ("up" : String) = "near" := by decide
    have s2' : ¬ ("up" : String) = "nought" := by decide
    by_cases c3 : 0 < t - (t.floor : Rat)
    · have q3 := r3.mpr c3
      simp only [mkF, enter, retF, trunc, sSeq, So.then_nx, So.then_rt, sSet, sRet, sRetN, sIf, sExpr, sNil, sPar, sAsg, ofG, gN, gsCons, gsNil, gTupT_tup, gTupT_Q, Out.then_ok, Out.then_ex, Out.bind_ok, Out.bind_ex, eVar, eD_eq, eOp, eCall, eBlt, aCons, aNil, eTup, eIf, eT, eNot, eAnd, eOr, tvAnd, tvOr, tvNot, eNeg, eIsi, isTy_d, isQ_tup, isQ_bool, isQ_int, isI_bool, isI_int, isI_tup, isB_bool, isB_int, ixQ0, ixQ1, truO_b, fzs_nil, fzs_d, gInt_eq, gAdd_int, gAbs_eq, fAdd_eq, fSub_eq, fLt_eq, fLe_eq, fGt_eq, fGe_eq, ix0, ix1, ix2, ix3, ix4, ix5, ofO_some, Option.map_some, Option.bind_some, List.length_cons, List.length_nil, List.map_cons, List.map_nil, List.replicate_succ, List.replicate_zero, List.cons_append, List.nil_append, List.getElem?_cons_zero, List.getElem?_cons_succ, List.set_cons_zero, List.set_cons_succ, List.take_length, Int.reduceEq, Int.reduceLT, Int.reduceLE, Nat.reduceSub, Nat.reduceAdd, Nat.reduceLeDiff, Nat.reduceLT, Nat.zero_add, Nat.add_zero, Nat.sub_self, if_true, if_false, reduceIte, Bool.false_eq_true, fitB, decide_true, decide_false, Bool.not_true, Bool.not_false, d1, d2, gEq_strO, so_near, so_down, so_up, so_nought, gInt1_b, s1, s2, s1', s2', c3, q3, Bool.true_and]
    · have q3 : ¬ 0 < t.num.fmod t.den := fun z => c3 (r3.mp z)
      simp only [mkF, enter, retF, trunc, sSeq, So.then_nx, So.then_rt, sSet, sRet, sRetN, sIf, sExpr, sNil, sPar, sAsg, ofG, gN, gsCons, gsNil, gTupT_tup, gTupT_Q, Out.then_ok, Out.then_ex, Out.bind_ok, Out.bind_ex, eVar, eD_eq, eOp, eCall, eBlt, aCons, aNil, eTup, eIf, eT, eNot, eAnd, eOr, tvAnd, tvOr, tvNot, eNeg, eIsi, isTy_d, isQ_tup, isQ_bool, isQ_int, isI_bool, isI_int, isI_tup, isB_bool, isB_int, ixQ0, ixQ1, truO_b, fzs_nil, fzs_d, gInt_eq, gAdd_int, gAbs_eq, fAdd_eq, fSub_eq, fLt_eq, fLe_eq, fGt_eq, fGe_eq, ix0, ix1, ix2, ix3, ix4, ix5, ofO_some, Option.map_some, Option.bind_some, List.length_cons, List.length_nil, List.map_cons, List.map_nil, List.replicate_succ, List.replicate_zero, List.cons_append, List.nil_append, List.getElem?_cons_zero, List.getElem?_cons_succ, List.set_cons_zero, List.set_cons_succ, List.take_length, Int.reduceEq, Int.reduceLT, Int.reduceLE, Nat.reduceSub, Nat.reduceAdd, Nat.reduceLeDiff, Nat.reduceLT, Nat.zero_add, Nat.add_zero, Nat.sub_self, if_true, if_false, reduceIte, Bool.false_eq_true, fitB, decide_true, decide_false, Bool.not_true, Bool.not_false, d1, d2, gEq_strO, so_near, so_down, so_up, so_nought, gInt1_b, s1, s2, s1', s2', c3, q3, Bool.true_and]
  · have s1 : ¬ ((Str.ofString "nought") = (Str.ofString "near")) := str_ne (by decide +kernel)
    have s1' : ¬ ("nought" : String) = "near" := by decide
    by_cases c4 : t < 0
    · have q4 := r4.mpr c4
      by_cases c3 : 0 < t - (t.floor : Rat)
      · have q3 := r3.mpr c3
        simp only [mkF, enter, retF, trunc, sSeq, So.then_nx, So.then_rt, sSet, sRet, sRetN, sIf, sExpr, sNil, sPar, sAsg, ofG, gN, gsCons, gsNil, gTupT_tup, gTupT_Q, Out.then_ok, Out.then_ex, Out.bind_ok, Out.bind_ex, eVar, eD_eq, eOp, eCall, eBlt, aCons, aNil, eTup, eIf, eT, eNot, eAnd, eOr, tvAnd, tvOr, tvNot, eNeg, eIsi, isTy_d, isQ_tup, isQ_bool, isQ_int, isI_bool, isI_int, isI_tup, isB_bool, isB_int, ixQ0, ixQ1, truO_b, fzs_nil, fzs_d, gInt_eq, gAdd_int, gAbs_eq, fAdd_eq, fSub_eq, fLt_eq, fLe_eq, fGt_eq, fGe_eq, ix0, ix1, ix2, ix3, ix4, ix5, ofO_some, Option.map_some, Option.bind_some, List.length_cons, List.length_nil, List.map_cons, List.map_nil, List.replicate_succ, List.replicate_zero, List.cons_append, List.nil_append, List.getElem?_cons_zero, List.getElem?_cons_succ, List.set_cons_zero, List.set_cons_succ, List.take_length, Int.reduceEq, Int.reduceLT, Int.reduceLE, Nat.reduceSub, Nat.reduceAdd, Nat.reduceLeDiff, Nat.reduceLT, Nat.zero_add, Nat.add_zero, Nat.sub_self, if_true, if_false, reduceIte, Bool.false_eq_true, fitB, decide_true, decide_false, Bool.not_true, Bool.not_false, d1, d2, gEq_strO, so_near, so_down, so_up, so_nought, gInt1_b, s1, s1', c3, q3, c4, q4, Bool.true_and]
      · have q3 : ¬ 0 < t.num.fmod t.den := fun z => c3 (r3.mp z)
        simp only [mkF, enter, retF, trunc, sSeq, So.then_nx, So.then_rt, sSet, sRet, sRetN, sIf, sExpr, sNil, sPar, sAsg, ofG, gN, gsCons, gsNil, gTupT_tup, gTupT_Q, Out.then_ok, Out.then_ex, Out.bind_ok, Out.bind_ex, eVar, eD_eq, eOp, eCall, eBlt, aCons, aNil, eTup, eIf, eT, eNot, eAnd, eOr, tvAnd, tvOr, tvNot, eNeg, eIsi, isTy_d, isQ_tup, isQ_bool, isQ_int, isI_bool, isI_int, isI_tup, isB_bool, isB_int, ixQ0, ixQ1, truO_b, fzs_nil, fzs_d, gInt_eq, gAdd_int, gAbs_eq, fAdd_eq, fSub_eq, fLt_eq, fLe_eq, fGt_eq, fGe_eq, ix0, ix1, ix2, ix3, ix4, ix5, ofO_some, Option.map_some, Option.bind_some, List.length_cons, List.length_nil, List.map_cons, List.map_nil, List.replicate_succ, List.replicate_zero, List.cons_append, List.nil_append, List.getElem?_cons_zero, List.getElem?_cons_succ, List.set_cons_zero, List.set_cons_succ, List.take_length, Int.reduceEq, Int.reduceLT, Int.reduceLE, Nat.reduceSub, Nat.reduceAdd, Nat.reduceLeDiff, Nat.reduceLT, Nat.zero_add, Nat.add_zero, Nat.sub_self, if_true, if_false, reduceIte, Bool.false_eq_true, fitB, decide_true, decide_false, Bool.not_true, Bool.not_false, d1, d2, gEq_strO, so_near, so_down, so_up, so_nought, gInt1_b, s1, s1', c3, q3, c4, q4, Bool.true_and]
    · have q4 : ¬ t.num < 0 := fun z => c4 (r4.mp z)
      simp only [mkF, enter, retF, trunc, sSeq, So.then_nx, So.then_rt, sSet, sRet, sRetN, sIf, sExpr, sNil, sPar, sAsg, ofG, gN, gsCons, gsNil, gTupT_tup, gTupT_Q, Out.then_ok, Out.then_ex, Out.bind_ok, Out.bind_ex, eVar, eD_eq, eOp, eCall, eBlt, aCons, aNil, eTup, eIf, eT, eNot, eAnd, eOr, tvAnd, tvOr, tvNot, eNeg, eIsi, isTy_d, isQ_tup, isQ_bool, isQ_int, isI_bool, isI_int, isI_tup, isB_bool, isB_int, ixQ0, ixQ1, truO_b, fzs_nil, fzs_d, gInt_eq, gAdd_int, gAbs_eq, fAdd_eq, fSub_eq, fLt_eq, fLe_eq, fGt_eq, fGe_eq, ix0, ix1, ix2, ix3, ix4, ix5, ofO_some, Option.map_some, Option.bind_some, List.length_cons, List.length_nil, List.map_cons, List.map_nil, List.replicate_succ, List.replicate_zero, List.cons_append, List.nil_append, List.getElem?_cons_zero, List.getElem?_cons_succ, List.set_cons_zero, List.set_cons_succ, List.take_length, Int.reduceEq, Int.reduceLT, Int.reduceLE, Nat.reduceSub, Nat.reduceAdd, Nat.reduceLeDiff, Nat.reduceLT, Nat.zero_add, Nat.add_zero, Nat.sub_self, if_true, if_false, reduceIte, Bool.false_eq_true, fitB, decide_true, decide_false, Bool.not_true, Bool.not_false, d1, d2, gEq_strO, so_near, so_down, so_up, so_nought, gInt1_b, s1, s1', c4, q4, Bool.false_and]
theorem sp_rounded {R : Ruler} (O : R.Ok) {x : Rat} {n : Nat} (hx : BQ n x) (hn : n ≤ 4000) (h : Hh) : m_rounded [.d R.da, .d (Q x)] h = .ok (.d (Q (R.rnd x))) h := by
  have bs := BQ_stp O hx (m := 401 + n) (by omega) (by omega)
  have bt := hx.div bs (by omega)
  have st : ∀ h, m_step_of [.d R.da, .d (Q x)] h = .ok (.d (Q (R.stp x))) h := fun h => sp_step_of O hx (by omega) h
  have wbd : BQ 97 ((wb R.w (x / R.stp x) : Int) : Rat) := by
    have b := wb_bd O hx
    have p : R.b ^ R.f ≤ 16 ^ 24 := Nat.le_trans (Nat.pow_le_pow_left O.b16 _) (Nat.pow_le_pow_right (by decide) O.f24)
    refine ⟨?_, ?_⟩
    · rw [Rat.num_intCast]
      exact Nat.lt_of_le_of_lt (Nat.le_trans b p) (by decide)
    · rw [Rat.den_intCast]
      exact Nat.one_lt_two_pow (by omega)
  unfold m_rounded b_rounded Ruler.rnd
  simp only [mkF, enter, retF, trunc, sSeq, So.then_nx, So.then_rt, sSet, sRet, sRetN, sIf, sExpr, sNil, sPar, sAsg, ofG, gN, gsCons, gsNil, gTupT_tup, gTupT_Q, Out.then_ok, Out.then_ex, Out.bind_ok, Out.bind_ex, eVar, eD_eq, eOp, eCall, eBlt, aCons, aNil, eTup, eIf, eT, eNot, eAnd, eOr, tvAnd, tvOr, tvNot, eNeg, eIsi, isTy_d, isQ_tup, isQ_bool, isQ_int, isI_bool, isI_int, isI_tup, isB_bool, isB_int, ixQ0, ixQ1, truO_b, fzs_nil, fzs_d, gInt_eq, gAdd_int, gAbs_eq, fAdd_eq, fSub_eq, fLt_eq, fLe_eq, fGt_eq, fGe_eq, ix0, ix1, ix2, ix3, ix4, ix5, ofO_some, Option.map_some, Option.bind_some, List.length_cons, List.length_nil, List.map_cons, List.map_nil, List.replicate_succ, List.replicate_zero, List.cons_append, List.nil_append, List.getElem?_cons_zero, List.getElem?_cons_succ, List.set_cons_zero, List.set_cons_succ, List.take_length, Int.reduceEq, Int.reduceLT, Int.reduceLE, Nat.reduceSub, Nat.reduceAdd, Nat.reduceLeDiff, Nat.reduceLT, Nat.zero_add, Nat.add_zero, Nat.sub_self, if_true, if_false, reduceIte, Bool.false_eq_true, fitB, decide_true, decide_false, Bool.not_true, Bool.not_false, st, sp_over hx bs (by omega) (stp_ne O x), ixR3, sp_whole_by O.w4 bt (by omega) (by omega), sp_whole_of, sp_times wbd bs (by omega)]
theorem sp_is_mark {R : Ruler} (O : R.Ok) {x : Rat} {n : Nat} (hx : BQ n x) (hn : n ≤ 4000) (h : Hh) : m_is_mark [.d R.da, .d (Q x)] h = .ok (.d (.bool (decide (R.rnd x = x)))) h := by
  unfold m_is_mark b_is_mark
  simp only [mkF, enter, retF, trunc, sSeq, So.then_nx, So.then_rt, sSet, sRet, sRetN, sIf, sExpr, sNil, sPar, sAsg, ofG, gN, gsCons, gsNil, gTupT_tup, gTupT_Q, Out.then_ok, Out.then_ex, Out.bind_ok, Out.bind_ex, eVar, eD_eq, eOp, eCall, eBlt, aCons, aNil, eTup, eIf, eT, eNot, eAnd, eOr, tvAnd, tvOr, tvNot, eNeg, eIsi, isTy_d, isQ_tup, isQ_bool, isQ_int, isI_bool, isI_int, isI_tup, isB_bool, isB_int, ixQ0, ixQ1, truO_b, fzs_nil, fzs_d, gInt_eq, gAdd_int, gAbs_eq, fAdd_eq, fSub_eq, fLt_eq, fLe_eq, fGt_eq, fGe_eq, ix0, ix1, ix2, ix3, ix4, ix5, ofO_some, Option.map_some, Option.bind_some, List.length_cons, List.length_nil, List.map_cons, List.map_nil, List.replicate_succ, List.replicate_zero, List.cons_append, List.nil_append, List.getElem?_cons_zero, List.getElem?_cons_succ, List.set_cons_zero, List.set_cons_succ, List.take_length, Int.reduceEq, Int.reduceLT, Int.reduceLE, Nat.reduceSub, Nat.reduceAdd, Nat.reduceLeDiff, Nat.reduceLT, Nat.zero_add, Nat.add_zero, Nat.sub_self, if_true, if_false, reduceIte, Bool.false_eq_true, fitB, decide_true, decide_false, Bool.not_true, Bool.not_false, sp_is_fraction, sp_rounded O hx hn, gEq_Q]
theorem sp_off_of {R : Ruler} (O : R.Ok) {x : Rat} {n : Nat} (hx : BQ n x) (hn : n ≤ 4000) (h : Hh) : m_off_of [.d R.da, .d (Q x)] h = .ok (.d (Q (R.rnd x - x).abs)) h := by
  have br := BQ_rnd O hx (m := 401 + n) (by omega) (by omega)
  unfold m_off_of b_off_of
  simp only [mkF, enter, retF, trunc, sSeq, So.then_nx, So.then_rt, sSet, sRet, sRetN, sIf, sExpr, sNil, sPar, sAsg, ofG, gN, gsCons, gsNil, gTupT_tup, gTupT_Q, Out.then_ok, Out.then_ex, Out.bind_ok, Out.bind_ex, eVar, eD_eq, eOp, eCall, eBlt, aCons, aNil, eTup, eIf, eT, eNot, eAnd, eOr, tvAnd, tvOr, tvNot, eNeg, eIsi, isTy_d, isQ_tup, isQ_bool, isQ_int, isI_bool, isI_int, isI_tup, isB_bool, isB_int, ixQ0, ixQ1, truO_b, fzs_nil, fzs_d, gInt_eq, gAdd_int, gAbs_eq, fAdd_eq, fSub_eq, fLt_eq, fLe_eq, fGt_eq, fGe_eq, ix0, ix1, ix2, ix3, ix4, ix5, ofO_some, Option.map_some, Option.bind_some, List.length_cons, List.length_nil, List.map_cons, List.map_nil, List.replicate_succ, List.replicate_zero, List.cons_append, List.nil_append, List.getElem?_cons_zero, List.getElem?_cons_succ, List.set_cons_zero, List.set_cons_succ, List.take_length, Int.reduceEq, Int.reduceLT, Int.reduceLE, Nat.reduceSub, Nat.reduceAdd, Nat.reduceLeDiff, Nat.reduceLT, Nat.zero_add, Nat.add_zero, Nat.sub_self, if_true, if_false, reduceIte, Bool.false_eq_true, fitB, decide_true, decide_false, Bool.not_true, Bool.not_false, sp_rounded O hx hn, sp_less br hx (by omega), sp_size_of]

/-! law k06 -/
theorem sp_due {w : String} (hw : w = "near" ∨ w = "down" ∨ w = "up" ∨ w = "nought") {x s : Rat} (hx : BQ 1200 x) (hs : BQ 1401 s) (sp : 0 < s) (h : Hh) : m__law_due [.d (.str w), .d (Q x), .d (Q s)] h = .ok (.d (Q ((wb w (x / s) : Rat) * s))) h := by
  have s0 : s ≠ 0 := fun z => by rw [z] at sp; exact absurd sp (by decide)
  have sn : 0 < s.num := by
    have := (Rat.lt_iff 0 s).mp sp
    simpa using this
  have bt := hx.div hs (by decide)
  have bf := bd_floor bt
  have m1 := fMul_eq (hx.1.mulOk hs.2 (by decide))
  have m2 := fMul_eq (hx.2.mulOk hs.1 (by decide))
  have nz : (x.den : Int) * s.num ≠ 0 := Int.mul_ne_zero (den_ne x) (by omega)
  have d1 := fDiv_eq (a := x.num * s.den) nz ((hx.2.mul hs.1).divOk (by decide) (by decide))
  rw [floor_div x sp] at d1
  -- both
  have bk : ∀ k : Int, k = (x / s).floor ∨ k = (x / s).floor + 1 → Bd 2603 k := fun k hk => by
    rcases hk with z | z
    · rw [z]; exact bf.mono (by decide)
    · rw [z]; exact (bf.add (Bd.of (n := 5) (x := 1) 1 (by decide) (by decide))).mono (by decide)
  have lo : ∀ k : Int, k = (x / s).floor ∨ k = (x / s).floor + 1 → fMul k s.num = some (.int (k * s.num)) ∧ ∀ h, m__law_lowest [.d (.int (k * s.num)), .d (.int s.den)] h = .ok (.d (Q ((k : Rat) * s))) h := fun k hk => by
    refine ⟨fMul_eq ((bk k hk).mulOk hs.1 (by decide)), fun h => ?_⟩
    rw [sp_lowest (den_ne s) hs.2 (by decide), int_mul]
  have b0 : BQ 4004 (((x / s).floor : Rat) * s) := (BQ_int (bk _ (.inl rfl)) (by decide)).mul hs (by decide)
  have b1 : BQ 4004 ((((x / s).floor + 1 : Int) : Rat) * s) := (BQ_int (bk _ (.inr rfl)) (by decide)).mul hs (by decide)
  have xe := div_mul' (x := x) s0
  have f1 := fl_le (x / s)
  have f2 := fl_lt (x / s)
  -- the comprehension
  have lc : eLc [5] (iv itQ (eTup (aCons (eVar 3) (aCons (eOp gAdd (eVar 3) (eD (.int 1))) (aNil))))) (gN 5) (tvYes) (eCall m__law_lowest (aCons (eOp (gInt fMul) (eVar 5) (eOp gIx (eVar 2) (eD (.int 0)))) (aCons (eOp gIx (eVar 2) (eD (.int 1))) (aNil)))) [some (.d (.str w)), some (.d (Q x)), some (.d (Q s)), some (.d (.int (x / s).floor)), none, none, none, none, none] h
      = .ok (.r h.length) (h ++ [some (.lst [Q (((x / s).floor : Rat) * s), Q ((((x / s).floor + 1 : Int) : Rat) * s)])]) := by
    have e0 := lo (x / s).floor (.inl rfl)
    have e1 := lo ((x / s).floor + 1) (.inr rfl)
    have st := lcL_cons (gd := none) (D := h.length) (g := gN 5) (tt := tvYes) (fe := eCall m__law_lowest (aCons (eOp (gInt fMul) (eVar 5) (eOp gIx (eVar 2) (eD (.int 0)))) (aCons (eOp gIx (eVar 2) (eD (.int 1))) (aNil)))) (ρ0 := [some (.d (.str w)), some (.d (Q x)), some (.d (Q s)), some (.d (.int (x / s).floor)), none, none, none, none, none]) (ρ1 := [some (.d (.str w)), some (.d (Q x)), some (.d (Q s)), some (.d (.int (x / s).floor)), none, some (.d (.int (x / s).floor)), none, none, none]) (d := .int (x / s).floor) (ds := [.int ((x / s).floor + 1)]) (h := h ++ [some (.lst [])]) (h1 := h ++ [some (.lst [])]) (h2 := h ++ [some (.lst [])]) (h3 := h ++ [some (.lst [])]) (v := .d (Q (((x / s).floor : Rat) * s))) gd_none rfl rfl (by simp only [mkF, enter, retF, trunc, sSeq, So.then_nx, So.then_rt, sSet, sRet, sRetN, sIf, sExpr, sNil, sPar, sAsg, ofG, gN, gsCons, gsNil, gTupT_tup, gTupT_Q, Out.then_ok, Out.then_ex, Out.bind_ok, Out.bind_ex, eVar, eD_eq, eOp, eCall, eBlt, aCons, aNil, eTup, eIf, eT, eNot, eAnd, eOr, tvAnd, tvOr, tvNot, eNeg, eIsi, isTy_d, isQ_tup, isQ_bool, isQ_int, isI_bool, isI_int, isI_tup, isB_bool, isB_int, ixQ0, ixQ1, truO_b, fzs_nil, fzs_d, gInt_eq, gAdd_int, gAbs_eq, fAdd_eq, fSub_eq, fLt_eq, fLe_eq, fGt_eq, fGe_eq, ix0, ix1, ix2, ix3, ix4, ix5, ofO_some, Option.map_some, Option.bind_some, List.length_cons, List.length_nil, List.map_cons, List.map_nil, List.replicate_succ, List.replicate_zero, List.cons_append, List.nil_append, List.getElem?_cons_zero, List.getElem?_cons_succ, List.set_cons_zero, List.set_cons_succ, List.take_length, Int.reduceEq, Int.reduceLT, Int.reduceLE, Nat.reduceSub, Nat.reduceAdd, Nat.reduceLeDiff, Nat.reduceLT, Nat.zero_add, Nat.add_zero, Nat.sub_self, if_true, if_false, reduceIte, Bool.false_eq_true, fitB, decide_true, decide_false, Bool.not_true, Bool.not_false, e0.1, e0.2]) (appL_end rfl (by decide))
    have st2 := lcL_cons (gd := none) (D := h.length) (g := gN 5) (tt := tvYes) (fe := eCall m__law_lowest (aCons (eOp (gInt fMul) (eVar 5) (eOp gIx (eVar 2) (eD (.int 0)))) (aCons (eOp gIx (eVar 2) (eD (.int 1))) (aNil)))) (ρ0 := [some (.d (.str w)), some (.d (Q x)), some (.d (Q s)), some (.d (.int (x / s).floor)), none, none, none, none, none]) (ρ1 := [some (.d (.str w)), some (.d (Q x)), some (.d (Q s)), some (.d (.int (x / s).floor)), none, some (.d (.int ((x / s).floor + 1))), none, none, none]) (d := .int ((x / s).floor + 1)) (ds := []) (h := h ++ [some (.lst ([] ++ [Q (((x / s).floor : Rat) * s)]))]) (h1 := h ++ [some (.lst ([] ++ [Q (((x / s).floor : Rat) * s)]))]) (h2 := h ++ [some (.lst ([] ++ [Q (((x / s).floor : Rat) * s)]))]) (h3 := h ++ [some (.lst ([] ++ [Q (((x / s).floor : Rat) * s)]))]) (v := .d (Q ((((x / s).floor + 1 : Int) : Rat) * s))) gd_none rfl rfl (by simp only [mkF, enter, retF, trunc, sSeq, So.then_nx, So.then_rt, sSet, sRet, sRetN, sIf, sExpr, sNil, sPar, sAsg, ofG, gN, gsCons, gsNil, gTupT_tup, gTupT_Q, Out.then_ok, Out.then_ex, Out.bind_ok, Out.bind_ex, eVar, eD_eq, eOp, eCall, eBlt, aCons, aNil, eTup, eIf, eT, eNot, eAnd, eOr, tvAnd, tvOr, tvNot, eNeg, eIsi, isTy_d, isQ_tup, isQ_bool, isQ_int, isI_bool, isI_int, isI_tup, isB_bool, isB_int, ixQ0, ixQ1, truO_b, fzs_nil, fzs_d, gInt_eq, gAdd_int, gAbs_eq, fAdd_eq, fSub_eq, fLt_eq, fLe_eq, fGt_eq, fGe_eq, ix0, ix1, ix2, ix3, ix4, ix5, ofO_some, Option.map_some, Option.bind_some, List.length_cons, List.length_nil, List.map_cons, List.map_nil, List.replicate_succ, List.replicate_zero, List.cons_append, List.nil_append, List.getElem?_cons_zero, List.getElem?_cons_succ, List.set_cons_zero, List.set_cons_succ, List.take_length, Int.reduceEq, Int.reduceLT, Int.reduceLE, Nat.reduceSub, Nat.reduceAdd, Nat.reduceLeDiff, Nat.reduceLT, Nat.zero_add, Nat.add_zero, Nat.sub_self, if_true, if_false, reduceIte, Bool.false_eq_true, fitB, decide_true, decide_false, Bool.not_true, Bool.not_false, e1.1, e1.2]) (appL_end rfl (by simp))
    have fin := st.trans (st2.trans (lcL_nil gd_none))
    simp only [mkF, enter, retF, trunc, sSeq, So.then_nx, So.then_rt, sSet, sRet, sRetN, sIf, sExpr, sNil, sPar, sAsg, ofG, gN, gsCons, gsNil, gTupT_tup, gTupT_Q, Out.then_ok, Out.then_ex, Out.bind_ok, Out.bind_ex, eVar, eD_eq, eOp, eCall, eBlt, aCons, aNil, eTup, eIf, eT, eNot, eAnd, eOr, tvAnd, tvOr, tvNot, eNeg, eIsi, isTy_d, isQ_tup, isQ_bool, isQ_int, isI_bool, isI_int, isI_tup, isB_bool, isB_int, ixQ0, ixQ1, truO_b, fzs_nil, fzs_d, gInt_eq, gAdd_int, gAbs_eq, fAdd_eq, fSub_eq, fLt_eq, fLe_eq, fGt_eq, fGe_eq, ix0, ix1, ix2, ix3, ix4, ix5, ofO_some, Option.map_some, Option.bind_some, List.length_cons, List.length_nil, List.map_cons, List.map_nil, List.replicate_succ, List.replicate_zero, List.cons_append, List.nil_append, List.getElem?_cons_zero, List.getElem?_cons_succ, List.set_cons_zero, List.set_cons_succ, List.take_length, Int.reduceEq, Int.reduceLT, Int.reduceLE, Nat.reduceSub, Nat.reduceAdd, Nat.reduceLeDiff, Nat.reduceLT, Nat.zero_add, Nat.add_zero, Nat.sub_self, if_true, if_false, reduceIte, Bool.false_eq_true, fitB, decide_true, decide_false, Bool.not_true, Bool.not_false, eLc, iv, itQ, wipeE]
    exact fin
  unfold m__law_due b__law_due
  simp only [mkF, enter, retF, trunc, sSeq, So.then_nx, So.then_rt, sSet, sRet, sRetN, sIf, sExpr, sNil, sPar, sAsg, ofG, gN, gsCons, gsNil, gTupT_tup, gTupT_Q, Out.then_ok, Out.then_ex, Out.bind_ok, Out.bind_ex, eVar, eD_eq, eOp, eCall, eBlt, aCons, aNil, eTup, eIf, eT, eNot, eAnd, eOr, tvAnd, tvOr, tvNot, eNeg, eIsi, isTy_d, isQ_tup, isQ_bool, isQ_int, isI_bool, isI_int, isI_tup, isB_bool, isB_int, ixQ0, ixQ1, truO_b, fzs_nil, fzs_d, gInt_eq, gAdd_int, gAbs_eq, fAdd_eq, fSub_eq, fLt_eq, fLe_eq, fGt_eq, fGe_eq, ix0, ix1, ix2, ix3, ix4, ix5, ofO_some, Option.map_some, Option.bind_some, List.length_cons, List.length_nil, List.map_cons, List.map_nil, List.replicate_succ, List.replicate_zero, List.cons_append, List.nil_append, List.getElem?_cons_zero, List.getElem?_cons_succ, List.set_cons_zero, List.set_cons_succ, List.take_length, Int.reduceEq, Int.reduceLT, Int.reduceLE, Nat.reduceSub, Nat.reduceAdd, Nat.reduceLeDiff, Nat.reduceLT, Nat.zero_add, Nat.add_zero, Nat.sub_self, if_true, if_false, reduceIte, Bool.false_eq_true, fitB, decide_true, decide_false, Bool.not_true, Bool.not_false, m1, m2, d1]
  rw [lc]
  simp only [mkF, enter, retF, trunc, sSeq, So.then_nx, So.then_rt, sSet, sRet, sRetN, sIf, sExpr, sNil, sPar, sAsg, ofG, gN, gsCons, gsNil, gTupT_tup, gTupT_Q, Out.then_ok, Out.then_ex, Out.bind_ok, Out.bind_ex, eVar, eD_eq, eOp, eCall, eBlt, aCons, aNil, eTup, eIf, eT, eNot, eAnd, eOr, tvAnd, tvOr, tvNot, eNeg, eIsi, isTy_d, isQ_tup, isQ_bool, isQ_int, isI_bool, isI_int, isI_tup, isB_bool, isB_int, ixQ0, ixQ1, truO_b, fzs_nil, fzs_d, gInt_eq, gAdd_int, gAbs_eq, fAdd_eq, fSub_eq, fLt_eq, fLe_eq, fGt_eq, fGe_eq, ix0, ix1, ix2, ix3, ix4, ix5, ofO_some, Option.map_some, Option.bind_some, List.length_cons, List.length_nil, List.map_cons, List.map_nil, List.replicate_succ, List.replicate_zero, List.cons_append, List.nil_append, List.getElem?_cons_zero, List.getElem?_cons_succ, List.set_cons_zero, List.set_cons_succ, List.take_length, Int.reduceEq, Int.reduceLT, Int.reduceLE, Nat.reduceSub, Nat.reduceAdd, Nat.reduceLeDiff, Nat.reduceLT, Nat.zero_add, Nat.add_zero, Nat.sub_self, if_true, if_false, reduceIte, Bool.false_eq_true, fitB, decide_true, decide_false, Bool.not_true, Bool.not_false, ixE0, ixE1, gEq_Q]
  by_cases rest : ((x / s).floor : Rat) * s = x
  · have ti : x / s = ((x / s).floor : Rat) := mul_cancelR s0 (by rw [xe, rest])
    have wi : wb w (x / s) = (x / s).floor := by
      rw [ti, wb_int, Rat.floor_intCast]
    simp only [mkF, enter, retF, trunc, sSeq, So.then_nx, So.then_rt, sSet, sRet, sRetN, sIf, sExpr, sNil, sPar, sAsg, ofG, gN, gsCons, gsNil, gTupT_tup, gTupT_Q, Out.then_ok, Out.then_ex, Out.bind_ok, Out.bind_ex, eVar, eD_eq, eOp, eCall, eBlt, aCons, aNil, eTup, eIf, eT, eNot, eAnd, eOr, tvAnd, tvOr, tvNot, eNeg, eIsi, isTy_d, isQ_tup, isQ_bool, isQ_int, isI_bool, isI_int, isI_tup, isB_bool, isB_int, ixQ0, ixQ1, truO_b, fzs_nil, fzs_d, gInt_eq, gAdd_int, gAbs_eq, fAdd_eq, fSub_eq, fLt_eq, fLe_eq, fGt_eq, fGe_eq, ix0, ix1, ix2, ix3, ix4, ix5, ofO_some, Option.map_some, Option.bind_some, List.length_cons, List.length_nil, List.map_cons, List.map_nil, List.replicate_succ, List.replicate_zero, List.cons_append, List.nil_append, List.getElem?_cons_zero, List.getElem?_cons_succ, List.set_cons_zero, List.set_cons_succ, List.take_length, Int.reduceEq, Int.reduceLT, Int.reduceLE, Nat.reduceSub, Nat.reduceAdd, Nat.reduceLeDiff, Nat.reduceLT, Nat.zero_add, Nat.add_zero, Nat.sub_self, if_true, if_false, reduceIte, Bool.false_eq_true, fitB, decide_true, decide_false, Bool.not_true, Bool.not_false, rest, take_app0, wi]
  · have dpos : 0 < x / s - ((x / s).floor : Rat) := by
      rcases rat_tri ((x / s).floor : Rat) (x / s) with z | z | z
      · grind
      · exact absurd (by rw [z]; exact xe) rest
      · grind
    simp only [mkF, enter, retF, trunc, sSeq, So.then_nx, So.then_rt, sSet, sRet, sRetN, sIf, sExpr, sNil, sPar, sAsg, ofG, gN, gsCons, gsNil, gTupT_tup, gTupT_Q, Out.then_ok, Out.then_ex, Out.bind_ok, Out.bind_ex, eVar, eD_eq, eOp, eCall, eBlt, aCons, aNil, eTup, eIf, eT, eNot, eAnd, eOr, tvAnd, tvOr, tvNot, eNeg, eIsi, isTy_d, isQ_tup, isQ_bool, isQ_int, isI_bool, isI_int, isI_tup, isB_bool, isB_int, ixQ0, ixQ1, truO_b, fzs_nil, fzs_d, gInt_eq, gAdd_int, gAbs_eq, fAdd_eq, fSub_eq, fLt_eq, fLe_eq, fGt_eq, fGe_eq, ix0, ix1, ix2, ix3, ix4, ix5, ofO_some, Option.map_some, Option.bind_some, List.length_cons, List.length_nil, List.map_cons, List.map_nil, List.replicate_succ, List.replicate_zero, List.cons_append, List.nil_append, List.getElem?_cons_zero, List.getElem?_cons_succ, List.set_cons_zero, List.set_cons_succ, List.take_length, Int.reduceEq, Int.reduceLT, Int.reduceLE, Nat.reduceSub, Nat.reduceAdd, Nat.reduceLeDiff, Nat.reduceLT, Nat.zero_add, Nat.add_zero, Nat.sub_self, if_true, if_false, reduceIte, Bool.false_eq_true, fitB, decide_true, decide_false, Bool.not_true, Bool.not_false, rest]
    rcases hw with z | z | z | z <;> subst z
    · -- near
      have s2 : ¬ ((Str.ofString "near") = (Str.ofString "nought")) := str_ne (by decide +kernel)
      have gi : ∀ h, gIn false (.d (.str "near")) (.d (.tuple [.str "down", .str "up"])) h = some (.d (.bool false), h) := fun h => rfl
      generalize hb0 : ((x / s).floor : Rat) * s = B0 at *
      generalize hb1 : (((x / s).floor + 1 : Int) : Rat) * s = B1 at *
      have B1x : B1 = B0 + s := by
        rw [← hb1, ← hb0, Rat.intCast_add]
        have : ((1 : Int) : Rat) = 1 := rfl
        rw [this]
        grind
      -- the gaps
      have gap : ∀ c : Rat, c = B0 ∨ c = B1 → fMul c.num x.den = some (.int (c.num * x.den)) ∧ fMul x.num c.den = some (.int (x.num * c.den)) ∧ fMul (((c.num * x.den - x.num * c.den).natAbs : Nat) : Int) B0.den = some (.int (((c.num * x.den - x.num * c.den).natAbs : Nat) * B0.den)) ∧ fMul ((((c.num * x.den - x.num * c.den).natAbs : Nat) : Int) * B0.den) B1.den = some (.int (((c.num * x.den - x.num * c.den).natAbs : Nat) * B0.den * B1.den)) ∧ ∀ z, fDiv z c.den = some (.int (z.fdiv c.den)) := fun c hc => by
        have bc : BQ 4004 c := by
          rcases hc with z | z <;> rw [z]
          · exact b0
          · exact b1
        have bz : Bd 5205 (((c.num * x.den - x.num * c.den).natAbs : Nat) : Int) := by
          have := ((bc.1.mul hx.2).sub (hx.1.mul bc.2)).mono (m := 5205) (by decide)
          unfold Bd at *
          rw [Int.natAbs_natCast]
          exact this
        exact ⟨fMul_eq (bc.1.mulOk hx.2 (by decide)), fMul_eq (hx.1.mulOk bc.2 (by decide)), fMul_eq (bz.mulOk b0.2 (by decide)), fMul_eq ((bz.mul b0.2).mulOk b1.2 (by decide)), fun z => fDiv_eq (den_ne c) (bc.2.divOk (by decide) (by decide))⟩
      obtain ⟨g1, g2, g3, g4, g5⟩ := gap B0 (.inl rfl)
      obtain ⟨k1, k2, k3, k4, k5⟩ := gap B1 (.inr rfl)
      have q0 : ((((B0.num * x.den - x.num * B0.den).natAbs : Nat) : Int) * B0.den * B1.den).fdiv B0.den = (((B0.num * x.den - x.num * B0.den).natAbs : Nat) : Int) * B1.den := by
        rw [Int.mul_assoc, Int.mul_comm (B0.den : Int), ← Int.mul_assoc]
        exact Int.mul_fdiv_cancel _ (den_ne B0)
      have q1 : ((((B1.num * x.den - x.num * B1.den).natAbs : Nat) : Int) * B0.den * B1.den).fdiv B1.den = (((B1.num * x.den - x.num * B1.den).natAbs : Nat) : Int) * B0.den := Int.mul_fdiv_cancel _ (den_ne B1)
      have c0 : ((((((B0.num * x.den - x.num * B0.den).natAbs : Nat) : Int) * B1.den : Int)) : Rat) = (x - B0) * (((B0.den : Nat) : Rat) * ((B1.den : Nat) : Rat) * ((x.den : Nat) : Rat)) := by
        rw [Rat.intCast_mul, cast_natAbs, across, abs_mulP (Rat.mul_pos (den_posR _) (den_posR _)), Rat.intCast_natCast]
        have : (B0 - x).abs = x - B0 := by
          unfold Rat.abs
          have h1 : B0 ≤ x := by
            rw [← hb0]
            have := Rat.mul_le_mul_of_nonneg_right f1 (Rat.le_of_lt sp)
            rw [xe] at this
            exact this
          split <;> grind
        rw [this]
        grind
      have c1 : ((((((B1.num * x.den - x.num * B1.den).natAbs : Nat) : Int) * B0.den : Int)) : Rat) = (B1 - x) * (((B0.den : Nat) : Rat) * ((B1.den : Nat) : Rat) * ((x.den : Nat) : Rat)) := by
        rw [Rat.intCast_mul, cast_natAbs, across, abs_mulP (Rat.mul_pos (den_posR _) (den_posR _)), Rat.intCast_natCast]
        have : (B1 - x).abs = B1 - x := by
          unfold Rat.abs
          have h1 : x < B1 := by
            rw [B1x, ← hb0]
            have := Rat.mul_lt_mul_of_pos_right f2 sp
            rw [xe] at this
            grind
          split <;> grind
        rw [this]
        grind
      have dp : (0 : Rat) < (((B0.den : Nat) : Rat) * ((B1.den : Nat) : Rat) * ((x.den : Nat) : Rat)) := Rat.mul_pos (Rat.mul_pos (den_posR _) (den_posR _)) (den_posR _)
      have xd : x - B0 = (x / s - ((x / s).floor : Rat)) * s := by
        rw [← hb0]
        have := xe
        grind
      have xd1 : B1 - x = (1 - (x / s - ((x / s).floor : Rat))) * s := by
        rw [B1x, ← hb0]
        have := xe
        grind
      generalize hG0 : (((B0.num * x.den - x.num * B0.den).natAbs : Nat) : Int) * B1.den = G0 at *
      generalize hG1 : (((B1.num * x.den - x.num * B1.den).natAbs : Nat) : Int) * B0.den = G1 at *
      generalize (((B0.den : Nat) : Rat) * ((B1.den : Nat) : Rat) * ((x.den : Nat) : Rat)) = DD at *
      have eqv : G0 = G1 ↔ 2 * (x / s - ((x / s).floor : Rat)) = 1 := by
        rw [← Rat.intCast_inj, c0, c1, xd, xd1]
        constructor
        · intro hh
          have h2 := mul_cancelR (fun z => by rw [z] at dp; exact absurd dp (by decide)) hh
          have h3 := mul_cancelR s0 h2
          grind
        · intro hh
          have : x / s - ((x / s).floor : Rat) = 1 - (x / s - ((x / s).floor : Rat)) := by grind
          rw [← this]
      have ltv : G1 < G0 ↔ 1 < 2 * (x / s - ((x / s).floor : Rat)) := by
        rw [← Rat.intCast_lt_intCast, c0, c1, xd, xd1]
        constructor
        · intro hh
          have h2 := Rat.lt_of_mul_lt_mul_right hh (Rat.le_of_lt dp)
          have h3 := Rat.lt_of_mul_lt_mul_right h2 (Rat.le_of_lt sp)
          grind
        · intro hh
          refine Rat.mul_lt_mul_of_pos_right (Rat.mul_lt_mul_of_pos_right ?_ sp) dp
          grind
      -- the loop
      have gdk : ∀ l : Hh, gdOk (some (h.length, [Q B0, Q B1])) (h ++ some (.lst [Q B0, Q B1]) :: l) := fun l => get_at
      have ix40 : ∀ l : Hh, gIx (.r h.length) (.d (.int 0)) (h ++ some (.lst [Q B0, Q B1]) :: l) = some (.d (Q B0), h ++ some (.lst [Q B0, Q B1]) :: l) := fun l => gIxL (k := 0) get_at rfl
      have ix41 : ∀ l : Hh, gIx (.r h.length) (.d (.int 1)) (h ++ some (.lst [Q B0, Q B1]) :: l) = some (.d (Q B1), h ++ some (.lst [Q B0, Q B1]) :: l) := fun l => gIxL (k := 1) get_at rfl
      have gg : ∀ o : Option Ob, (h ++ [some (.lst [Q B0, Q B1]), o])[h.length + 1]? = some o := fun o => by simp
      have ty : ∀ l : List Da, tyL (.r (h.length + 1)) (h ++ [some (.lst [Q B0, Q B1]), some (.lst l)]) = true := fun l => tyL_at (gg _)
      have ap : ∀ (l : List Da) (d : Da), l.length < 16777216 → gApp (.r (h.length + 1)) [.d d] (h ++ [some (.lst [Q B0, Q B1]), some (.lst l)]) = some (.d .none, h ++ [some (.lst [Q B0, Q B1]), some (.lst (l ++ [d]))]) := fun l d hl => by
        unfold gApp
        dsimp only
        have := appL_end (h := h ++ [some (.lst [Q B0, Q B1])]) (acc := l) (x := d) (n := h.length + 1) (by simp) hl
        rw [List.append_assoc, List.append_assoc] at this
        rw [show (h ++ [some (Ob.lst [Q B0, Q B1]), some (Ob.lst l)]) = h ++ ([some (Ob.lst [Q B0, Q B1])] ++ [some (Ob.lst l)]) from rfl, this]
        rfl
      have st1 : forL (some (h.length, [Q B0, Q B1])) (gN 7) bl__law_due_1 [Q B0, Q B1] [some (.d (.str "near")), some (.d (Q x)), some (.d (Q s)), some (.d (.int (x / s).floor)), some (.r h.length), none, some (.r (h.length + 1)), none, none] (h ++ [some (.lst [Q B0, Q B1]), some (.lst [])])
          = .nx [some (.d (.str "near")), some (.d (Q x)), some (.d (Q s)), some (.d (.int (x / s).floor)), some (.r h.length), none, some (.r (h.length + 1)), some (.d (Q B1)), some (.d (.int (((B1.num * x.den - x.num * B1.den).natAbs : Nat) : Int)))] (h ++ [some (.lst [Q B0, Q B1]), some (.lst [.int G0, .int G1])]) := by
        refine (forL_cons (gdk _) rfl (ρ2 := [some (.d (.str "near")), some (.d (Q x)), some (.d (Q s)), some (.d (.int (x / s).floor)), some (.r h.length), none, some (.r (h.length + 1)), some (.d (Q B0)), some (.d (.int (((B0.num * x.den - x.num * B0.den).natAbs : Nat) : Int)))]) (h2 := h ++ [some (.lst [Q B0, Q B1]), some (.lst [.int G0])]) ?_).trans ((forL_cons (gdk _) rfl ?_).trans (forL_nil (gdk _)))
        · unfold bl__law_due_1
          simp only [mkF, enter, retF, trunc, sSeq, So.then_nx, So.then_rt, sSet, sRet, sRetN, sIf, sExpr, sNil, sPar, sAsg, ofG, gN, gsCons, gsNil, gTupT_tup, gTupT_Q, Out.then_ok, Out.then_ex, Out.bind_ok, Out.bind_ex, eVar, eD_eq, eOp, eCall, eBlt, aCons, aNil, eTup, eIf, eT, eNot, eAnd, eOr, tvAnd, tvOr, tvNot, eNeg, eIsi, isTy_d, isQ_tup, isQ_bool, isQ_int, isI_bool, isI_int, isI_tup, isB_bool, isB_int, ixQ0, ixQ1, truO_b, fzs_nil, fzs_d, gInt_eq, gAdd_int, gAbs_eq, fAdd_eq, fSub_eq, fLt_eq, fLe_eq, fGt_eq, fGe_eq, ix0, ix1, ix2, ix3, ix4, ix5, ofO_some, Option.map_some, Option.bind_some, List.length_cons, List.length_nil, List.map_cons, List.map_nil, List.replicate_succ, List.replicate_zero, List.cons_append, List.nil_append, List.getElem?_cons_zero, List.getElem?_cons_succ, List.set_cons_zero, List.set_cons_succ, List.take_length, Int.reduceEq, Int.reduceLT, Int.reduceLE, Nat.reduceSub, Nat.reduceAdd, Nat.reduceLeDiff, Nat.reduceLT, Nat.zero_add, Nat.add_zero, Nat.sub_self, if_true, if_false, reduceIte, Bool.false_eq_true, fitB, decide_true, decide_false, Bool.not_true, Bool.not_false, g1, g2, abs_eq, eMt, ty, ix40, ix41, g3, g4, g5, q0, ap _ _ (show ([] : List Da).length < 16777216 by decide)]
        · unfold bl__law_due_1
          simp only [mkF, enter, retF, trunc, sSeq, So.then_nx, So.then_rt, sSet, sRet, sRetN, sIf, sExpr, sNil, sPar, sAsg, ofG, gN, gsCons, gsNil, gTupT_tup, gTupT_Q, Out.then_ok, Out.then_ex, Out.bind_ok, Out.bind_ex, eVar, eD_eq, eOp, eCall, eBlt, aCons, aNil, eTup, eIf, eT, eNot, eAnd, eOr, tvAnd, tvOr, tvNot, eNeg, eIsi, isTy_d, isQ_tup, isQ_bool, isQ_int, isI_bool, isI_int, isI_tup, isB_bool, isB_int, ixQ0, ixQ1, truO_b, fzs_nil, fzs_d, gInt_eq, gAdd_int, gAbs_eq, fAdd_eq, fSub_eq, fLt_eq, fLe_eq, fGt_eq, fGe_eq, ix0, ix1, ix2, ix3, ix4, ix5, ofO_some, Option.map_some, Option.bind_some, List.length_cons, List.length_nil, List.map_cons, List.map_nil, List.replicate_succ, List.replicate_zero, List.cons_append, List.nil_append, List.getElem?_cons_zero, List.getElem?_cons_succ, List.set_cons_zero, List.set_cons_succ, List.take_length, Int.reduceEq, Int.reduceLT, Int.reduceLE, Nat.reduceSub, Nat.reduceAdd, Nat.reduceLeDiff, Nat.reduceLT, Nat.zero_add, Nat.add_zero, Nat.sub_self, if_true, if_false, reduceIte, Bool.false_eq_true, fitB, decide_true, decide_false, Bool.not_true, Bool.not_false, k1, k2, abs_eq, eMt, ty, ix40, ix41, k3, k4, k5, q1, ap _ _ (show ([PyData.int G0] : List Da).length < 16777216 by simp)]
      have it4 : itL (.r h.length) (h ++ [some (.lst [Q B0, Q B1]), some (.lst [])]) = .ok ⟨[Q B0, Q B1], some (h.length, [Q B0, Q B1])⟩ (h ++ [some (.lst [Q B0, Q B1]), some (.lst [])]) := itL_at get_at
      have ix60 : gIx (.r (h.length + 1)) (.d (.int 0)) (h ++ [some (.lst [Q B0, Q B1]), some (.lst [.int G0, .int G1])]) = some (.d (.int G0), h ++ [some (.lst [Q B0, Q B1]), some (.lst [.int G0, .int G1])]) := gIxL (k := 0) (gg _) rfl
      have ix61 : gIx (.r (h.length + 1)) (.d (.int 1)) (h ++ [some (.lst [Q B0, Q B1]), some (.lst [.int G0, .int G1])]) = some (.d (.int G1), h ++ [some (.lst [Q B0, Q B1]), some (.lst [.int G0, .int G1])]) := gIxL (k := 1) (gg _) rfl
      have ft := fMod_eq (a := (x / s).floor) (b := 2) (by decide)
      have fm : (x / s).floor.fmod 2 = 0 ∨ (x / s).floor.fmod 2 = 1 := by
        have := fmod_bd (x := (x / s).floor) (p := 2) (by decide)
        omega
      have la : (h ++ [some (Ob.lst [Q B0, Q B1])]).length = h.length + 1 := by simp
      unfold wb upB
      by_cases cq : 2 * (x / s - ((x / s).floor : Rat)) = 1
      · have gq := eqv.mpr cq
        rcases fm with fm | fm
        · have res : ((((x / s).floor + 0 : Int)) : Rat) * s = B0 := by rw [Int.add_zero]; exact hb0
          simp only [mkF, enter, retF, trunc, sSeq, So.then_nx, So.then_rt, sSet, sRet, sRetN, sIf, sExpr, sNil, sPar, sAsg, ofG, gN, gsCons, gsNil, gTupT_tup, gTupT_Q, Out.then_ok, Out.then_ex, Out.bind_ok, Out.bind_ex, eVar, eD_eq, eOp, eCall, eBlt, aCons, aNil, eTup, eIf, eT, eNot, eAnd, eOr, tvAnd, tvOr, tvNot, eNeg, eIsi, isTy_d, isQ_tup, isQ_bool, isQ_int, isI_bool, isI_int, isI_tup, isB_bool, isB_int, ixQ0, ixQ1, truO_b, fzs_nil, fzs_d, gInt_eq, gAdd_int, gAbs_eq, fAdd_eq, fSub_eq, fLt_eq, fLe_eq, fGt_eq, fGe_eq, ix0, ix1, ix2, ix3, ix4, ix5, ofO_some, Option.map_some, Option.bind_some, List.length_cons, List.length_nil, List.map_cons, List.map_nil, List.replicate_succ, List.replicate_zero, List.cons_append, List.nil_append, List.getElem?_cons_zero, List.getElem?_cons_succ, List.set_cons_zero, List.set_cons_succ, List.take_length, Int.reduceEq, Int.reduceLT, Int.reduceLE, Nat.reduceSub, Nat.reduceAdd, Nat.reduceLeDiff, Nat.reduceLT, Nat.zero_add, Nat.add_zero, Nat.sub_self, if_true, if_false, reduceIte, Bool.false_eq_true, fitB, decide_true, decide_false, Bool.not_true, Bool.not_false, gEq_strO, so_near, so_nought, s2, gi, eLst, List.append_assoc, la, sFor, iv, itQ, it4, st1, ix60, ix61, gEq_int, decide_eq_true gq, ft, fm, ix40, ix41, take_app0, cq, Rat.lt_irrefl, Bool.false_or, Bool.and_false, res]
        · simp only [mkF, enter, retF, trunc, sSeq, So.then_nx, So.then_rt, sSet, sRet, sRetN, sIf, sExpr, sNil, sPar, sAsg, ofG, gN, gsCons, gsNil, gTupT_tup, gTupT_Q, Out.then_ok, Out.then_ex, Out.bind_ok, Out.bind_ex, eVar, eD_eq, eOp, eCall, eBlt, aCons, aNil, eTup, eIf, eT, eNot, eAnd, eOr, tvAnd, tvOr, tvNot, eNeg, eIsi, isTy_d, isQ_tup, isQ_bool, isQ_int, isI_bool, isI_int, isI_tup, isB_bool, isB_int, ixQ0, ixQ1, truO_b, fzs_nil, fzs_d, gInt_eq, gAdd_int, gAbs_eq, fAdd_eq, fSub_eq, fLt_eq, fLe_eq, fGt_eq, fGe_eq, ix0, ix1, ix2, ix3, ix4, ix5, ofO_some, Option.map_some, Option.bind_some, List.length_cons, List.length_nil, List.map_cons, List.map_nil, List.replicate_succ, List.replicate_zero, List.cons_append, List.nil_append, List.getElem?_cons_zero, List.getElem?_cons_succ, List.set_cons_zero, List.set_cons_succ, List.take_length, Int.reduceEq, Int.reduceLT, Int.reduceLE, Nat.reduceSub, Nat.reduceAdd, Nat.reduceLeDiff, Nat.reduceLT, Nat.zero_add, Nat.add_zero, Nat.sub_self, if_true, if_false, reduceIte, Bool.false_eq_true, fitB, decide_true, decide_false, Bool.not_true, Bool.not_false, gEq_strO, so_near, so_nought, s2, gi, eLst, List.append_assoc, la, sFor, iv, itQ, it4, st1, ix60, ix61, gEq_int, decide_eq_true gq, ft, fm, ix40, ix41, take_app0, cq, Rat.lt_irrefl, Bool.false_or, Bool.and_true, hb1]
      · have gq : ¬ G0 = G1 := fun z => cq (eqv.mp z)
        by_cases cl : 1 < 2 * (x / s - ((x / s).floor : Rat))
        · have gl := ltv.mpr cl
          simp only [mkF, enter, retF, trunc, sSeq, So.then_nx, So.then_rt, sSet, sRet, sRetN, sIf, sExpr, sNil, sPar, sAsg, ofG, gN, gsCons, gsNil, gTupT_tup, gTupT_Q, Out.then_ok, Out.then_ex, Out.bind_ok, Out.bind_ex, eVar, eD_eq, eOp, eCall, eBlt, aCons, aNil, eTup, eIf, eT, eNot, eAnd, eOr, tvAnd, tvOr, tvNot, eNeg, eIsi, isTy_d, isQ_tup, isQ_bool, isQ_int, isI_bool, isI_int, isI_tup, isB_bool, isB_int, ixQ0, ixQ1, truO_b, fzs_nil, fzs_d, gInt_eq, gAdd_int, gAbs_eq, fAdd_eq, fSub_eq, fLt_eq, fLe_eq, fGt_eq, fGe_eq, ix0, ix1, ix2, ix3, ix4, ix5, ofO_some, Option.map_some, Option.bind_some, List.length_cons, List.length_nil, List.map_cons, List.map_nil, List.replicate_succ, List.replicate_zero, List.cons_append, List.nil_append, List.getElem?_cons_zero, List.getElem?_cons_succ, List.set_cons_zero, List.set_cons_succ, List.take_length, Int.reduceEq, Int.reduceLT, Int.reduceLE, Nat.reduceSub, Nat.reduceAdd, Nat.reduceLeDiff, Nat.reduceLT, Nat.zero_add, Nat.add_zero, Nat.sub_self, if_true, if_false, reduceIte, Bool.false_eq_true, fitB, decide_true, decide_false, Bool.not_true, Bool.not_false, gEq_strO, so_near, so_nought, s2, gi, eLst, List.append_assoc, la, sFor, iv, itQ, it4, st1, ix60, ix61, gEq_int, gq, gl, gInt1_b, ix40, ix41, take_app0, cl, Bool.true_or, hb1]
        · have gl : ¬ G1 < G0 := fun z => cl (ltv.mp z)
          have res : ((((x / s).floor + 0 : Int)) : Rat) * s = B0 := by rw [Int.add_zero]; exact hb0
          simp only [mkF, enter, retF, trunc, sSeq, So.then_nx, So.then_rt, sSet, sRet, sRetN, sIf, sExpr, sNil, sPar, sAsg, ofG, gN, gsCons, gsNil, gTupT_tup, gTupT_Q, Out.then_ok, Out.then_ex, Out.bind_ok, Out.bind_ex, eVar, eD_eq, eOp, eCall, eBlt, aCons, aNil, eTup, eIf, eT, eNot, eAnd, eOr, tvAnd, tvOr, tvNot, eNeg, eIsi, isTy_d, isQ_tup, isQ_bool, isQ_int, isI_bool, isI_int, isI_tup, isB_bool, isB_int, ixQ0, ixQ1, truO_b, fzs_nil, fzs_d, gInt_eq, gAdd_int, gAbs_eq, fAdd_eq, fSub_eq, fLt_eq, fLe_eq, fGt_eq, fGe_eq, ix0, ix1, ix2, ix3, ix4, ix5, ofO_some, Option.map_some, Option.bind_some, List.length_cons, List.length_nil, List.map_cons, List.map_nil, List.replicate_succ, List.replicate_zero, List.cons_append, List.nil_append, List.getElem?_cons_zero, List.getElem?_cons_succ, List.set_cons_zero, List.set_cons_succ, List.take_length, Int.reduceEq, Int.reduceLT, Int.reduceLE, Nat.reduceSub, Nat.reduceAdd, Nat.reduceLeDiff, Nat.reduceLT, Nat.zero_add, Nat.add_zero, Nat.sub_self, if_true, if_false, reduceIte, Bool.false_eq_true, fitB, decide_true, decide_false, Bool.not_true, Bool.not_false, gEq_strO, so_near, so_nought, s2, gi, eLst, List.append_assoc, la, sFor, iv, itQ, it4, st1, ix60, ix61, gEq_int, gq, gl, gInt1_b, ix40, ix41, take_app0, cl, cq, Bool.false_or, Bool.false_and, res]
    · have s1 : ¬ ((Str.ofString "down") = (Str.ofString "near")) := str_ne (by decide +kernel)
      have s2 : ¬ ((Str.ofString "down") = (Str.ofString "nought")) := str_ne (by decide +kernel)
      have s3 : ¬ ((Str.ofString "down") = (Str.ofString "up")) := str_ne (by decide +kernel)
      have gi : ∀ h, gIn false (.d (.str "down")) (.d (.tuple [.str "down", .str "up"])) h = some (.d (.bool true), h) := fun h => rfl
      have wq : wb "down" (x / s) = (x / s).floor := by
        unfold wb
        rw [upB_down]
        simp
      simp only [mkF, enter, retF, trunc, sSeq, So.then_nx, So.then_rt, sSet, sRet, sRetN, sIf, sExpr, sNil, sPar, sAsg, ofG, gN, gsCons, gsNil, gTupT_tup, gTupT_Q, Out.then_ok, Out.then_ex, Out.bind_ok, Out.bind_ex, eVar, eD_eq, eOp, eCall, eBlt, aCons, aNil, eTup, eIf, eT, eNot, eAnd, eOr, tvAnd, tvOr, tvNot, eNeg, eIsi, isTy_d, isQ_tup, isQ_bool, isQ_int, isI_bool, isI_int, isI_tup, isB_bool, isB_int, ixQ0, ixQ1, truO_b, fzs_nil, fzs_d, gInt_eq, gAdd_int, gAbs_eq, fAdd_eq, fSub_eq, fLt_eq, fLe_eq, fGt_eq, fGe_eq, ix0, ix1, ix2, ix3, ix4, ix5, ofO_some, Option.map_some, Option.bind_some, List.length_cons, List.length_nil, List.map_cons, List.map_nil, List.replicate_succ, List.replicate_zero, List.cons_append, List.nil_append, List.getElem?_cons_zero, List.getElem?_cons_succ, List.set_cons_zero, List.set_cons_succ, List.take_length, Int.reduceEq, Int.reduceLT, Int.reduceLE, Nat.reduceSub, Nat.reduceAdd, Nat.reduceLeDiff, Nat.reduceLT, Nat.zero_add, Nat.add_zero, Nat.sub_self, if_true, if_false, reduceIte, Bool.false_eq_true, fitB, decide_true, decide_false, Bool.not_true, Bool.not_false, gEq_strO, so_near, so_nought, so_down, so_up, s2, s3, gi, gInt1_b, ixE0, ixE1, take_app0, wq]
    · have s2 : ¬ ((Str.ofString "up") = (Str.ofString "nought")) := str_ne (by decide +kernel)
      have gi : ∀ h, gIn false (.d (.str "up")) (.d (.tuple [.str "down", .str "up"])) h = some (.d (.bool true), h) := fun h => rfl
      have wq : wb "up" (x / s) = (x / s).floor + 1 := by
        unfold wb
        rw [upB_up, decide_eq_true dpos]
        simp
      simp only [mkF, enter, retF, trunc, sSeq, So.then_nx, So.then_rt, sSet, sRet, sRetN, sIf, sExpr, sNil, sPar, sAsg, ofG, gN, gsCons, gsNil, gTupT_tup, gTupT_Q, Out.then_ok, Out.then_ex, Out.bind_ok, Out.bind_ex, eVar, eD_eq, eOp, eCall, eBlt, aCons, aNil, eTup, eIf, eT, eNot, eAnd, eOr, tvAnd, tvOr, tvNot, eNeg, eIsi, isTy_d, isQ_tup, isQ_bool, isQ_int, isI_bool, isI_int, isI_tup, isB_bool, isB_int, ixQ0, ixQ1, truO_b, fzs_nil, fzs_d, gInt_eq, gAdd_int, gAbs_eq, fAdd_eq, fSub_eq, fLt_eq, fLe_eq, fGt_eq, fGe_eq, ix0, ix1, ix2, ix3, ix4, ix5, ofO_some, Option.map_some, Option.bind_some, List.length_cons, List.length_nil, List.map_cons, List.map_nil, List.replicate_succ, List.replicate_zero, List.cons_append, List.nil_append, List.getElem?_cons_zero, List.getElem?_cons_succ, List.set_cons_zero, List.set_cons_succ, List.take_length, Int.reduceEq, Int.reduceLT, Int.reduceLE, Nat.reduceSub, Nat.reduceAdd, Nat.reduceLeDiff, Nat.reduceLT, Nat.zero_add, Nat.add_zero, Nat.sub_self, if_true, if_false, reduceIte, Bool.false_eq_true, fitB, decide_true, decide_false, Bool.not_true, Bool.not_false, gEq_strO, so_near, so_nought, so_down, so_up, s2, gi, gInt1_b, ixE0, ixE1, take_app0, wq]
    · have wq : wb "nought" (x / s) = if x.num < 0 then (x / s).floor + 1 else (x / s).floor := by
        have sg : (x / s < 0) ↔ x < 0 := by
          constructor
          · intro hh
            have := Rat.mul_lt_mul_of_pos_right hh sp
            rw [xe, Rat.zero_mul] at this
            exact this
          · intro hh
            refine Rat.lt_of_mul_lt_mul_right (c := s) ?_ (Rat.le_of_lt sp)
            rw [xe, Rat.zero_mul]
            exact hh
        unfold wb
        rw [upB_nought, decide_eq_true dpos, Bool.and_true]
        by_cases c : x.num < 0
        · rw [if_pos c, decide_eq_true (sg.mpr ((num_neg x).mp c)), if_pos rfl]
        · rw [if_neg c, decide_eq_false (fun z => c ((num_neg x).mpr (sg.mp z)))]
          simp
      by_cases c : x.num < 0
      · rw [if_pos c] at wq
        simp only [mkF, enter, retF, trunc, sSeq, So.then_nx, So.then_rt, sSet, sRet, sRetN, sIf, sExpr, sNil, sPar, sAsg, ofG, gN, gsCons, gsNil, gTupT_tup, gTupT_Q, Out.then_ok, Out.then_ex, Out.bind_ok, Out.bind_ex, eVar, eD_eq, eOp, eCall, eBlt, aCons, aNil, eTup, eIf, eT, eNot, eAnd, eOr, tvAnd, tvOr, tvNot, eNeg, eIsi, isTy_d, isQ_tup, isQ_bool, isQ_int, isI_bool, isI_int, isI_tup, isB_bool, isB_int, ixQ0, ixQ1, truO_b, fzs_nil, fzs_d, gInt_eq, gAdd_int, gAbs_eq, fAdd_eq, fSub_eq, fLt_eq, fLe_eq, fGt_eq, fGe_eq, ix0, ix1, ix2, ix3, ix4, ix5, ofO_some, Option.map_some, Option.bind_some, List.length_cons, List.length_nil, List.map_cons, List.map_nil, List.replicate_succ, List.replicate_zero, List.cons_append, List.nil_append, List.getElem?_cons_zero, List.getElem?_cons_succ, List.set_cons_zero, List.set_cons_succ, List.take_length, Int.reduceEq, Int.reduceLT, Int.reduceLE, Nat.reduceSub, Nat.reduceAdd, Nat.reduceLeDiff, Nat.reduceLT, Nat.zero_add, Nat.add_zero, Nat.sub_self, if_true, if_false, reduceIte, Bool.false_eq_true, fitB, decide_true, decide_false, Bool.not_true, Bool.not_false, gEq_strO, so_nought, gInt1_b, c, ixE0, ixE1, take_app0, wq]
      · rw [if_neg c] at wq
        simp only [mkF, enter, retF, trunc, sSeq, So.then_nx, So.then_rt, sSet, sRet, sRetN, sIf, sExpr, sNil, sPar, sAsg, ofG, gN, gsCons, gsNil, gTupT_tup, gTupT_Q, Out.then_ok, Out.then_ex, Out.bind_ok, Out.bind_ex, eVar, eD_eq, eOp, eCall, eBlt, aCons, aNil, eTup, eIf, eT, eNot, eAnd, eOr, tvAnd, tvOr, tvNot, eNeg, eIsi, isTy_d, isQ_tup, isQ_bool, isQ_int, isI_bool, isI_int, isI_tup, isB_bool, isB_int, ixQ0, ixQ1, truO_b, fzs_nil, fzs_d, gInt_eq, gAdd_int, gAbs_eq, fAdd_eq, fSub_eq, fLt_eq, fLe_eq, fGt_eq, fGe_eq, ix0, ix1, ix2, ix3, ix4, ix5, ofO_some, Option.map_some, Option.bind_some, List.length_cons, List.length_nil, List.map_cons, List.map_nil, List.replicate_succ, List.replicate_zero, List.cons_append, List.nil_append, List.getElem?_cons_zero, List.getElem?_cons_succ, List.set_cons_zero, List.set_cons_succ, List.take_length, Int.reduceEq, Int.reduceLT, Int.reduceLE, Nat.reduceSub, Nat.reduceAdd, Nat.reduceLeDiff, Nat.reduceLT, Nat.zero_add, Nat.add_zero, Nat.sub_self, if_true, if_false, reduceIte, Bool.false_eq_true, fitB, decide_true, decide_false, Bool.not_true, Bool.not_false, gEq_strO, so_nought, gInt1_b, c, ixE0, ixE1, take_app0, wq]

theorem sp_halfway {R : Ruler} (O : R.Ok) {x : Rat} (hx : BQ 200 x) {K : Nat} {xs : List Da} (st : Strm K xs) (hK : K + 5 < 2 ^ 30) {n : Nat} {h : Hh} (e : h[n]? = some (some (.lst xs))) :
    ∃ (r : Rat) (xs' : List Da), m__law_halfway [.r n, .d R.da, .d (Q x)] h = .ok (.d (Q r)) (h.set n (some (.lst xs'))) ∧ BQ 1200 r ∧ Strm (K + 5) xs' := by
  have hn : n < h.length := (List.getElem?_eq_some_iff.mp e).1
  have st5 : ∀ {j : Nat} {ys : List Da}, j ≤ K + 5 → Strm j ys → Strm (K + 5) ys := fun hj ⟨c, x, k, m, e, hk⟩ => ⟨c, x, k, m, e, by omega⟩
  obtain ⟨v1, x1, t1, a1, b1, s1⟩ := sp_take st (by omega) e (many := 3) (by decide) (by decide)
  have hs := BQ_stp O hx (m := 401) (by decide) (by decide)
  have sp := stp_pos O x
  have step : ∀ h, m_step_of [.d R.da, .d (Q x)] h = .ok (.d (Q (R.stp x))) h := fun h => sp_step_of O hx (by decide) h
  generalize R.stp x = s at *
  have sn : 0 < s.num := by
    have := (Rat.lt_iff 0 s).mp sp
    simpa using this
  have bt := hx.div hs (by decide)
  have bf := bd_floor bt
  have m1 := fMul_eq (hx.1.mulOk hs.2 (by decide))
  have m2 := fMul_eq (hx.2.mulOk hs.1 (by decide))
  have nz : (x.den : Int) * s.num ≠ 0 := Int.mul_ne_zero (den_ne x) (by omega)
  have d1 := fDiv_eq (a := x.num * s.den) nz ((hx.2.mul hs.1).divOk (by decide) (by decide))
  rw [floor_div x sp] at d1
  have k2 : Bd 2 2 := bd_lit 2 (by decide) (by decide) (by decide)
  have k1 : Bd 2 1 := bd_lit 1 (by decide) (by decide) (by decide)
  have kk : Bd 10 1000 := bd_lit 1000 (by decide) (by decide) (by decide)
  have k20 : Bd 11 2000 := bd_lit 2000 (by decide) (by decide) (by decide)
  have kv : Bd 2 (v1 - 1) := Bd.of 2 (by omega) (by decide)
  have m3 := fMul_eq (k2.mulOk bf (by decide))
  have bo := (k2.mul bf).add k1
  have m4 := fMul_eq (bo.mulOk hs.1 (by decide))
  have m5 := fMul_eq ((bo.mul hs.1).mulOk kk (by decide))
  have m6 := fMul_eq (kv.mulOk hs.1 (by decide))
  have m7 := fMul_eq (hs.2.mulOk k20 (by decide))
  have bn : Bd 1200 ((2 * (x / s).floor + 1) * s.num * 1000 + (v1 - 1) * s.num) := (((bo.mul hs.1).mul kk).add (kv.mul hs.1)).mono (by decide)
  have bd : Bd 1200 ((s.den : Int) * 2000) := (hs.2.mul k20).mono (by decide)
  have d0 : (s.den : Int) * 2000 ≠ 0 := Int.mul_ne_zero (den_ne _) (by decide)
  refine ⟨Rat.divInt ((2 * (x / s).floor + 1) * s.num * 1000 + (v1 - 1) * s.num) ((s.den : Int) * 2000), x1, ?_, ⟨bd_num bn, bd_den bd (by decide)⟩, st5 (by omega) s1⟩
  unfold m__law_halfway b__law_halfway
  simp only [mkF, enter, retF, trunc, sSeq, So.then_nx, So.then_rt, sSet, sRet, sRetN, sIf, sExpr, sNil, sPar, sAsg, ofG, gN, gsCons, gsNil, gTupT_tup, gTupT_Q, Out.then_ok, Out.then_ex, Out.bind_ok, Out.bind_ex, eVar, eD_eq, eOp, eCall, eBlt, aCons, aNil, eTup, eIf, eT, eNot, eAnd, eOr, tvAnd, tvOr, tvNot, eNeg, eIsi, isTy_d, isQ_tup, isQ_bool, isQ_int, isI_bool, isI_int, isI_tup, isB_bool, isB_int, ixQ0, ixQ1, truO_b, fzs_nil, fzs_d, gInt_eq, gAdd_int, gAbs_eq, fAdd_eq, fSub_eq, fLt_eq, fLe_eq, fGt_eq, fGe_eq, ix0, ix1, ix2, ix3, ix4, ix5, ofO_some, Option.map_some, Option.bind_some, List.length_cons, List.length_nil, List.map_cons, List.map_nil, List.replicate_succ, List.replicate_zero, List.cons_append, List.nil_append, List.getElem?_cons_zero, List.getElem?_cons_succ, List.set_cons_zero, List.set_cons_succ, List.take_length, Int.reduceEq, Int.reduceLT, Int.reduceLE, Nat.reduceSub, Nat.reduceAdd, Nat.reduceLeDiff, Nat.reduceLT, Nat.zero_add, Nat.add_zero, Nat.sub_self, if_true, if_false, reduceIte, Bool.false_eq_true, fitB, decide_true, decide_false, Bool.not_true, Bool.not_false, step, m1, m2, d1, t1, m3, m4, m5, m6, m7, sp_lowest d0 bd (by decide), take_set]
theorem sp_right {R : Ruler} (O : R.Ok) {x : Rat} (hx : BQ 1200 x) (h : Hh) : m__law_right [.d R.da, .d (Q x)] h = .ok (.d (.bool true)) h := by
  have hs := BQ_stp O hx (m := 1401) (by decide) (by decide)
  have br := BQ_rnd O hx (m := 1401) (by decide) (by decide)
  have step : ∀ h, m_step_of [.d R.da, .d (Q x)] h = .ok (.d (Q (R.stp x))) h := fun h => sp_step_of O hx (by decide) h
  have due : ∀ h, m__law_due [.d (.str R.w), .d (Q x), .d (Q (R.stp x))] h = .ok (.d (Q (R.rnd x))) h := fun h => sp_due O.w4 hx hs (stp_pos O x) h
  have r1 := fun h => sp_rounded O hx (by decide) h
  have r2 := fun h => sp_rounded O br (by decide) h
  have k2 := fun h => sp_is_mark O br (by decide) h
  rw [rnd_rnd O hx] at r2 k2
  have m1 := fMul_eq (br.1.mulOk hx.2 (by decide))
  have m2 := fMul_eq (hx.1.mulOk br.2 (by decide))
  have m3 := fMul_eq (br.2.mulOk hx.2 (by decide))
  have dp : 0 < ((R.rnd x).den : Int) * x.den := Int.mul_pos (den_pos _) (den_pos _)
  have off : ∀ h, m__law_lowest [.d (.int ((((R.rnd x).num * x.den - x.num * (R.rnd x).den).natAbs : Nat) : Int)), .d (.int ((R.rnd x).den * x.den))] h = .ok (.d (Q (R.rnd x - x).abs)) h := fun h => by
    rw [sp_lowest (by omega) (br.2.mul hx.2) (by decide), abs_divInt dp, sub_divInt]
  unfold m__law_right b__law_right
  simp only [mkF, enter, retF, trunc, sSeq, So.then_nx, So.then_rt, sSet, sRet, sRetN, sIf, sExpr, sNil, sPar, sAsg, ofG, gN, gsCons, gsNil, gTupT_tup, gTupT_Q, Out.then_ok, Out.then_ex, Out.bind_ok, Out.bind_ex, eVar, eD_eq, eOp, eCall, eBlt, aCons, aNil, eTup, eIf, eT, eNot, eAnd, eOr, tvAnd, tvOr, tvNot, eNeg, eIsi, isTy_d, isQ_tup, isQ_bool, isQ_int, isI_bool, isI_int, isI_tup, isB_bool, isB_int, ixQ0, ixQ1, truO_b, fzs_nil, fzs_d, gInt_eq, gAdd_int, gAbs_eq, fAdd_eq, fSub_eq, fLt_eq, fLe_eq, fGt_eq, fGe_eq, ix0, ix1, ix2, ix3, ix4, ix5, ofO_some, Option.map_some, Option.bind_some, List.length_cons, List.length_nil, List.map_cons, List.map_nil, List.replicate_succ, List.replicate_zero, List.cons_append, List.nil_append, List.getElem?_cons_zero, List.getElem?_cons_succ, List.set_cons_zero, List.set_cons_succ, List.take_length, Int.reduceEq, Int.reduceLT, Int.reduceLE, Nat.reduceSub, Nat.reduceAdd, Nat.reduceLeDiff, Nat.reduceLT, Nat.zero_add, Nat.add_zero, Nat.sub_self, if_true, if_false, reduceIte, Bool.false_eq_true, fitB, decide_true, decide_false, Bool.not_true, Bool.not_false, ixR3, step, due, r1, gNe_Q, r2, m1, m2, abs_eq, m3, off, sp_off_of O hx (by decide), k2, gNotB_b, sp_is_mark O hx (by decide), gEq_Q, gEq_bool]
theorem lp1 {R : Ruler} (O : R.Ok) {x : Rat} (hx : BQ 1200 x) {h : Hh} {o0 o1 o2 o3 o5 o6 o9 : Option Vl} {t : Int} (h0 : 0 ≤ t) (h4 : t < 4) :
    ∃ z9, bl_law_1 [o0, o1, o2, o3, some (.d R.da), o5, o6, some (.d (Q x)), some (.d (.int t)), o9] h = .nx [o0, o1, o2, o3, some (.d R.da), o5, o6, some (.d (Q x)), some (.d (.int t)), z9] (h ++ [some (.lst [.str "near", .str "down", .str "up", .str "nought"])]) := by
  obtain ⟨w, ew, hw⟩ : ∃ w : String, ([.str "near", .str "down", .str "up", .str "nought"] : List Da)[t.toNat]? = some (.str w) ∧ (w = "near" ∨ w = "down" ∨ w = "up" ∨ w = "nought") := by
    have : t = 0 ∨ t = 1 ∨ t = 2 ∨ t = 3 := by omega
    rcases this with z | z | z | z <;> subst z
    · exact ⟨_, rfl, .inl rfl⟩
    · exact ⟨_, rfl, .inr (.inl rfl)⟩
    · exact ⟨_, rfl, .inr (.inr (.inl rfl))⟩
    · exact ⟨_, rfl, .inr (.inr (.inr rfl))⟩
  have P : Ruler.Ok ⟨R.b, R.f, R.l, w⟩ := ⟨O.b2, O.b16, O.f1, O.f24, O.l1, O.l2, hw⟩
  have mi := gIx_list (h := h ++ [some (.lst [.str "near", .str "down", .str "up", .str "nought"])]) (m := h.length) get_end h0 ew
  have sl : ∀ h, gSl (.d R.da) none (some 3) h = some (.d (.tuple [.int R.b, .int R.f, .int R.l]), h) := fun h => rfl
  have ad : ∀ h, gAdd (.d (.tuple [.int R.b, .int R.f, .int R.l])) (.d (.tuple [.str w])) h = some (.d (Ruler.da ⟨R.b, R.f, R.l, w⟩), h) := fun h => rfl
  obtain ⟨c, ec⟩ := gEq_R P O (h ++ [some (.lst [.str "near", .str "down", .str "up", .str "nought"])])
  have r := sp_right P hx (h ++ [some (.lst [.str "near", .str "down", .str "up", .str "nought"])])
  refine ⟨some (.d (Ruler.da ⟨R.b, R.f, R.l, w⟩)), ?_⟩
  unfold bl_law_1
  by_cases c1 : t < 1
  · simp only [mkF, enter, retF, trunc, sSeq, So.then_nx, So.then_rt, sSet, sRet, sRetN, sIf, sExpr, sNil, sPar, sAsg, ofG, gN, gsCons, gsNil, gTupT_tup, gTupT_Q, Out.then_ok, Out.then_ex, Out.bind_ok, Out.bind_ex, eVar, eD_eq, eOp, eCall, eBlt, aCons, aNil, eTup, eIf, eT, eNot, eAnd, eOr, tvAnd, tvOr, tvNot, eNeg, eIsi, isTy_d, isQ_tup, isQ_bool, isQ_int, isI_bool, isI_int, isI_tup, isB_bool, isB_int, ixQ0, ixQ1, truO_b, fzs_nil, fzs_d, gInt_eq, gAdd_int, gAbs_eq, fAdd_eq, fSub_eq, fLt_eq, fLe_eq, fGt_eq, fGe_eq, ix0, ix1, ix2, ix3, ix4, ix5, ofO_some, Option.map_some, Option.bind_some, List.length_cons, List.length_nil, List.map_cons, List.map_nil, List.replicate_succ, List.replicate_zero, List.cons_append, List.nil_append, List.getElem?_cons_zero, List.getElem?_cons_succ, List.set_cons_zero, List.set_cons_succ, List.take_length, Int.reduceEq, Int.reduceLT, Int.reduceLE, Nat.reduceSub, Nat.reduceAdd, Nat.reduceLeDiff, Nat.reduceLT, Nat.zero_add, Nat.add_zero, Nat.sub_self, if_true, if_false, reduceIte, Bool.false_eq_true, fitB, decide_true, decide_false, Bool.not_true, Bool.not_false, eSl, oNone, oSome, oInt, sl, eLst, mi, ad, c1, ec, r]
  · cases c <;> simp only [mkF, enter, retF, trunc, sSeq, So.then_nx, So.then_rt, sSet, sRet, sRetN, sIf, sExpr, sNil, sPar, sAsg, ofG, gN, gsCons, gsNil, gTupT_tup, gTupT_Q, Out.then_ok, Out.then_ex, Out.bind_ok, Out.bind_ex, eVar, eD_eq, eOp, eCall, eBlt, aCons, aNil, eTup, eIf, eT, eNot, eAnd, eOr, tvAnd, tvOr, tvNot, eNeg, eIsi, isTy_d, isQ_tup, isQ_bool, isQ_int, isI_bool, isI_int, isI_tup, isB_bool, isB_int, ixQ0, ixQ1, truO_b, fzs_nil, fzs_d, gInt_eq, gAdd_int, gAbs_eq, fAdd_eq, fSub_eq, fLt_eq, fLe_eq, fGt_eq, fGe_eq, ix0, ix1, ix2, ix3, ix4, ix5, ofO_some, Option.map_some, Option.bind_some, List.length_cons, List.length_nil, List.map_cons, List.map_nil, List.replicate_succ, List.replicate_zero, List.cons_append, List.nil_append, List.getElem?_cons_zero, List.getElem?_cons_succ, List.set_cons_zero, List.set_cons_succ, List.take_length, Int.reduceEq, Int.reduceLT, Int.reduceLE, Nat.reduceSub, Nat.reduceAdd, Nat.reduceLeDiff, Nat.reduceLT, Nat.zero_add, Nat.add_zero, Nat.sub_self, if_true, if_false, reduceIte, Bool.false_eq_true, fitB, decide_true, decide_false, Bool.not_true, Bool.not_false, eSl, oNone, oSome, oInt, sl, eLst, mi, ad, c1, ec, r]
theorem lp2 {R : Ruler} (O : R.Ok) {x : Rat} (hx : BQ 1200 x) {h : Hh} {o0 o1 o2 o3 o5 o6 o8 o9 : Option Vl} :
    ∃ z8 z9 l, bl_law_2 [o0, o1, o2, o3, some (.d R.da), o5, o6, some (.d (Q x)), o8, o9] h = .nx [o0, o1, o2, o3, some (.d R.da), o5, o6, some (.d (Q x)), z8, z9] (h ++ l) := by
  obtain ⟨y0, e0⟩ := lp1 O hx (h := h) (o0 := o0) (o1 := o1) (o2 := o2) (o3 := o3) (o5 := o5) (o6 := o6) (o9 := o9) (t := 0) (by decide) (by decide)
  obtain ⟨y1, e1⟩ := lp1 O hx (h := h ++ [some (.lst [.str "near", .str "down", .str "up", .str "nought"])]) (o0 := o0) (o1 := o1) (o2 := o2) (o3 := o3) (o5 := o5) (o6 := o6) (o9 := y0) (t := 1) (by decide) (by decide)
  obtain ⟨y2, e2⟩ := lp1 O hx (h := h ++ [some (.lst [.str "near", .str "down", .str "up", .str "nought"])] ++ [some (.lst [.str "near", .str "down", .str "up", .str "nought"])]) (o0 := o0) (o1 := o1) (o2 := o2) (o3 := o3) (o5 := o5) (o6 := o6) (o9 := y1) (t := 2) (by decide) (by decide)
  obtain ⟨y3, e3⟩ := lp1 O hx (h := h ++ [some (.lst [.str "near", .str "down", .str "up", .str "nought"])] ++ [some (.lst [.str "near", .str "down", .str "up", .str "nought"])] ++ [some (.lst [.str "near", .str "down", .str "up", .str "nought"])]) (o0 := o0) (o1 := o1) (o2 := o2) (o3 := o3) (o5 := o5) (o6 := o6) (o9 := y2) (t := 3) (by decide) (by decide)
  have rg : sFor (iRange1 (aCons (eD (.int 4)) (aNil))) (gN 8) bl_law_1 [o0, o1, o2, o3, some (.d R.da), o5, o6, some (.d (Q x)), o8, o9] h = _ := (sFor_ok (iRange1_ok (n := 4) (by walk_at "ev"; rfl) (by decide))).trans ((forL_cons gd_none rfl e0).trans ((forL_cons gd_none rfl e1).trans ((forL_cons gd_none rfl e2).trans ((forL_cons gd_none rfl e3).trans (forL_nil gd_none)))))
  have tn : (.tuple [.int (0 - x.num), .int x.den] : Da) = Q (-x) := (Q_neg x).symm
  refine ⟨some (.d (.int 3)), y3, [some (.lst [.str "near", .str "down", .str "up", .str "nought"]), some (.lst [.str "near", .str "down", .str "up", .str "nought"]), some (.lst [.str "near", .str "down", .str "up", .str "nought"]), some (.lst [.str "near", .str "down", .str "up", .str "nought"])], ?_⟩
  unfold bl_law_2
  simp only [mkF, enter, retF, trunc, sSeq, So.then_nx, So.then_rt, sSet, sRet, sRetN, sIf, sExpr, sNil, sPar, sAsg, ofG, gN, gsCons, gsNil, gTupT_tup, gTupT_Q, Out.then_ok, Out.then_ex, Out.bind_ok, Out.bind_ex, eVar, eD_eq, eOp, eCall, eBlt, aCons, aNil, eTup, eIf, eT, eNot, eAnd, eOr, tvAnd, tvOr, tvNot, eNeg, eIsi, isTy_d, isQ_tup, isQ_bool, isQ_int, isI_bool, isI_int, isI_tup, isB_bool, isB_int, ixQ0, ixQ1, truO_b, fzs_nil, fzs_d, gInt_eq, gAdd_int, gAbs_eq, fAdd_eq, fSub_eq, fLt_eq, fLe_eq, fGt_eq, fGe_eq, ix0, ix1, ix2, ix3, ix4, ix5, ofO_some, Option.map_some, Option.bind_some, List.length_cons, List.length_nil, List.map_cons, List.map_nil, List.replicate_succ, List.replicate_zero, List.cons_append, List.nil_append, List.getElem?_cons_zero, List.getElem?_cons_succ, List.set_cons_zero, List.set_cons_succ, List.take_length, Int.reduceEq, Int.reduceLT, Int.reduceLE, Nat.reduceSub, Nat.reduceAdd, Nat.reduceLeDiff, Nat.reduceLT, Nat.zero_add, Nat.add_zero, Nat.sub_self, if_true, if_false, reduceIte, Bool.false_eq_true, fitB, decide_true, decide_false, Bool.not_true, Bool.not_false, rg, tn, sp_right O hx.neg]
  simp only [List.append_assoc, List.cons_append, List.nil_append]
def Shp (ρ : En) : Prop := ∃ o0 o1 o2 o3 o4 o5 o6 o7 o8 o9, ρ = [o0, o1, o2, o3, o4, o5, o6, o7, o8, o9]
theorem lp3 {h : Hh} {o0 o3 o4 o5 o6 o7 o8 o9 : Option Vl} {i : Nat} {c : Int} (hi : i < 2 ^ 32) : ∃ ρ' l, bl_law_3 [o0, some (.d (.int (i : Int))), some (.d (.int c)), o3, o4, o5, o6, o7, o8, o9] h = .nx ρ' (h ++ l) ∧ Shp ρ' := by
  obtain ⟨x0, t0, s0⟩ := sp_stream c i hi h
  obtain ⟨R, x1, t1, O, s1⟩ := sp_ruler_by s0 (by decide) (get_end (h := h))
  rw [set_at] at t1
  obtain ⟨r, x2, t2, b2, s2⟩ := sp_number_by s1 (by decide) (get_end (h := h))
  rw [set_at] at t2
  obtain ⟨r3, x3, t3, b3, s3⟩ := sp_halfway O b2 s2 (by decide) (get_end (h := h))
  rw [set_at] at t3
  obtain ⟨z8, z9, l, e1⟩ := lp2 O (b2.mono (by decide)) (h := h ++ [some (.lst x3)]) (o0 := o0) (o1 := some (.d (.int (i : Int)))) (o2 := some (.d (.int c))) (o3 := some (.r h.length)) (o5 := some (.d (Q r))) (o6 := some (.d (Q r3))) (o8 := o8) (o9 := o9)
  obtain ⟨y8, y9, l2, e2⟩ := lp2 O b3 (h := h ++ [some (.lst x3)] ++ l) (o0 := o0) (o1 := some (.d (.int (i : Int)))) (o2 := some (.d (.int c))) (o3 := some (.r h.length)) (o5 := some (.d (Q r))) (o6 := some (.d (Q r3))) (o8 := z8) (o9 := z9)
  have lp := (forL_cons gd_none (show gN 7 (.d (Q r)) [o0, some (.d (.int (i : Int))), some (.d (.int c)), some (.r h.length), some (.d R.da), some (.d (Q r)), some (.d (Q r3)), o7, o8, o9] (h ++ [some (.lst x3)]) = _ from rfl) e1 (ds := [Q r3])).trans ((forL_cons gd_none rfl e2).trans (forL_nil gd_none))
  refine ⟨[o0, some (.d (.int (i : Int))), some (.d (.int c)), some (.r h.length), some (.d R.da), some (.d (Q r)), some (.d (Q r3)), some (.d (Q r3)), y8, y9], [some (.lst x3)] ++ l ++ l2, ?_, _, _, _, _, _, _, _, _, _, _, rfl⟩
  unfold bl_law_3
  simp only [mkF, enter, retF, trunc, sSeq, So.then_nx, So.then_rt, sSet, sRet, sRetN, sIf, sExpr, sNil, sPar, sAsg, ofG, gN, gsCons, gsNil, gTupT_tup, gTupT_Q, Out.then_ok, Out.then_ex, Out.bind_ok, Out.bind_ex, eVar, eD_eq, eOp, eCall, eBlt, aCons, aNil, eTup, eIf, eT, eNot, eAnd, eOr, tvAnd, tvOr, tvNot, eNeg, eIsi, isTy_d, isQ_tup, isQ_bool, isQ_int, isI_bool, isI_int, isI_tup, isB_bool, isB_int, ixQ0, ixQ1, truO_b, fzs_nil, fzs_d, gInt_eq, gAdd_int, gAbs_eq, fAdd_eq, fSub_eq, fLt_eq, fLe_eq, fGt_eq, fGe_eq, ix0, ix1, ix2, ix3, ix4, ix5, ofO_some, Option.map_some, Option.bind_some, List.length_cons, List.length_nil, List.map_cons, List.map_nil, List.replicate_succ, List.replicate_zero, List.cons_append, List.nil_append, List.getElem?_cons_zero, List.getElem?_cons_succ, List.set_cons_zero, List.set_cons_succ, List.take_length, Int.reduceEq, Int.reduceLT, Int.reduceLE, Nat.reduceSub, Nat.reduceAdd, Nat.reduceLeDiff, Nat.reduceLT, Nat.zero_add, Nat.add_zero, Nat.sub_self, if_true, if_false, reduceIte, Bool.false_eq_true, fitB, decide_true, decide_false, Bool.not_true, Bool.not_false, t0, t1, t2, t3, sFor, iv, itQ, lp]
  simp only [List.append_assoc, List.cons_append, List.nil_append]
theorem lp {ds : List Da} : ∀ (items : List Da), (∀ d ∈ items, ∃ (i : Nat) (c : Int), d = .tuple [.int (i : Int), .int c] ∧ i < 2 ^ 32) → ∀ (ρ : En) (h : Hh), Shp ρ → h[2]? = some (some (.lst ds)) →
    ∃ ρ' h', forL (some (2, ds)) (gTupT 2 (gsCons (gN 1) (gsCons (gN 2) (gsNil)))) bl_law_3 items ρ h = .nx ρ' h'
  | [], _, ρ, h, _, e => ⟨ρ, h, forL_nil e⟩
  | d :: l, H, ρ, h, ⟨o0, o1, o2, o3, o4, o5, o6, o7, o8, o9, er⟩, e => by
    subst er
    obtain ⟨i, c, rfl, hi⟩ := H d (List.mem_cons_self ..)
    obtain ⟨ρ', l', e1, s1⟩ := lp3 (h := h) (o0 := o0) (o3 := o3) (o4 := o4) (o5 := o5) (o6 := o6) (o7 := o7) (o8 := o8) (o9 := o9) (c := c) hi
    have e2 : (h ++ l')[2]? = some (some (.lst ds)) := by
      rw [get_app (List.getElem?_eq_some_iff.mp e).1]
      exact e
    obtain ⟨ρ2, h2, e3⟩ := lp l (fun d hd => H d (List.mem_cons_of_mem _ hd)) ρ' (h ++ l') s1 e2
    exact ⟨ρ2, h2, (forL_cons (show gdOk (some (2, ds)) h from e) (by walk_at "ev") e1).trans e3⟩
theorem law_true (ns : List Int) (hl : ns.length ≤ 63) : m_law [.d (.list (ns.map PyData.int))] [] = .ok (.d (.bool true)) [] := by
  have ga : gAdd (.d (.list (ns.map PyData.int))) (.r 0) [some (.lst [.int 0])] = some (.r 1, [some (.lst [.int 0]), some (.lst ((ns ++ [0]).map PyData.int))]) := by
    simp [gAdd, asL, fitB, show ns.length ≤ 16777215 by omega]
  have gs : gSl (.r 1) none (some 63) [some (.lst [.int 0]), some (.lst ((ns ++ [0]).map PyData.int))] = some (.r 2, [some (.lst [.int 0]), some (.lst ((ns ++ [0]).map PyData.int)), some (.lst (((ns ++ [0]).take 63).map PyData.int))]) := by
    rw [← cut63]
    rfl
  obtain ⟨ρ', h', e⟩ := lp (ds := ((ns ++ [0]).take 63).map PyData.int) _ (fun d hd => by
    obtain ⟨i, c, e, hi⟩ := mapIdx_form ((ns ++ [0]).take 63) d hd
    refine ⟨i, c, e, ?_⟩
    rw [List.length_take] at hi
    omega) [some (.d (.list (ns.map PyData.int))), none, none, none, none, none, none, none, none, none] [some (.lst [.int 0]), some (.lst ((ns ++ [0]).map PyData.int)), some (.lst (((ns ++ [0]).take 63).map PyData.int))] ⟨_, _, _, _, _, _, _, _, _, _, rfl⟩ rfl
  unfold m_law b_law
  simp only [mkF, enter, retF, trunc, sSeq, So.then_nx, So.then_rt, sSet, sRet, sRetN, sIf, sExpr, sNil, sPar, sAsg, ofG, gN, gsCons, gsNil, gTupT_tup, gTupT_Q, Out.then_ok, Out.then_ex, Out.bind_ok, Out.bind_ex, eVar, eD_eq, eOp, eCall, eBlt, aCons, aNil, eTup, eIf, eT, eNot, eAnd, eOr, tvAnd, tvOr, tvNot, eNeg, eIsi, isTy_d, isQ_tup, isQ_bool, isQ_int, isI_bool, isI_int, isI_tup, isB_bool, isB_int, ixQ0, ixQ1, truO_b, fzs_nil, fzs_d, gInt_eq, gAdd_int, gAbs_eq, fAdd_eq, fSub_eq, fLt_eq, fLe_eq, fGt_eq, fGe_eq, ix0, ix1, ix2, ix3, ix4, ix5, ofO_some, Option.map_some, Option.bind_some, List.length_cons, List.length_nil, List.map_cons, List.map_nil, List.replicate_succ, List.replicate_zero, List.cons_append, List.nil_append, List.getElem?_cons_zero, List.getElem?_cons_succ, List.set_cons_zero, List.set_cons_succ, List.take_length, Int.reduceEq, Int.reduceLT, Int.reduceLE, Nat.reduceSub, Nat.reduceAdd, Nat.reduceLeDiff, Nat.reduceLT, Nat.zero_add, Nat.add_zero, Nat.sub_self, if_true, if_false, reduceIte, Bool.false_eq_true, fitB, decide_true, decide_false, Bool.not_true, Bool.not_false, sFor, iEnumL, eSl, eLst, ga, oNone, oSome, oInt, gs, itL, enumI, e, List.take_zero]

def topS (i : Nat) : Stmt := PySem.Challenge.pw_roundsure_k06_rounded.main.body.getD i (.Pass ⟨0, 0, 0, 0⟩)
structure Top (K : PySem.W.Frag) (mg : Str → Option Value) : Prop where
  f_abs : mg "abs" = none
  f_bool : mg "bool" = none
  f_enumerate : mg "enumerate" = none
  f_int : mg "int" = none
  f_isinstance : mg "isinstance" = none
  f_len : mg "len" = none
  f_range : mg "range" = none
  f_tuple : mg "tuple" = none
section
variable {P : Program} {w : World} {K : PySem.W.Frag} {mg : Str → Option Value} {base : Heap}
abbrev s_is_whole : Stmt := topS 1
theorem sc_is_whole : FnScope ["thing"] ["thing"] (defScope s_is_whole) := ⟨rfl, rfl, rfl, by decide +kernel, rfl, by decide +kernel, by decide +kernel⟩
theorem ok_is_whole {f : Addr} {fd : FuncData} (T : Top K mg)  (F : FnP K "is_whole" s_is_whole f fd) (g : mg "is_whole" = some (.ref f)) : Df P w K mg base 1 "is_whole" ["thing"] m_is_whole :=
  have nd := sc_is_whole.nd
  df_of (kk := 1) (NN := 1) (body := b_is_whole) F g sc_is_whole rfl rfl (fun _ _ _ _ _ _ _ us hl => match us, hl with | [_], _ => rfl) fun cdv A outer s H E hr =>
    ess_one (es_ret (ee_and (ee_isi .int rfl T.f_isinstance rfl T.f_int (by decide +kernel) (by decide) (by decide) (ee_var 0)) (ee_one (ee_not (ee_isi .bool rfl T.f_isinstance rfl T.f_bool (by decide +kernel) (by decide) (by decide) (ee_var 0))))))
abbrev s_shared : Stmt := topS 2
theorem sc_shared : FnScope ["one", "other"] ["one", "other"] (defScope s_shared) := ⟨rfl, rfl, rfl, by decide +kernel, rfl, by decide +kernel, by decide +kernel⟩
theorem ok_shared {f : Addr} {fd : FuncData} (T : Top K mg)  (F : FnP K "shared" s_shared f fd) (g : mg "shared" = some (.ref f)) : Df P w K mg base 1 "shared" ["one", "other"] m_shared :=
  have nd := sc_shared.nd
  df_of (kk := 2) (NN := 2) (body := b_shared) F g sc_shared rfl rfl (fun _ _ _ _ _ _ _ us hl => match us, hl with | [_, _], _ => rfl) fun cdv A outer s H E hr =>
    ess_cons (es_set (i := 0) nd (ee_blt call_abs ok_abs (by rfl) T.f_abs (by decide +kernel) (ea_cons (ee_var 0) (ea_nil))))
    (ess_cons (es_set (i := 1) nd (ee_blt call_abs ok_abs (by rfl) T.f_abs (by decide +kernel) (ea_cons (ee_var 1) (ea_nil))))
    (ess_cons (es_while po_of (et_cmp op_gt ok_gt (ee_var 1) (ee_int) (nomark _)) (ess_one (es_par (i := 0) (j := 1) rfl nd (ea_cons (ee_var 1) (ea_cons (ee_op op_modN ok_mod (ee_var 0) (ee_var 1)) (ea_nil))))))
    (ess_one (es_ret (ee_var 0)))))
abbrev s_fraction : Stmt := topS 3
theorem sc_fraction : FnScope ["above", "below", "part"] ["above", "below"] (defScope s_fraction) := ⟨rfl, rfl, rfl, by decide +kernel, rfl, by decide +kernel, by decide +kernel⟩
theorem ok_fraction {f : Addr} {fd : FuncData} (T : Top K mg) (D_shared : Df P w K mg base 1 "shared" ["one", "other"] m_shared) (F : FnP K "fraction" s_fraction f fd) (g : mg "fraction" = some (.ref f)) : Df P w K mg base 2 "fraction" ["above", "below"] m_fraction :=
  have nd := sc_fraction.nd
  df_of (kk := 2) (NN := 3) (body := b_fraction) F g sc_fraction rfl rfl (fun _ _ _ _ _ _ _ us hl => match us, hl with | [_, _], _ => rfl) fun cdv A outer s H E hr =>
    ess_cons (es_set (i := 2) nd (ec D_shared hr tk_of (ea_cons (ee_var 0) (ea_cons (ee_var 1) (ea_nil)))))
    (ess_cons (es_if (et_cmp op_lt ok_lt (ee_var 1) (ee_int) (nomark _)) (ess_one (es_set (i := 2) nd (ee_op op_sub ok_sub (ee_int) (ee_var 2)))) (ess_nil))
    (ess_one (es_ret (ee_tup (ea_cons (ee_op op_fdivC ok_div (ee_var 0) (ee_var 2)) (ea_cons (ee_op op_fdivC ok_div (ee_var 1) (ee_var 2)) (ea_nil)))))))
abbrev s_is_fraction : Stmt := topS 4
theorem sc_is_fraction : FnScope ["thing"] ["thing"] (defScope s_is_fraction) := ⟨rfl, rfl, rfl, by decide +kernel, rfl, by decide +kernel, by decide +kernel⟩
theorem ok_is_fraction {f : Addr} {fd : FuncData} (T : Top K mg) (D_is_whole : Df P w K mg base 1 "is_whole" ["thing"] m_is_whole) (D_shared : Df P w K mg base 1 "shared" ["one", "other"] m_shared) (F : FnP K "is_fraction" s_is_fraction f fd) (g : mg "is_fraction" = some (.ref f)) : Df P w K mg base 2 "is_fraction" ["thing"] m_is_fraction :=
  have nd := sc_is_fraction.nd
  df_of (kk := 1) (NN := 1) (body := b_is_fraction) F g sc_is_fraction rfl rfl (fun _ _ _ _ _ _ _ us hl => match us, hl with | [_], _ => rfl) fun cdv A outer s H E hr =>
    ess_cons (es_if (EW.et (ew_or (et_not (et_val (ee_isi .tuple rfl T.f_isinstance rfl T.f_tuple (by decide +kernel) (by decide) (by decide) (ee_var 0)))) (ew_or (et_cmp (op_neD hr.units) ok_ne (ee_blt call_len ok_len (by rfl) T.f_len PySem.boot_len (ea_cons (ee_var 0) (ea_nil))) (ee_int) (nomark _)) (ew_or (et_not (et_val (ec D_is_whole hr tk_of (ea_cons (ee_ix (ee_var 0) (ee_int)) (ea_nil))))) (ew_or1 (et_not (et_val (ec D_is_whole hr tk_of (ea_cons (ee_ix (ee_var 0) (ee_int)) (ea_nil)))))))))) (ess_one (es_ret (ee_bl))) (ess_nil))
    (ess_one (es_ret (ee_and (ee_cmp op_gt ok_gt (ee_ix (ee_var 0) (ee_int)) (ee_int) (nomark _)) (ee_one (ee_cmp (op_eqD hr.units) ok_eq (ec D_shared hr tk_of (ea_cons (ee_ix (ee_var 0) (ee_int)) (ea_cons (ee_ix (ee_var 0) (ee_int)) (ea_nil)))) (ee_int) (nomark _))))))
abbrev s_whole_of : Stmt := topS 5
theorem sc_whole_of : FnScope ["number"] ["number"] (defScope s_whole_of) := ⟨rfl, rfl, rfl, by decide +kernel, rfl, by decide +kernel, by decide +kernel⟩
theorem ok_whole_of {f : Addr} {fd : FuncData} (T : Top K mg)  (F : FnP K "whole_of" s_whole_of f fd) (g : mg "whole_of" = some (.ref f)) : Df P w K mg base 1 "whole_of" ["number"] m_whole_of :=
  have nd := sc_whole_of.nd
  df_of (kk := 1) (NN := 1) (body := b_whole_of) F g sc_whole_of rfl rfl (fun _ _ _ _ _ _ _ us hl => match us, hl with | [_], _ => rfl) fun cdv A outer s H E hr =>
    ess_one (es_ret (ee_tup (ea_cons (ee_var 0) (ea_cons (ee_int) (ea_nil)))))
abbrev s_plus : Stmt := topS 6
theorem sc_plus : FnScope ["one", "other"] ["one", "other"] (defScope s_plus) := ⟨rfl, rfl, rfl, by decide +kernel, rfl, by decide +kernel, by decide +kernel⟩
theorem ok_plus {f : Addr} {fd : FuncData} (T : Top K mg) (D_fraction : Df P w K mg base 2 "fraction" ["above", "below"] m_fraction) (F : FnP K "plus" s_plus f fd) (g : mg "plus" = some (.ref f)) : Df P w K mg base 3 "plus" ["one", "other"] m_plus :=
  have nd := sc_plus.nd
  df_of (kk := 2) (NN := 2) (body := b_plus) F g sc_plus rfl rfl (fun _ _ _ _ _ _ _ us hl => match us, hl with | [_, _], _ => rfl) fun cdv A outer s H E hr =>
    ess_one (es_ret (ec D_fraction hr tk_of (ea_cons (ee_op op_addA ok_add (ee_op op_mulC ok_mul (ee_ix (ee_var 0) (ee_int)) (ee_ix (ee_var 1) (ee_int))) (ee_op op_mulC ok_mul (ee_ix (ee_var 1) (ee_int)) (ee_ix (ee_var 0) (ee_int)))) (ea_cons (ee_op op_mulC ok_mul (ee_ix (ee_var 0) (ee_int)) (ee_ix (ee_var 1) (ee_int))) (ea_nil)))))
abbrev s_turned : Stmt := topS 7
theorem sc_turned : FnScope ["one"] ["one"] (defScope s_turned) := ⟨rfl, rfl, rfl, by decide +kernel, rfl, by decide +kernel, by decide +kernel⟩
theorem ok_turned {f : Addr} {fd : FuncData} (T : Top K mg)  (F : FnP K "turned" s_turned f fd) (g : mg "turned" = some (.ref f)) : Df P w K mg base 1 "turned" ["one"] m_turned :=
  have nd := sc_turned.nd
  df_of (kk := 1) (NN := 1) (body := b_turned) F g sc_turned rfl rfl (fun _ _ _ _ _ _ _ us hl => match us, hl with | [_], _ => rfl) fun cdv A outer s H E hr =>
    ess_one (es_ret (ee_tup (ea_cons (ee_op op_sub ok_sub (ee_int) (ee_ix (ee_var 0) (ee_int))) (ea_cons (ee_ix (ee_var 0) (ee_int)) (ea_nil)))))
abbrev s_less : Stmt := topS 8
theorem sc_less : FnScope ["one", "other"] ["one", "other"] (defScope s_less) := ⟨rfl, rfl, rfl, by decide +kernel, rfl, by decide +kernel, by decide +kernel⟩
theorem ok_less {f : Addr} {fd : FuncData} (T : Top K mg) (D_plus : Df P w K mg base 3 "plus" ["one", "other"] m_plus) (D_turned : Df P w K mg base 1 "turned" ["one"] m_turned) (F : FnP K "less" s_less f fd) (g : mg "less" = some (.ref f)) : Df P w K mg base 4 "less" ["one", "other"] m_less :=
  have nd := sc_less.nd
  df_of (kk := 2) (NN := 2) (body := b_less) F g sc_less rfl rfl (fun _ _ _ _ _ _ _ us hl => match us, hl with | [_, _], _ => rfl) fun cdv A outer s H E hr =>
    ess_one (es_ret (ec D_plus hr tk_of (ea_cons (ee_var 0) (ea_cons (ec D_turned hr tk_of (ea_cons (ee_var 1) (ea_nil))) (ea_nil)))))
abbrev s_times : Stmt := topS 9
theorem sc_times : FnScope ["one", "other"] ["one", "other"] (defScope s_times) := ⟨rfl, rfl, rfl, by decide +kernel, rfl, by decide +kernel, by decide +kernel⟩
theorem ok_times {f : Addr} {fd : FuncData} (T : Top K mg) (D_fraction : Df P w K mg base 2 "fraction" ["above", "below"] m_fraction) (F : FnP K "times" s_times f fd) (g : mg "times" = some (.ref f)) : Df P w K mg base 3 "times" ["one", "other"] m_times :=
  have nd := sc_times.nd
  df_of (kk := 2) (NN := 2) (body := b_times) F g sc_times rfl rfl (fun _ _ _ _ _ _ _ us hl => match us, hl with | [_, _], _ => rfl) fun cdv A outer s H E hr =>
    ess_one (es_ret (ec D_fraction hr tk_of (ea_cons (ee_op op_mulC ok_mul (ee_ix (ee_var 0) (ee_int)) (ee_ix (ee_var 1) (ee_int))) (ea_cons (ee_op op_mulC ok_mul (ee_ix (ee_var 0) (ee_int)) (ee_ix (ee_var 1) (ee_int))) (ea_nil)))))
abbrev s_over : Stmt := topS 10
theorem sc_over : FnScope ["one", "other"] ["one", "other"] (defScope s_over) := ⟨rfl, rfl, rfl, by decide +kernel, rfl, by decide +kernel, by decide +kernel⟩
theorem ok_over {f : Addr} {fd : FuncData} (T : Top K mg) (D_fraction : Df P w K mg base 2 "fraction" ["above", "below"] m_fraction) (F : FnP K "over" s_over f fd) (g : mg "over" = some (.ref f)) : Df P w K mg base 3 "over" ["one", "other"] m_over :=
  have nd := sc_over.nd
  df_of (kk := 2) (NN := 2) (body := b_over) F g sc_over rfl rfl (fun _ _ _ _ _ _ _ us hl => match us, hl with | [_, _], _ => rfl) fun cdv A outer s H E hr =>
    ess_one (es_ret (ec D_fraction hr tk_of (ea_cons (ee_op op_mulC ok_mul (ee_ix (ee_var 0) (ee_int)) (ee_ix (ee_var 1) (ee_int))) (ea_cons (ee_op op_mulC ok_mul (ee_ix (ee_var 0) (ee_int)) (ee_ix (ee_var 1) (ee_int))) (ea_nil)))))
abbrev s_size_of : Stmt := topS 11
theorem sc_size_of : FnScope ["one"] ["one"] (defScope s_size_of) := ⟨rfl, rfl, rfl, by decide +kernel, rfl, by decide +kernel, by decide +kernel⟩
theorem ok_size_of {f : Addr} {fd : FuncData} (T : Top K mg)  (F : FnP K "size_of" s_size_of f fd) (g : mg "size_of" = some (.ref f)) : Df P w K mg base 1 "size_of" ["one"] m_size_of :=
  have nd := sc_size_of.nd
  df_of (kk := 1) (NN := 1) (body := b_size_of) F g sc_size_of rfl rfl (fun _ _ _ _ _ _ _ us hl => match us, hl with | [_], _ => rfl) fun cdv A outer s H E hr =>
    ess_one (es_ret (ee_tup (ea_cons (ee_blt call_abs ok_abs (by rfl) T.f_abs (by decide +kernel) (ea_cons (ee_ix (ee_var 0) (ee_int)) (ea_nil))) (ea_cons (ee_ix (ee_var 0) (ee_int)) (ea_nil)))))
abbrev s_is_less : Stmt := topS 12
theorem sc_is_less : FnScope ["one", "other"] ["one", "other"] (defScope s_is_less) := ⟨rfl, rfl, rfl, by decide +kernel, rfl, by decide +kernel, by decide +kernel⟩
theorem ok_is_less {f : Addr} {fd : FuncData} (T : Top K mg)  (F : FnP K "is_less" s_is_less f fd) (g : mg "is_less" = some (.ref f)) : Df P w K mg base 1 "is_less" ["one", "other"] m_is_less :=
  have nd := sc_is_less.nd
  df_of (kk := 2) (NN := 2) (body := b_is_less) F g sc_is_less rfl rfl (fun _ _ _ _ _ _ _ us hl => match us, hl with | [_, _], _ => rfl) fun cdv A outer s H E hr =>
    ess_one (es_ret (ee_cmp op_lt ok_lt (ee_op op_mulC ok_mul (ee_ix (ee_var 0) (ee_int)) (ee_ix (ee_var 1) (ee_int))) (ee_op op_mulC ok_mul (ee_ix (ee_var 1) (ee_int)) (ee_ix (ee_var 0) (ee_int))) (nomark _)))
abbrev s_power : Stmt := topS 13
theorem sc_power : FnScope ["base", "exponent", "found", "square", "left"] ["base", "exponent"] (defScope s_power) := ⟨rfl, rfl, rfl, by decide +kernel, rfl, by decide +kernel, by decide +kernel⟩
theorem ok_power {f : Addr} {fd : FuncData} (T : Top K mg)  (F : FnP K "power" s_power f fd) (g : mg "power" = some (.ref f)) : Df P w K mg base 1 "power" ["base", "exponent"] m_power :=
  have nd := sc_power.nd
  df_of (kk := 2) (NN := 5) (body := b_power) F g sc_power rfl rfl (fun _ _ _ _ _ _ _ us hl => match us, hl with | [_, _], _ => rfl) fun cdv A outer s H E hr =>
    ess_cons (es_set (i := 2) nd (ee_int))
    (ess_cons (es_set (i := 3) nd (ee_var 0))
    (ess_cons (es_set (i := 4) nd (ee_blt call_abs ok_abs (by rfl) T.f_abs (by decide +kernel) (ea_cons (ee_var 1) (ea_nil))))
    (ess_cons (es_while po_of (et_cmp op_gt ok_gt (ee_var 4) (ee_int) (nomark _)) (ess_cons (es_if (et_cmp (op_eqD hr.units) ok_eq (ee_op op_modN ok_mod (ee_var 4) (ee_int)) (ee_int) (nomark _)) (ess_one (es_set (i := 2) nd (ee_op op_mulC ok_mul (ee_var 2) (ee_var 3)))) (ess_nil))
    (ess_cons (es_set (i := 4) nd (ee_op op_fdivC ok_div (ee_var 4) (ee_int)))
    (ess_one (es_set (i := 3) nd (ee_ifExp (et_cmp op_gt ok_gt (ee_var 4) (ee_int) (nomark _)) (ee_op op_mulC ok_mul (ee_var 3) (ee_var 3)) (ee_var 3)))))))
    (ess_one (es_ret (ee_ifExp (et_cmp op_ge ok_ge (ee_var 1) (ee_int) (nomark _)) (ee_tup (ea_cons (ee_var 2) (ea_cons (ee_int) (ea_nil)))) (ee_tup (ea_cons (ee_int) (ea_cons (ee_var 2) (ea_nil))))))))))
abbrev s_is_enough : Stmt := topS 15
theorem sc_is_enough : FnScope ["ruler", "size", "place"] ["ruler", "size", "place"] (defScope s_is_enough) := ⟨rfl, rfl, rfl, by decide +kernel, rfl, by decide +kernel, by decide +kernel⟩
theorem ok_is_enough {f : Addr} {fd : FuncData} (T : Top K mg) (D_is_less : Df P w K mg base 1 "is_less" ["one", "other"] m_is_less) (D_power : Df P w K mg base 1 "power" ["base", "exponent"] m_power) (F : FnP K "is_enough" s_is_enough f fd) (g : mg "is_enough" = some (.ref f)) : Df P w K mg base 2 "is_enough" ["ruler", "size", "place"] m_is_enough :=
  have nd := sc_is_enough.nd
  df_of (kk := 3) (NN := 3) (body := b_is_enough) F g sc_is_enough rfl rfl (fun _ _ _ _ _ _ _ us hl => match us, hl with | [_, _, _], _ => rfl) fun cdv A outer s H E hr =>
    ess_one (es_ret (ec D_is_less hr tk_of (ea_cons (ee_var 1) (ea_cons (ec D_power hr tk_of (ea_cons (ee_ix (ee_var 0) (ee_int)) (ea_cons (ee_op op_addA ok_add (ee_var 2) (ee_ix (ee_var 0) (ee_int))) (ea_nil)))) (ea_nil)))))
abbrev s_place_of : Stmt := topS 16
theorem sc_place_of : FnScope ["ruler", "number", "size", "low", "far", "high", "middle"] ["ruler", "number"] (defScope s_place_of) := ⟨rfl, rfl, rfl, by decide +kernel, rfl, by decide +kernel, by decide +kernel⟩
theorem ok_place_of {f : Addr} {fd : FuncData} (T : Top K mg) (D_size_of : Df P w K mg base 1 "size_of" ["one"] m_size_of) (D_is_enough : Df P w K mg base 2 "is_enough" ["ruler", "size", "place"] m_is_enough) (F : FnP K "place_of" s_place_of f fd) (g : mg "place_of" = some (.ref f)) : Df P w K mg base 3 "place_of" ["ruler", "number"] m_place_of :=
  have nd := sc_place_of.nd
  df_of (kk := 2) (NN := 7) (body := b_place_of) F g sc_place_of rfl rfl (fun _ _ _ _ _ _ _ us hl => match us, hl with | [_, _], _ => rfl) fun cdv A outer s H E hr =>
    ess_cons (es_set (i := 2) nd (ec D_size_of hr tk_of (ea_cons (ee_var 1) (ea_nil))))
    (ess_cons (es_set (i := 3) nd (ee_ix (ee_var 0) (ee_int)))
    (ess_cons (es_if (et_val (ec D_is_enough hr tk_of (ea_cons (ee_var 0) (ea_cons (ee_var 2) (ea_cons (ee_var 3) (ea_nil)))))) (ess_one (es_ret (ee_var 3))) (ess_nil))
    (ess_cons (es_set (i := 4) nd (ee_int))
    (ess_cons (es_while po_of (et_not (et_val (ec D_is_enough hr tk_of (ea_cons (ee_var 0) (ea_cons (ee_var 2) (ea_cons (ee_op op_addA ok_add (ee_var 3) (ee_var 4)) (ea_nil))))))) (ess_one (es_set (i := 4) nd (ee_op op_mulC ok_mul (ee_var 4) (ee_int)))))
    (ess_cons (es_set (i := 5) nd (ee_op op_addA ok_add (ee_var 3) (ee_var 4)))
    (ess_cons (es_set (i := 3) nd (ee_op op_addA ok_add (ee_var 3) (ee_op op_fdivC ok_div (ee_var 4) (ee_int))))
    (ess_cons (es_while po_of (et_cmp op_gt ok_gt (ee_op op_sub ok_sub (ee_var 5) (ee_var 3)) (ee_int) (nomark _)) (ess_cons (es_set (i := 6) nd (ee_op op_fdivC ok_div (ee_op op_addA ok_add (ee_var 3) (ee_var 5)) (ee_int)))
    (ess_one (es_if (et_val (ec D_is_enough hr tk_of (ea_cons (ee_var 0) (ea_cons (ee_var 2) (ea_cons (ee_var 6) (ea_nil)))))) (ess_one (es_set (i := 5) nd (ee_var 6))) (ess_one (es_set (i := 3) nd (ee_var 6)))))))
    (ess_one (es_ret (ee_var 5))))))))))
abbrev s_step_of : Stmt := topS 17
theorem sc_step_of : FnScope ["ruler", "number"] ["ruler", "number"] (defScope s_step_of) := ⟨rfl, rfl, rfl, by decide +kernel, rfl, by decide +kernel, by decide +kernel⟩
theorem ok_step_of {f : Addr} {fd : FuncData} (T : Top K mg) (D_power : Df P w K mg base 1 "power" ["base", "exponent"] m_power) (D_place_of : Df P w K mg base 3 "place_of" ["ruler", "number"] m_place_of) (F : FnP K "step_of" s_step_of f fd) (g : mg "step_of" = some (.ref f)) : Df P w K mg base 4 "step_of" ["ruler", "number"] m_step_of :=
  have nd := sc_step_of.nd
  df_of (kk := 2) (NN := 2) (body := b_step_of) F g sc_step_of rfl rfl (fun _ _ _ _ _ _ _ us hl => match us, hl with | [_, _], _ => rfl) fun cdv A outer s H E hr =>
    ess_one (es_ret (ec D_power hr tk_of (ea_cons (ee_ix (ee_var 0) (ee_int)) (ea_cons (ec D_place_of hr tk_of (ea_cons (ee_var 0) (ea_cons (ee_var 1) (ea_nil)))) (ea_nil)))))
abbrev s_whole_by : Stmt := topS 18
theorem sc_whole_by : FnScope ["way", "above", "below", "found", "rest", "is_up"] ["way", "above", "below"] (defScope s_whole_by) := ⟨rfl, rfl, rfl, by decide +kernel, rfl, by decide +kernel, by decide +kernel⟩
theorem ok_whole_by {f : Addr} {fd : FuncData} (T : Top K mg)  (F : FnP K "whole_by" s_whole_by f fd) (g : mg "whole_by" = some (.ref f)) : Df P w K mg base 1 "whole_by" ["way", "above", "below"] m_whole_by :=
  have nd := sc_whole_by.nd
  df_of (kk := 3) (NN := 6) (body := b_whole_by) F g sc_whole_by rfl rfl (fun _ _ _ _ _ _ _ us hl => match us, hl with | [_, _, _], _ => rfl) fun cdv A outer s H E hr =>
    ess_cons (es_set (i := 3) nd (ee_op op_fdivC ok_div (ee_var 1) (ee_var 2)))
    (ess_cons (es_set (i := 4) nd (ee_op op_modN ok_mod (ee_var 1) (ee_var 2)))
    (ess_cons (es_if (et_cmp (op_eqD hr.units) ok_eq (ee_var 0) (ee_str) (nomark _)) (ess_one (es_set (i := 5) nd (ee_or (ee_cmp op_gt ok_gt (ee_op op_mulC ok_mul (ee_var 4) (ee_int)) (ee_var 2) (nomark _)) (ee_one (ee_and (ee_cmp (op_eqD hr.units) ok_eq (ee_op op_mulC ok_mul (ee_var 4) (ee_int)) (ee_var 2) (nomark _)) (ee_one (ee_cmp (op_eqD hr.units) ok_eq (ee_op op_modN ok_mod (ee_var 3) (ee_int)) (ee_int) (nomark _)))))))) (ess_one (es_if (et_cmp (op_eqD hr.units) ok_eq (ee_var 0) (ee_str) (nomark _)) (ess_one (es_set (i := 5) nd (ee_and (ee_cmp op_lt ok_lt (ee_var 1) (ee_int) (nomark _)) (ee_one (ee_cmp op_gt ok_gt (ee_var 4) (ee_int) (nomark _)))))) (ess_one (es_set (i := 5) nd (ee_and (ee_cmp (op_eqD hr.units) ok_eq (ee_var 0) (ee_str) (nomark _)) (ee_one (ee_cmp op_gt ok_gt (ee_var 4) (ee_int) (nomark _)))))))))
    (ess_one (es_ret (ee_op op_addA ok_add (ee_var 3) (ee_bltT call_int1 ok_int1 (by rfl) T.f_int (by decide +kernel) (ea_cons (ee_var 5) (ea_nil))))))))
abbrev s_rounded : Stmt := topS 19
theorem sc_rounded : FnScope ["ruler", "number", "step", "turns"] ["ruler", "number"] (defScope s_rounded) := ⟨rfl, rfl, rfl, by decide +kernel, rfl, by decide +kernel, by decide +kernel⟩
theorem ok_rounded {f : Addr} {fd : FuncData} (T : Top K mg) (D_step_of : Df P w K mg base 4 "step_of" ["ruler", "number"] m_step_of) (D_over : Df P w K mg base 3 "over" ["one", "other"] m_over) (D_times : Df P w K mg base 3 "times" ["one", "other"] m_times) (D_whole_of : Df P w K mg base 1 "whole_of" ["number"] m_whole_of) (D_whole_by : Df P w K mg base 1 "whole_by" ["way", "above", "below"] m_whole_by) (F : FnP K "rounded" s_rounded f fd) (g : mg "rounded" = some (.ref f)) : Df P w K mg base 5 "rounded" ["ruler", "number"] m_rounded :=
  have nd := sc_rounded.nd
  df_of (kk := 2) (NN := 4) (body := b_rounded) F g sc_rounded rfl rfl (fun _ _ _ _ _ _ _ us hl => match us, hl with | [_, _], _ => rfl) fun cdv A outer s H E hr =>
    ess_cons (es_set (i := 2) nd (ec D_step_of hr tk_of (ea_cons (ee_var 0) (ea_cons (ee_var 1) (ea_nil)))))
    (ess_cons (es_set (i := 3) nd (ec D_over hr tk_of (ea_cons (ee_var 1) (ea_cons (ee_var 2) (ea_nil)))))
    (ess_one (es_ret (ec D_times hr tk_of (ea_cons (ec D_whole_of hr tk_of (ea_cons (ec D_whole_by hr tk_of (ea_cons (ee_ix (ee_var 0) (ee_int)) (ea_cons (ee_ix (ee_var 3) (ee_int)) (ea_cons (ee_ix (ee_var 3) (ee_int)) (ea_nil))))) (ea_nil))) (ea_cons (ee_var 2) (ea_nil)))))))
abbrev s_is_mark : Stmt := topS 20
theorem sc_is_mark : FnScope ["ruler", "thing"] ["ruler", "thing"] (defScope s_is_mark) := ⟨rfl, rfl, rfl, by decide +kernel, rfl, by decide +kernel, by decide +kernel⟩
theorem ok_is_mark {f : Addr} {fd : FuncData} (T : Top K mg) (D_is_fraction : Df P w K mg base 2 "is_fraction" ["thing"] m_is_fraction) (D_rounded : Df P w K mg base 5 "rounded" ["ruler", "number"] m_rounded) (F : FnP K "is_mark" s_is_mark f fd) (g : mg "is_mark" = some (.ref f)) : Df P w K mg base 6 "is_mark" ["ruler", "thing"] m_is_mark :=
  have nd := sc_is_mark.nd
  df_of (kk := 2) (NN := 2) (body := b_is_mark) F g sc_is_mark rfl rfl (fun _ _ _ _ _ _ _ us hl => match us, hl with | [_, _], _ => rfl) fun cdv A outer s H E hr =>
    ess_one (es_ret (ee_and (ec D_is_fraction hr tk_of (ea_cons (ee_var 1) (ea_nil))) (ee_one (ee_cmp (op_eqD hr.units) ok_eq (ec D_rounded hr tk_of (ea_cons (ee_var 0) (ea_cons (ee_var 1) (ea_nil)))) (ee_var 1) (nomark _)))))
abbrev s_off_of : Stmt := topS 21
theorem sc_off_of : FnScope ["ruler", "number"] ["ruler", "number"] (defScope s_off_of) := ⟨rfl, rfl, rfl, by decide +kernel, rfl, by decide +kernel, by decide +kernel⟩
theorem ok_off_of {f : Addr} {fd : FuncData} (T : Top K mg) (D_size_of : Df P w K mg base 1 "size_of" ["one"] m_size_of) (D_less : Df P w K mg base 4 "less" ["one", "other"] m_less) (D_rounded : Df P w K mg base 5 "rounded" ["ruler", "number"] m_rounded) (F : FnP K "off_of" s_off_of f fd) (g : mg "off_of" = some (.ref f)) : Df P w K mg base 6 "off_of" ["ruler", "number"] m_off_of :=
  have nd := sc_off_of.nd
  df_of (kk := 2) (NN := 2) (body := b_off_of) F g sc_off_of rfl rfl (fun _ _ _ _ _ _ _ us hl => match us, hl with | [_, _], _ => rfl) fun cdv A outer s H E hr =>
    ess_one (es_ret (ec D_size_of hr tk_of (ea_cons (ec D_less hr tk_of (ea_cons (ec D_rounded hr tk_of (ea_cons (ee_var 0) (ea_cons (ee_var 1) (ea_nil)))) (ea_cons (ee_var 1) (ea_nil)))) (ea_nil))))
abbrev s__law_mixed : Stmt := topS 23
theorem sc__law_mixed : FnScope ["_law_number", "_law_k"] ["_law_number", "_law_k"] (defScope s__law_mixed) := ⟨rfl, rfl, rfl, by decide +kernel, rfl, by decide +kernel, by decide +kernel⟩
theorem ok__law_mixed {f : Addr} {fd : FuncData} (T : Top K mg)  (F : FnP K "_law_mixed" s__law_mixed f fd) (g : mg "_law_mixed" = some (.ref f)) : Df P w K mg base 1 "_law_mixed" ["_law_number", "_law_k"] m__law_mixed :=
  have nd := sc__law_mixed.nd
  df_of (kk := 2) (NN := 2) (body := b__law_mixed) F g sc__law_mixed rfl rfl (fun _ _ _ _ _ _ _ us hl => match us, hl with | [_, _], _ => rfl) fun cdv A outer s H E hr =>
    ess_cons (es_set (i := 0) nd (ee_op op_modN ok_mod (ee_op op_mulC ok_mul (ee_op op_addA ok_add (ee_op op_addA ok_add (ee_op op_modN ok_mod (ee_var 0) (ee_int)) (ee_op op_mulC ok_mul (ee_op op_mulC ok_mul (ee_int) (ee_var 1)) (ee_var 1))) (ee_op op_mulC ok_mul (ee_int) (ee_var 1))) (ee_int)) (ee_int)))
    (ess_one (es_ret (ee_op op_modN ok_mod (ee_op op_mulC ok_mul (ee_var 0) (ee_op op_addA ok_add (ee_int) (ee_op op_mulC ok_mul (ee_int) (ee_var 1)))) (ee_int))))
abbrev s__law_stream : Stmt := topS 24
theorem sc__law_stream : FnScope ["_law_cell", "_law_k"] ["_law_cell", "_law_k"] (defScope s__law_stream) := ⟨rfl, rfl, rfl, by decide +kernel, rfl, by decide +kernel, by decide +kernel⟩
theorem ok__law_stream {f : Addr} {fd : FuncData} (T : Top K mg) (D__law_mixed : Df P w K mg base 1 "_law_mixed" ["_law_number", "_law_k"] m__law_mixed) (F : FnP K "_law_stream" s__law_stream f fd) (g : mg "_law_stream" = some (.ref f)) : Df P w K mg base 2 "_law_stream" ["_law_cell", "_law_k"] m__law_stream :=
  have nd := sc__law_stream.nd
  df_of (kk := 2) (NN := 2) (body := b__law_stream) F g sc__law_stream rfl rfl (fun _ _ _ _ _ _ _ us hl => match us, hl with | [_, _], _ => rfl) fun cdv A outer s H E hr =>
    ess_one (es_ret (ee_lst (ea_cons (ee_cmp op_ge ok_ge (ee_var 0) (ee_op op_pow ok_pow (ee_int) (ee_int)) (nomark _)) (ea_cons (ee_var 0) (ea_cons (ee_int) (ea_cons (ec D__law_mixed hr tk_of (ea_cons (ee_var 0) (ea_cons (ee_var 1) (ea_nil)))) (ea_nil)))))))
abbrev s__law_take : Stmt := topS 25
theorem sc__law_take : FnScope ["_law_stream_here", "_law_many", "_law_number"] ["_law_stream_here", "_law_many"] (defScope s__law_take) := ⟨rfl, rfl, rfl, by decide +kernel, rfl, by decide +kernel, by decide +kernel⟩
theorem ok__law_take {f : Addr} {fd : FuncData} (T : Top K mg) (D__law_mixed : Df P w K mg base 1 "_law_mixed" ["_law_number", "_law_k"] m__law_mixed) (F : FnP K "_law_take" s__law_take f fd) (g : mg "_law_take" = some (.ref f)) : Df P w K mg base 2 "_law_take" ["_law_stream_here", "_law_many"] m__law_take :=
  have nd := sc__law_take.nd
  df_of (kk := 2) (NN := 3) (body := b__law_take) F g sc__law_take rfl rfl (fun _ _ _ _ _ _ _ us hl => match us, hl with | [_, _], _ => rfl) fun cdv A outer s H E hr =>
    ess_cons (es_asg (ee_op op_addA ok_add (ee_ix (ee_var 0) (ee_int)) (ee_int)) (eg_setL (W := WOf E) (ee_var 0) (ee_int)))
    (ess_cons (es_if (EW.et (ew_or (et_not (et_val (ee_ix (ee_var 0) (ee_int)))) (ew_or (et_cmp op_in_seq (ok_in false) (ee_ix (ee_var 0) (ee_int)) (ee_tup (ea_cons (ee_int) (ea_cons (ee_neg (ee_int)) (ea_nil)))) (by with_unfolding_all rfl)) (ew_or1 (et_cmp op_gt ok_gt (ee_ix (ee_var 0) (ee_int)) (ee_int) (nomark _)))))) (ess_one (es_ret (ee_op op_modN ok_mod (ec D__law_mixed hr tk_of (ea_cons (ec D__law_mixed hr tk_of (ea_cons (ee_ix (ee_var 0) (ee_int)) (ea_cons (ee_ix (ee_var 0) (ee_int)) (ea_nil)))) (ea_cons (ee_int) (ea_nil)))) (ee_var 1)))) (ess_nil))
    (ess_cons (es_set (i := 2) nd (ee_op op_modN ok_mod (ee_ix (ee_var 0) (ee_int)) (ee_var 1)))
    (ess_cons (es_asg (ee_op op_fdivC ok_div (ee_ix (ee_var 0) (ee_int)) (ee_var 1)) (eg_setL (W := WOf E) (ee_var 0) (ee_int)))
    (ess_one (es_ret (ee_var 2))))))
abbrev s__law_lowest : Stmt := topS 26
theorem sc__law_lowest : FnScope ["_law_above", "_law_below", "_law_one", "_law_other", "_law_part"] ["_law_above", "_law_below"] (defScope s__law_lowest) := ⟨rfl, rfl, rfl, by decide +kernel, rfl, by decide +kernel, by decide +kernel⟩
theorem ok__law_lowest {f : Addr} {fd : FuncData} (T : Top K mg)  (F : FnP K "_law_lowest" s__law_lowest f fd) (g : mg "_law_lowest" = some (.ref f)) : Df P w K mg base 1 "_law_lowest" ["_law_above", "_law_below"] m__law_lowest :=
  have nd := sc__law_lowest.nd
  df_of (kk := 2) (NN := 5) (body := b__law_lowest) F g sc__law_lowest rfl rfl (fun _ _ _ _ _ _ _ us hl => match us, hl with | [_, _], _ => rfl) fun cdv A outer s H E hr =>
    ess_cons (es_par (i := 2) (j := 3) rfl nd (ea_cons (ee_blt call_abs ok_abs (by rfl) T.f_abs (by decide +kernel) (ea_cons (ee_var 0) (ea_nil))) (ea_cons (ee_blt call_abs ok_abs (by rfl) T.f_abs (by decide +kernel) (ea_cons (ee_var 1) (ea_nil))) (ea_nil))))
    (ess_cons (es_while po_of (EW.et (ew_and (et_cmp op_gt ok_gt (ee_var 2) (ee_int) (nomark _)) (ew_and1 (et_cmp op_gt ok_gt (ee_var 3) (ee_int) (nomark _))))) (ess_one (es_if (et_cmp op_ge ok_ge (ee_var 2) (ee_var 3) (nomark _)) (ess_one (es_set (i := 2) nd (ee_op op_modN ok_mod (ee_var 2) (ee_var 3)))) (ess_one (es_set (i := 3) nd (ee_op op_modN ok_mod (ee_var 3) (ee_var 2)))))))
    (ess_cons (es_set (i := 4) nd (ee_op op_addA ok_add (ee_var 2) (ee_var 3)))
    (ess_cons (es_if (et_cmp op_lt ok_lt (ee_var 1) (ee_int) (nomark _)) (ess_one (es_set (i := 4) nd (ee_op op_sub ok_sub (ee_int) (ee_var 4)))) (ess_nil))
    (ess_one (es_ret (ee_tup (ea_cons (ee_op op_fdivC ok_div (ee_var 0) (ee_var 4)) (ea_cons (ee_op op_fdivC ok_div (ee_var 1) (ee_var 4)) (ea_nil)))))))))
abbrev s__law_number_by : Stmt := topS 27
theorem sc__law_number_by : FnScope ["_law_stream_here", "_law_kind", "_law_above", "_law_base", "_law_far"] ["_law_stream_here"] (defScope s__law_number_by) := ⟨rfl, rfl, rfl, by decide +kernel, rfl, by decide +kernel, by decide +kernel⟩
theorem ok__law_number_by {f : Addr} {fd : FuncData} (T : Top K mg) (D__law_take : Df P w K mg base 2 "_law_take" ["_law_stream_here", "_law_many"] m__law_take) (D__law_lowest : Df P w K mg base 1 "_law_lowest" ["_law_above", "_law_below"] m__law_lowest) (F : FnP K "_law_number_by" s__law_number_by f fd) (g : mg "_law_number_by" = some (.ref f)) : Df P w K mg base 3 "_law_number_by" ["_law_stream_here"] m__law_number_by :=
  have nd := sc__law_number_by.nd
  df_of (kk := 1) (NN := 5) (body := b__law_number_by) F g sc__law_number_by rfl rfl (fun _ _ _ _ _ _ _ us hl => match us, hl with | [_], _ => rfl) fun cdv A outer s H E hr =>
    ess_cons (es_set (i := 1) nd (ec D__law_take hr tk_of (ea_cons (ee_var 0) (ea_cons (ee_int) (ea_nil)))))
    (ess_cons (es_set (i := 2) nd (ee_op op_sub ok_sub (ec D__law_take hr tk_of (ea_cons (ee_var 0) (ea_cons (ee_int) (ea_nil)))) (ee_int)))
    (ess_cons (es_if (et_cmp (op_eqD hr.units) ok_eq (ee_var 1) (ee_int) (nomark _)) (ess_one (es_ret (ee_tup (ea_cons (ee_op op_fdivC ok_div (ee_var 2) (ee_int)) (ea_cons (ee_int) (ea_nil)))))) (ess_nil))
    (ess_cons (es_if (et_cmp op_lt ok_lt (ee_var 1) (ee_int) (nomark _)) (ess_one (es_ret (ec D__law_lowest hr tk_of (ea_cons (ee_var 2) (ea_cons (ee_op op_addA ok_add (ee_int) (ec D__law_take hr tk_of (ea_cons (ee_var 0) (ea_cons (ee_int) (ea_nil))))) (ea_nil)))))) (ess_nil))
    (ess_cons (es_if (et_cmp (op_eqD hr.units) ok_eq (ee_var 1) (ee_int) (nomark _)) (ess_one (es_ret (ec D__law_lowest hr tk_of (ea_cons (ee_op op_addA ok_add (ee_op op_mulC ok_mul (ee_var 2) (ee_int)) (ec D__law_take hr tk_of (ea_cons (ee_var 0) (ea_cons (ee_int) (ea_nil))))) (ea_cons (ee_ix (ee_lst (ea_cons (ee_int) (ea_cons (ee_int) (ea_cons (ee_int) (ea_cons (ee_int) (ea_nil)))))) (ec D__law_take hr tk_of (ea_cons (ee_var 0) (ea_cons (ee_int) (ea_nil))))) (ea_nil)))))) (ess_nil))
    (ess_cons (es_if (et_cmp (op_eqD hr.units) ok_eq (ee_var 1) (ee_int) (nomark _)) (ess_cons (es_set (i := 3) nd (ee_op op_addA ok_add (ee_int) (ec D__law_take hr tk_of (ea_cons (ee_var 0) (ea_cons (ee_int) (ea_nil))))))
    (ess_one (es_ret (ec D__law_lowest hr tk_of (ea_cons (ee_op op_sub ok_sub (ee_op op_addA ok_add (ee_op op_mulC ok_mul (ee_op op_mulC ok_mul (ee_op op_mulC ok_mul (ee_var 3) (ee_var 3)) (ee_var 3)) (ee_op op_sub ok_sub (ee_op op_modN ok_mod (ee_var 2) (ee_int)) (ee_int))) (ec D__law_take hr tk_of (ea_cons (ee_var 0) (ea_cons (ee_int) (ea_nil))))) (ee_int)) (ea_cons (ee_var 3) (ea_nil))))))) (ess_nil))
    (ess_cons (es_set (i := 4) nd (ee_ix (ee_lst (ea_cons (ee_op op_addA ok_add (ee_op op_mulC ok_mul (ee_var 2) (ee_op op_pow ok_pow (ee_int) (ee_int))) (ee_int)) (ea_cons (ee_op op_addA ok_add (ee_op op_mulC ok_mul (ee_int) (ee_op op_pow ok_pow (ee_int) (ee_int))) (ee_var 2)) (ea_cons (ee_var 2) (ea_nil))))) (ec D__law_take hr tk_of (ea_cons (ee_var 0) (ea_cons (ee_int) (ea_nil))))))
    (ess_one (es_ret (ec D__law_lowest hr tk_of (ea_cons (ee_var 4) (ea_cons (ee_op op_addA ok_add (ee_op op_pow ok_pow (ee_int) (ee_int)) (ec D__law_take hr tk_of (ea_cons (ee_var 0) (ea_cons (ee_int) (ea_nil))))) (ea_nil))))))))))))
abbrev s__law_ruler_by : Stmt := topS 28
theorem sc__law_ruler_by : FnScope ["_law_stream_here", "_law_way"] ["_law_stream_here"] (defScope s__law_ruler_by) := ⟨rfl, rfl, rfl, by decide +kernel, rfl, by decide +kernel, by decide +kernel⟩
theorem ok__law_ruler_by {f : Addr} {fd : FuncData} (T : Top K mg) (D__law_take : Df P w K mg base 2 "_law_take" ["_law_stream_here", "_law_many"] m__law_take) (F : FnP K "_law_ruler_by" s__law_ruler_by f fd) (g : mg "_law_ruler_by" = some (.ref f)) : Df P w K mg base 3 "_law_ruler_by" ["_law_stream_here"] m__law_ruler_by :=
  have nd := sc__law_ruler_by.nd
  df_of (kk := 1) (NN := 2) (body := b__law_ruler_by) F g sc__law_ruler_by rfl rfl (fun _ _ _ _ _ _ _ us hl => match us, hl with | [_], _ => rfl) fun cdv A outer s H E hr =>
    ess_cons (es_set (i := 1) nd (ee_ix (ee_lst (ea_cons (ee_str) (ea_cons (ee_str) (ea_cons (ee_str) (ea_cons (ee_str) (ea_nil)))))) (ec D__law_take hr tk_of (ea_cons (ee_var 0) (ea_cons (ee_int) (ea_nil))))))
    (ess_cons (es_if (et_cmp (op_eqD hr.units) ok_eq (ec D__law_take hr tk_of (ea_cons (ee_var 0) (ea_cons (ee_int) (ea_nil)))) (ee_int) (nomark _)) (ess_one (es_ret (ee_tup (ea_cons (ee_op op_addA ok_add (ee_int) (ec D__law_take hr tk_of (ea_cons (ee_var 0) (ea_cons (ee_int) (ea_nil))))) (ea_cons (ee_op op_addA ok_add (ee_int) (ec D__law_take hr tk_of (ea_cons (ee_var 0) (ea_cons (ee_int) (ea_nil))))) (ea_cons (ee_op op_sub ok_sub (ec D__law_take hr tk_of (ea_cons (ee_var 0) (ea_cons (ee_int) (ea_nil)))) (ee_int)) (ea_cons (ee_var 1) (ea_nil)))))))) (ess_nil))
    (ess_one (es_ret (ee_tup (ea_cons (ee_op op_addA ok_add (ee_int) (ec D__law_take hr tk_of (ea_cons (ee_var 0) (ea_cons (ee_int) (ea_nil))))) (ea_cons (ee_op op_addA ok_add (ee_int) (ec D__law_take hr tk_of (ea_cons (ee_var 0) (ea_cons (ee_int) (ea_nil))))) (ea_cons (ee_op op_sub ok_sub (ec D__law_take hr tk_of (ea_cons (ee_var 0) (ea_cons (ee_int) (ea_nil)))) (ee_int)) (ea_cons (ee_var 1) (ea_nil)))))))))
abbrev s__law_due : Stmt := topS 29
theorem sc__law_due : FnScope ["_law_way", "_law_one", "_law_step", "_law_down", "_law_both", "_law_turn", "_law_gaps", "_law_side", "_law_far"] ["_law_way", "_law_one", "_law_step"] (defScope s__law_due) := ⟨rfl, rfl, rfl, by decide +kernel, rfl, by decide +kernel, by decide +kernel⟩
theorem ok__law_due {f : Addr} {fd : FuncData} (T : Top K mg) (D__law_lowest : Df P w K mg base 1 "_law_lowest" ["_law_above", "_law_below"] m__law_lowest) (F : FnP K "_law_due" s__law_due f fd) (g : mg "_law_due" = some (.ref f)) : Df P w K mg base 2 "_law_due" ["_law_way", "_law_one", "_law_step"] m__law_due :=
  have nd := sc__law_due.nd
  df_of (kk := 3) (NN := 9) (body := b__law_due) F g sc__law_due rfl rfl (fun _ _ _ _ _ _ _ us hl => match us, hl with | [_, _, _], _ => rfl) fun cdv A outer s H E hr =>
    ess_cons (es_set (i := 3) nd (ee_op op_fdivC ok_div (ee_op op_mulC ok_mul (ee_ix (ee_var 1) (ee_int)) (ee_ix (ee_var 2) (ee_int))) (ee_op op_mulC ok_mul (ee_ix (ee_var 1) (ee_int)) (ee_ix (ee_var 2) (ee_int)))))
    (ess_cons (es_setLc (i := 4) [5] [("_law_turn", 5)] rfl nd (ei_seq (ee_tup (ea_cons (ee_var 3) (ea_cons (ee_op op_addA ok_add (ee_var 3) (ee_int)) (ea_nil))))) (blkOk_by (N := ["_law_way", "_law_one", "_law_step", "_law_down", "_law_both", "_law_turn", "_law_gaps", "_law_side", "_law_far"]) (sc := defScope s__law_due) (by decide +kernel)) (fun _ _ _ _ _ => egw_name (i := 5) nd) (fun _ _ _ _ _ => ets_nil) (fun _ _ _ _ _ => ec D__law_lowest hr tk_blk (ea_cons (ee_op op_mulC ok_mul (ee_var 5) (ee_ix (ee_var 2) (ee_int))) (ea_cons (ee_ix (ee_var 2) (ee_int)) (ea_nil)))) (sw_true rfl rfl rfl (by decide +kernel)))
    (ess_cons (es_if (et_cmp (op_eqD hr.units) ok_eq (ee_ix (ee_var 4) (ee_int)) (ee_var 1) (nomark _)) (ess_one (es_ret (ee_var 1))) (ess_nil))
    (ess_cons (es_if (et_cmp (op_eqD hr.units) ok_eq (ee_var 0) (ee_str) (nomark _)) (ess_one (es_ret (ee_ix (ee_var 4) (ee_bltT call_int1 ok_int1 (by rfl) T.f_int (by decide +kernel) (ea_cons (ee_cmp op_lt ok_lt (ee_ix (ee_var 1) (ee_int)) (ee_int) (nomark _)) (ea_nil)))))) (ess_nil))
    (ess_cons (es_if (et_cmp op_in_seq (ok_in false) (ee_var 0) (ee_tup (ea_cons (ee_str) (ea_cons (ee_str) (ea_nil)))) (by with_unfolding_all rfl)) (ess_one (es_ret (ee_ix (ee_var 4) (ee_bltT call_int1 ok_int1 (by rfl) T.f_int (by decide +kernel) (ea_cons (ee_cmp (op_eqD hr.units) ok_eq (ee_var 0) (ee_str) (nomark _)) (ea_nil)))))) (ess_nil))
    (ess_cons (es_set (i := 6) nd (ee_lst (ea_nil)))
    (ess_cons (es_for (fb := bl__law_due_1) po_of rfl (ei_seq (ee_var 4)) (eg_name (i := 7) nd) (ess_cons (es_set (i := 8) nd (ee_blt call_abs ok_abs (by rfl) T.f_abs (by decide +kernel) (ea_cons (ee_op op_sub ok_sub (ee_op op_mulC ok_mul (ee_ix (ee_var 7) (ee_int)) (ee_ix (ee_var 1) (ee_int))) (ee_op op_mulC ok_mul (ee_ix (ee_var 1) (ee_int)) (ee_ix (ee_var 7) (ee_int)))) (ea_nil))))
    (ess_one (es_expr (ee_mt PySem.F.plainAttrs_list PySem.F.slot_list_append PySem.F.type_list_append mt_append tyL_ok ok_app (ee_var 6) (ea_cons (ee_op op_fdivC ok_div (ee_op op_mulC ok_mul (ee_op op_mulC ok_mul (ee_var 8) (ee_ix (ee_ix (ee_var 4) (ee_int)) (ee_int))) (ee_ix (ee_ix (ee_var 4) (ee_int)) (ee_int))) (ee_ix (ee_var 7) (ee_int))) (ea_nil)))))))
    (ess_cons (es_if (et_cmp (op_eqD hr.units) ok_eq (ee_ix (ee_var 6) (ee_int)) (ee_ix (ee_var 6) (ee_int)) (nomark _)) (ess_one (es_ret (ee_ix (ee_var 4) (ee_op op_modN ok_mod (ee_var 3) (ee_int))))) (ess_nil))
    (ess_one (es_ret (ee_ix (ee_var 4) (ee_bltT call_int1 ok_int1 (by rfl) T.f_int (by decide +kernel) (ea_cons (ee_cmp op_lt ok_lt (ee_ix (ee_var 6) (ee_int)) (ee_ix (ee_var 6) (ee_int)) (nomark _)) (ea_nil)))))))))))))
abbrev s__law_halfway : Stmt := topS 30
theorem sc__law_halfway : FnScope ["_law_stream_here", "_law_ruler", "_law_one", "_law_step", "_law_turns", "_law_more"] ["_law_stream_here", "_law_ruler", "_law_one"] (defScope s__law_halfway) := ⟨rfl, rfl, rfl, by decide +kernel, rfl, by decide +kernel, by decide +kernel⟩
theorem ok__law_halfway {f : Addr} {fd : FuncData} (T : Top K mg) (D_step_of : Df P w K mg base 4 "step_of" ["ruler", "number"] m_step_of) (D__law_take : Df P w K mg base 2 "_law_take" ["_law_stream_here", "_law_many"] m__law_take) (D__law_lowest : Df P w K mg base 1 "_law_lowest" ["_law_above", "_law_below"] m__law_lowest) (F : FnP K "_law_halfway" s__law_halfway f fd) (g : mg "_law_halfway" = some (.ref f)) : Df P w K mg base 5 "_law_halfway" ["_law_stream_here", "_law_ruler", "_law_one"] m__law_halfway :=
  have nd := sc__law_halfway.nd
  df_of (kk := 3) (NN := 6) (body := b__law_halfway) F g sc__law_halfway rfl rfl (fun _ _ _ _ _ _ _ us hl => match us, hl with | [_, _, _], _ => rfl) fun cdv A outer s H E hr =>
    ess_cons (es_set (i := 3) nd (ec D_step_of hr tk_of (ea_cons (ee_var 1) (ea_cons (ee_var 2) (ea_nil)))))
    (ess_cons (es_set (i := 4) nd (ee_op op_fdivC ok_div (ee_op op_mulC ok_mul (ee_ix (ee_var 2) (ee_int)) (ee_ix (ee_var 3) (ee_int))) (ee_op op_mulC ok_mul (ee_ix (ee_var 2) (ee_int)) (ee_ix (ee_var 3) (ee_int)))))
    (ess_cons (es_set (i := 5) nd (ee_op op_sub ok_sub (ec D__law_take hr tk_of (ea_cons (ee_var 0) (ea_cons (ee_int) (ea_nil)))) (ee_int)))
    (ess_one (es_ret (ec D__law_lowest hr tk_of (ea_cons (ee_op op_addA ok_add (ee_op op_mulC ok_mul (ee_op op_mulC ok_mul (ee_op op_addA ok_add (ee_op op_mulC ok_mul (ee_int) (ee_var 4)) (ee_int)) (ee_ix (ee_var 3) (ee_int))) (ee_int)) (ee_op op_mulC ok_mul (ee_var 5) (ee_ix (ee_var 3) (ee_int)))) (ea_cons (ee_op op_mulC ok_mul (ee_ix (ee_var 3) (ee_int)) (ee_int)) (ea_nil))))))))
abbrev s__law_right : Stmt := topS 31
theorem sc__law_right : FnScope ["_law_ruler", "_law_one", "_law_due_here", "_law_found", "_law_off", "_law_kept"] ["_law_ruler", "_law_one"] (defScope s__law_right) := ⟨rfl, rfl, rfl, by decide +kernel, rfl, by decide +kernel, by decide +kernel⟩
theorem ok__law_right {f : Addr} {fd : FuncData} (T : Top K mg) (D__law_due : Df P w K mg base 2 "_law_due" ["_law_way", "_law_one", "_law_step"] m__law_due) (D_step_of : Df P w K mg base 4 "step_of" ["ruler", "number"] m_step_of) (D_rounded : Df P w K mg base 5 "rounded" ["ruler", "number"] m_rounded) (D__law_lowest : Df P w K mg base 1 "_law_lowest" ["_law_above", "_law_below"] m__law_lowest) (D_off_of : Df P w K mg base 6 "off_of" ["ruler", "number"] m_off_of) (D_is_mark : Df P w K mg base 6 "is_mark" ["ruler", "thing"] m_is_mark) (F : FnP K "_law_right" s__law_right f fd) (g : mg "_law_right" = some (.ref f)) : Df P w K mg base 7 "_law_right" ["_law_ruler", "_law_one"] m__law_right :=
  have nd := sc__law_right.nd
  df_of (kk := 2) (NN := 6) (body := b__law_right) F g sc__law_right rfl rfl (fun _ _ _ _ _ _ _ us hl => match us, hl with | [_, _], _ => rfl) fun cdv A outer s H E hr =>
    ess_cons (es_set (i := 2) nd (ec D__law_due hr tk_of (ea_cons (ee_ix (ee_var 0) (ee_int)) (ea_cons (ee_var 1) (ea_cons (ec D_step_of hr tk_of (ea_cons (ee_var 0) (ea_cons (ee_var 1) (ea_nil)))) (ea_nil))))))
    (ess_cons (es_set (i := 3) nd (ec D_rounded hr tk_of (ea_cons (ee_var 0) (ea_cons (ee_var 1) (ea_nil)))))
    (ess_cons (es_if (EW.et (ew_or (et_not (et_val (ee_isi .tuple rfl T.f_isinstance rfl T.f_tuple (by decide +kernel) (by decide) (by decide) (ee_var 3)))) (ew_or (et_cmp (op_neD hr.units) ok_ne (ee_var 3) (ee_var 2) (nomark _)) (ew_or1 (et_cmp (op_neD hr.units) ok_ne (ec D_rounded hr tk_of (ea_cons (ee_var 0) (ea_cons (ee_var 3) (ea_nil)))) (ee_var 3) (nomark _)))))) (ess_one (es_ret (ee_bl))) (ess_nil))
    (ess_cons (es_set (i := 4) nd (ec D__law_lowest hr tk_of (ea_cons (ee_blt call_abs ok_abs (by rfl) T.f_abs (by decide +kernel) (ea_cons (ee_op op_sub ok_sub (ee_op op_mulC ok_mul (ee_ix (ee_var 2) (ee_int)) (ee_ix (ee_var 1) (ee_int))) (ee_op op_mulC ok_mul (ee_ix (ee_var 1) (ee_int)) (ee_ix (ee_var 2) (ee_int)))) (ea_nil))) (ea_cons (ee_op op_mulC ok_mul (ee_ix (ee_var 2) (ee_int)) (ee_ix (ee_var 1) (ee_int))) (ea_nil)))))
    (ess_cons (es_if (EW.et (ew_or (et_cmp (op_neD hr.units) ok_ne (ec D_off_of hr tk_of (ea_cons (ee_var 0) (ea_cons (ee_var 1) (ea_nil)))) (ee_var 4) (nomark _)) (ew_or1 (et_cmp op_notBl ok_notB (ec D_is_mark hr tk_of (ea_cons (ee_var 0) (ea_cons (ee_var 3) (ea_nil)))) (ee_bl) (nomark _))))) (ess_one (es_ret (ee_bl))) (ess_nil))
    (ess_cons (es_set (i := 5) nd (ec D_is_mark hr tk_of (ea_cons (ee_var 0) (ea_cons (ee_var 1) (ea_nil)))))
    (ess_one (es_ret (ee_and (ee_isi .bool rfl T.f_isinstance rfl T.f_bool (by decide +kernel) (by decide) (by decide) (ee_var 5)) (ee_one (ee_cmp (op_eqD hr.units) ok_eq (ee_var 5) (ee_cmp (op_eqD hr.units) ok_eq (ee_var 2) (ee_var 1) (nomark _)) (nomark _)))))))))))
abbrev s_law : Stmt := topS 32
theorem sc_law : FnScope ["_law_script", "_law_k", "_law_cell", "_law_stream_here", "_law_ruler", "_law_one", "_law_half", "_law_number", "_law_turn", "_law_whole"] ["_law_script"] (defScope s_law) := ⟨rfl, rfl, rfl, by decide +kernel, rfl, by decide +kernel, by decide +kernel⟩
theorem ok_law {f : Addr} {fd : FuncData} (T : Top K mg) (D__law_stream : Df P w K mg base 2 "_law_stream" ["_law_cell", "_law_k"] m__law_stream) (D__law_ruler_by : Df P w K mg base 3 "_law_ruler_by" ["_law_stream_here"] m__law_ruler_by) (D__law_number_by : Df P w K mg base 3 "_law_number_by" ["_law_stream_here"] m__law_number_by) (D__law_halfway : Df P w K mg base 5 "_law_halfway" ["_law_stream_here", "_law_ruler", "_law_one"] m__law_halfway) (D__law_right : Df P w K mg base 7 "_law_right" ["_law_ruler", "_law_one"] m__law_right) (F : FnP K "law" s_law f fd) : FnOk P w K mg base CX0 8 f fd ["_law_script"] (fun vs H Q _ => spF K mg m_law vs H Q fun _ _ _ => False) :=
  have nd := sc_law.nd
  fnOk_of' (kk := 1) (NN := 10) (body := b_law) F sc_law rfl rfl fun cdv A outer s H E hr =>
    ess_cons (es_for (fb := bl_law_3) po_of rfl (ei_enum (by rfl) T.f_enumerate (ea_cons (ee_slice (ee_op op_addA ok_add (ee_var 0) (ee_lst (ea_cons (ee_int) (ea_nil)))) (eo_none) (eo_some (ee_int))) (ea_nil))) (eg_tup rfl (egs_cons (eg_name (i := 1) nd) (egs_cons (eg_name (i := 2) nd) (egs_nil)))) (ess_cons (es_set (i := 3) nd (ec D__law_stream hr tk_of (ea_cons (ee_var 2) (ea_cons (ee_var 1) (ea_nil)))))
    (ess_cons (es_set (i := 4) nd (ec D__law_ruler_by hr tk_of (ea_cons (ee_var 3) (ea_nil))))
    (ess_cons (es_set (i := 5) nd (ec D__law_number_by hr tk_of (ea_cons (ee_var 3) (ea_nil))))
    (ess_cons (es_set (i := 6) nd (ec D__law_halfway hr tk_of (ea_cons (ee_var 3) (ea_cons (ee_var 4) (ea_cons (ee_var 5) (ea_nil))))))
    (ess_one (es_for (fb := bl_law_2) po_of rfl (ei_seq (ee_tup (ea_cons (ee_var 5) (ea_cons (ee_var 6) (ea_nil))))) (eg_name (i := 7) nd) (ess_cons (es_for (fb := bl_law_1) po_of rfl (ei_range1 (by rfl) T.f_range (ea_cons (ee_int) (ea_nil))) (eg_name (i := 8) nd) (ess_cons (es_set (i := 9) nd (ee_op op_addA ok_add (ee_slice (ee_var 4) (eo_none) (eo_some (ee_int))) (ee_tup (ea_cons (ee_ix (ee_lst (ea_cons (ee_str) (ea_cons (ee_str) (ea_cons (ee_str) (ea_cons (ee_str) (ea_nil)))))) (ee_var 8)) (ea_nil)))))
    (ess_one (es_if (EW.et (ew_and (EW.et (ew_or (et_cmp op_lt ok_lt (ee_var 8) (ee_int) (nomark _)) (ew_or1 (et_cmp (op_eqD hr.units) ok_eq (ee_var 9) (ee_var 4) (nomark _))))) (ew_and1 (et_not (et_val (ec D__law_right hr tk_of (ea_cons (ee_var 9) (ea_cons (ee_var 7) (ea_nil))))))))) (ess_one (es_ret (ee_bl))) (ess_nil)))))
    (ess_one (es_if (et_not (et_val (ec D__law_right hr tk_of (ea_cons (ee_var 4) (ea_cons (ee_tup (ea_cons (ee_op op_sub ok_sub (ee_int) (ee_ix (ee_var 7) (ee_int))) (ea_cons (ee_ix (ee_var 7) (ee_int)) (ea_nil)))) (ea_nil)))))) (ess_one (es_ret (ee_bl))) (ess_nil)))))))))))
    (ess_one (es_ret (ee_bl)))
end
def d_is_whole : He.DefD := ⟨("is_whole", none), "is_whole", "is_whole", defArgs s_is_whole, defBody s_is_whole, defScope s_is_whole, [], []⟩
def d_shared : He.DefD := ⟨("shared", none), "shared", "shared", defArgs s_shared, defBody s_shared, defScope s_shared, [], []⟩
def d_fraction : He.DefD := ⟨("fraction", none), "fraction", "fraction", defArgs s_fraction, defBody s_fraction, defScope s_fraction, [], []⟩
def d_is_fraction : He.DefD := ⟨("is_fraction", none), "is_fraction", "is_fraction", defArgs s_is_fraction, defBody s_is_fraction, defScope s_is_fraction, [], []⟩
def d_whole_of : He.DefD := ⟨("whole_of", none), "whole_of", "whole_of", defArgs s_whole_of, defBody s_whole_of, defScope s_whole_of, [], []⟩
def d_plus : He.DefD := ⟨("plus", none), "plus", "plus", defArgs s_plus, defBody s_plus, defScope s_plus, [], []⟩
def d_turned : He.DefD := ⟨("turned", none), "turned", "turned", defArgs s_turned, defBody s_turned, defScope s_turned, [], []⟩
def d_less : He.DefD := ⟨("less", none), "less", "less", defArgs s_less, defBody s_less, defScope s_less, [], []⟩
def d_times : He.DefD := ⟨("times", none), "times", "times", defArgs s_times, defBody s_times, defScope s_times, [], []⟩
def d_over : He.DefD := ⟨("over", none), "over", "over", defArgs s_over, defBody s_over, defScope s_over, [], []⟩
def d_size_of : He.DefD := ⟨("size_of", none), "size_of", "size_of", defArgs s_size_of, defBody s_size_of, defScope s_size_of, [], []⟩
def d_is_less : He.DefD := ⟨("is_less", none), "is_less", "is_less", defArgs s_is_less, defBody s_is_less, defScope s_is_less, [], []⟩
def d_power : He.DefD := ⟨("power", none), "power", "power", defArgs s_power, defBody s_power, defScope s_power, [], []⟩
def d_is_enough : He.DefD := ⟨("is_enough", none), "is_enough", "is_enough", defArgs s_is_enough, defBody s_is_enough, defScope s_is_enough, [], []⟩
def d_place_of : He.DefD := ⟨("place_of", none), "place_of", "place_of", defArgs s_place_of, defBody s_place_of, defScope s_place_of, [], []⟩
def d_step_of : He.DefD := ⟨("step_of", none), "step_of", "step_of", defArgs s_step_of, defBody s_step_of, defScope s_step_of, [], []⟩
def d_whole_by : He.DefD := ⟨("whole_by", none), "whole_by", "whole_by", defArgs s_whole_by, defBody s_whole_by, defScope s_whole_by, [], []⟩
def d_rounded : He.DefD := ⟨("rounded", none), "rounded", "rounded", defArgs s_rounded, defBody s_rounded, defScope s_rounded, [], []⟩
def d_is_mark : He.DefD := ⟨("is_mark", none), "is_mark", "is_mark", defArgs s_is_mark, defBody s_is_mark, defScope s_is_mark, [], []⟩
def d_off_of : He.DefD := ⟨("off_of", none), "off_of", "off_of", defArgs s_off_of, defBody s_off_of, defScope s_off_of, [], []⟩
def d__law_mixed : He.DefD := ⟨("_law_mixed", none), "_law_mixed", "_law_mixed", defArgs s__law_mixed, defBody s__law_mixed, defScope s__law_mixed, [], []⟩
def d__law_stream : He.DefD := ⟨("_law_stream", none), "_law_stream", "_law_stream", defArgs s__law_stream, defBody s__law_stream, defScope s__law_stream, [], []⟩
def d__law_take : He.DefD := ⟨("_law_take", none), "_law_take", "_law_take", defArgs s__law_take, defBody s__law_take, defScope s__law_take, [], []⟩
def d__law_lowest : He.DefD := ⟨("_law_lowest", none), "_law_lowest", "_law_lowest", defArgs s__law_lowest, defBody s__law_lowest, defScope s__law_lowest, [], []⟩
def d__law_number_by : He.DefD := ⟨("_law_number_by", none), "_law_number_by", "_law_number_by", defArgs s__law_number_by, defBody s__law_number_by, defScope s__law_number_by, [], []⟩
def d__law_ruler_by : He.DefD := ⟨("_law_ruler_by", none), "_law_ruler_by", "_law_ruler_by", defArgs s__law_ruler_by, defBody s__law_ruler_by, defScope s__law_ruler_by, [], []⟩
def d__law_due : He.DefD := ⟨("_law_due", none), "_law_due", "_law_due", defArgs s__law_due, defBody s__law_due, defScope s__law_due, [], []⟩
def d__law_halfway : He.DefD := ⟨("_law_halfway", none), "_law_halfway", "_law_halfway", defArgs s__law_halfway, defBody s__law_halfway, defScope s__law_halfway, [], []⟩
def d__law_right : He.DefD := ⟨("_law_right", none), "_law_right", "_law_right", defArgs s__law_right, defBody s__law_right, defScope s__law_right, [], []⟩
def d_law : He.DefD := ⟨("law", none), "law", "law", defArgs s_law, defBody s_law, defScope s_law, [], []⟩
def fn : List He.DefD := [d_is_whole, d_shared, d_fraction, d_is_fraction, d_whole_of, d_plus, d_turned, d_less, d_times, d_over, d_size_of, d_is_less, d_power, d_is_enough, d_place_of, d_step_of, d_whole_by, d_rounded, d_is_mark, d_off_of, d__law_mixed, d__law_stream, d__law_take, d__law_lowest, d__law_number_by, d__law_ruler_by, d__law_due, d__law_halfway, d__law_right, d_law]
def fa : List He.Fa := [.glo "is_whole", .glo "shared", .glo "fraction", .glo "is_fraction", .glo "whole_of", .glo "plus", .glo "turned", .glo "less", .glo "times", .glo "over", .glo "size_of", .glo "is_less", .glo "power", .glo "is_enough", .glo "place_of", .glo "step_of", .glo "whole_by", .glo "rounded", .glo "is_mark", .glo "off_of", .glo "_law_mixed", .glo "_law_stream", .glo "_law_take", .glo "_law_lowest", .glo "_law_number_by", .glo "_law_ruler_by", .glo "_law_due", .glo "_law_halfway", .glo "_law_right", .glo "law", .free "abs", .free "bool", .free "enumerate", .free "int", .free "isinstance", .free "len", .free "range", .free "tuple"]
def ex (K : PySem.W.Frag) : Bool := true
abbrev R : PySem.W.OpenRow := PySem.W.OpenLaw.row PySem.Challenge.rw_roundsure_k06_rounded
abbrev hk : PySem.W.Hook := hookR 4 fa fn ex
def ob (s : PySem.W.SharedT) : AlR := obsR 4 fa fn ex (HandSHeadRun.getT s)
theorem ob_eq (s : PySem.W.SharedT) : ob s = hk.obs s.abs := obsR_eq (HandSHeadRun.getT_eq s)
def loose : List Str := (["is_whole", "shared", "fraction", "is_fraction", "whole_of", "plus", "turned", "less", "times", "over", "size_of", "is_less", "power", "is_enough", "place_of", "step_of", "whole_by", "rounded", "is_mark", "off_of", "_law_mixed", "_law_stream", "_law_take", "_law_lowest", "_law_number_by", "_law_ruler_by", "_law_due", "_law_halfway", "_law_right"] : List Str)
theorem run (w : World) : HandSHeadRun.RunEq R (PySem.W.view R.prog [32]) hk ob 4000 loose w := by
  intro os
  kernel_rfl
theorem facts {P : Program} {w : World} {K : PySem.W.Frag} {h : Heap} {mg : Str → Option Value} {f : Addr} (X : K.In h) (G : h.Ns mainGlobals mg) (hfa : mg ("law" : Str) = some (.ref f)) (c : SaysR fa fn ex K) :
    ∃ fd : FuncData, (∀ (s : Shared) (v : Value), BindsTo s fd ⟨[v], []⟩ [("_law_script", v)]) ∧ ∀ base : Heap, K.In base → base.Ns mainGlobals mg → FnOk P w K mg base CX0 8 f fd ["_law_script"] (fun vs H Q _ => spF K mg m_law vs H Q fun _ _ _ => False) := by
  obtain ⟨c, cx⟩ := c
  obtain ⟨fd_is_whole, F_is_whole⟩ := c.def_ 0 (d := d_is_whole) rfl
  obtain ⟨fd_shared, F_shared⟩ := c.def_ 1 (d := d_shared) rfl
  obtain ⟨fd_fraction, F_fraction⟩ := c.def_ 2 (d := d_fraction) rfl
  obtain ⟨fd_is_fraction, F_is_fraction⟩ := c.def_ 3 (d := d_is_fraction) rfl
  obtain ⟨fd_whole_of, F_whole_of⟩ := c.def_ 4 (d := d_whole_of) rfl
  obtain ⟨fd_plus, F_plus⟩ := c.def_ 5 (d := d_plus) rfl
  obtain ⟨fd_turned, F_turned⟩ := c.def_ 6 (d := d_turned) rfl
  obtain ⟨fd_less, F_less⟩ := c.def_ 7 (d := d_less) rfl
  obtain ⟨fd_times, F_times⟩ := c.def_ 8 (d := d_times) rfl
  obtain ⟨fd_over, F_over⟩ := c.def_ 9 (d := d_over) rfl
  obtain ⟨fd_size_of, F_size_of⟩ := c.def_ 10 (d := d_size_of) rfl
  obtain ⟨fd_is_less, F_is_less⟩ := c.def_ 11 (d := d_is_less) rfl
  obtain ⟨fd_power, F_power⟩ := c.def_ 12 (d := d_power) rfl
  obtain ⟨fd_is_enough, F_is_enough⟩ := c.def_ 13 (d := d_is_enough) rfl
  obtain ⟨fd_place_of, F_place_of⟩ := c.def_ 14 (d := d_place_of) rfl
  obtain ⟨fd_step_of, F_step_of⟩ := c.def_ 15 (d := d_step_of) rfl
  obtain ⟨fd_whole_by, F_whole_by⟩ := c.def_ 16 (d := d_whole_by) rfl
  obtain ⟨fd_rounded, F_rounded⟩ := c.def_ 17 (d := d_rounded) rfl
  obtain ⟨fd_is_mark, F_is_mark⟩ := c.def_ 18 (d := d_is_mark) rfl
  obtain ⟨fd_off_of, F_off_of⟩ := c.def_ 19 (d := d_off_of) rfl
  obtain ⟨fd__law_mixed, F__law_mixed⟩ := c.def_ 20 (d := d__law_mixed) rfl
  obtain ⟨fd__law_stream, F__law_stream⟩ := c.def_ 21 (d := d__law_stream) rfl
  obtain ⟨fd__law_take, F__law_take⟩ := c.def_ 22 (d := d__law_take) rfl
  obtain ⟨fd__law_lowest, F__law_lowest⟩ := c.def_ 23 (d := d__law_lowest) rfl
  obtain ⟨fd__law_number_by, F__law_number_by⟩ := c.def_ 24 (d := d__law_number_by) rfl
  obtain ⟨fd__law_ruler_by, F__law_ruler_by⟩ := c.def_ 25 (d := d__law_ruler_by) rfl
  obtain ⟨fd__law_due, F__law_due⟩ := c.def_ 26 (d := d__law_due) rfl
  obtain ⟨fd__law_halfway, F__law_halfway⟩ := c.def_ 27 (d := d__law_halfway) rfl
  obtain ⟨fd__law_right, F__law_right⟩ := c.def_ 28 (d := d__law_right) rfl
  obtain ⟨fd_law, F_law⟩ := c.def_ 29 (d := d_law) rfl
  have g_is_whole := He.glo_ok X G (c.fact 0 (f := .glo "is_whole") rfl)
  have g_shared := He.glo_ok X G (c.fact 1 (f := .glo "shared") rfl)
  have g_fraction := He.glo_ok X G (c.fact 2 (f := .glo "fraction") rfl)
  have g_is_fraction := He.glo_ok X G (c.fact 3 (f := .glo "is_fraction") rfl)
  have g_whole_of := He.glo_ok X G (c.fact 4 (f := .glo "whole_of") rfl)
  have g_plus := He.glo_ok X G (c.fact 5 (f := .glo "plus") rfl)
  have g_turned := He.glo_ok X G (c.fact 6 (f := .glo "turned") rfl)
  have g_less := He.glo_ok X G (c.fact 7 (f := .glo "less") rfl)
  have g_times := He.glo_ok X G (c.fact 8 (f := .glo "times") rfl)
  have g_over := He.glo_ok X G (c.fact 9 (f := .glo "over") rfl)
  have g_size_of := He.glo_ok X G (c.fact 10 (f := .glo "size_of") rfl)
  have g_is_less := He.glo_ok X G (c.fact 11 (f := .glo "is_less") rfl)
  have g_power := He.glo_ok X G (c.fact 12 (f := .glo "power") rfl)
  have g_is_enough := He.glo_ok X G (c.fact 13 (f := .glo "is_enough") rfl)
  have g_place_of := He.glo_ok X G (c.fact 14 (f := .glo "place_of") rfl)
  have g_step_of := He.glo_ok X G (c.fact 15 (f := .glo "step_of") rfl)
  have g_whole_by := He.glo_ok X G (c.fact 16 (f := .glo "whole_by") rfl)
  have g_rounded := He.glo_ok X G (c.fact 17 (f := .glo "rounded") rfl)
  have g_is_mark := He.glo_ok X G (c.fact 18 (f := .glo "is_mark") rfl)
  have g_off_of := He.glo_ok X G (c.fact 19 (f := .glo "off_of") rfl)
  have g__law_mixed := He.glo_ok X G (c.fact 20 (f := .glo "_law_mixed") rfl)
  have g__law_stream := He.glo_ok X G (c.fact 21 (f := .glo "_law_stream") rfl)
  have g__law_take := He.glo_ok X G (c.fact 22 (f := .glo "_law_take") rfl)
  have g__law_lowest := He.glo_ok X G (c.fact 23 (f := .glo "_law_lowest") rfl)
  have g__law_number_by := He.glo_ok X G (c.fact 24 (f := .glo "_law_number_by") rfl)
  have g__law_ruler_by := He.glo_ok X G (c.fact 25 (f := .glo "_law_ruler_by") rfl)
  have g__law_due := He.glo_ok X G (c.fact 26 (f := .glo "_law_due") rfl)
  have g__law_halfway := He.glo_ok X G (c.fact 27 (f := .glo "_law_halfway") rfl)
  have g__law_right := He.glo_ok X G (c.fact 28 (f := .glo "_law_right") rfl)
  have g_law := He.glo_ok X G (c.fact 29 (f := .glo "law") rfl)
  have T : Top K mg := ⟨He.free_ok X G (c.fact 30 (f := .free "abs") rfl), He.free_ok X G (c.fact 31 (f := .free "bool") rfl), He.free_ok X G (c.fact 32 (f := .free "enumerate") rfl), He.free_ok X G (c.fact 33 (f := .free "int") rfl), He.free_ok X G (c.fact 34 (f := .free "isinstance") rfl), He.free_ok X G (c.fact 35 (f := .free "len") rfl), He.free_ok X G (c.fact 36 (f := .free "range") rfl), He.free_ok X G (c.fact 37 (f := .free "tuple") rfl)⟩
  have e := hfa.symm.trans g_law
  cases e
  have b := FunD.bindsA (ps := ["_law_script"]) F_law fun _ _ _ _ _ _ us hl => match us, hl with | [_], _ => rfl
  refine ⟨fd_law, fun s v => b s [v] rfl, fun base _ _ => ?_⟩
  have D_is_whole : Df P w K mg base 1 "is_whole" ["thing"] m_is_whole := ok_is_whole T  F_is_whole g_is_whole
  have D_shared : Df P w K mg base 1 "shared" ["one", "other"] m_shared := ok_shared T  F_shared g_shared
  have D_fraction : Df P w K mg base 2 "fraction" ["above", "below"] m_fraction := ok_fraction T D_shared F_fraction g_fraction
  have D_is_fraction : Df P w K mg base 2 "is_fraction" ["thing"] m_is_fraction := ok_is_fraction T D_is_whole D_shared F_is_fraction g_is_fraction
  have D_whole_of : Df P w K mg base 1 "whole_of" ["number"] m_whole_of := ok_whole_of T  F_whole_of g_whole_of
  have D_plus : Df P w K mg base 3 "plus" ["one", "other"] m_plus := ok_plus T D_fraction F_plus g_plus
  have D_turned : Df P w K mg base 1 "turned" ["one"] m_turned := ok_turned T  F_turned g_turned
  have D_less : Df P w K mg base 4 "less" ["one", "other"] m_less := ok_less T D_plus D_turned F_less g_less
  have D_times : Df P w K mg base 3 "times" ["one", "other"] m_times := ok_times T D_fraction F_times g_times
  have D_over : Df P w K mg base 3 "over" ["one", "other"] m_over := ok_over T D_fraction F_over g_over
  have D_size_of : Df P w K mg base 1 "size_of" ["one"] m_size_of := ok_size_of T  F_size_of g_size_of
  have D_is_less : Df P w K mg base 1 "is_less" ["one", "other"] m_is_less := ok_is_less T  F_is_less g_is_less
  have D_power : Df P w K mg base 1 "power" ["base", "exponent"] m_power := ok_power T  F_power g_power
  have D_is_enough : Df P w K mg base 2 "is_enough" ["ruler", "size", "place"] m_is_enough := ok_is_enough T D_is_less D_power F_is_enough g_is_enough
  have D_place_of : Df P w K mg base 3 "place_of" ["ruler", "number"] m_place_of := ok_place_of T D_size_of D_is_enough F_place_of g_place_of
  have D_step_of : Df P w K mg base 4 "step_of" ["ruler", "number"] m_step_of := ok_step_of T D_power D_place_of F_step_of g_step_of
  have D_whole_by : Df P w K mg base 1 "whole_by" ["way", "above", "below"] m_whole_by := ok_whole_by T  F_whole_by g_whole_by
  have D_rounded : Df P w K mg base 5 "rounded" ["ruler", "number"] m_rounded := ok_rounded T D_step_of D_over D_times D_whole_of D_whole_by F_rounded g_rounded
  have D_is_mark : Df P w K mg base 6 "is_mark" ["ruler", "thing"] m_is_mark := ok_is_mark T D_is_fraction D_rounded F_is_mark g_is_mark
  have D_off_of : Df P w K mg base 6 "off_of" ["ruler", "number"] m_off_of := ok_off_of T D_size_of D_less D_rounded F_off_of g_off_of
  have D__law_mixed : Df P w K mg base 1 "_law_mixed" ["_law_number", "_law_k"] m__law_mixed := ok__law_mixed T  F__law_mixed g__law_mixed
  have D__law_stream : Df P w K mg base 2 "_law_stream" ["_law_cell", "_law_k"] m__law_stream := ok__law_stream T D__law_mixed F__law_stream g__law_stream
  have D__law_take : Df P w K mg base 2 "_law_take" ["_law_stream_here", "_law_many"] m__law_take := ok__law_take T D__law_mixed F__law_take g__law_take
  have D__law_lowest : Df P w K mg base 1 "_law_lowest" ["_law_above", "_law_below"] m__law_lowest := ok__law_lowest T  F__law_lowest g__law_lowest
  have D__law_number_by : Df P w K mg base 3 "_law_number_by" ["_law_stream_here"] m__law_number_by := ok__law_number_by T D__law_take D__law_lowest F__law_number_by g__law_number_by
  have D__law_ruler_by : Df P w K mg base 3 "_law_ruler_by" ["_law_stream_here"] m__law_ruler_by := ok__law_ruler_by T D__law_take F__law_ruler_by g__law_ruler_by
  have D__law_due : Df P w K mg base 2 "_law_due" ["_law_way", "_law_one", "_law_step"] m__law_due := ok__law_due T D__law_lowest F__law_due g__law_due
  have D__law_halfway : Df P w K mg base 5 "_law_halfway" ["_law_stream_here", "_law_ruler", "_law_one"] m__law_halfway := ok__law_halfway T D_step_of D__law_take D__law_lowest F__law_halfway g__law_halfway
  have D__law_right : Df P w K mg base 7 "_law_right" ["_law_ruler", "_law_one"] m__law_right := ok__law_right T D__law_due D_step_of D_rounded D__law_lowest D_off_of D_is_mark F__law_right g__law_right
  exact ok_law T D__law_stream D__law_ruler_by D__law_number_by D__law_halfway D__law_right F_law
end Lw
open PySem PySem.W PySem.Calls PyProof.Rows
theorem PySem.Challenge.cw_roundsure_k06_rounded_holds : PySem.Challenge.rw_roundsure_k06_rounded.Holds := by
  w_on; o_law
  refine HandSHeadRun.head_any (r := OpenLaw.row PySem.Challenge.rw_roundsure_k06_rounded) (q := view (OpenLaw.row PySem.Challenge.rw_roundsure_k06_rounded).prog [32]) (H := Lw.hk) (ob := Lw.ob) (M := 4000) (loose := Lw.loose) (d := HandSHeadRun.topDef (OpenLaw.row PySem.Challenge.rw_roundsure_k06_rounded).prog 32) (kwd := []) Lw.ob_eq
    (by kernel_rfl) (fun s => by kernel_rfl) Lw.run (by kernel_rfl) (by kernel_rfl) (by kernel_rfl) (by rfl) (by first | assumption | decide +kernel) (by decide +kernel) ⟨rfl, rfl, rfl, rfl, rfl, by decide +kernel⟩ ?hw ?hc
  case hw => w_witness2
  case hc =>
    refine L2.walk_ofE (l := PySem.Challenge.rw_roundsure_k06_rounded) (n := 63) (k := 8) (x := "_law_script") (CX := L2.CX0) rfl (by decide) (by kernel_rfl) ⟨rfl, by decide, by decide⟩ ?F (fun _ _ _ _ z => z)
    intro w mg fa h Y G hmg0
    obtain ⟨K, KX, c⟩ := Y
    have hmg : mg ("law" : PySem.Str) = some (.ref fa) := by
      have e : (HandSHeadRun.topDef (OpenLaw.row PySem.Challenge.rw_roundsure_k06_rounded).prog 32).name = ("law" : PySem.Str) := by kernel_rfl
      rw [← e]
      exact hmg0
    obtain ⟨fd, hb, hF⟩ := Lw.facts (P := (PySem.Challenge.rw_roundsure_k06_rounded).prog) (w := w) KX G hmg c
    exact ⟨K, fd, fun vs H Q _ => Rk.spF K mg Lw.m_law vs H Q fun _ _ _ => False, KX, hb, fun H a ns hl _ hS => Rk.law_sp hS (Lw.law_true ns hl), hF⟩
#print axioms PySem.Challenge.cw_roundsure_k06_rounded_holds
