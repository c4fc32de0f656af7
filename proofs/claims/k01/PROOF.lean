import PyProof.Rows.All
import Wide.All
import OpenK.AllK
import Wide.FinOn
import HandS.ForMost
import HandS.ForExc
import HandS.CallSlots
import HandS.IsInst
import HandS.EndBits
import HandS.StrMore
import HandS.TupAny
import KE.KExcSuper
import HandS.ExcInit
import HandS.Nested
import KE.RegKSuper
import PySem.Challenge.RW_kilnyard_k01_key_of_a_text
set_option Elab.async false
set_option linter.all false
set_option maxRecDepth 100000
set_option maxHeartbeats 1000000
/-! The data level: plain data, its monad, how it stands for the layer's abstract heap. -/
namespace Dl
open PySem PySem.Spec PyProof.Rows L2
noncomputable section

/-! ### data -/
/-- a key: an int or a text's codes -/
abbrev Ky := Sum Int (List Nat)
def sT (l : List Nat) : Str := ⟨l.toArray⟩
def kT : Ky → Key
  | .inl i => .inl i
  | .inr l => .inr (sT l)
inductive D where
  | non | bl (b : Bool) | int (i : Int) | str (s : List Nat)
  | tup (xs : List D) | lst (xs : List D) | dct (kvs : List (Ky × D))
  | obj (k : Nat)
/-- what a mutable list or dict holds -/
inductive C where
  | lst (xs : List D) | dct (kvs : List (Ky × D))
/-- what a name or a field holds -/
inductive B where
  | dat (d : D) | cel (c : C)
abbrev En := List (Option B)
/-- what the store holds: an object, or a list or dict that several hold -/
inductive Sc where
  | ob (cls : Str) (fs : List (Str × D)) | cel (c : C)
  | exn (cls : Str) (fs : List (Str × D)) | dead
abbrev So := List Sc
structure Xc where
  cls : Str
  fs : List (Str × D)
inductive Re (A : Type) where
  | ok (a : A) (en : En) (so : So)
  | exc (x : Xc) (en : En) (so : So)
  | no
abbrev M (A : Type) : Type := En → So → Re A
def C.toD : C → D
  | .lst xs => .lst xs
  | .dct kvs => .dct kvs
def B.toD : B → D
  | .dat d => d
  | .cel c => c.toD
section
variable {A A' : Type}
def pu (a : A) : M A := fun en so => .ok a en so
def bd (m : M A) (k : A → M A') : M A' := fun en so => match m en so with
  | .ok a en so => k a en so
  | .exc x en so => .exc x en so
  | .no => .no
def no : M A := fun _ _ => .no
/-- m where c holds -/
def gd (c : Prop) [Decidable c] (m : M A) : M A := fun en so => @ite _ c (Classical.propDecidable c) (m en so) .no
end

/-- a module's names; the exception that is being handled -/
structure Ev where
  mg : Str → Option Value
  hx : Option Addr
def hxOf : Option Value → Option Addr
  | some (.ref a) => some a
  | _ => none
abbrev _root_.L2.Cx.ev (X : L2.Cx) : Ev := ⟨X.mg, hxOf X.A.handled⟩

/-! ### how data stands in a heap -/
mutual
inductive Rep (K : PySem.W.Frag) (F : Hp) (rho : List (Addr × Addr)) : V → D → Prop
  | non : Rep K F rho .non .non
  | bl (b : Bool) : Rep K F rho (.bl b) (.bl b)
  | int (i : Int) : Rep K F rho (.int i) (.int i)
  | str (s : List Nat) : Rep K F rho (.str (sT s)) (.str s)
  | tup {a : Addr} {vs : List V} {ds : List D} : SqT K F a vs → Reps K F rho vs ds → Rep K F rho (.ref a) (.tup ds)
  | lst {a : Addr} {vs : List V} {ds : List D} : SqL K F a vs → Reps K F rho vs ds → Rep K F rho (.ref a) (.lst ds)
  | dct {a : Addr} {kvs : List (Key × V)} {kds : List (Ky × D)} : Rd F a (.dK kvs) → RepK K F rho kvs kds → Rep K F rho (.ref a) (.dct kds)
  | obj {k : Nat} {a dx : Addr} : rho[k]? = some (a, dx) → Rep K F rho (.ref a) (.obj k)
inductive Reps (K : PySem.W.Frag) (F : Hp) (rho : List (Addr × Addr)) : List V → List D → Prop
  | nil : Reps K F rho [] []
  | cons {v : V} {d : D} {vs : List V} {ds : List D} : Rep K F rho v d → Reps K F rho vs ds → Reps K F rho (v :: vs) (d :: ds)
inductive RepK (K : PySem.W.Frag) (F : Hp) (rho : List (Addr × Addr)) : List (Key × V) → List (Ky × D) → Prop
  | nil : RepK K F rho [] []
  | cons {k : Ky} {v : V} {d : D} {vs : List (Key × V)} {ds : List (Ky × D)} : Rep K F rho v d → RepK K F rho vs ds → RepK K F rho ((kT k, v) :: vs) ((k, d) :: ds)
end
theorem same_rd {F F' : Hp} (e : Same F F') {a : Addr} {u : HO} (h : Rd F a u) : Rd F' a u := by
  rcases h with h | ⟨o, h⟩
  · exact .inl (e _ _ h)
  · exact .inr ⟨o, e _ _ h⟩
theorem same_seqT {K : PySem.W.Frag} {F F' : Hp} (e : Same F F') {a : Addr} {xs : List V} (h : SqT K F a xs) : SqT K F' a xs := by
  rcases h with h | h
  · exact .inl (same_rd e h)
  · exact .inr h
def Pre {A : Type} (l l' : List A) : Prop := ∀ (k : Nat) (x : A), l[k]? = some x → l'[k]? = some x
section
variable {K : PySem.W.Frag} {F F' : Hp} {rho rho' : List (Addr × Addr)} (e : Same F F') (p : Pre rho rho')
include e p
mutual
theorem Rep.mono : ∀ {v : V} {d : D}, Rep K F rho v d → Rep K F' rho' v d
  | _, _, .non => .non
  | _, _, .bl b => .bl b
  | _, _, .int i => .int i
  | _, _, .str s => .str s
  | _, _, .tup h r => .tup (same_seqT e h) (Reps.mono r)
  | _, _, .lst h r => .lst (Same.seq e h) (Reps.mono r)
  | _, _, .dct h r => .dct (same_rd e h) (RepK.mono r)
  | _, _, .obj h => .obj (p _ _ h)
theorem Reps.mono : ∀ {vs : List V} {ds : List D}, Reps K F rho vs ds → Reps K F' rho' vs ds
  | _, _, .nil => .nil
  | _, _, .cons h r => .cons (Rep.mono h) (Reps.mono r)
theorem RepK.mono : ∀ {vs : List (Key × V)} {ds : List (Ky × D)}, RepK K F rho vs ds → RepK K F' rho' vs ds
  | _, _, .nil => .nil
  | _, _, .cons h r => .cons (Rep.mono h) (RepK.mono r)
end
end

/-! ### the ghost: what is frozen, who owns an address, where the objects stand, what is to stay -/
inductive Tag where
  | frz | slot (i : Nat) | ob (k : Nat) | dc (k : Nat) | rest | tmp | un
  deriving DecidableEq
structure Gh where
  F : Hp
  own : Addr → Tag
  rho : List (Addr × Addr)
  R : Hp
structure Gh.le (G G' : Gh) : Prop where
  F : Same G.F G'.F
  rho : Pre G.rho G'.rho
  R : G'.R = G.R
theorem Gh.le.refl (G : Gh) : G.le G := ⟨Same.refl _, fun _ _ h => h, rfl⟩
theorem Gh.le.trans {G1 G2 G3 : Gh} (a : G1.le G2) (b : G2.le G3) : G1.le G3 := ⟨a.F.trans b.F, fun k x h => b.rho k x (a.rho k x h), b.R.trans a.R⟩
section
variable (K : PySem.W.Frag) (mg : Ev)
/-- a cell's content at a -/
def CR (G : Gh) (H : Hp) (a : Addr) : C → Prop
  | .lst ds => ∃ vs, H a = some (.lst vs) ∧ Reps K G.F G.rho vs ds
  | .dct kds => ∃ kvs, H a = some (.dK kvs) ∧ RepK K G.F G.rho kvs kds
def RB (G : Gh) (H : Hp) (t : Tag) (v : V) : B → Prop
  | .dat d => Rep K G.F G.rho v d
  | .cel c => ∃ a, v = .ref a ∧ G.own a = t ∧ CR K G H a c
/-- the fields of an object -/
inductive RF (G : Gh) : List (Str × V) → List (Str × D) → Prop
  | nil : RF G [] []
  | cons {f : Str} {v : V} {d : D} {fs : List (Str × V)} {bs : List (Str × D)} : Rep K G.F G.rho v d → RF G fs bs → RF G ((f, v) :: fs) ((f, d) :: bs)
def ObR (G : Gh) (H : Hp) (k : Nat) (a dx : Addr) : Sc → Prop
  | .ob cls fs => G.own a = .ob k ∧ G.own dx = .dc k ∧ (∃ Cl vs, mg.mg cls = some (.ref Cl) ∧ H a = some (.ins Cl dx vs) ∧ RF K G vs fs) ∧ H dx = some (.own a)
  | .cel c => G.own a = .ob k ∧ CR K G H a c
  | .exn cls fs => mg.hx = some a ∧ ∃ Ca, mg.mg cls = some (.ref Ca) ∧ (fs = [] ∨ G.own dx = .dc k ∧ ∃ vs, H dx = some (.xd vs) ∧ RF K G vs fs)
  | .dead => True
/-- all but the frame -/
structure SimO (G : Gh) (so : So) (H : Hp) : Prop where
  fr : ∀ a o, G.F a = some o → H a = some o ∧ G.own a = .frz
  re : ∀ a o, G.R a = some o → H a = some o ∧ G.own a = .rest
  len : so.length = G.rho.length
  ob : ∀ k o a dx, so[k]? = some o → G.rho[k]? = some (a, dx) → ObR K mg G H k a dx o
structure Sim (G : Gh) (en : En) (so : So) (σ : L2.St) (H : Hp) : Prop extends SimO K mg G so H where
  ln : en.length = σ.length
  sl : ∀ (i : Nat) (b : B), en[i]? = some (some b) → ∃ v, σ[i]? = some (some v) ∧ RB K G H (.slot i) v b
/-- an exception -/
def XR (G : Gh) (H : Hp) (x : Xc) (Cl : Value) (d : Option Addr) : Prop :=
  ∃ Ca, Cl = .ref Ca ∧ mg.mg x.cls = some (.ref Ca) ∧ ((d = none ∧ x.fs = []) ∨ ∃ da fs, d = some da ∧ H da = some (.xd fs) ∧ Paired (fun (p : Str × V) (q : Str × D) => p.1 = q.1 ∧ Rep K G.F G.rho p.2 q.2) fs x.fs)
/-- the reading of a step of the data level: Rl: how its result stands -/
def Post {A A' : Type} (G : Gh) (W : WX) (Rl : Gh → Hp → A' → A → Prop) (σ : L2.St) (r : Re A) (Q : A' → Hp → Prop) : Prop := match r with
  | .ok a en so => ∀ v H' G', G.le G' → Sim K mg G' en so σ H' → Rl G' H' v a → Q v H'
  | .exc x en so => ∀ Cl d H' G', G.le G' → Sim K mg G' en so σ H' → XR K mg G' H' x Cl d → W Cl d σ H'
  | .no => False
def tM {A A' : Type} (W : WX) (Rl : Gh → Hp → A' → A → Prop) (m : M A) : L2.St → Hp → (A' → Hp → Prop) → Prop := fun σ H Q => ∃ G en so, Sim K mg G en so σ H ∧ Post K mg G W Rl σ (m en so) Q
abbrev rlD : Gh → Hp → V → D → Prop := fun G _ v d => Rep K G.F G.rho v d
abbrev rlDs : Gh → Hp → List V → List D → Prop := fun G _ v d => Reps K G.F G.rho v d
abbrev rlB : Gh → Hp → V → B → Prop := fun G H v b => RB K G H .tmp v b
abbrev rlT : Gh → Hp → Bool → Bool → Prop := fun _ _ b c => b = c
/-- how a block or statement ends -/
inductive Fl where
  | nx | rt (b : B) | bk | ct
def SPost (G : Gh) (W : WX) (r : Re Fl) (E : Ends) : Prop := match r with
  | .ok .nx en so => ∀ σ' H' G', G.le G' → Sim K mg G' en so σ' H' → E.nx σ' H'
  | .ok .bk en so => ∀ σ' H' G', G.le G' → Sim K mg G' en so σ' H' → E.bk σ' H'
  | .ok .ct en so => ∀ σ' H' G', G.le G' → Sim K mg G' en so σ' H' → E.ct σ' H'
  | .ok (.rt b) en so => ∀ v σ' H' G', G.le G' → Sim K mg G' en so σ' H' → RB K G' H' .tmp v b → E.rt v H'
  | .exc x en so => ∀ Cl d σ' H' G', G.le G' → Sim K mg G' en so σ' H' → XR K mg G' H' x Cl d → W Cl d σ' H'
  | .no => False
def tS (W : WX) (m : M Fl) : TS := fun E σ H => ∃ G en so, Sim K mg G en so σ H ∧ SPost K mg G W (m en so) E
end
section
variable {K : PySem.W.Frag} {mg : Ev} {A1 A2 A' A'' : Type}
theorem Post.mono {G G1 : Gh} {W : WX} {Rl : Gh → Hp → A' → A1 → Prop} {σ : L2.St} {r : Re A1} {Q : A' → Hp → Prop} (l : G.le G1) (h : Post K mg G W Rl σ r Q) : Post K mg G1 W Rl σ r Q := by
  cases r with
  | ok a en so => exact fun v H' G' l' => h v H' G' (l.trans l')
  | exc x en so => exact fun Cl d H' G' l' => h Cl d H' G' (l.trans l')
  | no => exact h
theorem SPost.mono {G G1 : Gh} {W : WX} {r : Re Fl} {E : Ends} (l : G.le G1) (h : SPost K mg G W r E) : SPost K mg G1 W r E := by
  cases r with
  | ok a en so => cases a with
    | nx => exact fun σ' H' G' l' => h σ' H' G' (l.trans l')
    | bk => exact fun σ' H' G' l' => h σ' H' G' (l.trans l')
    | ct => exact fun σ' H' G' l' => h σ' H' G' (l.trans l')
    | rt b => exact fun v σ' H' G' l' => h v σ' H' G' (l.trans l')
  | exc x en so => exact fun Cl d σ' H' G' l' => h Cl d σ' H' G' (l.trans l')
  | no => exact h
theorem Post.imp {G : Gh} {W : WX} {Rl : Gh → Hp → A' → A1 → Prop} {σ : L2.St} {r : Re A1} {Q Q' : A' → Hp → Prop} (h : Post K mg G W Rl σ r Q) (f : ∀ v H, Q v H → Q' v H) : Post K mg G W Rl σ r Q' := by
  cases r with
  | ok a en so => exact fun v H' G' l s r => f v H' (h v H' G' l s r)
  | exc x en so => exact h
  | no => exact h
/-- one step, then what follows -/
theorem Post.bind {G : Gh} {W : WX} {R1 : Gh → Hp → A' → A1 → Prop} {R2 : Gh → Hp → A'' → A2 → Prop} {m : M A1} {k : A1 → M A2} {en : En} {so : So} {σ : L2.St} {Q : A'' → Hp → Prop} (p : Post K mg G W R2 σ (bd m k en so) Q) :
    Post K mg G W R1 σ (m en so) fun v H1 => ∃ G1 en1 so1 a, G.le G1 ∧ R1 G1 H1 v a ∧ Sim K mg G1 en1 so1 σ H1 ∧ Post K mg G1 W R2 σ (k a en1 so1) Q := by
  unfold bd at p
  unfold Post
  cases e : m en so with
  | ok a en1 so1 =>
    rw [e] at p
    exact fun v H' G' l s' r => ⟨G', en1, so1, a, l, r, s', p.mono l⟩
  | exc x en1 so1 =>
    rw [e] at p
    exact p
  | no =>
    rw [e] at p
    exact p
/-- .. where the follower is a statement's -/
theorem SPost.bind {G : Gh} {W : WX} {R1 : Gh → Hp → A' → A1 → Prop} {m : M A1} {k : A1 → M Fl} {en : En} {so : So} {σ : L2.St} {E : Ends} (p : SPost K mg G W (bd m k en so) E) :
    Post K mg G W R1 σ (m en so) fun v H1 => ∃ G1 en1 so1 a, G.le G1 ∧ R1 G1 H1 v a ∧ Sim K mg G1 en1 so1 σ H1 ∧ SPost K mg G1 W (k a en1 so1) E := by
  unfold bd at p
  unfold Post
  cases e : m en so with
  | ok a en1 so1 =>
    rw [e] at p
    exact fun v H' G' l s' r => ⟨G', en1, so1, a, l, r, s', p.mono l⟩
  | exc x en1 so1 =>
    rw [e] at p
    exact fun Cl d H' G' l s' x' => p Cl d σ H' G' l s' x'
  | no =>
    rw [e] at p
    exact p
theorem Post.ok {G : Gh} {W : WX} {Rl : Gh → Hp → A' → A1 → Prop} {σ : L2.St} {en : En} {so : So} {H : Hp} {Q : A' → Hp → Prop} {a : A1} {v : A'} (h : Post K mg G W Rl σ (.ok a en so) Q) (s : Sim K mg G en so σ H) (r : Rl G H v a) : Q v H := h v H G (.refl G) s r
theorem Post.ok' {G G' : Gh} {W : WX} {Rl : Gh → Hp → A' → A1 → Prop} {σ : L2.St} {en : En} {so : So} {H' : Hp} {Q : A' → Hp → Prop} {a : A1} {v : A'} (h : Post K mg G W Rl σ (.ok a en so) Q) (l : G.le G') (s : Sim K mg G' en so σ H') (r : Rl G' H' v a) : Q v H' := h v H' G' l s r
theorem Post.gd {G : Gh} {W : WX} {Rl : Gh → Hp → A' → A1 → Prop} {σ : L2.St} {c : Prop} [Decidable c] {m : M A1} {en : En} {so : So} {Q : A' → Hp → Prop} (h : Post K mg G W Rl σ (gd c m en so) Q) : c ∧ Post K mg G W Rl σ (m en so) Q := by
  unfold Dl.gd at h
  by_cases hc : c
  · rw [if_pos hc] at h; exact ⟨hc, h⟩
  · rw [if_neg hc] at h; exact False.elim h
theorem Rep.up {G G' : Gh} {v : V} {d : D} (r : Rep K G.F G.rho v d) (l : G.le G') : Rep K G'.F G'.rho v d := r.mono l.F l.rho
theorem Reps.up {G G' : Gh} {v : List V} {d : List D} (r : Reps K G.F G.rho v d) (l : G.le G') : Reps K G'.F G'.rho v d := r.mono l.F l.rho
end

/-! ### the judgements -/
structure DE (X : Cx) (W : WX) (e : Expr) (m : M D) : Prop where
  pe : PE X e (tM X.K X.ev W (rlD X.K) m)
structure DB (X : Cx) (W : WX) (e : Expr) (m : M B) : Prop where
  pe : PE X e (tM X.K X.ev W (rlB X.K) m)
structure DT (X : Cx) (W : WX) (e : Expr) (m : M Bool) : Prop where
  pt : PT X e (tM X.K X.ev W rlT m)
structure DW (X : Cx) (W : WX) (e : Expr) (m : M Bool) : Prop where
  pw : PW X e (tM X.K X.ev W rlT m)
structure DA (X : Cx) (W : WX) (es : List Expr) (m : M (List D)) : Prop where
  pa : PA X es (tM X.K X.ev W (rlDs X.K) m)
structure DS (X : Cx) (W : WX) (st : Stmt) (m : M Fl) : Prop where
  ps : PS X st (tS X.K X.ev W m)
structure DSs (X : Cx) (W : WX) (st : List Stmt) (m : M Fl) : Prop where
  ps : PSs X st (tS X.K X.ev W m)
section
variable {X : Cx}
theorem PE_imp {e : Expr} {t t' : TE} (h : PE X e t) (f : ∀ σ H Q, t' σ H Q → t σ H Q) : PE X e t' := ⟨fun pins s σ H Q I q => h.run pins s σ H Q I (f σ H Q q)⟩
theorem PT_imp {e : Expr} {t t' : TT} (h : PT X e t) (f : ∀ σ H Q, t' σ H Q → t σ H Q) : PT X e t' := ⟨fun pins s σ H Q I q => h.run pins s σ H Q I (f σ H Q q)⟩
theorem PW_imp {e : Expr} {t t' : TT} (h : PW X e t) (f : ∀ σ H Q, t' σ H Q → t σ H Q) : PW X e t' := ⟨fun wh pins s σ H Q I q => h.run wh pins s σ H Q I (f σ H Q q)⟩
theorem PA_imp {es : List Expr} {t t' : TA} (h : PA X es t) (f : ∀ σ H Q, t' σ H Q → t σ H Q) : PA X es t' := ⟨fun pos pins s σ H Q I q => h.run pos pins s σ H Q I (f σ H Q q)⟩
theorem PS_imp {st : Stmt} {t t' : TS} (h : PS X st t) (f : ∀ E σ H, t' E σ H → t E σ H) : PS X st t' := ⟨fun pins s σ H E I q => h.run pins s σ H E I (f E σ H q)⟩
theorem PSs_imp {st : List Stmt} {t t' : TS} (h : PSs X st t) (f : ∀ E σ H, t' E σ H → t E σ H) : PSs X st t' := ⟨fun pins s σ H E I q => h.run pins s σ H E I (f E σ H q)⟩
end
end
end Dl

set_option Elab.async false
set_option linter.all false
set_option maxRecDepth 100000
set_option maxHeartbeats 1000000
/-! The data level: how the ghost changes; names, constants, operators, tests. -/
namespace Dl
open PySem PySem.Spec PyProof.Rows L2
noncomputable section
section
variable {K : PySem.W.Frag} {mg : Ev} {G G' : Gh} {H H' : Hp} {en : En} {so : So} {σ : L2.St}
theorem CR.keep {a : Addr} {c : C} (F : Same G.F G'.F) (rho : Pre G.rho G'.rho) (h : CR K G H a c) (k : ∀ o, H a = some o → H' a = some o) : CR K G' H' a c := by
  cases c with
  | lst ds => obtain ⟨vs, e, r⟩ := h; exact ⟨vs, k _ e, r.mono F rho⟩
  | dct kds => obtain ⟨vs, e, r⟩ := h; exact ⟨vs, k _ e, r.mono F rho⟩
theorem CR.at {a : Addr} {c : C} (h : CR K G H a c) : ∃ o, H a = some o := by
  cases c with
  | lst ds => obtain ⟨vs, e, r⟩ := h; exact ⟨_, e⟩
  | dct kds => obtain ⟨vs, e, r⟩ := h; exact ⟨_, e⟩
theorem RB.keep {t : Tag} {v : V} {b : B} (F : Same G.F G'.F) (rho : Pre G.rho G'.rho) (h : RB K G H t v b) (k : ∀ a o, H a = some o → G.own a = t → H' a = some o ∧ G'.own a = t) : RB K G' H' t v b := by
  cases b with
  | dat d => exact Rep.mono F rho h
  | cel c =>
    obtain ⟨a, e, o, r⟩ := h
    obtain ⟨u, hu⟩ := r.at
    exact ⟨a, e, (k a u hu o).2, r.keep F rho fun x hx => (k a x hx o).1⟩
theorem RF.mono {fs : List (Str × V)} {bs : List (Str × D)} (F : Same G.F G'.F) (rho : Pre G.rho G'.rho) (h : RF K G fs bs) : RF K G' fs bs := by
  induction h with
  | nil => exact .nil
  | cons r _ ih => exact .cons (r.mono F rho) ih
theorem ObR.keep {k : Nat} {a dx : Addr} {o : Sc} (h : ObR K mg G H k a dx o) (F : Same G.F G'.F) (rho : Pre G.rho G'.rho) (kp : ∀ b u, H b = some u → (G.own b = .ob k ∨ G.own b = .dc k) → H' b = some u ∧ G'.own b = G.own b) : ObR K mg G' H' k a dx o := by
  cases o with
  | ob cls fs =>
    obtain ⟨oa, od, ⟨Cl, vs, c1, c2, c3⟩, d⟩ := h
    obtain ⟨k1, k2⟩ := kp a _ c2 (.inl oa)
    obtain ⟨k3, k4⟩ := kp dx _ d (.inr od)
    exact ⟨k2.trans oa, k4.trans od, ⟨Cl, vs, c1, k1, c3.mono F rho⟩, k3⟩
  | cel c =>
    obtain ⟨oa, cr⟩ := h
    obtain ⟨u, hu⟩ := cr.at
    exact ⟨(kp a u hu (.inl oa)).2.trans oa, cr.keep F rho fun o e => (kp a o e (.inl oa)).1⟩
  | exn cls fs =>
    obtain ⟨h1, Ca, h2, h3⟩ := h
    refine ⟨h1, Ca, h2, ?_⟩
    rcases h3 with h3 | ⟨od, vs, d, rf⟩
    · exact .inl h3
    · obtain ⟨k3, k4⟩ := kp dx _ d (.inr od)
      exact .inr ⟨k4.trans od, vs, k3, rf.mono F rho⟩
  | dead => trivial
/-- what no change touches -/
theorem SimO.keep (s : SimO K mg G so H) (F : Same G.F G'.F) (er : G'.rho = G.rho) (eR : G'.R = G.R)
    (kp : ∀ a o, H a = some o → G.own a ≠ .tmp → (∀ i, G.own a ≠ .slot i) → H' a = some o ∧ G'.own a = G.own a)
    (nF : ∀ a o, G'.F a = some o → G.F a = some o ∨ (H' a = some o ∧ G'.own a = .frz)) : SimO K mg G' so H' := by
  have pr : Pre G.rho G'.rho := fun k x h => by rw [er]; exact h
  refine ⟨fun a o e => ?_, fun a o e => ?_, by rw [er]; exact s.len, fun k o a dx e1 e2 => ?_⟩
  · rcases nF a o e with e | e
    · obtain ⟨h1, h2⟩ := s.fr a o e
      obtain ⟨k1, k2⟩ := kp a o h1 (by rw [h2]; intro z; cases z) (by intro i; rw [h2]; intro z; cases z)
      exact ⟨k1, k2.trans h2⟩
    · exact e
  · rw [eR] at e
    obtain ⟨h1, h2⟩ := s.re a o e
    obtain ⟨k1, k2⟩ := kp a o h1 (by rw [h2]; intro z; cases z) (by intro i; rw [h2]; intro z; cases z)
    exact ⟨k1, k2.trans h2⟩
  · rw [er] at e2
    refine (s.ob k o a dx e1 e2).keep F pr fun b u h1 h2 => kp b u h1 ?_ ?_
    · rcases h2 with h2 | h2 <;> (rw [h2]; intro z; cases z)
    · intro i; rcases h2 with h2 | h2 <;> (rw [h2]; intro z; cases z)
theorem Sim.keep (s : Sim K mg G en so σ H) (F : Same G.F G'.F) (er : G'.rho = G.rho) (eR : G'.R = G.R)
    (kp : ∀ a o, H a = some o → G.own a ≠ .tmp → H' a = some o ∧ G'.own a = G.own a)
    (nF : ∀ a o, G'.F a = some o → G.F a = some o ∨ (H' a = some o ∧ G'.own a = .frz)) : Sim K mg G' en so σ H' := by
  refine ⟨s.toSimO.keep F er eR (fun a o e h1 _ => kp a o e h1) nF, s.ln, fun i b e => ?_⟩
  obtain ⟨v, e1, r⟩ := s.sl i b e
  refine ⟨v, e1, r.keep F (fun k x h => by rw [er]; exact h) fun a o h1 h2 => ?_⟩
  obtain ⟨k1, k2⟩ := kp a o h1 (by rw [h2]; intro z; cases z)
  exact ⟨k1, k2.trans h2⟩
def _root_.Dl.Gh.tag (G : Gh) (p : Addr) (t : Tag) : Gh := { G with own := fun b => if b = p then t else G.own b }
def _root_.Dl.Gh.frzn (G : Gh) (p : Addr) (o : HO) : Gh := { G with F := upd G.F p o, own := fun b => if b = p then .frz else G.own b }
theorem tag_le (p : Addr) (t : Tag) : G.le (G.tag p t) := ⟨Same.refl _, fun _ _ h => h, rfl⟩
theorem tag_own {p : Addr} {t : Tag} : (G.tag p t).own p = t := by show (if p = p then t else G.own p) = t; rw [if_pos rfl]
theorem tag_ne {p b : Addr} {t : Tag} (h : b ≠ p) : (G.tag p t).own b = G.own b := by show (if b = p then t else G.own b) = _; rw [if_neg h]
/-- a new thing, frozen at once -/
theorem Sim.newF {p : Addr} {o : HO} (s : Sim K mg G en so σ H) (hp : H p = none) : Sim K mg (G.frzn p o) en so σ (upd H p o) ∧ G.le (G.frzn p o) := by
  have nF : G.F p = none := by
    cases e : G.F p with
    | none => rfl
    | some u => rw [(s.fr p u e).1] at hp; cases hp
  have sF : Same G.F (upd G.F p o) := fun b u e => by rw [upd_ne (ne_of_none e nF)]; exact e
  refine ⟨s.keep sF rfl rfl (fun a u e _ => ?_) (fun a u e => ?_), sF, fun _ _ h => h, rfl⟩
  · have np := ne_of_none e hp
    exact ⟨by rw [upd_ne np]; exact e, if_neg np⟩
  · by_cases hb : a = p
    · subst hb
      have e' : upd G.F a o a = some u := e
      rw [upd_same] at e'
      cases e'
      exact .inr ⟨upd_same, if_pos rfl⟩
    · have e' : upd G.F p o a = some u := e
      rw [upd_ne hb] at e'
      exact .inl e'
/-- a new thing, somebody's -/
theorem Sim.newT {p : Addr} {o : HO} {t : Tag} (s : Sim K mg G en so σ H) (hp : H p = none) : Sim K mg (G.tag p t) en so σ (upd H p o) := by
  refine s.keep (Same.refl _) rfl rfl (fun a u e _ => ?_) (fun a u e => .inl e)
  have np := ne_of_none e hp
  exact ⟨by rw [upd_ne np]; exact e, if_neg np⟩
/-- what a result holds alone is frozen -/
theorem Sim.freeze {a : Addr} {o : HO} (s : Sim K mg G en so σ H) (w : G.own a = .tmp) (h : H a = some o) : Sim K mg (G.frzn a o) en so σ H ∧ G.le (G.frzn a o) := by
  have nF : G.F a = none := by
    cases e : G.F a with
    | none => rfl
    | some u =>
      have := (s.fr a u e).2
      rw [w] at this; cases this
  have sF : Same G.F (upd G.F a o) := fun b u e => by rw [upd_ne (ne_of_none e nF)]; exact e
  refine ⟨s.keep sF rfl rfl (fun b u e q => ?_) (fun b u e => ?_), sF, fun _ _ h => h, rfl⟩
  · have nb : b ≠ a := fun z => q (by rw [z]; exact w)
    exact ⟨e, if_neg nb⟩
  · by_cases hb : b = a
    · subst hb
      have e' : upd G.F b o b = some u := e
      rw [upd_same] at e'
      cases e'
      exact .inr ⟨h, if_pos rfl⟩
    · have e' : upd G.F a o b = some u := e
      rw [upd_ne hb] at e'
      exact .inl e'
theorem Rep.lstF {K : PySem.W.Frag} {F : Hp} {rho : List (Addr × Addr)} {a : Addr} {vs : List V} {ds : List D} (h : F a = some (.lst vs)) (r : Reps K F rho vs ds) : Rep K F rho (.ref a) (.lst ds) := .lst (SqL.of h) r
/-- a cell's content, frozen, is data -/
theorem Sim.toD {v : V} {b : B} (s : Sim K mg G en so σ H) (r : RB K G H .tmp v b) : ∃ G', G.le G' ∧ Sim K mg G' en so σ H ∧ Rep K G'.F G'.rho v b.toD := by
  cases b with
  | dat d => exact ⟨G, .refl G, s, r⟩
  | cel c =>
    obtain ⟨a, rfl, w, cr⟩ := r
    cases c with
    | lst ds =>
      obtain ⟨vs, e, r⟩ := cr
      obtain ⟨s', l⟩ := s.freeze w e
      exact ⟨_, l, s', .lst (SqL.of (show (upd G.F a (.lst vs)) a = _ from upd_same)) (r.mono l.F l.rho)⟩
    | dct kds =>
      obtain ⟨vs, e, r⟩ := cr
      obtain ⟨s', l⟩ := s.freeze w e
      exact ⟨_, l, s', .dct (.inl (show (upd G.F a (.dK vs)) a = _ from upd_same)) (r.mono l.F l.rho)⟩
end

/-! ### names, constants -/
def mV (i : Nat) : M D := fun en so => match en[i]? with
  | some (some (.dat d)) => .ok d en so
  | _ => .no
section
variable {X : Cx} {W : WX}
theorem d_var (i : Nat) {x : Str} {pos : Pos} (hN : X.N[i]? = some x := by rfl) (hv : Vis X.env.scope x := by first | exact Or.inl rfl | exact Or.inr (Or.inl rfl) | exact Or.inr (Or.inr rfl)) (hd : (x == ("__debug__" : Str)) = false := by decide)
    (hcd : (x == ("__classdict__" : Str)) = false := by decide) : DE X W (.Name x pos) (mV i) := by
  refine ⟨PE_imp (pe_var hN hv hd hcd) fun σ H Q h => ?_⟩
  obtain ⟨G, en, so, s, p⟩ := h
  unfold mV at p
  split at p
  · rename_i d e
    obtain ⟨v, e1, r⟩ := s.sl i _ e
    exact ⟨v, e1, p.ok s r⟩
  · exact p.elim
theorem d_c {e : Expr} {v : V} {d : D} (h : PE X e (tC v)) (r : ∀ F rho, Rep X.K F rho v d) : DE X W e (pu d) :=
  ⟨PE_imp h fun σ H Q ⟨G, en, so, s, p⟩ => Post.ok (v := v) p s (r _ _)⟩
theorem d_int {i j pos} : DE X W (.Constant (.int i) j pos) (pu (.int i)) := d_c pe_int fun _ _ => .int i
theorem d_bl {b j pos} : DE X W (.Constant (.bool b) j pos) (pu (.bl b)) := d_c pe_bl fun _ _ => .bl b
theorem d_non {j pos} : DE X W (.Constant .none j pos) (pu .non) := d_c pe_non fun _ _ => .non
theorem sT_tl (x : Str) : sT x.cps.toList = x := TL.mk_tl x
theorem tl_sT (l : List Nat) : (sT l).cps.toList = l := TL.tl_mk l
theorem Rep.of_str {K : PySem.W.Frag} {F : Hp} {rho : List (Addr × Addr)} (x : Str) {l : List Nat} (e : x.cps.toList = l) : Rep K F rho (.str x) (.str l) := by
  subst e
  have := Rep.str (K := K) (F := F) (rho := rho) x.cps.toList
  rwa [sT_tl] at this
theorem d_str {x j pos} {l : List Nat} (e : x.cps.toList = l := by rfl) : DE X W (.Constant (.str x) j pos) (pu (.str l)) := d_c pe_str fun _ _ => .of_str x e
/-- a constant of the module -/
theorem d_gi {x : Str} {i : Int} {pos : Pos} (hg : Gl X x) (hm : ∃ t, X.mg x = some (.int i t)) (hd : (x == ("__debug__" : Str)) = false := by decide) : DE X W (.Name x pos) (pu (.int i)) := by
  obtain ⟨t, hm⟩ := hm
  exact d_c (pe_glob hg hm (v := .int i) ⟨t, rfl⟩ hd) fun _ _ => .int i
theorem d_gs {x : Str} {l : List Nat} {pos : Pos} (hg : Gl X x) (hm : ∃ z t, X.mg x = some (.str z t) ∧ z.cps.toList = l) (hd : (x == ("__debug__" : Str)) = false := by decide) : DE X W (.Name x pos) (pu (.str l)) := by
  obtain ⟨z, t, hm, e⟩ := hm
  exact d_c (pe_glob hg hm (v := .str z) ⟨t, rfl⟩ hd) fun _ _ => .of_str z e
end

/-! ### operators by values -/
/-- r's demands are met where f gives data -/
def Op2 (K : PySem.W.Frag) (mg : Ev) (r : R2) (f : D → D → M D) : Prop :=
  ∀ (x y : V) (d e : D) (G : Gh) (en : En) (so : So) (σ : L2.St) (H : Hp) (W : WX) (Q : VK), Rep K G.F G.rho x d → Rep K G.F G.rho y e → Sim K mg G en so σ H → Post K mg G W (rlD K) σ (f d e en so) Q → r x y H Q
def m2 (f : D → D → M D) (a b : M D) : M D := bd a fun d => bd b fun e => f d e
section
variable {X : Cx} {W : WX} {a b c : Expr} {ma mb mc : M D} {pos : Pos}
/-- two expressions in a row -/
theorem two {f : D → D → M D} {r : R2} (h : Op2 X.K X.ev r f) {σ : L2.St} {H : Hp} {Q : VK} (q : tM X.K X.ev W (rlD X.K) (m2 f ma mb) σ H Q) :
    tOp r (tM X.K X.ev W (rlD X.K) ma) (tM X.K X.ev W (rlD X.K) mb) σ H Q := by
  obtain ⟨G, en, so, s, p⟩ := q
  exact ⟨G, en, so, s, (Post.bind (R1 := rlD X.K) p).imp fun v H1 ⟨G1, en1, so1, d, _, r1, s1, p1⟩ => ⟨G1, en1, so1, s1, (Post.bind (R1 := rlD X.K) p1).imp fun y H2 ⟨G2, en2, so2, e, l2, r2, s2, p2⟩ => h v y d e G2 en2 so2 σ H2 W Q (r1.up l2) r2 s2 p2⟩⟩
theorem d_op {op : Operator} {r : R2} {f : D → D → M D} (ho : OpR X (binaryOp op) r) (h : Op2 X.K X.ev r f) (ha : DE X W a ma) (hb : DE X W b mb) : DE X W (.BinOp a op b pos) (m2 f ma mb) :=
  ⟨PE_imp (pe_op ho ha.pe hb.pe) fun _ _ _ q => two h q⟩
theorem d_cmp {op : CmpOp} {r : R2} {f : D → D → M D} (ho : OpR X (compareOp op) r) (h : Op2 X.K X.ev r f) (ha : DE X W a ma) (hb : DE X W b mb) (hm : behindInMarks op b = false) : DE X W (.Compare a [op] [b] pos) (m2 f ma mb) :=
  ⟨PE_imp (pe_cmpR ho ha.pe hb.pe hm) fun _ _ _ q => two h q⟩
end
end
end Dl

set_option Elab.async false
set_option linter.all false
set_option maxRecDepth 100000
set_option maxHeartbeats 1000000
/-! The data level: operators, tests, calls of built-ins. -/
namespace Dl
open PySem PySem.Spec PyProof.Rows L2
noncomputable section

/-! ### whole numbers, texts -/
def addD : D → D → M D
  | .int a, .int b => pu (.int (a + b))
  | .str a, .str b => gd (a.length + b.length ≤ 16777216) (pu (.str (a ++ b)))
  | _, _ => no
def subD : D → D → M D
  | .int a, .int b => pu (.int (a - b))
  | _, _ => no
def mulD : D → D → M D
  | .int a, .int b => gd ((-(2 ^ 64) < a ∧ a < 2 ^ 64) ∨ (-(2 ^ 64) < b ∧ b < 2 ^ 64)) (pu (.int (a * b)))
  | _, _ => no
def divD : D → D → M D
  | .int a, .int b => gd (0 < b ∧ b < 1073741824) (pu (.int (a / b)))
  | _, _ => no
def modD : D → D → M D
  | .int a, .int b => gd (0 < b) (pu (.int (a % b)))
  | _, _ => no
def ltD : D → D → M D
  | .int a, .int b => pu (.bl (decide (a < b)))
  | _, _ => no
def leD : D → D → M D
  | .int a, .int b => pu (.bl (decide (a ≤ b)))
  | _, _ => no
def gtD : D → D → M D
  | .int a, .int b => pu (.bl (decide (b < a)))
  | _, _ => no
def geD : D → D → M D
  | .int a, .int b => pu (.bl (decide (b ≤ a)))
  | _, _ => no
theorem sT_app (a b : List Nat) : sT a ++ sT b = sT (a ++ b) := TL.ext_tl (by rw [TL.tl_append]; show _ = TL.tl (sT (a ++ b)); simp [TL.tl, sT])
theorem sT_len (a : List Nat) : (sT a).length = a.length := by show (sT a).cps.size = _; simp [sT]
theorem sT_inj {a b : List Nat} (h : sT a = sT b) : a = b := by
  have := congrArg (fun x : Str => x.cps.toList) h
  simpa [sT] using this
theorem sT_eq (a b : List Nat) : (sT a = sT b) ↔ a = b := ⟨sT_inj, fun h => by rw [h]⟩
section
variable {K : PySem.W.Frag} {mg : Ev}
theorem op2_add : Op2 K mg (fun x y H Q => rI0 (fun i j => .int (i + j)) x y H Q ∨ ∃ i j, x = .str i ∧ y = .str j ∧ i.length + j.length ≤ sizeLine ∧ Q (.str (i ++ j)) H) addD := by
  intro x y d e G en so σ H W Q rx ry s p
  cases d <;> cases e <;> try exact False.elim p
  · cases rx; cases ry
    exact .inl ⟨_, _, rfl, rfl, p.ok s (.int _)⟩
  · cases rx; cases ry
    rename_i a b
    obtain ⟨h, p⟩ := Post.gd (c := a.length + b.length ≤ 16777216) p
    refine .inr ⟨_, _, rfl, rfl, ?_, p.ok s (sT_app a b ▸ .str _)⟩
    rw [sT_len, sT_len, sizeLine_eq]; exact h
theorem op2_sub : Op2 K mg (rI0 fun i j => .int (i - j)) subD := by
  intro x y d e G en so σ H W Q rx ry s p
  cases d <;> cases e <;> try exact False.elim p
  cases rx; cases ry
  exact ⟨_, _, rfl, rfl, p.ok s (.int _)⟩
theorem op2_mul : Op2 K mg (rI CMul fun i j => .int (i * j)) mulD := by
  intro x y d e G en so σ H W Q rx ry s p
  cases d <;> cases e <;> try exact False.elim p
  cases rx; cases ry
  rename_i a b
  obtain ⟨h, p⟩ := Post.gd (c := (-(2 ^ 64) < a ∧ a < 2 ^ 64) ∨ (-(2 ^ 64) < b ∧ b < 2 ^ 64)) p
  exact ⟨_, _, rfl, rfl, h, p.ok s (.int _)⟩
theorem op2_div : Op2 K mg (rI CDiv fun i j => .int (i / j)) divD := by
  intro x y d e G en so σ H W Q rx ry s p
  cases d <;> cases e <;> try exact False.elim p
  cases rx; cases ry
  rename_i a b
  obtain ⟨h, p⟩ := Post.gd (c := 0 < b ∧ b < 1073741824) p
  exact ⟨_, _, rfl, rfl, h, p.ok s (.int _)⟩
theorem op2_mod : Op2 K mg (rI (fun _ j => 0 < j) fun i j => .int (i % j)) modD := by
  intro x y d e G en so σ H W Q rx ry s p
  cases d <;> cases e <;> try exact False.elim p
  cases rx; cases ry
  rename_i a b
  obtain ⟨h, p⟩ := Post.gd (c := 0 < b) p
  exact ⟨_, _, rfl, rfl, h, p.ok s (.int _)⟩
theorem op2_lt : Op2 K mg (rI0 fun i j => .bl (decide (i < j))) ltD := by
  intro x y d e G en so σ H W Q rx ry s p
  cases d <;> cases e <;> try exact False.elim p
  cases rx; cases ry
  exact ⟨_, _, rfl, rfl, p.ok s (.bl _)⟩
theorem op2_le : Op2 K mg (rI0 fun i j => .bl (decide (i ≤ j))) leD := by
  intro x y d e G en so σ H W Q rx ry s p
  cases d <;> cases e <;> try exact False.elim p
  cases rx; cases ry
  exact ⟨_, _, rfl, rfl, p.ok s (.bl _)⟩
theorem op2_gt : Op2 K mg (rI0 fun i j => .bl (decide (j < i))) gtD := by
  intro x y d e G en so σ H W Q rx ry s p
  cases d <;> cases e <;> try exact False.elim p
  cases rx; cases ry
  exact ⟨_, _, rfl, rfl, p.ok s (.bl _)⟩
theorem op2_ge : Op2 K mg (rI0 fun i j => .bl (decide (j ≤ i))) geD := by
  intro x y d e G en so σ H W Q rx ry s p
  cases d <;> cases e <;> try exact False.elim p
  cases rx; cases ry
  exact ⟨_, _, rfl, rfl, p.ok s (.bl _)⟩
end

/-! ### tests and truth -/
def mT (m : M D) : M Bool := bd m fun d => match d with
  | .bl b => pu b
  | _ => no
def truD : D → M Bool
  | .non => pu false
  | .bl b => pu b
  | .int i => pu (i != 0)
  | .str s => gd (s.length ≤ 16777216) (pu (s.length != 0))
  | .lst xs => pu (!xs.isEmpty)
  | .tup xs => pu (!xs.isEmpty)
  | _ => no
def mTru (m : M D) : M Bool := bd m truD
def mAnd (a b : M D) : M D := bd a fun d => match d with
  | .bl true => b
  | .bl false => pu (.bl false)
  | _ => no
def mOr (a b : M D) : M D := bd a fun d => match d with
  | .bl true => pu (.bl true)
  | .bl false => b
  | _ => no
def mNot (a : M D) : M D := bd a fun d => match d with
  | .bl b => pu (.bl (!b))
  | _ => no
def tAndM (a b : M Bool) : M Bool := bd a fun c => if c then b else pu false
def tOrM (a b : M Bool) : M Bool := bd a fun c => if c then pu true else b
def tNotM (a : M Bool) : M Bool := bd a fun c => pu (!c)
/-- x op y op' z -/
def mCh (f g : D → D → M D) (a b c : M D) : M D := bd a fun x => bd b fun y => bd (f x y) fun d => match d with
  | .bl true => bd c fun z => g y z
  | .bl false => pu (.bl false)
  | _ => no
section
variable {K : PySem.W.Frag} {F : Hp} {rho : List (Addr × Addr)}
theorem Reps.len : ∀ {vs : List V} {ds : List D}, Reps K F rho vs ds → vs.length = ds.length
  | _, _, .nil => rfl
  | _, _, .cons _ r => by rw [List.length_cons, List.length_cons, Reps.len r]
theorem Reps.isEmpty {vs : List V} {ds : List D} (r : Reps K F rho vs ds) : vs.isEmpty = ds.isEmpty := by cases r <;> rfl
end
section
variable {X : Cx} {W : WX} {a b c e : Expr} {ma mb mc m : M D} {pos : Pos} {rest : List Expr}
theorem SimO.rep {K : PySem.W.Frag} {mg : Ev} {G : Gh} {so : So} {H : Hp} (s : SimO K mg G so H) : Same G.F H := fun a o e => (s.fr a o e).1
/-- a value that is True or False, as a test -/
theorem mT_tr {σ : L2.St} {H : Hp} {Q : Bool → Hp → Prop} (q : tM X.K X.ev W rlT (mT m) σ H Q) : tM X.K X.ev W (rlD X.K) m σ H fun x H1 => ∃ k, x = .bl k ∧ Q k H1 := by
  obtain ⟨G, en, so, s, p⟩ := q
  refine ⟨G, en, so, s, (Post.bind (R1 := rlD X.K) p).imp fun v H1 ⟨G1, en1, so1, d, l, r1, s1, p1⟩ => ?_⟩
  cases d <;> try exact False.elim p1
  cases r1
  exact ⟨_, rfl, p1.ok s1 rfl⟩
theorem d_cmpT {op : CmpOp} {r : R2} {f : D → D → M D} (ho : OpR X (compareOp op) r) (h : Op2 X.K X.ev r f) (ha : DE X W a ma) (hb : DE X W b mb) (hm : behindInMarks op b = false) : DT X W (.Compare a [op] [b] pos) (mT (m2 f ma mb)) := by
  refine ⟨PT_imp (pt_cmpR ho ha.pe hb.pe hm) fun σ H Q q => ?_⟩
  have q1 := mT_tr q
  exact two h q1
theorem ch_tr {r r' : R2} {f g : D → D → M D} (h : Op2 X.K X.ev r f) (h' : Op2 X.K X.ev r' g) {σ : L2.St} {H : Hp} {Q : VK} (q : tM X.K X.ev W (rlD X.K) (mCh f g ma mb mc) σ H Q) :
    tChain r r' (tM X.K X.ev W (rlD X.K) ma) (tM X.K X.ev W (rlD X.K) mb) (tM X.K X.ev W (rlD X.K) mc) σ H Q := by
  obtain ⟨G, en, so, s, p⟩ := q
  refine ⟨G, en, so, s, (Post.bind (R1 := rlD X.K) p).imp fun v H1 ⟨G1, en1, so1, d, _, r1, s1, p1⟩ => ⟨G1, en1, so1, s1, (Post.bind (R1 := rlD X.K) p1).imp fun y H2 ⟨G2, en2, so2, e, l2, r2, s2, p2⟩ => ?_⟩⟩
  refine h v y d e G2 en2 so2 σ H2 W _ (r1.up l2) r2 s2 ((Post.bind (R1 := rlD X.K) p2).imp fun z H3 ⟨G3, en3, so3, k, l3, r3, s3, p3⟩ => ?_)
  cases k <;> try exact False.elim p3
  rename_i k
  cases r3
  refine ⟨k, rfl, ?_⟩
  cases k with
  | false => exact iteF (p3.ok s3 (.bl false))
  | true =>
    refine iteT ⟨G3, en3, so3, s3, (Post.bind (R1 := rlD X.K) p3).imp fun w' H4 ⟨G4, en4, so4, k4, l4, r4, s4, p4⟩ => ?_⟩
    exact h' y w' e k4 G4 en4 so4 σ H4 W Q (r2.up (l3.trans l4)) r4 s4 p4
theorem d_chain {op op' : CmpOp} {r r' : R2} {f g : D → D → M D} (ho : OpR X (compareOp op) r) (ho' : OpR X (compareOp op') r') (h : Op2 X.K X.ev r f) (h' : Op2 X.K X.ev r' g) (ha : DE X W a ma) (hb : DE X W b mb) (hc : DE X W c mc)
    (hm : lastMarks [op, op'] [b, c] = false := by with_unfolding_all rfl) : DE X W (.Compare a [op, op'] [b, c] pos) (mCh f g ma mb mc) :=
  ⟨PE_imp (pe_chain ho ho' ha.pe hb.pe hc.pe hm) fun _ _ _ q => ch_tr h h' q⟩
theorem d_chainT {op op' : CmpOp} {r r' : R2} {f g : D → D → M D} (ho : OpR X (compareOp op) r) (ho' : OpR X (compareOp op') r') (h : Op2 X.K X.ev r f) (h' : Op2 X.K X.ev r' g) (ha : DE X W a ma) (hb : DE X W b mb) (hc : DE X W c mc)
    (hm : lastMarks [op, op'] [b, c] = false := by with_unfolding_all rfl) : DT X W (.Compare a [op, op'] [b, c] pos) (mT (mCh f g ma mb mc)) :=
  ⟨PT_imp (pt_chain ho ho' ha.pe hb.pe hc.pe hm) fun _ _ _ q => ch_tr h h' (mT_tr q)⟩
/-- any other expression as a test, by its truth -/
theorem dt_tru (ha : DE X W a ma) (he : ∀ whole, isTrue a X.env whole = (do let v ← whole; standAt a.pos; holding [v] (truthy v)) := by intro _; rfl) : DT X W a (mTru ma) := by
  refine ⟨PT_imp (pt_truth ha.pe he) fun σ H Q q => ?_⟩
  obtain ⟨G, en, so, s, p⟩ := q
  refine ⟨G, en, so, s, (Post.bind (R1 := rlD X.K) p).imp fun v H1 ⟨G1, en1, so1, d, l, r1, s1, p1⟩ => ?_⟩
  cases d <;> try exact False.elim p1
  · cases r1; exact ⟨_, rfl, p1.ok s1 rfl⟩
  · cases r1; exact ⟨_, rfl, p1.ok s1 rfl⟩
  · cases r1; exact ⟨_, rfl, p1.ok s1 rfl⟩
  · cases r1
    have tr : ∀ (z : List Nat), Post X.K X.ev G1 W rlT σ (truD (.str z) en1 so1) Q → ∃ k, TruV X.K (.str (sT z)) H1 k ∧ Q k H1 := fun z p2 => by
      obtain ⟨h, p3⟩ := Post.gd (c := z.length ≤ 16777216) p2
      refine ⟨z.length != 0, ⟨by rw [sT_len, sizeLine_eq]; exact h, ?_⟩, p3.ok s1 rfl⟩
      rw [sT_len]
      cases z <;> simp
      omega
    exact tr _ p1
  · cases r1 with
    | tup h r => exact ⟨_, .inr (.inl ⟨_, same_seqT s1.toSimO.rep h, rfl⟩), p1.ok s1 (by rw [r.isEmpty])⟩
  · cases r1 with
    | lst h r => exact ⟨_, .inl ⟨_, s1.toSimO.rep.seq h, rfl⟩, p1.ok s1 (by rw [r.isEmpty])⟩
theorem d_one {op} (h : DE X W a ma) : DE X W (.BoolOp op [a] pos) ma := ⟨pe_one h.pe⟩
theorem d_and (ha : DE X W a ma) (hb : DE X W (.BoolOp .And (b :: rest) pos) mb) : DE X W (.BoolOp .And (a :: b :: rest) pos) (mAnd ma mb) := by
  refine ⟨PE_imp (pe_and ha.pe hb.pe) fun σ H Q q => ?_⟩
  obtain ⟨G, en, so, s, p⟩ := q
  refine ⟨G, en, so, s, (Post.bind (R1 := rlD X.K) p).imp fun v H1 ⟨G1, en1, so1, d, l, r1, s1, p1⟩ => ?_⟩
  cases d <;> try exact False.elim p1
  rename_i k
  cases r1
  refine ⟨k, rfl, ?_⟩
  cases k with
  | true => exact iteT ⟨G1, en1, so1, s1, p1⟩
  | false => exact iteF (p1.ok s1 (.bl false))
theorem d_or (ha : DE X W a ma) (hb : DE X W (.BoolOp .Or (b :: rest) pos) mb) : DE X W (.BoolOp .Or (a :: b :: rest) pos) (mOr ma mb) := by
  refine ⟨PE_imp (pe_or ha.pe hb.pe) fun σ H Q q => ?_⟩
  obtain ⟨G, en, so, s, p⟩ := q
  refine ⟨G, en, so, s, (Post.bind (R1 := rlD X.K) p).imp fun v H1 ⟨G1, en1, so1, d, l, r1, s1, p1⟩ => ?_⟩
  cases d <;> try exact False.elim p1
  rename_i k
  cases r1
  refine ⟨k, rfl, ?_⟩
  cases k with
  | true => exact iteT (p1.ok s1 (.bl true))
  | false => exact iteF ⟨G1, en1, so1, s1, p1⟩
theorem d_not (ha : DE X W a ma) : DE X W (.UnaryOp .Not a pos) (mNot ma) := by
  refine ⟨PE_imp (pe_not ha.pe) fun σ H Q q => ?_⟩
  obtain ⟨G, en, so, s, p⟩ := q
  refine ⟨G, en, so, s, (Post.bind (R1 := rlD X.K) p).imp fun v H1 ⟨G1, en1, so1, d, l, r1, s1, p1⟩ => ?_⟩
  cases d <;> try exact False.elim p1
  rename_i k
  cases r1
  exact ⟨k, rfl, p1.ok s1 (.bl _)⟩
variable {ta tb : M Bool}
theorem DW.dt (h : DW X W e tb) : DT X W e tb := ⟨h.pw.pt⟩
theorem w_and1 (h : DT X W a ta) : DW X W (.BoolOp .And [a] pos) ta := ⟨pw_and1 h.pt⟩
theorem w_or1 (h : DT X W a ta) : DW X W (.BoolOp .Or [a] pos) ta := ⟨pw_or1 h.pt⟩
theorem w_and (ha : DT X W a ta) (hb : DW X W (.BoolOp .And (b :: rest) pos) tb) : DW X W (.BoolOp .And (a :: b :: rest) pos) (tAndM ta tb) := by
  refine ⟨PW_imp (pw_and ha.pt hb.pw) fun σ H Q q => ?_⟩
  obtain ⟨G, en, so, s, p⟩ := q
  refine ⟨G, en, so, s, (Post.bind (R1 := rlT) p).imp fun v H1 ⟨G1, en1, so1, k, l, r1, s1, p1⟩ => ?_⟩
  cases r1
  cases v with
  | true => exact iteT ⟨G1, en1, so1, s1, p1⟩
  | false => exact iteF (p1.ok s1 rfl)
theorem w_or (ha : DT X W a ta) (hb : DW X W (.BoolOp .Or (b :: rest) pos) tb) : DW X W (.BoolOp .Or (a :: b :: rest) pos) (tOrM ta tb) := by
  refine ⟨PW_imp (pw_or ha.pt hb.pw) fun σ H Q q => ?_⟩
  obtain ⟨G, en, so, s, p⟩ := q
  refine ⟨G, en, so, s, (Post.bind (R1 := rlT) p).imp fun v H1 ⟨G1, en1, so1, k, l, r1, s1, p1⟩ => ?_⟩
  cases r1
  cases v with
  | true => exact iteT (p1.ok s1 rfl)
  | false => exact iteF ⟨G1, en1, so1, s1, p1⟩
theorem t_not (ha : DT X W a ta) : DT X W (.UnaryOp .Not a pos) (tNotM ta) := by
  refine ⟨PT_imp (pt_not ha.pt) fun σ H Q q => ?_⟩
  obtain ⟨G, en, so, s, p⟩ := q
  refine ⟨G, en, so, s, (Post.bind (R1 := rlT) p).imp fun v H1 ⟨G1, en1, so1, k, l, r1, s1, p1⟩ => ?_⟩
  cases r1
  exact p1.ok s1 rfl
end

/-! ### argument lists, calls of built-ins, methods of built-in types -/
def aN : M (List D) := pu []
def aC (m : M D) (r : M (List D)) : M (List D) := bd m fun d => bd r fun ds => pu (d :: ds)
def OpN (K : PySem.W.Frag) (mg : Ev) (r : List V → Hp → VK → Prop) (f : List D → M D) : Prop :=
  ∀ (xs : List V) (ds : List D) (G : Gh) (en : En) (so : So) (σ : L2.St) (H : Hp) (W : WX) (Q : VK), Reps K G.F G.rho xs ds → Sim K mg G en so σ H → Post K mg G W (rlD K) σ (f ds en so) Q → r xs H Q
/-- .. where a new thing comes out -/
def OpNB (K : PySem.W.Frag) (mg : Ev) (r : List V → Hp → VK → Prop) (f : List D → M B) : Prop :=
  ∀ (xs : List V) (ds : List D) (G : Gh) (en : En) (so : So) (σ : L2.St) (H : Hp) (W : WX) (Q : VK), Reps K G.F G.rho xs ds → Sim K mg G en so σ H → Post K mg G W (rlB K) σ (f ds en so) Q → r xs H Q
section
variable {X : Cx} {W : WX} {a b c e o : Expr} {ma mb mc m : M D} {ms : M (List D)} {pos p : Pos} {es : List Expr} {x : Str} {id : String} {r : List V → Hp → VK → Prop}
theorem a_nil : DA X W [] aN := ⟨PA_imp pa_nil fun σ H Q ⟨G, en, so, s, p⟩ => Post.ok (v := []) p s .nil⟩
theorem a_cons (ha : DE X W e m) (hr : DA X W es ms) (hs : starEach (e :: es) X.env = (false, eval e X.env) :: starEach es X.env := by rfl) : DA X W (e :: es) (aC m ms) := by
  refine ⟨PA_imp (pa_cons ha.pe hr.pa hs) fun σ H Q q => ?_⟩
  obtain ⟨G, en, so, s, p⟩ := q
  refine ⟨G, en, so, s, (Post.bind (R1 := rlD X.K) p).imp fun v H1 ⟨G1, en1, so1, d, _, r1, s1, p1⟩ => ⟨G1, en1, so1, s1, (Post.bind (R1 := rlDs X.K) p1).imp fun y H2 ⟨G2, en2, so2, e, l2, r2, s2, p2⟩ => ?_⟩⟩
  exact p2.ok s2 (.cons (r1.up l2) r2)
theorem d_callB {f : List D → M D} (hc : CallR X (.builtin id) r) (h : OpN X.K X.ev r f) (hg : Gl X x) (hm : X.mg x = none) (hv : bootBuiltins x = some (.builtin id)) (ha : DA X W (e :: es) ms) (hn : x ≠ "__name__" := by decide) (hdb : (x == ("__debug__" : Str)) = false := by decide)
    (he : starEach (e :: es) X.env = (false, eval e X.env) :: starEach es X.env := by rfl) (hpl : (backTo pos (starEach es X.env)).any (·.1) = false := by rfl) : DE X W (.Call (.Name x p) (e :: es) [] pos) (bd ms f) := by
  refine ⟨PE_imp (pe_callB hc hg hm hv ha.pa hn hdb he hpl) fun σ H Q q => ?_⟩
  obtain ⟨G, en, so, s, p⟩ := q
  exact ⟨G, en, so, s, (Post.bind (R1 := rlDs X.K) p).imp fun v H1 ⟨G1, en1, so1, d, _, r1, s1, p1⟩ => h v d G1 en1 so1 σ H1 W Q r1 s1 p1⟩
theorem d_callTy {f : List D → M D} {T : String} (hc : CallR X (.type T) r) (h : OpN X.K X.ev r f) (hg : Gl X x) (hm : X.mg x = none) (hv : bootBuiltins x = some (.type T)) (ha : DA X W (e :: es) ms) (hn : x ≠ "__name__" := by decide) (hdb : (x == ("__debug__" : Str)) = false := by decide)
    (he : starEach (e :: es) X.env = (false, eval e X.env) :: starEach es X.env := by rfl) (hpl : (backTo pos (starEach es X.env)).any (·.1) = false := by rfl) : DE X W (.Call (.Name x p) (e :: es) [] pos) (bd ms f) := by
  refine ⟨PE_imp (pe_callTy hc hg hm hv ha.pa hn hdb he hpl) fun σ H Q q => ?_⟩
  obtain ⟨G, en, so, s, p⟩ := q
  exact ⟨G, en, so, s, (Post.bind (R1 := rlDs X.K) p).imp fun v H1 ⟨G1, en1, so1, d, _, r1, s1, p1⟩ => h v d G1 en1 so1 σ H1 W Q r1 s1 p1⟩
theorem b_callTy {f : List D → M B} {T : String} (hc : CallR X (.type T) r) (h : OpNB X.K X.ev r f) (hg : Gl X x) (hm : X.mg x = none) (hv : bootBuiltins x = some (.type T)) (ha : DA X W (e :: es) ms) (hn : x ≠ "__name__" := by decide) (hdb : (x == ("__debug__" : Str)) = false := by decide)
    (he : starEach (e :: es) X.env = (false, eval e X.env) :: starEach es X.env := by rfl) (hpl : (backTo pos (starEach es X.env)).any (·.1) = false := by rfl) : DB X W (.Call (.Name x p) (e :: es) [] pos) (bd ms f) := by
  refine ⟨PE_imp (pe_callTy hc hg hm hv ha.pa hn hdb he hpl) fun σ H Q q => ?_⟩
  obtain ⟨G, en, so, s, p⟩ := q
  exact ⟨G, en, so, s, (Post.bind (R1 := rlDs X.K) p).imp fun v H1 ⟨G1, en1, so1, d, _, r1, s1, p1⟩ => h v d G1 en1 so1 σ H1 W Q r1 s1 p1⟩
/-- a new thing as data -/
def mFz (m : M B) : M D := bd m fun b => pu b.toD
theorem d_fz {m : M B} (h : DB X W e m) : DE X W e (mFz m) := by
  refine ⟨PE_imp h.pe fun σ H Q q => ?_⟩
  obtain ⟨G, en, so, s, p⟩ := q
  refine ⟨G, en, so, s, (Post.bind (R1 := rlB X.K) p).imp fun v H1 ⟨G1, en1, so1, b, _, r1, s1, p1⟩ => ?_⟩
  obtain ⟨G2, l2, s2, r2⟩ := s1.toD r1
  exact p1.ok' l2 s2 r2
theorem b_dat {m : M D} (h : DE X W e m) : DB X W e (bd m fun d => pu (.dat d)) := by
  refine ⟨PE_imp h.pe fun σ H Q q => ?_⟩
  obtain ⟨G, en, so, s, p⟩ := q
  exact ⟨G, en, so, s, (Post.bind (R1 := rlD X.K) p).imp fun v H1 ⟨G1, en1, so1, d, _, r1, s1, p1⟩ => p1.ok (v := v) s1 r1⟩
end
end
end Dl

set_option Elab.async false
set_option linter.all false
set_option maxRecDepth 100000
set_option maxHeartbeats 1000000
/-! The data level: equality of data, membership. -/
namespace Dl
open PySem PySem.Spec PyProof.Rows L2
noncomputable section
mutual
def eqD : D → D → Bool
  | .non, .non => true
  | .bl a, .bl b => a == b
  | .bl a, .int j => (if a then 1 else 0) == j
  | .int i, .bl b => i == (if b then 1 else 0)
  | .int i, .int j => i == j
  | .str x, .str y => x == y
  | .lst xs, .lst ys => eqDs xs ys
  | .tup xs, .tup ys => eqDs xs ys
  | _, _ => false
def eqDs : List D → List D → Bool
  | [], [] => true
  | x :: xs, y :: ys => eqD x y && eqDs xs ys
  | _, _ => false
end
/-- nothing but texts, numbers, truth values, None, lists and tuples of such, n deep -/
def okq : Nat → D → Bool
  | _, .non => true
  | _, .bl _ => true
  | _, .int _ => true
  | _, .str _ => true
  | n + 1, .lst xs => xs.all (okq n)
  | n + 1, .tup xs => xs.all (okq n)
  | _, _ => false
def eqM (d e : D) : M D := gd (okq 24 d = true ∧ okq 24 e = true) (pu (.bl (eqD d e)))
def neM (d e : D) : M D := gd (okq 24 d = true ∧ okq 24 e = true) (pu (.bl (!eqD d e)))
theorem relV_inj {x y : V} {u : Value} (h : L2.RelV x u) (k : L2.RelV y u) : x = y := by
  cases x <;> cases y <;> simp only [L2.RelV] at h k <;> (first | rfl | (subst h; first | (cases k; done) | (cases k; rfl) | (obtain ⟨t, k⟩ := k; cases k; done)) | (obtain ⟨t, h⟩ := h; subst h; first | (cases k; done) | (obtain ⟨t', k⟩ := k; cases k; first | rfl | done)))
theorem vals_inj : ∀ {xs ys : List V} {us : List Value}, Vals xs us → Vals ys us → xs = ys
  | _, _, _, .nil, .nil => rfl
  | _, _, _, .cons h r, .cons h' r' => by rw [relV_inj h h', vals_inj r r']
section
variable {X : Cx} {pins : List (Addr × Obj)} {σ : L2.St} {H F : Hp} {s : Shared} {rho : List (Addr × Addr)}
theorem sqL_inj (I : Inv X pins σ H s) {a : Addr} {xs ys : List V} (h : SqL X.K H a xs) (k : SqL X.K H a ys) : xs = ys := by
  obtain ⟨its, r, ⟨o, n, e, _, _, dt⟩, _⟩ := I.list h
  obtain ⟨its', r', ⟨o', n', e', _, _, dt'⟩, _⟩ := I.list k
  rw [e] at e'; cases e'
  rw [dt] at dt'; cases dt'
  exact vals_inj r r'
theorem sqT_inj (I : Inv X pins σ H s) {a : Addr} {xs ys : List V} (h : SqT X.K H a xs) (k : SqT X.K H a ys) : xs = ys := by
  obtain ⟨its, r, ⟨o, e, _, n, dt⟩, _⟩ := I.tuple h
  obtain ⟨its', r', ⟨o', e', _, n', dt'⟩, _⟩ := I.tuple k
  rw [e] at e'; cases e'
  rw [dt] at dt'; cases dt'
  exact vals_inj r r'
theorem isL (I : Inv X pins σ H s) {a : Addr} {xs : List V} (h : SqL X.K H a xs) : ∃ its : List Value, Vals xs its ∧ s.heap.IsList a its.toArray := by
  obtain ⟨its, r, p, _⟩ := I.list h
  exact ⟨its, r, p.isList⟩
theorem isT (I : Inv X pins σ H s) {a : Addr} {xs : List V} (h : SqT X.K H a xs) : ∃ its : List Value, Vals xs its ∧ s.heap.IsTuple a its.toArray := by
  obtain ⟨its, r, ⟨o, e, c, n, dt⟩, _⟩ := I.tuple h
  exact ⟨its, r, o, e, c, n, dt⟩
theorem no_LT (I : Inv X pins σ H s) {a : Addr} {xs ys : List V} (h : SqL X.K H a xs) (k : SqT X.K H a ys) : False := by
  obtain ⟨_, _, h1⟩ := isL I h
  obtain ⟨_, _, h2⟩ := isT I k
  exact SeqAt.ne_of_list_tuple h1 h2 rfl
mutual
theorem eq_self (I : Inv X pins σ H s) (sf : Same F H) : ∀ (n : Nat) (d e : D) (v : V), okq n d = true → okq n e = true → Rep X.K F rho v d → Rep X.K F rho v e → eqD d e = true
  | n, .non, .non, _, _, _, _, _ => rfl
  | n, .bl a, .bl b, _, _, _, h, k => by cases h; cases k; simp [eqD]
  | n, .int a, .int b, _, _, _, h, k => by cases h; cases k; simp [eqD]
  | n, .str a, .str b, v, _, _, h, k => by
    cases h
    generalize hv : V.str (sT a) = v at k
    cases k
    simp [eqD, sT_inj (V.str.inj hv)]
  | n + 1, .lst ds, .lst es, _, o1, o2, h, k => by
    cases h with
    | lst h r =>
      cases k with
      | lst h' r' =>
        have e1 := sqL_inj I (sf.seq h) (sf.seq h')
        subst e1
        exact eqs_self I sf n _ _ _ o1 o2 r r'
  | n + 1, .tup ds, .tup es, _, o1, o2, h, k => by
    cases h with
    | tup h r =>
      cases k with
      | tup h' r' =>
        have e1 := sqT_inj I (same_seqT sf h) (same_seqT sf h')
        subst e1
        exact eqs_self I sf n _ _ _ o1 o2 r r'
  | n, .lst ds, .tup es, _, o1, o2, h, k => by
    cases h with
    | lst h r =>
      cases k with
      | tup h' r' => exact (no_LT I (sf.seq h) (same_seqT sf h')).elim
  | n, .tup ds, .lst es, _, o1, o2, h, k => by
    cases h with
    | tup h r =>
      cases k with
      | lst h' r' => exact (no_LT I (sf.seq h') (same_seqT sf h)).elim
  | 0, .lst _, _, _, o1, _, _, _ => nomatch o1
  | 0, .tup _, _, _, o1, _, _, _ => nomatch o1
  | n, .dct _, _, _, o1, _, _, _ => by cases n <;> cases o1
  | n, .obj _, _, _, o1, _, _, _ => by cases n <;> cases o1
  | n, _, .dct _, _, _, o2, _, _ => by cases n <;> cases o2
  | n, _, .obj _, _, _, o2, _, _ => by cases n <;> cases o2
  | _, .non, .bl _, _, _, _, h, k => by cases h; cases k
  | _, .non, .int _, _, _, _, h, k => by cases h; cases k
  | _, .non, .str _, _, _, _, h, k => by cases h; cases k
  | _, .non, .lst _, _, _, _, h, k => by cases h; cases k
  | _, .non, .tup _, _, _, _, h, k => by cases h; cases k
  | _, .bl _, .non, _, _, _, h, k => by cases h; cases k
  | _, .bl _, .int _, _, _, _, h, k => by cases h; cases k
  | _, .bl _, .str _, _, _, _, h, k => by cases h; cases k
  | _, .bl _, .lst _, _, _, _, h, k => by cases h; cases k
  | _, .bl _, .tup _, _, _, _, h, k => by cases h; cases k
  | _, .int _, .non, _, _, _, h, k => by cases h; cases k
  | _, .int _, .bl _, _, _, _, h, k => by cases h; cases k
  | _, .int _, .str _, _, _, _, h, k => by cases h; cases k
  | _, .int _, .lst _, _, _, _, h, k => by cases h; cases k
  | _, .int _, .tup _, _, _, _, h, k => by cases h; cases k
  | _, .str _, .non, _, _, _, h, k => by cases h; cases k
  | _, .str _, .bl _, _, _, _, h, k => by cases h; cases k
  | _, .str _, .int _, _, _, _, h, k => by cases h; cases k
  | _, .str _, .lst _, _, _, _, h, k => by cases h; cases k
  | _, .str _, .tup _, _, _, _, h, k => by cases h; cases k
  | _, .lst _, .non, _, _, _, h, k => by cases h; cases k
  | _, .lst _, .bl _, _, _, _, h, k => by cases h; cases k
  | _, .lst _, .int _, _, _, _, h, k => by cases h; cases k
  | _, .lst _, .str _, _, _, _, h, k => by cases h; cases k
  | _, .tup _, .non, _, _, _, h, k => by cases h; cases k
  | _, .tup _, .bl _, _, _, _, h, k => by cases h; cases k
  | _, .tup _, .int _, _, _, _, h, k => by cases h; cases k
  | _, .tup _, .str _, _, _, _, h, k => by cases h; cases k
theorem eqs_self (I : Inv X pins σ H s) (sf : Same F H) : ∀ (n : Nat) (ds es : List D) (vs : List V), ds.all (okq n) = true → es.all (okq n) = true → Reps X.K F rho vs ds → Reps X.K F rho vs es → eqDs ds es = true
  | n, [], [], _, _, _, _, _ => rfl
  | n, [], _ :: _, _, _, _, h, k => by cases h; cases k
  | n, _ :: _, [], _, _, _, h, k => by cases h; cases k
  | n, d :: ds, e :: es, _, o1, o2, h, k => by
    rw [List.all_cons, Bool.and_eq_true] at o1 o2
    cases h with
    | cons h r =>
      cases k with
      | cons h' r' =>
        show (_ && _) = true
        rw [eq_self I sf n _ _ _ o1.1 o2.1 h h', eqs_self I sf n _ _ _ o1.2 o2.2 r r']
        rfl
end
theorem range_all (f : Nat → Bool) (n : Nat) : (List.range (n + 1)).all f = (f 0 && (List.range n).all fun j => f (j + 1)) := by
  rw [List.range_succ_eq_map, List.all_cons, List.all_map]
  rfl
def pairEq (ds es : List D) (j : Nat) : Bool := match ds[j]?, es[j]? with
  | some d, some e => eqD d e
  | _, _ => false
theorem pairs_all : ∀ (ds es : List D), ((List.range (min ds.length es.length)).all (pairEq ds es) && ds.length == es.length) = eqDs ds es
  | [], [] => rfl
  | [], _ :: _ => by simp [eqDs]
  | _ :: _, [] => by simp [eqDs]
  | d :: ds, e :: es => by
    rw [List.length_cons, List.length_cons, Nat.add_min_add_right, range_all]
    have ih := pairs_all ds es
    have e1 : (fun j => pairEq (d :: ds) (e :: es) (j + 1)) = pairEq ds es := by
      funext j
      simp [pairEq]
    have e2 : (ds.length + 1 == es.length + 1) = (ds.length == es.length) := by
      rw [Bool.eq_iff_iff]; simp
    rw [e1, e2, Bool.and_assoc, ih]
    rfl
end
theorem vals_at {F : Hp} {K : PySem.W.Frag} {rho : List (Addr × Addr)} : ∀ {vs : List V} {ds : List D} {us : List Value}, Reps K F rho vs ds → Vals vs us → ∀ (j : Nat) (h : j < us.length), ∃ x d, ds[j]? = some d ∧ Rep K F rho x d ∧ L2.RelV x us[j]
  | _, _, _, .nil, .nil, j, h => absurd h (Nat.not_lt_zero _)
  | _, _, _, .cons h1 r, .cons v1 v, 0, h => ⟨_, _, rfl, h1, v1⟩
  | _, _, _, .cons h1 r, .cons v1 v, j + 1, h => by
    obtain ⟨x, d, e2, e3, e4⟩ := vals_at r v j (by simpa using h)
    exact ⟨x, d, by simpa using e2, e3, by simpa using e4⟩
theorem eqD_lens {ds es : List D} (h : ds.length ≠ es.length) : eqDs ds es = false := by
  rw [← pairs_all]
  have : (ds.length == es.length) = false := by simpa using h
  rw [this, Bool.and_false]
section
variable {X : Cx} {pins : List (Addr × Obj)} {σ : L2.St} {H F : Hp} {s : Shared} {rho : List (Addr × Addr)}
theorem units1 {A : Around} : A.in1.units = A.units + 1 := rfl
theorem all_get {f : D → Bool} {ds : List D} (h : ds.all f = true) {j : Nat} {d : D} (e : ds[j]? = some d) : f d = true := List.all_eq_true.mp h d (List.mem_of_getElem? e)
theorem sT_beq (a b : List Nat) : (sT a == sT b) = (a == b) := by rw [Bool.eq_iff_iff]; simp [sT_eq]
/-- texts, numbers, truth values, None -/
theorem eqAt_S {A : Around} : ∀ (d e : D) {x y : V} {u v : Value}, okq 0 d = true → okq 0 e = true → Rep X.K F rho x d → Rep X.K F rho y e → L2.RelV x u → L2.RelV y v → SeqAt.EqAt A s u v (eqD d e) := by
  intro d e x y u v o1 o2 h k r1 r2
  exact match d, e, h, k, r1, r2 with
  | .non, .non, h, k, r1, r2 => by
    cases h; cases r1
    cases k; cases r2
    exact SeqAt.EqAt.same _
  | .non, .bl b, h, k, r1, r2 => by
    cases h; cases r1
    cases k; cases r2
    exact SeqAt.EqAt.none_bool _
  | .non, .int b, h, k, r1, r2 => by
    cases h; cases r1
    cases k; obtain ⟨t2, rfl⟩ := r2
    exact SeqAt.EqAt.none_int _ _
  | .non, .str b, h, k, r1, r2 => by
    cases h; cases r1
    cases k; obtain ⟨t2, rfl⟩ := r2
    exact SeqAt.EqAt.none_str _ _
  | .bl a, .non, h, k, r1, r2 => by
    cases h; cases r1
    cases k; cases r2
    exact SeqAt.EqAt.bool_none _
  | .bl a, .bl b, h, k, r1, r2 => by
    cases h; cases r1
    cases k; cases r2
    exact SeqAt.EqAt.bool_bool _ _
  | .bl a, .int b, h, k, r1, r2 => by
    cases h; cases r1
    cases k; obtain ⟨t2, rfl⟩ := r2
    exact SeqAt.EqAt.bool_int _ _ _
  | .bl a, .str b, h, k, r1, r2 => by
    cases h; cases r1
    cases k; obtain ⟨t2, rfl⟩ := r2
    exact SeqAt.EqAt.bool_str _ _ _
  | .int a, .non, h, k, r1, r2 => by
    cases h; obtain ⟨t, rfl⟩ := r1
    cases k; cases r2
    exact SeqAt.EqAt.int_none _ _
  | .int a, .bl b, h, k, r1, r2 => by
    cases h; obtain ⟨t, rfl⟩ := r1
    cases k; cases r2
    exact SeqAt.EqAt.int_bool _ _ _
  | .int a, .int b, h, k, r1, r2 => by
    cases h; obtain ⟨t, rfl⟩ := r1
    cases k; obtain ⟨t2, rfl⟩ := r2
    exact SeqAt.EqAt.int_int _ _ _ _
  | .int a, .str b, h, k, r1, r2 => by
    cases h; obtain ⟨t, rfl⟩ := r1
    cases k; obtain ⟨t2, rfl⟩ := r2
    exact SeqAt.EqAt.int_str _ _ _ _
  | .str a, .non, h, k, r1, r2 => by
    cases h; obtain ⟨t, rfl⟩ := r1
    cases k; cases r2
    exact SeqAt.EqAt.str_none _ _
  | .str a, .bl b, h, k, r1, r2 => by
    cases h; obtain ⟨t, rfl⟩ := r1
    cases k; cases r2
    exact SeqAt.EqAt.str_bool _ _ _
  | .str a, .int b, h, k, r1, r2 => by
    cases h; obtain ⟨t, rfl⟩ := r1
    cases k; obtain ⟨t2, rfl⟩ := r2
    exact SeqAt.EqAt.str_int _ _ _ _
  | .str a, .str b, h, k, r1, r2 => by
    cases h; obtain ⟨t, rfl⟩ := r1
    cases k; obtain ⟨t2, rfl⟩ := r2
    have q := SeqAt.EqAt.str_str (A := A) (s := s) (sT a) t (sT b) t2
    rw [sT_beq] at q
    exact q
  | .lst _, _, _, _, _, _ => nomatch o1
  | .tup _, _, _, _, _, _ => nomatch o1
  | .dct _, _, _, _, _, _ => nomatch o1
  | .obj _, _, _, _, _, _ => nomatch o1
  | _, .lst _, _, _, _, _ => nomatch o2
  | _, .tup _, _, _, _, _ => nomatch o2
  | _, .dct _, _, _, _, _ => nomatch o2
  | _, .obj _, _, _, _, _ => nomatch o2
theorem okq_cases {n : Nat} {d : D} (h : okq n d = true) : okq 0 d = true ∨ ∃ m, n = m + 1 ∧ ∃ ds, (d = .lst ds ∨ d = .tup ds) ∧ ds.all (okq m) = true := by
  cases d with
  | lst ds =>
    cases n with
    | zero => cases h
    | succ m => exact .inr ⟨m, rfl, ds, .inl rfl, h⟩
  | tup ds =>
    cases n with
    | zero => cases h
    | succ m => exact .inr ⟨m, rfl, ds, .inr rfl, h⟩
  | dct _ => cases n <;> cases h
  | obj _ => cases n <;> cases h
  | _ => exact .inl rfl
/-- equal as the model's eqBool says -/
theorem eqAt_D (I : Inv X pins σ H s) (sf : Same F H) : ∀ (n : Nat) (A : Around), A.units + n < cLine → ∀ (d e : D) (x y : V) (u v : Value), okq n d = true → okq n e = true → Rep X.K F rho x d → Rep X.K F rho y e → L2.RelV x u → L2.RelV y v → SeqAt.EqAt A s u v (eqD d e)
  | 0, A, hu, d, e, x, y, u, v, o1, o2, h, k, r1, r2 => eqAt_S d e o1 o2 h k r1 r2
  | n + 1, A, hu, d, e, x, y, u, v, o1, o2, h, k, r1, r2 => by
   have hu : A.units < cLine := by omega
   have hun : A.in1.units + n < cLine := by rw [units1]; omega
   exact match d, e, h, k, r1, r2 with
  | .non, .non, h, k, r1, r2 => by
    cases h; cases r1
    cases k; cases r2
    exact SeqAt.EqAt.same _
  | .non, .bl b, h, k, r1, r2 => by
    cases h; cases r1
    cases k; cases r2
    exact SeqAt.EqAt.none_bool _
  | .non, .int b, h, k, r1, r2 => by
    cases h; cases r1
    cases k; obtain ⟨t2, rfl⟩ := r2
    exact SeqAt.EqAt.none_int _ _
  | .non, .str b, h, k, r1, r2 => by
    cases h; cases r1
    cases k; obtain ⟨t2, rfl⟩ := r2
    exact SeqAt.EqAt.none_str _ _
  | .bl a, .non, h, k, r1, r2 => by
    cases h; cases r1
    cases k; cases r2
    exact SeqAt.EqAt.bool_none _
  | .bl a, .bl b, h, k, r1, r2 => by
    cases h; cases r1
    cases k; cases r2
    exact SeqAt.EqAt.bool_bool _ _
  | .bl a, .int b, h, k, r1, r2 => by
    cases h; cases r1
    cases k; obtain ⟨t2, rfl⟩ := r2
    exact SeqAt.EqAt.bool_int _ _ _
  | .bl a, .str b, h, k, r1, r2 => by
    cases h; cases r1
    cases k; obtain ⟨t2, rfl⟩ := r2
    exact SeqAt.EqAt.bool_str _ _ _
  | .int a, .non, h, k, r1, r2 => by
    cases h; obtain ⟨t, rfl⟩ := r1
    cases k; cases r2
    exact SeqAt.EqAt.int_none _ _
  | .int a, .bl b, h, k, r1, r2 => by
    cases h; obtain ⟨t, rfl⟩ := r1
    cases k; cases r2
    exact SeqAt.EqAt.int_bool _ _ _
  | .int a, .int b, h, k, r1, r2 => by
    cases h; obtain ⟨t, rfl⟩ := r1
    cases k; obtain ⟨t2, rfl⟩ := r2
    exact SeqAt.EqAt.int_int _ _ _ _
  | .int a, .str b, h, k, r1, r2 => by
    cases h; obtain ⟨t, rfl⟩ := r1
    cases k; obtain ⟨t2, rfl⟩ := r2
    exact SeqAt.EqAt.int_str _ _ _ _
  | .str a, .non, h, k, r1, r2 => by
    cases h; obtain ⟨t, rfl⟩ := r1
    cases k; cases r2
    exact SeqAt.EqAt.str_none _ _
  | .str a, .bl b, h, k, r1, r2 => by
    cases h; obtain ⟨t, rfl⟩ := r1
    cases k; cases r2
    exact SeqAt.EqAt.str_bool _ _ _
  | .str a, .int b, h, k, r1, r2 => by
    cases h; obtain ⟨t, rfl⟩ := r1
    cases k; obtain ⟨t2, rfl⟩ := r2
    exact SeqAt.EqAt.str_int _ _ _ _
  | .str a, .str b, h, k, r1, r2 => by
    cases h; obtain ⟨t, rfl⟩ := r1
    cases k; obtain ⟨t2, rfl⟩ := r2
    have q := SeqAt.EqAt.str_str (A := A) (s := s) (sT a) t (sT b) t2
    rw [sT_beq] at q
    exact q
  | .lst ds, .non, h, k, r1, r2 => by
    cases h with
    | lst q r =>
      cases k; cases r2
      cases r1
      obtain ⟨its, rv, hl⟩ := isL I (sf.seq q)
      exact SeqAt.EqAt.list_none hl hu
  | .non, .lst es, h, k, r1, r2 => by
    cases k with
    | lst q r =>
      cases h; cases r1
      cases r2
      obtain ⟨its, rv, hl⟩ := isL I (sf.seq q)
      exact SeqAt.EqAt.none_list hl hu
  | .lst ds, .bl b, h, k, r1, r2 => by
    cases h with
    | lst q r =>
      cases k; cases r2
      cases r1
      obtain ⟨its, rv, hl⟩ := isL I (sf.seq q)
      exact SeqAt.EqAt.list_bool _ hl hu
  | .bl b, .lst es, h, k, r1, r2 => by
    cases k with
    | lst q r =>
      cases h; cases r1
      cases r2
      obtain ⟨its, rv, hl⟩ := isL I (sf.seq q)
      exact SeqAt.EqAt.bool_list _ hl hu
  | .lst ds, .int b, h, k, r1, r2 => by
    cases h with
    | lst q r =>
      cases k; obtain ⟨t2, rfl⟩ := r2
      cases r1
      obtain ⟨its, rv, hl⟩ := isL I (sf.seq q)
      exact SeqAt.EqAt.list_int _ _ hl hu
  | .int b, .lst es, h, k, r1, r2 => by
    cases k with
    | lst q r =>
      cases h; obtain ⟨t, rfl⟩ := r1
      cases r2
      obtain ⟨its, rv, hl⟩ := isL I (sf.seq q)
      exact SeqAt.EqAt.int_list _ _ hl hu
  | .lst ds, .str b, h, k, r1, r2 => by
    cases h with
    | lst q r =>
      cases k; obtain ⟨t2, rfl⟩ := r2
      cases r1
      obtain ⟨its, rv, hl⟩ := isL I (sf.seq q)
      exact SeqAt.EqAt.list_str _ _ hl hu
  | .str b, .lst es, h, k, r1, r2 => by
    cases k with
    | lst q r =>
      cases h; obtain ⟨t, rfl⟩ := r1
      cases r2
      obtain ⟨its, rv, hl⟩ := isL I (sf.seq q)
      exact SeqAt.EqAt.str_list _ _ hl hu
  | .tup ds, .non, h, k, r1, r2 => by
    cases h with
    | tup q r =>
      cases k; cases r2
      cases r1
      obtain ⟨its, rv, hl⟩ := isT I (same_seqT sf q)
      exact SeqAt.EqAt.tuple_none hl hu
  | .non, .tup es, h, k, r1, r2 => by
    cases k with
    | tup q r =>
      cases h; cases r1
      cases r2
      obtain ⟨its, rv, hl⟩ := isT I (same_seqT sf q)
      exact SeqAt.EqAt.none_tuple hl hu
  | .tup ds, .bl b, h, k, r1, r2 => by
    cases h with
    | tup q r =>
      cases k; cases r2
      cases r1
      obtain ⟨its, rv, hl⟩ := isT I (same_seqT sf q)
      exact SeqAt.EqAt.tuple_bool _ hl hu
  | .bl b, .tup es, h, k, r1, r2 => by
    cases k with
    | tup q r =>
      cases h; cases r1
      cases r2
      obtain ⟨its, rv, hl⟩ := isT I (same_seqT sf q)
      exact SeqAt.EqAt.bool_tuple _ hl hu
  | .tup ds, .int b, h, k, r1, r2 => by
    cases h with
    | tup q r =>
      cases k; obtain ⟨t2, rfl⟩ := r2
      cases r1
      obtain ⟨its, rv, hl⟩ := isT I (same_seqT sf q)
      exact SeqAt.EqAt.tuple_int _ _ hl hu
  | .int b, .tup es, h, k, r1, r2 => by
    cases k with
    | tup q r =>
      cases h; obtain ⟨t, rfl⟩ := r1
      cases r2
      obtain ⟨its, rv, hl⟩ := isT I (same_seqT sf q)
      exact SeqAt.EqAt.int_tuple _ _ hl hu
  | .tup ds, .str b, h, k, r1, r2 => by
    cases h with
    | tup q r =>
      cases k; obtain ⟨t2, rfl⟩ := r2
      cases r1
      obtain ⟨its, rv, hl⟩ := isT I (same_seqT sf q)
      exact SeqAt.EqAt.tuple_str _ _ hl hu
  | .str b, .tup es, h, k, r1, r2 => by
    cases k with
    | tup q r =>
      cases h; obtain ⟨t, rfl⟩ := r1
      cases r2
      obtain ⟨its, rv, hl⟩ := isT I (same_seqT sf q)
      exact SeqAt.EqAt.str_tuple _ _ hl hu
  | .lst ds, .tup es, h, k, r1, r2 => by
    cases h with
    | lst q r =>
      cases k with
      | tup q' r' =>
        cases r1
        cases r2
        obtain ⟨its, rv, hl⟩ := isL I (sf.seq q)
        obtain ⟨its', rv', hl'⟩ := isT I (same_seqT sf q')
        exact SeqAt.EqAt.list_tuple hl hl' hu
  | .tup ds, .lst es, h, k, r1, r2 => by
    cases h with
    | tup q r =>
      cases k with
      | lst q' r' =>
        cases r1
        cases r2
        obtain ⟨its, rv, hl⟩ := isT I (same_seqT sf q)
        obtain ⟨its', rv', hl'⟩ := isL I (sf.seq q')
        exact SeqAt.EqAt.tuple_list hl hl' hu
  | .lst ds, .lst es, h, k, r1, r2 => by
    cases h with
    | @lst a vs _ q r =>
      cases k with
      | @lst b ws _ q' r' =>
        cases r1
        cases r2
        obtain ⟨its, rv, hl⟩ := isL I (sf.seq q)
        obtain ⟨its', rv', hl'⟩ := isL I (sf.seq q')
        have hd : (List.range (min its.toArray.size its'.toArray.size)).all (pairEq ds es) = (List.range (min ds.length es.length)).all (pairEq ds es) := by rw [List.size_toArray, List.size_toArray, ← rv.length, ← rv'.length, r.len, r'.len]
        have he : ∀ j (h1 : j < its.toArray.size) (h2 : j < its'.toArray.size), SeqAt.EqAt A.in1 s its.toArray[j] its'.toArray[j] (pairEq ds es j) := fun j h1 h2 => by
          obtain ⟨x1, d1, e1, p1, q1⟩ := vals_at r rv j (by simpa using h1)
          obtain ⟨x2, d2, e2, p2, q2⟩ := vals_at r' rv' j (by simpa using h2)
          unfold pairEq
          rw [e1, e2]
          exact eqAt_D I sf n A.in1 hun d1 d2 x1 x2 _ _ (all_get o1 e1) (all_get o2 e2) p1 p2 (by simpa using q1) (by simpa using q2)
        have q0 : SeqAt.RcAt A s (.ref a) (.ref b) (eqDs ds es) := by
          by_cases hz : ds.length = es.length
          · have hz2 : its.toArray.size = its'.toArray.size := by rw [List.size_toArray, List.size_toArray, ← rv.length, ← rv'.length, r.len, r'.len, hz]
            have q0 := SeqAt.RcAt.lists hl hl' hz2 hu he
            have hm : its.toArray.size = min its.toArray.size its'.toArray.size := by omega
            rw [hm, hd] at q0
            have q1 := pairs_all ds es
            have hz3 : (ds.length == es.length) = true := by simpa using hz
            rw [hz3, Bool.and_true] at q1
            rw [q1] at q0
            exact q0
          · rw [eqD_lens hz]
            exact SeqAt.RcAt.lists_lengths hl hl' (by rw [List.size_toArray, List.size_toArray, ← rv.length, ← rv'.length, r.len, r'.len]; simpa using hz) hu
        by_cases hab : a = b
        · subst hab
          have e1 := sqL_inj I (sf.seq q) (sf.seq q')
          subst e1
          show SeqAt.EqAt A s _ _ (eqDs ds es)
          rw [eqs_self I sf n _ _ _ o1 o2 r r']
          exact SeqAt.EqAt.same _
        · exact SeqAt.EqAt.of_refs hab q0
  | .tup ds, .tup es, h, k, r1, r2 => by
    cases h with
    | @tup a vs _ q r =>
      cases k with
      | @tup b ws _ q' r' =>
        cases r1
        cases r2
        obtain ⟨its, rv, hl⟩ := isT I (same_seqT sf q)
        obtain ⟨its', rv', hl'⟩ := isT I (same_seqT sf q')
        have hd : (List.range (min its.toArray.size its'.toArray.size)).all (pairEq ds es) = (List.range (min ds.length es.length)).all (pairEq ds es) := by rw [List.size_toArray, List.size_toArray, ← rv.length, ← rv'.length, r.len, r'.len]
        have he : ∀ j (h1 : j < its.toArray.size) (h2 : j < its'.toArray.size), SeqAt.EqAt A.in1 s its.toArray[j] its'.toArray[j] (pairEq ds es j) := fun j h1 h2 => by
          obtain ⟨x1, d1, e1, p1, q1⟩ := vals_at r rv j (by simpa using h1)
          obtain ⟨x2, d2, e2, p2, q2⟩ := vals_at r' rv' j (by simpa using h2)
          unfold pairEq
          rw [e1, e2]
          exact eqAt_D I sf n A.in1 hun d1 d2 x1 x2 _ _ (all_get o1 e1) (all_get o2 e2) p1 p2 (by simpa using q1) (by simpa using q2)
        have q0 := SeqAt.RcAt.tuples hl hl' hu he
        rw [hd] at q0
        have hz : (its.toArray.size == its'.toArray.size) = (ds.length == es.length) := by rw [List.size_toArray, List.size_toArray, ← rv.length, ← rv'.length, r.len, r'.len]
        rw [hz, pairs_all] at q0
        by_cases hab : a = b
        · subst hab
          have e1 := sqT_inj I (same_seqT sf q) (same_seqT sf q')
          subst e1
          show SeqAt.EqAt A s _ _ (eqDs ds es)
          rw [eqs_self I sf n _ _ _ o1 o2 r r']
          exact SeqAt.EqAt.same _
        · exact SeqAt.EqAt.of_refs hab q0
  | .dct _, _, _, _, _, _ => nomatch o1
  | .obj _, _, _, _, _, _ => nomatch o1
  | _, .dct _, _, _, _, _ => nomatch o2
  | _, .obj _, _, _, _, _ => nomatch o2
end
section
variable {X : Cx} {pins : List (Addr × Obj)} {σ : L2.St} {H F : Hp} {s : Shared} {rho : List (Addr × Addr)}
theorem rc_D (I : Inv X pins σ H s) (sf : Same F H) (n : Nat) (A : Around) (hn : A.units + (n + 1) < cLine) (d e : D) (x y : V) (u v : Value) (o1 : okq (n + 1) d = true) (o2 : okq (n + 1) e = true) (h : Rep X.K F rho x d) (k : Rep X.K F rho y e) (r1 : L2.RelV x u) (r2 : L2.RelV y v) : SeqAt.RcAt A s u v (eqD d e) := by
   have hu : A.units < cLine := by omega
   have hun : A.in1.units + n < cLine := by rw [units1]; omega
   exact match d, e, h, k, r1, r2 with
  | .non, .non, h, k, r1, r2 => by
    cases h; cases r1
    cases k; cases r2
    exact SeqAt.RcAt.none_none
  | .non, .bl b, h, k, r1, r2 => by
    cases h; cases r1
    cases k; cases r2
    exact SeqAt.RcAt.none_bool _
  | .non, .int b, h, k, r1, r2 => by
    cases h; cases r1
    cases k; obtain ⟨t2, rfl⟩ := r2
    exact SeqAt.RcAt.none_int _ _
  | .non, .str b, h, k, r1, r2 => by
    cases h; cases r1
    cases k; obtain ⟨t2, rfl⟩ := r2
    exact SeqAt.RcAt.none_str _ _
  | .bl a, .non, h, k, r1, r2 => by
    cases h; cases r1
    cases k; cases r2
    exact SeqAt.RcAt.bool_none _
  | .bl a, .bl b, h, k, r1, r2 => by
    cases h; cases r1
    cases k; cases r2
    exact SeqAt.RcAt.bool_bool _ _
  | .bl a, .int b, h, k, r1, r2 => by
    cases h; cases r1
    cases k; obtain ⟨t2, rfl⟩ := r2
    exact SeqAt.RcAt.bool_int _ _ _
  | .bl a, .str b, h, k, r1, r2 => by
    cases h; cases r1
    cases k; obtain ⟨t2, rfl⟩ := r2
    exact SeqAt.RcAt.bool_str _ _ _
  | .int a, .non, h, k, r1, r2 => by
    cases h; obtain ⟨t, rfl⟩ := r1
    cases k; cases r2
    exact SeqAt.RcAt.int_none _ _
  | .int a, .bl b, h, k, r1, r2 => by
    cases h; obtain ⟨t, rfl⟩ := r1
    cases k; cases r2
    exact SeqAt.RcAt.int_bool _ _ _
  | .int a, .int b, h, k, r1, r2 => by
    cases h; obtain ⟨t, rfl⟩ := r1
    cases k; obtain ⟨t2, rfl⟩ := r2
    exact SeqAt.RcAt.int_int _ _ _ _
  | .int a, .str b, h, k, r1, r2 => by
    cases h; obtain ⟨t, rfl⟩ := r1
    cases k; obtain ⟨t2, rfl⟩ := r2
    exact SeqAt.RcAt.int_str _ _ _ _
  | .str a, .non, h, k, r1, r2 => by
    cases h; obtain ⟨t, rfl⟩ := r1
    cases k; cases r2
    exact SeqAt.RcAt.str_none _ _
  | .str a, .bl b, h, k, r1, r2 => by
    cases h; obtain ⟨t, rfl⟩ := r1
    cases k; cases r2
    exact SeqAt.RcAt.str_bool _ _ _
  | .str a, .int b, h, k, r1, r2 => by
    cases h; obtain ⟨t, rfl⟩ := r1
    cases k; obtain ⟨t2, rfl⟩ := r2
    exact SeqAt.RcAt.str_int _ _ _ _
  | .str a, .str b, h, k, r1, r2 => by
    cases h; obtain ⟨t, rfl⟩ := r1
    cases k; obtain ⟨t2, rfl⟩ := r2
    have q := SeqAt.RcAt.str_str (A := A) (s := s) (sT a) t (sT b) t2
    rw [sT_beq] at q
    exact q
  | .lst ds, .non, h, k, r1, r2 => by
    cases h with
    | lst q r =>
      cases k; cases r2
      cases r1
      obtain ⟨its, rv, hl⟩ := isL I (sf.seq q)
      exact SeqAt.RcAt.list_none hl hu
  | .non, .lst es, h, k, r1, r2 => by
    cases k with
    | lst q r =>
      cases h; cases r1
      cases r2
      obtain ⟨its, rv, hl⟩ := isL I (sf.seq q)
      exact SeqAt.RcAt.none_list hl hu
  | .lst ds, .bl b, h, k, r1, r2 => by
    cases h with
    | lst q r =>
      cases k; cases r2
      cases r1
      obtain ⟨its, rv, hl⟩ := isL I (sf.seq q)
      exact SeqAt.RcAt.list_bool _ hl hu
  | .bl b, .lst es, h, k, r1, r2 => by
    cases k with
    | lst q r =>
      cases h; cases r1
      cases r2
      obtain ⟨its, rv, hl⟩ := isL I (sf.seq q)
      exact SeqAt.RcAt.bool_list _ hl hu
  | .lst ds, .int b, h, k, r1, r2 => by
    cases h with
    | lst q r =>
      cases k; obtain ⟨t2, rfl⟩ := r2
      cases r1
      obtain ⟨its, rv, hl⟩ := isL I (sf.seq q)
      exact SeqAt.RcAt.list_int _ _ hl hu
  | .int b, .lst es, h, k, r1, r2 => by
    cases k with
    | lst q r =>
      cases h; obtain ⟨t, rfl⟩ := r1
      cases r2
      obtain ⟨its, rv, hl⟩ := isL I (sf.seq q)
      exact SeqAt.RcAt.int_list _ _ hl hu
  | .lst ds, .str b, h, k, r1, r2 => by
    cases h with
    | lst q r =>
      cases k; obtain ⟨t2, rfl⟩ := r2
      cases r1
      obtain ⟨its, rv, hl⟩ := isL I (sf.seq q)
      exact SeqAt.RcAt.list_str _ _ hl hu
  | .str b, .lst es, h, k, r1, r2 => by
    cases k with
    | lst q r =>
      cases h; obtain ⟨t, rfl⟩ := r1
      cases r2
      obtain ⟨its, rv, hl⟩ := isL I (sf.seq q)
      exact SeqAt.RcAt.str_list _ _ hl hu
  | .tup ds, .non, h, k, r1, r2 => by
    cases h with
    | tup q r =>
      cases k; cases r2
      cases r1
      obtain ⟨its, rv, hl⟩ := isT I (same_seqT sf q)
      exact SeqAt.RcAt.tuple_none hl hu
  | .non, .tup es, h, k, r1, r2 => by
    cases k with
    | tup q r =>
      cases h; cases r1
      cases r2
      obtain ⟨its, rv, hl⟩ := isT I (same_seqT sf q)
      exact SeqAt.RcAt.none_tuple hl hu
  | .tup ds, .bl b, h, k, r1, r2 => by
    cases h with
    | tup q r =>
      cases k; cases r2
      cases r1
      obtain ⟨its, rv, hl⟩ := isT I (same_seqT sf q)
      exact SeqAt.RcAt.tuple_bool _ hl hu
  | .bl b, .tup es, h, k, r1, r2 => by
    cases k with
    | tup q r =>
      cases h; cases r1
      cases r2
      obtain ⟨its, rv, hl⟩ := isT I (same_seqT sf q)
      exact SeqAt.RcAt.bool_tuple _ hl hu
  | .tup ds, .int b, h, k, r1, r2 => by
    cases h with
    | tup q r =>
      cases k; obtain ⟨t2, rfl⟩ := r2
      cases r1
      obtain ⟨its, rv, hl⟩ := isT I (same_seqT sf q)
      exact SeqAt.RcAt.tuple_int _ _ hl hu
  | .int b, .tup es, h, k, r1, r2 => by
    cases k with
    | tup q r =>
      cases h; obtain ⟨t, rfl⟩ := r1
      cases r2
      obtain ⟨its, rv, hl⟩ := isT I (same_seqT sf q)
      exact SeqAt.RcAt.int_tuple _ _ hl hu
  | .tup ds, .str b, h, k, r1, r2 => by
    cases h with
    | tup q r =>
      cases k; obtain ⟨t2, rfl⟩ := r2
      cases r1
      obtain ⟨its, rv, hl⟩ := isT I (same_seqT sf q)
      exact SeqAt.RcAt.tuple_str _ _ hl hu
  | .str b, .tup es, h, k, r1, r2 => by
    cases k with
    | tup q r =>
      cases h; obtain ⟨t, rfl⟩ := r1
      cases r2
      obtain ⟨its, rv, hl⟩ := isT I (same_seqT sf q)
      exact SeqAt.RcAt.str_tuple _ _ hl hu
  | .lst ds, .tup es, h, k, r1, r2 => by
    cases h with
    | lst q r =>
      cases k with
      | tup q' r' =>
        cases r1
        cases r2
        obtain ⟨its, rv, hl⟩ := isL I (sf.seq q)
        obtain ⟨its', rv', hl'⟩ := isT I (same_seqT sf q')
        exact SeqAt.RcAt.list_tuple hl hl' hu
  | .tup ds, .lst es, h, k, r1, r2 => by
    cases h with
    | tup q r =>
      cases k with
      | lst q' r' =>
        cases r1
        cases r2
        obtain ⟨its, rv, hl⟩ := isT I (same_seqT sf q)
        obtain ⟨its', rv', hl'⟩ := isL I (sf.seq q')
        exact SeqAt.RcAt.tuple_list hl hl' hu
  | .lst ds, .lst es, h, k, r1, r2 => by
    cases h with
    | @lst a vs _ q r =>
      cases k with
      | @lst b ws _ q' r' =>
        cases r1
        cases r2
        obtain ⟨its, rv, hl⟩ := isL I (sf.seq q)
        obtain ⟨its', rv', hl'⟩ := isL I (sf.seq q')
        have hd : (List.range (min its.toArray.size its'.toArray.size)).all (pairEq ds es) = (List.range (min ds.length es.length)).all (pairEq ds es) := by rw [List.size_toArray, List.size_toArray, ← rv.length, ← rv'.length, r.len, r'.len]
        have he : ∀ j (h1 : j < its.toArray.size) (h2 : j < its'.toArray.size), SeqAt.EqAt A.in1 s its.toArray[j] its'.toArray[j] (pairEq ds es j) := fun j h1 h2 => by
          obtain ⟨x1, d1, e1, p1, q1⟩ := vals_at r rv j (by simpa using h1)
          obtain ⟨x2, d2, e2, p2, q2⟩ := vals_at r' rv' j (by simpa using h2)
          unfold pairEq
          rw [e1, e2]
          exact eqAt_D I sf n A.in1 hun d1 d2 x1 x2 _ _ (all_get o1 e1) (all_get o2 e2) p1 p2 (by simpa using q1) (by simpa using q2)
        have q0 : SeqAt.RcAt A s (.ref a) (.ref b) (eqDs ds es) := by
          by_cases hz : ds.length = es.length
          · have hz2 : its.toArray.size = its'.toArray.size := by rw [List.size_toArray, List.size_toArray, ← rv.length, ← rv'.length, r.len, r'.len, hz]
            have q0 := SeqAt.RcAt.lists hl hl' hz2 hu he
            have hm : its.toArray.size = min its.toArray.size its'.toArray.size := by omega
            rw [hm, hd] at q0
            have q1 := pairs_all ds es
            have hz3 : (ds.length == es.length) = true := by simpa using hz
            rw [hz3, Bool.and_true] at q1
            rw [q1] at q0
            exact q0
          · rw [eqD_lens hz]
            exact SeqAt.RcAt.lists_lengths hl hl' (by rw [List.size_toArray, List.size_toArray, ← rv.length, ← rv'.length, r.len, r'.len]; simpa using hz) hu
        exact q0
  | .tup ds, .tup es, h, k, r1, r2 => by
    cases h with
    | @tup a vs _ q r =>
      cases k with
      | @tup b ws _ q' r' =>
        cases r1
        cases r2
        obtain ⟨its, rv, hl⟩ := isT I (same_seqT sf q)
        obtain ⟨its', rv', hl'⟩ := isT I (same_seqT sf q')
        have hd : (List.range (min its.toArray.size its'.toArray.size)).all (pairEq ds es) = (List.range (min ds.length es.length)).all (pairEq ds es) := by rw [List.size_toArray, List.size_toArray, ← rv.length, ← rv'.length, r.len, r'.len]
        have he : ∀ j (h1 : j < its.toArray.size) (h2 : j < its'.toArray.size), SeqAt.EqAt A.in1 s its.toArray[j] its'.toArray[j] (pairEq ds es j) := fun j h1 h2 => by
          obtain ⟨x1, d1, e1, p1, q1⟩ := vals_at r rv j (by simpa using h1)
          obtain ⟨x2, d2, e2, p2, q2⟩ := vals_at r' rv' j (by simpa using h2)
          unfold pairEq
          rw [e1, e2]
          exact eqAt_D I sf n A.in1 hun d1 d2 x1 x2 _ _ (all_get o1 e1) (all_get o2 e2) p1 p2 (by simpa using q1) (by simpa using q2)
        have q0 := SeqAt.RcAt.tuples hl hl' hu he
        rw [hd] at q0
        have hz : (its.toArray.size == its'.toArray.size) = (ds.length == es.length) := by rw [List.size_toArray, List.size_toArray, ← rv.length, ← rv'.length, r.len, r'.len]
        rw [hz, pairs_all] at q0
        exact q0
  | .dct _, _, _, _, _, _ => nomatch o1
  | .obj _, _, _, _, _, _ => nomatch o1
  | _, .dct _, _, _, _, _ => nomatch o2
  | _, .obj _, _, _, _, _ => nomatch o2
end
section
variable {X : Cx} {pins : List (Addr × Obj)} {σ : L2.St} {H F : Hp} {s : Shared} {rho : List (Addr × Addr)}
theorem rcNe_D (I : Inv X pins σ H s) (sf : Same F H) (n : Nat) (A : Around) (hn : A.units + (n + 1) < cLine) (d e : D) (x y : V) (u v : Value) (o1 : okq (n + 1) d = true) (o2 : okq (n + 1) e = true) (h : Rep X.K F rho x d) (k : Rep X.K F rho y e) (r1 : L2.RelV x u) (r2 : L2.RelV y v) : SeqAt.RcNeAt A s u v (!eqD d e) := by
   have hu : A.units < cLine := by omega
   have hun : A.in1.units + n < cLine := by rw [units1]; omega
   exact match d, e, h, k, r1, r2 with
  | .non, .non, h, k, r1, r2 => by
    cases h; cases r1
    cases k; cases r2
    exact SeqAt.RcNeAt.none_none
  | .non, .bl b, h, k, r1, r2 => by
    cases h; cases r1
    cases k; cases r2
    exact SeqAt.RcNeAt.none_bool _
  | .non, .int b, h, k, r1, r2 => by
    cases h; cases r1
    cases k; obtain ⟨t2, rfl⟩ := r2
    exact SeqAt.RcNeAt.none_int _ _
  | .non, .str b, h, k, r1, r2 => by
    cases h; cases r1
    cases k; obtain ⟨t2, rfl⟩ := r2
    exact SeqAt.RcNeAt.none_str _ _
  | .bl a, .non, h, k, r1, r2 => by
    cases h; cases r1
    cases k; cases r2
    exact SeqAt.RcNeAt.bool_none _
  | .bl a, .bl b, h, k, r1, r2 => by
    cases h; cases r1
    cases k; cases r2
    exact SeqAt.RcNeAt.bool_bool _ _
  | .bl a, .int b, h, k, r1, r2 => by
    cases h; cases r1
    cases k; obtain ⟨t2, rfl⟩ := r2
    exact SeqAt.RcNeAt.bool_int _ _ _
  | .bl a, .str b, h, k, r1, r2 => by
    cases h; cases r1
    cases k; obtain ⟨t2, rfl⟩ := r2
    exact SeqAt.RcNeAt.bool_str _ _ _
  | .int a, .non, h, k, r1, r2 => by
    cases h; obtain ⟨t, rfl⟩ := r1
    cases k; cases r2
    exact SeqAt.RcNeAt.int_none _ _
  | .int a, .bl b, h, k, r1, r2 => by
    cases h; obtain ⟨t, rfl⟩ := r1
    cases k; cases r2
    exact SeqAt.RcNeAt.int_bool _ _ _
  | .int a, .int b, h, k, r1, r2 => by
    cases h; obtain ⟨t, rfl⟩ := r1
    cases k; obtain ⟨t2, rfl⟩ := r2
    exact SeqAt.RcNeAt.int_int _ _ _ _
  | .int a, .str b, h, k, r1, r2 => by
    cases h; obtain ⟨t, rfl⟩ := r1
    cases k; obtain ⟨t2, rfl⟩ := r2
    exact SeqAt.RcNeAt.int_str _ _ _ _
  | .str a, .non, h, k, r1, r2 => by
    cases h; obtain ⟨t, rfl⟩ := r1
    cases k; cases r2
    exact SeqAt.RcNeAt.str_none _ _
  | .str a, .bl b, h, k, r1, r2 => by
    cases h; obtain ⟨t, rfl⟩ := r1
    cases k; cases r2
    exact SeqAt.RcNeAt.str_bool _ _ _
  | .str a, .int b, h, k, r1, r2 => by
    cases h; obtain ⟨t, rfl⟩ := r1
    cases k; obtain ⟨t2, rfl⟩ := r2
    exact SeqAt.RcNeAt.str_int _ _ _ _
  | .str a, .str b, h, k, r1, r2 => by
    cases h; obtain ⟨t, rfl⟩ := r1
    cases k; obtain ⟨t2, rfl⟩ := r2
    have q := SeqAt.RcNeAt.str_str (A := A) (s := s) (sT a) t (sT b) t2
    rw [sT_beq] at q
    exact q
  | .lst ds, .non, h, k, r1, r2 => by
    cases h with
    | lst q r =>
      cases k; cases r2
      cases r1
      obtain ⟨its, rv, hl⟩ := isL I (sf.seq q)
      exact SeqAt.RcNeAt.list_none hl hu
  | .non, .lst es, h, k, r1, r2 => by
    cases k with
    | lst q r =>
      cases h; cases r1
      cases r2
      obtain ⟨its, rv, hl⟩ := isL I (sf.seq q)
      exact SeqAt.RcNeAt.none_list hl hu
  | .lst ds, .bl b, h, k, r1, r2 => by
    cases h with
    | lst q r =>
      cases k; cases r2
      cases r1
      obtain ⟨its, rv, hl⟩ := isL I (sf.seq q)
      exact SeqAt.RcNeAt.list_bool _ hl hu
  | .bl b, .lst es, h, k, r1, r2 => by
    cases k with
    | lst q r =>
      cases h; cases r1
      cases r2
      obtain ⟨its, rv, hl⟩ := isL I (sf.seq q)
      exact SeqAt.RcNeAt.bool_list _ hl hu
  | .lst ds, .int b, h, k, r1, r2 => by
    cases h with
    | lst q r =>
      cases k; obtain ⟨t2, rfl⟩ := r2
      cases r1
      obtain ⟨its, rv, hl⟩ := isL I (sf.seq q)
      exact SeqAt.RcNeAt.list_int _ _ hl hu
  | .int b, .lst es, h, k, r1, r2 => by
    cases k with
    | lst q r =>
      cases h; obtain ⟨t, rfl⟩ := r1
      cases r2
      obtain ⟨its, rv, hl⟩ := isL I (sf.seq q)
      exact SeqAt.RcNeAt.int_list _ _ hl hu
  | .lst ds, .str b, h, k, r1, r2 => by
    cases h with
    | lst q r =>
      cases k; obtain ⟨t2, rfl⟩ := r2
      cases r1
      obtain ⟨its, rv, hl⟩ := isL I (sf.seq q)
      exact SeqAt.RcNeAt.list_str _ _ hl hu
  | .str b, .lst es, h, k, r1, r2 => by
    cases k with
    | lst q r =>
      cases h; obtain ⟨t, rfl⟩ := r1
      cases r2
      obtain ⟨its, rv, hl⟩ := isL I (sf.seq q)
      exact SeqAt.RcNeAt.str_list _ _ hl hu
  | .tup ds, .non, h, k, r1, r2 => by
    cases h with
    | tup q r =>
      cases k; cases r2
      cases r1
      obtain ⟨its, rv, hl⟩ := isT I (same_seqT sf q)
      exact SeqAt.RcNeAt.tuple_none hl hu
  | .non, .tup es, h, k, r1, r2 => by
    cases k with
    | tup q r =>
      cases h; cases r1
      cases r2
      obtain ⟨its, rv, hl⟩ := isT I (same_seqT sf q)
      exact SeqAt.RcNeAt.none_tuple hl hu
  | .tup ds, .bl b, h, k, r1, r2 => by
    cases h with
    | tup q r =>
      cases k; cases r2
      cases r1
      obtain ⟨its, rv, hl⟩ := isT I (same_seqT sf q)
      exact SeqAt.RcNeAt.tuple_bool _ hl hu
  | .bl b, .tup es, h, k, r1, r2 => by
    cases k with
    | tup q r =>
      cases h; cases r1
      cases r2
      obtain ⟨its, rv, hl⟩ := isT I (same_seqT sf q)
      exact SeqAt.RcNeAt.bool_tuple _ hl hu
  | .tup ds, .int b, h, k, r1, r2 => by
    cases h with
    | tup q r =>
      cases k; obtain ⟨t2, rfl⟩ := r2
      cases r1
      obtain ⟨its, rv, hl⟩ := isT I (same_seqT sf q)
      exact SeqAt.RcNeAt.tuple_int _ _ hl hu
  | .int b, .tup es, h, k, r1, r2 => by
    cases k with
    | tup q r =>
      cases h; obtain ⟨t, rfl⟩ := r1
      cases r2
      obtain ⟨its, rv, hl⟩ := isT I (same_seqT sf q)
      exact SeqAt.RcNeAt.int_tuple _ _ hl hu
  | .tup ds, .str b, h, k, r1, r2 => by
    cases h with
    | tup q r =>
      cases k; obtain ⟨t2, rfl⟩ := r2
      cases r1
      obtain ⟨its, rv, hl⟩ := isT I (same_seqT sf q)
      exact SeqAt.RcNeAt.tuple_str _ _ hl hu
  | .str b, .tup es, h, k, r1, r2 => by
    cases k with
    | tup q r =>
      cases h; obtain ⟨t, rfl⟩ := r1
      cases r2
      obtain ⟨its, rv, hl⟩ := isT I (same_seqT sf q)
      exact SeqAt.RcNeAt.str_tuple _ _ hl hu
  | .lst ds, .tup es, h, k, r1, r2 => by
    cases h with
    | lst q r =>
      cases k with
      | tup q' r' =>
        cases r1
        cases r2
        obtain ⟨its, rv, hl⟩ := isL I (sf.seq q)
        obtain ⟨its', rv', hl'⟩ := isT I (same_seqT sf q')
        exact SeqAt.RcNeAt.list_tuple hl hl' hu
  | .tup ds, .lst es, h, k, r1, r2 => by
    cases h with
    | tup q r =>
      cases k with
      | lst q' r' =>
        cases r1
        cases r2
        obtain ⟨its, rv, hl⟩ := isT I (same_seqT sf q)
        obtain ⟨its', rv', hl'⟩ := isL I (sf.seq q')
        exact SeqAt.RcNeAt.tuple_list hl hl' hu
  | .lst ds, .lst es, h, k, r1, r2 => by
    cases h with
    | @lst a vs _ q r =>
      cases k with
      | @lst b ws _ q' r' =>
        cases r1
        cases r2
        obtain ⟨its, rv, hl⟩ := isL I (sf.seq q)
        obtain ⟨its', rv', hl'⟩ := isL I (sf.seq q')
        have hd : (List.range (min its.toArray.size its'.toArray.size)).all (pairEq ds es) = (List.range (min ds.length es.length)).all (pairEq ds es) := by rw [List.size_toArray, List.size_toArray, ← rv.length, ← rv'.length, r.len, r'.len]
        have he : ∀ j (h1 : j < its.toArray.size) (h2 : j < its'.toArray.size), SeqAt.EqAt A.in1 s its.toArray[j] its'.toArray[j] (pairEq ds es j) := fun j h1 h2 => by
          obtain ⟨x1, d1, e1, p1, q1⟩ := vals_at r rv j (by simpa using h1)
          obtain ⟨x2, d2, e2, p2, q2⟩ := vals_at r' rv' j (by simpa using h2)
          unfold pairEq
          rw [e1, e2]
          exact eqAt_D I sf n A.in1 hun d1 d2 x1 x2 _ _ (all_get o1 e1) (all_get o2 e2) p1 p2 (by simpa using q1) (by simpa using q2)
        have q0 : SeqAt.RcNeAt A s (.ref a) (.ref b) (!eqDs ds es) := by
          by_cases hz : ds.length = es.length
          · have hz2 : its.toArray.size = its'.toArray.size := by rw [List.size_toArray, List.size_toArray, ← rv.length, ← rv'.length, r.len, r'.len, hz]
            have q0 := SeqAt.RcNeAt.lists hl hl' hz2 hu he
            have hm : its.toArray.size = min its.toArray.size its'.toArray.size := by omega
            rw [hm, hd] at q0
            have q1 := pairs_all ds es
            have hz3 : (ds.length == es.length) = true := by simpa using hz
            rw [hz3, Bool.and_true] at q1
            rw [q1] at q0
            exact q0
          · rw [eqD_lens hz]
            exact SeqAt.RcNeAt.lists_lengths hl hl' (by rw [List.size_toArray, List.size_toArray, ← rv.length, ← rv'.length, r.len, r'.len]; simpa using hz) hu
        exact q0
  | .tup ds, .tup es, h, k, r1, r2 => by
    cases h with
    | @tup a vs _ q r =>
      cases k with
      | @tup b ws _ q' r' =>
        cases r1
        cases r2
        obtain ⟨its, rv, hl⟩ := isT I (same_seqT sf q)
        obtain ⟨its', rv', hl'⟩ := isT I (same_seqT sf q')
        have hd : (List.range (min its.toArray.size its'.toArray.size)).all (pairEq ds es) = (List.range (min ds.length es.length)).all (pairEq ds es) := by rw [List.size_toArray, List.size_toArray, ← rv.length, ← rv'.length, r.len, r'.len]
        have he : ∀ j (h1 : j < its.toArray.size) (h2 : j < its'.toArray.size), SeqAt.EqAt A.in1 s its.toArray[j] its'.toArray[j] (pairEq ds es j) := fun j h1 h2 => by
          obtain ⟨x1, d1, e1, p1, q1⟩ := vals_at r rv j (by simpa using h1)
          obtain ⟨x2, d2, e2, p2, q2⟩ := vals_at r' rv' j (by simpa using h2)
          unfold pairEq
          rw [e1, e2]
          exact eqAt_D I sf n A.in1 hun d1 d2 x1 x2 _ _ (all_get o1 e1) (all_get o2 e2) p1 p2 (by simpa using q1) (by simpa using q2)
        have q0 := SeqAt.RcNeAt.tuples hl hl' hu he
        rw [hd] at q0
        have hz : (its.toArray.size == its'.toArray.size) = (ds.length == es.length) := by rw [List.size_toArray, List.size_toArray, ← rv.length, ← rv'.length, r.len, r'.len]
        rw [hz, pairs_all] at q0
        exact q0
  | .dct _, _, _, _, _, _ => nomatch o1
  | .obj _, _, _, _, _, _ => nomatch o1
  | _, .dct _, _, _, _, _ => nomatch o2
  | _, .obj _, _, _, _, _ => nomatch o2
end
end
end Dl

set_option Elab.async false
set_option linter.all false
set_option maxRecDepth 100000
set_option maxHeartbeats 1000000
/-! The data level: == != in, built-in functions, subscripts, displays. -/
namespace Dl
open PySem PySem.Spec PyProof.Rows L2
noncomputable section

/-! ### ==, != -/
def rEqG (K : PySem.W.Frag) (neg : Bool) : R2 := fun x y H Q => ∃ F rho d e, Same F H ∧ Rep K F rho x d ∧ Rep K F rho y e ∧ okq 24 d = true ∧ okq 24 e = true ∧ Q (.bl (if neg then !eqD d e else eqD d e)) H
section
variable {X : Cx} {W : WX} {a b : Expr} {ma mb : M D} {pos : Pos}
theorem op_eqG (hu : X.A.units + 64 < cLine) : OpR X (compareOp .Eq) (rEqG X.K false) := by
  intro pins s σ H x y v u Q I rx ry ⟨F, rho, d, e, sf, h, k, o1, o2, q⟩
  exact rc_D I sf 23 X.A (by omega) d e x y v u o1 o2 h k rx ry X.prog X.w _ _ ⟨.bl _, H, I, rfl, q⟩
theorem op_neG (hu : X.A.units + 64 < cLine) : OpR X (compareOp .NotEq) (rEqG X.K true) := by
  intro pins s σ H x y v u Q I rx ry ⟨F, rho, d, e, sf, h, k, o1, o2, q⟩
  exact rcNe_D I sf 23 X.A (by omega) d e x y v u o1 o2 h k rx ry X.prog X.w _ _ ⟨.bl _, H, I, rfl, q⟩
theorem op2_eq {K : PySem.W.Frag} {mg : Ev} : Op2 K mg (rEqG K false) eqM := by
  intro x y d e G en so σ H W Q rx ry s p
  obtain ⟨⟨h1, h2⟩, p⟩ := Post.gd p
  exact ⟨_, _, d, e, s.toSimO.rep, rx, ry, h1, h2, p.ok s (.bl _)⟩
theorem op2_ne {K : PySem.W.Frag} {mg : Ev} : Op2 K mg (rEqG K true) neM := by
  intro x y d e G en so σ H W Q rx ry s p
  obtain ⟨⟨h1, h2⟩, p⟩ := Post.gd p
  exact ⟨_, _, d, e, s.toSimO.rep, rx, ry, h1, h2, p.ok s (.bl _)⟩
end

/-! ### in, not in -/
def inD (d : D) : D → M D
  | .str z => match d with
    | .str [c] => pu (.bl (decide (c ∈ z)))
    | _ => no
  | .lst xs => gd (okq 23 d = true ∧ xs.all (okq 23) = true) (pu (.bl (xs.any fun z => eqD z d)))
  | .tup xs => gd (okq 23 d = true ∧ xs.all (okq 23) = true) (pu (.bl (xs.any fun z => eqD z d)))
  | _ => no
def niD (d : D) : D → M D
  | .str z => match d with
    | .str [c] => pu (.bl (!decide (c ∈ z)))
    | _ => no
  | .lst xs => gd (okq 23 d = true ∧ xs.all (okq 23) = true) (pu (.bl (!xs.any fun z => eqD z d)))
  | .tup xs => gd (okq 23 d = true ∧ xs.all (okq 23) = true) (pu (.bl (!xs.any fun z => eqD z d)))
  | _ => no
def rInG (K : PySem.W.Frag) (neg : Bool) : R2 := fun x y H Q => ∃ F rho d a vs ds, Same F H ∧ Rep K F rho x d ∧ y = .ref a ∧ (SqL K F a vs ∨ SqT K F a vs) ∧ Reps K F rho vs ds ∧ okq 23 d = true ∧ ds.all (okq 23) = true ∧ Q (.bl (if neg then !ds.any (fun z => eqD z d) else ds.any fun z => eqD z d)) H
section
variable {X : Cx} {pins : List (Addr × Obj)} {σ : L2.St} {H F : Hp} {s : Shared} {rho : List (Addr × Addr)}
/-- the test of an item, by values -/
def itemEq (K : PySem.W.Frag) (F : Hp) (rho : List (Addr × Addr)) (its : List Value) (ds : List D) (d : D) (y : Value) : Bool :=
  @decide (∃ (j : Nat) (x : V) (z : D), its[j]? = some y ∧ ds[j]? = some z ∧ Rep K F rho x z ∧ L2.RelV x y ∧ eqD z d = true) (Classical.propDecidable _)
theorem itemEq_any {K : PySem.W.Frag} {vs : List V} {ds : List D} {its : List Value} {d : D} (r : Reps K F rho vs ds) (v : Vals vs its) : its.any (itemEq K F rho its ds d) = ds.any fun z => eqD z d := by
  rw [Bool.eq_iff_iff, List.any_eq_true, List.any_eq_true]
  constructor
  · rintro ⟨y, _, h⟩
    obtain ⟨j, x, z, e1, e2, _, _, h⟩ := @of_decide_eq_true _ (Classical.propDecidable _) h
    exact ⟨z, List.mem_of_getElem? e2, h⟩
  · rintro ⟨z, hz, h⟩
    obtain ⟨j, hj, e⟩ := List.getElem_of_mem hz
    have hl : j < its.length := by rw [← v.length, r.len]; exact hj
    obtain ⟨x, z', e2, e3, e4⟩ := vals_at r v j hl
    rw [List.getElem?_eq_getElem hj] at e2
    cases e2
    refine ⟨its[j], List.getElem_mem hl, ?_⟩
    exact @decide_eq_true _ (Classical.propDecidable _) ⟨j, x, ds[j], List.getElem?_eq_getElem hl, List.getElem?_eq_getElem hj, e3, e4, by rw [e]; exact h⟩
theorem itemEq_at (I : Inv X pins σ H s) (sf : Same F H) {A : Around} (hu : A.units + 64 < cLine) {vs : List V} {ds : List D} {its : List Value} {d : D} {x : V} {u : Value} (r : Reps X.K F rho vs ds) (v : Vals vs its) (hd : Rep X.K F rho x d) (rx : L2.RelV x u) (o1 : okq 23 d = true) (o2 : ds.all (okq 23) = true) :
    ∀ y, y ∈ its.toArray → SeqAt.EqAt A.in1 s y u (itemEq X.K F rho its ds d y) := by
  intro y hy
  have hn : A.in1.units + 23 < cLine := by rw [units1]; omega
  cases hb : itemEq X.K F rho its ds d y with
  | true =>
    obtain ⟨j, x', z, e1, e2, e3, e4, e5⟩ := @of_decide_eq_true _ (Classical.propDecidable _) hb
    have q := eqAt_D I sf 23 A.in1 hn z d x' x y u (all_get o2 e2) o1 e3 hd e4 rx
    rw [e5] at q
    exact q
  | false =>
    have hy' : y ∈ its := by simpa using hy
    obtain ⟨j, hj, e⟩ := List.getElem_of_mem hy'
    obtain ⟨x', z, e2, e3, e4⟩ := vals_at r v j hj
    have q := eqAt_D I sf 23 A.in1 hn z d x' x its[j] u (all_get o2 e2) o1 e3 hd e4 rx
    have hf : eqD z d = false := by
      cases hz : eqD z d with
      | false => rfl
      | true =>
        have : itemEq X.K F rho its ds d y = true := @decide_eq_true _ (Classical.propDecidable _) ⟨j, x', z, by rw [List.getElem?_eq_getElem hj, e], e2, e3, e ▸ e4, hz⟩
        rw [hb] at this
        cases this
    rw [hf, e] at q
    exact q
end
section
variable {X : Cx}
theorem op_inG (hu : X.A.units + 64 < cLine) : OpR X (compareOp .In) (rInG X.K false) := by
  intro pins s σ H x y v u Q I rx ry ⟨F, rho, d, a, vs, ds, sf, h, e, hs, r, o1, o2, q⟩
  subst e
  cases ry
  rcases hs with hs | hs
  · obtain ⟨its, rv, hl⟩ := isL I (sf.seq hs)
    refine SeqAt.in_listAt _ hl (itemEq_at I sf hu r rv h rx o1 o2) ?_
    refine ⟨.bl _, H, I, rfl, ?_⟩
    have e := itemEq_any (d := d) r rv
    rw [List.any_toArray, e]
    exact q
  · obtain ⟨its, rv, hl⟩ := isT I (same_seqT sf hs)
    refine SeqAt.in_tupleAt _ hl (itemEq_at I sf hu r rv h rx o1 o2) ?_
    refine ⟨.bl _, H, I, rfl, ?_⟩
    have e := itemEq_any (d := d) r rv
    rw [List.any_toArray, e]
    exact q
theorem op_niG (hu : X.A.units + 64 < cLine) : OpR X (compareOp .NotIn) (rInG X.K true) := by
  intro pins s σ H x y v u Q I rx ry ⟨F, rho, d, a, vs, ds, sf, h, e, hs, r, o1, o2, q⟩
  subst e
  cases ry
  rcases hs with hs | hs
  · obtain ⟨its, rv, hl⟩ := isL I (sf.seq hs)
    refine SeqAt.notIn_listAt _ hl (itemEq_at I sf hu r rv h rx o1 o2) ?_
    refine ⟨.bl _, H, I, rfl, ?_⟩
    have e := itemEq_any (d := d) r rv
    rw [List.any_toArray, e]
    exact q
  · obtain ⟨its, rv, hl⟩ := isT I (same_seqT sf hs)
    refine SeqAt.notIn_tupleAt _ hl (itemEq_at I sf hu r rv h rx o1 o2) ?_
    refine ⟨.bl _, H, I, rfl, ?_⟩
    have e := itemEq_any (d := d) r rv
    rw [List.any_toArray, e]
    exact q
abbrev rInS : R2 := fun x y H Q => ∃ (c : Nat) (z : Str), x = .str ⟨#[c]⟩ ∧ y = .str z ∧ Q (.bl (decide (c ∈ z.cps.toList))) H
abbrev rNiS : R2 := fun x y H Q => ∃ (c : Nat) (z : Str), x = .str ⟨#[c]⟩ ∧ y = .str z ∧ Q (.bl (!decide (c ∈ z.cps.toList))) H
theorem op_inA (hu : X.A.units + 64 < cLine) : OpR X (compareOp .In) (fun x y H Q => rInS x y H Q ∨ rInG X.K false x y H Q) := OpR.or op_in_sign (op_inG hu)
theorem op_niA (hu : X.A.units + 64 < cLine) : OpR X (compareOp .NotIn) (fun x y H Q => rNiS x y H Q ∨ rInG X.K true x y H Q) := OpR.or op_notIn_sign (op_niG hu)
theorem op2_in {K : PySem.W.Frag} {mg : Ev} : Op2 K mg (fun x y H Q => rInS x y H Q ∨ rInG K false x y H Q) inD := by
  intro x y d e G en so σ H W Q rx ry s p
  cases ry with
  | str z =>
    cases d with
    | str c =>
      match c, rx, p with
      | [], _, p => exact False.elim p
      | [c], rx, p =>
        cases rx
        refine .inl ⟨c, sT z, rfl, rfl, ?_⟩
        rw [tl_sT]
        exact p.ok s (.bl _)
      | _ :: _ :: _, _, p => exact False.elim p
    | _ => exact False.elim p
  | lst h r =>
    obtain ⟨⟨h1, h2⟩, p⟩ := Post.gd p
    exact .inr ⟨_, _, d, _, _, _, s.toSimO.rep, rx, rfl, .inl h, r, h1, h2, p.ok s (.bl _)⟩
  | tup h r =>
    obtain ⟨⟨h1, h2⟩, p⟩ := Post.gd p
    exact .inr ⟨_, _, d, _, _, _, s.toSimO.rep, rx, rfl, .inr h, r, h1, h2, p.ok s (.bl _)⟩
  | _ => exact False.elim p
theorem op2_ni {K : PySem.W.Frag} {mg : Ev} : Op2 K mg (fun x y H Q => rNiS x y H Q ∨ rInG K true x y H Q) niD := by
  intro x y d e G en so σ H W Q rx ry s p
  cases ry with
  | str z =>
    cases d with
    | str c =>
      match c, rx, p with
      | [], _, p => exact False.elim p
      | [c], rx, p =>
        cases rx
        refine .inl ⟨c, sT z, rfl, rfl, ?_⟩
        rw [tl_sT]
        exact p.ok s (.bl _)
      | _ :: _ :: _, _, p => exact False.elim p
    | _ => exact False.elim p
  | lst h r =>
    obtain ⟨⟨h1, h2⟩, p⟩ := Post.gd p
    exact .inr ⟨_, _, d, _, _, _, s.toSimO.rep, rx, rfl, .inl h, r, h1, h2, p.ok s (.bl _)⟩
  | tup h r =>
    obtain ⟨⟨h1, h2⟩, p⟩ := Post.gd p
    exact .inr ⟨_, _, d, _, _, _, s.toSimO.rep, rx, rfl, .inr h, r, h1, h2, p.ok s (.bl _)⟩
  | _ => exact False.elim p
end

/-! ### built-in functions -/
def lenD : List D → M D
  | [.str s] => gd (s.length ≤ 16777216) (pu (.int s.length))
  | [.lst xs] => pu (.int xs.length)
  | [.tup xs] => pu (.int xs.length)
  | _ => no
def absD : List D → M D
  | [.int i] => pu (.int (if i < 0 then -i else i))
  | _ => no
def intD : List D → M D
  | [.int i] => pu (.int i)
  | [.bl b] => pu (.int (if b then 1 else 0))
  | _ => no
def ordD : List D → M D
  | [.str [c]] => pu (.int c)
  | _ => no
/-- a list of truth values -/
def blsOf : List D → Option (List Bool)
  | [] => some []
  | .bl b :: r => (blsOf r).map (b :: ·)
  | _ => none
def allD : List D → M D
  | [.lst xs] => match blsOf xs with
    | some bs => pu (.bl (bs.all id))
    | none => no
  | _ => no
def anyD : List D → M D
  | [.lst xs] => match blsOf xs with
    | some bs => pu (.bl (bs.any id))
    | none => no
  | _ => no
section
variable {K : PySem.W.Frag} {mg : Ev}
theorem reps1 {F : Hp} {rho : List (Addr × Addr)} {xs : List V} {d : D} (r : Reps K F rho xs [d]) : ∃ x, xs = [x] ∧ Rep K F rho x d := by
  cases r with
  | cons h r => cases r; exact ⟨_, rfl, h⟩
theorem opn_len : OpN K mg (fun xs H Q => ∃ x n, xs = [x] ∧ LenV K x H n ∧ Q (.int n) H) lenD := by
  intro xs ds G en so σ H W Q r s p
  match ds, r, p with
  | [d], r, p =>
    obtain ⟨x, rfl, h⟩ := reps1 r
    cases h with
    | str z =>
      obtain ⟨h1, p⟩ := Post.gd (c := z.length ≤ 16777216) p
      exact ⟨_, z.length, rfl, ⟨by rw [sT_len, sizeLine_eq]; exact h1, (sT_len z).symm⟩, p.ok s (.int _)⟩
    | lst h r2 => exact ⟨_, _, rfl, .inl ⟨_, s.toSimO.rep.seq h, rfl⟩, by rw [r2.len]; exact p.ok s (.int _)⟩
    | tup h r2 => exact ⟨_, _, rfl, .inr ⟨_, same_seqT s.toSimO.rep h, rfl⟩, by rw [r2.len]; exact p.ok s (.int _)⟩
    | _ => exact False.elim p
  | [], _, p => exact False.elim p
  | d :: _ :: _, _, p => cases d <;> exact False.elim p
theorem opn_abs : OpN K mg (fun xs H Q => ∃ i, xs = [.int i] ∧ Q (.int (if i < 0 then -i else i)) H) absD := by
  intro xs ds G en so σ H W Q r s p
  match ds, r, p with
  | [d], r, p =>
    obtain ⟨x, rfl, h⟩ := reps1 r
    cases h with
    | int i => exact ⟨i, rfl, p.ok s (.int _)⟩
    | _ => exact False.elim p
  | [], _, p => exact False.elim p
  | d :: _ :: _, _, p => cases d <;> exact False.elim p
theorem opn_int : OpN K mg (fun xs H Q => (∃ i, xs = [.int i] ∧ Q (.int i) H) ∨ ∃ k, xs = [.bl k] ∧ Q (.int (if k then 1 else 0)) H) intD := by
  intro xs ds G en so σ H W Q r s p
  match ds, r, p with
  | [d], r, p =>
    obtain ⟨x, rfl, h⟩ := reps1 r
    cases h with
    | int i => exact .inl ⟨i, rfl, p.ok s (.int _)⟩
    | bl i => exact .inr ⟨i, rfl, p.ok s (.int _)⟩
    | _ => exact False.elim p
  | [], _, p => exact False.elim p
  | d :: _ :: _, _, p => cases d <;> exact False.elim p
theorem opn_ord : OpN K mg (fun xs H Q => ∃ x, xs = [.str x] ∧ x.length = 1 ∧ Q (.int (x.cps.getD 0 0 : Nat)) H) ordD := by
  intro xs ds G en so σ H W Q r s p
  match ds, r, p with
  | [.str [c]], r, p =>
    obtain ⟨x, rfl, h⟩ := reps1 r
    cases h
    exact ⟨_, rfl, rfl, p.ok s (.int _)⟩
  | [.str []], _, p => exact False.elim p
  | [.str (_ :: _ :: _)], _, p => exact False.elim p
  | [.non], _, p => exact False.elim p
  | [.bl _], _, p => exact False.elim p
  | [.int _], _, p => exact False.elim p
  | [.lst _], _, p => exact False.elim p
  | [.tup _], _, p => exact False.elim p
  | [.dct _], _, p => exact False.elim p
  | [.obj _], _, p => exact False.elim p
  | [], _, p => exact False.elim p
  | .str [] :: _ :: _, _, p => exact False.elim p
  | .str [_] :: _ :: _, _, p => exact False.elim p
  | .str (_ :: _ :: _) :: _ :: _, _, p => exact False.elim p
  | .non :: _ :: _, _, p => exact False.elim p
  | .bl _ :: _ :: _, _, p => exact False.elim p
  | .int _ :: _ :: _, _, p => exact False.elim p
  | .lst _ :: _ :: _, _, p => exact False.elim p
  | .tup _ :: _ :: _, _, p => exact False.elim p
  | .dct _ :: _ :: _, _, p => exact False.elim p
  | .obj _ :: _ :: _, _, p => exact False.elim p
theorem bls_of {F : Hp} {rho : List (Addr × Addr)} : ∀ {vs : List V} {ds : List D} {bs : List Bool}, Reps K F rho vs ds → blsOf ds = some bs → vs = bs.map V.bl
  | _, [], bs, .nil, e => by cases e; rfl
  | _, .bl b :: r, bs, .cons h k, e => by
    cases h
    have e' : (blsOf r).map (b :: ·) = some bs := e
    cases q : blsOf r with
    | none => rw [q] at e'; cases e'
    | some bs' =>
      rw [q] at e'
      cases e'
      rw [bls_of k q]
      rfl
  | _, .non :: _, _, _, e => nomatch e
  | _, .int _ :: _, _, _, e => nomatch e
  | _, .str _ :: _, _, _, e => nomatch e
  | _, .lst _ :: _, _, _, e => nomatch e
  | _, .tup _ :: _, _, _, e => nomatch e
  | _, .dct _ :: _, _, _, e => nomatch e
  | _, .obj _ :: _, _, _, e => nomatch e
theorem opn_all : OpN K mg (rAll K) allD := by
  intro xs ds G en so σ H W Q r s p
  match ds, r, p with
  | [.lst zs], r, p =>
    obtain ⟨x, rfl, h⟩ := reps1 r
    cases h with
    | lst h r2 =>
      have p' : Post K mg G W (rlD K) σ ((match blsOf zs with | some bs => (pu (D.bl (bs.all id)) : M D) | none => no) en so) Q := p
      cases e : blsOf zs with
      | none => rw [e] at p'; exact False.elim p'
      | some bs =>
        rw [e] at p'
        refine ⟨_, bs, rfl, ?_, p'.ok s (.bl _)⟩
        rw [← bls_of r2 e]
        exact s.toSimO.rep.seq h
  | [], _, p => exact False.elim p
  | [.non], _, p => exact False.elim p
  | [.bl _], _, p => exact False.elim p
  | [.int _], _, p => exact False.elim p
  | [.str _], _, p => exact False.elim p
  | [.tup _], _, p => exact False.elim p
  | [.dct _], _, p => exact False.elim p
  | [.obj _], _, p => exact False.elim p
  | d :: _ :: _, _, p => cases d <;> exact False.elim p
theorem opn_any : OpN K mg (rAny K) anyD := by
  intro xs ds G en so σ H W Q r s p
  match ds, r, p with
  | [.lst zs], r, p =>
    obtain ⟨x, rfl, h⟩ := reps1 r
    cases h with
    | lst h r2 =>
      have p' : Post K mg G W (rlD K) σ ((match blsOf zs with | some bs => (pu (D.bl (bs.any id)) : M D) | none => no) en so) Q := p
      cases e : blsOf zs with
      | none => rw [e] at p'; exact False.elim p'
      | some bs =>
        rw [e] at p'
        refine ⟨_, bs, rfl, ?_, p'.ok s (.bl _)⟩
        rw [← bls_of r2 e]
        exact s.toSimO.rep.seq h
  | [], _, p => exact False.elim p
  | [.non], _, p => exact False.elim p
  | [.bl _], _, p => exact False.elim p
  | [.int _], _, p => exact False.elim p
  | [.str _], _, p => exact False.elim p
  | [.tup _], _, p => exact False.elim p
  | [.dct _], _, p => exact False.elim p
  | [.obj _], _, p => exact False.elim p
  | d :: _ :: _, _, p => cases d <;> exact False.elim p
end
end
end Dl

set_option Elab.async false
set_option linter.all false
set_option maxRecDepth 100000
set_option maxHeartbeats 1000000
/-! The data level: isinstance, subscripts, slices, displays, what is walked, comprehensions. -/
namespace Dl
open PySem PySem.Spec PyProof.Rows L2
noncomputable section

/-! ### isinstance against built-in classes -/
inductive TyN where
  | bool | int | str | list | tuple | dict
def TyN.nm : TyN → String
  | .bool => "bool"
  | .int => "int"
  | .str => "str"
  | .list => "list"
  | .tuple => "tuple"
  | .dict => "dict"
def isD : TyN → D → Bool
  | .bool, .bl _ => true
  | .int, .bl _ => true
  | .int, .int _ => true
  | .str, .str _ => true
  | .list, .lst _ => true
  | .tuple, .tup _ => true
  | .dict, .dct _ => true
  | _, _ => false
def mIs (T : TyN) (m : M D) : M D := bd m fun d => match d with
  | .obj _ => no
  | d => pu (.bl (isD T d))
def tyS : D → String
  | .non => "NoneType"
  | .bl _ => "bool"
  | .int _ => "int"
  | .str _ => "str"
  | .lst _ => "list"
  | .tup _ => "tuple"
  | .dct _ => "dict"
  | .obj _ => ""
theorem kit_all (T : TyN) (n : String) (h : n = "NoneType" ∨ n = "bool" ∨ n = "int" ∨ n = "str" ∨ n = "list" ∨ n = "tuple" ∨ n = "dict") : kitB n T.nm = some (n == T.nm || (n == "bool" && T.nm == "int")) := by
  rcases h with h | h | h | h | h | h | h <;> subst h <;> cases T <;> decide +kernel
theorem isD_eq (T : TyN) (d : D) (h : ∀ k, d ≠ .obj k) : (tyS d == T.nm || (tyS d == "bool" && T.nm == "int")) = isD T d := by
  cases d <;> cases T <;> first | rfl | decide | exact absurd rfl (h _)
section
variable {X : Cx} {W : WX} {a b c e : Expr} {ma mb mc m : M D} {ms : M (List D)} {pos p px : Pos} {x : Str}
theorem tyx_of {K : PySem.W.Frag} {F H : Hp} {rho : List (Addr × Addr)} {v : V} {d : D} (sf : Same F H) (r : Rep K F rho v d) (h : ∀ k, d ≠ .obj k) : TyX K H v (.type (tyS d)) := by
  cases r with
  | non => exact .base .non
  | bl b => exact .base (.bl b)
  | int b => exact .base (.int b)
  | str b => exact .base (.str _)
  | lst q r =>
    rcases sf.seq q with (q | ⟨o, q⟩) | ⟨o, its, n, q, c, _⟩
    · exact .base (.lst q)
    · exact .base (.frz q)
    · exact .kList q c
  | tup q r =>
    rcases same_seqT sf q with (q | ⟨o, q⟩) | ⟨o, its, n, q, c, _⟩
    · exact .base (.tup q)
    · exact .fTuple q
    · exact .kTuple q c
  | dct q r =>
    rcases same_rd sf q with q | ⟨o, q⟩
    · exact .base (.dK q)
    · exact .fDict q
  | obj q => exact absurd rfl (h _)
theorem tyS_known (d : D) (h : ∀ k, d ≠ .obj k) : tyS d = "NoneType" ∨ tyS d = "bool" ∨ tyS d = "int" ∨ tyS d = "str" ∨ tyS d = "list" ∨ tyS d = "tuple" ∨ tyS d = "dict" := by
  cases d <;> simp [tyS]
  exact absurd rfl (h _)
/-- isinstance(e, T) -/
theorem d_is (T : TyN) (ha : DE X W e m) (hg : Gl X "isinstance") (hm : X.mg "isinstance" = none) (hgT : Gl X x) (hmT : X.mg x = none) (hvT : bootBuiltins x = some (.type T.nm))
    (he : starEach [e, .Name x px] X.env = (false, eval e X.env) :: starEach [.Name x px] X.env := by rfl) (hpl : (backTo pos (starEach [.Name x px] X.env)).any (·.1) = false := by rfl) (hn : x ≠ "__name__" := by decide) (hd : (x == ("__debug__" : Str)) = false := by decide) : DE X W (.Call (.Name "isinstance" p) [e, .Name x px] [] pos) (mIs T m) := by
  refine ⟨PE_imp (pe_callB call_isi hg hm boot_isinstance (pa_cons ha.pe (pa_cons (pe_bltn hgT hmT hvT (v := .ty T.nm) rfl hn hd) pa_nil) he) (he := he) (hpl := hpl)) fun σ H Q q => ?_⟩
  obtain ⟨G, en, so, s, p⟩ := q
  refine ⟨G, en, so, s, (Post.bind (R1 := rlD X.K) p).imp fun v H1 ⟨G1, en1, so1, d, l, r1, s1, p1⟩ => ?_⟩
  have nob : ∀ k, d ≠ .obj k := fun k z => by subst z; exact False.elim p1
  have p2 : Q (.bl (isD T d)) H1 := by
    cases d <;> first | exact p1.ok s1 (.bl _) | exact absurd rfl (nob _)
  refine ⟨v, .ty T.nm, .type (tyS d), .type T.nm, isD T d, rfl, .ty _, tyx_of s1.toSimO.rep r1 nob, ?_, p2⟩
  rw [← isD_eq T d nob]
  exact kit_ty (kit_all T _ (tyS_known d nob))
end

/-! ### items -/
def ixD : D → D → M D
  | .lst xs, .int i => match atI xs i with
    | some d => pu d
    | none => no
  | .tup xs, .int i => match atI xs i with
    | some d => pu d
    | none => no
  | .str s, .int i => gd (s.length ≤ 16777216) (match atI s i with
    | some c => pu (.str [c])
    | none => no)
  | _, _ => no
theorem reps_at {K : PySem.W.Frag} {F : Hp} {rho : List (Addr × Addr)} : ∀ {vs : List V} {ds : List D} {j : Nat} {d : D}, Reps K F rho vs ds → ds[j]? = some d → ∃ v, vs[j]? = some v ∧ Rep K F rho v d
  | _, _, _, _, .nil, e => nomatch e
  | _, _, 0, _, .cons h _, e => by cases e; exact ⟨_, rfl, h⟩
  | _, _, j + 1, _, .cons _ r, e => by
    obtain ⟨v, h1, h2⟩ := reps_at (j := j) r (by simpa using e)
    exact ⟨v, by simpa using h1, h2⟩
theorem reps_atI {K : PySem.W.Frag} {F : Hp} {rho : List (Addr × Addr)} {vs : List V} {ds : List D} {i : Int} {d : D} (r : Reps K F rho vs ds) (e : atI ds i = some d) : ∃ v, atI vs i = some v ∧ Rep K F rho v d := by
  unfold atI at e ⊢
  rw [r.len]
  cases q : ixN ds.length i with
  | none => rw [q] at e; cases e
  | some j =>
    rw [q] at e
    exact reps_at r e
section
variable {K : PySem.W.Frag} {mg : Ev} {X : Cx} {W : WX} {a b c e : Expr} {ma mb mc m : M D} {ms : M (List D)} {pos p px : Pos} {x : Str}
theorem op2_ix : Op2 K mg (rIx K) ixD := by
  intro x y d e G en so σ H W Q rx ry s p
  cases rx with
  | lst h r =>
    cases ry with
    | int i =>
      rename_i ds
      have p' : Post K mg G W (rlD K) σ ((match atI ds i with | some d => (pu d : M D) | none => no) en so) Q := p
      cases q : atI ds i with
      | none => rw [q] at p'; exact False.elim p'
      | some d =>
        rw [q] at p'
        obtain ⟨v, h1, h2⟩ := reps_atI r q
        exact .inl ⟨_, _, i, v, rfl, rfl, s.toSimO.rep.seq h, h1, p'.ok s h2⟩
    | _ => exact False.elim p
  | tup h r =>
    cases ry with
    | int i =>
      rename_i ds
      have p' : Post K mg G W (rlD K) σ ((match atI ds i with | some d => (pu d : M D) | none => no) en so) Q := p
      cases q : atI ds i with
      | none => rw [q] at p'; exact False.elim p'
      | some d =>
        rw [q] at p'
        obtain ⟨v, h1, h2⟩ := reps_atI r q
        exact .inr (.inl ⟨_, _, i, v, rfl, rfl, same_seqT s.toSimO.rep h, h1, p'.ok s h2⟩)
    | _ => exact False.elim p
  | str z =>
    cases ry with
    | int i =>
      obtain ⟨h1, p'⟩ := Post.gd (c := z.length ≤ 16777216) (m := (match atI z i with | some c => (pu (.str [c]) : M D) | none => no)) p
      cases q : atI z i with
      | none => rw [q] at p'; exact False.elim p'
      | some c =>
        rw [q] at p'
        refine .inr (.inr ⟨_, i, c, rfl, rfl, by rw [sT_len, sizeLine_eq]; exact h1, by rw [tl_sT]; exact q, p'.ok s (.str [c])⟩)
    | _ => exact False.elim p
  | _ => cases ry <;> exact False.elim p
theorem d_ix (ha : DE X W a ma) (hb : DE X W b mb) (hs : PlainIx b := by intro _ _; rfl) : DE X W (.Subscript a b pos) (m2 ixD ma mb) :=
  ⟨PE_imp (pe_ix ix_seq ha.pe hb.pe hs) fun _ _ _ q => two op2_ix q⟩
end

/-! ### slices -/
structure DO (X : Cx) (W : WX) (e : Option Expr) (m : M (Option Int)) : Prop where
  po : PO X e (tM X.K X.ev W (fun _ _ a b => a = b) m)
def oN : M (Option Int) := pu none
def oS (m : M D) : M (Option Int) := bd m fun d => match d with
  | .int i => pu (some i)
  | _ => no
def cutL {A : Type} (l : List A) (lo hi : Option Int) : List A := (l.drop (HT.sIx l.length 0 lo)).take (HT.sIx l.length l.length hi - HT.sIx l.length 0 lo)
def slS : D → Option Int → Option Int → M D
  | .str s, lo, hi => gd (s.length ≤ 16777216) (pu (.str (cutL s lo hi)))
  | _, _, _ => no
def slL : D → Option Int → Option Int → M B
  | .lst xs, lo, hi => pu (.cel (.lst (cutL xs lo hi)))
  | _, _, _ => no
def mSl {A : Type} (f : D → Option Int → Option Int → M A) (m : M D) (lo hi : M (Option Int)) : M A := bd m fun d => bd lo fun l => bd hi fun h => f d l h
section
variable {K : PySem.W.Frag} {mg : Ev} {X : Cx} {W : WX} {a b c e : Expr} {ma mb mc m : M D} {ml mh : M (Option Int)} {lo hi : Option Expr} {pos p p2 : Pos} {x : Str}
theorem PO_imp {e : Option Expr} {t t' : TO} (h : PO X e t) (f : ∀ σ H Q, t' σ H Q → t σ H Q) : PO X e t' := ⟨fun pins s σ H Q I q => h.run pins s σ H Q I (f σ H Q q)⟩
theorem o_none : DO X W none oN := ⟨PO_imp po_none fun σ H Q ⟨G, en, so, s, p⟩ => Post.ok p s rfl⟩
theorem o_some (h : DE X W e m) : DO X W (some e) (oS m) := by
  refine ⟨PO_imp (po_some h.pe) fun σ H Q ⟨G, en, so, s, p⟩ => ?_⟩
  refine ⟨G, en, so, s, (Post.bind (R1 := rlD X.K) p).imp fun v H1 ⟨G1, en1, so1, d, l, r1, s1, p1⟩ => ?_⟩
  cases r1 with
  | int i => exact ⟨i, rfl, p1.ok s1 rfl⟩
  | _ => exact False.elim p1
theorem cutS_cutL (s : List Nat) (lo hi : Option Int) : cutS (sT s) lo hi = sT (cutL s lo hi) := by
  unfold cutS cutL
  rw [sT_len, tl_sT]
  rfl
theorem reps_drop {F : Hp} {rho : List (Addr × Addr)} : ∀ {vs : List V} {ds : List D} (n : Nat), Reps K F rho vs ds → Reps K F rho (vs.drop n) (ds.drop n)
  | _, _, 0, r => r
  | _, _, _ + 1, .nil => .nil
  | _, _, n + 1, .cons _ r => reps_drop n r
theorem reps_take {F : Hp} {rho : List (Addr × Addr)} : ∀ {vs : List V} {ds : List D} (n : Nat), Reps K F rho vs ds → Reps K F rho (vs.take n) (ds.take n)
  | _, _, 0, _ => .nil
  | _, _, _ + 1, .nil => .nil
  | _, _, n + 1, .cons h r => .cons h (reps_take n r)
theorem reps_cut {F : Hp} {rho : List (Addr × Addr)} {vs : List V} {ds : List D} (r : Reps K F rho vs ds) (lo hi : Option Int) : Reps K F rho (cutV vs lo hi) (cutL ds lo hi) := by
  unfold cutV cutL
  rw [r.len]
  exact reps_take _ (reps_drop _ r)
theorem d_slS (ha : DE X W a ma) (hl : DO X W lo ml) (hh : DO X W hi mh) : DE X W (.Subscript a (.Slice lo hi none p2) pos) (mSl slS ma ml mh) := by
  refine ⟨PE_imp (pe_slice sl_str ha.pe hl.po hh.po) fun σ H Q ⟨G, en, so, s, p⟩ => ?_⟩
  refine ⟨G, en, so, s, (Post.bind (R1 := rlD X.K) p).imp fun v H1 ⟨G1, en1, so1, d, _, r1, s1, p1⟩ => ⟨G1, en1, so1, s1, (Post.bind (R1 := fun _ _ a b => a = b) p1).imp fun y H2 ⟨G2, en2, so2, l, l2, r2, s2, p2⟩ => ⟨G2, en2, so2, s2, (Post.bind (R1 := fun _ _ a b => a = b) p2).imp fun z H3 ⟨G3, en3, so3, h, l3, r3, s3, p3⟩ => ?_⟩⟩⟩
  subst r2
  subst r3
  cases r1 with
  | str t =>
    obtain ⟨h1, p3⟩ := Post.gd (c := t.length ≤ 16777216) p3
    refine ⟨_, rfl, by rw [sT_len, sizeLine_eq]; exact h1, ?_⟩
    rw [cutS_cutL]
    exact p3.ok s3 (.str _)
  | _ => exact False.elim p3
theorem b_slL (ha : DE X W a ma) (hl : DO X W lo ml) (hh : DO X W hi mh) : DB X W (.Subscript a (.Slice lo hi none p2) pos) (mSl slL ma ml mh) := by
  refine ⟨PE_imp (pe_slice sl_list ha.pe hl.po hh.po) fun σ H Q ⟨G, en, so, s, p⟩ => ?_⟩
  refine ⟨G, en, so, s, (Post.bind (R1 := rlD X.K) p).imp fun v H1 ⟨G1, en1, so1, d, _, r1, s1, p1⟩ => ⟨G1, en1, so1, s1, (Post.bind (R1 := fun _ _ a b => a = b) p1).imp fun y H2 ⟨G2, en2, so2, l, l2, r2, s2, p2⟩ => ⟨G2, en2, so2, s2, (Post.bind (R1 := fun _ _ a b => a = b) p2).imp fun z H3 ⟨G3, en3, so3, h, l3, r3, s3, p3⟩ => ?_⟩⟩⟩
  subst r2
  subst r3
  have ru := r1.up (l2.trans l3)
  cases ru with
  | lst q r =>
    refine ⟨_, _, rfl, s3.toSimO.rep.seq q, fun p hp => ?_⟩
    exact p3.ok' (tag_le p .tmp) (s3.newT (t := .tmp) hp) ⟨p, rfl, tag_own, _, upd_same, reps_cut r _ _⟩
  | _ => exact False.elim p3
end

/-! ### displays -/
section
variable {X : Cx} {W : WX} {a b c e : Expr} {ma mb mc m : M D} {ms : M (List D)} {es : List Expr} {pos p p2 : Pos} {x1}
def mTup (ms : M (List D)) : M D := bd ms fun ds => gd (ds.length ≤ 16777216) (pu (.tup ds))
def mLst (ms : M (List D)) : M B := bd ms fun ds => gd (ds.length ≤ 16777216) (pu (.cel (.lst ds)))
theorem d_tup (h : DA X W es ms) : DE X W (.Tuple es x1 pos) (mTup ms) := by
  refine ⟨PE_imp (pe_tup h.pa) fun σ H Q ⟨G, en, so, s, p⟩ => ?_⟩
  refine ⟨G, en, so, s, (Post.bind (R1 := rlDs X.K) p).imp fun v H1 ⟨G1, en1, so1, ds, l, r1, s1, p1⟩ => ?_⟩
  obtain ⟨h1, p1⟩ := Post.gd p1
  refine ⟨by rw [r1.len, sizeLine_eq]; exact h1, fun q hq => ?_⟩
  obtain ⟨s2, l2⟩ := s1.newF (o := .tup v) hq
  exact p1.ok' l2 s2 (.tup (.inl (.inl (show upd G1.F q _ q = _ from upd_same))) (r1.up l2))
theorem b_lst (h : DA X W es ms) : DB X W (.List es pos) (mLst ms) := by
  refine ⟨PE_imp (pe_lst h.pa) fun σ H Q ⟨G, en, so, s, p⟩ => ?_⟩
  refine ⟨G, en, so, s, (Post.bind (R1 := rlDs X.K) p).imp fun v H1 ⟨G1, en1, so1, ds, l, r1, s1, p1⟩ => ?_⟩
  obtain ⟨h1, p1⟩ := Post.gd p1
  refine ⟨by rw [r1.len, sizeLine_eq]; exact h1, fun q hq => ?_⟩
  exact p1.ok' (tag_le q .tmp) (s1.newT (t := .tmp) hq) ⟨q, rfl, tag_own, _, upd_same, r1⟩
end
end
end Dl

set_option Elab.async false
set_option linter.all false
set_option maxRecDepth 100000
set_option maxHeartbeats 1000000
/-! The data level: what is walked, comprehensions, statements, loops. -/
namespace Dl
open PySem PySem.Spec PyProof.Rows L2
noncomputable section

/-! ### what is walked -/
/-- J yields the data ds, one after the other, wherever what is frozen stands -/
def Walk (K : PySem.W.Frag) (F : Hp) (rho : List (Addr × Addr)) (J : It) (ds : List D) : Prop := ∀ (i : Nat) (H : Hp), Same F H →
  (∀ d, ds[i]? = some d → J.go i H ∧ ∀ x H', J.yld i H x H' → (H' = H ∧ Rep K F rho x d) ∨ ∃ T vs es, x = .ref T ∧ H T = none ∧ H' = upd H T (.tup vs) ∧ d = .tup es ∧ Reps K F rho vs es) ∧ (ds.length ≤ i → J.stop i H)
structure DI (X : Cx) (W : WX) (tg iter : Expr) (m : M (List D)) : Prop where
  pi : PI X tg iter (tM X.K X.ev W (fun G _ J ds => Walk X.K G.F G.rho J ds) m)
theorem PI_imp {X : Cx} {tg e : Expr} {t t' : TI} (h : PI X tg e t) (f : ∀ σ H Q, t' σ H Q → t σ H Q) : PI X tg e t' := ⟨fun pins s σ H R I q => h.run pins s σ H R I (f σ H R q)⟩
def itL (m : M D) : M (List D) := bd m fun d => match d with
  | .lst xs => pu xs
  | _ => no
def itT (m : M D) : M (List D) := bd m fun d => match d with
  | .tup xs => pu xs
  | _ => no
def itS (m : M D) : M (List D) := bd m fun d => match d with
  | .str s => pu (s.map fun c => .str [c])
  | _ => no
/-- lo, lo + 1, .. -/
def rngD (lo : Int) (n : Nat) : List D := (List.range n).map fun (i : Nat) => .int (lo + i)
def rg1 : D → M (List D)
  | .int j => gd (-(2 ^ 62) ≤ j ∧ j < 2 ^ 62) (pu (rngD 0 j.toNat))
  | _ => no
def rg2 : D → D → M (List D)
  | .int i, .int j => gd (-(2 ^ 62) ≤ i ∧ i < 2 ^ 62 ∧ -(2 ^ 62) ≤ j ∧ j < 2 ^ 62) (pu (rngD i (j - i).toNat))
  | _, _ => no
def itR1 (m : M D) : M (List D) := bd m rg1
def itR2 (a b : M D) : M (List D) := bd a fun i => bd b fun j => rg2 i j
theorem rngD_at (lo : Int) (n i : Nat) (d : D) (h : (rngD lo n)[i]? = some d) : i < n ∧ d = .int (lo + i) := by
  unfold rngD at h
  rw [List.getElem?_map] at h
  by_cases hi : i < n
  · rw [List.getElem?_range hi] at h
    exact ⟨hi, (Option.some.inj h).symm⟩
  · rw [List.getElem?_eq_none (by simpa using hi)] at h
    cases h
theorem rngD_len (lo : Int) (n : Nat) : (rngD lo n).length = n := by simp [rngD]
section
variable {X : Cx} {W : WX} {tg e : Expr} {m : M D} {ms : M (List D)} {p pos : Pos}
theorem i_list (h : DE X W e m) : DI X W tg e (itL m) := by
  refine ⟨PI_imp (pi_list h.pe) fun σ H Q ⟨G, en, so, s, p⟩ => ?_⟩
  refine ⟨G, en, so, s, (Post.bind (R1 := rlD X.K) p).imp fun v H1 ⟨G1, en1, so1, d, l, r1, s1, p1⟩ => ?_⟩
  cases r1 with
  | @lst a vs ds q r =>
    refine ⟨a, rfl, ⟨_, s1.toSimO.rep.seq q⟩, p1.ok (v := Itl X.K a) s1 fun i H' sf => ⟨fun d e => ?_, fun hl => ⟨_, sf.seq q, by rw [r.len]; exact hl⟩⟩⟩
    obtain ⟨v, e1, r1⟩ := reps_at r e
    exact ⟨⟨_, v, sf.seq q, e1⟩, fun x H'' ⟨h1, h2⟩ => .inl ⟨h1, by
      have := h2 _ (sf.seq q)
      rw [e1] at this
      cases this
      exact r1⟩⟩
  | _ => exact False.elim p1
theorem i_tup (h : DE X W e m) : DI X W tg e (itT m) := by
  refine ⟨PI_imp (pi_tup h.pe) fun σ H Q ⟨G, en, so, s, p⟩ => ?_⟩
  refine ⟨G, en, so, s, (Post.bind (R1 := rlD X.K) p).imp fun v H1 ⟨G1, en1, so1, d, l, r1, s1, p1⟩ => ?_⟩
  cases r1 with
  | @tup a vs ds q r =>
    refine ⟨a, rfl, ⟨_, same_seqT s1.toSimO.rep q⟩, p1.ok (v := Itt X.K a) s1 fun i H' sf => ⟨fun d e => ?_, fun hl => ⟨_, same_seqT sf q, by rw [r.len]; exact hl⟩⟩⟩
    obtain ⟨v, e1, r1⟩ := reps_at r e
    exact ⟨⟨_, v, same_seqT sf q, e1⟩, fun x H'' ⟨h1, h2⟩ => .inl ⟨h1, by
      have := h2 _ (same_seqT sf q)
      rw [e1] at this
      cases this
      exact r1⟩⟩
  | _ => exact False.elim p1
theorem i_str (h : DE X W e m) : DI X W tg e (itS m) := by
  refine ⟨PI_imp (pi_str h.pe) fun σ H Q ⟨G, en, so, s, p⟩ => ?_⟩
  refine ⟨G, en, so, s, (Post.bind (R1 := rlD X.K) p).imp fun v H1 ⟨G1, en1, so1, d, l, r1, s1, p1⟩ => ?_⟩
  cases r1 with
  | str z =>
    have hs : (sT z).cps.size = z.length := sT_len z
    refine ⟨sT z, rfl, p1.ok (v := Its (sT z)) s1 fun i H' sf => ⟨fun d e => ?_, fun hl => by show (sT z).cps.size ≤ i; rw [hs]; simpa using hl⟩⟩
    rw [List.getElem?_map] at e
    cases q : z[i]? with
    | none => rw [q] at e; cases e
    | some c =>
      rw [q] at e
      cases e
      refine ⟨by show i < (sT z).cps.size; rw [hs]; exact (List.getElem?_eq_some_iff.mp q).1, fun x H'' ⟨h1, c', h2, h3⟩ => .inl ⟨h1, ?_⟩⟩
      have e2 : (sT z).cps[i]? = z[i]? := by simp [sT]
      rw [e2, q] at h2
      cases h2
      subst h3
      exact .str [c]
  | _ => exact False.elim p1
theorem walk_rng {K : PySem.W.Frag} {F : Hp} {rho : List (Addr × Addr)} (lo : Int) (n : Nat) : Walk K F rho (Itr lo n) (rngD lo n) := fun i H' sf =>
  ⟨fun d e => by
    obtain ⟨h1, h2⟩ := rngD_at lo n i d e
    exact ⟨h1, fun x H'' ⟨h3, h4⟩ => .inl ⟨h3, by subst h4; subst h2; exact .int _⟩⟩, fun hl => by show n ≤ i; rw [rngD_len] at hl; exact hl⟩
theorem i_range1 (hg : Gl X "range") (hm : X.mg "range" = none) (ha : DE X W e m) (hs : starEach [e] X.env = [(false, eval e X.env)] := by rfl) : DI X W tg (.Call (.Name "range" p) [e] [] pos) (itR1 m) := by
  refine ⟨PI_imp (pi_range1 hg hm (pa_cons ha.pe pa_nil hs) hs) fun σ H Q ⟨G, en, so, s, p⟩ => ?_⟩
  refine ⟨G, en, so, s, (Post.bind (R1 := rlD X.K) p).imp fun v H1 ⟨G1, en1, so1, d, l, r1, s1, p1⟩ => ?_⟩
  cases r1 with
  | int j =>
    obtain ⟨⟨h1, h2⟩, p1⟩ := Post.gd (c := -(2 ^ 62) ≤ j ∧ j < 2 ^ 62) p1
    exact ⟨j, rfl, h1, h2, p1.ok s1 (walk_rng 0 j.toNat)⟩
  | _ => exact False.elim p1
theorem i_range2 {e2 : Expr} {m2 : M D} (hg : Gl X "range") (hm : X.mg "range" = none) (ha : DE X W e m) (hb : DE X W e2 m2) (hs : starEach [e, e2] X.env = [(false, eval e X.env), (false, eval e2 X.env)] := by rfl) (hs2 : starEach [e2] X.env = [(false, eval e2 X.env)] := by rfl) :
    DI X W tg (.Call (.Name "range" p) [e, e2] [] pos) (itR2 m m2) := by
  refine ⟨PI_imp (pi_range2 hg hm (pa_cons ha.pe (pa_cons hb.pe pa_nil hs2) (by rw [hs, hs2])) hs hs2) fun σ H Q ⟨G, en, so, s, p⟩ => ?_⟩
  refine ⟨G, en, so, s, (Post.bind (R1 := rlD X.K) p).imp fun v H1 ⟨G1, en1, so1, d, l, r1, s1, p1⟩ => ⟨G1, en1, so1, s1, (Post.bind (R1 := rlD X.K) p1).imp fun y H2 ⟨G2, en2, so2, d2, l2, r2, s2, p2⟩ => ?_⟩⟩
  cases r1 with
  | int i =>
    cases r2 with
    | int j =>
      obtain ⟨hh, p2⟩ := Post.gd (c := -(2 ^ 62) ≤ i ∧ i < 2 ^ 62 ∧ -(2 ^ 62) ≤ j ∧ j < 2 ^ 62) p2
      exact ⟨i, j, rfl, hh, p2.ok s2 (walk_rng i (j - i).toNat)⟩
    | _ => exact False.elim p2
  | _ => exact False.elim p2
end

/-! ### targets -/
/-- where a walked item goes -/
abbrev Tg := D → En → Option En
def tgR (K : PySem.W.Frag) (mg : Ev) (tg : Tg) (vs : List Nat) : TG := fun v σ H Q => ∃ G en so d en', Rep K G.F G.rho v d ∧ Sim K mg G en so σ H ∧ tg d en = some en' ∧ ∀ σ', Sim K mg G en' so σ' H → L2.wipe σ' vs = L2.wipe σ vs → Q σ' H
structure DG (X : Cx) (tgE : Expr) (tg : Tg) (vs : List Nat) : Prop where
  pg : PG X tgE (tgR X.K X.ev tg vs)
def tgN (i : Nat) : Tg := fun d en => some (en.set i (some (.dat d)))
def tgP (i j : Nat) : Tg := fun d en => match d with
  | .tup [x, y] => some ((en.set i (some (.dat x))).set j (some (.dat y)))
  | _ => none
section
variable {K : PySem.W.Frag} {mg : Ev} {G : Gh} {en : En} {so : So} {σ : L2.St} {H : Hp}
theorem Sim.setD {v : V} {d : D} (s : Sim K mg G en so σ H) (r : Rep K G.F G.rho v d) (i : Nat) : Sim K mg G (en.set i (some (.dat d))) so (σ.set i (some v)) H := by
  refine ⟨s.toSimO, by rw [List.length_set, List.length_set, s.ln], fun j b e => ?_⟩
  by_cases hj : i = j
  · subst hj
    by_cases hl : i < en.length
    · rw [List.getElem?_set_self hl] at e
      cases e
      exact ⟨v, by rw [List.getElem?_set_self (by rw [← s.ln]; exact hl)], r⟩
    · rw [List.getElem?_eq_none (by rw [List.length_set]; omega)] at e
      cases e
  · rw [List.getElem?_set_ne hj] at e
    obtain ⟨v', e', r'⟩ := s.sl j b e
    exact ⟨v', by rw [List.getElem?_set_ne hj]; exact e', r'⟩
/-- a name is forgotten -/
theorem Sim.setN (s : Sim K mg G en so σ H) (i : Nat) {o : Option V} : Sim K mg G (en.set i none) so (σ.set i o) H := by
  refine ⟨s.toSimO, by rw [List.length_set, List.length_set, s.ln], fun j b e => ?_⟩
  by_cases hj : i = j
  · subst hj
    by_cases hl : i < en.length
    · rw [List.getElem?_set_self hl] at e
      cases e
    · rw [List.getElem?_eq_none (by rw [List.length_set]; omega)] at e
      cases e
  · rw [List.getElem?_set_ne hj] at e
    obtain ⟨v', e', r'⟩ := s.sl j b e
    exact ⟨v', by rw [List.getElem?_set_ne hj]; exact e', r'⟩
end
section
variable {X : Cx} {pos : Pos} {k : Nat}
theorem PG_imp {e : Expr} {t t' : TG} (h : PG X e t) (f : ∀ v σ H Q, t' v σ H Q → t v σ H Q) : PG X e t' := ⟨fun pins s σ H v u Q I r q => h.run pins s σ H v u Q I r (f v σ H Q q)⟩
theorem rep_pair {K : PySem.W.Frag} {F : Hp} {rho : List (Addr × Addr)} {v : V} {d1 d2 : D} (r : Rep K F rho v (.tup [d1, d2])) : ∃ a v1 v2, v = .ref a ∧ SqT K F a [v1, v2] ∧ Rep K F rho v1 d1 ∧ Rep K F rho v2 d2 := by
  cases r with
  | tup h r2 =>
    cases r2 with
    | cons r1 r2 =>
      cases r2 with
      | cons r2 r3 =>
        cases r3
        exact ⟨_, _, _, rfl, h, r1, r2⟩
theorem g_name {i : Nat} {x : Str} (hN : X.N.Nodup) (hi : X.N[i]? = some x := by rfl) (hx : Loc X.env.scope x := by first | exact Or.inl rfl | exact Or.inr rfl) (hf : X.fn x = true ∨ X.env.scope.names.lookup x = some .local := by first | exact .inl rfl | exact .inr rfl | assumption) : DG X (.Name x pos) (tgN i) [i] := by
  refine ⟨⟨fun pins s σ H v u Q I r h => ?_⟩⟩
  obtain ⟨G, en, so, d, en', rd, sm, e, q⟩ := h
  cases e
  exact (pg_name hN hi hx hf).run pins s σ H v u Q I r (q _ (sm.setD rd i) (by show ((σ.set i _).set i none) = σ.set i none; rw [List.set_set]))
theorem g_pair {i j : Nat} {x y : Str} {px py : Pos} (hc : X.calm = true) (hij : i ≠ j) (hN : X.N.Nodup) (hi : X.N[i]? = some x := by rfl) (hx : Loc X.env.scope x := by first | exact Or.inl rfl | exact Or.inr rfl) (hj : X.N[j]? = some y := by rfl) (hy : Loc X.env.scope y := by first | exact Or.inl rfl | exact Or.inr rfl)
    (hf : X.fn x = true ∨ X.env.scope.names.lookup x = some .local := by first | exact .inl rfl | exact .inr rfl | assumption) (hf2 : X.fn y = true ∨ X.env.scope.names.lookup y = some .local := by first | exact .inl rfl | exact .inr rfl | assumption) : DG X (.Tuple [.Name x px, .Name y py] k pos) (tgP i j) [i, j] := by
  refine ⟨PG_imp (pg_tup (n := 2) hc (pgs_cons (pg_name hN hi hx hf) (pgs_cons (pg_name hN hj hy hf2) pgs_nil))) fun v σ H Q h => ?_⟩
  obtain ⟨G, en, so, d, en', rd, sm, e, q⟩ := h
  obtain ⟨d1, d2, rfl⟩ : ∃ d1 d2, d = .tup [d1, d2] := by
    unfold tgP at e
    split at e
    · exact ⟨_, _, rfl⟩
    · cases e
  cases e
  obtain ⟨a, v1, v2, rfl, h, r1, r2⟩ := rep_pair rd
  refine ⟨a, [v1, v2], rfl, same_seqT sm.toSimO.rep h, rfl, v1, [v2], rfl, v2, [], rfl, rfl, ?_⟩
  exact q _ ((sm.setD r1 i).setD r2 j) (by show ((((σ.set i _).set j _).set j none).set i none) = ((σ.set j none).set i none); rw [List.set_set, List.set_comm _ _ hij.symm, List.set_set, List.set_comm _ _ hij])
end

/-! ### list comprehensions -/
abbrev W0 : WX := fun _ _ _ _ => False
structure DTs (X : Cx) (W : WX) (ifs : List Expr) (m : M Bool) : Prop where
  pts : PTs X ifs (tM X.K X.ev W rlT m)
theorem PTs_imp {X : Cx} {ifs : List Expr} {t t' : TT} (h : PTs X ifs t) (f : ∀ σ H Q, t' σ H Q → t σ H Q) : PTs X ifs t' := ⟨fun pins s σ H Q I q => h.run pins s σ H Q I (f σ H Q q)⟩
theorem ts_nil {X : Cx} {W : WX} : DTs X W [] (pu true) := ⟨PTs_imp pts_nil fun σ H Q ⟨G, en, so, s, p⟩ => Post.ok p s rfl⟩
theorem ts_one {X : Cx} {W : WX} {c : Expr} {m : M Bool} (h : DT X W c m) : DTs X W [c] m := ⟨pts_one h.pt⟩
def keepD (en : En) (i : Nat) : Option B := match en[i]? with
  | some (some (.dat d)) => some (.dat d)
  | _ => none
def wipeE (en : En) : List Nat → En
  | [] => en
  | v :: vs => (wipeE en vs).set v none
def lcGo (vs : List Nat) (tg : Tg) (tt : M Bool) (el : M D) : List D → List D → M (List D)
  | [], acc => pu acc
  | d :: ds, acc => fun en so => match tg d en with
    | none => .no
    | some en0 => match tt en0 so with
      | .ok false en1 so1 => lcGo vs tg tt el ds acc (wipeE en1 vs) so1
      | .ok true en1 so1 => match el en1 so1 with
        | .ok x en2 so2 => if acc.length < 16777216 then lcGo vs tg tt el ds (acc ++ [x]) (wipeE en2 vs) so2 else .no
        | _ => .no
      | _ => .no
def backE (en0 en : En) : List Nat → En
  | [] => en
  | v :: vs => (backE en0 en vs).set v (keepD en0 v)
def mLc (vs : List Nat) (tg : Tg) (src : M (List D)) (tt : M Bool) (el : M D) : M B := bd src fun ds en so => match lcGo vs tg tt el ds [] (wipeE en vs) so with
  | .ok xs en' so' => .ok (.cel (.lst xs)) (backE en en' vs) so'
  | _ => .no
section
variable {K : PySem.W.Frag} {mg : Ev} {G : Gh} {en : En} {so : So} {σ : L2.St} {H : Hp}
theorem Sim.wipe (s : Sim K mg G en so σ H) : ∀ vs : List Nat, Sim K mg G (wipeE en vs) so (L2.wipe σ vs) H
  | [] => s
  | v :: vs => (s.wipe vs).setN v
theorem wipe_get (σ : L2.St) : ∀ (vs : List Nat) (k : Nat), (L2.wipe σ vs)[k]? = if k ∈ vs then σ[k]?.map (fun _ => none) else σ[k]?
  | [], k => by simp [L2.wipe]
  | v :: vs, k => by
    unfold L2.wipe
    by_cases h : v = k
    · subst h
      rw [if_pos List.mem_cons_self]
      by_cases hl : v < σ.length
      · rw [List.getElem?_set_self (by rw [wipe_length]; exact hl), List.getElem?_eq_getElem hl]; rfl
      · rw [List.getElem?_eq_none (by rw [List.length_set, wipe_length]; omega), List.getElem?_eq_none (by omega)]; rfl
    · rw [List.getElem?_set_ne h, wipe_get σ vs k]
      simp [List.mem_cons, Ne.symm h]
theorem wipe_wipe (σ : L2.St) (vs : List Nat) : L2.wipe (L2.wipe σ vs) vs = L2.wipe σ vs := by
  apply List.ext_getElem?
  intro k
  rw [wipe_get, wipe_get]
  by_cases h : k ∈ vs
  · rw [if_pos h, if_pos h]; cases σ[k]? <;> rfl
  · rw [if_neg h, if_neg h]
theorem backE_len (en0 en : En) : ∀ vs : List Nat, (backE en0 en vs).length = en.length
  | [] => rfl
  | v :: vs => by unfold backE; rw [List.length_set, backE_len en0 en vs]
theorem backE_get (en0 en : En) : ∀ (vs : List Nat) (k : Nat), (backE en0 en vs)[k]? = if k ∈ vs then en[k]?.map (fun _ => keepD en0 k) else en[k]?
  | [], k => by simp [backE]
  | v :: vs, k => by
    unfold backE
    by_cases h : v = k
    · subst h
      rw [if_pos List.mem_cons_self]
      by_cases hl : v < en.length
      · rw [List.getElem?_set_self (by rw [backE_len]; exact hl), List.getElem?_eq_getElem hl]; rfl
      · rw [List.getElem?_eq_none (by rw [List.length_set, backE_len]; omega), List.getElem?_eq_none (by omega)]; rfl
    · rw [List.getElem?_set_ne h, backE_get en0 en vs k]
      simp [List.mem_cons, Ne.symm h]
theorem Sim.back {G1 : Gh} {en1 : En} {so1 : So} {H1 : Hp} (vs : List Nat) (s : Sim K mg G en so (L2.wipe σ vs) H) (s1 : Sim K mg G1 en1 so1 σ H1) (F : Same G1.F G.F) (rho : Pre G1.rho G.rho) : Sim K mg G (backE en1 en vs) so σ H := by
  refine ⟨s.toSimO, by rw [backE_len, s.ln, wipe_length], fun k b e => ?_⟩
  rw [backE_get] at e
  by_cases h : k ∈ vs
  · rw [if_pos h] at e
    have e' : keepD en1 k = some b := by
      cases q : en[k]? with
      | none => rw [q] at e; cases e
      | some x => rw [q] at e; exact Option.some.inj e
    unfold keepD at e'
    split at e'
    · rename_i d ed
      cases e'
      obtain ⟨v, e1, r⟩ := s1.sl k _ ed
      exact ⟨v, e1, Rep.mono F rho r⟩
    · cases e'
  · rw [if_neg h] at e
    obtain ⟨v, e1, r⟩ := s.sl k b e
    rw [wipe_get, if_neg h] at e1
    exact ⟨v, e1, r⟩
/-- something new that is to stay as it is -/
def _root_.Dl.Gh.keepR (G : Gh) (p : Addr) (o : HO) : Gh := { G with R := upd G.R p o, own := fun b => if b = p then .rest else G.own b }
theorem Sim.newR {p : Addr} {o : HO} (s : Sim K mg G en so σ H) (hp : H p = none) : Sim K mg (G.keepR p o) en so σ (upd H p o) := by
  have t := s.newT (o := o) (t := .rest) hp
  have eF : Same (G.tag p .rest).F (G.keepR p o).F := Same.refl G.F
  have er : Pre (G.tag p .rest).rho (G.keepR p o).rho := fun _ _ h => h
  refine ⟨⟨t.fr, fun a u e => ?_, t.len, fun k ob a dx e1 e2 => ?_⟩, t.ln, fun i b e => ?_⟩
  · by_cases hb : a = p
    · subst hb
      have e' : upd G.R a o a = some u := e
      rw [upd_same] at e'
      cases e'
      exact ⟨upd_same, if_pos rfl⟩
    · have e' : upd G.R p o a = some u := e
      rw [upd_ne hb] at e'
      exact t.re a u e'
  · exact (t.ob k ob a dx e1 e2).keep eF er fun b u h1 _ => ⟨h1, rfl⟩
  · obtain ⟨v, e1, r⟩ := t.sl i b e
    exact ⟨v, e1, r.keep eF er fun a u h1 h2 => ⟨h1, h2⟩⟩
def _root_.Dl.Gh.setR (G : Gh) (R : Hp) : Gh := { G with R := R }
def _root_.Dl.Gh.outR (G : Gh) (R : Hp) (p : Addr) : Gh := { G with R := R, own := fun b => if b = p then .tmp else G.own b }
/-- what was kept, written by its owner -/
theorem Sim.setR {p : Addr} {o o' : HO} {R0 : Hp} (s : Sim K mg G en so σ H) (hR : G.R = upd R0 p o) : Sim K mg (G.setR (upd R0 p o')) en so σ (upd H p o') := by
  have eF : Same G.F (G.setR (upd R0 p o')).F := Same.refl G.F
  have er : Pre G.rho (G.setR (upd R0 p o')).rho := fun _ _ h => h
  have w : G.own p = .rest := (s.re p o (by rw [hR]; exact upd_same)).2
  have kp : ∀ a u, H a = some u → G.own a ≠ .rest → (upd H p o') a = some u := fun a u e q => by
    have : a ≠ p := fun z => q (by rw [z]; exact w)
    rw [upd_ne this]; exact e
  refine ⟨⟨fun a u e => ?_, fun a u e => ?_, s.len, fun k ob a dx e1 e2 => ?_⟩, s.ln, fun i b e => ?_⟩
  · obtain ⟨h1, h2⟩ := s.fr a u e
    exact ⟨kp a u h1 (by rw [h2]; intro z; cases z), h2⟩
  · have e' : upd R0 p o' a = some u := e
    by_cases hb : a = p
    · subst hb
      rw [upd_same] at e'
      cases e'
      exact ⟨upd_same, w⟩
    · rw [upd_ne hb] at e'
      obtain ⟨h1, h2⟩ := s.re a u (by rw [hR, upd_ne hb]; exact e')
      exact ⟨by rw [upd_ne hb]; exact h1, h2⟩
  · exact (s.ob k ob a dx e1 e2).keep eF er fun b u h1 h2 => ⟨kp b u h1 (by rcases h2 with h2 | h2 <;> (rw [h2]; intro z; cases z)), rfl⟩
  · obtain ⟨v, e1, r⟩ := s.sl i b e
    exact ⟨v, e1, r.keep eF er fun a u h1 h2 => ⟨kp a u h1 (by rw [h2]; intro z; cases z), h2⟩⟩
/-- what was kept becomes a result -/
theorem Sim.takeR {p : Addr} {o : HO} {R0 : Hp} (s : Sim K mg G en so σ H) (hR : G.R = upd R0 p o) (h0 : R0 p = none) : Sim K mg (G.outR R0 p) en so σ H := by
  have eF : Same G.F (G.outR R0 p).F := Same.refl G.F
  have er : Pre G.rho (G.outR R0 p).rho := fun _ _ h => h
  have w : G.own p = .rest := (s.re p o (by rw [hR]; exact upd_same)).2
  have kp : ∀ a t, G.own a = t → t ≠ .rest → (G.outR R0 p).own a = t := fun a t e q => by
    have : a ≠ p := fun z => q (by rw [← e, z]; exact w)
    exact (if_neg this).trans e
  refine ⟨⟨fun a u e => ?_, fun a u e => ?_, s.len, fun k ob a dx e1 e2 => ?_⟩, s.ln, fun i b e => ?_⟩
  · obtain ⟨h1, h2⟩ := s.fr a u e
    exact ⟨h1, kp a _ h2 (by intro z; cases z)⟩
  · have e' : R0 a = some u := e
    have hb : a ≠ p := fun z => by rw [z, h0] at e'; cases e'
    obtain ⟨h1, h2⟩ := s.re a u (by rw [hR, upd_ne hb]; exact e')
    exact ⟨h1, (if_neg hb).trans h2⟩
  · exact (s.ob k ob a dx e1 e2).keep eF er fun b u h1 h2 => ⟨h1, kp b _ rfl (by rcases h2 with h2 | h2 <;> (rw [h2]; intro z; cases z))⟩
  · obtain ⟨v, e1, r⟩ := s.sl i b e
    exact ⟨v, e1, r.keep eF er fun a u h1 h2 => ⟨h1, kp a _ h2 (by intro z; cases z)⟩⟩
theorem reps_app {F : Hp} {rho : List (Addr × Addr)} : ∀ {vs ws : List V} {ds es : List D}, Reps K F rho vs ds → Reps K F rho ws es → Reps K F rho (vs ++ ws) (ds ++ es)
  | _, _, _, _, .nil, r => r
  | _, _, _, _, .cons h q, r => .cons h (reps_app q r)
end
section
variable {X : Cx} {W : WX} {tg iter elt : Expr} {ifs : List Expr} {scope : Scope} {pos : Pos} {own : List (Str × Nat)} {tgM : Tg} {src : M (List D)} {tt : M Bool} {el : M D}
/-- the words a comprehension's block asks -/
theorem lc_tr {σ : L2.St} {K : PySem.W.Frag} {mg : Ev} {vs : List Nat} {Qd : Hp → Prop} {G1 : Gh} {en1 : En} {so1 : So} {H1 : Hp} {J : It} {ds xs : List D} {enF : En} {soF : So} {Dl : Addr}
    (s1 : Sim K mg G1 en1 so1 σ H1) (wk : Walk K G1.F G1.rho J ds) (hD : H1 Dl = none) (res : lcGo vs tgM tt el ds [] (wipeE en1 vs) so1 = .ok xs enF soF)
    (fin : ∀ G' H', G1.le G' → Sim K mg G' (backE en1 enF vs) soF σ H' → RB K G' H' .tmp (.ref Dl) (.cel (.lst xs)) → Qd H') :
    ∃ Wn : Nat → Nat → Hp → Prop, (∃ m, Wn 0 m (upd H1 Dl (.lst []))) ∧ ∀ i m H, Wn i m H →
      (J.stop i H ∧ Qd H) ∨ (J.go i H ∧ ∃ Nx : Hp → Prop, (∀ H', Nx H' → ∃ m', m' < m ∧ Wn (i + 1) m' H') ∧ ∀ x H', J.yld i H x H' →
        tgR K mg tgM vs x (L2.wipe σ vs) H' fun σ2 H2 => L2.wipe σ2 vs = L2.wipe σ vs ∧ tM K mg W0 rlT tt σ2 H2 fun b H3 =>
          if b = true then tM K mg W0 (rlD K) el σ2 H3 fun y H4 => ∃ acc, H4 Dl = some (.lst acc) ∧ acc.length < sizeLine ∧ Nx (upd H4 Dl (.lst (acc ++ [y]))) else Nx H3) := by
  refine ⟨fun i m H => m = ds.length - i ∧ i ≤ ds.length ∧ ∃ G en so acc va, Same G1.F G.F ∧ Pre G1.rho G.rho ∧ G.R = upd G1.R Dl (.lst va) ∧ Reps K G.F G.rho va acc ∧ Sim K mg G en so (L2.wipe σ vs) H ∧ lcGo vs tgM tt el (ds.drop i) acc en so = .ok xs enF soF, ⟨_, rfl, Nat.zero_le _, G1.keepR Dl (.lst []), wipeE en1 vs, so1, [], [], Same.refl _, fun _ _ h => h, rfl, .nil, (s1.wipe vs).newR hD, res⟩, ?_⟩
  rintro i m H ⟨rfl, hi, G, en, so, acc, va, sF, sr, hR, ra, s, run⟩
  have sfH : Same G1.F H := sF.trans s.toSimO.rep
  have R0 : G1.R Dl = none := by
    cases q : G1.R Dl with
    | none => rfl
    | some u => rw [(s1.re Dl u q).1] at hD; cases hD
  by_cases hlt : i < ds.length
  · have ed : ds[i]? = some ds[i] := List.getElem?_eq_getElem hlt
    obtain ⟨go, yl⟩ := (wk i H sfH).1 _ ed
    refine .inr ⟨go, _, fun H' h => ⟨ds.length - (i + 1), by omega, h⟩, fun x H' y => ?_⟩
    have dr : ds.drop i = ds[i] :: ds.drop (i + 1) := by rw [List.drop_eq_getElem_cons hlt]
    rw [dr] at run
    -- the item
    have item : ∃ G2, G.le G2 ∧ Sim K mg G2 en so (L2.wipe σ vs) H' ∧ Rep K G2.F G2.rho x ds[i] := by
      rcases yl x H' y with ⟨rfl, r⟩ | ⟨T, ws, es, rfl, hT, rfl, e, r⟩
      · exact ⟨G, .refl G, s, Rep.mono sF sr r⟩
      · obtain ⟨s2, l2⟩ := s.newF (o := .tup ws) hT
        refine ⟨_, l2, s2, ?_⟩
        rw [e]
        exact .tup (.inl (.inl (show upd G.F T _ T = _ from upd_same))) (r.mono (sF.trans l2.F) fun k x h => l2.rho k x (sr k x h))
    obtain ⟨G2, l2, s2, r2⟩ := item
    unfold lcGo at run
    cases et : tgM ds[i] en with
    | none => rw [et] at run; cases run
    | some en0 =>
      rw [et] at run
      refine ⟨G2, en, so, ds[i], en0, r2, s2, et, fun σ' sg wp => ⟨by rw [wp, wipe_wipe], G2, en0, so, sg, ?_⟩⟩
      have stay : ∀ {en' : En} {so' : So} {H'' : Hp} {G3 : Gh}, Sim K mg G3 en' so' σ' H'' → Sim K mg G3 (en') so' σ' H'' := fun h => h
      dsimp only at run
      cases e1 : tt en0 so with
      | no => rw [e1] at run; cases run
      | exc x1 en2 so2 => rw [e1] at run; cases run
      | ok b en2 so2 =>
        rw [e1] at run
        intro b' H3 G3 l3 s3 hb
        subst hb
        cases b' with
        | false =>
          refine iteF ⟨rfl, hlt, G3, _, so2, acc, va, sF.trans (l2.trans l3).F, fun k x h => (l2.trans l3).rho k x (sr k x h), by rw [(l2.trans l3).R]; exact hR, ra.mono (l2.trans l3).F (l2.trans l3).rho, ?_, run⟩
          have := s3.wipe vs
          rw [wp, wipe_wipe] at this
          exact this
        | true =>
          refine iteT ⟨G3, en2, so2, s3, ?_⟩
          dsimp only at run
          cases e2 : el en2 so2 with
          | no => rw [e2] at run; cases run
          | exc x1 en4 so4 => rw [e2] at run; cases run
          | ok z en4 so4 =>
            rw [e2] at run
            dsimp only at run
            by_cases ha : acc.length < 16777216
            · rw [if_pos ha] at run
              intro y' H4 G4 l4 s4 ry
              have l := (l2.trans l3).trans l4
              have hR4 : G4.R = upd G1.R Dl (.lst va) := by rw [l.R]; exact hR
              have hD4 : H4 Dl = some (.lst va) := (s4.re Dl (.lst va) (by rw [hR4]; exact upd_same)).1
              refine ⟨va, hD4, by rw [ra.len, sizeLine_eq]; exact ha, rfl, hlt, G4.setR (upd G1.R Dl (.lst (va ++ [y']))), _, so4, acc ++ [z], va ++ [y'], sF.trans l.F, fun k x h => l.rho k x (sr k x h), rfl, reps_app (ra.mono l.F l.rho) (.cons ry .nil), ?_, run⟩
              have := (s4.setR (o' := .lst (va ++ [y'])) hR4).wipe vs
              rw [wp, wipe_wipe] at this
              exact this
            · rw [if_neg ha] at run; cases run
  · have e : i = ds.length := by omega
    subst e
    rw [List.drop_length] at run
    cases run
    refine .inl ⟨(wk _ H sfH).2 (Nat.le_refl _), ?_⟩
    have s2 := s.takeR hR R0
    refine fin (G.outR G1.R Dl) H ⟨sF, sr, rfl⟩ (s2.back vs s1 sF sr) ⟨Dl, rfl, if_pos rfl, va, ?_, ra⟩
    exact (s.re Dl (.lst va) (by rw [hR]; exact upd_same)).1
theorem lc_read {σ : L2.St} {H : Hp} {Q : VK} {K : PySem.W.Frag} {mg : Ev} {vs : List Nat} (q : tM K mg W (rlB K) (mLc vs tgM src tt el) σ H Q) :
    tLc (tM K mg W (fun G _ J ds => Walk K G.F G.rho J ds) src) (tgR K mg tgM vs) (tM K mg W0 rlT tt) (tM K mg W0 (rlD K) el) vs σ H Q := by
  obtain ⟨G, en, so, s, p⟩ := q
  refine ⟨G, en, so, s, (Post.bind (R1 := fun G _ J ds => Walk K G.F G.rho J ds) p).imp fun J H1 ⟨G1, en1, so1, ds, l, wk, s1, p1⟩ Dx hD => ?_⟩
  generalize hr : lcGo vs tgM tt el ds [] (wipeE en1 vs) so1 = r at p1
  match r, hr, p1 with
  | .ok xs enF soF, hr, p1 => exact lc_tr s1 wk hD hr fun G' H' l' s' rb => p1.ok' l' s' rb
  | .exc _ _ _, _, p1 => exact False.elim p1
  | .no, _, p1 => exact False.elim p1
/-- [elt for tg in iter if ..] -/
theorem b_lc (hc : X.calm = true) (hN : X.N.Nodup) (hi : DI X W tg iter src) (ok : BlkOk X.N X.env.scope scope own)
    (hg : ∀ (s : Shared) (H : Hp) (C : Addr) (cl : List (Str × Addr)) (fp : List Addr), DG (X.blk s H scope (compEnvC scope cl C X.env) fp) tg tgM (own.map (·.2)))
    (ht : ∀ (s : Shared) (H : Hp) (C : Addr) (cl : List (Str × Addr)) (fp : List Addr), DTs (X.blk s H scope (compEnvC scope cl C X.env) fp) W0 ifs tt)
    (he : ∀ (s : Shared) (H : Hp) (C : Addr) (cl : List (Str × Addr)) (fp : List Addr), DE (X.blk s H scope (compEnvC scope cl C X.env) fp) W0 elt el) (hs : ∀ x, foldedSetIterable iter X.env x = pure x := by intro _; rfl) :
    DB X W (.ListComp elt [⟨tg, iter, ifs, 0⟩] scope pos) (mLc (own.map (·.2)) tgM src tt el) :=
  ⟨PE_imp (pe_lc (g := tgR X.K X.ev tgM (own.map (·.2))) (tt := tM X.K X.ev W0 rlT tt) (te := tM X.K X.ev W0 (rlD X.K) el) hc hN hi.pi ok (fun s H C cl fp => (hg s H C cl fp).pg) (fun s H C cl fp => (ht s H C cl fp).pts) (fun s H C cl fp => (he s H C cl fp).pe) hs) fun _ _ _ q => lc_read q⟩
end
end
end Dl

set_option Elab.async false
set_option linter.all false
set_option maxRecDepth 100000
set_option maxHeartbeats 1000000
/-! The data level: statements, loops. -/
namespace Dl
open PySem PySem.Spec PyProof.Rows L2
noncomputable section

/-! ### statements -/
def sPass : M Fl := pu .nx
def sBreak : M Fl := pu .bk
def sCont : M Fl := pu .ct
def sSeq (a b : M Fl) : M Fl := bd a fun f => match f with
  | .nx => b
  | f => pu f
def sIf (t : M Bool) (a b : M Fl) : M Fl := bd t fun c => if c then a else b
def sRet (m : M B) : M Fl := bd m fun b => pu (.rt b)
def sRetD (m : M D) : M Fl := bd m fun d => pu (.rt (.dat d))
def sRetN : M Fl := pu (.rt (.dat .non))
def sExpr (m : M D) : M Fl := bd m fun _ => pu .nx
/-- name := data -/
def sSet (i : Nat) (m : M D) : M Fl := bd m fun d en so => .ok .nx (en.set i (some (.dat d))) so
/-- name := a new thing, its own -/
def sSetB (i : Nat) (m : M B) : M Fl := bd m fun b en so => .ok .nx (en.set i (some b)) so
/-- targets := data -/
def sSetT (tg : Tg) (m : M D) : M Fl := bd m fun d en so => match tg d en with
  | some en' => .ok .nx en' so
  | none => .no
/-- name op= data -/
def sAug (i : Nat) (f : D → D → M D) (m : M D) : M Fl := fun en so => match en[i]? with
  | some (some (.dat x)) => bd m (fun y => bd (f x y) fun z en so => .ok .nx (en.set i (some (.dat z))) so) en so
  | _ => .no
def forGo (tg : Tg) (body : M Fl) : List D → M Fl
  | [] => pu .nx
  | d :: ds => fun en so => match tg d en with
    | none => .no
    | some en1 => match body en1 so with
      | .ok .nx en2 so2 => forGo tg body ds en2 so2
      | .ok .ct en2 so2 => forGo tg body ds en2 so2
      | .ok .bk en2 so2 => .ok .nx en2 so2
      | r => r
def sFor (tg : Tg) (src : M (List D)) (body : M Fl) : M Fl := bd src fun ds => forGo tg body ds
def whGo (t : M Bool) (body : M Fl) : Nat → M Fl
  | 0 => no
  | n + 1 => fun en so => match t en so with
    | .ok false en1 so1 => .ok .nx en1 so1
    | .ok true en1 so1 => match body en1 so1 with
      | .ok .nx en2 so2 => whGo t body n en2 so2
      | .ok .ct en2 so2 => whGo t body n en2 so2
      | .ok .bk en2 so2 => .ok .nx en2 so2
      | r => r
    | .exc x en so => .exc x en so
    | .no => .no
/-- while, with so many turns at most as n says -/
def sWhile (n : En → So → Nat) (t : M Bool) (body : M Fl) : M Fl := fun en so => whGo t body (n en so) en so
section
variable {K : PySem.W.Frag} {mg : Ev} {G : Gh} {en : En} {so : So} {σ : L2.St} {H : Hp}
def _root_.Dl.Gh.retag (G : Gh) (p : Addr) (t : Tag) : Gh := { G with own := fun b => if b = p then t else G.own b }
/-- a result goes to a name -/
theorem Sim.setB {v : V} {b : B} (s : Sim K mg G en so σ H) (r : RB K G H .tmp v b) (i : Nat) : ∃ G', G.le G' ∧ Sim K mg G' (en.set i (some b)) so (σ.set i (some v)) H := by
  cases b with
  | dat d => exact ⟨G, .refl G, s.setD r i⟩
  | cel c =>
    obtain ⟨a, rfl, w, cr⟩ := r
    have eF : Same G.F (G.tag a (.slot i)).F := Same.refl G.F
    have er : Pre G.rho (G.tag a (.slot i)).rho := fun _ _ h => h
    have kp : ∀ b t, G.own b = t → t ≠ .tmp → (G.tag a (.slot i)).own b = t := fun b t e q => by
      have : b ≠ a := fun z => q (by rw [← e, z]; exact w)
      exact (if_neg this).trans e
    refine ⟨G.tag a (.slot i), tag_le _ _, ⟨⟨fun b u e => ?_, fun b u e => ?_, s.len, fun k ob b dx e1 e2 => ?_⟩, by rw [List.length_set, List.length_set, s.ln], fun j b e => ?_⟩⟩
    · obtain ⟨h1, h2⟩ := s.fr b u e
      exact ⟨h1, kp b _ h2 (by intro z; cases z)⟩
    · obtain ⟨h1, h2⟩ := s.re b u e
      exact ⟨h1, kp b _ h2 (by intro z; cases z)⟩
    · exact (s.ob k ob b dx e1 e2).keep eF er fun b u h1 h2 => ⟨h1, kp b _ rfl (by rcases h2 with h2 | h2 <;> (rw [h2]; intro z; cases z))⟩
    · by_cases hj : i = j
      · subst hj
        by_cases hl : i < en.length
        · rw [List.getElem?_set_self hl] at e
          cases e
          exact ⟨.ref a, by rw [List.getElem?_set_self (by rw [← s.ln]; exact hl)], a, rfl, tag_own, cr.keep eF er fun _ h => h⟩
        · rw [List.getElem?_eq_none (by rw [List.length_set]; omega)] at e
          cases e
      · rw [List.getElem?_set_ne hj] at e
        obtain ⟨v', e', r'⟩ := s.sl j b e
        exact ⟨v', by rw [List.getElem?_set_ne hj]; exact e', r'.keep eF er fun b u h1 h2 => ⟨h1, kp b _ h2 (by intro z; cases z)⟩⟩
end
section
variable {X : Cx} {W : WX} {a b c e : Expr} {ma mb mc m : M D} {mB : M B} {t : M Bool} {st : Stmt} {rest sts sts' : List Stmt} {u w : M Fl} {pos pos' p : Pos}
theorem ss_nil : DSs X W [] sPass := ⟨PSs_imp pss_nil fun E σ H ⟨G, en, so, s, p⟩ => p σ H G (.refl G) s⟩
theorem sseq_tr {E : Ends} {σ : L2.St} {H : Hp} (q : tS X.K X.ev W (sSeq u w) E σ H) : tSeq (tS X.K X.ev W u) (tS X.K X.ev W w) E σ H := by
  obtain ⟨G, en, so, s, p⟩ := q
  refine ⟨G, en, so, s, ?_⟩
  have p : SPost X.K X.ev G W (bd u (fun f => match f with | .nx => w | f => pu f) en so) E := p
  unfold bd at p
  unfold SPost
  cases h : u en so with
  | no => rw [h] at p; exact p
  | exc x en1 so1 => rw [h] at p; exact p
  | ok f en1 so1 =>
    rw [h] at p
    cases f with
    | nx => exact fun σ' H' G' l s' => ⟨G', en1, so1, s', p.mono l⟩
    | rt b => exact p
    | bk => exact p
    | ct => exact p
theorem ss_cons (h : DS X W st u) (k : DSs X W rest w) : DSs X W (st :: rest) (sSeq u w) := ⟨PSs_imp (pss_cons h.ps k.ps) fun _ _ _ q => sseq_tr q⟩
theorem ss_one (h : DS X W st u) : DSs X W [st] u := ⟨pss_one h.ps⟩
theorem s_pass : DS X W (.Pass pos) sPass := ⟨PS_imp ps_pass fun E σ H ⟨G, en, so, s, p⟩ => p σ H G (.refl G) s⟩
theorem s_break : DS X W (.Break pos) sBreak := ⟨PS_imp ps_break fun E σ H ⟨G, en, so, s, p⟩ => p σ H G (.refl G) s⟩
theorem s_cont : DS X W (.Continue pos) sCont := ⟨PS_imp ps_continue fun E σ H ⟨G, en, so, s, p⟩ => p σ H G (.refl G) s⟩
theorem s_retN : DS X W (.Return none pos) sRetN := ⟨PS_imp ps_retN fun E σ H ⟨G, en, so, s, p⟩ => p .non σ H G (.refl G) s .non⟩
theorem s_ret (h : DB X W e mB) : DS X W (.Return (some e) pos) (sRet mB) := by
  refine ⟨PS_imp (ps_ret h.pe) fun E σ H ⟨G, en, so, s, p⟩ => ?_⟩
  exact ⟨G, en, so, s, (SPost.bind (R1 := rlB X.K) p).imp fun v H1 ⟨G1, en1, so1, b, l, r1, s1, p1⟩ => p1 v σ H1 G1 (.refl _) s1 r1⟩
theorem s_retD (h : DE X W e m) : DS X W (.Return (some e) pos) (sRetD m) := by
  refine ⟨PS_imp (ps_ret h.pe) fun E σ H ⟨G, en, so, s, p⟩ => ?_⟩
  exact ⟨G, en, so, s, (SPost.bind (R1 := rlD X.K) p).imp fun v H1 ⟨G1, en1, so1, b, l, r1, s1, p1⟩ => p1 v σ H1 G1 (.refl _) s1 r1⟩
theorem s_if (hc : DT X W c t) (ha : DSs X W sts u) (hb : DSs X W sts' w) : DS X W (.If c sts sts' pos) (sIf t u w) := by
  refine ⟨PS_imp (ps_if hc.pt ha.ps hb.ps) fun E σ H ⟨G, en, so, s, p⟩ => ?_⟩
  refine ⟨G, en, so, s, (SPost.bind (R1 := rlT) p).imp fun v H1 ⟨G1, en1, so1, b, l, r1, s1, p1⟩ => ?_⟩
  cases r1
  cases v with
  | true => exact iteT ⟨G1, en1, so1, s1, p1⟩
  | false => exact iteF ⟨G1, en1, so1, s1, p1⟩
theorem s_expr (h : DE X W e m) (hs : swapsWith e none pos.line X.env = pure false := by rfl) : DS X W (.Expr e pos) (sExpr m) := by
  refine ⟨PS_imp (ps_expr h.pe hs) fun E σ H ⟨G, en, so, s, p⟩ => ?_⟩
  exact ⟨G, en, so, s, (SPost.bind (R1 := rlD X.K) p).imp fun v H1 ⟨G1, en1, so1, b, l, r1, s1, p1⟩ => p1 σ H1 G1 (.refl _) s1⟩
theorem s_set {i : Nat} {x : Str} (hN : X.N.Nodup) (h : DE X W e m) (hi : X.N[i]? = some x := by rfl) (hx : L2.Loc X.env.scope x := by first | exact Or.inl rfl | exact Or.inr rfl) (hs : swapsWith e (some (.Name x pos')) pos.line X.env = pure false := by rfl)
    (hf : X.fn x = true ∨ X.env.scope.names.lookup x = some .local := by first | exact .inl rfl | exact .inr rfl | assumption) : DS X W (.Assign [.Name x pos'] e pos) (sSet i m) := by
  refine ⟨PS_imp (ps_set hN hi hx h.pe hs hf) fun E σ H ⟨G, en, so, s, p⟩ => ?_⟩
  exact ⟨G, en, so, s, (SPost.bind (R1 := rlD X.K) p).imp fun v H1 ⟨G1, en1, so1, d, l, r1, s1, p1⟩ => p1 _ H1 G1 (.refl _) (s1.setD r1 i)⟩
theorem s_setB {i : Nat} {x : Str} (hN : X.N.Nodup) (h : DB X W e mB) (hi : X.N[i]? = some x := by rfl) (hx : L2.Loc X.env.scope x := by first | exact Or.inl rfl | exact Or.inr rfl) (hs : swapsWith e (some (.Name x pos')) pos.line X.env = pure false := by rfl)
    (hf : X.fn x = true ∨ X.env.scope.names.lookup x = some .local := by first | exact .inl rfl | exact .inr rfl | assumption) : DS X W (.Assign [.Name x pos'] e pos) (sSetB i mB) := by
  refine ⟨PS_imp (ps_set hN hi hx h.pe hs hf) fun E σ H ⟨G, en, so, s, p⟩ => ?_⟩
  refine ⟨G, en, so, s, (SPost.bind (R1 := rlB X.K) p).imp fun v H1 ⟨G1, en1, so1, d, l, r1, s1, p1⟩ => ?_⟩
  obtain ⟨G2, l2, s2⟩ := s1.setB r1 i
  exact p1 _ H1 G2 l2 s2
theorem s_aug {op : Operator} {i : Nat} {x : Str} {r : TIp} {f : D → D → M D} (hN : X.N.Nodup) (h : DE X W e m) (ho : PIp X op r) (hf2 : Op2 X.K X.ev r f) (hi : X.N[i]? = some x := by rfl) (hx : L2.Loc X.env.scope x := by first | exact Or.inl rfl | exact Or.inr rfl)
    (hf : X.fn x = true ∨ X.env.scope.names.lookup x = some .local := by first | exact .inl rfl | exact .inr rfl | assumption) : DS X W (.AugAssign (.Name x pos') op e pos) (sAug i f m) := by
  refine ⟨PS_imp (ps_aug hN hi hx h.pe ho hf) fun E σ H ⟨G, en, so, s, p⟩ => ?_⟩
  unfold sAug at p
  split at p
  · rename_i d hd
    obtain ⟨v, e1, rv⟩ := s.sl i _ hd
    refine ⟨v, e1, G, en, so, s, (SPost.bind (R1 := rlD X.K) p).imp fun y H1 ⟨G1, en1, so1, d1, l, r1, s1, p1⟩ => ?_⟩
    have p2 := SPost.bind (R1 := rlD X.K) (σ := σ) p1
    exact hf2 v y d d1 G1 en1 so1 σ H1 W _ (Rep.up rv l) r1 s1 (p2.imp fun z H2 ⟨G2, en2, so2, d2, l2, r2, s2, p3⟩ => p3 _ H2 G2 (.refl _) (s2.setD r2 i))
  · exact False.elim p
/-- targets = e -/
theorem s_setT {tg : Expr} {tgM : Tg} {vs : List Nat} (h : DE X W e m) (hg : DG X tg tgM vs) (hs : swapsWithSole [tg] e pos.line X.env = pure false := by rfl) (hw : swappedStores [tg] e X.env = pure none := by rfl)
    (h1 : (assignEach [tg] X.env).map (·.2) = [assign tg X.env] := by rfl) : DS X W (.Assign [tg] e pos) (sSetT tgM m) := by
  refine ⟨PS_imp (ps_asg h.pe hg.pg hs hw h1) fun E σ H ⟨G, en, so, s, p⟩ => ?_⟩
  refine ⟨G, en, so, s, (SPost.bind (R1 := rlD X.K) p).imp fun v H1 ⟨G1, en1, so1, d, l, r1, s1, p1⟩ => ?_⟩
  cases ht : tgM d en1 with
  | none => rw [ht] at p1; exact False.elim p1
  | some en' =>
    rw [ht] at p1
    exact ⟨G1, en1, so1, d, en', r1, s1, ht, fun σ' s' _ => p1 σ' H1 G1 (.refl _) s'⟩
theorem s_for {tg iter : Expr} {tgM : Tg} {vs : List Nat} {src : M (List D)} (hp : PassesOwn (model X.prog X.w) X.A X.env X.xe) (hc : X.calm = true) (hi : DI X W tg iter src) (hg : DG X tg tgM vs) (hb : DSs X W sts u) (hs : ∀ x, foldedSetIterable iter X.env x = pure x := by intro _; rfl) :
    DS X W (.For tg iter sts [] pos) (sFor tgM src u) := by
  refine ⟨PS_imp (ps_for hp hc hi.pi hg.pg hb.ps hs) fun E σ H ⟨G, en, so, s, p⟩ => ?_⟩
  refine ⟨G, en, so, s, (SPost.bind (R1 := fun G _ J ds => Walk X.K G.F G.rho J ds) p).imp fun J H1 ⟨G1, en1, so1, ds, l, wk, s1, p1⟩ => ?_⟩
  refine ⟨fun i m σ H => m = ds.length - i ∧ i ≤ ds.length ∧ ∃ G en so, G1.le G ∧ Sim X.K X.ev G en so σ H ∧ SPost X.K X.ev G W (forGo tgM u (ds.drop i) en so) E, ⟨_, rfl, Nat.zero_le _, G1, en1, so1, .refl _, s1, p1⟩, ?_⟩
  rintro i m σ H ⟨rfl, hi, G, en, so, l, s, p⟩
  have sfH : Same G1.F H := l.F.trans s.toSimO.rep
  by_cases hlt : i < ds.length
  · have ed : ds[i]? = some ds[i] := List.getElem?_eq_getElem hlt
    obtain ⟨go, yl⟩ := (wk i H sfH).1 _ ed
    refine .inr ⟨go, _, fun σ' H' h => ⟨ds.length - (i + 1), by omega, h⟩, fun x H' y => ?_⟩
    have dr : ds.drop i = ds[i] :: ds.drop (i + 1) := by rw [List.drop_eq_getElem_cons hlt]
    rw [dr] at p
    have item : ∃ G2, G.le G2 ∧ Sim X.K X.ev G2 en so σ H' ∧ Rep X.K G2.F G2.rho x ds[i] := by
      rcases yl x H' y with ⟨rfl, r⟩ | ⟨T, ws, es, rfl, hT, rfl, e, r⟩
      · exact ⟨G, .refl G, s, r.up l⟩
      · obtain ⟨s2, l2⟩ := s.newF (o := .tup ws) hT
        refine ⟨_, l2, s2, ?_⟩
        rw [e]
        exact .tup (.inl (.inl (show upd G.F T _ T = _ from upd_same))) (r.up (l.trans l2))
    obtain ⟨G2, l2, s2, r2⟩ := item
    unfold forGo at p
    cases et : tgM ds[i] en with
    | none => rw [et] at p; exact False.elim p
    | some en0 =>
      rw [et] at p
      refine ⟨G2, en, so, ds[i], en0, r2, s2, et, fun σ' sg wp => ⟨G2, en0, so, sg, ?_⟩⟩
      dsimp only at p
      cases e1 : u en0 so with
      | no => rw [e1] at p; exact False.elim p
      | exc x1 en2 so2 =>
        rw [e1] at p
        exact fun Cl d σ' H' G' l' s' x' => p Cl d σ' H' G' (l2.trans l') s' x'
      | ok f en2 so2 =>
        rw [e1] at p
        cases f with
        | nx => exact fun σ3 H3 G3 l3 s3 => ⟨rfl, hlt, G3, en2, so2, (l.trans l2).trans l3, s3, p.mono (l2.trans l3)⟩
        | ct => exact fun σ3 H3 G3 l3 s3 => ⟨rfl, hlt, G3, en2, so2, (l.trans l2).trans l3, s3, p.mono (l2.trans l3)⟩
        | bk => exact fun σ3 H3 G3 l3 s3 => p σ3 H3 G3 (l2.trans l3) s3
        | rt b => exact fun v σ3 H3 G3 l3 s3 r3 => p v σ3 H3 G3 (l2.trans l3) s3 r3
  · have e : i = ds.length := by omega
    subst e
    rw [List.drop_length] at p
    exact .inl ⟨(wk _ H sfH).2 (Nat.le_refl _), p σ H G (.refl _) s⟩
theorem s_while {n : En → So → Nat} (hp : PassesOwn (model X.prog X.w) X.A X.env X.xe) (hc : DT X W c t) (hb : DSs X W sts u) : DS X W (.While c sts [] pos) (sWhile n t u) := by
  refine ⟨PS_imp (ps_while hp hc.pt hb.ps) fun E σ H ⟨G, en, so, s, p⟩ => ?_⟩
  refine ⟨fun m σ H => ∃ G en so, Sim X.K X.ev G en so σ H ∧ SPost X.K X.ev G W (whGo t u m en so) E, ⟨n en so, G, en, so, s, p⟩, ?_⟩
  rintro m σ H ⟨G, en, so, s, p⟩
  cases m with
  | zero => exact False.elim p
  | succ m =>
    refine ⟨G, en, so, s, ?_⟩
    unfold whGo at p
    cases e1 : t en so with
    | no => rw [e1] at p; exact False.elim p
    | exc x1 en2 so2 => rw [e1] at p; exact fun Cl d H' G' l' s' x' => p Cl d σ H' G' l' s' x'
    | ok k en2 so2 =>
      rw [e1] at p
      intro k' H1 G1 l1 s1 hk
      subst hk
      cases k' with
      | false => exact iteF (p σ H1 G1 l1 s1)
      | true =>
        refine iteT ⟨_, fun σ' H' h => ⟨m, Nat.lt_succ_self m, h⟩, G1, en2, so2, s1, ?_⟩
        dsimp only at p
        cases e2 : u en2 so2 with
        | no => rw [e2] at p; exact False.elim p
        | exc x1 en2 so2 => rw [e2] at p; exact fun Cl d σ' H' G' l' s' x' => p Cl d σ' H' G' (l1.trans l') s' x'
        | ok f en3 so3 =>
          rw [e2] at p
          cases f with
          | nx => exact fun σ3 H3 G3 l3 s3 => ⟨G3, en3, so3, s3, p.mono (l1.trans l3)⟩
          | ct => exact fun σ3 H3 G3 l3 s3 => ⟨G3, en3, so3, s3, p.mono (l1.trans l3)⟩
          | bk => exact fun σ3 H3 G3 l3 s3 => p σ3 H3 G3 (l1.trans l3) s3
          | rt b => exact fun v σ3 H3 G3 l3 s3 r3 => p v σ3 H3 G3 (l1.trans l3) s3 r3
end
end
end Dl

set_option Elab.async false
set_option linter.all false
set_option maxRecDepth 100000
set_option maxHeartbeats 1000000
/-! The data level: name = [..], functions, the law's end. -/
namespace Dl
open PySem PySem.Spec PyProof.Rows L2
noncomputable section
section
variable {X : Cx} {W : WX} {tg iter elt e : Expr} {ifs es : List Expr} {scope : Scope} {pos spos py p : Pos} {own : List (Str × Nat)} {tgM : Tg} {src : M (List D)} {tt : M Bool} {el : M D} {ms : M (List D)}
/-- name = [elt for tg in iter if ..], the new list its own -/
theorem s_setLcB {i : Nat} {y : Str} (hc : X.calm = true) (hN : X.N.Nodup) (hi : DI X W tg iter src) (ok : BlkOk X.N X.env.scope scope own)
    (hg : ∀ (s : Shared) (H : Hp) (C : Addr) (cl : List (Str × Addr)) (fp : List Addr), DG (X.blk s H scope (compEnvC scope cl C X.env) fp) tg tgM (own.map (·.2)))
    (ht : ∀ (s : Shared) (H : Hp) (C : Addr) (cl : List (Str × Addr)) (fp : List Addr), DTs (X.blk s H scope (compEnvC scope cl C X.env) fp) W0 ifs tt)
    (he : ∀ (s : Shared) (H : Hp) (C : Addr) (cl : List (Str × Addr)) (fp : List Addr), DE (X.blk s H scope (compEnvC scope cl C X.env) fp) W0 elt el)
    (hsw : swapsWith (.ListComp elt [⟨tg, iter, ifs, 0⟩] scope pos) (some (.Name y py)) spos.line X.env = pure true) (hy : X.N[i]? = some y := by rfl) (hyl : X.env.scope.names.lookup y = some .local := by rfl) (hs : ∀ x, foldedSetIterable iter X.env x = pure x := by intro _; rfl) :
    DS X W (.Assign [.Name y py] (.ListComp elt [⟨tg, iter, ifs, 0⟩] scope pos) spos) (sSetB i (mLc (own.map (·.2)) tgM src tt el)) := by
  refine ⟨PS_imp (ps_setLc (g := tgR X.K X.ev tgM (own.map (·.2))) (tt := tM X.K X.ev W0 rlT tt) (te := tM X.K X.ev W0 (rlD X.K) el) hc hN hy hyl hsw hi.pi ok (fun s H C cl fp => (hg s H C cl fp).pg) (fun s H C cl fp => (ht s H C cl fp).pts) (fun s H C cl fp => (he s H C cl fp).pe) hs) fun E σ H ⟨G, en, so, s, p⟩ => ?_⟩
  refine lc_read (W := W) (mg := X.ev) ⟨G, en, so, s, (SPost.bind (R1 := rlB X.K) p).imp fun v H1 ⟨G1, en1, so1, d, l, r1, s1, p1⟩ => ?_⟩
  obtain ⟨G2, l2, s2⟩ := s1.setB r1 i
  exact p1 _ H1 G2 l2 s2
/-- .. as data -/
theorem s_setLcD {i : Nat} {y : Str} (hc : X.calm = true) (hN : X.N.Nodup) (hi : DI X W tg iter src) (ok : BlkOk X.N X.env.scope scope own)
    (hg : ∀ (s : Shared) (H : Hp) (C : Addr) (cl : List (Str × Addr)) (fp : List Addr), DG (X.blk s H scope (compEnvC scope cl C X.env) fp) tg tgM (own.map (·.2)))
    (ht : ∀ (s : Shared) (H : Hp) (C : Addr) (cl : List (Str × Addr)) (fp : List Addr), DTs (X.blk s H scope (compEnvC scope cl C X.env) fp) W0 ifs tt)
    (he : ∀ (s : Shared) (H : Hp) (C : Addr) (cl : List (Str × Addr)) (fp : List Addr), DE (X.blk s H scope (compEnvC scope cl C X.env) fp) W0 elt el)
    (hsw : swapsWith (.ListComp elt [⟨tg, iter, ifs, 0⟩] scope pos) (some (.Name y py)) spos.line X.env = pure true) (hy : X.N[i]? = some y := by rfl) (hyl : X.env.scope.names.lookup y = some .local := by rfl) (hs : ∀ x, foldedSetIterable iter X.env x = pure x := by intro _; rfl) :
    DS X W (.Assign [.Name y py] (.ListComp elt [⟨tg, iter, ifs, 0⟩] scope pos) spos) (sSet i (mFz (mLc (own.map (·.2)) tgM src tt el))) := by
  refine ⟨PS_imp (ps_setLc (g := tgR X.K X.ev tgM (own.map (·.2))) (tt := tM X.K X.ev W0 rlT tt) (te := tM X.K X.ev W0 (rlD X.K) el) hc hN hy hyl hsw hi.pi ok (fun s H C cl fp => (hg s H C cl fp).pg) (fun s H C cl fp => (ht s H C cl fp).pts) (fun s H C cl fp => (he s H C cl fp).pe) hs) fun E σ H ⟨G, en, so, s, p⟩ => ?_⟩
  have p0 := (SPost.bind (R1 := rlD X.K) (σ := σ) p)
  refine lc_read (W := W) (mg := X.ev) ⟨G, en, so, s, (Post.bind (R1 := rlB X.K) p0).imp fun v H1 ⟨G1, en1, so1, b, l, r1, s1, p1⟩ => ?_⟩
  obtain ⟨G2, l2, s2, r2⟩ := s1.toD r1
  obtain ⟨G3, en3, so3, d, l3, r3, s3, p3⟩ := p1.ok' l2 s2 r2
  exact p3 _ H1 G3 (.refl _) (s3.setD r3 i)

/-! ### functions -/
inductive Rf where
  | ok (b : B) (so : So) | exc (x : Xc) (so : So) | no
abbrev FunM := List D → So → Rf
def mkF (np n : Nat) (m : M Fl) : FunM := fun ds so => if ds.length = np then
    match m (ds.map (fun d => some (.dat d)) ++ List.replicate (n - ds.length) none) so with
    | .ok .nx _ so' => .ok (.dat .non) so'
    | .ok (.rt b) _ so' => .ok b so'
    | .exc x _ so' => .exc x so'
    | _ => .no
  else .no
def FPost (K : PySem.W.Frag) (mg : Ev) (G : Gh) (r : Rf) (Q : VK) (E : XK) : Prop := match r with
  | .ok b so' => ∀ v H' G', G.le G' → SimO K mg G' so' H' → RB K G' H' .tmp v b → Q v H'
  | .exc x so' => ∀ Cl d H' G', G.le G' → SimO K mg G' so' H' → XR K mg G' H' x Cl d → E Cl d H'
  | .no => False
def spD (K : PySem.W.Frag) (mg : Str → Option Value) (f : FunM) : Sp := fun vs H Q E => ∃ G ds so, Reps K G.F G.rho vs ds ∧ SimO K ⟨mg, none⟩ G so H ∧ FPost K ⟨mg, none⟩ G (f ds so) Q E
theorem args_sl {K : PySem.W.Frag} {G : Gh} {H : Hp} (n : Nat) : ∀ {vs : List V} {ds : List D} (i : Nat) (b : B), Reps K G.F G.rho vs ds → (ds.map (fun d => some (B.dat d)) ++ List.replicate n none)[i]? = some (some b) → ∃ v, (vs.map some ++ List.replicate n none)[i]? = some (some v) ∧ RB K G H (.slot i) v b
  | _, _, i, b, .nil, e => by
    simp only [List.map_nil, List.nil_append] at e
    rw [List.getElem?_replicate] at e
    split at e <;> cases e
  | _, _, 0, b, .cons h r, e => by
    have e' : some (some (B.dat _)) = some (some b) := e
    cases e'
    exact ⟨_, rfl, h⟩
  | _, _, i + 1, b, .cons h r, e => by
    obtain ⟨v, e1, r1⟩ := args_sl (H := H) n i b r e
    refine ⟨v, e1, ?_⟩
    cases b with
    | dat d => exact r1
    | cel c =>
      exfalso
      revert e
      intro e
      have e' : (List.map (fun d => some (B.dat d)) _ ++ List.replicate n none)[i]? = some (some (B.cel c)) := e
      rw [List.getElem?_append] at e'
      split at e'
      · rw [List.getElem?_map] at e'
        cases q : (_ : List D)[i]? with
        | none => rw [q] at e'; cases e'
        | some d => rw [q] at e'; cases e'
      · rw [List.getElem?_replicate] at e'
        split at e' <;> cases e'
variable {P : Program} {w : World} {K : PySem.W.Frag} {mg : Str → Option Value} {base : Heap}
/-- where no exception is handled -/
theorem ev_none {X : Cx} (h : X.A.handled = none) : X.ev = ⟨X.mg, none⟩ := by
  show Ev.mk X.mg (hxOf X.A.handled) = _
  rw [h]
  rfl
theorem ev_ps {X : Cx} {sts : List Stmt} {W : WX} {m : M Fl} (h : X.A.handled = none) (q : PSs X sts (tS X.K X.ev W m)) : PSs X sts (tS X.K ⟨X.mg, none⟩ W m) := by
  rw [ev_none h] at q
  exact q
/-- THE RULE for a def: its body -/
theorem fn_d {x qual : Str} {st : Stmt} {f : Addr} {fd : FuncData} {N ps : List Str} {k : Nat} {m : M Fl} (F : Fun K x qual st f fd) (S : FnScope N ps (defScope st))
    (hb : ∀ (cdv : Value) (A : Around) (outer : List Env) (s : Shared) (H : Hp) (E : XK), Room k (A.deeper (envOfC qual (defScope st) s.heap.objs.size f cdv)) →
      DSs (cxOf (L2.CX P w) P w K mg base N qual (defScope st) f cdv A outer s H E) (fun Cl d _ H => E Cl d H) (defBody st) m) : FnOk P w K mg base (L2.CX P w) (k + 1) f fd ps (spD K mg (mkF ps.length N.length m)) := by
  refine F.okX S (fun vs H Q E ⟨G, ds, so, r, s, p⟩ => ?_) fun cdv A outer s H vs Q E hr ⟨G, ds, so, r, sm, p⟩ => ⟨_, ev_ps hr.hd (hb cdv A outer s H E hr).ps, G, ds.map (fun d => some (.dat d)) ++ List.replicate (N.length - ds.length) none, so, ?_, ?_⟩
  · unfold mkF at p
    by_cases h : ds.length = ps.length
    · rw [r.len]; exact h
    · rw [if_neg h] at p; exact False.elim p
  · have e : L2.start N vs = vs.map some ++ List.replicate (N.length - ds.length) none := by rw [← r.len]; rfl
    rw [e]
    exact ⟨sm, by simp [r.len], fun i b e => args_sl _ i b r e⟩
  · unfold mkF at p
    by_cases h : ds.length = ps.length
    · rw [if_pos h] at p
      revert p
      generalize m (ds.map (fun d => some (.dat d)) ++ List.replicate (N.length - ds.length) none) so = r
      intro p
      cases r with
      | no => exact False.elim p
      | exc x en so => exact fun Cl d σ' H' G' l s' x' => p Cl d H' G' l s'.toSimO x'
      | ok fl en so =>
        cases fl with
        | nx => exact fun σ' H' G' l s' => p .non H' G' l s'.toSimO .non
        | rt b => exact fun v σ' H' G' l s' rb => p v H' G' l s'.toSimO rb
        | bk => exact False.elim p
        | ct => exact False.elim p
    · rw [if_neg h] at p; exact False.elim p
/-- a def that stands in the module, by its name -/
structure Fn (P : Program) (w : World) (K : PySem.W.Frag) (mg : Str → Option Value) (base : Heap) (x : Str) (f : FunM) (k : Nat) : Prop where
  ex : ∃ a fd ps, FnOk P w K mg base (L2.CX P w) k a fd ps (spD K mg f) ∧ mg x = some (.ref a) ∧ PySem.W.keepIn K (.ref a) = true ∧ Binds K fd ps []
def mCall (f : FunM) (ms : M (List D)) : M B := bd ms fun ds en so => match f ds so with
  | .ok b so' => .ok b en so'
  | .exc x so' => .exc x en so'
  | .no => .no
/-- the caller's own cells, for the time of a call -/
def _root_.Dl.Gh.lend (G : Gh) (H : Hp) : Gh where
  F := G.F
  rho := G.rho
  own := fun b => match G.own b with
    | .slot _ => .rest
    | t => t
  R := fun b => match G.own b with
    | .slot _ => H b
    | _ => G.R b
def _root_.Dl.Gh.home (G G' : Gh) (H : Hp) : Gh where
  F := G'.F
  rho := G'.rho
  R := G.R
  own := fun b => match G.own b, H b with
    | .slot i, some _ => .slot i
    | _, _ => G'.own b
theorem lend_own {G : Gh} {H : Hp} {b : Addr} {t : Tag} (h : G.own b = t) (ht : ∀ i, t ≠ .slot i) : (G.lend H).own b = t := by
  show (match G.own b with | .slot _ => Tag.rest | t => t) = t
  rw [h]
  cases t <;> first | rfl | exact absurd rfl (ht _)
theorem Sim.lend {mg : Ev} {G : Gh} {en : En} {so : So} {σ : L2.St} {H : Hp} (s : Sim K mg G en so σ H) : SimO K mg (G.lend H) so H := by
  have eF : Same G.F (G.lend H).F := Same.refl G.F
  have er : Pre G.rho (G.lend H).rho := fun _ _ h => h
  refine ⟨fun a o e => ?_, fun a o e => ?_, s.len, fun k o a dx e1 e2 => ?_⟩
  · obtain ⟨h1, h2⟩ := s.fr a o e
    exact ⟨h1, lend_own h2 (fun i z => by cases z)⟩
  · have e' : (match G.own a with | .slot _ => H a | _ => G.R a) = some o := e
    cases h : G.own a with
    | slot i =>
      rw [h] at e'
      exact ⟨e', by show (match G.own a with | .slot _ => Tag.rest | t => t) = .rest; rw [h]⟩
    | _ =>
      rw [h] at e'
      obtain ⟨h1, h2⟩ := s.re a o e'
      exact ⟨h1, lend_own h2 (fun i z => by cases z)⟩
  · exact (s.ob k o a dx e1 e2).keep eF er fun b u h1 h2 => ⟨h1, lend_own rfl (fun i z => by rcases h2 with h2 | h2 <;> (rw [h2] at z; cases z))⟩
theorem home_own {G G' : Gh} {H : Hp} {b : Addr} {t : Tag} (h : G'.own b = t) (hn : ∀ i o, G.own b = .slot i → H b = some o → False) : (G.home G' H).own b = t := by
  show (match G.own b, H b with | .slot i, some _ => Tag.slot i | _, _ => G'.own b) = t
  cases h1 : G.own b with
  | slot i =>
    cases h2 : H b with
    | some o => exact (hn i o h1 h2).elim
    | none => exact h
  | _ => exact h
theorem Sim.home {mg : Ev} {G G' : Gh} {en : En} {so so' : So} {σ : L2.St} {H H' : Hp} (s : Sim K mg G en so σ H) (l : (G.lend H).le G') (s' : SimO K mg G' so' H') : Sim K mg (G.home G' H) en so' σ H' ∧ G.le (G.home G' H) := by
  have eF : Same G'.F (G.home G' H).F := Same.refl G'.F
  have er : Pre G'.rho (G.home G' H).rho := fun _ _ h => h
  -- the caller's cells stand
  have cells : ∀ b i o, G.own b = .slot i → H b = some o → H' b = some o ∧ G'.own b = .rest := fun b i o h1 h2 => by
    refine s'.re b o ?_
    rw [l.R]
    show (match G.own b with | .slot _ => H b | _ => G.R b) = some o
    rw [h1]
    exact h2
  have hn : ∀ {b : Addr} {t : Tag}, G'.own b = t → t ≠ .rest → ∀ i o, G.own b = .slot i → H b = some o → False := fun {b t} h q i o h1 h2 => q (h.symm.trans (cells b i o h1 h2).2)
  refine ⟨⟨⟨fun a o e => ?_, fun a o e => ?_, s'.len, fun k o a dx e1 e2 => ?_⟩, s.ln, fun i b e => ?_⟩, l.F, l.rho, rfl⟩
  · obtain ⟨h1, h2⟩ := s'.fr a o e
    exact ⟨h1, home_own h2 (hn h2 (by intro z; cases z))⟩
  · have e' : G.R a = some o := e
    obtain ⟨h1, h2⟩ := s.re a o e'
    have e2 : G'.R a = some o := by
      rw [l.R]
      show (match G.own a with | .slot _ => H a | _ => G.R a) = some o
      rw [h2]
      exact e'
    obtain ⟨h3, h4⟩ := s'.re a o e2
    exact ⟨h3, home_own h4 (fun i o h5 _ => by rw [h2] at h5; cases h5)⟩
  · exact (s'.ob k o a dx e1 e2).keep eF er fun b u h1 h2 => ⟨h1, home_own rfl (hn rfl (by rcases h2 with h2 | h2 <;> (rw [h2]; intro z; cases z)))⟩
  · obtain ⟨v, e1, r⟩ := s.sl i b e
    refine ⟨v, e1, r.keep (show Same G.F (G.home G' H).F from l.F) (show Pre G.rho (G.home G' H).rho from l.rho) fun a o h1 h2 => ⟨(cells a i o h2 h1).1, ?_⟩⟩
    show (match G.own a, H a with | .slot i, some _ => Tag.slot i | _, _ => G'.own a) = .slot i
    rw [h2, h1]
/-- f(e, ..) -/
theorem d_call {x : Str} {f : FunM} {k : Nat} (F : Fn X.prog X.w X.K X.mg X.base x f k) (hr : Room k X.A) (hg : Gl X x) (tk : Takes X W) (ha : DA X W (e :: es) ms)
    (hdb : (x == ("__debug__" : Str)) = false := by decide) (he : starEach (e :: es) X.env = (false, eval e X.env) :: starEach es X.env := by rfl) (hpl : (backTo pos (starEach es X.env)).any (·.1) = false := by rfl) :
    DB X W (.Call (.Name x p) (e :: es) [] pos) (mCall f ms) := by
  obtain ⟨a, fd, ps, ok, hm, hk, hb⟩ := F.ex
  have hpa : PA X (e :: es) (tM X.K ⟨X.mg, none⟩ W (rlDs X.K) ms) := by
    have := ha.pa
    rw [ev_none hr.hd] at this
    exact this
  have key : PE X (.Call (.Name x p) (e :: es) [] pos) (tM X.K ⟨X.mg, none⟩ W (rlB X.K) (mCall f ms)) := ?_
  · exact ⟨by rw [ev_none hr.hd]; exact key⟩
  refine PE_imp (pe_callS ok hr hg hm hk hb (fun σ => passAt tk σ) hpa hdb he hpl) fun σ H Q ⟨G, en, so, s, p⟩ => ?_
  refine ⟨G, en, so, s, (Post.bind (R1 := rlDs X.K) p).imp fun vs H1 ⟨G1, en1, so1, ds, l, r1, s1, p1⟩ => ?_⟩
  refine ⟨G1.lend H1, ds, so1, r1, s1.lend, ?_⟩
  revert p1
  cases f ds so1 with
  | no => exact fun p1 => False.elim p1
  | ok b so2 =>
    intro p1 v H' G' l' s' rb
    obtain ⟨s2, l2⟩ := s1.home l' s'
    refine p1 v H' _ l2 s2 (rb.keep (show Same G'.F (G1.home G' H1).F from Same.refl _) (show Pre G'.rho (G1.home G' H1).rho from fun _ _ h => h) fun b o h1 h2 => ⟨h1, home_own h2 fun i o h3 h4 => ?_⟩)
    have := s'.re b o (by rw [l'.R]; show (match G1.own b with | .slot _ => H1 b | _ => G1.R b) = some o; rw [h3]; exact h4)
    rw [h2] at this
    cases this.2
  | exc x so2 =>
    intro p1 Cl d H' G' l' s' xr
    obtain ⟨s2, l2⟩ := s1.home l' s'
    exact p1 Cl d H' _ l2 s2 xr
end
end
end Dl

set_option Elab.async false
set_option linter.all false
set_option maxRecDepth 100000
set_option maxHeartbeats 1000000
/-! The data level: methods of texts, is None, the law's end. -/
namespace Dl
open PySem PySem.Spec PyProof.Rows L2
noncomputable section
section
variable {X : Cx}
theorem op_addA : OpR X (binaryOp .Add) (fun x y H Q => rI0 (fun i j => .int (i + j)) x y H Q ∨ ∃ i j, x = .str i ∧ y = .str j ∧ i.length + j.length ≤ sizeLine ∧ Q (.str (i ++ j)) H) := OpR.or op_add op_add_str
theorem ip_addA : PIp X .Add (fun x y H Q => rI0 (fun i j => .int (i + j)) x y H Q ∨ ∃ i j, x = .str i ∧ y = .str j ∧ i.length + j.length ≤ sizeLine ∧ Q (.str (i ++ j)) H) := (OpR.or iop_add iop_add_str : OpR X (inplaceOp .Add) _)
theorem ip_subA : PIp X .Sub (rI0 fun i j => .int (i - j)) := (iop_sub : OpR X (inplaceOp .Sub) _)
end
/-! ### is None -/
def isN (d : D) : Bool := match d with
  | .non => true
  | _ => false
def mIsN (m : M D) : M D := bd m fun d => pu (.bl (isN d))
def mNotN (m : M D) : M D := bd m fun d => pu (.bl (!isN d))
section
variable {X : Cx} {W : WX} {a b c e o : Expr} {ma mb mc m mo : M D} {ms : M (List D)} {pos p px pos' apos : Pos} {j : Nat} {x name : Str} {id : String} {r : V → List V → Hp → VK → Prop}
theorem isN_of {K : PySem.W.Frag} {F : Hp} {rho : List (Addr × Addr)} {v : V} {d : D} (r : Rep K F rho v d) : decide (v = .non) = isN d := by cases r <;> rfl
theorem isN_tr {σ : L2.St} {H : Hp} {Q : VK} (q : tM X.K X.ev W (rlD X.K) (mIsN ma) σ H Q) : tIsN (tM X.K X.ev W (rlD X.K) ma) σ H Q := by
  obtain ⟨G, en, so, s, p⟩ := q
  refine ⟨G, en, so, s, (Post.bind (R1 := rlD X.K) p).imp fun v H1 ⟨G1, en1, so1, d, l, r1, s1, p1⟩ => ?_⟩
  rw [isN_of r1]
  exact p1.ok s1 (.bl _)
theorem notN_tr {σ : L2.St} {H : Hp} {Q : VK} (q : tM X.K X.ev W (rlD X.K) (mNotN ma) σ H Q) : tNotN (tM X.K X.ev W (rlD X.K) ma) σ H Q := by
  obtain ⟨G, en, so, s, p⟩ := q
  refine ⟨G, en, so, s, (Post.bind (R1 := rlD X.K) p).imp fun v H1 ⟨G1, en1, so1, d, l, r1, s1, p1⟩ => ?_⟩
  rw [isN_of r1]
  exact p1.ok s1 (.bl _)
theorem d_isN (ha : DE X W a ma) : DE X W (.Compare a [.Is] [.Constant .none j pos'] pos) (mIsN ma) := ⟨PE_imp (pe_cmp (pc_isN ha.pe)) fun _ _ _ q => isN_tr q⟩
theorem d_notN (ha : DE X W a ma) : DE X W (.Compare a [.IsNot] [.Constant .none j pos'] pos) (mNotN ma) := ⟨PE_imp (pe_cmp (pc_notN ha.pe)) fun _ _ _ q => notN_tr q⟩
theorem d_isNT (ha : DE X W a ma) : DT X W (.Compare a [.Is] [.Constant .none j pos'] pos) (mT (mIsN ma)) := ⟨PT_imp (pt_cmp (pc_isN ha.pe)) fun _ _ _ q => isN_tr (mT_tr q)⟩
theorem d_notNT (ha : DE X W a ma) : DT X W (.Compare a [.IsNot] [.Constant .none j pos'] pos) (mT (mNotN ma)) := ⟨PT_imp (pt_cmp (pc_notN ha.pe)) fun _ _ _ q => notN_tr (mT_tr q)⟩

/-! ### methods of texts -/
def OpM1 (K : PySem.W.Frag) (mg : Ev) (r : V → List V → Hp → VK → Prop) (f : List Nat → D → M D) : Prop :=
  ∀ (z : List Nat) (y : V) (d : D) (G : Gh) (en : En) (so : So) (σ : L2.St) (H : Hp) (W : WX) (Q : VK), Rep K G.F G.rho y d → Sim K mg G en so σ H → Post K mg G W (rlD K) σ (f z d en so) Q → r (.str (sT z)) [y] H Q
def OpM1B (K : PySem.W.Frag) (mg : Ev) (r : V → List V → Hp → VK → Prop) (f : List Nat → D → M B) : Prop :=
  ∀ (z : List Nat) (y : V) (d : D) (G : Gh) (en : En) (so : So) (σ : L2.St) (H : Hp) (W : WX) (Q : VK), Rep K G.F G.rho y d → Sim K mg G en so σ H → Post K mg G W (rlB K) σ (f z d en so) Q → r (.str (sT z)) [y] H Q
def OpM0 (K : PySem.W.Frag) (mg : Ev) (r : V → List V → Hp → VK → Prop) (f : List Nat → M D) : Prop :=
  ∀ (z : List Nat) (G : Gh) (en : En) (so : So) (σ : L2.St) (H : Hp) (W : WX) (Q : VK), Sim K mg G en so σ H → Post K mg G W (rlD K) σ (f z en so) Q → r (.str (sT z)) [] H Q
def mM1 {A : Type} (f : List Nat → D → M A) (o e : M D) : M A := bd o fun d => match d with
  | .str z => bd e fun y => f z y
  | _ => no
def mM0 {A : Type} (f : List Nat → M A) (o : M D) : M A := bd o fun d => match d with
  | .str z => f z
  | _ => no
theorem d_m1 {f : List Nat → D → M D} (slot : Slot "str" name id) (ty : typeOf (.builtin id) = pure (.type "method_descriptor")) (rule : MtR X id r) (h : OpM1 X.K X.ev r f) (ho : DE X W o mo) (he : DE X W e m)
    (hs : starEach [e] X.env = [(false, eval e X.env)] := by rfl) (hbase : attributeBase o name X.env (eval o X.env) = eval o X.env := by rfl) (hline : (apos.endLine == pos.line) = true := by rfl) : DE X W (.Call (.Attribute o name apos) [e] [] pos) (mM1 f mo m) := by
  refine ⟨PE_imp (pe_m1 slot ty rule ho.pe he.pe hs hbase hline) fun σ H Q ⟨G, en, so, s, p⟩ => ?_⟩
  refine ⟨G, en, so, s, (Post.bind (R1 := rlD X.K) p).imp fun v H1 ⟨G1, en1, so1, d, l, r1, s1, p1⟩ => ?_⟩
  cases r1 with
  | str z => exact ⟨⟨_, rfl⟩, G1, en1, so1, s1, (Post.bind (R1 := rlD X.K) p1).imp fun y H2 ⟨G2, en2, so2, d2, l2, r2, s2, p2⟩ => h z y d2 G2 en2 so2 σ H2 W Q r2 s2 p2⟩
  | _ => exact False.elim p1
theorem b_m1 {f : List Nat → D → M B} (slot : Slot "str" name id) (ty : typeOf (.builtin id) = pure (.type "method_descriptor")) (rule : MtR X id r) (h : OpM1B X.K X.ev r f) (ho : DE X W o mo) (he : DE X W e m)
    (hs : starEach [e] X.env = [(false, eval e X.env)] := by rfl) (hbase : attributeBase o name X.env (eval o X.env) = eval o X.env := by rfl) (hline : (apos.endLine == pos.line) = true := by rfl) : DB X W (.Call (.Attribute o name apos) [e] [] pos) (mM1 f mo m) := by
  refine ⟨PE_imp (pe_m1 slot ty rule ho.pe he.pe hs hbase hline) fun σ H Q ⟨G, en, so, s, p⟩ => ?_⟩
  refine ⟨G, en, so, s, (Post.bind (R1 := rlD X.K) p).imp fun v H1 ⟨G1, en1, so1, d, l, r1, s1, p1⟩ => ?_⟩
  cases r1 with
  | str z => exact ⟨⟨_, rfl⟩, G1, en1, so1, s1, (Post.bind (R1 := rlD X.K) p1).imp fun y H2 ⟨G2, en2, so2, d2, l2, r2, s2, p2⟩ => h z y d2 G2 en2 so2 σ H2 W Q r2 s2 p2⟩
  | _ => exact False.elim p1
theorem d_m0 {f : List Nat → M D} (slot : Slot "str" name id) (ty : typeOf (.builtin id) = pure (.type "method_descriptor")) (rule : MtR X id r) (h : OpM0 X.K X.ev r f) (ho : DE X W o mo)
    (hbase : attributeBase o name X.env (eval o X.env) = eval o X.env := by rfl) (hline : (apos.endLine == pos.line) = true := by rfl) : DE X W (.Call (.Attribute o name apos) [] [] pos) (mM0 f mo) := by
  refine ⟨PE_imp (pe_m0 slot ty rule ho.pe hbase hline) fun σ H Q ⟨G, en, so, s, p⟩ => ?_⟩
  refine ⟨G, en, so, s, (Post.bind (R1 := rlD X.K) p).imp fun v H1 ⟨G1, en1, so1, d, l, r1, s1, p1⟩ => ?_⟩
  cases r1 with
  | str z => exact ⟨⟨_, rfl⟩, h z G1 en1 so1 σ H1 W Q s1 p1⟩
  | _ => exact False.elim p1
end
/-- a list of texts -/
def strsOf : List D → Option (List (List Nat))
  | [] => some []
  | .str s :: r => (strsOf r).map (s :: ·)
  | _ => none
def szL (l : List (List Nat)) : Nat := (l.map List.length).sum
def joinD (z : List Nat) : D → M D
  | .lst xs => match strsOf xs with
    | some ys => gd (szL ys + ys.length * z.length ≤ 16777216) (pu (.str (TL.joinL z ys)))
    | none => no
  | .tup xs => match strsOf xs with
    | some ys => gd (szL ys + ys.length * z.length ≤ 16777216) (pu (.str (TL.joinL z ys)))
    | none => no
  | _ => no
def splitD (z : List Nat) : D → M B
  | .str s => gd (s ≠ [] ∧ z.length + 2 ≤ 16777216 ∧ s.all (· < 256) = true) (pu (.cel (.lst ((TL.spl s 0 [] z).map .str))))
  | _ => no
def startsD (z : List Nat) : D → M D
  | .str s => pu (.bl (Txt.startswith (sT z) (sT s)))
  | _ => no
def endsD (z : List Nat) : D → M D
  | .str s => pu (.bl (Txt.endswith (sT z) (sT s)))
  | _ => no
def findD (z : List Nat) : D → M D
  | .str s => pu (.int (Txt.find (sT z) (sT s)))
  | _ => no
def countD (z : List Nat) : D → M D
  | .str s => pu (.int (Txt.count (sT z) (sT s)))
  | _ => no
section
variable {K : PySem.W.Frag} {mg : Ev}
theorem strs_of {F : Hp} {rho : List (Addr × Addr)} : ∀ {vs : List V} {ds : List D} {ys : List (List Nat)}, Reps K F rho vs ds → strsOf ds = some ys → vs = (ys.map sT).map V.str
  | _, [], ys, .nil, e => by cases e; rfl
  | _, .str b :: r, ys, .cons h k, e => by
    cases h
    have e' : (strsOf r).map (b :: ·) = some ys := e
    cases q : strsOf r with
    | none => rw [q] at e'; cases e'
    | some bs' =>
      rw [q] at e'
      cases e'
      rw [strs_of k q]
      rfl
  | _, .non :: _, _, _, e => nomatch e
  | _, .int _ :: _, _, _, e => nomatch e
  | _, .bl _ :: _, _, _, e => nomatch e
  | _, .lst _ :: _, _, _, e => nomatch e
  | _, .tup _ :: _, _, _, e => nomatch e
  | _, .dct _ :: _, _, _, e => nomatch e
  | _, .obj _ :: _, _, _, e => nomatch e
theorem reps_strs {F : Hp} {rho : List (Addr × Addr)} : ∀ (ys : List (List Nat)), Reps K F rho ((ys.map sT).map V.str) (ys.map .str)
  | [] => .nil
  | y :: ys => .cons (.str y) (reps_strs ys)
theorem szL_map (ys : List (List Nat)) : ((ys.map sT).map (·.length)).sum = szL ys := by
  unfold szL
  rw [List.map_map]
  congr 1
theorem join_sT (z : List Nat) (ys : List (List Nat)) : Txt.join (sT z) (ys.map sT) = sT (TL.joinL z ys) := by
  apply TL.ext_tl
  rw [TL.join_eq, TL.tl_join, show TL.tl (sT (TL.joinL z ys)) = TL.joinL z ys from tl_sT _, show TL.tl (sT z) = z from tl_sT z, List.map_map]
  congr 1
  have : (TL.tl ∘ sT) = id := by funext l; exact tl_sT l
  rw [this, List.map_id]
theorem opm_join : OpM1 K mg (fun x xs H Q => ∃ a p, ∃ ys : List Str, x = .str a ∧ xs = [.ref p] ∧ (SqL K H p (ys.map V.str) ∨ SqT K H p (ys.map V.str)) ∧ (ys.map (·.length)).sum + ys.length * a.length ≤ 16777216 ∧ Q (.str (Txt.join a ys)) H) joinD := by
  intro z y d G en so σ H W Q ry s p
  cases ry with
  | lst h r =>
    rename_i ds
    have p' : Post K mg G W (rlD K) σ ((match strsOf ds with | some ys => gd (szL ys + ys.length * z.length ≤ 16777216) (pu (D.str (TL.joinL z ys))) | none => no) en so) Q := p
    cases e : strsOf ds with
    | none => rw [e] at p'; exact False.elim p'
    | some ys =>
      rw [e] at p'
      obtain ⟨h1, p'⟩ := Post.gd p'
      have ev := strs_of r e
      refine ⟨sT z, _, ys.map sT, rfl, rfl, .inl (by rw [← ev]; exact s.toSimO.rep.seq h), by rw [szL_map, List.length_map, sT_len]; exact h1, ?_⟩
      rw [join_sT]
      exact p'.ok s (.str _)
  | tup h r =>
    rename_i ds
    have p' : Post K mg G W (rlD K) σ ((match strsOf ds with | some ys => gd (szL ys + ys.length * z.length ≤ 16777216) (pu (D.str (TL.joinL z ys))) | none => no) en so) Q := p
    cases e : strsOf ds with
    | none => rw [e] at p'; exact False.elim p'
    | some ys =>
      rw [e] at p'
      obtain ⟨h1, p'⟩ := Post.gd p'
      have ev := strs_of r e
      refine ⟨sT z, _, ys.map sT, rfl, rfl, .inr (by rw [← ev]; exact same_seqT s.toSimO.rep h), by rw [szL_map, List.length_map, sT_len]; exact h1, ?_⟩
      rw [join_sT]
      exact p'.ok s (.str _)
  | _ => exact False.elim p
theorem split_sT (z s : List Nat) (h0 : s ≠ []) (h : s.all (· < 256) = true) : Txt.split (sT z) (sT s) = (TL.spl s 0 [] z).map sT := by
  apply TL.map_tl_inj
  have hk : TL.tl (sT s) ≠ [] := by rw [show TL.tl (sT s) = s from tl_sT s]; exact h0
  have hc : (sT s).cps.all (· < 256) = true := by
    show (s.toArray).all (· < 256) = true
    rw [List.all_toArray]; exact h
  rw [TL.split_spl _ _ hk (TL.kind_ok hc), show TL.tl (sT s) = s from tl_sT s, show TL.tl (sT z) = z from tl_sT z, List.map_map]
  have : (TL.tl ∘ sT) = id := by funext l; exact tl_sT l
  rw [this, List.map_id]
theorem opm_split : OpM1B K mg (fun x xs H Q => ∃ a b, x = .str a ∧ xs = [.str b] ∧ (b.length == 0) = false ∧ a.length + 2 ≤ sizeLine ∧ rNewStrs (Txt.split a b) H Q) splitD := by
  intro z y d G en so σ H W Q ry s p
  cases ry with
  | str t =>
    obtain ⟨⟨h1, h2, h3⟩, p⟩ := Post.gd (c := t ≠ [] ∧ z.length + 2 ≤ 16777216 ∧ t.all (· < 256) = true) p
    refine ⟨_, _, rfl, rfl, ?_, by rw [sT_len, sizeLine_eq]; exact h2, fun q hq => ?_⟩
    · rw [sT_len]
      cases t with
      | nil => exact absurd rfl h1
      | cons _ _ => rfl
    · rw [split_sT z t h1 h3]
      exact p.ok' (tag_le q .tmp) (s.newT (t := .tmp) hq) ⟨q, rfl, tag_own, _, upd_same, reps_strs _⟩
  | _ => exact False.elim p
theorem opm_starts : OpM1 K mg (fun x xs H Q => ∃ a b, x = .str a ∧ xs = [.str b] ∧ Q (.bl (Txt.startswith a b)) H) startsD := by
  intro z y d G en so σ H W Q ry s p
  cases ry with
  | str t => exact ⟨_, _, rfl, rfl, p.ok s (.bl _)⟩
  | _ => exact False.elim p
theorem opm_ends : OpM1 K mg (fun x xs H Q => ∃ a b, x = .str a ∧ xs = [.str b] ∧ Q (.bl (Txt.endswith a b)) H) endsD := by
  intro z y d G en so σ H W Q ry s p
  cases ry with
  | str t => exact ⟨_, _, rfl, rfl, p.ok s (.bl _)⟩
  | _ => exact False.elim p
theorem opm_find : OpM1 K mg (fun x xs H Q => ∃ a b, x = .str a ∧ xs = [.str b] ∧ Q (.int (Txt.find a b)) H) findD := by
  intro z y d G en so σ H W Q ry s p
  cases ry with
  | str t => exact ⟨_, _, rfl, rfl, p.ok s (.int _)⟩
  | _ => exact False.elim p
theorem opm_count : OpM1 K mg (fun x xs H Q => ∃ a b, x = .str a ∧ xs = [.str b] ∧ Q (.int (Txt.count a b)) H) countD := by
  intro z y d G en so σ H W Q ry s p
  cases ry with
  | str t => exact ⟨_, _, rfl, rfl, p.ok s (.int _)⟩
  | _ => exact False.elim p
end

/-! ### the law's end -/
def spLaw (K : PySem.W.Frag) : Sp := fun vs H Q _ => ∃ (a : Addr) (ns : List Int), vs = [.ref a] ∧ SqL K H a (ns.map V.int) ∧ ns.length ≤ 63 ∧ (∀ z ∈ ns, Builtin.Int.intBits z ≤ 1048576) ∧ ∀ H', Q (.bl true) H'
theorem reps_ints {K : PySem.W.Frag} {F : Hp} {rho : List (Addr × Addr)} : ∀ (ns : List Int), Reps K F rho (ns.map V.int) (ns.map .int)
  | [] => .nil
  | n :: ns => .cons (.int n) (reps_ints ns)
/-- what is to be shown of the law: on every script it answers True -/
def LawT (f : FunM) : Prop := ∀ ns : List Int, ns.length ≤ 63 → (∀ z ∈ ns, Builtin.Int.intBits z ≤ 1048576) → ∃ so, f [.lst (ns.map .int)] [] = .ok (.dat (.bl true)) so
theorem law_imp {P : Program} {w : World} {K : PySem.W.Frag} {mg : Str → Option Value} {base : Heap} {CX : CXT} {k : Nat} {fa : Addr} {fd : FuncData} {ps : List Str} {f : FunM} (hf : LawT f) (F : FnOk P w K mg base CX k fa fd ps (spD K mg f)) : FnOk P w K mg base CX k fa fd ps (spLaw K) := by
  refine F.imp fun vs H Q E ⟨a, ns, e, hS, hl, hb, q⟩ => ?_
  subst e
  obtain ⟨so, e⟩ := hf ns hl hb
  refine ⟨⟨H, fun _ => .frz, [], fun _ => none⟩, [.lst (ns.map .int)], [], .cons (.lst hS (reps_ints ns)) .nil, ⟨fun a o e => ⟨e, rfl⟩, (fun a o e => nomatch e), rfl, (fun k o a dx e => nomatch e)⟩, ?_⟩
  rw [e]
  intro v H' G' l s r
  cases (show Rep K G'.F G'.rho v (.bl true) from r)
  exact q H'
theorem walk {l : PySem.W.OpenLaw} {q : Program} {loose : List Str} {XP : (Str → Option Value) → Heap → Prop} {YP : World → Heap → Prop} {d : DefRec} {K : Params → PySem.W.Frag} {k : Nat} {x : Str} (hn : l.most = some 63) (hdf : d.params.defaults = []) (hr : Room k callerA)
    (hY : ∀ (w : World) (h : Heap), YP w h → (K w.params).In h)
    (F : ∀ (w : World) (mg : Str → Option Value) (fa : Addr) (h : Heap), (K w.params).In h → h.Ns mainGlobals mg → mg d.name = some (.ref fa) →
      ∃ fd : FuncData, (∀ (s : Shared) (u : Value), BindsTo s fd ⟨[u], []⟩ [(x, u)]) ∧ ∀ base : Heap, (K w.params).In base → base.Ns mainGlobals mg → FnOk l.prog w (K w.params) mg base (L2.CX l.prog w) k fa fd [x] (spLaw (K w.params))) :
    PySem.W.WalkO q loose XP YP l.row.toRowW d [] (fun f vs => PySem.call f vs) :=
  L2.walk_ofB (n := 63) (k := k) (x := x) (CX := fun w => L2.CX l.prog w) (sp := fun w => spLaw (K w.params)) hn (by decide) hdf hr hY F (fun _ _ a ns hl hb _ hS => ⟨a, ns, rfl, hS, hl, hb, fun _ => rfl⟩) fun _ _ _ _ _ ⟨_, _, _, _, _, _, _, _, _, _, _, _, z⟩ => z
end
end Dl

set_option Elab.async false
set_option linter.all false
set_option maxRecDepth 100000
set_option maxHeartbeats 1000000
/-! The data level: lists and dicts that change: held by a name alone, or in the store. -/
namespace Dl
open PySem PySem.Spec PyProof.Rows L2
noncomputable section

/-! ### handles: where a list or dict that is read or written comes from -/
inductive Hd where
  | dat (d : D) | slot (i : Nat)
def rlH (K : PySem.W.Frag) (σ : L2.St) : Gh → Hp → V → Hd → Prop := fun G _ v h => match h with
  | .dat d => Rep K G.F G.rho v d
  | .slot i => σ[i]? = some (some v)
structure DH (X : Cx) (W : WX) (e : Expr) (m : M Hd) : Prop where
  pe : PE X e (fun σ H Q => tM X.K X.ev W (rlH X.K σ) m σ H Q)
def hV (i : Nat) : M Hd := fun en so => match en[i]? with
  | some (some _) => .ok (.slot i) en so
  | _ => .no
def hD (m : M D) : M Hd := bd m fun d => pu (.dat d)
/-- what data holds -/
def rdD : D → M C
  | .lst xs => pu (.lst xs)
  | .dct kv => pu (.dct kv)
  | .obj k => fun en so => match so[k]? with
    | some (.cel c) => .ok c en so
    | _ => .no
  | _ => no
def rdH : Hd → M C
  | .dat d => rdD d
  | .slot i => fun en so => match en[i]? with
    | some (some (.cel c)) => .ok c en so
    | some (some (.dat d)) => rdD d en so
    | _ => .no
def CAt (K : PySem.W.Frag) (G : Gh) (H : Hp) (v : V) : C → Prop
  | .lst ds => ∃ a vs, v = .ref a ∧ SqL K H a vs ∧ Reps K G.F G.rho vs ds
  | .dct kds => ∃ a kvs, v = .ref a ∧ Rd H a (.dK kvs) ∧ RepK K G.F G.rho kvs kds
/-- how an object tells a cell's content -/
def CRo (K : PySem.W.Frag) (G : Gh) (u : HO) : C → Prop
  | .lst ds => ∃ vs, u = .lst vs ∧ Reps K G.F G.rho vs ds
  | .dct kds => ∃ kvs, u = .dK kvs ∧ RepK K G.F G.rho kvs kds
section
variable {K : PySem.W.Frag} {mg : Ev} {G : Gh} {en : En} {so : So} {σ : L2.St} {H : Hp} {W : WX} {A1 A' : Type}
theorem CR.ro {a : Addr} {c : C} (h : CR K G H a c) : ∃ u, H a = some u ∧ CRo K G u c := by
  cases c with
  | lst ds => obtain ⟨vs, e, r⟩ := h; exact ⟨_, e, vs, rfl, r⟩
  | dct ds => obtain ⟨vs, e, r⟩ := h; exact ⟨_, e, vs, rfl, r⟩
theorem CRo.cr {a : Addr} {u : HO} {c : C} (e : H a = some u) (h : CRo K G u c) : CR K G H a c := by
  cases c with
  | lst ds => obtain ⟨vs, rfl, r⟩ := h; exact ⟨_, e, r⟩
  | dct ds => obtain ⟨vs, rfl, r⟩ := h; exact ⟨_, e, r⟩
theorem CR.cat {a : Addr} {c : C} (h : CR K G H a c) : CAt K G H (.ref a) c := by
  cases c with
  | lst ds => obtain ⟨vs, e, r⟩ := h; exact ⟨a, vs, rfl, SqL.of e, r⟩
  | dct ds => obtain ⟨vs, e, r⟩ := h; exact ⟨a, vs, rfl, .inl e, r⟩
theorem rlH.up {G' : Gh} {v : V} {h : Hd} (r : rlH K σ G H v h) (l : G.le G') {H' : Hp} : rlH K σ G' H' v h := by
  cases h with
  | dat d => exact Rep.up r l
  | slot i => exact r
theorem rdD_at {v : V} {d : D} {c : C} {en' : En} {so' : So} (s : Sim K mg G en so σ H) (r : Rep K G.F G.rho v d) (e : rdD d en so = .ok c en' so') : en' = en ∧ so' = so ∧ CAt K G H v c := by
  cases r with
  | lst h r => cases e; exact ⟨rfl, rfl, _, _, rfl, s.toSimO.rep.seq h, r⟩
  | dct h r => cases e; exact ⟨rfl, rfl, _, _, rfl, same_rd s.toSimO.rep h, r⟩
  | @obj k a dx h =>
    have e : (match so[k]? with | some (.cel c) => .ok c en so | _ => .no : Re C) = .ok c en' so' := e
    cases h1 : so[k]? with
    | none => rw [h1] at e; cases e
    | some o =>
      rw [h1] at e
      cases o with
      | cel c1 =>
        cases e
        exact ⟨rfl, rfl, (s.ob k _ a dx h1 h).2.cat⟩
      | _ => cases e
  | _ => cases e
theorem rdH_at {v : V} {h : Hd} {c : C} {en' : En} {so' : So} (s : Sim K mg G en so σ H) (r : rlH K σ G H v h) (e : rdH h en so = .ok c en' so') : en' = en ∧ so' = so ∧ CAt K G H v c := by
  cases h with
  | dat d => exact rdD_at s r e
  | slot i =>
    have r : σ[i]? = some (some v) := r
    have e : (match en[i]? with | some (some (.cel c)) => .ok c en so | some (some (.dat d)) => rdD d en so | _ => .no : Re C) = .ok c en' so' := e
    cases h1 : en[i]? with
    | none => rw [h1] at e; cases e
    | some o =>
      cases o with
      | none => rw [h1] at e; cases e
      | some b =>
        obtain ⟨v', e1, rb⟩ := s.sl i b h1
        rw [r] at e1
        cases e1
        rw [h1] at e
        cases b with
        | cel c1 =>
          cases e
          obtain ⟨a, rfl, w, cr⟩ := rb
          exact ⟨rfl, rfl, cr.cat⟩
        | dat d => exact rdD_at s rb e
theorem rdH_post {v : V} {h : Hd} {Rl : Gh → Hp → A' → A1 → Prop} {k : C → M A1} {Q : A' → Hp → Prop} (s : Sim K mg G en so σ H) (r : rlH K σ G H v h) (p : Post K mg G W Rl σ (bd (rdH h) k en so) Q) : ∃ c, rdH h en so = .ok c en so ∧ CAt K G H v c ∧ Post K mg G W Rl σ (k c en so) Q := by
  unfold bd at p
  cases e : rdH h en so with
  | no => rw [e] at p; exact p.elim
  | exc x en' so' =>
    exfalso
    have key : ∀ d : D, rdD d en so ≠ .exc x en' so' := fun d z => by
      cases d with
      | obj k =>
        have z : (match so[k]? with | some (.cel c) => .ok c en so | _ => .no : Re C) = .exc x en' so' := z
        split at z <;> cases z
      | _ => cases z
    cases h with
    | dat d => exact key d e
    | slot i =>
      have e : (match en[i]? with | some (some (.cel c)) => .ok c en so | some (some (.dat d)) => rdD d en so | _ => .no : Re C) = .exc x en' so' := e
      split at e
      · cases e
      · exact key _ e
      · cases e
  | ok c en' so' =>
    obtain ⟨rfl, rfl, q⟩ := rdH_at s r e
    rw [e] at p
    exact ⟨c, rfl, q, p⟩

/-! ### a cell is written -/
/-- a thing of one owner is written: the others' stand -/
theorem SimO.wr {a : Addr} {u : HO} {t : Tag} (s : SimO K mg G so H) (w : G.own a = t) (ht : t ≠ .frz ∧ t ≠ .rest) (k0 : Nat → Prop) (ho : ∀ k, ¬ k0 k → t ≠ .ob k ∧ t ≠ .dc k) {so' : So} (hl : so'.length = so.length)
    (hk : ∀ k o b dx, so'[k]? = some o → G.rho[k]? = some (b, dx) → (¬ k0 k ∧ so[k]? = some o) ∨ ObR K mg G (upd H a u) k b dx o) : SimO K mg G so' (upd H a u) := by
  refine ⟨fun b o e => ?_, fun b o e => ?_, hl.trans s.len, fun k o b dx e1 e2 => ?_⟩
  · obtain ⟨h1, h2⟩ := s.fr b o e
    have : b ≠ a := fun z => ht.1 (by rw [← w, ← z]; exact h2)
    exact ⟨by rw [upd_ne this]; exact h1, h2⟩
  · obtain ⟨h1, h2⟩ := s.re b o e
    have : b ≠ a := fun z => ht.2 (by rw [← w, ← z]; exact h2)
    exact ⟨by rw [upd_ne this]; exact h1, h2⟩
  · rcases hk k o b dx e1 e2 with ⟨hn, e3⟩ | h
    · refine (s.ob k o b dx e3 e2).keep (Same.refl _) (fun _ _ h => h) fun c v h1 h2 => ?_
      have : c ≠ a := fun z => by
        rw [z, w] at h2
        exact h2.elim (ho k hn).1 (ho k hn).2
      exact ⟨by rw [upd_ne this]; exact h1, rfl⟩
    · exact h
theorem CRo.crU {a : Addr} {u : HO} {c : C} (h : CRo K G u c) : CR K G (upd H a u) a c := h.cr upd_same
theorem Sim.wrS {i : Nat} {a : Addr} {u : HO} {c : C} (s : Sim K mg G en so σ H) (e : σ[i]? = some (some (.ref a))) (w : G.own a = .slot i) (r : CRo K G u c) : Sim K mg G (en.set i (some (.cel c))) so σ (upd H a u) := by
  refine ⟨s.toSimO.wr w ⟨(by intro z; cases z), (by intro z; cases z)⟩ (fun _ => False) (fun k _ => ⟨(by intro z; cases z), (by intro z; cases z)⟩) rfl fun k o b dx e1 e2 => .inl ⟨id, e1⟩, by rw [List.length_set]; exact s.ln, fun j b ej => ?_⟩
  by_cases hj : i = j
  · subst hj
    by_cases hl : i < en.length
    · rw [List.getElem?_set_self hl] at ej
      cases ej
      exact ⟨_, e, a, rfl, w, r.crU⟩
    · rw [List.getElem?_eq_none (by rw [List.length_set]; omega)] at ej
      cases ej
  · rw [List.getElem?_set_ne hj] at ej
    obtain ⟨v, e1, rb⟩ := s.sl j b ej
    refine ⟨v, e1, rb.keep (Same.refl _) (fun _ _ h => h) fun b' o h1 h2 => ⟨?_, h2⟩⟩
    have : b' ≠ a := fun z => by rw [z, w] at h2; cases h2; exact hj rfl
    rw [upd_ne this]; exact h1
theorem Sim.wrO {k : Nat} {a dx : Addr} {u : HO} {c c0 : C} (s : Sim K mg G en so σ H) (e : so[k]? = some (.cel c0)) (er : G.rho[k]? = some (a, dx)) (w : G.own a = .ob k) (r : CRo K G u c) : Sim K mg G en (so.set k (.cel c)) σ (upd H a u) := by
  refine ⟨s.toSimO.wr w ⟨(by intro z; cases z), (by intro z; cases z)⟩ (fun j => j = k) (fun j hj => ⟨(by intro z; cases z; exact hj rfl), (by intro z; cases z)⟩) (List.length_set ..) fun j o b dy e1 e2 => ?_, s.ln, fun j b ej => ?_⟩
  · by_cases hj : k = j
    · subst hj
      rw [List.getElem?_set_self (by have := List.getElem?_eq_some_iff.mp e; exact this.1)] at e1
      cases e1
      rw [er] at e2
      cases e2
      exact .inr ⟨w, r.crU⟩
    · rw [List.getElem?_set_ne hj] at e1
      exact .inl ⟨fun z => hj z.symm, e1⟩
  · obtain ⟨v, e1, rb⟩ := s.sl j b ej
    refine ⟨v, e1, rb.keep (Same.refl _) (fun _ _ h => h) fun b' o h1 h2 => ⟨?_, h2⟩⟩
    have : b' ≠ a := fun z => by rw [z, w] at h2; cases h2
    rw [upd_ne this]; exact h1
def wrtO {A : Type} (k : Nat) (f : C → Option (A × C)) : M A := fun en so => match so[k]? with
  | some (.cel c) => (match f c with
    | some (a, c') => .ok a en (so.set k (.cel c'))
    | none => .no)
  | _ => .no
def wrtD {A : Type} (d : D) (f : C → Option (A × C)) : M A := match d with
  | .obj k => wrtO k f
  | _ => no
/-- what stands at a handle is written: f -/
def wrtH {A : Type} (h : Hd) (f : C → Option (A × C)) : M A := match h with
  | .dat d => wrtD d f
  | .slot i => fun en so => match en[i]? with
    | some (some (.cel c)) => (match f c with
      | some (a, c') => .ok a (en.set i (some (.cel c'))) so
      | none => .no)
    | some (some (.dat d)) => wrtD d f en so
    | _ => .no
theorem wrtD_at {v : V} {d : D} {f : C → Option (A1 × C)} {Rl : Gh → Hp → A' → A1 → Prop} {Q : A' → Hp → Prop} (s : Sim K mg G en so σ H) (r : Rep K G.F G.rho v d) (p : Post K mg G W Rl σ (wrtD d f en so) Q) :
    ∃ a u c x c', v = .ref a ∧ H a = some u ∧ CRo K G u c ∧ f c = some (x, c') ∧ ∀ u', CRo K G u' c' → ∃ en' so', Sim K mg G en' so' σ (upd H a u') ∧ Post K mg G W Rl σ (.ok x en' so') Q := by
  cases r with
  | @obj k a dx h =>
    have p : Post K mg G W Rl σ (wrtO k f en so) Q := p
    unfold wrtO at p
    cases h1 : so[k]? with
    | none => rw [h1] at p; exact p.elim
    | some o =>
      rw [h1] at p
      cases o with
      | cel c =>
        dsimp only at p
        cases h2 : f c with
        | none => rw [h2] at p; exact p.elim
        | some xc =>
          obtain ⟨x, c'⟩ := xc
          rw [h2] at p
          obtain ⟨w, cr⟩ := s.ob k _ a dx h1 h
          obtain ⟨u, hu, ro⟩ := CR.ro cr
          exact ⟨a, u, c, x, c', rfl, hu, ro, h2, fun u' ru => ⟨en, _, s.wrO h1 h w ru, p⟩⟩
      | _ => exact p.elim
  | _ => exact p.elim
theorem wrtH_at {v : V} {h : Hd} {f : C → Option (A1 × C)} {Rl : Gh → Hp → A' → A1 → Prop} {Q : A' → Hp → Prop} (s : Sim K mg G en so σ H) (r : rlH K σ G H v h) (p : Post K mg G W Rl σ (wrtH h f en so) Q) :
    ∃ a u c x c', v = .ref a ∧ H a = some u ∧ CRo K G u c ∧ f c = some (x, c') ∧ ∀ u', CRo K G u' c' → ∃ en' so', Sim K mg G en' so' σ (upd H a u') ∧ Post K mg G W Rl σ (.ok x en' so') Q := by
  cases h with
  | dat d => exact wrtD_at s r p
  | slot i =>
    have r : σ[i]? = some (some v) := r
    unfold wrtH at p
    dsimp only at p
    cases h1 : en[i]? with
    | none => rw [h1] at p; exact p.elim
    | some o =>
      cases o with
      | none => rw [h1] at p; exact p.elim
      | some b =>
        obtain ⟨v', e1, rb⟩ := s.sl i b h1
        rw [r] at e1
        cases e1
        rw [h1] at p
        cases b with
        | cel c =>
          dsimp only at p
          cases h2 : f c with
          | none => rw [h2] at p; exact p.elim
          | some xc =>
            obtain ⟨x, c'⟩ := xc
            rw [h2] at p
            obtain ⟨a, rfl, w, cr⟩ := rb
            obtain ⟨u, hu, ro⟩ := CR.ro cr
            exact ⟨a, u, c, x, c', rfl, hu, ro, h2, fun u' ru => ⟨_, so, s.wrS r w ru, p⟩⟩
        | dat d => exact wrtD_at s rb p
end
section
variable {X : Cx} {W : WX} {a b e e1 : Expr} {mh : M Hd} {m m1 : M D} {pos apos : Pos}
theorem h_dat (h : DE X W e m) : DH X W e (hD m) := by
  refine ⟨PE_imp h.pe fun σ H Q ⟨G, en, so, s, p⟩ => ⟨G, en, so, s, (Post.bind (R1 := rlD X.K) p).imp fun v H1 ⟨G1, en1, so1, d, l, r1, s1, p1⟩ => p1.ok s1 r1⟩⟩
theorem h_var (i : Nat) {x : Str} {pos : Pos} (hN : X.N[i]? = some x := by rfl) (hv : Vis X.env.scope x := by first | exact Or.inl rfl | exact Or.inr (Or.inl rfl) | exact Or.inr (Or.inr rfl)) (hd : (x == ("__debug__" : Str)) = false := by decide)
    (hcd : (x == ("__classdict__" : Str)) = false := by decide) : DH X W (.Name x pos) (hV i) := by
  refine ⟨PE_imp (pe_var hN hv hd hcd) fun σ H Q ⟨G, en, so, s, p⟩ => ?_⟩
  unfold hV at p
  split at p
  · rename_i b e
    obtain ⟨v, e1, r⟩ := s.sl i _ e
    exact ⟨v, e1, p.ok s e1⟩
  · exact p.elim

/-! ### methods of lists that change them -/
def isLst : C → Bool
  | .lst _ => true
  | _ => false
/-- o.name(): f on what stands there -/
def mHM0 (f : C → Option (D × C)) (mh : M Hd) : M D := bd mh fun h => bd (rdH h) fun c => gd (isLst c = true) (wrtH h f)
def mHM1 (f : C → D → Option (D × C)) (mh : M Hd) (m : M D) : M D := bd mh fun h => bd (rdH h) fun c => gd (isLst c = true) (bd m fun d => wrtH h fun c => f c d)
def OpW0 (K : PySem.W.Frag) (r : V → List V → Hp → VK → Prop) (f : C → Option (D × C)) : Prop := ∀ (G : Gh) (H : Hp) (a : Addr) (u : HO) (c c' : C) (x : D) (Q : VK), H a = some u → CRo K G u c → f c = some (x, c') → (∀ v u', CRo K G u' c' → Rep K G.F G.rho v x → Q v (upd H a u')) → r (.ref a) [] H Q
def OpW1 (K : PySem.W.Frag) (r : V → List V → Hp → VK → Prop) (f : C → D → Option (D × C)) : Prop := ∀ (G : Gh) (H : Hp) (a : Addr) (u : HO) (c c' : C) (x d : D) (y : V) (Q : VK), H a = some u → CRo K G u c → Rep K G.F G.rho y d → f c d = some (x, c') → (∀ v u', CRo K G u' c' → Rep K G.F G.rho v x → Q v (upd H a u')) → r (.ref a) [y] H Q
theorem ty_lst {G : Gh} {H : Hp} {v : V} {c : C} (h : CAt X.K G H v c) (hl : isLst c = true) : tyV X.K "list" v H := by
  cases c with
  | lst ds => obtain ⟨a, vs, rfl, sq, _⟩ := h; exact .inl ⟨rfl, vs, sq⟩
  | dct _ => cases hl
theorem d_hm0 {f : C → Option (D × C)} {id : String} {name : Str} {r : V → List V → Hp → VK → Prop} (slot : Slot "list" name id) (hty : typeOf (.builtin id) = pure (.type "method_descriptor")) (hm : MtR X id r) (h : OpW0 X.K r f) (ho : DH X W e mh)
    (hbase : attributeBase e name X.env (eval e X.env) = eval e X.env := by rfl) (hline : (apos.endLine == pos.line) = true := by rfl) : DE X W (.Call (.Attribute e name apos) [] [] pos) (mHM0 f mh) := by
  refine ⟨PE_imp (pe_bm0 F.plainAttrs_list slot hty hm ho.pe hbase hline) fun σ H Q ⟨G, en, so, s, p⟩ => ⟨G, en, so, s, (Post.bind (R1 := rlH X.K σ) p).imp fun v H1 ⟨G1, en1, so1, hd, l, r1, s1, p1⟩ => ?_⟩⟩
  obtain ⟨c, _, ca, p2⟩ := rdH_post s1 r1 p1
  obtain ⟨hl, p3⟩ := Post.gd p2
  refine ⟨ty_lst ca hl, ?_⟩
  obtain ⟨a, u, c0, x, c', rfl, hu, ro, hf, w⟩ := wrtH_at s1 r1 p3
  exact h G1 H1 a u c0 c' x Q hu ro hf fun v u' ru rv => by
    obtain ⟨en', so', s4, p4⟩ := w u' ru
    exact p4.ok s4 rv
theorem d_hm1 {f : C → D → Option (D × C)} {id : String} {name : Str} {r : V → List V → Hp → VK → Prop} (slot : Slot "list" name id) (hty : typeOf (.builtin id) = pure (.type "method_descriptor")) (hm : MtR X id r) (h : OpW1 X.K r f) (ho : DH X W e mh) (ha : DE X W e1 m1)
    (hbase : attributeBase e name X.env (eval e X.env) = eval e X.env := by rfl)
    (hfew : ((backTo pos (starEach (e1 :: []) X.env)).all (fun x => !x.1) && (backToKw pos (keywordEach [] X.env)).all (fun x => x.1.isSome) && decide ((e1 :: []).length + ([] : List Keyword).length + (if ([] : List Keyword).isEmpty then 0 else 1) < 30)) = true := by rfl)
    (hline : (apos.endLine == pos.line) = true := by rfl) (hs : starEach (e1 :: []) X.env = (false, eval e1 X.env) :: starEach [] X.env := by rfl) (hplain : (backTo pos (starEach [] X.env)).any (·.1) = false := by rfl) :
    DE X W (.Call (.Attribute e name apos) [e1] [] pos) (mHM1 f mh m1) := by
  refine ⟨PE_imp (pe_bm F.plainAttrs_list slot hty hm ho.pe (pa_cons ha.pe pa_nil hs) hbase hfew hline hs hplain) fun σ H Q ⟨G, en, so, s, p⟩ => ⟨G, en, so, s, (Post.bind (R1 := rlH X.K σ) p).imp fun v H1 ⟨G1, en1, so1, hd, l, r1, s1, p1⟩ => ?_⟩⟩
  obtain ⟨c, _, ca, p2⟩ := rdH_post s1 r1 p1
  obtain ⟨hl, p3⟩ := Post.gd p2
  refine ⟨ty_lst ca hl, G1, en1, so1, s1, (Post.bind (R1 := rlD X.K) p3).imp fun y H2 ⟨G2, en2, so2, d, l2, r2, s2, p4⟩ => ?_⟩
  obtain ⟨a, u, c0, x, c', rfl, hu, ro, hf, w⟩ := wrtH_at s2 (r1.up l2) p4
  exact h G2 H2 a u c0 c' x d y Q hu ro r2 hf fun v u' ru rv => by
    obtain ⟨en', so', s4, p4⟩ := w u' ru
    exact p4.ok s4 rv
end

/-! ### what the methods do -/
def apF : C → D → Option (D × C)
  | .lst xs, d => if xs.length < 16777216 then some (.non, .lst (xs ++ [d])) else none
  | _, _ => none
def popF : C → Option (D × C)
  | .lst xs => match xs[xs.length - 1]? with
    | some d => some (d, .lst xs.dropLast)
    | none => none
  | _ => none
def popAtF : C → D → Option (D × C)
  | .lst xs, .int i => if xs.length ≤ 16777216 then (match ixN xs.length i with
    | some k => (match xs[k]? with
      | some d => some (d, .lst (xs.eraseIdx k))
      | none => none)
    | none => none) else none
  | _, _ => none
def revF : C → Option (D × C)
  | .lst xs => some (.non, .lst xs.reverse)
  | _ => none
def clrF : C → Option (D × C)
  | .lst _ => some (.non, .lst [])
  | _ => none
section
variable {K : PySem.W.Frag} {F : Hp} {rho : List (Addr × Addr)}
theorem reps_app' : ∀ {vs ws : List V} {ds es : List D}, Reps K F rho vs ds → Reps K F rho ws es → Reps K F rho (vs ++ ws) (ds ++ es)
  | _, _, _, _, .nil, r => r
  | _, _, _, _, .cons h q, r => .cons h (reps_app' q r)
theorem reps_rev : ∀ {vs : List V} {ds : List D}, Reps K F rho vs ds → Reps K F rho vs.reverse ds.reverse
  | _, _, .nil => .nil
  | _, _, .cons h q => by
    rw [List.reverse_cons, List.reverse_cons]
    exact reps_app' (reps_rev q) (.cons h .nil)
theorem reps_dropLast : ∀ {vs : List V} {ds : List D}, Reps K F rho vs ds → Reps K F rho vs.dropLast ds.dropLast
  | _, _, .nil => .nil
  | _, _, .cons h .nil => .nil
  | _, _, .cons h (.cons h2 q) => .cons h (reps_dropLast (.cons h2 q))
theorem reps_erase : ∀ {vs : List V} {ds : List D} (i : Nat), Reps K F rho vs ds → Reps K F rho (vs.eraseIdx i) (ds.eraseIdx i)
  | _, _, _, .nil => .nil
  | _, _, 0, .cons _ q => q
  | _, _, i + 1, .cons h q => .cons h (reps_erase i q)
theorem reps_set : ∀ {vs : List V} {ds : List D} (i : Nat) {v : V} {d : D}, Reps K F rho vs ds → Rep K F rho v d → Reps K F rho (vs.set i v) (ds.set i d)
  | _, _, _, _, _, .nil, _ => .nil
  | _, _, 0, _, _, .cons _ q, r => .cons r q
  | _, _, i + 1, _, _, .cons h q, r => .cons h (reps_set i q r)
theorem ow_append : OpW1 K rAppend apF := by
  intro G H a u c c' x d y Q hu ro ry hf q
  cases c with
  | lst ds =>
    obtain ⟨vs, rfl, r⟩ := ro
    have hf : (if ds.length < 16777216 then some (D.non, C.lst (ds ++ [d])) else none) = some (x, c') := hf
    split at hf
    · rename_i hl
      cases hf
      exact ⟨a, vs, y, rfl, rfl, hu, by rw [r.len, sizeLine_eq]; exact hl, q _ _ ⟨_, rfl, reps_app' r (.cons ry .nil)⟩ .non⟩
    · cases hf
  | dct _ => cases hf
theorem ow_pop : OpW0 K rPop popF := by
  intro G H a u c c' x Q hu ro hf q
  cases c with
  | lst ds =>
    obtain ⟨vs, rfl, r⟩ := ro
    have hf : (match ds[ds.length - 1]? with | some d => some (d, C.lst ds.dropLast) | none => none) = some (x, c') := hf
    cases e : ds[ds.length - 1]? with
    | none => rw [e] at hf; cases hf
    | some d =>
      rw [e] at hf
      cases hf
      obtain ⟨v, e1, r1⟩ := reps_at r e
      exact ⟨a, vs, v, rfl, rfl, hu, by rw [r.len]; exact e1, q _ _ ⟨_, rfl, reps_dropLast r⟩ r1⟩
  | dct _ => cases hf
theorem ow_popAt : OpW1 K rPopAt popAtF := by
  intro G H a u c c' x d y Q hu ro ry hf q
  cases c with
  | lst ds =>
    cases ry with
    | int i =>
      obtain ⟨vs, rfl, r⟩ := ro
      have hf : (if ds.length ≤ 16777216 then (match ixN ds.length i with | some k => (match ds[k]? with | some d => some (d, C.lst (ds.eraseIdx k)) | none => none) | none => none) else none) = some (x, c') := hf
      split at hf
      · rename_i hl
        cases e : ixN ds.length i with
        | none => rw [e] at hf; cases hf
        | some k =>
          rw [e] at hf
          dsimp only at hf
          cases e2 : ds[k]? with
          | none => rw [e2] at hf; cases hf
          | some d =>
            rw [e2] at hf
            cases hf
            obtain ⟨v, e1, r1⟩ := reps_at r e2
            obtain ⟨h1, h2, h3, h4⟩ := ixN_seq e
            exact ⟨a, vs, i, k, v, rfl, rfl, hu, by omega, by omega, by rw [r.len]; exact h1, e1, q _ _ ⟨_, rfl, reps_erase k r⟩ r1⟩
      · cases hf
    | _ => cases hf
  | dct _ => cases hf
theorem ow_reverse : OpW0 K rReverse revF := by
  intro G H a u c c' x Q hu ro hf q
  cases c with
  | lst ds =>
    obtain ⟨vs, rfl, r⟩ := ro
    cases hf
    exact ⟨a, vs, rfl, rfl, hu, q _ _ ⟨_, rfl, reps_rev r⟩ .non⟩
  | dct _ => cases hf
theorem ow_clear : OpW0 K rClear clrF := by
  intro G H a u c c' x Q hu ro hf q
  cases c with
  | lst ds =>
    obtain ⟨vs, rfl, r⟩ := ro
    cases hf
    exact ⟨a, vs, rfl, rfl, hu, q _ _ ⟨_, rfl, .nil⟩ .non⟩
  | dct _ => cases hf
end

/-! ### stores by place -/
def stF : C → D → D → Option (Unit × C)
  | .lst xs, .int i, d => match ixN xs.length i with
    | some j => some ((), .lst (xs.set j d))
    | none => none
  | _, _, _ => none
/-- x[i] = v of a list -/
def sStL (mh : M Hd) (mi mv : M D) : M Fl := bd mv fun v => bd mh fun h => bd mi fun i => bd (wrtH h fun c => stF c i v) fun _ => pu .nx
/-- what a list or dict has at a place -/
def ixC : C → D → M D
  | .lst xs, .int i => match atI xs i with
    | some d => pu d
    | none => no
  | _, _ => no
def mIxH (mh : M Hd) (mi : M D) : M D := bd mh fun h => bd mi fun i => bd (rdH h) fun c => ixC c i
def lenC : C → M D
  | .lst xs => pu (.int xs.length)
  | _ => no
def mLenH (mh : M Hd) : M D := bd mh fun h => bd (rdH h) lenC
def truC : C → M Bool
  | .lst xs => pu (!xs.isEmpty)
  | _ => no
def mTruH (mh : M Hd) : M Bool := bd mh fun h => bd (rdH h) truC
/-- x in h -/
def inC (d : D) (neg : Bool) : C → M D
  | .lst xs => gd (okq 23 d = true ∧ xs.all (okq 23) = true) (pu (.bl (if neg then !xs.any (fun z => eqD z d) else xs.any fun z => eqD z d)))
  | _ => no
def mInH (neg : Bool) (m : M D) (mh : M Hd) : M D := bd m fun d => bd mh fun h => bd (rdH h) (inC d neg)
/-- a name whose list or dict changes no more from here on -/
def mVF (i : Nat) : M D := fun en so => match en[i]? with
  | some (some (.dat d)) => .ok d en so
  | some (some (.cel c)) => .ok c.toD (en.set i (some (.dat c.toD))) so
  | _ => .no
section
variable {X : Cx} {W : WX} {a b e e1 : Expr} {mh : M Hd} {m m1 mi mv : M D} {pos pos' apos p p2 : Pos} {x : Str}
theorem s_stL (hv : DE X W e mv) (ho : DH X W a mh) (hi : DE X W b mi) (hs : swapsWithSole [.Subscript a b p] e pos.line X.env = pure false := by rfl) (hw : swappedStores [.Subscript a b p] e X.env = pure none := by rfl) (h1 : (assignEach [.Subscript a b p] X.env).map (·.2) = [assign (.Subscript a b p) X.env] := by rfl)
    (ha : ∀ v, assign (.Subscript a b p) X.env v = (do
      let ov ← holding [v] (eval a X.env)
      let iv ← holding [v, ov] (eval b X.env)
      standAt p
      holding [v, ov, iv] (setItem ov iv v)
      release [v, ov, iv] []) := by intro _; rfl) : DS X W (.Assign [.Subscript a b p] e pos) (sStL mh mi mv) := by
  refine ⟨PS_imp (ps_asg hv.pe (pg_sub ho.pe hi.pe set_list ha) hs hw h1) fun E σ H ⟨G, en, so, s, p⟩ => ?_⟩
  refine ⟨G, en, so, s, (SPost.bind (R1 := rlD X.K) p).imp fun v H1 ⟨G1, en1, so1, dv, l1, r1, s1, p1⟩ => ?_⟩
  refine ⟨G1, en1, so1, s1, (SPost.bind (R1 := rlH X.K σ) p1).imp fun o H2 ⟨G2, en2, so2, hd, l2, r2, s2, p2⟩ => ?_⟩
  refine ⟨G2, en2, so2, s2, (SPost.bind (R1 := rlD X.K) p2).imp fun i H3 ⟨G3, en3, so3, di, l3, r3, s3, p3⟩ => ?_⟩
  have p4 := SPost.bind (R1 := fun _ _ (_ : Unit) _ => True) (σ := σ) p3
  obtain ⟨a0, u, c0, z, c', rfl, hu, ro, hf, w⟩ := wrtH_at s3 (r2.up l3) p4
  cases c0 with
  | dct _ => cases hf
  | lst ds =>
    cases r3 with
    | int k =>
      obtain ⟨vs, rfl, r⟩ := ro
      have hf : (match ixN ds.length k with | some j => some ((), C.lst (ds.set j dv)) | none => none) = some (z, c') := hf
      cases e2 : ixN ds.length k with
      | none => rw [e2] at hf; cases hf
      | some j =>
        rw [e2] at hf
        cases hf
        refine ⟨a0, vs, k, j, rfl, rfl, hu, by rw [r.len]; exact e2, ?_⟩
        obtain ⟨en', so', s5, p5⟩ := w (.lst (vs.set j v)) ⟨_, rfl, reps_set j r (Rep.up r1 (l2.trans l3))⟩
        obtain ⟨G6, en6, so6, _, l6, _, s6, p6⟩ := p5.ok (v := ()) s5 True.intro
        exact p6 σ _ G6 (.refl _) s6
    | _ => cases hf
theorem d_ixH (ho : DH X W a mh) (hi : DE X W b mi) (hs : PlainIx b := by intro _ _; rfl) : DE X W (.Subscript a b pos) (mIxH mh mi) := by
  refine ⟨PE_imp (pe_ix ix_seq ho.pe hi.pe hs) fun σ H Q ⟨G, en, so, s, p⟩ => ?_⟩
  refine ⟨G, en, so, s, (Post.bind (R1 := rlH X.K σ) p).imp fun v H1 ⟨G1, en1, so1, hd, l, r1, s1, p1⟩ => ⟨G1, en1, so1, s1, (Post.bind (R1 := rlD X.K) p1).imp fun y H2 ⟨G2, en2, so2, d, l2, r2, s2, p2⟩ => ?_⟩⟩
  obtain ⟨c, _, ca, p3⟩ := rdH_post s2 (r1.up l2) p2
  cases c with
  | dct _ => cases r2 <;> exact False.elim p3
  | lst ds =>
    cases r2 with
    | int i =>
      obtain ⟨a0, vs, rfl, sq, r⟩ := ca
      have p3 : Post X.K X.ev G2 W (rlD X.K) σ ((match atI ds i with | some d => (pu d : M D) | none => no) en2 so2) Q := p3
      cases q : atI ds i with
      | none => rw [q] at p3; exact False.elim p3
      | some d =>
        rw [q] at p3
        obtain ⟨v, h1, h2⟩ := reps_atI r q
        exact .inl ⟨_, _, i, v, rfl, rfl, sq, h1, p3.ok s2 h2⟩
    | _ => exact False.elim p3
theorem d_lenH (hg : Gl X "len") (hm : X.mg "len" = none) (ho : DH X W a mh) (he : starEach (a :: []) X.env = (false, eval a X.env) :: starEach [] X.env := by rfl) (hpl : (backTo pos (starEach [] X.env)).any (·.1) = false := by rfl) : DE X W (.Call (.Name "len" p) [a] [] pos) (mLenH mh) := by
  refine ⟨PE_imp (pe_callB call_len hg hm (by decide +kernel) (pa_cons ho.pe pa_nil he) (by decide) (by decide) he hpl) fun σ H Q ⟨G, en, so, s, p⟩ => ?_⟩
  refine ⟨G, en, so, s, (Post.bind (R1 := rlH X.K σ) p).imp fun v H1 ⟨G1, en1, so1, hd, l, r1, s1, p1⟩ => ?_⟩
  obtain ⟨c, _, ca, p3⟩ := rdH_post s1 r1 p1
  cases c with
  | dct _ => exact False.elim p3
  | lst ds =>
    obtain ⟨a0, vs, rfl, sq, r⟩ := ca
    exact ⟨_, _, rfl, .inl ⟨_, sq, rfl⟩, by rw [r.len]; exact p3.ok s1 (.int _)⟩
theorem dt_truH (ho : DH X W a mh) (he : ∀ whole, isTrue a X.env whole = (do let v ← whole; standAt a.pos; holding [v] (truthy v)) := by intro _; rfl) : DT X W a (mTruH mh) := by
  refine ⟨PT_imp (pt_truth ho.pe he) fun σ H Q ⟨G, en, so, s, p⟩ => ?_⟩
  refine ⟨G, en, so, s, (Post.bind (R1 := rlH X.K σ) p).imp fun v H1 ⟨G1, en1, so1, hd, l, r1, s1, p1⟩ => ?_⟩
  obtain ⟨c, _, ca, p3⟩ := rdH_post s1 r1 p1
  cases c with
  | dct _ => exact False.elim p3
  | lst ds =>
    obtain ⟨a0, vs, rfl, sq, r⟩ := ca
    exact ⟨_, .inl ⟨_, sq, rfl⟩, p3.ok s1 (by rw [r.isEmpty])⟩
theorem inH_tr {neg : Bool} {σ : L2.St} {H : Hp} {Q : VK} (q : tM X.K X.ev W (rlD X.K) (mInH neg m mh) σ H Q) : tOp (rInG X.K neg) (tM X.K X.ev W (rlD X.K) m) (fun σ H Q => tM X.K X.ev W (rlH X.K σ) mh σ H Q) σ H Q := by
  obtain ⟨G, en, so, s, p⟩ := q
  refine ⟨G, en, so, s, (Post.bind (R1 := rlD X.K) p).imp fun v H1 ⟨G1, en1, so1, d, l, r1, s1, p1⟩ => ⟨G1, en1, so1, s1, (Post.bind (R1 := rlH X.K σ) p1).imp fun y H2 ⟨G2, en2, so2, hd, l2, r2, s2, p2⟩ => ?_⟩⟩
  obtain ⟨c, _, ca, p3⟩ := rdH_post s2 r2 p2
  cases c with
  | dct _ => exact False.elim p3
  | lst ds =>
    obtain ⟨a0, vs, rfl, sq, r⟩ := ca
    obtain ⟨⟨h1, h2⟩, p4⟩ := Post.gd p3
    exact ⟨H2, G2.rho, d, _, _, _, Same.refl _, (Rep.up r1 l2).mono s2.toSimO.rep (fun _ _ h => h), rfl, .inl sq, r.mono s2.toSimO.rep (fun _ _ h => h), h1, h2, p4.ok s2 (.bl _)⟩
theorem d_inH (hu : X.A.units + 64 < cLine) (ha : DE X W e m) (ho : DH X W a mh) (hm : behindInMarks .In a = false := by with_unfolding_all rfl) : DE X W (.Compare e [.In] [a] pos) (mInH false m mh) :=
  ⟨PE_imp (pe_cmpR (op_inA hu) ha.pe ho.pe hm) fun _ _ _ q => by
    obtain ⟨G, en, so, s, p⟩ := inH_tr q
    exact ⟨G, en, so, s, p.imp fun v H1 ⟨G1, en1, so1, s1, p1⟩ => ⟨G1, en1, so1, s1, p1.imp fun y H2 h => .inr h⟩⟩⟩
theorem d_niH (hu : X.A.units + 64 < cLine) (ha : DE X W e m) (ho : DH X W a mh) (hm : behindInMarks .NotIn a = false := by with_unfolding_all rfl) : DE X W (.Compare e [.NotIn] [a] pos) (mInH true m mh) :=
  ⟨PE_imp (pe_cmpR (op_niA hu) ha.pe ho.pe hm) fun _ _ _ q => by
    obtain ⟨G, en, so, s, p⟩ := inH_tr q
    exact ⟨G, en, so, s, p.imp fun v H1 ⟨G1, en1, so1, s1, p1⟩ => ⟨G1, en1, so1, s1, p1.imp fun y H2 h => .inr h⟩⟩⟩
theorem d_inHT (hu : X.A.units + 64 < cLine) (ha : DE X W e m) (ho : DH X W a mh) (hm : behindInMarks .In a = false := by with_unfolding_all rfl) : DT X W (.Compare e [.In] [a] pos) (mT (mInH false m mh)) :=
  ⟨PT_imp (pt_cmpR (op_inA hu) ha.pe ho.pe hm) fun _ _ _ q => by
    obtain ⟨G, en, so, s, p⟩ := inH_tr (mT_tr q)
    exact ⟨G, en, so, s, p.imp fun v H1 ⟨G1, en1, so1, s1, p1⟩ => ⟨G1, en1, so1, s1, p1.imp fun y H2 h => .inr h⟩⟩⟩
theorem d_niHT (hu : X.A.units + 64 < cLine) (ha : DE X W e m) (ho : DH X W a mh) (hm : behindInMarks .NotIn a = false := by with_unfolding_all rfl) : DT X W (.Compare e [.NotIn] [a] pos) (mT (mInH true m mh)) :=
  ⟨PT_imp (pt_cmpR (op_niA hu) ha.pe ho.pe hm) fun _ _ _ q => by
    obtain ⟨G, en, so, s, p⟩ := inH_tr (mT_tr q)
    exact ⟨G, en, so, s, p.imp fun v H1 ⟨G1, en1, so1, s1, p1⟩ => ⟨G1, en1, so1, s1, p1.imp fun y H2 h => .inr h⟩⟩⟩
end
section
variable {K : PySem.W.Frag} {mg : Ev} {G : Gh} {en : En} {so : So} {σ : L2.St} {H : Hp}
/-- what a name holds alone is frozen -/
theorem Sim.freezeS {i : Nat} {c : C} {v : V} (s : Sim K mg G en so σ H) (e : en[i]? = some (some (.cel c))) (ev : σ[i]? = some (some v)) : ∃ G', G.le G' ∧ Sim K mg G' (en.set i (some (.dat c.toD))) so σ H ∧ Rep K G'.F G'.rho v c.toD := by
  obtain ⟨v', e1, rb⟩ := s.sl i _ e
  rw [ev] at e1
  cases e1
  obtain ⟨a, rfl, w, cr⟩ := rb
  obtain ⟨u, hu, ro⟩ := CR.ro cr
  have nF : G.F a = none := by
    cases e : G.F a with
    | none => rfl
    | some u =>
      have := (s.fr a u e).2
      rw [w] at this; cases this
  have sF : Same G.F (upd G.F a u) := fun b z e => by rw [upd_ne (ne_of_none e nF)]; exact e
  have l : G.le (G.frzn a u) := ⟨sF, fun _ _ h => h, rfl⟩
  have kp : ∀ b t, G.own b = t → t ≠ .slot i → (G.frzn a u).own b = t := fun b t e q => by
    have : b ≠ a := fun z => q (by rw [← e, z]; exact w)
    exact (if_neg this).trans e
  have rep : Rep K (G.frzn a u).F (G.frzn a u).rho (.ref a) c.toD := by
    cases c with
    | lst ds =>
      obtain ⟨vs, rfl, r⟩ := ro
      exact .lst (SqL.of (show (upd G.F a (.lst vs)) a = _ from upd_same)) (r.mono l.F l.rho)
    | dct ds =>
      obtain ⟨vs, rfl, r⟩ := ro
      exact .dct (.inl (show (upd G.F a (.dK vs)) a = _ from upd_same)) (r.mono l.F l.rho)
  refine ⟨G.frzn a u, l, ⟨⟨fun b z e => ?_, fun b z e => ?_, s.len, fun k o b dx e1 e2 => ?_⟩, by rw [List.length_set]; exact s.ln, fun j b ej => ?_⟩, rep⟩
  · by_cases hb : b = a
    · subst hb
      have e' : upd G.F b u b = some z := e
      rw [upd_same] at e'
      cases e'
      exact ⟨hu, if_pos rfl⟩
    · have e' : upd G.F a u b = some z := e
      rw [upd_ne hb] at e'
      obtain ⟨h1, h2⟩ := s.fr b z e'
      exact ⟨h1, (if_neg hb).trans h2⟩
  · obtain ⟨h1, h2⟩ := s.re b z e
    exact ⟨h1, kp b _ h2 (by intro z; cases z)⟩
  · exact (s.ob k o b dx e1 e2).keep sF (fun _ _ h => h) fun b' z h1 h2 => ⟨h1, kp b' _ rfl (by rcases h2 with h2 | h2 <;> (rw [h2]; intro z; cases z))⟩
  · by_cases hj : i = j
    · subst hj
      by_cases hl : i < en.length
      · rw [List.getElem?_set_self hl] at ej
        cases ej
        exact ⟨_, ev, rep⟩
      · rw [List.getElem?_eq_none (by rw [List.length_set]; omega)] at ej
        cases ej
    · rw [List.getElem?_set_ne hj] at ej
      obtain ⟨v, e1, rb⟩ := s.sl j b ej
      exact ⟨v, e1, rb.keep sF (fun _ _ h => h) fun b' z h1 h2 => ⟨h1, kp b' _ h2 (by intro z; cases z; exact hj rfl)⟩⟩
end
section
variable {X : Cx} {W : WX}
theorem d_varF (i : Nat) {x : Str} {pos : Pos} (hN : X.N[i]? = some x := by rfl) (hv : Vis X.env.scope x := by first | exact Or.inl rfl | exact Or.inr (Or.inl rfl) | exact Or.inr (Or.inr rfl)) (hd : (x == ("__debug__" : Str)) = false := by decide)
    (hcd : (x == ("__classdict__" : Str)) = false := by decide) : DE X W (.Name x pos) (mVF i) := by
  refine ⟨PE_imp (pe_var hN hv hd hcd) fun σ H Q ⟨G, en, so, s, p⟩ => ?_⟩
  unfold mVF at p
  split at p
  · rename_i d e
    obtain ⟨v, e1, r⟩ := s.sl i _ e
    exact ⟨v, e1, p.ok s r⟩
  · rename_i c e
    obtain ⟨v, e1, r⟩ := s.sl i _ e
    obtain ⟨G', l, s', r'⟩ := s.freezeS e e1
    exact ⟨v, e1, p.ok' l s' r'⟩
  · exact p.elim
end
end
end Dl

set_option Elab.async false
set_option linter.all false
set_option maxRecDepth 100000
set_option maxHeartbeats 1000000
/-! The data level: powers, more text methods, lists and tuples joined, copies. -/
namespace Dl
open PySem PySem.Spec PyProof.Rows L2
noncomputable section

/-! ### powers, rfind, minus -/
def powD : D → D → M D
  | .int a, .int b => gd (0 ≤ b ∧ b ≤ 1000000 ∧ a.natAbs < 18446744073709551616) (pu (.int (a ^ b.toNat)))
  | _, _ => no
def rfindD (z : List Nat) : D → M D
  | .str t => pu (.int (Txt.rfind (sT z) (sT t)))
  | _ => no
section
variable {K : PySem.W.Frag} {mg : Ev}
theorem op2_pow : Op2 K mg (rI CPow fun i j => .int (i ^ j.toNat)) powD := by
  intro x y d e G en so σ H W Q rx ry s p
  cases d <;> cases e <;> try exact False.elim p
  cases rx; cases ry
  rename_i a b
  obtain ⟨⟨h1, h2, h3⟩, p⟩ := Post.gd (c := 0 ≤ b ∧ b ≤ 1000000 ∧ a.natAbs < 18446744073709551616) p
  exact ⟨_, _, rfl, rfl, ⟨h1, h2, by omega⟩, p.ok s (.int _)⟩
theorem opm_rfind : OpM1 K mg (fun x xs H Q => ∃ a b, x = .str a ∧ xs = [.str b] ∧ Q (.int (Txt.rfind a b)) H) rfindD := by
  intro z y d G en so σ H W Q ry s p
  cases ry with
  | str t => exact ⟨_, _, rfl, rfl, p.ok s (.int _)⟩
  | _ => exact False.elim p
end

/-! ### list + list -/
theorem lst_add (l : Addr) (items : Array Value) (n : Nat) (b : Addr) (items2 : Array Value) (n2 : Nat) (dd dd2 : Option Addr) (sl sl2 : Array (Option Value)) (hc0 : items.size + items2.size ≤ sizeLine) :
    Meets (Builtin.«list.__add__» ⟨[.ref l, .ref b], []⟩) (fun _ R s => s.heap.get? l = some { cls := .type "list", dict := dd, data := .seq items n, slots := sl } ∧ s.heap.get? b = some { cls := .type "list", dict := dd2, data := .seq items2 n2, slots := sl2 } ∧ R (.ok (.ret (Value.ref s.heap.objs.size))) { s with heap := s.heap.push { cls := Value.type "list", data := Data.seq (items ++ items2) }, toks := s.toks }) :=
  .of_wp fun prog w A R s h => by
    obtain ⟨hp, g, d, tk, os⟩ := s
    obtain ⟨hl, hb, h⟩ := h
    have f1 := AutoSeq1.idx_int
    have f2 := AutoSeq1.sub_tuple_tuple
    have f3 := AutoSeq1.sub_list_list
    have f4 := AutoSeq1.sub_tuple_list
    have f5 := AutoSeq1.sub_list_tuple
    wp_walk using AutoSeq1.wpAny_loadPart' hl, AutoSeq1.wpAny_loadPart' hb
    exact ⟨_, rfl, h⟩
def rCatL (K : PySem.W.Frag) : R2 := fun x y H Q => ∃ a b xs ys, x = .ref a ∧ y = .ref b ∧ SqL K H a xs ∧ SqL K H b ys ∧ xs.length + ys.length ≤ sizeLine ∧ ∀ p, H p = none → Q (.ref p) (upd H p (.lst (xs ++ ys)))
theorem op_catL {X : Cx} : OpR X (binaryOp .Add) (rCatL X.K) := by
  intro pins s σ H x y v u Q I rx ry h
  obtain ⟨a, b, xs, ys, rfl, rfl, ha, hb, hz, q⟩ := h
  cases rx
  cases ry
  obtain ⟨its, r1, ⟨⟨cls, dd, data, sl⟩, n, ho, hc, hdn, hd⟩, _⟩ := I.list ha
  obtain ⟨its2, r2, ⟨⟨cls2, dd2, data2, sl2⟩, n2, ho2, hc2, hdn2, hd2⟩, _⟩ := I.list hb
  simp only at hc hd hc2 hd2
  subst hc hd hc2 hd2
  refine concat_meets ⟨_, ho, rfl⟩ ⟨_, ho2, rfl⟩ noFill_list_add seq_list_add F.slot_list_add F.entry_list_add (F.args_list_add_2 _ _) (lst_add a its.toArray n b its2.toArray n2 dd dd2 sl sl2 (by rw [List.size_toArray, List.size_toArray, ← r1.length, ← r2.length]; exact hz)) ⟨ho, ho2, ?_⟩
  have ea : its.toArray ++ its2.toArray = (its ++ its2).toArray := by simp
  rw [ea]
  exact ⟨.ref _, _, I.lnew (t' := s.toks) (r1.append r2) (by rw [List.length_append]; omega), rfl, q _ I.fresh⟩
def catL : D → D → M B
  | .lst xs, .lst ys => gd (xs.length + ys.length ≤ 16777216) (pu (.cel (.lst (xs ++ ys))))
  | _, _ => no
def mCatL (ma mb : M D) : M B := bd ma fun d => bd mb fun e => catL d e
def catT : D → D → M D
  | .tup xs, .tup ys => gd (xs.length + ys.length ≤ 16777216) (pu (.tup (xs ++ ys)))
  | _, _ => no
/-- list(x) -/
def listD : List D → M B
  | [.lst xs] => pu (.cel (.lst xs))
  | [.tup xs] => pu (.cel (.lst xs))
  | _ => no
def tupleD : List D → M D
  | [.lst xs] => pu (.tup xs)
  | [.tup xs] => pu (.tup xs)
  | _ => no
section
variable {K : PySem.W.Frag} {mg : Ev} {X : Cx} {W : WX} {a b e : Expr} {ma mb : M D} {pos : Pos}
theorem b_cat (ha : DE X W a ma) (hb : DE X W b mb) : DB X W (.BinOp a .Add b pos) (mCatL ma mb) := by
  refine ⟨PE_imp (pe_op op_catL ha.pe hb.pe) fun σ H Q ⟨G, en, so, s, p⟩ => ?_⟩
  refine ⟨G, en, so, s, (Post.bind (R1 := rlD X.K) p).imp fun v H1 ⟨G1, en1, so1, d, l, r1, s1, p1⟩ => ⟨G1, en1, so1, s1, (Post.bind (R1 := rlD X.K) p1).imp fun y H2 ⟨G2, en2, so2, e, l2, r2, s2, p2⟩ => ?_⟩⟩
  have r1' := Rep.up r1 l2
  cases r1' with
  | lst h1 q1 =>
    cases r2 with
    | lst h2 q2 =>
      obtain ⟨hl, p3⟩ := Post.gd p2
      refine ⟨_, _, _, _, rfl, rfl, s2.toSimO.rep.seq h1, s2.toSimO.rep.seq h2, by rw [q1.len, q2.len, sizeLine_eq]; exact hl, fun q hq => ?_⟩
      exact p3.ok' (tag_le q .tmp) (s2.newT (t := .tmp) hq) ⟨q, rfl, tag_own, _, upd_same, reps_app' q1 q2⟩
    | _ => exact False.elim p2
  | _ => cases r2 <;> exact False.elim p2
theorem op2_catT : Op2 K mg (rCatA K) catT := by
  intro x y d e G en so σ H W Q rx ry s p
  cases rx with
  | tup h1 q1 =>
    cases ry with
    | tup h2 q2 =>
      obtain ⟨hl, p3⟩ := Post.gd p
      refine ⟨_, _, _, _, rfl, rfl, same_seqT s.toSimO.rep h1, same_seqT s.toSimO.rep h2, by rw [q1.len, q2.len, sizeLine_eq]; exact hl, fun e => ?_, fun _ e => ?_, fun _ _ q hq => ?_⟩
      · subst e
        cases q1
        exact p3.ok s (.tup h2 q2)
      · subst e
        cases q2
        rw [List.append_nil] at p3
        exact p3.ok s (.tup h1 q1)
      · obtain ⟨s2, l2⟩ := s.newF (o := .tup _) hq
        exact p3.ok' l2 s2 (.tup (.inl (.inl (show upd G.F q _ q = _ from upd_same))) ((reps_app' q1 q2).mono l2.F l2.rho))
    | _ => exact False.elim p
  | _ => cases ry <;> exact False.elim p
theorem opn_list : OpNB K mg (fun xs H Q => ∃ p ys, xs = [.ref p] ∧ (SqL K H p ys ∨ SqT K H p ys) ∧ ∀ l, H l = none → Q (.ref l) (upd H l (.lst ys))) listD := by
  intro xs ds G en so σ H W Q r s p
  match ds, r, p with
  | [d], r, p =>
    obtain ⟨x, rfl, h⟩ := reps1 r
    cases h with
    | lst h q => exact ⟨_, _, rfl, .inl (s.toSimO.rep.seq h), fun q' hq => p.ok' (tag_le q' .tmp) (s.newT (t := .tmp) hq) ⟨q', rfl, tag_own, _, upd_same, q⟩⟩
    | tup h q => exact ⟨_, _, rfl, .inr (same_seqT s.toSimO.rep h), fun q' hq => p.ok' (tag_le q' .tmp) (s.newT (t := .tmp) hq) ⟨q', rfl, tag_own, _, upd_same, q⟩⟩
    | _ => exact False.elim p
  | [], _, p => exact False.elim p
  | d :: _ :: _, _, p => cases d <;> exact False.elim p
theorem opn_tuple : OpN K mg (fun xs H Q => ∃ p ys, xs = [.ref p] ∧ ((SqL K H p ys ∧ ∀ l, H l = none → Q (.ref l) (upd H l (.tup ys))) ∨ (SqT K H p ys ∧ Q (.ref p) H))) tupleD := by
  intro xs ds G en so σ H W Q r s p
  match ds, r, p with
  | [d], r, p =>
    obtain ⟨x, rfl, h⟩ := reps1 r
    cases h with
    | lst h q =>
      refine ⟨_, _, rfl, .inl ⟨s.toSimO.rep.seq h, fun q' hq => ?_⟩⟩
      obtain ⟨s2, l2⟩ := s.newF (o := .tup _) hq
      exact p.ok' l2 s2 (.tup (.inl (.inl (show upd G.F q' _ q' = _ from upd_same))) (q.mono l2.F l2.rho))
    | tup h q => exact ⟨_, _, rfl, .inr ⟨same_seqT s.toSimO.rep h, p.ok s (.tup h q)⟩⟩
    | _ => exact False.elim p
  | [], _, p => exact False.elim p
  | d :: _ :: _, _, p => cases d <;> exact False.elim p
end
end
end Dl

set_option Elab.async false
set_option linter.all false
set_option maxRecDepth 100000
set_option maxHeartbeats 1000000
/-! The data level: own exception classes whose __init__ begins with super().__init__(text). -/
namespace Dl
open PySem PySem.Spec PyProof.Rows L2
noncomputable section

/-- what the written part says of an __init__ that asks super: f the def, cc the cell of its class, Dd that class -/
structure FunX (P : Program) (K : PySem.W.Frag) (mg : Str → Option Value) (qual : Str) (st : Stmt) (f : Addr) (fd : FuncData) (Dd : Addr) : Prop where
  ex : ∃ (oc : Value) (od : Option Addr) (kV doc pm : Value) (an : Option Addr) (cda : Addr) (ct : Value) (osl : Array (Option Value)) (cc : Addr),
    fd = PySem.W.fnX "__init__" qual (defArgs st) (defBody st) (defScope st) [("__class__", cc)] .none kV doc pm an (.ref cda) ct ∧ K.lookup f = some ⟨oc, od, .func fd, osl⟩ ∧ PySem.W.codeIn K (.ref cda) qual = true ∧
    (∃ ccl cdd vs ccs file tf, K.lookup cda = some ⟨ccl, cdd, .fields vs, ccs⟩ ∧ vs[2]? = some (.str file tf) ∧ ((P.main.file : Str) == file) = true) ∧
    (∃ cl cld csl, K.lookup cc = some ⟨cl, cld, .cell (some (.ref Dd)), csl⟩)
  cls : ∃ cd, PySem.W.clsIn K Dd = some cd
  sup : PySem.W.nsIn K mainGlobals "super" = some none
  gsup : mg "super" = none
  top : (P.main.scope.names.lookup ("super" : Str)).isSome = false
  oq : PySem.W.nsIn K PySem.cStatics "thirdparty.any" = some none
/-- .. and of a class that it makes -/
structure ClsX (K : PySem.W.Frag) (C Dd : Addr) : Prop extends OexC K C where
  sub : PySem.W.mroIn K C (.ref Dd) = some true
  ini : PySem.W.ks_superIn K C Dd "__init__" = some (some (.builtin "ValueError.__init__"))
  ve : PySem.W.subIn K (.ref C) (.type "ValueError") = some true
section
variable {P : Program} {w : World} {K : PySem.W.Frag} {mg : Str → Option Value} {base : Heap} {CX : CXT}
/-- super().__init__(e): the first statement -/
theorem first_super {f Dd C a L : Addr} {qual : Str} {st : Stmt} {cda cc : Addr} {N : List Str} {A : Around} {outer : List Env} {s0 s : Shared} {H0 H : Hp} {E : XK} {σ : L2.St} {fd : FuncData} {m : Str → Option Value}
    {z1 : Str} {j1 : Nat} {pc : Pos} {p0 p1 p2 p3 p4 : Pos} {body : List Stmt} {rest : List Stmt} {R : Flow → Shared → Prop} {oc : Value} {od : Option Addr} {osl : Array (Option Value)} {ar : Arg}
    (X : Cx) (hX : X = NdefX.ncx CX P w K mg base N ⟨"__init__", qual, defArgs st, defBody st, defScope st, [("__class__", cc)], cda⟩ f A outer s0 H0 E)
    (hf : K.lookup f = some ⟨oc, od, .func fd, osl⟩) (hp : (fd.params.posonlyargs ++ fd.params.args).head? = some ar)
    (hcode : ∃ ccl cdd vs ccs file tf, K.lookup cda = some ⟨ccl, cdd, .fields vs, ccs⟩ ∧ vs[2]? = some (.str file tf) ∧ ((P.main.file : Str) == file) = true)
    (hcell : ∃ cl cld csl, K.lookup cc = some ⟨cl, cld, .cell (some (.ref Dd)), csl⟩) (hD : ∃ cd, PySem.W.clsIn K Dd = some cd) (gsup : mg "super" = none) (top : (P.main.scope.names.lookup ("super" : Str)).isSome = false)
    (oq : PySem.W.nsIn K PySem.cStatics "thirdparty.any" = some none)
    (hks : (defScope st).names.lookup ("super" : Str) = some .globalImplicit) (hkc : (defScope st).names.lookup ("__class__" : Str) = some .free) (hka : (defScope st).names.lookup ar.arg = some .local) (hk : (defScope st).kind = .function)
    (T : ClsX K C Dd) (I : Inv X [] σ H s) (ha : H a = some (exo a C none)) (hns : s.heap.Ns X.env.locals m) (hm : m ar.arg = some (.ref a))
    (hev : eval (.Call (.Attribute (.Call (.Name "super" p0) [] [] p1) "__init__" p2) [.Constant (.str z1) j1 pc] [] p3) X.env = (do
      let ov ← attributeBase (.Call (.Name "super" p0) [] [] p1) "__init__" X.env (eval (.Call (.Name "super" p0) [] [] p1) X.env)
      standAt p2.atName
      let (f, first) ← holding [ov] (getMethod ov "__init__" (pure false))
      callWith p3 f first (backTo p3 (starEach [.Constant (.str z1) j1 pc] X.env)) []))
    (hi : interactive X.env = false) (hs : swapsWith (.Call (.Attribute (.Call (.Name "super" p0) [] [] p1) "__init__" p2) [.Constant (.str z1) j1 pc] [] p3) none p4.line X.env = pure false)
    (h : ∀ s', Inv X [] σ H s' → R .next s') :
    PySem.wpAt (model P w) X.A (.func body X.env) (exec (.Expr (.Call (.Attribute (.Call (.Name "super" p0) [] [] p1) "__init__" p2) [.Constant (.str z1) j1 pc] [] p3) p4) X.env) R X.xe s := by
  obtain ⟨ccl, cdd, vs, ccs, file, tf, hc1, hc2, hc3⟩ := hcode
  obtain ⟨cl, cld, csl, hcc⟩ := hcell
  obtain ⟨cdD, hD⟩ := hD
  subst hX
  have X0 : K.In s.heap := I.kIn
  obtain ⟨oD, hD1, hD2⟩ : ∃ oD, s.heap.get? Dd = some oD ∧ oD.data = .cls cdD := by
    unfold PySem.W.clsIn at hD
    split at hD
    · rename_i c d cd' sl ho
      cases hD
      exact ⟨_, X0 _ _ ho, rfl⟩
    · cases hD
  obtain ⟨t1, hx⟩ := exo_at I.hok ha
  refine ks_wpAt_Expr_any (ks_wpAt_MethodCall (pl := pure false) (ks_wpAt_super_base (env := NdefX.envF ⟨"__init__", qual, defArgs st, defBody st, defScope st, [("__class__", cc)], cda⟩ f s0.heap.objs.size) hks hkc (by decide) rfl (X0 _ _ hf) rfl hp rfl (X0 _ _ hc1) rfl hc2 hc3 top ?_) hev) hi hs
  obtain ⟨mb, hb1, hb2⟩ := I.mod.blt
  refine PySem.W.ks_loadName_global hk hks (PySem.Calls.loadGlobal_builtin (by rw [show (NdefX.envF ⟨"__init__", qual, defArgs st, defBody st, defScope st, [("__class__", cc)], cda⟩ f s0.heap.objs.size).globals = mainGlobals from rfl]; exact I.mod.glob.keeps I.bk) gsup (hb1.keeps I.bk) ((hb2 "super" (by decide)).trans (by first | kernel_rfl | decide +kernel)) ⟨rfl, ?_⟩)
  refine wpAny_loadName_free hk hkc rfl ⟨_, X0 _ _ hcc, rfl⟩ ?_
  refine wpAny_loadName_local hk hka hns hm ?_
  refine ks_wpAny_isType_cls hD1 hD2 ⟨rfl, ?_⟩
  refine ks_wpAny_call_super hD1 hD2 hx rfl (fun c e => by cases e) (PySem.W.looks_mroIn X0 T.sub) (fun h1 e1' k1 => ?_)
  -- the method
  have I1 := I.kept (t' := s.toks) k1
  have X1 : K.In h1 := I1.kIn
  have hx1 := k1 _ _ hx
  have J : PySem.W.InstAt h1 a { cls := .ref C, dict := none, data := .fields #[.ref t1, .none, .none, .none, .bool false, .none] } C none := ⟨hx1, rfl, rfl, trivial⟩
  cases hc : PySem.W.clsIn K C with
  | none =>
    have z := T.ini
    unfold PySem.W.ks_superIn at z
    rw [hc] at z
    cases z
  | some cd =>
    have z := T.ini
    unfold PySem.W.ks_superIn at z
    rw [hc] at z
    refine PySem.W.kxs_getMethod PySem.W.kxs_ValueError e1' (PySem.W.looks_opaque X1 oq) (l₀ := cd.mro) (fun A Q E s k q => wpAny_bind ((PySem.W.looks_clsIn X1 hc) A _ E s k (wpAny_pure q))) rfl X1 z (J.type.andThen (PySem.W.looks_subIn X1 T.ve)) (PySem.W.ks_ne X1 J hc) (by decide) ?_
    have k2 : ∀ b u, h1.get? b = some u → (h1.push (PySem.W.kxs_mw "ValueError.__init__" a)).get? b = some u := fun b u q => Heap.get?_push_of_some _ q
    have I2 := I1.kept (t' := s.toks + 1) k2
    have hu : (h1.push (PySem.W.kxs_mw "ValueError.__init__" a)).get? h1.objs.size = some (PySem.W.kxs_mw "ValueError.__init__" a) := Heap.get?_push_size _ rfl
    have he : starEach [.Constant (.str z1) j1 pc] (NdefX.envF ⟨"__init__", qual, defArgs st, defBody st, defScope st, [("__class__", cc)], cda⟩ f s0.heap.objs.size) = [(false, eval (.Constant (.str z1) j1 pc) (NdefX.envF ⟨"__init__", qual, defArgs st, defBody st, defScope st, [("__class__", cc)], cda⟩ f s0.heap.objs.size))] := rfl
    refine PySem.W.kxs_callWith (i := "ValueError.__init__") (x := a) rfl ?_
    refine PySem.Calls.evalArgs_plain (PySem.Calls.spliced_cons (PySem.Calls.Constant_str (k := j1) (pos := pc) ?_))
    refine PySem.Calls.spliced_nil ⟨hu, ?_⟩
    have I3 := I2.tok (s.toks + 1 + 1)
    obtain ⟨nm, q, NN, bs, bm, sn, sub, ab, col, dd, g0, g1, g2, g3, g5, hC, hbm⟩ := T.cls
    have hx2 := k2 _ _ hx1
    refine wpAny_call (codeAny_of_tree ?_)
    show wpAny _ _ (callAny (.ref h1.objs.size) ⟨[.str z1 (s.toks + 1)], []⟩) _ _ _
    simp only [callAny]
    refine wpAny_bind (wpAny_load hu ?_)
    simp only [PySem.W.kxs_mw, show (Value.type "method-wrapper" == Value.type "method" || Value.type "method-wrapper" == Value.type "builtin_function_or_method" || Value.type "method-wrapper" == Value.type "method-wrapper") = true by decide, if_true]
    refine PySem.W.KFB.if_so (by decide) ?_
    refine wpAny_bind (PySem.W.check_bound_init F.excBase_ValueError.toExcCallFacts (I3.kIn _ _ hC) hx2 rfl ?_)
    refine wpAny_bind (wpAny_pure (wpAny_pure ?_))
    refine ⟨PySem.plainId_quiet F.excBase_ValueError.init.plain _, codeAny_builtin F.excBase_ValueError.initEntry ?_⟩
    refine PySem.W.exc_init_tree (cls := .ref C) (t0 := t1) (dv := none) (c2 := .none) (c3 := .none) (b4 := .bool false) hx2 (by rw [sizeLine_eq]; show 1 ≤ 16777216; decide) fun h' kk hx' _ => ?_
    have J := I3.write (t' := s.toks + 1 + 1) (x := a) (e := a) (o := exo a C none) (by rw [ha]; exact True.intro) (.inl rfl) kk ⟨_, hx'⟩ (exo_ok hx')
    have eu : upd H a (exo a C none) = H := by
      funext b
      by_cases hb : b = a
      · rw [hb, upd_same, ha]
      · rw [upd_ne hb]
    rw [eu] at J
    exact h _ J
end

/-! ### the stores behind it -/
/-- self.f = the i-th name, one after another -/
inductive Stores (X : Cx) : List Stmt → List (Str × Nat) → Prop
  | nil : Stores X [] []
  | cons {st : Stmt} {sts : List Stmt} {f : Str} {i : Nat} {fl : List (Str × Nat)} : PS X st (tOst X.K f (tVar 0) (tVar i)) → Stores X sts fl → Stores X (st :: sts) ((f, i) :: fl)
def valAt (σ : L2.St) (i : Nat) : V := match σ[i]? with
  | some (some v) => v
  | _ => .non
def putAll (σ : L2.St) : List (Str × Nat) → List (Str × V) → List (Str × V)
  | [], fs => fs
  | (f, i) :: fl, fs => putAll σ fl ((f, valAt σ i) :: fs)
theorem valAt_some {σ : L2.St} {i : Nat} {v : V} (h : σ[i]? = some (some v)) : valAt σ i = v := by unfold valAt; rw [h]
theorem Stores.old {X : Cx} {sts : List Stmt} {fl : List (Str × Nat)} (h : Stores X sts fl) : ∃ t, PSs X sts t ∧ ∀ (D : Ends) (σ : L2.St) (H : Hp) (a C dx : Addr) (fs : List (Str × V)), σ[0]? = some (some (.ref a)) → (∀ p ∈ fl, ∃ v, σ[p.2]? = some (some v)) → OexC X.K C →
    (∀ p ∈ fl, PySem.W.findIn X.K (.ref C) p.1 = some none) → H a = some (exo a C (some dx)) → H dx = some (exd dx fs) → dx ≠ a → fs.length + fl.length ≤ 900 → D.nx σ (upd H dx (exd dx (putAll σ fl fs))) → t D σ H := by
  induction h with
  | nil =>
    refine ⟨_, pss_nil, fun D σ H a C dx fs h0 hv T hn ea ed ne hl q => ?_⟩
    have e : upd H dx (exd dx fs) = H := by
      funext b
      by_cases hb : b = dx
      · rw [hb, upd_same, ed]
      · rw [upd_ne hb]
    have q : D.nx σ (upd H dx (exd dx fs)) := q
    rw [e] at q
    exact q
  | @cons st sts f i fl hst _ ih =>
    obtain ⟨t, ht, run⟩ := ih
    refine ⟨_, pss_cons hst ht, fun D σ H a C dx fs h0 hv T hn ea ed ne hl q => ?_⟩
    obtain ⟨v, ev⟩ := hv (f, i) List.mem_cons_self
    have hl' : fs.length + (fl.length + 1) ≤ 900 := hl
    refine ⟨v, ev, .ref a, h0, a, C, rfl, T, hn (f, i) List.mem_cons_self, .inr ⟨dx, fs, ea, ed, by omega, ?_⟩⟩
    refine run D σ _ a C dx ((f, v) :: fs) h0 (fun p hp => hv p (List.mem_cons_of_mem _ hp)) T (fun p hp => hn p (List.mem_cons_of_mem _ hp)) (by rw [upd_ne (Ne.symm ne)]; exact ea) upd_same ne (by rw [List.length_cons]; omega) ?_
    have e : upd (upd H dx (exd dx ((f, v) :: fs))) dx (exd dx (putAll σ fl ((f, v) :: fs))) = upd H dx (exd dx (putAll σ fl ((f, v) :: fs))) := by
      funext b
      by_cases hb : b = dx
      · rw [hb, upd_same, upd_same]
      · rw [upd_ne hb, upd_ne hb, upd_ne hb]
    rw [e]
    have q : D.nx σ (upd H dx (exd dx (putAll σ fl ((f, valAt σ i) :: fs)))) := q
    rw [valAt_some ev] at q
    exact q
theorem Stores.new {X : Cx} {sts : List Stmt} {fl : List (Str × Nat)} (h : Stores X sts fl) (h1 : fl ≠ []) : ∃ t, PSs X sts t ∧ ∀ (D : Ends) (σ : L2.St) (H : Hp) (a C : Addr), σ[0]? = some (some (.ref a)) → (∀ p ∈ fl, ∃ v, σ[p.2]? = some (some v)) → OexC X.K C →
    (∀ p ∈ fl, PySem.W.findIn X.K (.ref C) p.1 = some none) → H a = some (exo a C none) → fl.length ≤ 900 → (∀ dx, H dx = none → dx ≠ a → D.nx σ (upd (upd H dx (exd dx (putAll σ fl []))) a (exo a C (some dx)))) → t D σ H := by
  cases h with
  | nil => exact absurd rfl h1
  | @cons st sts f i fl hst hr =>
    obtain ⟨t, ht, run⟩ := hr.old
    refine ⟨_, pss_cons hst ht, fun D σ H a C h0 hv T hn ea hl q => ?_⟩
    obtain ⟨v, ev⟩ := hv (f, i) List.mem_cons_self
    have hl' : fl.length + 1 ≤ 900 := hl
    refine ⟨v, ev, .ref a, h0, a, C, rfl, T, hn (f, i) List.mem_cons_self, .inl ⟨ea, fun dx hd ne => ?_⟩⟩
    refine run D σ _ a C dx [(f, v)] h0 (fun p hp => hv p (List.mem_cons_of_mem _ hp)) T (fun p hp => hn p (List.mem_cons_of_mem _ hp)) upd_same (by rw [upd_ne ne, upd_same]) ne (by rw [List.length_singleton]; omega) ?_
    have e : upd (upd (upd H dx (exd dx [(f, v)])) a (exo a C (some dx))) dx (exd dx (putAll σ fl [(f, v)])) = upd (upd H dx (exd dx (putAll σ fl [(f, v)]))) a (exo a C (some dx)) := by
      funext b
      by_cases hb : b = dx
      · rw [hb, upd_same, upd_ne ne, upd_same]
      · rw [upd_ne hb]
        by_cases hb2 : b = a
        · rw [hb2, upd_same, upd_same]
        · rw [upd_ne hb2, upd_ne hb, upd_ne hb2, upd_ne hb]
    rw [e]
    have q := q dx hd ne
    have q : D.nx σ (upd (upd H dx (exd dx (putAll σ fl [(f, valAt σ i)]))) a (exo a C (some dx))) := q
    rw [valAt_some ev] at q
    exact q
/-- what such an __init__ promises: np parameters, the fields fl -/
def spI (K : PySem.W.Frag) (Dd : Addr) (np : Nat) (fl : List (Str × Nat)) : Sp := fun vs H Q _ => ∃ a C ws, vs = .ref a :: ws ∧ vs.length = np ∧ ClsX K C Dd ∧ (∀ p ∈ fl, PySem.W.findIn K (.ref C) p.1 = some none) ∧ H a = some (exo a C none) ∧
  ∀ dx, H dx = none → dx ≠ a → Q .non (upd (upd H dx (exd dx (putAll (vs.map some) fl []))) a (exo a C (some dx)))
theorem putAll_app (σ τ : L2.St) : ∀ (fl : List (Str × Nat)) (fs : List (Str × V)), (∀ p ∈ fl, p.2 < σ.length) → putAll (σ ++ τ) fl fs = putAll σ fl fs
  | [], _, _ => rfl
  | (f, i) :: fl, fs, h => by
    have e : valAt (σ ++ τ) i = valAt σ i := by
      unfold valAt
      rw [List.getElem?_append_left (h (f, i) List.mem_cons_self)]
    unfold putAll
    rw [e, putAll_app σ τ fl _ fun p hp => h p (List.mem_cons_of_mem _ hp)]
section
variable {P : Program} {w : World} {K : PySem.W.Frag} {mg : Str → Option Value} {base : Heap}
theorem init_ok {qual : Str} {st : Stmt} {f Dd : Addr} {fd : FuncData} {ps : List Str} {k : Nat} {fl : List (Str × Nat)} {z1 : Str} {j1 : Nat} {pc p0 p1 p2 p3 p4 : Pos} {rest : List Stmt} {ar : Arg} (F : FunX P K mg qual st f fd Dd)
    (S : NdefX.NScope (ps ++ [("__class__" : Str)]) ps [("__class__" : Str)] (defScope st))
    (hbd : defBody st = .Expr (.Call (.Attribute (.Call (.Name "super" p0) [] [] p1) "__init__" p2) [.Constant (.str z1) j1 pc] [] p3) p4 :: rest) (hp : ((defArgs st).posonlyargs ++ (defArgs st).args).head? = some ar) (hp0 : ps[0]? = some ar.arg)
    (hks : (defScope st).names.lookup ("super" : Str) = some .globalImplicit) (hkc : (defScope st).names.lookup ("__class__" : Str) = some .free) (hka : (defScope st).names.lookup ar.arg = some .local)
    (hfl : fl ≠ []) (hfl9 : fl.length ≤ 900) (hflp : ∀ p ∈ fl, p.2 < ps.length)
    (hst : ∀ (cc cda : Addr) (A : Around) (outer : List Env) (s : Shared) (H : Hp) (E : XK), Stores (NdefX.ncx (L2.CX P w) P w K mg base (ps ++ [("__class__" : Str)]) ⟨"__init__", qual, defArgs st, defBody st, defScope st, [("__class__", cc)], cda⟩ f A outer s H E) rest fl)
    (hev : ∀ (env : Env), eval (.Call (.Attribute (.Call (.Name "super" p0) [] [] p1) "__init__" p2) [.Constant (.str z1) j1 pc] [] p3) env = (do
      let ov ← attributeBase (.Call (.Name "super" p0) [] [] p1) "__init__" env (eval (.Call (.Name "super" p0) [] [] p1) env)
      standAt p2.atName
      let (f, first) ← holding [ov] (getMethod ov "__init__" (pure false))
      callWith p3 f first (backTo p3 (starEach [.Constant (.str z1) j1 pc] env)) []))
    (hs : ∀ env : Env, swapsWith (.Call (.Attribute (.Call (.Name "super" p0) [] [] p1) "__init__" p2) [.Constant (.str z1) j1 pc] [] p3) none p4.line env = pure false) : FnOk P w K mg base (L2.CX P w) (k + 1) f fd ps (spI K Dd ps.length fl) := by
  obtain ⟨oc, od, kV, doc, pm, an, cda, ct, osl, cc, rfl, lk, hcd, hcode, hcell⟩ := F.ex
  refine ⟨fun vs H Q E ⟨a, C, ws, e, l, _⟩ => l, fun A outer s H args us vs Q E hr e0 hb r hsp => ?_⟩
  obtain ⟨a, C, ws, ev, hl, T, hno, ea, q⟩ := hsp
  have kin : K.In s.heap := e0.mod.kin.keeps fun b o e => (e0.bs b o e).1
  have lim : s.heap.NoLimit := e0.mod.nolimit.keeps fun b o e => (e0.bs b o e).1
  refine ks_codeAny_call_defAt (fd := PySem.W.fnX "__init__" qual (defArgs st) (defBody st) (defScope st) [("__class__", cc)] .none kV doc pm an (.ref cda) ct) (body := defBody st) (binds := ps.zip us) hr.depth (kin _ _ lk) rfl lim (PySem.W.codeRec_of kin hcd) rfl hb S.nocell (fun ⟨n, _⟩ hy => S.par n (List.of_mem_zip hy).1) (fun h₁ hns kp => ?_) S.co S.gen S.kind
  obtain ⟨cl, cld, csl, hcc⟩ := id hcell
  have hul : us.length = ps.length := by rw [← r.length]; exact hl
  have Cl : NdefX.CellsAt [("__class__", cc)] ["__class__"] [none] s.heap H := by
    refine ⟨rfl, fun y c e => ?_, fun x y c e1 e2 => ?_, fun i y e => ?_⟩
    · have : y = "__class__" ∧ c = cc := by
        rw [List.lookup_cons] at e
        split at e
        · rename_i h
          exact ⟨by simpa using h, (Option.some.inj e).symm⟩
        · cases e
      obtain ⟨rfl, rfl⟩ := this
      exact ⟨(e0.bs _ _ (e0.mod.kin _ _ hcc)).2, some (.ref Dd), _, kin _ _ hcc, rfl⟩
    · have key : ∀ {z : Str}, List.lookup z [(("__class__" : Str), cc)] = some c → z = "__class__" := fun {z} e => by
        rw [List.lookup_cons] at e
        split at e
        · rename_i h
          simpa using h
        · cases e
      exact (key e1).trans (key e2).symm
    · cases i with
      | zero =>
        cases e
        exact ⟨cc, by simp [List.lookup], fun v e => by cases e⟩
      | succ i => cases e
  have I : Inv (NdefX.ncx (L2.CX P w) P w K mg base (ps ++ [("__class__" : Str)]) ⟨"__init__", qual, defArgs st, defBody st, defScope st, [("__class__", cc)], cda⟩ f A outer s H E) [] (NdefX.startF (ps ++ [("__class__" : Str)]) vs [none]) H { s with heap := h₁, toks := s.toks + (ps.zip us).length } :=
    NdefX.inv_startN S hr.hd e0 hl r Cl hns kp
  have hu0 : us[0]? = some (.ref a) := by
    subst ev
    cases r with
    | cons r0 _ => cases r0; rfl
  have hndP : ps.Nodup := by
    have q := S.nd
    exact (List.nodup_append.mp q).1
  have hσ0 : (NdefX.startF (ps ++ [("__class__" : Str)]) vs [none])[0]? = some (some (.ref a)) := by
    subst ev
    rfl
  obtain ⟨t, ht, run⟩ := (hst cc cda A outer s H E).new hfl
  have eσ : NdefX.startF (ps ++ [("__class__" : Str)]) vs [none] = vs.map some ++ [none] := by
    unfold NdefX.startF
    rw [List.length_append, hl]
    simp
  have hq : t { nx := fun _ H' => Q .non H', rt := Q } (NdefX.startF (ps ++ [("__class__" : Str)]) vs [none]) H := by
    refine run _ _ _ a C hσ0 (fun p hp => ?_) T.toOexC hno ea hfl9 fun dx hd ne => ?_
    · have hp2 : p.2 < vs.length := by rw [hl]; exact hflp p hp
      refine ⟨vs[p.2], ?_⟩
      rw [eσ, List.getElem?_append_left (by rw [List.length_map]; exact hp2), List.getElem?_map, List.getElem?_eq_getElem hp2]
      rfl
    · have := q dx hd ne
      rw [eσ, putAll_app _ _ _ _ fun p hp => by rw [List.length_map, hl]; exact hflp p hp]
      exact this
  show PySem.wpAt _ _ (.func (defBody st) (NdefX.envF ⟨"__init__", qual, defArgs st, defBody st, defScope st, [("__class__", cc)], cda⟩ f s.heap.objs.size)) _ _ _ _
  rw [show ∀ env : Env, execs (defBody st) env = execs (.Expr (.Call (.Attribute (.Call (.Name "super" p0) [] [] p1) "__init__" p2) [.Constant (.str z1) j1 pc] [] p3) p4 :: rest) env from fun env => by rw [hbd]]
  refine ks_wpAt_execs_cons ?_
  refine first_super (L := f) (rest := rest) (m := fun x => (ps.zip us).reverse.lookup x) (X := NdefX.ncx (L2.CX P w) P w K mg base (ps ++ [("__class__" : Str)]) ⟨"__init__", qual, defArgs st, defBody st, defScope st, [("__class__", cc)], cda⟩ f A outer s H E) rfl lk hp hcode hcell F.cls F.gsup F.top F.oq hks hkc hka S.kind T I ea hns ?_ (hev _) (by unfold interactive; first | rfl | simp [show (NdefX.ncx (L2.CX P w) P w K mg base (ps ++ [("__class__" : Str)]) ⟨"__init__", qual, defArgs st, defBody st, defScope st, [("__class__", cc)], cda⟩ f A outer s H E).env.scope.kind = .function from S.kind]) (hs _) fun s1 I1 => ?_
  · exact NdefX.zip_look hndP hp0 hu0
  · refine wpAt_of_wpAny (wpAny_mono (ht.run [] s1 _ H _ I1 hq) (fun fl s' hs => ?_) fun e s' hs => hs)
    have fin : ∀ {σ' : L2.St} {H' : Hp} {v : V} {u : Value}, Inv (NdefX.ncx (L2.CX P w) P w K mg base (ps ++ [("__class__" : Str)]) ⟨"__init__", qual, defArgs st, defBody st, defScope st, [("__class__", cc)], cda⟩ f A outer s H E) [] σ' H' s' → L2.RelV v u → Q v H' → CE outer P w H s Q u s' :=
      fun {σ' H' v u} J rv q => ⟨v, H', J.os, J.bare, J.base, J.hok, rv, q⟩
    cases fl with
    | ret u =>
      obtain ⟨v, σ', H', J, rv, q⟩ := hs
      exact fin J rv q
    | next =>
      obtain ⟨σ', H', J, q⟩ := hs
      exact fin (v := V.non) (u := Value.none) J rfl q
    | brk =>
      obtain ⟨_, _, _, q⟩ := hs
      exact False.elim q
    | cont =>
      obtain ⟨_, _, _, q⟩ := hs
      exact False.elim q
end
end
end Dl

set_option Elab.async false
set_option linter.all false
set_option maxRecDepth 100000
set_option maxHeartbeats 1000000
/-! The data level: raise, try. -/
namespace Dl
open PySem PySem.Spec PyProof.Rows L2
noncomputable section

/-! ### raise C(e, ..) -/
def putD (ds : List D) : List (Str × Nat) → List (Str × D) → List (Str × D)
  | [], fs => fs
  | (f, i) :: fl, fs => putD ds fl ((f, ds.getD i .non) :: fs)
/-- raise of an own class with the fields fl, self the 0th -/
def sRaise (x : Str) (np : Nat) (fl : List (Str × Nat)) (ms : M (List D)) : M Fl := bd ms fun ds en so => if ds.length + 1 = np then .exc ⟨x, putD (.non :: ds) fl []⟩ en so else .no
/-- the class x of the module: np parameters of its __init__, the fields fl -/
structure ExcD (P : Program) (w : World) (K : PySem.W.Frag) (mg : Str → Option Value) (base : Heap) (x : Str) (np : Nat) (fl : List (Str × Nat)) : Prop where
  ex : ∃ (C fI Dd : Addr) (fd : FuncData) (ps : List Str), mg x = some (.ref C) ∧ ClsX K C Dd ∧ PySem.W.findIn K (.ref C) "__init__" = some (some (.ref fI)) ∧ PySem.W.typeIn K (.ref fI) = some (.type "function") ∧
    FnOk P w K mg base (L2.CX P w) 1 fI fd ps (spI K Dd np fl) ∧ Binds K fd ps [] ∧ ∀ p ∈ fl, PySem.W.findIn K (.ref C) p.1 = some none
  ok : ∀ p ∈ fl, 0 < p.2 ∧ p.2 < np
  few : np ≤ 1000
theorem put_rep {K : PySem.W.Frag} {G : Gh} {a : Addr} {vs : List V} {ds : List D} (r : Reps K G.F G.rho vs ds) : ∀ (fl : List (Str × Nat)), (∀ p ∈ fl, 0 < p.2 ∧ p.2 < ds.length + 1) → ∀ {fs : List (Str × V)} {bs : List (Str × D)}, Paired (fun (p : Str × V) (q : Str × D) => p.1 = q.1 ∧ Rep K G.F G.rho p.2 q.2) fs bs →
    Paired (fun (p : Str × V) (q : Str × D) => p.1 = q.1 ∧ Rep K G.F G.rho p.2 q.2) (putAll ((V.ref a :: vs).map some) fl fs) (putD (.non :: ds) fl bs)
  | [], _, _, _, h => h
  | (f, i) :: fl, hp, fs, bs, h => by
    refine put_rep r fl (fun p q => hp p (List.mem_cons_of_mem _ q)) (.cons ⟨rfl, ?_⟩ h)
    obtain ⟨h0, h1⟩ := hp (f, i) List.mem_cons_self
    have h0 : 0 < i := h0
    have h1 : i < ds.length + 1 := h1
    cases i with
    | zero => exact absurd h0 (Nat.lt_irrefl _)
    | succ i =>
      have hi : i < ds.length := by omega
      have ed : ds[i]? = some ds[i] := List.getElem?_eq_getElem hi
      obtain ⟨v, ev, rv⟩ := reps_at r ed
      have e1 : valAt ((V.ref a :: vs).map some) (i + 1) = v := by
        unfold valAt
        rw [List.map_cons, List.getElem?_cons_succ, List.getElem?_map, ev]
        rfl
      have e2 : (D.non :: ds).getD (i + 1) .non = ds[i] := by rw [List.getD_eq_getElem?_getD, List.getElem?_cons_succ, ed]; rfl
      rw [e1, e2]
      exact rv
section
variable {X : Cx} {W : WX} {e : Expr} {es : List Expr} {ms : M (List D)} {x : Str} {np : Nat} {fl : List (Str × Nat)} {p pos pos2 : Pos} {k : Nat}
theorem s_raise (E : ExcD X.prog X.w X.K X.mg X.base x np fl) (hc : X.calm = true) (tk : Takes X W) (hr : Room (k + 2) X.A) (hg : Gl X x) (ha : DA X W (e :: es) ms)
    (hdb : (x == ("__debug__" : Str)) = false := by decide) (he : starEach (e :: es) X.env = (false, eval e X.env) :: starEach es X.env := by rfl) (hpl : (backTo pos (starEach es X.env)).any (·.1) = false := by rfl) : DS X W (.Raise (some (.Call (.Name x p) (e :: es) [] pos)) none pos2) (sRaise x np fl ms) := by
  obtain ⟨C, fI, Dd, fd, ps, hm, T, iC, tI, F, hb, hno⟩ := E.ex
  refine ⟨PS_imp (ps_raise hc tk (pmk_oex (k := k + 1) (ds := []) (dvs := []) T.toOexC iC tI (F.mono (by omega)) hr hb .nil (fun _ _ _ _ _ _ _ ⟨_, _, _, _, _, _, _, _, _, _, _, _, z⟩ => z.elim) hg hm ha.pa hdb he hpl)) fun D σ H ⟨G, en, so, s, p⟩ => ?_⟩
  refine ⟨G, en, so, s, (SPost.bind (R1 := rlDs X.K) p).imp fun vs H1 ⟨G1, en1, so1, ds, l, r1, s1, p1⟩ => ?_⟩
  by_cases hl : ds.length + 1 = np
  case neg => rw [if_neg hl] at p1; exact False.elim p1
  rw [if_pos hl] at p1
  refine ⟨?_, fun a ha0 => ⟨a, C, vs ++ [], rfl, ?_, T, hno, upd_same, fun dx hdx ne => ⟨rfl, dx, _, upd_same, by rw [upd_ne ne, upd_same], by rw [upd_ne ne] at hdx; exact hdx, ?_⟩⟩⟩
  · rw [r1.len]; have := E.few; omega
  · rw [List.append_nil, List.length_cons, r1.len]; exact hl
  · have hn : H1 dx = none := by rw [upd_ne ne] at hdx; exact hdx
    have eh : upd (del (upd (upd (upd H1 a (exo a C none)) dx (exd dx (putAll ((V.ref a :: (vs ++ [])).map some) fl []))) a (exo a C (some dx))) a) dx (.xd (putAll ((V.ref a :: (vs ++ [])).map some) fl [])) = upd H1 dx (.xd (putAll ((V.ref a :: (vs ++ [])).map some) fl [])) := by
      funext b
      by_cases hb : b = dx
      · rw [hb, upd_same, upd_same]
      · rw [upd_ne hb, upd_ne hb]
        by_cases hb2 : b = a
        · rw [hb2, del_same, ha0]
        · rw [del_ne hb2, upd_ne hb2, upd_ne hb, upd_ne hb2]
    rw [eh, List.append_nil]
    have s2 := s1.newT (o := .xd (putAll ((V.ref a :: vs).map some) fl [])) (t := .un) hn
    refine p1 (.ref C) (some dx) σ _ _ (tag_le dx .un) s2 ⟨C, rfl, hm, .inr ⟨dx, _, rfl, upd_same, ?_⟩⟩
    exact put_rep (G := G1.tag dx .un) r1 fl (fun p q => by rw [hl]; exact E.ok p q) .nil
end
end
end Dl

set_option Elab.async false
set_option linter.all false
set_option maxRecDepth 100000
set_option maxHeartbeats 1000000
/-! Mathematics over the data level: what the programs answer, piece by piece. -/
namespace Dl
open PySem L2
noncomputable section
section
variable {A A' : Type} {en : En} {so : So}
/-- what follows a run -/
def bdR {A A' : Type} (r : Re A) (k : A → M A') : Re A' := match r with
  | .ok a en so => k a en so
  | .exc x en so => .exc x en so
  | .no => .no
@[simp] theorem bdR_ok (a : A) (k : A → M A') : bdR (.ok a en so) k = k a en so := rfl
@[simp] theorem bdR_exc (x : Xc) (k : A → M A') : bdR (.exc x en so) k = .exc x en so := rfl
@[simp] theorem bdR_no (k : A → M A') : bdR .no k = .no := rfl
@[simp] theorem pu_ (a : A) : pu a en so = .ok a en so := rfl
@[simp] theorem bd_ (m : M A) (k : A → M A') : bd m k en so = bdR (m en so) k := rfl
@[simp] theorem gd_t {c : Prop} [Decidable c] (h : c) (m : M A) : gd c m en so = m en so := if_pos h
theorem gd_f {c : Prop} [Decidable c] (h : ¬ c) (m : M A) : gd c m en so = .no := if_neg h
@[simp] theorem no_ : (no : M A) en so = .no := rfl
@[simp] theorem mV_ (i : Nat) : mV i en so = (match en[i]? with
  | some (some (.dat d)) => .ok d en so
  | _ => .no) := rfl
@[simp] theorem m2_ (f : D → D → M D) (a b : M D) : m2 f a b en so = bdR (a en so) fun d => bd b fun e => f d e := rfl
@[simp] theorem aN_ : aN en so = .ok [] en so := rfl
@[simp] theorem aC_ (m : M D) (r : M (List D)) : aC m r en so = bdR (m en so) fun d => bd r fun ds => pu (d :: ds) := rfl
@[simp] theorem addI (a b : Int) : addD (.int a) (.int b) = pu (.int (a + b)) := rfl
@[simp] theorem addS (a b : List Nat) : addD (.str a) (.str b) = gd (a.length + b.length ≤ 16777216) (pu (.str (a ++ b))) := rfl
@[simp] theorem subI (a b : Int) : subD (.int a) (.int b) = pu (.int (a - b)) := rfl
@[simp] theorem mulI (a b : Int) : mulD (.int a) (.int b) = gd ((-(2 ^ 64) < a ∧ a < 2 ^ 64) ∨ (-(2 ^ 64) < b ∧ b < 2 ^ 64)) (pu (.int (a * b))) := rfl
@[simp] theorem divI (a b : Int) : divD (.int a) (.int b) = gd (0 < b ∧ b < 1073741824) (pu (.int (a / b))) := rfl
@[simp] theorem modI (a b : Int) : modD (.int a) (.int b) = gd (0 < b) (pu (.int (a % b))) := rfl
@[simp] theorem ltI (a b : Int) : ltD (.int a) (.int b) = pu (.bl (decide (a < b))) := rfl
@[simp] theorem leI (a b : Int) : leD (.int a) (.int b) = pu (.bl (decide (a ≤ b))) := rfl
@[simp] theorem gtI (a b : Int) : gtD (.int a) (.int b) = pu (.bl (decide (b < a))) := rfl
@[simp] theorem geI (a b : Int) : geD (.int a) (.int b) = pu (.bl (decide (b ≤ a))) := rfl
def kTr : D → M Bool := fun d => match d with
  | .bl b => pu b
  | _ => no
@[simp] theorem kTr_ (b : Bool) : kTr (.bl b) = pu b := rfl
@[simp] theorem mT_ (m : M D) : mT m en so = bdR (m en so) kTr := rfl
@[simp] theorem mTru_ (m : M D) : mTru m en so = bdR (m en so) truD := rfl
@[simp] theorem tru_non : truD .non = pu false := rfl
@[simp] theorem tru_bl (b : Bool) : truD (.bl b) = pu b := rfl
@[simp] theorem tru_int (i : Int) : truD (.int i) = pu (i != 0) := rfl
@[simp] theorem tru_str (s : List Nat) : truD (.str s) = gd (s.length ≤ 16777216) (pu (s.length != 0)) := rfl
@[simp] theorem tru_lst (s : List D) : truD (.lst s) = pu (!s.isEmpty) := rfl
def kAnd (b : M D) : D → M D := fun d => match d with
  | .bl true => b
  | .bl false => pu (.bl false)
  | _ => no
@[simp] theorem kAnd_ (b : M D) (x : Bool) : kAnd b (.bl x) en so = if x = true then b en so else .ok (.bl false) en so := by cases x <;> rfl
def kOr (b : M D) : D → M D := fun d => match d with
  | .bl true => pu (.bl true)
  | .bl false => b
  | _ => no
@[simp] theorem kOr_ (b : M D) (x : Bool) : kOr b (.bl x) en so = if x = true then .ok (.bl true) en so else b en so := by cases x <;> rfl
@[simp] theorem ite_and (c : Prop) [Decidable c] (y : Bool) : (if c then (.ok (.bl y) en so : Re D) else .ok (.bl false) en so) = .ok (.bl (decide c && y)) en so := by
  by_cases h : c <;> simp [h]
@[simp] theorem ite_or (c : Prop) [Decidable c] (y : Bool) : (if c then (.ok (.bl true) en so : Re D) else .ok (.bl y) en so) = .ok (.bl (decide c || y)) en so := by
  by_cases h : c <;> simp [h]
def kNot : D → M D := fun d => match d with
  | .bl b => pu (.bl (!b))
  | _ => no
@[simp] theorem kNot_ (b : Bool) : kNot (.bl b) = pu (.bl (!b)) := rfl
@[simp] theorem mAnd_ (a b : M D) : mAnd a b en so = bdR (a en so) (kAnd b) := rfl
@[simp] theorem mOr_ (a b : M D) : mOr a b en so = bdR (a en so) (kOr b) := rfl
@[simp] theorem mNot_ (a : M D) : mNot a en so = bdR (a en so) kNot := rfl
def kIt {A : Type} (a b : M A) : Bool → M A := fun c => if c then a else b
@[simp] theorem kIt_ (a b : M A) (c : Bool) : kIt a b c en so = if c = true then a en so else b en so := by cases c <;> rfl
@[simp] theorem tAndM_ (a b : M Bool) : tAndM a b en so = bdR (a en so) (kIt b (pu false)) := rfl
@[simp] theorem tOrM_ (a b : M Bool) : tOrM a b en so = bdR (a en so) (kIt (pu true) b) := rfl
@[simp] theorem tNotM_ (a : M Bool) : tNotM a en so = bdR (a en so) fun c => pu (!c) := rfl
@[simp] theorem ite_andB (c : Prop) [Decidable c] (y : Bool) : (if c then (.ok y en so : Re Bool) else .ok false en so) = .ok (decide c && y) en so := by
  by_cases h : c <;> simp [h]
@[simp] theorem ite_orB (c : Prop) [Decidable c] (y : Bool) : (if c then (.ok true en so : Re Bool) else .ok y en so) = .ok (decide c || y) en so := by
  by_cases h : c <;> simp [h]
def kCh (g : D → D → M D) (y : D) (c : M D) : D → M D := fun d => match d with
  | .bl true => bd c fun z => g y z
  | .bl false => pu (.bl false)
  | _ => no
@[simp] theorem kCh_ (g : D → D → M D) (y : D) (c : M D) (x : Bool) : kCh g y c (.bl x) en so = if x = true then bdR (c en so) fun z => g y z else .ok (.bl false) en so := by cases x <;> rfl
@[simp] theorem mCh_ (f g : D → D → M D) (a b c : M D) : mCh f g a b c en so = bdR (a en so) fun x => bd b fun y => bd (f x y) (kCh g y c) := rfl
@[simp] theorem mFz_ (m : M B) : mFz m en so = bdR (m en so) fun b => pu b.toD := rfl
@[simp] theorem toD_dat (d : D) : (B.dat d).toD = d := rfl
@[simp] theorem toD_lst (ds : List D) : (B.cel (.lst ds)).toD = .lst ds := rfl
@[simp] theorem toD_dct (ds : List (Ky × D)) : (B.cel (.dct ds)).toD = .dct ds := rfl
@[simp] theorem eqM_ (d e : D) : eqM d e = gd (okq 24 d = true ∧ okq 24 e = true) (pu (.bl (eqD d e))) := rfl
@[simp] theorem neM_ (d e : D) : neM d e = gd (okq 24 d = true ∧ okq 24 e = true) (pu (.bl (!eqD d e))) := rfl
@[simp] theorem okq_non (n : Nat) : okq n .non = true := by cases n <;> rfl
@[simp] theorem okq_bl (n : Nat) (b : Bool) : okq n (.bl b) = true := by cases n <;> rfl
@[simp] theorem okq_int (n : Nat) (b : Int) : okq n (.int b) = true := by cases n <;> rfl
@[simp] theorem okq_str (n : Nat) (b : List Nat) : okq n (.str b) = true := by cases n <;> rfl
@[simp] theorem okq_lst (n : Nat) (xs : List D) : okq (n + 1) (.lst xs) = xs.all (okq n) := rfl
@[simp] theorem okq_tup (n : Nat) (xs : List D) : okq (n + 1) (.tup xs) = xs.all (okq n) := rfl
@[simp] theorem okq_lst24 (xs : List D) : okq 24 (.lst xs) = xs.all (okq 23) := rfl
@[simp] theorem okq_tup24 (xs : List D) : okq 24 (.tup xs) = xs.all (okq 23) := rfl
@[simp] theorem eqD_nn : eqD .non .non = true := by simp [eqD]
@[simp] theorem eqD_bb (a b : Bool) : eqD (.bl a) (.bl b) = (a == b) := by simp [eqD]
@[simp] theorem eqD_ii (a b : Int) : eqD (.int a) (.int b) = decide (a = b) := by simp only [eqD]; rw [Bool.eq_iff_iff]; simp
@[simp] theorem eqD_ss (a b : List Nat) : eqD (.str a) (.str b) = decide (a = b) := by simp only [eqD]; rw [Bool.eq_iff_iff]; simp
@[simp] theorem eqD_ll (a b : List D) : eqD (.lst a) (.lst b) = eqDs a b := by simp [eqD]
@[simp] theorem eqD_tt (a b : List D) : eqD (.tup a) (.tup b) = eqDs a b := by simp [eqD]
@[simp] theorem eqDs_nil : eqDs [] [] = true := by simp [eqDs]
@[simp] theorem eqDs_cons (a b : D) (xs ys : List D) : eqDs (a :: xs) (b :: ys) = (eqD a b && eqDs xs ys) := by simp [eqDs]
@[simp] theorem lenS (s : List Nat) : lenD [.str s] = gd (s.length ≤ 16777216) (pu (.int s.length)) := rfl
@[simp] theorem lenL (s : List D) : lenD [.lst s] = pu (.int s.length) := rfl
@[simp] theorem lenT (s : List D) : lenD [.tup s] = pu (.int s.length) := rfl
@[simp] theorem absI (i : Int) : absD [.int i] = pu (.int (if i < 0 then -i else i)) := rfl
@[simp] theorem intI (i : Int) : intD [.int i] = pu (.int i) := rfl
@[simp] theorem intB (b : Bool) : intD [.bl b] = pu (.int (if b then 1 else 0)) := rfl
@[simp] theorem ordC (c : Nat) : ordD [.str [c]] = pu (.int c) := rfl
@[simp] theorem blsOf_map (l : List Bool) : blsOf (l.map D.bl) = some l := by
  induction l with
  | nil => rfl
  | cons b l ih => show (blsOf (l.map D.bl)).map (b :: ·) = _; rw [ih]; rfl
theorem blsOf_map' {A : Type} (f : A → Bool) (l : List A) : blsOf (l.map fun x => D.bl (f x)) = some (l.map f) := by
  have : (l.map fun x => D.bl (f x)) = (l.map f).map D.bl := by rw [List.map_map]; rfl
  rw [this, blsOf_map]
theorem strsOf_map' {A : Type} (f : A → List Nat) (l : List A) : strsOf (l.map fun x => D.str (f x)) = some (l.map f) := by
  induction l with
  | nil => rfl
  | cons b l ih => show (strsOf (l.map fun x => D.str (f x))).map (f b :: ·) = _; rw [ih]; rfl
theorem all_lst {l : List Bool} : allD [.lst (l.map D.bl)] en so = .ok (.bl (l.all id)) en so := by
  show (match blsOf (l.map D.bl) with | some bs => (pu (D.bl (bs.all id)) : M D) | none => no) en so = _
  rw [blsOf_map]; rfl
theorem all_map {A : Type} (f : A → Bool) (l : List A) : allD [.lst (l.map fun x => D.bl (f x))] en so = .ok (.bl (l.all f)) en so := by
  have : (l.map fun x => D.bl (f x)) = (l.map f).map D.bl := by rw [List.map_map]; rfl
  rw [this, all_lst, List.all_map]; rfl
@[simp] theorem sPass_ : sPass en so = .ok .nx en so := rfl
@[simp] theorem sBreak_ : sBreak en so = .ok .bk en so := rfl
@[simp] theorem sCont_ : sCont en so = .ok .ct en so := rfl
def kSeq (b : M Fl) : Fl → M Fl := fun f => match f with
  | .nx => b
  | f => pu f
@[simp] theorem kSeq_nx (b : M Fl) : kSeq b .nx = b := rfl
@[simp] theorem kSeq_rt (b : M Fl) (v : B) : kSeq b (.rt v) = pu (.rt v) := rfl
@[simp] theorem kSeq_bk (b : M Fl) : kSeq b .bk = pu .bk := rfl
@[simp] theorem kSeq_ct (b : M Fl) : kSeq b .ct = pu .ct := rfl
@[simp] theorem sSeq_ (a b : M Fl) : sSeq a b en so = bdR (a en so) (kSeq b) := by
  unfold sSeq bd bdR kSeq
  cases a en so with
  | ok f en so => cases f <;> rfl
  | _ => rfl
@[simp] theorem sIf_ (t : M Bool) (a b : M Fl) : sIf t a b en so = bdR (t en so) (kIt a b) := rfl
@[simp] theorem sRet_ (m : M B) : sRet m en so = bdR (m en so) fun b => pu (.rt b) := rfl
@[simp] theorem sRetD_ (m : M D) : sRetD m en so = bdR (m en so) fun d => pu (.rt (.dat d)) := rfl
@[simp] theorem sRetN_ : sRetN en so = .ok (.rt (.dat .non)) en so := rfl
@[simp] theorem sExpr_ (m : M D) : sExpr m en so = bdR (m en so) fun _ => pu .nx := rfl
def kSet (i : Nat) (b : B) : M Fl := fun en so => .ok .nx (en.set i (some b)) so
@[simp] theorem kSet_ (i : Nat) (b : B) : kSet i b en so = .ok .nx (en.set i (some b)) so := rfl
@[simp] theorem sSet_ (i : Nat) (m : M D) : sSet i m en so = bdR (m en so) fun d => kSet i (.dat d) := rfl
@[simp] theorem sSetB_ (i : Nat) (m : M B) : sSetB i m en so = bdR (m en so) fun b => kSet i b := rfl
def kTg (tg : Tg) (d : D) : M Fl := fun en so => match tg d en with
  | some en' => .ok .nx en' so
  | none => .no
theorem kTg_ {tg : Tg} {d : D} {en' : En} (h : tg d en = some en') : kTg tg d en so = .ok .nx en' so := by unfold kTg; rw [h]
@[simp] theorem kTg_N (i : Nat) (d : D) : kTg (tgN i) d en so = .ok .nx (en.set i (some (.dat d))) so := rfl
@[simp] theorem kTg_P (i j : Nat) (x y : D) : kTg (tgP i j) (.tup [x, y]) en so = .ok .nx ((en.set i (some (.dat x))).set j (some (.dat y))) so := rfl
@[simp] theorem sSetT_ (tg : Tg) (m : M D) : sSetT tg m en so = bdR (m en so) fun d => kTg tg d := rfl
@[simp] theorem sAug_ (i : Nat) (f : D → D → M D) (m : M D) : sAug i f m en so = (match en[i]? with
  | some (some (.dat x)) => bdR (m en so) fun y => bd (f x y) fun z => kSet i (.dat z)
  | _ => .no) := rfl
@[simp] theorem tgN_ (i : Nat) (d : D) : tgN i d en = some (en.set i (some (.dat d))) := rfl
@[simp] theorem tgP_ (i j : Nat) (x y : D) : tgP i j (.tup [x, y]) en = some ((en.set i (some (.dat x))).set j (some (.dat y))) := rfl
def kL : D → M (List D) := fun d => match d with
  | .lst xs => pu xs
  | _ => no
@[simp] theorem kL_ (xs : List D) : kL (.lst xs) = pu xs := rfl
def kTu : D → M (List D) := fun d => match d with
  | .tup xs => pu xs
  | _ => no
@[simp] theorem kTu_ (xs : List D) : kTu (.tup xs) = pu xs := rfl
def kS : D → M (List D) := fun d => match d with
  | .str s => pu (s.map fun c => .str [c])
  | _ => no
@[simp] theorem kS_ (s : List Nat) : kS (.str s) = pu (s.map fun c => .str [c]) := rfl
@[simp] theorem itL_ (m : M D) : itL m en so = bdR (m en so) kL := rfl
@[simp] theorem itT_ (m : M D) : itT m en so = bdR (m en so) kTu := rfl
@[simp] theorem itS_ (m : M D) : itS m en so = bdR (m en so) kS := rfl
@[simp] theorem itR1_ (m : M D) : itR1 m en so = bdR (m en so) rg1 := rfl
theorem rg1_ (j : Int) : rg1 (.int j) = gd (-(2 ^ 62) ≤ j ∧ j < 2 ^ 62) (pu (rngD 0 j.toNat)) := rfl
@[simp] theorem itR2_ (a b : M D) : itR2 a b en so = bdR (a en so) fun i => bd b fun j => rg2 i j := rfl
@[simp] theorem rg2_ (i j : Int) : rg2 (.int i) (.int j) = gd (-(2 ^ 62) ≤ i ∧ i < 2 ^ 62 ∧ -(2 ^ 62) ≤ j ∧ j < 2 ^ 62) (pu (rngD i (j - i).toNat)) := rfl
@[simp] theorem sFor_ (tg : Tg) (src : M (List D)) (body : M Fl) : sFor tg src body en so = bdR (src en so) fun ds => forGo tg body ds := rfl
@[simp] theorem mLst_ (ms : M (List D)) : mLst ms en so = bdR (ms en so) fun ds => gd (ds.length ≤ 16777216) (pu (.cel (.lst ds))) := rfl
@[simp] theorem mTup_ (ms : M (List D)) : mTup ms en so = bdR (ms en so) fun ds => gd (ds.length ≤ 16777216) (pu (.tup ds)) := rfl
@[simp] theorem oN_ : oN en so = .ok none en so := rfl
def kO : D → M (Option Int) := fun d => match d with
  | .int i => pu (some i)
  | _ => no
@[simp] theorem kO_ (i : Int) : kO (.int i) = pu (some i) := rfl
@[simp] theorem oS_ (m : M D) : oS m en so = bdR (m en so) kO := rfl
@[simp] theorem mSl_ (f : D → Option Int → Option Int → M A) (m : M D) (lo hi : M (Option Int)) : mSl f m lo hi en so = bdR (m en so) fun d => bd lo fun l => bd hi fun h => f d l h := rfl
@[simp] theorem slS_ (s : List Nat) (lo hi : Option Int) : slS (.str s) lo hi = gd (s.length ≤ 16777216) (pu (.str (cutL s lo hi))) := rfl
@[simp] theorem slL_ (s : List D) (lo hi : Option Int) : slL (.lst s) lo hi = pu (.cel (.lst (cutL s lo hi))) := rfl
/-- the caller goes on after a call -/
def kCall (f : FunM) (ds : List D) : M B := fun en so => match f ds so with
  | .ok b so' => .ok b en so'
  | .exc x so' => .exc x en so'
  | .no => .no
@[simp] theorem mCall_ (f : FunM) (ms : M (List D)) : mCall f ms en so = bdR (ms en so) (kCall f) := rfl
/-- .. of a call whose answer is known -/
def rfR (r : Rf) (en : En) : Re B := match r with
  | .ok b so' => .ok b en so'
  | .exc x so' => .exc x en so'
  | .no => .no
@[simp] theorem kCall_ (f : FunM) (ds : List D) : kCall f ds en so = rfR (f ds so) en := rfl
@[simp] theorem rfR_ok (b : B) : rfR (.ok b so) en = .ok b en so := rfl
@[simp] theorem rfR_exc (x : Xc) : rfR (.exc x so) en = .exc x en so := rfl
def kIs (T : TyN) : D → M D := fun d => match d with
  | .obj _ => no
  | d => pu (.bl (isD T d))
@[simp] theorem mIs_ (T : TyN) (m : M D) : mIs T m en so = bdR (m en so) (kIs T) := rfl
@[simp] theorem kIs_non (T : TyN) : kIs T .non = pu (.bl (isD T .non)) := rfl
@[simp] theorem kIs_bl (T : TyN) (b : Bool) : kIs T (.bl b) = pu (.bl (isD T (.bl b))) := rfl
@[simp] theorem kIs_int (T : TyN) (b : Int) : kIs T (.int b) = pu (.bl (isD T (.int b))) := rfl
@[simp] theorem kIs_str (T : TyN) (b : List Nat) : kIs T (.str b) = pu (.bl (isD T (.str b))) := rfl
@[simp] theorem kIs_lst (T : TyN) (b : List D) : kIs T (.lst b) = pu (.bl (isD T (.lst b))) := rfl
@[simp] theorem kIs_tup (T : TyN) (b : List D) : kIs T (.tup b) = pu (.bl (isD T (.tup b))) := rfl
@[simp] theorem kIs_dct (T : TyN) (b : List (Ky × D)) : kIs T (.dct b) = pu (.bl (isD T (.dct b))) := rfl
@[simp] theorem mIsN_ (m : M D) : mIsN m en so = bdR (m en so) fun d => pu (.bl (isN d)) := rfl
@[simp] theorem mNotN_ (m : M D) : mNotN m en so = bdR (m en so) fun d => pu (.bl (!isN d)) := rfl
def opR {A A' : Type} (o : Option A) (k : A → M A') : M A' := match o with
  | some a => k a
  | none => no
@[simp] theorem opR_some (a : A) (k : A → M A') : opR (some a) k = k a := rfl
@[simp] theorem ix_lst (xs : List D) (i : Int) : ixD (.lst xs) (.int i) = opR (atI xs i) pu := by show (match atI xs i with | some d => pu d | none => no) = _; cases atI xs i <;> rfl
@[simp] theorem ix_tup (xs : List D) (i : Int) : ixD (.tup xs) (.int i) = opR (atI xs i) pu := by show (match atI xs i with | some d => pu d | none => no) = _; cases atI xs i <;> rfl
@[simp] theorem ix_str (s : List Nat) (i : Int) : ixD (.str s) (.int i) = gd (s.length ≤ 16777216) (opR (atI s i) fun c => pu (.str [c])) := by show gd _ (match atI s i with | some c => pu (D.str [c]) | none => no) = _; cases atI s i <;> rfl
def kM {A : Type} (f : List Nat → M A) : D → M A := fun d => match d with
  | .str z => f z
  | _ => no
@[simp] theorem kM_ (f : List Nat → M A) (z : List Nat) : kM f (.str z) = f z := rfl
@[simp] theorem mM1_ (f : List Nat → D → M A) (o e : M D) : mM1 f o e en so = bdR (o en so) (kM fun z => bd e fun y => f z y) := rfl
@[simp] theorem mM0_ (f : List Nat → M A) (o : M D) : mM0 f o en so = bdR (o en so) (kM f) := rfl
/-- a comprehension whose element makes g d of each d -/
@[simp] theorem isD_bb (b : Bool) : isD .bool (.bl b) = true := rfl
@[simp] theorem isD_ib (b : Bool) : isD .int (.bl b) = true := rfl
@[simp] theorem isD_bi (b : Int) : isD .bool (.int b) = false := rfl
@[simp] theorem isD_ii (b : Int) : isD .int (.int b) = true := rfl
@[simp] theorem isD_ss (b : List Nat) : isD .str (.str b) = true := rfl
@[simp] theorem isD_ll (b : List D) : isD .list (.lst b) = true := rfl
@[simp] theorem isD_tt (b : List D) : isD .tuple (.tup b) = true := rfl
@[simp] theorem isD_dd (b : List (Ky × D)) : isD .dict (.dct b) = true := rfl
theorem lcGo_map {vs : List Nat} {tg : Tg} {el : M D} (g : D → D) : ∀ (ds acc : List D), (∀ d ∈ ds, ∃ en0, tg d en = some en0 ∧ el en0 so = .ok (g d) en0 so ∧ wipeE en0 vs = en) → acc.length + ds.length ≤ 16777216 → lcGo vs tg (pu true) el ds acc en so = .ok (acc ++ ds.map g) en so
  | [], acc, _, _ => by simp [lcGo]
  | d :: ds, acc, h, hl => by
    obtain ⟨en0, h1, h2, h3⟩ := h d List.mem_cons_self
    have hl' : acc.length + (ds.length + 1) ≤ 16777216 := hl
    have ih := lcGo_map g ds (acc ++ [g d]) (fun d' hd => h d' (List.mem_cons_of_mem _ hd)) (by rw [List.length_append, List.length_singleton]; omega)
    unfold lcGo
    simp only [h1, pu_, h2, h3]
    rw [if_pos (by omega), ih]
    simp
/-- .. and keeps those of which f holds -/
theorem lcGo_filter {vs : List Nat} {tg : Tg} {tt : M Bool} {el : M D} (f : D → Bool) (g : D → D) : ∀ (ds acc : List D), (∀ d ∈ ds, ∃ en0, tg d en = some en0 ∧ tt en0 so = .ok (f d) en0 so ∧ (f d = true → el en0 so = .ok (g d) en0 so) ∧ wipeE en0 vs = en) → acc.length + ds.length ≤ 16777216 →
    lcGo vs tg tt el ds acc en so = .ok (acc ++ (ds.filter f).map g) en so
  | [], acc, _, _ => by simp [lcGo]
  | d :: ds, acc, h, hl => by
    obtain ⟨en0, h1, h2, h3, h4⟩ := h d List.mem_cons_self
    have hl' : acc.length + (ds.length + 1) ≤ 16777216 := hl
    unfold lcGo
    simp only [h1, h2]
    cases hf : f d with
    | false =>
      have ih := lcGo_filter f g ds acc (fun d' hd => h d' (List.mem_cons_of_mem _ hd)) (by omega)
      simp only [h4]
      rw [ih]
      simp [List.filter_cons, hf]
    | true =>
      have ih := lcGo_filter f g ds (acc ++ [g d]) (fun d' hd => h d' (List.mem_cons_of_mem _ hd)) (by rw [List.length_append, List.length_singleton]; omega)
      simp only [h3 hf, h4]
      rw [if_pos (by omega), ih]
      simp [List.filter_cons, hf]
theorem lcGo_mp {A : Type} {vs : List Nat} {tg : Tg} {el : M D} (f g : A → D) (l : List A) (h : ∀ a ∈ l, ∃ en0, tg (f a) en = some en0 ∧ el en0 so = .ok (g a) en0 so ∧ wipeE en0 vs = en) (hl : l.length ≤ 16777216) : lcGo vs tg (pu true) el (l.map f) [] en so = .ok (l.map g) en so := by
  have key : ∀ (l : List A) (acc : List D), (∀ a ∈ l, ∃ en0, tg (f a) en = some en0 ∧ el en0 so = .ok (g a) en0 so ∧ wipeE en0 vs = en) → acc.length + l.length ≤ 16777216 → lcGo vs tg (pu true) el (l.map f) acc en so = .ok (acc ++ l.map g) en so := by
    intro l
    induction l with
    | nil => intro acc _ _; simp [lcGo]
    | cons a l ih =>
      intro acc h hl
      obtain ⟨en0, h1, h2, h3⟩ := h a List.mem_cons_self
      have hl' : acc.length + (l.length + 1) ≤ 16777216 := hl
      have ih := ih (acc ++ [g a]) (fun d' hd => h d' (List.mem_cons_of_mem _ hd)) (by rw [List.length_append, List.length_singleton]; omega)
      rw [List.map_cons]
      unfold lcGo
      simp only [h1, pu_, h2, h3]
      rw [if_pos (by omega), ih]
      simp
  exact key l [] h (by simpa using hl)
theorem lcGo_flt {A : Type} {vs : List Nat} {tg : Tg} {tt : M Bool} {el : M D} (f : A → D) (p : A → Bool) (g : A → D) (l : List A) (h : ∀ a ∈ l, ∃ en0, tg (f a) en = some en0 ∧ tt en0 so = .ok (p a) en0 so ∧ (p a = true → el en0 so = .ok (g a) en0 so) ∧ wipeE en0 vs = en) (hl : l.length ≤ 16777216) : lcGo vs tg tt el (l.map f) [] en so = .ok ((l.filter p).map g) en so := by
  have key : ∀ (l : List A) (acc : List D), (∀ a ∈ l, ∃ en0, tg (f a) en = some en0 ∧ tt en0 so = .ok (p a) en0 so ∧ (p a = true → el en0 so = .ok (g a) en0 so) ∧ wipeE en0 vs = en) → acc.length + l.length ≤ 16777216 → lcGo vs tg tt el (l.map f) acc en so = .ok (acc ++ (l.filter p).map g) en so := by
    intro l
    induction l with
    | nil => intro acc _ _; simp [lcGo]
    | cons a l ih =>
      intro acc h hl
      obtain ⟨en0, h1, h2, h3, h4⟩ := h a List.mem_cons_self
      have hl' : acc.length + (l.length + 1) ≤ 16777216 := hl
      rw [List.map_cons]
      unfold lcGo
      simp only [h1, h2]
      cases hp : p a with
      | false =>
        simp only [h4]
        rw [ih acc (fun d' hd => h d' (List.mem_cons_of_mem _ hd)) (by omega)]
        simp [List.filter_cons, hp]
      | true =>
        simp only [h3 hp, h4]
        rw [if_pos (by omega), ih (acc ++ [g a]) (fun d' hd => h d' (List.mem_cons_of_mem _ hd)) (by rw [List.length_append, List.length_singleton]; omega)]
        simp [List.filter_cons, hp]
  exact key l [] h (by simpa using hl)
def lcR (vs : List Nat) (en : En) (r : Re (List D)) : Re B := match r with
  | .ok xs en' so' => .ok (.cel (.lst xs)) (backE en en' vs) so'
  | _ => .no
@[simp] theorem lcR_ (vs : List Nat) (en en' : En) (xs : List D) : lcR vs en (.ok xs en' so) = .ok (.cel (.lst xs)) (backE en en' vs) so := rfl
def kLc (vs : List Nat) (tg : Tg) (tt : M Bool) (el : M D) (ds : List D) : M B := fun en so => lcR vs en (lcGo vs tg tt el ds [] (wipeE en vs) so)
@[simp] theorem kLc_ (vs : List Nat) (tg : Tg) (tt : M Bool) (el : M D) (ds : List D) : kLc vs tg tt el ds en so = lcR vs en (lcGo vs tg tt el ds [] (wipeE en vs) so) := rfl
@[simp] theorem mLc_ (vs : List Nat) (tg : Tg) (src : M (List D)) (tt : M Bool) (el : M D) : mLc vs tg src tt el en so = bdR (src en so) (kLc vs tg tt el) := by
  unfold mLc bd bdR kLc lcR
  cases src en so <;> rfl
@[simp] theorem wipeE_nil : wipeE en [] = en := rfl
@[simp] theorem wipeE_cons (v : Nat) (vs : List Nat) : wipeE en (v :: vs) = (wipeE en vs).set v none := rfl
@[simp] theorem backE_nil (en0 : En) : backE en0 en [] = en := rfl
@[simp] theorem backE_cons (en0 : En) (v : Nat) (vs : List Nat) : backE en0 en (v :: vs) = (backE en0 en vs).set v (keepD en0 v) := rfl
theorem joinL_nil (ys : List (List Nat)) : TL.joinL [] ys = ys.flatten := by
  induction ys with
  | nil => rfl
  | cons y ys ih =>
    cases ys with
    | nil => simp [TL.joinL]
    | cons z zs =>
      unfold TL.joinL
      rw [ih]
      simp
theorem singles_flat (l : List Nat) : (l.map fun c => [c]).flatten = l := by
  induction l with
  | nil => rfl
  | cons c l ih => simp [ih]
theorem singles_sz (l : List Nat) : szL (l.map fun c => [c]) = l.length := by
  unfold szL
  induction l with
  | nil => rfl
  | cons c l ih => simp only [List.map_cons, List.sum_cons, List.length_cons, List.length_nil, ih]; omega
/-- "".join of signs -/
theorem join_signs (l : List Nat) (h : l.length ≤ 16777216) : joinD [] (.lst (l.map fun c => .str [c])) en so = .ok (.str l) en so := by
  show (match strsOf (l.map fun c => D.str [c]) with | some ys => gd (szL ys + ys.length * ([] : List Nat).length ≤ 16777216) (pu (D.str (TL.joinL [] ys))) | none => no) en so = _
  rw [strsOf_map' (fun c => [c])]
  show gd _ _ _ _ = _
  rw [gd_t (by rw [singles_sz, List.length_nil, Nat.mul_zero]; omega), joinL_nil, singles_flat]
  rfl
end
theorem atI_get' {A : Type} [Inhabited A] (l : List A) (i : Int) (h0 : 0 ≤ i) (h1 : i < l.length) : atI l i = some (l.getD i.toNat default) := by
  obtain ⟨n, rfl⟩ := Int.eq_ofNat_of_zero_le h0
  have hn : n < l.length := by exact_mod_cast h1
  have := atI_nat (xs := l) (j := n) (v := l[n]) (List.getElem?_eq_getElem hn)
  rw [this]
  simp [hn]
theorem atI_map {A A' : Type} (f : A → A') (l : List A) (i : Int) : atI (l.map f) i = (atI l i).map f := by
  unfold atI
  rw [List.length_map]
  cases ixN l.length i with
  | none => rfl
  | some j => simp
@[simp] theorem atI_0 {A : Type} (a : A) (l : List A) : atI (a :: l) 0 = some a := by
  have := atI_nat (xs := a :: l) (j := 0) (v := a) rfl
  exact this
@[simp] theorem atI_1 {A : Type} (a b : A) (l : List A) : atI (a :: b :: l) 1 = some b := by
  have := atI_nat (xs := a :: b :: l) (j := 1) (v := b) rfl
  exact this
@[simp] theorem atI_2 {A : Type} (a b c : A) (l : List A) : atI (a :: b :: c :: l) 2 = some c := by
  have := atI_nat (xs := a :: b :: c :: l) (j := 2) (v := c) rfl
  exact this
@[simp] theorem atI_3 {A : Type} (a b c d : A) (l : List A) : atI (a :: b :: c :: d :: l) 3 = some d := by
  have := atI_nat (xs := a :: b :: c :: d :: l) (j := 3) (v := d) rfl
  exact this
theorem cutL_map {A A' : Type} (f : A → A') (l : List A) (lo hi : Option Int) : cutL (l.map f) lo hi = (cutL l lo hi).map f := by
  unfold cutL
  rw [List.length_map, ← List.map_drop, ← List.map_take]
theorem cutL_len {A : Type} (l : List A) (lo hi : Option Int) : (cutL l lo hi).length ≤ l.length := by
  unfold cutL
  rw [List.length_take, List.length_drop]
  omega
theorem cutL_all {A : Type} (p : A → Bool) (l : List A) (lo hi : Option Int) (h : l.all p = true) : (cutL l lo hi).all p = true := by
  rw [List.all_eq_true] at *
  intro x hx
  exact h x (List.mem_of_mem_drop (List.mem_of_mem_take hx))
@[simp] theorem keepD_ (en : En) (i : Nat) : keepD en i = (match en[i]? with
  | some (some (.dat d)) => some (.dat d)
  | _ => none) := rfl
/-! ### loops -/
theorem forGo_nil {tg : Tg} {body : M Fl} {en : En} {so : So} : forGo tg body [] en so = .ok .nx en so := rfl
theorem forGo_cons {tg : Tg} {body : M Fl} {d : D} {ds : List D} {en en1 : En} {so : So} (h : tg d en = some en1) : forGo tg body (d :: ds) en so = (match body en1 so with
    | .ok .nx en2 so2 => forGo tg body ds en2 so2
    | .ok .ct en2 so2 => forGo tg body ds en2 so2
    | .ok .bk en2 so2 => .ok .nx en2 so2
    | r => r) := by
  conv => lhs; unfold forGo
  rw [h]
  try rfl
/-- a walk that goes to its end, under an invariant -/
theorem forGo_inv {A : Type} {tg : Tg} {body : M Fl} (f : A → D) (I : List A → En → So → Prop) : ∀ (l done : List A) (en : En) (so : So), I done en so →
    (∀ (done : List A) (a : A) (en : En) (so : So), a ∈ l → I done en so → ∃ en1, tg (f a) en = some en1 ∧ ∃ en2 so2, (body en1 so = .ok .nx en2 so2 ∨ body en1 so = .ok .ct en2 so2) ∧ I (done ++ [a]) en2 so2) →
    ∃ en' so', forGo tg body (l.map f) en so = .ok .nx en' so' ∧ I (done ++ l) en' so'
  | [], done, en, so, h0, _ => ⟨en, so, rfl, by rw [List.append_nil]; exact h0⟩
  | a :: l, done, en, so, h0, st => by
    obtain ⟨en1, h1, en2, so2, h2, h3⟩ := st done a en so List.mem_cons_self h0
    obtain ⟨en', so', h4, h5⟩ := forGo_inv f I l (done ++ [a]) en2 so2 h3 fun d b e s hb => st d b e s (List.mem_cons_of_mem _ hb)
    refine ⟨en', so', ?_, by rw [List.append_assoc] at h5; exact h5⟩
    rw [List.map_cons, forGo_cons h1]
    rcases h2 with h2 | h2 <;> rw [h2] <;> exact h4
/-- .. that is told what lies behind and ahead -/
theorem forGo_at {A : Type} {tg : Tg} {body : M Fl} (f : A → D) (I : List A → En → So → Prop) (l0 : List A) : ∀ (l done : List A) (en : En) (so : So), done ++ l = l0 → I done en so →
    (∀ (done : List A) (a : A) (rest : List A) (en : En) (so : So), done ++ a :: rest = l0 → I done en so → ∃ en1, tg (f a) en = some en1 ∧ ∃ en2 so2, (body en1 so = .ok .nx en2 so2 ∨ body en1 so = .ok .ct en2 so2) ∧ I (done ++ [a]) en2 so2) →
    ∃ en' so', forGo tg body (l.map f) en so = .ok .nx en' so' ∧ I l0 en' so'
  | [], done, en, so, e, h0, _ => ⟨en, so, rfl, by rw [List.append_nil] at e; rw [← e]; exact h0⟩
  | a :: l, done, en, so, e, h0, st => by
    obtain ⟨en1, h1, en2, so2, h2, h3⟩ := st done a l en so e h0
    obtain ⟨en', so', h4, h5⟩ := forGo_at f I l0 l (done ++ [a]) en2 so2 (by rw [List.append_assoc]; exact e) h3 st
    refine ⟨en', so', ?_, h5⟩
    rw [List.map_cons, forGo_cons h1]
    rcases h2 with h2 | h2 <;> rw [h2] <;> exact h4
/-- a walk that ends at the first thing that isn't right -/
theorem forGo_all {A : Type} {tg : Tg} {body : M Fl} (f : A → D) (p : A → Bool) (r : B) (I : En → So → Prop) : ∀ (l : List A) (en : En) (so : So), I en so →
    (∀ (a : A) (en : En) (so : So), a ∈ l → I en so → ∃ en1, tg (f a) en = some en1 ∧ ∃ en2 so2, body en1 so = (if p a = true then .ok .nx en2 so2 else .ok (.rt r) en2 so2) ∧ I en2 so2) →
    ∃ en' so', forGo tg body (l.map f) en so = (if l.all p = true then .ok .nx en' so' else .ok (.rt r) en' so') ∧ I en' so'
  | [], en, so, h0, _ => ⟨en, so, rfl, h0⟩
  | a :: l, en, so, h0, st => by
    obtain ⟨en1, h1, en2, so2, h2, h3⟩ := st a en so List.mem_cons_self h0
    cases hp : p a with
    | true =>
      rw [hp, if_pos rfl] at h2
      obtain ⟨en', so', h4, h5⟩ := forGo_all f p r I l en2 so2 h3 fun b e s hb => st b e s (List.mem_cons_of_mem _ hb)
      refine ⟨en', so', ?_, h5⟩
      rw [List.map_cons, forGo_cons h1, h2, List.all_cons, hp, Bool.true_and]
      exact h4
    | false =>
      rw [hp, if_neg Bool.false_ne_true] at h2
      refine ⟨en2, so2, ?_, h3⟩
      rw [List.map_cons, forGo_cons h1, h2, List.all_cons, hp, Bool.false_and, if_neg Bool.false_ne_true]
/-! ### texts -/
@[simp] theorem in_str (c : Nat) (z : List Nat) : inD (.str [c]) (.str z) = pu (.bl (decide (c ∈ z))) := rfl
@[simp] theorem ni_str (c : Nat) (z : List Nat) : niD (.str [c]) (.str z) = pu (.bl (!decide (c ∈ z))) := rfl
@[simp] theorem count_1 (z : List Nat) (c : Nat) : countD z (.str [c]) = pu (.int (z.count c)) := by
  show pu (D.int (Txt.count (sT z) (sT [c]))) = _
  have e : Txt.count (sT z) (sT [c]) = (z.count c : Nat) := by
    have := PyProof.Rows.count_cnt (sT z) c
    rw [show (sT z).cps.toList = z from tl_sT z] at this
    rw [show sT [c] = ⟨#[c]⟩ from rfl, this]
    clear this
    induction z with
    | nil => rfl
    | cons x z ih =>
      rw [PyProof.Rows.cnt_cons, ih, List.count_cons]
      by_cases h : x = c
      · subst h; simp; omega
      · simp [h]
  rw [e]
/-- the pieces between the signs c -/
def pieces (c : Nat) : List Nat → List Nat → List (List Nat)
  | acc, [] => [acc]
  | acc, x :: r => if x = c then acc :: pieces c [] r else pieces c (acc ++ [x]) r
theorem spl_pieces (c : Nat) : ∀ (z acc : List Nat), TL.spl [c] 0 acc z = pieces c acc z
  | [], acc => TL.spl_nil _ _ _
  | x :: r, acc => by
    unfold pieces
    by_cases h : x = c
    · rw [if_pos h, TL.spl_hit (by subst h; simp [TL.pre])]
      exact congrArg _ (spl_pieces c r [])
    · rw [if_neg h, TL.spl_miss (by simp [TL.pre, h, Ne.symm h])]
      exact spl_pieces c r _
@[simp] theorem split_1 (z : List Nat) (c : Nat) : splitD z (.str [c]) = gd (z.length + 2 ≤ 16777216 ∧ c < 256) (pu (.cel (.lst ((pieces c [] z).map .str)))) := by
  show gd ([c] ≠ [] ∧ z.length + 2 ≤ 16777216 ∧ [c].all (· < 256) = true) (pu (B.cel (.lst ((TL.spl [c] 0 [] z).map .str)))) = _
  rw [spl_pieces]
  unfold gd
  funext en so
  by_cases h : z.length + 2 ≤ 16777216 ∧ c < 256
  · rw [if_pos h, if_pos ⟨by simp, h.1, by simpa using h.2⟩]
  · rw [if_neg h, if_neg fun q => h ⟨q.2.1, by simpa using q.2.2⟩]
theorem pieces_mem (c x : Nat) (hx : x ≠ c) : ∀ (z acc : List Nat), (x ∈ acc ∨ x ∈ z) → ∃ p ∈ pieces c acc z, x ∈ p
  | [], acc, h => ⟨acc, List.mem_cons_self, h.elim id (by simp)⟩
  | y :: r, acc, h => by
    unfold pieces
    by_cases hy : y = c
    · rw [if_pos hy]
      rcases h with h | h
      · exact ⟨acc, List.mem_cons_self, h⟩
      · have h' : x ∈ r := by
          rcases List.mem_cons.mp h with h | h
          · exact absurd (h.trans hy) hx
          · exact h
        obtain ⟨p, h1, h2⟩ := pieces_mem c x hx r [] (.inr h')
        exact ⟨p, List.mem_cons_of_mem _ h1, h2⟩
    · rw [if_neg hy]
      refine pieces_mem c x hx r (acc ++ [y]) ?_
      rcases h with h | h
      · exact .inl (List.mem_append_left _ h)
      · rcases List.mem_cons.mp h with h | h
        · exact .inl (by rw [h]; simp)
        · exact .inr h
theorem pieces_len (c : Nat) : ∀ (z acc : List Nat), ∀ p ∈ pieces c acc z, p.length ≤ acc.length + z.length
  | [], acc, p, h => by
    have : p = acc := by simpa [pieces] using h
    rw [this]; simp
  | y :: r, acc, p, h => by
    unfold pieces at h
    split at h
    · rcases List.mem_cons.mp h with h | h
      · rw [h]; omega
      · have := pieces_len c r [] p h
        simp at this ⊢; omega
    · have := pieces_len c r (acc ++ [y]) p h
      simp at this ⊢; omega
theorem pieces_count (c : Nat) : ∀ (z acc : List Nat), (pieces c acc z).length ≤ z.length + 1
  | [], acc => by simp [pieces]
  | y :: r, acc => by
    unfold pieces
    split
    · have := pieces_count c r []
      simp; omega
    · have := pieces_count c r (acc ++ [y])
      simp; omega
theorem at_1 (z : List Nat) (c i : Nat) : StrLaws.At (sT z) (sT [c]) (sT z).length i ↔ z[i]? = some c := by
  have := StrLaws.subAt_one (sT z) c i
  rw [show (sT z).cps.toList = z from tl_sT z] at this
  exact this
theorem find_none {z : List Nat} {c : Nat} (h : c ∉ z) : findD z (.str [c]) = pu (.int (-1)) := by
  show pu (D.int (Txt.find (sT z) (sT [c]))) = _
  rcases PyProof.Rows.find_whole (sT z) (sT [c]) with ⟨e, _⟩ | ⟨i, _, ha, _⟩
  · rw [e]
  · exact absurd (List.mem_of_getElem? ((at_1 z c i).mp ha)) h
theorem find_app {A B : List Nat} {c : Nat} (h : c ∉ A) : findD (A ++ c :: B) (.str [c]) = pu (.int A.length) := by
  show pu (D.int (Txt.find (sT (A ++ c :: B)) (sT [c]))) = _
  have hA : (A ++ c :: B)[A.length]? = some c := by simp
  rcases PyProof.Rows.find_whole (sT (A ++ c :: B)) (sT [c]) with ⟨_, hn⟩ | ⟨i, e, ha, hn⟩
  · exact absurd ((at_1 _ c A.length).mpr hA) (hn _)
  · have h1 := (at_1 _ c i).mp ha
    have : i = A.length := by
      rcases Nat.lt_trichotomy i A.length with hl | hl | hl
      · rw [List.getElem?_append_left hl] at h1
        exact absurd (List.mem_of_getElem? h1) h
      · exact hl
      · exact absurd ((at_1 _ c A.length).mpr hA) (hn _ hl)
    rw [e, this]
theorem rfind_none {z : List Nat} {c : Nat} (h : c ∉ z) : rfindD z (.str [c]) = pu (.int (-1)) := by
  show pu (D.int (Txt.rfind (sT z) (sT [c]))) = _
  rcases PyProof.Rows.rfind_whole (sT z) (sT [c]) with ⟨e, _⟩ | ⟨i, _, ha, _⟩
  · rw [e]
  · exact absurd (List.mem_of_getElem? ((at_1 z c i).mp ha)) h
theorem rfind_app {A B : List Nat} {c : Nat} (h : c ∉ B) : rfindD (A ++ c :: B) (.str [c]) = pu (.int A.length) := by
  show pu (D.int (Txt.rfind (sT (A ++ c :: B)) (sT [c]))) = _
  have hA : (A ++ c :: B)[A.length]? = some c := by simp
  rcases PyProof.Rows.rfind_whole (sT (A ++ c :: B)) (sT [c]) with ⟨_, hn⟩ | ⟨i, e, ha, hn⟩
  · exact absurd ((at_1 _ c A.length).mpr hA) (hn _)
  · have h1 := (at_1 _ c i).mp ha
    have : i = A.length := by
      rcases Nat.lt_trichotomy i A.length with hl | hl | hl
      · exact absurd ((at_1 _ c A.length).mpr hA) (hn _ hl)
      · exact hl
      · rw [List.getElem?_append_right (by omega)] at h1
        obtain ⟨j, hj⟩ : ∃ j, i - A.length = j + 1 := ⟨i - A.length - 1, by omega⟩
        rw [hj, List.getElem?_cons_succ] at h1
        exact absurd (List.mem_of_getElem? h1) h
    rw [e, this]
theorem first_of {z : List Nat} {c : Nat} (h : c ∈ z) : ∃ A B, z = A ++ c :: B ∧ c ∉ A := by
  induction z with
  | nil => cases h
  | cons x z ih =>
    by_cases hx : x = c
    · exact ⟨[], z, by rw [hx]; rfl, by simp⟩
    · obtain ⟨A, B, e, hn⟩ := ih (by rcases List.mem_cons.mp h with h | h; exact absurd h.symm hx; exact h)
      exact ⟨x :: A, B, by rw [e]; rfl, fun q => by rcases List.mem_cons.mp q with q | q; exact hx q.symm; exact hn q⟩
theorem last_of {z : List Nat} {c : Nat} (h : c ∈ z) : ∃ A B, z = A ++ c :: B ∧ c ∉ B := by
  obtain ⟨A, B, e, hn⟩ := first_of (List.mem_reverse.mpr h)
  refine ⟨B.reverse, A.reverse, ?_, fun q => hn (List.mem_reverse.mp q)⟩
  have := congrArg List.reverse e
  simpa using this
/-- s[:k], s[k:] of natural places within -/
theorem cut_take {A : Type} (l : List A) (k : Nat) : cutL l none (some (k : Int)) = l.take k := by
  unfold cutL
  rw [HT.sIx_nat, HT.sIx_none, Nat.sub_zero, List.drop_zero]
  by_cases h : k ≤ l.length
  · rw [Nat.min_eq_left h]
  · rw [Nat.min_eq_right (by omega), List.take_length, List.take_of_length_le (by omega)]
theorem cut_drop {A : Type} (l : List A) (k : Nat) : cutL l (some (k : Int)) none = l.drop k := by
  unfold cutL
  rw [HT.sIx_nat, HT.sIx_none]
  by_cases h : k ≤ l.length
  · rw [Nat.min_eq_left h, List.take_of_length_le (by rw [List.length_drop]; omega)]
  · rw [Nat.min_eq_right (by omega), List.drop_length, List.drop_of_length_le (by omega)]
    simp
theorem cut_mid {A : Type} (l : List A) (a b : Nat) : cutL l (some (a : Int)) (some (b : Int)) = (l.take b).drop a := by
  unfold cutL
  rw [HT.sIx_nat, HT.sIx_nat, List.drop_take]
  by_cases ha : a ≤ l.length
  · rw [Nat.min_eq_left ha]
    by_cases hb : b ≤ l.length
    · rw [Nat.min_eq_left hb]
    · rw [Nat.min_eq_right (show l.length ≤ b by omega), List.take_of_length_le (by rw [List.length_drop]; omega), List.take_of_length_le (by rw [List.length_drop]; omega)]
  · rw [Nat.min_eq_right (show l.length ≤ a by omega), List.drop_length, List.drop_of_length_le (show l.length ≤ a by omega)]
    simp
/-! ### lists that change -/
section
variable {en : En} {so : So}
@[simp] theorem hV_ (i : Nat) : hV i en so = (match en[i]? with
  | some (some _) => .ok (.slot i) en so
  | _ => .no) := rfl
@[simp] theorem hD_ (m : M D) : hD m en so = bdR (m en so) fun d => pu (.dat d) := rfl
@[simp] theorem rdD_lst (xs : List D) : rdD (.lst xs) = pu (.lst xs) := rfl
@[simp] theorem rdD_dct (xs : List (Ky × D)) : rdD (.dct xs) = pu (.dct xs) := rfl
@[simp] theorem rdH_dat (d : D) : rdH (.dat d) = rdD d := rfl
@[simp] theorem rdH_slot (i : Nat) : rdH (.slot i) en so = (match en[i]? with
  | some (some (.cel c)) => .ok c en so
  | some (some (.dat d)) => rdD d en so
  | _ => .no) := rfl
/-- the end of a write -/
def wrR {A : Type} (o : Option (A × C)) (k : A → C → Re A) : Re A := match o with
  | some (a, c) => k a c
  | none => .no
@[simp] theorem wrR_some {A : Type} (a : A) (c : C) (k : A → C → Re A) : wrR (some (a, c)) k = k a c := rfl
@[simp] theorem wrtH_slot {A : Type} (i : Nat) (f : C → Option (A × C)) : wrtH (.slot i) f en so = (match en[i]? with
  | some (some (.cel c)) => wrR (f c) fun a c' => .ok a (en.set i (some (.cel c'))) so
  | some (some (.dat d)) => wrtD d f en so
  | _ => .no) := by
  unfold wrtH
  dsimp only
  generalize en[i]? = o
  rcases o with _ | _ | _ | c
  · rfl
  · rfl
  · rfl
  · show (match f c with | some (a, c') => _ | none => _) = wrR (f c) _
    rcases f c with _ | ⟨a, c'⟩ <;> rfl
@[simp] theorem isLst_lst (xs : List D) : isLst (.lst xs) = true := rfl
@[simp] theorem mHM0_ (f : C → Option (D × C)) (mh : M Hd) : mHM0 f mh en so = bdR (mh en so) fun h => bd (rdH h) fun c => gd (isLst c = true) (wrtH h f) := rfl
@[simp] theorem mHM1_ (f : C → D → Option (D × C)) (mh : M Hd) (m : M D) : mHM1 f mh m en so = bdR (mh en so) fun h => bd (rdH h) fun c => gd (isLst c = true) (bd m fun d => wrtH h fun c => f c d) := rfl
@[simp] theorem apF_ {xs : List D} (h : xs.length < 16777216) (d : D) : apF (.lst xs) d = some (.non, .lst (xs ++ [d])) := if_pos h
@[simp] theorem revF_ (xs : List D) : revF (.lst xs) = some (.non, .lst xs.reverse) := rfl
@[simp] theorem clrF_ (xs : List D) : clrF (.lst xs) = some (.non, .lst []) := rfl
@[simp] theorem sStL_ (mh : M Hd) (mi mv : M D) : sStL mh mi mv en so = bdR (mv en so) fun v => bd mh fun h => bd mi fun i => bd (wrtH h fun c => stF c i v) fun _ => pu .nx := rfl
@[simp] theorem mIxH_ (mh : M Hd) (mi : M D) : mIxH mh mi en so = bdR (mh en so) fun h => bd mi fun i => bd (rdH h) fun c => ixC c i := rfl
@[simp] theorem ixC_ (xs : List D) (i : Int) : ixC (.lst xs) (.int i) = opR (atI xs i) pu := by show (match atI xs i with | some d => pu d | none => no) = _; cases atI xs i <;> rfl
@[simp] theorem mLenH_ (mh : M Hd) : mLenH mh en so = bdR (mh en so) fun h => bd (rdH h) lenC := rfl
@[simp] theorem lenC_ (xs : List D) : lenC (.lst xs) = pu (.int xs.length) := rfl
@[simp] theorem mTruH_ (mh : M Hd) : mTruH mh en so = bdR (mh en so) fun h => bd (rdH h) truC := rfl
@[simp] theorem truC_ (xs : List D) : truC (.lst xs) = pu (!xs.isEmpty) := rfl
@[simp] theorem mInH_ (neg : Bool) (m : M D) (mh : M Hd) : mInH neg m mh en so = bdR (m en so) fun d => bd mh fun h => bd (rdH h) (inC d neg) := rfl
@[simp] theorem inC_ (d : D) (neg : Bool) (xs : List D) : inC d neg (.lst xs) = gd (okq 23 d = true ∧ xs.all (okq 23) = true) (pu (.bl (if neg then !xs.any (fun z => eqD z d) else xs.any fun z => eqD z d))) := rfl
@[simp] theorem mVF_ (i : Nat) : mVF i en so = (match en[i]? with
  | some (some (.dat d)) => .ok d en so
  | some (some (.cel c)) => .ok c.toD (en.set i (some (.dat c.toD))) so
  | _ => .no) := rfl
@[simp] theorem ctoD_lst (xs : List D) : (C.lst xs).toD = .lst xs := rfl
@[simp] theorem ctoD_dct (xs : List (Ky × D)) : (C.dct xs).toD = .dct xs := rfl
@[simp] theorem powI (a b : Int) : powD (.int a) (.int b) = gd (0 ≤ b ∧ b ≤ 1000000 ∧ a.natAbs < 18446744073709551616) (pu (.int (a ^ b.toNat))) := rfl
@[simp] theorem mCatL_ (ma mb : M D) : mCatL ma mb en so = bdR (ma en so) fun d => bd mb fun e => catL d e := rfl
@[simp] theorem catL_ (xs ys : List D) : catL (.lst xs) (.lst ys) = gd (xs.length + ys.length ≤ 16777216) (pu (.cel (.lst (xs ++ ys)))) := rfl
@[simp] theorem catT_ (xs ys : List D) : catT (.tup xs) (.tup ys) = gd (xs.length + ys.length ≤ 16777216) (pu (.tup (xs ++ ys))) := rfl
@[simp] theorem listD_l (xs : List D) : listD [.lst xs] = pu (.cel (.lst xs)) := rfl
@[simp] theorem listD_t (xs : List D) : listD [.tup xs] = pu (.cel (.lst xs)) := rfl
@[simp] theorem tupleD_l (xs : List D) : tupleD [.lst xs] = pu (.tup xs) := rfl
@[simp] theorem tupleD_t (xs : List D) : tupleD [.tup xs] = pu (.tup xs) := rfl
end
@[simp] theorem rg1_nat {k : Nat} (h : k ≤ 16777216) : rg1 (.int (k : Int)) = pu (rngD 0 k) := by
  rw [rg1_]
  funext en so
  rw [gd_t (by omega), Int.toNat_natCast]
theorem rg1_int {j : Int} (h0 : 0 ≤ j) (h : j ≤ 16777216) : rg1 (.int j) = pu (rngD 0 j.toNat) := by
  rw [rg1_]
  funext en so
  rw [gd_t (by omega)]
theorem strsOf_str (L : List (List Nat)) : strsOf (L.map D.str) = some L := by
  have := strsOf_map' (fun x : List Nat => x) L
  rw [List.map_id'] at this
  exact this
@[simp] theorem join_map (z : List Nat) (L : List (List Nat)) : joinD z (.lst (L.map D.str)) = gd (szL L + L.length * z.length ≤ 16777216) (pu (.str (TL.joinL z L))) := by
  show (match strsOf (L.map D.str) with | some ys => gd (szL ys + ys.length * z.length ≤ 16777216) (pu (D.str (TL.joinL z ys))) | none => no) = _
  rw [strsOf_str]
theorem szL_le (L : List (List Nat)) (k : Nat) (h : ∀ p ∈ L, p.length ≤ k) : szL L ≤ k * L.length := by
  unfold szL
  induction L with
  | nil => simp
  | cons p L ih =>
    have h1 := h p List.mem_cons_self
    have h2 := ih fun q hq => h q (List.mem_cons_of_mem _ hq)
    rw [List.map_cons, List.sum_cons, List.length_cons, Nat.mul_succ]
    omega
/-- a call's answer from its body's -/
def endF : Re Fl → Rf
  | .ok .nx _ so' => .ok (.dat .non) so'
  | .ok (.rt b) _ so' => .ok b so'
  | .exc x _ so' => .exc x so'
  | _ => .no
theorem mkF_ {np n : Nat} {m : M Fl} {ds : List D} {so : So} (h : ds.length = np) : mkF np n m ds so = endF (m (ds.map (fun d => some (.dat d)) ++ List.replicate (n - ds.length) none) so) := by
  unfold mkF
  rw [if_pos h]
  unfold endF
  rfl
@[simp] theorem endF_rt (b : B) (en : En) (so : So) : endF (.ok (.rt b) en so) = .ok b so := rfl
@[simp] theorem endF_nx (en : En) (so : So) : endF (.ok .nx en so) = .ok (.dat .non) so := rfl
@[simp] theorem endF_exc (x : Xc) (en : En) (so : So) : endF (.exc x en so) = .exc x so := rfl
theorem DSs.eq {X : L2.Cx} {W : L2.WX} {sts : List Stmt} {m m' : M Fl} (h : DSs X W sts m) (e : m = m') : DSs X W sts m' := e ▸ h
end
end Dl

set_option Elab.async false
set_option linter.all false
set_option maxRecDepth 100000
set_option maxHeartbeats 1000000
/-! The data-level programs of this law's text (printed by gen.py). -/
namespace Lk01
open PySem Dl
noncomputable section
/-- _law_cell -/
def b__law_cell : M Fl := (sSeq (sIf (mT (m2 ltD (mV 1) (bd (aC (mV 0) aN) lenD))) (sRetD (bd (aC (m2 ixD (mV 0) (mV 1)) aN) intD)) sPass)
  (sRetD (pu (.int 0))))
def m__law_cell : FunM := mkF 2 2 b__law_cell
theorem c__law_cell (x0 x1 : D) (so : So) : m__law_cell [x0, x1] so = endF (b__law_cell [some (.dat x0), some (.dat x1)] so) := mkF_ (m := b__law_cell) (ds := [x0, x1]) rfl

def e__law_text_0 : M D := (m2 ixD (mV 1) (m2 modD (bd (aC (mV 2) aN) intD) (pu (.int 95))))
/-- _law_text -/
def b__law_text : M Fl := (sSeq (sSet 1 (pu (.str [10, 32, 33, 34, 35, 36, 38, 39, 40, 41, 42, 43, 44, 45, 46, 47, 48, 49, 50, 51, 52, 53, 54, 55, 56, 57, 58, 59, 60, 61, 62, 63, 64, 65, 66, 67, 68, 69, 70, 71, 72, 73, 74, 75, 76, 77, 78, 79, 80, 81, 82, 83, 84, 85, 86, 87, 88, 89, 90, 91, 92, 93, 94, 95, 96])))
  (sSeq (sSet 1 (m2 addD (mV 1) (pu (.str [97, 98, 99, 100, 101, 102, 103, 104, 105, 106, 107, 108, 109, 110, 111, 112, 113, 114, 115, 116, 117, 118, 119, 120, 121, 122, 123, 124, 125, 126]))))
  (sRetD (mM1 joinD (pu (.str [])) (mFz (mLc [2] (tgN 2) (itL (mV 0)) (pu true) e__law_text_0))))))
def m__law_text : FunM := mkF 1 3 b__law_text
theorem c__law_text (x0 : D) (so : So) : m__law_text [x0] so = endF (b__law_text [some (.dat x0), none, none] so) := mkF_ (m := b__law_text) (ds := [x0]) rfl

def l_content_key_0 : M Fl := (sSet 1 (m2 addD (m2 mulD (mV 1) (pu (.int 128))) (bd (aC (mV 2) aN) ordD)))
/-- content_key -/
def b_content_key : M Fl := (sSeq (sSet 1 (pu (.int 1)))
  (sSeq (sFor (tgN 2) (itS (mV 0)) l_content_key_0)
  (sRetD (mV 1))))
def m_content_key : FunM := mkF 1 3 b_content_key
theorem c_content_key (x0 : D) (so : So) : m_content_key [x0] so = endF (b_content_key [some (.dat x0), none, none] so) := mkF_ (m := b_content_key) (ds := [x0]) rfl

/-- is_text_code -/
def b_is_text_code : M Fl := (sRetD (mOr (m2 eqM (mV 0) (pu (.int 10))) (mAnd (mCh leD leD (pu (.int 32)) (mV 0) (pu (.int 126))) (m2 neM (mV 0) (pu (.int 37))))))
def m_is_text_code : FunM := mkF 1 1 b_is_text_code
theorem c_is_text_code (x0 : D) (so : So) : m_is_text_code [x0] so = endF (b_is_text_code [some (.dat x0)] so) := mkF_ (m := b_is_text_code) (ds := [x0]) rfl

/-- code_character -/
def b_code_character : M Fl := (sSeq (sIf (mT (m2 eqM (mV 0) (pu (.int 10)))) (sRetD (pu (.str [10]))) sPass)
  (sSeq (sIf (mT (m2 ltD (mV 0) (pu (.int 37)))) (sRetD (m2 ixD (pu (.str [32, 33, 34, 35, 36, 38, 39, 40, 41, 42, 43, 44, 45, 46, 47, 48, 49, 50, 51, 52, 53, 54, 55, 56, 57, 58, 59, 60, 61, 62, 63, 64, 65, 66, 67, 68, 69, 70, 71, 72, 73, 74, 75, 76, 77, 78, 79, 80, 81, 82, 83, 84, 85, 86, 87, 88, 89, 90, 91, 92, 93, 94, 95, 96, 97, 98, 99, 100, 101, 102, 103, 104, 105, 106, 107, 108, 109, 110, 111, 112, 113, 114, 115, 116, 117, 118, 119, 120, 121, 122, 123, 124, 125, 126])) (m2 subD (mV 0) (pu (.int 32))))) sPass)
  (sRetD (m2 ixD (pu (.str [32, 33, 34, 35, 36, 38, 39, 40, 41, 42, 43, 44, 45, 46, 47, 48, 49, 50, 51, 52, 53, 54, 55, 56, 57, 58, 59, 60, 61, 62, 63, 64, 65, 66, 67, 68, 69, 70, 71, 72, 73, 74, 75, 76, 77, 78, 79, 80, 81, 82, 83, 84, 85, 86, 87, 88, 89, 90, 91, 92, 93, 94, 95, 96, 97, 98, 99, 100, 101, 102, 103, 104, 105, 106, 107, 108, 109, 110, 111, 112, 113, 114, 115, 116, 117, 118, 119, 120, 121, 122, 123, 124, 125, 126])) (m2 subD (mV 0) (pu (.int 33)))))))
def m_code_character : FunM := mkF 1 1 b_code_character
theorem c_code_character (x0 : D) (so : So) : m_code_character [x0] so = endF (b_code_character [some (.dat x0)] so) := mkF_ (m := b_code_character) (ds := [x0]) rfl

def w_key_text_0 : M Bool := (mT (m2 geD (mV 1) (pu (.int 128))))
def l_key_text_0 : M Fl := (sSeq (sSet 3 (m2 modD (mV 1) (pu (.int 128))))
  (sSeq (sIf (tNotM (mTru (mFz (mCall m_is_text_code (aC (mV 3) aN))))) (sRaise "InvalidKey" 2 [("key", 1)] (aC (mV 0) aN)) sPass)
  (sSeq (sExpr (mHM1 apF (hV 2) (mFz (mCall m_code_character (aC (mV 3) aN)))))
  (sSet 1 (m2 divD (mV 1) (pu (.int 128)))))))
def t_key_text_0 : M Fl := (sSet 1 (mV 0))
def t_key_text_1 : M Fl := (sSetB 2 (mLst aN))
def t_key_text_2 : M Fl := (sWhile (fun en so => 10000) w_key_text_0 l_key_text_0)
def t_key_text_3 : M Fl := (sIf (mT (m2 neM (mV 1) (pu (.int 1)))) (sRaise "InvalidKey" 2 [("key", 1)] (aC (mV 0) aN)) sPass)
def t_key_text_4 : M Fl := (sExpr (mHM0 revF (hV 2)))
def t_key_text_5 : M Fl := (sRetD (mM1 joinD (pu (.str [])) (mVF 2)))
def r_key_text_4 : M Fl := sSeq t_key_text_4 t_key_text_5
def r_key_text_3 : M Fl := sSeq t_key_text_3 r_key_text_4
def r_key_text_2 : M Fl := sSeq t_key_text_2 r_key_text_3
def r_key_text_1 : M Fl := sSeq t_key_text_1 r_key_text_2
def r_key_text_0 : M Fl := sSeq t_key_text_0 r_key_text_1
/-- key_text -/
def b_key_text : M Fl := r_key_text_0
def m_key_text : FunM := mkF 1 4 b_key_text
theorem c_key_text (x0 : D) (so : So) : m_key_text [x0] so = endF (b_key_text [some (.dat x0), none, none, none] so) := mkF_ (m := b_key_text) (ds := [x0]) rfl

/-- _law_is_integer -/
def b__law_is_integer : M Fl := (sRetD (mAnd (mIs .int (mV 0)) (mNot (mIs .bool (mV 0)))))
def m__law_is_integer : FunM := mkF 1 1 b__law_is_integer
theorem c__law_is_integer (x0 : D) (so : So) : m__law_is_integer [x0] so = endF (b__law_is_integer [some (.dat x0)] so) := mkF_ (m := b__law_is_integer) (ds := [x0]) rfl

def l__law_key_0 : M Fl := (sSet 1 (m2 addD (m2 mulD (mV 1) (pu (.int 128))) (bd (aC (mV 2) aN) ordD)))
/-- _law_key -/
def b__law_key : M Fl := (sSeq (sSet 1 (pu (.int 1)))
  (sSeq (sFor (tgN 2) (itS (mV 0)) l__law_key_0)
  (sRetD (mV 1))))
def m__law_key : FunM := mkF 1 3 b__law_key
theorem c__law_key (x0 : D) (so : So) : m__law_key [x0] so = endF (b__law_key [some (.dat x0), none, none] so) := mkF_ (m := b__law_key) (ds := [x0]) rfl

def e_law_0 : M D := (m2 divD (bd (aC (bd (aC (mV 8) aN) intD) aN) absD) (pu (.int 3)))
def e_law_1 : M D := (m2 addD (m2 mulD (mV 9) (mV 9)) (m2 divD (mV 2) (pu (.int 4))))
def l_law_0 : M Fl := (sSeq (sSet 6 (mFz (mCall m_content_key (aC (mV 5) aN))))
  (sSeq (sIf (tOrM (tNotM (mTru (mFz (mCall m__law_is_integer (aC (mV 6) aN))))) (mT (m2 neM (mV 6) (mFz (mCall m__law_key (aC (mV 5) aN)))))) (sRetD (pu (.bl false))) sPass)
  (sSeq (sSet 7 (mFz (mCall m_key_text (aC (mV 6) aN))))
  (sIf (tOrM (tNotM (mTru (mIs .str (mV 7)))) (mT (m2 neM (mV 7) (mV 5)))) (sRetD (pu (.bl false))) sPass))))
def t_law_0 : M Fl := (sSet 1 (mFz (mLc [8] (tgN 8) (itL (mFz (mSl slL (mV 0) (oS (pu (.int 1))) (oS (pu (.int 63)))))) (pu true) e_law_0)))
def t_law_1 : M Fl := (sSet 2 (mFz (mCall m__law_cell (aC (mV 0) (aC (pu (.int 0)) aN)))))
def t_law_2 : M Fl := (sIf (mT (m2 eqM (m2 modD (mV 2) (pu (.int 4))) (pu (.int 1)))) (sSet 1 (mFz (mCatL (mFz (mLc [9] (tgN 9) (itR1 (pu (.int 350))) (pu true) e_law_1)) (mV 1)))) sPass)
def t_law_3 : M Fl := (sSetB 3 (mCatL (mV 1) (mFz (mLst (aC (m2 divD (mV 2) (pu (.int 8))) aN)))))
def t_law_4 : M Fl := (sIf (tAndM (mT (m2 gtD (bd (aC (mV 1) aN) lenD) (pu (.int 0)))) (mT (m2 eqM (m2 modD (mV 2) (pu (.int 2))) (pu (.int 1))))) (sSeq (sSetB 3 (bd (aC (mV 1) aN) listD))
  (sSeq (sSet 4 (m2 modD (m2 divD (bd (aC (mV 2) aN) absD) (pu (.int 8))) (bd (aC (mV 1) aN) lenD)))
  (sStL (hV 3) (mV 4) (m2 addD (m2 addD (mIxH (hV 3) (mV 4)) (pu (.int 1))) (m2 modD (m2 divD (bd (aC (mV 2) aN) absD) (pu (.int 16))) (pu (.int 94))))))) sPass)
def t_law_5 : M Fl := (sFor (tgN 5) (itL (mFz (mLst (aC (mFz (mCall m__law_text (aC (mV 1) aN))) (aC (mFz (mCall m__law_text (aC (mVF 3) aN))) aN))))) l_law_0)
def t_law_6 : M Fl := (sRetD (m2 neM (mFz (mCall m_content_key (aC (mFz (mCall m__law_text (aC (mV 1) aN))) aN))) (mFz (mCall m_content_key (aC (mFz (mCall m__law_text (aC (mVF 3) aN))) aN)))))
def r_law_5 : M Fl := sSeq t_law_5 t_law_6
def r_law_4 : M Fl := sSeq t_law_4 r_law_5
def r_law_3 : M Fl := sSeq t_law_3 r_law_4
def r_law_2 : M Fl := sSeq t_law_2 r_law_3
def r_law_1 : M Fl := sSeq t_law_1 r_law_2
def r_law_0 : M Fl := sSeq t_law_0 r_law_1
/-- law -/
def b_law : M Fl := r_law_0
def m_law : FunM := mkF 1 10 b_law
theorem c_law (x0 : D) (so : So) : m_law [x0] so = endF (b_law [some (.dat x0), none, none, none, none, none, none, none, none, none] so) := mkF_ (m := b_law) (ds := [x0]) rfl
end
end Lk01

set_option Elab.async false
set_option linter.all false
set_option maxRecDepth 100000
set_option maxHeartbeats 4000000
namespace Lk01
open PySem Dl
theorem cell_ok (ns : List Int) (so : So) : ∃ k : Int, m__law_cell [.lst (ns.map .int), .int 0] so = .ok (.dat (.int k)) so := by
  rw [c__law_cell]
  cases ns with
  | nil => exact ⟨0, by simp [b__law_cell]⟩
  | cons n ns =>
    refine ⟨n, ?_⟩
    have : (0:Int) < ((n :: ns).length : Int) := by simp
    simp [b__law_cell, this]
def okc (c : Nat) : Bool := decide ((c : Int) = 10) || decide ((32 : Int) ≤ c) && decide ((c : Int) ≤ 126) && !decide ((c : Int) = 37)
theorem code_ok (c : Nat) (so : So) : m_is_text_code [.int c] so = .ok (.dat (.bl (okc c))) so := by
  rw [c_is_text_code]
  simp [b_is_text_code, okc]
def TAB : List Nat := [10, 32, 33, 34, 35, 36, 38, 39, 40, 41, 42, 43, 44, 45, 46, 47, 48, 49, 50, 51, 52, 53, 54, 55, 56, 57, 58, 59, 60, 61, 62, 63, 64, 65, 66, 67, 68, 69, 70, 71, 72, 73, 74, 75, 76, 77, 78, 79, 80, 81, 82, 83, 84, 85, 86, 87, 88, 89, 90, 91, 92, 93, 94, 95, 96, 97, 98, 99, 100, 101, 102, 103, 104, 105, 106, 107, 108, 109, 110, 111, 112, 113, 114, 115, 116, 117, 118, 119, 120, 121, 122, 123, 124, 125, 126]
def sgn (n : Int) : Nat := TAB.getD (n % 95).toNat 0
theorem sgn_at (n : Int) : L2.atI TAB (n % 95) = some (sgn n) := by
  rw [atI_get' _ _ (by omega) (by show n % 95 < 95; omega)]
  rfl
theorem sgn_ok (n : Int) : okc (sgn n) = true := by
  have h : ∀ i : Nat, i < 95 → okc (TAB.getD i 0) = true := by decide +kernel
  exact h _ (by omega)
theorem script_ok (ns : List Int) (so : So) (h : ns.length ≤ 16777216) : m__law_text [.lst (ns.map .int)] so = .ok (.dat (.str (ns.map sgn))) so := by
  rw [c__law_text]
  simp [b__law_text]
  rw [lcGo_mp .int (fun c => .str [sgn c]) ns ?_ h]
  · simp
    have := join_signs (ns.map sgn) (en := [some (B.dat (D.lst (List.map D.int ns))), some (.dat (.str TAB)), none]) (so := so) (by simpa using h)
    rw [List.map_map] at this
    erw [this]
    rfl
  · refine fun c _ => ⟨_, rfl, ?_, rfl⟩
    simp [e__law_text_0]
    exact (congrArg (fun o => opR o (fun c => pu (D.str [c])) _ so) (sgn_at c)).trans rfl
/-- the key of a text -/
def KEY (t : List Nat) : Int := t.foldl (fun (k : Int) (c : Nat) => k * 128 + (c : Int)) 1
theorem key_go (body : M Fl) (hb : ∀ (x0 : Option B) (k : Int) (c : Nat) (so : So), body [x0, some (.dat (.int k)), some (.dat (.str [c]))] so = .ok .nx [x0, some (.dat (.int (k * 128 + c))), some (.dat (.str [c]))] so) : ∀ (t : List Nat) (x0 x2 : Option B) (k : Int) (so : So),
    ∃ x2', forGo (tgN 2) body (t.map fun c => .str [c]) [x0, some (.dat (.int k)), x2] so = .ok .nx [x0, some (.dat (.int (t.foldl (fun (k : Int) (c : Nat) => k * 128 + (c : Int)) k))), x2'] so
  | [], x0, x2, k, so => ⟨x2, rfl⟩
  | c :: t, x0, x2, k, so => by
    obtain ⟨x2', h⟩ := key_go body hb t x0 (some (.dat (.str [c]))) (k * 128 + c) so
    refine ⟨x2', ?_⟩
    rw [List.map_cons, forGo_cons (en1 := [x0, some (.dat (.int k)), some (.dat (.str [c]))]) rfl, hb]
    exact h
theorem key_ok (t : List Nat) (so : So) : m_content_key [.str t] so = .ok (.dat (.int (KEY t))) so := by
  obtain ⟨x2, h⟩ := key_go l_content_key_0 (fun x0 k c so => by simp [l_content_key_0]) t (some (.dat (.str t))) none 1 so
  rw [c_content_key]
  simp [b_content_key, h]
  rfl
theorem key_ok2 (t : List Nat) (so : So) : m__law_key [.str t] so = .ok (.dat (.int (KEY t))) so := by
  obtain ⟨x2, h⟩ := key_go l__law_key_0 (fun x0 k c so => by simp [l__law_key_0]) t (some (.dat (.str t))) none 1 so
  rw [c__law_key]
  simp [b__law_key, h]
  rfl
theorem okc_le {c : Nat} (h : okc c = true) : c = 10 ∨ (32 ≤ c ∧ c ≤ 126 ∧ c ≠ 37) := by
  simp [okc] at h
  omega
theorem char_ok (c : Nat) (so : So) (h : okc c = true) : m_code_character [.int c] so = .ok (.dat (.str [c])) so := by
  have hc := okc_le h
  have h2 : ∀ i : Nat, i < 127 → okc i = true → endF (b_code_character [some (.dat (.int (i : Int)))] so) = .ok (.dat (.str [i])) so := by
    intro i hi hk
    have hc := okc_le hk
    by_cases h10 : i = 10
    · subst h10; simp [b_code_character]
    · by_cases h37 : i < 37
      · have h3 : ∀ j : Nat, 32 ≤ j → j < 37 → L2.atI (TAB.drop 1) ((j : Int) - 32) = some j := by
          intro j h1 h2
          have hj : j = 32 ∨ j = 33 ∨ j = 34 ∨ j = 35 ∨ j = 36 := by omega
          rcases hj with rfl | rfl | rfl | rfl | rfl <;> decide +kernel
        have h4 : ¬ (i : Int) = 10 := by omega
        have h5 : (i : Int) < 37 := by omega
        have h6 := h3 i (by omega) h37
        simp [TAB] at h6
        simp [b_code_character, h4, h5, h6]
      · have h3 : ∀ j : Nat, j < 89 → L2.atI (TAB.drop 1) ((j : Int) + 5) = some (j + 38) := by
          intro j h1
          rw [atI_get' _ _ (by omega) (by show (j : Int) + 5 < 94; omega)]
          have h : ∀ k : Nat, k < 89 → (TAB.drop 1).getD (k + 5) default = k + 38 := by decide +kernel
          rw [show ((j : Int) + 5).toNat = j + 5 from by omega, h j h1]
        have h4 : ¬ (i : Int) = 10 := by omega
        have h5 : ¬ (i : Int) < 37 := by omega
        have h6 := h3 (i - 38) (by omega)
        rw [show (((i - 38 : Nat) : Int) + 5) = (i : Int) - 33 from by omega, show i - 38 + 38 = i from by omega] at h6
        simp [TAB] at h6
        simp [b_code_character, h4, h5, h6]
  rw [c_code_character]
  exact h2 c (by omega) h
/-- the key, the last sign first -/
def KR : List Nat → Int
  | [] => 1
  | c :: r => KR r * 128 + c
theorem KR_pos : ∀ r : List Nat, 1 ≤ KR r
  | [] => by decide
  | c :: r => by have := KR_pos r; show 1 ≤ KR r * 128 + (c : Int); omega
theorem KEY_KR (t : List Nat) : KEY t = KR t.reverse := by
  have h : ∀ (t s : List Nat), t.foldl (fun (k : Int) (c : Nat) => k * 128 + (c : Int)) (KR s) = KR (t.reverse ++ s) := by
    intro t
    induction t with
    | nil => intro s; rfl
    | cons c t ih =>
      intro s
      rw [List.foldl_cons, List.reverse_cons, List.append_assoc]
      exact ih (c :: s)
  have := h t []
  rw [List.append_nil] at this
  exact this
theorem dig_ok (x0 : Option B) (so : So) : ∀ (r : List Nat) (fuel : Nat) (acc : List Nat) (x3 : Option B), r.all okc = true → r.length < fuel → acc.length + r.length ≤ 100000 →
    ∃ x3', whGo w_key_text_0 l_key_text_0 fuel [x0, some (.dat (.int (KR r))), some (.cel (.lst (acc.map fun c => .str [c]))), x3] so = .ok .nx [x0, some (.dat (.int 1)), some (.cel (.lst ((acc ++ r).map fun c => .str [c]))), x3'] so := by
  intro r
  induction r with
  | nil =>
    intro fuel acc x3 _ hf _
    obtain ⟨f, rfl⟩ : ∃ f, fuel = f + 1 := ⟨fuel - 1, by simp at hf; omega⟩
    refine ⟨x3, ?_⟩
    unfold whGo
    have t1 : w_key_text_0 [x0, some (.dat (.int (KR []))), some (.cel (.lst (acc.map fun c => .str [c]))), x3] so = .ok false [x0, some (.dat (.int (KR []))), some (.cel (.lst (acc.map fun c => .str [c]))), x3] so := by simp [w_key_text_0, KR]
    rw [t1, List.append_nil]
    rfl
  | cons c r ih =>
    intro fuel acc x3 ha hf hl
    obtain ⟨f, rfl⟩ : ∃ f, fuel = f + 1 := ⟨fuel - 1, by simp at hf; omega⟩
    rw [List.all_cons, Bool.and_eq_true] at ha
    have hc := okc_le ha.1
    have hk := KR_pos r
    obtain ⟨x3', h⟩ := ih f (acc ++ [c]) (some (.dat (.int c))) ha.2 (by simp at hf; omega) (by simp at hl ⊢; omega)
    refine ⟨x3', ?_⟩
    unfold whGo
    have k1 : (128 : Int) ≤ KR r * 128 + (c : Int) := by omega
    have k2 : (KR r * 128 + (c : Int)) % 128 = c := by omega
    have k3 : (KR r * 128 + (c : Int)) / 128 = KR r := by omega
    have hal : acc.length < 16777216 := by simp at hl; omega
    have t1 : w_key_text_0 [x0, some (.dat (.int (KR (c :: r)))), some (.cel (.lst (acc.map fun c => .str [c]))), x3] so = .ok true [x0, some (.dat (.int (KR (c :: r)))), some (.cel (.lst (acc.map fun c => .str [c]))), x3] so := by simp [w_key_text_0, KR, k1]
    have t2 : l_key_text_0 [x0, some (.dat (.int (KR (c :: r)))), some (.cel (.lst (acc.map fun c => .str [c]))), x3] so = .ok .nx [x0, some (.dat (.int (KR r))), some (.cel (.lst ((acc ++ [c]).map fun c => .str [c]))), some (.dat (.int c))] so := by
      simp [l_key_text_0, KR, k2, k3, code_ok, ha.1, char_ok, hal]
    rw [t1]
    dsimp only
    rw [t2]
    dsimp only
    rw [h, List.append_assoc]
    rfl
theorem text_ok (t : List Nat) (so : So) (h : t.all okc = true) (hl : t.length ≤ 5000) : m_key_text [.int (KEY t)] so = .ok (.dat (.str t)) so := by
  obtain ⟨x3, hd⟩ := dig_ok (some (.dat (.int (KEY t)))) so t.reverse 10000 [] none (by rw [List.all_reverse]; exact h) (by rw [List.length_reverse]; omega) (by rw [List.length_reverse]; simp; omega)
  rw [← KEY_KR] at hd
  rw [c_key_text]
  simp only [List.map_nil] at hd
  simp [b_key_text, r_key_text_0, t_key_text_0, r_key_text_1, t_key_text_1, r_key_text_2, t_key_text_2, sWhile, hd, r_key_text_3, t_key_text_3, r_key_text_4, t_key_text_4, t_key_text_5]
  rw [join_signs t (by omega)]
  rfl
theorem is_int (k : Int) (so : So) : m__law_is_integer [.int k] so = .ok (.dat (.bl true)) so := by
  rw [c__law_is_integer]
  simp [b__law_is_integer]
theorem all_ok (A : List Int) : (A.map sgn).all okc = true := by
  rw [List.all_map, List.all_eq_true]
  exact fun n _ => sgn_ok n
theorem KEY_inj {t u : List Nat} (ht : t.all okc = true) (hu : u.all okc = true) (h1 : t.length ≤ 5000) (h2 : u.length ≤ 5000) (h : KEY t = KEY u) : t = u := by
  have e1 := text_ok t [] ht h1
  have e2 := text_ok u [] hu h2
  rw [h, e2] at e1
  cases e1
  rfl
theorem tail_ok (x0 x2 x4 x8 x9 : Option B) (A B' : List Int) (so : So) (h1 : A.length ≤ 500) (h2 : B'.length ≤ 500) (hd : A.map sgn ≠ B'.map sgn) : endF (r_law_5 [x0, some (.dat (.lst (A.map .int))), x2, some (.cel (.lst (B'.map .int))), x4, none, none, none, x8, x9] so) = .ok (.dat (.bl true)) so := by
  have k1 : ¬ KEY (A.map sgn) = KEY (B'.map sgn) := fun z => hd (KEY_inj (all_ok A) (all_ok B') (by simp; omega) (by simp; omega) z)
  have e1 := script_ok A so (by omega)
  have e2 := script_ok B' so (by omega)
  have l1 : ∀ x6 x7 : Option B, l_law_0 [x0, some (.dat (.lst (A.map .int))), x2, some (.dat (.lst (B'.map .int))), x4, some (.dat (.str (A.map sgn))), x6, x7, x8, x9] so = .ok .nx [x0, some (.dat (.lst (A.map .int))), x2, some (.dat (.lst (B'.map .int))), x4, some (.dat (.str (A.map sgn))), some (.dat (.int (KEY (A.map sgn)))), some (.dat (.str (A.map sgn))), x8, x9] so := fun _ _ => by
    simp [l_law_0, key_ok, key_ok2, is_int, text_ok _ _ (all_ok A) (show (A.map sgn).length ≤ 5000 by simp; omega)]
  have l2 : ∀ x6 x7 : Option B, l_law_0 [x0, some (.dat (.lst (A.map .int))), x2, some (.dat (.lst (B'.map .int))), x4, some (.dat (.str (B'.map sgn))), x6, x7, x8, x9] so = .ok .nx [x0, some (.dat (.lst (A.map .int))), x2, some (.dat (.lst (B'.map .int))), x4, some (.dat (.str (B'.map sgn))), some (.dat (.int (KEY (B'.map sgn)))), some (.dat (.str (B'.map sgn))), x8, x9] so := fun _ _ => by
    simp [l_law_0, key_ok, key_ok2, is_int, text_ok _ _ (all_ok B') (show (B'.map sgn).length ≤ 5000 by simp; omega)]
  simp [r_law_5, t_law_5, e1, e2, forGo, l1, l2, t_law_6, key_ok, k1]
theorem sgn_ne (v d : Int) (h0 : 1 ≤ d) (h1 : d ≤ 94) : sgn (v + d) ≠ sgn v := by
  have h : ∀ i : Nat, i < 95 → ∀ j : Nat, j < 95 → TAB.getD i 0 = TAB.getD j 0 → i = j := by decide +kernel
  intro z
  have := h _ (show ((v + d) % 95).toNat < 95 by omega) _ (show (v % 95).toNat < 95 by omega) z
  omega
theorem rest_ok (x0 x8 x9 : Option B) (A : List Int) (k : Int) (so : So) (hl : A.length ≤ 450) : endF (r_law_3 [x0, some (.dat (.lst (A.map .int))), some (.dat (.int k)), none, none, none, none, none, x8, x9] so) = .ok (.dat (.bl true)) so := by
  have h1 : A.length + 1 ≤ 16777216 := by omega
  have e0 : List.map D.int A ++ [D.int (k / 8)] = List.map D.int (A ++ [k / 8]) := by simp
  by_cases hc : 0 < A.length ∧ k % 2 = 1
  · have hp : (0 : Int) < (A.length : Int) := by omega
    obtain ⟨j, hj, hjl⟩ : ∃ j : Nat, (if k < 0 then -k else k) / 8 % (A.length : Int) = (j : Int) ∧ j < A.length := by
      have h1 := Int.emod_nonneg ((if k < 0 then -k else k) / 8) (show (A.length : Int) ≠ 0 by omega)
      have h2 := Int.emod_lt_of_pos ((if k < 0 then -k else k) / 8) hp
      exact ⟨((if k < 0 then -k else k) / 8 % (A.length : Int)).toNat, by omega, by omega⟩
    have hat : L2.atI (List.map D.int A) (j : Int) = some (.int A[j]) := by
      rw [atI_map, atI_get' A (j : Int) (by omega) (by omega)]
      simp [hjl]
    have hix : L2.ixN A.length (j : Int) = some j := by
      unfold L2.ixN
      rw [if_pos (by omega), if_pos (by omega)]
      simp
    have e1 : (List.map D.int A).set j (.int (A[j] + 1 + (if k < 0 then -k else k) / 16 % 94)) = List.map D.int (A.set j (A[j] + 1 + (if k < 0 then -k else k) / 16 % 94)) := by rw [List.map_set]
    have hne : A.map sgn ≠ (A.set j (A[j] + 1 + (if k < 0 then -k else k) / 16 % 94)).map sgn := fun z => by
      have := congrArg (fun l => l[j]?) z
      simp [hjl] at this
      exact sgn_ne A[j] (1 + (if k < 0 then -k else k) / 16 % 94) (by omega) (by omega) (by rw [← Int.add_assoc]; exact this.symm)
    have ht := tail_ok x0 (some (.dat (.int k))) (some (.dat (.int j))) x8 x9 A (A.set j (A[j] + 1 + (if k < 0 then -k else k) / 16 % 94)) so (by omega) (by rw [List.length_set]; omega) hne
    simp [r_law_3, t_law_3, h1, r_law_4, t_law_4, hc.1, hc.2, hp, hj, hat, stF, hix]
    rw [List.map_set] at ht
    exact ht
  · have hne : A.map sgn ≠ (A ++ [k / 8]).map sgn := fun z => by
      have := congrArg List.length z
      simp at this
    have ht := tail_ok x0 (some (.dat (.int k))) none x8 x9 A (A ++ [k / 8]) so (by omega) (by simp; omega) hne
    by_cases h2 : 0 < A.length
    · have h3 : ¬ k % 2 = 1 := fun z => hc ⟨h2, z⟩
      have hp : (0 : Int) < (A.length : Int) := by omega
      simp [r_law_3, t_law_3, h1, r_law_4, t_law_4, hp, h3]
      rw [List.map_append] at ht
      exact ht
    · have hp : ¬ (0 : Int) < (A.length : Int) := by omega
      simp [r_law_3, t_law_3, h1, r_law_4, t_law_4, hp, h2]
      rw [List.map_append] at ht
      exact ht
theorem lawT : LawT m_law := by
  intro ns hl hb
  refine ⟨[], ?_⟩
  obtain ⟨k, hk⟩ := cell_ok ns []
  have hc := cutL_len ns (some 1) (some 63)
  rw [c_law]
  simp [b_law, r_law_0, t_law_0, cutL_map]
  rw [lcGo_mp .int (fun z => .int ((if z < 0 then -z else z) / 3)) _ ?_ (by omega)]
  · have e1 : ((cutL ns (some 1) (some 63)).map fun z : Int => D.int ((if z < 0 then -z else z) / 3)) = ((cutL ns (some 1) (some 63)).map fun z : Int => (if z < 0 then -z else z) / 3).map D.int := by rw [List.map_map]; rfl
    have hA : ((cutL ns (some 1) (some 63)).map fun z : Int => (if z < 0 then -z else z) / 3).length ≤ 63 := by rw [List.length_map]; omega
    simp only [lcR_, bdR_ok, toD_lst, pu_]
    rw [e1]
    generalize ((cutL ns (some 1) (some 63)).map fun z : Int => (if z < 0 then -z else z) / 3) = A at *
    simp [r_law_1, t_law_1, hk]
    by_cases h4 : k % 4 = 1
    · simp [r_law_2, t_law_2, h4, rg1_int]
      rw [show rngD 0 350 = (List.range 350).map (fun i : Nat => D.int (0 + (i : Int))) from rfl]
      have e2 : ((List.range 350).map fun i : Nat => D.int ((i : Int) * i + k / 4)) = ((List.range 350).map fun i : Nat => (i : Int) * i + k / 4).map D.int := by rw [List.map_map]; rfl
      have hB : ((List.range 350).map fun i : Nat => (i : Int) * i + k / 4).length = 350 := by rw [List.length_map, List.length_range]
      rw [lcGo_mp (fun i : Nat => D.int (0 + (i : Int))) (fun i : Nat => D.int ((i : Int) * i + k / 4)) _ ?_ (by rw [List.length_range]; omega), e2]
      · generalize ((List.range 350).map fun i : Nat => (i : Int) * i + k / 4) = B' at *
        have hl2 : B'.length + A.length ≤ 16777216 := by omega
        have hr := fun x8 x9 => rest_ok (some (.dat (.lst (ns.map .int)))) x8 x9 (B' ++ A) k [] (by rw [List.length_append]; omega)
        rw [List.map_append] at hr
        simp [hl2]
        exact hr _ _
      · intro i hi
        have hi' : i < 350 := List.mem_range.mp hi
        have hm : (-18446744073709551616 < (i : Int) ∧ (i : Int) < 18446744073709551616) ∨ (-18446744073709551616 < (i : Int) ∧ (i : Int) < 18446744073709551616) := by omega
        refine ⟨_, rfl, ?_, rfl⟩
        have hm2 : (i : Int) < 18446744073709551616 := by omega
        have hm3 : -18446744073709551616 < (i : Int) := by omega
        simp [e_law_1, hm2, hm3]
    · simp [r_law_2, t_law_2, h4]
      exact rest_ok _ _ _ A k [] (by omega)
  · refine fun z _ => ⟨_, rfl, ?_, rfl⟩
    simp [e_law_0]
end Lk01

set_option Elab.async false
set_option linter.all false
set_option maxRecDepth 100000
set_option maxHeartbeats 4000000
/-! The text does what the data-level programs say (printed by gen.py). -/
namespace Lk01
open PySem L2 Dl
abbrev PP : Program := PySem.Challenge.pw_kilnyard_k01_key_of_a_text
def topS (i : Nat) : Stmt := PySem.Challenge.pw_kilnyard_k01_key_of_a_text.main.body.getD i (.Pass ⟨0, 0, 0, 0⟩)
def inClass (st : Stmt) (j : Nat) : Stmt := match st with
  | .ClassDef (body := b) .. => b.getD j (.Pass ⟨0, 0, 0, 0⟩)
  | s => s
abbrev s_InvalidKey___init__ : Stmt := inClass (topS 2) 0
abbrev s__law_cell : Stmt := topS 11
abbrev s__law_text : Stmt := topS 12
abbrev s_content_key : Stmt := topS 8
abbrev s_is_text_code : Stmt := topS 6
abbrev s_code_character : Stmt := topS 7
abbrev s_key_text : Stmt := topS 9
abbrev s__law_is_integer : Stmt := topS 13
abbrev s__law_key : Stmt := topS 14
abbrev s_law : Stmt := topS 15
structure Tx (K : PySem.W.Frag) (mg : Str → Option Value) : Prop where
  b_abs : mg "abs" = none
  b_bool : mg "bool" = none
  b_int : mg "int" = none
  b_isinstance : mg "isinstance" = none
  b_len : mg "len" = none
  b_list : mg "list" = none
  b_ord : mg "ord" = none
  b_range : mg "range" = none
  b_str : mg "str" = none
  c_BASE : ∃ t, mg "BASE" = some (.int 128 t)
  c_CHARACTERS : ∃ z t, mg "CHARACTERS" = some (.str z t) ∧ z.cps.toList = [32, 33, 34, 35, 36, 38, 39, 40, 41, 42, 43, 44, 45, 46, 47, 48, 49, 50, 51, 52, 53, 54, 55, 56, 57, 58, 59, 60, 61, 62, 63, 64, 65, 66, 67, 68, 69, 70, 71, 72, 73, 74, 75, 76, 77, 78, 79, 80, 81, 82, 83, 84, 85, 86, 87, 88, 89, 90, 91, 92, 93, 94, 95, 96, 97, 98, 99, 100, 101, 102, 103, 104, 105, 106, 107, 108, 109, 110, 111, 112, 113, 114, 115, 116, 117, 118, 119, 120, 121, 122, 123, 124, 125, 126]
  d__law_cell : ∃ f fd, Fun K "_law_cell" "_law_cell" s__law_cell f fd ∧ mg "_law_cell" = some (.ref f) ∧ L2.Binds K fd ["_law_script", "_law_k"] []
  d__law_text : ∃ f fd, Fun K "_law_text" "_law_text" s__law_text f fd ∧ mg "_law_text" = some (.ref f) ∧ L2.Binds K fd ["_law_numbers"] []
  d_content_key : ∃ f fd, Fun K "content_key" "content_key" s_content_key f fd ∧ mg "content_key" = some (.ref f) ∧ L2.Binds K fd ["text"] []
  d_is_text_code : ∃ f fd, Fun K "is_text_code" "is_text_code" s_is_text_code f fd ∧ mg "is_text_code" = some (.ref f) ∧ L2.Binds K fd ["code"] []
  d_code_character : ∃ f fd, Fun K "code_character" "code_character" s_code_character f fd ∧ mg "code_character" = some (.ref f) ∧ L2.Binds K fd ["code"] []
  d_key_text : ∃ f fd, Fun K "key_text" "key_text" s_key_text f fd ∧ mg "key_text" = some (.ref f) ∧ L2.Binds K fd ["key"] []
  d__law_is_integer : ∃ f fd, Fun K "_law_is_integer" "_law_is_integer" s__law_is_integer f fd ∧ mg "_law_is_integer" = some (.ref f) ∧ L2.Binds K fd ["_law_value"] []
  d__law_key : ∃ f fd, Fun K "_law_key" "_law_key" s__law_key f fd ∧ mg "_law_key" = some (.ref f) ∧ L2.Binds K fd ["_law_text_here"] []
  d_law : ∃ f fd, Fun K "law" "law" s_law f fd ∧ mg "law" = some (.ref f) ∧ L2.Binds K fd ["_law_script"] []
  x_InvalidKey : ∃ C fI fd, mg "InvalidKey" = some (.ref C) ∧ ClsX K C C ∧ PySem.W.findIn K (.ref C) "__init__" = some (some (.ref fI)) ∧ PySem.W.typeIn K (.ref fI) = some (.type "function") ∧ FunX PP K mg "InvalidKey.__init__" s_InvalidKey___init__ fI fd C ∧ L2.Binds K fd ["self", "key"] [] ∧ ∀ p ∈ ([("key", 1)] : List (Str × Nat)), PySem.W.findIn K (.ref C) p.1 = some none
section
variable {w : World} {K : PySem.W.Frag} {mg : Str → Option Value} {base : Heap}
theorem exc_InvalidKey (T : Tx K mg) : ExcD PP w K mg base "InvalidKey" 2 [("key", 1)] := by
  obtain ⟨C, fI, fd, hm, hc, hi, ht, hf, hb, hn⟩ := T.x_InvalidKey
  refine ⟨⟨C, fI, C, fd, ["self", "key"], hm, hc, hi, ht, init_ok (ps := ["self", "key"]) (k := 0) hf (NdefX.nscope_by (by decide +kernel)) rfl rfl rfl rfl rfl rfl (by decide) (by decide) (by decide) (fun _ _ _ _ _ _ _ => (.cons (ps_ost (pv 0) (pv 1)) .nil)) (fun _ => rfl) (fun _ => rfl), hb, hn⟩, by decide, by decide⟩
theorem sc__law_cell : FnScope ["_law_script", "_law_k"] ["_law_script", "_law_k"] (defScope s__law_cell) := ⟨rfl, rfl, rfl, by decide +kernel, rfl, by decide +kernel, by decide +kernel⟩
theorem fn__law_cell (T : Tx K mg) : Fn PP w K mg base "_law_cell" m__law_cell 1 := by
  obtain ⟨f, fd, F, hm, hb⟩ := T.d__law_cell
  refine ⟨f, fd, _, fn_d (N := ["_law_script", "_law_k"]) (m := b__law_cell) (k := 0) F sc__law_cell (fun cdv A outer s H E hr => ?_), hm, F.kp, hb⟩
  have hu := hr.units
  exact DSs.eq (ss_cons (s_if (d_cmpT op_lt op2_lt (d_var 1) (d_callB call_len opn_len rfl T.b_len (by decide +kernel) (a_cons (d_var 0) a_nil)) (nomark _)) (ss_one (s_retD (d_callTy call_int1 opn_int rfl T.b_int (by decide +kernel) (a_cons (d_ix (d_var 0) (d_var 1)) a_nil)))) ss_nil)
    (ss_one (s_retD d_int))) (by rfl)
theorem sc__law_text : FnScope ["_law_numbers", "_law_chars", "_law_number"] ["_law_numbers"] (defScope s__law_text) := ⟨rfl, rfl, rfl, by decide +kernel, rfl, by decide +kernel, by decide +kernel⟩
theorem fn__law_text (T : Tx K mg) : Fn PP w K mg base "_law_text" m__law_text 1 := by
  obtain ⟨f, fd, F, hm, hb⟩ := T.d__law_text
  refine ⟨f, fd, _, fn_d (N := ["_law_numbers", "_law_chars", "_law_number"]) (m := b__law_text) (k := 0) F sc__law_text (fun cdv A outer s H E hr => ?_), hm, F.kp, hb⟩
  have hu := hr.units
  exact DSs.eq (ss_cons (s_set (i := 1) sc__law_text.nd (d_str (l := [10, 32, 33, 34, 35, 36, 38, 39, 40, 41, 42, 43, 44, 45, 46, 47, 48, 49, 50, 51, 52, 53, 54, 55, 56, 57, 58, 59, 60, 61, 62, 63, 64, 65, 66, 67, 68, 69, 70, 71, 72, 73, 74, 75, 76, 77, 78, 79, 80, 81, 82, 83, 84, 85, 86, 87, 88, 89, 90, 91, 92, 93, 94, 95, 96]) (by decide +kernel)))
    (ss_cons (s_set (i := 1) sc__law_text.nd (d_op op_addA op2_add (d_var 1) (d_str (l := [97, 98, 99, 100, 101, 102, 103, 104, 105, 106, 107, 108, 109, 110, 111, 112, 113, 114, 115, 116, 117, 118, 119, 120, 121, 122, 123, 124, 125, 126]) (by decide +kernel))))
    (ss_one (s_retD (d_m1 PySem.F.slot_str_join PySem.F.type_str_join mt_join opm_join (d_str rfl) (d_fz (b_lc (own := [("_law_number", 2)]) rfl sc__law_text.nd (i_list (d_var 0)) (blkOk_by (own := [("_law_number", 2)]) (N := ["_law_numbers", "_law_chars", "_law_number"]) (sc := defScope s__law_text) (by decide +kernel)) (fun _ _ _ _ _ => (g_name (i := 2) sc__law_text.nd)) (fun _ _ _ _ _ => ts_nil) (fun _ _ _ _ _ => (d_ix (d_var 1) (d_op op_mod op2_mod (d_callTy call_int1 opn_int rfl T.b_int (by decide +kernel) (a_cons (d_var 2) a_nil)) d_int)))))))))) (by rfl)
theorem sc_content_key : FnScope ["text", "key", "char"] ["text"] (defScope s_content_key) := ⟨rfl, rfl, rfl, by decide +kernel, rfl, by decide +kernel, by decide +kernel⟩
theorem fn_content_key (T : Tx K mg) : Fn PP w K mg base "content_key" m_content_key 1 := by
  obtain ⟨f, fd, F, hm, hb⟩ := T.d_content_key
  refine ⟨f, fd, _, fn_d (N := ["text", "key", "char"]) (m := b_content_key) (k := 0) F sc_content_key (fun cdv A outer s H E hr => ?_), hm, F.kp, hb⟩
  have hu := hr.units
  exact DSs.eq (ss_cons (s_set (i := 1) sc_content_key.nd d_int)
    (ss_cons (s_for (passes_of rfl) rfl (i_str (d_var 0)) (g_name (i := 2) sc_content_key.nd) (ss_one (s_set (i := 1) sc_content_key.nd (d_op op_addA op2_add (d_op op_mul op2_mul (d_var 1) (d_gi rfl T.c_BASE)) (d_callB call_ord opn_ord rfl T.b_ord (by decide +kernel) (a_cons (d_var 2) a_nil))))))
    (ss_one (s_retD (d_var 1))))) (by rfl)
theorem sc_is_text_code : FnScope ["code"] ["code"] (defScope s_is_text_code) := ⟨rfl, rfl, rfl, by decide +kernel, rfl, by decide +kernel, by decide +kernel⟩
theorem fn_is_text_code (T : Tx K mg) : Fn PP w K mg base "is_text_code" m_is_text_code 1 := by
  obtain ⟨f, fd, F, hm, hb⟩ := T.d_is_text_code
  refine ⟨f, fd, _, fn_d (N := ["code"]) (m := b_is_text_code) (k := 0) F sc_is_text_code (fun cdv A outer s H E hr => ?_), hm, F.kp, hb⟩
  have hu := hr.units
  exact DSs.eq (ss_one (s_retD (d_or (d_cmp (op_eqG hu) op2_eq (d_var 0) d_int (nomark _)) (d_one (d_and (d_chain op_le op_le op2_le op2_le d_int (d_var 0) d_int) (d_one (d_cmp (op_neG hu) op2_ne (d_var 0) d_int (nomark _)))))))) (by rfl)
theorem sc_code_character : FnScope ["code"] ["code"] (defScope s_code_character) := ⟨rfl, rfl, rfl, by decide +kernel, rfl, by decide +kernel, by decide +kernel⟩
theorem fn_code_character (T : Tx K mg) : Fn PP w K mg base "code_character" m_code_character 1 := by
  obtain ⟨f, fd, F, hm, hb⟩ := T.d_code_character
  refine ⟨f, fd, _, fn_d (N := ["code"]) (m := b_code_character) (k := 0) F sc_code_character (fun cdv A outer s H E hr => ?_), hm, F.kp, hb⟩
  have hu := hr.units
  exact DSs.eq (ss_cons (s_if (d_cmpT (op_eqG hu) op2_eq (d_var 0) d_int (nomark _)) (ss_one (s_retD (d_str rfl))) ss_nil)
    (ss_cons (s_if (d_cmpT op_lt op2_lt (d_var 0) d_int (nomark _)) (ss_one (s_retD (d_ix (d_gs rfl T.c_CHARACTERS) (d_op op_sub op2_sub (d_var 0) d_int)))) ss_nil)
    (ss_one (s_retD (d_ix (d_gs rfl T.c_CHARACTERS) (d_op op_sub op2_sub (d_var 0) d_int)))))) (by rfl)
theorem sc_key_text : FnScope ["key", "rest", "characters", "code"] ["key"] (defScope s_key_text) := ⟨rfl, rfl, rfl, by decide +kernel, rfl, by decide +kernel, by decide +kernel⟩
theorem fn_key_text (T : Tx K mg) : Fn PP w K mg base "key_text" m_key_text 3 := by
  obtain ⟨f, fd, F, hm, hb⟩ := T.d_key_text
  refine ⟨f, fd, _, fn_d (N := ["key", "rest", "characters", "code"]) (m := b_key_text) (k := 2) F sc_key_text (fun cdv A outer s H E hr => ?_), hm, F.kp, hb⟩
  have hu := hr.units
  exact DSs.eq (ss_cons (s_set (i := 1) sc_key_text.nd (d_var 0))
    (ss_cons (s_setB (i := 2) sc_key_text.nd (b_lst a_nil))
    (ss_cons (s_while (passes_of rfl) (d_cmpT op_ge op2_ge (d_var 1) (d_gi rfl T.c_BASE) (nomark _)) (ss_cons (s_set (i := 3) sc_key_text.nd (d_op op_mod op2_mod (d_var 1) (d_gi rfl T.c_BASE)))
    (ss_cons (s_if (t_not (dt_tru (d_fz (d_call (fn_is_text_code T) (hr.mono (by decide)) rfl (takes_of rfl rfl rfl rfl) (a_cons (d_var 3) a_nil))))) (ss_one (s_raise (k := 0) (exc_InvalidKey T) rfl (takes_of rfl rfl rfl rfl) (hr.mono (by decide)) rfl (a_cons (d_var 0) a_nil))) ss_nil)
    (ss_cons (s_expr (d_hm1 PySem.F.slot_list_append PySem.F.type_list_append mt_append ow_append (h_var 2) (d_fz (d_call (fn_code_character T) (hr.mono (by decide)) rfl (takes_of rfl rfl rfl rfl) (a_cons (d_var 3) a_nil)))))
    (ss_one (s_set (i := 1) sc_key_text.nd (d_op op_fdiv op2_div (d_var 1) (d_gi rfl T.c_BASE))))))))
    (ss_cons (s_if (d_cmpT (op_neG hu) op2_ne (d_var 1) d_int (nomark _)) (ss_one (s_raise (k := 0) (exc_InvalidKey T) rfl (takes_of rfl rfl rfl rfl) (hr.mono (by decide)) rfl (a_cons (d_var 0) a_nil))) ss_nil)
    (ss_cons (s_expr (d_hm0 PySem.F.slot_list_reverse PySem.F.type_list_reverse mt_reverse ow_reverse (h_var 2)))
    (ss_one (s_retD (d_m1 PySem.F.slot_str_join PySem.F.type_str_join mt_join opm_join (d_str rfl) (d_varF 2))))))))) (by rfl)
theorem sc__law_is_integer : FnScope ["_law_value"] ["_law_value"] (defScope s__law_is_integer) := ⟨rfl, rfl, rfl, by decide +kernel, rfl, by decide +kernel, by decide +kernel⟩
theorem fn__law_is_integer (T : Tx K mg) : Fn PP w K mg base "_law_is_integer" m__law_is_integer 1 := by
  obtain ⟨f, fd, F, hm, hb⟩ := T.d__law_is_integer
  refine ⟨f, fd, _, fn_d (N := ["_law_value"]) (m := b__law_is_integer) (k := 0) F sc__law_is_integer (fun cdv A outer s H E hr => ?_), hm, F.kp, hb⟩
  have hu := hr.units
  exact DSs.eq (ss_one (s_retD (d_and (d_is .int (d_var 0) rfl T.b_isinstance rfl T.b_int PyProof.Rows.boot_int) (d_one (d_not (d_is .bool (d_var 0) rfl T.b_isinstance rfl T.b_bool PyProof.Rows.boot_bool)))))) (by rfl)
theorem sc__law_key : FnScope ["_law_text_here", "_law_key_here", "_law_char"] ["_law_text_here"] (defScope s__law_key) := ⟨rfl, rfl, rfl, by decide +kernel, rfl, by decide +kernel, by decide +kernel⟩
theorem fn__law_key (T : Tx K mg) : Fn PP w K mg base "_law_key" m__law_key 1 := by
  obtain ⟨f, fd, F, hm, hb⟩ := T.d__law_key
  refine ⟨f, fd, _, fn_d (N := ["_law_text_here", "_law_key_here", "_law_char"]) (m := b__law_key) (k := 0) F sc__law_key (fun cdv A outer s H E hr => ?_), hm, F.kp, hb⟩
  have hu := hr.units
  exact DSs.eq (ss_cons (s_set (i := 1) sc__law_key.nd d_int)
    (ss_cons (s_for (passes_of rfl) rfl (i_str (d_var 0)) (g_name (i := 2) sc__law_key.nd) (ss_one (s_set (i := 1) sc__law_key.nd (d_op op_addA op2_add (d_op op_mul op2_mul (d_var 1) d_int) (d_callB call_ord opn_ord rfl T.b_ord (by decide +kernel) (a_cons (d_var 2) a_nil))))))
    (ss_one (s_retD (d_var 1))))) (by rfl)
theorem sc_law : FnScope ["_law_script", "_law_numbers", "_law_first", "_law_other", "_law_at", "_law_text_here", "_law_key_here", "_law_back", "_law_cell_here", "_law_k"] ["_law_script"] (defScope s_law) := ⟨rfl, rfl, rfl, by decide +kernel, rfl, by decide +kernel, by decide +kernel⟩
end
theorem tx_mk {K : PySem.W.Frag} {h : Heap} {mg : Str → Option Value} {t_BASE : Tok}
    {t_CHARACTERS : Tok}
    {f_0 : Addr} {od_0 an_0 : Option Addr} {sl_0 : Array (Option Value)} {oc_0 kV_0 dc_0 pm_0 cd_0 ct_0 : Value}
    {f_1 : Addr} {od_1 an_1 : Option Addr} {sl_1 : Array (Option Value)} {oc_1 kV_1 dc_1 pm_1 cd_1 ct_1 : Value}
    {f_2 : Addr} {od_2 an_2 : Option Addr} {sl_2 : Array (Option Value)} {oc_2 kV_2 dc_2 pm_2 cd_2 ct_2 : Value}
    {f_3 : Addr} {od_3 an_3 : Option Addr} {sl_3 : Array (Option Value)} {oc_3 kV_3 dc_3 pm_3 cd_3 ct_3 : Value}
    {f_4 : Addr} {od_4 an_4 : Option Addr} {sl_4 : Array (Option Value)} {oc_4 kV_4 dc_4 pm_4 cd_4 ct_4 : Value}
    {f_5 : Addr} {od_5 an_5 : Option Addr} {sl_5 : Array (Option Value)} {oc_5 kV_5 dc_5 pm_5 cd_5 ct_5 : Value}
    {f_6 : Addr} {od_6 an_6 : Option Addr} {sl_6 : Array (Option Value)} {oc_6 kV_6 dc_6 pm_6 cd_6 ct_6 : Value}
    {f_7 : Addr} {od_7 an_7 : Option Addr} {sl_7 : Array (Option Value)} {oc_7 kV_7 dc_7 pm_7 cd_7 ct_7 : Value}
    {f_8 : Addr} {od_8 an_8 : Option Addr} {sl_8 : Array (Option Value)} {oc_8 kV_8 dc_8 pm_8 cd_8 ct_8 : Value}
    {C_e0 f_e0 cda_e0 cc_e0 N_e0 : Addr} {nm_e0 q_e0 file_e0 : Str} {tf_e0 : Tok} {bs_e0 bm_e0 sub_e0 : List Value} {sn_e0 : List Str} {ab_e0 : Bool} {col_e0 : Option Bool} {dd_e0 : Option Addr} {m0_e0 m1_e0 m2_e0 m3_e0 m5_e0 : Option Value} {od_e0 an_e0 cdd_e0 cld_e0 : Option Addr} {sl_e0 ccs_e0 csl_e0 : Array (Option Value)} {vs_e0 : Array Value} {oc_e0 kV_e0 dc_e0 pm_e0 ct_e0 ccl_e0 cl_e0 : Value} {cd_e0 : ClassData}
    (X : K.In h) (G : h.Ns mainGlobals mg)
    (z_abs : PySem.W.nsIn K mainGlobals "abs" = some none)
    (z_bool : PySem.W.nsIn K mainGlobals "bool" = some none)
    (z_int : PySem.W.nsIn K mainGlobals "int" = some none)
    (z_isinstance : PySem.W.nsIn K mainGlobals "isinstance" = some none)
    (z_len : PySem.W.nsIn K mainGlobals "len" = some none)
    (z_list : PySem.W.nsIn K mainGlobals "list" = some none)
    (z_ord : PySem.W.nsIn K mainGlobals "ord" = some none)
    (z_range : PySem.W.nsIn K mainGlobals "range" = some none)
    (z_str : PySem.W.nsIn K mainGlobals "str" = some none)
    (v_BASE : PySem.W.nsIn K mainGlobals "BASE" = some (some (.int 128 t_BASE)))
    (v_CHARACTERS : PySem.W.nsIn K mainGlobals "CHARACTERS" = some (some (.str (Str.ofString " !\"#$&'()*+,-./0123456789:;<=>?@ABCDEFGHIJKLMNOPQRSTUVWXYZ[\\]^_`abcdefghijklmnopqrstuvwxyz{|}~") t_CHARACTERS)))
    (a_0 : PySem.W.nsIn K mainGlobals "_law_cell" = some (some (.ref f_0))) (l_0 : K.lookup f_0 = some ⟨oc_0, od_0, .func (PySem.W.fnOf "_law_cell" "_law_cell" (defArgs s__law_cell) (defBody s__law_cell) (defScope s__law_cell) .none kV_0 dc_0 pm_0 an_0 cd_0 ct_0), sl_0⟩) (c_0 : PySem.W.codeIn K cd_0 "_law_cell" = true) (k_0 : PySem.W.keepIn K (.ref f_0) = true)
    (a_1 : PySem.W.nsIn K mainGlobals "_law_text" = some (some (.ref f_1))) (l_1 : K.lookup f_1 = some ⟨oc_1, od_1, .func (PySem.W.fnOf "_law_text" "_law_text" (defArgs s__law_text) (defBody s__law_text) (defScope s__law_text) .none kV_1 dc_1 pm_1 an_1 cd_1 ct_1), sl_1⟩) (c_1 : PySem.W.codeIn K cd_1 "_law_text" = true) (k_1 : PySem.W.keepIn K (.ref f_1) = true)
    (a_2 : PySem.W.nsIn K mainGlobals "content_key" = some (some (.ref f_2))) (l_2 : K.lookup f_2 = some ⟨oc_2, od_2, .func (PySem.W.fnOf "content_key" "content_key" (defArgs s_content_key) (defBody s_content_key) (defScope s_content_key) .none kV_2 dc_2 pm_2 an_2 cd_2 ct_2), sl_2⟩) (c_2 : PySem.W.codeIn K cd_2 "content_key" = true) (k_2 : PySem.W.keepIn K (.ref f_2) = true)
    (a_3 : PySem.W.nsIn K mainGlobals "is_text_code" = some (some (.ref f_3))) (l_3 : K.lookup f_3 = some ⟨oc_3, od_3, .func (PySem.W.fnOf "is_text_code" "is_text_code" (defArgs s_is_text_code) (defBody s_is_text_code) (defScope s_is_text_code) .none kV_3 dc_3 pm_3 an_3 cd_3 ct_3), sl_3⟩) (c_3 : PySem.W.codeIn K cd_3 "is_text_code" = true) (k_3 : PySem.W.keepIn K (.ref f_3) = true)
    (a_4 : PySem.W.nsIn K mainGlobals "code_character" = some (some (.ref f_4))) (l_4 : K.lookup f_4 = some ⟨oc_4, od_4, .func (PySem.W.fnOf "code_character" "code_character" (defArgs s_code_character) (defBody s_code_character) (defScope s_code_character) .none kV_4 dc_4 pm_4 an_4 cd_4 ct_4), sl_4⟩) (c_4 : PySem.W.codeIn K cd_4 "code_character" = true) (k_4 : PySem.W.keepIn K (.ref f_4) = true)
    (a_5 : PySem.W.nsIn K mainGlobals "key_text" = some (some (.ref f_5))) (l_5 : K.lookup f_5 = some ⟨oc_5, od_5, .func (PySem.W.fnOf "key_text" "key_text" (defArgs s_key_text) (defBody s_key_text) (defScope s_key_text) .none kV_5 dc_5 pm_5 an_5 cd_5 ct_5), sl_5⟩) (c_5 : PySem.W.codeIn K cd_5 "key_text" = true) (k_5 : PySem.W.keepIn K (.ref f_5) = true)
    (a_6 : PySem.W.nsIn K mainGlobals "_law_is_integer" = some (some (.ref f_6))) (l_6 : K.lookup f_6 = some ⟨oc_6, od_6, .func (PySem.W.fnOf "_law_is_integer" "_law_is_integer" (defArgs s__law_is_integer) (defBody s__law_is_integer) (defScope s__law_is_integer) .none kV_6 dc_6 pm_6 an_6 cd_6 ct_6), sl_6⟩) (c_6 : PySem.W.codeIn K cd_6 "_law_is_integer" = true) (k_6 : PySem.W.keepIn K (.ref f_6) = true)
    (a_7 : PySem.W.nsIn K mainGlobals "_law_key" = some (some (.ref f_7))) (l_7 : K.lookup f_7 = some ⟨oc_7, od_7, .func (PySem.W.fnOf "_law_key" "_law_key" (defArgs s__law_key) (defBody s__law_key) (defScope s__law_key) .none kV_7 dc_7 pm_7 an_7 cd_7 ct_7), sl_7⟩) (c_7 : PySem.W.codeIn K cd_7 "_law_key" = true) (k_7 : PySem.W.keepIn K (.ref f_7) = true)
    (a_8 : PySem.W.nsIn K mainGlobals "law" = some (some (.ref f_8))) (l_8 : K.lookup f_8 = some ⟨oc_8, od_8, .func (PySem.W.fnOf "law" "law" (defArgs s_law) (defBody s_law) (defScope s_law) .none kV_8 dc_8 pm_8 an_8 cd_8 ct_8), sl_8⟩) (c_8 : PySem.W.codeIn K cd_8 "law" = true) (k_8 : PySem.W.keepIn K (.ref f_8) = true)
    (a_e0 : PySem.W.nsIn K mainGlobals "InvalidKey" = some (some (.ref C_e0)))
    (x_e0 : K.lookup C_e0 = some (excClassObj nm_e0 q_e0 C_e0 N_e0 bs_e0 bm_e0 true sn_e0 sub_e0 ab_e0 col_e0 dd_e0 m0_e0 m1_e0 m2_e0 m3_e0 m5_e0 "ValueError.__new__"))
    (r_e0 : PySem.HandSPX.refsVE bm_e0 = true)
    (s_e0 : PySem.W.findIn K (.ref C_e0) "__setattr__" = some (some (.builtin "object.__setattr__")))
    (e_e0 : PySem.W.subIn K (.ref C_e0) (.type "BaseException") = some true)
    (t_e0 : PySem.W.typeIn K (.ref C_e0) = some (.type "type"))
    (k_e0 : PySem.W.keepIn K (.ref C_e0) = true)
    (u_e0 : PySem.W.mroIn K C_e0 (.ref C_e0) = some true)
    (i_e0 : PySem.W.ks_superIn K C_e0 C_e0 "__init__" = some (some (.builtin "ValueError.__init__")))
    (v_e0 : PySem.W.subIn K (.ref C_e0) (.type "ValueError") = some true)
    (ff_e0 : PySem.W.findIn K (.ref C_e0) "__init__" = some (some (.ref f_e0)))
    (y_e0 : PySem.W.typeIn K (.ref f_e0) = some (.type "function"))
    (l_e0 : K.lookup f_e0 = some ⟨oc_e0, od_e0, .func (PySem.W.fnX "__init__" "InvalidKey.__init__" (defArgs s_InvalidKey___init__) (defBody s_InvalidKey___init__) (defScope s_InvalidKey___init__) [("__class__", cc_e0)] .none kV_e0 dc_e0 pm_e0 an_e0 (.ref cda_e0) ct_e0), sl_e0⟩)
    (c_e0 : PySem.W.codeIn K (.ref cda_e0) "InvalidKey.__init__" = true)
    (d_e0 : K.lookup cda_e0 = some ⟨ccl_e0, cdd_e0, .fields vs_e0, ccs_e0⟩)
    (w_e0 : vs_e0[2]? = some (.str file_e0 tf_e0))
    (p_e0 : ((PP.main.file : Str) == file_e0) = true)
    (o_e0 : K.lookup cc_e0 = some ⟨cl_e0, cld_e0, .cell (some (.ref C_e0)), csl_e0⟩)
    (qq_e0 : PySem.W.clsIn K C_e0 = some cd_e0)
    (z_e0 : PySem.W.nsIn K mainGlobals "super" = some none)
    (g_e0 : PySem.W.nsIn K PySem.cStatics "thirdparty.any" = some none)
    (n0_e0 : PySem.W.findIn K (.ref C_e0) "key" = some none) : Tx K mg :=
  ⟨PySem.W.mg_none_of X G z_abs,
    PySem.W.mg_none_of X G z_bool,
    PySem.W.mg_none_of X G z_int,
    PySem.W.mg_none_of X G z_isinstance,
    PySem.W.mg_none_of X G z_len,
    PySem.W.mg_none_of X G z_list,
    PySem.W.mg_none_of X G z_ord,
    PySem.W.mg_none_of X G z_range,
    PySem.W.mg_none_of X G z_str,
    ⟨_, PySem.W.mg_of X G v_BASE⟩,
    ⟨_, _, PySem.W.mg_of X G v_CHARACTERS, by decide +kernel⟩,
    ⟨f_0, _, fun_mk (st := s__law_cell) l_0 c_0 k_0, PySem.W.mg_of X G a_0, (fun_mk (st := s__law_cell) l_0 c_0 k_0).binds (ps := ["_law_script", "_law_k"]) fun _ _ _ _ _ _ us hl => match us, hl with | [_, _], _ => rfl⟩,
    ⟨f_1, _, fun_mk (st := s__law_text) l_1 c_1 k_1, PySem.W.mg_of X G a_1, (fun_mk (st := s__law_text) l_1 c_1 k_1).binds (ps := ["_law_numbers"]) fun _ _ _ _ _ _ us hl => match us, hl with | [_], _ => rfl⟩,
    ⟨f_2, _, fun_mk (st := s_content_key) l_2 c_2 k_2, PySem.W.mg_of X G a_2, (fun_mk (st := s_content_key) l_2 c_2 k_2).binds (ps := ["text"]) fun _ _ _ _ _ _ us hl => match us, hl with | [_], _ => rfl⟩,
    ⟨f_3, _, fun_mk (st := s_is_text_code) l_3 c_3 k_3, PySem.W.mg_of X G a_3, (fun_mk (st := s_is_text_code) l_3 c_3 k_3).binds (ps := ["code"]) fun _ _ _ _ _ _ us hl => match us, hl with | [_], _ => rfl⟩,
    ⟨f_4, _, fun_mk (st := s_code_character) l_4 c_4 k_4, PySem.W.mg_of X G a_4, (fun_mk (st := s_code_character) l_4 c_4 k_4).binds (ps := ["code"]) fun _ _ _ _ _ _ us hl => match us, hl with | [_], _ => rfl⟩,
    ⟨f_5, _, fun_mk (st := s_key_text) l_5 c_5 k_5, PySem.W.mg_of X G a_5, (fun_mk (st := s_key_text) l_5 c_5 k_5).binds (ps := ["key"]) fun _ _ _ _ _ _ us hl => match us, hl with | [_], _ => rfl⟩,
    ⟨f_6, _, fun_mk (st := s__law_is_integer) l_6 c_6 k_6, PySem.W.mg_of X G a_6, (fun_mk (st := s__law_is_integer) l_6 c_6 k_6).binds (ps := ["_law_value"]) fun _ _ _ _ _ _ us hl => match us, hl with | [_], _ => rfl⟩,
    ⟨f_7, _, fun_mk (st := s__law_key) l_7 c_7 k_7, PySem.W.mg_of X G a_7, (fun_mk (st := s__law_key) l_7 c_7 k_7).binds (ps := ["_law_text_here"]) fun _ _ _ _ _ _ us hl => match us, hl with | [_], _ => rfl⟩,
    ⟨f_8, _, fun_mk (st := s_law) l_8 c_8 k_8, PySem.W.mg_of X G a_8, (fun_mk (st := s_law) l_8 c_8 k_8).binds (ps := ["_law_script"]) fun _ _ _ _ _ _ us hl => match us, hl with | [_], _ => rfl⟩,
    ⟨C_e0, f_e0, _, PySem.W.mg_of X G a_e0, { cls := ⟨_, _, _, _, _, _, _, _, _, _, _, _, _, _, _, x_e0, r_e0⟩, sa := s_e0, exC := e_e0, tyC := t_e0, kC := k_e0, sub := u_e0, ini := i_e0, ve := v_e0 }, ff_e0, y_e0, ⟨⟨_, _, _, _, _, _, _, _, _, _, rfl, l_e0, c_e0, ⟨_, _, _, _, _, _, d_e0, w_e0, p_e0⟩, ⟨_, _, _, o_e0⟩⟩, ⟨_, qq_e0⟩, z_e0, PySem.W.mg_none_of X G z_e0, by first | rfl | decide +kernel, g_e0⟩, Binds.all fun us hl => match us, hl with | [_, _], _ => rfl, by intro p hp; simp only [List.mem_cons, List.not_mem_nil, or_false] at hp; rcases hp with rfl; exact n0_e0⟩⟩
theorem law_ok {w : World} {K : PySem.W.Frag} {h : Heap} {mg : Str → Option Value} {fa : Addr} (X : K.In h) (G : h.Ns mainGlobals mg) (hfa : mg "law" = some (.ref fa)) (T : Tx K mg) :
    ∃ fd : FuncData, (∀ (s : Shared) (v : Value), BindsTo s fd ⟨[v], []⟩ [("_law_script", v)]) ∧ ∀ base : Heap, K.In base → base.Ns mainGlobals mg → FnOk PP w K mg base (L2.CX PP w) 4 fa fd ["_law_script"] (Dl.spLaw K) := by
  obtain ⟨f, fd, F, hm, hb⟩ := T.d_law
  cases hfa.symm.trans hm
  obtain ⟨oc, od, kV, doc, pm, an, cdv, ct, osl, rfl, lk, hcd⟩ := id F.ex
  refine ⟨PySem.W.fnOf "law" "law" (defArgs s_law) (defBody s_law) (defScope s_law) .none kV doc pm an cdv ct, fun s v => .of_eq rfl, fun base _ _ => law_imp lawT (f := m_law) ?_⟩
  refine fn_d (N := ["_law_script", "_law_numbers", "_law_first", "_law_other", "_law_at", "_law_text_here", "_law_key_here", "_law_back", "_law_cell_here", "_law_k"]) (m := b_law) (k := 3) F sc_law (fun cdv A outer s H E hr => ?_)
  have hu := hr.units
  exact DSs.eq (ss_cons (s_setLcD (i := 1) (own := [("_law_cell_here", 8)]) rfl sc_law.nd (i_list (d_fz (b_slL (d_var 0) (o_some d_int) (o_some d_int)))) (blkOk_by (own := [("_law_cell_here", 8)]) (N := ["_law_script", "_law_numbers", "_law_first", "_law_other", "_law_at", "_law_text_here", "_law_key_here", "_law_back", "_law_cell_here", "_law_k"]) (sc := defScope s_law) (by decide +kernel)) (fun _ _ _ _ _ => (g_name (i := 8) sc_law.nd)) (fun _ _ _ _ _ => ts_nil) (fun _ _ _ _ _ => (d_op op_fdiv op2_div (d_callB call_abs opn_abs rfl T.b_abs (by decide +kernel) (a_cons (d_callTy call_int1 opn_int rfl T.b_int (by decide +kernel) (a_cons (d_var 8) a_nil)) a_nil)) d_int)) (sw_true rfl rfl rfl (by decide +kernel)))
    (ss_cons (s_set (i := 2) sc_law.nd (d_fz (d_call (fn__law_cell T) (hr.mono (by decide)) rfl (takes_of rfl rfl rfl rfl) (a_cons (d_var 0) (a_cons d_int a_nil)))))
    (ss_cons (s_if (d_cmpT (op_eqG hu) op2_eq (d_op op_mod op2_mod (d_var 2) d_int) d_int (nomark _)) (ss_one (s_set (i := 1) sc_law.nd (d_fz (b_cat (d_fz (b_lc (own := [("_law_k", 9)]) rfl sc_law.nd (i_range1 rfl T.b_range d_int) (blkOk_by (own := [("_law_k", 9)]) (N := ["_law_script", "_law_numbers", "_law_first", "_law_other", "_law_at", "_law_text_here", "_law_key_here", "_law_back", "_law_cell_here", "_law_k"]) (sc := defScope s_law) (by decide +kernel)) (fun _ _ _ _ _ => (g_name (i := 9) sc_law.nd)) (fun _ _ _ _ _ => ts_nil) (fun _ _ _ _ _ => (d_op op_addA op2_add (d_op op_mul op2_mul (d_var 9) (d_var 9)) (d_op op_fdiv op2_div (d_var 2) d_int))))) (d_var 1))))) ss_nil)
    (ss_cons (s_setB (i := 3) sc_law.nd (b_cat (d_var 1) (d_fz (b_lst (a_cons (d_op op_fdiv op2_div (d_var 2) d_int) a_nil)))))
    (ss_cons (s_if (DW.dt (w_and (d_cmpT op_gt op2_gt (d_callB call_len opn_len rfl T.b_len (by decide +kernel) (a_cons (d_var 1) a_nil)) d_int (nomark _)) (w_and1 (d_cmpT (op_eqG hu) op2_eq (d_op op_mod op2_mod (d_var 2) d_int) d_int (nomark _))))) (ss_cons (s_setB (i := 3) sc_law.nd (b_callTy call_list_of opn_list rfl T.b_list (by decide +kernel) (a_cons (d_var 1) a_nil)))
    (ss_cons (s_set (i := 4) sc_law.nd (d_op op_mod op2_mod (d_op op_fdiv op2_div (d_callB call_abs opn_abs rfl T.b_abs (by decide +kernel) (a_cons (d_var 2) a_nil)) d_int) (d_callB call_len opn_len rfl T.b_len (by decide +kernel) (a_cons (d_var 1) a_nil))))
    (ss_one (s_stL (d_op op_addA op2_add (d_op op_addA op2_add (d_ixH (h_var 3) (d_var 4)) d_int) (d_op op_mod op2_mod (d_op op_fdiv op2_div (d_callB call_abs opn_abs rfl T.b_abs (by decide +kernel) (a_cons (d_var 2) a_nil)) d_int) d_int)) (h_var 3) (d_var 4))))) ss_nil)
    (ss_cons (s_for (passes_of rfl) rfl (i_list (d_fz (b_lst (a_cons (d_fz (d_call (fn__law_text T) (hr.mono (by decide)) rfl (takes_of rfl rfl rfl rfl) (a_cons (d_var 1) a_nil))) (a_cons (d_fz (d_call (fn__law_text T) (hr.mono (by decide)) rfl (takes_of rfl rfl rfl rfl) (a_cons (d_varF 3) a_nil))) a_nil))))) (g_name (i := 5) sc_law.nd) (ss_cons (s_set (i := 6) sc_law.nd (d_fz (d_call (fn_content_key T) (hr.mono (by decide)) rfl (takes_of rfl rfl rfl rfl) (a_cons (d_var 5) a_nil))))
    (ss_cons (s_if (DW.dt (w_or (t_not (dt_tru (d_fz (d_call (fn__law_is_integer T) (hr.mono (by decide)) rfl (takes_of rfl rfl rfl rfl) (a_cons (d_var 6) a_nil))))) (w_or1 (d_cmpT (op_neG hu) op2_ne (d_var 6) (d_fz (d_call (fn__law_key T) (hr.mono (by decide)) rfl (takes_of rfl rfl rfl rfl) (a_cons (d_var 5) a_nil))) (nomark _))))) (ss_one (s_retD d_bl)) ss_nil)
    (ss_cons (s_set (i := 7) sc_law.nd (d_fz (d_call (fn_key_text T) (hr.mono (by decide)) rfl (takes_of rfl rfl rfl rfl) (a_cons (d_var 6) a_nil))))
    (ss_one (s_if (DW.dt (w_or (t_not (dt_tru (d_is .str (d_var 7) rfl T.b_isinstance rfl T.b_str PyProof.Rows.boot_str))) (w_or1 (d_cmpT (op_neG hu) op2_ne (d_var 7) (d_var 5) (nomark _))))) (ss_one (s_retD d_bl)) ss_nil))))))
    (ss_one (s_retD (d_cmp (op_neG hu) op2_ne (d_fz (d_call (fn_content_key T) (hr.mono (by decide)) rfl (takes_of rfl rfl rfl rfl) (a_cons (d_fz (d_call (fn__law_text T) (hr.mono (by decide)) rfl (takes_of rfl rfl rfl rfl) (a_cons (d_var 1) a_nil))) a_nil))) (d_fz (d_call (fn_content_key T) (hr.mono (by decide)) rfl (takes_of rfl rfl rfl rfl) (a_cons (d_fz (d_call (fn__law_text T) (hr.mono (by decide)) rfl (takes_of rfl rfl rfl rfl) (a_cons (d_varF 3) a_nil))) a_nil))) (nomark _)))))))))) (by rfl)
end Lk01
open PySem PySem.W PyProof.Rows
set_option maxRecDepth 100000 in
set_option maxHeartbeats 0 in
theorem PySem.Challenge.cw_kilnyard_k01_key_of_a_text_holds : PySem.Challenge.rw_kilnyard_k01_key_of_a_text.Holds := by
  w_on; o_law; k_head; (case hw => w_witness2)
  k_fill
  refine Dl.walk (l := PySem.Challenge.rw_kilnyard_k01_key_of_a_text) (k := 4) (x := "_law_script") rfl rfl ⟨rfl, by decide, by decide⟩ (fun w h Y => PySem.W.kIn_of Y) ?F
  case F =>
    intro w mg fa h KX G hmg
    refine Lk01.law_ok KX G hmg ?T
    case T =>
      refine' Lk01.tx_mk KX G ?z_abs ?z_bool ?z_int ?z_isinstance ?z_len ?z_list ?z_ord ?z_range ?z_str ?v_BASE ?v_CHARACTERS ?a_0 ?l_0 ?c_0 ?k_0 ?a_1 ?l_1 ?c_1 ?k_1 ?a_2 ?l_2 ?c_2 ?k_2 ?a_3 ?l_3 ?c_3 ?k_3 ?a_4 ?l_4 ?c_4 ?k_4 ?a_5 ?l_5 ?c_5 ?k_5 ?a_6 ?l_6 ?c_6 ?k_6 ?a_7 ?l_7 ?c_7 ?k_7 ?a_8 ?l_8 ?c_8 ?k_8 ?a_e0 ?x_e0 ?r_e0 ?s_e0 ?e_e0 ?t_e0 ?k_e0 ?u_e0 ?i_e0 ?v_e0 ?ff_e0 ?y_e0 ?l_e0 ?c_e0 ?d_e0 ?w_e0 ?p_e0 ?o_e0 ?qq_e0 ?z_e0 ?g_e0 ?n0_e0
      (case z_abs => k_is)
      (case z_bool => k_is)
      (case z_int => k_is)
      (case z_isinstance => k_is)
      (case z_len => k_is)
      (case z_list => k_is)
      (case z_ord => k_is)
      (case z_range => k_is)
      (case z_str => k_is)
      (case v_BASE => k_is)
      (case v_CHARACTERS => k_is)
      (case a_0 => k_is)
      (case l_0 => k_is)
      (case c_0 => k_is)
      (case k_0 => k_is)
      (case a_1 => k_is)
      (case l_1 => k_is)
      (case c_1 => k_is)
      (case k_1 => k_is)
      (case a_2 => k_is)
      (case l_2 => k_is)
      (case c_2 => k_is)
      (case k_2 => k_is)
      (case a_3 => k_is)
      (case l_3 => k_is)
      (case c_3 => k_is)
      (case k_3 => k_is)
      (case a_4 => k_is)
      (case l_4 => k_is)
      (case c_4 => k_is)
      (case k_4 => k_is)
      (case a_5 => k_is)
      (case l_5 => k_is)
      (case c_5 => k_is)
      (case k_5 => k_is)
      (case a_6 => k_is)
      (case l_6 => k_is)
      (case c_6 => k_is)
      (case k_6 => k_is)
      (case a_7 => k_is)
      (case l_7 => k_is)
      (case c_7 => k_is)
      (case k_7 => k_is)
      (case a_8 => k_is)
      (case l_8 => k_is)
      (case c_8 => k_is)
      (case k_8 => k_is)
      (case a_e0 => k_is)
      (case x_e0 => k_is)
      (case r_e0 => first | rfl | decide +kernel)
      (case s_e0 => k_is)
      (case e_e0 => k_is)
      (case t_e0 => k_is)
      (case k_e0 => k_is)
      (case u_e0 => k_is)
      (case i_e0 => ks_is)
      (case v_e0 => k_is)
      (case ff_e0 => k_is)
      (case y_e0 => k_is)
      (case l_e0 => k_is)
      (case c_e0 => k_is)
      (case d_e0 => k_is)
      (case w_e0 => rfl)
      (case p_e0 => first | rfl | decide +kernel)
      (case o_e0 => k_is)
      (case qq_e0 => k_is)
      (case z_e0 => k_is)
      (case g_e0 => k_is)
      (case n0_e0 => k_is)

