import PyProof.Rows.All
import Wide.All
import OpenK.AllK
import Wide.FinOn
import HandS.ForMost
import HandS.ForExc
import HandS.CallSlots
import HandS.IsInst
import HandS.EndBits
import HandS.StrMore
import HandS.TupAny
import KE.KExcSuper
import HandS.ExcInit
import HandS.Nested
import KE.RegKSuper
import HandS.TryOnly
import HandS.ExcField
import HandS.ExcIs
import KE.KExcIs
import HandS.WordsDict
import HandS.More
import HandS.Conv
import HandS.DictComp
import HandS.SortInts
import HandS.SortKw
import HandS.DeepEq
import HandS.RaiseMore
import KE.DatumOrd
import HandS.Defaults
import HandS.ReplaceLit
import HandS.ReplaceDef
import HandS.ReplaceList
import KE.KTops
import HandS.Flow
import HandS.Codes
import PySem.Challenge.RW_kilnyard_k37_saved_trees_and_settings
set_option Elab.async false
set_option linter.all false
set_option maxRecDepth 100000
/-! The data level: the program's classes by number, the fields of each by place (printed by classes.py). -/
namespace Dl
open PySem
def ctab : List (Str × List Str) := [
  (("BodyReader" : Str), (["path", "lines", "at", "output_count", "statement_count"] : List Str)),
  (("Task" : Str), (["job", "state", "waits", "live"] : List Str)),
  (("Build" : Str), (["_view", "_store", "_hall", "_keep_going", "_outcome", "_tasks", "_attempts", "_contents", "_failures", "_rings", "_ledger"] : List Str)),
  (("Worker" : Str), (["speed", "state", "attempt", "since", "until"] : List Str)),
  (("Crew" : Str), (["_build", "_workers", "_patience", "_tries", "_lost", "_clock"] : List Str)),
  (("BuildError" : Str), ([] : List Str)),
  (("InvalidKey" : Str), (["key"] : List Str)),
  (("InvalidPath" : Str), (["path"] : List Str)),
  (("InvalidContent" : Str), (["path"] : List Str)),
  (("NoEntry" : Str), (["path"] : List Str)),
  (("TreeFull" : Str), (["path"] : List Str)),
  (("InvalidRecipe" : Str), (["path", "line", "column", "reason"] : List Str)),
  (("Held" : Str), (["job"] : List Str)),
  (("BadToken" : Str), (["column", "reason"] : List Str)),
  (("HasRing" : Str), (["names"] : List Str)),
  (("Host" : Str), (["tree", "settings", "journal", "store", "build", "shares", "up"] : List Str)),
  (("House" : Str), (["_hosts", "_hall"] : List Str)),
  (("Journal" : Str), (["_text"] : List Str)),
  (("Outcome" : Str), (["outcome", "contents", "failures", "rings", "jobs"] : List Str)),
  (("PlainView" : Str), (["tree", "book", "settings", "contents"] : List Str)),
  (("PlainBuild" : Str), (["book", "contents", "view", "jobs", "states", "waits", "failures", "rings", "runs", "missing"] : List Str)),
  (("Rule" : Str), (["outputs", "inputs", "sealed", "body"] : List Str)),
  (("Book" : Str), (["settings", "rules", "files"] : List Str)),
  (("BookReader" : Str), (["tree", "book"] : List Str)),
  (("Record" : Str), (["outputs", "rule_key", "needs", "results"] : List Str)),
  (("InvalidRecord" : Str), (["line"] : List Str)),
  (("MissingContent" : Str), (["key"] : List Str)),
  (("NoSuchRecord" : Str), (["index"] : List Str)),
  (("DamagedRecord" : Str), (["index"] : List Str)),
  (("InvalidLength" : Str), (["length"] : List Str)),
  (("InvalidGoals" : Str), (["count_of_goals"] : List Str)),
  (("BuildOver" : Str), ([] : List Str)),
  (("NotReady" : Str), (["name"] : List Str)),
  (("NotRunning" : Str), (["name"] : List Str)),
  (("NoSuchAttempt" : Str), (["attempt"] : List Str)),
  (("InvalidCrew" : Str), ([] : List Str)),
  (("NoSuchWorker" : Str), (["worker"] : List Str)),
  (("WorkerGone" : Str), (["worker"] : List Str)),
  (("WorkerThere" : Str), (["worker"] : List Str)),
  (("WorkerIdle" : Str), (["worker"] : List Str)),
  (("InvalidDelay" : Str), (["moments"] : List Str)),
  (("InvalidHouse" : Str), (["count_of_hosts"] : List Str)),
  (("NoSuchHost" : Str), (["host"] : List Str)),
  (("HostDown" : Str), (["host"] : List Str)),
  (("HostUp" : Str), (["host"] : List Str)),
  (("HostBusy" : Str), (["host"] : List Str)),
  (("NoBuild" : Str), (["host"] : List Str)),
  (("InvalidCount" : Str), (["amount"] : List Str)),
  (("InvalidSetting" : Str), (["name"] : List Str)),
  (("ToolFailure" : Str), (["reason"] : List Str)),
  (("Run" : Str), (["outcome", "outputs", "needs", "steps", "failure", "held"] : List Str)),
  (("Runner" : Str), (["rule", "job", "view", "variables", "texts", "needs", "answers", "steps"] : List Str)),
  (("InvalidSave" : Str), (["line"] : List Str)),
  (("StoreReader" : Str), (["texts", "records", "last_key", "last_index", "count_read"] : List Str)),
  (("Line" : Str), (["path", "number", "tokens", "end_column"] : List Str)),
  (("Store" : Str), (["journal", "_texts", "_rows"] : List Str)),
  (("Job" : Str), (["rule", "stem", "outputs", "inputs"] : List Str)),
  (("Tree" : Str), (["entries"] : List Str)),
  (("View" : Str), (["tree", "book", "settings", "_done"] : List Str))]
def cnm (c : Nat) : Str := (ctab.getD c ("", [])).1
def clay (c : Nat) : List Str := (ctab.getD c ("", [])).2
theorem clay_nd : ∀ c, (clay c).Nodup ∧ (clay c).length ≤ 20 := fun c => by
  by_cases h : c < 59
  · have : ∀ i : Fin 59, (clay i.1).Nodup ∧ (clay i.1).length ≤ 20 := by decide +kernel
    exact this ⟨c, h⟩
  · have e : clay c = [] := by
      unfold clay
      rw [List.getD_eq_getElem?_getD, List.getElem?_eq_none (by show 59 ≤ c; omega)]
      rfl
    rw [e]
    exact ⟨List.nodup_nil, Nat.zero_le _⟩
end Dl

set_option Elab.async false
set_option linter.all false
set_option maxRecDepth 100000
set_option maxHeartbeats 1000000
/-! The data level: plain data, its monad, how it stands for the layer's abstract heap. -/
namespace Dl
open PySem PySem.Spec PyProof.Rows L2
noncomputable section

/-! ### data -/
/-- a key: an int or a text's codes -/
abbrev Ky := Sum Int (List Nat)
def sT (l : List Nat) : Str := ⟨l.toArray⟩
def kT : Ky → Key
  | .inl i => .inl i
  | .inr l => .inr (sT l)
inductive D where
  | non | bl (b : Bool) | int (i : Int) | str (s : List Nat)
  | tup (xs : List D) | lst (xs : List D) | dct (kvs : List (Ky × D))
  | obj (k : Nat)
/-- what a mutable list or dict holds -/
inductive C where
  | lst (xs : List D) | dct (kvs : List (Ky × D))
/-- an exception: its class by number, its fields by place -/
structure Xc where
  cls : Nat
  fs : List D
/-- what a name holds; exn: the exception that is being handled -/
inductive B where
  | dat (d : D) | cel (c : C) | exn (x : Xc)
abbrev En := List (Option B)
/-- what the store holds: an object, or a list or dict that several hold; lck: a dict while it is walked -/
inductive Sc where
  | ob (c : Nat) (fs : List (Option D)) | cel (c : C)
  | lck (kvs : List (Ky × D)) | dead
abbrev So := List Sc
inductive Re (A : Type) where
  | ok (a : A) (en : En) (so : So)
  | exc (x : Xc) (en : En) (so : So)
  | no
abbrev M (A : Type) : Type := En → So → Re A
def C.toD : C → D
  | .lst xs => .lst xs
  | .dct kvs => .dct kvs
def B.toD : B → D
  | .dat d => d
  | .cel c => c.toD
  | .exn _ => .non
section
variable {A A' : Type}
def pu (a : A) : M A := fun en so => .ok a en so
def bd (m : M A) (k : A → M A') : M A' := fun en so => match m en so with
  | .ok a en so => k a en so
  | .exc x en so => .exc x en so
  | .no => .no
def no : M A := fun _ _ => .no
/-- m where c holds -/
def gd (c : Prop) [Decidable c] (m : M A) : M A := fun en so => @ite _ c (Classical.propDecidable c) (m en so) .no
end

/-- a module's names; the exception that is being handled -/
structure Ev where
  mg : Str → Option Value
  hx : Option (Addr × Value × Option Addr)
def hxOf : Bool → Option Value → List (Addr × Obj) → Option (Addr × Value × Option Addr)
  | false, some (.ref a), p :: _ => some (a, p.2.cls, p.2.dict)
  | _, _, _ => none
abbrev _root_.L2.Cx.ev (X : L2.Cx) : Ev := ⟨X.mg, hxOf X.calm X.A.handled X.pn⟩
/-- where no exception is handled -/
theorem ev_none {X : Cx} (h : X.A.handled = none) : X.ev = ⟨X.mg, none⟩ := by
  show Ev.mk X.mg (hxOf X.calm X.A.handled X.pn) = _
  rw [h]
  cases X.calm <;> rfl
theorem ev_calm {X : Cx} (h : X.calm = true) : X.ev = ⟨X.mg, none⟩ := by
  show Ev.mk X.mg (hxOf X.calm X.A.handled X.pn) = _
  rw [h]
  rfl

/-! ### how data stands in a heap -/
mutual
inductive Rep (K : PySem.W.Frag) (F : Hp) (rho : List (Addr × Addr)) : V → D → Prop
  | non : Rep K F rho .non .non
  | bl (b : Bool) : Rep K F rho (.bl b) (.bl b)
  | int (i : Int) : Rep K F rho (.int i) (.int i)
  | str (s : List Nat) : Rep K F rho (.str (sT s)) (.str s)
  | tup {a : Addr} {vs : List V} {ds : List D} : SqT K F a vs → Reps K F rho vs ds → Rep K F rho (.ref a) (.tup ds)
  | lst {a : Addr} {vs : List V} {ds : List D} : SqL K F a vs → Reps K F rho vs ds → Rep K F rho (.ref a) (.lst ds)
  | dct {a : Addr} {kvs : List (Key × V)} {kds : List (Ky × D)} : Rd F a (.dK kvs) → RepK K F rho kvs kds → Rep K F rho (.ref a) (.dct kds)
  | obj {k : Nat} {a dx : Addr} : rho[k]? = some (a, dx) → Rep K F rho (.ref a) (.obj k)
inductive Reps (K : PySem.W.Frag) (F : Hp) (rho : List (Addr × Addr)) : List V → List D → Prop
  | nil : Reps K F rho [] []
  | cons {v : V} {d : D} {vs : List V} {ds : List D} : Rep K F rho v d → Reps K F rho vs ds → Reps K F rho (v :: vs) (d :: ds)
inductive RepK (K : PySem.W.Frag) (F : Hp) (rho : List (Addr × Addr)) : List (Key × V) → List (Ky × D) → Prop
  | nil : RepK K F rho [] []
  | cons {k : Ky} {v : V} {d : D} {vs : List (Key × V)} {ds : List (Ky × D)} : Rep K F rho v d → RepK K F rho vs ds → RepK K F rho ((kT k, v) :: vs) ((k, d) :: ds)
end
theorem same_rd {F F' : Hp} (e : Same F F') {a : Addr} {u : HO} (h : Rd F a u) : Rd F' a u := by
  rcases h with h | ⟨o, h⟩
  · exact .inl (e _ _ h)
  · exact .inr ⟨o, e _ _ h⟩
theorem same_seqT {K : PySem.W.Frag} {F F' : Hp} (e : Same F F') {a : Addr} {xs : List V} (h : SqT K F a xs) : SqT K F' a xs := by
  rcases h with h | h
  · exact .inl (same_rd e h)
  · exact .inr h
def Pre {A : Type} (l l' : List A) : Prop := ∀ (k : Nat) (x : A), l[k]? = some x → l'[k]? = some x
section
variable {K : PySem.W.Frag} {F F' : Hp} {rho rho' : List (Addr × Addr)} (e : Same F F') (p : Pre rho rho')
include e p
mutual
theorem Rep.mono : ∀ {v : V} {d : D}, Rep K F rho v d → Rep K F' rho' v d
  | _, _, .non => .non
  | _, _, .bl b => .bl b
  | _, _, .int i => .int i
  | _, _, .str s => .str s
  | _, _, .tup h r => .tup (same_seqT e h) (Reps.mono r)
  | _, _, .lst h r => .lst (Same.seq e h) (Reps.mono r)
  | _, _, .dct h r => .dct (same_rd e h) (RepK.mono r)
  | _, _, .obj h => .obj (p _ _ h)
theorem Reps.mono : ∀ {vs : List V} {ds : List D}, Reps K F rho vs ds → Reps K F' rho' vs ds
  | _, _, .nil => .nil
  | _, _, .cons h r => .cons (Rep.mono h) (Reps.mono r)
theorem RepK.mono : ∀ {vs : List (Key × V)} {ds : List (Ky × D)}, RepK K F rho vs ds → RepK K F' rho' vs ds
  | _, _, .nil => .nil
  | _, _, .cons h r => .cons (Rep.mono h) (RepK.mono r)
end
end

/-! ### the ghost: what is frozen, who owns an address, where the objects stand, what is to stay -/
inductive Tag where
  | frz | slot (i : Nat) | ob (k : Nat) | dc (k : Nat) | rest | tmp | un | lk
  deriving DecidableEq
structure Gh where
  F : Hp
  own : Addr → Tag
  rho : List (Addr × Addr)
  R : Hp
  /-- what is locked, and for which place of the store -/
  L : Addr → Option (HO × Nat)
structure Gh.le (G G' : Gh) : Prop where
  F : Same G.F G'.F
  rho : Pre G.rho G'.rho
  R : G'.R = G.R
  L : G'.L = G.L
theorem Gh.le.refl (G : Gh) : G.le G := ⟨Same.refl _, fun _ _ h => h, rfl, rfl⟩
theorem Gh.le.trans {G1 G2 G3 : Gh} (a : G1.le G2) (b : G2.le G3) : G1.le G3 := ⟨a.F.trans b.F, fun k x h => b.rho k x (a.rho k x h), b.R.trans a.R, b.L.trans a.L⟩
section
variable (K : PySem.W.Frag) (mg : Ev)
/-- a cell's content at a -/
def CR (G : Gh) (H : Hp) (a : Addr) : C → Prop
  | .lst ds => ∃ vs, H a = some (.lst vs) ∧ Reps K G.F G.rho vs ds
  | .dct kds => ∃ kvs, H a = some (.dK kvs) ∧ RepK K G.F G.rho kvs kds
def RB (G : Gh) (H : Hp) (t : Tag) (v : V) : B → Prop
  | .dat d => Rep K G.F G.rho v d
  | .cel c => ∃ a, v = .ref a ∧ G.own a = t ∧ CR K G H a c
  | .exn _ => False
/-- the fields of an exception of the class c -/
def XFs (G : Gh) (c : Nat) (vs : List (Str × V)) (fs : List D) : Prop := ∀ (i : Nat) (f : Str), (clay c)[i]? = some f → ∃ v d, vs.lookup f = some v ∧ fs[i]? = some d ∧ Rep K G.F G.rho v d
/-- what the i-th name holds -/
def RS (G : Gh) (H : Hp) (i : Nat) (v : V) : B → Prop
  | .dat d => Rep K G.F G.rho v d
  | .cel c => ∃ a, v = .ref a ∧ G.own a = .slot i ∧ CR K G H a c
  | .exn x => ∃ a Ca d, v = .ref a ∧ mg.hx = some (a, .ref Ca, d) ∧ mg.mg (cnm x.cls) = some (.ref Ca) ∧ ((d = none ∧ clay x.cls = []) ∨ ∃ dd vs, d = some dd ∧ G.own dd = .slot i ∧ H dd = some (.xd vs) ∧ XFs K G x.cls vs x.fs)
/-- the fields of an object of the class c -/
structure OF (G : Gh) (c : Nat) (vs : List (Str × V)) (fs : List (Option D)) : Prop where
  len : fs.length = (clay c).length
  at_ : ∀ (i : Nat) (f : Str), (clay c)[i]? = some f → (∀ d, fs[i]? = some (some d) → ∃ v, vs.lookup f = some v ∧ Rep K G.F G.rho v d) ∧ (fs[i]? = some none → vs.lookup f = none)
  out : ∀ f, f ∉ clay c → vs.lookup f = none
  few : vs.length ≤ fs.countP Option.isSome
def ObR (G : Gh) (H : Hp) (k : Nat) (a dx : Addr) : Sc → Prop
  | .ob c fs => G.own a = .ob k ∧ G.own dx = .dc k ∧ (∃ Cl vs, mg.mg (cnm c) = some (.ref Cl) ∧ H a = some (.ins Cl dx vs) ∧ OF K G c vs fs) ∧ H dx = some (.own a)
  | .cel c => G.own a = .ob k ∧ CR K G H a c
  | .lck kds => ∃ o kvs, G.L a = some (.frz o (.dK kvs), k) ∧ RepK K G.F G.rho kvs kds
  | .dead => True
/-- all but the frame -/
structure SimO (G : Gh) (so : So) (H : Hp) : Prop where
  fr : ∀ a o, G.F a = some o → H a = some o ∧ G.own a = .frz
  re : ∀ a o, G.R a = some o → H a = some o ∧ G.own a = .rest
  len : so.length = G.rho.length
  ob : ∀ k o a dx, so[k]? = some o → G.rho[k]? = some (a, dx) → ObR K mg G H k a dx o
  lk : ∀ a o, G.L a = some o → H a = some o.1 ∧ G.own a = .lk
structure Sim (G : Gh) (en : En) (so : So) (σ : L2.St) (H : Hp) : Prop extends SimO K mg G so H where
  ln : en.length = σ.length
  sl : ∀ (i : Nat) (b : B), en[i]? = some (some b) → ∃ v, σ[i]? = some (some v) ∧ RS K mg G H i v b
/-- an exception -/
def XR (G : Gh) (H : Hp) (x : Xc) (Cl : Value) (d : Option Addr) : Prop :=
  ∃ Ca, Cl = .ref Ca ∧ mg.mg (cnm x.cls) = some (.ref Ca) ∧ ((d = none ∧ clay x.cls = []) ∨ ∃ da vs, d = some da ∧ H da = some (.xd vs) ∧ G.own da = .un ∧ XFs K G x.cls vs x.fs)
/-- the reading of a step of the data level: Rl: how its result stands -/
def Post {A A' : Type} (G : Gh) (W : WX) (Rl : Gh → Hp → A' → A → Prop) (σ : L2.St) (r : Re A) (Q : A' → Hp → Prop) : Prop := match r with
  | .ok a en so => ∀ v H' G', G.le G' → Sim K mg G' en so σ H' → Rl G' H' v a → Q v H'
  | .exc x en so => ∀ Cl d H' G', G.le G' → Sim K mg G' en so σ H' → XR K mg G' H' x Cl d → W Cl d σ H'
  | .no => False
def tM {A A' : Type} (W : WX) (Rl : Gh → Hp → A' → A → Prop) (m : M A) : L2.St → Hp → (A' → Hp → Prop) → Prop := fun σ H Q => ∃ G en so, Sim K mg G en so σ H ∧ Post K mg G W Rl σ (m en so) Q
abbrev rlD : Gh → Hp → V → D → Prop := fun G _ v d => Rep K G.F G.rho v d
abbrev rlDs : Gh → Hp → List V → List D → Prop := fun G _ v d => Reps K G.F G.rho v d
abbrev rlB : Gh → Hp → V → B → Prop := fun G H v b => RB K G H .tmp v b
abbrev rlT : Gh → Hp → Bool → Bool → Prop := fun _ _ b c => b = c
/-- how a block or statement ends -/
inductive Fl where
  | nx | rt (b : B) | bk | ct
def SPost (G : Gh) (W : WX) (r : Re Fl) (E : Ends) : Prop := match r with
  | .ok .nx en so => ∀ σ' H' G', G.le G' → Sim K mg G' en so σ' H' → E.nx σ' H'
  | .ok .bk en so => ∀ σ' H' G', G.le G' → Sim K mg G' en so σ' H' → E.bk σ' H'
  | .ok .ct en so => ∀ σ' H' G', G.le G' → Sim K mg G' en so σ' H' → E.ct σ' H'
  | .ok (.rt b) en so => ∀ v σ' H' G', G.le G' → Sim K mg G' en so σ' H' → RB K G' H' .tmp v b → E.rt v H'
  | .exc x en so => ∀ Cl d σ' H' G', G.le G' → Sim K mg G' en so σ' H' → XR K mg G' H' x Cl d → W Cl d σ' H'
  | .no => False
def tS (W : WX) (m : M Fl) : TS := fun E σ H => ∃ G en so, Sim K mg G en so σ H ∧ SPost K mg G W (m en so) E
end
section
variable {K : PySem.W.Frag} {mg : Ev} {A1 A2 A' A'' : Type}
theorem Post.mono {G G1 : Gh} {W : WX} {Rl : Gh → Hp → A' → A1 → Prop} {σ : L2.St} {r : Re A1} {Q : A' → Hp → Prop} (l : G.le G1) (h : Post K mg G W Rl σ r Q) : Post K mg G1 W Rl σ r Q := by
  cases r with
  | ok a en so => exact fun v H' G' l' => h v H' G' (l.trans l')
  | exc x en so => exact fun Cl d H' G' l' => h Cl d H' G' (l.trans l')
  | no => exact h
theorem SPost.mono {G G1 : Gh} {W : WX} {r : Re Fl} {E : Ends} (l : G.le G1) (h : SPost K mg G W r E) : SPost K mg G1 W r E := by
  cases r with
  | ok a en so => cases a with
    | nx => exact fun σ' H' G' l' => h σ' H' G' (l.trans l')
    | bk => exact fun σ' H' G' l' => h σ' H' G' (l.trans l')
    | ct => exact fun σ' H' G' l' => h σ' H' G' (l.trans l')
    | rt b => exact fun v σ' H' G' l' => h v σ' H' G' (l.trans l')
  | exc x en so => exact fun Cl d σ' H' G' l' => h Cl d σ' H' G' (l.trans l')
  | no => exact h
theorem Post.imp {G : Gh} {W : WX} {Rl : Gh → Hp → A' → A1 → Prop} {σ : L2.St} {r : Re A1} {Q Q' : A' → Hp → Prop} (h : Post K mg G W Rl σ r Q) (f : ∀ v H, Q v H → Q' v H) : Post K mg G W Rl σ r Q' := by
  cases r with
  | ok a en so => exact fun v H' G' l s r => f v H' (h v H' G' l s r)
  | exc x en so => exact h
  | no => exact h
/-- one step, then what follows -/
theorem Post.bind {G : Gh} {W : WX} {R1 : Gh → Hp → A' → A1 → Prop} {R2 : Gh → Hp → A'' → A2 → Prop} {m : M A1} {k : A1 → M A2} {en : En} {so : So} {σ : L2.St} {Q : A'' → Hp → Prop} (p : Post K mg G W R2 σ (bd m k en so) Q) :
    Post K mg G W R1 σ (m en so) fun v H1 => ∃ G1 en1 so1 a, G.le G1 ∧ R1 G1 H1 v a ∧ Sim K mg G1 en1 so1 σ H1 ∧ Post K mg G1 W R2 σ (k a en1 so1) Q := by
  unfold bd at p
  unfold Post
  cases e : m en so with
  | ok a en1 so1 =>
    rw [e] at p
    exact fun v H' G' l s' r => ⟨G', en1, so1, a, l, r, s', p.mono l⟩
  | exc x en1 so1 =>
    rw [e] at p
    exact p
  | no =>
    rw [e] at p
    exact p
/-- .. where the follower is a statement's -/
theorem SPost.bind {G : Gh} {W : WX} {R1 : Gh → Hp → A' → A1 → Prop} {m : M A1} {k : A1 → M Fl} {en : En} {so : So} {σ : L2.St} {E : Ends} (p : SPost K mg G W (bd m k en so) E) :
    Post K mg G W R1 σ (m en so) fun v H1 => ∃ G1 en1 so1 a, G.le G1 ∧ R1 G1 H1 v a ∧ Sim K mg G1 en1 so1 σ H1 ∧ SPost K mg G1 W (k a en1 so1) E := by
  unfold bd at p
  unfold Post
  cases e : m en so with
  | ok a en1 so1 =>
    rw [e] at p
    exact fun v H' G' l s' r => ⟨G', en1, so1, a, l, r, s', p.mono l⟩
  | exc x en1 so1 =>
    rw [e] at p
    exact fun Cl d H' G' l s' x' => p Cl d σ H' G' l s' x'
  | no =>
    rw [e] at p
    exact p
theorem Post.ok {G : Gh} {W : WX} {Rl : Gh → Hp → A' → A1 → Prop} {σ : L2.St} {en : En} {so : So} {H : Hp} {Q : A' → Hp → Prop} {a : A1} {v : A'} (h : Post K mg G W Rl σ (.ok a en so) Q) (s : Sim K mg G en so σ H) (r : Rl G H v a) : Q v H := h v H G (.refl G) s r
theorem Post.ok' {G G' : Gh} {W : WX} {Rl : Gh → Hp → A' → A1 → Prop} {σ : L2.St} {en : En} {so : So} {H' : Hp} {Q : A' → Hp → Prop} {a : A1} {v : A'} (h : Post K mg G W Rl σ (.ok a en so) Q) (l : G.le G') (s : Sim K mg G' en so σ H') (r : Rl G' H' v a) : Q v H' := h v H' G' l s r
theorem Post.gd {G : Gh} {W : WX} {Rl : Gh → Hp → A' → A1 → Prop} {σ : L2.St} {c : Prop} [Decidable c] {m : M A1} {en : En} {so : So} {Q : A' → Hp → Prop} (h : Post K mg G W Rl σ (gd c m en so) Q) : c ∧ Post K mg G W Rl σ (m en so) Q := by
  unfold Dl.gd at h
  by_cases hc : c
  · rw [if_pos hc] at h; exact ⟨hc, h⟩
  · rw [if_neg hc] at h; exact False.elim h
theorem Rep.up {G G' : Gh} {v : V} {d : D} (r : Rep K G.F G.rho v d) (l : G.le G') : Rep K G'.F G'.rho v d := r.mono l.F l.rho
theorem Reps.up {G G' : Gh} {v : List V} {d : List D} (r : Reps K G.F G.rho v d) (l : G.le G') : Reps K G'.F G'.rho v d := r.mono l.F l.rho
end

/-! ### the judgements -/
structure DE (X : Cx) (W : WX) (e : Expr) (m : M D) : Prop where
  pe : PE X e (tM X.K X.ev W (rlD X.K) m)
structure DB (X : Cx) (W : WX) (e : Expr) (m : M B) : Prop where
  pe : PE X e (tM X.K X.ev W (rlB X.K) m)
structure DT (X : Cx) (W : WX) (e : Expr) (m : M Bool) : Prop where
  pt : PT X e (tM X.K X.ev W rlT m)
structure DW (X : Cx) (W : WX) (e : Expr) (m : M Bool) : Prop where
  pw : PW X e (tM X.K X.ev W rlT m)
structure DA (X : Cx) (W : WX) (es : List Expr) (m : M (List D)) : Prop where
  pa : PA X es (tM X.K X.ev W (rlDs X.K) m)
structure DS (X : Cx) (W : WX) (st : Stmt) (m : M Fl) : Prop where
  ps : PS X st (tS X.K X.ev W m)
structure DSs (X : Cx) (W : WX) (st : List Stmt) (m : M Fl) : Prop where
  ps : PSs X st (tS X.K X.ev W m)
section
variable {X : Cx}
theorem PE_imp {e : Expr} {t t' : TE} (h : PE X e t) (f : ∀ σ H Q, t' σ H Q → t σ H Q) : PE X e t' := ⟨fun pins s σ H Q I q => h.run pins s σ H Q I (f σ H Q q)⟩
theorem PT_imp {e : Expr} {t t' : TT} (h : PT X e t) (f : ∀ σ H Q, t' σ H Q → t σ H Q) : PT X e t' := ⟨fun pins s σ H Q I q => h.run pins s σ H Q I (f σ H Q q)⟩
theorem PW_imp {e : Expr} {t t' : TT} (h : PW X e t) (f : ∀ σ H Q, t' σ H Q → t σ H Q) : PW X e t' := ⟨fun wh pins s σ H Q I q => h.run wh pins s σ H Q I (f σ H Q q)⟩
theorem PA_imp {es : List Expr} {t t' : TA} (h : PA X es t) (f : ∀ σ H Q, t' σ H Q → t σ H Q) : PA X es t' := ⟨fun pos pins s σ H Q I q => h.run pos pins s σ H Q I (f σ H Q q)⟩
theorem PS_imp {st : Stmt} {t t' : TS} (h : PS X st t) (f : ∀ E σ H, t' E σ H → t E σ H) : PS X st t' := ⟨fun pins s σ H E I q => h.run pins s σ H E I (f E σ H q)⟩
theorem PSs_imp {st : List Stmt} {t t' : TS} (h : PSs X st t) (f : ∀ E σ H, t' E σ H → t E σ H) : PSs X st t' := ⟨fun pins s σ H E I q => h.run pins s σ H E I (f E σ H q)⟩
end
end
end Dl

set_option Elab.async false
set_option linter.all false
set_option maxRecDepth 100000
set_option maxHeartbeats 1000000
/-! The data level: how the ghost changes; names, constants, operators, tests. -/
namespace Dl
open PySem PySem.Spec PyProof.Rows L2
noncomputable section
section
variable {K : PySem.W.Frag} {mg : Ev} {G G' : Gh} {H H' : Hp} {en : En} {so : So} {σ : L2.St}
theorem CR.keep {a : Addr} {c : C} (F : Same G.F G'.F) (rho : Pre G.rho G'.rho) (h : CR K G H a c) (k : ∀ o, H a = some o → H' a = some o) : CR K G' H' a c := by
  cases c with
  | lst ds => obtain ⟨vs, e, r⟩ := h; exact ⟨vs, k _ e, r.mono F rho⟩
  | dct kds => obtain ⟨vs, e, r⟩ := h; exact ⟨vs, k _ e, r.mono F rho⟩
theorem CR.at {a : Addr} {c : C} (h : CR K G H a c) : ∃ o, H a = some o := by
  cases c with
  | lst ds => obtain ⟨vs, e, r⟩ := h; exact ⟨_, e⟩
  | dct kds => obtain ⟨vs, e, r⟩ := h; exact ⟨_, e⟩
theorem RB.keep {t : Tag} {v : V} {b : B} (F : Same G.F G'.F) (rho : Pre G.rho G'.rho) (h : RB K G H t v b) (k : ∀ a o, H a = some o → G.own a = t → H' a = some o ∧ G'.own a = t) : RB K G' H' t v b := by
  cases b with
  | dat d => exact Rep.mono F rho h
  | cel c =>
    obtain ⟨a, e, o, r⟩ := h
    obtain ⟨u, hu⟩ := r.at
    exact ⟨a, e, (k a u hu o).2, r.keep F rho fun x hx => (k a x hx o).1⟩
  | exn _ => exact h
theorem XFs.mono {c : Nat} {vs : List (Str × V)} {fs : List D} (F : Same G.F G'.F) (rho : Pre G.rho G'.rho) (h : XFs K G c vs fs) : XFs K G' c vs fs := fun i f e => by
  obtain ⟨v, d, h1, h2, h3⟩ := h i f e
  exact ⟨v, d, h1, h2, h3.mono F rho⟩
theorem RS.keep {i : Nat} {v : V} {b : B} (F : Same G.F G'.F) (rho : Pre G.rho G'.rho) (h : RS K mg G H i v b) (k : ∀ a o, H a = some o → G.own a = .slot i → H' a = some o ∧ G'.own a = .slot i) : RS K mg G' H' i v b := by
  cases b with
  | dat d => exact Rep.mono F rho h
  | cel c =>
    obtain ⟨a, e, o, r⟩ := h
    obtain ⟨u, hu⟩ := r.at
    exact ⟨a, e, (k a u hu o).2, r.keep F rho fun x hx => (k a x hx o).1⟩
  | exn x =>
    obtain ⟨a, Ca, d, e1, e2, e3, h⟩ := h
    refine ⟨a, Ca, d, e1, e2, e3, h.elim .inl fun ⟨dd, vs, h1, h2, h3, h4⟩ => .inr ⟨dd, vs, h1, (k dd _ h3 h2).2, (k dd _ h3 h2).1, h4.mono F rho⟩⟩
theorem OF.mono {c : Nat} {vs : List (Str × V)} {fs : List (Option D)} (F : Same G.F G'.F) (rho : Pre G.rho G'.rho) (h : OF K G c vs fs) : OF K G' c vs fs :=
  ⟨h.len, fun i f e => ⟨fun d hd => by
    obtain ⟨v, h1, h2⟩ := (h.at_ i f e).1 d hd
    exact ⟨v, h1, h2.mono F rho⟩, (h.at_ i f e).2⟩, h.out, h.few⟩
theorem ObR.keep {k : Nat} {a dx : Addr} {o : Sc} (h : ObR K mg G H k a dx o) (F : Same G.F G'.F) (rho : Pre G.rho G'.rho) (kp : ∀ b u, H b = some u → (G.own b = .ob k ∨ G.own b = .dc k) → H' b = some u ∧ G'.own b = G.own b) (eL : ∀ u, G.L a = some (u, k) → G'.L a = some (u, k) := by intro _ h; exact h) : ObR K mg G' H' k a dx o := by
  cases o with
  | ob cls fs =>
    obtain ⟨oa, od, ⟨Cl, vs, c1, c2, c3⟩, d⟩ := h
    obtain ⟨k1, k2⟩ := kp a _ c2 (.inl oa)
    obtain ⟨k3, k4⟩ := kp dx _ d (.inr od)
    exact ⟨k2.trans oa, k4.trans od, ⟨Cl, vs, c1, k1, c3.mono F rho⟩, k3⟩
  | cel c =>
    obtain ⟨oa, cr⟩ := h
    obtain ⟨u, hu⟩ := cr.at
    exact ⟨(kp a u hu (.inl oa)).2.trans oa, cr.keep F rho fun o e => (kp a o e (.inl oa)).1⟩
  | lck kds =>
    obtain ⟨o, kvs, h1, h2⟩ := h
    exact ⟨o, kvs, eL _ h1, h2.mono F rho⟩
  | dead => trivial
/-- what no change touches -/
theorem SimO.keep (s : SimO K mg G so H) (F : Same G.F G'.F) (er : G'.rho = G.rho) (eR : G'.R = G.R)
    (kp : ∀ a o, H a = some o → G.own a ≠ .tmp → (∀ i, G.own a ≠ .slot i) → H' a = some o ∧ G'.own a = G.own a)
    (nF : ∀ a o, G'.F a = some o → G.F a = some o ∨ (H' a = some o ∧ G'.own a = .frz)) (eL : G'.L = G.L := by rfl) : SimO K mg G' so H' := by
  have pr : Pre G.rho G'.rho := fun k x h => by rw [er]; exact h
  refine ⟨fun a o e => ?_, fun a o e => ?_, by rw [er]; exact s.len, fun k o a dx e1 e2 => ?_, fun a o e => ?_⟩
  · rcases nF a o e with e | e
    · obtain ⟨h1, h2⟩ := s.fr a o e
      obtain ⟨k1, k2⟩ := kp a o h1 (by rw [h2]; intro z; cases z) (by intro i; rw [h2]; intro z; cases z)
      exact ⟨k1, k2.trans h2⟩
    · exact e
  · rw [eR] at e
    obtain ⟨h1, h2⟩ := s.re a o e
    obtain ⟨k1, k2⟩ := kp a o h1 (by rw [h2]; intro z; cases z) (by intro i; rw [h2]; intro z; cases z)
    exact ⟨k1, k2.trans h2⟩
  · rw [er] at e2
    refine (s.ob k o a dx e1 e2).keep F pr (fun b u h1 h2 => kp b u h1 ?_ ?_) (fun u h => by rw [eL]; exact h)
    · rcases h2 with h2 | h2 <;> (rw [h2]; intro z; cases z)
    · intro i; rcases h2 with h2 | h2 <;> (rw [h2]; intro z; cases z)
  · rw [eL] at e
    obtain ⟨h1, h2⟩ := s.lk a o e
    obtain ⟨k1, k2⟩ := kp a _ h1 (by rw [h2]; intro z; cases z) (by intro i; rw [h2]; intro z; cases z)
    exact ⟨k1, k2.trans h2⟩
theorem Sim.keep (s : Sim K mg G en so σ H) (F : Same G.F G'.F) (er : G'.rho = G.rho) (eR : G'.R = G.R)
    (kp : ∀ a o, H a = some o → G.own a ≠ .tmp → H' a = some o ∧ G'.own a = G.own a)
    (nF : ∀ a o, G'.F a = some o → G.F a = some o ∨ (H' a = some o ∧ G'.own a = .frz)) (eL : G'.L = G.L := by rfl) : Sim K mg G' en so σ H' := by
  refine ⟨s.toSimO.keep F er eR (fun a o e h1 _ => kp a o e h1) nF eL, s.ln, fun i b e => ?_⟩
  obtain ⟨v, e1, r⟩ := s.sl i b e
  refine ⟨v, e1, r.keep F (fun k x h => by rw [er]; exact h) fun a o h1 h2 => ?_⟩
  obtain ⟨k1, k2⟩ := kp a o h1 (by rw [h2]; intro z; cases z)
  exact ⟨k1, k2.trans h2⟩
def _root_.Dl.Gh.tag (G : Gh) (p : Addr) (t : Tag) : Gh := { G with own := fun b => if b = p then t else G.own b }
def _root_.Dl.Gh.frzn (G : Gh) (p : Addr) (o : HO) : Gh := { G with F := upd G.F p o, own := fun b => if b = p then .frz else G.own b }
theorem tag_le (p : Addr) (t : Tag) : G.le (G.tag p t) := ⟨Same.refl _, fun _ _ h => h, rfl, rfl⟩
theorem tag_own {p : Addr} {t : Tag} : (G.tag p t).own p = t := by show (if p = p then t else G.own p) = t; rw [if_pos rfl]
theorem tag_ne {p b : Addr} {t : Tag} (h : b ≠ p) : (G.tag p t).own b = G.own b := by show (if b = p then t else G.own b) = _; rw [if_neg h]
/-- a new thing, frozen at once -/
theorem Sim.newF {p : Addr} {o : HO} (s : Sim K mg G en so σ H) (hp : H p = none) : Sim K mg (G.frzn p o) en so σ (upd H p o) ∧ G.le (G.frzn p o) := by
  have nF : G.F p = none := by
    cases e : G.F p with
    | none => rfl
    | some u => rw [(s.fr p u e).1] at hp; cases hp
  have sF : Same G.F (upd G.F p o) := fun b u e => by rw [upd_ne (ne_of_none e nF)]; exact e
  refine ⟨s.keep sF rfl rfl (fun a u e _ => ?_) (fun a u e => ?_), sF, fun _ _ h => h, rfl, rfl⟩
  · have np := ne_of_none e hp
    exact ⟨by rw [upd_ne np]; exact e, if_neg np⟩
  · by_cases hb : a = p
    · subst hb
      have e' : upd G.F a o a = some u := e
      rw [upd_same] at e'
      cases e'
      exact .inr ⟨upd_same, if_pos rfl⟩
    · have e' : upd G.F p o a = some u := e
      rw [upd_ne hb] at e'
      exact .inl e'
/-- a new thing, somebody's -/
theorem Sim.newT {p : Addr} {o : HO} {t : Tag} (s : Sim K mg G en so σ H) (hp : H p = none) : Sim K mg (G.tag p t) en so σ (upd H p o) := by
  refine s.keep (Same.refl _) rfl rfl (fun a u e _ => ?_) (fun a u e => .inl e)
  have np := ne_of_none e hp
  exact ⟨by rw [upd_ne np]; exact e, if_neg np⟩
/-- what a result holds alone is frozen -/
theorem Sim.freeze {a : Addr} {o : HO} (s : Sim K mg G en so σ H) (w : G.own a = .tmp) (h : H a = some o) : Sim K mg (G.frzn a o) en so σ H ∧ G.le (G.frzn a o) := by
  have nF : G.F a = none := by
    cases e : G.F a with
    | none => rfl
    | some u =>
      have := (s.fr a u e).2
      rw [w] at this; cases this
  have sF : Same G.F (upd G.F a o) := fun b u e => by rw [upd_ne (ne_of_none e nF)]; exact e
  refine ⟨s.keep sF rfl rfl (fun b u e q => ?_) (fun b u e => ?_), sF, fun _ _ h => h, rfl, rfl⟩
  · have nb : b ≠ a := fun z => q (by rw [z]; exact w)
    exact ⟨e, if_neg nb⟩
  · by_cases hb : b = a
    · subst hb
      have e' : upd G.F b o b = some u := e
      rw [upd_same] at e'
      cases e'
      exact .inr ⟨h, if_pos rfl⟩
    · have e' : upd G.F a o b = some u := e
      rw [upd_ne hb] at e'
      exact .inl e'
theorem Rep.lstF {K : PySem.W.Frag} {F : Hp} {rho : List (Addr × Addr)} {a : Addr} {vs : List V} {ds : List D} (h : F a = some (.lst vs)) (r : Reps K F rho vs ds) : Rep K F rho (.ref a) (.lst ds) := .lst (SqL.of h) r
/-- a cell's content, frozen, is data -/
theorem Sim.toD {v : V} {b : B} (s : Sim K mg G en so σ H) (r : RB K G H .tmp v b) : ∃ G', G.le G' ∧ Sim K mg G' en so σ H ∧ Rep K G'.F G'.rho v b.toD := by
  cases b with
  | dat d => exact ⟨G, .refl G, s, r⟩
  | exn _ => exact r.elim
  | cel c =>
    obtain ⟨a, rfl, w, cr⟩ := r
    cases c with
    | lst ds =>
      obtain ⟨vs, e, r⟩ := cr
      obtain ⟨s', l⟩ := s.freeze w e
      exact ⟨_, l, s', .lst (SqL.of (show (upd G.F a (.lst vs)) a = _ from upd_same)) (r.mono l.F l.rho)⟩
    | dct kds =>
      obtain ⟨vs, e, r⟩ := cr
      obtain ⟨s', l⟩ := s.freeze w e
      exact ⟨_, l, s', .dct (.inl (show (upd G.F a (.dK vs)) a = _ from upd_same)) (r.mono l.F l.rho)⟩
end

/-! ### names, constants -/
def mV (i : Nat) : M D := fun en so => match en[i]? with
  | some (some (.dat d)) => .ok d en so
  | _ => .no
section
variable {X : Cx} {W : WX}
theorem d_var (i : Nat) {x : Str} {pos : Pos} (hN : X.N[i]? = some x := by rfl) (hv : Vis X.env.scope x := by first | exact Or.inl rfl | exact Or.inr (Or.inl rfl) | exact Or.inr (Or.inr rfl)) (hd : (x == ("__debug__" : Str)) = false := by decide)
    (hcd : (x == ("__classdict__" : Str)) = false := by decide) : DE X W (.Name x pos) (mV i) := by
  refine ⟨PE_imp (pe_var hN hv hd hcd) fun σ H Q h => ?_⟩
  obtain ⟨G, en, so, s, p⟩ := h
  unfold mV at p
  split at p
  · rename_i d e
    obtain ⟨v, e1, r⟩ := s.sl i _ e
    exact ⟨v, e1, p.ok s r⟩
  · exact p.elim
theorem d_c {e : Expr} {v : V} {d : D} (h : PE X e (tC v)) (r : ∀ F rho, Rep X.K F rho v d) : DE X W e (pu d) :=
  ⟨PE_imp h fun σ H Q ⟨G, en, so, s, p⟩ => Post.ok (v := v) p s (r _ _)⟩
theorem d_int {i j pos} : DE X W (.Constant (.int i) j pos) (pu (.int i)) := d_c pe_int fun _ _ => .int i
theorem d_bl {b j pos} : DE X W (.Constant (.bool b) j pos) (pu (.bl b)) := d_c pe_bl fun _ _ => .bl b
theorem d_non {j pos} : DE X W (.Constant .none j pos) (pu .non) := d_c pe_non fun _ _ => .non
theorem sT_tl (x : Str) : sT x.cps.toList = x := TL.mk_tl x
theorem tl_sT (l : List Nat) : (sT l).cps.toList = l := TL.tl_mk l
theorem Rep.of_str {K : PySem.W.Frag} {F : Hp} {rho : List (Addr × Addr)} (x : Str) {l : List Nat} (e : x.cps.toList = l) : Rep K F rho (.str x) (.str l) := by
  subst e
  have := Rep.str (K := K) (F := F) (rho := rho) x.cps.toList
  rwa [sT_tl] at this
theorem d_str {x j pos} {l : List Nat} (e : x.cps.toList = l := by rfl) : DE X W (.Constant (.str x) j pos) (pu (.str l)) := d_c pe_str fun _ _ => .of_str x e
/-- a constant of the module -/
theorem d_gi {x : Str} {i : Int} {pos : Pos} (hg : Gl X x) (hm : ∃ t, X.mg x = some (.int i t)) (hd : (x == ("__debug__" : Str)) = false := by decide) : DE X W (.Name x pos) (pu (.int i)) := by
  obtain ⟨t, hm⟩ := hm
  exact d_c (pe_glob hg hm (v := .int i) ⟨t, rfl⟩ hd) fun _ _ => .int i
theorem d_gs {x : Str} {l : List Nat} {pos : Pos} (hg : Gl X x) (hm : ∃ z t, X.mg x = some (.str z t) ∧ z.cps.toList = l) (hd : (x == ("__debug__" : Str)) = false := by decide) : DE X W (.Name x pos) (pu (.str l)) := by
  obtain ⟨z, t, hm, e⟩ := hm
  exact d_c (pe_glob hg hm (v := .str z) ⟨t, rfl⟩ hd) fun _ _ => .of_str z e
end

/-! ### operators by values -/
/-- r's demands are met where f gives data -/
def Op2 (K : PySem.W.Frag) (mg : Ev) (r : R2) (f : D → D → M D) : Prop :=
  ∀ (x y : V) (d e : D) (G : Gh) (en : En) (so : So) (σ : L2.St) (H : Hp) (W : WX) (Q : VK), Rep K G.F G.rho x d → Rep K G.F G.rho y e → Sim K mg G en so σ H → Post K mg G W (rlD K) σ (f d e en so) Q → r x y H Q
def m2 (f : D → D → M D) (a b : M D) : M D := bd a fun d => bd b fun e => f d e
section
variable {X : Cx} {W : WX} {a b c : Expr} {ma mb mc : M D} {pos : Pos}
/-- two expressions in a row -/
theorem two {f : D → D → M D} {r : R2} (h : Op2 X.K X.ev r f) {σ : L2.St} {H : Hp} {Q : VK} (q : tM X.K X.ev W (rlD X.K) (m2 f ma mb) σ H Q) :
    tOp r (tM X.K X.ev W (rlD X.K) ma) (tM X.K X.ev W (rlD X.K) mb) σ H Q := by
  obtain ⟨G, en, so, s, p⟩ := q
  exact ⟨G, en, so, s, (Post.bind (R1 := rlD X.K) p).imp fun v H1 ⟨G1, en1, so1, d, _, r1, s1, p1⟩ => ⟨G1, en1, so1, s1, (Post.bind (R1 := rlD X.K) p1).imp fun y H2 ⟨G2, en2, so2, e, l2, r2, s2, p2⟩ => h v y d e G2 en2 so2 σ H2 W Q (r1.up l2) r2 s2 p2⟩⟩
theorem d_op {op : Operator} {r : R2} {f : D → D → M D} (ho : OpR X (binaryOp op) r) (h : Op2 X.K X.ev r f) (ha : DE X W a ma) (hb : DE X W b mb) : DE X W (.BinOp a op b pos) (m2 f ma mb) :=
  ⟨PE_imp (pe_op ho ha.pe hb.pe) fun _ _ _ q => two h q⟩
theorem d_cmp {op : CmpOp} {r : R2} {f : D → D → M D} (ho : OpR X (compareOp op) r) (h : Op2 X.K X.ev r f) (ha : DE X W a ma) (hb : DE X W b mb) (hm : behindInMarks op b = false) : DE X W (.Compare a [op] [b] pos) (m2 f ma mb) :=
  ⟨PE_imp (pe_cmpR ho ha.pe hb.pe hm) fun _ _ _ q => two h q⟩
end
end
end Dl

set_option Elab.async false
set_option linter.all false
set_option maxRecDepth 100000
set_option maxHeartbeats 1000000
/-! The data level: operators, tests, calls of built-ins. -/
namespace Dl
open PySem PySem.Spec PyProof.Rows L2
noncomputable section

/-! ### whole numbers, texts -/
def addD : D → D → M D
  | .int a, .int b => pu (.int (a + b))
  | .str a, .str b => gd (a.length + b.length ≤ 16777216) (pu (.str (a ++ b)))
  | _, _ => no
def subD : D → D → M D
  | .int a, .int b => pu (.int (a - b))
  | _, _ => no
def mulD : D → D → M D
  | .int a, .int b => gd ((-(2 ^ 64) < a ∧ a < 2 ^ 64) ∨ (-(2 ^ 64) < b ∧ b < 2 ^ 64)) (pu (.int (a * b)))
  | _, _ => no
def divD : D → D → M D
  | .int a, .int b => gd (0 < b ∧ b < 1073741824) (pu (.int (a / b)))
  | _, _ => no
def modD : D → D → M D
  | .int a, .int b => gd (0 < b) (pu (.int (a % b)))
  | _, _ => no
def ltD : D → D → M D
  | .int a, .int b => pu (.bl (decide (a < b)))
  | _, _ => no
def leD : D → D → M D
  | .int a, .int b => pu (.bl (decide (a ≤ b)))
  | _, _ => no
def gtD : D → D → M D
  | .int a, .int b => pu (.bl (decide (b < a)))
  | _, _ => no
def geD : D → D → M D
  | .int a, .int b => pu (.bl (decide (b ≤ a)))
  | _, _ => no
theorem sT_app (a b : List Nat) : sT a ++ sT b = sT (a ++ b) := TL.ext_tl (by rw [TL.tl_append]; show _ = TL.tl (sT (a ++ b)); simp [TL.tl, sT])
theorem sT_len (a : List Nat) : (sT a).length = a.length := by show (sT a).cps.size = _; simp [sT]
theorem sT_inj {a b : List Nat} (h : sT a = sT b) : a = b := by
  have := congrArg (fun x : Str => x.cps.toList) h
  simpa [sT] using this
theorem sT_eq (a b : List Nat) : (sT a = sT b) ↔ a = b := ⟨sT_inj, fun h => by rw [h]⟩
section
variable {K : PySem.W.Frag} {mg : Ev}
theorem op2_add : Op2 K mg (fun x y H Q => rI0 (fun i j => .int (i + j)) x y H Q ∨ ∃ i j, x = .str i ∧ y = .str j ∧ i.length + j.length ≤ sizeLine ∧ Q (.str (i ++ j)) H) addD := by
  intro x y d e G en so σ H W Q rx ry s p
  cases d <;> cases e <;> try exact False.elim p
  · cases rx; cases ry
    exact .inl ⟨_, _, rfl, rfl, p.ok s (.int _)⟩
  · cases rx; cases ry
    rename_i a b
    obtain ⟨h, p⟩ := Post.gd (c := a.length + b.length ≤ 16777216) p
    refine .inr ⟨_, _, rfl, rfl, ?_, p.ok s (sT_app a b ▸ .str _)⟩
    rw [sT_len, sT_len, sizeLine_eq]; exact h
theorem op2_sub : Op2 K mg (rI0 fun i j => .int (i - j)) subD := by
  intro x y d e G en so σ H W Q rx ry s p
  cases d <;> cases e <;> try exact False.elim p
  cases rx; cases ry
  exact ⟨_, _, rfl, rfl, p.ok s (.int _)⟩
theorem op2_mul : Op2 K mg (rI CMul fun i j => .int (i * j)) mulD := by
  intro x y d e G en so σ H W Q rx ry s p
  cases d <;> cases e <;> try exact False.elim p
  cases rx; cases ry
  rename_i a b
  obtain ⟨h, p⟩ := Post.gd (c := (-(2 ^ 64) < a ∧ a < 2 ^ 64) ∨ (-(2 ^ 64) < b ∧ b < 2 ^ 64)) p
  exact ⟨_, _, rfl, rfl, h, p.ok s (.int _)⟩
theorem op2_div : Op2 K mg (rI CDiv fun i j => .int (i / j)) divD := by
  intro x y d e G en so σ H W Q rx ry s p
  cases d <;> cases e <;> try exact False.elim p
  cases rx; cases ry
  rename_i a b
  obtain ⟨h, p⟩ := Post.gd (c := 0 < b ∧ b < 1073741824) p
  exact ⟨_, _, rfl, rfl, h, p.ok s (.int _)⟩
theorem op2_mod : Op2 K mg (rI (fun _ j => 0 < j) fun i j => .int (i % j)) modD := by
  intro x y d e G en so σ H W Q rx ry s p
  cases d <;> cases e <;> try exact False.elim p
  cases rx; cases ry
  rename_i a b
  obtain ⟨h, p⟩ := Post.gd (c := 0 < b) p
  exact ⟨_, _, rfl, rfl, h, p.ok s (.int _)⟩
theorem op2_lt : Op2 K mg (rI0 fun i j => .bl (decide (i < j))) ltD := by
  intro x y d e G en so σ H W Q rx ry s p
  cases d <;> cases e <;> try exact False.elim p
  cases rx; cases ry
  exact ⟨_, _, rfl, rfl, p.ok s (.bl _)⟩
theorem op2_le : Op2 K mg (rI0 fun i j => .bl (decide (i ≤ j))) leD := by
  intro x y d e G en so σ H W Q rx ry s p
  cases d <;> cases e <;> try exact False.elim p
  cases rx; cases ry
  exact ⟨_, _, rfl, rfl, p.ok s (.bl _)⟩
theorem op2_gt : Op2 K mg (rI0 fun i j => .bl (decide (j < i))) gtD := by
  intro x y d e G en so σ H W Q rx ry s p
  cases d <;> cases e <;> try exact False.elim p
  cases rx; cases ry
  exact ⟨_, _, rfl, rfl, p.ok s (.bl _)⟩
theorem op2_ge : Op2 K mg (rI0 fun i j => .bl (decide (j ≤ i))) geD := by
  intro x y d e G en so σ H W Q rx ry s p
  cases d <;> cases e <;> try exact False.elim p
  cases rx; cases ry
  exact ⟨_, _, rfl, rfl, p.ok s (.bl _)⟩
end

/-! ### tests and truth -/
def mT (m : M D) : M Bool := bd m fun d => match d with
  | .bl b => pu b
  | _ => no
def truD : D → M Bool
  | .non => pu false
  | .bl b => pu b
  | .int i => pu (i != 0)
  | .str s => gd (s.length ≤ 16777216) (pu (s.length != 0))
  | .lst xs => pu (!xs.isEmpty)
  | .tup xs => pu (!xs.isEmpty)
  | _ => no
def mTru (m : M D) : M Bool := bd m truD
def mAnd (a b : M D) : M D := bd a fun d => match d with
  | .bl true => b
  | .bl false => pu (.bl false)
  | _ => no
def mOr (a b : M D) : M D := bd a fun d => match d with
  | .bl true => pu (.bl true)
  | .bl false => b
  | _ => no
def mNot (a : M D) : M D := bd a fun d => match d with
  | .bl b => pu (.bl (!b))
  | _ => no
def tAndM (a b : M Bool) : M Bool := bd a fun c => if c then b else pu false
def tOrM (a b : M Bool) : M Bool := bd a fun c => if c then pu true else b
def tNotM (a : M Bool) : M Bool := bd a fun c => pu (!c)
/-- x op y op' z -/
def mCh (f g : D → D → M D) (a b c : M D) : M D := bd a fun x => bd b fun y => bd (f x y) fun d => match d with
  | .bl true => bd c fun z => g y z
  | .bl false => pu (.bl false)
  | _ => no
section
variable {K : PySem.W.Frag} {F : Hp} {rho : List (Addr × Addr)}
theorem Reps.len : ∀ {vs : List V} {ds : List D}, Reps K F rho vs ds → vs.length = ds.length
  | _, _, .nil => rfl
  | _, _, .cons _ r => by rw [List.length_cons, List.length_cons, Reps.len r]
theorem Reps.isEmpty {vs : List V} {ds : List D} (r : Reps K F rho vs ds) : vs.isEmpty = ds.isEmpty := by cases r <;> rfl
end
section
variable {X : Cx} {W : WX} {a b c e : Expr} {ma mb mc m : M D} {pos : Pos} {rest : List Expr}
theorem SimO.rep {K : PySem.W.Frag} {mg : Ev} {G : Gh} {so : So} {H : Hp} (s : SimO K mg G so H) : Same G.F H := fun a o e => (s.fr a o e).1
/-- a value that is True or False, as a test -/
theorem mT_tr {σ : L2.St} {H : Hp} {Q : Bool → Hp → Prop} (q : tM X.K X.ev W rlT (mT m) σ H Q) : tM X.K X.ev W (rlD X.K) m σ H fun x H1 => ∃ k, x = .bl k ∧ Q k H1 := by
  obtain ⟨G, en, so, s, p⟩ := q
  refine ⟨G, en, so, s, (Post.bind (R1 := rlD X.K) p).imp fun v H1 ⟨G1, en1, so1, d, l, r1, s1, p1⟩ => ?_⟩
  cases d <;> try exact False.elim p1
  cases r1
  exact ⟨_, rfl, p1.ok s1 rfl⟩
theorem d_cmpT {op : CmpOp} {r : R2} {f : D → D → M D} (ho : OpR X (compareOp op) r) (h : Op2 X.K X.ev r f) (ha : DE X W a ma) (hb : DE X W b mb) (hm : behindInMarks op b = false) : DT X W (.Compare a [op] [b] pos) (mT (m2 f ma mb)) := by
  refine ⟨PT_imp (pt_cmpR ho ha.pe hb.pe hm) fun σ H Q q => ?_⟩
  have q1 := mT_tr q
  exact two h q1
theorem ch_tr {r r' : R2} {f g : D → D → M D} (h : Op2 X.K X.ev r f) (h' : Op2 X.K X.ev r' g) {σ : L2.St} {H : Hp} {Q : VK} (q : tM X.K X.ev W (rlD X.K) (mCh f g ma mb mc) σ H Q) :
    tChain r r' (tM X.K X.ev W (rlD X.K) ma) (tM X.K X.ev W (rlD X.K) mb) (tM X.K X.ev W (rlD X.K) mc) σ H Q := by
  obtain ⟨G, en, so, s, p⟩ := q
  refine ⟨G, en, so, s, (Post.bind (R1 := rlD X.K) p).imp fun v H1 ⟨G1, en1, so1, d, _, r1, s1, p1⟩ => ⟨G1, en1, so1, s1, (Post.bind (R1 := rlD X.K) p1).imp fun y H2 ⟨G2, en2, so2, e, l2, r2, s2, p2⟩ => ?_⟩⟩
  refine h v y d e G2 en2 so2 σ H2 W _ (r1.up l2) r2 s2 ((Post.bind (R1 := rlD X.K) p2).imp fun z H3 ⟨G3, en3, so3, k, l3, r3, s3, p3⟩ => ?_)
  cases k <;> try exact False.elim p3
  rename_i k
  cases r3
  refine ⟨k, rfl, ?_⟩
  cases k with
  | false => exact iteF (p3.ok s3 (.bl false))
  | true =>
    refine iteT ⟨G3, en3, so3, s3, (Post.bind (R1 := rlD X.K) p3).imp fun w' H4 ⟨G4, en4, so4, k4, l4, r4, s4, p4⟩ => ?_⟩
    exact h' y w' e k4 G4 en4 so4 σ H4 W Q (r2.up (l3.trans l4)) r4 s4 p4
theorem d_chain {op op' : CmpOp} {r r' : R2} {f g : D → D → M D} (ho : OpR X (compareOp op) r) (ho' : OpR X (compareOp op') r') (h : Op2 X.K X.ev r f) (h' : Op2 X.K X.ev r' g) (ha : DE X W a ma) (hb : DE X W b mb) (hc : DE X W c mc)
    (hm : lastMarks [op, op'] [b, c] = false := by with_unfolding_all rfl) : DE X W (.Compare a [op, op'] [b, c] pos) (mCh f g ma mb mc) :=
  ⟨PE_imp (pe_chain ho ho' ha.pe hb.pe hc.pe hm) fun _ _ _ q => ch_tr h h' q⟩
theorem d_chainT {op op' : CmpOp} {r r' : R2} {f g : D → D → M D} (ho : OpR X (compareOp op) r) (ho' : OpR X (compareOp op') r') (h : Op2 X.K X.ev r f) (h' : Op2 X.K X.ev r' g) (ha : DE X W a ma) (hb : DE X W b mb) (hc : DE X W c mc)
    (hm : lastMarks [op, op'] [b, c] = false := by with_unfolding_all rfl) : DT X W (.Compare a [op, op'] [b, c] pos) (mT (mCh f g ma mb mc)) :=
  ⟨PT_imp (pt_chain ho ho' ha.pe hb.pe hc.pe hm) fun _ _ _ q => ch_tr h h' (mT_tr q)⟩
/-- any other expression as a test, by its truth -/
theorem dt_tru (ha : DE X W a ma) (he : ∀ whole, isTrue a X.env whole = (do let v ← whole; standAt a.pos; holding [v] (truthy v)) := by intro _; rfl) : DT X W a (mTru ma) := by
  refine ⟨PT_imp (pt_truth ha.pe he) fun σ H Q q => ?_⟩
  obtain ⟨G, en, so, s, p⟩ := q
  refine ⟨G, en, so, s, (Post.bind (R1 := rlD X.K) p).imp fun v H1 ⟨G1, en1, so1, d, l, r1, s1, p1⟩ => ?_⟩
  cases d <;> try exact False.elim p1
  · cases r1; exact ⟨_, rfl, p1.ok s1 rfl⟩
  · cases r1; exact ⟨_, rfl, p1.ok s1 rfl⟩
  · cases r1; exact ⟨_, rfl, p1.ok s1 rfl⟩
  · cases r1
    have tr : ∀ (z : List Nat), Post X.K X.ev G1 W rlT σ (truD (.str z) en1 so1) Q → ∃ k, TruV X.K (.str (sT z)) H1 k ∧ Q k H1 := fun z p2 => by
      obtain ⟨h, p3⟩ := Post.gd (c := z.length ≤ 16777216) p2
      refine ⟨z.length != 0, ⟨by rw [sT_len, sizeLine_eq]; exact h, ?_⟩, p3.ok s1 rfl⟩
      rw [sT_len]
      cases z <;> simp
      omega
    exact tr _ p1
  · cases r1 with
    | tup h r => exact ⟨_, .inr (.inl ⟨_, same_seqT s1.toSimO.rep h, rfl⟩), p1.ok s1 (by rw [r.isEmpty])⟩
  · cases r1 with
    | lst h r => exact ⟨_, .inl ⟨_, s1.toSimO.rep.seq h, rfl⟩, p1.ok s1 (by rw [r.isEmpty])⟩
theorem d_one {op} (h : DE X W a ma) : DE X W (.BoolOp op [a] pos) ma := ⟨pe_one h.pe⟩
theorem d_and (ha : DE X W a ma) (hb : DE X W (.BoolOp .And (b :: rest) pos) mb) : DE X W (.BoolOp .And (a :: b :: rest) pos) (mAnd ma mb) := by
  refine ⟨PE_imp (pe_and ha.pe hb.pe) fun σ H Q q => ?_⟩
  obtain ⟨G, en, so, s, p⟩ := q
  refine ⟨G, en, so, s, (Post.bind (R1 := rlD X.K) p).imp fun v H1 ⟨G1, en1, so1, d, l, r1, s1, p1⟩ => ?_⟩
  cases d <;> try exact False.elim p1
  rename_i k
  cases r1
  refine ⟨k, rfl, ?_⟩
  cases k with
  | true => exact iteT ⟨G1, en1, so1, s1, p1⟩
  | false => exact iteF (p1.ok s1 (.bl false))
theorem d_or (ha : DE X W a ma) (hb : DE X W (.BoolOp .Or (b :: rest) pos) mb) : DE X W (.BoolOp .Or (a :: b :: rest) pos) (mOr ma mb) := by
  refine ⟨PE_imp (pe_or ha.pe hb.pe) fun σ H Q q => ?_⟩
  obtain ⟨G, en, so, s, p⟩ := q
  refine ⟨G, en, so, s, (Post.bind (R1 := rlD X.K) p).imp fun v H1 ⟨G1, en1, so1, d, l, r1, s1, p1⟩ => ?_⟩
  cases d <;> try exact False.elim p1
  rename_i k
  cases r1
  refine ⟨k, rfl, ?_⟩
  cases k with
  | true => exact iteT (p1.ok s1 (.bl true))
  | false => exact iteF ⟨G1, en1, so1, s1, p1⟩
theorem d_not (ha : DE X W a ma) : DE X W (.UnaryOp .Not a pos) (mNot ma) := by
  refine ⟨PE_imp (pe_not ha.pe) fun σ H Q q => ?_⟩
  obtain ⟨G, en, so, s, p⟩ := q
  refine ⟨G, en, so, s, (Post.bind (R1 := rlD X.K) p).imp fun v H1 ⟨G1, en1, so1, d, l, r1, s1, p1⟩ => ?_⟩
  cases d <;> try exact False.elim p1
  rename_i k
  cases r1
  exact ⟨k, rfl, p1.ok s1 (.bl _)⟩
variable {ta tb : M Bool}
theorem DW.dt (h : DW X W e tb) : DT X W e tb := ⟨h.pw.pt⟩
theorem w_and1 (h : DT X W a ta) : DW X W (.BoolOp .And [a] pos) ta := ⟨pw_and1 h.pt⟩
theorem w_or1 (h : DT X W a ta) : DW X W (.BoolOp .Or [a] pos) ta := ⟨pw_or1 h.pt⟩
theorem w_and (ha : DT X W a ta) (hb : DW X W (.BoolOp .And (b :: rest) pos) tb) : DW X W (.BoolOp .And (a :: b :: rest) pos) (tAndM ta tb) := by
  refine ⟨PW_imp (pw_and ha.pt hb.pw) fun σ H Q q => ?_⟩
  obtain ⟨G, en, so, s, p⟩ := q
  refine ⟨G, en, so, s, (Post.bind (R1 := rlT) p).imp fun v H1 ⟨G1, en1, so1, k, l, r1, s1, p1⟩ => ?_⟩
  cases r1
  cases v with
  | true => exact iteT ⟨G1, en1, so1, s1, p1⟩
  | false => exact iteF (p1.ok s1 rfl)
theorem w_or (ha : DT X W a ta) (hb : DW X W (.BoolOp .Or (b :: rest) pos) tb) : DW X W (.BoolOp .Or (a :: b :: rest) pos) (tOrM ta tb) := by
  refine ⟨PW_imp (pw_or ha.pt hb.pw) fun σ H Q q => ?_⟩
  obtain ⟨G, en, so, s, p⟩ := q
  refine ⟨G, en, so, s, (Post.bind (R1 := rlT) p).imp fun v H1 ⟨G1, en1, so1, k, l, r1, s1, p1⟩ => ?_⟩
  cases r1
  cases v with
  | true => exact iteT (p1.ok s1 rfl)
  | false => exact iteF ⟨G1, en1, so1, s1, p1⟩
theorem t_not (ha : DT X W a ta) : DT X W (.UnaryOp .Not a pos) (tNotM ta) := by
  refine ⟨PT_imp (pt_not ha.pt) fun σ H Q q => ?_⟩
  obtain ⟨G, en, so, s, p⟩ := q
  refine ⟨G, en, so, s, (Post.bind (R1 := rlT) p).imp fun v H1 ⟨G1, en1, so1, k, l, r1, s1, p1⟩ => ?_⟩
  cases r1
  exact p1.ok s1 rfl
end

/-! ### argument lists, calls of built-ins, methods of built-in types -/
def aN : M (List D) := pu []
def aC (m : M D) (r : M (List D)) : M (List D) := bd m fun d => bd r fun ds => pu (d :: ds)
def OpN (K : PySem.W.Frag) (mg : Ev) (r : List V → Hp → VK → Prop) (f : List D → M D) : Prop :=
  ∀ (xs : List V) (ds : List D) (G : Gh) (en : En) (so : So) (σ : L2.St) (H : Hp) (W : WX) (Q : VK), Reps K G.F G.rho xs ds → Sim K mg G en so σ H → Post K mg G W (rlD K) σ (f ds en so) Q → r xs H Q
/-- .. where a new thing comes out -/
def OpNB (K : PySem.W.Frag) (mg : Ev) (r : List V → Hp → VK → Prop) (f : List D → M B) : Prop :=
  ∀ (xs : List V) (ds : List D) (G : Gh) (en : En) (so : So) (σ : L2.St) (H : Hp) (W : WX) (Q : VK), Reps K G.F G.rho xs ds → Sim K mg G en so σ H → Post K mg G W (rlB K) σ (f ds en so) Q → r xs H Q
section
variable {X : Cx} {W : WX} {a b c e o : Expr} {ma mb mc m : M D} {ms : M (List D)} {pos p : Pos} {es : List Expr} {x : Str} {id : String} {r : List V → Hp → VK → Prop}
theorem a_nil : DA X W [] aN := ⟨PA_imp pa_nil fun σ H Q ⟨G, en, so, s, p⟩ => Post.ok (v := []) p s .nil⟩
theorem a_cons (ha : DE X W e m) (hr : DA X W es ms) (hs : starEach (e :: es) X.env = (false, eval e X.env) :: starEach es X.env := by rfl) : DA X W (e :: es) (aC m ms) := by
  refine ⟨PA_imp (pa_cons ha.pe hr.pa hs) fun σ H Q q => ?_⟩
  obtain ⟨G, en, so, s, p⟩ := q
  refine ⟨G, en, so, s, (Post.bind (R1 := rlD X.K) p).imp fun v H1 ⟨G1, en1, so1, d, _, r1, s1, p1⟩ => ⟨G1, en1, so1, s1, (Post.bind (R1 := rlDs X.K) p1).imp fun y H2 ⟨G2, en2, so2, e, l2, r2, s2, p2⟩ => ?_⟩⟩
  exact p2.ok s2 (.cons (r1.up l2) r2)
theorem d_callB {f : List D → M D} (hc : CallR X (.builtin id) r) (h : OpN X.K X.ev r f) (hg : Gl X x) (hm : X.mg x = none) (hv : bootBuiltins x = some (.builtin id)) (ha : DA X W (e :: es) ms) (hn : x ≠ "__name__" := by decide) (hdb : (x == ("__debug__" : Str)) = false := by decide)
    (he : starEach (e :: es) X.env = (false, eval e X.env) :: starEach es X.env := by rfl) (hpl : (backTo pos (starEach es X.env)).any (·.1) = false := by rfl) : DE X W (.Call (.Name x p) (e :: es) [] pos) (bd ms f) := by
  refine ⟨PE_imp (pe_callB hc hg hm hv ha.pa hn hdb he hpl) fun σ H Q q => ?_⟩
  obtain ⟨G, en, so, s, p⟩ := q
  exact ⟨G, en, so, s, (Post.bind (R1 := rlDs X.K) p).imp fun v H1 ⟨G1, en1, so1, d, _, r1, s1, p1⟩ => h v d G1 en1 so1 σ H1 W Q r1 s1 p1⟩
theorem d_callTy {f : List D → M D} {T : String} (hc : CallR X (.type T) r) (h : OpN X.K X.ev r f) (hg : Gl X x) (hm : X.mg x = none) (hv : bootBuiltins x = some (.type T)) (ha : DA X W (e :: es) ms) (hn : x ≠ "__name__" := by decide) (hdb : (x == ("__debug__" : Str)) = false := by decide)
    (he : starEach (e :: es) X.env = (false, eval e X.env) :: starEach es X.env := by rfl) (hpl : (backTo pos (starEach es X.env)).any (·.1) = false := by rfl) : DE X W (.Call (.Name x p) (e :: es) [] pos) (bd ms f) := by
  refine ⟨PE_imp (pe_callTy hc hg hm hv ha.pa hn hdb he hpl) fun σ H Q q => ?_⟩
  obtain ⟨G, en, so, s, p⟩ := q
  exact ⟨G, en, so, s, (Post.bind (R1 := rlDs X.K) p).imp fun v H1 ⟨G1, en1, so1, d, _, r1, s1, p1⟩ => h v d G1 en1 so1 σ H1 W Q r1 s1 p1⟩
theorem b_callTy {f : List D → M B} {T : String} (hc : CallR X (.type T) r) (h : OpNB X.K X.ev r f) (hg : Gl X x) (hm : X.mg x = none) (hv : bootBuiltins x = some (.type T)) (ha : DA X W (e :: es) ms) (hn : x ≠ "__name__" := by decide) (hdb : (x == ("__debug__" : Str)) = false := by decide)
    (he : starEach (e :: es) X.env = (false, eval e X.env) :: starEach es X.env := by rfl) (hpl : (backTo pos (starEach es X.env)).any (·.1) = false := by rfl) : DB X W (.Call (.Name x p) (e :: es) [] pos) (bd ms f) := by
  refine ⟨PE_imp (pe_callTy hc hg hm hv ha.pa hn hdb he hpl) fun σ H Q q => ?_⟩
  obtain ⟨G, en, so, s, p⟩ := q
  exact ⟨G, en, so, s, (Post.bind (R1 := rlDs X.K) p).imp fun v H1 ⟨G1, en1, so1, d, _, r1, s1, p1⟩ => h v d G1 en1 so1 σ H1 W Q r1 s1 p1⟩
/-- a new thing as data -/
def mFz (m : M B) : M D := bd m fun b => pu b.toD
theorem d_fz {m : M B} (h : DB X W e m) : DE X W e (mFz m) := by
  refine ⟨PE_imp h.pe fun σ H Q q => ?_⟩
  obtain ⟨G, en, so, s, p⟩ := q
  refine ⟨G, en, so, s, (Post.bind (R1 := rlB X.K) p).imp fun v H1 ⟨G1, en1, so1, b, _, r1, s1, p1⟩ => ?_⟩
  obtain ⟨G2, l2, s2, r2⟩ := s1.toD r1
  exact p1.ok' l2 s2 r2
theorem b_dat {m : M D} (h : DE X W e m) : DB X W e (bd m fun d => pu (.dat d)) := by
  refine ⟨PE_imp h.pe fun σ H Q q => ?_⟩
  obtain ⟨G, en, so, s, p⟩ := q
  exact ⟨G, en, so, s, (Post.bind (R1 := rlD X.K) p).imp fun v H1 ⟨G1, en1, so1, d, _, r1, s1, p1⟩ => p1.ok (v := v) s1 r1⟩
end
end
end Dl

set_option Elab.async false
set_option linter.all false
set_option maxRecDepth 100000
set_option maxHeartbeats 1000000
/-! The data level: equality of data, membership. -/
namespace Dl
open PySem PySem.Spec PyProof.Rows L2
noncomputable section
mutual
def eqD : D → D → Bool
  | .non, .non => true
  | .bl a, .bl b => a == b
  | .bl a, .int j => (if a then 1 else 0) == j
  | .int i, .bl b => i == (if b then 1 else 0)
  | .int i, .int j => i == j
  | .str x, .str y => x == y
  | .lst xs, .lst ys => eqDs xs ys
  | .tup xs, .tup ys => eqDs xs ys
  | _, _ => false
def eqDs : List D → List D → Bool
  | [], [] => true
  | x :: xs, y :: ys => eqD x y && eqDs xs ys
  | _, _ => false
end
/-- nothing but texts, numbers, truth values, None, lists and tuples of such, n deep -/
def okq : Nat → D → Bool
  | _, .non => true
  | _, .bl _ => true
  | _, .int _ => true
  | _, .str _ => true
  | n + 1, .lst xs => xs.all (okq n)
  | n + 1, .tup xs => xs.all (okq n)
  | _, _ => false
def eqM (d e : D) : M D := gd (okq 24 d = true ∧ okq 24 e = true) (pu (.bl (eqD d e)))
def neM (d e : D) : M D := gd (okq 24 d = true ∧ okq 24 e = true) (pu (.bl (!eqD d e)))
theorem relV_inj {x y : V} {u : Value} (h : L2.RelV x u) (k : L2.RelV y u) : x = y := by
  cases x <;> cases y <;> simp only [L2.RelV] at h k <;> (first | rfl | (subst h; first | (cases k; done) | (cases k; rfl) | (obtain ⟨t, k⟩ := k; cases k; done)) | (obtain ⟨t, h⟩ := h; subst h; first | (cases k; done) | (obtain ⟨t', k⟩ := k; cases k; first | rfl | done)))
theorem vals_inj : ∀ {xs ys : List V} {us : List Value}, Vals xs us → Vals ys us → xs = ys
  | _, _, _, .nil, .nil => rfl
  | _, _, _, .cons h r, .cons h' r' => by rw [relV_inj h h', vals_inj r r']
section
variable {X : Cx} {pins : List (Addr × Obj)} {σ : L2.St} {H F : Hp} {s : Shared} {rho : List (Addr × Addr)}
theorem sqL_inj (I : Inv X pins σ H s) {a : Addr} {xs ys : List V} (h : SqL X.K H a xs) (k : SqL X.K H a ys) : xs = ys := by
  obtain ⟨its, r, ⟨o, n, e, _, _, dt⟩, _⟩ := I.list h
  obtain ⟨its', r', ⟨o', n', e', _, _, dt'⟩, _⟩ := I.list k
  rw [e] at e'; cases e'
  rw [dt] at dt'; cases dt'
  exact vals_inj r r'
theorem sqT_inj (I : Inv X pins σ H s) {a : Addr} {xs ys : List V} (h : SqT X.K H a xs) (k : SqT X.K H a ys) : xs = ys := by
  obtain ⟨its, r, ⟨o, e, _, n, dt⟩, _⟩ := I.tuple h
  obtain ⟨its', r', ⟨o', e', _, n', dt'⟩, _⟩ := I.tuple k
  rw [e] at e'; cases e'
  rw [dt] at dt'; cases dt'
  exact vals_inj r r'
theorem isL (I : Inv X pins σ H s) {a : Addr} {xs : List V} (h : SqL X.K H a xs) : ∃ its : List Value, Vals xs its ∧ s.heap.IsList a its.toArray := by
  obtain ⟨its, r, p, _⟩ := I.list h
  exact ⟨its, r, p.isList⟩
theorem isT (I : Inv X pins σ H s) {a : Addr} {xs : List V} (h : SqT X.K H a xs) : ∃ its : List Value, Vals xs its ∧ s.heap.IsTuple a its.toArray := by
  obtain ⟨its, r, ⟨o, e, c, n, dt⟩, _⟩ := I.tuple h
  exact ⟨its, r, o, e, c, n, dt⟩
theorem no_LT (I : Inv X pins σ H s) {a : Addr} {xs ys : List V} (h : SqL X.K H a xs) (k : SqT X.K H a ys) : False := by
  obtain ⟨_, _, h1⟩ := isL I h
  obtain ⟨_, _, h2⟩ := isT I k
  exact SeqAt.ne_of_list_tuple h1 h2 rfl
mutual
theorem eq_self (I : Inv X pins σ H s) (sf : Same F H) : ∀ (n : Nat) (d e : D) (v : V), okq n d = true → okq n e = true → Rep X.K F rho v d → Rep X.K F rho v e → eqD d e = true
  | n, .non, .non, _, _, _, _, _ => rfl
  | n, .bl a, .bl b, _, _, _, h, k => by cases h; cases k; simp [eqD]
  | n, .int a, .int b, _, _, _, h, k => by cases h; cases k; simp [eqD]
  | n, .str a, .str b, v, _, _, h, k => by
    cases h
    generalize hv : V.str (sT a) = v at k
    cases k
    simp [eqD, sT_inj (V.str.inj hv)]
  | n + 1, .lst ds, .lst es, _, o1, o2, h, k => by
    cases h with
    | lst h r =>
      cases k with
      | lst h' r' =>
        have e1 := sqL_inj I (sf.seq h) (sf.seq h')
        subst e1
        exact eqs_self I sf n _ _ _ o1 o2 r r'
  | n + 1, .tup ds, .tup es, _, o1, o2, h, k => by
    cases h with
    | tup h r =>
      cases k with
      | tup h' r' =>
        have e1 := sqT_inj I (same_seqT sf h) (same_seqT sf h')
        subst e1
        exact eqs_self I sf n _ _ _ o1 o2 r r'
  | n, .lst ds, .tup es, _, o1, o2, h, k => by
    cases h with
    | lst h r =>
      cases k with
      | tup h' r' => exact (no_LT I (sf.seq h) (same_seqT sf h')).elim
  | n, .tup ds, .lst es, _, o1, o2, h, k => by
    cases h with
    | tup h r =>
      cases k with
      | lst h' r' => exact (no_LT I (sf.seq h') (same_seqT sf h)).elim
  | 0, .lst _, _, _, o1, _, _, _ => nomatch o1
  | 0, .tup _, _, _, o1, _, _, _ => nomatch o1
  | n, .dct _, _, _, o1, _, _, _ => by cases n <;> cases o1
  | n, .obj _, _, _, o1, _, _, _ => by cases n <;> cases o1
  | n, _, .dct _, _, _, o2, _, _ => by cases n <;> cases o2
  | n, _, .obj _, _, _, o2, _, _ => by cases n <;> cases o2
  | _, .non, .bl _, _, _, _, h, k => by cases h; cases k
  | _, .non, .int _, _, _, _, h, k => by cases h; cases k
  | _, .non, .str _, _, _, _, h, k => by cases h; cases k
  | _, .non, .lst _, _, _, _, h, k => by cases h; cases k
  | _, .non, .tup _, _, _, _, h, k => by cases h; cases k
  | _, .bl _, .non, _, _, _, h, k => by cases h; cases k
  | _, .bl _, .int _, _, _, _, h, k => by cases h; cases k
  | _, .bl _, .str _, _, _, _, h, k => by cases h; cases k
  | _, .bl _, .lst _, _, _, _, h, k => by cases h; cases k
  | _, .bl _, .tup _, _, _, _, h, k => by cases h; cases k
  | _, .int _, .non, _, _, _, h, k => by cases h; cases k
  | _, .int _, .bl _, _, _, _, h, k => by cases h; cases k
  | _, .int _, .str _, _, _, _, h, k => by cases h; cases k
  | _, .int _, .lst _, _, _, _, h, k => by cases h; cases k
  | _, .int _, .tup _, _, _, _, h, k => by cases h; cases k
  | _, .str _, .non, _, _, _, h, k => by cases h; cases k
  | _, .str _, .bl _, _, _, _, h, k => by cases h; cases k
  | _, .str _, .int _, _, _, _, h, k => by cases h; cases k
  | _, .str _, .lst _, _, _, _, h, k => by cases h; cases k
  | _, .str _, .tup _, _, _, _, h, k => by cases h; cases k
  | _, .lst _, .non, _, _, _, h, k => by cases h; cases k
  | _, .lst _, .bl _, _, _, _, h, k => by cases h; cases k
  | _, .lst _, .int _, _, _, _, h, k => by cases h; cases k
  | _, .lst _, .str _, _, _, _, h, k => by cases h; cases k
  | _, .tup _, .non, _, _, _, h, k => by cases h; cases k
  | _, .tup _, .bl _, _, _, _, h, k => by cases h; cases k
  | _, .tup _, .int _, _, _, _, h, k => by cases h; cases k
  | _, .tup _, .str _, _, _, _, h, k => by cases h; cases k
theorem eqs_self (I : Inv X pins σ H s) (sf : Same F H) : ∀ (n : Nat) (ds es : List D) (vs : List V), ds.all (okq n) = true → es.all (okq n) = true → Reps X.K F rho vs ds → Reps X.K F rho vs es → eqDs ds es = true
  | n, [], [], _, _, _, _, _ => rfl
  | n, [], _ :: _, _, _, _, h, k => by cases h; cases k
  | n, _ :: _, [], _, _, _, h, k => by cases h; cases k
  | n, d :: ds, e :: es, _, o1, o2, h, k => by
    rw [List.all_cons, Bool.and_eq_true] at o1 o2
    cases h with
    | cons h r =>
      cases k with
      | cons h' r' =>
        show (_ && _) = true
        rw [eq_self I sf n _ _ _ o1.1 o2.1 h h', eqs_self I sf n _ _ _ o1.2 o2.2 r r']
        rfl
end
theorem range_all (f : Nat → Bool) (n : Nat) : (List.range (n + 1)).all f = (f 0 && (List.range n).all fun j => f (j + 1)) := by
  rw [List.range_succ_eq_map, List.all_cons, List.all_map]
  rfl
def pairEq (ds es : List D) (j : Nat) : Bool := match ds[j]?, es[j]? with
  | some d, some e => eqD d e
  | _, _ => false
theorem pairs_all : ∀ (ds es : List D), ((List.range (min ds.length es.length)).all (pairEq ds es) && ds.length == es.length) = eqDs ds es
  | [], [] => rfl
  | [], _ :: _ => by simp [eqDs]
  | _ :: _, [] => by simp [eqDs]
  | d :: ds, e :: es => by
    rw [List.length_cons, List.length_cons, Nat.add_min_add_right, range_all]
    have ih := pairs_all ds es
    have e1 : (fun j => pairEq (d :: ds) (e :: es) (j + 1)) = pairEq ds es := by
      funext j
      simp [pairEq]
    have e2 : (ds.length + 1 == es.length + 1) = (ds.length == es.length) := by
      rw [Bool.eq_iff_iff]; simp
    rw [e1, e2, Bool.and_assoc, ih]
    rfl
end
theorem vals_at {F : Hp} {K : PySem.W.Frag} {rho : List (Addr × Addr)} : ∀ {vs : List V} {ds : List D} {us : List Value}, Reps K F rho vs ds → Vals vs us → ∀ (j : Nat) (h : j < us.length), ∃ x d, ds[j]? = some d ∧ Rep K F rho x d ∧ L2.RelV x us[j]
  | _, _, _, .nil, .nil, j, h => absurd h (Nat.not_lt_zero _)
  | _, _, _, .cons h1 r, .cons v1 v, 0, h => ⟨_, _, rfl, h1, v1⟩
  | _, _, _, .cons h1 r, .cons v1 v, j + 1, h => by
    obtain ⟨x, d, e2, e3, e4⟩ := vals_at r v j (by simpa using h)
    exact ⟨x, d, by simpa using e2, e3, by simpa using e4⟩
theorem eqD_lens {ds es : List D} (h : ds.length ≠ es.length) : eqDs ds es = false := by
  rw [← pairs_all]
  have : (ds.length == es.length) = false := by simpa using h
  rw [this, Bool.and_false]
section
variable {X : Cx} {pins : List (Addr × Obj)} {σ : L2.St} {H F : Hp} {s : Shared} {rho : List (Addr × Addr)}
theorem units1 {A : Around} : A.in1.units = A.units + 1 := rfl
theorem all_get {f : D → Bool} {ds : List D} (h : ds.all f = true) {j : Nat} {d : D} (e : ds[j]? = some d) : f d = true := List.all_eq_true.mp h d (List.mem_of_getElem? e)
theorem sT_beq (a b : List Nat) : (sT a == sT b) = (a == b) := by rw [Bool.eq_iff_iff]; simp [sT_eq]
/-- texts, numbers, truth values, None -/
theorem eqAt_S {A : Around} : ∀ (d e : D) {x y : V} {u v : Value}, okq 0 d = true → okq 0 e = true → Rep X.K F rho x d → Rep X.K F rho y e → L2.RelV x u → L2.RelV y v → SeqAt.EqAt A s u v (eqD d e) := by
  intro d e x y u v o1 o2 h k r1 r2
  exact match d, e, h, k, r1, r2 with
  | .non, .non, h, k, r1, r2 => by
    cases h; cases r1
    cases k; cases r2
    exact SeqAt.EqAt.same _
  | .non, .bl b, h, k, r1, r2 => by
    cases h; cases r1
    cases k; cases r2
    exact SeqAt.EqAt.none_bool _
  | .non, .int b, h, k, r1, r2 => by
    cases h; cases r1
    cases k; obtain ⟨t2, rfl⟩ := r2
    exact SeqAt.EqAt.none_int _ _
  | .non, .str b, h, k, r1, r2 => by
    cases h; cases r1
    cases k; obtain ⟨t2, rfl⟩ := r2
    exact SeqAt.EqAt.none_str _ _
  | .bl a, .non, h, k, r1, r2 => by
    cases h; cases r1
    cases k; cases r2
    exact SeqAt.EqAt.bool_none _
  | .bl a, .bl b, h, k, r1, r2 => by
    cases h; cases r1
    cases k; cases r2
    exact SeqAt.EqAt.bool_bool _ _
  | .bl a, .int b, h, k, r1, r2 => by
    cases h; cases r1
    cases k; obtain ⟨t2, rfl⟩ := r2
    exact SeqAt.EqAt.bool_int _ _ _
  | .bl a, .str b, h, k, r1, r2 => by
    cases h; cases r1
    cases k; obtain ⟨t2, rfl⟩ := r2
    exact SeqAt.EqAt.bool_str _ _ _
  | .int a, .non, h, k, r1, r2 => by
    cases h; obtain ⟨t, rfl⟩ := r1
    cases k; cases r2
    exact SeqAt.EqAt.int_none _ _
  | .int a, .bl b, h, k, r1, r2 => by
    cases h; obtain ⟨t, rfl⟩ := r1
    cases k; cases r2
    exact SeqAt.EqAt.int_bool _ _ _
  | .int a, .int b, h, k, r1, r2 => by
    cases h; obtain ⟨t, rfl⟩ := r1
    cases k; obtain ⟨t2, rfl⟩ := r2
    exact SeqAt.EqAt.int_int _ _ _ _
  | .int a, .str b, h, k, r1, r2 => by
    cases h; obtain ⟨t, rfl⟩ := r1
    cases k; obtain ⟨t2, rfl⟩ := r2
    exact SeqAt.EqAt.int_str _ _ _ _
  | .str a, .non, h, k, r1, r2 => by
    cases h; obtain ⟨t, rfl⟩ := r1
    cases k; cases r2
    exact SeqAt.EqAt.str_none _ _
  | .str a, .bl b, h, k, r1, r2 => by
    cases h; obtain ⟨t, rfl⟩ := r1
    cases k; cases r2
    exact SeqAt.EqAt.str_bool _ _ _
  | .str a, .int b, h, k, r1, r2 => by
    cases h; obtain ⟨t, rfl⟩ := r1
    cases k; obtain ⟨t2, rfl⟩ := r2
    exact SeqAt.EqAt.str_int _ _ _ _
  | .str a, .str b, h, k, r1, r2 => by
    cases h; obtain ⟨t, rfl⟩ := r1
    cases k; obtain ⟨t2, rfl⟩ := r2
    have q := SeqAt.EqAt.str_str (A := A) (s := s) (sT a) t (sT b) t2
    rw [sT_beq] at q
    exact q
  | .lst _, _, _, _, _, _ => nomatch o1
  | .tup _, _, _, _, _, _ => nomatch o1
  | .dct _, _, _, _, _, _ => nomatch o1
  | .obj _, _, _, _, _, _ => nomatch o1
  | _, .lst _, _, _, _, _ => nomatch o2
  | _, .tup _, _, _, _, _ => nomatch o2
  | _, .dct _, _, _, _, _ => nomatch o2
  | _, .obj _, _, _, _, _ => nomatch o2
theorem okq_cases {n : Nat} {d : D} (h : okq n d = true) : okq 0 d = true ∨ ∃ m, n = m + 1 ∧ ∃ ds, (d = .lst ds ∨ d = .tup ds) ∧ ds.all (okq m) = true := by
  cases d with
  | lst ds =>
    cases n with
    | zero => cases h
    | succ m => exact .inr ⟨m, rfl, ds, .inl rfl, h⟩
  | tup ds =>
    cases n with
    | zero => cases h
    | succ m => exact .inr ⟨m, rfl, ds, .inr rfl, h⟩
  | dct _ => cases n <;> cases h
  | obj _ => cases n <;> cases h
  | _ => exact .inl rfl
/-- equal as the model's eqBool says -/
theorem eqAt_D (I : Inv X pins σ H s) (sf : Same F H) : ∀ (n : Nat) (A : Around), A.units + n < cLine → ∀ (d e : D) (x y : V) (u v : Value), okq n d = true → okq n e = true → Rep X.K F rho x d → Rep X.K F rho y e → L2.RelV x u → L2.RelV y v → SeqAt.EqAt A s u v (eqD d e)
  | 0, A, hu, d, e, x, y, u, v, o1, o2, h, k, r1, r2 => eqAt_S d e o1 o2 h k r1 r2
  | n + 1, A, hu, d, e, x, y, u, v, o1, o2, h, k, r1, r2 => by
   have hu : A.units < cLine := by omega
   have hun : A.in1.units + n < cLine := by rw [units1]; omega
   exact match d, e, h, k, r1, r2 with
  | .non, .non, h, k, r1, r2 => by
    cases h; cases r1
    cases k; cases r2
    exact SeqAt.EqAt.same _
  | .non, .bl b, h, k, r1, r2 => by
    cases h; cases r1
    cases k; cases r2
    exact SeqAt.EqAt.none_bool _
  | .non, .int b, h, k, r1, r2 => by
    cases h; cases r1
    cases k; obtain ⟨t2, rfl⟩ := r2
    exact SeqAt.EqAt.none_int _ _
  | .non, .str b, h, k, r1, r2 => by
    cases h; cases r1
    cases k; obtain ⟨t2, rfl⟩ := r2
    exact SeqAt.EqAt.none_str _ _
  | .bl a, .non, h, k, r1, r2 => by
    cases h; cases r1
    cases k; cases r2
    exact SeqAt.EqAt.bool_none _
  | .bl a, .bl b, h, k, r1, r2 => by
    cases h; cases r1
    cases k; cases r2
    exact SeqAt.EqAt.bool_bool _ _
  | .bl a, .int b, h, k, r1, r2 => by
    cases h; cases r1
    cases k; obtain ⟨t2, rfl⟩ := r2
    exact SeqAt.EqAt.bool_int _ _ _
  | .bl a, .str b, h, k, r1, r2 => by
    cases h; cases r1
    cases k; obtain ⟨t2, rfl⟩ := r2
    exact SeqAt.EqAt.bool_str _ _ _
  | .int a, .non, h, k, r1, r2 => by
    cases h; obtain ⟨t, rfl⟩ := r1
    cases k; cases r2
    exact SeqAt.EqAt.int_none _ _
  | .int a, .bl b, h, k, r1, r2 => by
    cases h; obtain ⟨t, rfl⟩ := r1
    cases k; cases r2
    exact SeqAt.EqAt.int_bool _ _ _
  | .int a, .int b, h, k, r1, r2 => by
    cases h; obtain ⟨t, rfl⟩ := r1
    cases k; obtain ⟨t2, rfl⟩ := r2
    exact SeqAt.EqAt.int_int _ _ _ _
  | .int a, .str b, h, k, r1, r2 => by
    cases h; obtain ⟨t, rfl⟩ := r1
    cases k; obtain ⟨t2, rfl⟩ := r2
    exact SeqAt.EqAt.int_str _ _ _ _
  | .str a, .non, h, k, r1, r2 => by
    cases h; obtain ⟨t, rfl⟩ := r1
    cases k; cases r2
    exact SeqAt.EqAt.str_none _ _
  | .str a, .bl b, h, k, r1, r2 => by
    cases h; obtain ⟨t, rfl⟩ := r1
    cases k; cases r2
    exact SeqAt.EqAt.str_bool _ _ _
  | .str a, .int b, h, k, r1, r2 => by
    cases h; obtain ⟨t, rfl⟩ := r1
    cases k; obtain ⟨t2, rfl⟩ := r2
    exact SeqAt.EqAt.str_int _ _ _ _
  | .str a, .str b, h, k, r1, r2 => by
    cases h; obtain ⟨t, rfl⟩ := r1
    cases k; obtain ⟨t2, rfl⟩ := r2
    have q := SeqAt.EqAt.str_str (A := A) (s := s) (sT a) t (sT b) t2
    rw [sT_beq] at q
    exact q
  | .lst ds, .non, h, k, r1, r2 => by
    cases h with
    | lst q r =>
      cases k; cases r2
      cases r1
      obtain ⟨its, rv, hl⟩ := isL I (sf.seq q)
      exact SeqAt.EqAt.list_none hl hu
  | .non, .lst es, h, k, r1, r2 => by
    cases k with
    | lst q r =>
      cases h; cases r1
      cases r2
      obtain ⟨its, rv, hl⟩ := isL I (sf.seq q)
      exact SeqAt.EqAt.none_list hl hu
  | .lst ds, .bl b, h, k, r1, r2 => by
    cases h with
    | lst q r =>
      cases k; cases r2
      cases r1
      obtain ⟨its, rv, hl⟩ := isL I (sf.seq q)
      exact SeqAt.EqAt.list_bool _ hl hu
  | .bl b, .lst es, h, k, r1, r2 => by
    cases k with
    | lst q r =>
      cases h; cases r1
      cases r2
      obtain ⟨its, rv, hl⟩ := isL I (sf.seq q)
      exact SeqAt.EqAt.bool_list _ hl hu
  | .lst ds, .int b, h, k, r1, r2 => by
    cases h with
    | lst q r =>
      cases k; obtain ⟨t2, rfl⟩ := r2
      cases r1
      obtain ⟨its, rv, hl⟩ := isL I (sf.seq q)
      exact SeqAt.EqAt.list_int _ _ hl hu
  | .int b, .lst es, h, k, r1, r2 => by
    cases k with
    | lst q r =>
      cases h; obtain ⟨t, rfl⟩ := r1
      cases r2
      obtain ⟨its, rv, hl⟩ := isL I (sf.seq q)
      exact SeqAt.EqAt.int_list _ _ hl hu
  | .lst ds, .str b, h, k, r1, r2 => by
    cases h with
    | lst q r =>
      cases k; obtain ⟨t2, rfl⟩ := r2
      cases r1
      obtain ⟨its, rv, hl⟩ := isL I (sf.seq q)
      exact SeqAt.EqAt.list_str _ _ hl hu
  | .str b, .lst es, h, k, r1, r2 => by
    cases k with
    | lst q r =>
      cases h; obtain ⟨t, rfl⟩ := r1
      cases r2
      obtain ⟨its, rv, hl⟩ := isL I (sf.seq q)
      exact SeqAt.EqAt.str_list _ _ hl hu
  | .tup ds, .non, h, k, r1, r2 => by
    cases h with
    | tup q r =>
      cases k; cases r2
      cases r1
      obtain ⟨its, rv, hl⟩ := isT I (same_seqT sf q)
      exact SeqAt.EqAt.tuple_none hl hu
  | .non, .tup es, h, k, r1, r2 => by
    cases k with
    | tup q r =>
      cases h; cases r1
      cases r2
      obtain ⟨its, rv, hl⟩ := isT I (same_seqT sf q)
      exact SeqAt.EqAt.none_tuple hl hu
  | .tup ds, .bl b, h, k, r1, r2 => by
    cases h with
    | tup q r =>
      cases k; cases r2
      cases r1
      obtain ⟨its, rv, hl⟩ := isT I (same_seqT sf q)
      exact SeqAt.EqAt.tuple_bool _ hl hu
  | .bl b, .tup es, h, k, r1, r2 => by
    cases k with
    | tup q r =>
      cases h; cases r1
      cases r2
      obtain ⟨its, rv, hl⟩ := isT I (same_seqT sf q)
      exact SeqAt.EqAt.bool_tuple _ hl hu
  | .tup ds, .int b, h, k, r1, r2 => by
    cases h with
    | tup q r =>
      cases k; obtain ⟨t2, rfl⟩ := r2
      cases r1
      obtain ⟨its, rv, hl⟩ := isT I (same_seqT sf q)
      exact SeqAt.EqAt.tuple_int _ _ hl hu
  | .int b, .tup es, h, k, r1, r2 => by
    cases k with
    | tup q r =>
      cases h; obtain ⟨t, rfl⟩ := r1
      cases r2
      obtain ⟨its, rv, hl⟩ := isT I (same_seqT sf q)
      exact SeqAt.EqAt.int_tuple _ _ hl hu
  | .tup ds, .str b, h, k, r1, r2 => by
    cases h with
    | tup q r =>
      cases k; obtain ⟨t2, rfl⟩ := r2
      cases r1
      obtain ⟨its, rv, hl⟩ := isT I (same_seqT sf q)
      exact SeqAt.EqAt.tuple_str _ _ hl hu
  | .str b, .tup es, h, k, r1, r2 => by
    cases k with
    | tup q r =>
      cases h; obtain ⟨t, rfl⟩ := r1
      cases r2
      obtain ⟨its, rv, hl⟩ := isT I (same_seqT sf q)
      exact SeqAt.EqAt.str_tuple _ _ hl hu
  | .lst ds, .tup es, h, k, r1, r2 => by
    cases h with
    | lst q r =>
      cases k with
      | tup q' r' =>
        cases r1
        cases r2
        obtain ⟨its, rv, hl⟩ := isL I (sf.seq q)
        obtain ⟨its', rv', hl'⟩ := isT I (same_seqT sf q')
        exact SeqAt.EqAt.list_tuple hl hl' hu
  | .tup ds, .lst es, h, k, r1, r2 => by
    cases h with
    | tup q r =>
      cases k with
      | lst q' r' =>
        cases r1
        cases r2
        obtain ⟨its, rv, hl⟩ := isT I (same_seqT sf q)
        obtain ⟨its', rv', hl'⟩ := isL I (sf.seq q')
        exact SeqAt.EqAt.tuple_list hl hl' hu
  | .lst ds, .lst es, h, k, r1, r2 => by
    cases h with
    | @lst a vs _ q r =>
      cases k with
      | @lst b ws _ q' r' =>
        cases r1
        cases r2
        obtain ⟨its, rv, hl⟩ := isL I (sf.seq q)
        obtain ⟨its', rv', hl'⟩ := isL I (sf.seq q')
        have hd : (List.range (min its.toArray.size its'.toArray.size)).all (pairEq ds es) = (List.range (min ds.length es.length)).all (pairEq ds es) := by rw [List.size_toArray, List.size_toArray, ← rv.length, ← rv'.length, r.len, r'.len]
        have he : ∀ j (h1 : j < its.toArray.size) (h2 : j < its'.toArray.size), SeqAt.EqAt A.in1 s its.toArray[j] its'.toArray[j] (pairEq ds es j) := fun j h1 h2 => by
          obtain ⟨x1, d1, e1, p1, q1⟩ := vals_at r rv j (by simpa using h1)
          obtain ⟨x2, d2, e2, p2, q2⟩ := vals_at r' rv' j (by simpa using h2)
          unfold pairEq
          rw [e1, e2]
          exact eqAt_D I sf n A.in1 hun d1 d2 x1 x2 _ _ (all_get o1 e1) (all_get o2 e2) p1 p2 (by simpa using q1) (by simpa using q2)
        have q0 : SeqAt.RcAt A s (.ref a) (.ref b) (eqDs ds es) := by
          by_cases hz : ds.length = es.length
          · have hz2 : its.toArray.size = its'.toArray.size := by rw [List.size_toArray, List.size_toArray, ← rv.length, ← rv'.length, r.len, r'.len, hz]
            have q0 := SeqAt.RcAt.lists hl hl' hz2 hu he
            have hm : its.toArray.size = min its.toArray.size its'.toArray.size := by omega
            rw [hm, hd] at q0
            have q1 := pairs_all ds es
            have hz3 : (ds.length == es.length) = true := by simpa using hz
            rw [hz3, Bool.and_true] at q1
            rw [q1] at q0
            exact q0
          · rw [eqD_lens hz]
            exact SeqAt.RcAt.lists_lengths hl hl' (by rw [List.size_toArray, List.size_toArray, ← rv.length, ← rv'.length, r.len, r'.len]; simpa using hz) hu
        by_cases hab : a = b
        · subst hab
          have e1 := sqL_inj I (sf.seq q) (sf.seq q')
          subst e1
          show SeqAt.EqAt A s _ _ (eqDs ds es)
          rw [eqs_self I sf n _ _ _ o1 o2 r r']
          exact SeqAt.EqAt.same _
        · exact SeqAt.EqAt.of_refs hab q0
  | .tup ds, .tup es, h, k, r1, r2 => by
    cases h with
    | @tup a vs _ q r =>
      cases k with
      | @tup b ws _ q' r' =>
        cases r1
        cases r2
        obtain ⟨its, rv, hl⟩ := isT I (same_seqT sf q)
        obtain ⟨its', rv', hl'⟩ := isT I (same_seqT sf q')
        have hd : (List.range (min its.toArray.size its'.toArray.size)).all (pairEq ds es) = (List.range (min ds.length es.length)).all (pairEq ds es) := by rw [List.size_toArray, List.size_toArray, ← rv.length, ← rv'.length, r.len, r'.len]
        have he : ∀ j (h1 : j < its.toArray.size) (h2 : j < its'.toArray.size), SeqAt.EqAt A.in1 s its.toArray[j] its'.toArray[j] (pairEq ds es j) := fun j h1 h2 => by
          obtain ⟨x1, d1, e1, p1, q1⟩ := vals_at r rv j (by simpa using h1)
          obtain ⟨x2, d2, e2, p2, q2⟩ := vals_at r' rv' j (by simpa using h2)
          unfold pairEq
          rw [e1, e2]
          exact eqAt_D I sf n A.in1 hun d1 d2 x1 x2 _ _ (all_get o1 e1) (all_get o2 e2) p1 p2 (by simpa using q1) (by simpa using q2)
        have q0 := SeqAt.RcAt.tuples hl hl' hu he
        rw [hd] at q0
        have hz : (its.toArray.size == its'.toArray.size) = (ds.length == es.length) := by rw [List.size_toArray, List.size_toArray, ← rv.length, ← rv'.length, r.len, r'.len]
        rw [hz, pairs_all] at q0
        by_cases hab : a = b
        · subst hab
          have e1 := sqT_inj I (same_seqT sf q) (same_seqT sf q')
          subst e1
          show SeqAt.EqAt A s _ _ (eqDs ds es)
          rw [eqs_self I sf n _ _ _ o1 o2 r r']
          exact SeqAt.EqAt.same _
        · exact SeqAt.EqAt.of_refs hab q0
  | .dct _, _, _, _, _, _ => nomatch o1
  | .obj _, _, _, _, _, _ => nomatch o1
  | _, .dct _, _, _, _, _ => nomatch o2
  | _, .obj _, _, _, _, _ => nomatch o2
end
section
variable {X : Cx} {pins : List (Addr × Obj)} {σ : L2.St} {H F : Hp} {s : Shared} {rho : List (Addr × Addr)}
theorem rc_D (I : Inv X pins σ H s) (sf : Same F H) (n : Nat) (A : Around) (hn : A.units + (n + 1) < cLine) (d e : D) (x y : V) (u v : Value) (o1 : okq (n + 1) d = true) (o2 : okq (n + 1) e = true) (h : Rep X.K F rho x d) (k : Rep X.K F rho y e) (r1 : L2.RelV x u) (r2 : L2.RelV y v) : SeqAt.RcAt A s u v (eqD d e) := by
   have hu : A.units < cLine := by omega
   have hun : A.in1.units + n < cLine := by rw [units1]; omega
   exact match d, e, h, k, r1, r2 with
  | .non, .non, h, k, r1, r2 => by
    cases h; cases r1
    cases k; cases r2
    exact SeqAt.RcAt.none_none
  | .non, .bl b, h, k, r1, r2 => by
    cases h; cases r1
    cases k; cases r2
    exact SeqAt.RcAt.none_bool _
  | .non, .int b, h, k, r1, r2 => by
    cases h; cases r1
    cases k; obtain ⟨t2, rfl⟩ := r2
    exact SeqAt.RcAt.none_int _ _
  | .non, .str b, h, k, r1, r2 => by
    cases h; cases r1
    cases k; obtain ⟨t2, rfl⟩ := r2
    exact SeqAt.RcAt.none_str _ _
  | .bl a, .non, h, k, r1, r2 => by
    cases h; cases r1
    cases k; cases r2
    exact SeqAt.RcAt.bool_none _
  | .bl a, .bl b, h, k, r1, r2 => by
    cases h; cases r1
    cases k; cases r2
    exact SeqAt.RcAt.bool_bool _ _
  | .bl a, .int b, h, k, r1, r2 => by
    cases h; cases r1
    cases k; obtain ⟨t2, rfl⟩ := r2
    exact SeqAt.RcAt.bool_int _ _ _
  | .bl a, .str b, h, k, r1, r2 => by
    cases h; cases r1
    cases k; obtain ⟨t2, rfl⟩ := r2
    exact SeqAt.RcAt.bool_str _ _ _
  | .int a, .non, h, k, r1, r2 => by
    cases h; obtain ⟨t, rfl⟩ := r1
    cases k; cases r2
    exact SeqAt.RcAt.int_none _ _
  | .int a, .bl b, h, k, r1, r2 => by
    cases h; obtain ⟨t, rfl⟩ := r1
    cases k; cases r2
    exact SeqAt.RcAt.int_bool _ _ _
  | .int a, .int b, h, k, r1, r2 => by
    cases h; obtain ⟨t, rfl⟩ := r1
    cases k; obtain ⟨t2, rfl⟩ := r2
    exact SeqAt.RcAt.int_int _ _ _ _
  | .int a, .str b, h, k, r1, r2 => by
    cases h; obtain ⟨t, rfl⟩ := r1
    cases k; obtain ⟨t2, rfl⟩ := r2
    exact SeqAt.RcAt.int_str _ _ _ _
  | .str a, .non, h, k, r1, r2 => by
    cases h; obtain ⟨t, rfl⟩ := r1
    cases k; cases r2
    exact SeqAt.RcAt.str_none _ _
  | .str a, .bl b, h, k, r1, r2 => by
    cases h; obtain ⟨t, rfl⟩ := r1
    cases k; cases r2
    exact SeqAt.RcAt.str_bool _ _ _
  | .str a, .int b, h, k, r1, r2 => by
    cases h; obtain ⟨t, rfl⟩ := r1
    cases k; obtain ⟨t2, rfl⟩ := r2
    exact SeqAt.RcAt.str_int _ _ _ _
  | .str a, .str b, h, k, r1, r2 => by
    cases h; obtain ⟨t, rfl⟩ := r1
    cases k; obtain ⟨t2, rfl⟩ := r2
    have q := SeqAt.RcAt.str_str (A := A) (s := s) (sT a) t (sT b) t2
    rw [sT_beq] at q
    exact q
  | .lst ds, .non, h, k, r1, r2 => by
    cases h with
    | lst q r =>
      cases k; cases r2
      cases r1
      obtain ⟨its, rv, hl⟩ := isL I (sf.seq q)
      exact SeqAt.RcAt.list_none hl hu
  | .non, .lst es, h, k, r1, r2 => by
    cases k with
    | lst q r =>
      cases h; cases r1
      cases r2
      obtain ⟨its, rv, hl⟩ := isL I (sf.seq q)
      exact SeqAt.RcAt.none_list hl hu
  | .lst ds, .bl b, h, k, r1, r2 => by
    cases h with
    | lst q r =>
      cases k; cases r2
      cases r1
      obtain ⟨its, rv, hl⟩ := isL I (sf.seq q)
      exact SeqAt.RcAt.list_bool _ hl hu
  | .bl b, .lst es, h, k, r1, r2 => by
    cases k with
    | lst q r =>
      cases h; cases r1
      cases r2
      obtain ⟨its, rv, hl⟩ := isL I (sf.seq q)
      exact SeqAt.RcAt.bool_list _ hl hu
  | .lst ds, .int b, h, k, r1, r2 => by
    cases h with
    | lst q r =>
      cases k; obtain ⟨t2, rfl⟩ := r2
      cases r1
      obtain ⟨its, rv, hl⟩ := isL I (sf.seq q)
      exact SeqAt.RcAt.list_int _ _ hl hu
  | .int b, .lst es, h, k, r1, r2 => by
    cases k with
    | lst q r =>
      cases h; obtain ⟨t, rfl⟩ := r1
      cases r2
      obtain ⟨its, rv, hl⟩ := isL I (sf.seq q)
      exact SeqAt.RcAt.int_list _ _ hl hu
  | .lst ds, .str b, h, k, r1, r2 => by
    cases h with
    | lst q r =>
      cases k; obtain ⟨t2, rfl⟩ := r2
      cases r1
      obtain ⟨its, rv, hl⟩ := isL I (sf.seq q)
      exact SeqAt.RcAt.list_str _ _ hl hu
  | .str b, .lst es, h, k, r1, r2 => by
    cases k with
    | lst q r =>
      cases h; obtain ⟨t, rfl⟩ := r1
      cases r2
      obtain ⟨its, rv, hl⟩ := isL I (sf.seq q)
      exact SeqAt.RcAt.str_list _ _ hl hu
  | .tup ds, .non, h, k, r1, r2 => by
    cases h with
    | tup q r =>
      cases k; cases r2
      cases r1
      obtain ⟨its, rv, hl⟩ := isT I (same_seqT sf q)
      exact SeqAt.RcAt.tuple_none hl hu
  | .non, .tup es, h, k, r1, r2 => by
    cases k with
    | tup q r =>
      cases h; cases r1
      cases r2
      obtain ⟨its, rv, hl⟩ := isT I (same_seqT sf q)
      exact SeqAt.RcAt.none_tuple hl hu
  | .tup ds, .bl b, h, k, r1, r2 => by
    cases h with
    | tup q r =>
      cases k; cases r2
      cases r1
      obtain ⟨its, rv, hl⟩ := isT I (same_seqT sf q)
      exact SeqAt.RcAt.tuple_bool _ hl hu
  | .bl b, .tup es, h, k, r1, r2 => by
    cases k with
    | tup q r =>
      cases h; cases r1
      cases r2
      obtain ⟨its, rv, hl⟩ := isT I (same_seqT sf q)
      exact SeqAt.RcAt.bool_tuple _ hl hu
  | .tup ds, .int b, h, k, r1, r2 => by
    cases h with
    | tup q r =>
      cases k; obtain ⟨t2, rfl⟩ := r2
      cases r1
      obtain ⟨its, rv, hl⟩ := isT I (same_seqT sf q)
      exact SeqAt.RcAt.tuple_int _ _ hl hu
  | .int b, .tup es, h, k, r1, r2 => by
    cases k with
    | tup q r =>
      cases h; obtain ⟨t, rfl⟩ := r1
      cases r2
      obtain ⟨its, rv, hl⟩ := isT I (same_seqT sf q)
      exact SeqAt.RcAt.int_tuple _ _ hl hu
  | .tup ds, .str b, h, k, r1, r2 => by
    cases h with
    | tup q r =>
      cases k; obtain ⟨t2, rfl⟩ := r2
      cases r1
      obtain ⟨its, rv, hl⟩ := isT I (same_seqT sf q)
      exact SeqAt.RcAt.tuple_str _ _ hl hu
  | .str b, .tup es, h, k, r1, r2 => by
    cases k with
    | tup q r =>
      cases h; obtain ⟨t, rfl⟩ := r1
      cases r2
      obtain ⟨its, rv, hl⟩ := isT I (same_seqT sf q)
      exact SeqAt.RcAt.str_tuple _ _ hl hu
  | .lst ds, .tup es, h, k, r1, r2 => by
    cases h with
    | lst q r =>
      cases k with
      | tup q' r' =>
        cases r1
        cases r2
        obtain ⟨its, rv, hl⟩ := isL I (sf.seq q)
        obtain ⟨its', rv', hl'⟩ := isT I (same_seqT sf q')
        exact SeqAt.RcAt.list_tuple hl hl' hu
  | .tup ds, .lst es, h, k, r1, r2 => by
    cases h with
    | tup q r =>
      cases k with
      | lst q' r' =>
        cases r1
        cases r2
        obtain ⟨its, rv, hl⟩ := isT I (same_seqT sf q)
        obtain ⟨its', rv', hl'⟩ := isL I (sf.seq q')
        exact SeqAt.RcAt.tuple_list hl hl' hu
  | .lst ds, .lst es, h, k, r1, r2 => by
    cases h with
    | @lst a vs _ q r =>
      cases k with
      | @lst b ws _ q' r' =>
        cases r1
        cases r2
        obtain ⟨its, rv, hl⟩ := isL I (sf.seq q)
        obtain ⟨its', rv', hl'⟩ := isL I (sf.seq q')
        have hd : (List.range (min its.toArray.size its'.toArray.size)).all (pairEq ds es) = (List.range (min ds.length es.length)).all (pairEq ds es) := by rw [List.size_toArray, List.size_toArray, ← rv.length, ← rv'.length, r.len, r'.len]
        have he : ∀ j (h1 : j < its.toArray.size) (h2 : j < its'.toArray.size), SeqAt.EqAt A.in1 s its.toArray[j] its'.toArray[j] (pairEq ds es j) := fun j h1 h2 => by
          obtain ⟨x1, d1, e1, p1, q1⟩ := vals_at r rv j (by simpa using h1)
          obtain ⟨x2, d2, e2, p2, q2⟩ := vals_at r' rv' j (by simpa using h2)
          unfold pairEq
          rw [e1, e2]
          exact eqAt_D I sf n A.in1 hun d1 d2 x1 x2 _ _ (all_get o1 e1) (all_get o2 e2) p1 p2 (by simpa using q1) (by simpa using q2)
        have q0 : SeqAt.RcAt A s (.ref a) (.ref b) (eqDs ds es) := by
          by_cases hz : ds.length = es.length
          · have hz2 : its.toArray.size = its'.toArray.size := by rw [List.size_toArray, List.size_toArray, ← rv.length, ← rv'.length, r.len, r'.len, hz]
            have q0 := SeqAt.RcAt.lists hl hl' hz2 hu he
            have hm : its.toArray.size = min its.toArray.size its'.toArray.size := by omega
            rw [hm, hd] at q0
            have q1 := pairs_all ds es
            have hz3 : (ds.length == es.length) = true := by simpa using hz
            rw [hz3, Bool.and_true] at q1
            rw [q1] at q0
            exact q0
          · rw [eqD_lens hz]
            exact SeqAt.RcAt.lists_lengths hl hl' (by rw [List.size_toArray, List.size_toArray, ← rv.length, ← rv'.length, r.len, r'.len]; simpa using hz) hu
        exact q0
  | .tup ds, .tup es, h, k, r1, r2 => by
    cases h with
    | @tup a vs _ q r =>
      cases k with
      | @tup b ws _ q' r' =>
        cases r1
        cases r2
        obtain ⟨its, rv, hl⟩ := isT I (same_seqT sf q)
        obtain ⟨its', rv', hl'⟩ := isT I (same_seqT sf q')
        have hd : (List.range (min its.toArray.size its'.toArray.size)).all (pairEq ds es) = (List.range (min ds.length es.length)).all (pairEq ds es) := by rw [List.size_toArray, List.size_toArray, ← rv.length, ← rv'.length, r.len, r'.len]
        have he : ∀ j (h1 : j < its.toArray.size) (h2 : j < its'.toArray.size), SeqAt.EqAt A.in1 s its.toArray[j] its'.toArray[j] (pairEq ds es j) := fun j h1 h2 => by
          obtain ⟨x1, d1, e1, p1, q1⟩ := vals_at r rv j (by simpa using h1)
          obtain ⟨x2, d2, e2, p2, q2⟩ := vals_at r' rv' j (by simpa using h2)
          unfold pairEq
          rw [e1, e2]
          exact eqAt_D I sf n A.in1 hun d1 d2 x1 x2 _ _ (all_get o1 e1) (all_get o2 e2) p1 p2 (by simpa using q1) (by simpa using q2)
        have q0 := SeqAt.RcAt.tuples hl hl' hu he
        rw [hd] at q0
        have hz : (its.toArray.size == its'.toArray.size) = (ds.length == es.length) := by rw [List.size_toArray, List.size_toArray, ← rv.length, ← rv'.length, r.len, r'.len]
        rw [hz, pairs_all] at q0
        exact q0
  | .dct _, _, _, _, _, _ => nomatch o1
  | .obj _, _, _, _, _, _ => nomatch o1
  | _, .dct _, _, _, _, _ => nomatch o2
  | _, .obj _, _, _, _, _ => nomatch o2
end
section
variable {X : Cx} {pins : List (Addr × Obj)} {σ : L2.St} {H F : Hp} {s : Shared} {rho : List (Addr × Addr)}
theorem rcNe_D (I : Inv X pins σ H s) (sf : Same F H) (n : Nat) (A : Around) (hn : A.units + (n + 1) < cLine) (d e : D) (x y : V) (u v : Value) (o1 : okq (n + 1) d = true) (o2 : okq (n + 1) e = true) (h : Rep X.K F rho x d) (k : Rep X.K F rho y e) (r1 : L2.RelV x u) (r2 : L2.RelV y v) : SeqAt.RcNeAt A s u v (!eqD d e) := by
   have hu : A.units < cLine := by omega
   have hun : A.in1.units + n < cLine := by rw [units1]; omega
   exact match d, e, h, k, r1, r2 with
  | .non, .non, h, k, r1, r2 => by
    cases h; cases r1
    cases k; cases r2
    exact SeqAt.RcNeAt.none_none
  | .non, .bl b, h, k, r1, r2 => by
    cases h; cases r1
    cases k; cases r2
    exact SeqAt.RcNeAt.none_bool _
  | .non, .int b, h, k, r1, r2 => by
    cases h; cases r1
    cases k; obtain ⟨t2, rfl⟩ := r2
    exact SeqAt.RcNeAt.none_int _ _
  | .non, .str b, h, k, r1, r2 => by
    cases h; cases r1
    cases k; obtain ⟨t2, rfl⟩ := r2
    exact SeqAt.RcNeAt.none_str _ _
  | .bl a, .non, h, k, r1, r2 => by
    cases h; cases r1
    cases k; cases r2
    exact SeqAt.RcNeAt.bool_none _
  | .bl a, .bl b, h, k, r1, r2 => by
    cases h; cases r1
    cases k; cases r2
    exact SeqAt.RcNeAt.bool_bool _ _
  | .bl a, .int b, h, k, r1, r2 => by
    cases h; cases r1
    cases k; obtain ⟨t2, rfl⟩ := r2
    exact SeqAt.RcNeAt.bool_int _ _ _
  | .bl a, .str b, h, k, r1, r2 => by
    cases h; cases r1
    cases k; obtain ⟨t2, rfl⟩ := r2
    exact SeqAt.RcNeAt.bool_str _ _ _
  | .int a, .non, h, k, r1, r2 => by
    cases h; obtain ⟨t, rfl⟩ := r1
    cases k; cases r2
    exact SeqAt.RcNeAt.int_none _ _
  | .int a, .bl b, h, k, r1, r2 => by
    cases h; obtain ⟨t, rfl⟩ := r1
    cases k; cases r2
    exact SeqAt.RcNeAt.int_bool _ _ _
  | .int a, .int b, h, k, r1, r2 => by
    cases h; obtain ⟨t, rfl⟩ := r1
    cases k; obtain ⟨t2, rfl⟩ := r2
    exact SeqAt.RcNeAt.int_int _ _ _ _
  | .int a, .str b, h, k, r1, r2 => by
    cases h; obtain ⟨t, rfl⟩ := r1
    cases k; obtain ⟨t2, rfl⟩ := r2
    exact SeqAt.RcNeAt.int_str _ _ _ _
  | .str a, .non, h, k, r1, r2 => by
    cases h; obtain ⟨t, rfl⟩ := r1
    cases k; cases r2
    exact SeqAt.RcNeAt.str_none _ _
  | .str a, .bl b, h, k, r1, r2 => by
    cases h; obtain ⟨t, rfl⟩ := r1
    cases k; cases r2
    exact SeqAt.RcNeAt.str_bool _ _ _
  | .str a, .int b, h, k, r1, r2 => by
    cases h; obtain ⟨t, rfl⟩ := r1
    cases k; obtain ⟨t2, rfl⟩ := r2
    exact SeqAt.RcNeAt.str_int _ _ _ _
  | .str a, .str b, h, k, r1, r2 => by
    cases h; obtain ⟨t, rfl⟩ := r1
    cases k; obtain ⟨t2, rfl⟩ := r2
    have q := SeqAt.RcNeAt.str_str (A := A) (s := s) (sT a) t (sT b) t2
    rw [sT_beq] at q
    exact q
  | .lst ds, .non, h, k, r1, r2 => by
    cases h with
    | lst q r =>
      cases k; cases r2
      cases r1
      obtain ⟨its, rv, hl⟩ := isL I (sf.seq q)
      exact SeqAt.RcNeAt.list_none hl hu
  | .non, .lst es, h, k, r1, r2 => by
    cases k with
    | lst q r =>
      cases h; cases r1
      cases r2
      obtain ⟨its, rv, hl⟩ := isL I (sf.seq q)
      exact SeqAt.RcNeAt.none_list hl hu
  | .lst ds, .bl b, h, k, r1, r2 => by
    cases h with
    | lst q r =>
      cases k; cases r2
      cases r1
      obtain ⟨its, rv, hl⟩ := isL I (sf.seq q)
      exact SeqAt.RcNeAt.list_bool _ hl hu
  | .bl b, .lst es, h, k, r1, r2 => by
    cases k with
    | lst q r =>
      cases h; cases r1
      cases r2
      obtain ⟨its, rv, hl⟩ := isL I (sf.seq q)
      exact SeqAt.RcNeAt.bool_list _ hl hu
  | .lst ds, .int b, h, k, r1, r2 => by
    cases h with
    | lst q r =>
      cases k; obtain ⟨t2, rfl⟩ := r2
      cases r1
      obtain ⟨its, rv, hl⟩ := isL I (sf.seq q)
      exact SeqAt.RcNeAt.list_int _ _ hl hu
  | .int b, .lst es, h, k, r1, r2 => by
    cases k with
    | lst q r =>
      cases h; obtain ⟨t, rfl⟩ := r1
      cases r2
      obtain ⟨its, rv, hl⟩ := isL I (sf.seq q)
      exact SeqAt.RcNeAt.int_list _ _ hl hu
  | .lst ds, .str b, h, k, r1, r2 => by
    cases h with
    | lst q r =>
      cases k; obtain ⟨t2, rfl⟩ := r2
      cases r1
      obtain ⟨its, rv, hl⟩ := isL I (sf.seq q)
      exact SeqAt.RcNeAt.list_str _ _ hl hu
  | .str b, .lst es, h, k, r1, r2 => by
    cases k with
    | lst q r =>
      cases h; obtain ⟨t, rfl⟩ := r1
      cases r2
      obtain ⟨its, rv, hl⟩ := isL I (sf.seq q)
      exact SeqAt.RcNeAt.str_list _ _ hl hu
  | .tup ds, .non, h, k, r1, r2 => by
    cases h with
    | tup q r =>
      cases k; cases r2
      cases r1
      obtain ⟨its, rv, hl⟩ := isT I (same_seqT sf q)
      exact SeqAt.RcNeAt.tuple_none hl hu
  | .non, .tup es, h, k, r1, r2 => by
    cases k with
    | tup q r =>
      cases h; cases r1
      cases r2
      obtain ⟨its, rv, hl⟩ := isT I (same_seqT sf q)
      exact SeqAt.RcNeAt.none_tuple hl hu
  | .tup ds, .bl b, h, k, r1, r2 => by
    cases h with
    | tup q r =>
      cases k; cases r2
      cases r1
      obtain ⟨its, rv, hl⟩ := isT I (same_seqT sf q)
      exact SeqAt.RcNeAt.tuple_bool _ hl hu
  | .bl b, .tup es, h, k, r1, r2 => by
    cases k with
    | tup q r =>
      cases h; cases r1
      cases r2
      obtain ⟨its, rv, hl⟩ := isT I (same_seqT sf q)
      exact SeqAt.RcNeAt.bool_tuple _ hl hu
  | .tup ds, .int b, h, k, r1, r2 => by
    cases h with
    | tup q r =>
      cases k; obtain ⟨t2, rfl⟩ := r2
      cases r1
      obtain ⟨its, rv, hl⟩ := isT I (same_seqT sf q)
      exact SeqAt.RcNeAt.tuple_int _ _ hl hu
  | .int b, .tup es, h, k, r1, r2 => by
    cases k with
    | tup q r =>
      cases h; obtain ⟨t, rfl⟩ := r1
      cases r2
      obtain ⟨its, rv, hl⟩ := isT I (same_seqT sf q)
      exact SeqAt.RcNeAt.int_tuple _ _ hl hu
  | .tup ds, .str b, h, k, r1, r2 => by
    cases h with
    | tup q r =>
      cases k; obtain ⟨t2, rfl⟩ := r2
      cases r1
      obtain ⟨its, rv, hl⟩ := isT I (same_seqT sf q)
      exact SeqAt.RcNeAt.tuple_str _ _ hl hu
  | .str b, .tup es, h, k, r1, r2 => by
    cases k with
    | tup q r =>
      cases h; obtain ⟨t, rfl⟩ := r1
      cases r2
      obtain ⟨its, rv, hl⟩ := isT I (same_seqT sf q)
      exact SeqAt.RcNeAt.str_tuple _ _ hl hu
  | .lst ds, .tup es, h, k, r1, r2 => by
    cases h with
    | lst q r =>
      cases k with
      | tup q' r' =>
        cases r1
        cases r2
        obtain ⟨its, rv, hl⟩ := isL I (sf.seq q)
        obtain ⟨its', rv', hl'⟩ := isT I (same_seqT sf q')
        exact SeqAt.RcNeAt.list_tuple hl hl' hu
  | .tup ds, .lst es, h, k, r1, r2 => by
    cases h with
    | tup q r =>
      cases k with
      | lst q' r' =>
        cases r1
        cases r2
        obtain ⟨its, rv, hl⟩ := isT I (same_seqT sf q)
        obtain ⟨its', rv', hl'⟩ := isL I (sf.seq q')
        exact SeqAt.RcNeAt.tuple_list hl hl' hu
  | .lst ds, .lst es, h, k, r1, r2 => by
    cases h with
    | @lst a vs _ q r =>
      cases k with
      | @lst b ws _ q' r' =>
        cases r1
        cases r2
        obtain ⟨its, rv, hl⟩ := isL I (sf.seq q)
        obtain ⟨its', rv', hl'⟩ := isL I (sf.seq q')
        have hd : (List.range (min its.toArray.size its'.toArray.size)).all (pairEq ds es) = (List.range (min ds.length es.length)).all (pairEq ds es) := by rw [List.size_toArray, List.size_toArray, ← rv.length, ← rv'.length, r.len, r'.len]
        have he : ∀ j (h1 : j < its.toArray.size) (h2 : j < its'.toArray.size), SeqAt.EqAt A.in1 s its.toArray[j] its'.toArray[j] (pairEq ds es j) := fun j h1 h2 => by
          obtain ⟨x1, d1, e1, p1, q1⟩ := vals_at r rv j (by simpa using h1)
          obtain ⟨x2, d2, e2, p2, q2⟩ := vals_at r' rv' j (by simpa using h2)
          unfold pairEq
          rw [e1, e2]
          exact eqAt_D I sf n A.in1 hun d1 d2 x1 x2 _ _ (all_get o1 e1) (all_get o2 e2) p1 p2 (by simpa using q1) (by simpa using q2)
        have q0 : SeqAt.RcNeAt A s (.ref a) (.ref b) (!eqDs ds es) := by
          by_cases hz : ds.length = es.length
          · have hz2 : its.toArray.size = its'.toArray.size := by rw [List.size_toArray, List.size_toArray, ← rv.length, ← rv'.length, r.len, r'.len, hz]
            have q0 := SeqAt.RcNeAt.lists hl hl' hz2 hu he
            have hm : its.toArray.size = min its.toArray.size its'.toArray.size := by omega
            rw [hm, hd] at q0
            have q1 := pairs_all ds es
            have hz3 : (ds.length == es.length) = true := by simpa using hz
            rw [hz3, Bool.and_true] at q1
            rw [q1] at q0
            exact q0
          · rw [eqD_lens hz]
            exact SeqAt.RcNeAt.lists_lengths hl hl' (by rw [List.size_toArray, List.size_toArray, ← rv.length, ← rv'.length, r.len, r'.len]; simpa using hz) hu
        exact q0
  | .tup ds, .tup es, h, k, r1, r2 => by
    cases h with
    | @tup a vs _ q r =>
      cases k with
      | @tup b ws _ q' r' =>
        cases r1
        cases r2
        obtain ⟨its, rv, hl⟩ := isT I (same_seqT sf q)
        obtain ⟨its', rv', hl'⟩ := isT I (same_seqT sf q')
        have hd : (List.range (min its.toArray.size its'.toArray.size)).all (pairEq ds es) = (List.range (min ds.length es.length)).all (pairEq ds es) := by rw [List.size_toArray, List.size_toArray, ← rv.length, ← rv'.length, r.len, r'.len]
        have he : ∀ j (h1 : j < its.toArray.size) (h2 : j < its'.toArray.size), SeqAt.EqAt A.in1 s its.toArray[j] its'.toArray[j] (pairEq ds es j) := fun j h1 h2 => by
          obtain ⟨x1, d1, e1, p1, q1⟩ := vals_at r rv j (by simpa using h1)
          obtain ⟨x2, d2, e2, p2, q2⟩ := vals_at r' rv' j (by simpa using h2)
          unfold pairEq
          rw [e1, e2]
          exact eqAt_D I sf n A.in1 hun d1 d2 x1 x2 _ _ (all_get o1 e1) (all_get o2 e2) p1 p2 (by simpa using q1) (by simpa using q2)
        have q0 := SeqAt.RcNeAt.tuples hl hl' hu he
        rw [hd] at q0
        have hz : (its.toArray.size == its'.toArray.size) = (ds.length == es.length) := by rw [List.size_toArray, List.size_toArray, ← rv.length, ← rv'.length, r.len, r'.len]
        rw [hz, pairs_all] at q0
        exact q0
  | .dct _, _, _, _, _, _ => nomatch o1
  | .obj _, _, _, _, _, _ => nomatch o1
  | _, .dct _, _, _, _, _ => nomatch o2
  | _, .obj _, _, _, _, _ => nomatch o2
end
end
end Dl

set_option Elab.async false
set_option linter.all false
set_option maxRecDepth 100000
set_option maxHeartbeats 1000000
/-! The data level: == != in, built-in functions, subscripts, displays. -/
namespace Dl
open PySem PySem.Spec PyProof.Rows L2
noncomputable section

/-! ### ==, != -/
def rEqG (K : PySem.W.Frag) (neg : Bool) : R2 := fun x y H Q => ∃ F rho d e, Same F H ∧ Rep K F rho x d ∧ Rep K F rho y e ∧ okq 24 d = true ∧ okq 24 e = true ∧ Q (.bl (if neg then !eqD d e else eqD d e)) H
section
variable {X : Cx} {W : WX} {a b : Expr} {ma mb : M D} {pos : Pos}
theorem op_eqG (hu : X.A.units + 64 < cLine) : OpR X (compareOp .Eq) (rEqG X.K false) := by
  intro pins s σ H x y v u Q I rx ry ⟨F, rho, d, e, sf, h, k, o1, o2, q⟩
  exact rc_D I sf 23 X.A (by omega) d e x y v u o1 o2 h k rx ry X.prog X.w _ _ ⟨.bl _, H, I, rfl, q⟩
theorem op_neG (hu : X.A.units + 64 < cLine) : OpR X (compareOp .NotEq) (rEqG X.K true) := by
  intro pins s σ H x y v u Q I rx ry ⟨F, rho, d, e, sf, h, k, o1, o2, q⟩
  exact rcNe_D I sf 23 X.A (by omega) d e x y v u o1 o2 h k rx ry X.prog X.w _ _ ⟨.bl _, H, I, rfl, q⟩
theorem op2_eq {K : PySem.W.Frag} {mg : Ev} : Op2 K mg (rEqG K false) eqM := by
  intro x y d e G en so σ H W Q rx ry s p
  obtain ⟨⟨h1, h2⟩, p⟩ := Post.gd p
  exact ⟨_, _, d, e, s.toSimO.rep, rx, ry, h1, h2, p.ok s (.bl _)⟩
theorem op2_ne {K : PySem.W.Frag} {mg : Ev} : Op2 K mg (rEqG K true) neM := by
  intro x y d e G en so σ H W Q rx ry s p
  obtain ⟨⟨h1, h2⟩, p⟩ := Post.gd p
  exact ⟨_, _, d, e, s.toSimO.rep, rx, ry, h1, h2, p.ok s (.bl _)⟩
end

/-! ### in, not in -/
def inD (d : D) : D → M D
  | .str z => match d with
    | .str [c] => pu (.bl (decide (c ∈ z)))
    | _ => no
  | .lst xs => gd (okq 23 d = true ∧ xs.all (okq 23) = true) (pu (.bl (xs.any fun z => eqD z d)))
  | .tup xs => gd (okq 23 d = true ∧ xs.all (okq 23) = true) (pu (.bl (xs.any fun z => eqD z d)))
  | _ => no
def niD (d : D) : D → M D
  | .str z => match d with
    | .str [c] => pu (.bl (!decide (c ∈ z)))
    | _ => no
  | .lst xs => gd (okq 23 d = true ∧ xs.all (okq 23) = true) (pu (.bl (!xs.any fun z => eqD z d)))
  | .tup xs => gd (okq 23 d = true ∧ xs.all (okq 23) = true) (pu (.bl (!xs.any fun z => eqD z d)))
  | _ => no
def rInG (K : PySem.W.Frag) (neg : Bool) : R2 := fun x y H Q => ∃ F rho d a vs ds, Same F H ∧ Rep K F rho x d ∧ y = .ref a ∧ (SqL K F a vs ∨ SqT K F a vs) ∧ Reps K F rho vs ds ∧ okq 23 d = true ∧ ds.all (okq 23) = true ∧ Q (.bl (if neg then !ds.any (fun z => eqD z d) else ds.any fun z => eqD z d)) H
section
variable {X : Cx} {pins : List (Addr × Obj)} {σ : L2.St} {H F : Hp} {s : Shared} {rho : List (Addr × Addr)}
/-- the test of an item, by values -/
def itemEq (K : PySem.W.Frag) (F : Hp) (rho : List (Addr × Addr)) (its : List Value) (ds : List D) (d : D) (y : Value) : Bool :=
  @decide (∃ (j : Nat) (x : V) (z : D), its[j]? = some y ∧ ds[j]? = some z ∧ Rep K F rho x z ∧ L2.RelV x y ∧ eqD z d = true) (Classical.propDecidable _)
theorem itemEq_any {K : PySem.W.Frag} {vs : List V} {ds : List D} {its : List Value} {d : D} (r : Reps K F rho vs ds) (v : Vals vs its) : its.any (itemEq K F rho its ds d) = ds.any fun z => eqD z d := by
  rw [Bool.eq_iff_iff, List.any_eq_true, List.any_eq_true]
  constructor
  · rintro ⟨y, _, h⟩
    obtain ⟨j, x, z, e1, e2, _, _, h⟩ := @of_decide_eq_true _ (Classical.propDecidable _) h
    exact ⟨z, List.mem_of_getElem? e2, h⟩
  · rintro ⟨z, hz, h⟩
    obtain ⟨j, hj, e⟩ := List.getElem_of_mem hz
    have hl : j < its.length := by rw [← v.length, r.len]; exact hj
    obtain ⟨x, z', e2, e3, e4⟩ := vals_at r v j hl
    rw [List.getElem?_eq_getElem hj] at e2
    cases e2
    refine ⟨its[j], List.getElem_mem hl, ?_⟩
    exact @decide_eq_true _ (Classical.propDecidable _) ⟨j, x, ds[j], List.getElem?_eq_getElem hl, List.getElem?_eq_getElem hj, e3, e4, by rw [e]; exact h⟩
theorem itemEq_at (I : Inv X pins σ H s) (sf : Same F H) {A : Around} (hu : A.units + 64 < cLine) {vs : List V} {ds : List D} {its : List Value} {d : D} {x : V} {u : Value} (r : Reps X.K F rho vs ds) (v : Vals vs its) (hd : Rep X.K F rho x d) (rx : L2.RelV x u) (o1 : okq 23 d = true) (o2 : ds.all (okq 23) = true) :
    ∀ y, y ∈ its.toArray → SeqAt.EqAt A.in1 s y u (itemEq X.K F rho its ds d y) := by
  intro y hy
  have hn : A.in1.units + 23 < cLine := by rw [units1]; omega
  cases hb : itemEq X.K F rho its ds d y with
  | true =>
    obtain ⟨j, x', z, e1, e2, e3, e4, e5⟩ := @of_decide_eq_true _ (Classical.propDecidable _) hb
    have q := eqAt_D I sf 23 A.in1 hn z d x' x y u (all_get o2 e2) o1 e3 hd e4 rx
    rw [e5] at q
    exact q
  | false =>
    have hy' : y ∈ its := by simpa using hy
    obtain ⟨j, hj, e⟩ := List.getElem_of_mem hy'
    obtain ⟨x', z, e2, e3, e4⟩ := vals_at r v j hj
    have q := eqAt_D I sf 23 A.in1 hn z d x' x its[j] u (all_get o2 e2) o1 e3 hd e4 rx
    have hf : eqD z d = false := by
      cases hz : eqD z d with
      | false => rfl
      | true =>
        have : itemEq X.K F rho its ds d y = true := @decide_eq_true _ (Classical.propDecidable _) ⟨j, x', z, by rw [List.getElem?_eq_getElem hj, e], e2, e3, e ▸ e4, hz⟩
        rw [hb] at this
        cases this
    rw [hf, e] at q
    exact q
end
section
variable {X : Cx}
theorem op_inG (hu : X.A.units + 64 < cLine) : OpR X (compareOp .In) (rInG X.K false) := by
  intro pins s σ H x y v u Q I rx ry ⟨F, rho, d, a, vs, ds, sf, h, e, hs, r, o1, o2, q⟩
  subst e
  cases ry
  rcases hs with hs | hs
  · obtain ⟨its, rv, hl⟩ := isL I (sf.seq hs)
    refine SeqAt.in_listAt _ hl (itemEq_at I sf hu r rv h rx o1 o2) ?_
    refine ⟨.bl _, H, I, rfl, ?_⟩
    have e := itemEq_any (d := d) r rv
    rw [List.any_toArray, e]
    exact q
  · obtain ⟨its, rv, hl⟩ := isT I (same_seqT sf hs)
    refine SeqAt.in_tupleAt _ hl (itemEq_at I sf hu r rv h rx o1 o2) ?_
    refine ⟨.bl _, H, I, rfl, ?_⟩
    have e := itemEq_any (d := d) r rv
    rw [List.any_toArray, e]
    exact q
theorem op_niG (hu : X.A.units + 64 < cLine) : OpR X (compareOp .NotIn) (rInG X.K true) := by
  intro pins s σ H x y v u Q I rx ry ⟨F, rho, d, a, vs, ds, sf, h, e, hs, r, o1, o2, q⟩
  subst e
  cases ry
  rcases hs with hs | hs
  · obtain ⟨its, rv, hl⟩ := isL I (sf.seq hs)
    refine SeqAt.notIn_listAt _ hl (itemEq_at I sf hu r rv h rx o1 o2) ?_
    refine ⟨.bl _, H, I, rfl, ?_⟩
    have e := itemEq_any (d := d) r rv
    rw [List.any_toArray, e]
    exact q
  · obtain ⟨its, rv, hl⟩ := isT I (same_seqT sf hs)
    refine SeqAt.notIn_tupleAt _ hl (itemEq_at I sf hu r rv h rx o1 o2) ?_
    refine ⟨.bl _, H, I, rfl, ?_⟩
    have e := itemEq_any (d := d) r rv
    rw [List.any_toArray, e]
    exact q
abbrev rInS : R2 := fun x y H Q => ∃ (c : Nat) (z : Str), x = .str ⟨#[c]⟩ ∧ y = .str z ∧ Q (.bl (decide (c ∈ z.cps.toList))) H
abbrev rNiS : R2 := fun x y H Q => ∃ (c : Nat) (z : Str), x = .str ⟨#[c]⟩ ∧ y = .str z ∧ Q (.bl (!decide (c ∈ z.cps.toList))) H
theorem op_inA (hu : X.A.units + 64 < cLine) : OpR X (compareOp .In) (fun x y H Q => rInS x y H Q ∨ rInG X.K false x y H Q) := OpR.or op_in_sign (op_inG hu)
theorem op_niA (hu : X.A.units + 64 < cLine) : OpR X (compareOp .NotIn) (fun x y H Q => rNiS x y H Q ∨ rInG X.K true x y H Q) := OpR.or op_notIn_sign (op_niG hu)
theorem op2_in {K : PySem.W.Frag} {mg : Ev} : Op2 K mg (fun x y H Q => rInS x y H Q ∨ rInG K false x y H Q) inD := by
  intro x y d e G en so σ H W Q rx ry s p
  cases ry with
  | str z =>
    cases d with
    | str c =>
      match c, rx, p with
      | [], _, p => exact False.elim p
      | [c], rx, p =>
        cases rx
        refine .inl ⟨c, sT z, rfl, rfl, ?_⟩
        rw [tl_sT]
        exact p.ok s (.bl _)
      | _ :: _ :: _, _, p => exact False.elim p
    | _ => exact False.elim p
  | lst h r =>
    obtain ⟨⟨h1, h2⟩, p⟩ := Post.gd p
    exact .inr ⟨_, _, d, _, _, _, s.toSimO.rep, rx, rfl, .inl h, r, h1, h2, p.ok s (.bl _)⟩
  | tup h r =>
    obtain ⟨⟨h1, h2⟩, p⟩ := Post.gd p
    exact .inr ⟨_, _, d, _, _, _, s.toSimO.rep, rx, rfl, .inr h, r, h1, h2, p.ok s (.bl _)⟩
  | _ => exact False.elim p
theorem op2_ni {K : PySem.W.Frag} {mg : Ev} : Op2 K mg (fun x y H Q => rNiS x y H Q ∨ rInG K true x y H Q) niD := by
  intro x y d e G en so σ H W Q rx ry s p
  cases ry with
  | str z =>
    cases d with
    | str c =>
      match c, rx, p with
      | [], _, p => exact False.elim p
      | [c], rx, p =>
        cases rx
        refine .inl ⟨c, sT z, rfl, rfl, ?_⟩
        rw [tl_sT]
        exact p.ok s (.bl _)
      | _ :: _ :: _, _, p => exact False.elim p
    | _ => exact False.elim p
  | lst h r =>
    obtain ⟨⟨h1, h2⟩, p⟩ := Post.gd p
    exact .inr ⟨_, _, d, _, _, _, s.toSimO.rep, rx, rfl, .inl h, r, h1, h2, p.ok s (.bl _)⟩
  | tup h r =>
    obtain ⟨⟨h1, h2⟩, p⟩ := Post.gd p
    exact .inr ⟨_, _, d, _, _, _, s.toSimO.rep, rx, rfl, .inr h, r, h1, h2, p.ok s (.bl _)⟩
  | _ => exact False.elim p
end

/-! ### built-in functions -/
def lenD : List D → M D
  | [.str s] => gd (s.length ≤ 16777216) (pu (.int s.length))
  | [.lst xs] => pu (.int xs.length)
  | [.tup xs] => pu (.int xs.length)
  | _ => no
def absD : List D → M D
  | [.int i] => pu (.int (if i < 0 then -i else i))
  | _ => no
def intD : List D → M D
  | [.int i] => pu (.int i)
  | [.bl b] => pu (.int (if b then 1 else 0))
  | _ => no
def ordD : List D → M D
  | [.str [c]] => pu (.int c)
  | _ => no
/-- a list of truth values -/
def blsOf : List D → Option (List Bool)
  | [] => some []
  | .bl b :: r => (blsOf r).map (b :: ·)
  | _ => none
def allD : List D → M D
  | [.lst xs] => match blsOf xs with
    | some bs => pu (.bl (bs.all id))
    | none => no
  | _ => no
def anyD : List D → M D
  | [.lst xs] => match blsOf xs with
    | some bs => pu (.bl (bs.any id))
    | none => no
  | _ => no
section
variable {K : PySem.W.Frag} {mg : Ev}
theorem reps1 {F : Hp} {rho : List (Addr × Addr)} {xs : List V} {d : D} (r : Reps K F rho xs [d]) : ∃ x, xs = [x] ∧ Rep K F rho x d := by
  cases r with
  | cons h r => cases r; exact ⟨_, rfl, h⟩
theorem opn_len : OpN K mg (fun xs H Q => ∃ x n, xs = [x] ∧ LenV K x H n ∧ Q (.int n) H) lenD := by
  intro xs ds G en so σ H W Q r s p
  match ds, r, p with
  | [d], r, p =>
    obtain ⟨x, rfl, h⟩ := reps1 r
    cases h with
    | str z =>
      obtain ⟨h1, p⟩ := Post.gd (c := z.length ≤ 16777216) p
      exact ⟨_, z.length, rfl, ⟨by rw [sT_len, sizeLine_eq]; exact h1, (sT_len z).symm⟩, p.ok s (.int _)⟩
    | lst h r2 => exact ⟨_, _, rfl, .inl ⟨_, s.toSimO.rep.seq h, rfl⟩, by rw [r2.len]; exact p.ok s (.int _)⟩
    | tup h r2 => exact ⟨_, _, rfl, .inr ⟨_, same_seqT s.toSimO.rep h, rfl⟩, by rw [r2.len]; exact p.ok s (.int _)⟩
    | _ => exact False.elim p
  | [], _, p => exact False.elim p
  | d :: _ :: _, _, p => cases d <;> exact False.elim p
theorem opn_abs : OpN K mg (fun xs H Q => ∃ i, xs = [.int i] ∧ Q (.int (if i < 0 then -i else i)) H) absD := by
  intro xs ds G en so σ H W Q r s p
  match ds, r, p with
  | [d], r, p =>
    obtain ⟨x, rfl, h⟩ := reps1 r
    cases h with
    | int i => exact ⟨i, rfl, p.ok s (.int _)⟩
    | _ => exact False.elim p
  | [], _, p => exact False.elim p
  | d :: _ :: _, _, p => cases d <;> exact False.elim p
theorem opn_int : OpN K mg (fun xs H Q => (∃ i, xs = [.int i] ∧ Q (.int i) H) ∨ ∃ k, xs = [.bl k] ∧ Q (.int (if k then 1 else 0)) H) intD := by
  intro xs ds G en so σ H W Q r s p
  match ds, r, p with
  | [d], r, p =>
    obtain ⟨x, rfl, h⟩ := reps1 r
    cases h with
    | int i => exact .inl ⟨i, rfl, p.ok s (.int _)⟩
    | bl i => exact .inr ⟨i, rfl, p.ok s (.int _)⟩
    | _ => exact False.elim p
  | [], _, p => exact False.elim p
  | d :: _ :: _, _, p => cases d <;> exact False.elim p
theorem opn_ord : OpN K mg (fun xs H Q => ∃ x, xs = [.str x] ∧ x.length = 1 ∧ Q (.int (x.cps.getD 0 0 : Nat)) H) ordD := by
  intro xs ds G en so σ H W Q r s p
  match ds, r, p with
  | [.str [c]], r, p =>
    obtain ⟨x, rfl, h⟩ := reps1 r
    cases h
    exact ⟨_, rfl, rfl, p.ok s (.int _)⟩
  | [.str []], _, p => exact False.elim p
  | [.str (_ :: _ :: _)], _, p => exact False.elim p
  | [.non], _, p => exact False.elim p
  | [.bl _], _, p => exact False.elim p
  | [.int _], _, p => exact False.elim p
  | [.lst _], _, p => exact False.elim p
  | [.tup _], _, p => exact False.elim p
  | [.dct _], _, p => exact False.elim p
  | [.obj _], _, p => exact False.elim p
  | [], _, p => exact False.elim p
  | .str [] :: _ :: _, _, p => exact False.elim p
  | .str [_] :: _ :: _, _, p => exact False.elim p
  | .str (_ :: _ :: _) :: _ :: _, _, p => exact False.elim p
  | .non :: _ :: _, _, p => exact False.elim p
  | .bl _ :: _ :: _, _, p => exact False.elim p
  | .int _ :: _ :: _, _, p => exact False.elim p
  | .lst _ :: _ :: _, _, p => exact False.elim p
  | .tup _ :: _ :: _, _, p => exact False.elim p
  | .dct _ :: _ :: _, _, p => exact False.elim p
  | .obj _ :: _ :: _, _, p => exact False.elim p
theorem bls_of {F : Hp} {rho : List (Addr × Addr)} : ∀ {vs : List V} {ds : List D} {bs : List Bool}, Reps K F rho vs ds → blsOf ds = some bs → vs = bs.map V.bl
  | _, [], bs, .nil, e => by cases e; rfl
  | _, .bl b :: r, bs, .cons h k, e => by
    cases h
    have e' : (blsOf r).map (b :: ·) = some bs := e
    cases q : blsOf r with
    | none => rw [q] at e'; cases e'
    | some bs' =>
      rw [q] at e'
      cases e'
      rw [bls_of k q]
      rfl
  | _, .non :: _, _, _, e => nomatch e
  | _, .int _ :: _, _, _, e => nomatch e
  | _, .str _ :: _, _, _, e => nomatch e
  | _, .lst _ :: _, _, _, e => nomatch e
  | _, .tup _ :: _, _, _, e => nomatch e
  | _, .dct _ :: _, _, _, e => nomatch e
  | _, .obj _ :: _, _, _, e => nomatch e
theorem opn_all : OpN K mg (rAll K) allD := by
  intro xs ds G en so σ H W Q r s p
  match ds, r, p with
  | [.lst zs], r, p =>
    obtain ⟨x, rfl, h⟩ := reps1 r
    cases h with
    | lst h r2 =>
      have p' : Post K mg G W (rlD K) σ ((match blsOf zs with | some bs => (pu (D.bl (bs.all id)) : M D) | none => no) en so) Q := p
      cases e : blsOf zs with
      | none => rw [e] at p'; exact False.elim p'
      | some bs =>
        rw [e] at p'
        refine ⟨_, bs, rfl, ?_, p'.ok s (.bl _)⟩
        rw [← bls_of r2 e]
        exact s.toSimO.rep.seq h
  | [], _, p => exact False.elim p
  | [.non], _, p => exact False.elim p
  | [.bl _], _, p => exact False.elim p
  | [.int _], _, p => exact False.elim p
  | [.str _], _, p => exact False.elim p
  | [.tup _], _, p => exact False.elim p
  | [.dct _], _, p => exact False.elim p
  | [.obj _], _, p => exact False.elim p
  | d :: _ :: _, _, p => cases d <;> exact False.elim p
theorem opn_any : OpN K mg (rAny K) anyD := by
  intro xs ds G en so σ H W Q r s p
  match ds, r, p with
  | [.lst zs], r, p =>
    obtain ⟨x, rfl, h⟩ := reps1 r
    cases h with
    | lst h r2 =>
      have p' : Post K mg G W (rlD K) σ ((match blsOf zs with | some bs => (pu (D.bl (bs.any id)) : M D) | none => no) en so) Q := p
      cases e : blsOf zs with
      | none => rw [e] at p'; exact False.elim p'
      | some bs =>
        rw [e] at p'
        refine ⟨_, bs, rfl, ?_, p'.ok s (.bl _)⟩
        rw [← bls_of r2 e]
        exact s.toSimO.rep.seq h
  | [], _, p => exact False.elim p
  | [.non], _, p => exact False.elim p
  | [.bl _], _, p => exact False.elim p
  | [.int _], _, p => exact False.elim p
  | [.str _], _, p => exact False.elim p
  | [.tup _], _, p => exact False.elim p
  | [.dct _], _, p => exact False.elim p
  | [.obj _], _, p => exact False.elim p
  | d :: _ :: _, _, p => cases d <;> exact False.elim p
end
end
end Dl

set_option Elab.async false
set_option linter.all false
set_option maxRecDepth 100000
set_option maxHeartbeats 1000000
/-! The data level: isinstance, subscripts, slices, displays, what is walked, comprehensions. -/
namespace Dl
open PySem PySem.Spec PyProof.Rows L2
noncomputable section

/-! ### isinstance against built-in classes -/
inductive TyN where
  | bool | int | str | list | tuple | dict
def TyN.nm : TyN → String
  | .bool => "bool"
  | .int => "int"
  | .str => "str"
  | .list => "list"
  | .tuple => "tuple"
  | .dict => "dict"
def isD : TyN → D → Bool
  | .bool, .bl _ => true
  | .int, .bl _ => true
  | .int, .int _ => true
  | .str, .str _ => true
  | .list, .lst _ => true
  | .tuple, .tup _ => true
  | .dict, .dct _ => true
  | _, _ => false
def mIs (T : TyN) (m : M D) : M D := bd m fun d => match d with
  | .obj _ => no
  | d => pu (.bl (isD T d))
def tyS : D → String
  | .non => "NoneType"
  | .bl _ => "bool"
  | .int _ => "int"
  | .str _ => "str"
  | .lst _ => "list"
  | .tup _ => "tuple"
  | .dct _ => "dict"
  | .obj _ => ""
theorem kit_all (T : TyN) (n : String) (h : n = "NoneType" ∨ n = "bool" ∨ n = "int" ∨ n = "str" ∨ n = "list" ∨ n = "tuple" ∨ n = "dict") : kitB n T.nm = some (n == T.nm || (n == "bool" && T.nm == "int")) := by
  rcases h with h | h | h | h | h | h | h <;> subst h <;> cases T <;> decide +kernel
theorem isD_eq (T : TyN) (d : D) (h : ∀ k, d ≠ .obj k) : (tyS d == T.nm || (tyS d == "bool" && T.nm == "int")) = isD T d := by
  cases d <;> cases T <;> first | rfl | decide | exact absurd rfl (h _)
section
variable {X : Cx} {W : WX} {a b c e : Expr} {ma mb mc m : M D} {ms : M (List D)} {pos p px : Pos} {x : Str}
theorem tyx_of {K : PySem.W.Frag} {F H : Hp} {rho : List (Addr × Addr)} {v : V} {d : D} (sf : Same F H) (r : Rep K F rho v d) (h : ∀ k, d ≠ .obj k) : TyX K H v (.type (tyS d)) := by
  cases r with
  | non => exact .base .non
  | bl b => exact .base (.bl b)
  | int b => exact .base (.int b)
  | str b => exact .base (.str _)
  | lst q r =>
    rcases sf.seq q with (q | ⟨o, q⟩) | ⟨o, its, n, q, c, _⟩
    · exact .base (.lst q)
    · exact .base (.frz q)
    · exact .kList q c
  | tup q r =>
    rcases same_seqT sf q with (q | ⟨o, q⟩) | ⟨o, its, n, q, c, _⟩
    · exact .base (.tup q)
    · exact .fTuple q
    · exact .kTuple q c
  | dct q r =>
    rcases same_rd sf q with q | ⟨o, q⟩
    · exact .base (.dK q)
    · exact .fDict q
  | obj q => exact absurd rfl (h _)
theorem tyS_known (d : D) (h : ∀ k, d ≠ .obj k) : tyS d = "NoneType" ∨ tyS d = "bool" ∨ tyS d = "int" ∨ tyS d = "str" ∨ tyS d = "list" ∨ tyS d = "tuple" ∨ tyS d = "dict" := by
  cases d <;> simp [tyS]
  exact absurd rfl (h _)
/-- isinstance(e, T) -/
theorem d_is (T : TyN) (ha : DE X W e m) (hg : Gl X "isinstance") (hm : X.mg "isinstance" = none) (hgT : Gl X x) (hmT : X.mg x = none) (hvT : bootBuiltins x = some (.type T.nm))
    (he : starEach [e, .Name x px] X.env = (false, eval e X.env) :: starEach [.Name x px] X.env := by rfl) (hpl : (backTo pos (starEach [.Name x px] X.env)).any (·.1) = false := by rfl) (hn : x ≠ "__name__" := by decide) (hd : (x == ("__debug__" : Str)) = false := by decide) : DE X W (.Call (.Name "isinstance" p) [e, .Name x px] [] pos) (mIs T m) := by
  refine ⟨PE_imp (pe_callB call_isi hg hm boot_isinstance (pa_cons ha.pe (pa_cons (pe_bltn hgT hmT hvT (v := .ty T.nm) rfl hn hd) pa_nil) he) (he := he) (hpl := hpl)) fun σ H Q q => ?_⟩
  obtain ⟨G, en, so, s, p⟩ := q
  refine ⟨G, en, so, s, (Post.bind (R1 := rlD X.K) p).imp fun v H1 ⟨G1, en1, so1, d, l, r1, s1, p1⟩ => ?_⟩
  have nob : ∀ k, d ≠ .obj k := fun k z => by subst z; exact False.elim p1
  have p2 : Q (.bl (isD T d)) H1 := by
    cases d <;> first | exact p1.ok s1 (.bl _) | exact absurd rfl (nob _)
  refine ⟨v, .ty T.nm, .type (tyS d), .type T.nm, isD T d, rfl, .ty _, tyx_of s1.toSimO.rep r1 nob, ?_, p2⟩
  rw [← isD_eq T d nob]
  exact kit_ty (kit_all T _ (tyS_known d nob))
end

/-! ### items -/
def ixD : D → D → M D
  | .lst xs, .int i => match atI xs i with
    | some d => pu d
    | none => no
  | .tup xs, .int i => match atI xs i with
    | some d => pu d
    | none => no
  | .str s, .int i => gd (s.length ≤ 16777216) (match atI s i with
    | some c => pu (.str [c])
    | none => no)
  | _, _ => no
theorem reps_at {K : PySem.W.Frag} {F : Hp} {rho : List (Addr × Addr)} : ∀ {vs : List V} {ds : List D} {j : Nat} {d : D}, Reps K F rho vs ds → ds[j]? = some d → ∃ v, vs[j]? = some v ∧ Rep K F rho v d
  | _, _, _, _, .nil, e => nomatch e
  | _, _, 0, _, .cons h _, e => by cases e; exact ⟨_, rfl, h⟩
  | _, _, j + 1, _, .cons _ r, e => by
    obtain ⟨v, h1, h2⟩ := reps_at (j := j) r (by simpa using e)
    exact ⟨v, by simpa using h1, h2⟩
theorem reps_atI {K : PySem.W.Frag} {F : Hp} {rho : List (Addr × Addr)} {vs : List V} {ds : List D} {i : Int} {d : D} (r : Reps K F rho vs ds) (e : atI ds i = some d) : ∃ v, atI vs i = some v ∧ Rep K F rho v d := by
  unfold atI at e ⊢
  rw [r.len]
  cases q : ixN ds.length i with
  | none => rw [q] at e; cases e
  | some j =>
    rw [q] at e
    exact reps_at r e
section
variable {K : PySem.W.Frag} {mg : Ev} {X : Cx} {W : WX} {a b c e : Expr} {ma mb mc m : M D} {ms : M (List D)} {pos p px : Pos} {x : Str}
theorem op2_ix : Op2 K mg (rIx K) ixD := by
  intro x y d e G en so σ H W Q rx ry s p
  cases rx with
  | lst h r =>
    cases ry with
    | int i =>
      rename_i ds
      have p' : Post K mg G W (rlD K) σ ((match atI ds i with | some d => (pu d : M D) | none => no) en so) Q := p
      cases q : atI ds i with
      | none => rw [q] at p'; exact False.elim p'
      | some d =>
        rw [q] at p'
        obtain ⟨v, h1, h2⟩ := reps_atI r q
        exact .inl ⟨_, _, i, v, rfl, rfl, s.toSimO.rep.seq h, h1, p'.ok s h2⟩
    | _ => exact False.elim p
  | tup h r =>
    cases ry with
    | int i =>
      rename_i ds
      have p' : Post K mg G W (rlD K) σ ((match atI ds i with | some d => (pu d : M D) | none => no) en so) Q := p
      cases q : atI ds i with
      | none => rw [q] at p'; exact False.elim p'
      | some d =>
        rw [q] at p'
        obtain ⟨v, h1, h2⟩ := reps_atI r q
        exact .inr (.inl ⟨_, _, i, v, rfl, rfl, same_seqT s.toSimO.rep h, h1, p'.ok s h2⟩)
    | _ => exact False.elim p
  | str z =>
    cases ry with
    | int i =>
      obtain ⟨h1, p'⟩ := Post.gd (c := z.length ≤ 16777216) (m := (match atI z i with | some c => (pu (.str [c]) : M D) | none => no)) p
      cases q : atI z i with
      | none => rw [q] at p'; exact False.elim p'
      | some c =>
        rw [q] at p'
        refine .inr (.inr ⟨_, i, c, rfl, rfl, by rw [sT_len, sizeLine_eq]; exact h1, by rw [tl_sT]; exact q, p'.ok s (.str [c])⟩)
    | _ => exact False.elim p
  | _ => cases ry <;> exact False.elim p
theorem d_ix (ha : DE X W a ma) (hb : DE X W b mb) (hs : PlainIx b := by intro _ _; rfl) : DE X W (.Subscript a b pos) (m2 ixD ma mb) :=
  ⟨PE_imp (pe_ix ix_seq ha.pe hb.pe hs) fun _ _ _ q => two op2_ix q⟩
end

/-! ### slices -/
structure DO (X : Cx) (W : WX) (e : Option Expr) (m : M (Option Int)) : Prop where
  po : PO X e (tM X.K X.ev W (fun _ _ a b => a = b) m)
def oN : M (Option Int) := pu none
def oS (m : M D) : M (Option Int) := bd m fun d => match d with
  | .int i => pu (some i)
  | _ => no
def cutL {A : Type} (l : List A) (lo hi : Option Int) : List A := (l.drop (HT.sIx l.length 0 lo)).take (HT.sIx l.length l.length hi - HT.sIx l.length 0 lo)
def slS : D → Option Int → Option Int → M D
  | .str s, lo, hi => gd (s.length ≤ 16777216) (pu (.str (cutL s lo hi)))
  | _, _, _ => no
def slL : D → Option Int → Option Int → M B
  | .lst xs, lo, hi => pu (.cel (.lst (cutL xs lo hi)))
  | _, _, _ => no
def mSl {A : Type} (f : D → Option Int → Option Int → M A) (m : M D) (lo hi : M (Option Int)) : M A := bd m fun d => bd lo fun l => bd hi fun h => f d l h
section
variable {K : PySem.W.Frag} {mg : Ev} {X : Cx} {W : WX} {a b c e : Expr} {ma mb mc m : M D} {ml mh : M (Option Int)} {lo hi : Option Expr} {pos p p2 : Pos} {x : Str}
theorem PO_imp {e : Option Expr} {t t' : TO} (h : PO X e t) (f : ∀ σ H Q, t' σ H Q → t σ H Q) : PO X e t' := ⟨fun pins s σ H Q I q => h.run pins s σ H Q I (f σ H Q q)⟩
theorem o_none : DO X W none oN := ⟨PO_imp po_none fun σ H Q ⟨G, en, so, s, p⟩ => Post.ok p s rfl⟩
theorem o_some (h : DE X W e m) : DO X W (some e) (oS m) := by
  refine ⟨PO_imp (po_some h.pe) fun σ H Q ⟨G, en, so, s, p⟩ => ?_⟩
  refine ⟨G, en, so, s, (Post.bind (R1 := rlD X.K) p).imp fun v H1 ⟨G1, en1, so1, d, l, r1, s1, p1⟩ => ?_⟩
  cases r1 with
  | int i => exact ⟨i, rfl, p1.ok s1 rfl⟩
  | _ => exact False.elim p1
theorem cutS_cutL (s : List Nat) (lo hi : Option Int) : cutS (sT s) lo hi = sT (cutL s lo hi) := by
  unfold cutS cutL
  rw [sT_len, tl_sT]
  rfl
theorem reps_drop {F : Hp} {rho : List (Addr × Addr)} : ∀ {vs : List V} {ds : List D} (n : Nat), Reps K F rho vs ds → Reps K F rho (vs.drop n) (ds.drop n)
  | _, _, 0, r => r
  | _, _, _ + 1, .nil => .nil
  | _, _, n + 1, .cons _ r => reps_drop n r
theorem reps_take {F : Hp} {rho : List (Addr × Addr)} : ∀ {vs : List V} {ds : List D} (n : Nat), Reps K F rho vs ds → Reps K F rho (vs.take n) (ds.take n)
  | _, _, 0, _ => .nil
  | _, _, _ + 1, .nil => .nil
  | _, _, n + 1, .cons h r => .cons h (reps_take n r)
theorem reps_cut {F : Hp} {rho : List (Addr × Addr)} {vs : List V} {ds : List D} (r : Reps K F rho vs ds) (lo hi : Option Int) : Reps K F rho (cutV vs lo hi) (cutL ds lo hi) := by
  unfold cutV cutL
  rw [r.len]
  exact reps_take _ (reps_drop _ r)
theorem d_slS (ha : DE X W a ma) (hl : DO X W lo ml) (hh : DO X W hi mh) : DE X W (.Subscript a (.Slice lo hi none p2) pos) (mSl slS ma ml mh) := by
  refine ⟨PE_imp (pe_slice sl_str ha.pe hl.po hh.po) fun σ H Q ⟨G, en, so, s, p⟩ => ?_⟩
  refine ⟨G, en, so, s, (Post.bind (R1 := rlD X.K) p).imp fun v H1 ⟨G1, en1, so1, d, _, r1, s1, p1⟩ => ⟨G1, en1, so1, s1, (Post.bind (R1 := fun _ _ a b => a = b) p1).imp fun y H2 ⟨G2, en2, so2, l, l2, r2, s2, p2⟩ => ⟨G2, en2, so2, s2, (Post.bind (R1 := fun _ _ a b => a = b) p2).imp fun z H3 ⟨G3, en3, so3, h, l3, r3, s3, p3⟩ => ?_⟩⟩⟩
  subst r2
  subst r3
  cases r1 with
  | str t =>
    obtain ⟨h1, p3⟩ := Post.gd (c := t.length ≤ 16777216) p3
    refine ⟨_, rfl, by rw [sT_len, sizeLine_eq]; exact h1, ?_⟩
    rw [cutS_cutL]
    exact p3.ok s3 (.str _)
  | _ => exact False.elim p3
theorem b_slL (ha : DE X W a ma) (hl : DO X W lo ml) (hh : DO X W hi mh) : DB X W (.Subscript a (.Slice lo hi none p2) pos) (mSl slL ma ml mh) := by
  refine ⟨PE_imp (pe_slice sl_list ha.pe hl.po hh.po) fun σ H Q ⟨G, en, so, s, p⟩ => ?_⟩
  refine ⟨G, en, so, s, (Post.bind (R1 := rlD X.K) p).imp fun v H1 ⟨G1, en1, so1, d, _, r1, s1, p1⟩ => ⟨G1, en1, so1, s1, (Post.bind (R1 := fun _ _ a b => a = b) p1).imp fun y H2 ⟨G2, en2, so2, l, l2, r2, s2, p2⟩ => ⟨G2, en2, so2, s2, (Post.bind (R1 := fun _ _ a b => a = b) p2).imp fun z H3 ⟨G3, en3, so3, h, l3, r3, s3, p3⟩ => ?_⟩⟩⟩
  subst r2
  subst r3
  have ru := r1.up (l2.trans l3)
  cases ru with
  | lst q r =>
    refine ⟨_, _, rfl, s3.toSimO.rep.seq q, fun p hp => ?_⟩
    exact p3.ok' (tag_le p .tmp) (s3.newT (t := .tmp) hp) ⟨p, rfl, tag_own, _, upd_same, reps_cut r _ _⟩
  | _ => exact False.elim p3
end

/-! ### displays -/
section
variable {X : Cx} {W : WX} {a b c e : Expr} {ma mb mc m : M D} {ms : M (List D)} {es : List Expr} {pos p p2 : Pos} {x1}
def mTup (ms : M (List D)) : M D := bd ms fun ds => gd (ds.length ≤ 16777216) (pu (.tup ds))
def mLst (ms : M (List D)) : M B := bd ms fun ds => gd (ds.length ≤ 16777216) (pu (.cel (.lst ds)))
theorem d_tup (h : DA X W es ms) : DE X W (.Tuple es x1 pos) (mTup ms) := by
  refine ⟨PE_imp (pe_tup h.pa) fun σ H Q ⟨G, en, so, s, p⟩ => ?_⟩
  refine ⟨G, en, so, s, (Post.bind (R1 := rlDs X.K) p).imp fun v H1 ⟨G1, en1, so1, ds, l, r1, s1, p1⟩ => ?_⟩
  obtain ⟨h1, p1⟩ := Post.gd p1
  refine ⟨by rw [r1.len, sizeLine_eq]; exact h1, fun q hq => ?_⟩
  obtain ⟨s2, l2⟩ := s1.newF (o := .tup v) hq
  exact p1.ok' l2 s2 (.tup (.inl (.inl (show upd G1.F q _ q = _ from upd_same))) (r1.up l2))
theorem b_lst (h : DA X W es ms) : DB X W (.List es pos) (mLst ms) := by
  refine ⟨PE_imp (pe_lst h.pa) fun σ H Q ⟨G, en, so, s, p⟩ => ?_⟩
  refine ⟨G, en, so, s, (Post.bind (R1 := rlDs X.K) p).imp fun v H1 ⟨G1, en1, so1, ds, l, r1, s1, p1⟩ => ?_⟩
  obtain ⟨h1, p1⟩ := Post.gd p1
  refine ⟨by rw [r1.len, sizeLine_eq]; exact h1, fun q hq => ?_⟩
  exact p1.ok' (tag_le q .tmp) (s1.newT (t := .tmp) hq) ⟨q, rfl, tag_own, _, upd_same, r1⟩
end
end
end Dl

set_option Elab.async false
set_option linter.all false
set_option maxRecDepth 100000
set_option maxHeartbeats 1000000
/-! The data level: what is walked, comprehensions, statements, loops. -/
namespace Dl
open PySem PySem.Spec PyProof.Rows L2
noncomputable section

/-! ### what is walked -/
/-- J yields the data ds, one after the other, wherever what is frozen stands -/
def Walk (K : PySem.W.Frag) (F : Hp) (L : Addr → Option (HO × Nat)) (rho : List (Addr × Addr)) (J : It) (ds : List D) : Prop := ∀ (i : Nat) (H : Hp), Same F H → (∀ a o, L a = some o → H a = some o.1) →
  (∀ d, ds[i]? = some d → J.go i H ∧ ∀ x H', J.yld i H x H' → (H' = H ∧ Rep K F rho x d) ∨ ∃ T vs es, x = .ref T ∧ H T = none ∧ H' = upd H T (.tup vs) ∧ d = .tup es ∧ Reps K F rho vs es) ∧ (ds.length ≤ i → J.stop i H)
structure DI (X : Cx) (W : WX) (tg iter : Expr) (m : M (List D)) : Prop where
  pi : PI X tg iter (tM X.K X.ev W (fun G _ J ds => Walk X.K G.F G.L G.rho J ds) m)
theorem PI_imp {X : Cx} {tg e : Expr} {t t' : TI} (h : PI X tg e t) (f : ∀ σ H Q, t' σ H Q → t σ H Q) : PI X tg e t' := ⟨fun pins s σ H R I q => h.run pins s σ H R I (f σ H R q)⟩
def itL (m : M D) : M (List D) := bd m fun d => match d with
  | .lst xs => pu xs
  | _ => no
def itT (m : M D) : M (List D) := bd m fun d => match d with
  | .tup xs => pu xs
  | _ => no
def itS (m : M D) : M (List D) := bd m fun d => match d with
  | .str s => pu (s.map fun c => .str [c])
  | _ => no
/-- lo, lo + 1, .. -/
def rngD (lo : Int) (n : Nat) : List D := (List.range n).map fun (i : Nat) => .int (lo + i)
def rg1 : D → M (List D)
  | .int j => gd (-(2 ^ 62) ≤ j ∧ j < 2 ^ 62) (pu (rngD 0 j.toNat))
  | _ => no
def rg2 : D → D → M (List D)
  | .int i, .int j => gd (-(2 ^ 62) ≤ i ∧ i < 2 ^ 62 ∧ -(2 ^ 62) ≤ j ∧ j < 2 ^ 62) (pu (rngD i (j - i).toNat))
  | _, _ => no
def itR1 (m : M D) : M (List D) := bd m rg1
def itR2 (a b : M D) : M (List D) := bd a fun i => bd b fun j => rg2 i j
theorem rngD_at (lo : Int) (n i : Nat) (d : D) (h : (rngD lo n)[i]? = some d) : i < n ∧ d = .int (lo + i) := by
  unfold rngD at h
  rw [List.getElem?_map] at h
  by_cases hi : i < n
  · rw [List.getElem?_range hi] at h
    exact ⟨hi, (Option.some.inj h).symm⟩
  · rw [List.getElem?_eq_none (by simpa using hi)] at h
    cases h
theorem rngD_len (lo : Int) (n : Nat) : (rngD lo n).length = n := by simp [rngD]
section
variable {X : Cx} {W : WX} {tg e : Expr} {m : M D} {ms : M (List D)} {p pos : Pos}
theorem i_list (h : DE X W e m) : DI X W tg e (itL m) := by
  refine ⟨PI_imp (pi_list h.pe) fun σ H Q ⟨G, en, so, s, p⟩ => ?_⟩
  refine ⟨G, en, so, s, (Post.bind (R1 := rlD X.K) p).imp fun v H1 ⟨G1, en1, so1, d, l, r1, s1, p1⟩ => ?_⟩
  cases r1 with
  | @lst a vs ds q r =>
    refine ⟨a, rfl, ⟨_, s1.toSimO.rep.seq q⟩, p1.ok (v := Itl X.K a) s1 fun i H' sf _ => ⟨fun d e => ?_, fun hl => ⟨_, sf.seq q, by rw [r.len]; exact hl⟩⟩⟩
    obtain ⟨v, e1, r1⟩ := reps_at r e
    exact ⟨⟨_, v, sf.seq q, e1⟩, fun x H'' ⟨h1, h2⟩ => .inl ⟨h1, by
      have := h2 _ (sf.seq q)
      rw [e1] at this
      cases this
      exact r1⟩⟩
  | _ => exact False.elim p1
theorem i_tup (h : DE X W e m) : DI X W tg e (itT m) := by
  refine ⟨PI_imp (pi_tup h.pe) fun σ H Q ⟨G, en, so, s, p⟩ => ?_⟩
  refine ⟨G, en, so, s, (Post.bind (R1 := rlD X.K) p).imp fun v H1 ⟨G1, en1, so1, d, l, r1, s1, p1⟩ => ?_⟩
  cases r1 with
  | @tup a vs ds q r =>
    refine ⟨a, rfl, ⟨_, same_seqT s1.toSimO.rep q⟩, p1.ok (v := Itt X.K a) s1 fun i H' sf _ => ⟨fun d e => ?_, fun hl => ⟨_, same_seqT sf q, by rw [r.len]; exact hl⟩⟩⟩
    obtain ⟨v, e1, r1⟩ := reps_at r e
    exact ⟨⟨_, v, same_seqT sf q, e1⟩, fun x H'' ⟨h1, h2⟩ => .inl ⟨h1, by
      have := h2 _ (same_seqT sf q)
      rw [e1] at this
      cases this
      exact r1⟩⟩
  | _ => exact False.elim p1
theorem i_str (h : DE X W e m) : DI X W tg e (itS m) := by
  refine ⟨PI_imp (pi_str h.pe) fun σ H Q ⟨G, en, so, s, p⟩ => ?_⟩
  refine ⟨G, en, so, s, (Post.bind (R1 := rlD X.K) p).imp fun v H1 ⟨G1, en1, so1, d, l, r1, s1, p1⟩ => ?_⟩
  cases r1 with
  | str z =>
    have hs : (sT z).cps.size = z.length := sT_len z
    refine ⟨sT z, rfl, p1.ok (v := Its (sT z)) s1 fun i H' sf _ => ⟨fun d e => ?_, fun hl => by show (sT z).cps.size ≤ i; rw [hs]; simpa using hl⟩⟩
    rw [List.getElem?_map] at e
    cases q : z[i]? with
    | none => rw [q] at e; cases e
    | some c =>
      rw [q] at e
      cases e
      refine ⟨by show i < (sT z).cps.size; rw [hs]; exact (List.getElem?_eq_some_iff.mp q).1, fun x H'' ⟨h1, c', h2, h3⟩ => .inl ⟨h1, ?_⟩⟩
      have e2 : (sT z).cps[i]? = z[i]? := by simp [sT]
      rw [e2, q] at h2
      cases h2
      subst h3
      exact .str [c]
  | _ => exact False.elim p1
theorem walk_rng {K : PySem.W.Frag} {F : Hp} {L : Addr → Option (HO × Nat)} {rho : List (Addr × Addr)} (lo : Int) (n : Nat) : Walk K F L rho (Itr lo n) (rngD lo n) := fun i H' sf _ =>
  ⟨fun d e => by
    obtain ⟨h1, h2⟩ := rngD_at lo n i d e
    exact ⟨h1, fun x H'' ⟨h3, h4⟩ => .inl ⟨h3, by subst h4; subst h2; exact .int _⟩⟩, fun hl => by show n ≤ i; rw [rngD_len] at hl; exact hl⟩
theorem i_range1 (hg : Gl X "range") (hm : X.mg "range" = none) (ha : DE X W e m) (hs : starEach [e] X.env = [(false, eval e X.env)] := by rfl) : DI X W tg (.Call (.Name "range" p) [e] [] pos) (itR1 m) := by
  refine ⟨PI_imp (pi_range1 hg hm (pa_cons ha.pe pa_nil hs) hs) fun σ H Q ⟨G, en, so, s, p⟩ => ?_⟩
  refine ⟨G, en, so, s, (Post.bind (R1 := rlD X.K) p).imp fun v H1 ⟨G1, en1, so1, d, l, r1, s1, p1⟩ => ?_⟩
  cases r1 with
  | int j =>
    obtain ⟨⟨h1, h2⟩, p1⟩ := Post.gd (c := -(2 ^ 62) ≤ j ∧ j < 2 ^ 62) p1
    exact ⟨j, rfl, h1, h2, p1.ok s1 (walk_rng 0 j.toNat)⟩
  | _ => exact False.elim p1
theorem i_range2 {e2 : Expr} {m2 : M D} (hg : Gl X "range") (hm : X.mg "range" = none) (ha : DE X W e m) (hb : DE X W e2 m2) (hs : starEach [e, e2] X.env = [(false, eval e X.env), (false, eval e2 X.env)] := by rfl) (hs2 : starEach [e2] X.env = [(false, eval e2 X.env)] := by rfl) :
    DI X W tg (.Call (.Name "range" p) [e, e2] [] pos) (itR2 m m2) := by
  refine ⟨PI_imp (pi_range2 hg hm (pa_cons ha.pe (pa_cons hb.pe pa_nil hs2) (by rw [hs, hs2])) hs hs2) fun σ H Q ⟨G, en, so, s, p⟩ => ?_⟩
  refine ⟨G, en, so, s, (Post.bind (R1 := rlD X.K) p).imp fun v H1 ⟨G1, en1, so1, d, l, r1, s1, p1⟩ => ⟨G1, en1, so1, s1, (Post.bind (R1 := rlD X.K) p1).imp fun y H2 ⟨G2, en2, so2, d2, l2, r2, s2, p2⟩ => ?_⟩⟩
  cases r1 with
  | int i =>
    cases r2 with
    | int j =>
      obtain ⟨hh, p2⟩ := Post.gd (c := -(2 ^ 62) ≤ i ∧ i < 2 ^ 62 ∧ -(2 ^ 62) ≤ j ∧ j < 2 ^ 62) p2
      exact ⟨i, j, rfl, hh, p2.ok s2 (walk_rng i (j - i).toNat)⟩
    | _ => exact False.elim p2
  | _ => exact False.elim p2
end

/-! ### targets -/
/-- where a walked item goes -/
abbrev Tg := D → En → Option En
def tgR (K : PySem.W.Frag) (mg : Ev) (tg : Tg) (vs : List Nat) : TG := fun v σ H Q => ∃ G en so d en', Rep K G.F G.rho v d ∧ Sim K mg G en so σ H ∧ tg d en = some en' ∧ ∀ σ', Sim K mg G en' so σ' H → L2.wipe σ' vs = L2.wipe σ vs → Q σ' H
structure DG (X : Cx) (tgE : Expr) (tg : Tg) (vs : List Nat) : Prop where
  pg : PG X tgE (tgR X.K X.ev tg vs)
def tgN (i : Nat) : Tg := fun d en => some (en.set i (some (.dat d)))
def tgP (i j : Nat) : Tg := fun d en => match d with
  | .tup [x, y] => some ((en.set i (some (.dat x))).set j (some (.dat y)))
  | _ => none
section
variable {K : PySem.W.Frag} {mg : Ev} {G : Gh} {en : En} {so : So} {σ : L2.St} {H : Hp}
theorem Sim.setD {v : V} {d : D} (s : Sim K mg G en so σ H) (r : Rep K G.F G.rho v d) (i : Nat) : Sim K mg G (en.set i (some (.dat d))) so (σ.set i (some v)) H := by
  refine ⟨s.toSimO, by rw [List.length_set, List.length_set, s.ln], fun j b e => ?_⟩
  by_cases hj : i = j
  · subst hj
    by_cases hl : i < en.length
    · rw [List.getElem?_set_self hl] at e
      cases e
      exact ⟨v, by rw [List.getElem?_set_self (by rw [← s.ln]; exact hl)], r⟩
    · rw [List.getElem?_eq_none (by rw [List.length_set]; omega)] at e
      cases e
  · rw [List.getElem?_set_ne hj] at e
    obtain ⟨v', e', r'⟩ := s.sl j b e
    exact ⟨v', by rw [List.getElem?_set_ne hj]; exact e', r'⟩
/-- a name is forgotten -/
theorem Sim.setN (s : Sim K mg G en so σ H) (i : Nat) {o : Option V} : Sim K mg G (en.set i none) so (σ.set i o) H := by
  refine ⟨s.toSimO, by rw [List.length_set, List.length_set, s.ln], fun j b e => ?_⟩
  by_cases hj : i = j
  · subst hj
    by_cases hl : i < en.length
    · rw [List.getElem?_set_self hl] at e
      cases e
    · rw [List.getElem?_eq_none (by rw [List.length_set]; omega)] at e
      cases e
  · rw [List.getElem?_set_ne hj] at e
    obtain ⟨v', e', r'⟩ := s.sl j b e
    exact ⟨v', by rw [List.getElem?_set_ne hj]; exact e', r'⟩
end
section
variable {X : Cx} {pos : Pos} {k : Nat}
theorem PG_imp {e : Expr} {t t' : TG} (h : PG X e t) (f : ∀ v σ H Q, t' v σ H Q → t v σ H Q) : PG X e t' := ⟨fun pins s σ H v u Q I r q => h.run pins s σ H v u Q I r (f v σ H Q q)⟩
theorem rep_pair {K : PySem.W.Frag} {F : Hp} {rho : List (Addr × Addr)} {v : V} {d1 d2 : D} (r : Rep K F rho v (.tup [d1, d2])) : ∃ a v1 v2, v = .ref a ∧ SqT K F a [v1, v2] ∧ Rep K F rho v1 d1 ∧ Rep K F rho v2 d2 := by
  cases r with
  | tup h r2 =>
    cases r2 with
    | cons r1 r2 =>
      cases r2 with
      | cons r2 r3 =>
        cases r3
        exact ⟨_, _, _, rfl, h, r1, r2⟩
theorem g_name {i : Nat} {x : Str} (hN : X.N.Nodup) (hi : X.N[i]? = some x := by rfl) (hx : Loc X.env.scope x := by first | exact Or.inl rfl | exact Or.inr rfl) (hf : X.fn x = true ∨ X.env.scope.names.lookup x = some .local := by first | exact .inl rfl | exact .inr rfl | assumption) : DG X (.Name x pos) (tgN i) [i] := by
  refine ⟨⟨fun pins s σ H v u Q I r h => ?_⟩⟩
  obtain ⟨G, en, so, d, en', rd, sm, e, q⟩ := h
  cases e
  exact (pg_name hN hi hx hf).run pins s σ H v u Q I r (q _ (sm.setD rd i) (by show ((σ.set i _).set i none) = σ.set i none; rw [List.set_set]))
theorem g_pair {i j : Nat} {x y : Str} {px py : Pos} (hc : X.calm = true) (hij : i ≠ j) (hN : X.N.Nodup) (hi : X.N[i]? = some x := by rfl) (hx : Loc X.env.scope x := by first | exact Or.inl rfl | exact Or.inr rfl) (hj : X.N[j]? = some y := by rfl) (hy : Loc X.env.scope y := by first | exact Or.inl rfl | exact Or.inr rfl)
    (hf : X.fn x = true ∨ X.env.scope.names.lookup x = some .local := by first | exact .inl rfl | exact .inr rfl | assumption) (hf2 : X.fn y = true ∨ X.env.scope.names.lookup y = some .local := by first | exact .inl rfl | exact .inr rfl | assumption) : DG X (.Tuple [.Name x px, .Name y py] k pos) (tgP i j) [i, j] := by
  refine ⟨PG_imp (pg_tup (n := 2) hc (pgs_cons (pg_name hN hi hx hf) (pgs_cons (pg_name hN hj hy hf2) pgs_nil))) fun v σ H Q h => ?_⟩
  obtain ⟨G, en, so, d, en', rd, sm, e, q⟩ := h
  obtain ⟨d1, d2, rfl⟩ : ∃ d1 d2, d = .tup [d1, d2] := by
    unfold tgP at e
    split at e
    · exact ⟨_, _, rfl⟩
    · cases e
  cases e
  obtain ⟨a, v1, v2, rfl, h, r1, r2⟩ := rep_pair rd
  refine ⟨a, [v1, v2], rfl, same_seqT sm.toSimO.rep h, rfl, v1, [v2], rfl, v2, [], rfl, rfl, ?_⟩
  exact q _ ((sm.setD r1 i).setD r2 j) (by show ((((σ.set i _).set j _).set j none).set i none) = ((σ.set j none).set i none); rw [List.set_set, List.set_comm _ _ hij.symm, List.set_set, List.set_comm _ _ hij])
end

/-! ### list comprehensions -/
abbrev W0 : WX := fun _ _ _ _ => False
structure DTs (X : Cx) (W : WX) (ifs : List Expr) (m : M Bool) : Prop where
  pts : PTs X ifs (tM X.K X.ev W rlT m)
theorem PTs_imp {X : Cx} {ifs : List Expr} {t t' : TT} (h : PTs X ifs t) (f : ∀ σ H Q, t' σ H Q → t σ H Q) : PTs X ifs t' := ⟨fun pins s σ H Q I q => h.run pins s σ H Q I (f σ H Q q)⟩
theorem ts_nil {X : Cx} {W : WX} : DTs X W [] (pu true) := ⟨PTs_imp pts_nil fun σ H Q ⟨G, en, so, s, p⟩ => Post.ok p s rfl⟩
theorem ts_one {X : Cx} {W : WX} {c : Expr} {m : M Bool} (h : DT X W c m) : DTs X W [c] m := ⟨pts_one h.pt⟩
def keepD (en : En) (i : Nat) : Option B := match en[i]? with
  | some (some (.dat d)) => some (.dat d)
  | _ => none
def wipeE (en : En) : List Nat → En
  | [] => en
  | v :: vs => (wipeE en vs).set v none
def lcGo (vs : List Nat) (tg : Tg) (tt : M Bool) (el : M D) : List D → List D → M (List D)
  | [], acc => pu acc
  | d :: ds, acc => fun en so => match tg d en with
    | none => .no
    | some en0 => match tt en0 so with
      | .ok false en1 so1 => lcGo vs tg tt el ds acc (wipeE en1 vs) so1
      | .ok true en1 so1 => match el en1 so1 with
        | .ok x en2 so2 => if acc.length < 16777216 then lcGo vs tg tt el ds (acc ++ [x]) (wipeE en2 vs) so2 else .no
        | _ => .no
      | _ => .no
def backE (en0 en : En) : List Nat → En
  | [] => en
  | v :: vs => (backE en0 en vs).set v (keepD en0 v)
def mLc (vs : List Nat) (tg : Tg) (src : M (List D)) (tt : M Bool) (el : M D) : M B := bd src fun ds en so => match lcGo vs tg tt el ds [] (wipeE en vs) so with
  | .ok xs en' so' => .ok (.cel (.lst xs)) (backE en en' vs) so'
  | _ => .no
section
variable {K : PySem.W.Frag} {mg : Ev} {G : Gh} {en : En} {so : So} {σ : L2.St} {H : Hp}
theorem Sim.wipe (s : Sim K mg G en so σ H) : ∀ vs : List Nat, Sim K mg G (wipeE en vs) so (L2.wipe σ vs) H
  | [] => s
  | v :: vs => (s.wipe vs).setN v
theorem wipe_get (σ : L2.St) : ∀ (vs : List Nat) (k : Nat), (L2.wipe σ vs)[k]? = if k ∈ vs then σ[k]?.map (fun _ => none) else σ[k]?
  | [], k => by simp [L2.wipe]
  | v :: vs, k => by
    unfold L2.wipe
    by_cases h : v = k
    · subst h
      rw [if_pos List.mem_cons_self]
      by_cases hl : v < σ.length
      · rw [List.getElem?_set_self (by rw [wipe_length]; exact hl), List.getElem?_eq_getElem hl]; rfl
      · rw [List.getElem?_eq_none (by rw [List.length_set, wipe_length]; omega), List.getElem?_eq_none (by omega)]; rfl
    · rw [List.getElem?_set_ne h, wipe_get σ vs k]
      simp [List.mem_cons, Ne.symm h]
theorem wipe_wipe (σ : L2.St) (vs : List Nat) : L2.wipe (L2.wipe σ vs) vs = L2.wipe σ vs := by
  apply List.ext_getElem?
  intro k
  rw [wipe_get, wipe_get]
  by_cases h : k ∈ vs
  · rw [if_pos h, if_pos h]; cases σ[k]? <;> rfl
  · rw [if_neg h, if_neg h]
theorem backE_len (en0 en : En) : ∀ vs : List Nat, (backE en0 en vs).length = en.length
  | [] => rfl
  | v :: vs => by unfold backE; rw [List.length_set, backE_len en0 en vs]
theorem backE_get (en0 en : En) : ∀ (vs : List Nat) (k : Nat), (backE en0 en vs)[k]? = if k ∈ vs then en[k]?.map (fun _ => keepD en0 k) else en[k]?
  | [], k => by simp [backE]
  | v :: vs, k => by
    unfold backE
    by_cases h : v = k
    · subst h
      rw [if_pos List.mem_cons_self]
      by_cases hl : v < en.length
      · rw [List.getElem?_set_self (by rw [backE_len]; exact hl), List.getElem?_eq_getElem hl]; rfl
      · rw [List.getElem?_eq_none (by rw [List.length_set, backE_len]; omega), List.getElem?_eq_none (by omega)]; rfl
    · rw [List.getElem?_set_ne h, backE_get en0 en vs k]
      simp [List.mem_cons, Ne.symm h]
theorem Sim.back {G1 : Gh} {en1 : En} {so1 : So} {H1 : Hp} (vs : List Nat) (s : Sim K mg G en so (L2.wipe σ vs) H) (s1 : Sim K mg G1 en1 so1 σ H1) (F : Same G1.F G.F) (rho : Pre G1.rho G.rho) : Sim K mg G (backE en1 en vs) so σ H := by
  refine ⟨s.toSimO, by rw [backE_len, s.ln, wipe_length], fun k b e => ?_⟩
  rw [backE_get] at e
  by_cases h : k ∈ vs
  · rw [if_pos h] at e
    have e' : keepD en1 k = some b := by
      cases q : en[k]? with
      | none => rw [q] at e; cases e
      | some x => rw [q] at e; exact Option.some.inj e
    unfold keepD at e'
    split at e'
    · rename_i d ed
      cases e'
      obtain ⟨v, e1, r⟩ := s1.sl k _ ed
      exact ⟨v, e1, Rep.mono F rho r⟩
    · cases e'
  · rw [if_neg h] at e
    obtain ⟨v, e1, r⟩ := s.sl k b e
    rw [wipe_get, if_neg h] at e1
    exact ⟨v, e1, r⟩
/-- something new that is to stay as it is -/
def _root_.Dl.Gh.keepR (G : Gh) (p : Addr) (o : HO) : Gh := { G with R := upd G.R p o, own := fun b => if b = p then .rest else G.own b }
theorem Sim.newR {p : Addr} {o : HO} (s : Sim K mg G en so σ H) (hp : H p = none) : Sim K mg (G.keepR p o) en so σ (upd H p o) := by
  have t := s.newT (o := o) (t := .rest) hp
  have eF : Same (G.tag p .rest).F (G.keepR p o).F := Same.refl G.F
  have er : Pre (G.tag p .rest).rho (G.keepR p o).rho := fun _ _ h => h
  refine ⟨⟨t.fr, fun a u e => ?_, t.len, fun k ob a dx e1 e2 => ?_, t.lk⟩, t.ln, fun i b e => ?_⟩
  · by_cases hb : a = p
    · subst hb
      have e' : upd G.R a o a = some u := e
      rw [upd_same] at e'
      cases e'
      exact ⟨upd_same, if_pos rfl⟩
    · have e' : upd G.R p o a = some u := e
      rw [upd_ne hb] at e'
      exact t.re a u e'
  · exact (t.ob k ob a dx e1 e2).keep eF er fun b u h1 _ => ⟨h1, rfl⟩
  · obtain ⟨v, e1, r⟩ := t.sl i b e
    exact ⟨v, e1, r.keep eF er fun a u h1 h2 => ⟨h1, h2⟩⟩
def _root_.Dl.Gh.setR (G : Gh) (R : Hp) : Gh := { G with R := R }
def _root_.Dl.Gh.outR (G : Gh) (R : Hp) (p : Addr) : Gh := { G with R := R, own := fun b => if b = p then .tmp else G.own b }
/-- what was kept, written by its owner -/
theorem Sim.setR {p : Addr} {o o' : HO} {R0 : Hp} (s : Sim K mg G en so σ H) (hR : G.R = upd R0 p o) : Sim K mg (G.setR (upd R0 p o')) en so σ (upd H p o') := by
  have eF : Same G.F (G.setR (upd R0 p o')).F := Same.refl G.F
  have er : Pre G.rho (G.setR (upd R0 p o')).rho := fun _ _ h => h
  have w : G.own p = .rest := (s.re p o (by rw [hR]; exact upd_same)).2
  have kp : ∀ a u, H a = some u → G.own a ≠ .rest → (upd H p o') a = some u := fun a u e q => by
    have : a ≠ p := fun z => q (by rw [z]; exact w)
    rw [upd_ne this]; exact e
  refine ⟨⟨fun a u e => ?_, fun a u e => ?_, s.len, fun k ob a dx e1 e2 => ?_, fun a u e => ?_⟩, s.ln, fun i b e => ?_⟩
  · obtain ⟨h1, h2⟩ := s.fr a u e
    exact ⟨kp a u h1 (by rw [h2]; intro z; cases z), h2⟩
  · have e' : upd R0 p o' a = some u := e
    by_cases hb : a = p
    · subst hb
      rw [upd_same] at e'
      cases e'
      exact ⟨upd_same, w⟩
    · rw [upd_ne hb] at e'
      obtain ⟨h1, h2⟩ := s.re a u (by rw [hR, upd_ne hb]; exact e')
      exact ⟨by rw [upd_ne hb]; exact h1, h2⟩
  · exact (s.ob k ob a dx e1 e2).keep eF er fun b u h1 h2 => ⟨kp b u h1 (by rcases h2 with h2 | h2 <;> (rw [h2]; intro z; cases z)), rfl⟩
  · obtain ⟨h1, h2⟩ := s.lk a u e
    exact ⟨kp a _ h1 (by rw [h2]; intro z; cases z), h2⟩
  · obtain ⟨v, e1, r⟩ := s.sl i b e
    exact ⟨v, e1, r.keep eF er fun a u h1 h2 => ⟨kp a u h1 (by rw [h2]; intro z; cases z), h2⟩⟩
/-- what was kept becomes a result -/
theorem Sim.takeR {p : Addr} {o : HO} {R0 : Hp} (s : Sim K mg G en so σ H) (hR : G.R = upd R0 p o) (h0 : R0 p = none) : Sim K mg (G.outR R0 p) en so σ H := by
  have eF : Same G.F (G.outR R0 p).F := Same.refl G.F
  have er : Pre G.rho (G.outR R0 p).rho := fun _ _ h => h
  have w : G.own p = .rest := (s.re p o (by rw [hR]; exact upd_same)).2
  have kp : ∀ a t, G.own a = t → t ≠ .rest → (G.outR R0 p).own a = t := fun a t e q => by
    have : a ≠ p := fun z => q (by rw [← e, z]; exact w)
    exact (if_neg this).trans e
  refine ⟨⟨fun a u e => ?_, fun a u e => ?_, s.len, fun k ob a dx e1 e2 => ?_, fun a u e => ?_⟩, s.ln, fun i b e => ?_⟩
  · obtain ⟨h1, h2⟩ := s.fr a u e
    exact ⟨h1, kp a _ h2 (by intro z; cases z)⟩
  · have e' : R0 a = some u := e
    have hb : a ≠ p := fun z => by rw [z, h0] at e'; cases e'
    obtain ⟨h1, h2⟩ := s.re a u (by rw [hR, upd_ne hb]; exact e')
    exact ⟨h1, (if_neg hb).trans h2⟩
  · exact (s.ob k ob a dx e1 e2).keep eF er fun b u h1 h2 => ⟨h1, kp b _ rfl (by rcases h2 with h2 | h2 <;> (rw [h2]; intro z; cases z))⟩
  · obtain ⟨h1, h2⟩ := s.lk a u e
    exact ⟨h1, kp a _ h2 (by intro z; cases z)⟩
  · obtain ⟨v, e1, r⟩ := s.sl i b e
    exact ⟨v, e1, r.keep eF er fun a u h1 h2 => ⟨h1, kp a _ h2 (by intro z; cases z)⟩⟩
theorem reps_app {F : Hp} {rho : List (Addr × Addr)} : ∀ {vs ws : List V} {ds es : List D}, Reps K F rho vs ds → Reps K F rho ws es → Reps K F rho (vs ++ ws) (ds ++ es)
  | _, _, _, _, .nil, r => r
  | _, _, _, _, .cons h q, r => .cons h (reps_app q r)
end
section
variable {X : Cx} {W : WX} {tg iter elt : Expr} {ifs : List Expr} {scope : Scope} {pos : Pos} {own : List (Str × Nat)} {tgM : Tg} {src : M (List D)} {tt : M Bool} {el : M D}
/-- the words a comprehension's block asks -/
theorem lc_tr {σ : L2.St} {K : PySem.W.Frag} {mg : Ev} {vs : List Nat} {Qd : Hp → Prop} {G1 : Gh} {en1 : En} {so1 : So} {H1 : Hp} {J : It} {ds xs : List D} {enF : En} {soF : So} {Dl : Addr}
    (s1 : Sim K mg G1 en1 so1 σ H1) (wk : Walk K G1.F G1.L G1.rho J ds) (hD : H1 Dl = none) (res : lcGo vs tgM tt el ds [] (wipeE en1 vs) so1 = .ok xs enF soF)
    (fin : ∀ G' H', G1.le G' → Sim K mg G' (backE en1 enF vs) soF σ H' → RB K G' H' .tmp (.ref Dl) (.cel (.lst xs)) → Qd H') :
    ∃ Wn : Nat → Nat → Hp → Prop, (∃ m, Wn 0 m (upd H1 Dl (.lst []))) ∧ ∀ i m H, Wn i m H →
      (J.stop i H ∧ Qd H) ∨ (J.go i H ∧ ∃ Nx : Hp → Prop, (∀ H', Nx H' → ∃ m', m' < m ∧ Wn (i + 1) m' H') ∧ ∀ x H', J.yld i H x H' →
        tgR K mg tgM vs x (L2.wipe σ vs) H' fun σ2 H2 => L2.wipe σ2 vs = L2.wipe σ vs ∧ tM K mg W0 rlT tt σ2 H2 fun b H3 =>
          if b = true then tM K mg W0 (rlD K) el σ2 H3 fun y H4 => ∃ acc, H4 Dl = some (.lst acc) ∧ acc.length < sizeLine ∧ Nx (upd H4 Dl (.lst (acc ++ [y]))) else Nx H3) := by
  refine ⟨fun i m H => m = ds.length - i ∧ i ≤ ds.length ∧ ∃ G en so acc va, Same G1.F G.F ∧ Pre G1.rho G.rho ∧ G.R = upd G1.R Dl (.lst va) ∧ G.L = G1.L ∧ Reps K G.F G.rho va acc ∧ Sim K mg G en so (L2.wipe σ vs) H ∧ lcGo vs tgM tt el (ds.drop i) acc en so = .ok xs enF soF, ⟨_, rfl, Nat.zero_le _, G1.keepR Dl (.lst []), wipeE en1 vs, so1, [], [], Same.refl _, fun _ _ h => h, rfl, rfl, .nil, (s1.wipe vs).newR hD, res⟩, ?_⟩
  rintro i m H ⟨rfl, hi, G, en, so, acc, va, sF, sr, hR, hL, ra, s, run⟩
  have sfH : Same G1.F H := sF.trans s.toSimO.rep
  have sfL : ∀ a o, G1.L a = some o → H a = some o.1 := fun a o e => (s.lk a o (by rw [hL]; exact e)).1
  have R0 : G1.R Dl = none := by
    cases q : G1.R Dl with
    | none => rfl
    | some u => rw [(s1.re Dl u q).1] at hD; cases hD
  by_cases hlt : i < ds.length
  · have ed : ds[i]? = some ds[i] := List.getElem?_eq_getElem hlt
    obtain ⟨go, yl⟩ := (wk i H sfH sfL).1 _ ed
    refine .inr ⟨go, _, fun H' h => ⟨ds.length - (i + 1), by omega, h⟩, fun x H' y => ?_⟩
    have dr : ds.drop i = ds[i] :: ds.drop (i + 1) := by rw [List.drop_eq_getElem_cons hlt]
    rw [dr] at run
    -- the item
    have item : ∃ G2, G.le G2 ∧ Sim K mg G2 en so (L2.wipe σ vs) H' ∧ Rep K G2.F G2.rho x ds[i] := by
      rcases yl x H' y with ⟨rfl, r⟩ | ⟨T, ws, es, rfl, hT, rfl, e, r⟩
      · exact ⟨G, .refl G, s, Rep.mono sF sr r⟩
      · obtain ⟨s2, l2⟩ := s.newF (o := .tup ws) hT
        refine ⟨_, l2, s2, ?_⟩
        rw [e]
        exact .tup (.inl (.inl (show upd G.F T _ T = _ from upd_same))) (r.mono (sF.trans l2.F) fun k x h => l2.rho k x (sr k x h))
    obtain ⟨G2, l2, s2, r2⟩ := item
    unfold lcGo at run
    cases et : tgM ds[i] en with
    | none => rw [et] at run; cases run
    | some en0 =>
      rw [et] at run
      refine ⟨G2, en, so, ds[i], en0, r2, s2, et, fun σ' sg wp => ⟨by rw [wp, wipe_wipe], G2, en0, so, sg, ?_⟩⟩
      have stay : ∀ {en' : En} {so' : So} {H'' : Hp} {G3 : Gh}, Sim K mg G3 en' so' σ' H'' → Sim K mg G3 (en') so' σ' H'' := fun h => h
      dsimp only at run
      cases e1 : tt en0 so with
      | no => rw [e1] at run; cases run
      | exc x1 en2 so2 => rw [e1] at run; cases run
      | ok b en2 so2 =>
        rw [e1] at run
        intro b' H3 G3 l3 s3 hb
        subst hb
        cases b' with
        | false =>
          refine iteF ⟨rfl, hlt, G3, _, so2, acc, va, sF.trans (l2.trans l3).F, fun k x h => (l2.trans l3).rho k x (sr k x h), by rw [(l2.trans l3).R]; exact hR, (l2.trans l3).L.trans hL, ra.mono (l2.trans l3).F (l2.trans l3).rho, ?_, run⟩
          have := s3.wipe vs
          rw [wp, wipe_wipe] at this
          exact this
        | true =>
          refine iteT ⟨G3, en2, so2, s3, ?_⟩
          dsimp only at run
          cases e2 : el en2 so2 with
          | no => rw [e2] at run; cases run
          | exc x1 en4 so4 => rw [e2] at run; cases run
          | ok z en4 so4 =>
            rw [e2] at run
            dsimp only at run
            by_cases ha : acc.length < 16777216
            · rw [if_pos ha] at run
              intro y' H4 G4 l4 s4 ry
              have l := (l2.trans l3).trans l4
              have hR4 : G4.R = upd G1.R Dl (.lst va) := by rw [l.R]; exact hR
              have hD4 : H4 Dl = some (.lst va) := (s4.re Dl (.lst va) (by rw [hR4]; exact upd_same)).1
              refine ⟨va, hD4, by rw [ra.len, sizeLine_eq]; exact ha, rfl, hlt, G4.setR (upd G1.R Dl (.lst (va ++ [y']))), _, so4, acc ++ [z], va ++ [y'], sF.trans l.F, fun k x h => l.rho k x (sr k x h), rfl, l.L.trans hL, reps_app (ra.mono l.F l.rho) (.cons ry .nil), ?_, run⟩
              have := (s4.setR (o' := .lst (va ++ [y'])) hR4).wipe vs
              rw [wp, wipe_wipe] at this
              exact this
            · rw [if_neg ha] at run; cases run
  · have e : i = ds.length := by omega
    subst e
    rw [List.drop_length] at run
    cases run
    refine .inl ⟨(wk _ H sfH sfL).2 (Nat.le_refl _), ?_⟩
    have s2 := s.takeR hR R0
    refine fin (G.outR G1.R Dl) H ⟨sF, sr, rfl, hL⟩ (s2.back vs s1 sF sr) ⟨Dl, rfl, if_pos rfl, va, ?_, ra⟩
    exact (s.re Dl (.lst va) (by rw [hR]; exact upd_same)).1
theorem lc_read {σ : L2.St} {H : Hp} {Q : VK} {K : PySem.W.Frag} {mg : Ev} {vs : List Nat} (q : tM K mg W (rlB K) (mLc vs tgM src tt el) σ H Q) :
    tLc (tM K mg W (fun G _ J ds => Walk K G.F G.L G.rho J ds) src) (tgR K mg tgM vs) (tM K mg W0 rlT tt) (tM K mg W0 (rlD K) el) vs σ H Q := by
  obtain ⟨G, en, so, s, p⟩ := q
  refine ⟨G, en, so, s, (Post.bind (R1 := fun G _ J ds => Walk K G.F G.L G.rho J ds) p).imp fun J H1 ⟨G1, en1, so1, ds, l, wk, s1, p1⟩ Dx hD => ?_⟩
  generalize hr : lcGo vs tgM tt el ds [] (wipeE en1 vs) so1 = r at p1
  match r, hr, p1 with
  | .ok xs enF soF, hr, p1 => exact lc_tr s1 wk hD hr fun G' H' l' s' rb => p1.ok' l' s' rb
  | .exc _ _ _, _, p1 => exact False.elim p1
  | .no, _, p1 => exact False.elim p1
theorem ev_blk {s : Shared} {H : Hp} {scope : Scope} {cenv : Env} {fp : List Addr} (hc : X.calm = true) : (X.blk s H scope cenv fp).ev = X.ev := (ev_calm (X := X.blk s H scope cenv fp) hc).trans (ev_calm hc).symm
theorem DG.blk {s : Shared} {H : Hp} {scope : Scope} {cenv : Env} {fp : List Addr} {vs : List Nat} (hc : X.calm = true) (h : DG (X.blk s H scope cenv fp) tg tgM vs) : PG (X.blk s H scope cenv fp) tg (tgR X.K X.ev tgM vs) := by
  have := h.pg
  rw [ev_blk hc] at this
  exact this
theorem DTs.blk {s : Shared} {H : Hp} {scope : Scope} {cenv : Env} {fp : List Addr} (hc : X.calm = true) (h : DTs (X.blk s H scope cenv fp) W0 ifs tt) : PTs (X.blk s H scope cenv fp) ifs (tM X.K X.ev W0 rlT tt) := by
  have := h.pts
  rw [ev_blk hc] at this
  exact this
theorem DE.blk {s : Shared} {H : Hp} {scope : Scope} {cenv : Env} {fp : List Addr} (hc : X.calm = true) (h : DE (X.blk s H scope cenv fp) W0 elt el) : PE (X.blk s H scope cenv fp) elt (tM X.K X.ev W0 (rlD X.K) el) := by
  have := h.pe
  rw [ev_blk hc] at this
  exact this
/-- [elt for tg in iter if ..] -/
theorem b_lc (hc : X.calm = true) (hN : X.N.Nodup) (hi : DI X W tg iter src) (ok : BlkOk X.N X.env.scope scope own)
    (hg : ∀ (s : Shared) (H : Hp) (C : Addr) (cl : List (Str × Addr)) (fp : List Addr), DG (X.blk s H scope (compEnvC scope cl C X.env) fp) tg tgM (own.map (·.2)))
    (ht : ∀ (s : Shared) (H : Hp) (C : Addr) (cl : List (Str × Addr)) (fp : List Addr), DTs (X.blk s H scope (compEnvC scope cl C X.env) fp) W0 ifs tt)
    (he : ∀ (s : Shared) (H : Hp) (C : Addr) (cl : List (Str × Addr)) (fp : List Addr), DE (X.blk s H scope (compEnvC scope cl C X.env) fp) W0 elt el) (hs : ∀ x, foldedSetIterable iter X.env x = pure x := by intro _; rfl) :
    DB X W (.ListComp elt [⟨tg, iter, ifs, 0⟩] scope pos) (mLc (own.map (·.2)) tgM src tt el) :=
  ⟨PE_imp (pe_lc (g := tgR X.K X.ev tgM (own.map (·.2))) (tt := tM X.K X.ev W0 rlT tt) (te := tM X.K X.ev W0 (rlD X.K) el) hc hN hi.pi ok (fun s H C cl fp => (hg s H C cl fp).blk hc) (fun s H C cl fp => (ht s H C cl fp).blk hc) (fun s H C cl fp => (he s H C cl fp).blk hc) hs) fun _ _ _ q => lc_read q⟩
end
end
end Dl

set_option Elab.async false
set_option linter.all false
set_option maxRecDepth 100000
set_option maxHeartbeats 1000000
/-! The data level: statements, loops. -/
namespace Dl
open PySem PySem.Spec PyProof.Rows L2
noncomputable section

/-! ### statements -/
def sPass : M Fl := pu .nx
def sBreak : M Fl := pu .bk
def sCont : M Fl := pu .ct
def sSeq (a b : M Fl) : M Fl := bd a fun f => match f with
  | .nx => b
  | f => pu f
def sIf (t : M Bool) (a b : M Fl) : M Fl := bd t fun c => if c then a else b
def sRet (m : M B) : M Fl := bd m fun b => pu (.rt b)
def sRetD (m : M D) : M Fl := bd m fun d => pu (.rt (.dat d))
def sRetN : M Fl := pu (.rt (.dat .non))
def sExpr (m : M D) : M Fl := bd m fun _ => pu .nx
/-- name := data -/
def sSet (i : Nat) (m : M D) : M Fl := bd m fun d en so => .ok .nx (en.set i (some (.dat d))) so
/-- name := a new thing, its own -/
def sSetB (i : Nat) (m : M B) : M Fl := bd m fun b en so => .ok .nx (en.set i (some b)) so
/-- targets := data -/
def sSetT (tg : Tg) (m : M D) : M Fl := bd m fun d en so => match tg d en with
  | some en' => .ok .nx en' so
  | none => .no
/-- name op= data -/
def sAug (i : Nat) (f : D → D → M D) (m : M D) : M Fl := fun en so => match en[i]? with
  | some (some (.dat x)) => bd m (fun y => bd (f x y) fun z en so => .ok .nx (en.set i (some (.dat z))) so) en so
  | _ => .no
def forGo (tg : Tg) (body : M Fl) : List D → M Fl
  | [] => pu .nx
  | d :: ds => fun en so => match tg d en with
    | none => .no
    | some en1 => match body en1 so with
      | .ok .nx en2 so2 => forGo tg body ds en2 so2
      | .ok .ct en2 so2 => forGo tg body ds en2 so2
      | .ok .bk en2 so2 => .ok .nx en2 so2
      | r => r
def sFor (tg : Tg) (src : M (List D)) (body : M Fl) : M Fl := bd src fun ds => forGo tg body ds
def whGo (t : M Bool) (body : M Fl) : Nat → M Fl
  | 0 => no
  | n + 1 => fun en so => match t en so with
    | .ok false en1 so1 => .ok .nx en1 so1
    | .ok true en1 so1 => match body en1 so1 with
      | .ok .nx en2 so2 => whGo t body n en2 so2
      | .ok .ct en2 so2 => whGo t body n en2 so2
      | .ok .bk en2 so2 => .ok .nx en2 so2
      | r => r
    | .exc x en so => .exc x en so
    | .no => .no
/-- while, with so many turns at most as n says -/
def sWhile (n : En → So → Nat) (t : M Bool) (body : M Fl) : M Fl := fun en so => whGo t body (n en so) en so
section
variable {K : PySem.W.Frag} {mg : Ev} {G : Gh} {en : En} {so : So} {σ : L2.St} {H : Hp}
def _root_.Dl.Gh.retag (G : Gh) (p : Addr) (t : Tag) : Gh := { G with own := fun b => if b = p then t else G.own b }
/-- a result goes to a name -/
theorem Sim.setB {v : V} {b : B} (s : Sim K mg G en so σ H) (r : RB K G H .tmp v b) (i : Nat) : ∃ G', G.le G' ∧ Sim K mg G' (en.set i (some b)) so (σ.set i (some v)) H := by
  cases b with
  | dat d => exact ⟨G, .refl G, s.setD r i⟩
  | exn _ => exact r.elim
  | cel c =>
    obtain ⟨a, rfl, w, cr⟩ := r
    have eF : Same G.F (G.tag a (.slot i)).F := Same.refl G.F
    have er : Pre G.rho (G.tag a (.slot i)).rho := fun _ _ h => h
    have kp : ∀ b t, G.own b = t → t ≠ .tmp → (G.tag a (.slot i)).own b = t := fun b t e q => by
      have : b ≠ a := fun z => q (by rw [← e, z]; exact w)
      exact (if_neg this).trans e
    refine ⟨G.tag a (.slot i), tag_le _ _, ⟨⟨fun b u e => ?_, fun b u e => ?_, s.len, fun k ob b dx e1 e2 => ?_, fun b u e => ?_⟩, by rw [List.length_set, List.length_set, s.ln], fun j b e => ?_⟩⟩
    · obtain ⟨h1, h2⟩ := s.fr b u e
      exact ⟨h1, kp b _ h2 (by intro z; cases z)⟩
    · obtain ⟨h1, h2⟩ := s.re b u e
      exact ⟨h1, kp b _ h2 (by intro z; cases z)⟩
    · exact (s.ob k ob b dx e1 e2).keep eF er fun b u h1 h2 => ⟨h1, kp b _ rfl (by rcases h2 with h2 | h2 <;> (rw [h2]; intro z; cases z))⟩
    · obtain ⟨h1, h2⟩ := s.lk b u e
      exact ⟨h1, kp b _ h2 (by intro z; cases z)⟩
    · by_cases hj : i = j
      · subst hj
        by_cases hl : i < en.length
        · rw [List.getElem?_set_self hl] at e
          cases e
          exact ⟨.ref a, by rw [List.getElem?_set_self (by rw [← s.ln]; exact hl)], a, rfl, tag_own, cr.keep eF er fun _ h => h⟩
        · rw [List.getElem?_eq_none (by rw [List.length_set]; omega)] at e
          cases e
      · rw [List.getElem?_set_ne hj] at e
        obtain ⟨v', e', r'⟩ := s.sl j b e
        exact ⟨v', by rw [List.getElem?_set_ne hj]; exact e', r'.keep eF er fun b u h1 h2 => ⟨h1, kp b _ h2 (by intro z; cases z)⟩⟩
end
section
variable {X : Cx} {W : WX} {a b c e : Expr} {ma mb mc m : M D} {mB : M B} {t : M Bool} {st : Stmt} {rest sts sts' : List Stmt} {u w : M Fl} {pos pos' p : Pos}
theorem ss_nil : DSs X W [] sPass := ⟨PSs_imp pss_nil fun E σ H ⟨G, en, so, s, p⟩ => p σ H G (.refl G) s⟩
theorem sseq_tr {E : Ends} {σ : L2.St} {H : Hp} (q : tS X.K X.ev W (sSeq u w) E σ H) : tSeq (tS X.K X.ev W u) (tS X.K X.ev W w) E σ H := by
  obtain ⟨G, en, so, s, p⟩ := q
  refine ⟨G, en, so, s, ?_⟩
  have p : SPost X.K X.ev G W (bd u (fun f => match f with | .nx => w | f => pu f) en so) E := p
  unfold bd at p
  unfold SPost
  cases h : u en so with
  | no => rw [h] at p; exact p
  | exc x en1 so1 => rw [h] at p; exact p
  | ok f en1 so1 =>
    rw [h] at p
    cases f with
    | nx => exact fun σ' H' G' l s' => ⟨G', en1, so1, s', p.mono l⟩
    | rt b => exact p
    | bk => exact p
    | ct => exact p
theorem ss_cons (h : DS X W st u) (k : DSs X W rest w) : DSs X W (st :: rest) (sSeq u w) := ⟨PSs_imp (pss_cons h.ps k.ps) fun _ _ _ q => sseq_tr q⟩
theorem ss_one (h : DS X W st u) : DSs X W [st] u := ⟨pss_one h.ps⟩
theorem s_pass : DS X W (.Pass pos) sPass := ⟨PS_imp ps_pass fun E σ H ⟨G, en, so, s, p⟩ => p σ H G (.refl G) s⟩
theorem s_break : DS X W (.Break pos) sBreak := ⟨PS_imp ps_break fun E σ H ⟨G, en, so, s, p⟩ => p σ H G (.refl G) s⟩
theorem s_cont : DS X W (.Continue pos) sCont := ⟨PS_imp ps_continue fun E σ H ⟨G, en, so, s, p⟩ => p σ H G (.refl G) s⟩
theorem s_retN : DS X W (.Return none pos) sRetN := ⟨PS_imp ps_retN fun E σ H ⟨G, en, so, s, p⟩ => p .non σ H G (.refl G) s .non⟩
theorem s_ret (h : DB X W e mB) : DS X W (.Return (some e) pos) (sRet mB) := by
  refine ⟨PS_imp (ps_ret h.pe) fun E σ H ⟨G, en, so, s, p⟩ => ?_⟩
  exact ⟨G, en, so, s, (SPost.bind (R1 := rlB X.K) p).imp fun v H1 ⟨G1, en1, so1, b, l, r1, s1, p1⟩ => p1 v σ H1 G1 (.refl _) s1 r1⟩
theorem s_retD (h : DE X W e m) : DS X W (.Return (some e) pos) (sRetD m) := by
  refine ⟨PS_imp (ps_ret h.pe) fun E σ H ⟨G, en, so, s, p⟩ => ?_⟩
  exact ⟨G, en, so, s, (SPost.bind (R1 := rlD X.K) p).imp fun v H1 ⟨G1, en1, so1, b, l, r1, s1, p1⟩ => p1 v σ H1 G1 (.refl _) s1 r1⟩
theorem s_if (hc : DT X W c t) (ha : DSs X W sts u) (hb : DSs X W sts' w) : DS X W (.If c sts sts' pos) (sIf t u w) := by
  refine ⟨PS_imp (ps_if hc.pt ha.ps hb.ps) fun E σ H ⟨G, en, so, s, p⟩ => ?_⟩
  refine ⟨G, en, so, s, (SPost.bind (R1 := rlT) p).imp fun v H1 ⟨G1, en1, so1, b, l, r1, s1, p1⟩ => ?_⟩
  cases r1
  cases v with
  | true => exact iteT ⟨G1, en1, so1, s1, p1⟩
  | false => exact iteF ⟨G1, en1, so1, s1, p1⟩
theorem s_expr (h : DE X W e m) (hs : swapsWith e none pos.line X.env = pure false := by rfl) : DS X W (.Expr e pos) (sExpr m) := by
  refine ⟨PS_imp (ps_expr h.pe hs) fun E σ H ⟨G, en, so, s, p⟩ => ?_⟩
  exact ⟨G, en, so, s, (SPost.bind (R1 := rlD X.K) p).imp fun v H1 ⟨G1, en1, so1, b, l, r1, s1, p1⟩ => p1 σ H1 G1 (.refl _) s1⟩
theorem s_set {i : Nat} {x : Str} (hN : X.N.Nodup) (h : DE X W e m) (hi : X.N[i]? = some x := by rfl) (hx : L2.Loc X.env.scope x := by first | exact Or.inl rfl | exact Or.inr rfl) (hs : swapsWith e (some (.Name x pos')) pos.line X.env = pure false := by rfl)
    (hf : X.fn x = true ∨ X.env.scope.names.lookup x = some .local := by first | exact .inl rfl | exact .inr rfl | assumption) : DS X W (.Assign [.Name x pos'] e pos) (sSet i m) := by
  refine ⟨PS_imp (ps_set hN hi hx h.pe hs hf) fun E σ H ⟨G, en, so, s, p⟩ => ?_⟩
  exact ⟨G, en, so, s, (SPost.bind (R1 := rlD X.K) p).imp fun v H1 ⟨G1, en1, so1, d, l, r1, s1, p1⟩ => p1 _ H1 G1 (.refl _) (s1.setD r1 i)⟩
theorem s_setB {i : Nat} {x : Str} (hN : X.N.Nodup) (h : DB X W e mB) (hi : X.N[i]? = some x := by rfl) (hx : L2.Loc X.env.scope x := by first | exact Or.inl rfl | exact Or.inr rfl) (hs : swapsWith e (some (.Name x pos')) pos.line X.env = pure false := by rfl)
    (hf : X.fn x = true ∨ X.env.scope.names.lookup x = some .local := by first | exact .inl rfl | exact .inr rfl | assumption) : DS X W (.Assign [.Name x pos'] e pos) (sSetB i mB) := by
  refine ⟨PS_imp (ps_set hN hi hx h.pe hs hf) fun E σ H ⟨G, en, so, s, p⟩ => ?_⟩
  refine ⟨G, en, so, s, (SPost.bind (R1 := rlB X.K) p).imp fun v H1 ⟨G1, en1, so1, d, l, r1, s1, p1⟩ => ?_⟩
  obtain ⟨G2, l2, s2⟩ := s1.setB r1 i
  exact p1 _ H1 G2 l2 s2
theorem s_aug {op : Operator} {i : Nat} {x : Str} {r : TIp} {f : D → D → M D} (hN : X.N.Nodup) (h : DE X W e m) (ho : PIp X op r) (hf2 : Op2 X.K X.ev r f) (hi : X.N[i]? = some x := by rfl) (hx : L2.Loc X.env.scope x := by first | exact Or.inl rfl | exact Or.inr rfl)
    (hf : X.fn x = true ∨ X.env.scope.names.lookup x = some .local := by first | exact .inl rfl | exact .inr rfl | assumption) : DS X W (.AugAssign (.Name x pos') op e pos) (sAug i f m) := by
  refine ⟨PS_imp (ps_aug hN hi hx h.pe ho hf) fun E σ H ⟨G, en, so, s, p⟩ => ?_⟩
  unfold sAug at p
  split at p
  · rename_i d hd
    obtain ⟨v, e1, rv⟩ := s.sl i _ hd
    refine ⟨v, e1, G, en, so, s, (SPost.bind (R1 := rlD X.K) p).imp fun y H1 ⟨G1, en1, so1, d1, l, r1, s1, p1⟩ => ?_⟩
    have p2 := SPost.bind (R1 := rlD X.K) (σ := σ) p1
    exact hf2 v y d d1 G1 en1 so1 σ H1 W _ (Rep.up rv l) r1 s1 (p2.imp fun z H2 ⟨G2, en2, so2, d2, l2, r2, s2, p3⟩ => p3 _ H2 G2 (.refl _) (s2.setD r2 i))
  · exact False.elim p
/-- targets = e -/
theorem s_setT {tg : Expr} {tgM : Tg} {vs : List Nat} (h : DE X W e m) (hg : DG X tg tgM vs) (hs : swapsWithSole [tg] e pos.line X.env = pure false := by rfl) (hw : swappedStores [tg] e X.env = pure none := by rfl)
    (h1 : (assignEach [tg] X.env).map (·.2) = [assign tg X.env] := by rfl) : DS X W (.Assign [tg] e pos) (sSetT tgM m) := by
  refine ⟨PS_imp (ps_asg h.pe hg.pg hs hw h1) fun E σ H ⟨G, en, so, s, p⟩ => ?_⟩
  refine ⟨G, en, so, s, (SPost.bind (R1 := rlD X.K) p).imp fun v H1 ⟨G1, en1, so1, d, l, r1, s1, p1⟩ => ?_⟩
  cases ht : tgM d en1 with
  | none => rw [ht] at p1; exact False.elim p1
  | some en' =>
    rw [ht] at p1
    exact ⟨G1, en1, so1, d, en', r1, s1, ht, fun σ' s' _ => p1 σ' H1 G1 (.refl _) s'⟩
theorem s_for {tg iter : Expr} {tgM : Tg} {vs : List Nat} {src : M (List D)} (hp : PassesOwn (model X.prog X.w) X.A X.env X.xe) (hc : X.calm = true) (hi : DI X W tg iter src) (hg : DG X tg tgM vs) (hb : DSs X W sts u) (hs : ∀ x, foldedSetIterable iter X.env x = pure x := by intro _; rfl) :
    DS X W (.For tg iter sts [] pos) (sFor tgM src u) := by
  refine ⟨PS_imp (ps_for hp hc hi.pi hg.pg hb.ps hs) fun E σ H ⟨G, en, so, s, p⟩ => ?_⟩
  refine ⟨G, en, so, s, (SPost.bind (R1 := fun G _ J ds => Walk X.K G.F G.L G.rho J ds) p).imp fun J H1 ⟨G1, en1, so1, ds, l, wk, s1, p1⟩ => ?_⟩
  refine ⟨fun i m σ H => m = ds.length - i ∧ i ≤ ds.length ∧ ∃ G en so, G1.le G ∧ Sim X.K X.ev G en so σ H ∧ SPost X.K X.ev G W (forGo tgM u (ds.drop i) en so) E, ⟨_, rfl, Nat.zero_le _, G1, en1, so1, .refl _, s1, p1⟩, ?_⟩
  rintro i m σ H ⟨rfl, hi, G, en, so, l, s, p⟩
  have sfH : Same G1.F H := l.F.trans s.toSimO.rep
  have sfL : ∀ a o, G1.L a = some o → H a = some o.1 := fun a o e => (s.lk a o (by rw [l.L]; exact e)).1
  by_cases hlt : i < ds.length
  · have ed : ds[i]? = some ds[i] := List.getElem?_eq_getElem hlt
    obtain ⟨go, yl⟩ := (wk i H sfH sfL).1 _ ed
    refine .inr ⟨go, _, fun σ' H' h => ⟨ds.length - (i + 1), by omega, h⟩, fun x H' y => ?_⟩
    have dr : ds.drop i = ds[i] :: ds.drop (i + 1) := by rw [List.drop_eq_getElem_cons hlt]
    rw [dr] at p
    have item : ∃ G2, G.le G2 ∧ Sim X.K X.ev G2 en so σ H' ∧ Rep X.K G2.F G2.rho x ds[i] := by
      rcases yl x H' y with ⟨rfl, r⟩ | ⟨T, ws, es, rfl, hT, rfl, e, r⟩
      · exact ⟨G, .refl G, s, r.up l⟩
      · obtain ⟨s2, l2⟩ := s.newF (o := .tup ws) hT
        refine ⟨_, l2, s2, ?_⟩
        rw [e]
        exact .tup (.inl (.inl (show upd G.F T _ T = _ from upd_same))) (r.up (l.trans l2))
    obtain ⟨G2, l2, s2, r2⟩ := item
    unfold forGo at p
    cases et : tgM ds[i] en with
    | none => rw [et] at p; exact False.elim p
    | some en0 =>
      rw [et] at p
      refine ⟨G2, en, so, ds[i], en0, r2, s2, et, fun σ' sg wp => ⟨G2, en0, so, sg, ?_⟩⟩
      dsimp only at p
      cases e1 : u en0 so with
      | no => rw [e1] at p; exact False.elim p
      | exc x1 en2 so2 =>
        rw [e1] at p
        exact fun Cl d σ' H' G' l' s' x' => p Cl d σ' H' G' (l2.trans l') s' x'
      | ok f en2 so2 =>
        rw [e1] at p
        cases f with
        | nx => exact fun σ3 H3 G3 l3 s3 => ⟨rfl, hlt, G3, en2, so2, (l.trans l2).trans l3, s3, p.mono (l2.trans l3)⟩
        | ct => exact fun σ3 H3 G3 l3 s3 => ⟨rfl, hlt, G3, en2, so2, (l.trans l2).trans l3, s3, p.mono (l2.trans l3)⟩
        | bk => exact fun σ3 H3 G3 l3 s3 => p σ3 H3 G3 (l2.trans l3) s3
        | rt b => exact fun v σ3 H3 G3 l3 s3 r3 => p v σ3 H3 G3 (l2.trans l3) s3 r3
  · have e : i = ds.length := by omega
    subst e
    rw [List.drop_length] at p
    exact .inl ⟨(wk _ H sfH sfL).2 (Nat.le_refl _), p σ H G (.refl _) s⟩
theorem s_while {n : En → So → Nat} (hp : PassesOwn (model X.prog X.w) X.A X.env X.xe) (hc : DT X W c t) (hb : DSs X W sts u) : DS X W (.While c sts [] pos) (sWhile n t u) := by
  refine ⟨PS_imp (ps_while hp hc.pt hb.ps) fun E σ H ⟨G, en, so, s, p⟩ => ?_⟩
  refine ⟨fun m σ H => ∃ G en so, Sim X.K X.ev G en so σ H ∧ SPost X.K X.ev G W (whGo t u m en so) E, ⟨n en so, G, en, so, s, p⟩, ?_⟩
  rintro m σ H ⟨G, en, so, s, p⟩
  cases m with
  | zero => exact False.elim p
  | succ m =>
    refine ⟨G, en, so, s, ?_⟩
    unfold whGo at p
    cases e1 : t en so with
    | no => rw [e1] at p; exact False.elim p
    | exc x1 en2 so2 => rw [e1] at p; exact fun Cl d H' G' l' s' x' => p Cl d σ H' G' l' s' x'
    | ok k en2 so2 =>
      rw [e1] at p
      intro k' H1 G1 l1 s1 hk
      subst hk
      cases k' with
      | false => exact iteF (p σ H1 G1 l1 s1)
      | true =>
        refine iteT ⟨_, fun σ' H' h => ⟨m, Nat.lt_succ_self m, h⟩, G1, en2, so2, s1, ?_⟩
        dsimp only at p
        cases e2 : u en2 so2 with
        | no => rw [e2] at p; exact False.elim p
        | exc x1 en2 so2 => rw [e2] at p; exact fun Cl d σ' H' G' l' s' x' => p Cl d σ' H' G' (l1.trans l') s' x'
        | ok f en3 so3 =>
          rw [e2] at p
          cases f with
          | nx => exact fun σ3 H3 G3 l3 s3 => ⟨G3, en3, so3, s3, p.mono (l1.trans l3)⟩
          | ct => exact fun σ3 H3 G3 l3 s3 => ⟨G3, en3, so3, s3, p.mono (l1.trans l3)⟩
          | bk => exact fun σ3 H3 G3 l3 s3 => p σ3 H3 G3 (l1.trans l3) s3
          | rt b => exact fun v σ3 H3 G3 l3 s3 r3 => p v σ3 H3 G3 (l1.trans l3) s3 r3
end
end
end Dl

set_option Elab.async false
set_option linter.all false
set_option maxRecDepth 100000
set_option maxHeartbeats 1000000
/-! The data level: name = [..], functions, the law's end. -/
namespace Dl
open PySem PySem.Spec PyProof.Rows L2
noncomputable section
section
variable {X : Cx} {W : WX} {tg iter elt e : Expr} {ifs es : List Expr} {scope : Scope} {pos spos py p : Pos} {own : List (Str × Nat)} {tgM : Tg} {src : M (List D)} {tt : M Bool} {el : M D} {ms : M (List D)}
/-- name = [elt for tg in iter if ..], the new list its own -/
theorem s_setLcB {i : Nat} {y : Str} (hc : X.calm = true) (hN : X.N.Nodup) (hi : DI X W tg iter src) (ok : BlkOk X.N X.env.scope scope own)
    (hg : ∀ (s : Shared) (H : Hp) (C : Addr) (cl : List (Str × Addr)) (fp : List Addr), DG (X.blk s H scope (compEnvC scope cl C X.env) fp) tg tgM (own.map (·.2)))
    (ht : ∀ (s : Shared) (H : Hp) (C : Addr) (cl : List (Str × Addr)) (fp : List Addr), DTs (X.blk s H scope (compEnvC scope cl C X.env) fp) W0 ifs tt)
    (he : ∀ (s : Shared) (H : Hp) (C : Addr) (cl : List (Str × Addr)) (fp : List Addr), DE (X.blk s H scope (compEnvC scope cl C X.env) fp) W0 elt el)
    (hsw : swapsWith (.ListComp elt [⟨tg, iter, ifs, 0⟩] scope pos) (some (.Name y py)) spos.line X.env = pure true) (hy : X.N[i]? = some y := by rfl) (hyl : X.env.scope.names.lookup y = some .local := by rfl) (hs : ∀ x, foldedSetIterable iter X.env x = pure x := by intro _; rfl) :
    DS X W (.Assign [.Name y py] (.ListComp elt [⟨tg, iter, ifs, 0⟩] scope pos) spos) (sSetB i (mLc (own.map (·.2)) tgM src tt el)) := by
  refine ⟨PS_imp (ps_setLc (g := tgR X.K X.ev tgM (own.map (·.2))) (tt := tM X.K X.ev W0 rlT tt) (te := tM X.K X.ev W0 (rlD X.K) el) hc hN hy hyl hsw hi.pi ok (fun s H C cl fp => (hg s H C cl fp).blk hc) (fun s H C cl fp => (ht s H C cl fp).blk hc) (fun s H C cl fp => (he s H C cl fp).blk hc) hs) fun E σ H ⟨G, en, so, s, p⟩ => ?_⟩
  refine lc_read (W := W) (mg := X.ev) ⟨G, en, so, s, (SPost.bind (R1 := rlB X.K) p).imp fun v H1 ⟨G1, en1, so1, d, l, r1, s1, p1⟩ => ?_⟩
  obtain ⟨G2, l2, s2⟩ := s1.setB r1 i
  exact p1 _ H1 G2 l2 s2
/-- .. as data -/
theorem s_setLcD {i : Nat} {y : Str} (hc : X.calm = true) (hN : X.N.Nodup) (hi : DI X W tg iter src) (ok : BlkOk X.N X.env.scope scope own)
    (hg : ∀ (s : Shared) (H : Hp) (C : Addr) (cl : List (Str × Addr)) (fp : List Addr), DG (X.blk s H scope (compEnvC scope cl C X.env) fp) tg tgM (own.map (·.2)))
    (ht : ∀ (s : Shared) (H : Hp) (C : Addr) (cl : List (Str × Addr)) (fp : List Addr), DTs (X.blk s H scope (compEnvC scope cl C X.env) fp) W0 ifs tt)
    (he : ∀ (s : Shared) (H : Hp) (C : Addr) (cl : List (Str × Addr)) (fp : List Addr), DE (X.blk s H scope (compEnvC scope cl C X.env) fp) W0 elt el)
    (hsw : swapsWith (.ListComp elt [⟨tg, iter, ifs, 0⟩] scope pos) (some (.Name y py)) spos.line X.env = pure true) (hy : X.N[i]? = some y := by rfl) (hyl : X.env.scope.names.lookup y = some .local := by rfl) (hs : ∀ x, foldedSetIterable iter X.env x = pure x := by intro _; rfl) :
    DS X W (.Assign [.Name y py] (.ListComp elt [⟨tg, iter, ifs, 0⟩] scope pos) spos) (sSet i (mFz (mLc (own.map (·.2)) tgM src tt el))) := by
  refine ⟨PS_imp (ps_setLc (g := tgR X.K X.ev tgM (own.map (·.2))) (tt := tM X.K X.ev W0 rlT tt) (te := tM X.K X.ev W0 (rlD X.K) el) hc hN hy hyl hsw hi.pi ok (fun s H C cl fp => (hg s H C cl fp).blk hc) (fun s H C cl fp => (ht s H C cl fp).blk hc) (fun s H C cl fp => (he s H C cl fp).blk hc) hs) fun E σ H ⟨G, en, so, s, p⟩ => ?_⟩
  have p0 := (SPost.bind (R1 := rlD X.K) (σ := σ) p)
  refine lc_read (W := W) (mg := X.ev) ⟨G, en, so, s, (Post.bind (R1 := rlB X.K) p0).imp fun v H1 ⟨G1, en1, so1, b, l, r1, s1, p1⟩ => ?_⟩
  obtain ⟨G2, l2, s2, r2⟩ := s1.toD r1
  obtain ⟨G3, en3, so3, d, l3, r3, s3, p3⟩ := p1.ok' l2 s2 r2
  exact p3 _ H1 G3 (.refl _) (s3.setD r3 i)

/-! ### functions -/
inductive Rf where
  | ok (b : B) (so : So) | exc (x : Xc) (so : So) | no
abbrev FunM := List D → So → Rf
def mkF (np n : Nat) (m : M Fl) : FunM := fun ds so => if ds.length = np then
    match m (ds.map (fun d => some (.dat d)) ++ List.replicate (n - ds.length) none) so with
    | .ok .nx _ so' => .ok (.dat .non) so'
    | .ok (.rt b) _ so' => .ok b so'
    | .exc x _ so' => .exc x so'
    | _ => .no
  else .no
def FPost (K : PySem.W.Frag) (mg : Ev) (G : Gh) (r : Rf) (Q : VK) (E : XK) : Prop := match r with
  | .ok b so' => ∀ v H' G', G.le G' → SimO K mg G' so' H' → RB K G' H' .tmp v b → Q v H'
  | .exc x so' => ∀ Cl d H' G', G.le G' → SimO K mg G' so' H' → XR K mg G' H' x Cl d → E Cl d H'
  | .no => False
def spD (K : PySem.W.Frag) (mg : Str → Option Value) (f : FunM) : Sp := fun vs H Q E => ∃ G ds so, Reps K G.F G.rho vs ds ∧ SimO K ⟨mg, none⟩ G so H ∧ FPost K ⟨mg, none⟩ G (f ds so) Q E
theorem args_sl {K : PySem.W.Frag} {mg : Ev} {G : Gh} {H : Hp} (n : Nat) : ∀ {vs : List V} {ds : List D} (i : Nat) (b : B), Reps K G.F G.rho vs ds → (ds.map (fun d => some (B.dat d)) ++ List.replicate n none)[i]? = some (some b) → ∃ v, (vs.map some ++ List.replicate n none)[i]? = some (some v) ∧ RS K mg G H i v b
  | _, _, i, b, .nil, e => by
    simp only [List.map_nil, List.nil_append] at e
    rw [List.getElem?_replicate] at e
    split at e <;> cases e
  | _, _, 0, b, .cons h r, e => by
    have e' : some (some (B.dat _)) = some (some b) := e
    cases e'
    exact ⟨_, rfl, h⟩
  | _, _, i + 1, b, .cons h r, e => by
    obtain ⟨v, e1, r1⟩ := args_sl (mg := mg) (H := H) n i b r e
    refine ⟨v, e1, ?_⟩
    have hb : ∃ d, b = .dat d := by
      have e' : (List.map (fun d => some (B.dat d)) _ ++ List.replicate n none)[i]? = some (some b) := e
      rw [List.getElem?_append] at e'
      split at e'
      · rw [List.getElem?_map] at e'
        cases q : (_ : List D)[i]? with
        | none => rw [q] at e'; cases e'
        | some d => rw [q] at e'; cases e'; exact ⟨d, rfl⟩
      · rw [List.getElem?_replicate] at e'
        split at e' <;> cases e'
    obtain ⟨d, rfl⟩ := hb
    exact r1
variable {P : Program} {w : World} {K : PySem.W.Frag} {mg : Str → Option Value} {base : Heap}
theorem ev_ps {X : Cx} {sts : List Stmt} {W : WX} {m : M Fl} (h : X.A.handled = none) (q : PSs X sts (tS X.K X.ev W m)) : PSs X sts (tS X.K ⟨X.mg, none⟩ W m) := by
  rw [ev_none h] at q
  exact q
/-- THE RULE for a def: its body -/
theorem fn_d {x qual : Str} {st : Stmt} {f : Addr} {fd : FuncData} {N ps : List Str} {k : Nat} {m : M Fl} (F : Fun K x qual st f fd) (S : FnScope N ps (defScope st))
    (hb : ∀ (cdv : Value) (A : Around) (outer : List Env) (s : Shared) (H : Hp) (E : XK), Room k (A.deeper (envOfC qual (defScope st) s.heap.objs.size f cdv)) →
      DSs (cxOf (L2.CX P w) P w K mg base N qual (defScope st) f cdv A outer s H E) (fun Cl d _ H => E Cl d H) (defBody st) m) : FnOk P w K mg base (L2.CX P w) (k + 1) f fd ps (spD K mg (mkF ps.length N.length m)) := by
  refine F.okX S (fun vs H Q E ⟨G, ds, so, r, s, p⟩ => ?_) fun cdv A outer s H vs Q E hr ⟨G, ds, so, r, sm, p⟩ => ⟨_, ev_ps hr.hd (hb cdv A outer s H E hr).ps, G, ds.map (fun d => some (.dat d)) ++ List.replicate (N.length - ds.length) none, so, ?_, ?_⟩
  · unfold mkF at p
    by_cases h : ds.length = ps.length
    · rw [r.len]; exact h
    · rw [if_neg h] at p; exact False.elim p
  · have e : L2.start N vs = vs.map some ++ List.replicate (N.length - ds.length) none := by rw [← r.len]; rfl
    rw [e]
    exact ⟨sm, by simp [r.len], fun i b e => args_sl _ i b r e⟩
  · unfold mkF at p
    by_cases h : ds.length = ps.length
    · rw [if_pos h] at p
      revert p
      generalize m (ds.map (fun d => some (.dat d)) ++ List.replicate (N.length - ds.length) none) so = r
      intro p
      cases r with
      | no => exact False.elim p
      | exc x en so => exact fun Cl d σ' H' G' l s' x' => p Cl d H' G' l s'.toSimO x'
      | ok fl en so =>
        cases fl with
        | nx => exact fun σ' H' G' l s' => p .non H' G' l s'.toSimO .non
        | rt b => exact fun v σ' H' G' l s' rb => p v H' G' l s'.toSimO rb
        | bk => exact False.elim p
        | ct => exact False.elim p
    · rw [if_neg h] at p; exact False.elim p
/-- a def that stands in the module, by its name -/
structure Fn (P : Program) (w : World) (K : PySem.W.Frag) (mg : Str → Option Value) (base : Heap) (x : Str) (f : FunM) (k : Nat) : Prop where
  ex : ∃ a fd ps, FnOk P w K mg base (L2.CX P w) k a fd ps (spD K mg f) ∧ mg x = some (.ref a) ∧ PySem.W.keepIn K (.ref a) = true ∧ Binds K fd ps []
def mCall (f : FunM) (ms : M (List D)) : M B := bd ms fun ds en so => match f ds so with
  | .ok b so' => .ok b en so'
  | .exc x so' => .exc x en so'
  | .no => .no
/-- the caller's own cells, for the time of a call -/
def _root_.Dl.Gh.lend (G : Gh) (H : Hp) : Gh where
  F := G.F
  rho := G.rho
  own := fun b => match G.own b with
    | .slot _ => .rest
    | t => t
  R := fun b => match G.own b with
    | .slot _ => H b
    | _ => G.R b
  L := G.L
def _root_.Dl.Gh.home (G G' : Gh) (H : Hp) : Gh where
  F := G'.F
  rho := G'.rho
  R := G.R
  L := G'.L
  own := fun b => match G.own b, H b with
    | .slot i, some _ => .slot i
    | _, _ => G'.own b
theorem lend_own {G : Gh} {H : Hp} {b : Addr} {t : Tag} (h : G.own b = t) (ht : ∀ i, t ≠ .slot i) : (G.lend H).own b = t := by
  show (match G.own b with | .slot _ => Tag.rest | t => t) = t
  rw [h]
  cases t <;> first | rfl | exact absurd rfl (ht _)
theorem Sim.lend {mg : Ev} {G : Gh} {en : En} {so : So} {σ : L2.St} {H : Hp} (s : Sim K mg G en so σ H) : SimO K mg (G.lend H) so H := by
  have eF : Same G.F (G.lend H).F := Same.refl G.F
  have er : Pre G.rho (G.lend H).rho := fun _ _ h => h
  refine ⟨fun a o e => ?_, fun a o e => ?_, s.len, fun k o a dx e1 e2 => ?_, fun a o e => ?_⟩
  · obtain ⟨h1, h2⟩ := s.fr a o e
    exact ⟨h1, lend_own h2 (fun i z => by cases z)⟩
  · have e' : (match G.own a with | .slot _ => H a | _ => G.R a) = some o := e
    cases h : G.own a with
    | slot i =>
      rw [h] at e'
      exact ⟨e', by show (match G.own a with | .slot _ => Tag.rest | t => t) = .rest; rw [h]⟩
    | _ =>
      rw [h] at e'
      obtain ⟨h1, h2⟩ := s.re a o e'
      exact ⟨h1, lend_own h2 (fun i z => by cases z)⟩
  · exact (s.ob k o a dx e1 e2).keep eF er fun b u h1 h2 => ⟨h1, lend_own rfl (fun i z => by rcases h2 with h2 | h2 <;> (rw [h2] at z; cases z))⟩
  · obtain ⟨h1, h2⟩ := s.lk a o e
    exact ⟨h1, lend_own h2 (fun i z => by cases z)⟩
theorem home_own {G G' : Gh} {H : Hp} {b : Addr} {t : Tag} (h : G'.own b = t) (hn : ∀ i o, G.own b = .slot i → H b = some o → False) : (G.home G' H).own b = t := by
  show (match G.own b, H b with | .slot i, some _ => Tag.slot i | _, _ => G'.own b) = t
  cases h1 : G.own b with
  | slot i =>
    cases h2 : H b with
    | some o => exact (hn i o h1 h2).elim
    | none => exact h
  | _ => exact h
theorem Sim.home {mg : Ev} {G G' : Gh} {en : En} {so so' : So} {σ : L2.St} {H H' : Hp} (s : Sim K mg G en so σ H) (l : (G.lend H).le G') (s' : SimO K mg G' so' H') : Sim K mg (G.home G' H) en so' σ H' ∧ G.le (G.home G' H) := by
  have eF : Same G'.F (G.home G' H).F := Same.refl G'.F
  have er : Pre G'.rho (G.home G' H).rho := fun _ _ h => h
  -- the caller's cells stand
  have cells : ∀ b i o, G.own b = .slot i → H b = some o → H' b = some o ∧ G'.own b = .rest := fun b i o h1 h2 => by
    refine s'.re b o ?_
    rw [l.R]
    show (match G.own b with | .slot _ => H b | _ => G.R b) = some o
    rw [h1]
    exact h2
  have hn : ∀ {b : Addr} {t : Tag}, G'.own b = t → t ≠ .rest → ∀ i o, G.own b = .slot i → H b = some o → False := fun {b t} h q i o h1 h2 => q (h.symm.trans (cells b i o h1 h2).2)
  refine ⟨⟨⟨fun a o e => ?_, fun a o e => ?_, s'.len, fun k o a dx e1 e2 => ?_, fun a o e => ?_⟩, s.ln, fun i b e => ?_⟩, l.F, l.rho, rfl, l.L⟩
  · obtain ⟨h1, h2⟩ := s'.fr a o e
    exact ⟨h1, home_own h2 (hn h2 (by intro z; cases z))⟩
  · have e' : G.R a = some o := e
    obtain ⟨h1, h2⟩ := s.re a o e'
    have e2 : G'.R a = some o := by
      rw [l.R]
      show (match G.own a with | .slot _ => H a | _ => G.R a) = some o
      rw [h2]
      exact e'
    obtain ⟨h3, h4⟩ := s'.re a o e2
    exact ⟨h3, home_own h4 (fun i o h5 _ => by rw [h2] at h5; cases h5)⟩
  · exact (s'.ob k o a dx e1 e2).keep eF er fun b u h1 h2 => ⟨h1, home_own rfl (hn rfl (by rcases h2 with h2 | h2 <;> (rw [h2]; intro z; cases z)))⟩
  · obtain ⟨h1, h2⟩ := s'.lk a o e
    exact ⟨h1, home_own h2 (hn h2 (by intro z; cases z))⟩
  · obtain ⟨v, e1, r⟩ := s.sl i b e
    refine ⟨v, e1, r.keep (show Same G.F (G.home G' H).F from l.F) (show Pre G.rho (G.home G' H).rho from l.rho) fun a o h1 h2 => ⟨(cells a i o h2 h1).1, ?_⟩⟩
    show (match G.own a, H a with | .slot i, some _ => Tag.slot i | _, _ => G'.own a) = .slot i
    rw [h2, h1]
/-- f(e, ..) -/
theorem d_call {x : Str} {f : FunM} {k : Nat} (F : Fn X.prog X.w X.K X.mg X.base x f k) (hr : Room k X.A) (hg : Gl X x) (tk : Takes X W) (ha : DA X W (e :: es) ms)
    (hdb : (x == ("__debug__" : Str)) = false := by decide) (he : starEach (e :: es) X.env = (false, eval e X.env) :: starEach es X.env := by rfl) (hpl : (backTo pos (starEach es X.env)).any (·.1) = false := by rfl) :
    DB X W (.Call (.Name x p) (e :: es) [] pos) (mCall f ms) := by
  obtain ⟨a, fd, ps, ok, hm, hk, hb⟩ := F.ex
  have hpa : PA X (e :: es) (tM X.K ⟨X.mg, none⟩ W (rlDs X.K) ms) := by
    have := ha.pa
    rw [ev_none hr.hd] at this
    exact this
  have key : PE X (.Call (.Name x p) (e :: es) [] pos) (tM X.K ⟨X.mg, none⟩ W (rlB X.K) (mCall f ms)) := ?_
  · exact ⟨by rw [ev_none hr.hd]; exact key⟩
  refine PE_imp (pe_callS ok hr hg hm hk hb (fun σ => passAt tk σ) hpa hdb he hpl) fun σ H Q ⟨G, en, so, s, p⟩ => ?_
  refine ⟨G, en, so, s, (Post.bind (R1 := rlDs X.K) p).imp fun vs H1 ⟨G1, en1, so1, ds, l, r1, s1, p1⟩ => ?_⟩
  refine ⟨G1.lend H1, ds, so1, r1, s1.lend, ?_⟩
  revert p1
  cases f ds so1 with
  | no => exact fun p1 => False.elim p1
  | ok b so2 =>
    intro p1 v H' G' l' s' rb
    obtain ⟨s2, l2⟩ := s1.home l' s'
    refine p1 v H' _ l2 s2 (rb.keep (show Same G'.F (G1.home G' H1).F from Same.refl _) (show Pre G'.rho (G1.home G' H1).rho from fun _ _ h => h) fun b o h1 h2 => ⟨h1, home_own h2 fun i o h3 h4 => ?_⟩)
    have := s'.re b o (by rw [l'.R]; show (match G1.own b with | .slot _ => H1 b | _ => G1.R b) = some o; rw [h3]; exact h4)
    rw [h2] at this
    cases this.2
  | exc x so2 =>
    intro p1 Cl d H' G' l' s' xr
    obtain ⟨s2, l2⟩ := s1.home l' s'
    refine p1 Cl d H' _ l2 s2 ?_
    obtain ⟨Ca, e1, e2, h⟩ := xr
    refine ⟨Ca, e1, e2, h.elim .inl fun ⟨da, fs, e3, e4, e5, e6⟩ => .inr ⟨da, fs, e3, e4, home_own e5 fun i o h3 h4 => ?_, e6⟩⟩
    have := s'.re da o (by rw [l'.R]; show (match G1.own da with | .slot _ => H1 da | _ => G1.R da) = some o; rw [h3]; exact h4)
    rw [e5] at this
    cases this.2
end
end
end Dl

set_option Elab.async false
set_option linter.all false
set_option maxRecDepth 100000
set_option maxHeartbeats 1000000
/-! The data level: methods of texts, is None, the law's end. -/
namespace Dl
open PySem PySem.Spec PyProof.Rows L2
noncomputable section
section
variable {X : Cx}
theorem op_addA : OpR X (binaryOp .Add) (fun x y H Q => rI0 (fun i j => .int (i + j)) x y H Q ∨ ∃ i j, x = .str i ∧ y = .str j ∧ i.length + j.length ≤ sizeLine ∧ Q (.str (i ++ j)) H) := OpR.or op_add op_add_str
theorem ip_addA : PIp X .Add (fun x y H Q => rI0 (fun i j => .int (i + j)) x y H Q ∨ ∃ i j, x = .str i ∧ y = .str j ∧ i.length + j.length ≤ sizeLine ∧ Q (.str (i ++ j)) H) := (OpR.or iop_add iop_add_str : OpR X (inplaceOp .Add) _)
theorem ip_subA : PIp X .Sub (rI0 fun i j => .int (i - j)) := (iop_sub : OpR X (inplaceOp .Sub) _)
end
/-! ### is None -/
def isN (d : D) : Bool := match d with
  | .non => true
  | _ => false
def mIsN (m : M D) : M D := bd m fun d => pu (.bl (isN d))
def mNotN (m : M D) : M D := bd m fun d => pu (.bl (!isN d))
section
variable {X : Cx} {W : WX} {a b c e o : Expr} {ma mb mc m mo : M D} {ms : M (List D)} {pos p px pos' apos : Pos} {j : Nat} {x name : Str} {id : String} {r : V → List V → Hp → VK → Prop}
theorem isN_of {K : PySem.W.Frag} {F : Hp} {rho : List (Addr × Addr)} {v : V} {d : D} (r : Rep K F rho v d) : decide (v = .non) = isN d := by cases r <;> rfl
theorem isN_tr {σ : L2.St} {H : Hp} {Q : VK} (q : tM X.K X.ev W (rlD X.K) (mIsN ma) σ H Q) : tIsN (tM X.K X.ev W (rlD X.K) ma) σ H Q := by
  obtain ⟨G, en, so, s, p⟩ := q
  refine ⟨G, en, so, s, (Post.bind (R1 := rlD X.K) p).imp fun v H1 ⟨G1, en1, so1, d, l, r1, s1, p1⟩ => ?_⟩
  rw [isN_of r1]
  exact p1.ok s1 (.bl _)
theorem notN_tr {σ : L2.St} {H : Hp} {Q : VK} (q : tM X.K X.ev W (rlD X.K) (mNotN ma) σ H Q) : tNotN (tM X.K X.ev W (rlD X.K) ma) σ H Q := by
  obtain ⟨G, en, so, s, p⟩ := q
  refine ⟨G, en, so, s, (Post.bind (R1 := rlD X.K) p).imp fun v H1 ⟨G1, en1, so1, d, l, r1, s1, p1⟩ => ?_⟩
  rw [isN_of r1]
  exact p1.ok s1 (.bl _)
theorem d_isN (ha : DE X W a ma) : DE X W (.Compare a [.Is] [.Constant .none j pos'] pos) (mIsN ma) := ⟨PE_imp (pe_cmp (pc_isN ha.pe)) fun _ _ _ q => isN_tr q⟩
theorem d_notN (ha : DE X W a ma) : DE X W (.Compare a [.IsNot] [.Constant .none j pos'] pos) (mNotN ma) := ⟨PE_imp (pe_cmp (pc_notN ha.pe)) fun _ _ _ q => notN_tr q⟩
theorem d_isNT (ha : DE X W a ma) : DT X W (.Compare a [.Is] [.Constant .none j pos'] pos) (mT (mIsN ma)) := ⟨PT_imp (pt_cmp (pc_isN ha.pe)) fun _ _ _ q => isN_tr (mT_tr q)⟩
theorem d_notNT (ha : DE X W a ma) : DT X W (.Compare a [.IsNot] [.Constant .none j pos'] pos) (mT (mNotN ma)) := ⟨PT_imp (pt_cmp (pc_notN ha.pe)) fun _ _ _ q => notN_tr (mT_tr q)⟩

/-! ### methods of texts -/
def OpM1 (K : PySem.W.Frag) (mg : Ev) (r : V → List V → Hp → VK → Prop) (f : List Nat → D → M D) : Prop :=
  ∀ (z : List Nat) (y : V) (d : D) (G : Gh) (en : En) (so : So) (σ : L2.St) (H : Hp) (W : WX) (Q : VK), Rep K G.F G.rho y d → Sim K mg G en so σ H → Post K mg G W (rlD K) σ (f z d en so) Q → r (.str (sT z)) [y] H Q
def OpM1B (K : PySem.W.Frag) (mg : Ev) (r : V → List V → Hp → VK → Prop) (f : List Nat → D → M B) : Prop :=
  ∀ (z : List Nat) (y : V) (d : D) (G : Gh) (en : En) (so : So) (σ : L2.St) (H : Hp) (W : WX) (Q : VK), Rep K G.F G.rho y d → Sim K mg G en so σ H → Post K mg G W (rlB K) σ (f z d en so) Q → r (.str (sT z)) [y] H Q
def OpM0 (K : PySem.W.Frag) (mg : Ev) (r : V → List V → Hp → VK → Prop) (f : List Nat → M D) : Prop :=
  ∀ (z : List Nat) (G : Gh) (en : En) (so : So) (σ : L2.St) (H : Hp) (W : WX) (Q : VK), Sim K mg G en so σ H → Post K mg G W (rlD K) σ (f z en so) Q → r (.str (sT z)) [] H Q
def mM1 {A : Type} (f : List Nat → D → M A) (o e : M D) : M A := bd o fun d => match d with
  | .str z => bd e fun y => f z y
  | _ => no
def mM0 {A : Type} (f : List Nat → M A) (o : M D) : M A := bd o fun d => match d with
  | .str z => f z
  | _ => no
theorem d_m1 {f : List Nat → D → M D} (slot : Slot "str" name id) (ty : typeOf (.builtin id) = pure (.type "method_descriptor")) (rule : MtR X id r) (h : OpM1 X.K X.ev r f) (ho : DE X W o mo) (he : DE X W e m)
    (hs : starEach [e] X.env = [(false, eval e X.env)] := by rfl) (hbase : attributeBase o name X.env (eval o X.env) = eval o X.env := by rfl) (hline : (apos.endLine == pos.line) = true := by rfl) : DE X W (.Call (.Attribute o name apos) [e] [] pos) (mM1 f mo m) := by
  refine ⟨PE_imp (pe_m1 slot ty rule ho.pe he.pe hs hbase hline) fun σ H Q ⟨G, en, so, s, p⟩ => ?_⟩
  refine ⟨G, en, so, s, (Post.bind (R1 := rlD X.K) p).imp fun v H1 ⟨G1, en1, so1, d, l, r1, s1, p1⟩ => ?_⟩
  cases r1 with
  | str z => exact ⟨⟨_, rfl⟩, G1, en1, so1, s1, (Post.bind (R1 := rlD X.K) p1).imp fun y H2 ⟨G2, en2, so2, d2, l2, r2, s2, p2⟩ => h z y d2 G2 en2 so2 σ H2 W Q r2 s2 p2⟩
  | _ => exact False.elim p1
theorem b_m1 {f : List Nat → D → M B} (slot : Slot "str" name id) (ty : typeOf (.builtin id) = pure (.type "method_descriptor")) (rule : MtR X id r) (h : OpM1B X.K X.ev r f) (ho : DE X W o mo) (he : DE X W e m)
    (hs : starEach [e] X.env = [(false, eval e X.env)] := by rfl) (hbase : attributeBase o name X.env (eval o X.env) = eval o X.env := by rfl) (hline : (apos.endLine == pos.line) = true := by rfl) : DB X W (.Call (.Attribute o name apos) [e] [] pos) (mM1 f mo m) := by
  refine ⟨PE_imp (pe_m1 slot ty rule ho.pe he.pe hs hbase hline) fun σ H Q ⟨G, en, so, s, p⟩ => ?_⟩
  refine ⟨G, en, so, s, (Post.bind (R1 := rlD X.K) p).imp fun v H1 ⟨G1, en1, so1, d, l, r1, s1, p1⟩ => ?_⟩
  cases r1 with
  | str z => exact ⟨⟨_, rfl⟩, G1, en1, so1, s1, (Post.bind (R1 := rlD X.K) p1).imp fun y H2 ⟨G2, en2, so2, d2, l2, r2, s2, p2⟩ => h z y d2 G2 en2 so2 σ H2 W Q r2 s2 p2⟩
  | _ => exact False.elim p1
theorem d_m0 {f : List Nat → M D} (slot : Slot "str" name id) (ty : typeOf (.builtin id) = pure (.type "method_descriptor")) (rule : MtR X id r) (h : OpM0 X.K X.ev r f) (ho : DE X W o mo)
    (hbase : attributeBase o name X.env (eval o X.env) = eval o X.env := by rfl) (hline : (apos.endLine == pos.line) = true := by rfl) : DE X W (.Call (.Attribute o name apos) [] [] pos) (mM0 f mo) := by
  refine ⟨PE_imp (pe_m0 slot ty rule ho.pe hbase hline) fun σ H Q ⟨G, en, so, s, p⟩ => ?_⟩
  refine ⟨G, en, so, s, (Post.bind (R1 := rlD X.K) p).imp fun v H1 ⟨G1, en1, so1, d, l, r1, s1, p1⟩ => ?_⟩
  cases r1 with
  | str z => exact ⟨⟨_, rfl⟩, h z G1 en1 so1 σ H1 W Q s1 p1⟩
  | _ => exact False.elim p1
end
/-- a list of texts -/
def strsOf : List D → Option (List (List Nat))
  | [] => some []
  | .str s :: r => (strsOf r).map (s :: ·)
  | _ => none
def szL (l : List (List Nat)) : Nat := (l.map List.length).sum
def joinD (z : List Nat) : D → M D
  | .lst xs => match strsOf xs with
    | some ys => gd (szL ys + ys.length * z.length ≤ 16777216) (pu (.str (TL.joinL z ys)))
    | none => no
  | .tup xs => match strsOf xs with
    | some ys => gd (szL ys + ys.length * z.length ≤ 16777216) (pu (.str (TL.joinL z ys)))
    | none => no
  | _ => no
def splitD (z : List Nat) : D → M B
  | .str s => gd (s ≠ [] ∧ z.length + 2 ≤ 16777216 ∧ s.all (· < 256) = true) (pu (.cel (.lst ((TL.spl s 0 [] z).map .str))))
  | _ => no
def startsD (z : List Nat) : D → M D
  | .str s => pu (.bl (Txt.startswith (sT z) (sT s)))
  | _ => no
def endsD (z : List Nat) : D → M D
  | .str s => pu (.bl (Txt.endswith (sT z) (sT s)))
  | _ => no
def findD (z : List Nat) : D → M D
  | .str s => pu (.int (Txt.find (sT z) (sT s)))
  | _ => no
def countD (z : List Nat) : D → M D
  | .str s => pu (.int (Txt.count (sT z) (sT s)))
  | _ => no
section
variable {K : PySem.W.Frag} {mg : Ev}
theorem strs_of {F : Hp} {rho : List (Addr × Addr)} : ∀ {vs : List V} {ds : List D} {ys : List (List Nat)}, Reps K F rho vs ds → strsOf ds = some ys → vs = (ys.map sT).map V.str
  | _, [], ys, .nil, e => by cases e; rfl
  | _, .str b :: r, ys, .cons h k, e => by
    cases h
    have e' : (strsOf r).map (b :: ·) = some ys := e
    cases q : strsOf r with
    | none => rw [q] at e'; cases e'
    | some bs' =>
      rw [q] at e'
      cases e'
      rw [strs_of k q]
      rfl
  | _, .non :: _, _, _, e => nomatch e
  | _, .int _ :: _, _, _, e => nomatch e
  | _, .bl _ :: _, _, _, e => nomatch e
  | _, .lst _ :: _, _, _, e => nomatch e
  | _, .tup _ :: _, _, _, e => nomatch e
  | _, .dct _ :: _, _, _, e => nomatch e
  | _, .obj _ :: _, _, _, e => nomatch e
theorem reps_strs {F : Hp} {rho : List (Addr × Addr)} : ∀ (ys : List (List Nat)), Reps K F rho ((ys.map sT).map V.str) (ys.map .str)
  | [] => .nil
  | y :: ys => .cons (.str y) (reps_strs ys)
theorem szL_map (ys : List (List Nat)) : ((ys.map sT).map (·.length)).sum = szL ys := by
  unfold szL
  rw [List.map_map]
  congr 1
theorem join_sT (z : List Nat) (ys : List (List Nat)) : Txt.join (sT z) (ys.map sT) = sT (TL.joinL z ys) := by
  apply TL.ext_tl
  rw [TL.join_eq, TL.tl_join, show TL.tl (sT (TL.joinL z ys)) = TL.joinL z ys from tl_sT _, show TL.tl (sT z) = z from tl_sT z, List.map_map]
  congr 1
  have : (TL.tl ∘ sT) = id := by funext l; exact tl_sT l
  rw [this, List.map_id]
theorem opm_join : OpM1 K mg (fun x xs H Q => ∃ a p, ∃ ys : List Str, x = .str a ∧ xs = [.ref p] ∧ (SqL K H p (ys.map V.str) ∨ SqT K H p (ys.map V.str)) ∧ (ys.map (·.length)).sum + ys.length * a.length ≤ 16777216 ∧ Q (.str (Txt.join a ys)) H) joinD := by
  intro z y d G en so σ H W Q ry s p
  cases ry with
  | lst h r =>
    rename_i ds
    have p' : Post K mg G W (rlD K) σ ((match strsOf ds with | some ys => gd (szL ys + ys.length * z.length ≤ 16777216) (pu (D.str (TL.joinL z ys))) | none => no) en so) Q := p
    cases e : strsOf ds with
    | none => rw [e] at p'; exact False.elim p'
    | some ys =>
      rw [e] at p'
      obtain ⟨h1, p'⟩ := Post.gd p'
      have ev := strs_of r e
      refine ⟨sT z, _, ys.map sT, rfl, rfl, .inl (by rw [← ev]; exact s.toSimO.rep.seq h), by rw [szL_map, List.length_map, sT_len]; exact h1, ?_⟩
      rw [join_sT]
      exact p'.ok s (.str _)
  | tup h r =>
    rename_i ds
    have p' : Post K mg G W (rlD K) σ ((match strsOf ds with | some ys => gd (szL ys + ys.length * z.length ≤ 16777216) (pu (D.str (TL.joinL z ys))) | none => no) en so) Q := p
    cases e : strsOf ds with
    | none => rw [e] at p'; exact False.elim p'
    | some ys =>
      rw [e] at p'
      obtain ⟨h1, p'⟩ := Post.gd p'
      have ev := strs_of r e
      refine ⟨sT z, _, ys.map sT, rfl, rfl, .inr (by rw [← ev]; exact same_seqT s.toSimO.rep h), by rw [szL_map, List.length_map, sT_len]; exact h1, ?_⟩
      rw [join_sT]
      exact p'.ok s (.str _)
  | _ => exact False.elim p
theorem split_sT (z s : List Nat) (h0 : s ≠ []) (h : s.all (· < 256) = true) : Txt.split (sT z) (sT s) = (TL.spl s 0 [] z).map sT := by
  apply TL.map_tl_inj
  have hk : TL.tl (sT s) ≠ [] := by rw [show TL.tl (sT s) = s from tl_sT s]; exact h0
  have hc : (sT s).cps.all (· < 256) = true := by
    show (s.toArray).all (· < 256) = true
    rw [List.all_toArray]; exact h
  rw [TL.split_spl _ _ hk (TL.kind_ok hc), show TL.tl (sT s) = s from tl_sT s, show TL.tl (sT z) = z from tl_sT z, List.map_map]
  have : (TL.tl ∘ sT) = id := by funext l; exact tl_sT l
  rw [this, List.map_id]
theorem opm_split : OpM1B K mg (fun x xs H Q => ∃ a b, x = .str a ∧ xs = [.str b] ∧ (b.length == 0) = false ∧ a.length + 2 ≤ sizeLine ∧ rNewStrs (Txt.split a b) H Q) splitD := by
  intro z y d G en so σ H W Q ry s p
  cases ry with
  | str t =>
    obtain ⟨⟨h1, h2, h3⟩, p⟩ := Post.gd (c := t ≠ [] ∧ z.length + 2 ≤ 16777216 ∧ t.all (· < 256) = true) p
    refine ⟨_, _, rfl, rfl, ?_, by rw [sT_len, sizeLine_eq]; exact h2, fun q hq => ?_⟩
    · rw [sT_len]
      cases t with
      | nil => exact absurd rfl h1
      | cons _ _ => rfl
    · rw [split_sT z t h1 h3]
      exact p.ok' (tag_le q .tmp) (s.newT (t := .tmp) hq) ⟨q, rfl, tag_own, _, upd_same, reps_strs _⟩
  | _ => exact False.elim p
theorem opm_starts : OpM1 K mg (fun x xs H Q => ∃ a b, x = .str a ∧ xs = [.str b] ∧ Q (.bl (Txt.startswith a b)) H) startsD := by
  intro z y d G en so σ H W Q ry s p
  cases ry with
  | str t => exact ⟨_, _, rfl, rfl, p.ok s (.bl _)⟩
  | _ => exact False.elim p
theorem opm_ends : OpM1 K mg (fun x xs H Q => ∃ a b, x = .str a ∧ xs = [.str b] ∧ Q (.bl (Txt.endswith a b)) H) endsD := by
  intro z y d G en so σ H W Q ry s p
  cases ry with
  | str t => exact ⟨_, _, rfl, rfl, p.ok s (.bl _)⟩
  | _ => exact False.elim p
theorem opm_find : OpM1 K mg (fun x xs H Q => ∃ a b, x = .str a ∧ xs = [.str b] ∧ Q (.int (Txt.find a b)) H) findD := by
  intro z y d G en so σ H W Q ry s p
  cases ry with
  | str t => exact ⟨_, _, rfl, rfl, p.ok s (.int _)⟩
  | _ => exact False.elim p
theorem opm_count : OpM1 K mg (fun x xs H Q => ∃ a b, x = .str a ∧ xs = [.str b] ∧ Q (.int (Txt.count a b)) H) countD := by
  intro z y d G en so σ H W Q ry s p
  cases ry with
  | str t => exact ⟨_, _, rfl, rfl, p.ok s (.int _)⟩
  | _ => exact False.elim p
end

/-! ### the law's end -/
def spLaw (K : PySem.W.Frag) : Sp := fun vs H Q _ => ∃ (a : Addr) (ns : List Int), vs = [.ref a] ∧ SqL K H a (ns.map V.int) ∧ ns.length ≤ 63 ∧ (∀ z ∈ ns, Builtin.Int.intBits z ≤ 1048576) ∧ ∀ H', Q (.bl true) H'
theorem reps_ints {K : PySem.W.Frag} {F : Hp} {rho : List (Addr × Addr)} : ∀ (ns : List Int), Reps K F rho (ns.map V.int) (ns.map .int)
  | [] => .nil
  | n :: ns => .cons (.int n) (reps_ints ns)
/-- what is to be shown of the law: on every script it answers True -/
def LawT (f : FunM) : Prop := ∀ ns : List Int, ns.length ≤ 63 → (∀ z ∈ ns, Builtin.Int.intBits z ≤ 1048576) → ∃ so, f [.lst (ns.map .int)] [] = .ok (.dat (.bl true)) so
theorem law_imp {P : Program} {w : World} {K : PySem.W.Frag} {mg : Str → Option Value} {base : Heap} {CX : CXT} {k : Nat} {fa : Addr} {fd : FuncData} {ps : List Str} {f : FunM} (hf : LawT f) (F : FnOk P w K mg base CX k fa fd ps (spD K mg f)) : FnOk P w K mg base CX k fa fd ps (spLaw K) := by
  refine F.imp fun vs H Q E ⟨a, ns, e, hS, hl, hb, q⟩ => ?_
  subst e
  obtain ⟨so, e⟩ := hf ns hl hb
  refine ⟨⟨H, fun _ => .frz, [], fun _ => none, fun _ => none⟩, [.lst (ns.map .int)], [], .cons (.lst hS (reps_ints ns)) .nil, ⟨fun a o e => ⟨e, rfl⟩, (fun a o e => nomatch e), rfl, (fun k o a dx e => nomatch e), (fun a o e => nomatch e)⟩, ?_⟩
  rw [e]
  intro v H' G' l s r
  cases (show Rep K G'.F G'.rho v (.bl true) from r)
  exact q H'
theorem walk {l : PySem.W.OpenLaw} {q : Program} {loose : List Str} {XP : (Str → Option Value) → Heap → Prop} {YP : World → Heap → Prop} {d : DefRec} {K : Params → PySem.W.Frag} {k : Nat} {x : Str} (hn : l.most = some 63) (hdf : d.params.defaults = []) (hr : Room k callerA)
    (hY : ∀ (w : World) (h : Heap), YP w h → (K w.params).In h)
    (F : ∀ (w : World) (mg : Str → Option Value) (fa : Addr) (h : Heap), (K w.params).In h → h.Ns mainGlobals mg → mg d.name = some (.ref fa) →
      ∃ fd : FuncData, (∀ (s : Shared) (u : Value), BindsTo s fd ⟨[u], []⟩ [(x, u)]) ∧ ∀ base : Heap, (K w.params).In base → base.Ns mainGlobals mg → FnOk l.prog w (K w.params) mg base (L2.CX l.prog w) k fa fd [x] (spLaw (K w.params))) :
    PySem.W.WalkO q loose XP YP l.row.toRowW d [] (fun f vs => PySem.call f vs) :=
  L2.walk_ofB (n := 63) (k := k) (x := x) (CX := fun w => L2.CX l.prog w) (sp := fun w => spLaw (K w.params)) hn (by decide) hdf hr hY F (fun _ _ a ns hl hb _ hS => ⟨a, ns, rfl, hS, hl, hb, fun _ => rfl⟩) fun _ _ _ _ _ ⟨_, _, _, _, _, _, _, _, _, _, _, _, z⟩ => z
end
end Dl

set_option Elab.async false
set_option linter.all false
set_option maxRecDepth 100000
set_option maxHeartbeats 1000000
/-! The data level: lists and dicts that change: held by a name alone, or in the store. -/
namespace Dl
open PySem PySem.Spec PyProof.Rows L2
noncomputable section

/-! ### handles: where a list or dict that is read or written comes from -/
inductive Hd where
  | dat (d : D) | slot (i : Nat)
def rlH (K : PySem.W.Frag) (σ : L2.St) : Gh → Hp → V → Hd → Prop := fun G _ v h => match h with
  | .dat d => Rep K G.F G.rho v d
  | .slot i => σ[i]? = some (some v)
structure DH (X : Cx) (W : WX) (e : Expr) (m : M Hd) : Prop where
  pe : PE X e (fun σ H Q => tM X.K X.ev W (rlH X.K σ) m σ H Q)
def hV (i : Nat) : M Hd := fun en so => match en[i]? with
  | some (some _) => .ok (.slot i) en so
  | _ => .no
def hD (m : M D) : M Hd := bd m fun d => pu (.dat d)
/-- what data holds -/
def rdD : D → M C
  | .lst xs => pu (.lst xs)
  | .dct kv => pu (.dct kv)
  | .obj k => fun en so => match so[k]? with
    | some (.cel c) => .ok c en so
    | _ => .no
  | _ => no
def rdH : Hd → M C
  | .dat d => rdD d
  | .slot i => fun en so => match en[i]? with
    | some (some (.cel c)) => .ok c en so
    | some (some (.dat d)) => rdD d en so
    | _ => .no
def CAt (K : PySem.W.Frag) (G : Gh) (H : Hp) (v : V) : C → Prop
  | .lst ds => ∃ a vs, v = .ref a ∧ SqL K H a vs ∧ Reps K G.F G.rho vs ds
  | .dct kds => ∃ a kvs, v = .ref a ∧ Rd H a (.dK kvs) ∧ RepK K G.F G.rho kvs kds
/-- how an object tells a cell's content -/
def CRo (K : PySem.W.Frag) (G : Gh) (u : HO) : C → Prop
  | .lst ds => ∃ vs, u = .lst vs ∧ Reps K G.F G.rho vs ds
  | .dct kds => ∃ kvs, u = .dK kvs ∧ RepK K G.F G.rho kvs kds
section
variable {K : PySem.W.Frag} {mg : Ev} {G : Gh} {en : En} {so : So} {σ : L2.St} {H : Hp} {W : WX} {A1 A' : Type}
theorem CR.ro {a : Addr} {c : C} (h : CR K G H a c) : ∃ u, H a = some u ∧ CRo K G u c := by
  cases c with
  | lst ds => obtain ⟨vs, e, r⟩ := h; exact ⟨_, e, vs, rfl, r⟩
  | dct ds => obtain ⟨vs, e, r⟩ := h; exact ⟨_, e, vs, rfl, r⟩
theorem CRo.cr {a : Addr} {u : HO} {c : C} (e : H a = some u) (h : CRo K G u c) : CR K G H a c := by
  cases c with
  | lst ds => obtain ⟨vs, rfl, r⟩ := h; exact ⟨_, e, r⟩
  | dct ds => obtain ⟨vs, rfl, r⟩ := h; exact ⟨_, e, r⟩
theorem CR.cat {a : Addr} {c : C} (h : CR K G H a c) : CAt K G H (.ref a) c := by
  cases c with
  | lst ds => obtain ⟨vs, e, r⟩ := h; exact ⟨a, vs, rfl, SqL.of e, r⟩
  | dct ds => obtain ⟨vs, e, r⟩ := h; exact ⟨a, vs, rfl, .inl e, r⟩
theorem rlH.up {G' : Gh} {v : V} {h : Hd} (r : rlH K σ G H v h) (l : G.le G') {H' : Hp} : rlH K σ G' H' v h := by
  cases h with
  | dat d => exact Rep.up r l
  | slot i => exact r
theorem rdD_at {v : V} {d : D} {c : C} {en' : En} {so' : So} (s : Sim K mg G en so σ H) (r : Rep K G.F G.rho v d) (e : rdD d en so = .ok c en' so') : en' = en ∧ so' = so ∧ CAt K G H v c := by
  cases r with
  | lst h r => cases e; exact ⟨rfl, rfl, _, _, rfl, s.toSimO.rep.seq h, r⟩
  | dct h r => cases e; exact ⟨rfl, rfl, _, _, rfl, same_rd s.toSimO.rep h, r⟩
  | @obj k a dx h =>
    have e : (match so[k]? with | some (.cel c) => .ok c en so | _ => .no : Re C) = .ok c en' so' := e
    cases h1 : so[k]? with
    | none => rw [h1] at e; cases e
    | some o =>
      rw [h1] at e
      cases o with
      | cel c1 =>
        cases e
        exact ⟨rfl, rfl, (s.ob k _ a dx h1 h).2.cat⟩
      | _ => cases e
  | _ => cases e
theorem rdH_at {v : V} {h : Hd} {c : C} {en' : En} {so' : So} (s : Sim K mg G en so σ H) (r : rlH K σ G H v h) (e : rdH h en so = .ok c en' so') : en' = en ∧ so' = so ∧ CAt K G H v c := by
  cases h with
  | dat d => exact rdD_at s r e
  | slot i =>
    have r : σ[i]? = some (some v) := r
    have e : (match en[i]? with | some (some (.cel c)) => .ok c en so | some (some (.dat d)) => rdD d en so | _ => .no : Re C) = .ok c en' so' := e
    cases h1 : en[i]? with
    | none => rw [h1] at e; cases e
    | some o =>
      cases o with
      | none => rw [h1] at e; cases e
      | some b =>
        obtain ⟨v', e1, rb⟩ := s.sl i b h1
        rw [r] at e1
        cases e1
        rw [h1] at e
        cases b with
        | cel c1 =>
          cases e
          obtain ⟨a, rfl, w, cr⟩ := rb
          exact ⟨rfl, rfl, cr.cat⟩
        | dat d => exact rdD_at s rb e
        | exn _ => cases e
theorem rdH_post {v : V} {h : Hd} {Rl : Gh → Hp → A' → A1 → Prop} {k : C → M A1} {Q : A' → Hp → Prop} (s : Sim K mg G en so σ H) (r : rlH K σ G H v h) (p : Post K mg G W Rl σ (bd (rdH h) k en so) Q) : ∃ c, rdH h en so = .ok c en so ∧ CAt K G H v c ∧ Post K mg G W Rl σ (k c en so) Q := by
  unfold bd at p
  cases e : rdH h en so with
  | no => rw [e] at p; exact p.elim
  | exc x en' so' =>
    exfalso
    have key : ∀ d : D, rdD d en so ≠ .exc x en' so' := fun d z => by
      cases d with
      | obj k =>
        have z : (match so[k]? with | some (.cel c) => .ok c en so | _ => .no : Re C) = .exc x en' so' := z
        split at z <;> cases z
      | _ => cases z
    cases h with
    | dat d => exact key d e
    | slot i =>
      have e : (match en[i]? with | some (some (.cel c)) => .ok c en so | some (some (.dat d)) => rdD d en so | _ => .no : Re C) = .exc x en' so' := e
      split at e
      · cases e
      · exact key _ e
      · cases e
  | ok c en' so' =>
    obtain ⟨rfl, rfl, q⟩ := rdH_at s r e
    rw [e] at p
    exact ⟨c, rfl, q, p⟩

/-! ### a cell is written -/
/-- a thing of one owner is written: the others' stand -/
theorem SimO.wr {a : Addr} {u : HO} {t : Tag} (s : SimO K mg G so H) (w : G.own a = t) (ht : t ≠ .frz ∧ t ≠ .rest ∧ t ≠ .lk) (k0 : Nat → Prop) (ho : ∀ k, ¬ k0 k → t ≠ .ob k ∧ t ≠ .dc k) {so' : So} (hl : so'.length = so.length)
    (hk : ∀ k o b dx, so'[k]? = some o → G.rho[k]? = some (b, dx) → (¬ k0 k ∧ so[k]? = some o) ∨ ObR K mg G (upd H a u) k b dx o) : SimO K mg G so' (upd H a u) := by
  refine ⟨fun b o e => ?_, fun b o e => ?_, hl.trans s.len, fun k o b dx e1 e2 => ?_, fun b o e => ?_⟩
  · obtain ⟨h1, h2⟩ := s.fr b o e
    have : b ≠ a := fun z => ht.1 (by rw [← w, ← z]; exact h2)
    exact ⟨by rw [upd_ne this]; exact h1, h2⟩
  · obtain ⟨h1, h2⟩ := s.re b o e
    have : b ≠ a := fun z => ht.2.1 (by rw [← w, ← z]; exact h2)
    exact ⟨by rw [upd_ne this]; exact h1, h2⟩
  · rcases hk k o b dx e1 e2 with ⟨hn, e3⟩ | h
    · refine (s.ob k o b dx e3 e2).keep (Same.refl _) (fun _ _ h => h) fun c v h1 h2 => ?_
      have : c ≠ a := fun z => by
        rw [z, w] at h2
        exact h2.elim (ho k hn).1 (ho k hn).2
      exact ⟨by rw [upd_ne this]; exact h1, rfl⟩
    · exact h
  · obtain ⟨h1, h2⟩ := s.lk b o e
    have : b ≠ a := fun z => ht.2.2 (by rw [← w, ← z]; exact h2)
    exact ⟨by rw [upd_ne this]; exact h1, h2⟩
theorem CRo.crU {a : Addr} {u : HO} {c : C} (h : CRo K G u c) : CR K G (upd H a u) a c := h.cr upd_same
theorem Sim.wrS {i : Nat} {a : Addr} {u : HO} {c : C} (s : Sim K mg G en so σ H) (e : σ[i]? = some (some (.ref a))) (w : G.own a = .slot i) (r : CRo K G u c) : Sim K mg G (en.set i (some (.cel c))) so σ (upd H a u) := by
  refine ⟨s.toSimO.wr w ⟨(by intro z; cases z), (by intro z; cases z), (by intro z; cases z)⟩ (fun _ => False) (fun k _ => ⟨(by intro z; cases z), (by intro z; cases z)⟩) rfl fun k o b dx e1 e2 => .inl ⟨id, e1⟩, by rw [List.length_set]; exact s.ln, fun j b ej => ?_⟩
  by_cases hj : i = j
  · subst hj
    by_cases hl : i < en.length
    · rw [List.getElem?_set_self hl] at ej
      cases ej
      exact ⟨_, e, a, rfl, w, r.crU⟩
    · rw [List.getElem?_eq_none (by rw [List.length_set]; omega)] at ej
      cases ej
  · rw [List.getElem?_set_ne hj] at ej
    obtain ⟨v, e1, rb⟩ := s.sl j b ej
    refine ⟨v, e1, rb.keep (Same.refl _) (fun _ _ h => h) fun b' o h1 h2 => ⟨?_, h2⟩⟩
    have : b' ≠ a := fun z => by rw [z, w] at h2; cases h2; exact hj rfl
    rw [upd_ne this]; exact h1
theorem Sim.wrO {k : Nat} {a dx : Addr} {u : HO} {c c0 : C} (s : Sim K mg G en so σ H) (e : so[k]? = some (.cel c0)) (er : G.rho[k]? = some (a, dx)) (w : G.own a = .ob k) (r : CRo K G u c) : Sim K mg G en (so.set k (.cel c)) σ (upd H a u) := by
  refine ⟨s.toSimO.wr w ⟨(by intro z; cases z), (by intro z; cases z), (by intro z; cases z)⟩ (fun j => j = k) (fun j hj => ⟨(by intro z; cases z; exact hj rfl), (by intro z; cases z)⟩) (List.length_set ..) fun j o b dy e1 e2 => ?_, s.ln, fun j b ej => ?_⟩
  · by_cases hj : k = j
    · subst hj
      rw [List.getElem?_set_self (by have := List.getElem?_eq_some_iff.mp e; exact this.1)] at e1
      cases e1
      rw [er] at e2
      cases e2
      exact .inr ⟨w, r.crU⟩
    · rw [List.getElem?_set_ne hj] at e1
      exact .inl ⟨fun z => hj z.symm, e1⟩
  · obtain ⟨v, e1, rb⟩ := s.sl j b ej
    refine ⟨v, e1, rb.keep (Same.refl _) (fun _ _ h => h) fun b' o h1 h2 => ⟨?_, h2⟩⟩
    have : b' ≠ a := fun z => by rw [z, w] at h2; cases h2
    rw [upd_ne this]; exact h1
def wrtO {A : Type} (k : Nat) (f : C → Option (A × C)) : M A := fun en so => match so[k]? with
  | some (.cel c) => (match f c with
    | some (a, c') => .ok a en (so.set k (.cel c'))
    | none => .no)
  | _ => .no
def wrtD {A : Type} (d : D) (f : C → Option (A × C)) : M A := match d with
  | .obj k => wrtO k f
  | _ => no
/-- what stands at a handle is written: f -/
def wrtH {A : Type} (h : Hd) (f : C → Option (A × C)) : M A := match h with
  | .dat d => wrtD d f
  | .slot i => fun en so => match en[i]? with
    | some (some (.cel c)) => (match f c with
      | some (a, c') => .ok a (en.set i (some (.cel c'))) so
      | none => .no)
    | some (some (.dat d)) => wrtD d f en so
    | _ => .no
theorem wrtD_at {v : V} {d : D} {f : C → Option (A1 × C)} {Rl : Gh → Hp → A' → A1 → Prop} {Q : A' → Hp → Prop} (s : Sim K mg G en so σ H) (r : Rep K G.F G.rho v d) (p : Post K mg G W Rl σ (wrtD d f en so) Q) :
    ∃ a u c x c', v = .ref a ∧ H a = some u ∧ CRo K G u c ∧ f c = some (x, c') ∧ ∀ u', CRo K G u' c' → ∃ en' so', Sim K mg G en' so' σ (upd H a u') ∧ Post K mg G W Rl σ (.ok x en' so') Q := by
  cases r with
  | @obj k a dx h =>
    have p : Post K mg G W Rl σ (wrtO k f en so) Q := p
    unfold wrtO at p
    cases h1 : so[k]? with
    | none => rw [h1] at p; exact p.elim
    | some o =>
      rw [h1] at p
      cases o with
      | cel c =>
        dsimp only at p
        cases h2 : f c with
        | none => rw [h2] at p; exact p.elim
        | some xc =>
          obtain ⟨x, c'⟩ := xc
          rw [h2] at p
          obtain ⟨w, cr⟩ := s.ob k _ a dx h1 h
          obtain ⟨u, hu, ro⟩ := CR.ro cr
          exact ⟨a, u, c, x, c', rfl, hu, ro, h2, fun u' ru => ⟨en, _, s.wrO h1 h w ru, p⟩⟩
      | _ => exact p.elim
  | _ => exact p.elim
theorem wrtH_at {v : V} {h : Hd} {f : C → Option (A1 × C)} {Rl : Gh → Hp → A' → A1 → Prop} {Q : A' → Hp → Prop} (s : Sim K mg G en so σ H) (r : rlH K σ G H v h) (p : Post K mg G W Rl σ (wrtH h f en so) Q) :
    ∃ a u c x c', v = .ref a ∧ H a = some u ∧ CRo K G u c ∧ f c = some (x, c') ∧ ∀ u', CRo K G u' c' → ∃ en' so', Sim K mg G en' so' σ (upd H a u') ∧ Post K mg G W Rl σ (.ok x en' so') Q := by
  cases h with
  | dat d => exact wrtD_at s r p
  | slot i =>
    have r : σ[i]? = some (some v) := r
    unfold wrtH at p
    dsimp only at p
    cases h1 : en[i]? with
    | none => rw [h1] at p; exact p.elim
    | some o =>
      cases o with
      | none => rw [h1] at p; exact p.elim
      | some b =>
        obtain ⟨v', e1, rb⟩ := s.sl i b h1
        rw [r] at e1
        cases e1
        rw [h1] at p
        cases b with
        | cel c =>
          dsimp only at p
          cases h2 : f c with
          | none => rw [h2] at p; exact p.elim
          | some xc =>
            obtain ⟨x, c'⟩ := xc
            rw [h2] at p
            obtain ⟨a, rfl, w, cr⟩ := rb
            obtain ⟨u, hu, ro⟩ := CR.ro cr
            exact ⟨a, u, c, x, c', rfl, hu, ro, h2, fun u' ru => ⟨_, so, s.wrS r w ru, p⟩⟩
        | dat d => exact wrtD_at s rb p
        | exn _ => exact p.elim
end
section
variable {X : Cx} {W : WX} {a b e e1 : Expr} {mh : M Hd} {m m1 : M D} {pos apos : Pos}
theorem h_dat (h : DE X W e m) : DH X W e (hD m) := by
  refine ⟨PE_imp h.pe fun σ H Q ⟨G, en, so, s, p⟩ => ⟨G, en, so, s, (Post.bind (R1 := rlD X.K) p).imp fun v H1 ⟨G1, en1, so1, d, l, r1, s1, p1⟩ => p1.ok s1 r1⟩⟩
theorem h_var (i : Nat) {x : Str} {pos : Pos} (hN : X.N[i]? = some x := by rfl) (hv : Vis X.env.scope x := by first | exact Or.inl rfl | exact Or.inr (Or.inl rfl) | exact Or.inr (Or.inr rfl)) (hd : (x == ("__debug__" : Str)) = false := by decide)
    (hcd : (x == ("__classdict__" : Str)) = false := by decide) : DH X W (.Name x pos) (hV i) := by
  refine ⟨PE_imp (pe_var hN hv hd hcd) fun σ H Q ⟨G, en, so, s, p⟩ => ?_⟩
  unfold hV at p
  split at p
  · rename_i b e
    obtain ⟨v, e1, r⟩ := s.sl i _ e
    exact ⟨v, e1, p.ok s e1⟩
  · exact p.elim

/-! ### methods of lists that change them -/
def isLst : C → Bool
  | .lst _ => true
  | _ => false
/-- o.name(): f on what stands there -/
def mHM0 (f : C → Option (D × C)) (mh : M Hd) : M D := bd mh fun h => bd (rdH h) fun c => gd (isLst c = true) (wrtH h f)
def mHM1 (f : C → D → Option (D × C)) (mh : M Hd) (m : M D) : M D := bd mh fun h => bd (rdH h) fun c => gd (isLst c = true) (bd m fun d => wrtH h fun c => f c d)
def OpW0 (K : PySem.W.Frag) (r : V → List V → Hp → VK → Prop) (f : C → Option (D × C)) : Prop := ∀ (G : Gh) (H : Hp) (a : Addr) (u : HO) (c c' : C) (x : D) (Q : VK), H a = some u → CRo K G u c → f c = some (x, c') → (∀ v u', CRo K G u' c' → Rep K G.F G.rho v x → Q v (upd H a u')) → r (.ref a) [] H Q
def OpW1 (K : PySem.W.Frag) (r : V → List V → Hp → VK → Prop) (f : C → D → Option (D × C)) : Prop := ∀ (G : Gh) (H : Hp) (a : Addr) (u : HO) (c c' : C) (x d : D) (y : V) (Q : VK), H a = some u → CRo K G u c → Rep K G.F G.rho y d → f c d = some (x, c') → (∀ v u', CRo K G u' c' → Rep K G.F G.rho v x → Q v (upd H a u')) → r (.ref a) [y] H Q
theorem ty_lst {G : Gh} {H : Hp} {v : V} {c : C} (h : CAt X.K G H v c) (hl : isLst c = true) : tyV X.K "list" v H := by
  cases c with
  | lst ds => obtain ⟨a, vs, rfl, sq, _⟩ := h; exact .inl ⟨rfl, vs, sq⟩
  | dct _ => cases hl
theorem d_hm0 {f : C → Option (D × C)} {id : String} {name : Str} {r : V → List V → Hp → VK → Prop} (slot : Slot "list" name id) (hty : typeOf (.builtin id) = pure (.type "method_descriptor")) (hm : MtR X id r) (h : OpW0 X.K r f) (ho : DH X W e mh)
    (hbase : attributeBase e name X.env (eval e X.env) = eval e X.env := by rfl) (hline : (apos.endLine == pos.line) = true := by rfl) : DE X W (.Call (.Attribute e name apos) [] [] pos) (mHM0 f mh) := by
  refine ⟨PE_imp (pe_bm0 F.plainAttrs_list slot hty hm ho.pe hbase hline) fun σ H Q ⟨G, en, so, s, p⟩ => ⟨G, en, so, s, (Post.bind (R1 := rlH X.K σ) p).imp fun v H1 ⟨G1, en1, so1, hd, l, r1, s1, p1⟩ => ?_⟩⟩
  obtain ⟨c, _, ca, p2⟩ := rdH_post s1 r1 p1
  obtain ⟨hl, p3⟩ := Post.gd p2
  refine ⟨ty_lst ca hl, ?_⟩
  obtain ⟨a, u, c0, x, c', rfl, hu, ro, hf, w⟩ := wrtH_at s1 r1 p3
  exact h G1 H1 a u c0 c' x Q hu ro hf fun v u' ru rv => by
    obtain ⟨en', so', s4, p4⟩ := w u' ru
    exact p4.ok s4 rv
theorem d_hm1 {f : C → D → Option (D × C)} {id : String} {name : Str} {r : V → List V → Hp → VK → Prop} (slot : Slot "list" name id) (hty : typeOf (.builtin id) = pure (.type "method_descriptor")) (hm : MtR X id r) (h : OpW1 X.K r f) (ho : DH X W e mh) (ha : DE X W e1 m1)
    (hbase : attributeBase e name X.env (eval e X.env) = eval e X.env := by rfl)
    (hfew : ((backTo pos (starEach (e1 :: []) X.env)).all (fun x => !x.1) && (backToKw pos (keywordEach [] X.env)).all (fun x => x.1.isSome) && decide ((e1 :: []).length + ([] : List Keyword).length + (if ([] : List Keyword).isEmpty then 0 else 1) < 30)) = true := by rfl)
    (hline : (apos.endLine == pos.line) = true := by rfl) (hs : starEach (e1 :: []) X.env = (false, eval e1 X.env) :: starEach [] X.env := by rfl) (hplain : (backTo pos (starEach [] X.env)).any (·.1) = false := by rfl) :
    DE X W (.Call (.Attribute e name apos) [e1] [] pos) (mHM1 f mh m1) := by
  refine ⟨PE_imp (pe_bm F.plainAttrs_list slot hty hm ho.pe (pa_cons ha.pe pa_nil hs) hbase hfew hline hs hplain) fun σ H Q ⟨G, en, so, s, p⟩ => ⟨G, en, so, s, (Post.bind (R1 := rlH X.K σ) p).imp fun v H1 ⟨G1, en1, so1, hd, l, r1, s1, p1⟩ => ?_⟩⟩
  obtain ⟨c, _, ca, p2⟩ := rdH_post s1 r1 p1
  obtain ⟨hl, p3⟩ := Post.gd p2
  refine ⟨ty_lst ca hl, G1, en1, so1, s1, (Post.bind (R1 := rlD X.K) p3).imp fun y H2 ⟨G2, en2, so2, d, l2, r2, s2, p4⟩ => ?_⟩
  obtain ⟨a, u, c0, x, c', rfl, hu, ro, hf, w⟩ := wrtH_at s2 (r1.up l2) p4
  exact h G2 H2 a u c0 c' x d y Q hu ro r2 hf fun v u' ru rv => by
    obtain ⟨en', so', s4, p4⟩ := w u' ru
    exact p4.ok s4 rv
end

/-! ### what the methods do -/
def apF : C → D → Option (D × C)
  | .lst xs, d => if xs.length < 16777216 then some (.non, .lst (xs ++ [d])) else none
  | _, _ => none
def popF : C → Option (D × C)
  | .lst xs => match xs[xs.length - 1]? with
    | some d => some (d, .lst xs.dropLast)
    | none => none
  | _ => none
def popAtF : C → D → Option (D × C)
  | .lst xs, .int i => if xs.length ≤ 16777216 then (match ixN xs.length i with
    | some k => (match xs[k]? with
      | some d => some (d, .lst (xs.eraseIdx k))
      | none => none)
    | none => none) else none
  | _, _ => none
def revF : C → Option (D × C)
  | .lst xs => some (.non, .lst xs.reverse)
  | _ => none
def clrF : C → Option (D × C)
  | .lst _ => some (.non, .lst [])
  | _ => none
section
variable {K : PySem.W.Frag} {F : Hp} {rho : List (Addr × Addr)}
theorem reps_app' : ∀ {vs ws : List V} {ds es : List D}, Reps K F rho vs ds → Reps K F rho ws es → Reps K F rho (vs ++ ws) (ds ++ es)
  | _, _, _, _, .nil, r => r
  | _, _, _, _, .cons h q, r => .cons h (reps_app' q r)
theorem reps_rev : ∀ {vs : List V} {ds : List D}, Reps K F rho vs ds → Reps K F rho vs.reverse ds.reverse
  | _, _, .nil => .nil
  | _, _, .cons h q => by
    rw [List.reverse_cons, List.reverse_cons]
    exact reps_app' (reps_rev q) (.cons h .nil)
theorem reps_dropLast : ∀ {vs : List V} {ds : List D}, Reps K F rho vs ds → Reps K F rho vs.dropLast ds.dropLast
  | _, _, .nil => .nil
  | _, _, .cons h .nil => .nil
  | _, _, .cons h (.cons h2 q) => .cons h (reps_dropLast (.cons h2 q))
theorem reps_erase : ∀ {vs : List V} {ds : List D} (i : Nat), Reps K F rho vs ds → Reps K F rho (vs.eraseIdx i) (ds.eraseIdx i)
  | _, _, _, .nil => .nil
  | _, _, 0, .cons _ q => q
  | _, _, i + 1, .cons h q => .cons h (reps_erase i q)
theorem reps_set : ∀ {vs : List V} {ds : List D} (i : Nat) {v : V} {d : D}, Reps K F rho vs ds → Rep K F rho v d → Reps K F rho (vs.set i v) (ds.set i d)
  | _, _, _, _, _, .nil, _ => .nil
  | _, _, 0, _, _, .cons _ q, r => .cons r q
  | _, _, i + 1, _, _, .cons h q, r => .cons h (reps_set i q r)
theorem ow_append : OpW1 K rAppend apF := by
  intro G H a u c c' x d y Q hu ro ry hf q
  cases c with
  | lst ds =>
    obtain ⟨vs, rfl, r⟩ := ro
    have hf : (if ds.length < 16777216 then some (D.non, C.lst (ds ++ [d])) else none) = some (x, c') := hf
    split at hf
    · rename_i hl
      cases hf
      exact ⟨a, vs, y, rfl, rfl, hu, by rw [r.len, sizeLine_eq]; exact hl, q _ _ ⟨_, rfl, reps_app' r (.cons ry .nil)⟩ .non⟩
    · cases hf
  | dct _ => cases hf
theorem ow_pop : OpW0 K rPop popF := by
  intro G H a u c c' x Q hu ro hf q
  cases c with
  | lst ds =>
    obtain ⟨vs, rfl, r⟩ := ro
    have hf : (match ds[ds.length - 1]? with | some d => some (d, C.lst ds.dropLast) | none => none) = some (x, c') := hf
    cases e : ds[ds.length - 1]? with
    | none => rw [e] at hf; cases hf
    | some d =>
      rw [e] at hf
      cases hf
      obtain ⟨v, e1, r1⟩ := reps_at r e
      exact ⟨a, vs, v, rfl, rfl, hu, by rw [r.len]; exact e1, q _ _ ⟨_, rfl, reps_dropLast r⟩ r1⟩
  | dct _ => cases hf
theorem ow_popAt : OpW1 K rPopAt popAtF := by
  intro G H a u c c' x d y Q hu ro ry hf q
  cases c with
  | lst ds =>
    cases ry with
    | int i =>
      obtain ⟨vs, rfl, r⟩ := ro
      have hf : (if ds.length ≤ 16777216 then (match ixN ds.length i with | some k => (match ds[k]? with | some d => some (d, C.lst (ds.eraseIdx k)) | none => none) | none => none) else none) = some (x, c') := hf
      split at hf
      · rename_i hl
        cases e : ixN ds.length i with
        | none => rw [e] at hf; cases hf
        | some k =>
          rw [e] at hf
          dsimp only at hf
          cases e2 : ds[k]? with
          | none => rw [e2] at hf; cases hf
          | some d =>
            rw [e2] at hf
            cases hf
            obtain ⟨v, e1, r1⟩ := reps_at r e2
            obtain ⟨h1, h2, h3, h4⟩ := ixN_seq e
            exact ⟨a, vs, i, k, v, rfl, rfl, hu, by omega, by omega, by rw [r.len]; exact h1, e1, q _ _ ⟨_, rfl, reps_erase k r⟩ r1⟩
      · cases hf
    | _ => cases hf
  | dct _ => cases hf
theorem ow_reverse : OpW0 K rReverse revF := by
  intro G H a u c c' x Q hu ro hf q
  cases c with
  | lst ds =>
    obtain ⟨vs, rfl, r⟩ := ro
    cases hf
    exact ⟨a, vs, rfl, rfl, hu, q _ _ ⟨_, rfl, reps_rev r⟩ .non⟩
  | dct _ => cases hf
theorem ow_clear : OpW0 K rClear clrF := by
  intro G H a u c c' x Q hu ro hf q
  cases c with
  | lst ds =>
    obtain ⟨vs, rfl, r⟩ := ro
    cases hf
    exact ⟨a, vs, rfl, rfl, hu, q _ _ ⟨_, rfl, .nil⟩ .non⟩
  | dct _ => cases hf
end

/-! ### stores by place -/
def stF : C → D → D → Option (Unit × C)
  | .lst xs, .int i, d => match ixN xs.length i with
    | some j => some ((), .lst (xs.set j d))
    | none => none
  | _, _, _ => none
/-- x[i] = v of a list -/
def sStL (mh : M Hd) (mi mv : M D) : M Fl := bd mv fun v => bd mh fun h => bd mi fun i => bd (wrtH h fun c => stF c i v) fun _ => pu .nx
/-- what a list or dict has at a place -/
def ixC : C → D → M D
  | .lst xs, .int i => match atI xs i with
    | some d => pu d
    | none => no
  | _, _ => no
def mIxH (mh : M Hd) (mi : M D) : M D := bd mh fun h => bd mi fun i => bd (rdH h) fun c => ixC c i
def lenC : C → M D
  | .lst xs => pu (.int xs.length)
  | _ => no
def mLenH (mh : M Hd) : M D := bd mh fun h => bd (rdH h) lenC
def truC : C → M Bool
  | .lst xs => pu (!xs.isEmpty)
  | _ => no
def mTruH (mh : M Hd) : M Bool := bd mh fun h => bd (rdH h) truC
/-- x in h -/
def inC (d : D) (neg : Bool) : C → M D
  | .lst xs => gd (okq 23 d = true ∧ xs.all (okq 23) = true) (pu (.bl (if neg then !xs.any (fun z => eqD z d) else xs.any fun z => eqD z d)))
  | _ => no
def mInH (neg : Bool) (m : M D) (mh : M Hd) : M D := bd m fun d => bd mh fun h => bd (rdH h) (inC d neg)
/-- a name whose list or dict changes no more from here on -/
def mVF (i : Nat) : M D := fun en so => match en[i]? with
  | some (some (.dat d)) => .ok d en so
  | some (some (.cel c)) => .ok c.toD (en.set i (some (.dat c.toD))) so
  | _ => .no
section
variable {X : Cx} {W : WX} {a b e e1 : Expr} {mh : M Hd} {m m1 mi mv : M D} {pos pos' apos p p2 : Pos} {x : Str}
theorem s_stL (hv : DE X W e mv) (ho : DH X W a mh) (hi : DE X W b mi) (hs : swapsWithSole [.Subscript a b p] e pos.line X.env = pure false := by rfl) (hw : swappedStores [.Subscript a b p] e X.env = pure none := by rfl) (h1 : (assignEach [.Subscript a b p] X.env).map (·.2) = [assign (.Subscript a b p) X.env] := by rfl)
    (ha : ∀ v, assign (.Subscript a b p) X.env v = (do
      let ov ← holding [v] (eval a X.env)
      let iv ← holding [v, ov] (eval b X.env)
      standAt p
      holding [v, ov, iv] (setItem ov iv v)
      release [v, ov, iv] []) := by intro _; rfl) : DS X W (.Assign [.Subscript a b p] e pos) (sStL mh mi mv) := by
  refine ⟨PS_imp (ps_asg hv.pe (pg_sub ho.pe hi.pe set_list ha) hs hw h1) fun E σ H ⟨G, en, so, s, p⟩ => ?_⟩
  refine ⟨G, en, so, s, (SPost.bind (R1 := rlD X.K) p).imp fun v H1 ⟨G1, en1, so1, dv, l1, r1, s1, p1⟩ => ?_⟩
  refine ⟨G1, en1, so1, s1, (SPost.bind (R1 := rlH X.K σ) p1).imp fun o H2 ⟨G2, en2, so2, hd, l2, r2, s2, p2⟩ => ?_⟩
  refine ⟨G2, en2, so2, s2, (SPost.bind (R1 := rlD X.K) p2).imp fun i H3 ⟨G3, en3, so3, di, l3, r3, s3, p3⟩ => ?_⟩
  have p4 := SPost.bind (R1 := fun _ _ (_ : Unit) _ => True) (σ := σ) p3
  obtain ⟨a0, u, c0, z, c', rfl, hu, ro, hf, w⟩ := wrtH_at s3 (r2.up l3) p4
  cases c0 with
  | dct _ => cases hf
  | lst ds =>
    cases r3 with
    | int k =>
      obtain ⟨vs, rfl, r⟩ := ro
      have hf : (match ixN ds.length k with | some j => some ((), C.lst (ds.set j dv)) | none => none) = some (z, c') := hf
      cases e2 : ixN ds.length k with
      | none => rw [e2] at hf; cases hf
      | some j =>
        rw [e2] at hf
        cases hf
        refine ⟨a0, vs, k, j, rfl, rfl, hu, by rw [r.len]; exact e2, ?_⟩
        obtain ⟨en', so', s5, p5⟩ := w (.lst (vs.set j v)) ⟨_, rfl, reps_set j r (Rep.up r1 (l2.trans l3))⟩
        obtain ⟨G6, en6, so6, _, l6, _, s6, p6⟩ := p5.ok (v := ()) s5 True.intro
        exact p6 σ _ G6 (.refl _) s6
    | _ => cases hf
theorem d_ixH (ho : DH X W a mh) (hi : DE X W b mi) (hs : PlainIx b := by intro _ _; rfl) : DE X W (.Subscript a b pos) (mIxH mh mi) := by
  refine ⟨PE_imp (pe_ix ix_seq ho.pe hi.pe hs) fun σ H Q ⟨G, en, so, s, p⟩ => ?_⟩
  refine ⟨G, en, so, s, (Post.bind (R1 := rlH X.K σ) p).imp fun v H1 ⟨G1, en1, so1, hd, l, r1, s1, p1⟩ => ⟨G1, en1, so1, s1, (Post.bind (R1 := rlD X.K) p1).imp fun y H2 ⟨G2, en2, so2, d, l2, r2, s2, p2⟩ => ?_⟩⟩
  obtain ⟨c, _, ca, p3⟩ := rdH_post s2 (r1.up l2) p2
  cases c with
  | dct _ => cases r2 <;> exact False.elim p3
  | lst ds =>
    cases r2 with
    | int i =>
      obtain ⟨a0, vs, rfl, sq, r⟩ := ca
      have p3 : Post X.K X.ev G2 W (rlD X.K) σ ((match atI ds i with | some d => (pu d : M D) | none => no) en2 so2) Q := p3
      cases q : atI ds i with
      | none => rw [q] at p3; exact False.elim p3
      | some d =>
        rw [q] at p3
        obtain ⟨v, h1, h2⟩ := reps_atI r q
        exact .inl ⟨_, _, i, v, rfl, rfl, sq, h1, p3.ok s2 h2⟩
    | _ => exact False.elim p3
theorem d_lenH (hg : Gl X "len") (hm : X.mg "len" = none) (ho : DH X W a mh) (he : starEach (a :: []) X.env = (false, eval a X.env) :: starEach [] X.env := by rfl) (hpl : (backTo pos (starEach [] X.env)).any (·.1) = false := by rfl) : DE X W (.Call (.Name "len" p) [a] [] pos) (mLenH mh) := by
  refine ⟨PE_imp (pe_callB call_len hg hm (by decide +kernel) (pa_cons ho.pe pa_nil he) (by decide) (by decide) he hpl) fun σ H Q ⟨G, en, so, s, p⟩ => ?_⟩
  refine ⟨G, en, so, s, (Post.bind (R1 := rlH X.K σ) p).imp fun v H1 ⟨G1, en1, so1, hd, l, r1, s1, p1⟩ => ?_⟩
  obtain ⟨c, _, ca, p3⟩ := rdH_post s1 r1 p1
  cases c with
  | dct _ => exact False.elim p3
  | lst ds =>
    obtain ⟨a0, vs, rfl, sq, r⟩ := ca
    exact ⟨_, _, rfl, .inl ⟨_, sq, rfl⟩, by rw [r.len]; exact p3.ok s1 (.int _)⟩
theorem dt_truH (ho : DH X W a mh) (he : ∀ whole, isTrue a X.env whole = (do let v ← whole; standAt a.pos; holding [v] (truthy v)) := by intro _; rfl) : DT X W a (mTruH mh) := by
  refine ⟨PT_imp (pt_truth ho.pe he) fun σ H Q ⟨G, en, so, s, p⟩ => ?_⟩
  refine ⟨G, en, so, s, (Post.bind (R1 := rlH X.K σ) p).imp fun v H1 ⟨G1, en1, so1, hd, l, r1, s1, p1⟩ => ?_⟩
  obtain ⟨c, _, ca, p3⟩ := rdH_post s1 r1 p1
  cases c with
  | dct _ => exact False.elim p3
  | lst ds =>
    obtain ⟨a0, vs, rfl, sq, r⟩ := ca
    exact ⟨_, .inl ⟨_, sq, rfl⟩, p3.ok s1 (by rw [r.isEmpty])⟩
theorem inH_tr {neg : Bool} {σ : L2.St} {H : Hp} {Q : VK} (q : tM X.K X.ev W (rlD X.K) (mInH neg m mh) σ H Q) : tOp (rInG X.K neg) (tM X.K X.ev W (rlD X.K) m) (fun σ H Q => tM X.K X.ev W (rlH X.K σ) mh σ H Q) σ H Q := by
  obtain ⟨G, en, so, s, p⟩ := q
  refine ⟨G, en, so, s, (Post.bind (R1 := rlD X.K) p).imp fun v H1 ⟨G1, en1, so1, d, l, r1, s1, p1⟩ => ⟨G1, en1, so1, s1, (Post.bind (R1 := rlH X.K σ) p1).imp fun y H2 ⟨G2, en2, so2, hd, l2, r2, s2, p2⟩ => ?_⟩⟩
  obtain ⟨c, _, ca, p3⟩ := rdH_post s2 r2 p2
  cases c with
  | dct _ => exact False.elim p3
  | lst ds =>
    obtain ⟨a0, vs, rfl, sq, r⟩ := ca
    obtain ⟨⟨h1, h2⟩, p4⟩ := Post.gd p3
    exact ⟨H2, G2.rho, d, _, _, _, Same.refl _, (Rep.up r1 l2).mono s2.toSimO.rep (fun _ _ h => h), rfl, .inl sq, r.mono s2.toSimO.rep (fun _ _ h => h), h1, h2, p4.ok s2 (.bl _)⟩
theorem d_inH (hu : X.A.units + 64 < cLine) (ha : DE X W e m) (ho : DH X W a mh) (hm : behindInMarks .In a = false := by with_unfolding_all rfl) : DE X W (.Compare e [.In] [a] pos) (mInH false m mh) :=
  ⟨PE_imp (pe_cmpR (op_inA hu) ha.pe ho.pe hm) fun _ _ _ q => by
    obtain ⟨G, en, so, s, p⟩ := inH_tr q
    exact ⟨G, en, so, s, p.imp fun v H1 ⟨G1, en1, so1, s1, p1⟩ => ⟨G1, en1, so1, s1, p1.imp fun y H2 h => .inr h⟩⟩⟩
theorem d_niH (hu : X.A.units + 64 < cLine) (ha : DE X W e m) (ho : DH X W a mh) (hm : behindInMarks .NotIn a = false := by with_unfolding_all rfl) : DE X W (.Compare e [.NotIn] [a] pos) (mInH true m mh) :=
  ⟨PE_imp (pe_cmpR (op_niA hu) ha.pe ho.pe hm) fun _ _ _ q => by
    obtain ⟨G, en, so, s, p⟩ := inH_tr q
    exact ⟨G, en, so, s, p.imp fun v H1 ⟨G1, en1, so1, s1, p1⟩ => ⟨G1, en1, so1, s1, p1.imp fun y H2 h => .inr h⟩⟩⟩
theorem d_inHT (hu : X.A.units + 64 < cLine) (ha : DE X W e m) (ho : DH X W a mh) (hm : behindInMarks .In a = false := by with_unfolding_all rfl) : DT X W (.Compare e [.In] [a] pos) (mT (mInH false m mh)) :=
  ⟨PT_imp (pt_cmpR (op_inA hu) ha.pe ho.pe hm) fun _ _ _ q => by
    obtain ⟨G, en, so, s, p⟩ := inH_tr (mT_tr q)
    exact ⟨G, en, so, s, p.imp fun v H1 ⟨G1, en1, so1, s1, p1⟩ => ⟨G1, en1, so1, s1, p1.imp fun y H2 h => .inr h⟩⟩⟩
theorem d_niHT (hu : X.A.units + 64 < cLine) (ha : DE X W e m) (ho : DH X W a mh) (hm : behindInMarks .NotIn a = false := by with_unfolding_all rfl) : DT X W (.Compare e [.NotIn] [a] pos) (mT (mInH true m mh)) :=
  ⟨PT_imp (pt_cmpR (op_niA hu) ha.pe ho.pe hm) fun _ _ _ q => by
    obtain ⟨G, en, so, s, p⟩ := inH_tr (mT_tr q)
    exact ⟨G, en, so, s, p.imp fun v H1 ⟨G1, en1, so1, s1, p1⟩ => ⟨G1, en1, so1, s1, p1.imp fun y H2 h => .inr h⟩⟩⟩
end
section
variable {K : PySem.W.Frag} {mg : Ev} {G : Gh} {en : En} {so : So} {σ : L2.St} {H : Hp}
/-- what a name holds alone is frozen -/
theorem Sim.freezeS {i : Nat} {c : C} {v : V} (s : Sim K mg G en so σ H) (e : en[i]? = some (some (.cel c))) (ev : σ[i]? = some (some v)) : ∃ G', G.le G' ∧ Sim K mg G' (en.set i (some (.dat c.toD))) so σ H ∧ Rep K G'.F G'.rho v c.toD := by
  obtain ⟨v', e1, rb⟩ := s.sl i _ e
  rw [ev] at e1
  cases e1
  obtain ⟨a, rfl, w, cr⟩ := rb
  obtain ⟨u, hu, ro⟩ := CR.ro cr
  have nF : G.F a = none := by
    cases e : G.F a with
    | none => rfl
    | some u =>
      have := (s.fr a u e).2
      rw [w] at this; cases this
  have sF : Same G.F (upd G.F a u) := fun b z e => by rw [upd_ne (ne_of_none e nF)]; exact e
  have l : G.le (G.frzn a u) := ⟨sF, fun _ _ h => h, rfl, rfl⟩
  have kp : ∀ b t, G.own b = t → t ≠ .slot i → (G.frzn a u).own b = t := fun b t e q => by
    have : b ≠ a := fun z => q (by rw [← e, z]; exact w)
    exact (if_neg this).trans e
  have rep : Rep K (G.frzn a u).F (G.frzn a u).rho (.ref a) c.toD := by
    cases c with
    | lst ds =>
      obtain ⟨vs, rfl, r⟩ := ro
      exact .lst (SqL.of (show (upd G.F a (.lst vs)) a = _ from upd_same)) (r.mono l.F l.rho)
    | dct ds =>
      obtain ⟨vs, rfl, r⟩ := ro
      exact .dct (.inl (show (upd G.F a (.dK vs)) a = _ from upd_same)) (r.mono l.F l.rho)
  refine ⟨G.frzn a u, l, ⟨⟨fun b z e => ?_, fun b z e => ?_, s.len, fun k o b dx e1 e2 => ?_, fun b z e => ?_⟩, by rw [List.length_set]; exact s.ln, fun j b ej => ?_⟩, rep⟩
  · by_cases hb : b = a
    · subst hb
      have e' : upd G.F b u b = some z := e
      rw [upd_same] at e'
      cases e'
      exact ⟨hu, if_pos rfl⟩
    · have e' : upd G.F a u b = some z := e
      rw [upd_ne hb] at e'
      obtain ⟨h1, h2⟩ := s.fr b z e'
      exact ⟨h1, (if_neg hb).trans h2⟩
  · obtain ⟨h1, h2⟩ := s.re b z e
    exact ⟨h1, kp b _ h2 (by intro z; cases z)⟩
  · exact (s.ob k o b dx e1 e2).keep sF (fun _ _ h => h) fun b' z h1 h2 => ⟨h1, kp b' _ rfl (by rcases h2 with h2 | h2 <;> (rw [h2]; intro z; cases z))⟩
  · obtain ⟨h1, h2⟩ := s.lk b z e
    exact ⟨h1, kp b _ h2 (by intro z; cases z)⟩
  · by_cases hj : i = j
    · subst hj
      by_cases hl : i < en.length
      · rw [List.getElem?_set_self hl] at ej
        cases ej
        exact ⟨_, ev, rep⟩
      · rw [List.getElem?_eq_none (by rw [List.length_set]; omega)] at ej
        cases ej
    · rw [List.getElem?_set_ne hj] at ej
      obtain ⟨v, e1, rb⟩ := s.sl j b ej
      exact ⟨v, e1, rb.keep sF (fun _ _ h => h) fun b' z h1 h2 => ⟨h1, kp b' _ h2 (by intro z; cases z; exact hj rfl)⟩⟩
end
section
variable {X : Cx} {W : WX}
theorem d_varF (i : Nat) {x : Str} {pos : Pos} (hN : X.N[i]? = some x := by rfl) (hv : Vis X.env.scope x := by first | exact Or.inl rfl | exact Or.inr (Or.inl rfl) | exact Or.inr (Or.inr rfl)) (hd : (x == ("__debug__" : Str)) = false := by decide)
    (hcd : (x == ("__classdict__" : Str)) = false := by decide) : DE X W (.Name x pos) (mVF i) := by
  refine ⟨PE_imp (pe_var hN hv hd hcd) fun σ H Q ⟨G, en, so, s, p⟩ => ?_⟩
  unfold mVF at p
  split at p
  · rename_i d e
    obtain ⟨v, e1, r⟩ := s.sl i _ e
    exact ⟨v, e1, p.ok s r⟩
  · rename_i c e
    obtain ⟨v, e1, r⟩ := s.sl i _ e
    obtain ⟨G', l, s', r'⟩ := s.freezeS e e1
    exact ⟨v, e1, p.ok' l s' r'⟩
  · exact p.elim
end
end
end Dl

set_option Elab.async false
set_option linter.all false
set_option maxRecDepth 100000
set_option maxHeartbeats 1000000
/-! The data level: powers, more text methods, lists and tuples joined, copies. -/
namespace Dl
open PySem PySem.Spec PyProof.Rows L2
noncomputable section

/-! ### powers, rfind, minus -/
def powD : D → D → M D
  | .int a, .int b => gd (0 ≤ b ∧ b ≤ 1000000 ∧ a.natAbs < 18446744073709551616) (pu (.int (a ^ b.toNat)))
  | _, _ => no
def rfindD (z : List Nat) : D → M D
  | .str t => pu (.int (Txt.rfind (sT z) (sT t)))
  | _ => no
section
variable {K : PySem.W.Frag} {mg : Ev}
theorem op2_pow : Op2 K mg (rI CPow fun i j => .int (i ^ j.toNat)) powD := by
  intro x y d e G en so σ H W Q rx ry s p
  cases d <;> cases e <;> try exact False.elim p
  cases rx; cases ry
  rename_i a b
  obtain ⟨⟨h1, h2, h3⟩, p⟩ := Post.gd (c := 0 ≤ b ∧ b ≤ 1000000 ∧ a.natAbs < 18446744073709551616) p
  exact ⟨_, _, rfl, rfl, ⟨h1, h2, by omega⟩, p.ok s (.int _)⟩
theorem opm_rfind : OpM1 K mg (fun x xs H Q => ∃ a b, x = .str a ∧ xs = [.str b] ∧ Q (.int (Txt.rfind a b)) H) rfindD := by
  intro z y d G en so σ H W Q ry s p
  cases ry with
  | str t => exact ⟨_, _, rfl, rfl, p.ok s (.int _)⟩
  | _ => exact False.elim p
end

/-! ### list + list -/
theorem lst_add (l : Addr) (items : Array Value) (n : Nat) (b : Addr) (items2 : Array Value) (n2 : Nat) (dd dd2 : Option Addr) (sl sl2 : Array (Option Value)) (hc0 : items.size + items2.size ≤ sizeLine) :
    Meets (Builtin.«list.__add__» ⟨[.ref l, .ref b], []⟩) (fun _ R s => s.heap.get? l = some { cls := .type "list", dict := dd, data := .seq items n, slots := sl } ∧ s.heap.get? b = some { cls := .type "list", dict := dd2, data := .seq items2 n2, slots := sl2 } ∧ R (.ok (.ret (Value.ref s.heap.objs.size))) { s with heap := s.heap.push { cls := Value.type "list", data := Data.seq (items ++ items2) }, toks := s.toks }) :=
  .of_wp fun prog w A R s h => by
    obtain ⟨hp, g, d, tk, os⟩ := s
    obtain ⟨hl, hb, h⟩ := h
    have f1 := AutoSeq1.idx_int
    have f2 := AutoSeq1.sub_tuple_tuple
    have f3 := AutoSeq1.sub_list_list
    have f4 := AutoSeq1.sub_tuple_list
    have f5 := AutoSeq1.sub_list_tuple
    wp_walk using AutoSeq1.wpAny_loadPart' hl, AutoSeq1.wpAny_loadPart' hb
    exact ⟨_, rfl, h⟩
def rCatL (K : PySem.W.Frag) : R2 := fun x y H Q => ∃ a b xs ys, x = .ref a ∧ y = .ref b ∧ SqL K H a xs ∧ SqL K H b ys ∧ xs.length + ys.length ≤ sizeLine ∧ ∀ p, H p = none → Q (.ref p) (upd H p (.lst (xs ++ ys)))
theorem op_catL {X : Cx} : OpR X (binaryOp .Add) (rCatL X.K) := by
  intro pins s σ H x y v u Q I rx ry h
  obtain ⟨a, b, xs, ys, rfl, rfl, ha, hb, hz, q⟩ := h
  cases rx
  cases ry
  obtain ⟨its, r1, ⟨⟨cls, dd, data, sl⟩, n, ho, hc, hdn, hd⟩, _⟩ := I.list ha
  obtain ⟨its2, r2, ⟨⟨cls2, dd2, data2, sl2⟩, n2, ho2, hc2, hdn2, hd2⟩, _⟩ := I.list hb
  simp only at hc hd hc2 hd2
  subst hc hd hc2 hd2
  refine concat_meets ⟨_, ho, rfl⟩ ⟨_, ho2, rfl⟩ noFill_list_add seq_list_add F.slot_list_add F.entry_list_add (F.args_list_add_2 _ _) (lst_add a its.toArray n b its2.toArray n2 dd dd2 sl sl2 (by rw [List.size_toArray, List.size_toArray, ← r1.length, ← r2.length]; exact hz)) ⟨ho, ho2, ?_⟩
  have ea : its.toArray ++ its2.toArray = (its ++ its2).toArray := by simp
  rw [ea]
  exact ⟨.ref _, _, I.lnew (t' := s.toks) (r1.append r2) (by rw [List.length_append]; omega), rfl, q _ I.fresh⟩
def catL : D → D → M B
  | .lst xs, .lst ys => gd (xs.length + ys.length ≤ 16777216) (pu (.cel (.lst (xs ++ ys))))
  | _, _ => no
def mCatL (ma mb : M D) : M B := bd ma fun d => bd mb fun e => catL d e
def catT : D → D → M D
  | .tup xs, .tup ys => gd (xs.length + ys.length ≤ 16777216) (pu (.tup (xs ++ ys)))
  | _, _ => no
/-- list(x) -/
def listD : List D → M B
  | [.lst xs] => pu (.cel (.lst xs))
  | [.tup xs] => pu (.cel (.lst xs))
  | _ => no
def tupleD : List D → M D
  | [.lst xs] => pu (.tup xs)
  | [.tup xs] => pu (.tup xs)
  | _ => no
section
variable {K : PySem.W.Frag} {mg : Ev} {X : Cx} {W : WX} {a b e : Expr} {ma mb : M D} {pos : Pos}
theorem b_cat (ha : DE X W a ma) (hb : DE X W b mb) : DB X W (.BinOp a .Add b pos) (mCatL ma mb) := by
  refine ⟨PE_imp (pe_op op_catL ha.pe hb.pe) fun σ H Q ⟨G, en, so, s, p⟩ => ?_⟩
  refine ⟨G, en, so, s, (Post.bind (R1 := rlD X.K) p).imp fun v H1 ⟨G1, en1, so1, d, l, r1, s1, p1⟩ => ⟨G1, en1, so1, s1, (Post.bind (R1 := rlD X.K) p1).imp fun y H2 ⟨G2, en2, so2, e, l2, r2, s2, p2⟩ => ?_⟩⟩
  have r1' := Rep.up r1 l2
  cases r1' with
  | lst h1 q1 =>
    cases r2 with
    | lst h2 q2 =>
      obtain ⟨hl, p3⟩ := Post.gd p2
      refine ⟨_, _, _, _, rfl, rfl, s2.toSimO.rep.seq h1, s2.toSimO.rep.seq h2, by rw [q1.len, q2.len, sizeLine_eq]; exact hl, fun q hq => ?_⟩
      exact p3.ok' (tag_le q .tmp) (s2.newT (t := .tmp) hq) ⟨q, rfl, tag_own, _, upd_same, reps_app' q1 q2⟩
    | _ => exact False.elim p2
  | _ => cases r2 <;> exact False.elim p2
theorem op2_catT : Op2 K mg (rCatA K) catT := by
  intro x y d e G en so σ H W Q rx ry s p
  cases rx with
  | tup h1 q1 =>
    cases ry with
    | tup h2 q2 =>
      obtain ⟨hl, p3⟩ := Post.gd p
      refine ⟨_, _, _, _, rfl, rfl, same_seqT s.toSimO.rep h1, same_seqT s.toSimO.rep h2, by rw [q1.len, q2.len, sizeLine_eq]; exact hl, fun e => ?_, fun _ e => ?_, fun _ _ q hq => ?_⟩
      · subst e
        cases q1
        exact p3.ok s (.tup h2 q2)
      · subst e
        cases q2
        rw [List.append_nil] at p3
        exact p3.ok s (.tup h1 q1)
      · obtain ⟨s2, l2⟩ := s.newF (o := .tup _) hq
        exact p3.ok' l2 s2 (.tup (.inl (.inl (show upd G.F q _ q = _ from upd_same))) ((reps_app' q1 q2).mono l2.F l2.rho))
    | _ => exact False.elim p
  | _ => cases ry <;> exact False.elim p
theorem opn_list : OpNB K mg (fun xs H Q => ∃ p ys, xs = [.ref p] ∧ (SqL K H p ys ∨ SqT K H p ys) ∧ ∀ l, H l = none → Q (.ref l) (upd H l (.lst ys))) listD := by
  intro xs ds G en so σ H W Q r s p
  match ds, r, p with
  | [d], r, p =>
    obtain ⟨x, rfl, h⟩ := reps1 r
    cases h with
    | lst h q => exact ⟨_, _, rfl, .inl (s.toSimO.rep.seq h), fun q' hq => p.ok' (tag_le q' .tmp) (s.newT (t := .tmp) hq) ⟨q', rfl, tag_own, _, upd_same, q⟩⟩
    | tup h q => exact ⟨_, _, rfl, .inr (same_seqT s.toSimO.rep h), fun q' hq => p.ok' (tag_le q' .tmp) (s.newT (t := .tmp) hq) ⟨q', rfl, tag_own, _, upd_same, q⟩⟩
    | _ => exact False.elim p
  | [], _, p => exact False.elim p
  | d :: _ :: _, _, p => cases d <;> exact False.elim p
theorem opn_tuple : OpN K mg (fun xs H Q => ∃ p ys, xs = [.ref p] ∧ ((SqL K H p ys ∧ ∀ l, H l = none → Q (.ref l) (upd H l (.tup ys))) ∨ (SqT K H p ys ∧ Q (.ref p) H))) tupleD := by
  intro xs ds G en so σ H W Q r s p
  match ds, r, p with
  | [d], r, p =>
    obtain ⟨x, rfl, h⟩ := reps1 r
    cases h with
    | lst h q =>
      refine ⟨_, _, rfl, .inl ⟨s.toSimO.rep.seq h, fun q' hq => ?_⟩⟩
      obtain ⟨s2, l2⟩ := s.newF (o := .tup _) hq
      exact p.ok' l2 s2 (.tup (.inl (.inl (show upd G.F q' _ q' = _ from upd_same))) (q.mono l2.F l2.rho))
    | tup h q => exact ⟨_, _, rfl, .inr ⟨same_seqT s.toSimO.rep h, p.ok s (.tup h q)⟩⟩
    | _ => exact False.elim p
  | [], _, p => exact False.elim p
  | d :: _ :: _, _, p => cases d <;> exact False.elim p
end
end
end Dl

set_option Elab.async false
set_option linter.all false
set_option maxRecDepth 100000
set_option maxHeartbeats 1000000
/-! The data level: own exception classes whose __init__ begins with super().__init__(text). -/
namespace Dl
open PySem PySem.Spec PyProof.Rows L2
noncomputable section

/-- what the written part says of an __init__ that asks super: f the def, cc the cell of its class, Dd that class -/
structure FunX (P : Program) (K : PySem.W.Frag) (mg : Str → Option Value) (qual : Str) (st : Stmt) (f : Addr) (fd : FuncData) (Dd : Addr) : Prop where
  ex : ∃ (oc : Value) (od : Option Addr) (kV doc pm : Value) (an : Option Addr) (cda : Addr) (ct : Value) (osl : Array (Option Value)) (cc : Addr),
    fd = PySem.W.fnX "__init__" qual (defArgs st) (defBody st) (defScope st) [("__class__", cc)] .none kV doc pm an (.ref cda) ct ∧ K.lookup f = some ⟨oc, od, .func fd, osl⟩ ∧ PySem.W.codeIn K (.ref cda) qual = true ∧
    (∃ ccl cdd vs ccs file tf, K.lookup cda = some ⟨ccl, cdd, .fields vs, ccs⟩ ∧ vs[2]? = some (.str file tf) ∧ ((P.main.file : Str) == file) = true) ∧
    (∃ cl cld csl, K.lookup cc = some ⟨cl, cld, .cell (some (.ref Dd)), csl⟩)
  cls : ∃ cd, PySem.W.clsIn K Dd = some cd
  sup : PySem.W.nsIn K mainGlobals "super" = some none
  gsup : mg "super" = none
  top : (P.main.scope.names.lookup ("super" : Str)).isSome = false
  oq : PySem.W.nsIn K PySem.cStatics "thirdparty.any" = some none
/-- .. and of a class that it makes -/
structure ClsX (K : PySem.W.Frag) (C Dd : Addr) : Prop extends OexC K C where
  sub : PySem.W.mroIn K C (.ref Dd) = some true
  ini : PySem.W.ks_superIn K C Dd "__init__" = some (some (.builtin "ValueError.__init__"))
  ve : PySem.W.subIn K (.ref C) (.type "ValueError") = some true
section
variable {P : Program} {w : World} {K : PySem.W.Frag} {mg : Str → Option Value} {base : Heap} {CX : CXT}
/-- super().__init__(e): the first statement -/
theorem first_super {f Dd C a L : Addr} {qual : Str} {st : Stmt} {cda cc : Addr} {N : List Str} {A : Around} {outer : List Env} {s0 s : Shared} {H0 H : Hp} {E : XK} {σ : L2.St} {fd : FuncData} {m : Str → Option Value}
    {z1 : Str} {j1 : Nat} {pc : Pos} {p0 p1 p2 p3 p4 : Pos} {body : List Stmt} {rest : List Stmt} {R : Flow → Shared → Prop} {oc : Value} {od : Option Addr} {osl : Array (Option Value)} {ar : Arg}
    (X : Cx) (hX : X = NdefX.ncx CX P w K mg base N ⟨"__init__", qual, defArgs st, defBody st, defScope st, [("__class__", cc)], cda⟩ f A outer s0 H0 E)
    (hf : K.lookup f = some ⟨oc, od, .func fd, osl⟩) (hp : (fd.params.posonlyargs ++ fd.params.args).head? = some ar)
    (hcode : ∃ ccl cdd vs ccs file tf, K.lookup cda = some ⟨ccl, cdd, .fields vs, ccs⟩ ∧ vs[2]? = some (.str file tf) ∧ ((P.main.file : Str) == file) = true)
    (hcell : ∃ cl cld csl, K.lookup cc = some ⟨cl, cld, .cell (some (.ref Dd)), csl⟩) (hD : ∃ cd, PySem.W.clsIn K Dd = some cd) (gsup : mg "super" = none) (top : (P.main.scope.names.lookup ("super" : Str)).isSome = false)
    (oq : PySem.W.nsIn K PySem.cStatics "thirdparty.any" = some none)
    (hks : (defScope st).names.lookup ("super" : Str) = some .globalImplicit) (hkc : (defScope st).names.lookup ("__class__" : Str) = some .free) (hka : (defScope st).names.lookup ar.arg = some .local) (hk : (defScope st).kind = .function)
    (T : ClsX K C Dd) (I : Inv X [] σ H s) (ha : H a = some (exo a C none)) (hns : s.heap.Ns X.env.locals m) (hm : m ar.arg = some (.ref a))
    (hev : eval (.Call (.Attribute (.Call (.Name "super" p0) [] [] p1) "__init__" p2) [.Constant (.str z1) j1 pc] [] p3) X.env = (do
      let ov ← attributeBase (.Call (.Name "super" p0) [] [] p1) "__init__" X.env (eval (.Call (.Name "super" p0) [] [] p1) X.env)
      standAt p2.atName
      let (f, first) ← holding [ov] (getMethod ov "__init__" (pure false))
      callWith p3 f first (backTo p3 (starEach [.Constant (.str z1) j1 pc] X.env)) []))
    (hi : interactive X.env = false) (hs : swapsWith (.Call (.Attribute (.Call (.Name "super" p0) [] [] p1) "__init__" p2) [.Constant (.str z1) j1 pc] [] p3) none p4.line X.env = pure false)
    (h : ∀ s', Inv X [] σ H s' → R .next s') :
    PySem.wpAt (model P w) X.A (.func body X.env) (exec (.Expr (.Call (.Attribute (.Call (.Name "super" p0) [] [] p1) "__init__" p2) [.Constant (.str z1) j1 pc] [] p3) p4) X.env) R X.xe s := by
  obtain ⟨ccl, cdd, vs, ccs, file, tf, hc1, hc2, hc3⟩ := hcode
  obtain ⟨cl, cld, csl, hcc⟩ := hcell
  obtain ⟨cdD, hD⟩ := hD
  subst hX
  have X0 : K.In s.heap := I.kIn
  obtain ⟨oD, hD1, hD2⟩ : ∃ oD, s.heap.get? Dd = some oD ∧ oD.data = .cls cdD := by
    unfold PySem.W.clsIn at hD
    split at hD
    · rename_i c d cd' sl ho
      cases hD
      exact ⟨_, X0 _ _ ho, rfl⟩
    · cases hD
  obtain ⟨t1, hx⟩ := exo_at I.hok ha
  refine ks_wpAt_Expr_any (ks_wpAt_MethodCall (pl := pure false) (ks_wpAt_super_base (env := NdefX.envF ⟨"__init__", qual, defArgs st, defBody st, defScope st, [("__class__", cc)], cda⟩ f s0.heap.objs.size) hks hkc (by decide) rfl (X0 _ _ hf) rfl hp rfl (X0 _ _ hc1) rfl hc2 hc3 top ?_) hev) hi hs
  obtain ⟨mb, hb1, hb2⟩ := I.mod.blt
  refine PySem.W.ks_loadName_global hk hks (PySem.Calls.loadGlobal_builtin (by rw [show (NdefX.envF ⟨"__init__", qual, defArgs st, defBody st, defScope st, [("__class__", cc)], cda⟩ f s0.heap.objs.size).globals = mainGlobals from rfl]; exact I.mod.glob.keeps I.bk) gsup (hb1.keeps I.bk) ((hb2 "super" (by decide)).trans (by first | kernel_rfl | decide +kernel)) ⟨rfl, ?_⟩)
  refine wpAny_loadName_free hk hkc rfl ⟨_, X0 _ _ hcc, rfl⟩ ?_
  refine wpAny_loadName_local hk hka hns hm ?_
  refine ks_wpAny_isType_cls hD1 hD2 ⟨rfl, ?_⟩
  refine ks_wpAny_call_super hD1 hD2 hx rfl (fun c e => by cases e) (PySem.W.looks_mroIn X0 T.sub) (fun h1 e1' k1 => ?_)
  -- the method
  have I1 := I.kept (t' := s.toks) k1
  have X1 : K.In h1 := I1.kIn
  have hx1 := k1 _ _ hx
  have J : PySem.W.InstAt h1 a { cls := .ref C, dict := none, data := .fields #[.ref t1, .none, .none, .none, .bool false, .none] } C none := ⟨hx1, rfl, rfl, trivial⟩
  cases hc : PySem.W.clsIn K C with
  | none =>
    have z := T.ini
    unfold PySem.W.ks_superIn at z
    rw [hc] at z
    cases z
  | some cd =>
    have z := T.ini
    unfold PySem.W.ks_superIn at z
    rw [hc] at z
    refine PySem.W.kxs_getMethod PySem.W.kxs_ValueError e1' (PySem.W.looks_opaque X1 oq) (l₀ := cd.mro) (fun A Q E s k q => wpAny_bind ((PySem.W.looks_clsIn X1 hc) A _ E s k (wpAny_pure q))) rfl X1 z (J.type.andThen (PySem.W.looks_subIn X1 T.ve)) (PySem.W.ks_ne X1 J hc) (by decide) ?_
    have k2 : ∀ b u, h1.get? b = some u → (h1.push (PySem.W.kxs_mw "ValueError.__init__" a)).get? b = some u := fun b u q => Heap.get?_push_of_some _ q
    have I2 := I1.kept (t' := s.toks + 1) k2
    have hu : (h1.push (PySem.W.kxs_mw "ValueError.__init__" a)).get? h1.objs.size = some (PySem.W.kxs_mw "ValueError.__init__" a) := Heap.get?_push_size _ rfl
    have he : starEach [.Constant (.str z1) j1 pc] (NdefX.envF ⟨"__init__", qual, defArgs st, defBody st, defScope st, [("__class__", cc)], cda⟩ f s0.heap.objs.size) = [(false, eval (.Constant (.str z1) j1 pc) (NdefX.envF ⟨"__init__", qual, defArgs st, defBody st, defScope st, [("__class__", cc)], cda⟩ f s0.heap.objs.size))] := rfl
    refine PySem.W.kxs_callWith (i := "ValueError.__init__") (x := a) rfl ?_
    refine PySem.Calls.evalArgs_plain (PySem.Calls.spliced_cons (PySem.Calls.Constant_str (k := j1) (pos := pc) ?_))
    refine PySem.Calls.spliced_nil ⟨hu, ?_⟩
    have I3 := I2.tok (s.toks + 1 + 1)
    obtain ⟨nm, q, NN, bs, bm, sn, sub, ab, col, dd, g0, g1, g2, g3, g5, hC, hbm⟩ := T.cls
    have hx2 := k2 _ _ hx1
    refine wpAny_call (codeAny_of_tree ?_)
    show wpAny _ _ (callAny (.ref h1.objs.size) ⟨[.str z1 (s.toks + 1)], []⟩) _ _ _
    simp only [callAny]
    refine wpAny_bind (wpAny_load hu ?_)
    simp only [PySem.W.kxs_mw, show (Value.type "method-wrapper" == Value.type "method" || Value.type "method-wrapper" == Value.type "builtin_function_or_method" || Value.type "method-wrapper" == Value.type "method-wrapper") = true by decide, if_true]
    refine PySem.W.KFB.if_so (by decide) ?_
    refine wpAny_bind (PySem.W.check_bound_init F.excBase_ValueError.toExcCallFacts (I3.kIn _ _ hC) hx2 rfl ?_)
    refine wpAny_bind (wpAny_pure (wpAny_pure ?_))
    refine ⟨PySem.plainId_quiet F.excBase_ValueError.init.plain _, codeAny_builtin F.excBase_ValueError.initEntry ?_⟩
    refine PySem.W.exc_init_tree (cls := .ref C) (t0 := t1) (dv := none) (c2 := .none) (c3 := .none) (b4 := .bool false) hx2 (by rw [sizeLine_eq]; show 1 ≤ 16777216; decide) fun h' kk hx' _ => ?_
    have J := I3.write (t' := s.toks + 1 + 1) (x := a) (e := a) (o := exo a C none) (by rw [ha]; exact True.intro) (.inl rfl) kk ⟨_, hx'⟩ (exo_ok hx')
    have eu : upd H a (exo a C none) = H := by
      funext b
      by_cases hb : b = a
      · rw [hb, upd_same, ha]
      · rw [upd_ne hb]
    rw [eu] at J
    exact h _ J
end

/-! ### the stores behind it -/
/-- self.f = the i-th name, one after another -/
inductive Stores (X : Cx) : List Stmt → List (Str × Nat) → Prop
  | nil : Stores X [] []
  | cons {st : Stmt} {sts : List Stmt} {f : Str} {i : Nat} {fl : List (Str × Nat)} : PS X st (tOst X.K f (tVar 0) (tVar i)) → Stores X sts fl → Stores X (st :: sts) ((f, i) :: fl)
def valAt (σ : L2.St) (i : Nat) : V := match σ[i]? with
  | some (some v) => v
  | _ => .non
def putAll (σ : L2.St) : List (Str × Nat) → List (Str × V) → List (Str × V)
  | [], fs => fs
  | (f, i) :: fl, fs => putAll σ fl ((f, valAt σ i) :: fs)
theorem valAt_some {σ : L2.St} {i : Nat} {v : V} (h : σ[i]? = some (some v)) : valAt σ i = v := by unfold valAt; rw [h]
theorem Stores.old {X : Cx} {sts : List Stmt} {fl : List (Str × Nat)} (h : Stores X sts fl) : ∃ t, PSs X sts t ∧ ∀ (D : Ends) (σ : L2.St) (H : Hp) (a C dx : Addr) (fs : List (Str × V)), σ[0]? = some (some (.ref a)) → (∀ p ∈ fl, ∃ v, σ[p.2]? = some (some v)) → OexC X.K C →
    (∀ p ∈ fl, PySem.W.findIn X.K (.ref C) p.1 = some none) → H a = some (exo a C (some dx)) → H dx = some (exd dx fs) → dx ≠ a → fs.length + fl.length ≤ 900 → D.nx σ (upd H dx (exd dx (putAll σ fl fs))) → t D σ H := by
  induction h with
  | nil =>
    refine ⟨_, pss_nil, fun D σ H a C dx fs h0 hv T hn ea ed ne hl q => ?_⟩
    have e : upd H dx (exd dx fs) = H := by
      funext b
      by_cases hb : b = dx
      · rw [hb, upd_same, ed]
      · rw [upd_ne hb]
    have q : D.nx σ (upd H dx (exd dx fs)) := q
    rw [e] at q
    exact q
  | @cons st sts f i fl hst _ ih =>
    obtain ⟨t, ht, run⟩ := ih
    refine ⟨_, pss_cons hst ht, fun D σ H a C dx fs h0 hv T hn ea ed ne hl q => ?_⟩
    obtain ⟨v, ev⟩ := hv (f, i) List.mem_cons_self
    have hl' : fs.length + (fl.length + 1) ≤ 900 := hl
    refine ⟨v, ev, .ref a, h0, a, C, rfl, T, hn (f, i) List.mem_cons_self, .inr ⟨dx, fs, ea, ed, by omega, ?_⟩⟩
    refine run D σ _ a C dx ((f, v) :: fs) h0 (fun p hp => hv p (List.mem_cons_of_mem _ hp)) T (fun p hp => hn p (List.mem_cons_of_mem _ hp)) (by rw [upd_ne (Ne.symm ne)]; exact ea) upd_same ne (by rw [List.length_cons]; omega) ?_
    have e : upd (upd H dx (exd dx ((f, v) :: fs))) dx (exd dx (putAll σ fl ((f, v) :: fs))) = upd H dx (exd dx (putAll σ fl ((f, v) :: fs))) := by
      funext b
      by_cases hb : b = dx
      · rw [hb, upd_same, upd_same]
      · rw [upd_ne hb, upd_ne hb, upd_ne hb]
    rw [e]
    have q : D.nx σ (upd H dx (exd dx (putAll σ fl ((f, valAt σ i) :: fs)))) := q
    rw [valAt_some ev] at q
    exact q
theorem Stores.new {X : Cx} {sts : List Stmt} {fl : List (Str × Nat)} (h : Stores X sts fl) (h1 : fl ≠ []) : ∃ t, PSs X sts t ∧ ∀ (D : Ends) (σ : L2.St) (H : Hp) (a C : Addr), σ[0]? = some (some (.ref a)) → (∀ p ∈ fl, ∃ v, σ[p.2]? = some (some v)) → OexC X.K C →
    (∀ p ∈ fl, PySem.W.findIn X.K (.ref C) p.1 = some none) → H a = some (exo a C none) → fl.length ≤ 900 → (∀ dx, H dx = none → dx ≠ a → D.nx σ (upd (upd H dx (exd dx (putAll σ fl []))) a (exo a C (some dx)))) → t D σ H := by
  cases h with
  | nil => exact absurd rfl h1
  | @cons st sts f i fl hst hr =>
    obtain ⟨t, ht, run⟩ := hr.old
    refine ⟨_, pss_cons hst ht, fun D σ H a C h0 hv T hn ea hl q => ?_⟩
    obtain ⟨v, ev⟩ := hv (f, i) List.mem_cons_self
    have hl' : fl.length + 1 ≤ 900 := hl
    refine ⟨v, ev, .ref a, h0, a, C, rfl, T, hn (f, i) List.mem_cons_self, .inl ⟨ea, fun dx hd ne => ?_⟩⟩
    refine run D σ _ a C dx [(f, v)] h0 (fun p hp => hv p (List.mem_cons_of_mem _ hp)) T (fun p hp => hn p (List.mem_cons_of_mem _ hp)) upd_same (by rw [upd_ne ne, upd_same]) ne (by rw [List.length_singleton]; omega) ?_
    have e : upd (upd (upd H dx (exd dx [(f, v)])) a (exo a C (some dx))) dx (exd dx (putAll σ fl [(f, v)])) = upd (upd H dx (exd dx (putAll σ fl [(f, v)]))) a (exo a C (some dx)) := by
      funext b
      by_cases hb : b = dx
      · rw [hb, upd_same, upd_ne ne, upd_same]
      · rw [upd_ne hb]
        by_cases hb2 : b = a
        · rw [hb2, upd_same, upd_same]
        · rw [upd_ne hb2, upd_ne hb, upd_ne hb2, upd_ne hb]
    rw [e]
    have q := q dx hd ne
    have q : D.nx σ (upd (upd H dx (exd dx (putAll σ fl [(f, valAt σ i)]))) a (exo a C (some dx))) := q
    rw [valAt_some ev] at q
    exact q
/-- what such an __init__ promises: np parameters, the fields fl -/
def spI (K : PySem.W.Frag) (Dd : Addr) (np : Nat) (fl : List (Str × Nat)) : Sp := fun vs H Q _ => ∃ a C ws, vs = .ref a :: ws ∧ vs.length = np ∧ ClsX K C Dd ∧ (∀ p ∈ fl, PySem.W.findIn K (.ref C) p.1 = some none) ∧ H a = some (exo a C none) ∧
  ∀ dx, H dx = none → dx ≠ a → Q .non (upd (upd H dx (exd dx (putAll (vs.map some) fl []))) a (exo a C (some dx)))
theorem putAll_app (σ τ : L2.St) : ∀ (fl : List (Str × Nat)) (fs : List (Str × V)), (∀ p ∈ fl, p.2 < σ.length) → putAll (σ ++ τ) fl fs = putAll σ fl fs
  | [], _, _ => rfl
  | (f, i) :: fl, fs, h => by
    have e : valAt (σ ++ τ) i = valAt σ i := by
      unfold valAt
      rw [List.getElem?_append_left (h (f, i) List.mem_cons_self)]
    unfold putAll
    rw [e, putAll_app σ τ fl _ fun p hp => h p (List.mem_cons_of_mem _ hp)]
section
variable {P : Program} {w : World} {K : PySem.W.Frag} {mg : Str → Option Value} {base : Heap}
theorem init_ok {qual : Str} {st : Stmt} {f Dd : Addr} {fd : FuncData} {ps : List Str} {k : Nat} {fl : List (Str × Nat)} {z1 : Str} {j1 : Nat} {pc p0 p1 p2 p3 p4 : Pos} {rest : List Stmt} {ar : Arg} (F : FunX P K mg qual st f fd Dd)
    (S : NdefX.NScope (ps ++ [("__class__" : Str)]) ps [("__class__" : Str)] (defScope st))
    (hbd : defBody st = .Expr (.Call (.Attribute (.Call (.Name "super" p0) [] [] p1) "__init__" p2) [.Constant (.str z1) j1 pc] [] p3) p4 :: rest) (hp : ((defArgs st).posonlyargs ++ (defArgs st).args).head? = some ar) (hp0 : ps[0]? = some ar.arg)
    (hks : (defScope st).names.lookup ("super" : Str) = some .globalImplicit) (hkc : (defScope st).names.lookup ("__class__" : Str) = some .free) (hka : (defScope st).names.lookup ar.arg = some .local)
    (hfl : fl ≠ []) (hfl9 : fl.length ≤ 900) (hflp : ∀ p ∈ fl, p.2 < ps.length)
    (hst : ∀ (cc cda : Addr) (A : Around) (outer : List Env) (s : Shared) (H : Hp) (E : XK), Stores (NdefX.ncx (L2.CX P w) P w K mg base (ps ++ [("__class__" : Str)]) ⟨"__init__", qual, defArgs st, defBody st, defScope st, [("__class__", cc)], cda⟩ f A outer s H E) rest fl)
    (hev : ∀ (env : Env), eval (.Call (.Attribute (.Call (.Name "super" p0) [] [] p1) "__init__" p2) [.Constant (.str z1) j1 pc] [] p3) env = (do
      let ov ← attributeBase (.Call (.Name "super" p0) [] [] p1) "__init__" env (eval (.Call (.Name "super" p0) [] [] p1) env)
      standAt p2.atName
      let (f, first) ← holding [ov] (getMethod ov "__init__" (pure false))
      callWith p3 f first (backTo p3 (starEach [.Constant (.str z1) j1 pc] env)) []))
    (hs : ∀ env : Env, swapsWith (.Call (.Attribute (.Call (.Name "super" p0) [] [] p1) "__init__" p2) [.Constant (.str z1) j1 pc] [] p3) none p4.line env = pure false) : FnOk P w K mg base (L2.CX P w) (k + 1) f fd ps (spI K Dd ps.length fl) := by
  obtain ⟨oc, od, kV, doc, pm, an, cda, ct, osl, cc, rfl, lk, hcd, hcode, hcell⟩ := F.ex
  refine ⟨fun vs H Q E ⟨a, C, ws, e, l, _⟩ => l, fun A outer s H args us vs Q E hr e0 hb r hsp => ?_⟩
  obtain ⟨a, C, ws, ev, hl, T, hno, ea, q⟩ := hsp
  have kin : K.In s.heap := e0.mod.kin.keeps fun b o e => (e0.bs b o e).1
  have lim : s.heap.NoLimit := e0.mod.nolimit.keeps fun b o e => (e0.bs b o e).1
  refine ks_codeAny_call_defAt (fd := PySem.W.fnX "__init__" qual (defArgs st) (defBody st) (defScope st) [("__class__", cc)] .none kV doc pm an (.ref cda) ct) (body := defBody st) (binds := ps.zip us) hr.depth (kin _ _ lk) rfl lim (PySem.W.codeRec_of kin hcd) rfl hb S.nocell (fun ⟨n, _⟩ hy => S.par n (List.of_mem_zip hy).1) (fun h₁ hns kp => ?_) S.co S.gen S.kind
  obtain ⟨cl, cld, csl, hcc⟩ := id hcell
  have hul : us.length = ps.length := by rw [← r.length]; exact hl
  have Cl : NdefX.CellsAt [("__class__", cc)] ["__class__"] [none] s.heap H := by
    refine ⟨rfl, fun y c e => ?_, fun x y c e1 e2 => ?_, fun i y e => ?_⟩
    · have : y = "__class__" ∧ c = cc := by
        rw [List.lookup_cons] at e
        split at e
        · rename_i h
          exact ⟨by simpa using h, (Option.some.inj e).symm⟩
        · cases e
      obtain ⟨rfl, rfl⟩ := this
      exact ⟨(e0.bs _ _ (e0.mod.kin _ _ hcc)).2, some (.ref Dd), _, kin _ _ hcc, rfl⟩
    · have key : ∀ {z : Str}, List.lookup z [(("__class__" : Str), cc)] = some c → z = "__class__" := fun {z} e => by
        rw [List.lookup_cons] at e
        split at e
        · rename_i h
          simpa using h
        · cases e
      exact (key e1).trans (key e2).symm
    · cases i with
      | zero =>
        cases e
        exact ⟨cc, by simp [List.lookup], fun v e => by cases e⟩
      | succ i => cases e
  have I : Inv (NdefX.ncx (L2.CX P w) P w K mg base (ps ++ [("__class__" : Str)]) ⟨"__init__", qual, defArgs st, defBody st, defScope st, [("__class__", cc)], cda⟩ f A outer s H E) [] (NdefX.startF (ps ++ [("__class__" : Str)]) vs [none]) H { s with heap := h₁, toks := s.toks + (ps.zip us).length } :=
    NdefX.inv_startN S hr.hd e0 hl r Cl hns kp
  have hu0 : us[0]? = some (.ref a) := by
    subst ev
    cases r with
    | cons r0 _ => cases r0; rfl
  have hndP : ps.Nodup := by
    have q := S.nd
    exact (List.nodup_append.mp q).1
  have hσ0 : (NdefX.startF (ps ++ [("__class__" : Str)]) vs [none])[0]? = some (some (.ref a)) := by
    subst ev
    rfl
  obtain ⟨t, ht, run⟩ := (hst cc cda A outer s H E).new hfl
  have eσ : NdefX.startF (ps ++ [("__class__" : Str)]) vs [none] = vs.map some ++ [none] := by
    unfold NdefX.startF
    rw [List.length_append, hl]
    simp
  have hq : t { nx := fun _ H' => Q .non H', rt := Q } (NdefX.startF (ps ++ [("__class__" : Str)]) vs [none]) H := by
    refine run _ _ _ a C hσ0 (fun p hp => ?_) T.toOexC hno ea hfl9 fun dx hd ne => ?_
    · have hp2 : p.2 < vs.length := by rw [hl]; exact hflp p hp
      refine ⟨vs[p.2], ?_⟩
      rw [eσ, List.getElem?_append_left (by rw [List.length_map]; exact hp2), List.getElem?_map, List.getElem?_eq_getElem hp2]
      rfl
    · have := q dx hd ne
      rw [eσ, putAll_app _ _ _ _ fun p hp => by rw [List.length_map, hl]; exact hflp p hp]
      exact this
  show PySem.wpAt _ _ (.func (defBody st) (NdefX.envF ⟨"__init__", qual, defArgs st, defBody st, defScope st, [("__class__", cc)], cda⟩ f s.heap.objs.size)) _ _ _ _
  rw [show ∀ env : Env, execs (defBody st) env = execs (.Expr (.Call (.Attribute (.Call (.Name "super" p0) [] [] p1) "__init__" p2) [.Constant (.str z1) j1 pc] [] p3) p4 :: rest) env from fun env => by rw [hbd]]
  refine ks_wpAt_execs_cons ?_
  refine first_super (L := f) (rest := rest) (m := fun x => (ps.zip us).reverse.lookup x) (X := NdefX.ncx (L2.CX P w) P w K mg base (ps ++ [("__class__" : Str)]) ⟨"__init__", qual, defArgs st, defBody st, defScope st, [("__class__", cc)], cda⟩ f A outer s H E) rfl lk hp hcode hcell F.cls F.gsup F.top F.oq hks hkc hka S.kind T I ea hns ?_ (hev _) (by unfold interactive; first | rfl | simp [show (NdefX.ncx (L2.CX P w) P w K mg base (ps ++ [("__class__" : Str)]) ⟨"__init__", qual, defArgs st, defBody st, defScope st, [("__class__", cc)], cda⟩ f A outer s H E).env.scope.kind = .function from S.kind]) (hs _) fun s1 I1 => ?_
  · exact NdefX.zip_look hndP hp0 hu0
  · refine wpAt_of_wpAny (wpAny_mono (ht.run [] s1 _ H _ I1 hq) (fun fl s' hs => ?_) fun e s' hs => hs)
    have fin : ∀ {σ' : L2.St} {H' : Hp} {v : V} {u : Value}, Inv (NdefX.ncx (L2.CX P w) P w K mg base (ps ++ [("__class__" : Str)]) ⟨"__init__", qual, defArgs st, defBody st, defScope st, [("__class__", cc)], cda⟩ f A outer s H E) [] σ' H' s' → L2.RelV v u → Q v H' → CE outer P w H s Q u s' :=
      fun {σ' H' v u} J rv q => ⟨v, H', J.os, J.bare, J.base, J.hok, rv, q⟩
    cases fl with
    | ret u =>
      obtain ⟨v, σ', H', J, rv, q⟩ := hs
      exact fin J rv q
    | next =>
      obtain ⟨σ', H', J, q⟩ := hs
      exact fin (v := V.non) (u := Value.none) J rfl q
    | brk =>
      obtain ⟨_, _, _, q⟩ := hs
      exact False.elim q
    | cont =>
      obtain ⟨_, _, _, q⟩ := hs
      exact False.elim q
end
end
end Dl

set_option Elab.async false
set_option linter.all false
set_option maxRecDepth 100000
set_option maxHeartbeats 1000000
/-! The data level: raise, try. -/
namespace Dl
open PySem PySem.Spec PyProof.Rows L2
noncomputable section

/-! ### raise C(e, ..) -/
/-- raise of the class c, np parameters of its __init__ with self, each field from the parameter of that place -/
def sRaise (c np : Nat) (ix : List Nat) (ms : M (List D)) : M Fl := bd ms fun ds en so => if ds.length + 1 = np then .exc ⟨c, ix.map fun i => (D.non :: ds).getD i .non⟩ en so else .no
/-- the class x of the module: np parameters of its __init__, the fields fl -/
structure ExcD (P : Program) (w : World) (K : PySem.W.Frag) (mg : Str → Option Value) (base : Heap) (c : Nat) (x : Str) (np : Nat) (fl : List (Str × Nat)) : Prop where
  ex : ∃ (C fI Dd : Addr) (fd : FuncData) (ps : List Str), mg x = some (.ref C) ∧ ClsX K C Dd ∧ PySem.W.findIn K (.ref C) "__init__" = some (some (.ref fI)) ∧ PySem.W.typeIn K (.ref fI) = some (.type "function") ∧
    FnOk P w K mg base (L2.CX P w) 1 fI fd ps (spI K Dd np fl) ∧ Binds K fd ps [] ∧ ∀ p ∈ fl, PySem.W.findIn K (.ref C) p.1 = some none
  ok : ∀ p ∈ fl, 0 < p.2 ∧ p.2 < np
  few : np ≤ 1000
  nm : cnm c = x
  lay : clay c = fl.map (·.1)
theorem lk_putAll (σ : List (Option V)) : ∀ (fl : List (Str × Nat)) (acc : List (Str × V)) (f : Str), (fl.map (·.1)).Nodup → (putAll σ fl acc).lookup f = (match fl.lookup f with | some j => some (valAt σ j) | none => acc.lookup f)
  | [], acc, f, _ => rfl
  | (g, i) :: fl, acc, f, nd => by
    rw [List.map_cons, List.nodup_cons] at nd
    have ih := lk_putAll σ fl ((g, valAt σ i) :: acc) f nd.2
    have e : putAll σ ((g, i) :: fl) acc = putAll σ fl ((g, valAt σ i) :: acc) := rfl
    rw [e, ih]
    by_cases h : f = g
    · subst h
      have hn : fl.lookup f = none := by
        rw [List.lookup_eq_none_iff]
        intro p hp
        simp only [beq_eq_false_iff_ne, bne_iff_ne, ne_eq, beq_iff_eq]
        intro z
        exact nd.1 (List.mem_map.mpr ⟨p, hp, by simp [z]⟩)
      rw [hn]
      simp [List.lookup_cons]
    · have hb : (f == g) = false := by simp [h]
      rw [List.lookup_cons, List.lookup_cons, hb]
theorem lk_at : ∀ (fl : List (Str × Nat)) (i : Nat) (f : Str) (j : Nat), (fl.map (·.1)).Nodup → fl[i]? = some (f, j) → fl.lookup f = some j
  | [], i, f, j, _, e => by cases e
  | (g, k) :: fl, 0, f, j, nd, e => by cases e; simp [List.lookup_cons]
  | (g, k) :: fl, i + 1, f, j, nd, e => by
    rw [List.map_cons, List.nodup_cons] at nd
    have e' : fl[i]? = some (f, j) := by simpa using e
    have hb : (f == g) = false := by
      simp only [beq_eq_false_iff_ne, ne_eq]
      intro z
      exact nd.1 (List.mem_map.mpr ⟨(f, j), List.mem_of_getElem? e', z⟩)
    rw [List.lookup_cons, hb]
    exact lk_at fl i f j nd.2 e'
theorem put_rep {K : PySem.W.Frag} {G : Gh} {a : Addr} {c : Nat} {vs : List V} {ds : List D} (r : Reps K G.F G.rho vs ds) (fl : List (Str × Nat)) (hl : clay c = fl.map (·.1)) (hp : ∀ p ∈ fl, 0 < p.2 ∧ p.2 < ds.length + 1) :
    XFs K G c (putAll ((V.ref a :: vs).map some) fl []) ((fl.map (·.2)).map fun i => (D.non :: ds).getD i .non) := fun i f e => by
  have nd : (fl.map (·.1)).Nodup := hl ▸ (clay_nd c).1
  rw [hl, List.getElem?_map] at e
  cases q : fl[i]? with
  | none => rw [q] at e; cases e
  | some pj =>
    rw [q] at e
    obtain ⟨f', j⟩ := pj
    have : f' = f := Option.some.inj e
    subst this
    obtain ⟨h0, h1⟩ := hp _ (List.mem_of_getElem? q)
    have h0 : 0 < j := h0
    have h1 : j < ds.length + 1 := h1
    cases j with
    | zero => exact absurd h0 (Nat.lt_irrefl _)
    | succ j =>
      have hi : j < ds.length := by omega
      have ed : ds[j]? = some ds[j] := List.getElem?_eq_getElem hi
      obtain ⟨v, ev, rv⟩ := reps_at r ed
      refine ⟨v, ds[j], ?_, ?_, rv⟩
      · rw [lk_putAll _ fl [] f' nd, lk_at fl i f' (j + 1) nd q]
        show some (valAt ((V.ref a :: vs).map some) (j + 1)) = some v
        unfold valAt
        rw [List.map_cons, List.getElem?_cons_succ, List.getElem?_map, ev]
        rfl
      · rw [List.getElem?_map, List.getElem?_map, q]
        show some ((D.non :: ds).getD (j + 1) .non) = _
        rw [List.getD_eq_getElem?_getD, List.getElem?_cons_succ, ed]
        rfl
section
variable {X : Cx} {W : WX} {e : Expr} {es : List Expr} {ms : M (List D)} {x : Str} {c np : Nat} {fl : List (Str × Nat)} {ix : List Nat} {p pos pos2 : Pos} {k : Nat}
theorem s_raise (E : ExcD X.prog X.w X.K X.mg X.base c x np fl) (hix : fl.map (·.2) = ix) (hc : X.calm = true) (tk : Takes X W) (hr : Room (k + 2) X.A) (hg : Gl X x) (ha : DA X W (e :: es) ms)
    (hdb : (x == ("__debug__" : Str)) = false := by decide) (he : starEach (e :: es) X.env = (false, eval e X.env) :: starEach es X.env := by rfl) (hpl : (backTo pos (starEach es X.env)).any (·.1) = false := by rfl) : DS X W (.Raise (some (.Call (.Name x p) (e :: es) [] pos)) none pos2) (sRaise c np ix ms) := by
  subst hix
  obtain ⟨C, fI, Dd, fd, ps, hm, T, iC, tI, F, hb, hno⟩ := E.ex
  refine ⟨PS_imp (ps_raise hc tk (pmk_oex (k := k + 1) (ds := []) (dvs := []) T.toOexC iC tI (F.mono (by omega)) hr hb .nil (fun _ _ _ _ _ _ _ ⟨_, _, _, _, _, _, _, _, _, _, _, _, z⟩ => z.elim) hg hm ha.pa hdb he hpl)) fun D σ H ⟨G, en, so, s, p⟩ => ?_⟩
  refine ⟨G, en, so, s, (SPost.bind (R1 := rlDs X.K) p).imp fun vs H1 ⟨G1, en1, so1, ds, l, r1, s1, p1⟩ => ?_⟩
  by_cases hl : ds.length + 1 = np
  case neg => rw [if_neg hl] at p1; exact False.elim p1
  rw [if_pos hl] at p1
  refine ⟨?_, fun a ha0 => ⟨a, C, vs ++ [], rfl, ?_, T, hno, upd_same, fun dx hdx ne => ⟨rfl, dx, _, upd_same, by rw [upd_ne ne, upd_same], by rw [upd_ne ne] at hdx; exact hdx, ?_⟩⟩⟩
  · rw [r1.len]; have := E.few; omega
  · rw [List.append_nil, List.length_cons, r1.len]; exact hl
  · have hn : H1 dx = none := by rw [upd_ne ne] at hdx; exact hdx
    have eh : upd (del (upd (upd (upd H1 a (exo a C none)) dx (exd dx (putAll ((V.ref a :: (vs ++ [])).map some) fl []))) a (exo a C (some dx))) a) dx (.xd (putAll ((V.ref a :: (vs ++ [])).map some) fl [])) = upd H1 dx (.xd (putAll ((V.ref a :: (vs ++ [])).map some) fl [])) := by
      funext b
      by_cases hb : b = dx
      · rw [hb, upd_same, upd_same]
      · rw [upd_ne hb, upd_ne hb]
        by_cases hb2 : b = a
        · rw [hb2, del_same, ha0]
        · rw [del_ne hb2, upd_ne hb2, upd_ne hb, upd_ne hb2]
    rw [eh, List.append_nil]
    have s2 := s1.newT (o := .xd (putAll ((V.ref a :: vs).map some) fl [])) (t := .un) hn
    refine p1 (.ref C) (some dx) σ _ _ (tag_le dx .un) s2 ⟨C, rfl, by rw [E.nm]; exact hm, .inr ⟨dx, _, rfl, upd_same, tag_own, ?_⟩⟩
    exact put_rep (G := G1.tag dx .un) r1 fl E.lay (fun p q => by rw [hl]; exact E.ok p q)
end
end
end Dl

set_option Elab.async false
set_option linter.all false
set_option maxRecDepth 100000
set_option maxHeartbeats 4000000
/-! The data level: try .. except .. as e: several clauses, each with or without a name; e.f and isinstance(e, C) in a suite. -/
namespace L2
open PySem PySem.Spec PyProof.Rows
/-- a clause: its class, its name's place, its suite -/
structure Clz where
  c : Value
  i : Option Nat
  ts : Addr → Value → Option Addr → TS
/-- the name goes behind the suite -/
def Ends.off (D : Ends) (i : Nat) : Ends := { nx := fun σ' H' => D.nx (σ'.set i none) H', rt := D.rt, bk := fun σ' H' => D.bk (σ'.set i none) H', ct := fun σ' H' => D.ct (σ'.set i none) H' }
def Clz.run (q : Clz) (a : Addr) (cls : Value) (d : Option Addr) (D : Ends) (σ : St) (H : Hp) : Prop := match q.i with
  | some i => q.ts a cls d (D.off i) (σ.set i (some (.ref a))) H
  | none => q.ts a cls d D σ H
/-- the way that an exception of the body goes: through the clauses, to the first that is its own -/
def wGen (K : PySem.W.Frag) (Wout : WX) (D : Ends) : List Clz → WX
  | [] => Wout
  | q :: r => fun cls d σ H => ∃ b, PySem.W.exmOne K cls q.c = some b ∧ (b = true → ∀ a, H a = none → q.run a cls d D σ H) ∧ (b = false → wGen K Wout D r cls d σ H)
inductive ClzOk (X : Cx) : List ExceptHandler → List Clz → Prop
  | nil : ClzOk X [] []
  | only {x : Str} {c : Value} {ts : Addr → Value → Option Addr → TS} {b₀ : Stmt} {suite : List Stmt} {np pos' : Pos} {hds : List ExceptHandler} {l : List Clz} (hc : Names X x c)
      (hsu : ∀ (a : Addr) (oe : Obj) (cls : Value) (d : Option Addr) (pn : List (Addr × Obj)), Zc cls d oe → (∃ vs, oe.data = .fields vs) → PSs (X.suite a ((a, oe) :: pn)) (b₀ :: suite) (ts a cls d)) (r : ClzOk X hds l) :
      ClzOk X (.ExceptHandler (some (.Name x np)) none (b₀ :: suite) pos' :: hds) (⟨c, none, ts⟩ :: l)
  | as {x n : Str} {i : Nat} {c : Value} {ts : Addr → Value → Option Addr → TS} {b₀ : Stmt} {suite : List Stmt} {np pos' : Pos} {hds : List ExceptHandler} {l : List Clz} (hN : X.N.Nodup) (hi : X.N[i]? = some n) (hln : X.env.kindOf n = some .local) (hc : Names X x c)
      (hsu : ∀ (a : Addr) (oe : Obj) (cls : Value) (d : Option Addr) (pn : List (Addr × Obj)), Zc cls d oe → (∃ vs, oe.data = .fields vs) → PSs (X.suite a ((a, oe) :: pn)) (b₀ :: suite) (ts a cls d)) (r : ClzOk X hds l) :
      ClzOk X (.ExceptHandler (some (.Name x np)) (some n) (b₀ :: suite) pos' :: hds) (⟨c, some i, ts⟩ :: l)
section
variable {X : Cx} {body : List Stmt} {h₀ : ExceptHandler} {l : List Clz} {pos : Pos} {tb : WX → TS} {Wout : WX}
/-- one clause: the library's two rules under one head -/
theorem ps_try_1 (hs : X.stack = X.env :: X.outer) (hf : X.env.frame = some X.env.locals) (tk : Takes X Wout)
    (hb : ∀ (W : WX) (pn : List (Addr × Obj)) (xe : Value → Shared → Prop), Takes (X.tr pn xe) W → PassesOwn (model X.prog X.w) X.A X.env xe → PSs (X.tr pn xe) body (tb W)) :
    ClzOk X [h₀] l → PS X (.Try body [h₀] [] [] pos) (fun D σ H => tb (wGen X.K Wout D l) D σ H)
  | .only hc hsu .nil => Dl.PS_imp (ps_try_only hs hf hc tk hb hsu) fun _ _ _ z => z
  | .as hN hi hln hc hsu .nil => Dl.PS_imp (ps_try_as hs hf hN hi hln hc tk hb hsu) fun _ _ _ z => z
end
end L2
namespace Dl
open PySem PySem.Spec PyProof.Rows L2
noncomputable section

/-! ### try -/
/-- no name holds an exception -/
def noExn : En → Bool
  | [] => true
  | some (.exn _) :: _ => false
  | _ :: r => noExn r
def offE (i : Option Nat) (en : En) : En := match i with
  | some i => en.set i none
  | none => en
def onE (i : Option Nat) (x : Xc) (en : En) : En := match i with
  | some i => en.set i (some (.exn x))
  | none => en
/-- what ends a suite: the name goes -/
def offX (i : Option Nat) : Re Fl → Re Fl
  | .ok fl en so => if noExn (offE i en) then .ok fl (offE i en) so else .no
  | _ => .no
/-- a clause: its name's place, for the classes that may come whether they are its, its suite -/
structure ClD where
  i : Option Nat
  tbl : List (Nat × Bool)
  su : M Fl
def hdGo : List ClD → Xc → M Fl
  | [], x => fun en so => .exc x en so
  | q :: r, x => fun en so => match q.tbl.lookup x.cls with
    | some true => offX q.i (q.su (onE q.i x en) so)
    | some false => hdGo r x en so
    | none => .no
def sTry (body : M Fl) (cls : List ClD) : M Fl := fun en so => match body en so with
  | .exc x en1 so1 => hdGo cls x en1 so1
  | r => r
/-- the clause's class, for the classes that may come -/
def MatchD (K : PySem.W.Frag) (mg : Str → Option Value) (c : Value) (tbl : List (Nat × Bool)) : Prop := ∀ y b, tbl.lookup y = some b → ∃ C, mg (cnm y) = some (.ref C) ∧ PySem.W.exmOne K (.ref C) c = some b
inductive ClzD (X : Cx) : List ExceptHandler → List ClD → Prop
  | nil : ClzD X [] []
  | only {x : Str} {c : Value} {tbl : List (Nat × Bool)} {m : M Fl} {b₀ : Stmt} {suite : List Stmt} {np pos' : Pos} {hds : List ExceptHandler} {l : List ClD} (hc : Names X x c) (hm : MatchD X.K X.mg c tbl)
      (hsu : ∀ (a : Addr) (oe : Obj) (pn : List (Addr × Obj)), (∃ vs, oe.data = .fields vs) → DSs (X.suite a ((a, oe) :: pn)) W0 (b₀ :: suite) m) (r : ClzD X hds l) :
      ClzD X (.ExceptHandler (some (.Name x np)) none (b₀ :: suite) pos' :: hds) (⟨none, tbl, m⟩ :: l)
  | as {x n : Str} {i : Nat} {c : Value} {tbl : List (Nat × Bool)} {m : M Fl} {b₀ : Stmt} {suite : List Stmt} {np pos' : Pos} {hds : List ExceptHandler} {l : List ClD} (hN : X.N.Nodup) (hi : X.N[i]? = some n) (hln : X.env.kindOf n = some .local) (hc : Names X x c) (hm : MatchD X.K X.mg c tbl)
      (hsu : ∀ (a : Addr) (oe : Obj) (pn : List (Addr × Obj)), (∃ vs, oe.data = .fields vs) → DSs (X.suite a ((a, oe) :: pn)) W0 (b₀ :: suite) m) (r : ClzD X hds l) :
      ClzD X (.ExceptHandler (some (.Name x np)) (some n) (b₀ :: suite) pos' :: hds) (⟨some i, tbl, m⟩ :: l)
section
variable {K : PySem.W.Frag} {mg : Str → Option Value} {h h' : Option (Addr × Value × Option Addr)} {G : Gh} {en : En} {so : So} {σ : L2.St} {H : Hp}
theorem SimO.ev (s : SimO K ⟨mg, h⟩ G so H) : SimO K ⟨mg, h'⟩ G so H := ⟨s.fr, s.re, s.len, fun k o a dx e1 e2 => by
  have := s.ob k o a dx e1 e2
  cases o <;> exact this, s.lk⟩
theorem noExn_at : ∀ {en : En} {i : Nat} {x : Xc}, noExn en = true → en[i]? = some (some (.exn x)) → False
  | [], i, x, _, e => by cases e
  | some (.exn _) :: _, i, x, h, _ => by cases h
  | some (.dat _) :: r, 0, x, _, e => by cases e
  | some (.cel _) :: r, 0, x, _, e => by cases e
  | none :: r, 0, x, _, e => by cases e
  | some (.dat _) :: r, i + 1, x, h, e => noExn_at (en := r) (i := i) h (by simpa using e)
  | some (.cel _) :: r, i + 1, x, h, e => noExn_at (en := r) (i := i) h (by simpa using e)
  | none :: r, i + 1, x, h, e => noExn_at (en := r) (i := i) h (by simpa using e)
/-- where no name holds an exception, what is handled does not matter -/
theorem Sim.ev (s : Sim K ⟨mg, h⟩ G en so σ H) (hn : noExn en = true) : Sim K ⟨mg, h'⟩ G en so σ H := ⟨s.toSimO.ev, s.ln, fun i b e => by
  obtain ⟨v, e1, r⟩ := s.sl i b e
  refine ⟨v, e1, ?_⟩
  cases b with
  | dat d => exact r
  | cel c => exact r
  | exn x => exact (noExn_at hn e).elim⟩
theorem Sim.noExn (s : Sim K ⟨mg, none⟩ G en so σ H) : noExn en = true := by
  have key : ∀ (l : En), (∀ (i : Nat) (x : Xc), l[i]? ≠ some (some (B.exn x))) → Dl.noExn l = true := by
    intro l
    induction l with
    | nil => intro _; rfl
    | cons o r ih =>
      intro hh
      have hr := ih fun i x e => hh (i + 1) x (by simpa using e)
      rcases o with _ | _ | _ | x
      · exact hr
      · exact hr
      · exact hr
      · exact (hh 0 x rfl).elim
  refine key en fun i x e => ?_
  obtain ⟨v, _, a, Ca, d, _, hx, _⟩ := s.sl i _ e
  cases hx
theorem Sim.offN (s : Sim K ⟨mg, h⟩ G en so σ H) (i : Option Nat) : Sim K ⟨mg, h⟩ G (offE i en) so (match i with | some i => σ.set i none | none => σ) H := by
  cases i with
  | none => exact s
  | some i => exact s.setN i
/-- the exception goes to its name -/
theorem Sim.exnIn {x : Xc} {Cl : Value} {d : Option Addr} {a : Addr} {i : Nat} (s : Sim K ⟨mg, none⟩ G en so σ H) (xr : XR K ⟨mg, none⟩ G H x Cl d) : ∃ G', G.le G' ∧ Sim K ⟨mg, some (a, Cl, d)⟩ G' (en.set i (some (.exn x))) so (σ.set i (some (.ref a))) H := by
  have s' : Sim K ⟨mg, some (a, Cl, d)⟩ G en so σ H := s.ev s.noExn
  obtain ⟨Ca, rfl, hm, hd⟩ := xr
  rcases hd with ⟨rfl, hc⟩ | ⟨da, vs, rfl, hda, ho, xf⟩
  · refine ⟨G, .refl G, ⟨s'.toSimO, by rw [List.length_set, List.length_set]; exact s'.ln, fun j b e => ?_⟩⟩
    by_cases hj : i = j
    · subst hj
      by_cases hl : i < en.length
      · rw [List.getElem?_set_self hl] at e
        cases e
        exact ⟨.ref a, by rw [List.getElem?_set_self (by rw [← s'.ln]; exact hl)], a, Ca, none, rfl, rfl, hm, .inl ⟨rfl, hc⟩⟩
      · rw [List.getElem?_eq_none (by rw [List.length_set]; omega)] at e
        cases e
    · rw [List.getElem?_set_ne hj] at e
      obtain ⟨v', e', r'⟩ := s'.sl j b e
      exact ⟨v', by rw [List.getElem?_set_ne hj]; exact e', r'⟩
  · have eF : Same G.F (G.tag da (.slot i)).F := Same.refl G.F
    have er : Pre G.rho (G.tag da (.slot i)).rho := fun _ _ h => h
    have kp : ∀ b t, G.own b = t → t ≠ .un → (G.tag da (.slot i)).own b = t := fun b t e q => by
      have : b ≠ da := fun z => q (by rw [← e, z]; exact ho)
      exact (if_neg this).trans e
    refine ⟨G.tag da (.slot i), tag_le _ _, ⟨⟨fun b u e => ?_, fun b u e => ?_, s'.len, fun k ob b dx e1 e2 => ?_, fun b u e => ?_⟩, by rw [List.length_set, List.length_set]; exact s'.ln, fun j b e => ?_⟩⟩
    · obtain ⟨h1, h2⟩ := s'.fr b u e
      exact ⟨h1, kp b _ h2 (by intro z; cases z)⟩
    · obtain ⟨h1, h2⟩ := s'.re b u e
      exact ⟨h1, kp b _ h2 (by intro z; cases z)⟩
    · exact (s'.ob k ob b dx e1 e2).keep eF er fun b u h1 h2 => ⟨h1, kp b _ rfl (by rcases h2 with h2 | h2 <;> (rw [h2]; intro z; cases z))⟩
    · obtain ⟨h1, h2⟩ := s'.lk b u e
      exact ⟨h1, kp b _ h2 (by intro z; cases z)⟩
    · by_cases hj : i = j
      · subst hj
        by_cases hl : i < en.length
        · rw [List.getElem?_set_self hl] at e
          cases e
          exact ⟨.ref a, by rw [List.getElem?_set_self (by rw [← s'.ln]; exact hl)], a, Ca, some da, rfl, rfl, hm, .inr ⟨da, vs, rfl, tag_own, hda, xf.mono eF er⟩⟩
        · rw [List.getElem?_eq_none (by rw [List.length_set]; omega)] at e
          cases e
      · rw [List.getElem?_set_ne hj] at e
        obtain ⟨v', e', r'⟩ := s'.sl j b e
        exact ⟨v', by rw [List.getElem?_set_ne hj]; exact e', r'.keep eF er fun b u h1 h2 => ⟨h1, kp b _ h2 (by intro z; cases z)⟩⟩
/-- the suite's end read by what is wanted behind it -/
theorem offX_post {W : WX} {E : Ends} {G2 : Gh} {r : Re Fl} {i : Option Nat} (l : G.le G2) (p : SPost K ⟨mg, none⟩ G W (offX i r) E) :
    SPost K ⟨mg, h⟩ G2 W0 r (match i with | some i => E.off i | none => E) := by
  cases r with
  | no => exact p.elim
  | exc x en so => exact p.elim
  | ok fl en so =>
    have p : SPost K ⟨mg, none⟩ G W (if noExn (offE i en) then .ok fl (offE i en) so else .no) E := p
    by_cases hn : noExn (offE i en) = true
    case neg => rw [if_neg hn] at p; exact p.elim
    rw [if_pos hn] at p
    cases fl with
    | nx =>
      intro σ' H' G' l' s'
      have q := p _ H' G' (l.trans l') ((s'.offN i).ev hn)
      cases i <;> exact q
    | bk =>
      intro σ' H' G' l' s'
      have q := p _ H' G' (l.trans l') ((s'.offN i).ev hn)
      cases i <;> exact q
    | ct =>
      intro σ' H' G' l' s'
      have q := p _ H' G' (l.trans l') ((s'.offN i).ev hn)
      cases i <;> exact q
    | rt b =>
      intro v σ' H' G' l' s' rb
      have q := p v _ H' G' (l.trans l') ((s'.offN i).ev hn) rb
      cases i <;> exact q
end
section
variable {X : Cx} {W : WX} {body : List Stmt} {h₀ : ExceptHandler} {hds : List ExceptHandler} {cs : List ClD} {pos : Pos} {mb : M Fl}
theorem clz_ok (h : ClzD X hds cs) : ∃ l, ClzOk X hds l ∧ ∀ (E : Ends) (x : Xc) (en : En) (so : So) (G : Gh), SPost X.K ⟨X.mg, none⟩ G W (hdGo cs x en so) E →
    ∀ Cl d σ' H' G', G.le G' → Sim X.K ⟨X.mg, none⟩ G' en so σ' H' → XR X.K ⟨X.mg, none⟩ G' H' x Cl d → wGen X.K W E l Cl d σ' H' := by
  induction h with
  | nil => exact ⟨[], .nil, fun E x en so G p Cl d σ' H' G' l s xr => p Cl d σ' H' G' l s xr⟩
  | @only x c tbl m b₀ suite np pos' hds l hc hm hsu r ih =>
    obtain ⟨l2, ok, ih⟩ := ih
    refine ⟨⟨c, none, fun a cls d => tS X.K ⟨X.mg, some (a, cls, d)⟩ W0 m⟩ :: l2, .only hc (fun a oe cls d pn hz hf => ?_) ok, fun E x en so G p Cl d σ' H' G' l s xr => ?_⟩
    · obtain ⟨rfl, rfl⟩ := hz
      exact (hsu a oe pn hf).ps
    · have p : SPost X.K ⟨X.mg, none⟩ G W (match tbl.lookup x.cls with | some true => offX none (m en so) | some false => hdGo _ x en so | none => .no) E := p
      cases e : tbl.lookup x.cls with
      | none => rw [e] at p; exact p.elim
      | some b =>
        obtain ⟨C, e1, e2⟩ := hm _ _ e
        obtain ⟨Ca, rfl, e3, hd⟩ := id xr
        have : C = Ca := by cases e1.symm.trans e3; rfl
        subst this
        rw [e] at p
        refine ⟨b, e2, fun hb a _ => ?_, fun hb => ?_⟩
        · subst hb
          exact ⟨G', en, so, s.ev s.noExn, offX_post (i := none) l p⟩
        · subst hb
          exact ih E x en so G p _ d σ' H' G' l s xr
  | @as x n i c tbl m b₀ suite np pos' hds l hN hi hln hc hm hsu r ih =>
    obtain ⟨l2, ok, ih⟩ := ih
    refine ⟨⟨c, some i, fun a cls d => tS X.K ⟨X.mg, some (a, cls, d)⟩ W0 m⟩ :: l2, .as hN hi hln hc (fun a oe cls d pn hz hf => ?_) ok, fun E x en so G p Cl d σ' H' G' l s xr => ?_⟩
    · obtain ⟨rfl, rfl⟩ := hz
      exact (hsu a oe pn hf).ps
    · have p : SPost X.K ⟨X.mg, none⟩ G W (match tbl.lookup x.cls with | some true => offX (some i) (m (en.set i (some (.exn x))) so) | some false => hdGo _ x en so | none => .no) E := p
      cases e : tbl.lookup x.cls with
      | none => rw [e] at p; exact p.elim
      | some b =>
        obtain ⟨C, e1, e2⟩ := hm _ _ e
        obtain ⟨Ca, rfl, e3, hd⟩ := id xr
        have : C = Ca := by cases e1.symm.trans e3; rfl
        subst this
        rw [e] at p
        refine ⟨b, e2, fun hb a _ => ?_, fun hb => ?_⟩
        · subst hb
          obtain ⟨G2, l2, s2⟩ := s.exnIn (a := a) (i := i) xr
          exact ⟨G2, _, so, s2, offX_post (i := some i) (l.trans l2) p⟩
        · subst hb
          exact ih E x en so G p _ d σ' H' G' l s xr
/-- a try statement whose rule in the library is known -/
theorem try_of {l : List Clz} (hc : X.calm = true) (ps : PS X (.Try body (h₀ :: hds) [] [] pos) (fun D σ H => tS X.K ⟨X.mg, none⟩ (wGen X.K W D l) mb D σ H))
    (key : ∀ (E : Ends) (x : Xc) (en : En) (so : So) (G : Gh), SPost X.K ⟨X.mg, none⟩ G W (hdGo cs x en so) E →
    ∀ Cl d σ' H' G', G.le G' → Sim X.K ⟨X.mg, none⟩ G' en so σ' H' → XR X.K ⟨X.mg, none⟩ G' H' x Cl d → wGen X.K W E l Cl d σ' H') : DS X W (.Try body (h₀ :: hds) [] [] pos) (sTry mb cs) := by
  refine ⟨?_⟩
  rw [ev_calm hc]
  refine PS_imp ps fun E σ H ⟨G, en, so, s, p⟩ => ⟨G, en, so, s, ?_⟩
  unfold sTry at p
  cases e : mb en so with
  | no => rw [e] at p; exact p
  | ok fl en1 so1 => rw [e] at p; cases fl <;> exact p
  | exc x en1 so1 =>
    rw [e] at p
    exact fun Cl d σ' H' G' l' s' xr => key E x en1 so1 G p Cl d σ' H' G' l' s' xr
theorem body_of (hc : X.calm = true) (hb : ∀ (W : WX) (pn : List (Addr × Obj)) (xe : Value → Shared → Prop), Takes (X.tr pn xe) W → PassesOwn (model X.prog X.w) X.A X.env xe → DSs (X.tr pn xe) W body mb) :
    ∀ (W : WX) (pn : List (Addr × Obj)) (xe : Value → Shared → Prop), Takes (X.tr pn xe) W → PassesOwn (model X.prog X.w) X.A X.env xe → PSs (X.tr pn xe) body (tS X.K ⟨X.mg, none⟩ W mb) := fun W' pn xe tk' ps' => by
  have := (hb W' pn xe tk' ps').ps
  rw [ev_calm (X := X.tr pn xe) hc] at this
  exact this
theorem s_try (hs : X.stack = X.env :: X.outer) (hf : X.env.frame = some X.env.locals) (hc : X.calm = true) (tk : Takes X W)
    (hb : ∀ (W : WX) (pn : List (Addr × Obj)) (xe : Value → Shared → Prop), Takes (X.tr pn xe) W → PassesOwn (model X.prog X.w) X.A X.env xe → DSs (X.tr pn xe) W body mb)
    (hh : ClzD X [h₀] cs) : DS X W (.Try body [h₀] [] [] pos) (sTry mb cs) := by
  obtain ⟨l, ok, key⟩ := clz_ok (W := W) hh
  exact try_of hc (ps_try_1 (pos := pos) (tb := fun W' => tS X.K ⟨X.mg, none⟩ W' mb) hs hf tk (body_of hc hb) ok) key
end

/-! ### e.f, isinstance(e, C) -/
/-- e.f of the exception that the i-th name holds: by its class the field's place -/
def mXf (i : Nat) (cs : List (Nat × Nat)) : M D := fun en so => match en[i]? with
  | some (some (.exn x)) => (match cs.lookup x.cls with
    | some j => (match x.fs[j]? with
      | some d => .ok d en so
      | none => .no)
    | none => .no)
  | _ => .no
/-- isinstance(e, C) .. : by its class the answer -/
def mIsX (i : Nat) (tbl : List (Nat × Bool)) : M D := fun en so => match en[i]? with
  | some (some (.exn x)) => (match tbl.lookup x.cls with
    | some b => .ok (.bl b) en so
    | none => .no)
  | _ => .no
def rIsD (K : PySem.W.Frag) (D a : Addr) (d : Option Addr) : List V → Hp → VK → Prop := fun xs H Q => ∃ (c : V) (cv : Value) (b : Bool), xs = [.ref a, c] ∧ (∀ u, RelV c u → u = cv) ∧ PySem.W.kitOne K (.ref D) cv = some b ∧ (d = none ∨ ∃ dd fs, d = some dd ∧ H dd = some (.xd fs)) ∧ Q (.bl b) H
theorem call_isD {X : Cx} {a D : Addr} {oe : Obj} {d : Option Addr} {pn : List (Addr × Obj)} (C : ExcC X.K D) (hz : Zc (.ref D) d oe) (hf : ∃ vs, oe.data = .fields vs) : CallR (X.suite a ((a, oe) :: pn)) (.builtin "isinstance") (rIsD X.K D a d) := by
  intro pins s σ H xs us Q I r h
  obtain ⟨c, cv, b, rfl, hcv, e, hd, q⟩ := h
  cases r with
  | cons rx rr =>
    cases rr with
    | cons rt rr =>
      cases rr
      cases rx
      have ec := hcv _ rt
      subst ec
      obtain ⟨hget, _⟩ := I.pin (a, oe) (List.mem_append.mpr (.inl List.mem_cons_self))
      obtain ⟨vs, hv⟩ := hf
      have hcl : (PySem.W.clsIn X.K D).isSome = true := by
        obtain ⟨cd, hc, _⟩ := PySem.W.any_some C.hd
        rw [hc]; rfl
      have J : ∃ od, PySem.W.InstAt s.heap a oe D od := by
        rcases hd with rfl | ⟨dd, fs, rfl, hx⟩
        · refine ⟨none, ?_⟩
          obtain ⟨oc, od, oda, osl⟩ := oe
          obtain ⟨h1, h2⟩ := hz
          dsimp only at h1 h2 hv
          subst h1 h2 hv
          exact ⟨hget, rfl, rfl, trivial⟩
        · have hx' : ObjOk X.prog X.w H s.heap dd (.xd fs) := I.hok dd _ hx
          obtain ⟨mA, hns, hr⟩ := hx'
          obtain ⟨od, ho, hl⟩ := lookIn_ns hns
          exact ⟨some od, hget, hz.1, by unfold PySem.W.notCls; rw [hv] <;> rfl, by rw [hz.2]; exact ho⟩
      obtain ⟨od, J⟩ := J
      exact PySem.W.kia_one (PySem.W.kitx_exc hcl C.hg C.hk C.hs C.ha C.hn C.ht C.hm) I.kIn J e (fun z => nomatch z) fun tk => ⟨.bl b, H, I.kept (t' := tk) fun _ _ z => z, rfl, q⟩
section
variable {X : Cx} {W : WX} {a : Addr} {oe : Obj} {pn : List (Addr × Obj)}
theorem Sim.exnAt {K : PySem.W.Frag} {mg : Str → Option Value} {Cl : Value} {d : Option Addr} {G : Gh} {en : En} {so : So} {σ : L2.St} {H : Hp} {i : Nat} {x : Xc} (s : Sim K ⟨mg, some (a, Cl, d)⟩ G en so σ H) (e : en[i]? = some (some (.exn x))) :
    ∃ Ca, σ[i]? = some (some (.ref a)) ∧ Cl = .ref Ca ∧ mg (cnm x.cls) = some (.ref Ca) ∧ ((d = none ∧ clay x.cls = []) ∨ ∃ dd vs, d = some dd ∧ H dd = some (.xd vs) ∧ XFs K G x.cls vs x.fs) := by
  obtain ⟨v, e1, a', Ca, d', rfl, hx, hm, h⟩ := s.sl i _ e
  cases hx
  exact ⟨Ca, e1, rfl, hm, h.elim .inl fun ⟨dd, vs, h1, _, h2, h3⟩ => .inr ⟨dd, vs, h1, h2, h3⟩⟩
/-- e.f in a suite -/
theorem d_xf (i : Nat) {cs : List (Nat × Nat)} {x f : Str} {pos p : Pos} (hf : ∃ vs, oe.data = .fields vs)
    (hT : ∀ c j, cs.lookup c = some j → (clay c)[j]? = some f ∧ ∃ C, X.mg (cnm c) = some (.ref C) ∧ XfC X.K C ∧ PySem.W.findIn X.K (.ref C) f = some none)
    (hN : X.N[i]? = some x := by rfl) (hv : Vis X.env.scope x := by first | exact Or.inl rfl | exact Or.inr (Or.inl rfl) | exact Or.inr (Or.inr rfl)) (hd : (x == ("__debug__" : Str)) = false := by decide)
    (hcd : (x == ("__classdict__" : Str)) = false := by decide) (hb : attributeBase (.Name x p) f X.env (eval (.Name x p) X.env) = eval (.Name x p) X.env := by rfl) : DE (X.suite a ((a, oe) :: pn)) W (.Attribute (.Name x p) f pos) (mXf i cs) := by
  refine ⟨⟨fun pins s σ H Q I q => ?_⟩⟩
  obtain ⟨G, en, so, sm, p⟩ := q
  have sm : Sim X.K ⟨X.mg, some (a, oe.cls, oe.dict)⟩ G en so σ H := sm
  unfold mXf at p
  split at p
  case h_2 => exact p.elim
  rename_i xc ex
  split at p
  case h_2 => exact p.elim
  rename_i j ej
  split at p
  case h_2 => exact p.elim
  rename_i d ed
  obtain ⟨hl, C, hm, hX, hno⟩ := hT _ _ ej
  obtain ⟨Ca, e1, hcl, hm2, hd2⟩ := sm.exnAt ex
  cases hm.symm.trans hm2
  refine (pe_xf (X := X) (pn := pn) (d := oe.dict) (cls := oe.cls) hX hno ⟨rfl, rfl⟩ hf (pe_var (X := X.suite a ((a, oe) :: pn)) (i := i) hN hv hd hcd) hb).run pins s σ H Q I ?_
  rcases hd2 with ⟨_, hc⟩ | ⟨dd, vs, h1, h2, h3⟩
  · rw [hc] at hl; cases hl
  · obtain ⟨v, d', g1, g2, g3⟩ := h3 j f hl
    rw [ed] at g2
    cases g2
    exact ⟨_, e1, rfl, hcl, dd, vs, v, h1, h2, g1, p.ok sm g3⟩
/-- isinstance(e, C) in a suite -/
theorem d_isX (i : Nat) {tbl : List (Nat × Bool)} {x : Str} {pos p p2 : Pos} {eC : Expr} {v : V} {cv : Value} (hf : ∃ vs, oe.data = .fields vs)
    (hT : ∀ c b, tbl.lookup c = some b → ∃ C, X.mg (cnm c) = some (.ref C) ∧ ExcC X.K C ∧ PySem.W.kitOne X.K (.ref C) cv = some b)
    (hC : PE (X.suite a ((a, oe) :: pn)) eC (tC v)) (hcv : ∀ u, RelV v u → u = cv) (hg : Gl X "isinstance") (hm : X.mg "isinstance" = none)
    (hN : X.N[i]? = some x := by rfl) (hv : Vis X.env.scope x := by first | exact Or.inl rfl | exact Or.inr (Or.inl rfl) | exact Or.inr (Or.inr rfl)) (hd : (x == ("__debug__" : Str)) = false := by decide)
    (hcd : (x == ("__classdict__" : Str)) = false := by decide) (he : starEach [.Name x p, eC] X.env = (false, eval (.Name x p) X.env) :: starEach [eC] X.env := by rfl) (he2 : starEach [eC] X.env = (false, eval eC X.env) :: starEach [] X.env := by rfl) (hpl : (backTo pos (starEach [eC] X.env)).any (·.1) = false := by rfl) :
    DE (X.suite a ((a, oe) :: pn)) W (.Call (.Name "isinstance" p2) [.Name x p, eC] [] pos) (mIsX i tbl) := by
  refine ⟨⟨fun pins s σ H Q I q => ?_⟩⟩
  obtain ⟨G, en, so, sm, p⟩ := q
  have sm : Sim X.K ⟨X.mg, some (a, oe.cls, oe.dict)⟩ G en so σ H := sm
  unfold mIsX at p
  split at p
  case h_2 => exact p.elim
  rename_i xc ex
  split at p
  case h_2 => exact p.elim
  rename_i b eb
  obtain ⟨C, hm1, hX, hk⟩ := hT _ _ eb
  obtain ⟨Ca, e1, hcl, hm2, hd2⟩ := sm.exnAt ex
  cases hm1.symm.trans hm2
  refine (pe_callB (X := X.suite a ((a, oe) :: pn)) (call_isD (X := X) (pn := pn) (d := oe.dict) hX ⟨hcl, rfl⟩ hf) hg hm boot_isinstance (pa_cons (pe_var (X := X.suite a ((a, oe) :: pn)) (i := i) hN hv hd hcd) (pa_cons hC pa_nil he2) he) (he := he) (hpl := hpl)).run pins s σ H Q I ?_
  refine ⟨_, e1, v, cv, b, rfl, hcv, hk, hd2.elim (fun h => .inl h.1) (fun ⟨dd, vs, h1, h2, _⟩ => .inr ⟨dd, vs, h1, h2⟩), p.ok sm (.bl b)⟩
end
end
end Dl

set_option Elab.async false
set_option linter.all false
set_option maxRecDepth 100000
set_option maxHeartbeats 4000000
/-! The data level: try with several clauses, each with or without a name. -/
namespace L2
open PySem PySem.Spec PyProof.Rows
section
variable {X : Cx} {bd : List Stmt} {q₀ : ExceptHandler} {qs : List ExceptHandler} {l : List Clz} {pz : Pos} {tb : WX → TS} {Wo : WX}
/-- what is done with an exception that leaves the body -/
def Caught (X : Cx) (qs : List ExceptHandler) (pins : List (Addr × Obj)) (D : Ends) (e : Value) (s₁ : Shared) : Prop :=
  wpAny (model X.prog X.w) X.A (noteFrame e X.env) (fun _ s₂ => wpAny (model X.prog X.w) X.A (setFlight e none)
    (fun _ s₃ => wpAny (model X.prog X.w) X.A (handleBy e X.env qs) (SP X pins D) X.xe s₃) X.xe s₂) X.xe s₁
/-- the class that a clause names is looked up where the exception is at hand -/
theorem clz_name {x : Str} {c : Value} {np : Pos} {a : Addr} {oe : Obj} {pins : List (Addr × Obj)} {σ : St} {H : Hp} {s : Shared} (S : Inv (X.suite a ((a, oe) :: (X.pn ++ pins))) [] σ H s) (nm : Names X x c) {Q : Value → Shared → Prop} {E : Value → Shared → Prop} (q : Q c s) :
    wpAny (model X.prog X.w) (X.A.mark (some (.ref a))) (eval (.Name x np) X.env) Q E s := by
  rcases nm with ⟨n1, n2, n3 | ⟨n3, n4, n5⟩⟩
  · exact ld_glob (X := X.suite a ((a, oe) :: (X.pn ++ pins))) S n1 n3 q n2
  · exact ld_blt (X := X.suite a ((a, oe) :: (X.pn ++ pins))) S n1 n3 n4 q n5 n2
theorem ps_try_gen (st : X.stack = X.env :: X.outer) (fr : X.env.frame = some X.env.locals) (tk : Takes X Wo)
    (hb : ∀ (W : WX) (pn : List (Addr × Obj)) (xe : Value → Shared → Prop), Takes (X.tr pn xe) W → PassesOwn (model X.prog X.w) X.A X.env xe → PSs (X.tr pn xe) bd (tb W))
    (cl : ClzOk X (q₀ :: qs) l) : PS X (.Try bd (q₀ :: qs) [] [] pz) (fun D σ H => tb (wGen X.K Wo D l) D σ H) := by
  constructor
  intro pins s σ H D I p
  have ok := I.ok
  have frs2 : X.A.frames = some (X.env :: X.outer) := (ok.frames).trans (congrArg some st)
  have caught : Takes (X.tr (X.pn ++ pins) (Caught X (q₀ :: qs) pins D)) (wGen X.K Wo D l) := by
    intro u s' z
    rcases z with ⟨a, B, sI, pn2, σ', H', C, dd, rfl, J', nb, up, sky, na, os, ag, w⟩
    have J : Inv X pins σ' H' sI := Inv.ofTry J' ok
    have sk : Sky B (X.env :: X.outer) a (Zc C dd) X.env.locals s'.heap := st ▸ sky
    show Caught X (q₀ :: qs) pins D (.ref a) s'
    unfold Caught
    refine Sky.land Zc.steady frs2 fr sk fun g fl u3 => ?_
    have Jg : Inv X pins σ' H' { s' with heap := g } := Inv.landed J nb fl.1 ((up.trans u3)) os ag
    rcases fl.there with ⟨oe, vs, g1, g2, g3⟩
    have out : a ∉ frs (X.env :: X.outer) := fun hm => by
      rcases fl.2.2.1.mem hm with ⟨_, o2, e2, nf⟩
      cases g1.symm.trans e2
      exact nf _ g3
    have o1 : a ≠ X.env.locals := fun z => out (List.mem_filterMap.mpr ⟨X.env, .head _, z ▸ fr⟩)
    have o2 : a ∉ X.fs := fun hm => by
      rcases List.mem_filterMap.mp hm with ⟨e, h1, h2⟩
      exact out (List.mem_filterMap.mpr ⟨e, .tail _ h1, h2⟩)
    have S := Inv.suite Jg g1 g3 na o1 o2
    have LT : PySem.W.Looks (model X.prog X.w) g (typeOf (.ref a)) C := fun _ _ _ _ k z => wpAny_typeOf_ref (k _ _ g1) (g2.1 ▸ z)
    have turn : ∀ {hs' : List ExceptHandler} {l' : List Clz}, ClzOk X hs' l' → wGen X.K Wo D l' C dd σ' H' →
        wpAny (model X.prog X.w) X.A (handleBy (.ref a) X.env hs') (SP X pins D) X.xe { s' with heap := g } := by
      intro hs' l' k
      induction k with
      | nil =>
        intro w
        have on : wpAny (model X.prog X.w) X.A (setFlight (.ref a) X.env.frame) (fun _ s4 => wpAny (model X.prog X.w) X.A (throw (.ref a) : Sem Flow) (SP X pins D) X.xe s4) X.xe { s' with heap := g } := by
          rw [fr]
          exact HandSPX.setFlight_upZ fl fun g5 hg5 u5 => wpAny_throw (tk _ _ ⟨a, B, sI, pins, σ', H', C, dd, rfl, J, nb, (.trans (up.trans u3) u5), .inr (.inr (st.symm ▸ hg5)), na, os, ag, w⟩)
        rcases id fl with ⟨_, _, _, oe', vs', T, oT, ts', k1, k2, k3, k4, _⟩
        apply wpAny_handleBy_nil
        unfold PySem.passOn
        apply wpAny_bind
        apply wpAny_field k1 k3 k4
        have nn : ¬ ((Value.ref T == Value.none) = true) := by simp
        rw [if_neg nn]
        first
          | exact wpAny_bind (wpAny_pure (wpAny_bind on))
          | exact wpAny_bind on
      | @only x c ts b₀ su np p2 hs2 l2 nm hsu r ih =>
        rintro ⟨b, e1, yes, no⟩
        apply wpAny_handleBy_cons (hnb := ?q)
        case q => exact fun z => nomatch z
        apply codeAny_handlers_test
        apply clz_name S nm
        apply (PySem.W.exm_one (M := model X.prog X.w) (Jg.kIn) LT e1).here
        cases b with
        | false => exact ih (no rfl)
        | true =>
          apply codeAny_handlers_suite
          refine HandSPX.lands_againZ fl fun g5 fl5 u5 => ?_
          have J5 : Inv X pins σ' H' { s' with heap := g5 } := J.landed nb fl5.1 (.trans (up.trans u3) u5) os ag
          rcases fl5.there with ⟨oe5, vs5, k1, k2, k3⟩
          refine wpAny_mono ((hsu a oe5 C dd (X.pn ++ pins) k2 ⟨_, k3⟩).run [] _ _ H' _ (Inv.suite J5 k1 k3 na o1 o2) (yes rfl a na)) (fun f s6 z => ?_) fun _ _ z => z.elim
          cases f with
          | next => rcases z with ⟨σ6, H6, S6, z⟩; exact ⟨_, _, S6.unsuite ok, z⟩
          | brk => rcases z with ⟨σ6, H6, S6, z⟩; exact ⟨_, _, S6.unsuite ok, z⟩
          | cont => rcases z with ⟨σ6, H6, S6, z⟩; exact ⟨_, _, S6.unsuite ok, z⟩
          | ret u => rcases z with ⟨v6, σ6, H6, S6, r6, z⟩; exact ⟨_, _, _, S6.unsuite ok, r6, z⟩
      | @as x n i c ts b₀ su np p2 hs2 l2 hN hi hln nm hsu r ih =>
        rintro ⟨b, e1, yes, no⟩
        apply wpAny_handleBy_cons (hnb := ?q)
        case q => exact fun z => nomatch z
        apply codeAny_handlers_test
        apply clz_name S nm
        apply (PySem.W.exm_one (M := model X.prog X.w) (Jg.kIn) LT e1).here
        cases b with
        | false => exact ih (no rfl)
        | true =>
          apply codeAny_handlers_suite_as
          refine HandSPX.lands_againZ fl fun g5 fl5 u5 => ?_
          have J5 : Inv X pins σ' H' { s' with heap := g5 } := J.landed nb fl5.1 (.trans (up.trans u3) u5) os ag
          rcases fl5.there with ⟨oe5, vs5, k1, k2, k3⟩
          refine store_ok (X := X.suite a ((a, oe5) :: (X.pn ++ pins))) (v := .ref a) (Inv.suite J5 k1 k3 na o1 o2) hN hi (.inl hln) rfl (fun s5 S5 => ?_) (.inr hln)
          refine wpAny_mono ((hsu a oe5 C dd (X.pn ++ pins) k2 ⟨_, k3⟩).run [] s5 _ H' _ S5 (yes rfl a na)) (fun f s6 z => ?_) fun _ _ z => z.elim
          have bye : ∀ {σ6 : St} {H6 : Hp} {Q : Shared → Prop}, Inv (X.suite a ((a, oe5) :: (X.pn ++ pins))) [] σ6 H6 s6 → (∀ s7, Inv X pins (σ6.set i none) H6 s7 → Q s7) →
              wpAny (model X.prog X.w) X.A (bindName X.env n .none >>= fun _ => unbindBehindTheSuite X.env n p2) (fun _ s7 => Q s7) X.xe s6 := fun S6 h7 => gone_ok (Inv.unsuite S6 ok) hN hi hln h7
          cases f with
          | next => rcases z with ⟨σ6, H6, S6, z⟩; exact bye S6 fun s7 J7 => ⟨_, _, J7, z⟩
          | brk => rcases z with ⟨σ6, H6, S6, z⟩; exact bye S6 fun s7 J7 => ⟨_, _, J7, z⟩
          | cont => rcases z with ⟨σ6, H6, S6, z⟩; exact bye S6 fun s7 J7 => ⟨_, _, J7, z⟩
          | ret u => rcases z with ⟨v6, σ6, H6, S6, r6, z⟩; exact bye S6 fun s7 J7 => ⟨_, _, _, J7, r6, z⟩
    exact turn cl w
  have run := (hb (wGen X.K Wo D l) (X.pn ++ pins) (Caught X (q₀ :: qs) pins D) caught PassesOwn.looking).run [] s σ H D (I.toTry _) p
  refine wpAny_Try_except (wpAny_mono run (fun f s1 z => ?_) fun _ _ z => z)
  · cases f with
    | next => rcases z with ⟨σ2, H2, J2, z⟩; exact wpAny_execs_nil ⟨σ2, H2, J2.ofTry ok, z⟩
    | brk => rcases z with ⟨σ2, H2, J2, z⟩; exact ⟨σ2, H2, J2.ofTry ok, z⟩
    | cont => rcases z with ⟨σ2, H2, J2, z⟩; exact ⟨σ2, H2, J2.ofTry ok, z⟩
    | ret u => rcases z with ⟨v2, σ2, H2, J2, r2, z⟩; exact ⟨v2, σ2, H2, J2.ofTry ok, r2, z⟩
end
end L2
namespace Dl
open PySem PySem.Spec PyProof.Rows L2
noncomputable section
section
variable {X : Cx} {W : WX} {body : List Stmt} {h₀ : ExceptHandler} {hds : List ExceptHandler} {cs : List ClD} {pos : Pos} {mb : M Fl}
theorem s_tries (hs : X.stack = X.env :: X.outer) (hf : X.env.frame = some X.env.locals) (hc : X.calm = true) (tk : Takes X W)
    (hb : ∀ (W : WX) (pn : List (Addr × Obj)) (xe : Value → Shared → Prop), Takes (X.tr pn xe) W → PassesOwn (model X.prog X.w) X.A X.env xe → DSs (X.tr pn xe) W body mb)
    (hh : ClzD X (h₀ :: hds) cs) : DS X W (.Try body (h₀ :: hds) [] [] pos) (sTry mb cs) := by
  obtain ⟨l, ok, key⟩ := clz_ok (W := W) hh
  exact try_of hc (ps_try_gen (pz := pos) (tb := fun W' => tS X.K ⟨X.mg, none⟩ W' mb) hs hf tk (body_of hc hb) ok) key
end
end
end Dl

set_option Elab.async false
set_option linter.all false
set_option maxRecDepth 100000
set_option maxHeartbeats 2000000
/-! The data level: objects: fields, new objects, methods; lists and dicts that go into the store; calls without arguments. -/
namespace Dl
open PySem PySem.Spec PyProof.Rows L2
noncomputable section

/-! ### the ghost grows -/
section
variable {K : PySem.W.Frag} {mg : Ev} {G : Gh} {en : En} {so : So} {σ : L2.St} {H : Hp}
/-- a result's owner is named -/
theorem Sim.retag {a : Addr} {t : Tag} (s : Sim K mg G en so σ H) (w : G.own a = .tmp) : Sim K mg (G.tag a t) en so σ H := by
  refine s.keep (Same.refl _) rfl rfl (fun b o e h => ⟨e, ?_⟩) fun b o e => .inl e
  have : b ≠ a := fun z => h (by rw [z]; exact w)
  exact if_neg this
def _root_.Dl.Gh.push (G : Gh) (p : Addr × Addr) : Gh := { G with rho := G.rho ++ [p] }
theorem pre_push {A : Type} (l : List A) (x : A) : Pre l (l ++ [x]) := fun k y h => by
  rw [List.getElem?_append_left (List.getElem?_eq_some_iff.mp h).1]
  exact h
theorem push_le (G : Gh) (p : Addr × Addr) : G.le (G.push p) := ⟨Same.refl _, pre_push _ _, rfl, rfl⟩
/-- the store grows -/
theorem Sim.push {a dx : Addr} {o : Sc} (s : Sim K mg G en so σ H) (h : ObR K mg G H so.length a dx o) : Sim K mg (G.push (a, dx)) en (so ++ [o]) σ H ∧ (G.push (a, dx)).rho[so.length]? = some (a, dx) := by
  have pr : Pre G.rho (G.push (a, dx)).rho := pre_push _ _
  have eF : Same G.F (G.push (a, dx)).F := Same.refl G.F
  have hl : (G.push (a, dx)).rho[so.length]? = some (a, dx) := by
    show (G.rho ++ [(a, dx)])[so.length]? = _
    rw [s.len, List.getElem?_concat_length]
  refine ⟨⟨⟨s.fr, s.re, by show (so ++ [o]).length = (G.rho ++ [(a, dx)]).length; rw [List.length_append, List.length_append, s.len]; rfl, fun k q b dy e1 e2 => ?_, s.lk⟩, s.ln, fun i b e => ?_⟩, hl⟩
  · by_cases hk : k < so.length
    · rw [List.getElem?_append_left hk] at e1
      have e2' : (G.rho ++ [(a, dx)])[k]? = some (b, dy) := e2
      rw [List.getElem?_append_left (by rw [← s.len]; exact hk)] at e2'
      exact (s.ob k q b dy e1 e2').keep eF pr fun c u h1 _ => ⟨h1, rfl⟩
    · have hk2 : k = so.length := by
        have := (List.getElem?_eq_some_iff.mp e1).1
        rw [List.length_append, List.length_singleton] at this
        omega
      subst hk2
      rw [hl] at e2
      rw [List.getElem?_concat_length] at e1
      cases e1
      cases e2
      exact h.keep eF pr fun c u h1 _ => ⟨h1, rfl⟩
  · obtain ⟨v, e1, r⟩ := s.sl i b e
    exact ⟨v, e1, r.keep eF pr fun c u h1 h2 => ⟨h1, h2⟩⟩
/-! ### fields -/
theorem lay_ix {c i j : Nat} {f : Str} (h1 : (clay c)[i]? = some f) (h2 : (clay c)[j]? = some f) : i = j := L2.nodup_ix (clay_nd c).1 h1 h2
theorem putF_hit {f : Str} {v : V} : ∀ {fs : List (Str × V)} {u : V}, fs.lookup f = some u → (putF f v fs).length = fs.length
  | [], u, h => by cases h
  | (g, x) :: r, u, h => by
    rw [show putF f v ((g, x) :: r) = (if g = f then (g, v) :: r else (g, x) :: putF f v r) from rfl]
    by_cases hk : g = f
    · rw [if_pos hk]; rfl
    · rw [if_neg hk, List.length_cons, List.length_cons]
      have hb : (f == g) = false := by simp only [beq_eq_false_iff_ne, ne_eq]; exact fun z => hk z.symm
      rw [List.lookup_cons, hb] at h
      rw [putF_hit h]
theorem cnt_set {A : Type} {p : A → Bool} : ∀ {l : List A} {i : Nat} {x y : A}, l[i]? = some x → p y = true → (l.set i y).countP p = l.countP p + (if p x = true then 0 else 1)
  | [], i, x, y, h, _ => by cases h
  | z :: l, 0, x, y, h, hy => by
    cases h
    rw [List.set_cons_zero, List.countP_cons, List.countP_cons, hy]
    by_cases hx : p z = true
    · simp [hx]
    · simp [hx]
  | z :: l, i + 1, x, y, h, hy => by
    have h' : l[i]? = some x := by simpa using h
    rw [List.set_cons_succ, List.countP_cons, List.countP_cons, cnt_set h' hy]
    omega
theorem OF.set {c i : Nat} {f : Str} {vs : List (Str × V)} {fs : List (Option D)} {v : V} {d : D} (h : OF K G c vs fs) (hf : (clay c)[i]? = some f) (r : Rep K G.F G.rho v d) : OF K G c (putF f v vs) (fs.set i (some d)) := by
  have hi : i < fs.length := by rw [h.len]; exact (List.getElem?_eq_some_iff.mp hf).1
  refine ⟨by rw [List.length_set]; exact h.len, fun j g e => ?_, fun g hg => ?_, ?_⟩
  · rw [lookup_putF]
    by_cases hj : i = j
    · subst hj
      have : g = f := by rw [hf] at e; cases e; rfl
      subst this
      rw [List.getElem?_set_self hi, if_pos rfl]
      exact ⟨fun d' hd => by cases hd; exact ⟨v, rfl, r⟩, fun z => by cases z⟩
    · have hg : ¬ g = f := fun z => hj (lay_ix hf (z ▸ e))
      rw [List.getElem?_set_ne hj, if_neg hg]
      exact h.at_ j g e
  · rw [lookup_putF, if_neg fun (z : g = f) => hg (z ▸ List.mem_of_getElem? hf)]
    exact h.out g hg
  · have e0 : fs[i]? = some fs[i] := List.getElem?_eq_getElem hi
    rw [cnt_set e0 rfl]
    cases q : fs[i] with
    | none =>
      have := length_putF f v vs
      have := h.few
      simp only [Option.isSome_none, Bool.false_eq_true, if_false]
      omega
    | some d0 =>
      obtain ⟨u, hu, _⟩ := (h.at_ i f hf).1 d0 (by rw [e0, q])
      rw [putF_hit hu]
      exact h.few
theorem OF.len1000 {c : Nat} {vs : List (Str × V)} {fs : List (Option D)} (h : OF K G c vs fs) : vs.length < 1000 := by
  have h1 := h.few
  have h2 : fs.countP Option.isSome ≤ fs.length := List.countP_le_length
  have h3 := (clay_nd c).2
  rw [h.len] at h2
  omega
theorem OF.new (c : Nat) : OF K G c [] (List.replicate (clay c).length none) := by
  refine ⟨List.length_replicate, fun i f e => ⟨fun d hd => ?_, fun _ => rfl⟩, fun _ _ => rfl, Nat.zero_le _⟩
  rw [List.getElem?_replicate] at hd
  split at hd <;> cases hd
theorem Sim.wrF {k c i : Nat} {f : Str} {a dx Cl : Addr} {vs : List (Str × V)} {fs : List (Option D)} {v : V} {d : D} (s : Sim K mg G en so σ H) (e : so[k]? = some (.ob c fs)) (er : G.rho[k]? = some (a, dx)) (ha : H a = some (.ins Cl dx vs)) (hf : (clay c)[i]? = some f) (r : Rep K G.F G.rho v d) :
    Sim K mg G en (so.set k (.ob c (fs.set i (some d)))) σ (upd H a (.ins Cl dx (putF f v vs))) := by
  obtain ⟨oa, od, ⟨Cl', vs', hm, h1, of⟩, h2⟩ := s.ob k _ a dx e er
  rw [ha] at h1
  cases h1
  have hne : dx ≠ a := fun z => by rw [z, ha] at h2; cases h2
  refine ⟨s.toSimO.wr oa ⟨(by intro z; cases z), (by intro z; cases z), (by intro z; cases z)⟩ (fun j => j = k) (fun j hj => ⟨(by intro z; cases z; exact hj rfl), (by intro z; cases z)⟩) (List.length_set ..) fun j o b dy e1 e2 => ?_, s.ln, fun j b ej => ?_⟩
  · by_cases hj : k = j
    · subst hj
      rw [List.getElem?_set_self (List.getElem?_eq_some_iff.mp e).1] at e1
      cases e1
      rw [er] at e2
      cases e2
      exact .inr ⟨oa, od, ⟨Cl, _, hm, upd_same, of.set hf r⟩, by rw [upd_ne hne]; exact h2⟩
    · rw [List.getElem?_set_ne hj] at e1
      exact .inl ⟨fun z => hj z.symm, e1⟩
  · obtain ⟨v', e1, rb⟩ := s.sl j b ej
    refine ⟨v', e1, rb.keep (Same.refl _) (fun _ _ h => h) fun b' o h1 h2 => ⟨?_, h2⟩⟩
    have : b' ≠ a := fun z => by rw [z, oa] at h2; cases h2
    rw [upd_ne this]; exact h1
end
/-- the class x has no attribute f of its own -/
def FldF (K : PySem.W.Frag) (mg : Str → Option Value) (x f : Str) : Prop := ∃ C, mg x = some (.ref C) ∧ Cls K C ∧ NoAttr K C f
def fldO (cs : List (Nat × Nat)) : D → M D
  | .obj k => fun en so => match so[k]? with
    | some (.ob c fs) => (match cs.lookup c with
      | some i => (match fs[i]? with
        | some (some d) => .ok d en so
        | _ => .no)
      | none => .no)
    | _ => .no
  | _ => no
/-- e.f: cs: for each class that may come the field's place -/
def mFld (cs : List (Nat × Nat)) (m : M D) : M D := bd m (fldO cs)
def stO (cs : List (Nat × Nat)) (v : D) : D → M Fl
  | .obj k => fun en so => match so[k]? with
    | some (.ob c fs) => (match cs.lookup c with
      | some i => .ok .nx en (so.set k (.ob c (fs.set i (some v))))
      | none => .no)
    | _ => .no
  | _ => no
/-- o.f = v -/
def sFld (cs : List (Nat × Nat)) (mo mv : M D) : M Fl := bd mv fun v => bd mo fun o => stO cs v o
/-- o.f op= v -/
def sFldA (cs : List (Nat × Nat)) (f : D → D → M D) (mo mv : M D) : M Fl := bd mo fun o => bd (fldO cs o) fun x => bd mv fun y => bd (f x y) fun z => stO cs z o
/-- what is known of the classes that have the field -/
def FldT (X : Cx) (f : Str) (cs : List (Nat × Nat)) : Prop := ∀ c i, cs.lookup c = some i → (clay c)[i]? = some f ∧ FldF X.K X.mg (cnm c) f
section
variable {X : Cx} {W : WX} {a b c e o value : Expr} {m mo mv : M D} {f : Str} {pos pos' p : Pos} {cs : List (Nat × Nat)}
theorem fldO_at {A1 A' : Type} {σ : L2.St} {H : Hp} {G : Gh} {en : En} {so : So} {v : V} {d : D} {Rl : Gh → Hp → A' → A1 → Prop} {kk : D → M A1} {Q : A' → Hp → Prop} (hT : FldT X f cs) (s : Sim X.K X.ev G en so σ H) (r : Rep X.K G.F G.rho v d) (p : Post X.K X.ev G W Rl σ (bd (fldO cs d) kk en so) Q) :
    ∃ a C dx fs y z, v = .ref a ∧ H a = some (.ins C dx fs) ∧ Cls X.K C ∧ NoAttr X.K C f ∧ fs.lookup f = some y ∧ Rep X.K G.F G.rho y z ∧ Post X.K X.ev G W Rl σ (kk z en so) Q := by
  cases r with
  | @obj k a dx hr =>
    unfold bd at p
    have e : fldO cs (.obj k) en so = (match so[k]? with
      | some (.ob c fs) => (match cs.lookup c with
        | some i => (match fs[i]? with
          | some (some d) => .ok d en so
          | _ => .no)
        | none => .no)
      | _ => .no : Re D) := rfl
    rw [e] at p
    cases h1 : so[k]? with
    | none => rw [h1] at p; exact p.elim
    | some ob =>
      rw [h1] at p
      cases ob with
      | ob c fs =>
        dsimp only at p
        cases h2 : cs.lookup c with
        | none => rw [h2] at p; exact p.elim
        | some i =>
          rw [h2] at p
          dsimp only at p
          cases h3 : fs[i]? with
          | none => rw [h3] at p; exact p.elim
          | some od =>
            rw [h3] at p
            cases od with
            | none => exact p.elim
            | some z =>
              obtain ⟨hl, C, hm, hc, hn⟩ := hT _ _ h2
              obtain ⟨_, _, ⟨Cl, vs, hm2, h5, of⟩, _⟩ := s.ob k _ a dx h1 hr
              cases hm.symm.trans hm2
              obtain ⟨y, hy, ry⟩ := (of.at_ i f hl).1 z h3
              exact ⟨a, C, dx, vs, y, z, rfl, h5, hc, hn, hy, ry, p⟩
      | _ => exact p.elim
  | _ => exact p.elim
theorem d_fld (hT : FldT X f cs) (h : DE X W e m) (hb : attributeBase e f X.env (eval e X.env) = eval e X.env := by rfl) : DE X W (.Attribute e f pos) (mFld cs m) := by
  refine ⟨PE_imp (pe_fld h.pe hb) fun σ H Q ⟨G, en, so, s, p⟩ => ?_⟩
  refine ⟨G, en, so, s, (Post.bind (R1 := rlD X.K) p).imp fun v H1 ⟨G1, en1, so1, d, l, r1, s1, p1⟩ => ?_⟩
  have p2 : Post X.K X.ev G1 W (rlD X.K) σ (bd (fldO cs d) pu en1 so1) Q := by
    unfold bd
    revert p1
    cases fldO cs d en1 so1 <;> exact id
  obtain ⟨a, C, dx, fs, y, z, h1, h2, h3, h4, h5, h6, h7⟩ := fldO_at hT s1 r1 p2
  exact ⟨a, C, dx, fs, y, h1, h2, h3, h4, h5, h7.ok s1 h6⟩
theorem stO_at {σ : L2.St} {H : Hp} {G : Gh} {en : En} {so : So} {v y : V} {d z : D} {E : Ends} (hT : FldT X f cs) (s : Sim X.K X.ev G en so σ H) (r : Rep X.K G.F G.rho v d) (ry : Rep X.K G.F G.rho y z) (p : SPost X.K X.ev G W (stO cs z d en so) E) :
    ∃ a C dx fs, v = .ref a ∧ H a = some (.ins C dx fs) ∧ Cls X.K C ∧ NoAttr X.K C f ∧ fs.length < 1000 ∧ E.nx σ (upd H a (.ins C dx (putF f y fs))) := by
  cases r with
  | @obj k a dx hr =>
    have e : stO cs z (.obj k) en so = (match so[k]? with
      | some (.ob c fs) => (match cs.lookup c with
        | some i => .ok .nx en (so.set k (.ob c (fs.set i (some z))))
        | none => .no)
      | _ => .no : Re Fl) := rfl
    rw [e] at p
    cases h1 : so[k]? with
    | none => rw [h1] at p; exact p.elim
    | some ob =>
      rw [h1] at p
      cases ob with
      | ob c fs =>
        dsimp only at p
        cases h2 : cs.lookup c with
        | none => rw [h2] at p; exact p.elim
        | some i =>
          rw [h2] at p
          obtain ⟨hl, C, hm, hc, hn⟩ := hT _ _ h2
          obtain ⟨_, _, ⟨Cl, vs, hm2, h5, of⟩, _⟩ := s.ob k _ a dx h1 hr
          cases hm.symm.trans hm2
          exact ⟨a, C, dx, vs, rfl, h5, hc, hn, of.len1000, p _ _ G (.refl _) (s.wrF h1 hr h5 hl ry)⟩
      | _ => exact p.elim
  | _ => exact p.elim
theorem s_fld (hT : FldT X f cs) (ho : DE X W o mo) (hv : DE X W value mv) (hs : swapsWith value (some (.Attribute o f pos')) pos.line X.env = pure false := by rfl) : DS X W (.Assign [.Attribute o f pos'] value pos) (sFld cs mo mv) := by
  refine ⟨PS_imp (ps_fld ho.pe hv.pe hs) fun E σ H ⟨G, en, so, s, p⟩ => ?_⟩
  refine ⟨G, en, so, s, (SPost.bind (R1 := rlD X.K) p).imp fun y H1 ⟨G1, en1, so1, z, l1, r1, s1, p1⟩ => ?_⟩
  refine ⟨G1, en1, so1, s1, (SPost.bind (R1 := rlD X.K) p1).imp fun v H2 ⟨G2, en2, so2, d, l2, r2, s2, p2⟩ => ?_⟩
  exact stO_at hT s2 r2 (Rep.up r1 l2) p2
end

/-! ### a list or dict goes into the store -/
def celR : B → M D
  | .cel c => fun en so => .ok (.obj so.length) en (so ++ [.cel c])
  | _ => no
def mCel (m : M B) : M D := bd m celR
section
variable {X : Cx} {W : WX} {e : Expr} {m : M B}
theorem d_cel (h : DB X W e m) : DE X W e (mCel m) := by
  refine ⟨PE_imp h.pe fun σ H Q ⟨G, en, so, s, p⟩ => ⟨G, en, so, s, (Post.bind (R1 := rlB X.K) p).imp fun v H1 ⟨G1, en1, so1, b, l, r1, s1, p1⟩ => ?_⟩⟩
  cases b with
  | dat d => exact p1.elim
  | exn x => exact p1.elim
  | cel c =>
    obtain ⟨a, rfl, w, cr⟩ := r1
    have s2 := s1.retag (t := .ob so1.length) w
    obtain ⟨s3, hl⟩ := s2.push (a := a) (dx := a) (o := .cel c) ⟨tag_own, cr.keep (Same.refl _) (fun _ _ h => h) fun o h => h⟩
    exact p1.ok' ((tag_le _ _).trans (push_le _ _)) s3 (.obj hl)
end
end
end Dl

set_option Elab.async false
set_option linter.all false
set_option maxRecDepth 100000
set_option maxHeartbeats 2000000
/-! The data level: new objects, methods, calls without arguments, stores to fields by an operator. -/
namespace L2
open PySem PySem.Spec PyProof.Rows
section
variable {X : Cx} {CX : CXT} {k : Nat} {f C : Addr} {fd : FuncData} {ps : List Str} {sp : Sp} {E : St → XK} {x m : Str} {p pos apos : Pos} {e o : Expr} {es : List Expr} {ta : TE} {t : TA}
/-- what is called, by a name of the module, with arguments or without -/
def tGo (R : List V → Hp → St → VK → Prop) (t : TA) : TE := fun σ H Q => t σ H fun vs H1 => R vs H1 σ Q
def GoOk (X : Cx) (g : Addr) (R : List V → Hp → St → VK → Prop) : Prop := ∀ (pins : List (Addr × Obj)) (σ : St) (H : Hp) (s : Shared) (us : List Value) (vs : List V) (Q : VK), Inv X pins σ H s → Vals vs us → R vs H σ Q →
  wpAny (model X.prog X.w) X.A (call (.ref g) us) (EP X pins σ Q) X.xe s
section
variable {R : List V → Hp → St → VK → Prop} {g : Addr}
theorem pe_go (go : GoOk X g R) (hg : Gl X x) (hm : X.mg x = some (.ref g)) (hk : PySem.W.keepIn X.K (.ref g) = true) (ha : PA X (e :: es) t) (hdb : (x == ("__debug__" : Str)) = false)
    (he : starEach (e :: es) X.env = (false, eval e X.env) :: starEach es X.env) (hpl : (backTo pos (starEach es X.env)).any (·.1) = false) : PE X (.Call (.Name x p) (e :: es) [] pos) (tGo R t) :=
  ⟨fun pins s σ H Q I h => wpAny_Call_Name_kw (ld_glob I hg hm (PySem.W.callWith_K (h₀ := X.base) I.ok.mod.kin hk (thn (ha.run pos pins s σ H _ I h) fun us s1 w =>
    w.elim fun vs w => w.elim fun H1 w => ⟨w.1.kIn, go pins σ H1 s1 us vs Q w.1 w.2.1 w.2.2⟩) he hpl) hdb)⟩
theorem pe_go0 (go : GoOk X g R) (hg : Gl X x) (hm : X.mg x = some (.ref g)) (hk : PySem.W.keepIn X.K (.ref g) = true) (hdb : (x == ("__debug__" : Str)) = false) : PE X (.Call (.Name x p) [] [] pos) (tGo R tNil) :=
  ⟨fun pins s σ H Q I h => wpAny_Call_Name_kw (ld_glob I hg hm (PySem.W.callWith_K0 I.kIn hk (go pins σ H s [] [] Q I .nil h)) hdb)⟩
end
/-- a new object: what its __init__ is asked for -/
def rMk (C : Addr) (sp : Sp) (E : St → XK) : List V → Hp → St → VK → Prop := fun vs H σ Q => ∀ x dx, H x = none → H dx = none → dx ≠ x → sp (.ref x :: vs) (upd (upd H dx (.own x)) x (.ins C dx [])) (fun v H2 => v = .non ∧ Q (.ref x) H2) (E σ)
theorem go_make (M : Mk X.K C f) (F : FnOk X.prog X.w X.K X.mg X.base CX k f fd ps sp) (hr : Room (k + 1) X.A) (hb : Binds X.K fd ps []) (hx : ∀ σ, PassesAt CX X σ (E σ)) : GoOk X C (rMk C sp E) := fun pins σ H s us vs Q I r h => by
  generalize hn : s.heap.objs.size = n at *
  have fr : ∀ i, n ≤ i → H i = none := fun i hi => I.hok.fresh (hn ▸ hi)
  have asked := h (n + 1) n (fr _ (Nat.le_succ _)) (fr _ (Nat.le_refl _)) (Nat.ne_of_lt (Nat.lt_succ_self _))
  have J := Inv.made (C := C) I
  subst hn
  have rv : Vals (V.ref (s.heap.objs.size + 1) :: vs) (Value.ref (s.heap.objs.size + 1) :: us) := .cons rfl r
  have bound := hb _ (Value.ref (s.heap.objs.size + 1) :: us) J.kIn (by rw [List.append_nil, ← F.len _ _ _ _ asked]; exact rv.length.symm)
  rw [List.append_nil] at bound
  have ran := F.run _ X.stack _ _ ⟨Value.ref (s.heap.objs.size + 1) :: us, []⟩ (Value.ref (s.heap.objs.size + 1) :: us) _ _ (E σ) (hr.make C us []) (J.env0.make C us []) bound rv asked
  refine wpAny_call (make_map (f := f) I.kIn M.makes M.init (beq_iff_eq.mp M.fn) (codeAny_mono ran fun out s' post => ?_))
  match out, post with
  | .error e, post => exact hx σ pins _ _ e s' J post
  | .ok (.ret u), post =>
    obtain ⟨v, H', I3, ru, ev, q⟩ := J.after post
    cases ev
    exact ⟨ru, ⟨V.ref (s.heap.objs.size + 1), H', I3, rfl, q⟩⟩
  | .ok .next, post => exact post.elim
  | .ok .brk, post => exact post.elim
  | .ok .cont, post => exact post.elim
theorem go_def (F : FnOk X.prog X.w X.K X.mg X.base CX k f fd ps sp) (hr : Room k X.A) (hb : Binds X.K fd ps []) (hx : ∀ σ, PassesAt CX X σ (E σ)) : GoOk X f (fun vs H σ Q => sp vs H Q (E σ)) := fun _ σ _ _ _ _ _ I r h => run_fnS F hr hb (hx σ) I r h
/-- o.m(e, ..): the class and its def as the object says -/
def tMethX (X : Cx) (CX : CXT) (k : Nat) (m : Str) (E : St → XK) (ta : TE) (t : TA) : TE := fun σ H Q => ta σ H fun x H1 => ∃ (a C dx : Addr) (fs : List (Str × V)) (f : Addr) (fd : FuncData) (ps : List Str) (sp : Sp), x = .ref a ∧ H1 a = some (.ins C dx fs) ∧ Cls X.K C ∧ Meth X.K C m f ∧
  FnOk X.prog X.w X.K X.mg X.base CX k f fd ps sp ∧ Binds X.K fd ps [] ∧ fs.lookup m = none ∧ t σ H1 fun vs H2 => sp (x :: vs) H2 Q (E σ)
/-- how a method call is evaluated -/
def MethEv (X : Cx) (o : Expr) (m : Str) (apos : Pos) (as : List Expr) (pos : Pos) (pl : Sem Bool) : Prop := eval (.Call (.Attribute o m apos) as [] pos) X.env = (do
  let ov ← eval o X.env
  standAt apos.atName
  let (f, first) ← holding [ov] (getMethod ov m pl)
  callWith pos f first (backTo pos (starEach as X.env)) (backToKw pos (keywordEach [] X.env)))
theorem pe_methX {pl : Sem Bool} {as : List Expr} (he : PE X o ta) (hr : Room k X.A) (hx : ∀ σ, PassesAt CX X σ (E σ)) (ht : MethEv X o m apos as pos pl)
    (ha : (as = [] ∧ t = tNil) ∨ ∃ e es, as = e :: es ∧ PA X (e :: es) t ∧ starEach (e :: es) X.env = (false, eval e X.env) :: starEach es X.env ∧ (backTo pos (starEach es X.env)).any (·.1) = false) :
    PE X (.Call (.Attribute o m apos) as [] pos) (tMethX X CX k m E ta t) :=
  ⟨fun pins s σ H Q I h => PySem.W.methodCall_KW (pl := pl) (thn (he.run pins s σ H _ I h) fun u s1 w => by
    obtain ⟨x, H1, I1, rx, a, C, dx, fs, f, fd, ps, sp, ex, ea, c, hm, F, hb, l, q⟩ := w
    cases ex
    have eu : u = Value.ref a := rx
    rw [eu]
    refine getmeth_ok I1 ea c hm l ?_
    rcases ha with ⟨e1, e2⟩ | ⟨e, es, e1, pa, hst, hpl⟩
    · rw [e1]
      rw [e2] at q
      exact PySem.W.callWith_K0 (first := [.ref a]) I1.kIn hm.kp (run_fnS (us := [.ref a]) (vs := [.ref a]) F hr hb (hx σ) I1 (.cons rfl .nil) q)
    · rw [e1]
      exact PySem.W.callWith_K (first := [.ref a]) (h₀ := X.base) I.ok.mod.kin hm.kp (thn (pa.run pos pins s1 σ H1 _ I1 q) fun us s2 w => w.elim fun vs w => w.elim fun H2 w => ⟨w.1.kIn, run_fnS (us := .ref a :: us) (vs := .ref a :: vs) F hr hb (hx σ) w.1 (.cons rfl w.2.1) w.2.2⟩) hst hpl) ht⟩
end
end L2
namespace Dl
open PySem PySem.Spec PyProof.Rows L2
noncomputable section
/-- behind a call -/
theorem fpost_of {K : PySem.W.Frag} {mg : Str → Option Value} {G : Gh} {en : En} {so : So} {σ : L2.St} {H : Hp} {r : Rf} {Q : VK} {E : XK} (s : Sim K ⟨mg, none⟩ G en so σ H)
    (ok : ∀ b so' v H' G', r = .ok b so' → G.le G' → Sim K ⟨mg, none⟩ G' en so' σ H' → RB K G' H' .tmp v b → Q v H')
    (ex : ∀ x so' Cl d H' G', r = .exc x so' → G.le G' → Sim K ⟨mg, none⟩ G' en so' σ H' → XR K ⟨mg, none⟩ G' H' x Cl d → E Cl d H') (no : r ≠ .no) : FPost K ⟨mg, none⟩ (G.lend H) r Q E := by
  cases r with
  | no => exact (no rfl).elim
  | ok b so2 =>
    intro v H' G' l' s' rb
    obtain ⟨s2, l2⟩ := s.home l' s'
    refine ok b so2 v H' _ rfl l2 s2 (rb.keep (show Same G'.F (G.home G' H).F from Same.refl _) (show Pre G'.rho (G.home G' H).rho from fun _ _ h => h) fun b o h1 h2 => ⟨h1, home_own h2 fun i o h3 h4 => ?_⟩)
    have := s'.re b o (by rw [l'.R]; show (match G.own b with | .slot _ => H b | _ => G.R b) = some o; rw [h3]; exact h4)
    rw [h2] at this
    cases this.2
  | exc x so2 =>
    intro Cl d H' G' l' s' xr
    obtain ⟨s2, l2⟩ := s.home l' s'
    refine ex x so2 Cl d H' _ rfl l2 s2 ?_
    obtain ⟨Ca, e1, e2, h⟩ := xr
    refine ⟨Ca, e1, e2, h.elim .inl fun ⟨da, fs, e3, e4, e5, e6⟩ => .inr ⟨da, fs, e3, e4, home_own e5 fun i o h3 h4 => ?_, e6⟩⟩
    have := s'.re da o (by rw [l'.R]; show (match G.own da with | .slot _ => H da | _ => G.R da) = some o; rw [h3]; exact h4)
    rw [e5] at this
    cases this.2
/-- a call's answer, in the caller's hands -/
def backR (r : Rf) : M B := fun en _ => match r with
  | .ok b so' => .ok b en so'
  | .exc x so' => .exc x en so'
  | .no => .no
theorem fpost_back {K : PySem.W.Frag} {mg : Str → Option Value} {G : Gh} {en : En} {so : So} {σ : L2.St} {H : Hp} {r : Rf} {Q : VK} {W : WX} (s : Sim K ⟨mg, none⟩ G en so σ H) (p : Post K ⟨mg, none⟩ G W (rlB K) σ (backR r en so) Q) : FPost K ⟨mg, none⟩ (G.lend H) r Q (WE W σ) := by
  refine fpost_of s (fun b so' v H' G' e l s' rb => ?_) (fun x so' Cl d H' G' e l s' xr => ?_) fun e => ?_
  · subst e; exact p v H' G' l s' rb
  · subst e; exact p Cl d H' G' l s' xr
  · subst e; exact p

/-! ### new objects -/
/-- the class x of the module, its __init__ as f; n fields -/
structure NewF (P : Program) (w : World) (K : PySem.W.Frag) (mg : Str → Option Value) (base : Heap) (c n : Nat) (x : Str) (f : FunM) (k : Nat) : Prop where
  ex : ∃ C fI fd ps, mg x = some (.ref C) ∧ Mk K C fI ∧ FnOk P w K mg base (L2.CX P w) k fI fd ps (spD K mg f) ∧ Binds K fd ps []
  nm : cnm c = x
  n : (clay c).length = n
def newR (k : Nat) (r : Rf) : M D := fun en _ => match r with
  | .ok (.dat .non) so' => .ok (.obj k) en so'
  | .exc x so' => .exc x en so'
  | _ => .no
def mNew (c n : Nat) (f : FunM) (ms : M (List D)) : M D := bd ms fun ds en so => newR so.length (f (.obj so.length :: ds) (so ++ [.ob c (List.replicate n none)])) en so
section
variable {X : Cx} {W : WX} {e o : Expr} {es : List Expr} {ms : M (List D)} {mo : M D} {x m : Str} {f : FunM} {c n k : Nat} {p pos apos : Pos}
theorem new_tr {σ : L2.St} {H1 : Hp} {Q : VK} {mg : Str → Option Value} {K : PySem.W.Frag} {G1 : Gh} {en1 : En} {so1 : So} {vs : List V} {ds : List D} {C a dx : Addr} (hm : mg (cnm c) = some (.ref C)) (hn : (clay c).length = n) (s1 : Sim K ⟨mg, none⟩ G1 en1 so1 σ H1) (r1 : Reps K G1.F G1.rho vs ds)
    (p1 : Post K ⟨mg, none⟩ G1 W (rlD K) σ (newR so1.length (f (.obj so1.length :: ds) (so1 ++ [.ob c (List.replicate n none)])) en1 so1) Q) (hx : H1 a = none) (hdx : H1 dx = none) (ne : dx ≠ a) :
    spD K mg f (.ref a :: vs) (upd (upd H1 dx (.own a)) a (.ins C dx [])) (fun v H2 => v = .non ∧ Q (.ref a) H2) (WE W σ) := by
  subst hn
  have s2 := s1.newT (o := .own a) (t := .dc so1.length) hdx
  have s3 := s2.newT (p := a) (o := .ins C dx []) (t := .ob so1.length) (by rw [upd_ne ne.symm]; exact hx)
  obtain ⟨s4, hl⟩ := s3.push (a := a) (dx := dx) (o := .ob c (List.replicate (clay c).length none)) ⟨tag_own, by rw [tag_ne ne, tag_own], ⟨C, [], hm, upd_same, OF.new c⟩, by rw [upd_ne ne, upd_same]⟩
  have le : G1.le (((G1.tag dx (.dc so1.length)).tag a (.ob so1.length)).push (a, dx)) := ((tag_le _ _).trans (tag_le _ _)).trans (push_le _ _)
  have r1' := r1.up le
  refine ⟨Gh.lend (((G1.tag dx (.dc so1.length)).tag a (.ob so1.length)).push (a, dx)) (upd (upd H1 dx (.own a)) a (.ins C dx [])), .obj so1.length :: ds, _, .cons (.obj hl) r1', s4.lend, ?_⟩
  refine fpost_of s4 (fun b so' v H' G' e l s' rb => ?_) (fun x so' Cl d H' G' e l s' xr => ?_) fun e => ?_
  · rw [e] at p1
    cases b with
    | dat d =>
      cases d with
      | non =>
        cases (show Rep K G'.F G'.rho v .non from rb)
        exact ⟨rfl, p1 (.ref a) H' G' (le.trans l) s' (.obj (l.rho _ _ hl))⟩
      | _ => exact p1.elim
    | _ => exact p1.elim
  · rw [e] at p1
    exact p1 Cl d H' G' (le.trans l) s' xr
  · rw [e] at p1
    exact p1
theorem d_new (N : NewF X.prog X.w X.K X.mg X.base c n x f k) (hr : Room (k + 1) X.A) (hg : Gl X x) (tk : Takes X W) (ha : DA X W (e :: es) ms)
    (hdb : (x == ("__debug__" : Str)) = false := by decide) (he : starEach (e :: es) X.env = (false, eval e X.env) :: starEach es X.env := by rfl) (hpl : (backTo pos (starEach es X.env)).any (·.1) = false := by rfl) :
    DE X W (.Call (.Name x p) (e :: es) [] pos) (mNew c n f ms) := by
  obtain ⟨C, fI, fd, ps, hm, M, F, hb⟩ := N.ex
  have hpa : PA X (e :: es) (tM X.K ⟨X.mg, none⟩ W (rlDs X.K) ms) := by
    have := ha.pa
    rw [ev_none hr.hd] at this
    exact this
  refine ⟨?_⟩
  rw [ev_none hr.hd]
  refine PE_imp (pe_go (go_make (E := WE W) M F hr hb fun σ => passAt tk σ) hg hm M.kp hpa hdb he hpl) fun σ H Q ⟨G, en, so, s, p⟩ => ?_
  refine ⟨G, en, so, s, (Post.bind (R1 := rlDs X.K) p).imp fun vs H1 ⟨G1, en1, so1, ds, l, r1, s1, p1⟩ a dx hx hdx ne => ?_⟩
  exact new_tr (by rw [N.nm]; exact hm) N.n s1 r1 p1 hx hdx ne
theorem d_new0 (N : NewF X.prog X.w X.K X.mg X.base c n x f k) (hr : Room (k + 1) X.A) (hg : Gl X x) (tk : Takes X W) (hdb : (x == ("__debug__" : Str)) = false := by decide) : DE X W (.Call (.Name x p) [] [] pos) (mNew c n f aN) := by
  obtain ⟨C, fI, fd, ps, hm, M, F, hb⟩ := N.ex
  refine ⟨?_⟩
  rw [ev_none hr.hd]
  refine PE_imp (pe_go0 (go_make (E := WE W) M F hr hb fun σ => passAt tk σ) hg hm M.kp hdb) fun σ H Q ⟨G, en, so, s, p⟩ => ?_
  exact fun a dx hx hdx ne => new_tr (by rw [N.nm]; exact hm) N.n s (ds := []) .nil p hx hdx ne

/-! ### methods -/
/-- the method m of the class x is f -/
def MethF (P : Program) (w : World) (K : PySem.W.Frag) (mg : Str → Option Value) (base : Heap) (x m : Str) (f : FunM) (k : Nat) : Prop :=
  ∃ C g fd ps, mg x = some (.ref C) ∧ Cls K C ∧ Meth K C m g ∧ FnOk P w K mg base (L2.CX P w) k g fd ps (spD K mg f) ∧ Binds K fd ps []
def MethT (X : Cx) (m : Str) (k : Nat) (tbl : List (Nat × FunM)) : Prop := ∀ c f, tbl.lookup c = some f → m ∉ clay c ∧ MethF X.prog X.w X.K X.mg X.base (cnm c) m f k
def methO (tbl : List (Nat × FunM)) (ms : M (List D)) : D → M B
  | .obj k => fun en so => match so[k]? with
    | some (.ob c _) => (match tbl.lookup c with
      | some f => bd ms (fun ds en so => backR (f (.obj k :: ds) so) en so) en so
      | none => .no)
    | _ => .no
  | _ => no
def mMeth (tbl : List (Nat × FunM)) (mo : M D) (ms : M (List D)) : M B := bd mo (methO tbl ms)
theorem methO_at {tbl : List (Nat × FunM)} {σ : L2.St} {H : Hp} {Q : VK} {G : Gh} {en : En} {so : So} {v : V} {d : D} (hT : MethT X m k tbl) (s : Sim X.K ⟨X.mg, none⟩ G en so σ H) (r : Rep X.K G.F G.rho v d) (p : Post X.K ⟨X.mg, none⟩ G W (rlB X.K) σ (methO tbl ms d en so) Q) :
    ∃ (a C dx : Addr) (fs : List (Str × V)) (g : Addr) (fd : FuncData) (ps : List Str) (f : FunM) (j : Nat), v = .ref a ∧ H a = some (.ins C dx fs) ∧ Cls X.K C ∧ Meth X.K C m g ∧ FnOk X.prog X.w X.K X.mg X.base (L2.CX X.prog X.w) k g fd ps (spD X.K X.mg f) ∧ Binds X.K fd ps [] ∧ fs.lookup m = none ∧
      d = .obj j ∧ G.rho[j]? = some (a, dx) ∧ Post X.K ⟨X.mg, none⟩ G W (rlB X.K) σ (bd ms (fun ds en so => backR (f (.obj j :: ds) so) en so) en so) Q := by
  cases r with
  | @obj j a dx hr =>
    have e : methO tbl ms (.obj j) en so = (match so[j]? with
      | some (.ob c _) => (match tbl.lookup c with
        | some f => bd ms (fun ds en so => backR (f (.obj j :: ds) so) en so) en so
        | none => .no)
      | _ => .no : Re B) := rfl
    rw [e] at p
    cases h1 : so[j]? with
    | none => rw [h1] at p; exact p.elim
    | some ob =>
      rw [h1] at p
      cases ob with
      | ob c fs =>
        dsimp only at p
        cases h2 : tbl.lookup c with
        | none => rw [h2] at p; exact p.elim
        | some f =>
          rw [h2] at p
          obtain ⟨hnm, C, g, fd, ps, hm, hc, hme, F, hb⟩ := hT _ _ h2
          obtain ⟨_, _, ⟨Cl, vs, hm2, h5, of⟩, _⟩ := s.ob j _ a dx h1 hr
          cases hm.symm.trans hm2
          exact ⟨a, C, dx, vs, g, fd, ps, f, j, rfl, h5, hc, hme, F, hb, of.out _ hnm, rfl, hr, p⟩
      | _ => exact p.elim
  | _ => exact p.elim
theorem d_meth {tbl : List (Nat × FunM)} {pl : Sem Bool} (hT : MethT X m k tbl) (hr : Room k X.A) (tk : Takes X W) (ho : DE X W o mo) (ha : DA X W (e :: es) ms)
    (hst : starEach (e :: es) X.env = (false, eval e X.env) :: starEach es X.env := by rfl) (hpl : (backTo pos (starEach es X.env)).any (·.1) = false := by rfl) (ht : MethEv X o m apos (e :: es) pos pl := by rfl) : DB X W (.Call (.Attribute o m apos) (e :: es) [] pos) (mMeth tbl mo ms) := by
  have hpa : PA X (e :: es) (tM X.K ⟨X.mg, none⟩ W (rlDs X.K) ms) := by
    have := ha.pa
    rw [ev_none hr.hd] at this
    exact this
  have hpo : PE X o (tM X.K ⟨X.mg, none⟩ W (rlD X.K) mo) := by
    have := ho.pe
    rw [ev_none hr.hd] at this
    exact this
  refine ⟨?_⟩
  rw [ev_none hr.hd]
  refine PE_imp (pe_methX (pl := pl) (E := WE W) hpo hr (fun σ => passAt tk σ) ht (.inr ⟨e, es, rfl, hpa, hst, hpl⟩)) fun σ H Q ⟨G, en, so, s, p⟩ => ?_
  refine ⟨G, en, so, s, (Post.bind (R1 := rlD X.K) p).imp fun v H1 ⟨G1, en1, so1, d, l, r1, s1, p1⟩ => ?_⟩
  obtain ⟨a, C, dx, fs, g, fd, ps, f, j, rfl, h2, h3, h4, F, hb, h5, rfl, h6, p2⟩ := methO_at hT s1 r1 p1
  refine ⟨a, C, dx, fs, g, fd, ps, _, rfl, h2, h3, h4, F, hb, h5, G1, en1, so1, s1, (Post.bind (R1 := rlDs X.K) p2).imp fun vs H2 ⟨G2, en2, so2, ds, l2, r2, s2, p3⟩ => ?_⟩
  exact ⟨G2.lend H2, .obj j :: ds, so2, .cons (.obj (l2.rho _ _ h6)) r2, s2.lend, fpost_back s2 p3⟩
theorem d_meth0 {tbl : List (Nat × FunM)} {pl : Sem Bool} (hT : MethT X m k tbl) (hr : Room k X.A) (tk : Takes X W) (ho : DE X W o mo) (ht : MethEv X o m apos [] pos pl := by rfl) : DB X W (.Call (.Attribute o m apos) [] [] pos) (mMeth tbl mo aN) := by
  have hpo : PE X o (tM X.K ⟨X.mg, none⟩ W (rlD X.K) mo) := by
    have := ho.pe
    rw [ev_none hr.hd] at this
    exact this
  refine ⟨?_⟩
  rw [ev_none hr.hd]
  refine PE_imp (pe_methX (pl := pl) (E := WE W) hpo hr (fun σ => passAt tk σ) ht (.inl ⟨rfl, rfl⟩)) fun σ H Q ⟨G, en, so, s, p⟩ => ?_
  refine ⟨G, en, so, s, (Post.bind (R1 := rlD X.K) p).imp fun v H1 ⟨G1, en1, so1, d, l, r1, s1, p1⟩ => ?_⟩
  obtain ⟨a, C, dx, fs, g, fd, ps, f, j, rfl, h2, h3, h4, F, hb, h5, rfl, h6, p2⟩ := methO_at hT s1 r1 p1
  exact ⟨a, C, dx, fs, g, fd, ps, _, rfl, h2, h3, h4, F, hb, h5, G1.lend H1, [.obj j], so1, .cons (.obj h6) .nil, s1.lend, fpost_back s1 p2⟩
/-- f() -/
theorem d_call0 (F : Fn X.prog X.w X.K X.mg X.base x f k) (hr : Room k X.A) (hg : Gl X x) (tk : Takes X W) (hdb : (x == ("__debug__" : Str)) = false := by decide) : DB X W (.Call (.Name x p) [] [] pos) (mCall f aN) := by
  obtain ⟨a, fd, ps, ok, hm, hk, hb⟩ := F.ex
  refine ⟨?_⟩
  rw [ev_none hr.hd]
  refine PE_imp (pe_go0 (go_def (E := WE W) ok hr hb fun σ => passAt tk σ) hg hm hk hdb) fun σ H Q ⟨G, en, so, s, p⟩ => ?_
  exact ⟨G.lend H, [], so, .nil, s.lend, fpost_back s p⟩
end
end
end Dl

set_option Elab.async false
set_option linter.all false
set_option maxRecDepth 100000
set_option maxHeartbeats 2000000
/-! The data level: dicts, held in the store. -/
namespace Dl
open PySem PySem.Spec PyProof.Rows L2
noncomputable section

/-! ### tables -/
instance : DecidableEq Ky := inferInstanceAs (DecidableEq (Sum Int (List Nat)))
def kyOf : D → Option Ky
  | .int i => some (.inl i)
  | .str s => some (.inr s)
  | _ => none
def kyD : Ky → D
  | .inl i => .int i
  | .inr s => .str s
def valD (kvs : List (Ky × D)) (k : Ky) : Option D := (kvs.find? fun p => decide (p.1 = k)).map (·.2)
def putT (kvs : List (Ky × D)) (k : Ky) (v : D) : List (Ky × D) := if (kvs.any fun p => decide (p.1 = k)) = true then kvs.map (fun p => if p.1 = k then (p.1, v) else p) else kvs ++ [(k, v)]
def dropT (kvs : List (Ky × D)) (k : Ky) : List (Ky × D) := kvs.filter fun p => decide (p.1 ≠ k)
def mergeT (kvs more : List (Ky × D)) : List (Ky × D) := more.foldl (fun acc p => putT acc p.1 p.2) kvs
theorem kT_inj {a b : Ky} (h : kT a = kT b) : a = b := by
  cases a with
  | inl i => cases b with
    | inl j => exact congrArg Sum.inl (Sum.inl.inj h)
    | inr j => cases h
  | inr i => cases b with
    | inl j => cases h
    | inr j => exact congrArg Sum.inr (sT_inj (Sum.inr.inj h))
theorem kT_dec (a b : Ky) : decide (kT a = kT b) = decide (a = b) := by
  by_cases h : a = b
  · simp [h]
  · have : ¬ kT a = kT b := fun z => h (kT_inj z)
    simp [h, this]
section
variable {K : PySem.W.Frag} {F : Hp} {rho : List (Addr × Addr)}
theorem rep_ky {v : V} {d : D} {k : Ky} (r : Rep K F rho v d) (h : kyOf d = some k) : v = kV (kT k) := by
  cases r <;> cases h <;> rfl
theorem ky_rep (k : Ky) : Rep K F rho (kV (kT k)) (kyD k) := by
  cases k with
  | inl i => exact .int i
  | inr s => exact .str s
theorem repK_len : ∀ {vs : List (Key × V)} {ds : List (Ky × D)}, RepK K F rho vs ds → vs.length = ds.length
  | _, _, .nil => rfl
  | _, _, .cons _ r => by rw [List.length_cons, List.length_cons, repK_len r]
theorem repK_keys : ∀ {vs : List (Key × V)} {ds : List (Ky × D)}, RepK K F rho vs ds → vs.map (·.1) = ds.map fun p => kT p.1
  | _, _, .nil => rfl
  | _, _, .cons _ r => by rw [List.map_cons, List.map_cons, repK_keys r]
/-- what stands at a key -/
inductive RO (K : PySem.W.Frag) (F : Hp) (rho : List (Addr × Addr)) : Option V → Option D → Prop
  | none : RO K F rho none none
  | some {v : V} {d : D} : Rep K F rho v d → RO K F rho (some v) (some d)
theorem valV_cons (p : Key × V) (r : List (Key × V)) (k : Key) : valV (p :: r) k = if p.1 = k then some p.2 else valV r k := by
  by_cases h : p.1 = k
  · rw [if_pos h, valV_pos h]
  · rw [if_neg h, valV_neg h]
theorem valD_cons (p : Ky × D) (r : List (Ky × D)) (k : Ky) : valD (p :: r) k = if p.1 = k then some p.2 else valD r k := by
  unfold valD
  by_cases h : p.1 = k
  · simp [List.find?_cons, h]
  · simp [List.find?_cons, h]
theorem repK_val (k : Ky) : ∀ {vs : List (Key × V)} {ds : List (Ky × D)}, RepK K F rho vs ds → RO K F rho (valV vs (kT k)) (valD ds k)
  | _, _, .nil => .none
  | _, _, .cons (k := j) h r => by
    rw [valV_cons, valD_cons]
    by_cases hj : j = k
    · subst hj
      rw [if_pos rfl, if_pos rfl]
      exact .some h
    · rw [if_neg (fun z => hj (kT_inj z)), if_neg hj]
      exact repK_val k r
theorem repK_any (k : Ky) : ∀ {vs : List (Key × V)} {ds : List (Ky × D)}, RepK K F rho vs ds → (vs.any fun p => decide (p.1 = kT k)) = ds.any fun p => decide (p.1 = k)
  | _, _, .nil => rfl
  | _, _, .cons h r => by rw [List.any_cons, List.any_cons, repK_any k r, kT_dec]
theorem repK_map {k : Ky} {v : V} {d : D} (hv : Rep K F rho v d) : ∀ {vs : List (Key × V)} {ds : List (Ky × D)}, RepK K F rho vs ds → RepK K F rho (vs.map fun p => if p.1 = kT k then (p.1, v) else p) (ds.map fun p => if p.1 = k then (p.1, d) else p)
  | _, _, .nil => .nil
  | _, _, .cons (k := j) h r => by
    rw [List.map_cons, List.map_cons]
    by_cases hj : j = k
    · subst hj
      rw [if_pos rfl, if_pos rfl]
      exact .cons hv (repK_map hv r)
    · rw [if_neg (fun z => hj (kT_inj z)), if_neg hj]
      exact .cons h (repK_map hv r)
theorem repK_app : ∀ {vs ws : List (Key × V)} {ds es : List (Ky × D)}, RepK K F rho vs ds → RepK K F rho ws es → RepK K F rho (vs ++ ws) (ds ++ es)
  | _, _, _, _, .nil, r => r
  | _, _, _, _, .cons h q, r => .cons h (repK_app q r)
theorem repK_put {k : Ky} {v : V} {d : D} {vs : List (Key × V)} {ds : List (Ky × D)} (r : RepK K F rho vs ds) (hv : Rep K F rho v d) : RepK K F rho (putK vs (kT k) v) (putT ds k d) := by
  unfold putK putT
  rw [repK_any k r]
  split
  · exact repK_map hv r
  · exact repK_app r (.cons hv .nil)
theorem repK_drop (k : Ky) : ∀ {vs : List (Key × V)} {ds : List (Ky × D)}, RepK K F rho vs ds → RepK K F rho (dropK vs (kT k)) (dropT ds k)
  | _, _, .nil => .nil
  | _, _, .cons (k := j) (v := v) (d := d) (vs := vs) (ds := ds) h r => by
    have ih := repK_drop k r
    unfold dropK dropT at *
    by_cases hj : j = k
    · subst hj
      rw [List.filter_cons_of_neg (by simp), List.filter_cons_of_neg (by simp)]
      exact ih
    · rw [List.filter_cons_of_pos (by simpa using fun z => hj (kT_inj z)), List.filter_cons_of_pos (by simpa using hj)]
      exact .cons h ih
theorem repK_merge : ∀ {ws vs : List (Key × V)} {es ds : List (Ky × D)}, RepK K F rho ws es → RepK K F rho vs ds → RepK K F rho (mergeK vs ws) (mergeT ds es)
  | _, _, _, _, .nil, r => r
  | _, _, _, _, .cons (k := j) h q, r => by
    have := repK_merge q (repK_put (k := j) r h)
    exact this
end

/-! ### what a dict holds -/
def dctO : D → M (List (Ky × D))
  | .dct kv => pu kv
  | .obj k => fun en so => match so[k]? with
    | some (.cel (.dct kv)) => .ok kv en so
    | some (.lck kv) => .ok kv en so
    | _ => .no
  | _ => no
def DcAt (K : PySem.W.Frag) (G : Gh) (H : Hp) (v : V) (kds : List (Ky × D)) : Prop := ∃ a kvs, v = .ref a ∧ Rd H a (.dK kvs) ∧ RepK K G.F G.rho kvs kds
section
variable {K : PySem.W.Frag} {mg : Ev} {G : Gh} {en : En} {so : So} {σ : L2.St} {H : Hp} {W : WX} {A1 A' : Type}
theorem dctO_at {v : V} {d : D} {Rl : Gh → Hp → A' → A1 → Prop} {kk : List (Ky × D) → M A1} {Q : A' → Hp → Prop} (s : Sim K mg G en so σ H) (r : Rep K G.F G.rho v d) (p : Post K mg G W Rl σ (bd (dctO d) kk en so) Q) : ∃ kds, DcAt K G H v kds ∧ Post K mg G W Rl σ (kk kds en so) Q := by
  cases r with
  | dct h r => exact ⟨_, ⟨_, _, rfl, same_rd s.toSimO.rep h, r⟩, p⟩
  | @obj k a dx h =>
    unfold bd at p
    have e : dctO (.obj k) en so = (match so[k]? with
      | some (.cel (.dct kv)) => .ok kv en so
      | some (.lck kv) => .ok kv en so
      | _ => .no : Re (List (Ky × D))) := rfl
    rw [e] at p
    cases h1 : so[k]? with
    | none => rw [h1] at p; exact p.elim
    | some o =>
      rw [h1] at p
      cases o with
      | cel c =>
        cases c with
        | lst _ => exact p.elim
        | dct kv =>
          obtain ⟨_, kvs, e1, r⟩ := s.ob k _ a dx h1 h
          exact ⟨kv, ⟨a, kvs, rfl, .inl e1, r⟩, p⟩
      | lck kv =>
        obtain ⟨o, kvs, e1, r⟩ := s.ob k _ a dx h1 h
        exact ⟨kv, ⟨a, kvs, rfl, .inr ⟨o, (s.lk _ _ e1).1⟩, r⟩, p⟩
      | _ => exact p.elim
  | _ => exact p.elim
theorem DcAt.up {G' : Gh} {v : V} {kds : List (Ky × D)} (h : DcAt K G H v kds) (l : G.le G') : DcAt K G' H v kds := by
  obtain ⟨a, kvs, e1, e2, r⟩ := h
  exact ⟨a, kvs, e1, e2, r.mono l.F l.rho⟩
theorem DcAt.get {v y : V} {kds : List (Ky × D)} {dy : D} {k : Ky} (h : DcAt K G H v kds) (r : Rep K G.F G.rho y dy) (e : kyOf dy = some k) : ∃ a o, v = .ref a ∧ DGet H a y o ∧ RO K G.F G.rho o (valD kds k) := by
  obtain ⟨a, kvs, rfl, e2, rk⟩ := h
  exact ⟨a, _, rfl, .inl ⟨kvs, kT k, e2, rep_ky r e, rfl⟩, repK_val k rk⟩
theorem DcAt.isD {v : V} {kds : List (Ky × D)} (h : DcAt K G H v kds) : ∃ a, v = .ref a ∧ IsD H a := by
  obtain ⟨a, kvs, rfl, e2, rk⟩ := h
  exact ⟨a, rfl, .inl ⟨kvs, e2⟩⟩
end
def opM {A A' : Type} (o : Option A) (k : A → M A') : M A' := match o with
  | some a => k a
  | none => no
/-- d[k] -/
def getD (d y : D) : M D := bd (dctO d) fun kv => opM (kyOf y) fun k => opM (valD kv k) pu
def dinD (neg : Bool) (y d : D) : M D := bd (dctO d) fun kv => opM (kyOf y) fun k => pu (.bl (if neg then !(valD kv k).isSome else (valD kv k).isSome))
def get1D (d y : D) : M D := bd (dctO d) fun kv => opM (kyOf y) fun k => pu ((valD kv k).getD .non)
def get2D (d y z : D) : M D := bd (dctO d) fun kv => opM (kyOf y) fun k => pu ((valD kv k).getD z)
def mDGet (md mk : M D) : M D := bd md fun d => bd mk fun y => getD d y
def mDIn (neg : Bool) (mk md : M D) : M D := bd mk fun y => bd md fun d => dinD neg y d
/-- d.get(k): the dict is looked at ahead of the key, too -/
def mGet1 (md mk : M D) : M D := bd md fun d => bd (dctO d) fun _ => bd mk fun y => get1D d y
def mGet2 (md mk mz : M D) : M D := bd md fun d => bd (dctO d) fun _ => bd mk fun y => bd mz fun z => get2D d y z
def dlenD : List D → M D
  | [d] => bd (dctO d) fun kv => pu (.int kv.length)
  | _ => no
def dpF (k : Ky) (v : D) : C → Option (Unit × C)
  | .dct kv => if kv.length < 16777216 then some ((), .dct (putT kv k v)) else none
  | _ => none
def ddF (k : Ky) : C → Option (Unit × C)
  | .dct kv => if (valD kv k).isSome = true then some ((), .dct (dropT kv k)) else none
  | _ => none
/-- d[k] = v -/
def sDPutM (md mk mv : M D) : M Fl := bd mv fun v => bd md fun d => bd mk fun y => opM (kyOf y) fun k => bd (wrtD d (dpF k v)) fun _ => pu .nx
/-- del d[k] -/
def sDDelM (md mk : M D) : M Fl := bd md fun d => bd mk fun y => opM (kyOf y) fun k => bd (wrtD d (ddF k)) fun _ => pu .nx
section
variable {X : Cx} {W : WX} {a b c e o i f value : Expr} {ma mb m md mk mv mz : M D} {ms : M (List D)} {pos pos' p apos cpos tpos : Pos}
theorem opM_at {A1 A2 A' : Type} {K : PySem.W.Frag} {mg : Ev} {G : Gh} {en : En} {so : So} {σ : L2.St} {oo : Option A1} {k : A1 → M A2} {Rl : Gh → Hp → A' → A2 → Prop} {Q : A' → Hp → Prop} (p : Post K mg G W Rl σ (opM oo k en so) Q) : ∃ x, oo = some x ∧ Post K mg G W Rl σ (k x en so) Q := by
  cases oo with
  | none => exact p.elim
  | some x => exact ⟨x, rfl, p⟩
theorem d_dget (hu : X.A.units + 64 < cLine) (ho : DE X W o md) (hi : DE X W i mk) (hs : NoSl i := by intro _ _; rfl) : DE X W (.Subscript o i pos) (mDGet md mk) := by
  refine ⟨PE_imp (pe_dget (by omega) ho.pe hi.pe hs) fun σ H Q ⟨G, en, so, s, p⟩ => ?_⟩
  refine ⟨G, en, so, s, (Post.bind (R1 := rlD X.K) p).imp fun v H1 ⟨G1, en1, so1, d, l, r1, s1, p1⟩ => ⟨G1, en1, so1, s1, (Post.bind (R1 := rlD X.K) p1).imp fun y H2 ⟨G2, en2, so2, dy, l2, r2, s2, p2⟩ => ?_⟩⟩
  obtain ⟨kds, ca, p3⟩ := dctO_at s2 (Rep.up r1 l2) p2
  obtain ⟨k, ek, p4⟩ := opM_at p3
  obtain ⟨x, ex, p5⟩ := opM_at p4
  obtain ⟨a0, oo, rfl, g, ro⟩ := ca.get r2 ek
  rw [ex] at ro
  cases ro with
  | some rr => exact ⟨a0, _, rfl, g, p5.ok s2 rr⟩
theorem din_tr {neg : Bool} {σ : L2.St} {H : Hp} {Q : VK} (q : tM X.K X.ev W (rlD X.K) (mDIn neg mk md) σ H Q) : (if neg then tDNotIn (tM X.K X.ev W (rlD X.K) mk) (tM X.K X.ev W (rlD X.K) md) else tDIn (tM X.K X.ev W (rlD X.K) mk) (tM X.K X.ev W (rlD X.K) md)) σ H Q := by
  obtain ⟨G, en, so, s, p⟩ := q
  cases neg with
  | false =>
    refine ⟨G, en, so, s, (Post.bind (R1 := rlD X.K) p).imp fun y H1 ⟨G1, en1, so1, dy, l, r1, s1, p1⟩ => ⟨G1, en1, so1, s1, (Post.bind (R1 := rlD X.K) p1).imp fun v H2 ⟨G2, en2, so2, d, l2, r2, s2, p2⟩ => ?_⟩⟩
    obtain ⟨kds, ca, p3⟩ := dctO_at s2 r2 p2
    obtain ⟨k, ek, p4⟩ := opM_at p3
    obtain ⟨a0, oo, rfl, g, ro⟩ := ca.get (Rep.up r1 l2) ek
    refine ⟨a0, oo, rfl, g, ?_⟩
    have e : oo.isSome = (valD kds k).isSome := by
      generalize valD kds k = w at ro
      cases ro <;> rfl
    rw [e]
    exact p4.ok s2 (.bl _)
  | true =>
    refine ⟨G, en, so, s, (Post.bind (R1 := rlD X.K) p).imp fun y H1 ⟨G1, en1, so1, dy, l, r1, s1, p1⟩ => ⟨G1, en1, so1, s1, (Post.bind (R1 := rlD X.K) p1).imp fun v H2 ⟨G2, en2, so2, d, l2, r2, s2, p2⟩ => ?_⟩⟩
    obtain ⟨kds, ca, p3⟩ := dctO_at s2 r2 p2
    obtain ⟨k, ek, p4⟩ := opM_at p3
    obtain ⟨a0, oo, rfl, g, ro⟩ := ca.get (Rep.up r1 l2) ek
    refine ⟨a0, oo, rfl, g, ?_⟩
    have e : oo.isSome = (valD kds k).isSome := by
      generalize valD kds k = w at ro
      cases ro <;> rfl
    rw [e]
    exact p4.ok s2 (.bl _)
theorem d_din (hu : X.A.units + 64 < cLine) (hi : DE X W i mk) (ho : DE X W o md) (hm : behindInMarks .In o = false := by with_unfolding_all rfl) : DE X W (.Compare i [.In] [o] pos) (mDIn false mk md) := ⟨PE_imp (pe_cmp (pc_din (by omega) hi.pe ho.pe) hm) fun _ _ _ q => din_tr q⟩
theorem d_dni (hu : X.A.units + 64 < cLine) (hi : DE X W i mk) (ho : DE X W o md) (hm : behindInMarks .NotIn o = false := by with_unfolding_all rfl) : DE X W (.Compare i [.NotIn] [o] pos) (mDIn true mk md) := ⟨PE_imp (pe_cmp (pc_dnotin (by omega) hi.pe ho.pe) hm) fun _ _ _ q => din_tr q⟩
theorem d_dinT (hu : X.A.units + 64 < cLine) (hi : DE X W i mk) (ho : DE X W o md) (hm : behindInMarks .In o = false := by with_unfolding_all rfl) : DT X W (.Compare i [.In] [o] pos) (mT (mDIn false mk md)) := ⟨PT_imp (pt_cmp (pc_din (by omega) hi.pe ho.pe) hm) fun _ _ _ q => din_tr (mT_tr q)⟩
theorem d_dniT (hu : X.A.units + 64 < cLine) (hi : DE X W i mk) (ho : DE X W o md) (hm : behindInMarks .NotIn o = false := by with_unfolding_all rfl) : DT X W (.Compare i [.NotIn] [o] pos) (mT (mDIn true mk md)) := ⟨PT_imp (pt_cmp (pc_dnotin (by omega) hi.pe ho.pe) hm) fun _ _ _ q => din_tr (mT_tr q)⟩
theorem d_get1 (hu : X.A.units + 64 < cLine) (ho : DE X W o md) (he : DE X W e mk) (m : M1 X o "get" apos e cpos := by exact ⟨rfl, rfl, rfl, rfl⟩) : DE X W (.Call (.Attribute o "get" apos) [e] [] cpos) (mGet1 md mk) := by
  refine ⟨PE_imp (pe_dget1 (by omega) ho.pe he.pe m) fun σ H Q ⟨G, en, so, s, p⟩ => ?_⟩
  refine ⟨G, en, so, s, (Post.bind (R1 := rlD X.K) p).imp fun v H1 ⟨G1, en1, so1, d, l, r1, s1, p1⟩ => ?_⟩
  obtain ⟨kds0, ca0, p2⟩ := dctO_at s1 r1 p1
  obtain ⟨a0, rfl, isd⟩ := ca0.isD
  refine ⟨a0, rfl, isd, G1, en1, so1, s1, (Post.bind (R1 := rlD X.K) p2).imp fun y H2 ⟨G2, en2, so2, dy, l2, r2, s2, p3⟩ => ?_⟩
  obtain ⟨kds, ca, p4⟩ := dctO_at s2 (Rep.up r1 l2) p3
  obtain ⟨k, ek, p5⟩ := opM_at p4
  obtain ⟨a1, oo, e1, g, ro⟩ := ca.get r2 ek
  cases e1
  refine ⟨oo, g, p5.ok s2 ?_⟩
  show Rep _ _ _ (oo.getD .non) ((valD kds k).getD .non)
  generalize valD kds k = w at ro
  cases ro with
  | none => exact .non
  | some rr => exact rr
theorem d_get2 (hu : X.A.units + 64 < cLine) (ho : DE X W o md) (he : DE X W e mk) (hf : DE X W f mz) (m : M2 X o "get" apos e f cpos := by exact ⟨rfl, rfl, rfl, rfl⟩) : DE X W (.Call (.Attribute o "get" apos) [e, f] [] cpos) (mGet2 md mk mz) := by
  refine ⟨PE_imp (pe_dget2 (by omega) ho.pe he.pe hf.pe m) fun σ H Q ⟨G, en, so, s, p⟩ => ?_⟩
  refine ⟨G, en, so, s, (Post.bind (R1 := rlD X.K) p).imp fun v H1 ⟨G1, en1, so1, d, l, r1, s1, p1⟩ => ?_⟩
  obtain ⟨kds0, ca0, p2⟩ := dctO_at s1 r1 p1
  obtain ⟨a0, rfl, isd⟩ := ca0.isD
  refine ⟨a0, rfl, isd, G1, en1, so1, s1, (Post.bind (R1 := rlD X.K) p2).imp fun y H2 ⟨G2, en2, so2, dy, l2, r2, s2, p3⟩ => ⟨G2, en2, so2, s2, (Post.bind (R1 := rlD X.K) p3).imp fun z H3 ⟨G3, en3, so3, dz, l3, r3, s3, p4⟩ => ?_⟩⟩
  obtain ⟨kds, ca, p5⟩ := dctO_at s3 (Rep.up r1 (l2.trans l3)) p4
  obtain ⟨k, ek, p6⟩ := opM_at p5
  obtain ⟨a1, oo, e1, g, ro⟩ := ca.get (Rep.up r2 l3) ek
  cases e1
  refine ⟨oo, g, p6.ok s3 ?_⟩
  show Rep _ _ _ (oo.getD z) ((valD kds k).getD dz)
  generalize valD kds k = w at ro
  cases ro with
  | none => exact r3
  | some rr => exact rr
theorem call_lenDR : CallR X (.builtin "len") (fun xs H Q => ∃ a kvs, xs = [V.ref a] ∧ Rd H a (.dK kvs) ∧ Q (.int kvs.length) H) := by
  intro pins s σ H xs us Q I r q
  obtain ⟨a, kvs, rfl, hd, q⟩ := q
  cases r with
  | cons rx rr =>
    cases rr
    cases rx
    exact d_len I hd fun t s' I' => ⟨.int kvs.length, H, I', ⟨t, rfl⟩, q⟩
theorem d_dlen (hg : Gl X "len") (hm : X.mg "len" = none) (ha : DE X W e m) (he : starEach (e :: []) X.env = (false, eval e X.env) :: starEach [] X.env := by rfl) (hpl : (backTo pos (starEach [] X.env)).any (·.1) = false := by rfl) : DE X W (.Call (.Name "len" p) [e] [] pos) (bd (aC m aN) dlenD) := by
  refine ⟨PE_imp (pe_callB call_lenDR hg hm (by decide +kernel) (pa_cons ha.pe pa_nil he) (by decide) (by decide) he hpl) fun σ H Q ⟨G, en, so, s, p⟩ => ?_⟩
  have p' : Post X.K X.ev G W (rlD X.K) σ (bd m (fun d => dlenD [d]) en so) Q := by
    have e : bd (aC m aN) dlenD en so = bd m (fun d => dlenD [d]) en so := by
      unfold aC bd
      cases m en so <;> rfl
    rw [← e]; exact p
  refine ⟨G, en, so, s, (Post.bind (R1 := rlD X.K) p').imp fun v H1 ⟨G1, en1, so1, d, l, r1, s1, p1⟩ => ?_⟩
  obtain ⟨kds, ca, p2⟩ := dctO_at s1 r1 p1
  obtain ⟨a0, kvs, rfl, hd, rk⟩ := ca
  exact ⟨a0, kvs, rfl, hd, by rw [repK_len rk]; exact p2.ok s1 (.int _)⟩
theorem s_dput (hu : X.A.units + 64 < cLine) (ho : DE X W o md) (hi : DE X W i mk) (hv : DE X W value mv) (hs : swapsWith value (some (.Subscript o i pos')) pos.line X.env = pure false := by rfl) : DS X W (.Assign [.Subscript o i pos'] value pos) (sDPutM md mk mv) := by
  refine ⟨PS_imp (ps_dput (by omega) ho.pe hi.pe hv.pe hs) fun E σ H ⟨G, en, so, s, p⟩ => ?_⟩
  refine ⟨G, en, so, s, (SPost.bind (R1 := rlD X.K) p).imp fun v H1 ⟨G1, en1, so1, dv, l1, r1, s1, p1⟩ => ?_⟩
  refine ⟨G1, en1, so1, s1, (SPost.bind (R1 := rlD X.K) p1).imp fun x H2 ⟨G2, en2, so2, dd, l2, r2, s2, p2⟩ => ?_⟩
  refine ⟨G2, en2, so2, s2, (SPost.bind (R1 := rlD X.K) p2).imp fun y H3 ⟨G3, en3, so3, dy, l3, r3, s3, p3⟩ => ?_⟩
  cases ek : kyOf dy with
  | none => rw [ek] at p3; exact p3.elim
  | some k =>
    rw [ek] at p3
    have p4 := SPost.bind (R1 := fun _ _ (_ : Unit) _ => True) (σ := σ) p3
    obtain ⟨a0, u, c0, z, c', rfl, hu', ro, hf, w⟩ := wrtD_at s3 (Rep.up r2 l3) p4
    cases c0 with
    | lst _ => cases hf
    | dct kv =>
      have hf : (if kv.length < 16777216 then some ((), C.dct (putT kv k dv)) else none) = some (z, c') := hf
      split at hf
      · rename_i hl
        cases hf
        obtain ⟨kvs, rfl, rk⟩ := ro
        refine ⟨a0, _, rfl, .inl ⟨kvs, kT k, hu', rep_ky r3 ek, by rw [repK_len rk, sizeLine_eq]; exact hl, rfl⟩, ?_⟩
        obtain ⟨en', so', s5, p5⟩ := w (.dK (putK kvs (kT k) v)) ⟨_, rfl, repK_put rk (Rep.up r1 (l2.trans l3))⟩
        obtain ⟨G6, en6, so6, _, l6, _, s6, p6⟩ := p5.ok (v := ()) s5 True.intro
        exact p6 σ _ G6 (.refl _) s6
      · cases hf
theorem s_ddel (ho : DE X W o md) (hi : DE X W i mk) : DS X W (.Delete [.Subscript o i tpos] pos) (sDDelM md mk) := by
  refine ⟨PS_imp (ps_ddel ho.pe hi.pe) fun E σ H ⟨G, en, so, s, p⟩ => ?_⟩
  refine ⟨G, en, so, s, (SPost.bind (R1 := rlD X.K) p).imp fun x H2 ⟨G2, en2, so2, dd, l2, r2, s2, p2⟩ => ?_⟩
  refine ⟨G2, en2, so2, s2, (SPost.bind (R1 := rlD X.K) p2).imp fun y H3 ⟨G3, en3, so3, dy, l3, r3, s3, p3⟩ => ?_⟩
  cases ek : kyOf dy with
  | none => rw [ek] at p3; exact p3.elim
  | some k =>
    rw [ek] at p3
    have p4 := SPost.bind (R1 := fun _ _ (_ : Unit) _ => True) (σ := σ) p3
    obtain ⟨a0, u, c0, z, c', rfl, hu', ro, hf, w⟩ := wrtD_at s3 (Rep.up r2 l3) p4
    cases c0 with
    | lst _ => cases hf
    | dct kv =>
      have hf : (if (valD kv k).isSome = true then some ((), C.dct (dropT kv k)) else none) = some (z, c') := hf
      split at hf
      · rename_i hl
        cases hf
        obtain ⟨kvs, rfl, rk⟩ := ro
        have e : (valV kvs (kT k)).isSome = true := by
          have ro := repK_val k rk
          revert hl
          generalize valD kv k = w0 at ro
          generalize valV kvs (kT k) = w1 at ro
          cases ro with
          | none => intro z; cases z
          | some _ => intro _; rfl
        refine ⟨a0, kvs, kT k, rfl, hu', rep_ky r3 ek, e, ?_⟩
        obtain ⟨en', so', s5, p5⟩ := w (.dK (dropK kvs (kT k))) ⟨_, rfl, repK_drop k rk⟩
        obtain ⟨G6, en6, so6, _, l6, _, s6, p6⟩ := p5.ok (v := ()) s5 True.intro
        exact p6 σ _ G6 (.refl _) s6
      · cases hf

/-! ### new dicts -/
def mDNew : M B := pu (.cel (.dct []))
theorem b_dnew : DB X W (.Dict [] [] pos) mDNew := by
  refine ⟨PE_imp pe_dnewK fun σ H Q ⟨G, en, so, s, p⟩ q hq => ?_⟩
  exact Post.ok' p (tag_le q .tmp) (s.newT (t := .tmp) hq) ⟨q, rfl, tag_own, _, upd_same, .nil⟩
/-- dict(d) -/
def dictD : List D → M B
  | [d] => bd (dctO d) fun kv => pu (.cel (.dct kv))
  | _ => no
theorem opn_dict {K : PySem.W.Frag} {mg : Ev} : OpNB K mg (fun xs H Q => ∃ (a : Addr) (kvs : List (Key × V)), xs = [.ref a] ∧ Rd H a (.dK kvs) ∧ ∀ p, H p = none → Q (.ref p) (upd H p (.dK kvs))) dictD := by
  intro xs ds G en so σ H W Q r s p
  match ds, r, p with
  | [d], r, p =>
    obtain ⟨x, rfl, h⟩ := reps1 r
    obtain ⟨kds, ca, p2⟩ := dctO_at s h p
    obtain ⟨a0, kvs, rfl, hd, rk⟩ := ca
    exact ⟨a0, kvs, rfl, hd, fun q hq => p2.ok' (tag_le q .tmp) (s.newT (t := .tmp) hq) ⟨q, rfl, tag_own, _, upd_same, rk⟩⟩
  | [], _, p => exact False.elim p
  | d :: _ :: _, _, p => exact False.elim p
/-- dict(pairs) -/
def prsOf : List D → Option (List (Ky × D))
  | [] => some []
  | .tup [k, v] :: r => (kyOf k).bind fun k => (prsOf r).map ((k, v) :: ·)
  | _ => none
def dictP : List D → M B
  | [.lst xs] => opM (prsOf xs) fun kv => gd (xs.length ≤ 16777216) (pu (.cel (.dct (mergeT [] kv))))
  | _ => no
theorem prs_of {K : PySem.W.Frag} {F H : Hp} {rho : List (Addr × Addr)} (sf : Same F H) : ∀ {vs : List V} {ds : List D} {kv : List (Ky × D)}, Reps K F rho vs ds → prsOf ds = some kv → ∃ (ps : List Addr) (kvs : List (Key × V)), vs = ps.map V.ref ∧ Paired (fun p kv => SqT K H p [kV kv.1, kv.2]) ps kvs ∧ RepK K F rho kvs kv
  | _, [], kv, .nil, e => by cases e; exact ⟨[], [], rfl, .nil, .nil⟩
  | _, .tup [k, v] :: r, kv, .cons h q, e => by
    have e' : ((kyOf k).bind fun k => (prsOf r).map ((k, v) :: ·)) = some kv := e
    cases ek : kyOf k with
    | none => rw [ek] at e'; cases e'
    | some k' =>
      rw [ek] at e'
      cases ep : prsOf r with
      | none => rw [ep] at e'; cases e'
      | some kv' =>
        rw [ep] at e'
        cases e'
        obtain ⟨ps, kvs, h1, h2, h3⟩ := prs_of sf q ep
        obtain ⟨a, v1, v2, rfl, sq, r1, r2⟩ := rep_pair h
        have := rep_ky r1 ek
        subst this
        exact ⟨a :: ps, (kT k', v2) :: kvs, by rw [h1]; rfl, .cons (same_seqT sf sq) h2, .cons r2 h3⟩
  | _, .non :: _, _, _, e => nomatch e
  | _, .bl _ :: _, _, _, e => nomatch e
  | _, .int _ :: _, _, _, e => nomatch e
  | _, .str _ :: _, _, _, e => nomatch e
  | _, .lst _ :: _, _, _, e => nomatch e
  | _, .dct _ :: _, _, _, e => nomatch e
  | _, .obj _ :: _, _, _, e => nomatch e
  | _, .tup [] :: _, _, _, e => nomatch e
  | _, .tup [_] :: _, _, _, e => nomatch e
  | _, .tup (_ :: _ :: _ :: _) :: _, _, _, e => nomatch e
theorem opn_dictP {K : PySem.W.Frag} {mg : Ev} : OpNB K mg (fun xs H Q => ∃ (a : Addr) (ps : List Addr) (kvs : List (Key × V)), xs = [.ref a] ∧ SqL K H a (ps.map V.ref) ∧ Paired (fun p kv => SqT K H p [kV kv.1, kv.2]) ps kvs ∧ ∀ p, H p = none → Q (.ref p) (upd H p (.dK (mergeK [] kvs)))) dictP := by
  intro xs ds G en so σ H W Q r s p
  match ds, r, p with
  | [.lst zs], r, p =>
    obtain ⟨x, rfl, h⟩ := reps1 r
    cases h with
    | lst h r2 =>
      obtain ⟨kv, ek, p2⟩ := opM_at p
      obtain ⟨hl, p3⟩ := Post.gd p2
      obtain ⟨ps, kvs, rfl, h2, h3⟩ := prs_of s.toSimO.rep r2 ek
      exact ⟨_, ps, kvs, rfl, s.toSimO.rep.seq h, h2, fun q hq => p3.ok' (tag_le q .tmp) (s.newT (t := .tmp) hq) ⟨q, rfl, tag_own, _, upd_same, repK_merge h3 .nil⟩⟩
  | [], _, p => exact False.elim p
  | [.non], _, p => exact False.elim p
  | [.bl _], _, p => exact False.elim p
  | [.int _], _, p => exact False.elim p
  | [.str _], _, p => exact False.elim p
  | [.tup _], _, p => exact False.elim p
  | [.dct _], _, p => exact False.elim p
  | [.obj _], _, p => exact False.elim p
  | d :: _ :: _, _, p => cases d <;> exact False.elim p
end
end
end Dl

set_option Elab.async false
set_option linter.all false
set_option maxRecDepth 100000
set_option maxHeartbeats 2000000
/-! The data level: dicts that are walked, dict comprehensions. -/
namespace Dl
open PySem PySem.Spec PyProof.Rows L2
noncomputable section

/-! ### locks -/
def _root_.Dl.Gh.lock (G : Gh) (a : Addr) (u : HO) (k : Nat) : Gh := { G with L := fun b => if b = a then some (u, k) else G.L b, own := fun b => if b = a then .lk else G.own b }
def _root_.Dl.Gh.unlk (G0 G : Gh) (a : Addr) (k : Nat) : Gh := { G with L := G0.L, own := fun b => if b = a then .ob k else G.own b }
section
variable {K : PySem.W.Frag} {mg : Ev} {G G' : Gh} {en en' : En} {so so' : So} {σ σ' : L2.St} {H H' : Hp}
theorem Sim.lock {k : Nat} {kv : List (Ky × D)} {a dx : Addr} (s : Sim K mg G en so σ H) (e : so[k]? = some (.cel (.dct kv))) (er : G.rho[k]? = some (a, dx)) : ∃ kvs, H a = some (.dK kvs) ∧ RepK K G.F G.rho kvs kv ∧
    ∀ od, Sim K mg (G.lock a (.frz od (.dK kvs)) k) en (so.set k (.lck kv)) σ (upd H a (.frz od (.dK kvs))) := by
  obtain ⟨oa, kvs, ha, rk⟩ := s.ob k _ a dx e er
  refine ⟨kvs, ha, rk, fun od => ?_⟩
  have ne : ∀ b t, G.own b = t → t ≠ .ob k → b ≠ a := fun b t h1 h2 z => h2 (by rw [← h1, z]; exact oa)
  have ow : ∀ b t, G.own b = t → t ≠ .ob k → (G.lock a (.frz od (.dK kvs)) k).own b = t := fun b t h1 h2 => (if_neg (ne b t h1 h2)).trans h1
  have hk : k < so.length := (List.getElem?_eq_some_iff.mp e).1
  refine ⟨⟨fun b u h => ?_, fun b u h => ?_, by rw [List.length_set]; exact s.len, fun j o b dy e1 e2 => ?_, fun b u h => ?_⟩, s.ln, fun i b h => ?_⟩
  · obtain ⟨h1, h2⟩ := s.fr b u h
    exact ⟨by rw [upd_ne (ne b _ h2 (by intro z; cases z))]; exact h1, ow b _ h2 (by intro z; cases z)⟩
  · obtain ⟨h1, h2⟩ := s.re b u h
    exact ⟨by rw [upd_ne (ne b _ h2 (by intro z; cases z))]; exact h1, ow b _ h2 (by intro z; cases z)⟩
  · by_cases hj : k = j
    · subst hj
      rw [List.getElem?_set_self hk] at e1
      cases e1
      have e2' : G.rho[k]? = some (b, dy) := e2
      rw [er] at e2'
      cases e2'
      exact ⟨od, kvs, if_pos rfl, rk⟩
    · rw [List.getElem?_set_ne hj] at e1
      have h0 := s.ob j o b dy e1 e2
      refine h0.keep (Same.refl _) (fun _ _ h => h) (fun c u h1 h2 => ?_) fun u h => ?_
      · have hc : c ≠ a := ne c _ rfl (by rcases h2 with h2 | h2 <;> (rw [h2]; intro z; cases z); exact hj rfl)
        exact ⟨by rw [upd_ne hc]; exact h1, if_neg hc⟩
      · have hb : b ≠ a := ne b _ (s.lk _ _ h).2 (by intro z; cases z)
        exact (if_neg hb).trans h
  · by_cases hb : b = a
    · subst hb
      have h' : (if b = b then some (HO.frz od (.dK kvs), k) else G.L b) = some u := h
      rw [if_pos rfl] at h'
      cases h'
      exact ⟨upd_same, if_pos rfl⟩
    · have h' : (if b = a then some (HO.frz od (.dK kvs), k) else G.L b) = some u := h
      rw [if_neg hb] at h'
      obtain ⟨h1, h2⟩ := s.lk b u h'
      exact ⟨by rw [upd_ne hb]; exact h1, (if_neg hb).trans h2⟩
  · obtain ⟨v, e1, r⟩ := s.sl i b h
    refine ⟨v, e1, r.keep (show Same G.F (G.lock a (.frz od (.dK kvs)) k).F from Same.refl _) (show Pre G.rho (G.lock a (.frz od (.dK kvs)) k).rho from fun _ _ h => h) fun c u h1 h2 => ?_⟩
    have hc : c ≠ a := ne c _ h2 (by intro z; cases z)
    exact ⟨by rw [upd_ne hc]; exact h1, (if_neg hc).trans h2⟩
theorem Sim.unlock {k : Nat} {kv : List (Ky × D)} {kvs : List (Key × V)} {a dx : Addr} {od : Obj} (s0 : Sim K mg G en so σ H) (e0 : so[k]? = some (.cel (.dct kv))) (er : G.rho[k]? = some (a, dx)) (rk : RepK K G.F G.rho kvs kv)
    (l : (G.lock a (.frz od (.dK kvs)) k).le G') (s : Sim K mg G' en' so' σ' H') : H' a = some (.frz od (.dK kvs)) ∧ G.le (G.unlk G' a k) ∧ Sim K mg (G.unlk G' a k) en' (so'.set k (.cel (.dct kv))) σ' (upd H' a (.dK kvs)) := by
  have hL : G'.L a = some (.frz od (.dK kvs), k) := by rw [l.L]; exact if_pos rfl
  obtain ⟨hH, how⟩ := s.lk a _ hL
  have ne : ∀ b t, G'.own b = t → t ≠ .lk → b ≠ a := fun b t h1 h2 z => h2 (by rw [← h1, z]; exact how)
  have ow : ∀ b t, G'.own b = t → t ≠ .lk → (G.unlk G' a k).own b = t := fun b t h1 h2 => (if_neg (ne b t h1 h2)).trans h1
  have er' : G'.rho[k]? = some (a, dx) := l.rho _ _ er
  have hk : k < so'.length := by rw [s.len]; exact (List.getElem?_eq_some_iff.mp er').1
  have oa : G.own a = .ob k := (s0.ob k _ a dx e0 er).1
  refine ⟨hH, ⟨l.F, l.rho, l.R, rfl⟩, ⟨⟨fun b u h => ?_, fun b u h => ?_, by rw [List.length_set]; exact s.len, fun j o b dy e1 e2 => ?_, fun b u h => ?_⟩, s.ln, fun i b h => ?_⟩⟩
  · obtain ⟨h1, h2⟩ := s.fr b u h
    exact ⟨by rw [upd_ne (ne b _ h2 (by intro z; cases z))]; exact h1, ow b _ h2 (by intro z; cases z)⟩
  · obtain ⟨h1, h2⟩ := s.re b u h
    exact ⟨by rw [upd_ne (ne b _ h2 (by intro z; cases z))]; exact h1, ow b _ h2 (by intro z; cases z)⟩
  · by_cases hj : k = j
    · subst hj
      rw [List.getElem?_set_self hk] at e1
      cases e1
      have e2' : G'.rho[k]? = some (b, dy) := e2
      rw [er'] at e2'
      cases e2'
      exact ⟨if_pos rfl, kvs, upd_same, rk.mono l.F l.rho⟩
    · rw [List.getElem?_set_ne hj] at e1
      have h0 := s.ob j o b dy e1 e2
      refine h0.keep (Same.refl _) (fun _ _ h => h) (fun c u h1 h2 => ?_) fun u h => ?_
      · have hc : c ≠ a := ne c _ rfl (by rcases h2 with h2 | h2 <;> (rw [h2]; intro z; cases z))
        exact ⟨by rw [upd_ne hc]; exact h1, if_neg hc⟩
      · have hb : b ≠ a := fun z => by
          rw [z, hL] at h
          cases h
          exact hj rfl
        have h2 : G'.L b = some (u, j) := h
        rw [l.L] at h2
        have h3 : (if b = a then some (HO.frz od (.dK kvs), k) else G.L b) = some (u, j) := h2
        rw [if_neg hb] at h3
        exact h3
  · have hb : b ≠ a := fun z => by
      have h1 := (s0.lk b u h).2
      rw [z, oa] at h1
      cases h1
    have h2 : G'.L b = some u := by
      rw [l.L]
      exact (if_neg hb).trans h
    obtain ⟨h3, h4⟩ := s.lk b u h2
    exact ⟨by rw [upd_ne hb]; exact h3, (if_neg hb).trans h4⟩
  · obtain ⟨v, e1, r⟩ := s.sl i b h
    refine ⟨v, e1, r.keep (show Same G'.F (G.unlk G' a k).F from Same.refl _) (show Pre G'.rho (G.unlk G' a k).rho from fun _ _ h => h) fun c u h1 h2 => ?_⟩
    have hc : c ≠ a := ne c _ h2 (by intro z; cases z)
    exact ⟨by rw [upd_ne hc]; exact h1, (if_neg hc).trans h2⟩
end
/-- which dict is walked -/
def selO (md : M D) : En → So → Option Nat := fun en so => match md en so with
  | .ok (.obj k) _ _ => some k
  | _ => none
def unlR {A : Type} (k : Nat) (kv : List (Ky × D)) : Re A → Re A
  | .ok a en so => .ok a en (so.set k (.cel (.dct kv)))
  | _ => .no
def lockM {A : Type} (sel : En → So → Option Nat) (m : M A) : M A := fun en so => match sel en so with
  | some k => (match so[k]? with
    | some (.cel (.dct kv)) => unlR k kv (m en (so.set k (.lck kv)))
    | _ => .no)
  | none => .no
section
variable {X : Cx} {W : WX} {st : Stmt} {m : M Fl} {mB : M B} {mD : M D} {e : Expr} {sel : En → So → Option Nat}
/-- a statement that walks a dict -/
theorem s_lock (h : DS X W0 st m) : DS X W st (lockM sel m) := by
  refine ⟨PS_imp (ps_lock h.ps) fun E σ H ⟨G, en, so, s, p⟩ => ?_⟩
  unfold lockM at p
  cases h1 : sel en so with
  | none => rw [h1] at p; exact p.elim
  | some k =>
    rw [h1] at p
    dsimp only at p
    cases h2 : so[k]? with
    | none => rw [h2] at p; exact p.elim
    | some o =>
      rw [h2] at p
      cases o with
      | cel c =>
        cases c with
        | lst _ => exact p.elim
        | dct kv =>
          dsimp only at p
          have hk : k < G.rho.length := by rw [← s.len]; exact (List.getElem?_eq_some_iff.mp h2).1
          obtain ⟨a, dx, er⟩ : ∃ a dx, G.rho[k]? = some (a, dx) := ⟨_, _, List.getElem?_eq_getElem hk⟩
          obtain ⟨kvs, ha, rk, lk⟩ := s.lock h2 er
          refine ⟨a, .dK kvs, ha, True.intro, fun od => ⟨_, en, _, lk od, ?_⟩⟩
          have key : ∀ {en' : En} {so' : So} {σ' : L2.St} {H' : Hp} {G' : Gh}, (G.lock a (.frz od (.dK kvs)) k).le G' → Sim X.K X.ev G' en' so' σ' H' → H' a = some (.frz od (.dK kvs)) ∧ G.le (G.unlk G' a k) ∧ Sim X.K X.ev (G.unlk G' a k) en' (so'.set k (.cel (.dct kv))) σ' (upd H' a (.dK kvs)) :=
            fun l' s' => s.unlock h2 er rk l' s'
          revert p
          cases m en (so.set k (.lck kv)) with
          | no => exact fun p => p
          | exc x en' so' => exact fun p => p.elim
          | ok fl en' so' =>
            intro p
            cases fl with
            | nx =>
              intro σ' H' G' l' s'
              obtain ⟨g1, g2, g3⟩ := key l' s'
              exact ⟨g1, p _ _ _ g2 g3⟩
            | bk =>
              intro σ' H' G' l' s'
              obtain ⟨g1, g2, g3⟩ := key l' s'
              exact ⟨g1, p _ _ _ g2 g3⟩
            | ct =>
              intro σ' H' G' l' s'
              obtain ⟨g1, g2, g3⟩ := key l' s'
              exact ⟨g1, p _ _ _ g2 g3⟩
            | rt b =>
              intro v σ' H' G' l' s' rb
              obtain ⟨g1, g2, g3⟩ := key l' s'
              have hL : G'.L a = some (.frz od (.dK kvs), k) := by rw [l'.L]; exact if_pos rfl
              have how := (s'.lk a _ hL).2
              refine ⟨g1, p v _ _ _ g2 g3 (rb.keep (show Same G'.F (G.unlk G' a k).F from Same.refl _) (show Pre G'.rho (G.unlk G' a k).rho from fun _ _ h => h) fun c u h1 h2 => ?_)⟩
              have hc : c ≠ a := fun z => by rw [z, how] at h2; cases h2
              exact ⟨by rw [upd_ne hc]; exact h1, (if_neg hc).trans h2⟩
      | _ => exact p.elim
theorem lockE_tr {σ : L2.St} {H : Hp} {Q : VK} {A1 : Type} {mm : M A1} {Rl : Gh → Hp → V → A1 → Prop} (hR : ∀ (G : Gh) (H : Hp) (a : Addr) (k : Nat) (G0 : Gh) (kvs : List (Key × V)) (v : V) (x : A1), G.own a = .lk → Rl G H v x → Rl (G0.unlk G a k) (upd H a (.dK kvs)) v x)
    (q : tM X.K X.ev W Rl (lockM sel mm) σ H Q) : tLockE (tM X.K X.ev W0 Rl mm) σ H Q := by
  obtain ⟨G, en, so, s, p⟩ := q
  unfold lockM at p
  cases h1 : sel en so with
  | none => rw [h1] at p; exact p.elim
  | some k =>
    rw [h1] at p
    dsimp only at p
    cases h2 : so[k]? with
    | none => rw [h2] at p; exact p.elim
    | some o =>
      rw [h2] at p
      cases o with
      | cel c =>
        cases c with
        | lst _ => exact p.elim
        | dct kv =>
          dsimp only at p
          have hk : k < G.rho.length := by rw [← s.len]; exact (List.getElem?_eq_some_iff.mp h2).1
          obtain ⟨a, dx, er⟩ : ∃ a dx, G.rho[k]? = some (a, dx) := ⟨_, _, List.getElem?_eq_getElem hk⟩
          obtain ⟨kvs, ha, rk, lk⟩ := s.lock h2 er
          refine ⟨a, .dK kvs, ha, True.intro, fun od => ⟨_, en, _, lk od, ?_⟩⟩
          revert p
          cases mm en (so.set k (.lck kv)) with
          | no => exact fun p => p
          | exc x en' so' => exact fun p => p.elim
          | ok b en' so' =>
            intro p v H' G' l' s' rb
            obtain ⟨g1, g2, g3⟩ := s.unlock h2 er rk l' s'
            have hL : G'.L a = some (.frz od (.dK kvs), k) := by rw [l'.L]; exact if_pos rfl
            exact ⟨g1, p v _ _ g2 g3 (hR G' H' a k G kvs v b (s'.lk a _ hL).2 rb)⟩
      | _ => exact p.elim
theorem b_lock (h : DB X W0 e mB) : DB X W e (lockM sel mB) := by
  refine ⟨PE_imp (pe_lock h.pe) fun σ H Q q => lockE_tr (fun G H a k G0 kvs v x how rb => ?_) q⟩
  refine RB.keep (G := G) (G' := G0.unlk G a k) (show Same G.F (G0.unlk G a k).F from Same.refl _) (show Pre G.rho (G0.unlk G a k).rho from fun _ _ h => h) rb fun c u h1 h2 => ?_
  have hc : c ≠ a := fun z => by rw [z, how] at h2; cases h2
  exact ⟨by rw [upd_ne hc]; exact h1, (if_neg hc).trans h2⟩
end

/-! ### for k in d -/
def keysD (kv : List (Ky × D)) : List D := kv.map fun p => kyD p.1
def keyO : D → M (List D)
  | .obj k => fun en so => match so[k]? with
    | some (.lck kv) => .ok (keysD kv) en so
    | _ => .no
  | _ => no
def itK (m : M D) : M (List D) := bd m keyO
section
variable {X : Cx} {W : WX} {tg e : Expr} {m : M D}
theorem repK_at {K : PySem.W.Frag} {F : Hp} {rho : List (Addr × Addr)} : ∀ {vs : List (Key × V)} {ds : List (Ky × D)} {j : Nat} {p : Ky × D}, RepK K F rho vs ds → ds[j]? = some p → ∃ v, vs[j]? = some (kT p.1, v) ∧ Rep K F rho v p.2
  | _, _, _, _, .nil, e => nomatch e
  | _, _, 0, _, .cons h _, e => by cases e; exact ⟨_, rfl, h⟩
  | _, _, j + 1, _, .cons _ r, e => by
    obtain ⟨v, h1, h2⟩ := repK_at (j := j) r (by simpa using e)
    exact ⟨v, by simpa using h1, h2⟩
theorem i_keys (h : DE X W e m) : DI X W tg e (itK m) := by
  refine ⟨PI_imp (pi_keys h.pe) fun σ H Q ⟨G, en, so, s, p⟩ => ?_⟩
  refine ⟨G, en, so, s, (Post.bind (R1 := rlD X.K) p).imp fun v H1 ⟨G1, en1, so1, d, l, r1, s1, p1⟩ => ?_⟩
  cases r1 with
  | @obj k a dx hr =>
    have e1 : keyO (.obj k) en1 so1 = (match so1[k]? with
      | some (.lck kv) => .ok (keysD kv) en1 so1
      | _ => .no : Re (List D)) := rfl
    rw [e1] at p1
    cases h1 : so1[k]? with
    | none => rw [h1] at p1; exact p1.elim
    | some o =>
      rw [h1] at p1
      cases o with
      | lck kv =>
        obtain ⟨od, kvs, hL, rk⟩ := s1.ob k _ a dx h1 hr
        refine ⟨a, od, rfl, .inl ⟨kvs, (s1.lk _ _ hL).1, p1.ok (v := Itk a od kvs) s1 fun i H' sf sl => ⟨fun d ed => ?_, fun hl => ⟨sl _ _ hL, ?_⟩⟩⟩⟩
        · unfold keysD at ed
          rw [List.getElem?_map] at ed
          cases q : kv[i]? with
          | none => rw [q] at ed; cases ed
          | some pr =>
            rw [q] at ed
            cases ed
            obtain ⟨v, e2, _⟩ := repK_at rk q
            refine ⟨⟨sl _ _ hL, (List.getElem?_eq_some_iff.mp e2).1⟩, fun x H'' ⟨g1, k', v', g2, g3⟩ => .inl ⟨g1, ?_⟩⟩
            rw [e2] at g2
            cases g2
            rw [g3]
            exact ky_rep pr.1
        · unfold keysD at hl
          rw [List.length_map] at hl
          rw [repK_len rk]
          exact hl
      | _ => exact p1.elim
  | _ => exact p1.elim
end

/-! ### {k: v for ..} -/
def dcGo (vs : List Nat) (tg : Tg) (tt : M Bool) (ek ev : M D) : List D → List (Ky × D) → M (List (Ky × D))
  | [], acc => pu acc
  | d :: ds, acc => fun en so => match tg d en with
    | none => .no
    | some en0 => match tt en0 so with
      | .ok false en1 so1 => dcGo vs tg tt ek ev ds acc (wipeE en1 vs) so1
      | .ok true en1 so1 => match ek en1 so1 with
        | .ok y en2 so2 => (match ev en2 so2 with
          | .ok z en3 so3 => (match kyOf y with
            | some k => if acc.length < 16777216 then dcGo vs tg tt ek ev ds (putT acc k z) (wipeE en3 vs) so3 else .no
            | none => .no)
          | _ => .no)
        | _ => .no
      | _ => .no
def mDc (vs : List Nat) (tg : Tg) (src : M (List D)) (tt : M Bool) (ek ev : M D) : M B := bd src fun ds en so => match dcGo vs tg tt ek ev ds [] (wipeE en vs) so with
  | .ok xs en' so' => .ok (.cel (.dct xs)) (backE en en' vs) so'
  | _ => .no
section
variable {X : Cx} {W : WX} {tg iter kx vx : Expr} {ifs : List Expr} {scope : Scope} {pos : Pos} {own : List (Str × Nat)} {tgM : Tg} {src : M (List D)} {tt : M Bool} {ek ev : M D}
theorem dc_tr {σ : L2.St} {K : PySem.W.Frag} {mg : Ev} {vs : List Nat} {Qd : Hp → Prop} {G1 : Gh} {en1 : En} {so1 : So} {H1 : Hp} {J : It} {ds : List D} {xs : List (Ky × D)} {enF : En} {soF : So} {Dl : Addr}
    (s1 : Sim K mg G1 en1 so1 σ H1) (wk : Walk K G1.F G1.L G1.rho J ds) (hD : H1 Dl = none) (res : dcGo vs tgM tt ek ev ds [] (wipeE en1 vs) so1 = .ok xs enF soF)
    (fin : ∀ G' H', G1.le G' → Sim K mg G' (backE en1 enF vs) soF σ H' → RB K G' H' .tmp (.ref Dl) (.cel (.dct xs)) → Qd H') :
    ∃ Wn : Nat → Nat → Hp → Prop, (∃ m, Wn 0 m (upd H1 Dl (.dK []))) ∧ ∀ i m H, Wn i m H →
      (J.stop i H ∧ Qd H) ∨ (J.go i H ∧ ∃ Nx : Hp → Prop, (∀ H', Nx H' → ∃ m', m' < m ∧ Wn (i + 1) m' H') ∧ ∀ x H', J.yld i H x H' →
        tgR K mg tgM vs x (L2.wipe σ vs) H' fun σ2 H2 => L2.wipe σ2 vs = L2.wipe σ vs ∧ tM K mg W0 rlT tt σ2 H2 fun b H3 =>
          if b = true then tM K mg W0 (rlD K) ek σ2 H3 fun y H4 => tM K mg W0 (rlD K) ev σ2 H4 fun z H5 => ∃ kvs k, y = kV k ∧ H5 Dl = some (.dK kvs) ∧ kvs.length < sizeLine ∧ Nx (upd H5 Dl (.dK (putK kvs k z))) else Nx H3) := by
  refine ⟨fun i m H => m = ds.length - i ∧ i ≤ ds.length ∧ ∃ G en so acc va, Same G1.F G.F ∧ Pre G1.rho G.rho ∧ G.R = upd G1.R Dl (.dK va) ∧ G.L = G1.L ∧ RepK K G.F G.rho va acc ∧ Sim K mg G en so (L2.wipe σ vs) H ∧ dcGo vs tgM tt ek ev (ds.drop i) acc en so = .ok xs enF soF, ⟨_, rfl, Nat.zero_le _, G1.keepR Dl (.dK []), wipeE en1 vs, so1, [], [], Same.refl _, fun _ _ h => h, rfl, rfl, .nil, (s1.wipe vs).newR hD, res⟩, ?_⟩
  rintro i m H ⟨rfl, hi, G, en, so, acc, va, sF, sr, hR, hL, ra, s, run⟩
  have sfH : Same G1.F H := sF.trans s.toSimO.rep
  have sfL : ∀ a o, G1.L a = some o → H a = some o.1 := fun a o e => (s.lk a o (by rw [hL]; exact e)).1
  have R0 : G1.R Dl = none := by
    cases q : G1.R Dl with
    | none => rfl
    | some u => rw [(s1.re Dl u q).1] at hD; cases hD
  by_cases hlt : i < ds.length
  · have ed : ds[i]? = some ds[i] := List.getElem?_eq_getElem hlt
    obtain ⟨go, yl⟩ := (wk i H sfH sfL).1 _ ed
    refine .inr ⟨go, _, fun H' h => ⟨ds.length - (i + 1), by omega, h⟩, fun x H' y => ?_⟩
    have dr : ds.drop i = ds[i] :: ds.drop (i + 1) := by rw [List.drop_eq_getElem_cons hlt]
    rw [dr] at run
    have item : ∃ G2, G.le G2 ∧ Sim K mg G2 en so (L2.wipe σ vs) H' ∧ Rep K G2.F G2.rho x ds[i] := by
      rcases yl x H' y with ⟨rfl, r⟩ | ⟨T, ws, es, rfl, hT, rfl, e, r⟩
      · exact ⟨G, .refl G, s, Rep.mono sF sr r⟩
      · obtain ⟨s2, l2⟩ := s.newF (o := .tup ws) hT
        refine ⟨_, l2, s2, ?_⟩
        rw [e]
        exact .tup (.inl (.inl (show upd G.F T _ T = _ from upd_same))) (r.mono (sF.trans l2.F) fun k x h => l2.rho k x (sr k x h))
    obtain ⟨G2, l2, s2, r2⟩ := item
    unfold dcGo at run
    cases et : tgM ds[i] en with
    | none => rw [et] at run; cases run
    | some en0 =>
      rw [et] at run
      refine ⟨G2, en, so, ds[i], en0, r2, s2, et, fun σ' sg wp => ⟨by rw [wp, wipe_wipe], G2, en0, so, sg, ?_⟩⟩
      dsimp only at run
      cases e1 : tt en0 so with
      | no => rw [e1] at run; cases run
      | exc x1 en2 so2 => rw [e1] at run; cases run
      | ok b en2 so2 =>
        rw [e1] at run
        intro b' H3 G3 l3 s3 hb
        subst hb
        cases b' with
        | false =>
          refine iteF ⟨rfl, hlt, G3, _, so2, acc, va, sF.trans (l2.trans l3).F, fun k x h => (l2.trans l3).rho k x (sr k x h), by rw [(l2.trans l3).R]; exact hR, (l2.trans l3).L.trans hL, ra.mono (l2.trans l3).F (l2.trans l3).rho, ?_, run⟩
          have := s3.wipe vs
          rw [wp, wipe_wipe] at this
          exact this
        | true =>
          refine iteT ⟨G3, en2, so2, s3, ?_⟩
          dsimp only at run
          cases e2 : ek en2 so2 with
          | no => rw [e2] at run; cases run
          | exc x1 en4 so4 => rw [e2] at run; cases run
          | ok y4 en4 so4 =>
            rw [e2] at run
            intro y' H4 G4 l4 s4 ry
            refine ⟨G4, en4, so4, s4, ?_⟩
            dsimp only at run
            cases e3 : ev en4 so4 with
            | no => rw [e3] at run; cases run
            | exc x1 en5 so5 => rw [e3] at run; cases run
            | ok z5 en5 so5 =>
              rw [e3] at run
              dsimp only at run
              intro z' H5 G5 l5 s5 rz
              cases e4 : kyOf y4 with
              | none => rw [e4] at run; cases run
              | some k =>
                rw [e4] at run
                dsimp only at run
                by_cases ha : acc.length < 16777216
                · rw [if_pos ha] at run
                  have l := ((l2.trans l3).trans l4).trans l5
                  have hR5 : G5.R = upd G1.R Dl (.dK va) := by rw [l.R]; exact hR
                  have hD5 : H5 Dl = some (.dK va) := (s5.re Dl (.dK va) (by rw [hR5]; exact upd_same)).1
                  refine ⟨va, kT k, rep_ky ry e4, hD5, by rw [repK_len ra, sizeLine_eq]; exact ha, rfl, hlt, G5.setR (upd G1.R Dl (.dK (putK va (kT k) z'))), _, so5, putT acc k z5, putK va (kT k) z', sF.trans l.F, fun k x h => l.rho k x (sr k x h), rfl, l.L.trans hL, repK_put (ra.mono l.F l.rho) rz, ?_, run⟩
                  have := (s5.setR (o' := .dK (putK va (kT k) z')) hR5).wipe vs
                  rw [wp, wipe_wipe] at this
                  exact this
                · rw [if_neg ha] at run; cases run
  · have e : i = ds.length := by omega
    subst e
    rw [List.drop_length] at run
    cases run
    refine .inl ⟨(wk _ H sfH sfL).2 (Nat.le_refl _), ?_⟩
    have s2 := s.takeR hR R0
    refine fin (G.outR G1.R Dl) H ⟨sF, sr, rfl, hL⟩ (s2.back vs s1 sF sr) ⟨Dl, rfl, if_pos rfl, va, ?_, ra⟩
    exact (s.re Dl (.dK va) (by rw [hR]; exact upd_same)).1
theorem dc_read {σ : L2.St} {H : Hp} {Q : VK} {K : PySem.W.Frag} {mg : Ev} {vs : List Nat} (q : tM K mg W (rlB K) (mDc vs tgM src tt ek ev) σ H Q) :
    tDc (tM K mg W (fun G _ J ds => Walk K G.F G.L G.rho J ds) src) (tgR K mg tgM vs) (tM K mg W0 rlT tt) (tM K mg W0 (rlD K) ek) (tM K mg W0 (rlD K) ev) vs σ H Q := by
  obtain ⟨G, en, so, s, p⟩ := q
  refine ⟨G, en, so, s, (Post.bind (R1 := fun G _ J ds => Walk K G.F G.L G.rho J ds) p).imp fun J H1 ⟨G1, en1, so1, ds, l, wk, s1, p1⟩ Dx hD => ?_⟩
  generalize hr : dcGo vs tgM tt ek ev ds [] (wipeE en1 vs) so1 = r at p1
  match r, hr, p1 with
  | .ok xs enF soF, hr, p1 => exact dc_tr s1 wk hD hr fun G' H' l' s' rb => p1.ok' l' s' rb
  | .exc _ _ _, _, p1 => exact False.elim p1
  | .no, _, p1 => exact False.elim p1
/-- {k: v for tg in iter if ..} -/
theorem b_dc (hc : X.calm = true) (hN : X.N.Nodup) (hi : DI X W tg iter src) (ok : BlkOk X.N X.env.scope scope own)
    (hg : ∀ (s : Shared) (H : Hp) (C : Addr) (cl : List (Str × Addr)) (fp : List Addr), DG (X.blk s H scope (compEnvC scope cl C X.env) fp) tg tgM (own.map (·.2)))
    (ht : ∀ (s : Shared) (H : Hp) (C : Addr) (cl : List (Str × Addr)) (fp : List Addr), DTs (X.blk s H scope (compEnvC scope cl C X.env) fp) W0 ifs tt)
    (hk : ∀ (s : Shared) (H : Hp) (C : Addr) (cl : List (Str × Addr)) (fp : List Addr), DE (X.blk s H scope (compEnvC scope cl C X.env) fp) W0 kx ek)
    (he : ∀ (s : Shared) (H : Hp) (C : Addr) (cl : List (Str × Addr)) (fp : List Addr), DE (X.blk s H scope (compEnvC scope cl C X.env) fp) W0 vx ev) (hs : ∀ x, foldedSetIterable iter X.env x = pure x := by intro _; rfl) :
    DB X W (.DictComp kx vx [⟨tg, iter, ifs, 0⟩] scope pos) (mDc (own.map (·.2)) tgM src tt ek ev) :=
  ⟨PE_imp (pe_dc (g := tgR X.K X.ev tgM (own.map (·.2))) (tt := tM X.K X.ev W0 rlT tt) (tk := tM X.K X.ev W0 (rlD X.K) ek) (tv := tM X.K X.ev W0 (rlD X.K) ev) hc hN hi.pi ok (fun s H C cl fp => (hg s H C cl fp).blk hc) (fun s H C cl fp => (ht s H C cl fp).blk hc) (fun s H C cl fp => (hk s H C cl fp).blk hc) (fun s H C cl fp => (he s H C cl fp).blk hc) hs) fun _ _ _ q => dc_read q⟩
end
end
end Dl

set_option Elab.async false
set_option linter.all false
set_option maxRecDepth 100000
set_option maxHeartbeats 2000000
/-! The data level: a comprehension over a list of one's own, which stays one's own. -/
namespace Dl
open PySem PySem.Spec PyProof.Rows L2
noncomputable section
def _root_.Dl.Gh.lkS (G : Gh) (a : Addr) (vs : List V) : Gh := { G with L := fun b => if b = a then some (.lst vs, 0) else G.L b, own := fun b => if b = a then .lk else G.own b }
def _root_.Dl.Gh.unS (G0 G : Gh) (a : Addr) (i : Nat) : Gh := { G with L := G0.L, own := fun b => if b = a then .slot i else G.own b }
section
variable {K : PySem.W.Frag} {mg : Ev} {G G' : Gh} {en en' : En} {so so' : So} {σ : L2.St} {H H' : Hp}
theorem Sim.lockS {i : Nat} {vs : List V} {a : Addr} (s : Sim K mg G en so σ H) (oa : G.own a = .slot i) (ha : H a = some (.lst vs)) : Sim K mg (G.lkS a vs) (en.set i none) so σ H := by
  have ne : ∀ b t, G.own b = t → t ≠ .slot i → b ≠ a := fun b t h1 h2 z => h2 (by rw [← h1, z]; exact oa)
  have ow : ∀ b t, G.own b = t → t ≠ .slot i → (G.lkS a vs).own b = t := fun b t h1 h2 => (if_neg (ne b t h1 h2)).trans h1
  refine ⟨⟨fun b u h => ?_, fun b u h => ?_, s.len, fun j o b dy e1 e2 => ?_, fun b u h => ?_⟩, by rw [List.length_set]; exact s.ln, fun j b h => ?_⟩
  · obtain ⟨h1, h2⟩ := s.fr b u h
    exact ⟨h1, ow b _ h2 (by intro z; cases z)⟩
  · obtain ⟨h1, h2⟩ := s.re b u h
    exact ⟨h1, ow b _ h2 (by intro z; cases z)⟩
  · refine (s.ob j o b dy e1 e2).keep (Same.refl _) (fun _ _ h => h) (fun c u h1 h2 => ?_) fun u h => ?_
    · have hc : c ≠ a := ne c _ rfl (by rcases h2 with h2 | h2 <;> (rw [h2]; intro z; cases z))
      exact ⟨h1, if_neg hc⟩
    · have hb : b ≠ a := ne b _ (s.lk _ _ h).2 (by intro z; cases z)
      exact (if_neg hb).trans h
  · have h' : (if b = a then some (HO.lst vs, 0) else G.L b) = some u := h
    by_cases hb : b = a
    · rw [if_pos hb] at h'
      cases h'
      subst hb
      exact ⟨ha, if_pos rfl⟩
    · rw [if_neg hb] at h'
      obtain ⟨h1, h2⟩ := s.lk b u h'
      exact ⟨h1, (if_neg hb).trans h2⟩
  · by_cases hj : i = j
    · subst hj
      by_cases hl : i < en.length
      · rw [List.getElem?_set_self hl] at h; cases h
      · rw [List.getElem?_eq_none (by rw [List.length_set]; omega)] at h; cases h
    · rw [List.getElem?_set_ne hj] at h
      obtain ⟨v, e1, r⟩ := s.sl j b h
      refine ⟨v, e1, r.keep (show Same G.F (G.lkS a vs).F from Same.refl _) (show Pre G.rho (G.lkS a vs).rho from fun _ _ h => h) fun c u h1 h2 => ?_⟩
      have hc : c ≠ a := ne c _ h2 (by intro z; cases z; exact hj rfl)
      exact ⟨h1, (if_neg hc).trans h2⟩
theorem Sim.unlockS {i : Nat} {xs : List D} {vs : List V} {a : Addr} (s0 : Sim K mg G en so σ H) (oa : G.own a = .slot i) (sa : σ[i]? = some (some (.ref a))) (rk : Reps K G.F G.rho vs xs)
    (l : (G.lkS a vs).le G') (s : Sim K mg G' en' so' σ H') : G.le (G.unS G' a i) ∧ Sim K mg (G.unS G' a i) (en'.set i (some (.cel (.lst xs)))) so' σ H' := by
  have hL : G'.L a = some (.lst vs, 0) := by rw [l.L]; exact if_pos rfl
  obtain ⟨hH, how⟩ := s.lk a _ hL
  have ne : ∀ b t, G'.own b = t → t ≠ .lk → b ≠ a := fun b t h1 h2 z => h2 (by rw [← h1, z]; exact how)
  have ow : ∀ b t, G'.own b = t → t ≠ .lk → (G.unS G' a i).own b = t := fun b t h1 h2 => (if_neg (ne b t h1 h2)).trans h1
  refine ⟨⟨l.F, l.rho, l.R, rfl⟩, ⟨⟨fun b u h => ?_, fun b u h => ?_, s.len, fun j o b dy e1 e2 => ?_, fun b u h => ?_⟩, by rw [List.length_set]; exact s.ln, fun j b h => ?_⟩⟩
  · obtain ⟨h1, h2⟩ := s.fr b u h
    exact ⟨h1, ow b _ h2 (by intro z; cases z)⟩
  · obtain ⟨h1, h2⟩ := s.re b u h
    exact ⟨h1, ow b _ h2 (by intro z; cases z)⟩
  · have hd : o = .dead ∨ b ≠ a := by
      cases o with
      | dead => exact .inl rfl
      | ob c fs =>
        have h1 : G'.own b = .ob j := (s.ob j _ b dy e1 e2).1
        exact .inr fun z => by rw [z, how] at h1; cases h1
      | cel c =>
        have h1 : G'.own b = .ob j := (s.ob j _ b dy e1 e2).1
        exact .inr fun z => by rw [z, how] at h1; cases h1
      | lck kv =>
        obtain ⟨o', kvs, e3, _⟩ := s.ob j _ b dy e1 e2
        exact .inr fun z => by rw [z, hL] at e3; cases e3
    rcases hd with rfl | hb
    · exact True.intro
    · refine (s.ob j o b dy e1 e2).keep (Same.refl _) (fun _ _ h => h) (fun c u h1 h2 => ?_) fun u h => ?_
      · have hc : c ≠ a := ne c _ rfl (by rcases h2 with h2 | h2 <;> (rw [h2]; intro z; cases z))
        exact ⟨h1, if_neg hc⟩
      · have h2 : G'.L b = some (u, j) := h
        rw [l.L] at h2
        have h3 : (if b = a then some (HO.lst vs, 0) else G.L b) = some (u, j) := h2
        rw [if_neg hb] at h3
        exact h3
  · have hb : b ≠ a := fun z => by
      have h1 := (s0.lk b u h).2
      rw [z, oa] at h1
      cases h1
    have h2 : G'.L b = some u := by
      rw [l.L]
      exact (if_neg hb).trans h
    obtain ⟨h3, h4⟩ := s.lk b u h2
    exact ⟨h3, (if_neg hb).trans h4⟩
  · by_cases hj : i = j
    · subst hj
      by_cases hl : i < en'.length
      · rw [List.getElem?_set_self hl] at h
        cases h
        exact ⟨_, sa, a, rfl, if_pos rfl, vs, hH, rk.mono l.F l.rho⟩
      · rw [List.getElem?_eq_none (by rw [List.length_set]; omega)] at h; cases h
    · rw [List.getElem?_set_ne hj] at h
      obtain ⟨v, e1, r⟩ := s.sl j b h
      refine ⟨v, e1, r.keep (show Same G'.F (G.unS G' a i).F from Same.refl _) (show Pre G'.rho (G.unS G' a i).rho from fun _ _ h => h) fun c u h1 h2 => ?_⟩
      have hc : c ≠ a := ne c _ h2 (by intro z; cases z)
      exact ⟨h1, (if_neg hc).trans h2⟩
end
/-- [elt for tg in the i-th name's own list if tt] -/
def mLcV (i : Nat) (vs : List Nat) (tg : Tg) (tt : M Bool) (el : M D) : M B := fun en so => match en[i]? with
  | some (some (.cel (.lst xs))) => (match lcGo vs tg tt el xs [] (wipeE (en.set i none) vs) so with
    | .ok ys en' so' => .ok (.cel (.lst ys)) ((backE (en.set i none) en' vs).set i (some (.cel (.lst xs)))) so'
    | _ => .no)
  | _ => .no
section
variable {X : Cx} {W : WX} {tg elt : Expr} {ifs : List Expr} {scope : Scope} {pos np : Pos} {own : List (Str × Nat)} {tgM : Tg} {tt : M Bool} {el : M D}
theorem b_lcV (i : Nat) {x : Str} (hc : X.calm = true) (hN : X.N.Nodup) (ok : BlkOk X.N X.env.scope scope own)
    (hg : ∀ (s : Shared) (H : Hp) (C : Addr) (cl : List (Str × Addr)) (fp : List Addr), DG (X.blk s H scope (compEnvC scope cl C X.env) fp) tg tgM (own.map (·.2)))
    (ht : ∀ (s : Shared) (H : Hp) (C : Addr) (cl : List (Str × Addr)) (fp : List Addr), DTs (X.blk s H scope (compEnvC scope cl C X.env) fp) W0 ifs tt)
    (he : ∀ (s : Shared) (H : Hp) (C : Addr) (cl : List (Str × Addr)) (fp : List Addr), DE (X.blk s H scope (compEnvC scope cl C X.env) fp) W0 elt el)
    (hx : X.N[i]? = some x := by rfl) (hv : Vis X.env.scope x := by first | exact Or.inl rfl | exact Or.inr (Or.inl rfl) | exact Or.inr (Or.inr rfl)) (hd : (x == ("__debug__" : Str)) = false := by decide)
    (hcd : (x == ("__classdict__" : Str)) = false := by decide) (hs : ∀ y, foldedSetIterable (.Name x np) X.env y = pure y := by intro _; rfl) :
    DB X W (.ListComp elt [⟨tg, .Name x np, ifs, 0⟩] scope pos) (mLcV i (own.map (·.2)) tgM tt el) := by
  refine ⟨PE_imp (pe_lc (g := tgR X.K X.ev tgM (own.map (·.2))) (tt := tM X.K X.ev W0 rlT tt) (te := tM X.K X.ev W0 (rlD X.K) el) hc hN (pi_list (pe_var (i := i) hx hv hd hcd)) ok (fun s H C cl fp => (hg s H C cl fp).blk hc) (fun s H C cl fp => (ht s H C cl fp).blk hc) (fun s H C cl fp => (he s H C cl fp).blk hc) hs) fun σ H Q ⟨G, en, so, s, p⟩ => ?_⟩
  unfold mLcV at p
  cases e : en[i]? with
  | none => rw [e] at p; exact p.elim
  | some o =>
    rcases o with _ | d | ⟨xs | kv⟩ | xc
    · rw [e] at p; exact p.elim
    · rw [e] at p; exact p.elim
    · rw [e] at p
      dsimp only at p
      obtain ⟨v, e1, a, rfl, oa, vs, ha, rk⟩ := s.sl i _ e
      refine ⟨_, e1, a, rfl, ⟨vs, SqL.of ha⟩, fun Dx hD => ?_⟩
      have s1 := s.lockS oa ha
      have wk : Walk X.K (G.lkS a vs).F (G.lkS a vs).L (G.lkS a vs).rho (Itl X.K a) xs := fun j H' sf sl => by
        have hs' : SqL X.K H' a vs := SqL.of (sl a _ (if_pos rfl))
        refine ⟨fun d e => ?_, fun hl => ⟨_, hs', by rw [rk.len]; exact hl⟩⟩
        obtain ⟨v, e1, r1⟩ := reps_at rk e
        refine ⟨⟨_, v, hs', e1⟩, fun x H'' ⟨h1, h2⟩ => .inl ⟨h1, ?_⟩⟩
        have h3 := h2 _ hs'
        rw [e1] at h3
        cases h3
        exact r1
      generalize hr : lcGo (own.map (·.2)) tgM tt el xs [] (wipeE (en.set i none) (own.map (·.2))) so = r at p
      match r, hr, p with
      | .ok ys enF soF, hr, p =>
        refine lc_tr s1 wk hD hr fun G' H' l' s' rb => ?_
        obtain ⟨l2, s2⟩ := s.unlockS oa e1 rk l' s'
        have hL : G'.L a = some (.lst vs, 0) := by rw [l'.L]; exact if_pos rfl
        have how := (s'.lk a _ hL).2
        refine p.ok' l2 s2 (rb.keep (show Same G'.F (G.unS G' a i).F from Same.refl _) (show Pre G'.rho (G.unS G' a i).rho from fun _ _ h => h) fun c u h1 h2 => ?_)
        have hc : c ≠ a := fun z => by rw [z, how] at h2; cases h2
        exact ⟨h1, (if_neg hc).trans h2⟩
      | .exc _ _ _, _, p => exact False.elim p
      | .no, _, p => exact False.elim p
    · rw [e] at p; exact p.elim
    · rw [e] at p; exact p.elim
end
end
end Dl

set_option Elab.async false
set_option linter.all false
set_option maxRecDepth 100000
set_option maxHeartbeats 1000000
/-! The data level: name = {.. for ..} on one line. -/
namespace L2
open PySem PySem.Spec PyProof.Rows
section
variable {X : Cx} {kx vx tg iter : Expr} {ifs : List Expr} {scope : Scope} {own : List (Str × Nat)} {pos spos py : Pos} {wi : TI} {g : TG} {tt : TT} {tk tv : TE} {i : Nat} {y : Str}
theorem ps_setDc (hc : X.calm = true) (hN : X.N.Nodup) (hy : X.N[i]? = some y) (loc : X.env.scope.names.lookup y = some .local)
    (sw : swapsWith (.DictComp kx vx [⟨tg, iter, ifs, 0⟩] scope pos) (some (.Name y py)) spos.line X.env = pure true) (hi : PI X tg iter wi) (ok : BlkOk X.N X.env.scope scope own)
    (hg : ∀ (s : Shared) (H : Hp) (C : Addr) (cl : List (Str × Addr)) (fp : List Addr), PG (X.blk s H scope (compEnvC scope cl C X.env) fp) tg g)
    (ht : ∀ (s : Shared) (H : Hp) (C : Addr) (cl : List (Str × Addr)) (fp : List Addr), PTs (X.blk s H scope (compEnvC scope cl C X.env) fp) ifs tt)
    (hk : ∀ (s : Shared) (H : Hp) (C : Addr) (cl : List (Str × Addr)) (fp : List Addr), PE (X.blk s H scope (compEnvC scope cl C X.env) fp) kx tk)
    (he : ∀ (s : Shared) (H : Hp) (C : Addr) (cl : List (Str × Addr)) (fp : List Addr), PE (X.blk s H scope (compEnvC scope cl C X.env) fp) vx tv) (hs : ∀ x, foldedSetIterable iter X.env x = pure x) :
    PS X (.Assign [.Name y py] (.DictComp kx vx [⟨tg, iter, ifs, 0⟩] scope pos) spos) (tAsg (tDc wi g tt tk tv (own.map (·.2))) (gName i)) := by
  constructor
  intro pins s σ H D I h
  have h : tDc wi g tt tk tv (own.map (·.2)) σ H (fun x H1 => gName i x σ H1 D.nx) := h
  rw [exec_Assign_Name_used _ _ _ _ sw]
  apply wpAny_bind
  apply wpAny_standAt
  apply wpAny_bind
  show wpAny _ X.A (comprehension (.DictComp kx vx [⟨tg, iter, ifs, 0⟩] scope pos) scope X.env (firstIterPos [⟨tg, iter, ifs, 0⟩] pos) newDict false (eval iter X.env) (some (assign (.Name y py) X.env)) >>= _) _ _ s
  apply wpAny_bind
  refine thn (dc_core (Qf := fun _ s' => SP X pins D .next s') hc hN I hi ok hg ht hk he hs h fun L C s' m J I2 q hn f => ?_) fun _ s' hq => wpAny_pure (wpAny_pure hq)
  show wpAny _ _ (assign (.Name y py) X.env (.ref L)) _ _ _
  apply wpAny_assign_Name
  refine store_ok2 (v := V.ref L) I2 hN hy (.inl loc) rfl (fun s2 I3 ⟨a, sb, ha⟩ => ?_) (.inr loc)
  rcases f with ⟨f0, f1, f2, f3, f4, f5⟩
  have ne : C ≠ a := ha.elim (fun z => z ▸ f1) fun z e => f4 y a z e.symm
  refine ⟨m, hn.sameBut sb ne, fun h3 sb3 => ⟨_, J, I3.turned (t' := s2.toks) (fun b o hb e => (sb3.2 b hb).trans e) f0 f1 f3 f4 f5, q⟩⟩
theorem swD_true {gs : List Comprehension} {l : Nat} {env : Env} (hk : env.scope.kind = .function) (hy : env.scope.names.lookup y = some .local) (hl : (py.line == pos.line) = true)
    (ha : (scope.names.any fun (n, k) => n == y && (k == .local || k == .cell)) = false) : swapsWith (.DictComp kx vx gs scope pos) (some (.Name y py)) l env = pure true := by
  have k1 : env.kindOf y = some .local := hy
  have k2 : env.blockKind = .function := by unfold Env.blockKind; rw [hk]; rfl
  unfold swapsWith
  simp only [k1, k2, ha, Expr.pos, hl]
  rfl
end
end L2
namespace Dl
open PySem PySem.Spec PyProof.Rows L2
noncomputable section
section
variable {X : Cx} {W : WX} {kx vx tg iter : Expr} {ifs : List Expr} {scope : Scope} {own : List (Str × Nat)} {pos spos py : Pos} {tgM : Tg} {src : M (List D)} {tt : M Bool} {ek ev : M D}
/-- name = {k: v for tg in iter if ..}: a dict in the store -/
theorem s_setDc {i : Nat} {y : Str} (hc : X.calm = true) (hN : X.N.Nodup) (hi : DI X W tg iter src) (ok : BlkOk X.N X.env.scope scope own)
    (hg : ∀ (s : Shared) (H : Hp) (C : Addr) (cl : List (Str × Addr)) (fp : List Addr), DG (X.blk s H scope (compEnvC scope cl C X.env) fp) tg tgM (own.map (·.2)))
    (ht : ∀ (s : Shared) (H : Hp) (C : Addr) (cl : List (Str × Addr)) (fp : List Addr), DTs (X.blk s H scope (compEnvC scope cl C X.env) fp) W0 ifs tt)
    (hk : ∀ (s : Shared) (H : Hp) (C : Addr) (cl : List (Str × Addr)) (fp : List Addr), DE (X.blk s H scope (compEnvC scope cl C X.env) fp) W0 kx ek)
    (he : ∀ (s : Shared) (H : Hp) (C : Addr) (cl : List (Str × Addr)) (fp : List Addr), DE (X.blk s H scope (compEnvC scope cl C X.env) fp) W0 vx ev)
    (hsw : swapsWith (.DictComp kx vx [⟨tg, iter, ifs, 0⟩] scope pos) (some (.Name y py)) spos.line X.env = pure true) (hy : X.N[i]? = some y := by rfl) (hyl : X.env.scope.names.lookup y = some .local := by rfl) (hs : ∀ x, foldedSetIterable iter X.env x = pure x := by intro _; rfl) :
    DS X W (.Assign [.Name y py] (.DictComp kx vx [⟨tg, iter, ifs, 0⟩] scope pos) spos) (sSet i (mCel (mDc (own.map (·.2)) tgM src tt ek ev))) := by
  refine ⟨PS_imp (ps_setDc (g := tgR X.K X.ev tgM (own.map (·.2))) (tt := tM X.K X.ev W0 rlT tt) (tk := tM X.K X.ev W0 (rlD X.K) ek) (tv := tM X.K X.ev W0 (rlD X.K) ev) hc hN hy hyl hsw hi.pi ok (fun s H C cl fp => (hg s H C cl fp).blk hc) (fun s H C cl fp => (ht s H C cl fp).blk hc) (fun s H C cl fp => (hk s H C cl fp).blk hc) (fun s H C cl fp => (he s H C cl fp).blk hc) hs) fun E σ H ⟨G, en, so, s, p⟩ => ?_⟩
  have p0 := (SPost.bind (R1 := rlD X.K) (σ := σ) p)
  refine dc_read (W := W) (mg := X.ev) ⟨G, en, so, s, (Post.bind (R1 := rlB X.K) p0).imp fun v H1 ⟨G1, en1, so1, b, l, r1, s1, p1⟩ => ?_⟩
  cases b with
  | dat d => exact p1.elim
  | exn x => exact p1.elim
  | cel c =>
    obtain ⟨a, rfl, w, cr⟩ := r1
    have s2 := s1.retag (t := .ob so1.length) w
    obtain ⟨s3, hl⟩ := s2.push (a := a) (dx := a) (o := .cel c) ⟨tag_own, cr.keep (Same.refl _) (fun _ _ h => h) fun o h => h⟩
    obtain ⟨G4, en4, so4, d, l4, r4, s4, p4⟩ := p1.ok' ((tag_le _ _).trans (push_le _ _)) s3 (.obj hl)
    exact p4 _ H1 G4 (.refl _) (s4.setD r4 i)
end
end
end Dl

set_option Elab.async false
set_option linter.all false
set_option maxRecDepth 100000
set_option maxHeartbeats 4000000
/-! sorted of texts, of a dict's keys, any number of them. -/
namespace Dl
open PySem PySem.Spec PyProof.Rows L2
section
variable {prog : Program} {A : Around} {w : World} {s : Shared}
def ltv (v u : Value) : Bool := ltCps (strOf v).cps.toList (strOf u).cps.toList
theorem ltv_eq (v u : Value) : ltv v u = decide ((strOf v).cps.toList < (strOf u).cps.toList) := ltCps_eq _ _
theorem swo_ltv : SrtO.Swo ltv := by
  constructor
  · intro x y h
    rw [ltv_eq] at h ⊢
    exact decide_eq_false fun z => List.lt_irrefl _ (List.lt_trans (of_decide_eq_true h) z)
  · intro x y z h1 h2
    rw [ltv_eq] at h1 h2 ⊢
    exact decide_eq_false (List.not_lt.mpr (List.le_trans (List.not_lt.mp (of_decide_eq_false h1)) (List.not_lt.mp (of_decide_eq_false h2))))
theorem strs_cmp {vs : List Value} {ss : List Str} (hS : StrsAre vs ss) : SrtO.Cmp prog w A s oneType' (fun p => p.1 ∈ vs) (SrtO.lt2 ltv) := by
  rintro ⟨v, v2⟩ ⟨u, u2⟩ hv hu
  rcases hS.all v hv with ⟨x, t, rfl⟩
  rcases hS.all u hu with ⟨y, t2, rfl⟩
  have e : ltv (.str x t) (.str y t2) = decide (x.cps.toList < y.cps.toList) := ltv_eq _ _
  show wpAny (model prog w) A (oneLt' true (.str x t) (.str y t2)) (fun r s' => s' = s ∧ r = ltv (.str x t) (.str y t2)) _ s
  exact oneLt_str ⟨rfl, e.symm⟩
theorem strs_sortable {a : Addr} {vs : List Value} {ss : List Str} (hS : StrsAre vs ss) (h2 : 2 ≤ vs.length) : SrtO.SortableO prog w A s a vs ltv := by
  rintro h' -
  refine ⟨oneType', fun Q E q => ?_, strs_cmp hS⟩
  rcases vs with _ | ⟨v1, _ | ⟨v2, r⟩⟩
  · exact absurd h2 (by decide)
  · exact absurd h2 (by simp)
  · rw [keyKind_strs hS]; exact wpAny_pure q
theorem strs_out {vs out : List Value} {ss : List Str} (hS : StrsAre vs ss) (hs : SrtO.Srtd ltv out) (hb : SrtO.Stb ltv out vs) : StrsAre out (out.map strOf) ∧ (out.map strOf).Perm ss ∧ sortedS (out.map strOf) = true := by
  refine ⟨strsAre_map out fun v hv => hS.all v (hb.perm.mem_iff.mp hv), ?_, sortedS_of_pairwise _ (List.pairwise_map.mpr hs)⟩
  have p := hb.perm.map strOf
  rw [hS.strs] at p
  exact p
end
section
variable {X : Cx}
def rSrtL (K : PySem.W.Frag) : List V → Hp → VK → Prop := fun vs H Q => ∃ (a : Addr) (xs : List Str), vs = [V.ref a] ∧ SqL K H a (xs.map V.str) ∧
  ∀ (zs : List Str) (b : Addr), zs.Perm xs → sortedS zs = true → H b = none → Q (.ref b) (upd H b (.lst (zs.map V.str)))
def rSrtK : List V → Hp → VK → Prop := fun xs H Q => ∃ (a : Addr) (kvs : List (Key × V)) (ks : List Str), xs = [.ref a] ∧ Rd H a (.dK kvs) ∧ kvs.map (·.1) = ks.map Sum.inr ∧
  ∀ ys p, ys.Perm ks → sortedS ys = true → H p = none → Q (.ref p) (upd H p (.lst (ys.map V.str)))
theorem cr_srtL : CallR X (.builtin "sorted") (rSrtL X.K) := by
  rintro pins s σ H vs us Q I r ⟨a, xs, rfl, hs, q⟩
  rcases I.list hs with ⟨its, rv, hl, hz⟩
  rw [Vals.ref1 r]
  have hS := rv.strs
  refine SrtO.sorted_ord swo_ltv hl.isList (by rw [← rv.length]; exact hz) (fun h2 _ _ _ _ => strs_sortable hS h2) fun out h1 h2 => ?_
  rcases strs_out hS h1 h2 with ⟨k1, k2, k3⟩
  obtain ⟨ep, he⟩ := PyProof.Rows.sortedAll_at s.heap its out.toArray
  have hn : ((out.map strOf).map V.str).length ≤ sizeLine := by
    rw [List.length_map] at hz ⊢
    rw [k2.length_eq]; exact hz
  have I2 := I.laid (t' := s.toks) (fun _ _ => PyProof.Rows.sortedAll_old (vs := its) (out := out.toArray)) (Nat.le_succ _) (o := .lst ((out.map strOf).map V.str)) ⟨hn, out, ep, vals_of_strs k1, he⟩
  exact ⟨.ref _, upd H (s.heap.objs.size + 1) (.lst ((out.map strOf).map V.str)), I2, rfl, q _ _ k2 k3 (I.hok.fresh (Nat.le_succ _))⟩
theorem cr_srtK (calm : X.calm = true) : CallR X (.builtin "sorted") rSrtK := by
  rintro pins s σ H xs us Q I r ⟨a, kvs, ks, rfl, hd, hks, q⟩
  rw [Vals.ref1 r]
  rcases dk_rd I.hok hd with ⟨z, lo, vs, rel, dd⟩
  rcases dd.dictAt with ⟨ep, hat⟩
  have ek : vs.map (·.1) = ks.map Sum.inr := rel.keys.symm.trans hks
  have el : vs.length = ks.length := by simpa using congrArg List.length ek
  have e0 : kvs.length = vs.length := rel.length
  have h16 : vs.length ≤ sizeLine := e0 ▸ z
  apply Calls.call_function_entry kind_sorted plain_sorted entry_sorted (args_sorted1 _)
  unfold Builtin.«sorted»
  refine wpAny_bind (m := checkCount "sorted" 1 1 _) (wpAny_pure (wpAny_bind ?_))
  refine PySem.W.kdu_collect (A := X.A.in1) (PySem.W.kdl_dict (knd := mixKind X.prog X.w) (kvs := vs) (ep := ep) lo) (I.ok.hd calm) hat h16 fun g tk acc hk ⟨ha1, ha2⟩ => ?_
  have al : acc.toList.length = ks.length := by rw [Array.length_toList, ha1, el]
  have hS : StrsAre acc.toList ks := strs_at al fun j v e => by
    rw [Array.getElem?_toList] at e
    rcases ha2 j v e with ⟨k, x, e1, e2⟩
    have e3 : (ks.map (Sum.inr : Str → Key))[j]? = some k := by rw [← ek, List.getElem?_map, e1]; rfl
    rw [List.getElem?_map] at e3
    rcases Option.map_eq_some_iff.mp e3 with ⟨y, e4, rfl⟩
    rcases Value.isStrOf_shape (x := y) (v := v) e2 with ⟨t, ev⟩
    exact ⟨y, t, e4, ev⟩
  have I1 : Inv X pins σ H { s with heap := g, toks := tk } := I.kept hk
  have hz : acc.toList.length ≤ sizeLine := by rw [al, ← el]; exact h16
  apply wpAny_bind
  refine wpAny_newList ?_ hz
  have hoL : (g.push (seqObj "list" acc.toList.toArray 0)).get? g.objs.size = some (seqObj "list" acc.toList.toArray 0) := Heap.get?_push_size _ rfl
  show wpAny _ _ _ _ _ { s with heap := g.push (seqObj "list" acc.toList.toArray 0), toks := tk }
  apply wpAny_bind
  apply wpAny_holding
  refine (wpAny_call_entry slot_list_sort ⟨_, hoL, rfl⟩ entry_list_sort (SrtO.list_sort_ord swo_ltv (s := { s with heap := g.push (seqObj "list" acc.toList.toArray 0), toks := tk }) hoL hz (fun h2 => strs_sortable hS h2) fun out h1 h2 => ⟨_, rfl, ?_⟩) (args_list_sort _))
  rcases strs_out hS h1 h2 with ⟨k1, k2, k3⟩
  obtain ⟨e', he⟩ := PyProof.Rows.sortedHeap_at (vs := acc.toList) (out := out.toArray) hoL
  have hn : ((out.map strOf).map V.str).length ≤ sizeLine := by rw [List.length_map, k2.length_eq, ← al]; exact hz
  have I2 := I1.laid (t' := tk) (a := g.objs.size) (o := .lst ((out.map strOf).map V.str)) (fun b u e => by
    have hb : b < g.objs.size := Heap.lt_size e
    rw [PyProof.Rows.sortedHeap_old (vs := acc.toList) (out := out.toArray) (Nat.ne_of_lt hb) (by rw [size_push']; exact Nat.le_succ_of_le hb)]
    exact Heap.get?_push_of_some _ e) (Nat.le_refl _) ⟨hn, out, e', vals_of_strs k1, he⟩
  exact wpAny_pure ⟨_, rfl, .ref g.objs.size, _, I2, rfl, q _ _ k2 k3 (I1.hok.fresh (Nat.le_refl _))⟩
end
end Dl
namespace Dl
open PySem PySem.Spec PyProof.Rows L2
section
variable {X : Cx}
/-- sorted(d, reverse=True): the keys, in some order -/
def rSrtKR : List V → List V → Hp → VK → Prop := fun xs zs H Q => ∃ (a : Addr) (kvs : List (Key × V)) (ks : List Str), xs = [.ref a] ∧ zs = [.bl true] ∧ Rd H a (.dK kvs) ∧ kvs.map (·.1) = ks.map Sum.inr ∧
  ∀ (ys : List Str) (b : Addr), ys.Perm ks → sortedS ys.reverse = true → H b = none → Q (.ref b) (upd H b (.lst (ys.map V.str)))
theorem cr_srtKR (calm : X.calm = true) : CallRK X (.builtin "sorted") [Str.ofString "reverse"] rSrtKR := by
  rintro pins s σ H xs zs us ws Q I r rz ⟨a, kvs, ks, rfl, rfl, hd, hks, q⟩
  rw [Vals.ref1 r]
  obtain ⟨w1, rfl, ew⟩ := vals1 rz
  obtain rfl : w1 = Value.bool true := ew
  rcases dk_rd I.hok hd with ⟨z, lo, vs, rel, dd⟩
  rcases dd.dictAt with ⟨ep, hat⟩
  have ek : vs.map (·.1) = ks.map Sum.inr := rel.keys.symm.trans hks
  have el : vs.length = ks.length := by simpa using congrArg List.length ek
  have e0 : kvs.length = vs.length := rel.length
  have h16 : vs.length ≤ sizeLine := e0 ▸ z
  apply call_function_entry_kw kind_sorted plain_sorted entry_sorted (args_sorted_rev _ _)
  unfold Builtin.«sorted»
  refine wpAny_bind (m := checkCount "sorted" 1 1 _) (wpAny_pure (wpAny_bind ?_))
  refine PySem.W.kdu_collect (A := X.A.in1) (PySem.W.kdl_dict (knd := mixKind X.prog X.w) (kvs := vs) (ep := ep) lo) (I.ok.hd calm) hat h16 fun g tk acc hk ⟨ha1, ha2⟩ => ?_
  have al : acc.toList.length = ks.length := by rw [Array.length_toList, ha1, el]
  have hS : StrsAre acc.toList ks := strs_at al fun j v e => by
    rw [Array.getElem?_toList] at e
    rcases ha2 j v e with ⟨k, x, e1, e2⟩
    have e3 : (ks.map (Sum.inr : Str → Key))[j]? = some k := by rw [← ek, List.getElem?_map, e1]; rfl
    rw [List.getElem?_map] at e3
    rcases Option.map_eq_some_iff.mp e3 with ⟨y, e4, rfl⟩
    rcases Value.isStrOf_shape (x := y) (v := v) e2 with ⟨t, ev⟩
    exact ⟨y, t, e4, ev⟩
  have I1 : Inv X pins σ H { s with heap := g, toks := tk } := I.kept hk
  have hz : acc.toList.length ≤ sizeLine := by rw [al, ← el]; exact h16
  apply wpAny_bind
  refine wpAny_newList ?_ hz
  have hoL : (g.push (seqObj "list" acc.toList.toArray 0)).get? g.objs.size = some (seqObj "list" acc.toList.toArray 0) := Heap.get?_push_size _ rfl
  show wpAny _ _ _ _ _ { s with heap := g.push (seqObj "list" acc.toList.toArray 0), toks := tk }
  apply wpAny_bind
  apply wpAny_holding
  refine (wpAny_call_entry_kw slot_list_sort ⟨_, hoL, rfl⟩ entry_list_sort (SrtR.list_sort_ordR (b := true) swo_ltv (s := { s with heap := g.push (seqObj "list" acc.toList.toArray 0), toks := tk }) hoL hz (fun h2 => strs_sortable hS h2) fun out h1 h2 => ⟨_, rfl, ?_⟩) (args_list_sort_rev _ _))
  have hS' : StrsAre acc.toList.reverse ks.reverse := by
    have h := strsAre_map acc.toList.reverse fun v hv => hS.all v (List.mem_reverse.mp hv)
    rw [List.map_reverse, hS.strs] at h
    exact h
  rcases strs_out hS' h1 h2 with ⟨k1, k2, k3⟩
  obtain ⟨e', he⟩ := PyProof.Rows.sortedHeap_at (vs := acc.toList) (out := out.toArray.reverse) hoL
  have he := he.trans (show some (seqObj "list" out.toArray.reverse e') = some (seqObj "list" out.toArray.reverse.toList.toArray e') by rw [Array.toArray_toList])
  have k4 : StrsAre out.toArray.reverse.toList (out.map strOf).reverse := by
    rw [Array.toList_reverse]
    have h := strsAre_map out.reverse fun v hv => k1.all v (List.mem_reverse.mp hv)
    rw [List.map_reverse] at h
    exact h
  have k5 : (out.map strOf).reverse.Perm ks := ((List.reverse_perm _).trans k2).trans (List.reverse_perm _)
  have hn : (((out.map strOf).reverse).map V.str).length ≤ sizeLine := by rw [List.length_map, k5.length_eq, ← al]; exact hz
  have I2 := I1.laid (t' := tk) (a := g.objs.size) (o := .lst (((out.map strOf).reverse).map V.str)) (fun b u e => by
    have hb : b < g.objs.size := Heap.lt_size e
    rw [PyProof.Rows.sortedHeap_old (vs := acc.toList) (out := out.toArray.reverse) (Nat.ne_of_lt hb) (by rw [size_push']; exact Nat.le_succ_of_le hb)]
    exact Heap.get?_push_of_some _ e) (Nat.le_refl _) ⟨hn, out.toArray.reverse.toList, e', vals_of_strs k4, he⟩
  exact wpAny_pure ⟨_, rfl, .ref g.objs.size, _, I2, rfl, q _ _ k5 (by rw [List.reverse_reverse]; exact k3) (I1.hok.fresh (Nat.le_refl _))⟩
end
end Dl

set_option Elab.async false
set_option linter.all false
set_option maxRecDepth 100000
set_option maxHeartbeats 2000000
/-! The data level: sorted, more of texts, a list handed on. -/
namespace Dl
open PySem PySem.Spec PyProof.Rows L2
noncomputable section

/-! ### texts in order -/
def leC (a b : List Nat) : Bool := !ltCps b a
def srtS (l : List (List Nat)) : List (List Nat) := l.mergeSort leC
theorem leC_nil (b : List Nat) : leC [] b = true := by cases b <;> rfl
theorem leC_cons (a b : Nat) (r t : List Nat) : leC (a :: r) (b :: t) = (decide (a < b) || (a == b && leC r t)) := by
  unfold leC
  simp only [ltCps]
  by_cases h1 : a < b
  · have h2 : ¬ b < a := by omega
    have h3 : (b == a) = false := by simp; omega
    simp [h1, h2, h3]
  · by_cases h2 : b < a
    · have h3 : (a == b) = false := by simp; omega
      simp [h1, h2, h3]
    · have h3 : a = b := by omega
      subst h3
      simp
theorem leC_total : ∀ a b : List Nat, (leC a b || leC b a) = true
  | [], b => by rw [leC_nil]; rfl
  | a :: r, [] => by rw [leC_nil]; simp
  | a :: r, b :: t => by
    rw [leC_cons, leC_cons]
    by_cases h1 : a < b
    · simp [h1]
    · by_cases h2 : b < a
      · simp [h2]
      · have h3 : a = b := by omega
        subst h3
        have := leC_total r t
        simpa using this
theorem leC_anti : ∀ a b : List Nat, leC a b = true → leC b a = true → a = b
  | [], [], _, _ => rfl
  | [], _ :: _, _, h => by cases h
  | _ :: _, [], h, _ => by cases h
  | a :: r, b :: t, h1, h2 => by
    rw [leC_cons] at h1 h2
    simp only [Bool.or_eq_true, decide_eq_true_eq, Bool.and_eq_true, beq_iff_eq] at h1 h2
    rcases h1 with h1 | ⟨h1, h3⟩
    · rcases h2 with h2 | ⟨h2, _⟩ <;> omega
    · rcases h2 with h2 | ⟨h2, h4⟩
      · omega
      · rw [h1, leC_anti r t h3 h4]
theorem leC_trans : ∀ a b c : List Nat, leC a b = true → leC b c = true → leC a c = true
  | [], _, c, _, _ => leC_nil c
  | _ :: _, [], _, h, _ => by cases h
  | _ :: _, _ :: _, [], _, h => by cases h
  | a :: r, b :: t, c :: u, h1, h2 => by
    rw [leC_cons] at h1 h2 ⊢
    simp only [Bool.or_eq_true, decide_eq_true_eq, Bool.and_eq_true, beq_iff_eq] at h1 h2 ⊢
    rcases h1 with h1 | ⟨h1, h3⟩
    · rcases h2 with h2 | ⟨h2, _⟩
      · exact .inl (by omega)
      · exact .inl (by omega)
    · rcases h2 with h2 | ⟨h2, h4⟩
      · exact .inl (by omega)
      · exact .inr ⟨h1.trans h2, leC_trans r t u h3 h4⟩
theorem srtS_perm (l : List (List Nat)) : (srtS l).Perm l := List.mergeSort_perm l leC
theorem srtS_pw (l : List (List Nat)) : (srtS l).Pairwise fun a b => leC a b = true := List.pairwise_mergeSort leC_trans leC_total l
theorem srtS_len (l : List (List Nat)) : (srtS l).length = l.length := (srtS_perm l).length_eq
/-- what is sorted and has the same texts is it -/
theorem srtS_uniq {l m : List (List Nat)} (hp : m.Perm l) (hs : m.Pairwise fun a b => leC a b = true) : m = srtS l :=
  List.Perm.eq_of_pairwise (le := fun a b => leC a b = true) (fun a b _ _ h1 h2 => leC_anti a b h1 h2) hs (srtS_pw l) (hp.trans (srtS_perm l).symm)
theorem rising_pw : ∀ (ys : List Str) (p : Str), risingS p ys = true → (p :: ys).Pairwise fun a b => leC a.cps.toList b.cps.toList = true
  | [], p, _ => List.pairwise_singleton _ _
  | x :: r, p, h => by
    have h' : (!ltCps x.cps.toList p.cps.toList && risingS x r) = true := h
    rw [Bool.and_eq_true] at h'
    have ih := rising_pw r x h'.2
    rw [List.pairwise_cons] at ih ⊢
    refine ⟨fun y hy => ?_, List.pairwise_cons.mpr ih⟩
    rcases List.mem_cons.mp hy with rfl | hy
    · exact h'.1
    · exact leC_trans _ _ _ h'.1 (ih.1 y hy)
theorem sortedS_uniq {ys : List Str} {l : List (List Nat)} (hp : ys.Perm (l.map sT)) (hs : sortedS ys = true) : ys = (srtS l).map sT := by
  have pw : ys.Pairwise fun a b => leC a.cps.toList b.cps.toList = true := by
    cases ys with
    | nil => exact List.Pairwise.nil
    | cons x r => exact rising_pw r x hs
  have e : ys.map (fun x => x.cps.toList) = srtS l := by
    refine srtS_uniq ?_ (List.pairwise_map.mpr pw)
    have := hp.map (fun x => x.cps.toList)
    rw [List.map_map] at this
    have e2 : ((fun x : Str => x.cps.toList) ∘ sT) = id := by funext z; exact tl_sT z
    rw [e2, List.map_id] at this
    exact this
  rw [← e, List.map_map]
  have e3 : (sT ∘ fun x : Str => x.cps.toList) = id := by funext z; exact sT_tl z
  rw [e3, List.map_id]
def sortedD : List D → M B
  | [.lst xs] => opM (strsOf xs) fun ys => pu (.cel (.lst ((srtS ys).map .str)))
  | _ => no
/-- the keys of a dict, all texts -/
def kstrs : List (Ky × D) → Option (List (List Nat))
  | [] => some []
  | (.inr s, _) :: r => (kstrs r).map (s :: ·)
  | _ => none
def sortedK : List D → M B
  | [d] => bd (dctO d) fun kv => opM (kstrs kv) fun ys => pu (.cel (.lst ((srtS ys).map .str)))
  | _ => no
def listK : List D → M B
  | [d] => bd (dctO d) fun kv => pu (.cel (.lst (keysD kv)))
  | _ => no
section
variable {K : PySem.W.Frag} {mg : Ev}
theorem opn_sorted : OpNB K mg (rSrtL K) sortedD := by
  intro xs ds G en so σ H W Q r s p
  match ds, r, p with
  | [.lst zs], r, p =>
    obtain ⟨x, rfl, h⟩ := reps1 r
    cases h with
    | lst h r2 =>
      obtain ⟨ys, ey, p3⟩ := opM_at p
      refine ⟨_, ys.map sT, rfl, ?_, fun zs q hp hs hq => ?_⟩
      · rw [← strs_of r2 ey]
        exact s.toSimO.rep.seq h
      · rw [sortedS_uniq hp hs]
        exact p3.ok' (tag_le q .tmp) (s.newT (t := .tmp) hq) ⟨q, rfl, tag_own, _, upd_same, reps_strs _⟩
  | [], _, p => exact False.elim p
  | [.non], _, p => exact False.elim p
  | [.bl _], _, p => exact False.elim p
  | [.int _], _, p => exact False.elim p
  | [.str _], _, p => exact False.elim p
  | [.tup _], _, p => exact False.elim p
  | [.dct _], _, p => exact False.elim p
  | [.obj _], _, p => exact False.elim p
  | d :: _ :: _, _, p => cases d <;> exact False.elim p
theorem kstrs_keys {F : Hp} {rho : List (Addr × Addr)} : ∀ {kv : List (Ky × D)} {ys : List (List Nat)} {kvs : List (Key × V)}, RepK K F rho kvs kv → kstrs kv = some ys → kvs.map (·.1) = (ys.map sT).map Sum.inr
  | [], ys, _, .nil, e => by cases e; rfl
  | (.inr s, d) :: r, ys, _, .cons h q, e => by
    have e' : (kstrs r).map (s :: ·) = some ys := e
    cases e2 : kstrs r with
    | none => rw [e2] at e'; cases e'
    | some zs =>
      rw [e2] at e'
      cases e'
      rw [List.map_cons, kstrs_keys q e2]
      rfl
  | (.inl i, d) :: r, ys, _, _, e => nomatch e
theorem opn_sortedK : OpNB K mg rSrtK sortedK := by
  intro xs ds G en so σ H W Q r s p
  match ds, r, p with
  | [d], r, p =>
    obtain ⟨x, rfl, h⟩ := reps1 r
    obtain ⟨kds, ca, p2⟩ := dctO_at s h p
    obtain ⟨ys, ey, p4⟩ := opM_at p2
    obtain ⟨a0, kvs, rfl, hd, rk⟩ := ca
    refine ⟨a0, kvs, ys.map sT, rfl, hd, kstrs_keys rk ey, fun zs q hp hs hq => ?_⟩
    rw [sortedS_uniq hp hs]
    exact p4.ok' (tag_le q .tmp) (s.newT (t := .tmp) hq) ⟨q, rfl, tag_own, _, upd_same, reps_strs _⟩
  | [], _, p => exact False.elim p
  | d :: _ :: _, _, p => exact False.elim p
theorem reps_keys {F : Hp} {rho : List (Addr × Addr)} : ∀ {kvs : List (Key × V)} {kv : List (Ky × D)}, RepK K F rho kvs kv → Reps K F rho (kvs.map fun p => kV p.1) (keysD kv)
  | _, _, .nil => .nil
  | _, _, .cons (k := j) h q => .cons (ky_rep j) (reps_keys q)
theorem opn_listK : OpNB K mg (fun xs H Q => ∃ (a : Addr) (kvs : List (Key × V)), xs = [.ref a] ∧ Rd H a (.dK kvs) ∧ ∀ p, H p = none → Q (.ref p) (upd H p (.lst (kvs.map fun kv => kV kv.1)))) listK := by
  intro xs ds G en so σ H W Q r s p
  match ds, r, p with
  | [d], r, p =>
    obtain ⟨x, rfl, h⟩ := reps1 r
    obtain ⟨kds, ca, p2⟩ := dctO_at s h p
    obtain ⟨a0, kvs, rfl, hd, rk⟩ := ca
    exact ⟨a0, kvs, rfl, hd, fun q hq => p2.ok' (tag_le q .tmp) (s.newT (t := .tmp) hq) ⟨q, rfl, tag_own, _, upd_same, reps_keys rk⟩⟩
  | [], _, p => exact False.elim p
  | d :: _ :: _, _, p => exact False.elim p
end

/-! ### texts -/
def tsD (i : Int) : List Nat := (toString i : Str).cps.toList
theorem str_int (i : Int) : (toString i : Str) = sT (tsD i) := (sT_tl _).symm
def strI : List D → M D
  | [.int i] => gd (i.natAbs.log2 < 1920) (pu (.str (tsD i)))
  | [.str s] => pu (.str s)
  | _ => no
def smulD : D → D → M D
  | .str z, .int n => gd (n ≤ 16777216 ∧ -16777216 ≤ n ∧ z.length * n.toNat ≤ 16777216) (pu (.str (List.replicate n.toNat z).flatten))
  | _, _ => no
/-- y in x of texts -/
def subD' (x y : List Nat) : Bool := !(Builtin.Str.occurrences (sT x) (sT y) 0 x.length 1).isEmpty
def inS : D → D → M D
  | .str y, .str x => pu (.bl (subD' x y))
  | _, _ => no
def niS : D → D → M D
  | .str y, .str x => pu (.bl (!subD' x y))
  | _, _ => no
def lstripD (z : List Nat) : D → M D
  | .str t => gd (z.length ≤ 16777216) (pu (.str (Txt.lstripChars (sT z) (sT t)).cps.toList))
  | _ => no
def rstripD (z : List Nat) : D → M D
  | .str t => gd (z.length ≤ 16777216) (pu (.str (Txt.rstripChars (sT z) (sT t)).cps.toList))
  | _ => no
def upperD (z : List Nat) : M D := gd (z.length ≤ 5592405) (pu (.str (Txt.upper (sT z)).cps.toList))
theorem rep_str (F : Hp) (K : PySem.W.Frag) (rho : List (Addr × Addr)) (x : Str) : Rep K F rho (.str x) (.str x.cps.toList) := .of_str x rfl
section
variable {K : PySem.W.Frag} {mg : Ev}
theorem opn_str : OpN K mg (fun xs H Q => (∃ i, xs = [.int i] ∧ i.natAbs.log2 < 1920 ∧ Q (.str (toString i)) H) ∨ ∃ a, xs = [.str a] ∧ Q (.str a) H) strI := by
  intro xs ds G en so σ H W Q r s p
  match ds, r, p with
  | [d], r, p =>
    obtain ⟨x, rfl, h⟩ := reps1 r
    cases h with
    | int i =>
      obtain ⟨h1, p2⟩ := Post.gd (c := i.natAbs.log2 < 1920) p
      refine .inl ⟨i, rfl, h1, ?_⟩
      rw [str_int]
      exact p2.ok s (.str _)
    | str z => exact .inr ⟨_, rfl, p.ok s (.str _)⟩
    | _ => exact False.elim p
  | [], _, p => exact False.elim p
  | d :: _ :: _, _, p => cases d <;> exact False.elim p
theorem rep_toList (k : Nat) (z : List Nat) : ∀ acc : Array Nat, ((List.replicate k z.toArray).foldl (· ++ ·) acc).toList = acc.toList ++ (List.replicate k z).flatten := by
  induction k with
  | zero => intro acc; simp
  | succ k ih =>
    intro acc
    rw [List.replicate_succ, List.replicate_succ, List.foldl_cons, ih, List.flatten_cons]
    simp
def rSMul : R2 := fun x y H Q => ∃ (z : Str) (n : Int), x = .str z ∧ y = .int n ∧ n ≤ 16777216 ∧ -16777216 ≤ n ∧ z.length * n.toNat ≤ 16777216 ∧ Q (.str (sT (List.replicate n.toNat z.cps.toList).flatten)) H
theorem op_smul {X : Cx} : OpR X (binaryOp .Mult) rSMul := by
  intro pins s σ H x y v u Q I rx ry h
  obtain ⟨z, n, rfl, rfl, h1, h2, h3, q⟩ := h
  obtain ⟨t, rfl⟩ := (show ∃ t, v = Value.str z t from rx)
  obtain ⟨t', rfl⟩ := (show ∃ t', u = Value.int n t' from ry)
  have hz : z = sT z.cps.toList := (sT_tl z).symm
  refine PySem.P.mul_str ?_ (fun h4 h5 => ?_) (fun h4 h5 => ?_) ?_
  · rw [decide_eq_false (by omega), decide_eq_false (by omega)]; rfl
  · have h6 : (z.length : Int) * n ≤ 2 ^ 63 - 1 := by
      have e : ((z.length * n.toNat : Nat) : Int) = (z.length : Int) * n := by
        rw [Int.natCast_mul, Int.toNat_of_nonneg (by omega)]
      omega
    have := Int.le_ediv_of_mul_le (by omega) h6
    omega
  · unfold Builtin.Str.tooLong sizeLine
    exact decide_eq_false (by omega)
  · by_cases hn : n < 1
    · rw [if_pos hn]
      refine ⟨by decide, .str Str.empty, H, I.tok _, ⟨_, rfl⟩, ?_⟩
      have : n.toNat = 0 := by omega
      rw [this] at q
      exact q
    · rw [if_neg hn]
      have e1 : sT (List.replicate n.toNat z.cps.toList).flatten = ⟨(List.replicate n.toNat z.cps).foldl (· ++ ·) #[]⟩ := by
        apply TL.ext_tl
        show (sT _).cps.toList = ((List.replicate n.toNat z.cps).foldl (· ++ ·) #[]).toList
        rw [tl_sT]
        have := rep_toList n.toNat z.cps.toList #[]
        rw [Array.toArray_toList] at this
        rw [this]
        rfl
      by_cases hb : (n == 1 || z.length == 0) = true
      · rw [if_pos hb]
        refine ⟨.str z, H, I, ⟨_, rfl⟩, ?_⟩
        have e2 : sT (List.replicate n.toNat z.cps.toList).flatten = z := by
          rw [Bool.or_eq_true] at hb
          rcases hb with hb | hb
          · have : n = 1 := beq_iff_eq.mp hb
            subst this
            show sT (List.replicate 1 z.cps.toList).flatten = z
            simp [sT_tl]
          · have hz0 : z.cps.toList = [] := by
              have : z.cps.size = 0 := beq_iff_eq.mp hb
              simpa using this
            rw [hz0]
            have : (List.replicate n.toNat ([] : List Nat)).flatten = [] := by simp
            rw [this, ← hz0, sT_tl]
        rw [e2] at q
        exact q
      · rw [if_neg hb]
        refine ⟨?_, .str _, H, I.tok _, ⟨_, rfl⟩, by rw [← e1]; exact q⟩
        rw [← e1, sT_len, sizeLine_eq]
        have : (List.replicate n.toNat z.cps.toList).flatten.length = n.toNat * z.cps.toList.length := by simp [List.length_flatten]
        have e3 : z.cps.toList.length = z.length := by show _ = z.cps.size; simp
        rw [this, Nat.mul_comm, e3]
        exact h3
theorem op2_smul : Op2 K mg rSMul smulD := by
  intro x y d e G en so σ H W Q rx ry s p
  cases rx with
  | str z =>
    cases ry with
    | int n =>
      obtain ⟨⟨h1, h2, h3⟩, p⟩ := Post.gd (c := n ≤ 16777216 ∧ -16777216 ≤ n ∧ z.length * n.toNat ≤ 16777216) p
      refine ⟨sT z, n, rfl, rfl, h1, h2, by rw [sT_len]; exact h3, ?_⟩
      rw [tl_sT]
      exact p.ok s (.str _)
    | _ => exact False.elim p
  | _ => cases ry <;> exact False.elim p
theorem op2_inS : Op2 K mg (fun x y H Q => ∃ i j, x = .str i ∧ y = .str j ∧ Q (.bl (!(Builtin.Str.occurrences j i 0 j.length 1).isEmpty)) H) inS := by
  intro x y d e G en so σ H W Q rx ry s p
  cases rx with
  | str z =>
    cases ry with
    | str t =>
      refine ⟨_, _, rfl, rfl, ?_⟩
      rw [sT_len]
      exact p.ok s (.bl _)
    | _ => exact False.elim p
  | _ => cases ry <;> exact False.elim p
theorem op2_niS : Op2 K mg (fun x y H Q => ∃ i j, x = .str i ∧ y = .str j ∧ Q (.bl (!(!(Builtin.Str.occurrences j i 0 j.length 1).isEmpty))) H) niS := by
  intro x y d e G en so σ H W Q rx ry s p
  cases rx with
  | str z =>
    cases ry with
    | str t =>
      refine ⟨_, _, rfl, rfl, ?_⟩
      rw [sT_len]
      exact p.ok s (.bl _)
    | _ => exact False.elim p
  | _ => cases ry <;> exact False.elim p
theorem opm_lstrip : OpM1 K mg (fun x xs H Q => ∃ a b, x = .str a ∧ xs = [.str b] ∧ a.length ≤ sizeLine ∧ Q (.str (Txt.lstripChars a b)) H) lstripD := by
  intro z y d G en so σ H W Q ry s p
  cases ry with
  | str t =>
    obtain ⟨h1, p⟩ := Post.gd (c := z.length ≤ 16777216) p
    exact ⟨_, _, rfl, rfl, by rw [sT_len, sizeLine_eq]; exact h1, p.ok s (rep_str _ _ _ _)⟩
  | _ => exact False.elim p
theorem opm_rstrip : OpM1 K mg (fun x xs H Q => ∃ a b, x = .str a ∧ xs = [.str b] ∧ a.length ≤ sizeLine ∧ Q (.str (Txt.rstripChars a b)) H) rstripD := by
  intro z y d G en so σ H W Q ry s p
  cases ry with
  | str t =>
    obtain ⟨h1, p⟩ := Post.gd (c := z.length ≤ 16777216) p
    exact ⟨_, _, rfl, rfl, by rw [sT_len, sizeLine_eq]; exact h1, p.ok s (rep_str _ _ _ _)⟩
  | _ => exact False.elim p
theorem opm_upper : OpM0 K mg (fun x xs H Q => ∃ a, x = .str a ∧ xs = [] ∧ a.length ≤ 5592405 ∧ Q (.str (Txt.upper a)) H) upperD := by
  intro z G en so σ H W Q s p
  obtain ⟨h1, p⟩ := Post.gd (c := z.length ≤ 5592405) p
  exact ⟨_, rfl, rfl, by rw [sT_len]; exact h1, p.ok s (rep_str _ _ _ _)⟩
end

/-! ### a list of one's own is handed on; extend -/
/-- a name's own list, which nobody reads by that name any more -/
def mMv (i : Nat) : M B := fun en so => match en[i]? with
  | some (some (.cel c)) => .ok (.cel c) (en.set i none) so
  | some (some (.dat d)) => .ok (.dat d) en so
  | _ => .no
section
variable {K : PySem.W.Frag} {mg : Ev} {G : Gh} {en : En} {so : So} {σ : L2.St} {H : Hp}
theorem Sim.moveS {i : Nat} {c : C} {v : V} (s : Sim K mg G en so σ H) (e : en[i]? = some (some (.cel c))) (ev : σ[i]? = some (some v)) : ∃ G', G.le G' ∧ Sim K mg G' (en.set i none) so σ H ∧ RB K G' H .tmp v (.cel c) := by
  obtain ⟨v', e1, a, rfl, w, cr⟩ := s.sl i _ e
  rw [ev] at e1
  cases e1
  have eF : Same G.F (G.tag a .tmp).F := Same.refl G.F
  have er : Pre G.rho (G.tag a .tmp).rho := fun _ _ h => h
  have kp : ∀ b t, G.own b = t → t ≠ .slot i → (G.tag a .tmp).own b = t := fun b t e q => by
    have : b ≠ a := fun z => q (by rw [← e, z]; exact w)
    exact (if_neg this).trans e
  refine ⟨G.tag a .tmp, tag_le _ _, ⟨⟨fun b u e => ?_, fun b u e => ?_, s.len, fun k ob b dx e1 e2 => ?_, fun b u e => ?_⟩, by rw [List.length_set]; exact s.ln, fun j b ej => ?_⟩, a, rfl, tag_own, cr.keep eF er fun _ h => h⟩
  · obtain ⟨h1, h2⟩ := s.fr b u e
    exact ⟨h1, kp b _ h2 (by intro z; cases z)⟩
  · obtain ⟨h1, h2⟩ := s.re b u e
    exact ⟨h1, kp b _ h2 (by intro z; cases z)⟩
  · exact (s.ob k ob b dx e1 e2).keep eF er fun b u h1 h2 => ⟨h1, kp b _ rfl (by rcases h2 with h2 | h2 <;> (rw [h2]; intro z; cases z))⟩
  · obtain ⟨h1, h2⟩ := s.lk b u e
    exact ⟨h1, kp b _ h2 (by intro z; cases z)⟩
  · by_cases hj : i = j
    · subst hj
      by_cases hl : i < en.length
      · rw [List.getElem?_set_self hl] at ej
        cases ej
      · rw [List.getElem?_eq_none (by rw [List.length_set]; omega)] at ej
        cases ej
    · rw [List.getElem?_set_ne hj] at ej
      obtain ⟨v', e', r'⟩ := s.sl j b ej
      exact ⟨v', e', r'.keep eF er fun b u h1 h2 => ⟨h1, kp b _ h2 (by intro z; cases z; exact hj rfl)⟩⟩
end
section
variable {X : Cx} {W : WX}
theorem b_mv (i : Nat) {x : Str} {pos : Pos} (hN : X.N[i]? = some x := by rfl) (hv : Vis X.env.scope x := by first | exact Or.inl rfl | exact Or.inr (Or.inl rfl) | exact Or.inr (Or.inr rfl)) (hd : (x == ("__debug__" : Str)) = false := by decide)
    (hcd : (x == ("__classdict__" : Str)) = false := by decide) : DB X W (.Name x pos) (mMv i) := by
  refine ⟨PE_imp (pe_var hN hv hd hcd) fun σ H Q ⟨G, en, so, s, p⟩ => ?_⟩
  unfold mMv at p
  split at p
  · rename_i c e
    obtain ⟨v, e1, r⟩ := s.sl i _ e
    obtain ⟨G', l, s', r'⟩ := s.moveS e e1
    exact ⟨v, e1, p.ok' l s' r'⟩
  · rename_i d e
    obtain ⟨v, e1, r⟩ := s.sl i _ e
    exact ⟨v, e1, p.ok s r⟩
  · exact p.elim
end
end
end Dl

set_option Elab.async false
set_option linter.all false
set_option maxRecDepth 100000
set_option maxHeartbeats 1000000
/-! The data level: == of lists, tuples and dicts as they stand just now, one inside of the other. -/
namespace PySem.SeqAt
open AutoSeq1 (wpAny_loadPart')
open MeetsSeq MeetsSeq2 MeetsSeq3 SeqRoads2
section
variable {P : Program} {w : World}
theorem tupP_in (l b : Addr) (xs ys : Array Value) (n n2 : Nat) (dl db : Option Addr) (sl sb : Array (Option Value)) (e : Nat → Bool) :
    MeetsIn P w (Builtin.«tuple.__eq__» ⟨[.ref l, .ref b], []⟩)
      (fun A R s => (s.heap.get? l = some { cls := .type "tuple", dict := dl, data := .seq xs n, slots := sl } ∧ s.heap.get? b = some { cls := .type "tuple", dict := db, data := .seq ys n2, slots := sb }) ∧
        (∀ j (h1 : j < xs.size) (h2 : j < ys.size), EqP P w A.in1 s xs[j] ys[j] (e j)) ∧ R (.ok (.ret (.bool ((List.range (min xs.size ys.size)).all e && xs.size == ys.size)))) s) := by
  rintro A R ⟨hp, g, d, tk, os⟩ ⟨⟨hl, hb⟩, he, h⟩
  have f2 := AutoSeq1.sub_tuple_tuple
  have hZ : (xs.toList.zip ys.toList).length = min xs.size ys.size := by simp
  wp_walk using wpAny_loadPart' hl, wpAny_loadPart' hb, wpAny_forIn_list _ (fun rest q s' => q.1 = none ∧ s' = ⟨hp, g, d, tk, os⟩ ∧ ∃ i, rest = (xs.toList.zip ys.toList).drop i ∧
    R (.ok (.ret (.bool (((List.range (min xs.size ys.size)).drop i).all e && xs.size == ys.size)))) ⟨hp, g, d, tk, os⟩) _
  case turn =>
    rintro ⟨y, x⟩ rest q s' ⟨hq, rfl, i, hz, hR⟩
    have lt : i < (xs.toList.zip ys.toList).length := by
      apply Classical.byContradiction
      intro z
      rw [List.drop_of_length_le (Nat.not_lt.mp z)] at hz
      cases hz
    have m0 : i < min xs.size ys.size := by rw [← hZ]; exact lt
    have m1 : i < xs.size := Nat.lt_of_lt_of_le m0 (Nat.min_le_left _ _)
    have m2 : i < ys.size := Nat.lt_of_lt_of_le m0 (Nat.min_le_right _ _)
    rw [List.drop_eq_getElem_cons lt] at hz
    obtain ⟨e1, e2⟩ := List.cons.inj hz
    obtain ⟨rfl, rfl⟩ : y = xs[i] ∧ x = ys[i] := by
      have a1 := congrArg Prod.fst e1
      have a2 := congrArg Prod.snd e1
      exact ⟨by simpa using a1, by simpa using a2⟩
    have dr : (List.range (min xs.size ys.size)).drop i = i :: (List.range (min xs.size ys.size)).drop (i + 1) := by simp [List.drop_eq_getElem_cons, m0]
    rw [dr, List.all_cons] at hR
    refine wpAny_bind (he i m1 m2 _ _ ?_)
    cases q0 : e i with
    | true =>
      rw [q0] at hR
      wp_walk
      exact ⟨rfl, rfl, i + 1, e2, by simpa using hR⟩
    | false =>
      rw [q0] at hR
      wp_walk
      simpa using hR
  case fin =>
    rintro ⟨q1, q2⟩ s' ⟨hq, rfl, i, hz, hR⟩
    cases (show q1 = none from hq)
    have ge : min xs.size ys.size ≤ i := by
      apply Classical.byContradiction
      intro z
      rw [List.drop_eq_getElem_cons (show i < (xs.toList.zip ys.toList).length by rw [hZ]; omega)] at hz
      cases hz
    rw [List.drop_of_length_le (by simpa using ge)] at hR
    wp_walk
    simpa [Builtin.Tuple.tupleCompareSizes] using hR
  case h => exact ⟨rfl, rfl, 0, rfl, by simpa using h⟩
theorem rcP_tups {A : Around} {s : Shared} {l b : Addr} {xs ys : Array Value} {e : Nat → Bool} (hl : s.heap.IsTuple l xs) (hb : s.heap.IsTuple b ys) (hu : A.units < cLine)
    (he : ∀ j (h1 : j < xs.size) (h2 : j < ys.size), EqP P w A.in1 s xs[j] ys[j] (e j)) (E Q : Value → Shared → Prop) (h : Q (.bool ((List.range (min xs.size ys.size)).all e && xs.size == ys.size)) s) : wpAny (model P w) A (richCompare .Eq (.ref l) (.ref b)) Q E s := by
  rcases id hl with ⟨⟨c1, d1, a1, s1⟩, o1, k1, n1, m1⟩
  rcases id hb with ⟨⟨c2, d2, a2, s2⟩, o2, k2, n2, m2⟩
  dsimp only at k1 m1 k2 m2
  subst k1 m1 k2 m2
  have t1 : s.TypeIs (.ref l) "tuple" := ⟨_, o1, rfl⟩
  have t2 : s.TypeIs (.ref b) "tuple" := ⟨_, o2, rfl⟩
  refine wpAny_richCompare_same_room (op := .Eq) t1 t2 F.slot_tuple_eq ?_ hu
  refine call_meetsIn F.slot_tuple_eq t1 F.entry_tuple_eq (F.args_tuple_eq_2 _ _) (tupP_in l b xs ys n1 n2 d1 d2 s1 s2 e) ?_
  exact ⟨⟨o1, o2⟩, he, (fun x => nomatch x), h⟩
end
end PySem.SeqAt

namespace Dl
open PySem PySem.Spec PyProof.Rows L2
noncomputable section
def zipE (f : D → D → Option Bool) : List D → List D → Option Bool
  | x :: xs, y :: ys => match f x y, zipE f xs ys with
    | some p, some q => some (p && q)
    | _, _ => none
  | _, _ => some true
def hitE (f : D → D → Option Bool) (b : List (Ky × D)) : List (Ky × D) → Option Bool
  | [] => some true
  | (k, v) :: r => match valD b k with
    | none => some false
    | some y => match f v y, hitE f b r with
      | some p, some q => some (p && q)
      | _, _ => none
/-- d == e, of nesting below n, where that is plain -/
def eqE : Nat → D → D → Option Bool
  | 0, _, _ => none
  | n + 1, d, e => match d, e with
    | .dct a, .dct b => if a.length = b.length then hitE (eqE n) b a else some false
    | .lst a, .lst b => if a.length = b.length then zipE (eqE n) a b else some false
    | .tup a, .tup b => (zipE (eqE n) a b).map fun p => p && a.length == b.length
    | d, e => if okq 20 d = true ∧ okq 20 e = true then some (eqD d e) else none
section
variable {X : Cx} {pins : List (Addr × Obj)} {σ : L2.St} {H : Hp} {s : Shared} {rho : List (Addr × Addr)}
theorem zip_at {f : D → D → Option Bool} : ∀ {ds es : List D} {b : Bool}, zipE f ds es = some b → ∃ g : Nat → Bool, (∀ j d e, ds[j]? = some d → es[j]? = some e → f d e = some (g j)) ∧ (List.range (min ds.length es.length)).all g = b
  | [], es, b, h => ⟨fun _ => true, (fun j d e h1 _ => by simp at h1), by cases es <;> (cases h; simp)⟩
  | d :: ds, [], b, h => ⟨fun _ => true, (fun j d e _ h1 => by simp at h1), by cases h; simp⟩
  | d :: ds, e :: es, b, h => by
    have h : (match f d e, zipE f ds es with | some p, some q => some (p && q) | _, _ => none) = some b := h
    cases h1 : f d e with
    | none => rw [h1] at h; cases h
    | some p =>
      cases h2 : zipE f ds es with
      | none => rw [h1, h2] at h; cases h
      | some q =>
        rw [h1, h2] at h
        cases h
        obtain ⟨g, g1, g2⟩ := zip_at h2
        refine ⟨fun j => match j with | 0 => p | j + 1 => g j, fun j d' e' k1 k2 => ?_, ?_⟩
        · cases j with
          | zero => cases k1; cases k2; exact h1
          | succ j => exact g1 j d' e' (by simpa using k1) (by simpa using k2)
        · rw [List.length_cons, List.length_cons, Nat.succ_min_succ, range_all]
          show (p && _) = _
          rw [← g2]
theorem eqE_flat {n : Nat} {d e : D} {b : Bool} (h : eqE (n + 1) d e = some b) : (∃ x y, d = .dct x ∧ e = .dct y ∧ (if x.length = y.length then hitE (eqE n) y x else some false) = some b) ∨ (∃ x y, d = .lst x ∧ e = .lst y ∧ (if x.length = y.length then zipE (eqE n) x y else some false) = some b) ∨
    (∃ x y, d = .tup x ∧ e = .tup y ∧ ((zipE (eqE n) x y).map fun p => p && x.length == y.length) = some b) ∨ (okq 20 d = true ∧ okq 20 e = true ∧ eqD d e = b) := by
  unfold eqE at h
  split at h
  · exact .inl ⟨_, _, rfl, rfl, h⟩
  · exact .inr (.inl ⟨_, _, rfl, rfl, h⟩)
  · exact .inr (.inr (.inl ⟨_, _, rfl, rfl, h⟩))
  · split at h
    · rename_i q
      cases h
      exact .inr (.inr (.inr ⟨q.1, q.2, rfl⟩))
    · cases h
theorem repK_inv {K : PySem.W.Frag} {F : Hp} {kv : List (Key × V)} {k : Ky} {d : D} {ds : List (Ky × D)} (h : RepK K F rho kv ((k, d) :: ds)) : ∃ v vs, kv = (kT k, v) :: vs ∧ Rep K F rho v d ∧ RepK K F rho vs ds := by
  cases h with
  | cons r q => exact ⟨_, _, rfl, r, q⟩
theorem valD_nodup : ∀ {y : List (Ky × D)}, (y.map fun p => kT p.1).Nodup → ∀ p ∈ y, valD y p.1 = some p.2
  | q :: y, nd, p, hp => by
    rw [List.map_cons, List.nodup_cons] at nd
    rw [valD_cons]
    rcases List.mem_cons.mp hp with e | hp
    · subst e; rw [if_pos rfl]
    · have ne : ¬ q.1 = p.1 := fun z => nd.1 (by rw [z]; exact List.mem_map.mpr ⟨p, hp, rfl⟩)
      rw [if_neg ne]
      exact valD_nodup nd.2 p hp
theorem dct_inj (I : Inv X pins σ H s) {a : Addr} {xs ys : List (Key × V)} (h : Rd H a (.dK xs)) (k : Rd H a (.dK ys)) : xs = ys := by
  rcases h with h | ⟨o, h⟩ <;> rcases k with k | ⟨o', k⟩ <;> rw [h] at k <;> cases k <;> rfl
/-- one value, read twice -/
theorem selfE (I : Inv X pins σ H s) : ∀ (n : Nat) (d e : D) (v : V) (b : Bool), eqE n d e = some b → Rep X.K H rho v d → Rep X.K H rho v e → b = true
  | 0, _, _, _, _, h, _, _ => nomatch h
  | n + 1, d, e, v, b, h, r1, r2 => by
    have zips : ∀ (vs : List V) (xs ys : List D) (b : Bool), zipE (eqE n) xs ys = some b → Reps X.K H rho vs xs → Reps X.K H rho vs ys → b = true := by
      intro vs
      induction vs with
      | nil => intro xs ys b h r1 r2; cases r1; cases r2; cases h; rfl
      | cons v vs ih =>
        intro xs ys b h r1 r2
        cases r1 with
        | @cons _ d _ xs p1 q1 =>
          cases r2 with
          | @cons _ e _ ys p2 q2 =>
            have h : (match eqE n d e, zipE (eqE n) xs ys with | some p, some q => some (p && q) | _, _ => none) = some b := h
            cases h1 : eqE n d e with
            | none => rw [h1] at h; cases h
            | some p =>
              cases h2 : zipE (eqE n) xs ys with
              | none => rw [h1, h2] at h; cases h
              | some q =>
                rw [h1, h2] at h
                cases h
                rw [selfE I n d e v p h1 p1 p2, ih xs ys q h2 q1 q2]; rfl
    rcases eqE_flat h with ⟨x, y, rfl, rfl, g⟩ | ⟨x, y, rfl, rfl, g⟩ | ⟨x, y, rfl, rfl, g⟩ | ⟨o1, o2, g⟩
    · cases r1 with
      | @dct a kvs _ h1 k1 =>
        cases r2 with
        | @dct _ lvs _ h2 k2 =>
          obtain rfl := dct_inj I h1 h2
          rw [if_pos (by rw [← repK_len k1, repK_len k2])] at g
          obtain ⟨z, lo, vs, rel, dd⟩ := dk_rd I.hok h1
          have nd : (y.map fun p => kT p.1).Nodup := by
            rw [← repK_keys k2, rel.keys]
            obtain ⟨_, _, _, _, _, _, _, _, nd⟩ := dd
            exact nd
          have key : ∀ (x' y' : List (Ky × D)) (kvs' : List (Key × V)) (b : Bool), (∀ p ∈ y', valD y p.1 = some p.2) → hitE (eqE n) y x' = some b → RepK X.K H rho kvs' x' → RepK X.K H rho kvs' y' → b = true := by
            intro x'
            induction x' with
            | nil => intro _ _ _ _ h _ _; cases h; rfl
            | cons p x' ih =>
              intro y' kvs' b hy h q1 q2
              obtain ⟨k, d⟩ := p
              obtain ⟨v, vs, rfl, w1, w2⟩ := repK_inv q1
              match y', q2, hy with
              | (k2, d2) :: ys, q2, hy =>
                obtain ⟨v', vs', e, w3, w4⟩ := repK_inv q2
                obtain ⟨e1, rfl⟩ := List.cons.inj e
                obtain ⟨e2, rfl⟩ := Prod.mk.inj e1
                have ek : k = k2 := kT_inj e2
                subst ek
                have hv := hy (k, d2) List.mem_cons_self
                have h : (match valD y k with | none => some false | some y0 => match eqE n d y0, hitE (eqE n) y x' with | some p, some q => some (p && q) | _, _ => none) = some b := h
                rw [hv] at h
                have h : (match eqE n d d2, hitE (eqE n) y x' with | some p, some q => some (p && q) | _, _ => none) = some b := h
                cases h1 : eqE n d d2 with
                | none => rw [h1] at h; cases h
                | some p =>
                  cases h2 : hitE (eqE n) y x' with
                  | none => rw [h1, h2] at h; cases h
                  | some q =>
                    rw [h1, h2] at h
                    cases h
                    rw [selfE I n d d2 v p h1 w1 w3, ih ys vs q (fun p hp => hy p (List.mem_cons_of_mem _ hp)) h2 w2 w4]; rfl
              | [], q2, hy => exact absurd (repK_len q2) (by simp)
          exact key x y _ b (valD_nodup nd) g k1 k2
    · cases r1 with
      | @lst a vs _ h1 k1 =>
        cases r2 with
        | @lst _ ws _ h2 k2 =>
          obtain rfl := sqL_inj I h1 h2
          rw [if_pos (by rw [← k1.len, k2.len])] at g
          exact zips _ _ _ _ g k1 k2
    · cases r1 with
      | @tup a vs _ h1 k1 =>
        cases r2 with
        | @tup _ ws _ h2 k2 =>
          obtain rfl := sqT_inj I h1 h2
          obtain ⟨p, g1, g2⟩ := Option.map_eq_some_iff.mp g
          have el : x.length = y.length := by rw [← k1.len, k2.len]
          rw [zips _ _ _ _ g1 k1 k2, el] at g2
          rw [← g2]; simp
    · rw [← g]
      exact eq_self I (Same.refl _) 20 d e v o1 o2 r1 r2
theorem hits_E {P : Program} {w : World} {A : Around} {n : Nat} {yD : List (Ky × D)} {lvs : List (Key × V)} {vb : List (Key × Value)} {K : PySem.W.Frag} {F : Hp}
    (ih : ∀ (d e : D) (x y : V) (u v : Value) (b : Bool), eqE n d e = some b → Rep K F rho x d → Rep K F rho y e → L2.RelV x u → L2.RelV y v → SeqAt.EqP P w A s u v b) (q2 : RepK K F rho lvs yD) (r2 : KV lvs vb) :
    ∀ (x : List (Ky × D)) (kvs : List (Key × V)) (va : List (Key × Value)) (r : Bool), RepK K F rho kvs x → KV kvs va → hitE (eqE n) yD x = some r → PySem.W.KeqHitsP P w A s vb va r
  | [], kvs, va, r, q1, r1, h => by
    cases q1
    unfold KV at r1
    cases r1
    cases h
    exact .nil
  | (k, d) :: x, kvs, va, r, q1, r1, h => by
    obtain ⟨v, vs, rfl, w1, w2⟩ := repK_inv q1
    unfold KV at r1
    cases r1 with
    | @cons _ q _ qs a t =>
      obtain ⟨key, val⟩ := q
      obtain ⟨a1, a2⟩ := a
      have a1 : kT k = key := a1
      subst a1
      have ro := repK_val k q2
      have rv := r2.val (kT k)
      have h : (match valD yD k with | none => some false | some y0 => match eqE n d y0, hitE (eqE n) yD x with | some p, some q => some (p && q) | _, _ => none) = some r := h
      generalize valD yD k = o1 at h ro
      generalize valV lvs (kT k) = o2 at ro rv
      cases ro with
      | none =>
        cases h
        refine .miss ?_
        cases e : valueAt vb (kT k) with
        | none => rfl
        | some y => rw [e] at rv; exact False.elim rv
      | @some y0 d0 rp =>
        have h : (match eqE n d d0, hitE (eqE n) yD x with | some p, some q => some (p && q) | _, _ => none) = some r := h
        cases h1 : eqE n d d0 with
        | none => rw [h1] at h; cases h
        | some p =>
          cases h2 : hitE (eqE n) yD x with
          | none => rw [h1, h2] at h; cases h
          | some q =>
            rw [h1, h2] at h
            cases h
            obtain ⟨y, hy, ry⟩ := rv.some_of
            exact .hit hy (ih d d0 v y0 _ _ p h1 w1 rp a2 ry) (hits_E ih q2 r2 x vs qs q w2 t h2)
theorem rc_step (I : Inv X pins σ H s) {n : Nat} {A : Around} (hA : A.units + n + 22 < cLine)
    (ih : ∀ (d e : D) (x y : V) (u v : Value) (b : Bool), eqE n d e = some b → Rep X.K H rho x d → Rep X.K H rho y e → L2.RelV x u → L2.RelV y v → SeqAt.EqP X.prog X.w A.in1 s u v b) (d e : D) (x y : V) (u v : Value) (b : Bool) (h : eqE (n + 1) d e = some b) (r1 : Rep X.K H rho x d) (r2 : Rep X.K H rho y e) (rx : L2.RelV x u) (ry : L2.RelV y v) :
    ∀ (E Q : Value → Shared → Prop), Q (.bool b) s → wpAny (model X.prog X.w) A (richCompare .Eq u v) Q E s := by
  intro E Q q
  have hu : A.units < cLine := by omega
  rcases eqE_flat h with ⟨xs, ys, rfl, rfl, g⟩ | ⟨xs, ys, rfl, rfl, g⟩ | ⟨xs, ys, rfl, rfl, g⟩ | ⟨o1, o2, g⟩
  · cases r1 with
    | @dct a kvs _ h1 k1 =>
      cases r2 with
      | @dct a' lvs _ h2 k2 =>
        cases rx
        cases ry
        obtain ⟨_, la, va, ra, da⟩ := dk_rd I.hok h1
        obtain ⟨_, lb, vb, rb, db⟩ := dk_rd I.hok h2
        have e1 : va.length = xs.length := by rw [← ra.length, repK_len k1]
        have e2 : vb.length = ys.length := by rw [← rb.length, repK_len k2]
        refine PySem.W.rcP_dicts (knd := mixKind X.prog X.w) (r := b) la lb da db hu (fun el => ?_) E Q ?_
        · rw [if_pos (by rw [← e1, ← e2]; exact el)] at g
          exact hits_E ih k2 rb xs kvs va b k1 ra g
        · by_cases el : xs.length = ys.length
          · rw [show (va.length == vb.length && b) = b by rw [e1, e2, el]; simp]
            exact q
          · rw [if_neg el] at g
            cases g
            rw [Bool.and_false]
            exact q
  · cases r1 with
    | @lst a vs _ h1 k1 =>
      cases r2 with
      | @lst a' ws _ h2 k2 =>
        cases rx
        cases ry
        obtain ⟨its, rv, hl⟩ := isL I h1
        obtain ⟨its', rv', hl'⟩ := isL I h2
        have e1 : its.length = xs.length := by rw [← rv.length, k1.len]
        have e2 : its'.length = ys.length := by rw [← rv'.length, k2.len]
        by_cases el : xs.length = ys.length
        · rw [if_pos el] at g
          obtain ⟨f, f1, f2⟩ := zip_at g
          refine SeqAt.rcP_lists (e := f) hl hl' (by rw [List.size_toArray, List.size_toArray, e1, e2]; exact el) hu (fun j h1 h2 => ?_) E Q ?_
          · obtain ⟨x1, d1, a1, p1, q1⟩ := vals_at k1 rv j (by simpa using h1)
            obtain ⟨x2, d2, a2, p2, q2⟩ := vals_at k2 rv' j (by simpa using h2)
            exact ih d1 d2 x1 x2 _ _ _ (f1 j d1 d2 a1 a2) p1 p2 (by simpa using q1) (by simpa using q2)
          · rw [List.size_toArray, e1]
            rw [← el, Nat.min_self] at f2
            rw [f2]
            exact q
        · rw [if_neg el] at g
          cases g
          exact SeqAt.RcAt.lists_lengths hl hl' (by rw [List.size_toArray, List.size_toArray, e1, e2]; simpa using el) hu X.prog X.w E Q q
  · cases r1 with
    | @tup a vs _ h1 k1 =>
      cases r2 with
      | @tup a' ws _ h2 k2 =>
        cases rx
        cases ry
        obtain ⟨its, rv, hl⟩ := isT I h1
        obtain ⟨its', rv', hl'⟩ := isT I h2
        have e1 : its.length = xs.length := by rw [← rv.length, k1.len]
        have e2 : its'.length = ys.length := by rw [← rv'.length, k2.len]
        obtain ⟨p, g1, g2⟩ := Option.map_eq_some_iff.mp g
        obtain ⟨f, f1, f2⟩ := zip_at g1
        refine SeqAt.rcP_tups (e := f) hl hl' hu (fun j h1 h2 => ?_) E Q ?_
        · obtain ⟨x1, d1, a1, p1, q1⟩ := vals_at k1 rv j (by simpa using h1)
          obtain ⟨x2, d2, a2, p2, q2⟩ := vals_at k2 rv' j (by simpa using h2)
          exact ih d1 d2 x1 x2 _ _ _ (f1 j d1 d2 a1 a2) p1 p2 (by simpa using q1) (by simpa using q2)
        · rw [List.size_toArray, List.size_toArray, e1, e2, f2, g2]
          exact q
  · rw [← g] at q
    have up : ∀ {n : Nat} {d : D}, okq n d = true → okq (n + 1) d = true := by
      intro n
      induction n with
      | zero => intro d h; cases d <;> first | rfl | cases h
      | succ n ih2 =>
        intro d h
        cases d with
        | lst xs => exact List.all_eq_true.mpr fun y hy => ih2 (List.all_eq_true.mp h y hy)
        | tup xs => exact List.all_eq_true.mpr fun y hy => ih2 (List.all_eq_true.mp h y hy)
        | non => rfl
        | bl _ => rfl
        | int _ => rfl
        | str _ => rfl
        | dct _ => cases h
        | obj _ => cases h
    exact rc_D I (Same.refl _) 20 A (by omega) d e x y u v (up o1) (up o2) r1 r2 rx ry X.prog X.w E Q q
theorem eqP_E (I : Inv X pins σ H s) : ∀ (n : Nat) (A : Around), A.units + n + 21 < cLine → ∀ (d e : D) (x y : V) (u v : Value) (b : Bool), eqE n d e = some b → Rep X.K H rho x d → Rep X.K H rho y e → L2.RelV x u → L2.RelV y v → SeqAt.EqP X.prog X.w A s u v b
  | 0, _, _, _, _, _, _, _, _, _, h, _, _, _, _ => nomatch h
  | n + 1, A, hA, d, e, x, y, u, v, b, h, r1, r2, rx, ry => by
    have step := rc_step I (A := A) (n := n) (by omega) (eqP_E I n A.in1 (by rw [units1]; omega)) d e x y u v b h r1 r2 rx ry
    have refs : ∀ {a a' : Addr}, x = .ref a → y = .ref a' → SeqAt.EqP X.prog X.w A s u v b := by
      rintro a a' rfl rfl
      cases rx
      cases ry
      by_cases ne : a = a'
      · subst ne
        rw [selfE I (n + 1) d e _ b h r1 r2]
        exact (SeqAt.EqAt.same _).eqP
      · exact SeqAt.eqP_refs ne step
    rcases eqE_flat h with ⟨xs, ys, rfl, rfl, g⟩ | ⟨xs, ys, rfl, rfl, g⟩ | ⟨xs, ys, rfl, rfl, g⟩ | ⟨o1, o2, g⟩
    · cases r1; cases r2; exact refs rfl rfl
    · cases r1; cases r2; exact refs rfl rfl
    · cases r1; cases r2; exact refs rfl rfl
    · rw [← g]
      exact (eqAt_D I (Same.refl _) 20 A (by omega) d e x y u v o1 o2 r1 r2 rx ry).eqP
end

/-! ### how things stand just now -/
def vwD (so : So) : Nat → D → D
  | 0, d => d
  | n + 1, d => match d with
    | .obj k => (match so[k]? with
      | some (.cel (.lst xs)) => .lst (xs.map (vwD so n))
      | some (.cel (.dct kv)) => .dct (kv.map fun p => (p.1, vwD so n p.2))
      | some (.lck kv) => .dct (kv.map fun p => (p.1, vwD so n p.2))
      | _ => .obj k)
    | .lst xs => .lst (xs.map (vwD so n))
    | .tup xs => .tup (xs.map (vwD so n))
    | .dct kv => .dct (kv.map fun p => (p.1, vwD so n p.2))
    | d => d
def vwH : Hd → M D
  | .dat d => fun en so => .ok (vwD so 6 d) en so
  | .slot i => fun en so => match en[i]? with
    | some (some (.cel c)) => .ok (vwD so 6 c.toD) en so
    | some (some (.dat d)) => .ok (vwD so 6 d) en so
    | _ => .no
/-- d == e -/
def eqV (d e : D) : Option Bool := if okq 24 d = true ∧ okq 24 e = true then some (eqD d e) else eqE 8 d e
def mEqH (ma mb : M Hd) : M D := bd ma fun h1 => bd mb fun h2 => bd (vwH h1) fun d => bd (vwH h2) fun e => opM (eqV d e) fun b => pu (.bl b)
def mNeH (ma mb : M Hd) : M D := bd ma fun h1 => bd mb fun h2 => bd (vwH h1) fun d => bd (vwH h2) fun e => gd (okq 24 d = true ∧ okq 24 e = true) (pu (.bl (!eqD d e)))
section
variable {K : PySem.W.Frag} {mg : Ev} {G : Gh} {en : En} {so : So} {σ : L2.St} {H : Hp}
theorem reps_vw {F : Hp} {rho : List (Addr × Addr)} {f : D → D} (h : ∀ v d, Rep K F rho v d → Rep K H rho v (f d)) : ∀ {vs : List V} {ds : List D}, Reps K F rho vs ds → Reps K H rho vs (ds.map f)
  | _, _, .nil => .nil
  | _, _, .cons r q => .cons (h _ _ r) (reps_vw h q)
theorem repK_vw {F : Hp} {rho : List (Addr × Addr)} {f : D → D} (h : ∀ v d, Rep K F rho v d → Rep K H rho v (f d)) : ∀ {vs : List (Key × V)} {ds : List (Ky × D)}, RepK K F rho vs ds → RepK K H rho vs (ds.map fun p => (p.1, f p.2))
  | _, _, .nil => .nil
  | _, _, .cons r q => .cons (h _ _ r) (repK_vw h q)
theorem rep_vw (s : SimO K mg G so H) : ∀ (n : Nat) (v : V) (d : D), Rep K G.F G.rho v d → Rep K H G.rho v (vwD so n d)
  | 0, v, d, r => r.mono s.rep fun _ _ h => h
  | n + 1, v, d, r => by
    have ih := rep_vw s n
    cases r with
    | non => exact .non
    | bl b => exact .bl b
    | int i => exact .int i
    | str z => exact .str z
    | tup h q => exact .tup (same_seqT s.rep h) (reps_vw ih q)
    | lst h q => exact .lst (Same.seq s.rep h) (reps_vw ih q)
    | dct h q => exact .dct (same_rd s.rep h) (repK_vw ih q)
    | @obj k a dx h =>
      show Rep K H G.rho (.ref a) (match so[k]? with
        | some (.cel (.lst xs)) => .lst (xs.map (vwD so n))
        | some (.cel (.dct kv)) => .dct (kv.map fun p => (p.1, vwD so n p.2))
        | some (.lck kv) => .dct (kv.map fun p => (p.1, vwD so n p.2))
        | _ => .obj k)
      cases e : so[k]? with
      | none => exact .obj h
      | some o =>
        have ob := s.ob k o a dx e h
        rcases o with ⟨c, fs⟩ | ⟨xs | kv⟩ | kv | _
        · exact .obj h
        · obtain ⟨_, vs, e1, q⟩ := ob
          exact .lst (SqL.of e1) (reps_vw ih q)
        · obtain ⟨_, vs, e1, q⟩ := ob
          exact .dct (.inl e1) (repK_vw ih q)
        · obtain ⟨o', kvs, e1, q⟩ := ob
          exact .dct (.inr ⟨_, (s.lk _ _ e1).1⟩) (repK_vw ih q)
        · exact .obj h
theorem rep_toD {v : V} {c : C} {a : Addr} (h : CR K G H a c) (s : SimO K mg G so H) (n : Nat) : Rep K H G.rho (.ref a) (vwD so (n + 1) c.toD) := by
  cases c with
  | lst xs =>
    obtain ⟨vs, e1, q⟩ := h
    exact .lst (SqL.of e1) (reps_vw (rep_vw s n) q)
  | dct kv =>
    obtain ⟨vs, e1, q⟩ := h
    exact .dct (.inl e1) (repK_vw (rep_vw s n) q)
theorem vwH_at {v : V} {h : Hd} (s : Sim K mg G en so σ H) (r : rlH K σ G H v h) {W : WX} {A' A1 : Type} {Rl : Gh → Hp → A' → A1 → Prop} {k : D → M A1} {Q : A' → Hp → Prop} (p : Post K mg G W Rl σ (bd (vwH h) k en so) Q) :
    ∃ d, Rep K H G.rho v d ∧ Post K mg G W Rl σ (k d en so) Q := by
  cases h with
  | dat d => exact ⟨_, rep_vw s.toSimO 6 v d r, p⟩
  | slot i =>
    have r : σ[i]? = some (some v) := r
    unfold bd vwH at p
    dsimp only at p
    cases h1 : en[i]? with
    | none => rw [h1] at p; exact p.elim
    | some o =>
      cases o with
      | none => rw [h1] at p; exact p.elim
      | some b =>
        obtain ⟨v', e1, rb⟩ := s.sl i b h1
        rw [r] at e1
        cases e1
        rw [h1] at p
        cases b with
        | cel c =>
          obtain ⟨a, rfl, w, cr⟩ := rb
          exact ⟨_, rep_toD (v := .ref a) cr s.toSimO 5, p⟩
        | dat d => exact ⟨_, rep_vw s.toSimO 6 v d rb, p⟩
        | exn _ => exact p.elim
end
def rEqE (K : PySem.W.Frag) : R2 := fun x y H Q => ∃ rho d e b, Rep K H rho x d ∧ Rep K H rho y e ∧ eqE 8 d e = some b ∧ Q (.bl b) H
section
variable {X : Cx} {W : WX} {a b : Expr} {ma mb : M Hd} {pos : Pos}
theorem op_eqE (hu : X.A.units + 64 < cLine) : OpR X (compareOp .Eq) (rEqE X.K) := by
  rintro pins s σ H x y v u Q I rx ry ⟨rho, d, e, b, h, k, g, q⟩
  exact rc_step I (A := X.A) (n := 7) (by omega) (eqP_E I 7 X.A.in1 (by rw [units1]; omega)) d e x y v u b g h k rx ry _ _ ⟨.bl b, H, I, rfl, q⟩
theorem op_eqA (hu : X.A.units + 64 < cLine) : OpR X (compareOp .Eq) (fun x y H Q => rEqG X.K false x y H Q ∨ rEqE X.K x y H Q) := by
  rintro pins s σ H x y v u Q I rx ry (h | h)
  · exact op_eqG hu pins s σ H x y v u Q I rx ry h
  · exact op_eqE hu pins s σ H x y v u Q I rx ry h
theorem eqH_tr {σ : L2.St} {H : Hp} {Q : VK} (q : tM X.K X.ev W (rlD X.K) (mEqH ma mb) σ H Q) : tOp (fun x y H Q => rEqG X.K false x y H Q ∨ rEqE X.K x y H Q) (fun σ H Q => tM X.K X.ev W (rlH X.K σ) ma σ H Q) (fun σ H Q => tM X.K X.ev W (rlH X.K σ) mb σ H Q) σ H Q := by
  obtain ⟨G, en, so, s, p⟩ := q
  refine ⟨G, en, so, s, (Post.bind (R1 := rlH X.K σ) p).imp fun v H1 ⟨G1, en1, so1, h1, l, r1, s1, p1⟩ => ⟨G1, en1, so1, s1, (Post.bind (R1 := rlH X.K σ) p1).imp fun y H2 ⟨G2, en2, so2, h2, l2, r2, s2, p2⟩ => ?_⟩⟩
  obtain ⟨d, rd, p3⟩ := vwH_at s2 (r1.up l2 (H' := H2)) p2
  obtain ⟨e, re, p4⟩ := vwH_at s2 r2 p3
  obtain ⟨b, eb, p5⟩ := opM_at p4
  unfold eqV at eb
  split at eb
  · rename_i o
    cases eb
    exact .inl ⟨H2, G2.rho, d, e, Same.refl _, rd, re, o.1, o.2, p5.ok s2 (.bl _)⟩
  · exact .inr ⟨G2.rho, d, e, b, rd, re, eb, p5.ok s2 (.bl _)⟩
theorem neH_tr {σ : L2.St} {H : Hp} {Q : VK} (q : tM X.K X.ev W (rlD X.K) (mNeH ma mb) σ H Q) : tOp (rEqG X.K true) (fun σ H Q => tM X.K X.ev W (rlH X.K σ) ma σ H Q) (fun σ H Q => tM X.K X.ev W (rlH X.K σ) mb σ H Q) σ H Q := by
  obtain ⟨G, en, so, s, p⟩ := q
  refine ⟨G, en, so, s, (Post.bind (R1 := rlH X.K σ) p).imp fun v H1 ⟨G1, en1, so1, h1, l, r1, s1, p1⟩ => ⟨G1, en1, so1, s1, (Post.bind (R1 := rlH X.K σ) p1).imp fun y H2 ⟨G2, en2, so2, h2, l2, r2, s2, p2⟩ => ?_⟩⟩
  obtain ⟨d, rd, p3⟩ := vwH_at s2 (r1.up l2 (H' := H2)) p2
  obtain ⟨e, re, p4⟩ := vwH_at s2 r2 p3
  obtain ⟨o, p5⟩ := Post.gd p4
  exact ⟨H2, G2.rho, d, e, Same.refl _, rd, re, o.1, o.2, p5.ok s2 (.bl _)⟩
theorem d_eqH (hu : X.A.units + 64 < cLine) (ha : DH X W a ma) (hb : DH X W b mb) (hm : behindInMarks .Eq b = false := by with_unfolding_all rfl) : DE X W (.Compare a [.Eq] [b] pos) (mEqH ma mb) :=
  ⟨PE_imp (pe_cmpR (op_eqA hu) ha.pe hb.pe hm) fun _ _ _ q => eqH_tr q⟩
theorem d_neH (hu : X.A.units + 64 < cLine) (ha : DH X W a ma) (hb : DH X W b mb) (hm : behindInMarks .NotEq b = false := by with_unfolding_all rfl) : DE X W (.Compare a [.NotEq] [b] pos) (mNeH ma mb) :=
  ⟨PE_imp (pe_cmpR (op_neG hu) ha.pe hb.pe hm) fun _ _ _ q => neH_tr q⟩
theorem d_eqHT (hu : X.A.units + 64 < cLine) (ha : DH X W a ma) (hb : DH X W b mb) (hm : behindInMarks .Eq b = false := by with_unfolding_all rfl) : DT X W (.Compare a [.Eq] [b] pos) (mT (mEqH ma mb)) :=
  ⟨PT_imp (pt_cmpR (op_eqA hu) ha.pe hb.pe hm) fun _ _ _ q => eqH_tr (mT_tr q)⟩
theorem d_neHT (hu : X.A.units + 64 < cLine) (ha : DH X W a ma) (hb : DH X W b mb) (hm : behindInMarks .NotEq b = false := by with_unfolding_all rfl) : DT X W (.Compare a [.NotEq] [b] pos) (mT (mNeH ma mb)) :=
  ⟨PT_imp (pt_cmpR (op_neG hu) ha.pe hb.pe hm) fun _ _ _ q => neH_tr (mT_tr q)⟩
end
end
end Dl

set_option Elab.async false
set_option linter.all false
set_option maxRecDepth 100000
set_option maxHeartbeats 1000000
/-! Mathematics over the data level: what the programs answer, piece by piece. -/
namespace Dl
open PySem L2
noncomputable section
section
variable {A A' : Type} {en : En} {so : So}
/-- what follows a run -/
def bdR {A A' : Type} (r : Re A) (k : A → M A') : Re A' := match r with
  | .ok a en so => k a en so
  | .exc x en so => .exc x en so
  | .no => .no
@[simp] theorem bdR_ok (a : A) (k : A → M A') : bdR (.ok a en so) k = k a en so := rfl
@[simp] theorem bdR_exc (x : Xc) (k : A → M A') : bdR (.exc x en so) k = .exc x en so := rfl
@[simp] theorem bdR_no (k : A → M A') : bdR .no k = .no := rfl
@[simp] theorem pu_ (a : A) : pu a en so = .ok a en so := rfl
@[simp] theorem bd_ (m : M A) (k : A → M A') : bd m k en so = bdR (m en so) k := rfl
@[simp] theorem gd_t {c : Prop} [Decidable c] (h : c) (m : M A) : gd c m en so = m en so := if_pos h
theorem gd_f {c : Prop} [Decidable c] (h : ¬ c) (m : M A) : gd c m en so = .no := if_neg h
@[simp] theorem no_ : (no : M A) en so = .no := rfl
@[simp] theorem mV_ (i : Nat) : mV i en so = (match en[i]? with
  | some (some (.dat d)) => .ok d en so
  | _ => .no) := rfl
@[simp] theorem m2_ (f : D → D → M D) (a b : M D) : m2 f a b en so = bdR (a en so) fun d => bd b fun e => f d e := rfl
@[simp] theorem aN_ : aN en so = .ok [] en so := rfl
@[simp] theorem aC_ (m : M D) (r : M (List D)) : aC m r en so = bdR (m en so) fun d => bd r fun ds => pu (d :: ds) := rfl
@[simp] theorem addI (a b : Int) : addD (.int a) (.int b) = pu (.int (a + b)) := rfl
@[simp] theorem addS (a b : List Nat) : addD (.str a) (.str b) = gd (a.length + b.length ≤ 16777216) (pu (.str (a ++ b))) := rfl
@[simp] theorem subI (a b : Int) : subD (.int a) (.int b) = pu (.int (a - b)) := rfl
@[simp] theorem mulI (a b : Int) : mulD (.int a) (.int b) = gd ((-(2 ^ 64) < a ∧ a < 2 ^ 64) ∨ (-(2 ^ 64) < b ∧ b < 2 ^ 64)) (pu (.int (a * b))) := rfl
@[simp] theorem divI (a b : Int) : divD (.int a) (.int b) = gd (0 < b ∧ b < 1073741824) (pu (.int (a / b))) := rfl
@[simp] theorem modI (a b : Int) : modD (.int a) (.int b) = gd (0 < b) (pu (.int (a % b))) := rfl
@[simp] theorem ltI (a b : Int) : ltD (.int a) (.int b) = pu (.bl (decide (a < b))) := rfl
@[simp] theorem leI (a b : Int) : leD (.int a) (.int b) = pu (.bl (decide (a ≤ b))) := rfl
@[simp] theorem gtI (a b : Int) : gtD (.int a) (.int b) = pu (.bl (decide (b < a))) := rfl
@[simp] theorem geI (a b : Int) : geD (.int a) (.int b) = pu (.bl (decide (b ≤ a))) := rfl
def kTr : D → M Bool := fun d => match d with
  | .bl b => pu b
  | _ => no
@[simp] theorem kTr_ (b : Bool) : kTr (.bl b) = pu b := rfl
@[simp] theorem mT_ (m : M D) : mT m en so = bdR (m en so) kTr := rfl
@[simp] theorem mTru_ (m : M D) : mTru m en so = bdR (m en so) truD := rfl
@[simp] theorem tru_non : truD .non = pu false := rfl
@[simp] theorem tru_bl (b : Bool) : truD (.bl b) = pu b := rfl
@[simp] theorem tru_int (i : Int) : truD (.int i) = pu (i != 0) := rfl
@[simp] theorem tru_str (s : List Nat) : truD (.str s) = gd (s.length ≤ 16777216) (pu (s.length != 0)) := rfl
@[simp] theorem tru_lst (s : List D) : truD (.lst s) = pu (!s.isEmpty) := rfl
def kAnd (b : M D) : D → M D := fun d => match d with
  | .bl true => b
  | .bl false => pu (.bl false)
  | _ => no
@[simp] theorem kAnd_ (b : M D) (x : Bool) : kAnd b (.bl x) en so = if x = true then b en so else .ok (.bl false) en so := by cases x <;> rfl
def kOr (b : M D) : D → M D := fun d => match d with
  | .bl true => pu (.bl true)
  | .bl false => b
  | _ => no
@[simp] theorem kOr_ (b : M D) (x : Bool) : kOr b (.bl x) en so = if x = true then .ok (.bl true) en so else b en so := by cases x <;> rfl
@[simp] theorem ite_and (c : Prop) [Decidable c] (y : Bool) : (if c then (.ok (.bl y) en so : Re D) else .ok (.bl false) en so) = .ok (.bl (decide c && y)) en so := by
  by_cases h : c <;> simp [h]
@[simp] theorem ite_or (c : Prop) [Decidable c] (y : Bool) : (if c then (.ok (.bl true) en so : Re D) else .ok (.bl y) en so) = .ok (.bl (decide c || y)) en so := by
  by_cases h : c <;> simp [h]
def kNot : D → M D := fun d => match d with
  | .bl b => pu (.bl (!b))
  | _ => no
@[simp] theorem kNot_ (b : Bool) : kNot (.bl b) = pu (.bl (!b)) := rfl
@[simp] theorem mAnd_ (a b : M D) : mAnd a b en so = bdR (a en so) (kAnd b) := rfl
@[simp] theorem mOr_ (a b : M D) : mOr a b en so = bdR (a en so) (kOr b) := rfl
@[simp] theorem mNot_ (a : M D) : mNot a en so = bdR (a en so) kNot := rfl
def kIt {A : Type} (a b : M A) : Bool → M A := fun c => if c then a else b
@[simp] theorem kIt_ (a b : M A) (c : Bool) : kIt a b c en so = if c = true then a en so else b en so := by cases c <;> rfl
@[simp] theorem tAndM_ (a b : M Bool) : tAndM a b en so = bdR (a en so) (kIt b (pu false)) := rfl
@[simp] theorem tOrM_ (a b : M Bool) : tOrM a b en so = bdR (a en so) (kIt (pu true) b) := rfl
@[simp] theorem tNotM_ (a : M Bool) : tNotM a en so = bdR (a en so) fun c => pu (!c) := rfl
@[simp] theorem ite_andB (c : Prop) [Decidable c] (y : Bool) : (if c then (.ok y en so : Re Bool) else .ok false en so) = .ok (decide c && y) en so := by
  by_cases h : c <;> simp [h]
@[simp] theorem ite_orB (c : Prop) [Decidable c] (y : Bool) : (if c then (.ok true en so : Re Bool) else .ok y en so) = .ok (decide c || y) en so := by
  by_cases h : c <;> simp [h]
def kCh (g : D → D → M D) (y : D) (c : M D) : D → M D := fun d => match d with
  | .bl true => bd c fun z => g y z
  | .bl false => pu (.bl false)
  | _ => no
@[simp] theorem kCh_ (g : D → D → M D) (y : D) (c : M D) (x : Bool) : kCh g y c (.bl x) en so = if x = true then bdR (c en so) fun z => g y z else .ok (.bl false) en so := by cases x <;> rfl
@[simp] theorem mCh_ (f g : D → D → M D) (a b c : M D) : mCh f g a b c en so = bdR (a en so) fun x => bd b fun y => bd (f x y) (kCh g y c) := rfl
@[simp] theorem mFz_ (m : M B) : mFz m en so = bdR (m en so) fun b => pu b.toD := rfl
@[simp] theorem toD_dat (d : D) : (B.dat d).toD = d := rfl
@[simp] theorem toD_lst (ds : List D) : (B.cel (.lst ds)).toD = .lst ds := rfl
@[simp] theorem toD_dct (ds : List (Ky × D)) : (B.cel (.dct ds)).toD = .dct ds := rfl
@[simp] theorem eqM_ (d e : D) : eqM d e = gd (okq 24 d = true ∧ okq 24 e = true) (pu (.bl (eqD d e))) := rfl
@[simp] theorem neM_ (d e : D) : neM d e = gd (okq 24 d = true ∧ okq 24 e = true) (pu (.bl (!eqD d e))) := rfl
@[simp] theorem okq_non (n : Nat) : okq n .non = true := by cases n <;> rfl
@[simp] theorem okq_bl (n : Nat) (b : Bool) : okq n (.bl b) = true := by cases n <;> rfl
@[simp] theorem okq_int (n : Nat) (b : Int) : okq n (.int b) = true := by cases n <;> rfl
@[simp] theorem okq_str (n : Nat) (b : List Nat) : okq n (.str b) = true := by cases n <;> rfl
@[simp] theorem okq_lst (n : Nat) (xs : List D) : okq (n + 1) (.lst xs) = xs.all (okq n) := rfl
@[simp] theorem okq_tup (n : Nat) (xs : List D) : okq (n + 1) (.tup xs) = xs.all (okq n) := rfl
@[simp] theorem okq_lst24 (xs : List D) : okq 24 (.lst xs) = xs.all (okq 23) := rfl
@[simp] theorem okq_tup24 (xs : List D) : okq 24 (.tup xs) = xs.all (okq 23) := rfl
@[simp] theorem eqD_nn : eqD .non .non = true := by simp [eqD]
@[simp] theorem eqD_bb (a b : Bool) : eqD (.bl a) (.bl b) = (a == b) := by simp [eqD]
@[simp] theorem eqD_ii (a b : Int) : eqD (.int a) (.int b) = decide (a = b) := by simp only [eqD]; rw [Bool.eq_iff_iff]; simp
@[simp] theorem eqD_ss (a b : List Nat) : eqD (.str a) (.str b) = decide (a = b) := by simp only [eqD]; rw [Bool.eq_iff_iff]; simp
@[simp] theorem eqD_ll (a b : List D) : eqD (.lst a) (.lst b) = eqDs a b := by simp [eqD]
@[simp] theorem eqD_tt (a b : List D) : eqD (.tup a) (.tup b) = eqDs a b := by simp [eqD]
@[simp] theorem eqDs_nil : eqDs [] [] = true := by simp [eqDs]
@[simp] theorem eqDs_cons (a b : D) (xs ys : List D) : eqDs (a :: xs) (b :: ys) = (eqD a b && eqDs xs ys) := by simp [eqDs]
@[simp] theorem lenS (s : List Nat) : lenD [.str s] = gd (s.length ≤ 16777216) (pu (.int s.length)) := rfl
@[simp] theorem lenL (s : List D) : lenD [.lst s] = pu (.int s.length) := rfl
@[simp] theorem lenT (s : List D) : lenD [.tup s] = pu (.int s.length) := rfl
@[simp] theorem absI (i : Int) : absD [.int i] = pu (.int (if i < 0 then -i else i)) := rfl
@[simp] theorem intI (i : Int) : intD [.int i] = pu (.int i) := rfl
@[simp] theorem intB (b : Bool) : intD [.bl b] = pu (.int (if b then 1 else 0)) := rfl
@[simp] theorem ordC (c : Nat) : ordD [.str [c]] = pu (.int c) := rfl
@[simp] theorem blsOf_map (l : List Bool) : blsOf (l.map D.bl) = some l := by
  induction l with
  | nil => rfl
  | cons b l ih => show (blsOf (l.map D.bl)).map (b :: ·) = _; rw [ih]; rfl
theorem blsOf_map' {A : Type} (f : A → Bool) (l : List A) : blsOf (l.map fun x => D.bl (f x)) = some (l.map f) := by
  have : (l.map fun x => D.bl (f x)) = (l.map f).map D.bl := by rw [List.map_map]; rfl
  rw [this, blsOf_map]
theorem strsOf_map' {A : Type} (f : A → List Nat) (l : List A) : strsOf (l.map fun x => D.str (f x)) = some (l.map f) := by
  induction l with
  | nil => rfl
  | cons b l ih => show (strsOf (l.map fun x => D.str (f x))).map (f b :: ·) = _; rw [ih]; rfl
theorem all_lst {l : List Bool} : allD [.lst (l.map D.bl)] en so = .ok (.bl (l.all id)) en so := by
  show (match blsOf (l.map D.bl) with | some bs => (pu (D.bl (bs.all id)) : M D) | none => no) en so = _
  rw [blsOf_map]; rfl
theorem all_map {A : Type} (f : A → Bool) (l : List A) : allD [.lst (l.map fun x => D.bl (f x))] en so = .ok (.bl (l.all f)) en so := by
  have : (l.map fun x => D.bl (f x)) = (l.map f).map D.bl := by rw [List.map_map]; rfl
  rw [this, all_lst, List.all_map]; rfl
@[simp] theorem sPass_ : sPass en so = .ok .nx en so := rfl
@[simp] theorem sBreak_ : sBreak en so = .ok .bk en so := rfl
@[simp] theorem sCont_ : sCont en so = .ok .ct en so := rfl
def kSeq (b : M Fl) : Fl → M Fl := fun f => match f with
  | .nx => b
  | f => pu f
@[simp] theorem kSeq_nx (b : M Fl) : kSeq b .nx = b := rfl
@[simp] theorem kSeq_rt (b : M Fl) (v : B) : kSeq b (.rt v) = pu (.rt v) := rfl
@[simp] theorem kSeq_bk (b : M Fl) : kSeq b .bk = pu .bk := rfl
@[simp] theorem kSeq_ct (b : M Fl) : kSeq b .ct = pu .ct := rfl
@[simp] theorem sSeq_ (a b : M Fl) : sSeq a b en so = bdR (a en so) (kSeq b) := by
  unfold sSeq bd bdR kSeq
  cases a en so with
  | ok f en so => cases f <;> rfl
  | _ => rfl
@[simp] theorem sIf_ (t : M Bool) (a b : M Fl) : sIf t a b en so = bdR (t en so) (kIt a b) := rfl
@[simp] theorem sRet_ (m : M B) : sRet m en so = bdR (m en so) fun b => pu (.rt b) := rfl
@[simp] theorem sRetD_ (m : M D) : sRetD m en so = bdR (m en so) fun d => pu (.rt (.dat d)) := rfl
@[simp] theorem sRetN_ : sRetN en so = .ok (.rt (.dat .non)) en so := rfl
@[simp] theorem sExpr_ (m : M D) : sExpr m en so = bdR (m en so) fun _ => pu .nx := rfl
def kSet (i : Nat) (b : B) : M Fl := fun en so => .ok .nx (en.set i (some b)) so
@[simp] theorem kSet_ (i : Nat) (b : B) : kSet i b en so = .ok .nx (en.set i (some b)) so := rfl
@[simp] theorem sSet_ (i : Nat) (m : M D) : sSet i m en so = bdR (m en so) fun d => kSet i (.dat d) := rfl
@[simp] theorem sSetB_ (i : Nat) (m : M B) : sSetB i m en so = bdR (m en so) fun b => kSet i b := rfl
def kTg (tg : Tg) (d : D) : M Fl := fun en so => match tg d en with
  | some en' => .ok .nx en' so
  | none => .no
theorem kTg_ {tg : Tg} {d : D} {en' : En} (h : tg d en = some en') : kTg tg d en so = .ok .nx en' so := by unfold kTg; rw [h]
@[simp] theorem kTg_N (i : Nat) (d : D) : kTg (tgN i) d en so = .ok .nx (en.set i (some (.dat d))) so := rfl
@[simp] theorem kTg_P (i j : Nat) (x y : D) : kTg (tgP i j) (.tup [x, y]) en so = .ok .nx ((en.set i (some (.dat x))).set j (some (.dat y))) so := rfl
@[simp] theorem sSetT_ (tg : Tg) (m : M D) : sSetT tg m en so = bdR (m en so) fun d => kTg tg d := rfl
@[simp] theorem sAug_ (i : Nat) (f : D → D → M D) (m : M D) : sAug i f m en so = (match en[i]? with
  | some (some (.dat x)) => bdR (m en so) fun y => bd (f x y) fun z => kSet i (.dat z)
  | _ => .no) := rfl
@[simp] theorem tgN_ (i : Nat) (d : D) : tgN i d en = some (en.set i (some (.dat d))) := rfl
@[simp] theorem tgP_ (i j : Nat) (x y : D) : tgP i j (.tup [x, y]) en = some ((en.set i (some (.dat x))).set j (some (.dat y))) := rfl
def kL : D → M (List D) := fun d => match d with
  | .lst xs => pu xs
  | _ => no
@[simp] theorem kL_ (xs : List D) : kL (.lst xs) = pu xs := rfl
def kTu : D → M (List D) := fun d => match d with
  | .tup xs => pu xs
  | _ => no
@[simp] theorem kTu_ (xs : List D) : kTu (.tup xs) = pu xs := rfl
def kS : D → M (List D) := fun d => match d with
  | .str s => pu (s.map fun c => .str [c])
  | _ => no
@[simp] theorem kS_ (s : List Nat) : kS (.str s) = pu (s.map fun c => .str [c]) := rfl
@[simp] theorem itL_ (m : M D) : itL m en so = bdR (m en so) kL := rfl
@[simp] theorem itT_ (m : M D) : itT m en so = bdR (m en so) kTu := rfl
@[simp] theorem itS_ (m : M D) : itS m en so = bdR (m en so) kS := rfl
@[simp] theorem itR1_ (m : M D) : itR1 m en so = bdR (m en so) rg1 := rfl
theorem rg1_ (j : Int) : rg1 (.int j) = gd (-(2 ^ 62) ≤ j ∧ j < 2 ^ 62) (pu (rngD 0 j.toNat)) := rfl
@[simp] theorem itR2_ (a b : M D) : itR2 a b en so = bdR (a en so) fun i => bd b fun j => rg2 i j := rfl
@[simp] theorem rg2_ (i j : Int) : rg2 (.int i) (.int j) = gd (-(2 ^ 62) ≤ i ∧ i < 2 ^ 62 ∧ -(2 ^ 62) ≤ j ∧ j < 2 ^ 62) (pu (rngD i (j - i).toNat)) := rfl
@[simp] theorem sFor_ (tg : Tg) (src : M (List D)) (body : M Fl) : sFor tg src body en so = bdR (src en so) fun ds => forGo tg body ds := rfl
@[simp] theorem mLst_ (ms : M (List D)) : mLst ms en so = bdR (ms en so) fun ds => gd (ds.length ≤ 16777216) (pu (.cel (.lst ds))) := rfl
@[simp] theorem mTup_ (ms : M (List D)) : mTup ms en so = bdR (ms en so) fun ds => gd (ds.length ≤ 16777216) (pu (.tup ds)) := rfl
@[simp] theorem oN_ : oN en so = .ok none en so := rfl
def kO : D → M (Option Int) := fun d => match d with
  | .int i => pu (some i)
  | _ => no
@[simp] theorem kO_ (i : Int) : kO (.int i) = pu (some i) := rfl
@[simp] theorem oS_ (m : M D) : oS m en so = bdR (m en so) kO := rfl
@[simp] theorem mSl_ (f : D → Option Int → Option Int → M A) (m : M D) (lo hi : M (Option Int)) : mSl f m lo hi en so = bdR (m en so) fun d => bd lo fun l => bd hi fun h => f d l h := rfl
@[simp] theorem slS_ (s : List Nat) (lo hi : Option Int) : slS (.str s) lo hi = gd (s.length ≤ 16777216) (pu (.str (cutL s lo hi))) := rfl
@[simp] theorem slL_ (s : List D) (lo hi : Option Int) : slL (.lst s) lo hi = pu (.cel (.lst (cutL s lo hi))) := rfl
/-- the caller goes on after a call -/
def kCall (f : FunM) (ds : List D) : M B := fun en so => match f ds so with
  | .ok b so' => .ok b en so'
  | .exc x so' => .exc x en so'
  | .no => .no
@[simp] theorem mCall_ (f : FunM) (ms : M (List D)) : mCall f ms en so = bdR (ms en so) (kCall f) := rfl
/-- .. of a call whose answer is known -/
def rfR (r : Rf) (en : En) : Re B := match r with
  | .ok b so' => .ok b en so'
  | .exc x so' => .exc x en so'
  | .no => .no
@[simp] theorem kCall_ (f : FunM) (ds : List D) : kCall f ds en so = rfR (f ds so) en := rfl
@[simp] theorem rfR_ok (b : B) : rfR (.ok b so) en = .ok b en so := rfl
@[simp] theorem rfR_exc (x : Xc) : rfR (.exc x so) en = .exc x en so := rfl
def kIs (T : TyN) : D → M D := fun d => match d with
  | .obj _ => no
  | d => pu (.bl (isD T d))
@[simp] theorem mIs_ (T : TyN) (m : M D) : mIs T m en so = bdR (m en so) (kIs T) := rfl
@[simp] theorem kIs_non (T : TyN) : kIs T .non = pu (.bl (isD T .non)) := rfl
@[simp] theorem kIs_bl (T : TyN) (b : Bool) : kIs T (.bl b) = pu (.bl (isD T (.bl b))) := rfl
@[simp] theorem kIs_int (T : TyN) (b : Int) : kIs T (.int b) = pu (.bl (isD T (.int b))) := rfl
@[simp] theorem kIs_str (T : TyN) (b : List Nat) : kIs T (.str b) = pu (.bl (isD T (.str b))) := rfl
@[simp] theorem kIs_lst (T : TyN) (b : List D) : kIs T (.lst b) = pu (.bl (isD T (.lst b))) := rfl
@[simp] theorem kIs_tup (T : TyN) (b : List D) : kIs T (.tup b) = pu (.bl (isD T (.tup b))) := rfl
@[simp] theorem kIs_dct (T : TyN) (b : List (Ky × D)) : kIs T (.dct b) = pu (.bl (isD T (.dct b))) := rfl
@[simp] theorem mIsN_ (m : M D) : mIsN m en so = bdR (m en so) fun d => pu (.bl (isN d)) := rfl
@[simp] theorem mNotN_ (m : M D) : mNotN m en so = bdR (m en so) fun d => pu (.bl (!isN d)) := rfl
def opR {A A' : Type} (o : Option A) (k : A → M A') : M A' := match o with
  | some a => k a
  | none => no
@[simp] theorem opR_some (a : A) (k : A → M A') : opR (some a) k = k a := rfl
@[simp] theorem ix_lst (xs : List D) (i : Int) : ixD (.lst xs) (.int i) = opR (atI xs i) pu := by show (match atI xs i with | some d => pu d | none => no) = _; cases atI xs i <;> rfl
@[simp] theorem ix_tup (xs : List D) (i : Int) : ixD (.tup xs) (.int i) = opR (atI xs i) pu := by show (match atI xs i with | some d => pu d | none => no) = _; cases atI xs i <;> rfl
@[simp] theorem ix_str (s : List Nat) (i : Int) : ixD (.str s) (.int i) = gd (s.length ≤ 16777216) (opR (atI s i) fun c => pu (.str [c])) := by show gd _ (match atI s i with | some c => pu (D.str [c]) | none => no) = _; cases atI s i <;> rfl
def kM {A : Type} (f : List Nat → M A) : D → M A := fun d => match d with
  | .str z => f z
  | _ => no
@[simp] theorem kM_ (f : List Nat → M A) (z : List Nat) : kM f (.str z) = f z := rfl
@[simp] theorem mM1_ (f : List Nat → D → M A) (o e : M D) : mM1 f o e en so = bdR (o en so) (kM fun z => bd e fun y => f z y) := rfl
@[simp] theorem mM0_ (f : List Nat → M A) (o : M D) : mM0 f o en so = bdR (o en so) (kM f) := rfl
/-- a comprehension whose element makes g d of each d -/
@[simp] theorem isD_bb (b : Bool) : isD .bool (.bl b) = true := rfl
@[simp] theorem isD_ib (b : Bool) : isD .int (.bl b) = true := rfl
@[simp] theorem isD_bi (b : Int) : isD .bool (.int b) = false := rfl
@[simp] theorem isD_ii (b : Int) : isD .int (.int b) = true := rfl
@[simp] theorem isD_ss (b : List Nat) : isD .str (.str b) = true := rfl
@[simp] theorem isD_ll (b : List D) : isD .list (.lst b) = true := rfl
@[simp] theorem isD_tt (b : List D) : isD .tuple (.tup b) = true := rfl
@[simp] theorem isD_dd (b : List (Ky × D)) : isD .dict (.dct b) = true := rfl
theorem lcGo_map {vs : List Nat} {tg : Tg} {el : M D} (g : D → D) : ∀ (ds acc : List D), (∀ d ∈ ds, ∃ en0, tg d en = some en0 ∧ el en0 so = .ok (g d) en0 so ∧ wipeE en0 vs = en) → acc.length + ds.length ≤ 16777216 → lcGo vs tg (pu true) el ds acc en so = .ok (acc ++ ds.map g) en so
  | [], acc, _, _ => by simp [lcGo]
  | d :: ds, acc, h, hl => by
    obtain ⟨en0, h1, h2, h3⟩ := h d List.mem_cons_self
    have hl' : acc.length + (ds.length + 1) ≤ 16777216 := hl
    have ih := lcGo_map g ds (acc ++ [g d]) (fun d' hd => h d' (List.mem_cons_of_mem _ hd)) (by rw [List.length_append, List.length_singleton]; omega)
    unfold lcGo
    simp only [h1, pu_, h2, h3]
    rw [if_pos (by omega), ih]
    simp
/-- .. and keeps those of which f holds -/
theorem lcGo_filter {vs : List Nat} {tg : Tg} {tt : M Bool} {el : M D} (f : D → Bool) (g : D → D) : ∀ (ds acc : List D), (∀ d ∈ ds, ∃ en0, tg d en = some en0 ∧ tt en0 so = .ok (f d) en0 so ∧ (f d = true → el en0 so = .ok (g d) en0 so) ∧ wipeE en0 vs = en) → acc.length + ds.length ≤ 16777216 →
    lcGo vs tg tt el ds acc en so = .ok (acc ++ (ds.filter f).map g) en so
  | [], acc, _, _ => by simp [lcGo]
  | d :: ds, acc, h, hl => by
    obtain ⟨en0, h1, h2, h3, h4⟩ := h d List.mem_cons_self
    have hl' : acc.length + (ds.length + 1) ≤ 16777216 := hl
    unfold lcGo
    simp only [h1, h2]
    cases hf : f d with
    | false =>
      have ih := lcGo_filter f g ds acc (fun d' hd => h d' (List.mem_cons_of_mem _ hd)) (by omega)
      simp only [h4]
      rw [ih]
      simp [List.filter_cons, hf]
    | true =>
      have ih := lcGo_filter f g ds (acc ++ [g d]) (fun d' hd => h d' (List.mem_cons_of_mem _ hd)) (by rw [List.length_append, List.length_singleton]; omega)
      simp only [h3 hf, h4]
      rw [if_pos (by omega), ih]
      simp [List.filter_cons, hf]
theorem lcGo_mp {A : Type} {vs : List Nat} {tg : Tg} {el : M D} (f g : A → D) (l : List A) (h : ∀ a ∈ l, ∃ en0, tg (f a) en = some en0 ∧ el en0 so = .ok (g a) en0 so ∧ wipeE en0 vs = en) (hl : l.length ≤ 16777216) : lcGo vs tg (pu true) el (l.map f) [] en so = .ok (l.map g) en so := by
  have key : ∀ (l : List A) (acc : List D), (∀ a ∈ l, ∃ en0, tg (f a) en = some en0 ∧ el en0 so = .ok (g a) en0 so ∧ wipeE en0 vs = en) → acc.length + l.length ≤ 16777216 → lcGo vs tg (pu true) el (l.map f) acc en so = .ok (acc ++ l.map g) en so := by
    intro l
    induction l with
    | nil => intro acc _ _; simp [lcGo]
    | cons a l ih =>
      intro acc h hl
      obtain ⟨en0, h1, h2, h3⟩ := h a List.mem_cons_self
      have hl' : acc.length + (l.length + 1) ≤ 16777216 := hl
      have ih := ih (acc ++ [g a]) (fun d' hd => h d' (List.mem_cons_of_mem _ hd)) (by rw [List.length_append, List.length_singleton]; omega)
      rw [List.map_cons]
      unfold lcGo
      simp only [h1, pu_, h2, h3]
      rw [if_pos (by omega), ih]
      simp
  exact key l [] h (by simpa using hl)
theorem lcGo_flt {A : Type} {vs : List Nat} {tg : Tg} {tt : M Bool} {el : M D} (f : A → D) (p : A → Bool) (g : A → D) (l : List A) (h : ∀ a ∈ l, ∃ en0, tg (f a) en = some en0 ∧ tt en0 so = .ok (p a) en0 so ∧ (p a = true → el en0 so = .ok (g a) en0 so) ∧ wipeE en0 vs = en) (hl : l.length ≤ 16777216) : lcGo vs tg tt el (l.map f) [] en so = .ok ((l.filter p).map g) en so := by
  have key : ∀ (l : List A) (acc : List D), (∀ a ∈ l, ∃ en0, tg (f a) en = some en0 ∧ tt en0 so = .ok (p a) en0 so ∧ (p a = true → el en0 so = .ok (g a) en0 so) ∧ wipeE en0 vs = en) → acc.length + l.length ≤ 16777216 → lcGo vs tg tt el (l.map f) acc en so = .ok (acc ++ (l.filter p).map g) en so := by
    intro l
    induction l with
    | nil => intro acc _ _; simp [lcGo]
    | cons a l ih =>
      intro acc h hl
      obtain ⟨en0, h1, h2, h3, h4⟩ := h a List.mem_cons_self
      have hl' : acc.length + (l.length + 1) ≤ 16777216 := hl
      rw [List.map_cons]
      unfold lcGo
      simp only [h1, h2]
      cases hp : p a with
      | false =>
        simp only [h4]
        rw [ih acc (fun d' hd => h d' (List.mem_cons_of_mem _ hd)) (by omega)]
        simp [List.filter_cons, hp]
      | true =>
        simp only [h3 hp, h4]
        rw [if_pos (by omega), ih (acc ++ [g a]) (fun d' hd => h d' (List.mem_cons_of_mem _ hd)) (by rw [List.length_append, List.length_singleton]; omega)]
        simp [List.filter_cons, hp]
  exact key l [] h (by simpa using hl)
def lcR (vs : List Nat) (en : En) (r : Re (List D)) : Re B := match r with
  | .ok xs en' so' => .ok (.cel (.lst xs)) (backE en en' vs) so'
  | _ => .no
@[simp] theorem lcR_ (vs : List Nat) (en en' : En) (xs : List D) : lcR vs en (.ok xs en' so) = .ok (.cel (.lst xs)) (backE en en' vs) so := rfl
def kLc (vs : List Nat) (tg : Tg) (tt : M Bool) (el : M D) (ds : List D) : M B := fun en so => lcR vs en (lcGo vs tg tt el ds [] (wipeE en vs) so)
@[simp] theorem kLc_ (vs : List Nat) (tg : Tg) (tt : M Bool) (el : M D) (ds : List D) : kLc vs tg tt el ds en so = lcR vs en (lcGo vs tg tt el ds [] (wipeE en vs) so) := rfl
@[simp] theorem mLc_ (vs : List Nat) (tg : Tg) (src : M (List D)) (tt : M Bool) (el : M D) : mLc vs tg src tt el en so = bdR (src en so) (kLc vs tg tt el) := by
  unfold mLc bd bdR kLc lcR
  cases src en so <;> rfl
@[simp] theorem wipeE_nil : wipeE en [] = en := rfl
@[simp] theorem wipeE_cons (v : Nat) (vs : List Nat) : wipeE en (v :: vs) = (wipeE en vs).set v none := rfl
@[simp] theorem backE_nil (en0 : En) : backE en0 en [] = en := rfl
@[simp] theorem backE_cons (en0 : En) (v : Nat) (vs : List Nat) : backE en0 en (v :: vs) = (backE en0 en vs).set v (keepD en0 v) := rfl
theorem joinL_nil (ys : List (List Nat)) : TL.joinL [] ys = ys.flatten := by
  induction ys with
  | nil => rfl
  | cons y ys ih =>
    cases ys with
    | nil => simp [TL.joinL]
    | cons z zs =>
      unfold TL.joinL
      rw [ih]
      simp
theorem singles_flat (l : List Nat) : (l.map fun c => [c]).flatten = l := by
  induction l with
  | nil => rfl
  | cons c l ih => simp [ih]
theorem singles_sz (l : List Nat) : szL (l.map fun c => [c]) = l.length := by
  unfold szL
  induction l with
  | nil => rfl
  | cons c l ih => simp only [List.map_cons, List.sum_cons, List.length_cons, List.length_nil, ih]; omega
/-- "".join of signs -/
theorem join_signs (l : List Nat) (h : l.length ≤ 16777216) : joinD [] (.lst (l.map fun c => .str [c])) en so = .ok (.str l) en so := by
  show (match strsOf (l.map fun c => D.str [c]) with | some ys => gd (szL ys + ys.length * ([] : List Nat).length ≤ 16777216) (pu (D.str (TL.joinL [] ys))) | none => no) en so = _
  rw [strsOf_map' (fun c => [c])]
  show gd _ _ _ _ = _
  rw [gd_t (by rw [singles_sz, List.length_nil, Nat.mul_zero]; omega), joinL_nil, singles_flat]
  rfl
end
theorem atI_get' {A : Type} [Inhabited A] (l : List A) (i : Int) (h0 : 0 ≤ i) (h1 : i < l.length) : atI l i = some (l.getD i.toNat default) := by
  obtain ⟨n, rfl⟩ := Int.eq_ofNat_of_zero_le h0
  have hn : n < l.length := by exact_mod_cast h1
  have := atI_nat (xs := l) (j := n) (v := l[n]) (List.getElem?_eq_getElem hn)
  rw [this]
  simp [hn]
theorem atI_map {A A' : Type} (f : A → A') (l : List A) (i : Int) : atI (l.map f) i = (atI l i).map f := by
  unfold atI
  rw [List.length_map]
  cases ixN l.length i with
  | none => rfl
  | some j => simp
@[simp] theorem atI_0 {A : Type} (a : A) (l : List A) : atI (a :: l) 0 = some a := by
  have := atI_nat (xs := a :: l) (j := 0) (v := a) rfl
  exact this
@[simp] theorem atI_1 {A : Type} (a b : A) (l : List A) : atI (a :: b :: l) 1 = some b := by
  have := atI_nat (xs := a :: b :: l) (j := 1) (v := b) rfl
  exact this
@[simp] theorem atI_2 {A : Type} (a b c : A) (l : List A) : atI (a :: b :: c :: l) 2 = some c := by
  have := atI_nat (xs := a :: b :: c :: l) (j := 2) (v := c) rfl
  exact this
@[simp] theorem atI_3 {A : Type} (a b c d : A) (l : List A) : atI (a :: b :: c :: d :: l) 3 = some d := by
  have := atI_nat (xs := a :: b :: c :: d :: l) (j := 3) (v := d) rfl
  exact this
theorem cutL_map {A A' : Type} (f : A → A') (l : List A) (lo hi : Option Int) : cutL (l.map f) lo hi = (cutL l lo hi).map f := by
  unfold cutL
  rw [List.length_map, ← List.map_drop, ← List.map_take]
theorem cutL_len {A : Type} (l : List A) (lo hi : Option Int) : (cutL l lo hi).length ≤ l.length := by
  unfold cutL
  rw [List.length_take, List.length_drop]
  omega
theorem cutL_all {A : Type} (p : A → Bool) (l : List A) (lo hi : Option Int) (h : l.all p = true) : (cutL l lo hi).all p = true := by
  rw [List.all_eq_true] at *
  intro x hx
  exact h x (List.mem_of_mem_drop (List.mem_of_mem_take hx))
@[simp] theorem keepD_ (en : En) (i : Nat) : keepD en i = (match en[i]? with
  | some (some (.dat d)) => some (.dat d)
  | _ => none) := rfl
/-! ### loops -/
theorem forGo_nil {tg : Tg} {body : M Fl} {en : En} {so : So} : forGo tg body [] en so = .ok .nx en so := rfl
theorem forGo_cons {tg : Tg} {body : M Fl} {d : D} {ds : List D} {en en1 : En} {so : So} (h : tg d en = some en1) : forGo tg body (d :: ds) en so = (match body en1 so with
    | .ok .nx en2 so2 => forGo tg body ds en2 so2
    | .ok .ct en2 so2 => forGo tg body ds en2 so2
    | .ok .bk en2 so2 => .ok .nx en2 so2
    | r => r) := by
  conv => lhs; unfold forGo
  rw [h]
  try rfl
/-- a walk that goes to its end, under an invariant -/
theorem forGo_inv {A : Type} {tg : Tg} {body : M Fl} (f : A → D) (I : List A → En → So → Prop) : ∀ (l done : List A) (en : En) (so : So), I done en so →
    (∀ (done : List A) (a : A) (en : En) (so : So), a ∈ l → I done en so → ∃ en1, tg (f a) en = some en1 ∧ ∃ en2 so2, (body en1 so = .ok .nx en2 so2 ∨ body en1 so = .ok .ct en2 so2) ∧ I (done ++ [a]) en2 so2) →
    ∃ en' so', forGo tg body (l.map f) en so = .ok .nx en' so' ∧ I (done ++ l) en' so'
  | [], done, en, so, h0, _ => ⟨en, so, rfl, by rw [List.append_nil]; exact h0⟩
  | a :: l, done, en, so, h0, st => by
    obtain ⟨en1, h1, en2, so2, h2, h3⟩ := st done a en so List.mem_cons_self h0
    obtain ⟨en', so', h4, h5⟩ := forGo_inv f I l (done ++ [a]) en2 so2 h3 fun d b e s hb => st d b e s (List.mem_cons_of_mem _ hb)
    refine ⟨en', so', ?_, by rw [List.append_assoc] at h5; exact h5⟩
    rw [List.map_cons, forGo_cons h1]
    rcases h2 with h2 | h2 <;> rw [h2] <;> exact h4
/-- .. that is told what lies behind and ahead -/
theorem forGo_at {A : Type} {tg : Tg} {body : M Fl} (f : A → D) (I : List A → En → So → Prop) (l0 : List A) : ∀ (l done : List A) (en : En) (so : So), done ++ l = l0 → I done en so →
    (∀ (done : List A) (a : A) (rest : List A) (en : En) (so : So), done ++ a :: rest = l0 → I done en so → ∃ en1, tg (f a) en = some en1 ∧ ∃ en2 so2, (body en1 so = .ok .nx en2 so2 ∨ body en1 so = .ok .ct en2 so2) ∧ I (done ++ [a]) en2 so2) →
    ∃ en' so', forGo tg body (l.map f) en so = .ok .nx en' so' ∧ I l0 en' so'
  | [], done, en, so, e, h0, _ => ⟨en, so, rfl, by rw [List.append_nil] at e; rw [← e]; exact h0⟩
  | a :: l, done, en, so, e, h0, st => by
    obtain ⟨en1, h1, en2, so2, h2, h3⟩ := st done a l en so e h0
    obtain ⟨en', so', h4, h5⟩ := forGo_at f I l0 l (done ++ [a]) en2 so2 (by rw [List.append_assoc]; exact e) h3 st
    refine ⟨en', so', ?_, h5⟩
    rw [List.map_cons, forGo_cons h1]
    rcases h2 with h2 | h2 <;> rw [h2] <;> exact h4
/-- a walk that ends at the first thing that isn't right -/
theorem forGo_all {A : Type} {tg : Tg} {body : M Fl} (f : A → D) (p : A → Bool) (r : B) (I : En → So → Prop) : ∀ (l : List A) (en : En) (so : So), I en so →
    (∀ (a : A) (en : En) (so : So), a ∈ l → I en so → ∃ en1, tg (f a) en = some en1 ∧ ∃ en2 so2, body en1 so = (if p a = true then .ok .nx en2 so2 else .ok (.rt r) en2 so2) ∧ I en2 so2) →
    ∃ en' so', forGo tg body (l.map f) en so = (if l.all p = true then .ok .nx en' so' else .ok (.rt r) en' so') ∧ I en' so'
  | [], en, so, h0, _ => ⟨en, so, rfl, h0⟩
  | a :: l, en, so, h0, st => by
    obtain ⟨en1, h1, en2, so2, h2, h3⟩ := st a en so List.mem_cons_self h0
    cases hp : p a with
    | true =>
      rw [hp, if_pos rfl] at h2
      obtain ⟨en', so', h4, h5⟩ := forGo_all f p r I l en2 so2 h3 fun b e s hb => st b e s (List.mem_cons_of_mem _ hb)
      refine ⟨en', so', ?_, h5⟩
      rw [List.map_cons, forGo_cons h1, h2, List.all_cons, hp, Bool.true_and]
      exact h4
    | false =>
      rw [hp, if_neg Bool.false_ne_true] at h2
      refine ⟨en2, so2, ?_, h3⟩
      rw [List.map_cons, forGo_cons h1, h2, List.all_cons, hp, Bool.false_and, if_neg Bool.false_ne_true]
/-! ### texts -/
@[simp] theorem in_str (c : Nat) (z : List Nat) : inD (.str [c]) (.str z) = pu (.bl (decide (c ∈ z))) := rfl
@[simp] theorem ni_str (c : Nat) (z : List Nat) : niD (.str [c]) (.str z) = pu (.bl (!decide (c ∈ z))) := rfl
@[simp] theorem count_1 (z : List Nat) (c : Nat) : countD z (.str [c]) = pu (.int (z.count c)) := by
  show pu (D.int (Txt.count (sT z) (sT [c]))) = _
  have e : Txt.count (sT z) (sT [c]) = (z.count c : Nat) := by
    have := PyProof.Rows.count_cnt (sT z) c
    rw [show (sT z).cps.toList = z from tl_sT z] at this
    rw [show sT [c] = ⟨#[c]⟩ from rfl, this]
    clear this
    induction z with
    | nil => rfl
    | cons x z ih =>
      rw [PyProof.Rows.cnt_cons, ih, List.count_cons]
      by_cases h : x = c
      · subst h; simp; omega
      · simp [h]
  rw [e]
/-- the pieces between the signs c -/
def pieces (c : Nat) : List Nat → List Nat → List (List Nat)
  | acc, [] => [acc]
  | acc, x :: r => if x = c then acc :: pieces c [] r else pieces c (acc ++ [x]) r
theorem spl_pieces (c : Nat) : ∀ (z acc : List Nat), TL.spl [c] 0 acc z = pieces c acc z
  | [], acc => TL.spl_nil _ _ _
  | x :: r, acc => by
    unfold pieces
    by_cases h : x = c
    · rw [if_pos h, TL.spl_hit (by subst h; simp [TL.pre])]
      exact congrArg _ (spl_pieces c r [])
    · rw [if_neg h, TL.spl_miss (by simp [TL.pre, h, Ne.symm h])]
      exact spl_pieces c r _
@[simp] theorem split_1 (z : List Nat) (c : Nat) : splitD z (.str [c]) = gd (z.length + 2 ≤ 16777216 ∧ c < 256) (pu (.cel (.lst ((pieces c [] z).map .str)))) := by
  show gd ([c] ≠ [] ∧ z.length + 2 ≤ 16777216 ∧ [c].all (· < 256) = true) (pu (B.cel (.lst ((TL.spl [c] 0 [] z).map .str)))) = _
  rw [spl_pieces]
  unfold gd
  funext en so
  by_cases h : z.length + 2 ≤ 16777216 ∧ c < 256
  · rw [if_pos h, if_pos ⟨by simp, h.1, by simpa using h.2⟩]
  · rw [if_neg h, if_neg fun q => h ⟨q.2.1, by simpa using q.2.2⟩]
theorem pieces_mem (c x : Nat) (hx : x ≠ c) : ∀ (z acc : List Nat), (x ∈ acc ∨ x ∈ z) → ∃ p ∈ pieces c acc z, x ∈ p
  | [], acc, h => ⟨acc, List.mem_cons_self, h.elim id (by simp)⟩
  | y :: r, acc, h => by
    unfold pieces
    by_cases hy : y = c
    · rw [if_pos hy]
      rcases h with h | h
      · exact ⟨acc, List.mem_cons_self, h⟩
      · have h' : x ∈ r := by
          rcases List.mem_cons.mp h with h | h
          · exact absurd (h.trans hy) hx
          · exact h
        obtain ⟨p, h1, h2⟩ := pieces_mem c x hx r [] (.inr h')
        exact ⟨p, List.mem_cons_of_mem _ h1, h2⟩
    · rw [if_neg hy]
      refine pieces_mem c x hx r (acc ++ [y]) ?_
      rcases h with h | h
      · exact .inl (List.mem_append_left _ h)
      · rcases List.mem_cons.mp h with h | h
        · exact .inl (by rw [h]; simp)
        · exact .inr h
theorem pieces_len (c : Nat) : ∀ (z acc : List Nat), ∀ p ∈ pieces c acc z, p.length ≤ acc.length + z.length
  | [], acc, p, h => by
    have : p = acc := by simpa [pieces] using h
    rw [this]; simp
  | y :: r, acc, p, h => by
    unfold pieces at h
    split at h
    · rcases List.mem_cons.mp h with h | h
      · rw [h]; omega
      · have := pieces_len c r [] p h
        simp at this ⊢; omega
    · have := pieces_len c r (acc ++ [y]) p h
      simp at this ⊢; omega
theorem pieces_count (c : Nat) : ∀ (z acc : List Nat), (pieces c acc z).length ≤ z.length + 1
  | [], acc => by simp [pieces]
  | y :: r, acc => by
    unfold pieces
    split
    · have := pieces_count c r []
      simp; omega
    · have := pieces_count c r (acc ++ [y])
      simp; omega
theorem at_1 (z : List Nat) (c i : Nat) : StrLaws.At (sT z) (sT [c]) (sT z).length i ↔ z[i]? = some c := by
  have := StrLaws.subAt_one (sT z) c i
  rw [show (sT z).cps.toList = z from tl_sT z] at this
  exact this
theorem find_none {z : List Nat} {c : Nat} (h : c ∉ z) : findD z (.str [c]) = pu (.int (-1)) := by
  show pu (D.int (Txt.find (sT z) (sT [c]))) = _
  rcases PyProof.Rows.find_whole (sT z) (sT [c]) with ⟨e, _⟩ | ⟨i, _, ha, _⟩
  · rw [e]
  · exact absurd (List.mem_of_getElem? ((at_1 z c i).mp ha)) h
theorem find_app {A B : List Nat} {c : Nat} (h : c ∉ A) : findD (A ++ c :: B) (.str [c]) = pu (.int A.length) := by
  show pu (D.int (Txt.find (sT (A ++ c :: B)) (sT [c]))) = _
  have hA : (A ++ c :: B)[A.length]? = some c := by simp
  rcases PyProof.Rows.find_whole (sT (A ++ c :: B)) (sT [c]) with ⟨_, hn⟩ | ⟨i, e, ha, hn⟩
  · exact absurd ((at_1 _ c A.length).mpr hA) (hn _)
  · have h1 := (at_1 _ c i).mp ha
    have : i = A.length := by
      rcases Nat.lt_trichotomy i A.length with hl | hl | hl
      · rw [List.getElem?_append_left hl] at h1
        exact absurd (List.mem_of_getElem? h1) h
      · exact hl
      · exact absurd ((at_1 _ c A.length).mpr hA) (hn _ hl)
    rw [e, this]
theorem rfind_none {z : List Nat} {c : Nat} (h : c ∉ z) : rfindD z (.str [c]) = pu (.int (-1)) := by
  show pu (D.int (Txt.rfind (sT z) (sT [c]))) = _
  rcases PyProof.Rows.rfind_whole (sT z) (sT [c]) with ⟨e, _⟩ | ⟨i, _, ha, _⟩
  · rw [e]
  · exact absurd (List.mem_of_getElem? ((at_1 z c i).mp ha)) h
theorem rfind_app {A B : List Nat} {c : Nat} (h : c ∉ B) : rfindD (A ++ c :: B) (.str [c]) = pu (.int A.length) := by
  show pu (D.int (Txt.rfind (sT (A ++ c :: B)) (sT [c]))) = _
  have hA : (A ++ c :: B)[A.length]? = some c := by simp
  rcases PyProof.Rows.rfind_whole (sT (A ++ c :: B)) (sT [c]) with ⟨_, hn⟩ | ⟨i, e, ha, hn⟩
  · exact absurd ((at_1 _ c A.length).mpr hA) (hn _)
  · have h1 := (at_1 _ c i).mp ha
    have : i = A.length := by
      rcases Nat.lt_trichotomy i A.length with hl | hl | hl
      · exact absurd ((at_1 _ c A.length).mpr hA) (hn _ hl)
      · exact hl
      · rw [List.getElem?_append_right (by omega)] at h1
        obtain ⟨j, hj⟩ : ∃ j, i - A.length = j + 1 := ⟨i - A.length - 1, by omega⟩
        rw [hj, List.getElem?_cons_succ] at h1
        exact absurd (List.mem_of_getElem? h1) h
    rw [e, this]
theorem first_of {z : List Nat} {c : Nat} (h : c ∈ z) : ∃ A B, z = A ++ c :: B ∧ c ∉ A := by
  induction z with
  | nil => cases h
  | cons x z ih =>
    by_cases hx : x = c
    · exact ⟨[], z, by rw [hx]; rfl, by simp⟩
    · obtain ⟨A, B, e, hn⟩ := ih (by rcases List.mem_cons.mp h with h | h; exact absurd h.symm hx; exact h)
      exact ⟨x :: A, B, by rw [e]; rfl, fun q => by rcases List.mem_cons.mp q with q | q; exact hx q.symm; exact hn q⟩
theorem last_of {z : List Nat} {c : Nat} (h : c ∈ z) : ∃ A B, z = A ++ c :: B ∧ c ∉ B := by
  obtain ⟨A, B, e, hn⟩ := first_of (List.mem_reverse.mpr h)
  refine ⟨B.reverse, A.reverse, ?_, fun q => hn (List.mem_reverse.mp q)⟩
  have := congrArg List.reverse e
  simpa using this
/-- s[:k], s[k:] of natural places within -/
theorem cut_take {A : Type} (l : List A) (k : Nat) : cutL l none (some (k : Int)) = l.take k := by
  unfold cutL
  rw [HT.sIx_nat, HT.sIx_none, Nat.sub_zero, List.drop_zero]
  by_cases h : k ≤ l.length
  · rw [Nat.min_eq_left h]
  · rw [Nat.min_eq_right (by omega), List.take_length, List.take_of_length_le (by omega)]
theorem cut_drop {A : Type} (l : List A) (k : Nat) : cutL l (some (k : Int)) none = l.drop k := by
  unfold cutL
  rw [HT.sIx_nat, HT.sIx_none]
  by_cases h : k ≤ l.length
  · rw [Nat.min_eq_left h, List.take_of_length_le (by rw [List.length_drop]; omega)]
  · rw [Nat.min_eq_right (by omega), List.drop_length, List.drop_of_length_le (by omega)]
    simp
theorem cut_mid {A : Type} (l : List A) (a b : Nat) : cutL l (some (a : Int)) (some (b : Int)) = (l.take b).drop a := by
  unfold cutL
  rw [HT.sIx_nat, HT.sIx_nat, List.drop_take]
  by_cases ha : a ≤ l.length
  · rw [Nat.min_eq_left ha]
    by_cases hb : b ≤ l.length
    · rw [Nat.min_eq_left hb]
    · rw [Nat.min_eq_right (show l.length ≤ b by omega), List.take_of_length_le (by rw [List.length_drop]; omega), List.take_of_length_le (by rw [List.length_drop]; omega)]
  · rw [Nat.min_eq_right (show l.length ≤ a by omega), List.drop_length, List.drop_of_length_le (show l.length ≤ a by omega)]
    simp
/-! ### lists that change -/
section
variable {en : En} {so : So}
@[simp] theorem hV_ (i : Nat) : hV i en so = (match en[i]? with
  | some (some _) => .ok (.slot i) en so
  | _ => .no) := rfl
@[simp] theorem hD_ (m : M D) : hD m en so = bdR (m en so) fun d => pu (.dat d) := rfl
@[simp] theorem rdD_lst (xs : List D) : rdD (.lst xs) = pu (.lst xs) := rfl
@[simp] theorem rdD_dct (xs : List (Ky × D)) : rdD (.dct xs) = pu (.dct xs) := rfl
@[simp] theorem rdH_dat (d : D) : rdH (.dat d) = rdD d := rfl
@[simp] theorem rdH_slot (i : Nat) : rdH (.slot i) en so = (match en[i]? with
  | some (some (.cel c)) => .ok c en so
  | some (some (.dat d)) => rdD d en so
  | _ => .no) := rfl
/-- the end of a write -/
def wrR {A : Type} (o : Option (A × C)) (k : A → C → Re A) : Re A := match o with
  | some (a, c) => k a c
  | none => .no
@[simp] theorem wrR_some {A : Type} (a : A) (c : C) (k : A → C → Re A) : wrR (some (a, c)) k = k a c := rfl
@[simp] theorem wrtH_slot {A : Type} (i : Nat) (f : C → Option (A × C)) : wrtH (.slot i) f en so = (match en[i]? with
  | some (some (.cel c)) => wrR (f c) fun a c' => .ok a (en.set i (some (.cel c'))) so
  | some (some (.dat d)) => wrtD d f en so
  | _ => .no) := by
  unfold wrtH
  dsimp only
  generalize en[i]? = o
  rcases o with _ | _ | _ | c | _
  · rfl
  · rfl
  · rfl
  rotate_left
  · rfl
  · show (match f c with | some (a, c') => _ | none => _) = wrR (f c) _
    rcases f c with _ | ⟨a, c'⟩ <;> rfl
@[simp] theorem isLst_lst (xs : List D) : isLst (.lst xs) = true := rfl
@[simp] theorem mHM0_ (f : C → Option (D × C)) (mh : M Hd) : mHM0 f mh en so = bdR (mh en so) fun h => bd (rdH h) fun c => gd (isLst c = true) (wrtH h f) := rfl
@[simp] theorem mHM1_ (f : C → D → Option (D × C)) (mh : M Hd) (m : M D) : mHM1 f mh m en so = bdR (mh en so) fun h => bd (rdH h) fun c => gd (isLst c = true) (bd m fun d => wrtH h fun c => f c d) := rfl
@[simp] theorem apF_ {xs : List D} (h : xs.length < 16777216) (d : D) : apF (.lst xs) d = some (.non, .lst (xs ++ [d])) := if_pos h
@[simp] theorem revF_ (xs : List D) : revF (.lst xs) = some (.non, .lst xs.reverse) := rfl
@[simp] theorem clrF_ (xs : List D) : clrF (.lst xs) = some (.non, .lst []) := rfl
@[simp] theorem sStL_ (mh : M Hd) (mi mv : M D) : sStL mh mi mv en so = bdR (mv en so) fun v => bd mh fun h => bd mi fun i => bd (wrtH h fun c => stF c i v) fun _ => pu .nx := rfl
@[simp] theorem mIxH_ (mh : M Hd) (mi : M D) : mIxH mh mi en so = bdR (mh en so) fun h => bd mi fun i => bd (rdH h) fun c => ixC c i := rfl
@[simp] theorem ixC_ (xs : List D) (i : Int) : ixC (.lst xs) (.int i) = opR (atI xs i) pu := by show (match atI xs i with | some d => pu d | none => no) = _; cases atI xs i <;> rfl
@[simp] theorem mLenH_ (mh : M Hd) : mLenH mh en so = bdR (mh en so) fun h => bd (rdH h) lenC := rfl
@[simp] theorem lenC_ (xs : List D) : lenC (.lst xs) = pu (.int xs.length) := rfl
@[simp] theorem mTruH_ (mh : M Hd) : mTruH mh en so = bdR (mh en so) fun h => bd (rdH h) truC := rfl
@[simp] theorem truC_ (xs : List D) : truC (.lst xs) = pu (!xs.isEmpty) := rfl
@[simp] theorem mInH_ (neg : Bool) (m : M D) (mh : M Hd) : mInH neg m mh en so = bdR (m en so) fun d => bd mh fun h => bd (rdH h) (inC d neg) := rfl
@[simp] theorem inC_ (d : D) (neg : Bool) (xs : List D) : inC d neg (.lst xs) = gd (okq 23 d = true ∧ xs.all (okq 23) = true) (pu (.bl (if neg then !xs.any (fun z => eqD z d) else xs.any fun z => eqD z d))) := rfl
@[simp] theorem mVF_ (i : Nat) : mVF i en so = (match en[i]? with
  | some (some (.dat d)) => .ok d en so
  | some (some (.cel c)) => .ok c.toD (en.set i (some (.dat c.toD))) so
  | _ => .no) := rfl
@[simp] theorem ctoD_lst (xs : List D) : (C.lst xs).toD = .lst xs := rfl
@[simp] theorem ctoD_dct (xs : List (Ky × D)) : (C.dct xs).toD = .dct xs := rfl
@[simp] theorem powI (a b : Int) : powD (.int a) (.int b) = gd (0 ≤ b ∧ b ≤ 1000000 ∧ a.natAbs < 18446744073709551616) (pu (.int (a ^ b.toNat))) := rfl
@[simp] theorem mCatL_ (ma mb : M D) : mCatL ma mb en so = bdR (ma en so) fun d => bd mb fun e => catL d e := rfl
@[simp] theorem catL_ (xs ys : List D) : catL (.lst xs) (.lst ys) = gd (xs.length + ys.length ≤ 16777216) (pu (.cel (.lst (xs ++ ys)))) := rfl
@[simp] theorem catT_ (xs ys : List D) : catT (.tup xs) (.tup ys) = gd (xs.length + ys.length ≤ 16777216) (pu (.tup (xs ++ ys))) := rfl
@[simp] theorem listD_l (xs : List D) : listD [.lst xs] = pu (.cel (.lst xs)) := rfl
@[simp] theorem listD_t (xs : List D) : listD [.tup xs] = pu (.cel (.lst xs)) := rfl
@[simp] theorem tupleD_l (xs : List D) : tupleD [.lst xs] = pu (.tup xs) := rfl
@[simp] theorem tupleD_t (xs : List D) : tupleD [.tup xs] = pu (.tup xs) := rfl
end
@[simp] theorem rg1_nat {k : Nat} (h : k ≤ 16777216) : rg1 (.int (k : Int)) = pu (rngD 0 k) := by
  rw [rg1_]
  funext en so
  rw [gd_t (by omega), Int.toNat_natCast]
theorem rg1_int {j : Int} (h0 : 0 ≤ j) (h : j ≤ 16777216) : rg1 (.int j) = pu (rngD 0 j.toNat) := by
  rw [rg1_]
  funext en so
  rw [gd_t (by omega)]
theorem strsOf_str (L : List (List Nat)) : strsOf (L.map D.str) = some L := by
  have := strsOf_map' (fun x : List Nat => x) L
  rw [List.map_id'] at this
  exact this
@[simp] theorem join_map (z : List Nat) (L : List (List Nat)) : joinD z (.lst (L.map D.str)) = gd (szL L + L.length * z.length ≤ 16777216) (pu (.str (TL.joinL z L))) := by
  show (match strsOf (L.map D.str) with | some ys => gd (szL ys + ys.length * z.length ≤ 16777216) (pu (D.str (TL.joinL z ys))) | none => no) = _
  rw [strsOf_str]
theorem szL_le (L : List (List Nat)) (k : Nat) (h : ∀ p ∈ L, p.length ≤ k) : szL L ≤ k * L.length := by
  unfold szL
  induction L with
  | nil => simp
  | cons p L ih =>
    have h1 := h p List.mem_cons_self
    have h2 := ih fun q hq => h q (List.mem_cons_of_mem _ hq)
    rw [List.map_cons, List.sum_cons, List.length_cons, Nat.mul_succ]
    omega
/-- a call's answer from its body's -/
def endF : Re Fl → Rf
  | .ok .nx _ so' => .ok (.dat .non) so'
  | .ok (.rt b) _ so' => .ok b so'
  | .exc x _ so' => .exc x so'
  | _ => .no
theorem mkF_ {np n : Nat} {m : M Fl} {ds : List D} {so : So} (h : ds.length = np) : mkF np n m ds so = endF (m (ds.map (fun d => some (.dat d)) ++ List.replicate (n - ds.length) none) so) := by
  unfold mkF
  rw [if_pos h]
  unfold endF
  rfl
@[simp] theorem endF_rt (b : B) (en : En) (so : So) : endF (.ok (.rt b) en so) = .ok b so := rfl
@[simp] theorem endF_nx (en : En) (so : So) : endF (.ok .nx en so) = .ok (.dat .non) so := rfl
@[simp] theorem endF_exc (x : Xc) (en : En) (so : So) : endF (.exc x en so) = .exc x so := rfl
theorem DSs.eq {X : L2.Cx} {W : L2.WX} {sts : List Stmt} {m m' : M Fl} (h : DSs X W sts m) (e : m = m') : DSs X W sts m' := e ▸ h
end
end Dl

set_option Elab.async false
set_option linter.all false
set_option maxRecDepth 100000
set_option maxHeartbeats 1000000
/-! The data level: evaluation lemmas of try, objects, dicts. -/
namespace Dl
open PySem
noncomputable section
section
variable {A A' : Type} {en : En} {so : So}

/-! ### try -/
def tryR (cls : List ClD) (r : Re Fl) : Re Fl := match r with
  | .exc x en1 so1 => hdGo cls x en1 so1
  | r => r
@[simp] theorem sTry_ (body : M Fl) (cls : List ClD) : sTry body cls en so = tryR cls (body en so) := rfl
@[simp] theorem tryR_ok (cls : List ClD) (fl : Fl) : tryR cls (.ok fl en so) = .ok fl en so := rfl
@[simp] theorem tryR_exc (cls : List ClD) (x : Xc) : tryR cls (.exc x en so) = hdGo cls x en so := rfl
@[simp] theorem tryR_no (cls : List ClD) : tryR cls .no = .no := rfl
@[simp] theorem hdGo_nil (x : Xc) : hdGo [] x en so = .exc x en so := rfl
def hdR (o : Option Bool) (a b : Re Fl) : Re Fl := match o with
  | some true => a
  | some false => b
  | none => .no
@[simp] theorem hdR_t (a b : Re Fl) : hdR (some true) a b = a := rfl
@[simp] theorem hdR_f (a b : Re Fl) : hdR (some false) a b = b := rfl
@[simp] theorem hdGo_cons (i : Option Nat) (tbl : List (Nat × Bool)) (su : M Fl) (r : List ClD) (x : Xc) : hdGo (⟨i, tbl, su⟩ :: r) x en so = hdR (tbl.lookup x.cls) (offX i (su (onE i x en) so)) (hdGo r x en so) := by
  show (match tbl.lookup x.cls with | some true => _ | some false => _ | none => _) = _
  rcases tbl.lookup x.cls with _ | _ | _ <;> rfl
@[simp] theorem onE_some (i : Nat) (x : Xc) : onE (some i) x en = en.set i (some (.exn x)) := rfl
@[simp] theorem onE_none (x : Xc) : onE none x en = en := rfl
@[simp] theorem offE_some (i : Nat) : offE (some i) en = en.set i none := rfl
@[simp] theorem offE_none : offE none en = en := rfl
@[simp] theorem offX_ok (i : Option Nat) (fl : Fl) : offX i (.ok fl en so) = if noExn (offE i en) then .ok fl (offE i en) so else .no := rfl
@[simp] theorem noExn_nil : noExn [] = true := rfl
@[simp] theorem noExn_none (r : En) : noExn (none :: r) = noExn r := rfl
@[simp] theorem noExn_dat (d : D) (r : En) : noExn (some (.dat d) :: r) = noExn r := rfl
@[simp] theorem noExn_cel (c : C) (r : En) : noExn (some (.cel c) :: r) = noExn r := rfl
@[simp] theorem mXf_ (i : Nat) (cs : List (Nat × Nat)) : mXf i cs en so = (match en[i]? with
  | some (some (.exn x)) => (match cs.lookup x.cls with
    | some j => (match x.fs[j]? with
      | some d => .ok d en so
      | none => .no)
    | none => .no)
  | _ => .no) := rfl
@[simp] theorem mIsX_ (i : Nat) (tbl : List (Nat × Bool)) : mIsX i tbl en so = (match en[i]? with
  | some (some (.exn x)) => (match tbl.lookup x.cls with
    | some b => .ok (.bl b) en so
    | none => .no)
  | _ => .no) := rfl
def raR (c np : Nat) (ix : List Nat) (ds : List D) : M Fl := fun en so => if ds.length + 1 = np then .exc ⟨c, ix.map fun i => (D.non :: ds).getD i .non⟩ en so else .no
@[simp] theorem sRaise_ (c np : Nat) (ix : List Nat) (ms : M (List D)) : sRaise c np ix ms en so = bdR (ms en so) (raR c np ix) := rfl
@[simp] theorem raR_ (c np : Nat) (ix : List Nat) (ds : List D) : raR c np ix ds en so = if ds.length + 1 = np then .exc ⟨c, ix.map fun i => (D.non :: ds).getD i .non⟩ en so else .no := rfl

/-! ### objects -/
@[simp] theorem mFld_ (cs : List (Nat × Nat)) (m : M D) : mFld cs m en so = bdR (m en so) (fldO cs) := rfl
@[simp] theorem fldO_ (cs : List (Nat × Nat)) (k : Nat) : fldO cs (.obj k) en so = (match so[k]? with
  | some (.ob c fs) => (match cs.lookup c with
    | some i => (match fs[i]? with
      | some (some d) => .ok d en so
      | _ => .no)
    | none => .no)
  | _ => .no) := rfl
@[simp] theorem sFld_ (cs : List (Nat × Nat)) (mo mv : M D) : sFld cs mo mv en so = bdR (mv en so) fun v => bd mo fun o => stO cs v o := rfl
@[simp] theorem stO_ (cs : List (Nat × Nat)) (v : D) (k : Nat) : stO cs v (.obj k) en so = (match so[k]? with
  | some (.ob c fs) => (match cs.lookup c with
    | some i => .ok .nx en (so.set k (.ob c (fs.set i (some v))))
    | none => .no)
  | _ => .no) := rfl
@[simp] theorem mCel_ (m : M B) : mCel m en so = bdR (m en so) celR := rfl
@[simp] theorem celR_ (c : C) : celR (.cel c) en so = .ok (.obj so.length) en (so ++ [.cel c]) := rfl
def kNew (c n : Nat) (f : FunM) (ds : List D) : M D := fun en so => newR so.length (f (.obj so.length :: ds) (so ++ [.ob c (List.replicate n none)])) en so
@[simp] theorem mNew_ (c n : Nat) (f : FunM) (ms : M (List D)) : mNew c n f ms en so = bdR (ms en so) (kNew c n f) := rfl
@[simp] theorem kNew_ (c n : Nat) (f : FunM) (ds : List D) : kNew c n f ds en so = newR so.length (f (.obj so.length :: ds) (so ++ [.ob c (List.replicate n none)])) en so := rfl
@[simp] theorem newR_ok (k : Nat) (so' : So) : newR k (.ok (.dat .non) so') en so = .ok (.obj k) en so' := rfl
@[simp] theorem newR_exc (k : Nat) (x : Xc) (so' : So) : newR k (.exc x so') en so = .exc x en so' := rfl
@[simp] theorem backR_ok (b : B) (so' : So) : backR (.ok b so') en so = .ok b en so' := rfl
@[simp] theorem backR_exc (x : Xc) (so' : So) : backR (.exc x so') en so = .exc x en so' := rfl
def kMeth (f : FunM) (k : Nat) (ds : List D) : M B := fun en so => backR (f (.obj k :: ds) so) en so
@[simp] theorem kMeth_ (f : FunM) (k : Nat) (ds : List D) : kMeth f k ds en so = backR (f (.obj k :: ds) so) en so := rfl
@[simp] theorem mMeth_ (tbl : List (Nat × FunM)) (mo : M D) (ms : M (List D)) : mMeth tbl mo ms en so = bdR (mo en so) (methO tbl ms) := rfl
@[simp] theorem methO_ (tbl : List (Nat × FunM)) (ms : M (List D)) (k : Nat) : methO tbl ms (.obj k) en so = (match so[k]? with
  | some (.ob c _) => (match tbl.lookup c with
    | some f => bdR (ms en so) (kMeth f k)
    | none => .no)
  | _ => .no) := rfl

/-! ### dicts -/
@[simp] theorem opM_some (a : A) (k : A → M A') : opM (some a) k = k a := rfl
@[simp] theorem opM_none (k : A → M A') : opM none k = no := rfl
@[simp] theorem dctO_ (k : Nat) : dctO (.obj k) en so = (match so[k]? with
  | some (.cel (.dct kv)) => .ok kv en so
  | some (.lck kv) => .ok kv en so
  | _ => .no) := rfl
@[simp] theorem kyOf_int (i : Int) : kyOf (.int i) = some (.inl i) := rfl
@[simp] theorem kyOf_str (s : List Nat) : kyOf (.str s) = some (.inr s) := rfl
@[simp] theorem kyD_int (i : Int) : kyD (.inl i) = .int i := rfl
@[simp] theorem kyD_str (s : List Nat) : kyD (.inr s) = .str s := rfl
@[simp] theorem getD_ (d y : D) : getD d y en so = bdR (dctO d en so) fun kv => opM (kyOf y) fun k => opM (valD kv k) pu := rfl
@[simp] theorem dinD_ (neg : Bool) (y d : D) : dinD neg y d en so = bdR (dctO d en so) fun kv => opM (kyOf y) fun k => pu (.bl (if neg then !(valD kv k).isSome else (valD kv k).isSome)) := rfl
@[simp] theorem get1D_ (d y : D) : get1D d y en so = bdR (dctO d en so) fun kv => opM (kyOf y) fun k => pu ((valD kv k).getD .non) := rfl
@[simp] theorem get2D_ (d y z : D) : get2D d y z en so = bdR (dctO d en so) fun kv => opM (kyOf y) fun k => pu ((valD kv k).getD z) := rfl
@[simp] theorem mDGet_ (md mk : M D) : mDGet md mk en so = bdR (md en so) fun d => bd mk fun y => getD d y := rfl
@[simp] theorem mDIn_ (neg : Bool) (mk md : M D) : mDIn neg mk md en so = bdR (mk en so) fun y => bd md fun d => dinD neg y d := rfl
@[simp] theorem mGet1_ (md mk : M D) : mGet1 md mk en so = bdR (md en so) fun d => bd (dctO d) fun _ => bd mk fun y => get1D d y := rfl
@[simp] theorem mGet2_ (md mk mz : M D) : mGet2 md mk mz en so = bdR (md en so) fun d => bd (dctO d) fun _ => bd mk fun y => bd mz fun z => get2D d y z := rfl
@[simp] theorem dlenD_ (d : D) : dlenD [d] en so = bdR (dctO d en so) fun kv => pu (.int kv.length) := rfl
theorem dpF_ {kv : List (Ky × D)} (h : kv.length < 16777216) (k : Ky) (v : D) : dpF k v (.dct kv) = some ((), .dct (putT kv k v)) := if_pos h
theorem ddF_ {kv : List (Ky × D)} {k : Ky} (h : (valD kv k).isSome = true) : ddF k (.dct kv) = some ((), .dct (dropT kv k)) := if_pos h
@[simp] theorem sDPutM_ (md mk mv : M D) : sDPutM md mk mv en so = bdR (mv en so) fun v => bd md fun d => bd mk fun y => opM (kyOf y) fun k => bd (wrtD d (dpF k v)) fun _ => pu .nx := rfl
@[simp] theorem sDDelM_ (md mk : M D) : sDDelM md mk en so = bdR (md en so) fun d => bd mk fun y => opM (kyOf y) fun k => bd (wrtD d (ddF k)) fun _ => pu .nx := rfl
def wrR2 (o : Option (A × C)) (k : A → C → Re A) : Re A := match o with
  | some (a, c) => k a c
  | none => .no
@[simp] theorem wrR2_some (a : A) (c : C) (k : A → C → Re A) : wrR2 (some (a, c)) k = k a c := rfl
@[simp] theorem wrtD_obj (k : Nat) (f : C → Option (A × C)) : wrtD (.obj k) f en so = (match so[k]? with
  | some (.cel c) => wrR2 (f c) fun a c' => .ok a en (so.set k (.cel c'))
  | _ => .no) := by
  show wrtO k f en so = _
  unfold wrtO
  cases so[k]? with
  | none => rfl
  | some o =>
    cases o with
    | cel c =>
      show (match f c with | some (a, c') => _ | none => _) = wrR2 (f c) _
      cases f c with
      | none => rfl
      | some x => rfl
    | _ => rfl
@[simp] theorem mDNew_ : mDNew en so = .ok (.cel (.dct [])) en so := rfl
@[simp] theorem dictD_ (d : D) : dictD [d] en so = bdR (dctO d en so) fun kv => pu (.cel (.dct kv)) := rfl
@[simp] theorem dictP_ (xs : List D) : dictP [.lst xs] = opM (prsOf xs) fun kv => gd (xs.length ≤ 16777216) (pu (.cel (.dct (mergeT [] kv)))) := rfl
theorem prsOf_map (l : List (Ky × D)) : prsOf (l.map fun p => .tup [kyD p.1, p.2]) = some l := by
  induction l with
  | nil => rfl
  | cons p l ih =>
    obtain ⟨k, v⟩ := p
    rw [List.map_cons]
    show ((kyOf (kyD k)).bind fun k => (prsOf _).map ((k, v) :: ·)) = _
    rw [ih]
    cases k <;> rfl
def lockR (o : Option Nat) (m : M A) : M A := fun en so => match o with
  | some k => (match so[k]? with
    | some (.cel (.dct kv)) => unlR k kv (m en (so.set k (.lck kv)))
    | _ => .no)
  | none => .no
@[simp] theorem lockM_ (sel : En → So → Option Nat) (m : M A) : lockM sel m en so = lockR (sel en so) m en so := rfl
@[simp] theorem lockR_some (k : Nat) (m : M A) : lockR (some k) m en so = (match so[k]? with
    | some (.cel (.dct kv)) => unlR k kv (m en (so.set k (.lck kv)))
    | _ => .no) := rfl
def selR (r : Re D) : Option Nat := match r with
  | .ok (.obj k) _ _ => some k
  | _ => none
@[simp] theorem selO_ (md : M D) : selO md en so = selR (md en so) := rfl
@[simp] theorem selR_ (k : Nat) : selR (.ok (.obj k) en so) = some k := rfl
@[simp] theorem unlR_ (k : Nat) (kv : List (Ky × D)) (a : A) : unlR k kv (.ok a en so) = .ok a en (so.set k (.cel (.dct kv))) := rfl
@[simp] theorem itK_ (m : M D) : itK m en so = bdR (m en so) keyO := rfl
@[simp] theorem keyO_ (k : Nat) : keyO (.obj k) en so = (match so[k]? with
  | some (.lck kv) => .ok (keysD kv) en so
  | _ => .no) := rfl
def dcR (vs : List Nat) (en : En) (r : Re (List (Ky × D))) : Re B := match r with
  | .ok xs en' so' => .ok (.cel (.dct xs)) (backE en en' vs) so'
  | _ => .no
@[simp] theorem dcR_ (vs : List Nat) (en en' : En) (xs : List (Ky × D)) : dcR vs en (.ok xs en' so) = .ok (.cel (.dct xs)) (backE en en' vs) so := rfl
def kDc (vs : List Nat) (tg : Tg) (tt : M Bool) (ek ev : M D) (ds : List D) : M B := fun en so => dcR vs en (dcGo vs tg tt ek ev ds [] (wipeE en vs) so)
@[simp] theorem kDc_ (vs : List Nat) (tg : Tg) (tt : M Bool) (ek ev : M D) (ds : List D) : kDc vs tg tt ek ev ds en so = dcR vs en (dcGo vs tg tt ek ev ds [] (wipeE en vs) so) := rfl
@[simp] theorem mDc_ (vs : List Nat) (tg : Tg) (src : M (List D)) (tt : M Bool) (ek ev : M D) : mDc vs tg src tt ek ev en so = bdR (src en so) (kDc vs tg tt ek ev) := by
  show bdR (src en so) _ = _
  congr 1
theorem dcGo_mp {vs : List Nat} {tg : Tg} {ek ev : M D} (f : A → D) (kf : A → Ky) (g : A → D) : ∀ (l : List A) (acc : List (Ky × D)), (∀ a ∈ l, ∃ en0, tg (f a) en = some en0 ∧ ek en0 so = .ok (kyD (kf a)) en0 so ∧ ev en0 so = .ok (g a) en0 so ∧ wipeE en0 vs = en) → acc.length + l.length ≤ 16777216 →
    dcGo vs tg (pu true) ek ev (l.map f) acc en so = .ok (mergeT acc (l.map fun a => (kf a, g a))) en so
  | [], acc, _, _ => rfl
  | a :: l, acc, h, hl => by
    obtain ⟨en0, h1, h2, h3, h4⟩ := h a List.mem_cons_self
    rw [List.length_cons] at hl
    have hp : (putT acc (kf a) (g a)).length ≤ acc.length + 1 := by
      unfold putT
      split
      · rw [List.length_map]; omega
      · rw [List.length_append]; simp
    have ih := dcGo_mp f kf g l (putT acc (kf a) (g a)) (fun b hb => h b (List.mem_cons_of_mem _ hb)) (by omega)
    rw [List.map_cons]
    unfold dcGo
    rw [h1]
    dsimp only [pu_]
    rw [h2]
    dsimp only
    rw [h3]
    dsimp only
    have hk : kyOf (kyD (kf a)) = some (kf a) := by cases kf a <;> rfl
    rw [hk]
    dsimp only
    rw [if_pos (by omega), h4, ih]
    rfl
@[simp] theorem sortedD_ (xs : List D) : sortedD [.lst xs] = opM (strsOf xs) fun ys => pu (.cel (.lst ((srtS ys).map .str))) := rfl
@[simp] theorem sortedK_ (d : D) : sortedK [d] en so = bdR (dctO d en so) fun kv => opM (kstrs kv) fun ys => pu (.cel (.lst ((srtS ys).map .str))) := rfl
@[simp] theorem listK_ (d : D) : listK [d] en so = bdR (dctO d en so) fun kv => pu (.cel (.lst (keysD kv))) := rfl
@[simp] theorem strI_int (i : Int) : strI [.int i] = gd (i.natAbs.log2 < 1920) (pu (.str (tsD i))) := rfl
@[simp] theorem strI_str (s : List Nat) : strI [.str s] = pu (.str s) := rfl
@[simp] theorem smulD_ (z : List Nat) (n : Int) : smulD (.str z) (.int n) = gd (n ≤ 16777216 ∧ -16777216 ≤ n ∧ z.length * n.toNat ≤ 16777216) (pu (.str (List.replicate n.toNat z).flatten)) := rfl
@[simp] theorem inS_ (y x : List Nat) : inS (.str y) (.str x) = pu (.bl (subD' x y)) := rfl
@[simp] theorem niS_ (y x : List Nat) : niS (.str y) (.str x) = pu (.bl (!subD' x y)) := rfl
@[simp] theorem lstripD_ (z t : List Nat) : lstripD z (.str t) = gd (z.length ≤ 16777216) (pu (.str (Txt.lstripChars (sT z) (sT t)).cps.toList)) := rfl
@[simp] theorem rstripD_ (z t : List Nat) : rstripD z (.str t) = gd (z.length ≤ 16777216) (pu (.str (Txt.rstripChars (sT z) (sT t)).cps.toList)) := rfl
@[simp] theorem mMv_ (i : Nat) : mMv i en so = (match en[i]? with
  | some (some (.cel c)) => .ok (.cel c) (en.set i none) so
  | some (some (.dat d)) => .ok (.dat d) en so
  | _ => .no) := rfl
@[simp] theorem tru_tup (s : List D) : truD (.tup s) = pu (!s.isEmpty) := rfl
@[simp] theorem isN_non : isN .non = true := rfl
@[simp] theorem isN_bl (b : Bool) : isN (.bl b) = false := rfl
@[simp] theorem isN_int (b : Int) : isN (.int b) = false := rfl
@[simp] theorem isN_str (b : List Nat) : isN (.str b) = false := rfl
@[simp] theorem isN_lst (b : List D) : isN (.lst b) = false := rfl
@[simp] theorem isN_tup (b : List D) : isN (.tup b) = false := rfl
@[simp] theorem isN_obj (b : Nat) : isN (.obj b) = false := rfl

/-! ### tables -/
@[simp] theorem valD_nil (k : Ky) : valD [] k = none := rfl
theorem valD_put (kv : List (Ky × D)) (k j : Ky) (v : D) : valD (putT kv k v) j = if j = k then some v else valD kv j := by
  induction kv with
  | nil =>
    show valD [(k, v)] j = _
    rw [valD_cons]
    by_cases h : j = k
    · rw [if_pos h.symm, if_pos h]
    · rw [if_neg fun z => h z.symm, if_neg h]
  | cons p r ih =>
    have e : putT (p :: r) k v = if p.1 = k then (p.1, v) :: r.map (fun q => if q.1 = k then (q.1, v) else q) else p :: putT r k v := by
      unfold putT
      rw [List.any_cons]
      by_cases h : p.1 = k
      · simp [h]
      · simp only [h, decide_false, Bool.false_or, if_false, List.map_cons, List.cons_append]
        split <;> rfl
    rw [e]
    by_cases h : p.1 = k
    · rw [if_pos h, valD_cons, valD_cons]
      by_cases hj : j = k
      · rw [if_pos (h.trans hj.symm), if_pos hj]
      · rw [if_neg (fun z => hj (z.symm.trans h)), if_neg hj, if_neg (fun z => hj (z.symm.trans h))]
        clear e ih
        induction r with
        | nil => rfl
        | cons q r ih2 =>
          rw [List.map_cons, valD_cons, valD_cons, ih2]
          by_cases hq : q.1 = k
          · rw [if_pos hq]
            have : ¬ q.1 = j := fun z => hj (z.symm.trans hq)
            rw [if_neg this, if_neg this]
          · rw [if_neg hq]
    · rw [if_neg h, valD_cons, valD_cons, ih]
      by_cases hp : p.1 = j
      · rw [if_pos hp, if_pos hp]
        rw [if_neg fun z => h (hp.trans z)]
      · rw [if_neg hp, if_neg hp]
theorem valD_drop (kv : List (Ky × D)) (k j : Ky) : valD (dropT kv k) j = if j = k then none else valD kv j := by
  induction kv with
  | nil => simp [dropT]
  | cons p r ih =>
    unfold dropT at *
    by_cases h : p.1 = k
    · rw [List.filter_cons_of_neg (by simp [h]), ih, valD_cons]
      by_cases hj : j = k
      · rw [if_pos hj, if_pos hj]
      · rw [if_neg hj, if_neg hj, if_neg fun z => hj (z.symm.trans h)]
    · rw [List.filter_cons_of_pos (by simp [h]), valD_cons, valD_cons, ih]
      by_cases hj : j = k
      · rw [if_pos hj, if_pos hj, if_neg (fun z => h (z.trans hj))]
      · rw [if_neg hj, if_neg hj]
theorem putT_new {kv : List (Ky × D)} {k : Ky} (v : D) (h : valD kv k = none) : putT kv k v = kv ++ [(k, v)] := by
  unfold putT
  have : ¬ (kv.any fun p => decide (p.1 = k)) = true := fun z => by
    obtain ⟨p, hp, e⟩ := List.any_eq_true.mp z
    have e : p.1 = k := of_decide_eq_true e
    unfold valD at h
    rw [Option.map_eq_none_iff, List.find?_eq_none] at h
    exact h p hp (by simp [e])
  rw [if_neg this]
theorem putT_len (kv : List (Ky × D)) (k : Ky) (v : D) : (putT kv k v).length ≤ kv.length + 1 := by
  unfold putT
  split
  · rw [List.length_map]; omega
  · rw [List.length_append]; simp
theorem valD_mem {kv : List (Ky × D)} {k : Ky} {v : D} (h : valD kv k = some v) : (k, v) ∈ kv := by
  unfold valD at h
  obtain ⟨p, hp, e⟩ := Option.map_eq_some_iff.mp h
  have h1 := List.mem_of_find?_eq_some hp
  have h2 := List.find?_some hp
  have : p.1 = k := of_decide_eq_true h2
  obtain ⟨a, b⟩ := p
  cases this
  cases e
  exact h1
end
end
end Dl

set_option Elab.async false
set_option linter.all false
set_option maxRecDepth 100000
set_option maxHeartbeats 1000000
/-! The data level: tables of facts about classes, and the rules that read them. -/
namespace Dl
open PySem PySem.Spec PyProof.Rows L2
noncomputable section
section
variable {X : Cx} {W : WX} {e : Expr} {es : List Expr} {ms : M (List D)} {x : Str} {p pos : Pos} {r : List V → Hp → VK → Prop}
/-- a call of a function of the language whose answer is new -/
theorem b_callB {f : List D → M B} {id : String} (hc : CallR X (.builtin id) r) (h : OpNB X.K X.ev r f) (hg : Gl X x) (hm : X.mg x = none) (hv : bootBuiltins x = some (.builtin id)) (ha : DA X W (e :: es) ms) (hn : x ≠ "__name__" := by decide) (hdb : (x == ("__debug__" : Str)) = false := by decide)
    (he : starEach (e :: es) X.env = (false, eval e X.env) :: starEach es X.env := by rfl) (hpl : (backTo pos (starEach es X.env)).any (·.1) = false := by rfl) : DB X W (.Call (.Name x p) (e :: es) [] pos) (bd ms f) := by
  refine ⟨PE_imp (pe_callB hc hg hm hv ha.pa hn hdb he hpl) fun σ H Q ⟨G, en, so, s, q⟩ => ⟨G, en, so, s, (Post.bind (R1 := rlDs X.K) q).imp ?_⟩⟩
  intro vs H1 ⟨G1, en1, so1, ds, _, r1, s1, p1⟩
  exact h vs ds G1 en1 so1 σ H1 W Q r1 s1 p1
end
/-! ### tables -/
theorem mgc {mg : Str → Option Value} {c : Nat} {x : Str} {v : Value} (h : cnm c = x) (e : mg x = some v) : mg (cnm c) = some v := h ▸ e
theorem tb_nil {A : Type} {R : Nat → A → Prop} : ∀ c y, ([] : List (Nat × A)).lookup c = some y → R c y := fun _ _ e => by cases e
theorem tb_cons {A : Type} {R : Nat → A → Prop} {c0 : Nat} {y0 : A} {l : List (Nat × A)} (h : R c0 y0) (r : ∀ c y, l.lookup c = some y → R c y) : ∀ c y, ((c0, y0) :: l).lookup c = some y → R c y := fun c y e => by
  rw [List.lookup_cons] at e
  by_cases q : c = c0
  · subst q
    rw [beq_self_eq_true] at e
    cases e
    exact h
  · rw [show (c == c0) = false by simp [q]] at e
    exact r c y e
/-- the clause's class x, for the classes that may come -/
def CatF (K : PySem.W.Frag) (mg : Str → Option Value) (x : Str) (tbl : List (Nat × Bool)) : Prop := ∃ D, mg x = some (.ref D) ∧ MatchD K mg (.ref D) tbl
/-- e.f, for the classes that may come -/
def XfT (K : PySem.W.Frag) (mg : Str → Option Value) (f : Str) (cs : List (Nat × Nat)) : Prop := ∀ c j, cs.lookup c = some j → (clay c)[j]? = some f ∧ ∃ C, mg (cnm c) = some (.ref C) ∧ XfC K C ∧ PySem.W.findIn K (.ref C) f = some none
/-- isinstance(e, D), for the classes that may come -/
def IsT (K : PySem.W.Frag) (mg : Str → Option Value) (cv : Value) (tbl : List (Nat × Bool)) : Prop := ∀ c b, tbl.lookup c = some b → ∃ C, mg (cnm c) = some (.ref C) ∧ ExcC K C ∧ PySem.W.kitOne K (.ref C) cv = some b
section
variable {X : Cx} {x n : Str} {i : Nat} {tbl : List (Nat × Bool)} {m : M Fl} {b₀ : Stmt} {suite : List Stmt} {np pos' : Pos} {hds : List ExceptHandler} {l : List ClD}
theorem clz_only (hg : Gl X x) (hT : CatF X.K X.mg x tbl) (hsu : ∀ (a : Addr) (oe : Obj) (pn : List (Addr × Obj)), (∃ vs, oe.data = .fields vs) → DSs (X.suite a ((a, oe) :: pn)) W0 (b₀ :: suite) m) (r : ClzD X hds l)
    (hd : (x == ("__debug__" : Str)) = false := by decide) : ClzD X (.ExceptHandler (some (.Name x np)) none (b₀ :: suite) pos' :: hds) (⟨none, tbl, m⟩ :: l) := by
  obtain ⟨D, hm, ht⟩ := hT
  exact .only (c := .ref D) ⟨hg, hd, .inl hm⟩ ht hsu r
theorem clz_as (hN : X.N.Nodup) (hi : X.N[i]? = some n) (hln : X.env.kindOf n = some .local) (hg : Gl X x) (hT : CatF X.K X.mg x tbl) (hsu : ∀ (a : Addr) (oe : Obj) (pn : List (Addr × Obj)), (∃ vs, oe.data = .fields vs) → DSs (X.suite a ((a, oe) :: pn)) W0 (b₀ :: suite) m) (r : ClzD X hds l)
    (hd : (x == ("__debug__" : Str)) = false := by decide) : ClzD X (.ExceptHandler (some (.Name x np)) (some n) (b₀ :: suite) pos' :: hds) (⟨some i, tbl, m⟩ :: l) := by
  obtain ⟨D, hm, ht⟩ := hT
  exact .as (c := .ref D) hN hi hln ⟨hg, hd, .inl hm⟩ ht hsu r
end
section
variable {X : Cx} {W : WX} {a : Addr} {oe : Obj} {pn : List (Addr × Obj)} {tbl : List (Nat × Bool)} {x y : Str} {pos p p2 p3 : Pos}
/-- isinstance(e, D), D of the module -/
theorem d_isXo (i : Nat) (hf : ∃ vs, oe.data = .fields vs) (hT : ∃ D, X.mg y = some (.ref D) ∧ IsT X.K X.mg (.ref D) tbl) (hg : Gl X "isinstance") (hm : X.mg "isinstance" = none) (hgy : Gl X y)
    (hN : X.N[i]? = some x := by rfl) (hv : Vis X.env.scope x := by first | exact Or.inl rfl | exact Or.inr (Or.inl rfl) | exact Or.inr (Or.inr rfl)) (hd : (x == ("__debug__" : Str)) = false := by decide)
    (hcd : (x == ("__classdict__" : Str)) = false := by decide) (hdy : (y == ("__debug__" : Str)) = false := by decide) (he : starEach [.Name x p, .Name y p3] X.env = (false, eval (.Name x p) X.env) :: starEach [.Name y p3] X.env := by rfl)
    (he2 : starEach [.Name y p3] X.env = (false, eval (.Name y p3) X.env) :: starEach [] X.env := by rfl) (hpl : (backTo pos (starEach [.Name y p3] X.env)).any (·.1) = false := by rfl) :
    DE (X.suite a ((a, oe) :: pn)) W (.Call (.Name "isinstance" p2) [.Name x p, .Name y p3] [] pos) (mIsX i tbl) := by
  obtain ⟨D, hmD, hT⟩ := hT
  exact d_isX (v := .ref D) (cv := .ref D) i hf hT (pe_glob (X := X.suite a ((a, oe) :: pn)) (v := .ref D) hgy hmD rfl hdy) (fun u r => r) hg hm hN hv hd hcd he he2 hpl
/-- isinstance(e, T), T a class of the language -/
theorem d_isXb (i : Nat) {T : String} (hf : ∃ vs, oe.data = .fields vs) (hT : IsT X.K X.mg (.type T) tbl) (hg : Gl X "isinstance") (hm : X.mg "isinstance" = none) (hgy : Gl X y) (hmy : X.mg y = none) (hby : bootBuiltins y = some (.type T)) (hny : y ≠ "__name__" := by decide)
    (hN : X.N[i]? = some x := by rfl) (hv : Vis X.env.scope x := by first | exact Or.inl rfl | exact Or.inr (Or.inl rfl) | exact Or.inr (Or.inr rfl)) (hd : (x == ("__debug__" : Str)) = false := by decide)
    (hcd : (x == ("__classdict__" : Str)) = false := by decide) (hdy : (y == ("__debug__" : Str)) = false := by decide) (he : starEach [.Name x p, .Name y p3] X.env = (false, eval (.Name x p) X.env) :: starEach [.Name y p3] X.env := by rfl)
    (he2 : starEach [.Name y p3] X.env = (false, eval (.Name y p3) X.env) :: starEach [] X.env := by rfl) (hpl : (backTo pos (starEach [.Name y p3] X.env)).any (·.1) = false := by rfl) :
    DE (X.suite a ((a, oe) :: pn)) W (.Call (.Name "isinstance" p2) [.Name x p, .Name y p3] [] pos) (mIsX i tbl) :=
  d_isX (v := .ty T) (cv := .type T) i hf hT (pe_bltn (X := X.suite a ((a, oe) :: pn)) (v := .ty T) hgy hmy hby rfl hny hdy) (fun u r => r) hg hm hN hv hd hcd he he2 hpl
end
end
end Dl

set_option Elab.async false
set_option linter.all false
set_option maxRecDepth 100000
set_option maxHeartbeats 1000000
/-! The data level: dicts with texts as keys, as plain tables. -/
namespace Dl
open PySem PySem.Spec PyProof.Rows L2
noncomputable section
variable {A : Type}
abbrev Tb (A : Type) := List (List Nat × A)
def tab (f : A → D) (M : Tb A) : List (Ky × D) := M.map fun p => (Sum.inr p.1, f p.2)
def keys (M : Tb A) : List (List Nat) := M.map (·.1)
def look : Tb A → List Nat → Option A
  | [], _ => none
  | (k, a) :: M, p => if k = p then some a else look M p
def put : Tb A → List Nat → A → Tb A
  | [], p, a => [(p, a)]
  | (k, b) :: M, p, a => if k = p then (k, a) :: M.map (fun x => if x.1 = p then (x.1, a) else x) else (k, b) :: put M p a
def drop (M : Tb A) (p : List Nat) : Tb A := M.filter fun x => decide (x.1 ≠ p)
def merge (M N : Tb A) : Tb A := N.foldl (fun acc p => put acc p.1 p.2) M
theorem inr_eq {a b : List Nat} : ((Sum.inr a : Ky) = Sum.inr b) = (a = b) := propext ⟨fun h => Sum.inr.inj h, fun h => by rw [h]⟩
theorem valD_tab (f : A → D) : ∀ (M : Tb A) (p : List Nat), valD (tab f M) (.inr p) = (look M p).map f
  | [], p => rfl
  | (k, a) :: M, p => by
    show valD ((Sum.inr k, f a) :: tab f M) (.inr p) = _
    rw [valD_cons]
    unfold look
    by_cases h : k = p
    · rw [if_pos (by rw [h]), if_pos h]; rfl
    · rw [if_neg (by rw [inr_eq]; exact h), if_neg h]; exact valD_tab f M p
theorem map_put (f : A → D) (p : List Nat) (a : A) : ∀ M : Tb A, ((tab f M).map fun x => if x.1 = Sum.inr p then (x.1, f a) else x) = tab f (M.map fun x => if x.1 = p then (x.1, a) else x)
  | [] => rfl
  | (k, b) :: M => by
    show (if (Sum.inr k : Ky) = Sum.inr p then (Sum.inr k, f a) else (Sum.inr k, f b)) :: ((tab f M).map fun x => if x.1 = Sum.inr p then (x.1, f a) else x) = _
    rw [map_put f p a M]
    by_cases h : k = p
    · subst h
      show _ = tab f ((if k = k then (k, a) else (k, b)) :: _)
      rw [if_pos rfl, if_pos rfl]; rfl
    · show _ = tab f ((if k = p then (k, a) else (k, b)) :: _)
      rw [if_neg (by rw [inr_eq]; exact h), if_neg h]; rfl
theorem putT_tab (f : A → D) (p : List Nat) (a : A) : ∀ M : Tb A, putT (tab f M) (.inr p) (f a) = tab f (put M p a)
  | [] => rfl
  | (k, b) :: M => by
    have ih := putT_tab f p a M
    unfold putT at ih
    show (if (((Sum.inr k : Ky), f b) :: tab f M).any (fun x => decide (x.1 = Sum.inr p)) = true then _ else _) = tab f (if k = p then _ else _)
    by_cases h : k = p
    · subst h
      rw [if_pos rfl, if_pos (by rw [List.any_cons]; simp)]
      have := map_put f k a ((k, b) :: M)
      refine this.trans ?_
      show tab f ((if k = k then (k, a) else (k, b)) :: _) = _
      rw [if_pos rfl]
    · rw [if_neg h]
      have hk : decide ((Sum.inr k : Ky) = Sum.inr p) = false := by rw [decide_eq_false_iff_not, inr_eq]; exact h
      have e : (((Sum.inr k : Ky), f b) :: tab f M).any (fun x => decide (x.1 = Sum.inr p)) = (tab f M).any (fun x => decide (x.1 = Sum.inr p)) := by rw [List.any_cons, hk, Bool.false_or]
      rw [e]
      show _ = (Sum.inr k, f b) :: tab f (put M p a)
      rw [← ih]
      by_cases q : (tab f M).any (fun x => decide (x.1 = Sum.inr p)) = true
      · rw [if_pos q, if_pos q]
        show (if (Sum.inr k : Ky) = Sum.inr p then (Sum.inr k, f a) else (Sum.inr k, f b)) :: _ = _
        rw [if_neg (by rw [inr_eq]; exact h)]
        rfl
      · rw [if_neg q, if_neg q]; rfl
theorem dropT_tab (f : A → D) (p : List Nat) : ∀ M : Tb A, dropT (tab f M) (.inr p) = tab f (drop M p)
  | [] => rfl
  | (k, b) :: M => by
    have ih := dropT_tab f p M
    unfold dropT drop at *
    show ((Sum.inr k, f b) :: tab f M).filter _ = _
    by_cases h : k = p
    · rw [List.filter_cons_of_neg (by simp [h]), ih, List.filter_cons_of_neg (by simp [h])]
    · rw [List.filter_cons_of_pos (by simp [h]), ih, List.filter_cons_of_pos (by simp [h])]; rfl
theorem mergeT_tab (f : A → D) : ∀ (N M : Tb A), mergeT (tab f M) (tab f N) = tab f (merge M N)
  | [], M => rfl
  | (k, a) :: N, M => by
    show mergeT (putT (tab f M) (.inr k) (f a)) (tab f N) = tab f (merge (put M k a) N)
    rw [putT_tab, mergeT_tab f N]
theorem kstrs_tab (f : A → D) : ∀ M : Tb A, kstrs (tab f M) = some (keys M)
  | [] => rfl
  | (k, a) :: M => by
    have ih := kstrs_tab f M
    show kstrs ((Sum.inr k, f a) :: tab f M) = some (k :: keys M)
    simp only [kstrs, ih]
    first
      | rfl
      | simp [kstrs, ih]
theorem keysD_tab (f : A → D) (M : Tb A) : keysD (tab f M) = (keys M).map .str := by
  unfold keysD tab keys
  rw [List.map_map, List.map_map]
  rfl
theorem prsOf_tab (f : A → D) (M : Tb A) : prsOf (M.map fun p => .tup [.str p.1, f p.2]) = some (tab f M) := by
  have := prsOf_map (tab f M)
  unfold tab at *
  rw [List.map_map] at this
  exact this
theorem tab_len (f : A → D) (M : Tb A) : (tab f M).length = M.length := List.length_map _
theorem keys_len (M : Tb A) : (keys M).length = M.length := List.length_map _
theorem look_mapput (p q : List Nat) (a : A) : ∀ M : Tb A, look (M.map fun x => if x.1 = p then (x.1, a) else x) q = if q = p then (look M q).map (fun _ => a) else look M q
  | [] => by simp [look]
  | (k, b) :: M => by
    have ih := look_mapput p q a M
    show look ((if k = p then (k, a) else (k, b)) :: _) q = if q = p then (if k = q then some b else look M q).map (fun _ => a) else (if k = q then some b else look M q)
    by_cases h1 : k = p
    · rw [if_pos h1]
      show (if k = q then some a else _) = _
      by_cases h2 : k = q
      · have h3 : q = p := h2.symm.trans h1
        rw [if_pos h2, if_pos h3, if_pos h2]; rfl
      · have h3 : ¬ q = p := fun z => h2 (h1.trans z.symm)
        rw [if_neg h2, if_neg h3, if_neg h2, ih, if_neg h3]
    · rw [if_neg h1]
      show (if k = q then some b else _) = _
      by_cases h2 : k = q
      · have h3 : ¬ q = p := fun z => h1 (h2.trans z)
        rw [if_pos h2, if_neg h3, if_pos h2]
      · rw [if_neg h2, if_neg h2, ih]
theorem look_put (p q : List Nat) (a : A) : ∀ M : Tb A, look (put M p a) q = if q = p then some a else look M q
  | [] => by
    show (if p = q then some a else none) = _
    by_cases h : q = p
    · rw [if_pos h.symm, if_pos h]
    · rw [if_neg fun z => h z.symm, if_neg h]; rfl
  | (k, b) :: M => by
    have ih := look_put p q a M
    show look (if k = p then _ else _) q = if q = p then some a else (if k = q then some b else look M q)
    by_cases h1 : k = p
    · rw [if_pos h1]
      show (if k = q then some a else look (M.map _) q) = _
      by_cases h2 : k = q
      · rw [if_pos h2, if_pos (h2.symm.trans h1)]
      · have h3 : ¬ q = p := fun z => h2 (h1.trans z.symm)
        rw [if_neg h2, if_neg h3, if_neg h2, look_mapput, if_neg h3]
    · rw [if_neg h1]
      show (if k = q then some b else look (put M p a) q) = _
      by_cases h2 : k = q
      · have h3 : ¬ q = p := fun z => h1 (h2.trans z)
        rw [if_pos h2, if_neg h3, if_pos h2]
      · rw [if_neg h2, if_neg h2, ih]
theorem look_drop (p q : List Nat) : ∀ M : Tb A, look (drop M p) q = if q = p then none else look M q
  | [] => by simp [drop, look]
  | (k, b) :: M => by
    have ih := look_drop p q M
    unfold drop at ih ⊢
    by_cases h : k = p
    · rw [List.filter_cons_of_neg (by simp [h]), ih]
      by_cases h2 : q = p
      · rw [if_pos h2, if_pos h2]
      · rw [if_neg h2, if_neg h2]
        show _ = if k = q then some b else look M q
        rw [if_neg fun z => h2 (z.symm.trans h)]
    · rw [List.filter_cons_of_pos (by simp [h])]
      show (if k = q then some b else look (M.filter _) q) = if q = p then none else (if k = q then some b else look M q)
      by_cases h2 : k = q
      · rw [if_pos h2, if_neg (fun z => h (h2.trans z)), if_pos h2]
      · rw [if_neg h2, if_neg h2, ih]
theorem put_len (p : List Nat) (a : A) : ∀ M : Tb A, (put M p a).length ≤ M.length + 1
  | [] => Nat.le_refl _
  | (k, b) :: M => by
    have ih := put_len p a M
    show (if k = p then _ else _ : Tb A).length ≤ _
    by_cases h : k = p
    · rw [if_pos h, List.length_cons, List.length_map, List.length_cons]; omega
    · rw [if_neg h, List.length_cons, List.length_cons]; omega
theorem drop_len (p : List Nat) (M : Tb A) : (drop M p).length ≤ M.length := List.length_filter_le _ _
theorem merge_len : ∀ (N M : Tb A), (merge M N).length ≤ M.length + N.length
  | [], M => Nat.le_refl _
  | (k, a) :: N, M => by
    have h1 := merge_len N (put M k a)
    have h2 := put_len k a M
    show (merge (put M k a) N).length ≤ _
    rw [List.length_cons]; omega
theorem look_mem : ∀ {M : Tb A} {p : List Nat} {a : A}, look M p = some a → (p, a) ∈ M
  | (k, b) :: M, p, a, h => by
    have h : (if k = p then some b else look M p) = some a := h
    by_cases q : k = p
    · rw [if_pos q] at h; cases h; rw [q]; exact List.mem_cons_self
    · rw [if_neg q] at h; exact List.mem_cons_of_mem _ (look_mem h)
theorem look_key : ∀ {M : Tb A} {p : List Nat}, (look M p).isSome = true ↔ p ∈ keys M
  | [], p => by simp [look, keys]
  | (k, b) :: M, p => by
    have ih := look_key (M := M) (p := p)
    show (if k = p then some b else look M p).isSome = true ↔ p ∈ k :: keys M
    by_cases q : k = p
    · rw [if_pos q]; simp [q]
    · rw [if_neg q, ih, List.mem_cons]
      exact ⟨.inr, fun h => h.elim (fun z => absurd z.symm q) id⟩
/-- a table made anew, each value by its key -/
theorem look_merge (g : List Nat → A) (q : List Nat) : ∀ (ks : List (List Nat)) (M : Tb A), look (merge M (ks.map fun k => (k, g k))) q = if q ∈ ks then some (g q) else look M q
  | [], M => by simp [merge]
  | k :: ks, M => by
    have ih := look_merge g q ks (put M k (g k))
    show look (merge (put M k (g k)) _) q = _
    rw [ih, look_put]
    by_cases h : q ∈ ks
    · rw [if_pos h, if_pos (List.mem_cons_of_mem _ h)]
    · rw [if_neg h]
      by_cases h2 : q = k
      · rw [if_pos h2, if_pos (by rw [h2]; exact List.mem_cons_self), h2]
      · rw [if_neg h2, if_neg (fun z => (List.mem_cons.mp z).elim h2 h)]
theorem mem_srt {l : List (List Nat)} {p : List Nat} : p ∈ srtS l ↔ p ∈ l := (srtS_perm l).mem_iff
end
end Dl

set_option Elab.async false
set_option linter.all false
set_option maxRecDepth 100000
set_option maxHeartbeats 1000000
/-! Trees of files and links as plain tables; names, paths, contents. -/
namespace Dl
open PySem PySem.Spec PyProof.Rows L2
noncomputable section
/-! ### paths and contents -/
def cs0 : List Nat := [97, 98, 99, 100, 101, 102, 103, 104, 105, 106, 107, 108, 109, 110, 111, 112, 113, 114, 115, 116, 117, 118, 119, 120, 121, 122, 48, 49, 50, 51, 52, 53, 54, 55, 56, 57, 95, 46]
/-- a name of the signs cs -/
def okN (cs v : List Nat) : Bool := match v with
  | [] => false
  | c :: r => !(decide ((12 : Int) < (r.length : Int) + 1) || decide (c = 46)) && (c :: r).all fun x => decide (x ∈ cs)
def okp (z : List Nat) : Bool := decide (((pieces 47 [] z).length : Int) ≤ 4) && (pieces 47 [] z).all (okN cs0)
def okc (c : Nat) : Bool := decide ((c : Int) = 10) || decide ((32 : Int) ≤ c) && decide ((c : Int) ≤ 126) && !decide ((c : Int) = 37)
def okt (t : List Nat) : Bool := t.all okc
def oku (t : List Nat) : Bool := decide ((t.length : Int) ≤ 400) && okt t
/-! ### entries -/
inductive Ent where
  | file (x b : List Nat)
  | link (q : List Nat)
def Ent.D : Ent → Dl.D
  | .file x b => .tup [.str [102, 105, 108, 101], .str x, .str b]
  | .link q => .tup [.str [108, 105, 110, 107], .str q]
def entD : Option Ent → Dl.D
  | some a => a.D
  | none => .non
def kindE : Option Ent → List Nat
  | none => [110, 111, 110, 101]
  | some (.file _ _) => [102, 105, 108, 101]
  | some (.link _) => [108, 105, 110, 107]
def readE : Option Ent → Dl.D
  | some (.file x _) => .str x
  | _ => .non
def writE : Option Ent → Dl.D
  | some (.file _ b) => .str b
  | _ => .non
def targE : Option Ent → Option (List Nat)
  | some (.link q) => some q
  | _ => none
def optD : Option (List Nat) → Dl.D
  | some q => .str q
  | none => .non
def PERS : List Nat := [112, 101, 114, 115, 111, 110]
def persE : Option Ent → Bool
  | some (.file _ b) => decide (b = PERS)
  | some (.link _) => true
  | none => false
def cnt (M : Tb Ent) : Nat := ((keys M).filter fun k => persE (look M k)).length
theorem cnt_le (M : Tb Ent) : cnt M ≤ M.length := by
  have := List.length_filter_le (fun k => persE (look M k)) (keys M)
  rw [keys_len] at this
  exact this
/-- there is no room at p -/
def full (M : Tb Ent) (p : List Nat) : Bool := !persE (look M p) && decide (60 ≤ cnt M)
/-- the object t is a tree with the entries M in the cell e -/
structure Tr (so : So) (t e : Nat) (M : Tb Ent) : Prop where
  ob : so[t]? = some (.ob 57 [some (.obj e)])
  ce : so[e]? = some (.cel (.dct (tab Ent.D M)))
/-- .. that may be walked just now -/
structure TrR (so : So) (t e : Nat) (M : Tb Ent) : Prop where
  ob : so[t]? = some (.ob 57 [some (.obj e)])
  ce : so[e]? = some (.cel (.dct (tab Ent.D M))) ∨ so[e]? = some (.lck (tab Ent.D M))
theorem Tr.r {so : So} {t e : Nat} {M : Tb Ent} (h : Tr so t e M) : TrR so t e M := ⟨h.ob, .inl h.ce⟩
theorem Tr.ne {so : So} {t e : Nat} {M : Tb Ent} (h : Tr so t e M) : e ≠ t := fun z => by
  have a := h.ob
  have b := h.ce
  rw [z, a] at b
  cases b
theorem Tr.lt {so : So} {t e : Nat} {M : Tb Ent} (h : Tr so t e M) : e < so.length := by
  have b := h.ce
  exact (List.getElem?_eq_some_iff.mp b).1
theorem Tr.set {so : So} {t e : Nat} {M : Tb Ent} (h : Tr so t e M) (N : Tb Ent) : Tr (so.set e (.cel (.dct (tab Ent.D N)))) t e N :=
  ⟨by rw [List.getElem?_set_ne h.ne]; exact h.ob, by rw [List.getElem?_set_self h.lt]⟩
theorem Tr.lck {so : So} {t e : Nat} {M : Tb Ent} (h : Tr so t e M) : TrR (so.set e (.lck (tab Ent.D M))) t e M :=
  ⟨by rw [List.getElem?_set_ne h.ne]; exact h.ob, .inr (by rw [List.getElem?_set_self h.lt])⟩
theorem Tr.same {so : So} {t e : Nat} {M : Tb Ent} (h : Tr so t e M) : so.set e (.cel (.dct (tab Ent.D M))) = so := by
  have b := h.ce
  obtain ⟨h1, h2⟩ := List.getElem?_eq_some_iff.mp b
  rw [← h2, List.set_getElem_self]
theorem put_mem {A : Type} {x : List Nat × A} {p : List Nat} {a : A} : ∀ {M : Tb A}, x ∈ put M p a → x = (p, a) ∨ x ∈ M
  | [], h => .inl (by simpa [put] using h)
  | (k, b) :: M, h => by
    have h : x ∈ (if k = p then _ else _ : Tb A) := h
    by_cases q : k = p
    · rw [if_pos q] at h
      rcases List.mem_cons.mp h with h | h
      · exact .inl (by rw [h, q])
      · obtain ⟨y, h1, h2⟩ := List.mem_map.mp h
        by_cases w : y.1 = p
        · rw [if_pos w] at h2; exact .inl (by rw [← h2, w])
        · rw [if_neg w] at h2; exact .inr (List.mem_cons_of_mem _ (h2 ▸ h1))
    · rw [if_neg q] at h
      rcases List.mem_cons.mp h with h | h
      · exact .inr (by rw [h]; exact List.mem_cons_self)
      · exact (put_mem h).imp id (List.mem_cons_of_mem _)
/-! ### tables whose keys are all different -/
section
variable {A : Type}
theorem keys_cons (k : List Nat) (a : A) (M : Tb A) : keys ((k, a) :: M) = k :: keys M := rfl
theorem look_cons (k p : List Nat) (a : A) (M : Tb A) : look ((k, a) :: M) p = if k = p then some a else look M p := rfl
theorem look_none {M : Tb A} {p : List Nat} : look M p = none ↔ p ∉ keys M := by
  have := look_key (M := M) (p := p)
  cases h : look M p with
  | none => rw [h] at this; exact ⟨fun _ z => (nomatch this.mpr z), fun _ => rfl⟩
  | some a => rw [h] at this; exact ⟨fun z => (nomatch z), fun z => absurd (this.mp rfl) z⟩
theorem keys_put (p : List Nat) (a : A) : ∀ M : Tb A, keys (put M p a) = if p ∈ keys M then keys M else keys M ++ [p]
  | [] => by simp [put, keys]
  | (k, b) :: M => by
    have ih := keys_put p a M
    show keys (if k = p then _ else _ : Tb A) = _
    by_cases h : k = p
    · rw [if_pos h, if_pos (by rw [keys_cons, h]; exact List.mem_cons_self), keys_cons, keys_cons]
      congr 1
      unfold keys
      rw [List.map_map]
      apply List.map_congr_left
      intro y _
      show (if y.1 = p then (y.1, a) else y).1 = y.1
      split <;> rfl
    · rw [if_neg h, keys_cons, keys_cons, ih]
      by_cases q : p ∈ keys M
      · rw [if_pos q, if_pos (List.mem_cons_of_mem _ q)]
      · rw [if_neg q, if_neg (fun z => (List.mem_cons.mp z).elim (fun w => h w.symm) q)]; rfl
theorem put_nodup {M : Tb A} (h : (keys M).Nodup) (p : List Nat) (a : A) : (keys (put M p a)).Nodup := by
  rw [keys_put]
  split
  · exact h
  · rename_i q
    rw [List.nodup_append]
    exact ⟨h, by simp, fun x hx y hy e => q (by rw [List.mem_singleton] at hy; rw [← hy, ← e]; exact hx)⟩
theorem drop_nodup {M : Tb A} (h : (keys M).Nodup) (p : List Nat) : (keys (drop M p)).Nodup :=
  List.Nodup.sublist (List.Sublist.map _ List.filter_sublist) h
theorem look_of_mem : ∀ {M : Tb A}, (keys M).Nodup → ∀ {y : List Nat × A}, y ∈ M → look M y.1 = some y.2
  | (k, b) :: M, h, y, hy => by
    rw [keys_cons, List.nodup_cons] at h
    rw [look_cons]
    rcases List.mem_cons.mp hy with e | hy
    · subst e; rw [if_pos rfl]
    · have : y.1 ∈ keys M := List.mem_map.mpr ⟨y, hy, rfl⟩
      rw [if_neg fun z : k = y.1 => h.1 (by rw [z]; exact this)]
      exact look_of_mem h.2 hy
theorem put_new (p : List Nat) (a : A) : ∀ {M : Tb A}, p ∉ keys M → put M p a = M ++ [(p, a)]
  | [], _ => rfl
  | (k, b) :: M, h => by
    rw [keys_cons, List.mem_cons, not_or] at h
    show (if k = p then _ else _ : Tb A) = _
    rw [if_neg fun z => h.1 z.symm, put_new p a h.2]; rfl
theorem merge_new : ∀ (N M : Tb A), (keys M ++ keys N).Nodup → merge M N = M ++ N
  | [], M, _ => by simp [merge]
  | (k, a) :: N, M, h => by
    rw [keys_cons] at h
    have hk : k ∉ keys M := fun z => by
      have := (List.nodup_append.mp h).2.2 k z k List.mem_cons_self
      exact this rfl
    show merge (put M k a) N = _
    have e : put M k a = M ++ [(k, a)] := put_new k a hk
    have e2 : keys (M ++ [(k, a)]) = keys M ++ [k] := List.map_append
    rw [e, merge_new N _ (by rw [e2, List.append_assoc]; exact h), List.append_assoc]; rfl
theorem merge_nil {N : Tb A} (h : (keys N).Nodup) : merge [] N = N := merge_new N [] h
/-- the pairs of a table but p's, by its keys -/
theorem keys_pairs {B : Type} {M : Tb A} (h : (keys M).Nodup) (f : List Nat → Bool) (g : List Nat → Option A → B) : ((keys M).filter f).map (fun k => g k (look M k)) = (M.filter fun y => f y.1).map fun y => g y.1 (some y.2) := by
  unfold keys
  rw [List.filter_map, List.map_map]
  apply List.map_congr_left
  intro y hy
  show g y.1 (look M y.1) = _
  rw [look_of_mem h (List.mem_filter.mp hy).1]
end
theorem set_same {so : So} {c : Nat} {o : Sc} (h : so[c]? = some o) : so.set c o = so := by
  obtain ⟨h1, h2⟩ := List.getElem?_eq_some_iff.mp h
  rw [← h2, List.set_getElem_self]
end
end Dl

set_option Elab.async false
set_option linter.all false
set_option maxRecDepth 100000
set_option maxHeartbeats 1000000
/-! Evaluation lemmas: == of what stands in the store; sorted lists. -/
namespace Dl
open PySem PySem.Spec PyProof.Rows L2
noncomputable section
section
variable {en : En} {so : So}
@[simp] theorem mEqH_ (ma mb : M Hd) : mEqH ma mb en so = bdR (ma en so) fun h1 => bd mb fun h2 => bd (vwH h1) fun d => bd (vwH h2) fun e => opM (eqV d e) fun b => pu (.bl b) := rfl
@[simp] theorem mNeH_ (ma mb : M Hd) : mNeH ma mb en so = bdR (ma en so) fun h1 => bd mb fun h2 => bd (vwH h1) fun d => bd (vwH h2) fun e => gd (okq 24 d = true ∧ okq 24 e = true) (pu (.bl (!eqD d e))) := rfl
@[simp] theorem vwH_dat (d : D) : vwH (.dat d) en so = .ok (vwD so 6 d) en so := rfl
@[simp] theorem vwH_slot (i : Nat) : vwH (.slot i) en so = (match en[i]? with
  | some (some (.cel c)) => .ok (vwD so 6 c.toD) en so
  | some (some (.dat d)) => .ok (vwD so 6 d) en so
  | _ => .no) := rfl
def lvR (i : Nat) (vs : List Nat) (en : En) (xs : List D) (r : Re (List D)) : Re B := match r with
  | .ok ys en' so' => .ok (.cel (.lst ys)) ((backE (en.set i none) en' vs).set i (some (.cel (.lst xs)))) so'
  | _ => .no
@[simp] theorem lvR_ (i : Nat) (vs : List Nat) (en' : En) (xs ys : List D) : lvR i vs en xs (.ok ys en' so) = .ok (.cel (.lst ys)) ((backE (en.set i none) en' vs).set i (some (.cel (.lst xs)))) so := rfl
@[simp] theorem mLcV_ (i : Nat) (vs : List Nat) (tg : Tg) (tt : M Bool) (el : M D) : mLcV i vs tg tt el en so = (match en[i]? with
  | some (some (.cel (.lst xs))) => lvR i vs en xs (lcGo vs tg tt el xs [] (wipeE (en.set i none) vs) so)
  | _ => .no) := rfl
@[simp] theorem vw_non (n : Nat) : vwD so n .non = .non := by cases n <;> rfl
@[simp] theorem vw_bl (n : Nat) (b : Bool) : vwD so n (.bl b) = .bl b := by cases n <;> rfl
@[simp] theorem vw_int (n : Nat) (b : Int) : vwD so n (.int b) = .int b := by cases n <;> rfl
@[simp] theorem vw_str (n : Nat) (b : List Nat) : vwD so n (.str b) = .str b := by cases n <;> rfl
theorem vw_tup (n : Nat) (xs : List D) : vwD so (n + 1) (.tup xs) = .tup (xs.map (vwD so n)) := rfl
theorem vw_lst (n : Nat) (xs : List D) : vwD so (n + 1) (.lst xs) = .lst (xs.map (vwD so n)) := rfl
theorem vw_same {f : D → D} : ∀ {xs : List D}, (∀ x ∈ xs, f x = x) → xs.map f = xs
  | [], _ => rfl
  | x :: xs, h => by rw [List.map_cons, h x List.mem_cons_self, vw_same fun y hy => h y (List.mem_cons_of_mem _ hy)]
@[simp] theorem vw_strs6 (l : List (List Nat)) : vwD so 6 (.lst (l.map .str)) = .lst (l.map .str) := by
  rw [vw_lst, vw_same]
  intro x hx
  obtain ⟨y, _, rfl⟩ := List.mem_map.mp hx
  exact vw_str _ _
theorem vw_ent (n : Nat) (a : Ent) : vwD so (n + 2) a.D = a.D := by
  cases a <;> simp [Ent.D, vw_tup]
theorem vw_tab {A : Type} {f : A → D} {M : Tb A} {k : Nat} (h : so[k]? = some (.cel (.dct (tab f M)))) (hf : ∀ a, vwD so 5 (f a) = f a) : vwD so 6 (.obj k) = .dct (tab f M) := by
  have e : vwD so 6 (.obj k) = (match so[k]? with
    | some (.cel (.lst xs)) => D.lst (xs.map (vwD so 5))
    | some (.cel (.dct kv)) => D.dct (kv.map fun p : Ky × D => (p.1, vwD so 5 p.2))
    | some (.lck kv) => D.dct (kv.map fun p : Ky × D => (p.1, vwD so 5 p.2))
    | _ => D.obj k) := rfl
  rw [e, h]
  show D.dct _ = D.dct _
  congr 1
  unfold tab
  rw [List.map_map]
  apply List.map_congr_left
  intro p _
  show (Sum.inr p.1, vwD so 5 (f p.2)) = _
  rw [hf]
theorem eqDs_strs : ∀ l : List (List Nat), eqDs (l.map D.str) (l.map D.str) = true
  | [] => by simp
  | a :: l => by simp [eqDs_strs l]
theorem okq_strs (n : Nat) : ∀ l : List (List Nat), (l.map D.str).all (okq n) = true
  | [] => by simp
  | a :: l => by simp
theorem hit_same {f : D → D → Option Bool} {kv : List (Ky × D)} : ∀ {x : List (Ky × D)}, (∀ p ∈ x, valD kv p.1 = some p.2 ∧ f p.2 p.2 = some true) → hitE f kv x = some true
  | [], _ => rfl
  | (k, v) :: x, h => by
    obtain ⟨h1, h2⟩ := h (k, v) List.mem_cons_self
    show (match valD kv k with | none => some false | some y => match f v y, hitE f kv x with | some p, some q => some (p && q) | _, _ => none) = _
    have h1 : valD kv k = some v := h1
    rw [h1]
    show (match f v v, hitE f kv x with | some p, some q => some (p && q) | _, _ => none) = _
    have h2 : f v v = some true := h2
    rw [h2, hit_same fun p hp => h p (List.mem_cons_of_mem _ hp)]
    rfl
theorem eqV_tab {A : Type} {f : A → D} {M : Tb A} (nd : (keys M).Nodup) (hf : ∀ a, eqE 7 (f a) (f a) = some true) : eqV (.dct (tab f M)) (.dct (tab f M)) = some true := by
  unfold eqV
  rw [if_neg (fun z => nomatch z.1)]
  show (if (tab f M).length = (tab f M).length then hitE (eqE 7) (tab f M) (tab f M) else some false) = _
  rw [if_pos rfl]
  refine hit_same fun p hp => ?_
  obtain ⟨y, hy, rfl⟩ := List.mem_map.mp hp
  refine ⟨?_, hf _⟩
  rw [valD_tab, look_of_mem nd hy]
  rfl
theorem eqE_ent (a : Ent) : eqE 7 a.D a.D = some true := by
  cases a <;> simp [Ent.D, eqE, zipE]
end
/-- two sorted lists without doubles, of the same texts -/
theorem sorted_ext {l m : List (List Nat)} (hl : l.Pairwise fun a b => leC a b = true) (hm : m.Pairwise fun a b => leC a b = true) (nl : l.Nodup) (nm : m.Nodup) (h : ∀ p, p ∈ l ↔ p ∈ m) : l = m :=
  List.Perm.eq_of_pairwise (le := fun a b => leC a b = true) (fun a b _ _ h1 h2 => leC_anti a b h1 h2) hl hm ((List.perm_ext_iff_of_nodup nl nm).mpr h)
theorem srt_nodup {l : List (List Nat)} (h : l.Nodup) : (srtS l).Nodup := (srtS_perm l).nodup_iff.mpr h
theorem merge_nodup {A : Type} : ∀ (N M : Tb A), (keys M).Nodup → (keys (merge M N)).Nodup
  | [], _, h => h
  | (k, a) :: N, M, h => merge_nodup N (put M k a) (put_nodup h k a)
/-- the table of all of l -/
def setT (l : List (List Nat)) : Tb Bool := merge [] (l.map fun k => (k, true))
theorem setT_nodup (l : List (List Nat)) : (keys (setT l)).Nodup := merge_nodup _ _ List.nodup_nil
theorem setT_mem {l : List (List Nat)} {p : List Nat} : p ∈ keys (setT l) ↔ p ∈ l := by
  rw [← look_key]
  unfold setT
  rw [look_merge (fun _ => true)]
  by_cases h : p ∈ l
  · simp [h]
  · simp [h, look]
theorem setT_prs (l : List (List Nat)) : prsOf (l.map fun k => D.tup [.str k, .bl true]) = some (tab D.bl (l.map fun k => (k, true))) := by
  have := prsOf_tab D.bl (l.map fun k => (k, true))
  rw [List.map_map] at this
  exact this
theorem setT_mrg (l : List (List Nat)) : mergeT [] (tab D.bl (l.map fun k => (k, true))) = tab D.bl (setT l) := mergeT_tab D.bl _ []
end
end Dl

set_option Elab.async false
set_option linter.all false
set_option maxRecDepth 100000
set_option maxHeartbeats 1000000
/-! The data level: sorted(d, reverse=True). -/
namespace Dl
open PySem PySem.Spec PyProof.Rows L2
noncomputable section
def sortedKR : List D → M B
  | [d] => bd (dctO d) fun kv => opM (kstrs kv) fun ys => pu (.cel (.lst ((srtS ys).reverse.map .str)))
  | _ => no
section
variable {X : Cx} {W : WX} {e : Expr} {ms : M (List D)} {pos p p1 kp : Pos} {j : Nat}
theorem b_srtKR (hg : Gl X "sorted") (hm : X.mg "sorted" = none) (hc : X.calm = true) (ha : DA X W [e] ms)
    (he : backTo pos (starEach [e] X.env) = (false, eval e X.env) :: backTo pos (starEach [] X.env) := by rfl) (hpl : (backTo pos (starEach [e] X.env)).any (·.1) = false := by rfl)
    (hall : (backToKw pos (keywordEach [⟨some "reverse", .Constant (.bool true) j p1, kp⟩] X.env)).all (·.1.isSome) = true := by rfl) (hnone : (backToKw pos (keywordEach [⟨some "reverse", .Constant (.bool true) j p1, kp⟩] X.env)).any (·.1.isNone) = false := by rfl)
    (hks : (backToKw pos (keywordEach [⟨some "reverse", .Constant (.bool true) j p1, kp⟩] X.env)).filterMap (·.1) = [Str.ofString "reverse"] := by rfl) :
    DB X W (.Call (.Name "sorted" p) [e] [⟨some "reverse", .Constant (.bool true) j p1, kp⟩] pos) (bd ms sortedKR) := by
  refine ⟨PE_imp (pe_callBK (ks := [Str.ofString "reverse"]) (cr_srtKR hc) hg hm (by decide +kernel) ha.pa (pk_cons pe_bl pk_nil) (by decide) (by decide) he hpl hall hnone hks) fun σ H Q ⟨G, en, so, s, q⟩ => ⟨G, en, so, s, (Post.bind (R1 := rlDs X.K) q).imp ?_⟩⟩
  intro vs H1 ⟨G1, en1, so1, ds, _, r1, s1, p1⟩
  show rSrtKR vs [.bl true] H1 Q
  match ds, r1, p1 with
  | [d], r1, p1 =>
    obtain ⟨x, rfl, h⟩ := reps1 r1
    obtain ⟨kds, ca, p2⟩ := dctO_at s1 h p1
    obtain ⟨ys, ey, p4⟩ := opM_at p2
    obtain ⟨a0, kvs, rfl, hd, rk⟩ := ca
    refine ⟨a0, kvs, ys.map sT, rfl, rfl, hd, kstrs_keys rk ey, fun zs q hp hs hq => ?_⟩
    have e1 : zs.reverse = (srtS ys).map sT := sortedS_uniq ((List.reverse_perm _).trans hp) hs
    have e2 : zs = (srtS ys).reverse.map sT := by rw [List.map_reverse, ← e1, List.reverse_reverse]
    rw [e2]
    exact p4.ok' (tag_le q .tmp) (s1.newT (t := .tmp) hq) ⟨q, rfl, tag_own, _, upd_same, reps_strs _⟩
  | [], _, p1 => exact False.elim p1
  | d :: _ :: _, _, p1 => exact False.elim p1
end
section
variable {en : En} {so : So}
@[simp] theorem sortedKR_ (d : D) : sortedKR [d] en so = bdR (dctO d en so) fun kv => opM (kstrs kv) fun ys => pu (.cel (.lst ((srtS ys).reverse.map .str))) := rfl
end
end
end Dl

set_option Elab.async false
set_option linter.all false
set_option maxRecDepth 100000
set_option maxHeartbeats 1000000
/-! The data level: min, max (two ints; a list of ints or texts; default=..), list.index. -/
namespace Dl
open PySem PySem.Spec PyProof.Rows L2
noncomputable section
/-- a list of ints -/
def intsOf : List D → Option (List Int)
  | [] => some []
  | .int b :: r => (intsOf r).map (b :: ·)
  | _ => none
def mxI (n : Int) (l : List Int) : Int := l.foldl (fun a y => if a < y then y else a) n
def mnI (n : Int) (l : List Int) : Int := l.foldl (fun a y => if y < a then y else a) n
def mnS (s : List Nat) (l : List (List Nat)) : List Nat := l.foldl (fun a y => if y < a then y else a) s
def hdI (f : Int → List Int → M D) (z : M D) : List Int → M D
  | [] => z
  | n :: r => f n r
def hdS (f : List Nat → List (List Nat) → M D) (z : M D) : List (List Nat) → M D
  | [] => z
  | n :: r => f n r
def max2D : List D → M D
  | [.int i, .int j] => pu (.int (if j > i then j else i))
  | _ => no
def min2D : List D → M D
  | [.int i, .int j] => pu (.int (if j < i then j else i))
  | _ => no
def maxLD : List D → M D
  | [.lst xs] => opM (intsOf xs) (hdI (fun n r => pu (.int (mxI n r))) no)
  | _ => no
def minSD : List D → M D
  | [.lst xs] => opM (strsOf xs) (hdS (fun n r => pu (.str (mnS n r))) no)
  | _ => no
/-- max(l, default=z) -/
def maxDf (z : D) : List D → M D
  | [.lst xs] => opM (intsOf xs) (hdI (fun n r => pu (.int (mxI n r))) (pu z))
  | _ => no
/-- min(l, default=z), texts -/
def minDf (z : D) : List D → M D
  | [.lst xs] => opM (strsOf xs) (hdS (fun n r => pu (.str (mnS n r))) (pu z))
  | _ => no
theorem ints_of {K : PySem.W.Frag} {F : Hp} {rho : List (Addr × Addr)} : ∀ {vs : List V} {ds : List D} {bs : List Int}, Reps K F rho vs ds → intsOf ds = some bs → vs = bs.map V.int
  | _, _, bs, .nil, e => by cases e; rfl
  | _, _, bs, .cons (d := d) (ds := ds) h r, e => by
    cases h with
    | int i =>
      have e' : (intsOf ds).map (i :: ·) = some bs := e
      obtain ⟨b2, e2, rfl⟩ := Option.map_eq_some_iff.mp e'
      rw [List.map_cons, ints_of r e2]
    | _ => cases e
theorem mxI_spec : ∀ (l : List Int) (n : Int), mxI n l ∈ n :: l ∧ ∀ y ∈ n :: l, y ≤ mxI n l
  | [], n => ⟨List.mem_cons_self, fun y h => by
      rcases List.mem_cons.mp h with rfl | h
      · exact Int.le_refl _
      · cases h⟩
  | a :: l, n => by
    show mxI (if n < a then a else n) l ∈ _ ∧ ∀ y ∈ _, y ≤ mxI (if n < a then a else n) l
    obtain ⟨h1, h2⟩ := mxI_spec l (if n < a then a else n)
    have h3 := h2 _ List.mem_cons_self
    refine ⟨?_, fun y hy => ?_⟩
    · rcases List.mem_cons.mp h1 with e | e
      · rw [e]; split
        · exact List.mem_cons_of_mem _ List.mem_cons_self
        · exact List.mem_cons_self
      · exact List.mem_cons_of_mem _ (List.mem_cons_of_mem _ e)
    · rcases List.mem_cons.mp hy with rfl | hy
      · refine Int.le_trans ?_ h3; split <;> omega
      · rcases List.mem_cons.mp hy with rfl | hy
        · refine Int.le_trans ?_ h3; split <;> omega
        · exact h2 y (List.mem_cons_of_mem _ hy)
theorem mxI_uniq {n m : Int} {l : List Int} (h1 : m ∈ n :: l) (h2 : ∀ y ∈ n :: l, y ≤ m) : m = mxI n l :=
  Int.le_antisymm ((mxI_spec l n).2 m h1) (h2 _ (mxI_spec l n).1)
theorem mxI_of (n : Int) (l : List Int) : PySem.W.maxOf n l = mxI n l := by
  unfold PySem.W.maxOf mxI
  congr 1
  funext a y
  show (if decide (a < y) = true then y else a) = _
  by_cases h : a < y <;> simp [h]
theorem mnS_of : ∀ (l : List Str) (n : Str), (PySem.W.minOf n l).cps.toList = mnS n.cps.toList (l.map fun x => x.cps.toList)
  | [], n => rfl
  | a :: l, n => by
    show (PySem.W.minOf (if decide (a.cps.toList < n.cps.toList) = true then a else n) l).cps.toList = mnS (if a.cps.toList < n.cps.toList then a.cps.toList else n.cps.toList) (l.map fun x => x.cps.toList)
    rw [mnS_of l]
    by_cases h : a.cps.toList < n.cps.toList <;> simp [h]
section
variable {K : PySem.W.Frag} {mg : Ev}
theorem opM_at2 {A1 A2 A' : Type} {K : PySem.W.Frag} {mg : Ev} {G : Gh} {en : En} {so : So} {σ : L2.St} {oo : Option A1} {k : A1 → M A2} {W : WX} {Rl : Gh → Hp → A' → A2 → Prop} {Q : A' → Hp → Prop} (p : Post K mg G W Rl σ (opM oo k en so) Q) : ∃ x, oo = some x ∧ Post K mg G W Rl σ (k x en so) Q := by
  cases oo with
  | none => exact p.elim
  | some x => exact ⟨x, rfl, p⟩
theorem reps2 {F : Hp} {rho : List (Addr × Addr)} {xs : List V} {d e : D} (r : Reps K F rho xs [d, e]) : ∃ x y, xs = [x, y] ∧ Rep K F rho x d ∧ Rep K F rho y e := by
  cases r with
  | cons h r =>
    obtain ⟨y, rfl, h2⟩ := reps1 r
    exact ⟨_, y, rfl, h, h2⟩
theorem two_ints {f : List D → M D} {g : Int → Int → Int} (hf : ∀ i j, f [.int i, .int j] = pu (.int (g i j))) (hn : ∀ ds, (∀ i j, ds ≠ [.int i, .int j]) → f ds = no) : OpN K mg (fun xs H Q => ∃ i j, xs = [.int i, .int j] ∧ Q (.int (g i j)) H) f := by
  intro xs ds G en so σ H W Q r s p
  by_cases h : ∃ i j, ds = [.int i, .int j]
  · obtain ⟨i, j, rfl⟩ := h
    obtain ⟨x, y, rfl, h1, h2⟩ := reps2 r
    cases h1; cases h2
    rw [hf] at p
    exact ⟨i, j, rfl, Post.ok (v := V.int (g i j)) p s (.int _)⟩
  · rw [hn ds fun i j e => h ⟨i, j, e⟩] at p
    exact p.elim
theorem opn_max2 : OpN K mg (fun xs H Q => ∃ i j, xs = [.int i, .int j] ∧ Q (.int (if j > i then j else i)) H) max2D := two_ints (g := fun i j => if j > i then j else i) (fun _ _ => rfl) fun ds h => by
  unfold max2D
  split
  · exact (h _ _ rfl).elim
  · rfl
theorem opn_min2 : OpN K mg (fun xs H Q => ∃ i j, xs = [.int i, .int j] ∧ Q (.int (if j < i then j else i)) H) min2D := two_ints (g := fun i j => if j < i then j else i) (fun _ _ => rfl) fun ds h => by
  unfold min2D
  split
  · exact (h _ _ rfl).elim
  · rfl
theorem opn_maxL : OpN K mg (rMax K) maxLD := by
  intro xs ds G en so σ H W Q r s p
  match ds, r, p with
  | [.lst ys], r, p =>
    obtain ⟨x, rfl, h⟩ := reps1 r
    cases h with
    | lst h r2 =>
      obtain ⟨ns, e, p⟩ := opM_at2 (oo := intsOf ys) p
      have ev := ints_of r2 e
      subst ev
      cases ns with
      | nil => exact p.elim
      | cons n l => exact ⟨_, n :: l, rfl, s.toSimO.rep.seq h, Nat.succ_pos _, fun m h1 h2 => by rw [mxI_uniq h1 h2]; exact Post.ok (v := V.int (mxI n l)) p s (.int _)⟩
  | [], _, p => exact p.elim
  | [.non], _, p => exact p.elim
  | [.bl _], _, p => exact p.elim
  | [.int _], _, p => exact p.elim
  | [.str _], _, p => exact p.elim
  | [.tup _], _, p => exact p.elim
  | [.dct _], _, p => exact p.elim
  | [.obj _], _, p => exact p.elim
  | d :: _ :: _, _, p => cases d <;> exact False.elim p
end
section
variable {X : Cx}
def rMinS (K : PySem.W.Frag) : List V → Hp → VK → Prop := fun vs H Q => ∃ (a : Addr) (x : Str) (ss : List Str), vs = [V.ref a] ∧ SqL K H a ((x :: ss).map V.str) ∧ Q (.str (PySem.W.minOf x ss)) H
theorem cr_minS (hc : X.calm = true) (hu : X.A.units + 64 < cLine) : CallR X (.builtin "min") (rMinS X.K) := by
  intro pins s σ H vs us Q I r h
  obtain ⟨a, x, ss, rfl, hs, q⟩ := h
  obtain ⟨its, rv, hl, _⟩ := I.list hs
  rw [Vals.ref1 r]
  refine PySem.W.min_list_datum (α := Str) (x := x) (xs := ss) (I.ok.hd hc) hl.isList (PySem.W.HoldAll.of_strs rv.strs) (by show X.A.units + 1 + 0 < cLine; omega) fun i v h' tk _ hv hk => ?_
  obtain ⟨t, rfl⟩ := PySem.W.str_of_holds hv
  exact ⟨.str _, H, I.kept hk, ⟨t, rfl⟩, q⟩
theorem opn_minS {K : PySem.W.Frag} {mg : Ev} : OpN K mg (rMinS K) minSD := by
  intro xs ds G en so σ H W Q r s p
  match ds, r, p with
  | [.lst ys], r, p =>
    obtain ⟨x, rfl, h⟩ := reps1 r
    cases h with
    | lst h r2 =>
      obtain ⟨ns, e, p⟩ := opM_at2 (oo := strsOf ys) p
      have ev := strs_of r2 e
      subst ev
      cases ns with
      | nil => exact p.elim
      | cons n l =>
        refine ⟨_, sT n, l.map sT, rfl, s.toSimO.rep.seq h, Post.ok p s (.of_str _ ?_)⟩
        rw [mnS_of, List.map_map]
        have : ((fun x : Str => x.cps.toList) ∘ sT) = id := by funext z; simp [sT]
        rw [this, List.map_id]
        simp [sT]
  | [], _, p => exact p.elim
  | [.non], _, p => exact p.elim
  | [.bl _], _, p => exact p.elim
  | [.int _], _, p => exact p.elim
  | [.str _], _, p => exact p.elim
  | [.tup _], _, p => exact p.elim
  | [.dct _], _, p => exact p.elim
  | [.obj _], _, p => exact p.elim
  | d :: _ :: _, _, p => cases d <;> exact False.elim p
/-! ### default=.. -/
def rMaxDf (K : PySem.W.Frag) : List V → List V → Hp → VK → Prop := fun vs zs H Q => ∃ (a : Addr) (ns : List Int) (z : V), vs = [V.ref a] ∧ zs = [z] ∧ SqL K H a (ns.map V.int) ∧ (ns = [] → Q z H) ∧ ∀ n l, ns = n :: l → Q (.int (mxI n l)) H
theorem cr_maxDf (hc : X.calm = true) (hu : X.A.units + 64 < cLine) : CallRK X (.builtin "max") [Str.ofString "default"] (rMaxDf X.K) := by
  rintro pins s σ H xs zs us ws Q I r rz ⟨a, ns, z, rfl, rfl, hs, q0, q1⟩
  obtain ⟨its, rv, hl, _⟩ := I.list hs
  rw [Vals.ref1 r]
  obtain ⟨w1, rfl, ew⟩ := vals1 rz
  refine PySem.W.max_list_datum_default (α := Int) (xs := ns) (I.ok.hd hc) hl.isList (PySem.W.HoldAll.of_ints rv.ints) (by show X.A.units + 1 + 0 < cLine; omega) (fun e h' tk hk => ⟨z, H, I.kept hk, ew, q0 e⟩) fun n l i v h' tk e _ hv hk => ?_
  obtain ⟨t, rfl⟩ := PySem.W.int_of_holds hv
  exact ⟨.int _, H, I.kept hk, ⟨t, rfl⟩, by rw [mxI_of]; exact q1 n l e⟩
def rMinDf (K : PySem.W.Frag) : List V → List V → Hp → VK → Prop := fun vs zs H Q => ∃ (a : Addr) (ns : List Str) (z : V), vs = [V.ref a] ∧ zs = [z] ∧ SqL K H a (ns.map V.str) ∧ (ns = [] → Q z H) ∧ ∀ n l, ns = n :: l → Q (.str (PySem.W.minOf n l)) H
theorem cr_minDf (hc : X.calm = true) (hu : X.A.units + 64 < cLine) : CallRK X (.builtin "min") [Str.ofString "default"] (rMinDf X.K) := by
  rintro pins s σ H xs zs us ws Q I r rz ⟨a, ns, z, rfl, rfl, hs, q0, q1⟩
  obtain ⟨its, rv, hl, _⟩ := I.list hs
  rw [Vals.ref1 r]
  obtain ⟨w1, rfl, ew⟩ := vals1 rz
  refine PySem.W.min_list_datum_default (α := Str) (xs := ns) (I.ok.hd hc) hl.isList (PySem.W.HoldAll.of_strs rv.strs) (by show X.A.units + 1 + 0 < cLine; omega) (fun e h' tk hk => ⟨z, H, I.kept hk, ew, q0 e⟩) fun n l i v h' tk e _ hv hk => ?_
  obtain ⟨t, rfl⟩ := PySem.W.str_of_holds hv
  exact ⟨.str _, H, I.kept hk, ⟨t, rfl⟩, q1 n l e⟩
section
variable {W : WX} {e : Expr} {ms : M (List D)} {pos p p1 kp : Pos} {j : Nat}
theorem d_maxDf {n : Int} (hg : Gl X "max") (hm : X.mg "max" = none) (hc : X.calm = true) (hu : X.A.units + 64 < cLine) (ha : DA X W [e] ms)
    (he : backTo pos (starEach [e] X.env) = (false, eval e X.env) :: backTo pos (starEach [] X.env) := by rfl) (hpl : (backTo pos (starEach [e] X.env)).any (·.1) = false := by rfl)
    (hall : (backToKw pos (keywordEach [⟨some "default", .Constant (.int n) j p1, kp⟩] X.env)).all (·.1.isSome) = true := by rfl) (hnone : (backToKw pos (keywordEach [⟨some "default", .Constant (.int n) j p1, kp⟩] X.env)).any (·.1.isNone) = false := by rfl)
    (hks : (backToKw pos (keywordEach [⟨some "default", .Constant (.int n) j p1, kp⟩] X.env)).filterMap (·.1) = [Str.ofString "default"] := by rfl) :
    DE X W (.Call (.Name "max" p) [e] [⟨some "default", .Constant (.int n) j p1, kp⟩] pos) (bd ms (maxDf (.int n))) := by
  refine ⟨PE_imp (pe_callBK (ks := [Str.ofString "default"]) (cr_maxDf hc hu) hg hm (by decide +kernel) ha.pa (pk_cons pe_int pk_nil) (by decide) (by decide) he hpl hall hnone hks) fun σ H Q ⟨G, en, so, s, q⟩ => ⟨G, en, so, s, (Post.bind (R1 := rlDs X.K) q).imp ?_⟩⟩
  intro vs H1 ⟨G1, en1, so1, ds, _, r1, s1, p1⟩
  show rMaxDf X.K vs [.int n] H1 Q
  match ds, r1, p1 with
  | [.lst ys], r1, p1 =>
    obtain ⟨x, rfl, h⟩ := reps1 r1
    cases h with
    | lst h r2 =>
      obtain ⟨ns, e, p2⟩ := opM_at2 (oo := intsOf ys) p1
      have ev := ints_of r2 e
      subst ev
      refine ⟨_, ns, .int n, rfl, rfl, s1.toSimO.rep.seq h, fun e0 => ?_, fun m l e0 => ?_⟩
      · subst e0; exact Post.ok (v := V.int n) p2 s1 (.int _)
      · subst e0; exact Post.ok (v := V.int (mxI m l)) p2 s1 (.int _)
  | [], _, p1 => exact p1.elim
  | [.non], _, p1 => exact p1.elim
  | [.bl _], _, p1 => exact p1.elim
  | [.int _], _, p1 => exact p1.elim
  | [.str _], _, p1 => exact p1.elim
  | [.tup _], _, p1 => exact p1.elim
  | [.dct _], _, p1 => exact p1.elim
  | [.obj _], _, p1 => exact p1.elim
  | d :: _ :: _, _, p1 => cases d <;> exact False.elim p1
theorem d_minDf (hg : Gl X "min") (hm : X.mg "min" = none) (hc : X.calm = true) (hu : X.A.units + 64 < cLine) (ha : DA X W [e] ms)
    (he : backTo pos (starEach [e] X.env) = (false, eval e X.env) :: backTo pos (starEach [] X.env) := by rfl) (hpl : (backTo pos (starEach [e] X.env)).any (·.1) = false := by rfl)
    (hall : (backToKw pos (keywordEach [⟨some "default", .Constant .none j p1, kp⟩] X.env)).all (·.1.isSome) = true := by rfl) (hnone : (backToKw pos (keywordEach [⟨some "default", .Constant .none j p1, kp⟩] X.env)).any (·.1.isNone) = false := by rfl)
    (hks : (backToKw pos (keywordEach [⟨some "default", .Constant .none j p1, kp⟩] X.env)).filterMap (·.1) = [Str.ofString "default"] := by rfl) :
    DE X W (.Call (.Name "min" p) [e] [⟨some "default", .Constant .none j p1, kp⟩] pos) (bd ms (minDf .non)) := by
  refine ⟨PE_imp (pe_callBK (ks := [Str.ofString "default"]) (cr_minDf hc hu) hg hm (by decide +kernel) ha.pa (pk_cons pe_non pk_nil) (by decide) (by decide) he hpl hall hnone hks) fun σ H Q ⟨G, en, so, s, q⟩ => ⟨G, en, so, s, (Post.bind (R1 := rlDs X.K) q).imp ?_⟩⟩
  intro vs H1 ⟨G1, en1, so1, ds, _, r1, s1, p1⟩
  show rMinDf X.K vs [.non] H1 Q
  match ds, r1, p1 with
  | [.lst ys], r1, p1 =>
    obtain ⟨x, rfl, h⟩ := reps1 r1
    cases h with
    | lst h r2 =>
      obtain ⟨ns, e, p2⟩ := opM_at2 (oo := strsOf ys) p1
      have ev := strs_of r2 e
      subst ev
      refine ⟨_, ns.map sT, .non, rfl, rfl, s1.toSimO.rep.seq h, fun e0 => ?_, fun m l e0 => ?_⟩
      · cases ns with
        | nil => exact Post.ok (v := V.non) p2 s1 .non
        | cons _ _ => cases e0
      · cases ns with
        | nil => cases e0
        | cons n0 l0 =>
          cases e0
          refine Post.ok p2 s1 (.of_str _ ?_)
          rw [mnS_of, List.map_map]
          have : ((fun x : Str => x.cps.toList) ∘ sT) = id := by funext z; simp [sT]
          rw [this, List.map_id]
          simp [sT]
  | [], _, p1 => exact p1.elim
  | [.non], _, p1 => exact p1.elim
  | [.bl _], _, p1 => exact p1.elim
  | [.int _], _, p1 => exact p1.elim
  | [.str _], _, p1 => exact p1.elim
  | [.tup _], _, p1 => exact p1.elim
  | [.dct _], _, p1 => exact p1.elim
  | [.obj _], _, p1 => exact p1.elim
  | d :: _ :: _, _, p1 => cases d <;> exact False.elim p1
end
/-! ### list.index, texts -/
def idxC : C → D → M D
  | .lst xs, .str z => opM (strsOf xs) fun l => gd (z ∈ l) (pu (.int (l.idxOf z)))
  | _, _ => no
def mLIx (mh : M Hd) (m : M D) : M D := bd mh fun h => bd (rdH h) fun c => gd (isLst c = true) (bd m fun d => bd (rdH h) fun c => idxC c d)
section
variable {W : WX} {e e1 : Expr} {mh : M Hd} {m1 : M D} {pos apos : Pos}
theorem idx_at : ∀ (l : List (List Nat)) (z : List Nat), z ∈ l → l[l.idxOf z]? = some z ∧ ∀ m x, m < l.idxOf z → l[m]? = some x → x ≠ z
  | [], _, h => by cases h
  | a :: l, z, h => by
    by_cases e : a = z
    · subst e
      rw [List.idxOf_cons_self]
      exact ⟨rfl, fun m x h _ => absurd h (Nat.not_lt_zero _)⟩
    · have e0 : (a :: l).idxOf z = l.idxOf z + 1 := by rw [List.idxOf_cons, show (a == z) = false by simpa using e]; rfl
      rw [e0]
      obtain ⟨h1, h2⟩ := idx_at l z ((List.mem_cons.mp h).resolve_left (Ne.symm e))
      refine ⟨h1, fun m x hm hx => ?_⟩
      cases m with
      | zero => cases hx; exact e
      | succ m => exact h2 m x (Nat.lt_of_succ_lt_succ hm) hx
theorem d_lidx (ho : DH X W e mh) (ha : DE X W e1 m1)
    (hbase : attributeBase e "index" X.env (eval e X.env) = eval e X.env := by rfl)
    (hfew : ((backTo pos (starEach (e1 :: []) X.env)).all (fun x => !x.1) && (backToKw pos (keywordEach [] X.env)).all (fun x => x.1.isSome) && decide ((e1 :: []).length + ([] : List Keyword).length + (if ([] : List Keyword).isEmpty then 0 else 1) < 30)) = true := by rfl)
    (hline : (apos.endLine == pos.line) = true := by rfl) (hs : starEach (e1 :: []) X.env = (false, eval e1 X.env) :: starEach [] X.env := by rfl) (hplain : (backTo pos (starEach [] X.env)).any (·.1) = false := by rfl) :
    DE X W (.Call (.Attribute e "index" apos) [e1] [] pos) (mLIx mh m1) := by
  refine ⟨PE_imp (pe_bm F.plainAttrs_list PySem.F.slot_list_index PySem.F.type_list_index mt_index ho.pe (pa_cons ha.pe pa_nil hs) hbase hfew hline hs hplain) fun σ H Q ⟨G, en, so, s, p⟩ => ⟨G, en, so, s, (Post.bind (R1 := rlH X.K σ) p).imp fun v H1 ⟨G1, en1, so1, hd, l, r1, s1, p1⟩ => ?_⟩⟩
  obtain ⟨c, _, ca, p2⟩ := rdH_post s1 r1 p1
  obtain ⟨hl, p3⟩ := Post.gd p2
  refine ⟨ty_lst ca hl, G1, en1, so1, s1, (Post.bind (R1 := rlD X.K) p3).imp fun y H2 ⟨G2, en2, so2, d, l2, r2, s2, p4⟩ => ?_⟩
  obtain ⟨c2, _, ca2, p5⟩ := rdH_post s2 (r1.up l2) p4
  cases c2 with
  | dct _ => exact False.elim p5
  | lst xs =>
    cases r2 with
    | str z =>
      obtain ⟨ys, ey, p6⟩ := opM_at2 (oo := strsOf xs) p5
      obtain ⟨hz, p7⟩ := Post.gd p6
      obtain ⟨a, vs, rfl, sq, rr⟩ := ca2
      have ev := strs_of rr ey
      subst ev
      obtain ⟨i1, i2⟩ := idx_at ys z hz
      refine ⟨a, _, .str (sT z), ys.idxOf z, .str (sT z), rfl, rfl, sq, rfl, ?_, ?_, ?_, fun m z' hm hz' => ?_, Post.ok (v := V.int _) p7 s2 (.int _)⟩
      · rw [List.all_eq_true]
        intro x hx
        obtain ⟨w, _, rfl⟩ := List.mem_map.mp hx
        rfl
      · rw [List.getElem?_map, List.getElem?_map, i1]; rfl
      · show (sT z == sT z) = true
        exact beq_self_eq_true _
      · rw [List.getElem?_map, List.getElem?_map] at hz'
        cases hq : ys[m]? with
        | none => rw [hq] at hz'; cases hz'
        | some w =>
          rw [hq] at hz'
          cases hz'
          show (sT w == sT z) = false
          rw [beq_eq_false_iff_ne]
          intro e
          have e' := congrArg (fun x : Str => x.cps.toList) e
          simp [sT] at e'
          exact i2 m w hm hq e'
    | _ => exact False.elim p5
end
end
section
variable {en : En} {so : So}
@[simp] theorem max2D_ (i j : Int) : max2D [.int i, .int j] = pu (.int (if j > i then j else i)) := rfl
@[simp] theorem min2D_ (i j : Int) : min2D [.int i, .int j] = pu (.int (if j < i then j else i)) := rfl
@[simp] theorem maxLD_ (xs : List D) : maxLD [.lst xs] = opM (intsOf xs) (hdI (fun n r => pu (.int (mxI n r))) no) := rfl
@[simp] theorem minSD_ (xs : List D) : minSD [.lst xs] = opM (strsOf xs) (hdS (fun n r => pu (.str (mnS n r))) no) := rfl
@[simp] theorem maxDf_ (z : D) (xs : List D) : maxDf z [.lst xs] = opM (intsOf xs) (hdI (fun n r => pu (.int (mxI n r))) (pu z)) := rfl
@[simp] theorem minDf_ (z : D) (xs : List D) : minDf z [.lst xs] = opM (strsOf xs) (hdS (fun n r => pu (.str (mnS n r))) (pu z)) := rfl
@[simp] theorem hdI_nil (f : Int → List Int → M D) (z : M D) : hdI f z [] = z := rfl
@[simp] theorem hdI_cons (f : Int → List Int → M D) (z : M D) (n : Int) (r : List Int) : hdI f z (n :: r) = f n r := rfl
@[simp] theorem hdS_nil (f : List Nat → List (List Nat) → M D) (z : M D) : hdS f z [] = z := rfl
@[simp] theorem hdS_cons (f : List Nat → List (List Nat) → M D) (z : M D) (n : List Nat) (r : List (List Nat)) : hdS f z (n :: r) = f n r := rfl
@[simp] theorem intsOf_map : ∀ l : List Int, intsOf (l.map D.int) = some l
  | [] => rfl
  | a :: l => by rw [List.map_cons]; show (intsOf (l.map D.int)).map (a :: ·) = _; rw [intsOf_map l]; rfl
@[simp] theorem mLIx_ (mh : M Hd) (m : M D) : mLIx mh m en so = bdR (mh en so) fun h => bd (rdH h) fun c => gd (isLst c = true) (bd m fun d => bd (rdH h) fun c => idxC c d) := rfl
@[simp] theorem idxC_ (xs : List D) (z : List Nat) : idxC (.lst xs) (.str z) = opM (strsOf xs) fun l => gd (z ∈ l) (pu (.int (l.idxOf z))) := rfl
end
end
end Dl

set_option Elab.async false
set_option linter.all false
set_option maxRecDepth 100000
set_option maxHeartbeats 1000000
/-! The data level: code that is not reached (its program is no). -/
namespace Dl
open PySem PySem.Spec PyProof.Rows L2
noncomputable section
def sDead : M Fl := no
def eDead : M D := no
def bDead : M B := no
def tDead : M Bool := no
section
variable {X : Cx} {W : WX} {e : Expr} {st : Stmt} {sts : List Stmt}
theorem s_dead : DS X W st sDead := ⟨⟨fun _ _ _ _ _ _ ⟨_, _, _, _, p⟩ => False.elim p⟩⟩
theorem ss_dead : DSs X W sts sDead := ⟨⟨fun _ _ _ _ _ _ ⟨_, _, _, _, p⟩ => False.elim p⟩⟩
theorem e_dead : DE X W e eDead := ⟨⟨fun _ _ _ _ _ _ ⟨_, _, _, _, p⟩ => False.elim p⟩⟩
theorem b_dead : DB X W e bDead := ⟨⟨fun _ _ _ _ _ _ ⟨_, _, _, _, p⟩ => False.elim p⟩⟩
theorem t_dead : DT X W e tDead := ⟨⟨fun _ _ _ _ _ _ ⟨_, _, _, _, p⟩ => False.elim p⟩⟩
end
section
variable {en : En} {so : So}
@[simp] theorem sDead_ : sDead en so = .no := rfl
@[simp] theorem eDead_ : eDead en so = .no := rfl
@[simp] theorem bDead_ : bDead en so = .no := rfl
@[simp] theorem tDead_ : tDead en so = .no := rfl
end
/-! ### the turns of a while -/
section
variable {t : M Bool} {body : M Fl} {n : Nat} {en en1 en2 : En} {so so1 so2 : So}
theorem whGo_f (ht : t en so = .ok false en1 so1) : whGo t body (n + 1) en so = .ok .nx en1 so1 := by
  unfold whGo; rw [ht]
theorem whGo_nx (ht : t en so = .ok true en1 so1) (hb : body en1 so1 = .ok .nx en2 so2) : whGo t body (n + 1) en so = whGo t body n en2 so2 := by
  rw [whGo]; dsimp only; rw [ht]; dsimp only; rw [hb]
theorem whGo_ct (ht : t en so = .ok true en1 so1) (hb : body en1 so1 = .ok .ct en2 so2) : whGo t body (n + 1) en so = whGo t body n en2 so2 := by
  rw [whGo]; dsimp only; rw [ht]; dsimp only; rw [hb]
theorem whGo_bk (ht : t en so = .ok true en1 so1) (hb : body en1 so1 = .ok .bk en2 so2) : whGo t body (n + 1) en so = .ok .nx en2 so2 := by
  rw [whGo]; dsimp only; rw [ht]; dsimp only; rw [hb]
theorem whGo_rt {b : B} (ht : t en so = .ok true en1 so1) (hb : body en1 so1 = .ok (.rt b) en2 so2) : whGo t body (n + 1) en so = .ok (.rt b) en2 so2 := by
  rw [whGo]; dsimp only; rw [ht]; dsimp only; rw [hb]
theorem whGo_exc {x : Xc} (ht : t en so = .ok true en1 so1) (hb : body en1 so1 = .exc x en2 so2) : whGo t body (n + 1) en so = .exc x en2 so2 := by
  rw [whGo]; dsimp only; rw [ht]; dsimp only; rw [hb]
end
section
variable {tg : Tg} {body : M Fl} {d : D} {ds : List D} {en en1 en2 : En} {so so2 : So}
theorem forGo_nx (ht : tg d en = some en1) (hb : body en1 so = .ok .nx en2 so2) : forGo tg body (d :: ds) en so = forGo tg body ds en2 so2 := by
  rw [forGo_cons ht, hb]
theorem forGo_ct (ht : tg d en = some en1) (hb : body en1 so = .ok .ct en2 so2) : forGo tg body (d :: ds) en so = forGo tg body ds en2 so2 := by
  rw [forGo_cons ht, hb]
theorem forGo_bk (ht : tg d en = some en1) (hb : body en1 so = .ok .bk en2 so2) : forGo tg body (d :: ds) en so = .ok .nx en2 so2 := by
  rw [forGo_cons ht, hb]
theorem forGo_rt {b : B} (ht : tg d en = some en1) (hb : body en1 so = .ok (.rt b) en2 so2) : forGo tg body (d :: ds) en so = .ok (.rt b) en2 so2 := by
  rw [forGo_cons ht, hb]
theorem forGo_exc {x : Xc} (ht : tg d en = some en1) (hb : body en1 so = .exc x en2 so2) : forGo tg body (d :: ds) en so = .exc x en2 so2 := by
  rw [forGo_cons ht, hb]
end
/-- a comprehension within a comprehension -/
theorem look_relab (f : Str → NameKind → Bool) : ∀ (l : List (Str × NameKind)) (x : Str), (l.lookup x = some .cell ∨ l.lookup x = some .free) →
    (l.map fun (n, k) => if f n k then (n, NameKind.cell) else (n, k)).lookup x = some .cell ∨ (l.map fun (n, k) => if f n k then (n, NameKind.cell) else (n, k)).lookup x = some .free
  | [], x, h => by simp at h
  | (n, k) :: r, x, h => by
    rw [List.map_cons]
    dsimp only
    cases hx : x == n with
    | true =>
      rw [List.lookup_cons, hx] at h
      by_cases c : f n k = true
      · rw [if_pos c, List.lookup_cons, hx]
        exact .inl rfl
      · rw [if_neg c, List.lookup_cons, hx]
        exact h
    | false =>
      rw [List.lookup_cons, hx] at h
      by_cases c : f n k = true
      · rw [if_pos c, List.lookup_cons, hx]
        exact look_relab f r x h
      · rw [if_neg c, List.lookup_cons, hx]
        exact look_relab f r x h
theorem blk_in {X : Cx} {s : Shared} {H : Hp} {so : Scope} {cl : List (Str × Addr)} {C : Addr} {e : Env} {fp : List Addr} {N : List Str} {scope : Scope} {own : List (Str × Nat)} (hN : (X.blk s H so (compEnvC so cl C e) fp).N = N) (h : blkC N so scope own = true) :
    BlkOk (X.blk s H so (compEnvC so cl C e) fp).N (X.blk s H so (compEnvC so cl C e) fp).env.scope scope own := by
  rw [hN]
  obtain ⟨h1, h2, h3, h4, h5⟩ := blkOk_by h
  refine ⟨h1, h2, h3, fun y hy hf => ?_, h5⟩
  exact look_relab (fun n k => k == NameKind.free && e.scope.kind == .function && e.kindOf n == some .cell) so.names y.1 (h4 y hy hf)
/-! ### dicts as they stand, at any depth -/
section
variable {so : So} {A : Type} {f : A → D} {M : Tb A}
theorem vw_tabn {n k : Nat} (h : so[k]? = some (.cel (.dct (tab f M)))) (hf : ∀ a, vwD so n (f a) = f a) : vwD so (n + 1) (.obj k) = .dct (tab f M) := by
  have e : vwD so (n + 1) (.obj k) = (match so[k]? with
    | some (.cel (.lst xs)) => D.lst (xs.map (vwD so n))
    | some (.cel (.dct kv)) => D.dct (kv.map fun p : Ky × D => (p.1, vwD so n p.2))
    | some (.lck kv) => D.dct (kv.map fun p : Ky × D => (p.1, vwD so n p.2))
    | _ => D.obj k) := rfl
  rw [e, h]
  show D.dct _ = D.dct _
  congr 1
  unfold tab
  rw [List.map_map]
  apply List.map_congr_left
  intro p _
  show (Sum.inr p.1, vwD so n (f p.2)) = _
  rw [hf]
theorem eqE_tabn {n : Nat} (nd : (keys M).Nodup) (hf : ∀ a, eqE n (f a) (f a) = some true) : eqE (n + 1) (.dct (tab f M)) (.dct (tab f M)) = some true := by
  show (if (tab f M).length = (tab f M).length then hitE (eqE n) (tab f M) (tab f M) else some false) = _
  rw [if_pos rfl]
  refine hit_same fun p hp => ?_
  obtain ⟨y, hy, rfl⟩ := List.mem_map.mp hp
  refine ⟨?_, hf _⟩
  rw [valD_tab, look_of_mem nd hy]
  rfl
theorem eqE_strn (n : Nat) (k : List Nat) : eqE (n + 1) (.str k) (.str k) = some true := by
  show (if okq 20 (.str k) = true ∧ okq 20 (.str k) = true then some (eqD (.str k) (.str k)) else none) = _
  simp
theorem eqE_intn (n : Nat) (k : Int) : eqE (n + 1) (.int k) (.int k) = some true := by
  show (if okq 20 (.int k) = true ∧ okq 20 (.int k) = true then some (eqD (.int k) (.int k)) else none) = _
  simp
end
end
end Dl

set_option Elab.async false
set_option linter.all false
set_option maxRecDepth 100000
set_option maxHeartbeats 1000000
/-! The data level: d.pop(k). -/
namespace Dl
open PySem PySem.Spec PyProof.Rows L2
noncomputable section
def dpoF (k : Ky) : C → Option (D × C)
  | .dct kv => (valD kv k).map fun v => (v, .dct (dropT kv k))
  | _ => none
def mDPop (md mk : M D) : M D := bd md fun d => bd (dctO d) fun _ => bd mk fun y => opM (kyOf y) fun k => wrtD d (dpoF k)
section
variable {X : Cx} {W : WX} {o e : Expr} {md mk : M D} {apos cpos : Pos}
theorem d_dpop (ho : DE X W o md) (he : DE X W e mk) (m : M1 X o "pop" apos e cpos := by exact ⟨rfl, rfl, rfl, rfl⟩) : DE X W (.Call (.Attribute o "pop" apos) [e] [] cpos) (mDPop md mk) := by
  refine ⟨PE_imp (pe_dpop1 ho.pe he.pe m) fun σ H Q ⟨G, en, so, s, p⟩ => ?_⟩
  refine ⟨G, en, so, s, (Post.bind (R1 := rlD X.K) p).imp fun v H1 ⟨G1, en1, so1, d, l1, r1, s1, p1⟩ => ?_⟩
  obtain ⟨kds, ca, p2⟩ := dctO_at s1 r1 p1
  obtain ⟨a, rfl, isd⟩ := ca.isD
  refine ⟨a, rfl, isd, G1, en1, so1, s1, (Post.bind (R1 := rlD X.K) p2).imp fun y H2 ⟨G2, en2, so2, dy, l2, r2, s2, p3⟩ => ?_⟩
  obtain ⟨k, ek, p4⟩ := opM_at p3
  obtain ⟨a0, u, c0, z, c', e0, hu', ro, hf, w⟩ := wrtD_at s2 (Rep.up r1 l2) p4
  cases e0
  cases c0 with
  | lst _ => cases hf
  | dct kv =>
    have hf : (valD kv k).map (fun v => (v, C.dct (dropT kv k))) = some (z, c') := hf
    obtain ⟨dv, ev, e2⟩ := Option.map_eq_some_iff.mp hf
    cases e2
    obtain ⟨kvs, rfl, rk⟩ := ro
    have rv := repK_val k rk
    rw [ev] at rv
    generalize hw : valV kvs (kT k) = w0 at rv
    cases rv with
    | some rr =>
      refine ⟨kvs, kT k, _, hu', rep_ky r2 ek, hw, ?_⟩
      obtain ⟨en', so', s5, p5⟩ := w (.dK (dropK kvs (kT k))) ⟨_, rfl, repK_drop k rk⟩
      exact p5.ok s5 rr
end
section
variable {en : En} {so : So}
@[simp] theorem mDPop_ (md mk : M D) : mDPop md mk en so = bdR (md en so) fun d => bd (dctO d) fun _ => bd mk fun y => opM (kyOf y) fun k => wrtD d (dpoF k) := rfl
theorem dpoF_ {kv : List (Ky × D)} {k : Ky} {v : D} (h : valD kv k = some v) : dpoF k (.dct kv) = some (v, .dct (dropT kv k)) := by
  show (valD kv k).map _ = _
  rw [h]; rfl
end
end
end Dl

set_option Elab.async false
set_option linter.all false
set_option maxRecDepth 100000
set_option maxHeartbeats 1000000
/-! The data level: parameters with defaults that are constants (positional; a class's __init__), -e, sorted of a dict's int keys. -/
namespace Dl
open PySem PySem.Spec PyProof.Rows L2
noncomputable section
/-- f with the last arguments fixed -/
def dfl (dd : List D) (f : FunM) : FunM := fun ds so => f (ds ++ dd) so
/-- constants stand for themselves -/
def CstV (dvs : List V) (dd : List D) : Prop := ∀ (K : PySem.W.Frag) (F : Hp) (rho : List (Addr × Addr)), Reps K F rho dvs dd
theorem cst_nil : CstV [] [] := fun _ _ _ => .nil
theorem cst_non {dvs : List V} {dd : List D} (h : CstV dvs dd) : CstV (.non :: dvs) (.non :: dd) := fun K F rho => .cons .non (h K F rho)
theorem cst_bl {dvs : List V} {dd : List D} (b : Bool) (h : CstV dvs dd) : CstV (.bl b :: dvs) (.bl b :: dd) := fun K F rho => .cons (.bl b) (h K F rho)
theorem cst_int {dvs : List V} {dd : List D} (b : Int) (h : CstV dvs dd) : CstV (.int b :: dvs) (.int b :: dd) := fun K F rho => .cons (.int b) (h K F rho)
theorem cst_str {dvs : List V} {dd : List D} (b : List Nat) (h : CstV dvs dd) : CstV (.str (sT b) :: dvs) (.str b :: dd) := fun K F rho => .cons (.str b) (h K F rho)
section
variable {X : Cx} {CX : CXT} {k : Nat} {f C : Addr} {fd : FuncData} {ps : List Str} {sp : Sp} {E : L2.St → XK} {dvs : List V} {dws : List Value}
theorem go_makeD (M : Mk X.K C f) (F : FnOk X.prog X.w X.K X.mg X.base CX k f fd ps sp) (hr : Room (k + 1) X.A) (hd : Vals dvs dws) (hb : Binds X.K fd ps dws) (hx : ∀ σ, PassesAt CX X σ (E σ)) : GoOk X C (fun vs H σ Q => rMk C sp E (vs ++ dvs) H σ Q) := fun pins σ H s us vs Q I r h => by
  generalize hn : s.heap.objs.size = n at *
  have fr : ∀ i, n ≤ i → H i = none := fun i hi => I.hok.fresh (hn ▸ hi)
  have asked := h (n + 1) n (fr _ (Nat.le_succ _)) (fr _ (Nat.le_refl _)) (Nat.ne_of_lt (Nat.lt_succ_self _))
  have J := Inv.made (C := C) I
  subst hn
  have rv : Vals (V.ref (s.heap.objs.size + 1) :: (vs ++ dvs)) (Value.ref (s.heap.objs.size + 1) :: (us ++ dws)) := .cons rfl (r.append hd)
  have bound := hb _ (Value.ref (s.heap.objs.size + 1) :: us) J.kIn (by rw [← F.len _ _ _ _ asked]; exact rv.length.symm)
  have ran := F.run _ X.stack _ _ ⟨Value.ref (s.heap.objs.size + 1) :: us, []⟩ (Value.ref (s.heap.objs.size + 1) :: (us ++ dws)) _ _ (E σ) (hr.make C us []) (J.env0.make C us []) bound rv asked
  refine wpAny_call (make_map (f := f) I.kIn M.makes M.init (beq_iff_eq.mp M.fn) (codeAny_mono ran fun out s' post => ?_))
  match out, post with
  | .error e, post => exact hx σ pins _ _ e s' J post
  | .ok (.ret u), post =>
    obtain ⟨v, H', I3, ru, ev, q⟩ := J.after post
    cases ev
    exact ⟨ru, ⟨V.ref (s.heap.objs.size + 1), H', I3, rfl, q⟩⟩
  | .ok .next, post => exact post.elim
  | .ok .brk, post => exact post.elim
  | .ok .cont, post => exact post.elim
end
/-- the class x of the module, called without its last arguments dd -/
structure NewFD (P : Program) (w : World) (K : PySem.W.Frag) (mg : Str → Option Value) (base : Heap) (c n : Nat) (x : Str) (f : FunM) (dd : List D) (k : Nat) : Prop where
  ex : ∃ C fI fd ps dvs dws, mg x = some (.ref C) ∧ Mk K C fI ∧ FnOk P w K mg base (L2.CX P w) k fI fd ps (spD K mg f) ∧ CstV dvs dd ∧ Vals dvs dws ∧ Binds K fd ps dws
  nm : cnm c = x
  n : (clay c).length = n
section
variable {X : Cx} {W : WX} {e o : Expr} {es : List Expr} {ms : M (List D)} {x : Str} {f : FunM} {dd : List D} {c n k : Nat} {p pos apos : Pos}
theorem new_trD {σ : L2.St} {H1 : Hp} {Q : VK} {mg : Str → Option Value} {K : PySem.W.Frag} {G1 : Gh} {en1 : En} {so1 : So} {vs dvs : List V} {ds : List D} {C a dx : Addr} (hc : CstV dvs dd) (hm : mg (cnm c) = some (.ref C)) (hn : (clay c).length = n) (s1 : Sim K ⟨mg, none⟩ G1 en1 so1 σ H1) (r1 : Reps K G1.F G1.rho vs ds)
    (p1 : Post K ⟨mg, none⟩ G1 W (rlD K) σ (newR so1.length (dfl dd f (.obj so1.length :: ds) (so1 ++ [.ob c (List.replicate n none)])) en1 so1) Q) (hx : H1 a = none) (hdx : H1 dx = none) (ne : dx ≠ a) :
    spD K mg f (.ref a :: (vs ++ dvs)) (upd (upd H1 dx (.own a)) a (.ins C dx [])) (fun v H2 => v = .non ∧ Q (.ref a) H2) (WE W σ) :=
  new_tr (f := f) hm hn s1 (reps_app' r1 (hc K G1.F G1.rho)) p1 hx hdx ne
theorem d_newD (N : NewFD X.prog X.w X.K X.mg X.base c n x f dd k) (hr : Room (k + 1) X.A) (hg : Gl X x) (tk : Takes X W) (ha : DA X W (e :: es) ms)
    (hdb : (x == ("__debug__" : Str)) = false := by decide) (he : starEach (e :: es) X.env = (false, eval e X.env) :: starEach es X.env := by rfl) (hpl : (backTo pos (starEach es X.env)).any (·.1) = false := by rfl) :
    DE X W (.Call (.Name x p) (e :: es) [] pos) (mNew c n (dfl dd f) ms) := by
  obtain ⟨C, fI, fd, ps, dvs, dws, hm, M, F, hc, hd, hb⟩ := N.ex
  have hpa : PA X (e :: es) (tM X.K ⟨X.mg, none⟩ W (rlDs X.K) ms) := by
    have := ha.pa
    rw [ev_none hr.hd] at this
    exact this
  refine ⟨?_⟩
  rw [ev_none hr.hd]
  refine PE_imp (pe_go (go_makeD (E := WE W) M F hr hd hb fun σ => passAt tk σ) hg hm M.kp hpa hdb he hpl) fun σ H Q ⟨G, en, so, s, p⟩ => ?_
  refine ⟨G, en, so, s, (Post.bind (R1 := rlDs X.K) p).imp fun vs H1 ⟨G1, en1, so1, ds, l, r1, s1, p1⟩ a dx hx hdx ne => ?_⟩
  exact new_trD hc (by rw [N.nm]; exact hm) N.n s1 r1 p1 hx hdx ne
theorem d_newD0 (N : NewFD X.prog X.w X.K X.mg X.base c n x f dd k) (hr : Room (k + 1) X.A) (hg : Gl X x) (tk : Takes X W) (hdb : (x == ("__debug__" : Str)) = false := by decide) : DE X W (.Call (.Name x p) [] [] pos) (mNew c n (dfl dd f) aN) := by
  obtain ⟨C, fI, fd, ps, dvs, dws, hm, M, F, hc, hd, hb⟩ := N.ex
  refine ⟨?_⟩
  rw [ev_none hr.hd]
  refine PE_imp (pe_go0 (go_makeD (E := WE W) M F hr hd hb fun σ => passAt tk σ) hg hm M.kp hdb) fun σ H Q ⟨G, en, so, s, p⟩ => ?_
  exact fun a dx hx hdx ne => new_trD (vs := []) (ds := []) hc (by rw [N.nm]; exact hm) N.n s .nil p hx hdx ne
end
/-- THE RULE for a def with defaults: its body -/
theorem fn_dD {P : Program} {w : World} {K : PySem.W.Frag} {mg : Str → Option Value} {base : Heap} {x qual : Str} {params : Arguments} {body : List Stmt} {scope : Scope} {dvs : List V} {kws : List (Str × V)} {f : Addr} {fd : FuncData} {N ps : List Str} {k : Nat} {m : M Fl} (F : FunD K x qual params body scope dvs kws f fd) (S : FnScope N ps scope)
    (hb : ∀ (cdv : Value) (A : Around) (outer : List Env) (s : Shared) (H : Hp) (E : XK), Room k (A.deeper (envOfC qual scope s.heap.objs.size f cdv)) →
      DSs (cxOf (L2.CX P w) P w K mg base N qual scope f cdv A outer s H E) (fun Cl d _ H => E Cl d H) body m) : FnOk P w K mg base (L2.CX P w) (k + 1) f fd ps (spD K mg (mkF ps.length N.length m)) := by
  refine F.ok S (fun vs H Q E ⟨G, ds, so, r, s, p⟩ => ?_) fun cdv A outer s H vs Q E hr ⟨G, ds, so, r, sm, p⟩ => ⟨_, ev_ps hr.hd (hb cdv A outer s H E hr).ps, G, ds.map (fun d => some (.dat d)) ++ List.replicate (N.length - ds.length) none, so, ?_, ?_⟩
  · unfold mkF at p
    by_cases h : ds.length = ps.length
    · rw [r.len]; exact h
    · rw [if_neg h] at p; exact False.elim p
  · have e : L2.start N vs = vs.map some ++ List.replicate (N.length - ds.length) none := by rw [← r.len]; rfl
    rw [e]
    exact ⟨sm, by simp [r.len], fun i b e => args_sl _ i b r e⟩
  · unfold mkF at p
    by_cases h : ds.length = ps.length
    · rw [if_pos h] at p
      revert p
      generalize m (ds.map (fun d => some (.dat d)) ++ List.replicate (N.length - ds.length) none) so = r
      intro p
      cases r with
      | no => exact False.elim p
      | exc x en so => exact fun Cl d σ' H' G' l s' x' => p Cl d H' G' l s'.toSimO x'
      | ok fl en so =>
        cases fl with
        | nx => exact fun σ' H' G' l s' => p .non H' G' l s'.toSimO .non
        | rt b => exact fun v σ' H' G' l s' rb => p v H' G' l s'.toSimO rb
        | bk => exact False.elim p
        | ct => exact False.elim p
    · rw [if_neg h] at p; exact False.elim p
theorem bind_full {K : PySem.W.Frag} {fd : FuncData} {ps : List Str} (h : ∃ ds, Vals ([] : List V) ds ∧ Binds K fd ps ds) : Binds K fd ps [] := by
  obtain ⟨ds, hv, hb⟩ := h
  cases hv
  exact hb
/-! ### -e -/
def mNeg (m : M D) : M D := bd m fun d => match d with
  | .int i => pu (.int (-i))
  | _ => no
def kNeg : D → M D := fun d => match d with
  | .int i => pu (.int (-i))
  | _ => no
section
variable {X : Cx} {W : WX} {e : Expr} {m : M D} {pos : Pos}
theorem d_neg (ha : DE X W e m) : DE X W (.UnaryOp .USub e pos) (mNeg m) := by
  refine ⟨PE_imp (pe_un un_neg ha.pe) fun σ H Q ⟨G, en, so, s, p⟩ => ?_⟩
  refine ⟨G, en, so, s, (Post.bind (R1 := rlD X.K) p).imp fun v H1 ⟨G1, en1, so1, d, l, r1, s1, p1⟩ => ?_⟩
  cases r1 with
  | int i => exact ⟨i, rfl, Post.ok (v := V.int (-i)) p1 s1 (.int _)⟩
  | _ => exact False.elim p1
end
/-! ### sorted of int keys -/
def kints : List (Ky × D) → Option (List Int)
  | [] => some []
  | (.inl i, _) :: r => (kints r).map (i :: ·)
  | _ => none
def srtI (l : List Int) : List Int := l.mergeSort fun a b => decide (a ≤ b)
def sortedKI : List D → M B
  | [d] => bd (dctO d) fun kv => opM (kints kv) fun ys => gd (ys.length < 64) (pu (.cel (.lst ((srtI ys).map .int))))
  | _ => no
theorem srtI_perm (l : List Int) : (srtI l).Perm l := List.mergeSort_perm l _
theorem srtI_uniq {l m : List Int} (hp : m.Perm l) (hs : m.Pairwise (· ≤ ·)) : m = srtI l := by
  have h1 : (srtI l).Pairwise fun a b => decide (a ≤ b) = true := List.pairwise_mergeSort (fun a b c h1 h2 => by simp at *; omega) (fun a b => by simp; omega) l
  have h2 : (srtI l).Pairwise (· ≤ ·) := h1.imp fun h => by simpa using h
  exact List.Perm.eq_of_pairwise (le := fun a b : Int => a ≤ b) (fun a b _ _ => Int.le_antisymm) hs h2 (hp.trans (srtI_perm l).symm)
theorem kints_keys {K : PySem.W.Frag} {F : Hp} {rho : List (Addr × Addr)} : ∀ {kv : List (Ky × D)} {ys : List Int} {kvs : List (Key × V)}, RepK K F rho kvs kv → kints kv = some ys → kvs.map (·.1) = ys.map Sum.inl
  | [], ys, _, .nil, e => by cases e; rfl
  | (.inl i, _) :: r, ys, _, .cons h q, e => by
    have e' : (kints r).map (i :: ·) = some ys := e
    obtain ⟨zs, e2, rfl⟩ := Option.map_eq_some_iff.mp e'
    rw [List.map_cons, List.map_cons, kints_keys q e2]
    rfl
  | (.inr _, _) :: r, ys, _, .cons h q, e => by cases e
theorem opn_sortedKI {K : PySem.W.Frag} {mg : Ev} : OpNB K mg (fun xs H Q => ∃ (a : Addr) (kvs : List (Key × V)) (ks : List Int), xs = [.ref a] ∧ Rd H a (.dK kvs) ∧ kvs.map (·.1) = ks.map Sum.inl ∧ ks.length < 64 ∧ ∀ (ys : List Int) (p : Addr), ys.Perm ks → ys.Pairwise (· ≤ ·) → H p = none → Q (.ref p) (upd H p (.lst (ys.map V.int)))) sortedKI := by
  intro xs ds G en so σ H W Q r s p
  match ds, r, p with
  | [d], r, p =>
    obtain ⟨x, rfl, h⟩ := reps1 r
    obtain ⟨kds, ca, p2⟩ := dctO_at s h p
    obtain ⟨ys, ey, p4⟩ := opM_at p2
    obtain ⟨h64, p5⟩ := Post.gd p4
    obtain ⟨a0, kvs, rfl, hd, rk⟩ := ca
    refine ⟨a0, kvs, ys, rfl, hd, kints_keys rk ey, h64, fun zs q hp hs hq => ?_⟩
    rw [srtI_uniq hp hs]
    exact p5.ok' (tag_le q .tmp) (s.newT (t := .tmp) hq) ⟨q, rfl, tag_own, _, upd_same, reps_ints _⟩
  | [], _, p => exact False.elim p
  | d :: _ :: _, _, p => exact False.elim p
section
variable {en : En} {so : So}
@[simp] theorem dfl_ (dd : List D) (f : FunM) (ds : List D) : dfl dd f ds so = f (ds ++ dd) so := rfl
@[simp] theorem mNeg_ (m : M D) : mNeg m en so = bdR (m en so) kNeg := rfl
@[simp] theorem kNeg_ (i : Int) : kNeg (.int i) = pu (.int (-i)) := rfl
@[simp] theorem sortedKI_ (d : D) : sortedKI [d] en so = bdR (dctO d en so) fun kv => opM (kints kv) fun ys => gd (ys.length < 64) (pu (.cel (.lst ((srtI ys).map .int)))) := rfl
end
end
end Dl

set_option Elab.async false
set_option linter.all false
set_option maxRecDepth 100000
set_option maxHeartbeats 1000000
/-! The data level: h[a:b], isinstance(h, list), list(h) of lists at handles. -/
namespace Dl
open PySem PySem.Spec PyProof.Rows L2
noncomputable section
def slC (c : C) (lo hi : Option Int) : M B := match c with
  | .lst xs => pu (.cel (.lst (cutL xs lo hi)))
  | _ => no
def mSlH (mh : M Hd) (ml mi : M (Option Int)) : M B := bd mh fun h => bd ml fun l => bd mi fun i => bd (rdH h) fun c => slC c l i
def lisC : C → M D
  | .lst _ => pu (.bl true)
  | _ => no
/-- isinstance(h, list) -/
def mIsH (mh : M Hd) : M D := bd mh fun h => bd (rdH h) lisC
def lstC : C → M B
  | .lst xs => pu (.cel (.lst xs))
  | _ => no
/-- list(h) -/
def mLstH (mh : M Hd) : M B := bd mh fun h => bd (rdH h) lstC
section
variable {X : Cx} {W : WX} {a e : Expr} {lo hi : Option Expr} {mh : M Hd} {ml mi : M (Option Int)} {pos p p2 px : Pos} {x : Str}
theorem b_slH (ho : DH X W a mh) (hl : DO X W lo ml) (hh : DO X W hi mi) : DB X W (.Subscript a (.Slice lo hi none p2) pos) (mSlH mh ml mi) := by
  refine ⟨PE_imp (pe_slice sl_list ho.pe hl.po hh.po) fun σ H Q ⟨G, en, so, s, p⟩ => ?_⟩
  refine ⟨G, en, so, s, (Post.bind (R1 := rlH X.K σ) p).imp fun v H1 ⟨G1, en1, so1, hd, _, r1, s1, p1⟩ => ⟨G1, en1, so1, s1, (Post.bind (R1 := fun _ _ a b => a = b) p1).imp fun y H2 ⟨G2, en2, so2, l, l2, r2, s2, p2⟩ => ⟨G2, en2, so2, s2, (Post.bind (R1 := fun _ _ a b => a = b) p2).imp fun z H3 ⟨G3, en3, so3, h, l3, r3, s3, p3⟩ => ?_⟩⟩⟩
  subst r2
  subst r3
  obtain ⟨c, _, ca, p4⟩ := rdH_post s3 (r1.up (l2.trans l3)) p3
  cases c with
  | dct _ => exact False.elim p4
  | lst ds =>
    obtain ⟨a0, vs, rfl, sq, r⟩ := ca
    refine ⟨_, _, rfl, sq, fun p hp => ?_⟩
    exact p4.ok' (tag_le p .tmp) (s3.newT (t := .tmp) hp) ⟨p, rfl, tag_own, _, upd_same, reps_cut r _ _⟩
theorem tyx_lst {K : PySem.W.Frag} {H : Hp} {a : Addr} {vs : List V} (q : SqL K H a vs) : TyX K H (.ref a) (.type "list") := by
  rcases q with (q | ⟨o, q⟩) | ⟨o, its, n, q, c, _⟩
  · exact .base (.lst q)
  · exact .base (.frz q)
  · exact .kList q c
theorem d_isH (ho : DH X W e mh) (hg : Gl X "isinstance") (hm : X.mg "isinstance" = none) (hgT : Gl X x) (hmT : X.mg x = none) (hvT : bootBuiltins x = some (.type "list"))
    (he : starEach [e, .Name x px] X.env = (false, eval e X.env) :: starEach [.Name x px] X.env := by rfl) (hpl : (backTo pos (starEach [.Name x px] X.env)).any (·.1) = false := by rfl) (hn : x ≠ "__name__" := by decide) (hd : (x == ("__debug__" : Str)) = false := by decide) : DE X W (.Call (.Name "isinstance" p) [e, .Name x px] [] pos) (mIsH mh) := by
  refine ⟨PE_imp (pe_callB call_isi hg hm boot_isinstance (pa_cons ho.pe (pa_cons (pe_bltn hgT hmT hvT (v := .ty "list") rfl hn hd) pa_nil) he) (he := he) (hpl := hpl)) fun σ H Q q => ?_⟩
  obtain ⟨G, en, so, s, p⟩ := q
  refine ⟨G, en, so, s, (Post.bind (R1 := rlH X.K σ) p).imp fun v H1 ⟨G1, en1, so1, d, l, r1, s1, p1⟩ => ?_⟩
  obtain ⟨c, _, ca, p2⟩ := rdH_post s1 r1 p1
  cases c with
  | dct _ => exact False.elim p2
  | lst ds =>
    obtain ⟨a0, vs, rfl, sq, r⟩ := ca
    refine ⟨.ref a0, .ty "list", .type "list", .type "list", true, rfl, .ty _, tyx_lst sq, ?_, Post.ok (v := V.bl true) p2 s1 (.bl _)⟩
    exact kit_ty (kit_all .list "list" (.inr (.inr (.inr (.inr (.inl rfl))))))
theorem b_listH (hg : Gl X "list") (hm : X.mg "list" = none) (ho : DH X W e mh)
    (he : starEach (e :: []) X.env = (false, eval e X.env) :: starEach [] X.env := by rfl) (hpl : (backTo pos (starEach [] X.env)).any (·.1) = false := by rfl) : DB X W (.Call (.Name "list" p) [e] [] pos) (mLstH mh) := by
  refine ⟨PE_imp (pe_callTy call_list_of hg hm (by decide +kernel) (pa_cons ho.pe pa_nil he) (by decide) (by decide) he hpl) fun σ H Q ⟨G, en, so, s, p⟩ => ?_⟩
  refine ⟨G, en, so, s, (Post.bind (R1 := rlH X.K σ) p).imp fun v H1 ⟨G1, en1, so1, hd, l, r1, s1, p1⟩ => ?_⟩
  obtain ⟨c, _, ca, p2⟩ := rdH_post s1 r1 p1
  cases c with
  | dct _ => exact False.elim p2
  | lst ds =>
    obtain ⟨a0, vs, rfl, sq, r⟩ := ca
    refine ⟨a0, vs, rfl, .inl sq, fun q hq => ?_⟩
    exact p2.ok' (tag_le q .tmp) (s1.newT (t := .tmp) hq) ⟨q, rfl, tag_own, _, upd_same, r⟩
end
section
variable {en : En} {so : So}
@[simp] theorem mSlH_ (mh : M Hd) (ml mi : M (Option Int)) : mSlH mh ml mi en so = bdR (mh en so) fun h => bd ml fun l => bd mi fun i => bd (rdH h) fun c => slC c l i := rfl
@[simp] theorem slC_ (xs : List D) (lo hi : Option Int) : slC (.lst xs) lo hi = pu (.cel (.lst (cutL xs lo hi))) := rfl
@[simp] theorem mIsH_ (mh : M Hd) : mIsH mh en so = bdR (mh en so) fun h => bd (rdH h) lisC := rfl
@[simp] theorem lisC_ (xs : List D) : lisC (.lst xs) = pu (.bl true) := rfl
@[simp] theorem mLstH_ (mh : M Hd) : mLstH mh en so = bdR (mh en so) fun h => bd (rdH h) lstC := rfl
@[simp] theorem lstC_ (xs : List D) : lstC (.lst xs) = pu (.cel (.lst xs)) := rfl
end
end
end Dl

set_option Elab.async false
set_option linter.all false
set_option maxRecDepth 100000
set_option maxHeartbeats 1000000
/-! The data level: x.replace(y, z) of written texts; the module's dicts with text keys. -/
namespace Dl
open PySem PySem.Spec PyProof.Rows PyProof.V L2
noncomputable section
/-! ### replace -/
def replD (y z : List Nat) : D → M D
  | .str x => gd (x.length + (x.length + 1) * z.length ≤ 16777216) (pu (.str (StrLaws.replL y z x)))
  | _ => no
def mRepl (y z : List Nat) (m : M D) : M D := bd m (replD y z)
/-- one token is out -/
structure DET (X : Cx) (W : WX) (e : Expr) (m : M D) : Prop where
  pe : PET X e (tM X.K X.ev W (rlD X.K) m)
structure DST (X : Cx) (W : WX) (st : Stmt) (m : M Fl) : Prop where
  ps : PST X st (tS X.K X.ev W m)
structure DSsT (X : Cx) (W : WX) (st : List Stmt) (m : M Fl) : Prop where
  ps : PSsT X st (tS X.K X.ev W m)
section
variable {X : Cx} {W : WX} {o e f : Expr} {m mo ma mb : M D} {y z : Str} {ly lz : List Nat} {j k : Nat} {c0 c1 apos pos p p' : Pos} {st : Stmt} {rest : List Stmt} {u w : M Fl}
theorem PET_imp {t t' : TE} (h : PET X e t) (g : ∀ σ H Q, t' σ H Q → t σ H Q) : PET X e t' := fun pins s σ H Q h0 I q => h pins s σ H Q h0 I (g σ H Q q)
theorem PST_imp {t t' : TS} (h : PST X st t) (g : ∀ E σ H, t' E σ H → t E σ H) : PST X st t' := fun pins s σ H D h0 I q => h pins s σ H D h0 I (g D σ H q)
theorem PSsT_imp {t t' : TS} (h : PSsT X rest t) (g : ∀ E σ H, t' E σ H → t E σ H) : PSsT X rest t' := fun pins s σ H D h0 I q => h pins s σ H D h0 I (g D σ H q)
theorem DET.of (h : DE X W e m) : DET X W e m := ⟨CwR.PET.of h.pe⟩
theorem DST.of (h : DS X W st u) : DST X W st u := ⟨PST.of h.ps⟩
theorem DSsT.of (h : DSs X W rest u) : DSsT X W rest u := ⟨PSsT.of h.ps⟩
theorem DSsT.eq {v : M Fl} (h : DSsT X W rest u) (e : u = v) : DSsT X W rest v := e ▸ h
theorem repl_tr (ey : y.cps.toList = ly) (ez : z.cps.toList = lz) (hy : 1 ≤ y.length) {σ : L2.St} {H : Hp} {Q : VK} (q : tM X.K X.ev W (rlD X.K) (mRepl ly lz mo) σ H Q) : CwR.tReplC (tM X.K X.ev W (rlD X.K) mo) y z σ H Q := by
  obtain ⟨G, en, so, s, p⟩ := q
  refine ⟨G, en, so, s, (Post.bind (R1 := rlD X.K) p).imp fun v H1 ⟨G1, en1, so1, d, l, r1, s1, p1⟩ => ?_⟩
  cases r1 with
  | str x =>
    obtain ⟨h1, p2⟩ := Post.gd (c := x.length + (x.length + 1) * lz.length ≤ 16777216) p1
    have hz : z.length = lz.length := by rw [← ez]; simp [Str.length]
    refine ⟨sT x, rfl, by rw [sT_len, hz]; exact h1, ?_⟩
    refine p2.ok s1 (.of_str _ ?_)
    rw [StrLaws.replace_list hy, ey, ez, tl_sT]
  | _ => exact False.elim p1
theorem d_replC (ho : DE X W o mo) (ey : y.cps.toList = ly := by rfl) (ez : z.cps.toList = lz := by rfl) (hy : 1 ≤ y.length := by decide) (hyz : (y == z) = false := by decide)
    (hst : starEach [.Constant (.str y) j c0, .Constant (.str z) k c1] X.env = [(false, eval (.Constant (.str y) j c0) X.env), (false, eval (.Constant (.str z) k c1) X.env)] := by rfl)
    (hbase : attributeBase o "replace" X.env (eval o X.env) = eval o X.env := by rfl) (hline : (apos.endLine == pos.line) = true := by rfl) :
    DET X W (.Call (.Attribute o "replace" apos) [.Constant (.str y) j c0, .Constant (.str z) k c1] [] pos) (mRepl ly lz mo) :=
  ⟨PET_imp (CwR.pet_replC ho.pe hyz hst hbase hline) fun _ _ _ q => repl_tr ey ez hy q⟩
theorem d_replT (ho : DET X W o mo) (ey : y.cps.toList = ly := by rfl) (ez : z.cps.toList = lz := by rfl) (hy : 1 ≤ y.length := by decide) (hyz : (y == z) = false := by decide)
    (hst : starEach [.Constant (.str y) j c0, .Constant (.str z) k c1] X.env = [(false, eval (.Constant (.str y) j c0) X.env), (false, eval (.Constant (.str z) k c1) X.env)] := by rfl)
    (hbase : attributeBase o "replace" X.env (eval o X.env) = eval o X.env := by rfl) (hline : (apos.endLine == pos.line) = true := by rfl) :
    DET X W (.Call (.Attribute o "replace" apos) [.Constant (.str y) j c0, .Constant (.str z) k c1] [] pos) (mRepl ly lz mo) :=
  ⟨PET_imp (CwR.pet_replT ho.pe hyz hst hbase hline) fun _ _ _ q => repl_tr ey ez hy q⟩
theorem d_opT {op : Operator} {r : R2} {g : D → D → M D} (ho : OpR X (binaryOp op) r) (h : Op2 X.K X.ev r g) (ha : DET X W e ma) (hb : DET X W f mb) : DET X W (.BinOp e op f pos) (m2 g ma mb) :=
  ⟨PET_imp (CwR.pet_op ho ha.pe hb.pe) fun _ _ _ q => two h q⟩
theorem st_retD (h : DET X W e m) : DST X W (.Return (some e) pos) (sRetD m) := by
  refine ⟨PST_imp (CwR.pst_ret h.pe) fun E σ H ⟨G, en, so, s, p⟩ => ?_⟩
  exact ⟨G, en, so, s, (SPost.bind (R1 := rlD X.K) p).imp fun v H1 ⟨G1, en1, so1, b, l, r1, s1, p1⟩ => p1 v σ H1 G1 (.refl _) s1 r1⟩
theorem st_set {i : Nat} {x : Str} {pos' : Pos} (hN : X.N.Nodup) (h : DET X W e m) (hi : X.N[i]? = some x := by rfl) (hx : L2.Loc X.env.scope x := by first | exact Or.inl rfl | exact Or.inr rfl) (hs : swapsWith e (some (.Name x pos')) pos.line X.env = pure false := by rfl)
    (hf : X.fn x = true ∨ X.env.scope.names.lookup x = some .local := by first | exact .inl rfl | exact .inr rfl | assumption) : DST X W (.Assign [.Name x pos'] e pos) (sSet i m) := by
  refine ⟨fun pins s σ H D h0 I ⟨G, en, so, sm, p⟩ => ?_⟩
  refine wpAny_Assign_Name (thn (h.pe pins s σ H _ h0 I ⟨G, en, so, sm, SPost.bind (R1 := rlD X.K) p⟩) fun v s1 ⟨y, H1, I1, r1, G1, en1, so1, d, l, r2, sm1, q1⟩ => ?_) hs
  exact store_ok I1 hN hi hx r1 (fun s2 I2 => ⟨_, H1, I2, q1 _ H1 G1 (.refl _) (sm1.setD r2 i)⟩) hf
theorem sst_cons (h : DST X W st u) (k : DSsT X W rest w) : DSsT X W (st :: rest) (sSeq u w) := ⟨PSsT_imp (psst_cons h.ps k.ps) fun _ _ _ q => sseq_tr q⟩
theorem sst_one (h : DST X W st u) : DSsT X W [st] u := ⟨CwR.psst_one h.ps⟩
/-- a written text is made first -/
theorem d_strL {op : Operator} {r : R2} {g : D → D → M D} (ho : OpR X (binaryOp op) r) (h : Op2 X.K X.ev r g) (ey : y.cps.toList = ly := by rfl) (hb : DET X W f mb) : DE X W (.BinOp (.Constant (.str y) j p) op f pos) (m2 g (pu (.str ly)) mb) := by
  refine ⟨PE_imp (t := tOp r (tC (.str y)) (tM X.K X.ev W (rlD X.K) mb)) ⟨fun pins s σ H Q I q => ?_⟩ fun σ H Q q => ?_⟩
  · refine wpAny_BinOp (Calls.Constant_str ?_)
    exact thn (hb.pe pins { s with toks := s.toks + 1 } σ H _ (by show 1 ≤ s.toks + 1; omega) (I.tok _) q) fun u s2 ⟨x, H2, I2, r2, q2⟩ => ho pins s2 σ H2 (.str y) x _ u Q I2 ⟨_, rfl⟩ r2 q2
  · obtain ⟨G, en, so, s, p⟩ := two (ma := pu (.str ly)) h q
    exact p.ok s (.of_str y ey)
end
/-- THE RULE for a def whose body begins with a token out -/
theorem fn_dT {P : Program} {w : World} {K : PySem.W.Frag} {mg : Str → Option Value} {base : Heap} {x qual : Str} {st : Stmt} {f : Addr} {fd : FuncData} {N ps : List Str} {k : Nat} {m : M Fl} (F : Fun K x qual st f fd) (S : FnScope N ps (defScope st))
    (hnc : ∀ y ∈ (defScope st).names, y.2 ≠ .cell) (hps : 1 ≤ ps.length)
    (hb : ∀ (cdv : Value) (A : Around) (outer : List Env) (s : Shared) (H : Hp) (E : XK), Room k (A.deeper (envOfC qual (defScope st) s.heap.objs.size f cdv)) →
      DSsT (cxOf (L2.CX P w) P w K mg base N qual (defScope st) f cdv A outer s H E) (fun Cl d _ H => E Cl d H) (defBody st) m) : FnOk P w K mg base (L2.CX P w) (k + 1) f fd ps (spD K mg (mkF ps.length N.length m)) := by
  obtain ⟨oc, od, kV, doc, pm, an, cdv, ct, osl, rfl, lk, hcd⟩ := id F.ex
  refine fn_ofT lk hcd S hnc hps (fun vs H Q E ⟨G, ds, so, r, s, p⟩ => ?_) fun A outer s H vs Q E hr ⟨G, ds, so, r, sm, p⟩ => ⟨_, (ev_none (X := cxOf (L2.CX P w) P w K mg base N qual (defScope st) f cdv A outer s H E) hr.hd) ▸ (hb cdv A outer s H E hr).ps, G, ds.map (fun d => some (.dat d)) ++ List.replicate (N.length - ds.length) none, so, ?_, ?_⟩
  · unfold mkF at p
    by_cases h : ds.length = ps.length
    · rw [r.len]; exact h
    · rw [if_neg h] at p; exact False.elim p
  · have e : L2.start N vs = vs.map some ++ List.replicate (N.length - ds.length) none := by rw [← r.len]; rfl
    rw [e]
    exact ⟨sm, by simp [r.len], fun i b e => args_sl _ i b r e⟩
  · unfold mkF at p
    by_cases h : ds.length = ps.length
    · rw [if_pos h] at p
      revert p
      generalize m (ds.map (fun d => some (.dat d)) ++ List.replicate (N.length - ds.length) none) so = r
      intro p
      cases r with
      | no => exact False.elim p
      | exc x en so => exact fun Cl d σ' H' G' l s' x' => p Cl d H' G' l s'.toSimO x'
      | ok fl en so =>
        cases fl with
        | nx => exact fun σ' H' G' l s' => p .non H' G' l s'.toSimO .non
        | rt b => exact fun v σ' H' G' l s' rb => p v H' G' l s'.toSimO rb
        | bk => exact False.elim p
        | ct => exact False.elim p
    · rw [if_neg h] at p; exact False.elim p

/-! ### the module's dicts with text keys -/
def kD : PyData → D
  | .int i => .int i
  | .str x => .str x.cps.toList
  | .bool b => .bl b
  | _ => .non
def kOk : PyData → Bool
  | .int _ => true
  | .str _ => true
  | .bool _ => true
  | .none => true
  | _ => false
def kLook (kds : List (List Nat × D)) (z : List Nat) : Option D := (kds.find? fun p => decide (p.1 = z)).map (·.2)
/-- the dict x of the module -/
structure TabK (P : Program) (w : World) (K : PySem.W.Frag) (mg : Str → Option Value) (x : Str) (kds : List (List Nat × D)) : Prop where
  ex : ∃ (a : Addr) (D : List (Str × PyData)), mg x = some (.ref a) ∧ (∀ h : Heap, K.In h → StrTab P w h a (D.map fun p => (PyData.str p.1, p.2))) ∧ kds = D.map (fun p => (p.1.cps.toList, kD p.2)) ∧ (D.all fun p => kOk p.2) = true
theorem kLook_eq (z : List Nat) : ∀ D : List (Str × PyData), (lookup (.str (sT z)) (D.map fun p => (PyData.str p.1, p.2))).map kD = kLook (D.map fun p => (p.1.cps.toList, kD p.2)) z
  | [] => rfl
  | (x, d) :: r => by
    have ih := kLook_eq z r
    have h2 : (x = sT z) ↔ (x.cps.toList = z) := ⟨fun e => by rw [e, tl_sT], fun e => by rw [← e, sT_tl]⟩
    unfold kLook at *
    by_cases h : x = sT z
    · subst h
      simp [lookup, same_str, tl_sT]
    · have h3 : ¬ x.cps.toList = z := fun e => h (h2.mpr e)
      simp only [List.map_cons, List.find?_cons, h3, decide_false]
      rw [← ih]
      have h4 : ¬ (sT z = x) := fun e => h e.symm
      simp [lookup, same_str, h, h4]
theorem kLook_mem (z : List Nat) {dv : PyData} : ∀ D : List (Str × PyData), (D.all fun p => kOk p.2) = true → lookup (.str (sT z)) (D.map fun p => (PyData.str p.1, p.2)) = some dv → kOk dv = true
  | [], _, h => by cases h
  | (x, d) :: r, ha, h => by
    rw [List.all_cons, Bool.and_eq_true] at ha
    by_cases hx : x = sT z
    · subst hx
      simp [lookup, same_str] at h
      rw [← h]
      exact ha.1
    · have h4 : ¬ (sT z = x) := fun e => hx e.symm
      refine kLook_mem z r ha.2 ?_
      simpa [lookup, same_str, hx, h4] using h
def kW : PyData → V
  | .int i => .int i
  | .str x => .str x
  | .bool b => .bl b
  | _ => .non
theorem flat_rel {v : Value} {dv : PyData} (hk : kOk dv = true) (f : Flat v dv) : RelV (kW dv) v := by
  cases dv with
  | int i => exact f.int_inv
  | str x => exact f.str_inv
  | bool b => exact f.bool_inv
  | none => exact f.none_inv
  | _ => cases hk
theorem kW_rep {K : PySem.W.Frag} {F : Hp} {rho : List (Addr × Addr)} {dv : PyData} (hk : kOk dv = true) : Rep K F rho (kW dv) (kD dv) := by
  cases dv with
  | int i => exact .int i
  | str x => exact .of_str x rfl
  | bool b => exact .bl b
  | none => exact .non
  | _ => cases hk
def kinD (neg : Bool) (kds : List (List Nat × D)) : D → M D
  | .str z => pu (.bl (if neg then !(kLook kds z).isSome else (kLook kds z).isSome))
  | _ => no
def mKIn (neg : Bool) (kds : List (List Nat × D)) (m : M D) : M D := bd m (kinD neg kds)
def kgetD (kds : List (List Nat × D)) : D → M D
  | .str z => opM (kLook kds z) pu
  | _ => no
def mKGet (kds : List (List Nat × D)) (m : M D) : M D := bd m (kgetD kds)
section
variable {X : Cx} {W : WX} {i : Expr} {m : M D} {x : Str} {kds : List (List Nat × D)} {pos p : Pos}
def tKIn (ty : TE) (f : Str → Bool) : TE := fun σ H Q => ty σ H fun y H1 => ∃ z, y = .str z ∧ Q (.bl (f z)) H1
theorem pc_kin {ty : TE} {a : Addr} {D : List (PyData × PyData)} (hma : X.mg x = some (.ref a)) (hT : ∀ h : Heap, X.K.In h → StrTab X.prog X.w h a D) (hg : Gl X x) (hi : PE X i ty) (hd : (x == ("__debug__" : Str)) = false) : PC X .In i (.Name x p) (tKIn ty fun z => (lookup (.str z) D).isSome) := by
  refine ⟨fun pins s σ H Q I h => thn (hi.run pins s σ H _ I h) fun iv s1 ⟨y, H1, I1, ry, z, ey, q⟩ => ld_glob I1 hg hma ?_ hd⟩
  subst ey
  obtain ⟨t, rfl⟩ := ry
  exact in_strTab (hT _ I1.kIn) ⟨.bl _, H1, I1.tok _, rfl, q⟩
theorem pc_kni {ty : TE} {a : Addr} {D : List (PyData × PyData)} (hma : X.mg x = some (.ref a)) (hT : ∀ h : Heap, X.K.In h → StrTab X.prog X.w h a D) (hg : Gl X x) (hi : PE X i ty) (hd : (x == ("__debug__" : Str)) = false) : PC X .NotIn i (.Name x p) (tKIn ty fun z => !(lookup (.str z) D).isSome) := by
  refine ⟨fun pins s σ H Q I h => thn (hi.run pins s σ H _ I h) fun iv s1 ⟨y, H1, I1, ry, z, ey, q⟩ => ld_glob I1 hg hma ?_ hd⟩
  subst ey
  obtain ⟨t, rfl⟩ := ry
  exact notin_strTab (hT _ I1.kIn) ⟨.bl _, H1, I1.tok _, rfl, q⟩
theorem kin_tr {D : List (Str × PyData)} {f : Str → Bool} {neg : Bool} (hf : ∀ z : List Nat, f (sT z) = if neg then !(kLook (D.map fun p => (p.1.cps.toList, kD p.2)) z).isSome else (kLook (D.map fun p => (p.1.cps.toList, kD p.2)) z).isSome) {σ : L2.St} {H : Hp} {Q : VK}
    (q : tM X.K X.ev W (rlD X.K) (mKIn neg (D.map fun p => (p.1.cps.toList, kD p.2)) m) σ H Q) : tKIn (tM X.K X.ev W (rlD X.K) m) f σ H Q := by
  obtain ⟨G, en, so, s, p⟩ := q
  refine ⟨G, en, so, s, (Post.bind (R1 := rlD X.K) p).imp fun v H1 ⟨G1, en1, so1, d, l, r1, s1, p1⟩ => ?_⟩
  cases r1 with
  | str z =>
    refine ⟨sT z, rfl, ?_⟩
    rw [hf z]
    exact Post.ok (v := V.bl _) p1 s1 (.bl _)
  | _ => exact False.elim p1
theorem kl_t (D : List (Str × PyData)) (z : List Nat) : (lookup (.str (sT z)) (D.map fun p => (PyData.str p.1, p.2))).isSome = (kLook (D.map fun p => (p.1.cps.toList, kD p.2)) z).isSome := by rw [← kLook_eq, Option.isSome_map]
theorem d_kin (T : TabK X.prog X.w X.K X.mg x kds) (hg : Gl X x) (hi : DE X W i m) (hd : (x == ("__debug__" : Str)) = false := by decide) (hm : behindInMarks .In (.Name x p) = false := by with_unfolding_all rfl) : DE X W (.Compare i [.In] [.Name x p] pos) (mKIn false kds m) := by
  obtain ⟨a, D, hma, hT, rfl, hk⟩ := T.ex
  exact ⟨PE_imp (pe_cmp (pc_kin hma hT hg hi.pe hd) hm) fun _ _ _ q => kin_tr (fun z => kl_t D z) q⟩
theorem d_kni (T : TabK X.prog X.w X.K X.mg x kds) (hg : Gl X x) (hi : DE X W i m) (hd : (x == ("__debug__" : Str)) = false := by decide) (hm : behindInMarks .NotIn (.Name x p) = false := by with_unfolding_all rfl) : DE X W (.Compare i [.NotIn] [.Name x p] pos) (mKIn true kds m) := by
  obtain ⟨a, D, hma, hT, rfl, hk⟩ := T.ex
  exact ⟨PE_imp (pe_cmp (pc_kni hma hT hg hi.pe hd) hm) fun _ _ _ q => kin_tr (fun z => congrArg (!·) (kl_t D z)) q⟩
theorem d_kinT (T : TabK X.prog X.w X.K X.mg x kds) (hg : Gl X x) (hi : DE X W i m) (hd : (x == ("__debug__" : Str)) = false := by decide) (hm : behindInMarks .In (.Name x p) = false := by with_unfolding_all rfl) : DT X W (.Compare i [.In] [.Name x p] pos) (mT (mKIn false kds m)) := by
  obtain ⟨a, D, hma, hT, rfl, hk⟩ := T.ex
  exact ⟨PT_imp (pt_cmp (pc_kin hma hT hg hi.pe hd) hm) fun _ _ _ q => kin_tr (fun z => kl_t D z) (mT_tr q)⟩
theorem d_kniT (T : TabK X.prog X.w X.K X.mg x kds) (hg : Gl X x) (hi : DE X W i m) (hd : (x == ("__debug__" : Str)) = false := by decide) (hm : behindInMarks .NotIn (.Name x p) = false := by with_unfolding_all rfl) : DT X W (.Compare i [.NotIn] [.Name x p] pos) (mT (mKIn true kds m)) := by
  obtain ⟨a, D, hma, hT, rfl, hk⟩ := T.ex
  exact ⟨PT_imp (pt_cmp (pc_kni hma hT hg hi.pe hd) hm) fun _ _ _ q => kin_tr (fun z => congrArg (!·) (kl_t D z)) (mT_tr q)⟩
theorem d_kget (T : TabK X.prog X.w X.K X.mg x kds) (hg : Gl X x) (hi : DE X W i m) (hd : (x == ("__debug__" : Str)) = false := by decide) (hs : NoSl i := by intro _ _; rfl) : DE X W (.Subscript (.Name x p) i pos) (mKGet kds m) := by
  obtain ⟨a, D, hma, hT, rfl, hk⟩ := T.ex
  refine ⟨PE_imp (t := fun σ H Q => tM X.K X.ev W (rlD X.K) m σ H fun y H1 => ∃ z dv, y = .str z ∧ lookup (.str z) (D.map fun p => (PyData.str p.1, p.2)) = some dv ∧ Q (kW dv) H1) ⟨fun pins s σ H Q I h => ?_⟩ fun σ H Q ⟨G, en, so, s, p⟩ => ?_⟩
  · refine subD_of PySem.F.slot_dict_getitem.lookup hs (ld_glob I hg hma (thn (hi.pe.run pins s σ H _ I h) fun iv s1 ⟨y, H1, I1, ry, z, dv, ey, hl, q⟩ => ?_) hd)
    subst ey
    obtain ⟨t, rfl⟩ := ry
    obtain ⟨lo, kvs, hd, hf⟩ := hT _ I1.kIn
    obtain ⟨v, hv, hfl⟩ := hf.of_lookup same_str hl
    have hkk : kOk dv = true := kLook_mem z.cps.toList D hk (by rw [sT_tl]; exact hl)
    refine ⟨hd.typeIs, wpAny_getItem_of (strKind_is _ _ z t) hd.mapOf hv ?_⟩
    exact ⟨kW dv, H1, I1.tok _, flat_rel hkk hfl, q⟩
  · refine ⟨G, en, so, s, (Post.bind (R1 := rlD X.K) p).imp fun v H1 ⟨G1, en1, so1, d, l, r1, s1, p1⟩ => ?_⟩
    cases r1 with
    | str z =>
      obtain ⟨dd, e, p2⟩ := opM_at p1
      rw [← kLook_eq] at e
      obtain ⟨dv, e1, rfl⟩ := Option.map_eq_some_iff.mp e
      exact ⟨sT z, dv, rfl, e1, p2.ok s1 (kW_rep (kLook_mem z D hk e1))⟩
    | _ => exact False.elim p1
end
end
end Dl

set_option Elab.async false
set_option linter.all false
set_option maxRecDepth 100000
set_option maxHeartbeats 1000000
/-! The data level: replace where the receiver gives out a token; tests and ifs where a token is out. -/
namespace Dl
open PySem PySem.Spec PyProof.Rows PyProof.V L2
noncomputable section
def PEK (X : Cx) (e : Expr) (t : TE) : Prop := ∀ (pins : List (Addr × Obj)) (s : Shared) (σ : L2.St) (H : Hp) (Q : VK), Inv X pins σ H s → t σ H Q → wpAny (model X.prog X.w) X.A (eval e X.env) (fun v s1 => 1 ≤ s1.toks ∧ EP X pins σ Q v s1) X.xe s
def PTT (X : Cx) (e : Expr) (t : TT) : Prop := ∀ (pins : List (Addr × Obj)) (s : Shared) (σ : L2.St) (H : Hp) (Q : Bool → Hp → Prop), 1 ≤ s.toks → Inv X pins σ H s → t σ H Q → wpAny (model X.prog X.w) X.A (PySem.isTrue e X.env (eval e X.env)) (TP X pins σ Q) X.xe s
def PWT (X : Cx) (e : Expr) (t : TT) : Prop := ∀ (whole : Sem Value) (pins : List (Addr × Obj)) (s : Shared) (σ : L2.St) (H : Hp) (Q : Bool → Hp → Prop), 1 ≤ s.toks → Inv X pins σ H s → t σ H Q → wpAny (model X.prog X.w) X.A (PySem.isTrue e X.env whole) (TP X pins σ Q) X.xe s
section
variable {X : Cx} {a b c o e : Expr} {ta tb to : TE} {tc td : TT} {pos apos c0 c1 p : Pos} {j k : Nat} {rest : List Expr} {y z : Str}
theorem kept {α : Type} {m : Sem α} {Q : α → Shared → Prop} {s : Shared} (h0 : 1 ≤ s.toks) (h : wpAny (model X.prog X.w) X.A m Q X.xe s) : wpAny (model X.prog X.w) X.A m (fun v s1 => 1 ≤ s1.toks ∧ Q v s1) X.xe s :=
  wpAny_mono (PySem.wpAny_toks_of h0 h) (fun _ _ q => q) fun _ _ z => z.2
theorem pek_int {i : Int} {n : Nat} : PEK X (.Constant (.int i) n pos) (tC (.int i)) := fun _ s _ H _ I h => wpAny_Constant_int ⟨by show 1 ≤ s.toks + 1; omega, .int i, H, I.tok _, ⟨_, rfl⟩, h⟩
theorem pek_str {x : Str} {n : Nat} : PEK X (.Constant (.str x) n pos) (tC (.str x)) := fun _ s _ H _ I h => Calls.Constant_str ⟨by show 1 ≤ s.toks + 1; omega, .str x, H, I.tok _, ⟨_, rfl⟩, h⟩
theorem pek_op {op : Operator} {r : R2} (ho : OpR X (binaryOp op) r) (ha : PE X a ta) (hb : PEK X b tb) : PEK X (.BinOp a op b pos) (tOp r ta tb) := fun pins s σ H Q I h =>
  wpAny_BinOp (thn (ha.run pins s σ H _ I h) fun v s1 ⟨x, H1, I1, r1, q1⟩ => thn (hb pins s1 σ H1 _ I1 q1) fun u s2 ⟨hk, y, H2, I2, r2, q2⟩ => kept hk (ho pins s2 σ H2 x y v u Q I2 r1 r2 q2))
theorem pek_ix {r : R2} (hr : IxR X r) (ha : PE X a ta) (hb : PEK X b tb) (hs : PlainIx b) : PEK X (.Subscript a b pos) (tOp r ta tb) := fun pins s σ H Q I h =>
  Subscript_ (thn (ha.run pins s σ H _ I h) fun v s1 ⟨x, H1, I1, r1, q1⟩ => thn (hb pins s1 σ H1 _ I1 q1) fun u s2 ⟨hk, y, H2, I2, r2, q2⟩ => kept hk (hr a b pins s2 σ H2 x y v u Q I2 r1 r2 q2 (hs _ _)))
theorem pe_replK (ho : PEK X o to) (hyz : (y == z) = false := by decide)
    (hst : starEach [.Constant (.str y) j c0, .Constant (.str z) k c1] X.env = [(false, eval (.Constant (.str y) j c0) X.env), (false, eval (.Constant (.str z) k c1) X.env)] := by rfl)
    (hbase : attributeBase o "replace" X.env (eval o X.env) = eval o X.env := by rfl) (hline : (apos.endLine == pos.line) = true := by rfl) :
    PE X (.Call (.Attribute o "replace" apos) [.Constant (.str y) j c0, .Constant (.str z) k c1] [] pos) (CwR.tReplC to y z) := by
  refine ⟨fun pins s σ H Q I h => ?_⟩
  refine PySem.Call_method2 hbase hst hline (thn (ho pins s σ H _ I h) fun v s1 q => ?_)
  obtain ⟨hk, v', H1, I1, r1, x, e1, hb, q⟩ := q
  subst e1
  obtain ⟨tx, e2⟩ := r1
  subst e2
  refine ⟨"str", _, PySem.F.plainAttrs_str, PySem.F.slot_str_replace, PySem.F.type_str_replace, typeIs_str _ _ _, (fun _ e => nomatch e), Calls.callWith_builtin rfl (Calls.evalArgs_plain (Calls.spliced_cons ?_))⟩
  refine Calls.Constant_str (Calls.spliced_cons (Calls.Constant_str (Calls.spliced_nil ?_)))
  exact PySem.SC.replace (by show s1.toks ≠ 0; omega) (by show s1.toks + 1 ≠ 0; omega) (by show s1.toks ≠ s1.toks + 1; omega) hyz hb fun t' k => ⟨.str (Txt.replace x y z), H1, I1.tok k, ⟨t', rfl⟩, q⟩
theorem pet_ix {r : R2} (hr : IxR X r) (ha : PET X a ta) (hb : PE X b tb) (hs : PlainIx b) : PET X (.Subscript a b pos) (tOp r ta tb) := fun pins s σ H Q h0 I h =>
  Subscript_ (thn (ha pins s σ H _ h0 I h) fun v s1 ⟨x, H1, I1, r1, q1⟩ => thn (hb.run pins s1 σ H1 _ I1 q1) fun u s2 ⟨y, H2, I2, r2, q2⟩ => hr a b pins s2 σ H2 x y v u Q I2 r1 r2 q2 (hs _ _))
theorem PTT.of (h : PT X e tc) : PTT X e tc := fun pins s σ H Q _ I q => h.run pins s σ H Q I q
theorem PWT.pt (h : PWT X e tc) : PTT X e tc := h _
theorem ptt_cmp {op : CmpOp} {r : R2} (ho : OpR X (compareOp op) r) (ha : PET X a ta) (hb : PET X b tb) (hm : behindInMarks op b = false) : PTT X (.Compare a [op] [b] pos) (tTest (tOp r ta tb)) := fun pins s σ H Q h0 I h => by
  refine wpAny_isTrue_Compare1 (thn (kept h0 (ha pins s σ H _ h0 I h)) fun v s1 ⟨hk, x, H1, I1, r1, q1⟩ => thn (hb pins s1 σ H1 _ hk I1 q1) fun u s2 ⟨y, H2, I2, r2, q2⟩ =>
    thn (ho pins s2 σ H2 x y v u _ I2 r1 r2 q2) fun c s3 ⟨z, H3, I3, r3, k, e, q3⟩ => ?_) hm
  subst e
  cases r3
  exact wpAny_truthy_bool ⟨H3, I3, q3⟩
theorem pwt_and1 (ha : PTT X a tc) : PWT X (.BoolOp .And [a] pos) tc := fun wh pins s σ H Q h0 I h => by
  refine isTrue_and (thn (ha pins s σ H Q h0 I h) fun c s1 e => ?_)
  cases c with
  | true => exact isTrue_and_nil e
  | false => exact e
theorem pwt_or1 (ha : PTT X a tc) : PWT X (.BoolOp .Or [a] pos) tc := fun wh pins s σ H Q h0 I h => by
  refine isTrue_or (thn (ha pins s σ H Q h0 I h) fun c s1 e => ?_)
  cases c with
  | false => exact isTrue_or_nil e
  | true => exact e
theorem pwt_and (ha : PTT X a tc) (hb : PWT X (.BoolOp .And (b :: rest) pos) td) : PWT X (.BoolOp .And (a :: b :: rest) pos) (tAnd tc td) := fun wh pins s σ H Q h0 I h => by
  refine isTrue_and (thn (kept h0 (ha pins s σ H _ h0 I h)) fun c s1 ⟨hk, H1, I1, q1⟩ => ?_)
  cases c with
  | true => exact hb wh pins s1 σ H1 Q hk I1 q1
  | false => exact ⟨H1, I1, q1⟩
theorem pwt_or (ha : PTT X a tc) (hb : PWT X (.BoolOp .Or (b :: rest) pos) td) : PWT X (.BoolOp .Or (a :: b :: rest) pos) (tOr tc td) := fun wh pins s σ H Q h0 I h => by
  refine isTrue_or (thn (kept h0 (ha pins s σ H _ h0 I h)) fun c s1 ⟨hk, H1, I1, q1⟩ => ?_)
  cases c with
  | true => exact ⟨H1, I1, q1⟩
  | false => exact hb wh pins s1 σ H1 Q hk I1 q1
theorem ptt_not (ha : PTT X a tc) : PTT X (.UnaryOp .Not a pos) (tNot tc) := fun pins s σ H Q h0 I h => isTrue_not (ha pins s σ H (fun c H1 => Q (!c) H1) h0 I h)
end
/-! ### judgements -/
structure DEK (X : Cx) (W : WX) (e : Expr) (m : M D) : Prop where
  pe : PEK X e (tM X.K X.ev W (rlD X.K) m)
structure DTT (X : Cx) (W : WX) (e : Expr) (m : M Bool) : Prop where
  pt : PTT X e (tM X.K X.ev W rlT m)
structure DWT (X : Cx) (W : WX) (e : Expr) (m : M Bool) : Prop where
  pw : PWT X e (tM X.K X.ev W rlT m)
section
variable {X : Cx} {W : WX} {a b o e f : Expr} {m mo ma mb : M D} {tA tB : M Bool} {y z : Str} {ly lz : List Nat} {j k : Nat} {c0 c1 apos pos p : Pos} {rest : List Expr} {st st' : List Stmt} {u w : M Fl}
theorem PEK_imp {t t' : TE} (h : PEK X e t) (g : ∀ σ H Q, t' σ H Q → t σ H Q) : PEK X e t' := fun pins s σ H Q I q => h pins s σ H Q I (g σ H Q q)
theorem PTT_imp {t t' : TT} (h : PTT X e t) (g : ∀ σ H Q, t' σ H Q → t σ H Q) : PTT X e t' := fun pins s σ H Q h0 I q => h pins s σ H Q h0 I (g σ H Q q)
theorem PWT_imp {t t' : TT} (h : PWT X e t) (g : ∀ σ H Q, t' σ H Q → t σ H Q) : PWT X e t' := fun wh pins s σ H Q h0 I q => h wh pins s σ H Q h0 I (g σ H Q q)
theorem k_int {i : Int} {n : Nat} : DEK X W (.Constant (.int i) n pos) (pu (.int i)) := ⟨PEK_imp pek_int fun σ H Q ⟨G, en, so, s, p⟩ => Post.ok (v := V.int i) p s (.int i)⟩
theorem k_str {x : Str} {n : Nat} {l : List Nat} (ex : x.cps.toList = l := by rfl) : DEK X W (.Constant (.str x) n pos) (pu (.str l)) := ⟨PEK_imp pek_str fun σ H Q ⟨G, en, so, s, p⟩ => Post.ok (v := V.str x) p s (.of_str x ex)⟩
theorem k_op {op : Operator} {r : R2} {g : D → D → M D} (ho : OpR X (binaryOp op) r) (h : Op2 X.K X.ev r g) (ha : DE X W a ma) (hb : DEK X W b mb) : DEK X W (.BinOp a op b pos) (m2 g ma mb) := ⟨PEK_imp (pek_op ho ha.pe hb.pe) fun _ _ _ q => two h q⟩
theorem k_ix (ha : DE X W a ma) (hb : DEK X W b mb) (hs : PlainIx b := by intro _ _; rfl) : DEK X W (.Subscript a b pos) (m2 ixD ma mb) := ⟨PEK_imp (pek_ix ix_seq ha.pe hb.pe hs) fun _ _ _ q => two op2_ix q⟩
theorem d_replK (ho : DEK X W o mo) (ey : y.cps.toList = ly := by rfl) (ez : z.cps.toList = lz := by rfl) (hy : 1 ≤ y.length := by decide) (hyz : (y == z) = false := by decide)
    (hst : starEach [.Constant (.str y) j c0, .Constant (.str z) k c1] X.env = [(false, eval (.Constant (.str y) j c0) X.env), (false, eval (.Constant (.str z) k c1) X.env)] := by rfl)
    (hbase : attributeBase o "replace" X.env (eval o X.env) = eval o X.env := by rfl) (hline : (apos.endLine == pos.line) = true := by rfl) :
    DE X W (.Call (.Attribute o "replace" apos) [.Constant (.str y) j c0, .Constant (.str z) k c1] [] pos) (mRepl ly lz mo) :=
  ⟨PE_imp (pe_replK ho.pe hyz hst hbase hline) fun _ _ _ q => repl_tr ey ez hy q⟩
theorem dt_ix (ha : DET X W a ma) (hb : DE X W b mb) (hs : PlainIx b := by intro _ _; rfl) : DET X W (.Subscript a b pos) (m2 ixD ma mb) := ⟨PET_imp (pet_ix ix_seq ha.pe hb.pe hs) fun _ _ _ q => two op2_ix q⟩
theorem DTT.of (h : DT X W e tA) : DTT X W e tA := ⟨PTT.of h.pt⟩
theorem DWT.dt (h : DWT X W e tA) : DTT X W e tA := ⟨h.pw.pt⟩
theorem tt_cmp {op : CmpOp} {r : R2} {f : D → D → M D} (ho : OpR X (compareOp op) r) (h : Op2 X.K X.ev r f) (ha : DET X W a ma) (hb : DET X W b mb) (hm : behindInMarks op b = false) : DTT X W (.Compare a [op] [b] pos) (mT (m2 f ma mb)) :=
  ⟨PTT_imp (ptt_cmp ho ha.pe hb.pe hm) fun _ _ _ q => two h (mT_tr q)⟩
theorem wt_and1 (h : DTT X W a tA) : DWT X W (.BoolOp .And [a] pos) tA := ⟨pwt_and1 h.pt⟩
theorem wt_or1 (h : DTT X W a tA) : DWT X W (.BoolOp .Or [a] pos) tA := ⟨pwt_or1 h.pt⟩
theorem wt_and (ha : DTT X W a tA) (hb : DWT X W (.BoolOp .And (b :: rest) pos) tB) : DWT X W (.BoolOp .And (a :: b :: rest) pos) (tAndM tA tB) := by
  refine ⟨PWT_imp (pwt_and ha.pt hb.pw) fun σ H Q q => ?_⟩
  obtain ⟨G, en, so, s, p⟩ := q
  refine ⟨G, en, so, s, (Post.bind (R1 := rlT) p).imp fun v H1 ⟨G1, en1, so1, k, l, r1, s1, p1⟩ => ?_⟩
  cases r1
  cases v with
  | true => exact iteT ⟨G1, en1, so1, s1, p1⟩
  | false => exact iteF (p1.ok s1 rfl)
theorem wt_or (ha : DTT X W a tA) (hb : DWT X W (.BoolOp .Or (b :: rest) pos) tB) : DWT X W (.BoolOp .Or (a :: b :: rest) pos) (tOrM tA tB) := by
  refine ⟨PWT_imp (pwt_or ha.pt hb.pw) fun σ H Q q => ?_⟩
  obtain ⟨G, en, so, s, p⟩ := q
  refine ⟨G, en, so, s, (Post.bind (R1 := rlT) p).imp fun v H1 ⟨G1, en1, so1, k, l, r1, s1, p1⟩ => ?_⟩
  cases r1
  cases v with
  | true => exact iteT (p1.ok s1 rfl)
  | false => exact iteF ⟨G1, en1, so1, s1, p1⟩
theorem st_if (hc : DTT X W e tA) (ha : DSsT X W st u) (hb : DSsT X W st' w) : DST X W (.If e st st' pos) (sIf tA u w) := by
  refine ⟨fun pins s σ H D h0 I q => ?_⟩
  obtain ⟨G, en, so, sm, p⟩ := q
  refine wpAny_If (thn (kept h0 (hc.pt pins s σ H _ h0 I ⟨G, en, so, sm, SPost.bind (R1 := rlT) p⟩)) fun d s1 ⟨hk, H1, I1, G1, en1, so1, bb, l, r1, s2, p1⟩ => ?_)
  cases r1
  cases d with
  | true => exact ha.ps pins s1 σ H1 D hk I1 ⟨G1, en1, so1, s2, p1⟩
  | false => exact hb.ps pins s1 σ H1 D hk I1 ⟨G1, en1, so1, s2, p1⟩
end
end
end Dl

set_option Elab.async false
set_option linter.all false
set_option maxRecDepth 100000
set_option maxHeartbeats 1000000
/-! The data level: three names at once; defs that call themselves (by fuel). -/
namespace Dl
open PySem PySem.Spec PyProof.Rows L2
noncomputable section
def tgT (i j l : Nat) : Tg := fun d en => match d with
  | .tup [x, y, z] => some (((en.set i (some (.dat x))).set j (some (.dat y))).set l (some (.dat z)))
  | _ => none
theorem rep_trip {K : PySem.W.Frag} {F : Hp} {rho : List (Addr × Addr)} {v : V} {d1 d2 d3 : D} (r : Rep K F rho v (.tup [d1, d2, d3])) : ∃ a v1 v2 v3, v = .ref a ∧ SqT K F a [v1, v2, v3] ∧ Rep K F rho v1 d1 ∧ Rep K F rho v2 d2 ∧ Rep K F rho v3 d3 := by
  cases r with
  | tup h r2 =>
    cases r2 with
    | cons r1 r2 =>
      cases r2 with
      | cons r2 r3 =>
        cases r3 with
        | cons r3 r4 =>
          cases r4
          exact ⟨_, _, _, _, rfl, h, r1, r2, r3⟩
theorem wipe3 {A : Type} (σ : List (Option A)) {i j l : Nat} (a b c : Option A) (hij : i ≠ j) (hil : i ≠ l) (hjl : j ≠ l) : ((((((σ.set i a).set j b).set l c).set l none).set j none).set i none) = (((σ.set l none).set j none).set i none) := by
  rw [List.set_set, List.set_comm _ _ hjl, List.set_set, List.set_comm (l := σ.set i a) _ _ hjl.symm]
  apply List.ext_getElem?
  intro n
  simp only [List.getElem?_set, List.length_set]
  by_cases h1 : i = n
  · subst h1; simp
  · by_cases h2 : j = n
    · subst h2; simp [h1, hjl.symm]
    · simp [h1, h2]
theorem g_trip {X : Cx} {pos : Pos} {k : Nat} {i j l : Nat} {x y z : Str} {px py pz : Pos} (hc : X.calm = true) (hij : i ≠ j) (hil : i ≠ l) (hjl : j ≠ l) (hN : X.N.Nodup) (hi : X.N[i]? = some x := by rfl) (hx : Loc X.env.scope x := by first | exact Or.inl rfl | exact Or.inr rfl) (hj : X.N[j]? = some y := by rfl) (hy : Loc X.env.scope y := by first | exact Or.inl rfl | exact Or.inr rfl) (hl : X.N[l]? = some z := by rfl) (hz : Loc X.env.scope z := by first | exact Or.inl rfl | exact Or.inr rfl)
    (hf : X.fn x = true ∨ X.env.scope.names.lookup x = some .local := by first | exact .inl rfl | exact .inr rfl | assumption) (hf2 : X.fn y = true ∨ X.env.scope.names.lookup y = some .local := by first | exact .inl rfl | exact .inr rfl | assumption) (hf3 : X.fn z = true ∨ X.env.scope.names.lookup z = some .local := by first | exact .inl rfl | exact .inr rfl | assumption) : DG X (.Tuple [.Name x px, .Name y py, .Name z pz] k pos) (tgT i j l) [i, j, l] := by
  refine ⟨PG_imp (pg_tup (n := 3) hc (pgs_cons (pg_name hN hi hx hf) (pgs_cons (pg_name hN hj hy hf2) (pgs_cons (pg_name hN hl hz hf3) pgs_nil)))) fun v σ H Q h => ?_⟩
  obtain ⟨G, en, so, d, en', rd, sm, e, q⟩ := h
  obtain ⟨d1, d2, d3, rfl⟩ : ∃ d1 d2 d3, d = .tup [d1, d2, d3] := by
    unfold tgT at e
    split at e
    · exact ⟨_, _, _, rfl⟩
    · cases e
  cases e
  obtain ⟨a, v1, v2, v3, rfl, h, r1, r2, r3⟩ := rep_trip rd
  refine ⟨a, [v1, v2, v3], rfl, same_seqT sm.toSimO.rep h, rfl, v1, [v2, v3], rfl, v2, [v3], rfl, v3, [], rfl, rfl, ?_⟩
  exact q _ (((sm.setD r1 i).setD r2 j).setD r3 l) (wipe3 σ (some v1) (some v2) (some v3) hij hil hjl)
@[simp] theorem kTg_T {en : En} {so : So} (i j l : Nat) (x y z : D) : kTg (tgT i j l) (.tup [x, y, z]) en so = .ok .nx (((en.set i (some (.dat x))).set j (some (.dat y))).set l (some (.dat z))) so := rfl
@[simp] theorem tgT_ {en : En} (i j l : Nat) (x y z : D) : tgT i j l (.tup [x, y, z]) en = some (((en.set i (some (.dat x))).set j (some (.dat y))).set l (some (.dat z))) := rfl
/-! ### no fuel -/
def noF : FunM := fun _ _ => .no
theorem fn_no {P : Program} {w : World} {K : PySem.W.Frag} {mg : Str → Option Value} {base : Heap} {f : Addr} {fd : FuncData} {ps : List Str} {k : Nat} : FnOk P w K mg base (L2.CX P w) k f fd ps (spD K mg noF) :=
  ⟨fun _ _ _ _ ⟨_, _, _, _, _, p⟩ => False.elim p, fun _ _ _ _ _ _ _ _ _ _ _ _ _ ⟨_, _, _, _, _, p⟩ => False.elim p⟩
end
end Dl

set_option Elab.async false
set_option linter.all false
set_option maxRecDepth 100000
set_option maxHeartbeats 1000000
/-! The data level: a or b by truth, the module's tuples, isinstance(o, own class). -/
namespace Dl
open PySem PySem.Spec PyProof.Rows L2
noncomputable section
/-- a or b, by the truth of a -/
def mOrT (a b : M D) : M D := bd a fun d => bd (truD d) fun k => if k = true then pu d else b
section
variable {X : Cx} {W : WX} {a b e : Expr} {ma mb m : M D} {rest : List Expr} {pos p apos : Pos}
theorem truD_at {K : PySem.W.Frag} {mg : Ev} {A1 : Type} {G1 : Gh} {en1 : En} {so1 : So} {σ : L2.St} {H1 : Hp} {v : V} {d : D} {kk : Bool → M A1} {A' : Type} {Rl : Gh → Hp → A' → A1 → Prop} {Q : A' → Hp → Prop} (s1 : Sim K mg G1 en1 so1 σ H1) (r1 : Rep K G1.F G1.rho v d) (p1 : Post K mg G1 W Rl σ (bd (truD d) kk en1 so1) Q) : ∃ k, TruV K v H1 k ∧ Post K mg G1 W Rl σ (kk k en1 so1) Q := by
  cases d <;> try exact False.elim p1
  · cases r1; exact ⟨_, rfl, p1⟩
  · cases r1; exact ⟨_, rfl, p1⟩
  · cases r1; exact ⟨_, rfl, p1⟩
  · cases r1
    rename_i z
    by_cases h : z.length ≤ 16777216
    · refine ⟨z.length != 0, ⟨by rw [sT_len, sizeLine_eq]; exact h, ?_⟩, ?_⟩
      · rw [sT_len]
        cases z <;> simp
        omega
      · have e : truD (.str z) en1 so1 = .ok (z.length != 0) en1 so1 := by
          show gd (z.length ≤ 16777216) (pu (z.length != 0)) en1 so1 = _
          unfold gd
          rw [if_pos h]; rfl
        unfold bd at p1
        rw [e] at p1
        exact p1
    · have e : truD (.str z) en1 so1 = .no := by
        show gd (z.length ≤ 16777216) (pu (z.length != 0)) en1 so1 = _
        unfold gd
        rw [if_neg h]
      unfold bd at p1
      rw [e] at p1
      exact False.elim p1
  · cases r1 with
    | tup h r => exact ⟨_, .inr (.inl ⟨_, same_seqT s1.toSimO.rep h, rfl⟩), by rw [r.isEmpty]; exact p1⟩
  · cases r1 with
    | lst h r => exact ⟨_, .inl ⟨_, s1.toSimO.rep.seq h, rfl⟩, by rw [r.isEmpty]; exact p1⟩
theorem d_orT (ha : DE X W a ma) (hb : DE X W (.BoolOp .Or (b :: rest) pos) mb) : DE X W (.BoolOp .Or (a :: b :: rest) pos) (mOrT ma mb) := by
  refine ⟨PE_imp (pe_orT ha.pe hb.pe) fun σ H Q q => ?_⟩
  obtain ⟨G, en, so, s, p⟩ := q
  refine ⟨G, en, so, s, (Post.bind (R1 := rlD X.K) p).imp fun v H1 ⟨G1, en1, so1, d, l, r1, s1, p1⟩ => ?_⟩
  obtain ⟨k, t, p2⟩ := truD_at s1 r1 p1
  refine ⟨k, t, ?_⟩
  cases k with
  | true => rw [if_pos rfl] at p2 ⊢; exact p2.ok s1 r1
  | false => rw [if_neg (by decide)] at p2 ⊢; exact ⟨G1, en1, so1, s1, p2⟩
/-- a tuple of the module -/
structure TupK (K : PySem.W.Frag) (mg : Str → Option Value) (x : Str) (ds : List D) : Prop where
  ex : ∃ (a : Addr) (o : Obj) (its : Array Value) (n : Nat) (vs : List V), mg x = some (.ref a) ∧ K.lookup a = some o ∧ o.cls = .type "tuple" ∧ o.data = .seq its n ∧ its.size ≤ sizeLine ∧ Vals vs its.toList ∧ ∀ F rho, Reps K F rho vs ds
theorem d_gT {x : Str} {ds : List D} (hg : Gl X x) (T : TupK X.K X.mg x ds) (hd : (x == ("__debug__" : Str)) = false := by decide) : DE X W (.Name x pos) (pu (.tup ds)) := by
  obtain ⟨a, o, its, n, vs, hm, h1, h2, h3, h4, h5, h6⟩ := T.ex
  exact d_c (pe_glob hg hm (v := .ref a) rfl hd) fun F rho => .tup (.inr ⟨o, its, n, h1, h2, h3, h4, h5⟩) (h6 F rho)
/-- isinstance(e, C), e an object of the own class C -/
def isCD (c : Nat) : D → M D
  | .obj k => fun en so => match so[k]? with
    | some (.ob c' _) => if c' = c then .ok (.bl true) en so else .no
    | _ => .no
  | _ => no
def mIsC (c : Nat) (m : M D) : M D := bd m (isCD c)
/-- what isinstance asks of the class of number c -/
structure InsN (K : PySem.W.Frag) (mg : Str → Option Value) (c : Nat) (x : Str) : Prop where
  ex : ∃ C, mg x = some (.ref C) ∧ C8.InsC K C
  nm : cnm c = x
theorem d_isC {c : Nat} {x : Str} {px : Pos} (T : InsN X.K X.mg c x) (hem : X.ev.mg = X.mg) (ha : DE X W e m) (hg : Gl X "isinstance") (hm : X.mg "isinstance" = none) (hgC : Gl X x)
    (he : starEach [e, .Name x px] X.env = (false, eval e X.env) :: starEach [.Name x px] X.env := by rfl) (hpl : (backTo pos (starEach [.Name x px] X.env)).any (·.1) = false := by rfl) (hd : (x == ("__debug__" : Str)) = false := by decide) : DE X W (.Call (.Name "isinstance" p) [e, .Name x px] [] pos) (mIsC c m) := by
  obtain ⟨C, hC, ic⟩ := T.ex
  refine ⟨PE_imp (pe_callB (C8.call_isC ic) hg hm boot_isinstance (pa_cons ha.pe (pa_cons (pe_glob hgC hC (v := .ref C) rfl hd) pa_nil) he) (he := he) (hpl := hpl)) fun σ H Q q => ?_⟩
  obtain ⟨G, en, so, s, p⟩ := q
  refine ⟨G, en, so, s, (Post.bind (R1 := rlD X.K) p).imp fun v H1 ⟨G1, en1, so1, d, l, r1, s1, p1⟩ => ?_⟩
  cases r1 with
  | @obj k a dx hr =>
    have e1 : isCD c (.obj k) en1 so1 = (match so1[k]? with
      | some (.ob c' _) => if c' = c then .ok (.bl true) en1 so1 else .no
      | _ => .no) := rfl
    rw [e1] at p1
    cases h1 : so1[k]? with
    | none => rw [h1] at p1; exact p1.elim
    | some o =>
      rw [h1] at p1
      cases o with
      | ob c' fs =>
        simp only [] at p1
        by_cases hc : c' = c
        · subst hc
          rw [if_pos rfl] at p1
          obtain ⟨_, _, ⟨Cl, vs, h2, h3, _⟩, _⟩ := s1.ob k _ a dx h1 hr
          rw [hem, T.nm, hC] at h2
          cases h2
          exact ⟨a, dx, vs, rfl, h3, Post.ok (v := V.bl true) p1 s1 (.bl true)⟩
        · rw [if_neg hc] at p1; exact p1.elim
      | cel _ => exact p1.elim
      | lck _ => exact p1.elim
      | dead => exact p1.elim
  | _ => exact False.elim p1
/-- isinstance(e, dict), e a dict in the store -/
def mIsDc (m : M D) : M D := bd m fun d => bd (dctO d) fun _ => pu (.bl true)
theorem d_isDc {x : Str} {px : Pos} (ha : DE X W e m) (hg : Gl X "isinstance") (hm : X.mg "isinstance" = none) (hgT : Gl X x) (hmT : X.mg x = none) (hvT : bootBuiltins x = some (.type "dict"))
    (he : starEach [e, .Name x px] X.env = (false, eval e X.env) :: starEach [.Name x px] X.env := by rfl) (hpl : (backTo pos (starEach [.Name x px] X.env)).any (·.1) = false := by rfl) (hn : x ≠ "__name__" := by decide) (hd : (x == ("__debug__" : Str)) = false := by decide) : DE X W (.Call (.Name "isinstance" p) [e, .Name x px] [] pos) (mIsDc m) := by
  refine ⟨PE_imp (pe_callB call_isi hg hm boot_isinstance (pa_cons ha.pe (pa_cons (pe_bltn hgT hmT hvT (v := .ty "dict") rfl hn hd) pa_nil) he) (he := he) (hpl := hpl)) fun σ H Q q => ?_⟩
  obtain ⟨G, en, so, s, p⟩ := q
  refine ⟨G, en, so, s, (Post.bind (R1 := rlD X.K) p).imp fun v H1 ⟨G1, en1, so1, d, l, r1, s1, p1⟩ => ?_⟩
  obtain ⟨kds, ca, p2⟩ := dctO_at s1 r1 p1
  obtain ⟨a, kvs, rfl, h1, _⟩ := ca
  have ty : TyX X.K H1 (.ref a) (.type "dict") := by
    rcases h1 with h1 | ⟨o, h1⟩
    · exact .base (.dK h1)
    · exact .fDict h1
  exact ⟨.ref a, .ty "dict", .type "dict", .type "dict", true, rfl, .ty _, ty, kit_ty (kit_all .dict "dict" (by decide)), Post.ok (v := V.bl true) p2 s1 (.bl _)⟩
end
section
variable {en : En} {so : So}
@[simp] theorem mOrT_ (a b : M D) : mOrT a b en so = bdR (a en so) fun d => bd (truD d) fun k => if k = true then pu d else b := rfl
@[simp] theorem mIsC_ (c : Nat) (m : M D) : mIsC c m en so = bdR (m en so) (isCD c) := rfl
@[simp] theorem mIsDc_ (m : M D) : mIsDc m en so = bdR (m en so) fun d => bd (dctO d) fun _ => pu (.bl true) := rfl
end
end
end Dl

set_option Elab.async false
set_option linter.all false
set_option maxRecDepth 100000
set_option maxHeartbeats 1000000
/-! The data level: != where dicts stand. -/
namespace Dl
open PySem PySem.Spec PyProof.Rows L2
noncomputable section
/-- a != b of two dicts -/
theorem dicts_ne {prog : Program} {w : World} {κ : Type} [DecidableEq κ] {knd : KeyKind prog w κ} {A : Around} {s : Shared} {a b : Addr} {ka kb : List (κ × Value)} {r : Bool} (ha : (a == sysModules) = false) (hb : (b == sysModules) = false)
    (da : s.heap.DictOf knd a ka) (db : s.heap.DictOf knd b kb) (hu : A.units < cLine) (hits : ka.length = kb.length → PySem.W.KeqHitsP prog w A.in1 s kb ka r) (E Q : Value → Shared → Prop) (q : Q (.bool (!(ka.length == kb.length && r))) s) : wpAny (model prog w) A (richCompare .NotEq (.ref a) (.ref b)) Q E s :=
  wpAny_richCompare_same_room (op := .NotEq) da.typeIs db.typeIs PySem.F.slot_dict_ne (wpAny_call_entry PySem.F.slot_dict_ne da.typeIs PySem.F.entry_dict_ne (by
    show wpAny _ _ (Builtin.Dict.dictSlotArgs "__ne__" ⟨[.ref a, .ref b], []⟩ >>= _) _ _ s
    unfold Builtin.Dict.dictSlotArgs
    refine wpAny_bind (wpAny_bind (wpAny_notOrdered_dict da.typeIs ?_)); show wpAny _ _ (pure (Value.ref a, Value.ref b)) _ _ s
    refine wpAny_pure (wpAny_bind (wpAny_isInstance (T := "dict") db.typeIs PySem.F.sub_dict_dict ?_)); simp only [Bool.not_true, Bool.false_eq_true, if_false]
    refine wpAny_bind (wpAny_pure (wpAny_bind (wpAny_pure (wpAny_bind (PySem.W.samePairsP ha hb da db hits ?_)))))
    exact wpAny_pure ⟨_, rfl, (fun x => nomatch x), by simpa using q⟩) (PySem.F.args_dict_ne_2 _ _)) hu
def rNeE (K : PySem.W.Frag) : R2 := fun x y H Q => ∃ rho a b r, Rep K H rho x (.dct a) ∧ Rep K H rho y (.dct b) ∧ eqE 8 (.dct a) (.dct b) = some r ∧ Q (.bl (!r)) H
/-- d != e as data, where that is plain -/
def neV (d e : D) : Option Bool := @ite _ (okq 24 d = true ∧ okq 24 e = true) (Classical.propDecidable _) (some (!eqD d e)) (match d, e with
  | .dct a, .dct b => (eqE 8 (.dct a) (.dct b)).map (!·)
  | _, _ => none)
def mNeA (ma mb : M Hd) : M D := bd ma fun h1 => bd mb fun h2 => bd (vwH h1) fun d => bd (vwH h2) fun e => opM (neV d e) fun b => pu (.bl b)
section
variable {X : Cx} {W : WX} {a b : Expr} {ma mb : M Hd} {pos : Pos}
theorem op_neE (hu : X.A.units + 64 < cLine) : OpR X (compareOp .NotEq) (rNeE X.K) := by
  rintro pins s σ H x y v u Q I rx ry ⟨rho, xs, ys, r, h, k, g, q⟩
  cases h with
  | @dct a kvs _ h1 k1 =>
    cases k with
    | @dct a' lvs _ h2 k2 =>
      cases rx
      cases ry
      obtain ⟨_, la, va, ra, da⟩ := dk_rd I.hok h1
      obtain ⟨_, lb, vb, rb, db⟩ := dk_rd I.hok h2
      have e1 : va.length = xs.length := by rw [← ra.length, repK_len k1]
      have e2 : vb.length = ys.length := by rw [← rb.length, repK_len k2]
      have g : (if xs.length = ys.length then hitE (eqE 7) ys xs else some false) = some r := g
      refine dicts_ne (knd := mixKind X.prog X.w) (r := r) la lb da db (by omega) (fun el => ?_) _ _ ?_
      · rw [if_pos (by rw [← e1, ← e2]; exact el)] at g
        exact hits_E (eqP_E I 7 X.A.in1 (by rw [units1]; omega)) k2 rb xs kvs va r k1 ra g
      · refine ⟨.bl (!r), H, I, ?_, q⟩
        by_cases el : xs.length = ys.length
        · rw [show (va.length == vb.length && r) = r by rw [e1, e2, el]; simp]; rfl
        · rw [if_neg el] at g
          cases g
          rw [Bool.and_false]; rfl
theorem op_neA (hu : X.A.units + 64 < cLine) : OpR X (compareOp .NotEq) (fun x y H Q => rEqG X.K true x y H Q ∨ rNeE X.K x y H Q) := by
  rintro pins s σ H x y v u Q I rx ry (h | h)
  · exact op_neG hu pins s σ H x y v u Q I rx ry h
  · exact op_neE hu pins s σ H x y v u Q I rx ry h
theorem neA_tr {σ : L2.St} {H : Hp} {Q : VK} (q : tM X.K X.ev W (rlD X.K) (mNeA ma mb) σ H Q) : tOp (fun x y H Q => rEqG X.K true x y H Q ∨ rNeE X.K x y H Q) (fun σ H Q => tM X.K X.ev W (rlH X.K σ) ma σ H Q) (fun σ H Q => tM X.K X.ev W (rlH X.K σ) mb σ H Q) σ H Q := by
  obtain ⟨G, en, so, s, p⟩ := q
  refine ⟨G, en, so, s, (Post.bind (R1 := rlH X.K σ) p).imp fun v H1 ⟨G1, en1, so1, h1, l, r1, s1, p1⟩ => ⟨G1, en1, so1, s1, (Post.bind (R1 := rlH X.K σ) p1).imp fun y H2 ⟨G2, en2, so2, h2, l2, r2, s2, p2⟩ => ?_⟩⟩
  obtain ⟨d, rd, p3⟩ := vwH_at s2 (r1.up l2 (H' := H2)) p2
  obtain ⟨e, re, p4⟩ := vwH_at s2 r2 p3
  obtain ⟨b, eb, p5⟩ := opM_at p4
  unfold neV at eb
  split at eb
  · rename_i o
    cases eb
    exact .inl ⟨H2, G2.rho, d, e, Same.refl _, rd, re, o.1, o.2, p5.ok s2 (.bl _)⟩
  · split at eb
    · rename_i x y _
      cases hz : eqE 8 (.dct x) (.dct y) with
      | none => rw [hz] at eb; cases eb
      | some z =>
        rw [hz] at eb
        cases eb
        exact .inr ⟨G2.rho, x, y, z, rd, re, hz, p5.ok s2 (.bl _)⟩
    · cases eb
theorem d_neA (hu : X.A.units + 64 < cLine) (ha : DH X W a ma) (hb : DH X W b mb) (hm : behindInMarks .NotEq b = false := by with_unfolding_all rfl) : DE X W (.Compare a [.NotEq] [b] pos) (mNeA ma mb) :=
  ⟨PE_imp (pe_cmpR (op_neA hu) ha.pe hb.pe hm) fun _ _ _ q => neA_tr q⟩
theorem d_neAT (hu : X.A.units + 64 < cLine) (ha : DH X W a ma) (hb : DH X W b mb) (hm : behindInMarks .NotEq b = false := by with_unfolding_all rfl) : DT X W (.Compare a [.NotEq] [b] pos) (mT (mNeA ma mb)) :=
  ⟨PT_imp (pt_cmpR (op_neA hu) ha.pe hb.pe hm) fun _ _ _ q => neA_tr (mT_tr q)⟩
end
section
variable {en : En} {so : So}
@[simp] theorem mNeA_ (ma mb : M Hd) : mNeA ma mb en so = bdR (ma en so) fun h1 => bd mb fun h2 => bd (vwH h1) fun d => bd (vwH h2) fun e => opM (neV d e) fun b => pu (.bl b) := rfl
theorem neV_ok {d e : D} (h1 : okq 24 d = true) (h2 : okq 24 e = true) : neV d e = some (!eqD d e) := by
  unfold neV
  rw [if_pos ⟨h1, h2⟩]
theorem okq_dct (n : Nat) (kv : List (Ky × D)) : okq n (.dct kv) = false := by cases n <;> rfl
theorem neV_dct {a b : List (Ky × D)} : neV (.dct a) (.dct b) = (eqE 8 (.dct a) (.dct b)).map (!·) := by
  unfold neV
  rw [if_neg (fun h => by rw [okq_dct] at h; exact absurd h.1 (by decide))]
/-- two tables of the same answers -/
theorem eqV_same {A : Type} {f : A → D} {M N : Tb A} (nd : (keys N).Nodup) (hl : M.length = N.length) (h : ∀ x ∈ M, look N x.1 = some x.2) (hf : ∀ a, eqE 7 (f a) (f a) = some true) : eqE 8 (.dct (tab f M)) (.dct (tab f N)) = some true := by
  show (if (tab f M).length = (tab f N).length then hitE (eqE 7) (tab f N) (tab f M) else some false) = some true
  rw [if_pos (by rw [tab_len, tab_len, hl])]
  have key : ∀ L : Tb A, (∀ x ∈ L, look N x.1 = some x.2) → hitE (eqE 7) (tab f N) (tab f L) = some true := by
    intro L
    induction L with
    | nil => intro _; rfl
    | cons x L ih =>
      intro h
      obtain ⟨k, a⟩ := x
      have e1 := h (k, a) List.mem_cons_self
      have e2 := ih fun y hy => h y (List.mem_cons_of_mem _ hy)
      show (match valD (tab f N) (Sum.inr k) with
        | none => some false
        | some y => match eqE 7 (f a) y, hitE (eqE 7) (tab f N) (tab f L) with
          | some p, some q => some (p && q)
          | _, _ => none) = _
      rw [valD_tab, e1, e2]
      show (match eqE 7 (f a) (f a), some true with | some p, some q => some (p && q) | _, _ => none) = _
      rw [hf]
      rfl
  exact key M h
end
/-! ### order of texts -/
def rS2 (f : Str → Str → V) : R2 := fun x y H Q => ∃ i j, x = .str i ∧ y = .str j ∧ Q (f i j) H
def leS : D → D → M D
  | .str a, .str b => pu (.bl (leC a b))
  | _, _ => no
def ltS : D → D → M D
  | .str a, .str b => pu (.bl (!leC b a))
  | _, _ => no
section
variable {X : Cx} {K : PySem.W.Frag} {mg : Ev}
theorem op_ltS : OpR X (compareOp .Lt) (rS2 fun i j => .bl (decide (i.cps.toList < j.cps.toList))) := fun pins s σ H x y v u Q I rx ry h => op_lt_str pins s σ H x y v u Q I rx ry h
theorem op_leS : OpR X (compareOp .LtE) (rS2 fun i j => .bl (!decide (j.cps.toList < i.cps.toList))) := by
  rintro pins s σ H x y v u Q I rx ry ⟨i, j, rfl, rfl, q⟩
  obtain ⟨t, rfl⟩ := rx
  obtain ⟨t', rfl⟩ := ry
  exact PySem.P.le_str ⟨.bl _, H, I, rfl, q⟩
theorem op2_leS : Op2 K mg (rS2 fun i j => .bl (!decide (j.cps.toList < i.cps.toList))) leS := by
  intro x y d e G en so σ H W Q rx ry s p
  cases d <;> cases e <;> try exact False.elim p
  rename_i a b
  cases rx; cases ry
  refine ⟨_, _, rfl, rfl, ?_⟩
  have h : (!decide ((sT b).cps.toList < (sT a).cps.toList)) = leC a b := by unfold leC; rw [ltCps_eq]; rfl
  show Q (.bl (!decide ((sT b).cps.toList < (sT a).cps.toList))) H
  rw [h]
  exact p.ok s (.bl _)
theorem op2_ltS : Op2 K mg (rS2 fun i j => .bl (decide (i.cps.toList < j.cps.toList))) ltS := by
  intro x y d e G en so σ H W Q rx ry s p
  cases d <;> cases e <;> try exact False.elim p
  rename_i a b
  cases rx; cases ry
  refine ⟨_, _, rfl, rfl, ?_⟩
  have h : decide ((sT a).cps.toList < (sT b).cps.toList) = !leC b a := by unfold leC; rw [ltCps_eq, Bool.not_not]; rfl
  show Q (.bl (decide ((sT a).cps.toList < (sT b).cps.toList))) H
  rw [h]
  exact p.ok s (.bl _)
@[simp] theorem leS_ (a b : List Nat) : leS (.str a) (.str b) = pu (.bl (leC a b)) := rfl
@[simp] theorem ltS_ (a b : List Nat) : ltS (.str a) (.str b) = pu (.bl (!leC b a)) := rfl
@[simp] theorem inT_ (d : D) (xs : List D) : inD d (.tup xs) = gd (okq 23 d = true ∧ xs.all (okq 23) = true) (pu (.bl (xs.any fun z => eqD z d))) := rfl
@[simp] theorem inL_ (d : D) (xs : List D) : inD d (.lst xs) = gd (okq 23 d = true ∧ xs.all (okq 23) = true) (pu (.bl (xs.any fun z => eqD z d))) := rfl
@[simp] theorem niT_ (d : D) (xs : List D) : niD d (.tup xs) = gd (okq 23 d = true ∧ xs.all (okq 23) = true) (pu (.bl (!xs.any fun z => eqD z d))) := rfl
@[simp] theorem niL_ (d : D) (xs : List D) : niD d (.lst xs) = gd (okq 23 d = true ∧ xs.all (okq 23) = true) (pu (.bl (!xs.any fun z => eqD z d))) := rfl
end
end
end Dl

/-! All common texts. -/

set_option Elab.async false
set_option linter.all false
set_option maxRecDepth 100000
set_option maxHeartbeats 1000000
/-! The data-level programs of this law's text (printed by gen.py). -/
namespace Lk37
open PySem Dl
noncomputable section
def kd_ESCAPES : List (List Nat × D) := [([110], .str [10]), ([34], .str [34]), ([92], .str [92])]
/-- Tree.__init__ -/
def b_Tree___init__ : M Fl := (sFld [(57, 0)] (mV 0) (mCel mDNew))
def m_Tree___init__ : FunM := mkF 1 1 b_Tree___init__
theorem c_Tree___init__ (x0 : D) (so : So) : m_Tree___init__ [x0] so = endF (b_Tree___init__ [some (.dat x0)] so) := mkF_ (m := b_Tree___init__) (ds := [x0]) rfl

/-- Tree.paths -/
def b_Tree_paths : M Fl := (sRetD (mFz (bd (aC (mFld [(57, 0)] (mV 0)) aN) sortedK)))
def m_Tree_paths : FunM := mkF 1 1 b_Tree_paths
theorem c_Tree_paths (x0 : D) (so : So) : m_Tree_paths [x0] so = endF (b_Tree_paths [some (.dat x0)] so) := mkF_ (m := b_Tree_paths) (ds := [x0]) rfl

/-- Tree.kind -/
def b_Tree_kind : M Fl := (sSeq (sSet 2 (mGet1 (mFld [(57, 0)] (mV 0)) (mV 1)))
  (sSeq (sIf (mT (mIsN (mV 2))) (sRetD (pu (.str [110, 111, 110, 101]))) sPass)
  (sRetD (m2 ixD (mV 2) (pu (.int 0))))))
def m_Tree_kind : FunM := mkF 2 3 b_Tree_kind
theorem c_Tree_kind (x0 x1 : D) (so : So) : m_Tree_kind [x0, x1] so = endF (b_Tree_kind [some (.dat x0), some (.dat x1), none] so) := mkF_ (m := b_Tree_kind) (ds := [x0, x1]) rfl

/-- format_string -/
def b_format_string : M Fl := (sSeq (sSet 1 (mRepl [10] [92, 110] (mRepl [34] [92, 34] (mRepl [92] [92, 92] (mV 0)))))
  (sRetD (m2 addD (m2 addD (pu (.str [34])) (mV 1)) (pu (.str [34])))))
def m_format_string : FunM := mkF 1 2 b_format_string
theorem c_format_string (x0 : D) (so : So) : m_format_string [x0] so = endF (b_format_string [some (.dat x0), none] so) := mkF_ (m := b_format_string) (ds := [x0]) rfl

/-- file_line -/
def b_file_line : M Fl := (sRetD (mM1 joinD (pu (.str [32])) (mFz (mLst (aC (pu (.str [102, 105, 108, 101])) (aC (mV 0) (aC (mV 1) (aC (mFz (mCall m_format_string (aC (mV 2) aN))) aN))))))))
def m_file_line : FunM := mkF 3 3 b_file_line
theorem c_file_line (x0 x1 x2 : D) (so : So) : m_file_line [x0, x1, x2] so = endF (b_file_line [some (.dat x0), some (.dat x1), some (.dat x2)] so) := mkF_ (m := b_file_line) (ds := [x0, x1, x2]) rfl

/-- link_line -/
def b_link_line : M Fl := (sRetD (mM1 joinD (pu (.str [32])) (mFz (mLst (aC (pu (.str [108, 105, 110, 107])) (aC (mV 0) (aC (mV 1) aN)))))))
def m_link_line : FunM := mkF 2 2 b_link_line
theorem c_link_line (x0 x1 : D) (so : So) : m_link_line [x0, x1] so = endF (b_link_line [some (.dat x0), some (.dat x1)] so) := mkF_ (m := b_link_line) (ds := [x0, x1]) rfl

/-- Tree.writer -/
def b_Tree_writer : M Fl := (sSeq (sSet 2 (mGet1 (mFld [(57, 0)] (mV 0)) (mV 1)))
  (sSeq (sIf (tOrM (mT (mIsN (mV 2))) (mT (m2 neM (m2 ixD (mV 2) (pu (.int 0))) (pu (.str [102, 105, 108, 101]))))) (sRetD (pu .non)) sPass)
  (sRetD (m2 ixD (mV 2) (pu (.int 2))))))
def m_Tree_writer : FunM := mkF 2 3 b_Tree_writer
theorem c_Tree_writer (x0 x1 : D) (so : So) : m_Tree_writer [x0, x1] so = endF (b_Tree_writer [some (.dat x0), some (.dat x1), none] so) := mkF_ (m := b_Tree_writer) (ds := [x0, x1]) rfl

/-- Tree.read -/
def b_Tree_read : M Fl := (sSeq (sSet 2 (mGet1 (mFld [(57, 0)] (mV 0)) (mV 1)))
  (sSeq (sIf (tOrM (mT (mIsN (mV 2))) (mT (m2 neM (m2 ixD (mV 2) (pu (.int 0))) (pu (.str [102, 105, 108, 101]))))) (sRetD (pu .non)) sPass)
  (sRetD (m2 ixD (mV 2) (pu (.int 1))))))
def m_Tree_read : FunM := mkF 2 3 b_Tree_read
theorem c_Tree_read (x0 x1 : D) (so : So) : m_Tree_read [x0, x1] so = endF (b_Tree_read [some (.dat x0), some (.dat x1), none] so) := mkF_ (m := b_Tree_read) (ds := [x0, x1]) rfl

/-- Tree.target -/
def b_Tree_target : M Fl := (sSeq (sSet 2 (mGet1 (mFld [(57, 0)] (mV 0)) (mV 1)))
  (sSeq (sIf (tOrM (mT (mIsN (mV 2))) (mT (m2 neM (m2 ixD (mV 2) (pu (.int 0))) (pu (.str [108, 105, 110, 107]))))) (sRetD (pu .non)) sPass)
  (sRetD (m2 ixD (mV 2) (pu (.int 1))))))
def m_Tree_target : FunM := mkF 2 3 b_Tree_target
theorem c_Tree_target (x0 x1 : D) (so : So) : m_Tree_target [x0, x1] so = endF (b_Tree_target [some (.dat x0), some (.dat x1), none] so) := mkF_ (m := b_Tree_target) (ds := [x0, x1]) rfl

def l_save_tree_0 : M Fl := (sIf (mT (m2 eqM (mFz (mMeth [(57, m_Tree_kind)] (mV 0) (aC (mV 2) aN))) (pu (.str [102, 105, 108, 101])))) (sExpr (mHM1 apF (hV 1) (mFz (mCall m_file_line (aC (mV 2) (aC (mFz (mMeth [(57, m_Tree_writer)] (mV 0) (aC (mV 2) aN))) (aC (mFz (mMeth [(57, m_Tree_read)] (mV 0) (aC (mV 2) aN))) aN))))))) (sExpr (mHM1 apF (hV 1) (mFz (mCall m_link_line (aC (mV 2) (aC (mFz (mMeth [(57, m_Tree_target)] (mV 0) (aC (mV 2) aN))) aN)))))))
/-- save_tree -/
def b_save_tree : M Fl := (sSeq (sSetB 1 (mLst aN))
  (sSeq (sFor (tgN 2) (itL (mFz (mMeth [(57, m_Tree_paths)] (mV 0) aN))) l_save_tree_0)
  (sRetD (mM1 joinD (pu (.str [10])) (mVF 1)))))
def m_save_tree : FunM := mkF 1 3 b_save_tree
theorem c_save_tree (x0 : D) (so : So) : m_save_tree [x0] so = endF (b_save_tree [some (.dat x0), none, none] so) := mkF_ (m := b_save_tree) (ds := [x0]) rfl

/-- lines_of -/
def b_lines_of : M Fl := (sSeq (sIf (mT (m2 eqM (mV 0) (pu (.str [])))) (sRetD (mFz (mLst aN))) sPass)
  (sRetD (mFz (mM1 splitD (mV 0) (pu (.str [10]))))))
def m_lines_of : FunM := mkF 1 1 b_lines_of
theorem c_lines_of (x0 : D) (so : So) : m_lines_of [x0] so = endF (b_lines_of [some (.dat x0)] so) := mkF_ (m := b_lines_of) (ds := [x0]) rfl

/-- is_skipped -/
def b_is_skipped : M Fl := (sSeq (sSet 1 (mM1 lstripD (mV 0) (pu (.str [32]))))
  (sRetD (mOr (m2 eqM (mV 1) (pu (.str []))) (mM1 startsD (mV 1) (pu (.str [35]))))))
def m_is_skipped : FunM := mkF 1 2 b_is_skipped
theorem c_is_skipped (x0 : D) (so : So) : m_is_skipped [x0] so = endF (b_is_skipped [some (.dat x0), none] so) := mkF_ (m := b_is_skipped) (ds := [x0]) rfl

def w_scan_string_0 : M Bool := (mT (m2 ltD (mV 5) (bd (aC (mV 2) aN) lenD)))
def l_scan_string_0 : M Fl := (sSeq (sSet 6 (m2 ixD (mV 2) (mV 5)))
  (sSeq (sIf (mT (m2 eqM (mV 6) (pu (.str [34])))) (sRetD (mTup (aC (mM1 joinD (pu (.str [])) (mVF 4)) (aC (m2 addD (mV 5) (pu (.int 1))) aN)))) sPass)
  (sIf (mT (m2 neM (mV 6) (pu (.str [92])))) (sSeq (sExpr (mHM1 apF (hV 4) (mV 6)))
  (sAug 5 addD (pu (.int 1)))) (sIf (mT (m2 eqM (m2 addD (mV 5) (pu (.int 1))) (bd (aC (mV 2) aN) lenD))) sBreak (sIf (mT (mKIn false kd_ESCAPES (m2 ixD (mV 2) (m2 addD (mV 5) (pu (.int 1)))))) (sSeq (sExpr (mHM1 apF (hV 4) (mKGet kd_ESCAPES (m2 ixD (mV 2) (m2 addD (mV 5) (pu (.int 1)))))))
  (sAug 5 addD (pu (.int 2)))) (sRaise 11 5 [1, 2, 3, 4] (aC (mV 0) (aC (mV 1) (aC (m2 addD (mV 5) (pu (.int 1))) (aC (pu (.str [105, 110, 118, 97, 108, 105, 100, 32, 101, 115, 99, 97, 112, 101])) aN))))))))))
def t_scan_string_0 : M Fl := (sSetB 4 (mLst aN))
def t_scan_string_1 : M Fl := (sSet 5 (m2 addD (mV 3) (pu (.int 1))))
def t_scan_string_2 : M Fl := (sWhile (fun en so => 10000) w_scan_string_0 l_scan_string_0)
def t_scan_string_3 : M Fl := (sRaise 11 5 [1, 2, 3, 4] (aC (mV 0) (aC (mV 1) (aC (m2 addD (mV 3) (pu (.int 1))) (aC (pu (.str [117, 110, 116, 101, 114, 109, 105, 110, 97, 116, 101, 100, 32, 115, 116, 114, 105, 110, 103])) aN)))))
def r_scan_string_2 : M Fl := sSeq t_scan_string_2 t_scan_string_3
def r_scan_string_1 : M Fl := sSeq t_scan_string_1 r_scan_string_2
def r_scan_string_0 : M Fl := sSeq t_scan_string_0 r_scan_string_1
/-- scan_string -/
def b_scan_string : M Fl := r_scan_string_0
def m_scan_string : FunM := mkF 4 7 b_scan_string
theorem c_scan_string (x0 x1 x2 x3 : D) (so : So) : m_scan_string [x0, x1, x2, x3] so = endF (b_scan_string [some (.dat x0), some (.dat x1), some (.dat x2), some (.dat x3), none, none, none] so) := mkF_ (m := b_scan_string) (ds := [x0, x1, x2, x3]) rfl

def w_word_end_0 : M Bool := (tAndM (mT (m2 ltD (mV 2) (bd (aC (mV 0) aN) lenD))) (mT (m2 niD (m2 ixD (mV 0) (mV 2)) (m2 addD (pu (.str [32, 34])) (pu (.str [40, 41, 44, 43]))))))
def l_word_end_0 : M Fl := (sAug 2 addD (pu (.int 1)))
/-- word_end -/
def b_word_end : M Fl := (sSeq (sSet 2 (mV 1))
  (sSeq (sWhile (fun en so => 10000) w_word_end_0 l_word_end_0)
  (sRetD (mV 2))))
def m_word_end : FunM := mkF 2 3 b_word_end
theorem c_word_end (x0 x1 : D) (so : So) : m_word_end [x0, x1] so = endF (b_word_end [some (.dat x0), some (.dat x1), none] so) := mkF_ (m := b_word_end) (ds := [x0, x1]) rfl

def w_scan_line_0 : M Bool := (mT (m2 ltD (mV 4) (bd (aC (mV 2) aN) lenD)))
def l_scan_line_0 : M Fl := (sSeq (sSet 5 (m2 ixD (mV 2) (mV 4)))
  (sIf (mT (m2 eqM (mV 5) (pu (.str [32])))) (sAug 4 addD (pu (.int 1))) (sIf (mT (m2 inD (mV 5) (pu (.str [40, 41, 44, 43])))) (sSeq (sExpr (mHM1 apF (hV 3) (mTup (aC (pu (.str [115, 105, 103, 110])) (aC (mV 5) (aC (m2 addD (mV 4) (pu (.int 1))) aN))))))
  (sAug 4 addD (pu (.int 1)))) (sIf (mT (m2 eqM (mV 5) (pu (.str [34])))) (sSeq (sSetT (tgP 6 7) (mFz (mCall m_scan_string (aC (mV 0) (aC (mV 1) (aC (mV 2) (aC (mV 4) aN)))))))
  (sSeq (sExpr (mHM1 apF (hV 3) (mTup (aC (pu (.str [115, 116, 114, 105, 110, 103])) (aC (mV 6) (aC (m2 addD (mV 4) (pu (.int 1))) aN))))))
  (sSet 4 (mV 7)))) (sSeq (sSet 7 (mFz (mCall m_word_end (aC (mV 2) (aC (mV 4) aN)))))
  (sSeq (sExpr (mHM1 apF (hV 3) (mTup (aC (pu (.str [119, 111, 114, 100])) (aC (mSl slS (mV 2) (oS (mV 4)) (oS (mV 7))) (aC (m2 addD (mV 4) (pu (.int 1))) aN))))))
  (sSet 4 (mV 7))))))))
def t_scan_line_0 : M Fl := (sSetB 3 (mLst aN))
def t_scan_line_1 : M Fl := (sSet 4 (pu (.int 0)))
def t_scan_line_2 : M Fl := (sIf (mTru (mFz (mCall m_is_skipped (aC (mV 2) aN)))) (sRetD (mVF 3)) sPass)
def t_scan_line_3 : M Fl := (sWhile (fun en so => 10000) w_scan_line_0 l_scan_line_0)
def t_scan_line_4 : M Fl := (sRetD (mVF 3))
def r_scan_line_3 : M Fl := sSeq t_scan_line_3 t_scan_line_4
def r_scan_line_2 : M Fl := sSeq t_scan_line_2 r_scan_line_3
def r_scan_line_1 : M Fl := sSeq t_scan_line_1 r_scan_line_2
def r_scan_line_0 : M Fl := sSeq t_scan_line_0 r_scan_line_1
/-- scan_line -/
def b_scan_line : M Fl := r_scan_line_0
def m_scan_line : FunM := mkF 3 8 b_scan_line
theorem c_scan_line (x0 x1 x2 : D) (so : So) : m_scan_line [x0, x1, x2] so = endF (b_scan_line [some (.dat x0), some (.dat x1), some (.dat x2), none, none, none, none, none] so) := mkF_ (m := b_scan_line) (ds := [x0, x1, x2]) rfl

def y_parts_of_0 : M Fl := (sSet 2 (mFz (mCall m_scan_line (aC (pu (.str [])) (aC (mV 0) (aC (mV 1) aN))))))
def e_parts_of_0 : M D := (m2 ixD (mV 3) (pu (.int 1)))
def e_parts_of_1 : M D := (m2 ixD (mV 3) (pu (.int 0)))
/-- parts_of -/
def b_parts_of : M Fl := (sSeq (sTry y_parts_of_0 [⟨none, [(11, true)], sDead⟩])
  (sRetD (mTup (aC (mFz (mLc [3] (tgN 3) (itL (mV 2)) (pu true) e_parts_of_1)) (aC (mFz (mLc [3] (tgN 3) (itL (mV 2)) (pu true) e_parts_of_0)) aN)))))
def m_parts_of : FunM := mkF 2 4 b_parts_of
theorem c_parts_of (x0 x1 : D) (so : So) : m_parts_of [x0, x1] so = endF (b_parts_of [some (.dat x0), some (.dat x1), none, none] so) := mkF_ (m := b_parts_of) (ds := [x0, x1]) rfl

def e_is_name_0 : M D := (m2 inD (mV 2) (mV 1))
/-- is_name -/
def b_is_name : M Fl := (sSeq (sIf (tOrM (mT (m2 ltD (bd (aC (mV 0) aN) lenD) (pu (.int 1)))) (tOrM (mT (m2 gtD (bd (aC (mV 0) aN) lenD) (pu (.int 12)))) (mT (m2 eqM (m2 ixD (mV 0) (pu (.int 0))) (pu (.str [46])))))) (sRetD (pu (.bl false))) sPass)
  (sRetD (bd (aC (mFz (mLc [2] (tgN 2) (itS (mV 0)) (pu true) e_is_name_0)) aN) allD)))
def m_is_name : FunM := mkF 2 3 b_is_name
theorem c_is_name (x0 x1 : D) (so : So) : m_is_name [x0, x1] so = endF (b_is_name [some (.dat x0), some (.dat x1), none] so) := mkF_ (m := b_is_name) (ds := [x0, x1]) rfl

def e_is_path_0 : M D := (mFz (mCall m_is_name (aC (mV 2) (aC (pu (.str [97, 98, 99, 100, 101, 102, 103, 104, 105, 106, 107, 108, 109, 110, 111, 112, 113, 114, 115, 116, 117, 118, 119, 120, 121, 122, 48, 49, 50, 51, 52, 53, 54, 55, 56, 57, 95, 46])) aN))))
/-- is_path -/
def b_is_path : M Fl := (sSeq (sSet 1 (mFz (mM1 splitD (mV 0) (pu (.str [47])))))
  (sRetD (mAnd (m2 leD (bd (aC (mV 1) aN) lenD) (pu (.int 4))) (bd (aC (mFz (mLc [2] (tgN 2) (itL (mV 1)) (pu true) e_is_path_0)) aN) allD))))
def m_is_path : FunM := mkF 1 3 b_is_path
theorem c_is_path (x0 : D) (so : So) : m_is_path [x0] so = endF (b_is_path [some (.dat x0), none, none] so) := mkF_ (m := b_is_path) (ds := [x0]) rfl

/-- is_text_code -/
def b_is_text_code : M Fl := (sRetD (mOr (m2 eqM (mV 0) (pu (.int 10))) (mAnd (mCh leD leD (pu (.int 32)) (mV 0) (pu (.int 126))) (m2 neM (mV 0) (pu (.int 37))))))
def m_is_text_code : FunM := mkF 1 1 b_is_text_code
theorem c_is_text_code (x0 : D) (so : So) : m_is_text_code [x0] so = endF (b_is_text_code [some (.dat x0)] so) := mkF_ (m := b_is_text_code) (ds := [x0]) rfl

def e_is_text_0 : M D := (mFz (mCall m_is_text_code (aC (bd (aC (mV 1) aN) ordD) aN)))
/-- is_text -/
def b_is_text : M Fl := (sRetD (bd (aC (mFz (mLc [1] (tgN 1) (itS (mV 0)) (pu true) e_is_text_0)) aN) allD))
def m_is_text : FunM := mkF 1 2 b_is_text
theorem c_is_text (x0 : D) (so : So) : m_is_text [x0] so = endF (b_is_text [some (.dat x0), none] so) := mkF_ (m := b_is_text) (ds := [x0]) rfl

/-- is_content -/
def b_is_content : M Fl := (sRetD (mAnd (m2 leD (bd (aC (mV 0) aN) lenD) (pu (.int 400))) (mFz (mCall m_is_text (aC (mV 0) aN)))))
def m_is_content : FunM := mkF 1 1 b_is_content
theorem c_is_content (x0 : D) (so : So) : m_is_content [x0] so = endF (b_is_content [some (.dat x0)] so) := mkF_ (m := b_is_content) (ds := [x0]) rfl

def t_read_file_line_0 : M Fl := (sIf (tOrM (mT (m2 neM (mV 1) (mFz (mLst (aC (pu (.str [119, 111, 114, 100])) (aC (pu (.str [119, 111, 114, 100])) (aC (pu (.str [119, 111, 114, 100])) (aC (pu (.str [115, 116, 114, 105, 110, 103])) aN)))))))) (mT (m2 neM (m2 ixD (mV 2) (pu (.int 0))) (pu (.str [102, 105, 108, 101]))))) (sRetD (pu .non)) sPass)
def t_read_file_line_1 : M Fl := (sIf (tOrM (tNotM (mTru (mFz (mCall m_is_path (aC (m2 ixD (mV 2) (pu (.int 1))) aN))))) (tOrM (mT (m2 niD (m2 ixD (mV 2) (pu (.int 2))) (pu (.tup [.str [112, 101, 114, 115, 111, 110], .str [98, 117, 105, 108, 100]])))) (tNotM (mTru (mFz (mCall m_is_content (aC (m2 ixD (mV 2) (pu (.int 3))) aN))))))) (sRetD (pu .non)) sPass)
def t_read_file_line_2 : M Fl := (sIf (mT (m2 neM (mFz (mCall m_file_line (aC (m2 ixD (mV 2) (pu (.int 1))) (aC (m2 ixD (mV 2) (pu (.int 2))) (aC (m2 ixD (mV 2) (pu (.int 3))) aN))))) (mV 0))) (sRetD (pu .non)) sPass)
def t_read_file_line_3 : M Fl := (sRetD (mTup (aC (m2 ixD (mV 2) (pu (.int 1))) (aC (mTup (aC (pu (.str [102, 105, 108, 101])) (aC (m2 ixD (mV 2) (pu (.int 3))) (aC (m2 ixD (mV 2) (pu (.int 2))) aN)))) aN))))
def r_read_file_line_2 : M Fl := sSeq t_read_file_line_2 t_read_file_line_3
def r_read_file_line_1 : M Fl := sSeq t_read_file_line_1 r_read_file_line_2
def r_read_file_line_0 : M Fl := sSeq t_read_file_line_0 r_read_file_line_1
/-- read_file_line -/
def b_read_file_line : M Fl := r_read_file_line_0
def m_read_file_line : FunM := mkF 3 3 b_read_file_line
theorem c_read_file_line (x0 x1 x2 : D) (so : So) : m_read_file_line [x0, x1, x2] so = endF (b_read_file_line [some (.dat x0), some (.dat x1), some (.dat x2)] so) := mkF_ (m := b_read_file_line) (ds := [x0, x1, x2]) rfl

/-- read_link_line -/
def b_read_link_line : M Fl := (sSeq (sIf (tOrM (mT (m2 neM (mV 1) (mFz (mLst (aC (pu (.str [119, 111, 114, 100])) (aC (pu (.str [119, 111, 114, 100])) (aC (pu (.str [119, 111, 114, 100])) aN))))))) (mT (m2 neM (m2 ixD (mV 2) (pu (.int 0))) (pu (.str [108, 105, 110, 107]))))) (sRetD (pu .non)) sPass)
  (sSeq (sIf (tOrM (tNotM (mTru (mFz (mCall m_is_path (aC (m2 ixD (mV 2) (pu (.int 1))) aN))))) (tOrM (tNotM (mTru (mFz (mCall m_is_path (aC (m2 ixD (mV 2) (pu (.int 2))) aN))))) (mT (m2 neM (mFz (mCall m_link_line (aC (m2 ixD (mV 2) (pu (.int 1))) (aC (m2 ixD (mV 2) (pu (.int 2))) aN)))) (mV 0))))) (sRetD (pu .non)) sPass)
  (sRetD (mTup (aC (m2 ixD (mV 2) (pu (.int 1))) (aC (mTup (aC (pu (.str [108, 105, 110, 107])) (aC (m2 ixD (mV 2) (pu (.int 2))) aN))) aN))))))
def m_read_link_line : FunM := mkF 3 3 b_read_link_line
theorem c_read_link_line (x0 x1 x2 : D) (so : So) : m_read_link_line [x0, x1, x2] so = endF (b_read_link_line [some (.dat x0), some (.dat x1), some (.dat x2)] so) := mkF_ (m := b_read_link_line) (ds := [x0, x1, x2]) rfl

def u_load_tree_0_0 : M Fl := (sSetT (tgP 7 8) (mFz (mCall m_parts_of (aC (m2 addD (mV 6) (pu (.int 1))) (aC (m2 ixD (mV 5) (mV 6)) aN)))))
def u_load_tree_0_1 : M Fl := (sSet 9 (mOrT (mFz (mCall m_read_file_line (aC (m2 ixD (mV 5) (mV 6)) (aC (mV 7) (aC (mV 8) aN))))) (mFz (mCall m_read_link_line (aC (m2 ixD (mV 5) (mV 6)) (aC (mV 7) (aC (mV 8) aN)))))))
def u_load_tree_0_2 : M Fl := (sIf (tOrM (mT (mIsN (mV 9))) (mT (m2 leS (m2 ixD (mV 9) (pu (.int 0))) (mV 4)))) sDead sPass)
def u_load_tree_0_3 : M Fl := (sIf (tOrM (mT (m2 neM (m2 ixD (m2 ixD (mV 9) (pu (.int 1))) (mNeg (pu (.int 1)))) (pu (.str [98, 117, 105, 108, 100])))) (mT (m2 eqM (m2 ixD (m2 ixD (mV 9) (pu (.int 1))) (pu (.int 0))) (pu (.str [108, 105, 110, 107]))))) (sAug 3 addD (pu (.int 1))) sPass)
def u_load_tree_0_4 : M Fl := (sIf (mT (m2 gtD (mV 3) (pu (.int 60)))) sDead sPass)
def u_load_tree_0_5 : M Fl := (sSet 4 (m2 ixD (mV 9) (pu (.int 0))))
def u_load_tree_0_6 : M Fl := (sDPutM (mV 2) (mV 4) (m2 ixD (mV 9) (pu (.int 1))))
def v_load_tree_0_5 : M Fl := sSeq u_load_tree_0_5 u_load_tree_0_6
def v_load_tree_0_4 : M Fl := sSeq u_load_tree_0_4 v_load_tree_0_5
def v_load_tree_0_3 : M Fl := sSeq u_load_tree_0_3 v_load_tree_0_4
def v_load_tree_0_2 : M Fl := sSeq u_load_tree_0_2 v_load_tree_0_3
def v_load_tree_0_1 : M Fl := sSeq u_load_tree_0_1 v_load_tree_0_2
def v_load_tree_0_0 : M Fl := sSeq u_load_tree_0_0 v_load_tree_0_1
def l_load_tree_0 : M Fl := v_load_tree_0_0
def t_load_tree_0 : M Fl := (sSet 1 (mNew 57 1 m_Tree___init__ aN))
def t_load_tree_1 : M Fl := (sSet 2 (mCel mDNew))
def t_load_tree_2 : M Fl := (sSet 3 (pu (.int 0)))
def t_load_tree_3 : M Fl := (sSet 4 (pu (.str [])))
def t_load_tree_4 : M Fl := (sSet 5 (mFz (mCall m_lines_of (aC (mV 0) aN))))
def t_load_tree_5 : M Fl := (sFor (tgN 6) (itR1 (bd (aC (mV 5) aN) lenD)) l_load_tree_0)
def t_load_tree_6 : M Fl := (sFld [(57, 0)] (mV 1) (mV 2))
def t_load_tree_7 : M Fl := (sRetD (mV 1))
def r_load_tree_6 : M Fl := sSeq t_load_tree_6 t_load_tree_7
def r_load_tree_5 : M Fl := sSeq t_load_tree_5 r_load_tree_6
def r_load_tree_4 : M Fl := sSeq t_load_tree_4 r_load_tree_5
def r_load_tree_3 : M Fl := sSeq t_load_tree_3 r_load_tree_4
def r_load_tree_2 : M Fl := sSeq t_load_tree_2 r_load_tree_3
def r_load_tree_1 : M Fl := sSeq t_load_tree_1 r_load_tree_2
def r_load_tree_0 : M Fl := sSeq t_load_tree_0 r_load_tree_1
/-- load_tree -/
def b_load_tree : M Fl := r_load_tree_0
def m_load_tree : FunM := mkF 1 10 b_load_tree
theorem c_load_tree (x0 : D) (so : So) : m_load_tree [x0] so = endF (b_load_tree [some (.dat x0), none, none, none, none, none, none, none, none, none] so) := mkF_ (m := b_load_tree) (ds := [x0]) rfl

def e_is_identifier_0 : M D := (m2 inD (mV 1) (m2 addD (pu (.str [97, 98, 99, 100, 101, 102, 103, 104, 105, 106, 107, 108, 109, 110, 111, 112, 113, 114, 115, 116, 117, 118, 119, 120, 121, 122])) (pu (.str [48, 49, 50, 51, 52, 53, 54, 55, 56, 57, 95]))))
/-- is_identifier -/
def b_is_identifier : M Fl := (sSeq (sIf (tOrM (mT (m2 ltD (bd (aC (mV 0) aN) lenD) (pu (.int 1)))) (tOrM (mT (m2 gtD (bd (aC (mV 0) aN) lenD) (pu (.int 12)))) (mT (m2 niD (m2 ixD (mV 0) (pu (.int 0))) (pu (.str [97, 98, 99, 100, 101, 102, 103, 104, 105, 106, 107, 108, 109, 110, 111, 112, 113, 114, 115, 116, 117, 118, 119, 120, 121, 122])))))) (sRetD (pu (.bl false))) sPass)
  (sRetD (bd (aC (mFz (mLc [1] (tgN 1) (itS (mV 0)) (pu true) e_is_identifier_0)) aN) allD)))
def m_is_identifier : FunM := mkF 1 2 b_is_identifier
theorem c_is_identifier (x0 : D) (so : So) : m_is_identifier [x0] so = endF (b_is_identifier [some (.dat x0), none] so) := mkF_ (m := b_is_identifier) (ds := [x0]) rfl

/-- setting_line -/
def b_setting_line : M Fl := (sRetD (mM1 joinD (pu (.str [32])) (mFz (mLst (aC (pu (.str [115, 101, 116, 116, 105, 110, 103])) (aC (mV 0) (aC (mFz (mCall m_format_string (aC (mV 1) aN))) aN)))))))
def m_setting_line : FunM := mkF 2 2 b_setting_line
theorem c_setting_line (x0 x1 : D) (so : So) : m_setting_line [x0, x1] so = endF (b_setting_line [some (.dat x0), some (.dat x1)] so) := mkF_ (m := b_setting_line) (ds := [x0, x1]) rfl

def u_load_settings_0_0 : M Fl := (sSetT (tgP 5 6) (mFz (mCall m_parts_of (aC (m2 addD (mV 4) (pu (.int 1))) (aC (m2 ixD (mV 3) (mV 4)) aN)))))
def u_load_settings_0_1 : M Fl := (sIf (tOrM (mT (m2 neM (mV 5) (mFz (mLst (aC (pu (.str [119, 111, 114, 100])) (aC (pu (.str [119, 111, 114, 100])) (aC (pu (.str [115, 116, 114, 105, 110, 103])) aN))))))) (tOrM (mT (m2 neM (m2 ixD (mV 6) (pu (.int 0))) (pu (.str [115, 101, 116, 116, 105, 110, 103])))) (tNotM (mTru (mFz (mCall m_is_identifier (aC (m2 ixD (mV 6) (pu (.int 1))) aN))))))) sDead sPass)
def u_load_settings_0_2 : M Fl := (sIf (tOrM (tNotM (mTru (mFz (mCall m_is_content (aC (m2 ixD (mV 6) (pu (.int 2))) aN))))) (tOrM (mT (m2 neM (mFz (mCall m_setting_line (aC (m2 ixD (mV 6) (pu (.int 1))) (aC (m2 ixD (mV 6) (pu (.int 2))) aN)))) (m2 ixD (mV 3) (mV 4)))) (mT (m2 leS (m2 ixD (mV 6) (pu (.int 1))) (mV 2))))) sDead sPass)
def u_load_settings_0_3 : M Fl := (sSet 2 (m2 ixD (mV 6) (pu (.int 1))))
def u_load_settings_0_4 : M Fl := (sDPutM (mV 1) (mV 2) (m2 ixD (mV 6) (pu (.int 2))))
def v_load_settings_0_3 : M Fl := sSeq u_load_settings_0_3 u_load_settings_0_4
def v_load_settings_0_2 : M Fl := sSeq u_load_settings_0_2 v_load_settings_0_3
def v_load_settings_0_1 : M Fl := sSeq u_load_settings_0_1 v_load_settings_0_2
def v_load_settings_0_0 : M Fl := sSeq u_load_settings_0_0 v_load_settings_0_1
def l_load_settings_0 : M Fl := v_load_settings_0_0
def t_load_settings_0 : M Fl := (sSet 1 (mCel mDNew))
def t_load_settings_1 : M Fl := (sSet 2 (pu (.str [])))
def t_load_settings_2 : M Fl := (sSet 3 (mFz (mCall m_lines_of (aC (mV 0) aN))))
def t_load_settings_3 : M Fl := (sFor (tgN 4) (itR1 (bd (aC (mV 3) aN) lenD)) l_load_settings_0)
def t_load_settings_4 : M Fl := (sRetD (mV 1))
def r_load_settings_3 : M Fl := sSeq t_load_settings_3 t_load_settings_4
def r_load_settings_2 : M Fl := sSeq t_load_settings_2 r_load_settings_3
def r_load_settings_1 : M Fl := sSeq t_load_settings_1 r_load_settings_2
def r_load_settings_0 : M Fl := sSeq t_load_settings_0 r_load_settings_1
/-- load_settings -/
def b_load_settings : M Fl := r_load_settings_0
def m_load_settings : FunM := mkF 1 7 b_load_settings
theorem c_load_settings (x0 : D) (so : So) : m_load_settings [x0] so = endF (b_load_settings [some (.dat x0), none, none, none, none, none, none] so) := mkF_ (m := b_load_settings) (ds := [x0]) rfl

/-- _law_cell -/
def b__law_cell : M Fl := (sSeq (sIf (mT (m2 ltD (mV 1) (bd (aC (mV 0) aN) lenD))) (sRetD (bd (aC (m2 ixD (mV 0) (mV 1)) aN) intD)) sPass)
  (sRetD (pu (.int 0))))
def m__law_cell : FunM := mkF 2 2 b__law_cell
theorem c__law_cell (x0 x1 : D) (so : So) : m__law_cell [x0, x1] so = endF (b__law_cell [some (.dat x0), some (.dat x1)] so) := mkF_ (m := b__law_cell) (ds := [x0, x1]) rfl

def e__law_text_0 : M D := (m2 ixD (mV 1) (m2 modD (bd (aC (mV 2) aN) intD) (pu (.int 95))))
/-- _law_text -/
def b__law_text : M Fl := (sSeq (sSet 1 (pu (.str [10, 32, 33, 34, 35, 36, 38, 39, 40, 41, 42, 43, 44, 45, 46, 47, 48, 49, 50, 51, 52, 53, 54, 55, 56, 57, 58, 59, 60, 61, 62, 63, 64, 65, 66, 67, 68, 69, 70, 71, 72, 73, 74, 75, 76, 77, 78, 79, 80, 81, 82, 83, 84, 85, 86, 87, 88, 89, 90, 91, 92, 93, 94, 95, 96])))
  (sSeq (sSet 1 (m2 addD (mV 1) (pu (.str [97, 98, 99, 100, 101, 102, 103, 104, 105, 106, 107, 108, 109, 110, 111, 112, 113, 114, 115, 116, 117, 118, 119, 120, 121, 122, 123, 124, 125, 126]))))
  (sRetD (mM1 joinD (pu (.str [])) (mFz (mLc [2] (tgN 2) (itL (mV 0)) (pu true) e__law_text_0))))))
def m__law_text : FunM := mkF 1 3 b__law_text
theorem c__law_text (x0 : D) (so : So) : m__law_text [x0] so = endF (b__law_text [some (.dat x0), none, none] so) := mkF_ (m := b__law_text) (ds := [x0]) rfl

def l__law_draws_0 : M Fl := (sIf (tAndM (mT (m2 geD (bd (aC (mV 0) aN) absD) (m2 powD (pu (.int 10)) (pu (.int 18))))) (mT (m2 gtD (mV 4) (pu (.int 0))))) (sSeq (sExpr (mHM1 apF (hV 3) (m2 modD (bd (aC (mV 4) aN) intD) (mV 2))))
  (sSet 4 (m2 divD (mV 4) (mV 2)))) (sSeq (sSet 6 (m2 modD (bd (aC (m2 addD (m2 addD (m2 mulD (bd (aC (mV 0) aN) absD) (pu (.int 48271))) (m2 mulD (mV 5) (pu (.int 69621)))) (pu (.int 7))) aN) intD) (pu (.int 2147483647))))
  (sSeq (sSet 6 (m2 modD (bd (aC (m2 addD (m2 addD (m2 mulD (mV 6) (pu (.int 16807))) (m2 divD (mV 6) (pu (.int 127)))) (m2 mulD (mV 5) (pu (.int 31)))) aN) intD) (pu (.int 2147483629))))
  (sExpr (mHM1 apF (hV 3) (m2 modD (m2 divD (mV 6) (pu (.int 3))) (mV 2)))))))
def t__law_draws_0 : M Fl := (sSetB 3 (mLst aN))
def t__law_draws_1 : M Fl := (sSet 4 (bd (aC (mV 0) aN) absD))
def t__law_draws_2 : M Fl := (sFor (tgN 5) (itR1 (mV 1)) l__law_draws_0)
def t__law_draws_3 : M Fl := (sRetD (mVF 3))
def r__law_draws_2 : M Fl := sSeq t__law_draws_2 t__law_draws_3
def r__law_draws_1 : M Fl := sSeq t__law_draws_1 r__law_draws_2
def r__law_draws_0 : M Fl := sSeq t__law_draws_0 r__law_draws_1
/-- _law_draws -/
def b__law_draws : M Fl := r__law_draws_0
def m__law_draws : FunM := mkF 3 7 b__law_draws
theorem c__law_draws (x0 x1 x2 : D) (so : So) : m__law_draws [x0, x1, x2] so = endF (b__law_draws [some (.dat x0), some (.dat x1), some (.dat x2), none, none, none, none] so) := mkF_ (m := b__law_draws) (ds := [x0, x1, x2]) rfl

/-- _law_content -/
def b__law_content : M Fl := (sSeq (sIf (mT (m2 eqM (m2 modD (mV 0) (pu (.int 17))) (pu (.int 3)))) (sRetD (mFz (mCall m__law_text (aC (mFz (mCall m__law_draws (aC (mV 0) (aC (pu (.int 400)) (aC (pu (.int 95)) aN))))) aN)))) sPass)
  (sRetD (mFz (mCall m__law_text (aC (mFz (mCall m__law_draws (aC (mV 0) (aC (m2 modD (mV 0) (pu (.int 13))) (aC (pu (.int 95)) aN))))) aN)))))
def m__law_content : FunM := mkF 1 1 b__law_content
theorem c__law_content (x0 : D) (so : So) : m__law_content [x0] so = endF (b__law_content [some (.dat x0)] so) := mkF_ (m := b__law_content) (ds := [x0]) rfl

/-- Tree.is_personal -/
def b_Tree_is_personal : M Fl := (sRetD (mOr (m2 eqM (mFz (mMeth [(57, m_Tree_kind)] (mV 0) (aC (mV 1) aN))) (pu (.str [108, 105, 110, 107]))) (m2 eqM (mFz (mMeth [(57, m_Tree_writer)] (mV 0) (aC (mV 1) aN))) (pu (.str [112, 101, 114, 115, 111, 110])))))
def m_Tree_is_personal : FunM := mkF 2 2 b_Tree_is_personal
theorem c_Tree_is_personal (x0 x1 : D) (so : So) : m_Tree_is_personal [x0, x1] so = endF (b_Tree_is_personal [some (.dat x0), some (.dat x1)] so) := mkF_ (m := b_Tree_is_personal) (ds := [x0, x1]) rfl

def q_Tree_check_room_0 : M Bool := (mTru (mFz (mMeth [(57, m_Tree_is_personal)] (mV 0) (aC (mV 2) aN))))
def e_Tree_check_room_0 : M D := (pu (.int 1))
/-- Tree.check_room -/
def b_Tree_check_room : M Fl := (sIf (tAndM (tNotM (mTru (mFz (mMeth [(57, m_Tree_is_personal)] (mV 0) (aC (mV 1) aN))))) (mT (m2 geD (bd (aC (mFz (lockM (selO (mFld [(57, 0)] (mV 0))) (mLc [2] (tgN 2) (itK (mFld [(57, 0)] (mV 0))) q_Tree_check_room_0 e_Tree_check_room_0))) aN) lenD) (pu (.int 60))))) (sRaise 10 2 [1] (aC (mV 1) aN)) sPass)
def m_Tree_check_room : FunM := mkF 2 3 b_Tree_check_room
theorem c_Tree_check_room (x0 x1 : D) (so : So) : m_Tree_check_room [x0, x1] so = endF (b_Tree_check_room [some (.dat x0), some (.dat x1), none] so) := mkF_ (m := b_Tree_check_room) (ds := [x0, x1]) rfl

def t_Tree_write_0 : M Fl := (sIf (tNotM (mTru (mFz (mCall m_is_path (aC (mV 1) aN))))) (sRaise 7 2 [1] (aC (mV 1) aN)) sPass)
def t_Tree_write_1 : M Fl := (sIf (tNotM (mTru (mFz (mCall m_is_content (aC (mV 2) aN))))) (sRaise 8 2 [1] (aC (mV 1) aN)) sPass)
def t_Tree_write_2 : M Fl := (sIf (mT (m2 eqM (mV 3) (pu (.str [112, 101, 114, 115, 111, 110])))) (sExpr (mFz (mMeth [(57, m_Tree_check_room)] (mV 0) (aC (mV 1) aN)))) sPass)
def t_Tree_write_3 : M Fl := (sDPutM (mFld [(57, 0)] (mV 0)) (mV 1) (mTup (aC (pu (.str [102, 105, 108, 101])) (aC (mV 2) (aC (mV 3) aN)))))
def r_Tree_write_2 : M Fl := sSeq t_Tree_write_2 t_Tree_write_3
def r_Tree_write_1 : M Fl := sSeq t_Tree_write_1 r_Tree_write_2
def r_Tree_write_0 : M Fl := sSeq t_Tree_write_0 r_Tree_write_1
/-- Tree.write -/
def b_Tree_write : M Fl := r_Tree_write_0
def m_Tree_write : FunM := mkF 4 4 b_Tree_write
theorem c_Tree_write (x0 x1 x2 x3 : D) (so : So) : m_Tree_write [x0, x1, x2, x3] so = endF (b_Tree_write [some (.dat x0), some (.dat x1), some (.dat x2), some (.dat x3)] so) := mkF_ (m := b_Tree_write) (ds := [x0, x1, x2, x3]) rfl

def t_Tree_link_0 : M Fl := (sIf (tNotM (mTru (mFz (mCall m_is_path (aC (mV 1) aN))))) (sRaise 7 2 [1] (aC (mV 1) aN)) sPass)
def t_Tree_link_1 : M Fl := (sIf (tNotM (mTru (mFz (mCall m_is_path (aC (mV 2) aN))))) (sRaise 7 2 [1] (aC (mV 2) aN)) sPass)
def t_Tree_link_2 : M Fl := (sExpr (mFz (mMeth [(57, m_Tree_check_room)] (mV 0) (aC (mV 1) aN))))
def t_Tree_link_3 : M Fl := (sDPutM (mFld [(57, 0)] (mV 0)) (mV 1) (mTup (aC (pu (.str [108, 105, 110, 107])) (aC (mV 2) aN))))
def r_Tree_link_2 : M Fl := sSeq t_Tree_link_2 t_Tree_link_3
def r_Tree_link_1 : M Fl := sSeq t_Tree_link_1 r_Tree_link_2
def r_Tree_link_0 : M Fl := sSeq t_Tree_link_0 r_Tree_link_1
/-- Tree.link -/
def b_Tree_link : M Fl := r_Tree_link_0
def m_Tree_link : FunM := mkF 3 3 b_Tree_link
theorem c_Tree_link (x0 x1 x2 : D) (so : So) : m_Tree_link [x0, x1, x2] so = endF (b_Tree_link [some (.dat x0), some (.dat x1), some (.dat x2)] so) := mkF_ (m := b_Tree_link) (ds := [x0, x1, x2]) rfl

def e_save_settings_0 : M D := (mFz (mCall m_setting_line (aC (mV 1) (aC (mDGet (mV 0) (mV 1)) aN))))
/-- save_settings -/
def b_save_settings : M Fl := (sRetD (mM1 joinD (pu (.str [10])) (mFz (mLc [1] (tgN 1) (itL (mFz (bd (aC (mV 0) aN) sortedK))) (pu true) e_save_settings_0))))
def m_save_settings : FunM := mkF 1 2 b_save_settings
theorem c_save_settings (x0 : D) (so : So) : m_save_settings [x0] so = endF (b_save_settings [some (.dat x0), none] so) := mkF_ (m := b_save_settings) (ds := [x0]) rfl

/-- _law_string -/
def b__law_string : M Fl := (sRetD (m2 addD (m2 addD (pu (.str [34])) (mRepl [10] [92, 110] (mRepl [34] [92, 34] (mRepl [92] [92, 92] (mV 0))))) (pu (.str [34]))))
def m__law_string : FunM := mkF 1 1 b__law_string
theorem c__law_string (x0 : D) (so : So) : m__law_string [x0] so = endF (b__law_string [some (.dat x0)] so) := mkF_ (m := b__law_string) (ds := [x0]) rfl

def l_law_0 : M Fl := (sSeq (sSet 5 (bd (aC (mFz (mCall m__law_cell (aC (mV 0) (aC (m2 addD (pu (.int 1)) (mV 4)) aN)))) aN) absD))
  (sSeq (sSet 6 (m2 addD (m2 ixD (mFz (mLst (aC (pu (.str [97])) (aC (pu (.str [98, 46, 99])) (aC (pu (.str [100, 47, 101])) (aC (pu (.str [120, 95, 57, 47, 121, 47, 122])) aN)))))) (m2 modD (mV 5) (pu (.int 4)))) (m2 ixD (mFz (mLst (aC (pu (.str [])) (aC (pu (.str [48])) (aC (pu (.str [49, 47, 113])) (aC (pu (.str [46, 114])) (aC (pu (.str [115])) aN))))))) (m2 modD (m2 divD (mV 5) (pu (.int 4))) (pu (.int 5))))))
  (sIf (mT (m2 eqM (m2 modD (m2 divD (mV 5) (pu (.int 20))) (pu (.int 3))) (pu (.int 0)))) (sSeq (sSet 7 (m2 ixD (mFz (mLst (aC (pu (.str [97])) (aC (pu (.str [100, 47, 101, 48])) (aC (pu (.str [113])) aN))))) (m2 modD (m2 divD (mV 5) (pu (.int 60))) (pu (.int 3)))))
  (sSeq (sExpr (mFz (mMeth [(57, m_Tree_link)] (mV 2) (aC (mV 6) (aC (mV 7) aN)))))
  (sDPutM (mV 3) (mV 6) (m2 addD (m2 addD (m2 addD (pu (.str [108, 105, 110, 107, 32])) (mV 6)) (pu (.str [32]))) (mV 7))))) (sSeq (sSet 8 (m2 ixD (mFz (mLst (aC (pu (.str [112, 101, 114, 115, 111, 110])) (aC (pu (.str [98, 117, 105, 108, 100])) aN)))) (m2 subD (m2 modD (m2 divD (mV 5) (pu (.int 20))) (pu (.int 3))) (pu (.int 1)))))
  (sSeq (sSet 9 (mFz (mCall m__law_content (aC (m2 divD (mV 5) (pu (.int 60))) aN))))
  (sSeq (sExpr (mFz (mMeth [(57, m_Tree_write)] (mV 2) (aC (mV 6) (aC (mV 9) (aC (mV 8) aN))))))
  (sDPutM (mV 3) (mV 6) (m2 addD (m2 addD (m2 addD (m2 addD (m2 addD (pu (.str [102, 105, 108, 101, 32])) (mV 6)) (pu (.str [32]))) (mV 8)) (pu (.str [32]))) (mFz (mCall m__law_string (aC (mV 9) aN)))))))))))
def l_law_1 : M Fl := (sSeq (sSet 5 (bd (aC (mFz (mCall m__law_cell (aC (mV 0) (aC (m2 addD (pu (.int 32)) (mV 4)) aN)))) aN) absD))
  (sDPutM (mV 10) (m2 addD (pu (.str [115])) (bd (aC (m2 modD (mV 5) (pu (.int 10))) aN) strI)) (mFz (mCall m__law_content (aC (m2 divD (mV 5) (pu (.int 10))) aN)))))
def l_law_2 : M Fl := (sExpr (mHM1 apF (hV 11) (m2 addD (m2 addD (m2 addD (pu (.str [115, 101, 116, 116, 105, 110, 103, 32])) (mV 12)) (pu (.str [32]))) (mFz (mCall m__law_string (aC (mDGet (mV 10) (mV 12)) aN))))))
def e_law_0 : M D := (mDGet (mV 3) (mV 6))
def t_law_0 : M Fl := (sSet 1 (bd (aC (mFz (mCall m__law_cell (aC (mV 0) (aC (pu (.int 0)) aN)))) aN) absD))
def t_law_1 : M Fl := (sSet 2 (mNew 57 1 m_Tree___init__ aN))
def t_law_2 : M Fl := (sSet 3 (mCel mDNew))
def t_law_3 : M Fl := (sFor (tgN 4) (itR1 (m2 modD (mV 1) (pu (.int 31)))) l_law_0)
def t_law_4 : M Fl := (sSet 10 (mCel mDNew))
def t_law_5 : M Fl := (sSetB 11 (mLst aN))
def t_law_6 : M Fl := (sFor (tgN 4) (itR1 (m2 modD (m2 divD (mV 1) (pu (.int 31))) (pu (.int 9)))) l_law_1)
def t_law_7 : M Fl := (sFor (tgN 12) (itL (mFz (bd (aC (mV 10) aN) sortedK))) l_law_2)
def t_law_8 : M Fl := (sSet 13 (mM1 joinD (pu (.str [10])) (mFz (mLc [6] (tgN 6) (itL (mFz (bd (aC (mV 3) aN) sortedK))) (pu true) e_law_0))))
def t_law_9 : M Fl := (sSet 14 (mFz (mCall m_save_tree (aC (mV 2) aN))))
def t_law_10 : M Fl := (sIf (tOrM (tNotM (mTru (mIs .str (mV 14)))) (tOrM (mT (m2 neM (mV 14) (mV 13))) (mT (m2 neM (mFz (mCall m_save_settings (aC (mCel (bd (aC (mV 10) aN) dictD)) aN))) (mM1 joinD (pu (.str [10])) (mVF 11)))))) (sRetD (pu (.bl false))) sPass)
def t_law_11 : M Fl := (sSet 15 (mFz (mCall m_load_tree (aC (mV 14) aN))))
def t_law_12 : M Fl := (sIf (tOrM (tNotM (mTru (mIsC 57 (mV 15)))) (tOrM (mT (mNeA (hD (mFld [(57, 0)] (mV 15))) (hD (mFld [(57, 0)] (mV 2))))) (mT (m2 neM (mFz (mCall m_save_tree (aC (mV 15) aN))) (mV 13))))) (sRetD (pu (.bl false))) sPass)
def t_law_13 : M Fl := (sIf (mT (m2 ltD (bd (aC (mV 3) aN) dlenD) (pu (.int 60)))) (sExpr (mFz (mMeth [(57, m_Tree_write)] (mV 15) (aC (pu (.str [110, 101, 119])) (aC (pu (.str [110])) (aC (pu (.str [112, 101, 114, 115, 111, 110])) aN)))))) sPass)
def t_law_14 : M Fl := (sSet 16 (mFz (mCall m_load_settings (aC (mM1 joinD (pu (.str [10])) (mVF 11)) aN))))
def t_law_15 : M Fl := (sIf (tOrM (tNotM (mTru (mIsDc (mV 16)))) (mT (mNeA (hD (mV 16)) (hD (mV 10))))) (sRetD (pu (.bl false))) sPass)
def t_law_16 : M Fl := (sRetD (mAnd (m2 eqM (mFz (mCall m_save_tree (aC (mV 2) aN))) (mV 13)) (mAnd (mEqH (hD (mFz (mCall m_load_settings (aC (pu (.str [])) aN)))) (hD (mCel mDNew))) (mEqH (hD (mFld [(57, 0)] (mFz (mCall m_load_tree (aC (pu (.str [])) aN))))) (hD (mCel mDNew))))))
def r_law_15 : M Fl := sSeq t_law_15 t_law_16
def r_law_14 : M Fl := sSeq t_law_14 r_law_15
def r_law_13 : M Fl := sSeq t_law_13 r_law_14
def r_law_12 : M Fl := sSeq t_law_12 r_law_13
def r_law_11 : M Fl := sSeq t_law_11 r_law_12
def r_law_10 : M Fl := sSeq t_law_10 r_law_11
def r_law_9 : M Fl := sSeq t_law_9 r_law_10
def r_law_8 : M Fl := sSeq t_law_8 r_law_9
def r_law_7 : M Fl := sSeq t_law_7 r_law_8
def r_law_6 : M Fl := sSeq t_law_6 r_law_7
def r_law_5 : M Fl := sSeq t_law_5 r_law_6
def r_law_4 : M Fl := sSeq t_law_4 r_law_5
def r_law_3 : M Fl := sSeq t_law_3 r_law_4
def r_law_2 : M Fl := sSeq t_law_2 r_law_3
def r_law_1 : M Fl := sSeq t_law_1 r_law_2
def r_law_0 : M Fl := sSeq t_law_0 r_law_1
/-- law -/
def b_law : M Fl := r_law_0
def m_law : FunM := mkF 1 17 b_law
theorem c_law (x0 : D) (so : So) : m_law [x0] so = endF (b_law [some (.dat x0), none, none, none, none, none, none, none, none, none, none, none, none, none, none, none, none] so) := mkF_ (m := b_law) (ds := [x0]) rfl
end
end Lk37

set_option Elab.async false
set_option linter.all false
set_option maxRecDepth 100000
set_option maxHeartbeats 4000000
namespace Lk37
open PySem PySem.Spec PyProof.Rows Dl L2
/-! ### paths, contents and trees -/
theorem name_ok (v cs : List Nat) (so : So) (h : v.length ≤ 16777216) : m_is_name [.str v, .str cs] so = .ok (.dat (.bl (okN cs v))) so := by
  rw [c_is_name]
  cases v with
  | nil => simp [b_is_name, okN]
  | cons c r =>
    have h' : r.length ≤ 16777215 := by simpa using h
    have h1 : ¬ ((r.length : Int) + 1 < 1) := by omega
    have hl : lcGo [2] (tgN 2) (pu true) e_is_name_0 (D.str [c] :: List.map (fun c => D.str [c]) r) [] [some (.dat (.str (c :: r))), some (.dat (.str cs)), none] so = .ok ((c :: r).map fun x => .bl (decide (x ∈ cs))) [some (.dat (.str (c :: r))), some (.dat (.str cs)), none] so := by
      rw [show D.str [c] :: List.map (fun c => D.str [c]) r = (c :: r).map fun c => D.str [c] from rfl]
      exact lcGo_mp (fun c => .str [c]) (fun x => .bl (decide (x ∈ cs))) (c :: r) (fun x _ => ⟨_, rfl, by simp [e_is_name_0], rfl⟩) h
    by_cases h2 : (12 : Int) < (r.length : Int) + 1
    · simp [b_is_name, h', h1, h2, okN]
    · by_cases h3 : c = 46
      · simp [b_is_name, h', h1, h2, h3, okN]
      · simp [b_is_name, h', h1, h2, h3]
        rw [hl]
        have := all_map (en := [some (.dat (.str (c :: r))), some (.dat (.str cs)), none]) (so := so) (fun x => decide (x ∈ cs)) (c :: r)
        rw [List.map_cons] at this ⊢
        simp [this]
        simp [okN, h2, h3]
theorem path_ok (z : List Nat) (so : So) (h : z.length ≤ 1000) : m_is_path [.str z] so = .ok (.dat (.bl (okp z))) so := by
  have h' : z.length ≤ 16777214 := by omega
  have hp := pieces_count 47 z []
  rw [c_is_path]
  simp [b_is_path, h']
  rw [lcGo_mp .str (fun v => .bl (okN cs0 v)) _ ?_ (by omega)]
  · simp [all_map, okp]
  · exact fun v hv => ⟨_, rfl, by simp [e_is_path_0]; rw [show ([97, 98, 99, 100, 101, 102, 103, 104, 105, 106, 107, 108, 109, 110, 111, 112, 113, 114, 115, 116, 117, 118, 119, 120, 121, 122, 48, 49, 50, 51, 52, 53, 54, 55, 56, 57, 95, 46] : List Nat) = cs0 from rfl, name_ok _ _ _ (by have := pieces_len 47 z [] v hv; simp at this; omega)]; rfl, rfl⟩
theorem code_ok (c : Nat) (so : So) : m_is_text_code [.int c] so = .ok (.dat (.bl (okc c))) so := by
  rw [c_is_text_code]
  simp [b_is_text_code, okc]
theorem text_ok (t : List Nat) (so : So) (h : t.length ≤ 16777216) : m_is_text [.str t] so = .ok (.dat (.bl (okt t))) so := by
  rw [c_is_text]
  simp [b_is_text, okt]
  rw [lcGo_mp (fun c => .str [c]) (fun c => .bl (okc c)) t ?_ h]
  · simp [all_map]
  · exact fun c _ => ⟨_, rfl, by simp [e_is_text_0, code_ok], rfl⟩
theorem content_ok (t : List Nat) (so : So) (h : t.length ≤ 16777216) : m_is_content [.str t] so = .ok (.dat (.bl (oku t))) so := by
  rw [c_is_content]
  simp [b_is_content, h, text_ok, oku]
section
variable {so : So} {t e : Nat} {M : Tb Ent}
theorem kind_ok (h : TrR so t e M) (p : List Nat) : m_Tree_kind [.obj t, .str p] so = .ok (.dat (.str (kindE (look M p)))) so := by
  have ho := h.ob
  rw [c_Tree_kind]
  rcases h.ce with hc | hc <;> rcases hl : look M p with _ | _ | _ <;> simp [b_Tree_kind, ho, hc, valD_tab, hl, kindE, Ent.D]
theorem writer_ok (h : TrR so t e M) (p : List Nat) : m_Tree_writer [.obj t, .str p] so = .ok (.dat (writE (look M p))) so := by
  have ho := h.ob
  rw [c_Tree_writer]
  rcases h.ce with hc | hc <;> rcases hl : look M p with _ | _ | _ <;> simp [b_Tree_writer, ho, hc, valD_tab, hl, writE, Ent.D]
theorem personal_ok (h : TrR so t e M) (p : List Nat) : m_Tree_is_personal [.obj t, .str p] so = .ok (.dat (.bl (persE (look M p)))) so := by
  have ho := h.ob
  rw [c_Tree_is_personal]
  rcases hl : look M p with _ | _ | _ <;> simp [b_Tree_is_personal, ho, kind_ok h, writer_ok h, hl, kindE, writE, persE, PERS, eqD]
  rw [Bool.eq_iff_iff, beq_iff_eq]
  exact decide_eq_true_iff.symm
theorem room_ok (h : Tr so t e M) (p : List Nat) (hM : M.length ≤ 16777216) : m_Tree_check_room [.obj t, .str p] so = if full M p = true then .exc ⟨10, [.str p]⟩ so else .ok (.dat .non) so := by
  have ho := h.ob
  have hc := h.ce
  have hL := h.lck
  have hLo := hL.ob
  have hLc : (so.set e (.lck (tab Ent.D M)))[e]? = some (.lck (tab Ent.D M)) := by rw [List.getElem?_set_self h.lt]
  rw [c_Tree_check_room]
  cases hp : persE (look M p) with
  | true => simp [b_Tree_check_room, ho, personal_ok h.r, hp, full]
  | false =>
    have hl : lcGo [2] (tgN 2) q_Tree_check_room_0 e_Tree_check_room_0 ((keys M).map .str) [] [some (.dat (.obj t)), some (.dat (.str p)), none] (so.set e (.lck (tab Ent.D M))) = .ok (((keys M).filter fun k => persE (look M k)).map fun _ => .int 1) [some (.dat (.obj t)), some (.dat (.str p)), none] (so.set e (.lck (tab Ent.D M))) :=
      lcGo_flt .str (fun k => persE (look M k)) (fun _ => .int 1) (keys M) (fun k _ => ⟨_, rfl, by simp [q_Tree_check_room_0, hLo, personal_ok hL], by simp [e_Tree_check_room_0], rfl⟩) (by rw [keys_len]; exact hM)
    have e1 : decide ((60 : Int) ≤ ((cnt M : Nat) : Int)) = decide (60 ≤ cnt M) := by
      by_cases q : 60 ≤ cnt M
      · rw [decide_eq_true q, decide_eq_true (by omega)]
      · rw [decide_eq_false q, decide_eq_false (by omega)]
    simp [b_Tree_check_room, ho, personal_ok h.r, hp, hc, hLo, hLc, keysD_tab]
    rw [hl]
    simp [List.set_set, h.same, full, hp]
    rw [show ((keys M).filter fun k => persE (look M k)).length = cnt M from rfl]
    by_cases q : 60 ≤ cnt M
    · have q' : (60 : Int) ≤ ((cnt M : Nat) : Int) := by omega
      simp [q, q']
    · have q' : ¬ (60 : Int) ≤ ((cnt M : Nat) : Int) := by omega
      simp [q, q']
theorem link_ok (h : Tr so t e M) (p q : List Nat) (h1 : p.length ≤ 1000) (h2 : q.length ≤ 1000) (hM : M.length < 16777216) : m_Tree_link [.obj t, .str p, .str q] so = if okp p = false then .exc ⟨7, [.str p]⟩ so else if okp q = false then .exc ⟨7, [.str q]⟩ so else if full M p = true then .exc ⟨10, [.str p]⟩ so else .ok (.dat .non) (so.set e (.cel (.dct (tab Ent.D (put M p (.link q)))))) := by
  have ho := h.ob
  have hc := h.ce
  rw [c_Tree_link]
  cases k1 : okp p with
  | false => simp [b_Tree_link, r_Tree_link_0, t_Tree_link_0, path_ok, h1, k1]
  | true =>
    cases k2 : okp q with
    | false => simp [b_Tree_link, r_Tree_link_0, t_Tree_link_0, r_Tree_link_1, t_Tree_link_1, path_ok, h1, h2, k1, k2]
    | true =>
      cases k3 : full M p with
      | true => simp [b_Tree_link, r_Tree_link_0, t_Tree_link_0, r_Tree_link_1, t_Tree_link_1, r_Tree_link_2, t_Tree_link_2, path_ok, h1, h2, k1, k2, ho, room_ok h _ (Nat.le_of_lt hM), k3]
      | false =>
        have hd : (tab Ent.D M).length < 16777216 := by rw [tab_len]; exact hM
        simp [b_Tree_link, r_Tree_link_0, t_Tree_link_0, r_Tree_link_1, t_Tree_link_1, r_Tree_link_2, t_Tree_link_2, t_Tree_link_3, path_ok, h1, h2, k1, k2, ho, hc, room_ok h _ (Nat.le_of_lt hM), k3, dpF_ hd]
        exact congrArg (fun x => so.set e (Sc.cel (.dct x))) (putT_tab Ent.D p (.link q) M)
theorem write_ok (h : Tr so t e M) (p x b : List Nat) (h1 : p.length ≤ 1000) (h2 : x.length ≤ 16777216) (hM : M.length < 16777216) : m_Tree_write [.obj t, .str p, .str x, .str b] so = if okp p = false then .exc ⟨7, [.str p]⟩ so else if oku x = false then .exc ⟨8, [.str p]⟩ so else if decide (b = PERS) = true ∧ full M p = true then .exc ⟨10, [.str p]⟩ so else .ok (.dat .non) (so.set e (.cel (.dct (tab Ent.D (put M p (.file x b)))))) := by
  have ho := h.ob
  have hc := h.ce
  rw [c_Tree_write]
  cases k1 : okp p with
  | false => simp [b_Tree_write, r_Tree_write_0, t_Tree_write_0, path_ok, h1, k1]
  | true =>
    cases k2 : oku x with
    | false => simp [b_Tree_write, r_Tree_write_0, t_Tree_write_0, r_Tree_write_1, t_Tree_write_1, path_ok, content_ok, h1, h2, k1, k2]
    | true =>
      have hd : (tab Ent.D M).length < 16777216 := by rw [tab_len]; exact hM
      have hpt : so.set e (Sc.cel (.dct (putT (tab Ent.D M) (.inr p) (.tup [.str [102, 105, 108, 101], .str x, .str b])))) = so.set e (.cel (.dct (tab Ent.D (put M p (.file x b))))) := congrArg (fun x => so.set e (Sc.cel (.dct x))) (putT_tab Ent.D p (.file x b) M)
      by_cases k4 : b = PERS
      · have k5 : b = [112, 101, 114, 115, 111, 110] := k4
        cases k3 : full M p with
        | true => simp [b_Tree_write, r_Tree_write_0, t_Tree_write_0, r_Tree_write_1, t_Tree_write_1, r_Tree_write_2, t_Tree_write_2, path_ok, content_ok, h1, h2, k1, k2, ho, room_ok h _ (Nat.le_of_lt hM), k3, k4, PERS]
        | false =>
          simp [b_Tree_write, r_Tree_write_0, t_Tree_write_0, r_Tree_write_1, t_Tree_write_1, r_Tree_write_2, t_Tree_write_2, t_Tree_write_3, path_ok, content_ok, h1, h2, k1, k2, ho, hc, room_ok h _ (Nat.le_of_lt hM), k3, k5, dpF_ hd]
          rw [← k5]
          exact hpt
      · have k5 : ¬ b = [112, 101, 114, 115, 111, 110] := k4
        simp [b_Tree_write, r_Tree_write_0, t_Tree_write_0, r_Tree_write_1, t_Tree_write_1, r_Tree_write_2, t_Tree_write_2, t_Tree_write_3, path_ok, content_ok, h1, h2, k1, k2, ho, hc, k4, k5, dpF_ hd]
        exact hpt
end
theorem target_ok {so : So} {t e : Nat} {M : Tb Ent} (h : TrR so t e M) (p : List Nat) : m_Tree_target [.obj t, .str p] so = .ok (.dat (optD (targE (look M p)))) so := by
  have ho := h.ob
  rw [c_Tree_target]
  rcases h.ce with hc | hc <;> rcases hl : look M p with _ | _ | _ <;> simp [b_Tree_target, ho, hc, valD_tab, hl, targE, optD, Ent.D]
/-! ### more of trees -/
theorem lt_of {so : So} {o : Sc} {k : Nat} (h : so[k]? = some o) : k < so.length := (List.getElem?_eq_some_iff.mp h).1
theorem get_app {so : So} {o : Sc} {k : Nat} (h : so[k]? = some o) (l : So) : (so ++ l)[k]? = some o := by
  rw [List.getElem?_append_left (lt_of h)]; exact h
theorem get_in {so : So} (l : So) (i : Nat) : (so ++ l)[so.length + i]? = l[i]? := by
  rw [List.getElem?_append_right (Nat.le_add_right _ _), Nat.add_sub_cancel_left]
theorem _root_.Dl.Tr.app {so : So} {t e : Nat} {M : Tb Ent} (h : Tr so t e M) (l : So) : Tr (so ++ l) t e M := ⟨get_app h.ob l, get_app h.ce l⟩
theorem paths_ok {so : So} {t e : Nat} {M : Tb Ent} (h : TrR so t e M) : m_Tree_paths [.obj t] so = .ok (.dat (.lst ((srtS (keys M)).map .str))) so := by
  have ho := h.ob
  rw [c_Tree_paths]
  rcases h.ce with hc | hc <;> simp [b_Tree_paths, ho, hc, kstrs_tab]
theorem read_ok {so : So} {t e : Nat} {M : Tb Ent} (h : TrR so t e M) (p : List Nat) : m_Tree_read [.obj t, .str p] so = .ok (.dat (readE (look M p))) so := by
  have ho := h.ob
  rw [c_Tree_read]
  rcases h.ce with hc | hc <;> rcases hl : look M p with _ | _ | _ <;> simp [b_Tree_read, ho, hc, valD_tab, hl, readE, Ent.D]
/-! ### scanning a written string -/
def esc (c : Nat) : List Nat := if c = 10 then [92, 110] else if c = 34 ∨ c = 92 then [92, c] else [c]
def Wr (t : List Nat) : List Nat := t.flatMap esc
theorem Wr_cons (c : Nat) (t : List Nat) : Wr (c :: t) = esc c ++ Wr t := by simp [Wr]
theorem esc_len (c : Nat) : (esc c).length ≤ 2 := by unfold esc; split <;> (try split) <;> simp
theorem Wr_len (t : List Nat) : (Wr t).length ≤ 2 * t.length := by
  induction t with
  | nil => simp [Wr]
  | cons c t ih =>
    rw [Wr_cons, List.length_append, List.length_cons]
    have := esc_len c
    omega
def chr (c : Nat) : D := .str [c]
theorem chr_map (l : List Nat) : (l.map fun c => D.str [c]) = l.map chr := rfl
theorem atp0 (P R : List Nat) (c : Nat) : L2.atI (P ++ c :: R) (P.length : Int) = some c := atI_nat (by simp)
theorem atp1 (P R : List Nat) (c d : Nat) : L2.atI (P ++ c :: d :: R) ((P.length : Int) + 1) = some d := by
  have := atI_nat (xs := P ++ c :: d :: R) (j := P.length + 1) (v := d) (by simp)
  rw [← this]; congr 1
theorem kl_n : kLook kd_ESCAPES [110] = some (.str [10]) := by rfl
theorem kl_q : kLook kd_ESCAPES [34] = some (.str [34]) := by rfl
theorem kl_b : kLook kd_ESCAPES [92] = some (.str [92]) := by rfl
theorem ss_loop (x0 x1 x3 : Option B) (L R : List Nat) (so : So) (hLL : L.length ≤ 16777216) : ∀ (t acc P : List Nat) (fuel : Nat) (x6 : Option B), L = P ++ (Wr t ++ 34 :: R) → acc.length + t.length < 100000 → t.length < fuel →
    ∃ en', whGo w_scan_string_0 l_scan_string_0 fuel [x0, x1, some (.dat (.str L)), x3, some (.cel (.lst (acc.map chr))), some (.dat (.int (P.length : Int))), x6] so = .ok (.rt (.dat (.tup [.str (acc ++ t), .int ((P.length : Int) + (Wr t).length + 1)]))) en' so := by
  intro t
  induction t with
  | nil =>
    intro acc P fuel x6 hL hlen hf
    obtain ⟨fu, rfl⟩ : ∃ fu, fuel = fu + 1 := ⟨fuel - 1, by simp at hf; omega⟩
    have h0 : L2.atI L (P.length : Int) = some 34 := by rw [hL]; exact atp0 P R 34
    have h1 : ((P.length : Nat) : Int) < (L.length : Int) := by rw [hL]; simp; omega
    have hj := fun en => join_signs acc (en := en) (so := so) (by simp at hlen; omega)
    have hj' : ∀ en, joinD [] (.lst (acc.map chr)) en so = .ok (.str acc) en so := hj
    exact ⟨[x0, x1, some (.dat (.str L)), x3, some (.dat (.lst (acc.map chr))), some (.dat (.int (P.length : Int))), some (.dat (.str [34]))], whGo_rt (en1 := [x0, x1, some (.dat (.str L)), x3, some (.cel (.lst (acc.map chr))), some (.dat (.int (P.length : Int))), x6]) (so1 := so) (by simp [w_scan_string_0, h1, hLL]) (by simp [l_scan_string_0, h0, hj', hLL, Wr])⟩
  | cons c t ih =>
    intro acc P fuel x6 hL hlen hf
    obtain ⟨fu, rfl⟩ : ∃ fu, fuel = fu + 1 := ⟨fuel - 1, by simp at hf; omega⟩
    have h1 : ((P.length : Nat) : Int) < (L.length : Int) := by
      rw [hL, Wr_cons]
      have : 1 ≤ (esc c).length := by unfold esc; split <;> (try split) <;> simp
      simp; omega
    have ap := fun d : D => apF_ (xs := acc.map chr) (by rw [List.length_map]; simp at hlen; omega) d
    have step : ∀ p' : Nat, p' = P.length + (esc c).length → ∀ x6', l_scan_string_0 [x0, x1, some (.dat (.str L)), x3, some (.cel (.lst (acc.map chr))), some (.dat (.int (P.length : Int))), x6] so = .ok .nx [x0, x1, some (.dat (.str L)), x3, some (.cel (.lst ((acc ++ [c]).map chr))), some (.dat (.int (p' : Int))), x6'] so →
        ∃ en', whGo w_scan_string_0 l_scan_string_0 (fu + 1) [x0, x1, some (.dat (.str L)), x3, some (.cel (.lst (acc.map chr))), some (.dat (.int (P.length : Int))), x6] so = .ok (.rt (.dat (.tup [.str (acc ++ c :: t), .int ((P.length : Int) + (Wr (c :: t)).length + 1)]))) en' so := by
      intro p' hp x6' hb
      obtain ⟨en', h⟩ := ih (acc ++ [c]) (P ++ esc c) fu x6' (by rw [hL, Wr_cons]; simp) (by simp at hlen ⊢; omega) (by simp at hf; omega)
      refine ⟨en', ?_⟩
      rw [whGo_nx (en1 := [x0, x1, some (.dat (.str L)), x3, some (.cel (.lst (acc.map chr))), some (.dat (.int (P.length : Int))), x6]) (by simp [w_scan_string_0, h1, hLL]) hb]
      have e1 : ((P ++ esc c).length : Int) = (p' : Int) := by rw [hp, List.length_append]
      rw [e1] at h
      rw [h]
      have e2 : ((p' : Nat) : Int) + ((Wr t).length : Int) + 1 = ((P.length : Nat) : Int) + ((Wr (c :: t)).length : Int) + 1 := by
        rw [hp, Wr_cons, List.length_append]; push_cast; omega
      rw [e2, List.append_assoc]
      rfl
    have hlenL := congrArg List.length hL
    by_cases hc : c = 10
    · subst hc
      have hL' : L = P ++ 92 :: 110 :: (Wr t ++ 34 :: R) := by rw [hL, Wr_cons]; simp [esc]
      have h0 : L2.atI L (P.length : Int) = some 92 := by rw [hL']; exact atp0 _ _ _
      have h2 : L2.atI L ((P.length : Int) + 1) = some 110 := by rw [hL']; exact atp1 _ _ _ _
      have h3 : ¬ ((P.length : Nat) : Int) + 1 = (L.length : Int) := by rw [hL']; simp; omega
      refine step (P.length + 2) rfl (some (.dat (.str [92]))) ?_
      simp [l_scan_string_0, h0, h2, h3, hLL, mKIn, kinD, mKGet, kgetD, kl_n, ap, opM, chr]
    · by_cases hq : c = 34 ∨ c = 92
      · have hL' : L = P ++ 92 :: c :: (Wr t ++ 34 :: R) := by rw [hL, Wr_cons]; simp [esc, hc, hq]
        have h0 : L2.atI L (P.length : Int) = some 92 := by rw [hL']; exact atp0 _ _ _
        have h2 : L2.atI L ((P.length : Int) + 1) = some c := by rw [hL']; exact atp1 _ _ _ _
        have h3 : ¬ ((P.length : Nat) : Int) + 1 = (L.length : Int) := by rw [hL']; simp; omega
        have h4 : kLook kd_ESCAPES [c] = some (.str [c]) := by rcases hq with rfl | rfl <;> rfl
        refine step (P.length + 2) (by simp [esc, hc, hq]) (some (.dat (.str [92]))) ?_
        simp [l_scan_string_0, h0, h2, h3, hLL, mKIn, kinD, mKGet, kgetD, h4, ap, opM, chr]
      · have hL' : L = P ++ c :: (Wr t ++ 34 :: R) := by rw [hL, Wr_cons]; simp [esc, hc, hq]
        have h0 : L2.atI L (P.length : Int) = some c := by rw [hL']; exact atp0 _ _ _
        have h4 : ¬ c = 34 := fun h => hq (.inl h)
        have h5 : ¬ c = 92 := fun h => hq (.inr h)
        refine step (P.length + 1) (by simp [esc, hc, hq]) (some (.dat (.str [c]))) ?_
        simp [l_scan_string_0, h0, h4, h5, hLL, ap, chr]
theorem scan_string_ok (x0 x1 : D) (P t R L : List Nat) (so : So) (hL : L = P ++ 34 :: (Wr t ++ 34 :: R)) (ht : t.length < 5000) (hLL : L.length ≤ 16777216) :
    m_scan_string [x0, x1, .str L, .int (P.length : Int)] so = .ok (.dat (.tup [.str t, .int ((P.length : Int) + (Wr t).length + 2)])) so := by
  obtain ⟨en', h⟩ := ss_loop (some (.dat x0)) (some (.dat x1)) (some (.dat (.int (P.length : Int)))) L R so hLL t [] (P ++ [34]) 10000 none (by rw [hL]; simp) (by simp; omega) (by omega)
  rw [c_scan_string]
  have e : ((P ++ [34]).length : Int) = (P.length : Int) + 1 := by simp
  rw [e] at h
  have e2 : (P.length : Int) + 1 + ((Wr t).length : Int) + 1 = (P.length : Int) + (Wr t).length + 2 := by omega
  rw [e2] at h
  simp only [List.map_nil, List.nil_append] at h
  simp [b_scan_string, r_scan_string_0, t_scan_string_0, r_scan_string_1, t_scan_string_1, r_scan_string_2, t_scan_string_2, sWhile, h]
/-! ### words and lines -/
theorem drop_tw (p : Nat → Bool) : ∀ l : List Nat, l.drop (l.takeWhile p).length = l.dropWhile p
  | [] => rfl
  | a :: r => by
    by_cases h : p a = true
    · rw [List.takeWhile_cons, if_pos h, List.dropWhile_cons, if_pos h]
      exact drop_tw p r
    · rw [List.takeWhile_cons, if_neg h, List.dropWhile_cons, if_neg h]
      rfl
theorem lstrip_sp (l : List Nat) : (Txt.lstripChars (sT l) (sT [32])).cps.toList = l.dropWhile (· == 32) := by
  unfold Txt.lstripChars
  rw [PyProof.Rows.stripBy_eq, StrLaws.strSub_toList]
  have e : (sT [32]).cps.contains = fun c : Nat => c == 32 := by
    funext c
    show (#[32] : Array Nat).contains c = _
    by_cases h : c = 32 <;> simp [h]
  rw [e]
  simp only [stripLo, stripHi, if_true, Bool.false_eq_true, if_false]
  rw [tl_sT, drop_tw]
  apply List.take_of_length_le
  rw [← drop_tw, List.length_drop, sT_len]
  exact Nat.le_refl _
theorem starts1 (c : Nat) (l : List Nat) : Txt.startswith (sT l) (sT [c]) = (l.head? == some c) := by
  unfold Txt.startswith
  rw [StrLaws.subAt_eq, tl_sT, tl_sT, sT_len, sT_len]
  cases l with
  | nil => rfl
  | cons a r => simp
def skp (l : List Nat) : Bool := decide (l.dropWhile (· == 32) = []) || (l.dropWhile (· == 32)).head? == some 35
theorem skipped_ok (L : List Nat) (so : So) (hLL : L.length ≤ 16777216) : m_is_skipped [.str L] so = .ok (.dat (.bl (skp L))) so := by
  rw [c_is_skipped]
  have e := lstrip_sp L
  unfold skp
  generalize L.dropWhile (· == 32) = z at e
  have hs : ∀ en so, startsD z (.str [35]) en so = .ok (.bl (z.head? == some 35)) en so := fun en so => by
    show (pu (D.bl (Txt.startswith (sT z) (sT [35])))) en so = _
    rw [starts1]; rfl
  by_cases h : z = []
  · subst h
    simp [b_is_skipped, hLL, e]
  · simp [b_is_skipped, hLL, e, h, hs]
/-- signs at which a word ends -/
def wst (c : Nat) : Bool := ([32, 34, 40, 41, 44, 43] : List Nat).contains c
theorem we_loop (L R : List Nat) (so : So) (hLL : L.length ≤ 16777216) (x1 : Option B) (hR : R = [] ∨ ∃ c r, R = c :: r ∧ wst c = true) : ∀ (w P : List Nat) (fuel : Nat), L = P ++ (w ++ R) → (∀ c ∈ w, wst c = false) → w.length < fuel →
    whGo w_word_end_0 l_word_end_0 fuel [some (.dat (.str L)), x1, some (.dat (.int (P.length : Int)))] so = .ok .nx [some (.dat (.str L)), x1, some (.dat (.int ((P.length : Int) + w.length)))] so := by
  intro w
  induction w with
  | nil =>
    intro P fuel hL _ hf
    obtain ⟨fu, rfl⟩ : ∃ fu, fuel = fu + 1 := ⟨fuel - 1, by simp at hf; omega⟩
    refine whGo_f ?_
    rcases hR with rfl | ⟨c, r, rfl, hc⟩
    · have h1 : ¬ (P.length : Int) < (L.length : Int) := by rw [hL]; simp
      simp [w_word_end_0, h1, hLL]
    · have h1 : (P.length : Int) < (L.length : Int) := by rw [hL]; simp; omega
      have h0 : L2.atI L (P.length : Int) = some c := by rw [hL]; exact atp0 _ _ _
      have hc' : c = 32 ∨ c = 34 ∨ c = 40 ∨ c = 41 ∨ c = 44 ∨ c = 43 := by simpa [wst] using hc
      rcases hc' with rfl | rfl | rfl | rfl | rfl | rfl <;> simp [w_word_end_0, h1, hLL, h0]
  | cons c w ih =>
    intro P fuel hL hw hf
    obtain ⟨fu, rfl⟩ : ∃ fu, fuel = fu + 1 := ⟨fuel - 1, by simp at hf; omega⟩
    have h1 : (P.length : Int) < (L.length : Int) := by rw [hL]; simp; omega
    have h0 : L2.atI L (P.length : Int) = some c := by rw [hL]; exact atp0 _ _ _
    have hc : wst c = false := hw c (by simp)
    have hc' : ¬ c = 32 ∧ ¬ c = 34 ∧ ¬ c = 40 ∧ ¬ c = 41 ∧ ¬ c = 44 ∧ ¬ c = 43 := by simpa [wst] using hc
    have h := ih (P ++ [c]) fu (by rw [hL]; simp) (fun z hz => hw z (by simp [hz])) (by simp at hf; omega)
    have e1 : ((P ++ [c]).length : Int) = (P.length : Int) + 1 := by simp
    rw [e1] at h
    rw [whGo_nx (en1 := [some (.dat (.str L)), x1, some (.dat (.int (P.length : Int)))]) (so1 := so) (en2 := [some (.dat (.str L)), x1, some (.dat (.int ((P.length : Int) + 1)))]) (so2 := so) (by simp [w_word_end_0, h1, hLL, h0, hc']) (by simp [l_word_end_0]), h]
    have e2 : (P.length : Int) + 1 + (w.length : Int) = (P.length : Int) + ((c :: w).length : Int) := by rw [List.length_cons]; push_cast; omega
    rw [e2]
theorem word_end_ok (L P w R : List Nat) (so : So) (hLL : L.length ≤ 16777216) (hR : R = [] ∨ ∃ c r, R = c :: r ∧ wst c = true) (hL : L = P ++ (w ++ R)) (hw : ∀ c ∈ w, wst c = false) (hl : w.length < 10000) :
    m_word_end [.str L, .int (P.length : Int)] so = .ok (.dat (.int ((P.length : Int) + w.length))) so := by
  rw [c_word_end]
  have h := we_loop L R so hLL (some (.dat (.int (P.length : Int)))) hR w P 10000 hL hw hl
  simp [b_word_end, sWhile, h]
/-! the loop over a line: SL toks i -/
section
variable {x0 x1 : D} {L : List Nat} {toks : List D} {so : So} {x5 x6 x7 : Option B} {fu : Nat}
def SLe (x0 x1 : D) (L : List Nat) (toks : List D) (i : Int) (x5 x6 x7 : Option B) : En := [some (.dat x0), some (.dat x1), some (.dat (.str L)), some (.cel (.lst toks)), some (.dat (.int i)), x5, x6, x7]
theorem sl_w {i : Nat} (hLL : L.length ≤ 16777216) (h : i < L.length) : w_scan_line_0 (SLe x0 x1 L toks (i : Int) x5 x6 x7) so = .ok true (SLe x0 x1 L toks (i : Int) x5 x6 x7) so := by
  have h1 : (i : Int) < (L.length : Int) := by exact_mod_cast h
  simp [w_scan_line_0, SLe, h1, hLL]
theorem sl_end (hLL : L.length ≤ 16777216) : whGo w_scan_line_0 l_scan_line_0 (fu + 1) (SLe x0 x1 L toks (L.length : Int) x5 x6 x7) so = .ok .nx (SLe x0 x1 L toks (L.length : Int) x5 x6 x7) so :=
  whGo_f (by simp [w_scan_line_0, SLe, hLL])
theorem sl_space {P R : List Nat} (hLL : L.length ≤ 16777216) (hL : L = P ++ 32 :: R) : whGo w_scan_line_0 l_scan_line_0 (fu + 1) (SLe x0 x1 L toks (P.length : Int) x5 x6 x7) so = whGo w_scan_line_0 l_scan_line_0 fu (SLe x0 x1 L toks ((P ++ [32]).length : Nat) (some (.dat (.str [32]))) x6 x7) so := by
  have h0 : L2.atI L (P.length : Int) = some 32 := by rw [hL]; exact atp0 _ _ _
  have e1 : ((P ++ [32]).length : Int) = (P.length : Int) + 1 := by simp
  rw [whGo_nx (sl_w hLL (by rw [hL]; simp)) (so2 := so) (en2 := SLe x0 x1 L toks ((P ++ [32]).length : Nat) (some (.dat (.str [32]))) x6 x7) ?_]
  rw [e1]
  simp [l_scan_line_0, SLe, h0, hLL]
theorem sl_sign {P R : List Nat} {c : Nat} (hLL : L.length ≤ 16777216) (hL : L = P ++ c :: R) (hc : c = 40 ∨ c = 41 ∨ c = 44 ∨ c = 43) (ht : toks.length < 16777216) : whGo w_scan_line_0 l_scan_line_0 (fu + 1) (SLe x0 x1 L toks (P.length : Int) x5 x6 x7) so = whGo w_scan_line_0 l_scan_line_0 fu (SLe x0 x1 L (toks ++ [.tup [.str [115, 105, 103, 110], .str [c], .int ((P.length : Int) + 1)]]) ((P ++ [c]).length : Nat) (some (.dat (.str [c]))) x6 x7) so := by
  have h0 : L2.atI L (P.length : Int) = some c := by rw [hL]; exact atp0 _ _ _
  have e1 : ((P ++ [c]).length : Int) = (P.length : Int) + 1 := by simp
  have ap := fun d : D => apF_ (xs := toks) ht d
  rw [whGo_nx (sl_w hLL (by rw [hL]; simp)) (so2 := so) (en2 := SLe x0 x1 L (toks ++ [.tup [.str [115, 105, 103, 110], .str [c], .int ((P.length : Int) + 1)]]) ((P ++ [c]).length : Nat) (some (.dat (.str [c]))) x6 x7) ?_]
  rw [e1]
  rcases hc with rfl | rfl | rfl | rfl <;> simp [l_scan_line_0, SLe, h0, hLL, ap]
theorem sl_str {P R t : List Nat} (hLL : L.length ≤ 16777216) (hL : L = P ++ 34 :: (Wr t ++ 34 :: R)) (hlt : t.length < 5000) (ht : toks.length < 16777216) : whGo w_scan_line_0 l_scan_line_0 (fu + 1) (SLe x0 x1 L toks (P.length : Int) x5 x6 x7) so = whGo w_scan_line_0 l_scan_line_0 fu (SLe x0 x1 L (toks ++ [.tup [.str [115, 116, 114, 105, 110, 103], .str t, .int ((P.length : Int) + 1)]]) ((P ++ (34 :: (Wr t ++ [34]))).length : Nat) (some (.dat (.str [34]))) (some (.dat (.str t))) (some (.dat (.int ((P ++ (34 :: (Wr t ++ [34]))).length : Nat))))) so := by
  have h0 : L2.atI L (P.length : Int) = some 34 := by rw [hL]; exact atp0 _ _ _
  have e1 : ((P ++ (34 :: (Wr t ++ [34]))).length : Int) = (P.length : Int) + (Wr t).length + 2 := by simp; omega
  have ap := fun d : D => apF_ (xs := toks) ht d
  have hs := scan_string_ok x0 x1 P t R L so hL hlt hLL
  rw [whGo_nx (sl_w hLL (by rw [hL]; simp)) (so2 := so) (en2 := SLe x0 x1 L (toks ++ [.tup [.str [115, 116, 114, 105, 110, 103], .str t, .int ((P.length : Int) + 1)]]) ((P ++ (34 :: (Wr t ++ [34]))).length : Nat) (some (.dat (.str [34]))) (some (.dat (.str t))) (some (.dat (.int ((P ++ (34 :: (Wr t ++ [34]))).length : Nat))))) ?_]
  rw [e1]
  simp [l_scan_line_0, SLe, h0, hLL, ap, hs]
theorem sl_word {P w R : List Nat} {c : Nat} (hLL : L.length ≤ 16777216) (hR : R = [] ∨ ∃ c r, R = c :: r ∧ wst c = true) (hL : L = P ++ ((c :: w) ++ R)) (hw : ∀ z ∈ c :: w, wst z = false) (hl : w.length < 5000) (ht : toks.length < 16777216) :
    whGo w_scan_line_0 l_scan_line_0 (fu + 1) (SLe x0 x1 L toks (P.length : Int) x5 x6 x7) so = whGo w_scan_line_0 l_scan_line_0 fu (SLe x0 x1 L (toks ++ [.tup [.str [119, 111, 114, 100], .str (c :: w), .int ((P.length : Int) + 1)]]) ((P ++ (c :: w)).length : Nat) (some (.dat (.str [c]))) x6 (some (.dat (.int ((P ++ (c :: w)).length : Nat))))) so := by
  have h0 : L2.atI L (P.length : Int) = some c := by rw [hL]; exact atp0 _ _ _
  have e1 : ((P ++ (c :: w)).length : Int) = (P.length : Int) + (w.length : Int) + 1 := by simp; omega
  have ap := fun d : D => apF_ (xs := toks) ht d
  have hs := word_end_ok L P (c :: w) R so hLL hR hL hw (by simp; omega)
  have e3 : (P.length : Int) + ((c :: w).length : Int) = (P.length : Int) + (w.length : Int) + 1 := by simp; omega
  rw [e3] at hs
  have hc' : ¬ c = 32 ∧ ¬ c = 34 ∧ ¬ c = 40 ∧ ¬ c = 41 ∧ ¬ c = 44 ∧ ¬ c = 43 := by simpa [wst] using hw c (by simp)
  have hcut : cutL L (some (P.length : Int)) (some ((P.length : Int) + (w.length : Int) + 1)) = c :: w := by
    have := cut_mid L P.length (P.length + w.length + 1)
    have e4 : ((P.length + w.length + 1 : Nat) : Int) = (P.length : Int) + (w.length : Int) + 1 := by push_cast; rfl
    rw [e4] at this
    rw [this, hL]
    have e5 : P.length + w.length + 1 = P.length + (c :: w).length := by simp; omega
    rw [e5, ← List.append_assoc, List.take_left' (by simp), List.drop_left' rfl]
  rw [whGo_nx (sl_w hLL (by rw [hL]; simp)) (so2 := so) (en2 := SLe x0 x1 L (toks ++ [.tup [.str [119, 111, 114, 100], .str (c :: w), .int ((P.length : Int) + 1)]]) ((P ++ (c :: w)).length : Nat) (some (.dat (.str [c]))) x6 (some (.dat (.int ((P ++ (c :: w)).length : Nat))))) ?_]
  rw [e1]
  simp [l_scan_line_0, SLe, h0, hLL, ap, hs, hc', hcut]
end
/-! ### the written form of a text -/
theorem repl_facts (t : List Nat) (ht : t.length ≤ 1000) : t.length + (t.length + 1) * 2 ≤ 16777216 ∧ (StrLaws.replL [92] [92, 92] t).length + ((StrLaws.replL [92] [92, 92] t).length + 1) * 2 ≤ 16777216 ∧
    (StrLaws.replL [34] [92, 34] (StrLaws.replL [92] [92, 92] t)).length + ((StrLaws.replL [34] [92, 34] (StrLaws.replL [92] [92, 92] t)).length + 1) * 2 ≤ 16777216 ∧
    StrLaws.replL [10] [92, 110] (StrLaws.replL [34] [92, 34] (StrLaws.replL [92] [92, 92] t)) = Wr t ∧ 1 + (Wr t).length ≤ 16777216 ∧ (Wr t).length + 1 ≤ 16777215 ∧ (Wr t).length ≤ 16777214 := by
  have rp : ∀ (y : Nat) (z l : List Nat), StrLaws.replL [y] z l = l.flatMap fun c => if c = y then z else [c] := by
    intro y z l
    induction l with
    | nil => rw [StrLaws.replL_nil]; rfl
    | cons c l ih =>
      by_cases h : c = y
      · subst h
        rw [StrLaws.replL_hit (by simp) (by simp)]
        simp [ih]
      · rw [StrLaws.replL_miss (by simp [h])]
        simp [ih, h]
  have e : StrLaws.replL [10] [92, 110] (StrLaws.replL [34] [92, 34] (StrLaws.replL [92] [92, 92] t)) = Wr t := by
    rw [rp, rp, rp]
    induction t with
    | nil => rfl
    | cons c t ih =>
      rw [Wr_cons, ← ih (by simp at ht; omega)]
      by_cases h : c = 92
      · subst h; simp [esc]
      · by_cases h2 : c = 34
        · subst h2; simp [esc]
        · by_cases h3 : c = 10
          · subst h3; simp [esc]
          · simp [esc, h, h2, h3]
  have l1 : ∀ (y : Nat) (z l : List Nat), z.length ≤ 2 → (StrLaws.replL [y] z l).length ≤ 2 * l.length := by
    intro y z l hz
    rw [rp]
    induction l with
    | nil => simp
    | cons c l ih =>
      have h2 : (if c = y then z else [c]).length ≤ 2 := by
        split
        · exact hz
        · simp
      rw [List.flatMap_cons, List.length_append, List.length_cons]
      omega
  have b1 := l1 92 [92, 92] t (by simp)
  have b2 := l1 34 [92, 34] (StrLaws.replL [92] [92, 92] t) (by simp)
  have g1 : t.length + (t.length + 1) * 2 ≤ 16777216 := by omega
  have g2 : (StrLaws.replL [92] [92, 92] t).length + ((StrLaws.replL [92] [92, 92] t).length + 1) * 2 ≤ 16777216 := by omega
  have g3 : (StrLaws.replL [34] [92, 34] (StrLaws.replL [92] [92, 92] t)).length + ((StrLaws.replL [34] [92, 34] (StrLaws.replL [92] [92, 92] t)).length + 1) * 2 ≤ 16777216 := by omega
  have hw := Wr_len t
  have w1 : 1 + (Wr t).length ≤ 16777216 := by omega
  have w2 : (Wr t).length + 1 ≤ 16777215 := by omega
  have w3 : (Wr t).length ≤ 16777214 := by omega
  exact ⟨g1, g2, g3, e, w1, w2, w3⟩
theorem format_ok (t : List Nat) (so : So) (ht : t.length ≤ 1000) : m_format_string [.str t] so = .ok (.dat (.str (34 :: (Wr t ++ [34])))) so := by
  obtain ⟨g1, g2, g3, e, w1, w2, w3⟩ := repl_facts t ht
  rw [c_format_string]
  simp [w1, w2, w3, b_format_string, mRepl, replD, g1, g2, g3, e]
/-! ### a line of words and written texts with single spaces -/
inductive Pc where
  | w (l : List Nat) | s (t : List Nat)
def WORD : List Nat := [119, 111, 114, 100]
def STRG : List Nat := [115, 116, 114, 105, 110, 103]
def Pc.tx : Pc → List Nat
  | .w l => l
  | .s t => 34 :: (Wr t ++ [34])
def Pc.kd : Pc → List Nat
  | .w _ => WORD
  | .s _ => STRG
def Pc.va : Pc → List Nat
  | .w l => l
  | .s t => t
def Pc.ok : Pc → Prop
  | .w l => l ≠ [] ∧ (∀ c ∈ l, wst c = false) ∧ l.length ≤ 5000
  | .s t => t.length < 5000
def ln : List Pc → List Nat
  | [] => []
  | [p] => p.tx
  | p :: q :: r => p.tx ++ 32 :: ln (q :: r)
def tkP (i : Nat) : List Pc → List D
  | [] => []
  | p :: r => .tup [.str p.kd, .str p.va, .int ((i : Int) + 1)] :: tkP (i + (p.tx.length + 1)) r
theorem ln_cons (p q : Pc) (r : List Pc) : ln (p :: q :: r) = p.tx ++ 32 :: ln (q :: r) := rfl
theorem tkP_len : ∀ (i : Nat) (l : List Pc), (tkP i l).length = l.length
  | _, [] => rfl
  | i, p :: r => by show (tkP _ r).length + 1 = _; rw [tkP_len]; rfl
/-- one piece is read -/
theorem pc_step {x0 x1 : D} {L : List Nat} {toks : List D} {so : So} {fu : Nat} {P R : List Nat} {p : Pc} (hp : p.ok) (hLL : L.length ≤ 16777216) (hL : L = P ++ (p.tx ++ R)) (hR : R = [] ∨ ∃ c r, R = c :: r ∧ wst c = true) (ht : toks.length < 16777216) (x5 x6 x7 : Option B) :
    ∃ y5 y6 y7, whGo w_scan_line_0 l_scan_line_0 (fu + 1) (SLe x0 x1 L toks (P.length : Int) x5 x6 x7) so = whGo w_scan_line_0 l_scan_line_0 fu (SLe x0 x1 L (toks ++ [.tup [.str p.kd, .str p.va, .int ((P.length : Int) + 1)]]) ((P ++ p.tx).length : Nat) y5 y6 y7) so := by
  cases p with
  | w l =>
    obtain ⟨h1, h2, h3⟩ := hp
    cases l with
    | nil => exact absurd rfl h1
    | cons c w => exact ⟨_, _, _, sl_word (w := w) (c := c) (R := R) hLL hR hL h2 (by simp at h3; omega) ht⟩
  | s t => exact ⟨_, _, _, sl_str (t := t) (R := R) hLL (by rw [hL]; show P ++ (34 :: (Wr t ++ [34]) ++ R) = _; simp) hp ht⟩
theorem ln_loop {x0 x1 : D} {L : List Nat} {so : So} (hLL : L.length ≤ 16777216) : ∀ (l : List Pc) (P : List Nat) (toks : List D) (fu : Nat) (x5 x6 x7 : Option B), L = P ++ ln l → (∀ p ∈ l, p.ok) → toks.length + l.length < 100000 → 2 * l.length < fu →
    ∃ y5 y6 y7, whGo w_scan_line_0 l_scan_line_0 fu (SLe x0 x1 L toks (P.length : Int) x5 x6 x7) so = .ok .nx (SLe x0 x1 L (toks ++ tkP P.length l) (L.length : Int) y5 y6 y7) so := by
  intro l
  induction l with
  | nil =>
    intro P toks fu x5 x6 x7 hL _ _ hf
    obtain ⟨fu, rfl⟩ : ∃ k, fu = k + 1 := ⟨fu - 1, by simp at hf; omega⟩
    have e : P.length = L.length := by rw [hL]; simp [ln]
    rw [e]
    exact ⟨x5, x6, x7, by rw [sl_end hLL]; simp [tkP]⟩
  | cons p r ih =>
    intro P toks fu x5 x6 x7 hL hp hl hf
    obtain ⟨fu, rfl⟩ : ∃ k, fu = k + 2 := ⟨fu - 2, by simp at hf; omega⟩
    have hl' : toks.length + (r.length + 1) < 100000 := hl
    cases r with
    | nil =>
      have hL' : L = P ++ (p.tx ++ []) := by rw [hL]; simp [ln]
      obtain ⟨y5, y6, y7, h⟩ := pc_step (x0 := x0) (x1 := x1) (toks := toks) (so := so) (fu := fu + 1) (hp p List.mem_cons_self) hLL hL' (.inl rfl) (by omega) x5 x6 x7
      refine ⟨y5, y6, y7, ?_⟩
      have e : (P ++ p.tx).length = L.length := by rw [hL']; simp
      rw [h, e, sl_end hLL]
      rfl
    | cons q r =>
      have hL' : L = P ++ (p.tx ++ 32 :: ln (q :: r)) := hL
      obtain ⟨y5, y6, y7, h⟩ := pc_step (x0 := x0) (x1 := x1) (toks := toks) (so := so) (fu := fu + 1) (hp p List.mem_cons_self) hLL hL' (.inr ⟨32, _, rfl, rfl⟩) (by omega) x5 x6 x7
      have h2 := sl_space (x0 := x0) (x1 := x1) (toks := toks ++ [D.tup [.str p.kd, .str p.va, .int ((P.length : Int) + 1)]]) (so := so) (fu := fu) (x5 := y5) (x6 := y6) (x7 := y7) hLL (P := P ++ p.tx) (R := ln (q :: r)) (by rw [hL']; simp)
      have e2 : P ++ p.tx ++ [32] = P ++ (p.tx ++ [32]) := by simp
      obtain ⟨z5, z6, z7, h3⟩ := ih (P ++ (p.tx ++ [32])) (toks ++ [D.tup [.str p.kd, .str p.va, .int ((P.length : Int) + 1)]]) fu (some (.dat (.str [32]))) y6 y7 (by rw [hL']; simp) (fun z hz => hp z (List.mem_cons_of_mem _ hz)) (by simp at hl' ⊢; omega) (by simp at hf ⊢; omega)
      refine ⟨z5, z6, z7, ?_⟩
      rw [h, h2, e2, h3]
      have e3 : (P ++ (p.tx ++ [32])).length = P.length + (p.tx.length + 1) := by simp
      rw [e3, List.append_assoc]
      rfl
/-- scan_line reads it -/
theorem scanP_ok (x0 x1 : D) (l : List Pc) (so : So) (hp : ∀ p ∈ l, p.ok) (hs : skp (ln l) = false) (hLL : (ln l).length ≤ 16777216) (hl : l.length ≤ 1000) :
    m_scan_line [x0, x1, .str (ln l)] so = .ok (.dat (.lst (tkP 0 l))) so := by
  obtain ⟨y5, y6, y7, h⟩ := ln_loop (x0 := x0) (x1 := x1) (so := so) hLL l [] [] 10000 none none none rfl hp (by simp; omega) (by omega)
  have h' : whGo w_scan_line_0 l_scan_line_0 10000 [some (.dat x0), some (.dat x1), some (.dat (.str (ln l))), some (.cel (.lst [])), some (.dat (.int 0)), none, none, none] so = .ok .nx (SLe x0 x1 (ln l) (tkP 0 l) ((ln l).length : Int) y5 y6 y7) so := h
  rw [c_scan_line]
  simp [b_scan_line, r_scan_line_0, t_scan_line_0, r_scan_line_1, t_scan_line_1, r_scan_line_2, t_scan_line_2, r_scan_line_3, t_scan_line_3, t_scan_line_4, skipped_ok _ _ hLL, hs, sWhile, h']
  simp [SLe]
/-! ### cells, draws and texts -/
theorem cell_ok (ns : List Int) (i : Int) (so : So) (h0 : 0 ≤ i) : ∃ k : Int, m__law_cell [.lst (ns.map .int), .int i] so = .ok (.dat (.int k)) so := by
  rw [c__law_cell]
  by_cases h : i < (ns.length : Int)
  · have h2 : i < ((ns.map D.int).length : Int) := by rw [List.length_map]; exact h
    refine ⟨ns.getD i.toNat 0, ?_⟩
    have e : L2.atI (ns.map D.int) i = some (.int (ns.getD i.toNat 0)) := by
      rw [atI_map, atI_get' ns i h0 h]
      rfl
    simp [b__law_cell, h, e]
  · exact ⟨0, by simp [b__law_cell, h]⟩
theorem abs_ok (c : Int) : ∃ v : Int, (if c < 0 then -c else c) = v ∧ 0 ≤ v := ⟨_, rfl, by split <;> omega⟩
theorem draws_ok (c : Int) (n lim : Nat) (hn : n ≤ 1000) (h0 : 0 < lim) (h1 : lim < 1073741824) (so : So) : ∃ l : List Int, l.length = n ∧ (∀ x ∈ l, 0 ≤ x ∧ x < (lim : Int)) ∧ m__law_draws [.int c, .int (n : Int), .int (lim : Int)] so = .ok (.dat (.lst (l.map .int))) so := by
  obtain ⟨v, hv, hv0⟩ := abs_ok c
  obtain ⟨en', so', g1, x4, x5, x6, l, g2, g3, g4, g5⟩ := forGo_at (tg := tgN 5) (body := l__law_draws_0) (fun i : Nat => D.int (0 + (i : Int))) (fun done en so' => ∃ (x4 : Int) (x5 x6 : Option B) (l : List Int), en = [some (.dat (.int c)), some (.dat (.int (n : Int))), some (.dat (.int (lim : Int))), some (.cel (.lst (l.map .int))), some (.dat (.int x4)), x5, x6] ∧ so' = so ∧ l.length = done.length ∧ ∀ x ∈ l, 0 ≤ x ∧ x < (lim : Int)) (List.range n) (List.range n) [] [some (.dat (.int c)), some (.dat (.int (n : Int))), some (.dat (.int (lim : Int))), some (.cel (.lst [])), some (.dat (.int v)), none, none] so rfl ⟨v, none, none, [], rfl, rfl, rfl, by simp⟩
    (fun done a rest en so1 hd ⟨x4, x5, x6, l, he, hs, hll, hlx⟩ => by
      subst he hs
      have hdl : done.length < n := by
        have := congrArg List.length hd
        rw [List.length_append, List.length_cons, List.length_range] at this
        omega
      have ap := fun d : D => apF_ (xs := l.map D.int) (by rw [List.length_map]; omega) d
      have l0 : (0 : Int) < (lim : Int) := by omega
      have l1 : (lim : Int) < 1073741824 := by omega
      have add : ∀ z : Int, (l ++ [z % (lim : Int)]).length = (done ++ [a]).length ∧ ∀ x ∈ l ++ [z % (lim : Int)], 0 ≤ x ∧ x < (lim : Int) := fun z => ⟨by rw [List.length_append, List.length_append, hll]; rfl, fun x hx => by
        rcases List.mem_append.mp hx with hx | hx
        · exact hlx x hx
        · rw [List.mem_singleton.mp hx]; exact ⟨Int.emod_nonneg _ (by omega), Int.emod_lt_of_pos _ l0⟩⟩
      have gm : (-(2 ^ 64) < (48271 : Int) ∧ (48271 : Int) < 2 ^ 64) ∧ (-(2 ^ 64) < (69621 : Int) ∧ (69621 : Int) < 2 ^ 64) ∧ (-(2 ^ 64) < (16807 : Int) ∧ (16807 : Int) < 2 ^ 64) ∧ (-(2 ^ 64) < (31 : Int) ∧ (31 : Int) < 2 ^ 64) := by decide
      by_cases hb : (1000000000000000000 : Int) ≤ v ∧ 0 < x4
      · exact ⟨_, rfl, _, _, .inl (by simp [l__law_draws_0, hv, hb.1, hb.2, ap, l0, l1, h0, h1]; rfl), x4 / (lim : Int), some (.dat (.int (a : Int))), x6, l ++ [x4 % (lim : Int)], by simp, rfl, add x4⟩
      · have hb' : decide ((1000000000000000000 : Int) ≤ v) = false ∨ (decide ((1000000000000000000 : Int) ≤ v) = true ∧ decide (0 < x4) = false) := by
          by_cases h : (1000000000000000000 : Int) ≤ v
          · exact .inr ⟨decide_eq_true h, decide_eq_false fun q => hb ⟨h, q⟩⟩
          · exact .inl (decide_eq_false h)
        obtain ⟨w, hw⟩ : ∃ w : Int, (v * 48271 + (0 + (a : Int)) * 69621 + 7) % 2147483647 = w := ⟨_, rfl⟩
        obtain ⟨u, hu⟩ : ∃ u : Int, (w * 16807 + w / 127 + (0 + (a : Int)) * 31) % 2147483629 = u := ⟨_, rfl⟩
        have hw : (v * 48271 + (a : Int) * 69621 + 7) % 2147483647 = w := by rw [← hw, Int.zero_add]
        have hu : (w * 16807 + w / 127 + (a : Int) * 31) % 2147483629 = u := by rw [← hu, Int.zero_add]
        rcases hb' with h | ⟨h, h'⟩
        · have hq : ¬ (1000000000000000000 : Int) ≤ v := of_decide_eq_false h
          exact ⟨_, rfl, _, _, .inl (by simp [l__law_draws_0, hv, hq, ap, l0, l1, h0, h1, gm, hw, hu]; rfl), x4, some (.dat (.int (a : Int))), some (.dat (.int u)), l ++ [u / 3 % (lim : Int)], by simp, rfl, add _⟩
        · have hq : (1000000000000000000 : Int) ≤ v := of_decide_eq_true h
          have h' : ¬ 0 < x4 := of_decide_eq_false h'
          exact ⟨_, rfl, _, _, .inl (by simp [l__law_draws_0, hv, hq, h', ap, l0, l1, h0, h1, gm, hw, hu]; rfl), x4, some (.dat (.int (a : Int))), some (.dat (.int u)), l ++ [u / 3 % (lim : Int)], by simp, rfl, add _⟩)
  subst g2 g3
  rw [List.length_range] at g4
  refine ⟨l, g4, g5, ?_⟩
  have n2 : n ≤ 16777216 := by omega
  rw [c__law_draws]
  simp [b__law_draws, r__law_draws_0, t__law_draws_0, r__law_draws_1, t__law_draws_1, r__law_draws_2, t__law_draws_2, hv, n2]
  rw [show rngD 0 n = (List.range n).map fun i : Nat => D.int (0 + (i : Int)) from rfl, g1]
  simp [t__law_draws_3]
def CH : List Nat := [10, 32, 33, 34, 35, 36, 38, 39, 40, 41, 42, 43, 44, 45, 46, 47, 48, 49, 50, 51, 52, 53, 54, 55, 56, 57, 58, 59, 60, 61, 62, 63, 64, 65, 66, 67, 68, 69, 70, 71, 72, 73, 74, 75, 76, 77, 78, 79, 80, 81, 82, 83, 84, 85, 86, 87, 88, 89, 90, 91, 92, 93, 94, 95, 96, 97, 98, 99, 100, 101, 102, 103, 104, 105, 106, 107, 108, 109, 110, 111, 112, 113, 114, 115, 116, 117, 118, 119, 120, 121, 122, 123, 124, 125, 126]
theorem CH_ok : CH.all okc = true := by decide +kernel
theorem CH_len : CH.length = 95 := by decide +kernel
def chn (x : Int) : Nat := CH.getD (x % 95).toNat 0
theorem chn_at (x : Int) : L2.atI CH (x % 95) = some (chn x) := by
  have := atI_get' CH (x % 95) (Int.emod_nonneg _ (by decide)) (by rw [CH_len]; exact Int.emod_lt_of_pos _ (by decide))
  exact this
theorem chn_ok (x : Int) : okc (chn x) = true := by
  have h := chn_at x
  have hm : chn x ∈ CH := by
    have h1 : (x % 95).toNat < CH.length := by rw [CH_len]; have := Int.emod_lt_of_pos x (b := 95) (by decide); have := Int.emod_nonneg x (b := 95) (by decide); omega
    unfold chn
    rw [List.getD_eq_getElem?_getD, List.getElem?_eq_getElem h1]
    exact List.getElem_mem h1
  exact List.all_eq_true.mp CH_ok _ hm
theorem ltext_ok (l : List Int) (so : So) (hl : l.length ≤ 1000) : m__law_text [.lst (l.map .int)] so = .ok (.dat (.str (l.map chn))) so := by
  rw [c__law_text]
  have hc : ([10, 32, 33, 34, 35, 36, 38, 39, 40, 41, 42, 43, 44, 45, 46, 47, 48, 49, 50, 51, 52, 53, 54, 55, 56, 57, 58, 59, 60, 61, 62, 63, 64, 65, 66, 67, 68, 69, 70, 71, 72, 73, 74, 75, 76, 77, 78, 79, 80, 81, 82, 83, 84, 85, 86, 87, 88, 89, 90, 91, 92, 93, 94, 95, 96, 97, 98, 99, 100, 101, 102, 103, 104, 105, 106, 107, 108, 109, 110, 111, 112, 113, 114, 115, 116, 117, 118, 119, 120, 121, 122, 123, 124, 125, 126] : List Nat) = CH := rfl
  simp [b__law_text]
  rw [hc, lcGo_mp D.int (fun x => .str [chn x]) l ?_ (by omega)]
  rotate_left
  · exact fun x _ => ⟨_, rfl, by simp [e__law_text_0, chn_at, CH_len], rfl⟩
  have hj := join_signs (l.map chn) (en := [some (.dat (.lst (l.map .int))), some (.dat (.str CH)), none]) (so := so) (by rw [List.length_map]; omega)
  rw [List.map_map] at hj
  have hj : joinD [] (.lst (l.map fun x => .str [chn x])) [some (.dat (.lst (l.map .int))), some (.dat (.str CH)), none] so = _ := hj
  simp [hj]
theorem lcont_ok (c : Int) (so : So) (h0 : 0 ≤ c) : ∃ t : List Nat, oku t = true ∧ m__law_content [.int c] so = .ok (.dat (.str t)) so := by
  have fin : ∀ l : List Int, l.length ≤ 400 → oku (l.map chn) = true := fun l hl => by
    unfold oku okt
    rw [List.length_map, decide_eq_true (by omega), Bool.true_and, List.all_map, List.all_eq_true]
    exact fun x _ => chn_ok x
  rw [c__law_content]
  by_cases hc : c % 17 = 3
  · obtain ⟨l, h1, _, h3⟩ := draws_ok c 400 95 (by decide) (by decide) (by decide) so
    have h3 : m__law_draws [.int c, .int 400, .int 95] so = .ok (.dat (.lst (l.map .int))) so := h3
    exact ⟨_, fin l (by omega), by simp [b__law_content, hc, h3, ltext_ok l so (by omega)]⟩
  · obtain ⟨n, hn⟩ : ∃ n : Nat, c % 13 = (n : Int) := ⟨(c % 13).toNat, by omega⟩
    have hn2 : n < 13 := by omega
    obtain ⟨l, h1, _, h3⟩ := draws_ok c n 95 (by omega) (by decide) (by decide) so
    have h3 : m__law_draws [.int c, .int n, .int 95] so = .ok (.dat (.lst (l.map .int))) so := h3
    exact ⟨_, fin l (by omega), by simp [b__law_content, hc, hn, h3, ltext_ok l so (by omega)]⟩
theorem lstr_ok (t : List Nat) (so : So) (ht : t.length ≤ 1000) : m__law_string [.str t] so = .ok (.dat (.str (34 :: (Wr t ++ [34])))) so := by
  have e := format_ok t so ht
  rw [c_format_string] at e
  rw [c__law_string, ← e]
  obtain ⟨g1, g2, g3, e, w⟩ := repl_facts t ht
  simp [b__law_string, b_format_string, mRepl, replD, g1, g2, g3, e, w]
/-! ### entries and their lines -/
def FILE : List Nat := [102, 105, 108, 101]
def LINK : List Nat := [108, 105, 110, 107]
def BLD : List Nat := [98, 117, 105, 108, 100]
structure Pth (p : List Nat) : Prop where
  ok : okp p = true
  len : p.length ≤ 60
  ne : p ≠ []
  cs : ∀ c ∈ p, wst c = false
  nl : 10 ∉ p
def EOK (p : List Nat) : Ent → Prop
  | .file x b => Pth p ∧ oku x = true ∧ (b = PERS ∨ b = BLD)
  | .link q => Pth p ∧ Pth q
def pcE (p : List Nat) : Ent → List Pc
  | .file x b => [.w FILE, .w p, .w b, .s x]
  | .link q => [.w LINK, .w p, .w q]
def lineE (p : List Nat) (a : Ent) : List Nat := ln (pcE p a)
theorem lineE_file (p x b : List Nat) : lineE p (.file x b) = FILE ++ 32 :: (p ++ 32 :: (b ++ 32 :: 34 :: (Wr x ++ [34]))) := rfl
theorem lineE_link (p q : List Nat) : lineE p (.link q) = LINK ++ 32 :: (p ++ 32 :: q) := rfl
theorem oku_len {x : List Nat} (h : oku x = true) : x.length ≤ 400 := by
  unfold oku at h
  rw [Bool.and_eq_true] at h
  have := of_decide_eq_true h.1
  omega
theorem Wr_nl (t : List Nat) : 10 ∉ Wr t := by
  intro h
  unfold Wr at h
  obtain ⟨c, _, h⟩ := List.mem_flatMap.mp h
  unfold esc at h
  split at h
  · simp at h
  · split at h
    · rename_i h1 h2
      simp at h
      exact h1 h.symm
    · rename_i h1 h2
      simp at h
      exact h1 h.symm
theorem w_ok {p : List Nat} (h : Pth p) : (Pc.w p).ok := ⟨h.ne, h.cs, by have := h.len; omega⟩
theorem b_cases {b : List Nat} (h : b = PERS ∨ b = BLD) : (Pc.w b).ok ∧ b.length ≤ 6 ∧ 10 ∉ b := by
  rcases h with rfl | rfl <;> exact ⟨⟨by decide, by decide, by decide⟩, by decide, by decide⟩
theorem pcE_ok {p : List Nat} {a : Ent} (h : EOK p a) : ∀ z ∈ pcE p a, z.ok := by
  intro z hz
  cases a with
  | file x b =>
    obtain ⟨h1, h2, h3⟩ := h
    have hz : z = .w FILE ∨ z = .w p ∨ z = .w b ∨ z = .s x := by simpa [pcE] using hz
    rcases hz with rfl | rfl | rfl | rfl
    · exact ⟨by decide, by decide, by decide⟩
    · exact w_ok h1
    · exact (b_cases h3).1
    · have := oku_len h2
      show x.length < 5000
      omega
  | link q =>
    obtain ⟨h1, h2⟩ := h
    have hz : z = .w LINK ∨ z = .w p ∨ z = .w q := by simpa [pcE] using hz
    rcases hz with rfl | rfl | rfl
    · exact ⟨by decide, by decide, by decide⟩
    · exact w_ok h1
    · exact w_ok h2
theorem lineE_len {p : List Nat} {a : Ent} (h : EOK p a) : (lineE p a).length ≤ 1000 := by
  cases a with
  | file x b =>
    obtain ⟨h1, h2, h3⟩ := h
    have l1 := h1.len
    have l2 := oku_len h2
    have l3 := (b_cases h3).2.1
    have l4 := Wr_len x
    rw [lineE_file]
    simp [FILE]
    omega
  | link q =>
    obtain ⟨h1, h2⟩ := h
    have l1 := h1.len
    have l2 := h2.len
    rw [lineE_link]
    simp [LINK]
    omega
theorem lineE_nl {p : List Nat} {a : Ent} (h : EOK p a) : 10 ∉ lineE p a := by
  cases a with
  | file x b =>
    obtain ⟨h1, h2, h3⟩ := h
    have := (b_cases h3).2.2
    rw [lineE_file]
    simp [FILE, h1.nl, this, Wr_nl]
  | link q =>
    obtain ⟨h1, h2⟩ := h
    rw [lineE_link]
    simp [LINK, h1.nl, h2.nl]
theorem lineE_skp (p : List Nat) (a : Ent) : skp (lineE p a) = false ∧ lineE p a ≠ [] := by
  cases a with
  | file x b => rw [lineE_file]; simp [skp, FILE]
  | link q => rw [lineE_link]; simp [skp, LINK]
theorem join4 (z a b c d : List Nat) : joinD z (.lst [.str a, .str b, .str c, .str d]) = gd (szL [a, b, c, d] + 4 * z.length ≤ 16777216) (pu (.str (a ++ (z ++ (b ++ (z ++ (c ++ (z ++ d)))))))) := by
  have h := join_map z [a, b, c, d]
  rw [show (([a, b, c, d] : List (List Nat)).map D.str) = [.str a, .str b, .str c, .str d] from rfl] at h
  rw [h]
  simp [TL.joinL]
theorem join3 (z a b c : List Nat) : joinD z (.lst [.str a, .str b, .str c]) = gd (szL [a, b, c] + 3 * z.length ≤ 16777216) (pu (.str (a ++ (z ++ (b ++ (z ++ c)))))) := by
  have h := join_map z [a, b, c]
  rw [show (([a, b, c] : List (List Nat)).map D.str) = [.str a, .str b, .str c] from rfl] at h
  rw [h]
  simp [TL.joinL]
theorem fline_ok (p b x : List Nat) (so : So) (h1 : p.length ≤ 1000) (h2 : b.length ≤ 1000) (h3 : x.length ≤ 1000) : m_file_line [.str p, .str b, .str x] so = .ok (.dat (.str (lineE p (.file x b)))) so := by
  have h4 := Wr_len x
  have g : szL [[102, 105, 108, 101], p, b, 34 :: (Wr x ++ [34])] + 4 ≤ 16777216 := by simp [szL]; omega
  rw [c_file_line]
  simp [b_file_line, format_ok x so h3, join4, g]
  rfl
theorem lline_ok (p q : List Nat) (so : So) (h1 : p.length ≤ 1000) (h2 : q.length ≤ 1000) : m_link_line [.str p, .str q] so = .ok (.dat (.str (lineE p (.link q)))) so := by
  have g : szL [[108, 105, 110, 107], p, q] + 3 ≤ 16777216 := by simp [szL]; omega
  rw [c_link_line]
  simp [b_link_line, join3, g]
  rfl
/-- the line of a path -/
def lineO (M : Tb Ent) (p : List Nat) : List Nat := match look M p with
  | some a => lineE p a
  | none => []
theorem lineO_of {M : Tb Ent} {p : List Nat} {a : Ent} (h : look M p = some a) : lineO M p = lineE p a := by unfold lineO; rw [h]
def savT (M : Tb Ent) : List Nat := TL.joinL [10] ((srtS (keys M)).map (lineO M))
theorem save_ok {so : So} {t e : Nat} {M : Tb Ent} (h : Tr so t e M) (hM : ∀ x ∈ M, EOK x.1 x.2) (hl : M.length ≤ 1000) : m_save_tree [.obj t] so = .ok (.dat (.str (savT M))) so := by
  have ho := h.ob
  have hp := paths_ok h.r
  have hks : (srtS (keys M)).length ≤ 1000 := by rw [srtS_len, keys_len]; exact hl
  have hE : ∀ p ∈ srtS (keys M), ∃ a, look M p = some a ∧ EOK p a := fun p hp => by
    have h1 := look_key.mpr (mem_srt.mp hp)
    obtain ⟨a, ha⟩ := Option.isSome_iff_exists.mp h1
    exact ⟨a, ha, hM _ (look_mem ha)⟩
  obtain ⟨en', so', g1, x2, g2, g3⟩ := forGo_at (tg := tgN 2) (body := l_save_tree_0) D.str (fun done en so' => ∃ x2 : Option B, en = [some (.dat (.obj t)), some (.cel (.lst (done.map fun p => .str (lineO M p)))), x2] ∧ so' = so) (srtS (keys M)) (srtS (keys M)) [] [some (.dat (.obj t)), some (.cel (.lst [])), none] so rfl ⟨none, rfl, rfl⟩
    (fun done p rest en so1 hd ⟨x2, he, hs⟩ => by
      subst he hs
      obtain ⟨a, ha, ea⟩ := hE p (by rw [← hd]; simp)
      have hdl : done.length ≤ 1000 := by
        have := congrArg List.length hd
        rw [List.length_append] at this
        omega
      have ap := fun d : D => apF_ (xs := done.map fun p => D.str (lineO M p)) (by rw [List.length_map]; omega) d
      refine ⟨_, rfl, _, _, .inl ?_, some (.dat (.str p)), rfl, rfl⟩
      have k1 := kind_ok h.r p
      have k2 := writer_ok h.r p
      have k3 := read_ok h.r p
      have k4 := target_ok h.r p
      rw [ha] at k1 k2 k3 k4
      cases a with
      | file x b =>
        obtain ⟨e1, e2, e3⟩ := ea
        have f := fline_ok p b x so1 (by have := e1.len; omega) (by have := (b_cases e3).2.1; omega) (by have := oku_len e2; omega)
        simp [l_save_tree_0, ho, k1, k2, k3, kindE, writE, readE, f, ap, lineO_of ha]
      | link q =>
        obtain ⟨e1, e2⟩ := ea
        have f := lline_ok p q so1 (by have := e1.len; omega) (by have := e2.len; omega)
        simp [l_save_tree_0, ho, k1, k4, kindE, targE, optD, f, ap, lineO_of ha])
  subst g2 g3
  have hsz : szL ((srtS (keys M)).map (lineO M)) + ((srtS (keys M)).map (lineO M)).length * ([10] : List Nat).length ≤ 16777216 := by
    have h1 := szL_le ((srtS (keys M)).map (lineO M)) 1000 fun q hq => by
      obtain ⟨p, hp, rfl⟩ := List.mem_map.mp hq
      obtain ⟨a, ha, ea⟩ := hE p hp
      rw [lineO_of ha]
      exact lineE_len ea
    rw [List.length_map] at h1 ⊢
    simp
    omega
  have hj := join_map [10] ((srtS (keys M)).map (lineO M))
  rw [List.map_map] at hj
  have hj : joinD [10] (.lst ((srtS (keys M)).map fun p => D.str (lineO M p))) = _ := hj
  rw [c_save_tree]
  simp [b_save_tree, ho, hp]
  rw [g1]
  simp [hj, hsz, savT]
  rw [gd_t (by simpa using hsz)]
  rfl
/-! ### joined and split -/
theorem pieces_app (c : Nat) (r : List Nat) : ∀ (l acc : List Nat), c ∉ l → pieces c acc (l ++ c :: r) = (acc ++ l) :: pieces c [] r
  | [], acc, _ => by simp [pieces]
  | x :: l, acc, h => by
    have hx : x ≠ c := fun e => h (by simp [e])
    show (if x = c then _ else pieces c (acc ++ [x]) (l ++ c :: r)) = _
    rw [if_neg hx, pieces_app c r l (acc ++ [x]) fun q => h (List.mem_cons_of_mem _ q)]
    simp
theorem pieces_one (c : Nat) : ∀ (l acc : List Nat), c ∉ l → pieces c acc l = [acc ++ l]
  | [], acc, _ => by simp [pieces]
  | x :: l, acc, h => by
    have hx : x ≠ c := fun e => h (by simp [e])
    show (if x = c then _ else pieces c (acc ++ [x]) l) = _
    rw [if_neg hx, pieces_one c l (acc ++ [x]) fun q => h (List.mem_cons_of_mem _ q)]
    simp
theorem pieces_join (c : Nat) : ∀ L : List (List Nat), L ≠ [] → (∀ l ∈ L, c ∉ l) → pieces c [] (TL.joinL [c] L) = L
  | [], h, _ => absurd rfl h
  | [l], _, h => by simp [TL.joinL, pieces_one c l [] (h l List.mem_cons_self)]
  | l :: m :: r, _, h => by
    have ih := pieces_join c (m :: r) (by simp) fun x hx => h x (List.mem_cons_of_mem _ hx)
    have e : TL.joinL [c] (l :: m :: r) = l ++ c :: TL.joinL [c] (m :: r) := by
      conv => lhs; unfold TL.joinL
      simp
    rw [e, pieces_app c _ l [] (h l List.mem_cons_self), ih]
    rfl
theorem joinL_len (c : Nat) : ∀ L : List (List Nat), (TL.joinL [c] L).length ≤ szL L + L.length
  | [] => by simp [TL.joinL, szL]
  | [l] => by simp [TL.joinL, szL]
  | l :: m :: r => by
    have ih := joinL_len c (m :: r)
    have e : TL.joinL [c] (l :: m :: r) = l ++ c :: TL.joinL [c] (m :: r) := by
      conv => lhs; unfold TL.joinL
      simp
    rw [e]
    simp [szL] at ih ⊢
    omega
theorem joinL_ne (c : Nat) : ∀ L : List (List Nat), L ≠ [] → (∀ l ∈ L, l ≠ []) → TL.joinL [c] L ≠ []
  | [], h, _ => absurd rfl h
  | [l], _, h => by simpa [TL.joinL] using h l List.mem_cons_self
  | l :: m :: r, _, h => by
    have e : TL.joinL [c] (l :: m :: r) = l ++ c :: TL.joinL [c] (m :: r) := by
      conv => lhs; unfold TL.joinL
      simp
    rw [e]
    simp
theorem lines_ok (L : List (List Nat)) (so : So) (h0 : ∀ l ∈ L, l ≠ []) (h1 : ∀ l ∈ L, 10 ∉ l) (hl : szL L + L.length ≤ 16000000) : m_lines_of [.str (TL.joinL [10] L)] so = .ok (.dat (.lst (L.map .str))) so := by
  rw [c_lines_of]
  by_cases hL : L = []
  · subst hL
    simp [b_lines_of, TL.joinL]
  · have h2 := joinL_ne 10 L hL h0
    have h3 := pieces_join 10 L hL h1
    have h4 := joinL_len 10 L
    have h5 : (TL.joinL [10] L).length ≤ 16777214 := by omega
    simp [b_lines_of, h2, h3, h5]
/-! ### the parts of a line -/
def tup1 : D → D
  | .tup (a :: _) => a
  | _ => .non
def tup2 : D → D
  | .tup (_ :: a :: _) => a
  | _ => .non
theorem tkP_map (l : List Pc) : ∀ i : Nat, (tkP i l).map tup1 = l.map (fun p => .str p.kd) ∧ (tkP i l).map tup2 = l.map (fun p => .str p.va) := by
  induction l with
  | nil => exact fun i => ⟨rfl, rfl⟩
  | cons p r ih => exact fun i => ⟨congrArg (D.str p.kd :: ·) (ih _).1, congrArg (D.str p.va :: ·) (ih _).2⟩
theorem tkP_mem (l : List Pc) : ∀ i : Nat, ∀ d ∈ tkP i l, ∃ a b c, d = .tup [a, b, c] := by
  induction l with
  | nil => exact fun i d h => nomatch h
  | cons p r ih =>
    intro i d h
    rcases List.mem_cons.mp h with h | h
    · exact ⟨_, _, _, h⟩
    · exact ih _ d h
theorem parts_ok (n : Int) (l : List Pc) (so : So) (hp : ∀ p ∈ l, p.ok) (hs : skp (ln l) = false) (hLL : (ln l).length ≤ 16777216) (hl : l.length ≤ 1000) :
    m_parts_of [.int n, .str (ln l)] so = .ok (.dat (.tup [.lst (l.map fun p => .str p.kd), .lst (l.map fun p => .str p.va)])) so := by
  have h := scanP_ok (.str []) (.int n) l so hp hs hLL hl
  have h1 : lcGo [3] (tgN 3) (pu true) e_parts_of_1 (tkP 0 l) [] [some (.dat (.int n)), some (.dat (.str (ln l))), some (.dat (.lst (tkP 0 l))), none] so = .ok ([] ++ (tkP 0 l).map tup1) [some (.dat (.int n)), some (.dat (.str (ln l))), some (.dat (.lst (tkP 0 l))), none] so :=
    lcGo_map tup1 _ _ (fun d hd => by
      obtain ⟨a, b, c, rfl⟩ := tkP_mem l 0 d hd
      exact ⟨_, rfl, by simp [e_parts_of_1, tup1], rfl⟩) (by rw [tkP_len]; simp; omega)
  have h2 : lcGo [3] (tgN 3) (pu true) e_parts_of_0 (tkP 0 l) [] [some (.dat (.int n)), some (.dat (.str (ln l))), some (.dat (.lst (tkP 0 l))), none] so = .ok ([] ++ (tkP 0 l).map tup2) [some (.dat (.int n)), some (.dat (.str (ln l))), some (.dat (.lst (tkP 0 l))), none] so :=
    lcGo_map tup2 _ _ (fun d hd => by
      obtain ⟨a, b, c, rfl⟩ := tkP_mem l 0 d hd
      exact ⟨_, rfl, by simp [e_parts_of_0, tup2], rfl⟩) (by rw [tkP_len]; simp; omega)
  rw [(tkP_map l 0).1, List.nil_append] at h1
  rw [(tkP_map l 0).2, List.nil_append] at h2
  rw [c_parts_of]
  simp [b_parts_of, y_parts_of_0, h, h1, h2]
/-! ### identifiers -/
def LET : List Nat := [97, 98, 99, 100, 101, 102, 103, 104, 105, 106, 107, 108, 109, 110, 111, 112, 113, 114, 115, 116, 117, 118, 119, 120, 121, 122]
def DIG : List Nat := [48, 49, 50, 51, 52, 53, 54, 55, 56, 57, 95]
def identF (t : List Nat) : Bool := decide (1 ≤ t.length) && decide (t.length ≤ 12) && (match t with
  | c :: _ => decide (c ∈ LET)
  | [] => false) && t.all fun c => decide (c ∈ LET ++ DIG)
theorem ident_ok {so : So} (t : List Nat) (ht : t.length ≤ 16777216) : m_is_identifier [.str t] so = .ok (.dat (.bl (identF t))) so := by
  rw [c_is_identifier]
  cases t with
  | nil => simp [b_is_identifier, identF]
  | cons c r =>
    have h' : r.length ≤ 16777215 := by simpa using ht
    have h1 : ¬ ((r.length : Int) + 1 < 1) := by omega
    have hLET : (D.str [97, 98, 99, 100, 101, 102, 103, 104, 105, 106, 107, 108, 109, 110, 111, 112, 113, 114, 115, 116, 117, 118, 119, 120, 121, 122]) = .str LET := rfl
    have hDIG : (D.str [48, 49, 50, 51, 52, 53, 54, 55, 56, 57, 95]) = .str DIG := rfl
    have hl : lcGo [1] (tgN 1) (pu true) e_is_identifier_0 (D.str [c] :: List.map (fun c => D.str [c]) r) [] [some (.dat (.str (c :: r))), none] so = .ok ((c :: r).map fun x => .bl (decide (x ∈ LET ++ DIG))) [some (.dat (.str (c :: r))), none] so := by
      rw [show D.str [c] :: List.map (fun c => D.str [c]) r = (c :: r).map fun c => D.str [c] from rfl]
      refine lcGo_mp (fun c => .str [c]) (fun x => .bl (decide (x ∈ LET ++ DIG))) (c :: r) (fun x _ => ⟨_, rfl, ?_, rfl⟩) ht
      have hs : LET.length + DIG.length ≤ 16777216 := by decide
      simp [e_is_identifier_0, hLET, hDIG, hs]
    by_cases h2 : (12 : Int) < (r.length : Int) + 1
    · have h2' : ¬ r.length + 1 ≤ 12 := by omega
      simp [b_is_identifier, h', h1, h2, identF, h2']
    · have h2' : r.length + 1 ≤ 12 := by omega
      by_cases h3 : c ∈ LET
      · simp only [b_is_identifier, hLET]
        simp [h', h1, h2, h3]
        rw [hl]
        have := all_map (en := [some (.dat (.str (c :: r))), none]) (so := so) (fun x => decide (x ∈ LET ++ DIG)) (c :: r)
        rw [List.map_cons] at this ⊢
        have h4 : r.length ≤ 11 := by omega
        simp [h3] at this
        simp [h3, this, identF, h4]
      · simp only [b_is_identifier, hLET]
        simp [h', h1, h2, h3, identF]
/-! ### reading lines -/
theorem atI_m1_3 (a b c : D) : L2.atI [a, b, c] (-1) = some c := by rfl
theorem atI_m1_2 (a b : D) : L2.atI [a, b] (-1) = some b := by rfl
theorem eqDs_nc (a : D) (xs : List D) : eqDs [] (a :: xs) = false := by simp [eqDs]
theorem eqDs_cn (a : D) (xs : List D) : eqDs (a :: xs) [] = false := by simp [eqDs]
theorem rfile_file (p x b : List Nat) (so : So) (h : EOK p (.file x b)) : m_read_file_line [.str (lineE p (.file x b)), .lst ((pcE p (.file x b)).map fun q => .str q.kd), .lst ((pcE p (.file x b)).map fun q => .str q.va)] so = .ok (.dat (.tup [.str p, (Ent.file x b).D])) so := by
  obtain ⟨h1, h2, h3⟩ := h
  have f := fline_ok p b x so (by have := h1.len; omega) (by have := (b_cases h3).2.1; omega) (by have := oku_len h2; omega)
  have k1 := path_ok p so (by have := h1.len; omega)
  have k2 := content_ok x so (by have := oku_len h2; omega)
  rw [h1.ok] at k1
  rw [h2] at k2
  rw [c_read_file_line]
  rcases h3 with rfl | rfl
  · simp [b_read_file_line, r_read_file_line_0, t_read_file_line_0, r_read_file_line_1, t_read_file_line_1, r_read_file_line_2, t_read_file_line_2, t_read_file_line_3, pcE, Pc.kd, Pc.va, WORD, STRG, FILE, k1, k2, f, PERS, Ent.D] at f ⊢
  · simp [b_read_file_line, r_read_file_line_0, t_read_file_line_0, r_read_file_line_1, t_read_file_line_1, r_read_file_line_2, t_read_file_line_2, t_read_file_line_3, pcE, Pc.kd, Pc.va, WORD, STRG, FILE, k1, k2, f, BLD, Ent.D] at f ⊢
theorem rfile_link (p q : List Nat) (so : So) : m_read_file_line [.str (lineE p (.link q)), .lst ((pcE p (.link q)).map fun q => .str q.kd), .lst ((pcE p (.link q)).map fun q => .str q.va)] so = .ok (.dat .non) so := by
  rw [c_read_file_line]
  simp [b_read_file_line, r_read_file_line_0, t_read_file_line_0, pcE, Pc.kd, Pc.va, WORD, STRG, eqDs_nc, eqDs_cn]
theorem rlink_link (p q : List Nat) (so : So) (h : EOK p (.link q)) : m_read_link_line [.str (lineE p (.link q)), .lst ((pcE p (.link q)).map fun q => .str q.kd), .lst ((pcE p (.link q)).map fun q => .str q.va)] so = .ok (.dat (.tup [.str p, (Ent.link q).D])) so := by
  obtain ⟨h1, h2⟩ := h
  have f := lline_ok p q so (by have := h1.len; omega) (by have := h2.len; omega)
  have k1 := path_ok p so (by have := h1.len; omega)
  have k2 := path_ok q so (by have := h2.len; omega)
  rw [h1.ok] at k1
  rw [h2.ok] at k2
  rw [c_read_link_line]
  simp [b_read_link_line, pcE, Pc.kd, Pc.va, WORD, STRG, LINK, k1, k2, f, Ent.D, eqDs_nc, eqDs_cn]
/-! ### loading a tree -/
def edT (so : So) (N : Tb Ent) : So := so ++ [.ob 57 [some (.obj (so.length + 1))], .cel (.dct []), .cel (.dct (tab Ent.D N))]
theorem ed2 {so : So} {N : Tb Ent} : (edT so N)[so.length + 2]? = some (.cel (.dct (tab Ent.D N))) := get_in _ 2
theorem ed_set {so : So} {N N' : Tb Ent} : (edT so N).set (so.length + 2) (.cel (.dct (tab Ent.D N'))) = edT so N' := by
  unfold edT
  rw [List.set_append_right _ _ (Nat.le_add_right _ _), Nat.add_sub_cancel_left]; rfl
theorem leC_nil' {p : List Nat} (h : p ≠ []) : leC p [] = false := by
  cases p with
  | nil => exact absurd rfl h
  | cons a r => rfl
theorem after {K : List (List Nat)} (hs : K.Pairwise fun a b => leC a b = true) (hn : K.Nodup) {D1 D2 : List (List Nat)} {p l : List Nat} (h : D1 ++ p :: D2 = K) (hl : l ∈ D1) : leC p l = false := by
  subst h
  have h1 := (List.pairwise_append.mp hs).2.2 l hl p List.mem_cons_self
  have h2 := (List.nodup_append.mp hn).2.2 l hl p List.mem_cons_self
  cases e : leC p l with
  | false => rfl
  | true => exact absurd (leC_anti _ _ h1 e) h2
theorem tree_body {so : So} {N : Tb Ent} {L : List (List Nat)} {p : List Nat} {a : Ent} (h : EOK p a) (hN : N.length ≤ 59) (hp : p ∉ keys N) (hL : L[N.length]? = some (lineE p a)) {last : List Nat} (hlast : leC p last = false) {per : Int} (hper : 0 ≤ per ∧ per ≤ N.length) (x0 : Option B) (x7 x8 x9 : Option B) :
    ∃ per' y7 y8 y9, l_load_tree_0 [x0, some (.dat (.obj so.length)), some (.dat (.obj (so.length + 2))), some (.dat (.int per)), some (.dat (.str last)), some (.dat (.lst (L.map .str))), some (.dat (.int (N.length : Int))), x7, x8, x9] (edT so N) = .ok .nx [x0, some (.dat (.obj so.length)), some (.dat (.obj (so.length + 2))), some (.dat (.int per')), some (.dat (.str p)), some (.dat (.lst (L.map .str))), some (.dat (.int (N.length : Int))), y7, y8, y9] (edT so (N ++ [(p, a)])) ∧ (0 ≤ per' ∧ per' ≤ (N.length : Int) + 1) := by
  have hat : L2.atI (L.map D.str) (N.length : Int) = some (.str (lineE p a)) := by
    rw [atI_map, atI_nat hL]; rfl
  have hpa := parts_ok ((N.length : Int) + 1) (pcE p a) (edT so N) (pcE_ok h) (lineE_skp p a).1 (by have := lineE_len h; unfold lineE at this; omega) (by cases a <;> simp [pcE])
  have hpa : m_parts_of [.int ((N.length : Int) + 1), .str (lineE p a)] (edT so N) = _ := hpa
  have hput : putT (tab Ent.D N) (.inr p) a.D = tab Ent.D (N ++ [(p, a)]) := by rw [putT_tab, put_new p a hp]
  have hdd : (tab Ent.D N).length < 16777216 := by rw [tab_len]; omega
  have e2 := ed2 (so := so) (N := N)
  have es := ed_set (so := so) (N := N) (N' := N ++ [(p, a)])
  have g0 : ¬ (60 : Int) < per := by omega
  have g1 : ¬ (60 : Int) < per + 1 := by omega
  cases a with
  | file x b =>
    have r1 := rfile_file p x b (edT so N) h
    obtain ⟨q1, q2, q3⟩ := h
    have hput : putT (tab Ent.D N) (.inr p) (.tup [.str [102, 105, 108, 101], .str x, .str b]) = tab Ent.D (N ++ [(p, .file x b)]) := hput
    have r1 : m_read_file_line [.str (lineE p (.file x b)), .lst ((pcE p (.file x b)).map fun q => .str q.kd), .lst ((pcE p (.file x b)).map fun q => .str q.va)] (edT so N) = .ok (.dat (.tup [.str p, .tup [.str [102, 105, 108, 101], .str x, .str b]])) (edT so N) := r1
    generalize ((pcE p (.file x b)).map fun q => D.str q.kd) = ks at hpa r1
    generalize ((pcE p (.file x b)).map fun q => D.str q.va) = vs at hpa r1
    rcases q3 with rfl | rfl
    · refine ⟨per + 1, some (.dat (.lst ks)), some (.dat (.lst vs)), some (.dat (.tup [.str p, .tup [.str [102, 105, 108, 101], .str x, .str PERS]])), ?_, by omega⟩
      simp [l_load_tree_0, v_load_tree_0_0, u_load_tree_0_0, hat, hpa, v_load_tree_0_1, u_load_tree_0_1, r1, v_load_tree_0_2, u_load_tree_0_2, hlast, v_load_tree_0_3, u_load_tree_0_3, PERS, v_load_tree_0_4, u_load_tree_0_4, g1, v_load_tree_0_5, u_load_tree_0_5, u_load_tree_0_6, e2, dpF_ hdd, atI_m1_3] at hput hpa r1 es ⊢
      rw [hput, es]
    · refine ⟨per, some (.dat (.lst ks)), some (.dat (.lst vs)), some (.dat (.tup [.str p, .tup [.str [102, 105, 108, 101], .str x, .str BLD]])), ?_, by omega⟩
      simp [l_load_tree_0, v_load_tree_0_0, u_load_tree_0_0, hat, hpa, v_load_tree_0_1, u_load_tree_0_1, r1, v_load_tree_0_2, u_load_tree_0_2, hlast, v_load_tree_0_3, u_load_tree_0_3, BLD, v_load_tree_0_4, u_load_tree_0_4, g0, v_load_tree_0_5, u_load_tree_0_5, u_load_tree_0_6, e2, dpF_ hdd, atI_m1_3] at hput hpa r1 es ⊢
      rw [hput, es]
  | link q =>
    have r1 := rfile_link p q (edT so N)
    have r2 := rlink_link p q (edT so N) h
    have hput : putT (tab Ent.D N) (.inr p) (.tup [.str [108, 105, 110, 107], .str q]) = tab Ent.D (N ++ [(p, .link q)]) := hput
    have r2 : m_read_link_line [.str (lineE p (.link q)), .lst ((pcE p (.link q)).map fun q => .str q.kd), .lst ((pcE p (.link q)).map fun q => .str q.va)] (edT so N) = .ok (.dat (.tup [.str p, .tup [.str [108, 105, 110, 107], .str q]])) (edT so N) := r2
    generalize ((pcE p (.link q)).map fun q => D.str q.kd) = ks at hpa r1 r2
    generalize ((pcE p (.link q)).map fun q => D.str q.va) = vs at hpa r1 r2
    by_cases hb : q = BLD
    · subst hb
      refine ⟨per + 1, some (.dat (.lst ks)), some (.dat (.lst vs)), some (.dat (.tup [.str p, .tup [.str [108, 105, 110, 107], .str BLD]])), ?_, by omega⟩
      simp [l_load_tree_0, v_load_tree_0_0, u_load_tree_0_0, hat, hpa, v_load_tree_0_1, u_load_tree_0_1, r1, r2, v_load_tree_0_2, u_load_tree_0_2, hlast, v_load_tree_0_3, u_load_tree_0_3, BLD, v_load_tree_0_4, u_load_tree_0_4, g1, v_load_tree_0_5, u_load_tree_0_5, u_load_tree_0_6, e2, dpF_ hdd, atI_m1_2] at hput hpa r1 r2 es ⊢
      rw [hput, es]
    · have hb' : ¬ q = [98, 117, 105, 108, 100] := hb
      refine ⟨per + 1, some (.dat (.lst ks)), some (.dat (.lst vs)), some (.dat (.tup [.str p, .tup [.str [108, 105, 110, 107], .str q]])), ?_, by omega⟩
      simp [l_load_tree_0, v_load_tree_0_0, u_load_tree_0_0, hat, hpa, v_load_tree_0_1, u_load_tree_0_1, r1, r2, v_load_tree_0_2, u_load_tree_0_2, hlast, v_load_tree_0_3, u_load_tree_0_3, hb', v_load_tree_0_4, u_load_tree_0_4, g1, v_load_tree_0_5, u_load_tree_0_5, u_load_tree_0_6, e2, dpF_ hdd, atI_m1_2]
      rw [hput, es]
theorem loadtree_ok (so : So) (N : Tb Ent) (hE : ∀ x ∈ N, EOK x.1 x.2) (hs : (keys N).Pairwise fun a b => leC a b = true) (hn : (keys N).Nodup) (hl : N.length ≤ 60) (x0 : List Nat) (hx : x0 = TL.joinL [10] (N.map fun x => lineE x.1 x.2)) :
    m_load_tree [.str x0] so = .ok (.dat (.obj so.length)) (so ++ [.ob 57 [some (.obj (so.length + 2))], .cel (.dct []), .cel (.dct (tab Ent.D N))]) := by
  subst hx
  have hLl : (N.map fun x => lineE x.1 x.2).length = N.length := List.length_map _
  have hsz : szL (N.map fun x => lineE x.1 x.2) + (N.map fun x => lineE x.1 x.2).length ≤ 16000000 := by
    have := szL_le (N.map fun x => lineE x.1 x.2) 1000 fun q hq => by
      obtain ⟨x, hx, rfl⟩ := List.mem_map.mp hq
      exact lineE_len (hE x hx)
    omega
  have hlin := lines_ok (N.map fun x => lineE x.1 x.2) (edT so []) (fun l hl => by
    obtain ⟨x, hx, rfl⟩ := List.mem_map.mp hl
    exact (lineE_skp _ _).2) (fun l hl => by
    obtain ⟨x, hx, rfl⟩ := List.mem_map.mp hl
    exact lineE_nl (hE x hx)) hsz
  obtain ⟨en', so', g1, per, last, x6, x7, x8, x9, g2, g3, g4⟩ := forGo_at (tg := tgN 6) (body := l_load_tree_0) (fun i : Nat => D.int (0 + (i : Int))) (fun done en so' => ∃ (per : Int) (last : List Nat) (x6 x7 x8 x9 : Option B), en = [some (.dat (.str (TL.joinL [10] (N.map fun x => lineE x.1 x.2)))), some (.dat (.obj so.length)), some (.dat (.obj (so.length + 2))), some (.dat (.int per)), some (.dat (.str last)), some (.dat (.lst ((N.map fun x => lineE x.1 x.2).map .str))), x6, x7, x8, x9] ∧ so' = edT so (N.take done.length) ∧ (0 ≤ per ∧ per ≤ (done.length : Int)) ∧ (last = [] ∨ last ∈ keys (N.take done.length))) (List.range N.length) (List.range N.length) [] [some (.dat (.str (TL.joinL [10] (N.map fun x => lineE x.1 x.2)))), some (.dat (.obj so.length)), some (.dat (.obj (so.length + 2))), some (.dat (.int 0)), some (.dat (.str [])), some (.dat (.lst ((N.map fun x => lineE x.1 x.2).map .str))), none, none, none, none] (edT so []) rfl ⟨0, [], none, none, none, none, rfl, rfl, ⟨by omega, by simp⟩, .inl rfl⟩
    (fun done i rest en so1 hd ⟨per, last, x6, x7, x8, x9, he, hso, hper, hlast⟩ => by
      subst he hso
      have hdl : done.length < N.length := by
        have := congrArg List.length hd
        rw [List.length_append, List.length_cons, List.length_range] at this
        omega
      have ei : i = done.length := by
        have e1 : (done ++ i :: rest)[done.length]? = some i := by simp
        rw [hd, List.getElem?_range hdl] at e1
        exact (Option.some.inj e1).symm
      subst ei
      obtain ⟨⟨p, a⟩, hx⟩ : ∃ x, N[done.length] = x := ⟨_, rfl⟩
      have hmem : (p, a) ∈ N := by rw [← hx]; exact List.getElem_mem hdl
      have htl : (N.take done.length).length = done.length := by rw [List.length_take]; omega
      have hsplit : N.take done.length ++ (p, a) :: N.drop (done.length + 1) = N := by rw [← hx, ← List.drop_eq_getElem_cons hdl, List.take_append_drop]
      have hk : keys (N.take done.length) ++ p :: keys (N.drop (done.length + 1)) = keys N := by
        have := congrArg keys hsplit
        simpa [keys] using this
      have hnew : p ∉ keys (N.take done.length) := fun hm => by
        rw [← hk] at hn
        exact (List.nodup_append.mp hn).2.2 p hm p List.mem_cons_self rfl
      have hle : leC p last = false := by
        rcases hlast with rfl | hm
        · have := hE _ hmem
          refine leC_nil' ?_
          cases a with
          | file x b => exact this.1.ne
          | link q => exact this.1.ne
        · exact after hs hn hk hm
      have hL : (N.map fun x => lineE x.1 x.2)[(N.take done.length).length]? = some (lineE p a) := by
        rw [htl, List.getElem?_map, List.getElem?_eq_getElem hdl, hx]; rfl
      obtain ⟨per', y7, y8, y9, h1, h2⟩ := tree_body (so := so) (N := N.take done.length) (L := N.map fun x => lineE x.1 x.2) (hE _ hmem) (by rw [htl]; omega) hnew hL hle (per := per) (by rw [htl]; exact hper) (some (.dat (.str (TL.joinL [10] (N.map fun x => lineE x.1 x.2))))) x7 x8 x9
      rw [htl] at h1 h2
      have e0 : (0 : Int) + (done.length : Int) = (done.length : Int) := by omega
      have ht : N.take done.length ++ [(p, a)] = N.take (done ++ [done.length]).length := by
        rw [List.length_append, List.length_singleton, ← hx, List.take_append_getElem hdl]
      refine ⟨_, rfl, _, _, .inl (by rw [e0]; exact h1), per', p, some (.dat (.int (done.length : Int))), y7, y8, y9, rfl, by rw [ht], by rw [List.length_append]; simpa using h2, .inr ?_⟩
      rw [← ht]
      simp [keys])
  subst g2 g3
  rw [List.length_range, List.take_length] at g1
  rw [c_load_tree]
  have hE0 : edT so [] = so ++ [.ob 57 [some (.obj (so.length + 1))], .cel (.dct []), .cel (.dct [])] := rfl
  rw [hE0] at g1 hlin
  have n16 : N.length ≤ 16777216 := by omega
  simp [b_load_tree, r_load_tree_0, t_load_tree_0, c_Tree___init__, b_Tree___init__, List.set_append, r_load_tree_1, t_load_tree_1, r_load_tree_2, t_load_tree_2, r_load_tree_3, t_load_tree_3, r_load_tree_4, t_load_tree_4, r_load_tree_5, t_load_tree_5, hlin, n16]
  rw [show rngD 0 N.length = (List.range N.length).map fun i : Nat => D.int (0 + (i : Int)) from rfl]
  simp at g1 ⊢
  rw [g1]
  simp [edT, r_load_tree_6, t_load_tree_6, t_load_tree_7]
/-! ### settings -/
def SETT : List Nat := [115, 101, 116, 116, 105, 110, 103]
structure SOK (n x : List Nat) : Prop where
  id : identF n = true
  len : n.length ≤ 12
  ne : n ≠ []
  cs : ∀ c ∈ n, wst c = false
  nl : 10 ∉ n
  ct : oku x = true
def pcS (n x : List Nat) : List Pc := [.w SETT, .w n, .s x]
def lineS (n x : List Nat) : List Nat := ln (pcS n x)
theorem lineS_eq (n x : List Nat) : lineS n x = SETT ++ 32 :: (n ++ 32 :: 34 :: (Wr x ++ [34])) := rfl
theorem pcS_ok {n x : List Nat} (h : SOK n x) : ∀ z ∈ pcS n x, z.ok := by
  intro z hz
  have hz : z = .w SETT ∨ z = .w n ∨ z = .s x := by simpa [pcS] using hz
  rcases hz with rfl | rfl | rfl
  · exact ⟨by decide, by decide, by decide⟩
  · exact ⟨h.ne, h.cs, by have := h.len; omega⟩
  · have := oku_len h.ct
    show x.length < 5000
    omega
theorem lineS_len {n x : List Nat} (h : SOK n x) : (lineS n x).length ≤ 1000 := by
  have l1 := h.len
  have l2 := oku_len h.ct
  have l4 := Wr_len x
  rw [lineS_eq]
  simp [SETT]
  omega
theorem lineS_nl {n x : List Nat} (h : SOK n x) : 10 ∉ lineS n x := by
  rw [lineS_eq]
  simp [SETT, h.nl, Wr_nl]
theorem lineS_skp (n x : List Nat) : skp (lineS n x) = false ∧ lineS n x ≠ [] := by
  rw [lineS_eq]; simp [skp, SETT]
theorem sline_ok (n x : List Nat) (so : So) (h1 : n.length ≤ 1000) (h3 : x.length ≤ 1000) : m_setting_line [.str n, .str x] so = .ok (.dat (.str (lineS n x))) so := by
  have h4 := Wr_len x
  have g : szL [[115, 101, 116, 116, 105, 110, 103], n, 34 :: (Wr x ++ [34])] + 3 ≤ 16777216 := by simp [szL]; omega
  rw [c_setting_line]
  simp [b_setting_line, format_ok x so h3, join3, g]
  rfl
/-- the pairs of a table, in order -/
def srtT {A : Type} [Inhabited A] (M : Tb A) : Tb A := (srtS (keys M)).map fun p => (p, (look M p).getD default)
theorem srtT_keys {A : Type} [Inhabited A] (M : Tb A) : keys (srtT M) = srtS (keys M) := by
  unfold srtT keys
  rw [List.map_map]
  exact List.map_id' _
theorem srtT_mem {A : Type} [Inhabited A] {M : Tb A} {x : List Nat × A} (h : x ∈ srtT M) : look M x.1 = some x.2 ∧ x ∈ M := by
  obtain ⟨p, hp, rfl⟩ := List.mem_map.mp h
  obtain ⟨a, ha⟩ := Option.isSome_iff_exists.mp (look_key.mpr (mem_srt.mp hp))
  have e : (look M p).getD default = a := by rw [ha]; rfl
  show look M p = some ((look M p).getD default) ∧ (p, (look M p).getD default) ∈ M
  rw [e]
  exact ⟨ha, look_mem ha⟩
theorem srtT_len {A : Type} [Inhabited A] (M : Tb A) : (srtT M).length = M.length := by
  unfold srtT
  rw [List.length_map, srtS_len, keys_len]
def savS (S : Tb (List Nat)) : List Nat := TL.joinL [10] ((srtT S).map fun x => lineS x.1 x.2)
theorem saveset_ok {so : So} {c : Nat} {S : Tb (List Nat)} (h : so[c]? = some (.cel (.dct (tab D.str S)))) (hS : ∀ x ∈ S, SOK x.1 x.2) (hl : S.length ≤ 1000) : m_save_settings [.obj c] so = .ok (.dat (.str (savS S))) so := by
  have e1 : (srtS (keys S)).map D.str = (srtT S).map fun x => D.str x.1 := by
    rw [← srtT_keys]; unfold keys; rw [List.map_map]; rfl
  have hlc : lcGo [1] (tgN 1) (pu true) e_save_settings_0 ((srtT S).map fun x => D.str x.1) [] [some (.dat (.obj c)), none] so = .ok ((srtT S).map fun x => .str (lineS x.1 x.2)) [some (.dat (.obj c)), none] so := by
    refine lcGo_mp (fun x => D.str x.1) (fun x => .str (lineS x.1 x.2)) (srtT S) (fun x hx => ?_) (by rw [srtT_len]; omega)
    obtain ⟨h1, h2⟩ := srtT_mem hx
    have h3 := hS x h2
    have f := sline_ok x.1 x.2 so (by have := h3.len; omega) (by have := oku_len h3.ct; omega)
    exact ⟨[some (.dat (.obj c)), some (.dat (.str x.1))], rfl, by simp [e_save_settings_0, h, valD_tab, h1, f], rfl⟩
  have hsz : szL ((srtT S).map fun x => lineS x.1 x.2) + ((srtT S).map fun x => lineS x.1 x.2).length * ([10] : List Nat).length ≤ 16777216 := by
    have h1 := szL_le ((srtT S).map fun x => lineS x.1 x.2) 1000 fun q hq => by
      obtain ⟨x, hx, rfl⟩ := List.mem_map.mp hq
      exact lineS_len (hS x (srtT_mem hx).2)
    have h2 := srtT_len S
    rw [List.length_map] at h1 ⊢
    simp
    omega
  have hj := join_map [10] ((srtT S).map fun x => lineS x.1 x.2)
  rw [List.map_map] at hj
  have hj : joinD [10] (.lst ((srtT S).map fun x => D.str (lineS x.1 x.2))) = _ := hj
  rw [c_save_settings]
  simp [b_save_settings, h, kstrs_tab]
  rw [e1, hlc]
  simp [hj]
  rw [gd_t (by simpa using hsz)]
  rfl
theorem set_body {so : So} {N : Tb (List Nat)} {L : List (List Nat)} {p x : List Nat} (h : SOK p x) (hN : N.length ≤ 1000) (hp : p ∉ keys N) (hL : L[N.length]? = some (lineS p x)) {last : List Nat} (hlast : leC p last = false) (x0 : Option B) (x5 x6 : Option B) :
    ∃ y5 y6, l_load_settings_0 [x0, some (.dat (.obj so.length)), some (.dat (.str last)), some (.dat (.lst (L.map .str))), some (.dat (.int (N.length : Int))), x5, x6] (so ++ [.cel (.dct (tab D.str N))]) = .ok .nx [x0, some (.dat (.obj so.length)), some (.dat (.str p)), some (.dat (.lst (L.map .str))), some (.dat (.int (N.length : Int))), y5, y6] (so ++ [.cel (.dct (tab D.str (N ++ [(p, x)])))]) := by
  have hat : L2.atI (L.map D.str) (N.length : Int) = some (.str (lineS p x)) := by
    rw [atI_map, atI_nat hL]; rfl
  have hpa := parts_ok ((N.length : Int) + 1) (pcS p x) (so ++ [.cel (.dct (tab D.str N))]) (pcS_ok h) (lineS_skp p x).1 (by have := lineS_len h; unfold lineS at this; omega) (by simp [pcS])
  have hpa : m_parts_of [.int ((N.length : Int) + 1), .str (lineS p x)] (so ++ [.cel (.dct (tab D.str N))]) = _ := hpa
  have hput : putT (tab D.str N) (.inr p) (.str x) = tab D.str (N ++ [(p, x)]) := by rw [putT_tab, put_new p x hp]
  have hdd : (tab D.str N).length < 16777216 := by rw [tab_len]; omega
  have f := sline_ok p x (so ++ [.cel (.dct (tab D.str N))]) (by have := h.len; omega) (by have := oku_len h.ct; omega)
  have k1 := ident_ok (so := so ++ [.cel (.dct (tab D.str N))]) p (by have := h.len; omega)
  have k2 := content_ok x (so ++ [.cel (.dct (tab D.str N))]) (by have := oku_len h.ct; omega)
  rw [h.id] at k1
  rw [h.ct] at k2
  refine ⟨some (.dat (.lst ((pcS p x).map fun q => .str q.kd))), some (.dat (.lst ((pcS p x).map fun q => .str q.va))), ?_⟩
  simp [l_load_settings_0, v_load_settings_0_0, u_load_settings_0_0, hat, hpa, v_load_settings_0_1, u_load_settings_0_1, pcS, Pc.kd, Pc.va, WORD, STRG, SETT, k1, v_load_settings_0_2, u_load_settings_0_2, k2, f, hlast, v_load_settings_0_3, u_load_settings_0_3, u_load_settings_0_4, dpF_ hdd, List.set_append, hput]
theorem loadset_ok (so : So) (N : Tb (List Nat)) (hE : ∀ x ∈ N, SOK x.1 x.2) (hs : (keys N).Pairwise fun a b => leC a b = true) (hn : (keys N).Nodup) (hl : N.length ≤ 60) (x0 : List Nat) (hx : x0 = TL.joinL [10] (N.map fun x => lineS x.1 x.2)) :
    m_load_settings [.str x0] so = .ok (.dat (.obj so.length)) (so ++ [.cel (.dct (tab D.str N))]) := by
  subst hx
  have hsz : szL (N.map fun x => lineS x.1 x.2) + (N.map fun x => lineS x.1 x.2).length ≤ 16000000 := by
    have := szL_le (N.map fun x => lineS x.1 x.2) 1000 fun q hq => by
      obtain ⟨x, hx, rfl⟩ := List.mem_map.mp hq
      exact lineS_len (hE x hx)
    rw [List.length_map] at this ⊢
    omega
  have hlin := lines_ok (N.map fun x => lineS x.1 x.2) (so ++ [.cel (.dct [])]) (fun l hl => by
    obtain ⟨x, hx, rfl⟩ := List.mem_map.mp hl
    exact (lineS_skp _ _).2) (fun l hl => by
    obtain ⟨x, hx, rfl⟩ := List.mem_map.mp hl
    exact lineS_nl (hE x hx)) hsz
  obtain ⟨en', so', g1, last, x4, x5, x6, g2, g3, g4⟩ := forGo_at (tg := tgN 4) (body := l_load_settings_0) (fun i : Nat => D.int (0 + (i : Int))) (fun done en so' => ∃ (last : List Nat) (x4 x5 x6 : Option B), en = [some (.dat (.str (TL.joinL [10] (N.map fun x => lineS x.1 x.2)))), some (.dat (.obj so.length)), some (.dat (.str last)), some (.dat (.lst ((N.map fun x => lineS x.1 x.2).map .str))), x4, x5, x6] ∧ so' = so ++ [.cel (.dct (tab D.str (N.take done.length)))] ∧ (last = [] ∨ last ∈ keys (N.take done.length))) (List.range N.length) (List.range N.length) [] [some (.dat (.str (TL.joinL [10] (N.map fun x => lineS x.1 x.2)))), some (.dat (.obj so.length)), some (.dat (.str [])), some (.dat (.lst ((N.map fun x => lineS x.1 x.2).map .str))), none, none, none] (so ++ [.cel (.dct [])]) rfl ⟨[], none, none, none, rfl, rfl, .inl rfl⟩
    (fun done i rest en so1 hd ⟨last, x4, x5, x6, he, hso, hlast⟩ => by
      subst he hso
      have hdl : done.length < N.length := by
        have := congrArg List.length hd
        rw [List.length_append, List.length_cons, List.length_range] at this
        omega
      have ei : i = done.length := by
        have e1 : (done ++ i :: rest)[done.length]? = some i := by simp
        rw [hd, List.getElem?_range hdl] at e1
        exact (Option.some.inj e1).symm
      subst ei
      obtain ⟨⟨p, a⟩, hx⟩ : ∃ x, N[done.length] = x := ⟨_, rfl⟩
      have hmem : (p, a) ∈ N := by rw [← hx]; exact List.getElem_mem hdl
      have htl : (N.take done.length).length = done.length := by rw [List.length_take]; omega
      have hsplit : N.take done.length ++ (p, a) :: N.drop (done.length + 1) = N := by rw [← hx, ← List.drop_eq_getElem_cons hdl, List.take_append_drop]
      have hk : keys (N.take done.length) ++ p :: keys (N.drop (done.length + 1)) = keys N := by
        have := congrArg keys hsplit
        simpa [keys] using this
      have hnew : p ∉ keys (N.take done.length) := fun hm => by
        rw [← hk] at hn
        exact (List.nodup_append.mp hn).2.2 p hm p List.mem_cons_self rfl
      have hle : leC p last = false := by
        rcases hlast with rfl | hm
        · exact leC_nil' (hE _ hmem).ne
        · exact after hs hn hk hm
      have hL : (N.map fun x => lineS x.1 x.2)[(N.take done.length).length]? = some (lineS p a) := by
        rw [htl, List.getElem?_map, List.getElem?_eq_getElem hdl, hx]; rfl
      obtain ⟨y5, y6, h1⟩ := set_body (so := so) (N := N.take done.length) (L := N.map fun x => lineS x.1 x.2) (hE _ hmem) (by rw [htl]; omega) hnew hL hle (some (.dat (.str (TL.joinL [10] (N.map fun x => lineS x.1 x.2))))) x5 x6
      rw [htl] at h1
      have e0 : (0 : Int) + (done.length : Int) = (done.length : Int) := by omega
      have ht : N.take done.length ++ [(p, a)] = N.take (done ++ [done.length]).length := by
        rw [List.length_append, List.length_singleton, ← hx, List.take_append_getElem hdl]
      refine ⟨_, rfl, _, _, .inl (by rw [e0]; exact h1), p, some (.dat (.int (done.length : Int))), y5, y6, rfl, by rw [ht], .inr ?_⟩
      rw [← ht]
      simp [keys])
  subst g2 g3
  rw [List.length_range, List.take_length] at g1
  rw [c_load_settings]
  have n16 : N.length ≤ 16777216 := by omega
  simp [b_load_settings, r_load_settings_0, t_load_settings_0, r_load_settings_1, t_load_settings_1, r_load_settings_2, t_load_settings_2, r_load_settings_3, t_load_settings_3, hlin, n16]
  rw [show rngD 0 N.length = (List.range N.length).map fun i : Nat => D.int (0 + (i : Int)) from rfl]
  simp at g1 ⊢
  rw [g1]
  simp [t_load_settings_4]
/-! ### the law's tree and settings -/
def a4 (i : Nat) : List Nat := ([[97], [98, 46, 99], [100, 47, 101], [120, 95, 57, 47, 121, 47, 122]] : List (List Nat)).getD i []
def b5 (i : Nat) : List Nat := ([[], [48], [49, 47, 113], [46, 114], [115]] : List (List Nat)).getD i []
def q3 (i : Nat) : List Nat := ([[97], [100, 47, 101, 48], [113]] : List (List Nat)).getD i []
theorem pth20 : ∀ i : Nat, i < 4 → ∀ j : Nat, j < 5 → okp (a4 i ++ b5 j) = true ∧ (a4 i ++ b5 j).length ≤ 60 ∧ a4 i ++ b5 j ≠ [] ∧ (∀ c ∈ a4 i ++ b5 j, wst c = false) ∧ 10 ∉ a4 i ++ b5 j := by decide +kernel
theorem pth3 : ∀ i : Nat, i < 3 → okp (q3 i) = true ∧ (q3 i).length ≤ 60 ∧ q3 i ≠ [] ∧ (∀ c ∈ q3 i, wst c = false) ∧ 10 ∉ q3 i := by decide +kernel
theorem pth_ab {i j : Nat} (hi : i < 4) (hj : j < 5) : Pth (a4 i ++ b5 j) := by
  obtain ⟨h1, h2, h3, h4, h5⟩ := pth20 i hi j hj
  exact ⟨h1, h2, h3, h4, h5⟩
theorem pth_q {i : Nat} (hi : i < 3) : Pth (q3 i) := by
  obtain ⟨h1, h2, h3, h4, h5⟩ := pth3 i hi
  exact ⟨h1, h2, h3, h4, h5⟩
theorem at_a4 {i : Nat} (hi : i < 4) : L2.atI [D.str [97], D.str [98, 46, 99], D.str [100, 47, 101], D.str [120, 95, 57, 47, 121, 47, 122]] (i : Int) = some (.str (a4 i)) := by
  have : i = 0 ∨ i = 1 ∨ i = 2 ∨ i = 3 := by omega
  rcases this with e | e | e | e <;> rw [e] <;> rfl
theorem at_b5 {i : Nat} (hi : i < 5) : L2.atI [D.str [], D.str [48], D.str [49, 47, 113], D.str [46, 114], D.str [115]] (i : Int) = some (.str (b5 i)) := by
  have : i = 0 ∨ i = 1 ∨ i = 2 ∨ i = 3 ∨ i = 4 := by omega
  rcases this with e | e | e | e | e <;> rw [e] <;> rfl
theorem at_q3 {i : Nat} (hi : i < 3) : L2.atI [D.str [97], D.str [100, 47, 101, 48], D.str [113]] (i : Int) = some (.str (q3 i)) := by
  have : i = 0 ∨ i = 1 ∨ i = 2 := by omega
  rcases this with e | e | e <;> rw [e] <;> rfl
def KN (M : Tb Ent) : Tb (List Nat) := M.map fun x => (x.1, lineE x.1 x.2)
theorem map_KN (p : List Nat) (a : Ent) (M : Tb Ent) : (KN M).map (fun x => if x.1 = p then (x.1, lineE p a) else x) = KN (M.map fun x => if x.1 = p then (x.1, a) else x) := by
  unfold KN
  rw [List.map_map, List.map_map]
  refine List.map_congr_left fun x _ => ?_
  show (if x.1 = p then (x.1, lineE p a) else (x.1, lineE x.1 x.2)) = _
  by_cases h : x.1 = p
  · simp [h]
  · simp [h]
theorem put_KN (p : List Nat) (a : Ent) : ∀ M : Tb Ent, put (KN M) p (lineE p a) = KN (put M p a)
  | [] => rfl
  | (k, b) :: M => by
    show (if k = p then (k, lineE p a) :: (KN M).map (fun x => if x.1 = p then (x.1, lineE p a) else x) else (k, lineE k b) :: put (KN M) p (lineE p a)) = KN (if k = p then (k, a) :: M.map (fun x => if x.1 = p then (x.1, a) else x) else (k, b) :: put M p a)
    by_cases h : k = p
    · rw [if_pos h, if_pos h, map_KN]
      subst h
      rfl
    · rw [if_neg h, if_neg h, put_KN]
      rfl
/-- the store -/
def S0 (M : Tb Ent) : So := [.ob 57 [some (.obj 1)], .cel (.dct (tab Ent.D M)), .cel (.dct (tab D.str (KN M)))]
theorem S0T (M : Tb Ent) : Tr (S0 M) 0 1 M := ⟨rfl, rfl⟩
structure Iv (k : Nat) (M : Tb Ent) : Prop where
  nd : (keys M).Nodup
  le : M.length ≤ k
  ok : ∀ x ∈ M, EOK x.1 x.2
theorem Iv.step {k : Nat} {M : Tb Ent} (h : Iv k M) {p : List Nat} {a : Ent} (e : EOK p a) : Iv (k + 1) (put M p a) :=
  ⟨put_nodup h.nd p a, Nat.le_trans (put_len _ _ _) (Nat.succ_le_succ h.le), fun x hx => by
    rcases put_mem hx with rfl | hx
    · exact e
    · exact h.ok x hx⟩
theorem entry_body (ns : List Int) {k : Nat} {M : Tb Ent} (hk : k < 31) (h : Iv k M) (x1 : Option B) (x5 x6 x7 x8 x9 : Option B) :
    ∃ M' y5 y6 y7 y8 y9, l_law_0 [some (.dat (.lst (ns.map .int))), x1, some (.dat (.obj 0)), some (.dat (.obj 2)), some (.dat (.int (k : Int))), x5, x6, x7, x8, x9, none, none, none, none, none, none, none] (S0 M) = .ok .nx [some (.dat (.lst (ns.map .int))), x1, some (.dat (.obj 0)), some (.dat (.obj 2)), some (.dat (.int (k : Int))), y5, y6, y7, y8, y9, none, none, none, none, none, none, none] (S0 M') ∧ Iv (k + 1) M' := by
  obtain ⟨c, hc⟩ := cell_ok ns (1 + (k : Int)) (S0 M) (by omega)
  obtain ⟨v, hv, hv0⟩ := abs_ok c
  obtain ⟨i, hi, hi2⟩ : ∃ i : Nat, v % 4 = (i : Int) ∧ i < 4 := ⟨(v % 4).toNat, by omega, by omega⟩
  obtain ⟨j, hj, hj2⟩ : ∃ j : Nat, v / 4 % 5 = (j : Int) ∧ j < 5 := ⟨(v / 4 % 5).toNat, by omega, by omega⟩
  obtain ⟨m, hm, hm2⟩ : ∃ m : Nat, v / 20 % 3 = (m : Int) ∧ m < 3 := ⟨(v / 20 % 3).toNat, by omega, by omega⟩
  have hP := pth_ab hi2 hj2
  have hpl := hP.len
  have hle := h.le
  have hcn := cnt_le M
  have o0 : (S0 M)[0]? = some (.ob 57 [some (.obj 1)]) := rfl
  have a1 := at_a4 hi2
  have a2 := at_b5 hj2
  have g1 : (a4 i).length + (b5 j).length ≤ 16777216 := by rw [List.length_append] at hpl; omega
  obtain ⟨p, hp⟩ : ∃ p, a4 i ++ b5 j = p := ⟨_, rfl⟩
  rw [hp] at hP hpl
  have fu : full M p = false := by
    unfold full
    rw [decide_eq_false (by omega), Bool.and_false]
  have hkn : (KN M).length = M.length := List.length_map _
  have hdd : (tab D.str (KN M)).length < 16777216 := by rw [tab_len, hkn]; omega
  have nxt : ∀ (a : Ent), (S0 M).set 1 (.cel (.dct (tab Ent.D (put M p a)))) = [.ob 57 [some (.obj 1)], .cel (.dct (tab Ent.D (put M p a))), .cel (.dct (tab D.str (KN M)))] := fun a => rfl
  have hput : ∀ a : Ent, putT (tab D.str (KN M)) (.inr p) (.str (lineE p a)) = tab D.str (KN (put M p a)) := fun a => by rw [putT_tab, put_KN]
  have hm3 : m = 0 ∨ m = 1 ∨ m = 2 := by omega
  rcases hm3 with rfl | rfl | rfl
  · obtain ⟨n, hn, hn2⟩ : ∃ n : Nat, v / 60 % 3 = (n : Int) ∧ n < 3 := ⟨(v / 60 % 3).toNat, by omega, by omega⟩
    have hQ := pth_q hn2
    have a3 := at_q3 hn2
    obtain ⟨q, hq⟩ : ∃ q, q3 n = q := ⟨_, rfl⟩
    rw [hq] at hQ a3
    have hql := hQ.len
    have hw := link_ok (S0T M) p q (by omega) (by omega) (by omega)
    rw [hP.ok, hQ.ok, fu, if_neg (by decide), if_neg (by decide), if_neg (by decide), nxt] at hw
    have hm' : v / 20 % 3 = 0 := hm
    refine ⟨put M p (.link q), some (.dat (.int v)), some (.dat (.str p)), some (.dat (.str q)), x8, x9, ?_, h.step ⟨hP, hQ⟩⟩
    have hput := hput (.link q)
    simp only [lineE_link, LINK, List.cons_append, List.nil_append] at hput
    have z1 : p.length + 5 ≤ 16777216 := by omega
    have z2 : p.length + 6 ≤ 16777216 := by omega
    have z3 : p.length + 6 + q.length ≤ 16777216 := by omega
    simp (disch := first | (simp; done) | omega | (simp; omega)) [l_law_0, hc, hv, hi, a1, hj, a2, hp, hm', hn, a3, o0, hw, dpF_ hdd, hput]
    rfl
  · obtain ⟨t, ht, htx⟩ := lcont_ok (v / 60) (S0 M) (by omega)
    have htl := oku_len ht
    have hwl := Wr_len t
    have hls := lstr_ok t [.ob 57 [some (.obj 1)], .cel (.dct (tab Ent.D (put M p (.file t PERS)))), .cel (.dct (tab D.str (KN M)))] (by omega)
    have hw := write_ok (S0T M) p t PERS (by omega) (by omega) (by omega)
    rw [hP.ok, ht, fu, if_neg (by decide), if_neg (by decide), if_neg (by simp), nxt] at hw
    have hm' : v / 20 % 3 = 1 := hm
    refine ⟨put M p (.file t PERS), some (.dat (.int v)), some (.dat (.str p)), x7, some (.dat (.str PERS)), some (.dat (.str t)), ?_, h.step ⟨hP, ht, .inl rfl⟩⟩
    have hput := hput (.file t PERS)
    simp only [lineE_file, FILE, PERS, List.cons_append, List.nil_append] at hput hw hls ⊢
    simp (disch := first | (simp; done) | omega | (simp; omega)) [l_law_0, hc, hv, hi, a1, hj, a2, hp, hm', htx, o0, hw, hls, dpF_ hdd, hput]
    rfl
  · obtain ⟨t, ht, htx⟩ := lcont_ok (v / 60) (S0 M) (by omega)
    have htl := oku_len ht
    have hwl := Wr_len t
    have hls := lstr_ok t [.ob 57 [some (.obj 1)], .cel (.dct (tab Ent.D (put M p (.file t BLD)))), .cel (.dct (tab D.str (KN M)))] (by omega)
    have hw := write_ok (S0T M) p t BLD (by omega) (by omega) (by omega)
    rw [hP.ok, ht, if_neg (by decide), if_neg (by decide), if_neg (fun z => absurd z.1 (by decide)), nxt] at hw
    have hm' : v / 20 % 3 = 2 := hm
    refine ⟨put M p (.file t BLD), some (.dat (.int v)), some (.dat (.str p)), x7, some (.dat (.str BLD)), some (.dat (.str t)), ?_, h.step ⟨hP, ht, .inr rfl⟩⟩
    have hput := hput (.file t BLD)
    simp only [lineE_file, FILE, BLD, List.cons_append, List.nil_append] at hput hw hls ⊢
    simp (disch := first | (simp; done) | omega | (simp; omega)) [l_law_0, hc, hv, hi, a1, hj, a2, hp, hm', htx, o0, hw, hls, dpF_ hdd, hput]
    rfl
instance : Inhabited Ent := ⟨.link []⟩
/-! ### the law's settings -/
theorem nm10 : ∀ d : Nat, d < 10 → identF (115 :: tsD (d : Int)) = true ∧ (115 :: tsD (d : Int)).length ≤ 12 ∧ (∀ c ∈ 115 :: tsD (d : Int), wst c = false) ∧ 10 ∉ 115 :: tsD (d : Int) ∧ d.log2 < 1920 := by decide +kernel
theorem nm_ok {d : Nat} (hd : d < 10) {x : List Nat} (hx : oku x = true) : SOK (115 :: tsD (d : Int)) x := by
  obtain ⟨h1, h2, h3, h4, _⟩ := nm10 d hd
  exact ⟨h1, h2, by simp, h3, h4, hx⟩
def S1 (M : Tb Ent) (S : Tb (List Nat)) : So := S0 M ++ [.cel (.dct (tab D.str S))]
structure Js (k : Nat) (S : Tb (List Nat)) : Prop where
  nd : (keys S).Nodup
  le : S.length ≤ k
  ok : ∀ x ∈ S, SOK x.1 x.2
theorem Js.step {k : Nat} {S : Tb (List Nat)} (h : Js k S) {p x : List Nat} (e : SOK p x) : Js (k + 1) (put S p x) :=
  ⟨put_nodup h.nd p x, Nat.le_trans (put_len _ _ _) (Nat.succ_le_succ h.le), fun y hy => by
    rcases put_mem hy with rfl | hy
    · exact e
    · exact h.ok y hy⟩
theorem sett_body (ns : List Int) {k : Nat} {M : Tb Ent} {S : Tb (List Nat)} (hk : k < 9) (h : Js k S) (x1 x5 x6 x7 x8 x9 : Option B) :
    ∃ S' y5, l_law_1 [some (.dat (.lst (ns.map .int))), x1, some (.dat (.obj 0)), some (.dat (.obj 2)), some (.dat (.int (k : Int))), x5, x6, x7, x8, x9, some (.dat (.obj 3)), some (.cel (.lst [])), none, none, none, none, none] (S1 M S) = .ok .nx [some (.dat (.lst (ns.map .int))), x1, some (.dat (.obj 0)), some (.dat (.obj 2)), some (.dat (.int (k : Int))), y5, x6, x7, x8, x9, some (.dat (.obj 3)), some (.cel (.lst [])), none, none, none, none, none] (S1 M S') ∧ Js (k + 1) S' := by
  obtain ⟨c, hc⟩ := cell_ok ns (32 + (k : Int)) (S1 M S) (by omega)
  obtain ⟨v, hv, hv0⟩ := abs_ok c
  obtain ⟨d, hd, hd2⟩ : ∃ d : Nat, v % 10 = (d : Int) ∧ d < 10 := ⟨(v % 10).toNat, by omega, by omega⟩
  obtain ⟨t, ht, htx⟩ := lcont_ok (v / 10) (S1 M S) (by omega)
  have hN := nm_ok hd2 ht
  have hle := h.le
  have hl2 := hN.len
  have hlg := (nm10 d hd2).2.2.2.2
  have hdd : (tab D.str S).length < 16777216 := by rw [tab_len]; omega
  have hput : putT (tab D.str S) (.inr (115 :: tsD (d : Int))) (.str t) = tab D.str (put S (115 :: tsD (d : Int)) t) := putT_tab _ _ _ _
  have o3 : (S1 M S)[3]? = some (.cel (.dct (tab D.str S))) := rfl
  have hst : (S1 M S).set 3 (.cel (.dct (tab D.str (put S (115 :: tsD (d : Int)) t)))) = S1 M (put S (115 :: tsD (d : Int)) t) := rfl
  rw [List.length_cons] at hl2
  refine ⟨put S (115 :: tsD (d : Int)) t, some (.dat (.int v)), ?_, h.step hN⟩
  simp (disch := first | (simp; done) | omega | (simp; omega)) [l_law_1, hc, hv, hd, htx, hlg, o3, dpF_ hdd, hput]
  exact hst
theorem slines_ok (ns : List Int) {M : Tb Ent} {S : Tb (List Nat)} (hS : ∀ x ∈ S, SOK x.1 x.2) (hl : S.length ≤ 60) (x1 x4 x5 x6 x7 x8 x9 : Option B) :
    ∃ y12, forGo (tgN 12) l_law_2 ((srtS (keys S)).map .str) [some (.dat (.lst (ns.map .int))), x1, some (.dat (.obj 0)), some (.dat (.obj 2)), x4, x5, x6, x7, x8, x9, some (.dat (.obj 3)), some (.cel (.lst [])), none, none, none, none, none] (S1 M S) = .ok .nx [some (.dat (.lst (ns.map .int))), x1, some (.dat (.obj 0)), some (.dat (.obj 2)), x4, x5, x6, x7, x8, x9, some (.dat (.obj 3)), some (.cel (.lst ((srtT S).map fun x => .str (lineS x.1 x.2)))), y12, none, none, none, none] (S1 M S) := by
  have hk : (srtS (keys S)).map D.str = (srtT S).map fun x => D.str x.1 := by
    rw [← srtT_keys]; unfold keys; rw [List.map_map]; rfl
  have o3 : (S1 M S)[3]? = some (.cel (.dct (tab D.str S))) := rfl
  obtain ⟨en', so', g1, y12, g2, g3⟩ := forGo_at (tg := tgN 12) (body := l_law_2) (fun x : List Nat × List Nat => D.str x.1) (fun done en so' => ∃ y12 : Option B, en = [some (.dat (.lst (ns.map .int))), x1, some (.dat (.obj 0)), some (.dat (.obj 2)), x4, x5, x6, x7, x8, x9, some (.dat (.obj 3)), some (.cel (.lst (done.map fun x => .str (lineS x.1 x.2)))), y12, none, none, none, none] ∧ so' = S1 M S) (srtT S) (srtT S) [] [some (.dat (.lst (ns.map .int))), x1, some (.dat (.obj 0)), some (.dat (.obj 2)), x4, x5, x6, x7, x8, x9, some (.dat (.obj 3)), some (.cel (.lst [])), none, none, none, none, none] (S1 M S) rfl ⟨none, rfl, rfl⟩
    (fun done x rest en so1 hd ⟨y12, he, hs⟩ => by
      subst he hs
      obtain ⟨h1, h2⟩ := srtT_mem (show x ∈ srtT S by rw [← hd]; simp)
      have h3 := hS x h2
      have hdl : done.length ≤ 1000 := by
        have := congrArg List.length hd
        rw [List.length_append, srtT_len] at this
        omega
      have ap := fun d : D => apF_ (xs := done.map fun x => D.str (lineS x.1 x.2)) (by rw [List.length_map]; omega) d
      have l1 := h3.len
      have l2 := oku_len h3.ct
      have l3 := Wr_len x.2
      have hls := lstr_ok x.2 (S1 M S) (by omega)
      refine ⟨_, rfl, _, _, .inl ?_, some (.dat (.str x.1)), rfl, rfl⟩
      simp (disch := first | (simp; done) | omega | (simp; omega)) [l_law_2, o3, valD_tab, h1, hls, ap, lineS_eq, SETT])
  subst g2 g3
  exact ⟨y12, by rw [hk]; exact g1⟩
theorem srtS_srtS (l : List (List Nat)) : srtS (srtS l) = srtS l := (srtS_uniq (List.Perm.refl _) (srtS_pw l)).symm
theorem look_srtT {A : Type} [Inhabited A] {M : Tb A} (hn : (keys M).Nodup) (p : List Nat) : look (srtT M) p = look M p := by
  have nd : (keys (srtT M)).Nodup := by rw [srtT_keys]; exact srt_nodup hn
  by_cases hp : p ∈ keys M
  · obtain ⟨a, ha⟩ := Option.isSome_iff_exists.mp (look_key.mpr hp)
    have hm : (p, a) ∈ srtT M := List.mem_map.mpr ⟨p, mem_srt.mpr hp, by rw [ha]; rfl⟩
    rw [ha]
    exact look_of_mem nd hm
  · rw [look_none.mpr hp, look_none]
    rw [srtT_keys]
    exact fun h => hp (mem_srt.mp h)

theorem savT_srt {M : Tb Ent} (hn : (keys M).Nodup) : savT (srtT M) = savT M := by
  unfold savT
  rw [srtT_keys, srtS_srtS]
  congr 1
  refine List.map_congr_left fun p _ => ?_
  unfold lineO
  rw [look_srtT hn]
theorem savT_lines (M : Tb Ent) : savT M = TL.joinL [10] ((srtT M).map fun x => lineE x.1 x.2) := by
  unfold savT srtT
  rw [List.map_map]
  congr 1
  refine List.map_congr_left fun p hp => ?_
  obtain ⟨a, ha⟩ := Option.isSome_iff_exists.mp (look_key.mpr (mem_srt.mp hp))
  rw [lineO_of ha]
  show lineE p a = lineE p ((look M p).getD default)
  rw [ha]
  rfl
theorem keys_KN (M : Tb Ent) : keys (KN M) = keys M := by unfold keys KN; rw [List.map_map]; rfl
theorem look_KN (M : Tb Ent) (p : List Nat) : look (KN M) p = (look M p).map (lineE p) := by
  induction M with
  | nil => rfl
  | cons x M ih =>
    obtain ⟨k, a⟩ := x
    show (if k = p then some (lineE k a) else look (KN M) p) = (if k = p then some a else look M p).map (lineE p)
    by_cases h : k = p
    · subst h; simp
    · rw [if_neg h, if_neg h, ih]
/-- it answers True -/
def EndT (r : Re Fl) : Prop := ∃ en so, r = .ok (.rt (.dat (.bl true))) en so
theorem tail_ok (ns : List Int) {M : Tb Ent} {S : Tb (List Nat)} (hM : Iv 31 M) (hS : Js 9 S) (x1 x4 x5 x6 x7 x8 x9 x12 : Option B) :
    EndT (r_law_8 [some (.dat (.lst (ns.map .int))), x1, some (.dat (.obj 0)), some (.dat (.obj 2)), x4, x5, x6, x7, x8, x9, some (.dat (.obj 3)), some (.cel (.lst ((srtT S).map fun x => .str (lineS x.1 x.2)))), x12, none, none, none, none] (S1 M S)) := by
  have o0 : (S1 M S)[0]? = some (.ob 57 [some (.obj 1)]) := rfl
  have o1 : (S1 M S)[1]? = some (.cel (.dct (tab Ent.D M))) := rfl
  have o2 : (S1 M S)[2]? = some (.cel (.dct (tab D.str (KN M)))) := rfl
  have o3 : (S1 M S)[3]? = some (.cel (.dct (tab D.str S))) := rfl
  have hMl := hM.le
  have hSl := hS.le
  have ks := kstrs_tab D.str (KN M)
  rw [keys_KN] at ks
  have hks : (srtS (keys M)).length ≤ 31 := by rw [srtS_len, keys_len]; exact hMl
  have hdu : ∀ en, lcGo [6] (tgN 6) (pu true) e_law_0 ((srtS (keys M)).map D.str) [] [some (.dat (.lst (ns.map .int))), x1, some (.dat (.obj 0)), some (.dat (.obj 2)), x4, x5, none, x7, x8, x9, some (.dat (.obj 3)), some (.cel (.lst ((srtT S).map fun x => .str (lineS x.1 x.2)))), x12, none, none, none, none] (S1 M S) = .ok ((srtS (keys M)).map fun p => D.str (lineO M p)) en (S1 M S) → True := fun _ _ => trivial
  have hdue : lcGo [6] (tgN 6) (pu true) e_law_0 ((srtS (keys M)).map D.str) [] [some (.dat (.lst (ns.map .int))), x1, some (.dat (.obj 0)), some (.dat (.obj 2)), x4, x5, none, x7, x8, x9, some (.dat (.obj 3)), some (.cel (.lst ((srtT S).map fun x => .str (lineS x.1 x.2)))), x12, none, none, none, none] (S1 M S) = .ok ((srtS (keys M)).map fun p => D.str (lineO M p)) [some (.dat (.lst (ns.map .int))), x1, some (.dat (.obj 0)), some (.dat (.obj 2)), x4, x5, none, x7, x8, x9, some (.dat (.obj 3)), some (.cel (.lst ((srtT S).map fun x => .str (lineS x.1 x.2)))), x12, none, none, none, none] (S1 M S) := by
    refine lcGo_mp D.str (fun p => D.str (lineO M p)) (srtS (keys M)) (fun p hp => ?_) (by omega)
    obtain ⟨a, ha⟩ := Option.isSome_iff_exists.mp (look_key.mpr (mem_srt.mp hp))
    refine ⟨_, rfl, ?_, rfl⟩
    simp [e_law_0, o2, valD_tab, look_KN, ha, lineO_of ha]
  have hszM : szL ((srtS (keys M)).map (lineO M)) + ((srtS (keys M)).map (lineO M)).length * ([10] : List Nat).length ≤ 16777216 := by
    have h1 := szL_le ((srtS (keys M)).map (lineO M)) 1000 fun q hq => by
      obtain ⟨p, hp, rfl⟩ := List.mem_map.mp hq
      obtain ⟨a, ha⟩ := Option.isSome_iff_exists.mp (look_key.mpr (mem_srt.mp hp))
      rw [lineO_of ha]
      exact lineE_len (hM.ok _ (look_mem ha))
    rw [List.length_map] at h1 ⊢
    simp
    omega
  have hszS : szL ((srtT S).map fun x => lineS x.1 x.2) + ((srtT S).map fun x => lineS x.1 x.2).length * ([10] : List Nat).length ≤ 16777216 := by
    have h1 := szL_le ((srtT S).map fun x => lineS x.1 x.2) 1000 fun q hq => by
      obtain ⟨x, hx, rfl⟩ := List.mem_map.mp hq
      exact lineS_len (hS.ok x (srtT_mem hx).2)
    have h2 := srtT_len S
    rw [List.length_map] at h1 ⊢
    simp
    omega
  have jM : ∀ en so, joinD [10] (.lst ((srtS (keys M)).map fun p => D.str (lineO M p))) en so = .ok (.str (savT M)) en so := fun en so => by
    have hj := join_map [10] ((srtS (keys M)).map (lineO M))
    rw [List.map_map] at hj
    have hj : joinD [10] (.lst ((srtS (keys M)).map fun p => D.str (lineO M p))) = _ := hj
    rw [hj, gd_t hszM]
    rfl
  have jS : ∀ en so, joinD [10] (.lst ((srtT S).map fun x => D.str (lineS x.1 x.2))) en so = .ok (.str (savS S)) en so := fun en so => by
    have hj := join_map [10] ((srtT S).map fun x => lineS x.1 x.2)
    rw [List.map_map] at hj
    have hj : joinD [10] (.lst ((srtT S).map fun x => D.str (lineS x.1 x.2))) = _ := hj
    rw [hj, gd_t hszS]
    rfl
  have T0 : Tr (S1 M S) 0 1 M := ⟨rfl, rfl⟩
  have sv := save_ok T0 hM.ok (by omega)
  -- the copy of the settings
  obtain ⟨A, hA⟩ : ∃ A, S1 M S ++ [Sc.cel (.dct (tab D.str S))] = A := ⟨_, rfl⟩
  have A4 : A[4]? = some (.cel (.dct (tab D.str S))) := by rw [← hA]; rfl
  have A3 : A[3]? = some (.cel (.dct (tab D.str S))) := by rw [← hA]; rfl
  have Al : A.length = 5 := by rw [← hA]; rfl
  have sS := saveset_ok A4 hS.ok (by omega)
  have TA : Tr A 0 1 M := by rw [← hA]; exact T0.app _
  -- the tree that is loaded
  have ndM := hM.nd
  have hN1 : ∀ x ∈ srtT M, EOK x.1 x.2 := fun x hx => hM.ok x (srtT_mem hx).2
  have hN2 : (keys (srtT M)).Pairwise fun a b => leC a b = true := by rw [srtT_keys]; exact srtS_pw _
  have hN3 : (keys (srtT M)).Nodup := by rw [srtT_keys]; exact srt_nodup ndM
  have hN4 : (srtT M).length ≤ 31 := by rw [srtT_len]; exact hMl
  have ld := loadtree_ok A (srtT M) hN1 hN2 hN3 (by omega) (savT M) (savT_lines M)
  rw [Al] at ld
  obtain ⟨C, hC⟩ : ∃ C, A ++ [Sc.ob 57 [some (.obj (5 + 2))], .cel (.dct []), .cel (.dct (tab Ent.D (srtT M)))] = C := ⟨_, rfl⟩
  rw [hC] at ld
  have Cl : C.length = 8 := by rw [← hC, List.length_append, Al]; rfl
  have TC : Tr C 0 1 M := by rw [← hC]; exact TA.app _
  have T5 : Tr C 5 7 (srtT M) := by
    rw [← hC]
    constructor
    · rw [List.getElem?_append_right (by rw [Al]; omega), Al]; rfl
    · rw [List.getElem?_append_right (by rw [Al]; omega), Al]; rfl
  have C3 : C[3]? = some (.cel (.dct (tab D.str S))) := by rw [← hC]; exact get_app A3 _
  have c0 := TC.ob
  have c5 := T5.ob
  have C2 : C[2]? = some (.cel (.dct (tab D.str (KN M)))) := by rw [← hC, ← hA]; rfl
  have v1 : vwD C 6 (.obj 1) = .dct (tab Ent.D M) := vw_tab TC.ce (fun a => vw_ent 3 a)
  have v7 : vwD C 6 (.obj 7) = .dct (tab Ent.D (srtT M)) := vw_tab T5.ce (fun a => vw_ent 3 a)
  have ne1 : neV (.dct (tab Ent.D (srtT M))) (.dct (tab Ent.D M)) = some false := by
    rw [neV_dct, eqV_same ndM (srtT_len M) (fun x hx => (srtT_mem hx).1) eqE_ent]; rfl
  have sv5 := save_ok T5 hN1 (by omega)
  rw [savT_srt ndM] at sv5
  -- a new file in it
  have okn : okp [110, 101, 119] = true := by decide
  have oku1 : oku [110] = true := by decide
  have hcn := cnt_le (srtT M)
  have fuN : full (srtT M) [110, 101, 119] = false := by
    unfold full
    rw [decide_eq_false (by omega), Bool.and_false]
  have hw := write_ok T5 [110, 101, 119] [110] PERS (by decide) (by decide) (by omega)
  rw [okn, oku1, fuN, if_neg (by decide), if_neg (by decide), if_neg (by simp)] at hw
  obtain ⟨E, hE⟩ : ∃ E, C.set 7 (Sc.cel (.dct (tab Ent.D (put (srtT M) [110, 101, 119] (.file [110] PERS))))) = E := ⟨_, rfl⟩
  rw [hE] at hw
  have El : E.length = 8 := by rw [← hE, List.length_set, Cl]
  have E3 : E[3]? = some (.cel (.dct (tab D.str S))) := by rw [← hE, List.getElem?_set_ne (by decide)]; exact C3
  have TE : Tr E 0 1 M := by
    rw [← hE]
    exact ⟨by rw [List.getElem?_set_ne (by decide)]; exact TC.ob, by rw [List.getElem?_set_ne (by decide)]; exact TC.ce⟩
  -- the settings that are loaded
  have ndS := hS.nd
  have hZ1 : ∀ x ∈ srtT S, SOK x.1 x.2 := fun x hx => hS.ok x (srtT_mem hx).2
  have hZ2 : (keys (srtT S)).Pairwise fun a b => leC a b = true := by rw [srtT_keys]; exact srtS_pw _
  have hZ3 : (keys (srtT S)).Nodup := by rw [srtT_keys]; exact srt_nodup ndS
  have ls := loadset_ok E (srtT S) hZ1 hZ2 hZ3 (by rw [srtT_len]; omega) (savS S) rfl
  rw [El] at ls
  obtain ⟨F, hF⟩ : ∃ F, E ++ [Sc.cel (.dct (tab D.str (srtT S)))] = F := ⟨_, rfl⟩
  rw [hF] at ls
  have Fl' : F.length = 9 := by rw [← hF, List.length_append, El]; rfl
  have F8 : F[8]? = some (.cel (.dct (tab D.str (srtT S)))) := by rw [← hF, List.getElem?_append_right (by rw [El]; omega), El]; rfl
  have F3 : F[3]? = some (.cel (.dct (tab D.str S))) := by rw [← hF]; exact get_app E3 _
  have TF : Tr F 0 1 M := by rw [← hF]; exact TE.app _
  have v8 : vwD F 6 (.obj 8) = .dct (tab D.str (srtT S)) := vw_tab F8 (fun a => vw_str 5 a)
  have v3 : vwD F 6 (.obj 3) = .dct (tab D.str S) := vw_tab F3 (fun a => vw_str 5 a)
  have eqs : ∀ a : List Nat, eqE 7 (.str a) (.str a) = some true := fun a => by
    show (if okq 20 (.str a) = true ∧ okq 20 (.str a) = true then some (eqD (.str a) (.str a)) else none) = _
    simp
  have ne2 : neV (.dct (tab D.str (srtT S))) (.dct (tab D.str S)) = some false := by
    rw [neV_dct, eqV_same ndS (srtT_len S) (fun x hx => (srtT_mem hx).1) eqs]; rfl
  have svF := save_ok TF hM.ok (by omega)
  -- what is empty
  have ls0 := loadset_ok F [] (fun x hx => nomatch hx) .nil List.nodup_nil (by decide) [] rfl
  rw [Fl'] at ls0
  obtain ⟨G, hG⟩ : ∃ G, F ++ [Sc.cel (.dct (tab D.str []))] ++ [Sc.cel (.dct [])] = G := ⟨_, rfl⟩
  have Gl : G.length = 11 := by rw [← hG, List.length_append, List.length_append, Fl']; rfl
  have G9 : G[9]? = some (.cel (.dct (tab D.str []))) := by rw [← hG, List.append_assoc, List.getElem?_append_right (by rw [Fl']; omega), Fl']; rfl
  have G10 : G[10]? = some (.cel (.dct (tab D.str []))) := by rw [← hG, List.append_assoc, List.getElem?_append_right (by rw [Fl']; omega), Fl']; rfl
  have w9 : vwD G 6 (.obj 9) = .dct (tab D.str []) := vw_tab G9 (fun a => vw_str 5 a)
  have w10 : vwD G 6 (.obj 10) = .dct (tab D.str []) := vw_tab G10 (fun a => vw_str 5 a)
  have eq1 : eqV (.dct (tab D.str [])) (.dct (tab D.str [])) = some true := eqV_tab List.nodup_nil eqs
  have lt0 := loadtree_ok G [] (fun x hx => nomatch hx) .nil List.nodup_nil (by decide) [] rfl
  rw [Gl] at lt0
  obtain ⟨I, hI⟩ : ∃ I, G ++ [Sc.ob 57 [some (.obj (11 + 2))], .cel (.dct []), .cel (.dct (tab Ent.D []))] = I := ⟨_, rfl⟩
  rw [hI] at lt0
  have Il : I.length = 14 := by rw [← hI, List.length_append, Gl]; rfl
  have I11 : I[11]? = some (.ob 57 [some (.obj 13)]) := by rw [← hI, List.getElem?_append_right (by rw [Gl]; omega), Gl]; rfl
  have I13 : I[13]? = some (.cel (.dct (tab D.str []))) := by rw [← hI, List.getElem?_append_right (by rw [Gl]; omega), Gl]; rfl
  have x13 : vwD (I ++ [Sc.cel (.dct [])]) 6 (.obj 13) = .dct (tab D.str []) := vw_tab (get_app I13 _) (fun a => vw_str 5 a)
  have x14 : vwD (I ++ [Sc.cel (.dct [])]) 6 (.obj 14) = .dct (tab D.str []) := vw_tab (by rw [List.getElem?_append_right (by rw [Il]; omega), Il]; rfl) (fun a => vw_str 5 a)
  have hknl : ((tab D.str (KN M)).length : Int) < 60 := by rw [tab_len]; unfold KN; rw [List.length_map]; omega
  simp [r_law_8, t_law_8, o2, ks]
  rw [hdue]
  simp [jM, r_law_9, t_law_9, sv, r_law_10, t_law_10, o3]
  simp [hA, show (S1 M S).length = 4 from rfl, sS, jS, r_law_11, t_law_11, ld, r_law_12, t_law_12, isCD, c5, c0, v7, v1, ne1, sv5]
  simp [r_law_13, t_law_13, C2, hknl, c5, r_law_14, t_law_14]
  rw [show PERS = [112, 101, 114, 115, 111, 110] from rfl] at hw
  simp [hw, jS, ls, r_law_15, t_law_15, F8, v8, v3, ne2, t_law_16, svF, ls0]
  have hG' : F ++ [Sc.cel (.dct (tab D.str [])), Sc.cel (.dct [])] = G := by rw [← hG]; simp
  rw [hG', Fl']
  simp [w9, w10, eq1, lt0, I11]
  simp [Il, x13, x14, eq1]
  exact ⟨_, _, rfl⟩
theorem lawT : LawT m_law := by
  intro ns hl hb
  obtain ⟨c, hc⟩ := cell_ok ns 0 [] (by omega)
  obtain ⟨v, hv, hv0⟩ := abs_ok c
  obtain ⟨n1, hn1, hn1'⟩ : ∃ n : Nat, v % 31 = (n : Int) ∧ n < 31 := ⟨(v % 31).toNat, by omega, by omega⟩
  obtain ⟨n2, hn2, hn2'⟩ : ∃ n : Nat, v / 31 % 9 = (n : Int) ∧ n < 9 := ⟨(v / 31 % 9).toNat, by omega, by omega⟩
  obtain ⟨en', so', g1, M, x4, x5, x6, x7, x8, x9, g2, g3, iM⟩ := forGo_at (tg := tgN 4) (body := l_law_0) (fun i : Nat => D.int (0 + (i : Int))) (fun done en so' => ∃ (M : Tb Ent) (x4 x5 x6 x7 x8 x9 : Option B), en = [some (.dat (.lst (ns.map .int))), some (.dat (.int v)), some (.dat (.obj 0)), some (.dat (.obj 2)), x4, x5, x6, x7, x8, x9, none, none, none, none, none, none, none] ∧ so' = S0 M ∧ Iv done.length M) (List.range n1) (List.range n1) [] [some (.dat (.lst (ns.map .int))), some (.dat (.int v)), some (.dat (.obj 0)), some (.dat (.obj 2)), none, none, none, none, none, none, none, none, none, none, none, none, none] (S0 []) rfl ⟨[], none, none, none, none, none, none, rfl, rfl, List.nodup_nil, Nat.le_refl _, fun x hx => nomatch hx⟩
    (fun done i rest en so1 hd ⟨M, x4, x5, x6, x7, x8, x9, he, hs, hI⟩ => by
      subst he hs
      have hdl : done.length < n1 := by
        have := congrArg List.length hd
        rw [List.length_append, List.length_cons, List.length_range] at this
        omega
      have ei : i = done.length := by
        have e1 : (done ++ i :: rest)[done.length]? = some i := by simp
        rw [hd, List.getElem?_range hdl] at e1
        exact (Option.some.inj e1).symm
      subst ei
      obtain ⟨M', y5, y6, y7, y8, y9, k1, k2⟩ := entry_body ns (by omega) hI (some (.dat (.int v))) x5 x6 x7 x8 x9
      have e0 : (0 : Int) + (done.length : Int) = (done.length : Int) := by omega
      exact ⟨_, rfl, _, _, .inl (by rw [e0]; exact k1), M', some (.dat (.int (done.length : Int))), y5, y6, y7, y8, y9, rfl, rfl, by rw [List.length_append]; exact k2⟩)
  subst g2 g3
  rw [List.length_range] at iM
  obtain ⟨en', so', h1, S, z4, z5, h2, h3, iS⟩ := forGo_at (tg := tgN 4) (body := l_law_1) (fun i : Nat => D.int (0 + (i : Int))) (fun done en so' => ∃ (S : Tb (List Nat)) (z4 z5 : Option B), en = [some (.dat (.lst (ns.map .int))), some (.dat (.int v)), some (.dat (.obj 0)), some (.dat (.obj 2)), z4, z5, x6, x7, x8, x9, some (.dat (.obj 3)), some (.cel (.lst [])), none, none, none, none, none] ∧ so' = S1 M S ∧ Js done.length S) (List.range n2) (List.range n2) [] [some (.dat (.lst (ns.map .int))), some (.dat (.int v)), some (.dat (.obj 0)), some (.dat (.obj 2)), x4, x5, x6, x7, x8, x9, some (.dat (.obj 3)), some (.cel (.lst [])), none, none, none, none, none] (S1 M []) rfl ⟨[], x4, x5, rfl, rfl, List.nodup_nil, Nat.le_refl _, fun x hx => nomatch hx⟩
    (fun done i rest en so1 hd ⟨S, z4, z5, he, hs, hI⟩ => by
      subst he hs
      have hdl : done.length < n2 := by
        have := congrArg List.length hd
        rw [List.length_append, List.length_cons, List.length_range] at this
        omega
      have ei : i = done.length := by
        have e1 : (done ++ i :: rest)[done.length]? = some i := by simp
        rw [hd, List.getElem?_range hdl] at e1
        exact (Option.some.inj e1).symm
      subst ei
      obtain ⟨S', y5, k1, k2⟩ := sett_body ns (M := M) (by omega) hI (some (.dat (.int v))) z5 x6 x7 x8 x9
      have e0 : (0 : Int) + (done.length : Int) = (done.length : Int) := by omega
      exact ⟨_, rfl, _, _, .inl (by rw [e0]; exact k1), S', some (.dat (.int (done.length : Int))), y5, rfl, rfl, by rw [List.length_append]; exact k2⟩)
  subst h2 h3
  rw [List.length_range] at iS
  have iM' : Iv 31 M := ⟨iM.nd, by have := iM.le; omega, iM.ok⟩
  have iS' : Js 9 S := ⟨iS.nd, by have := iS.le; omega, iS.ok⟩
  obtain ⟨y12, hs⟩ := slines_ok ns (M := M) iS'.ok (by have := iS'.le; omega) (some (.dat (.int v))) z4 z5 x6 x7 x8 x9
  obtain ⟨en3, so3, ht⟩ := tail_ok ns iM' iS' (some (.dat (.int v))) z4 z5 x6 x7 x8 x9 y12
  have o3 : (S1 M S)[3]? = some (.cel (.dct (tab D.str S))) := rfl
  have r1 : n1 ≤ 16777216 := by omega
  have r2 : n2 ≤ 16777216 := by omega
  have st : S0 M ++ [Sc.cel (.dct [])] = S1 M [] := rfl
  have s0 : S0 [] = [.ob 57 [some (.obj 1)], .cel (.dct []), .cel (.dct [])] := rfl
  have l0 : (S0 M).length = 3 := rfl
  rw [s0] at g1
  refine ⟨so3, ?_⟩
  rw [c_law]
  simp [b_law, r_law_0, t_law_0, hc, hv, r_law_1, t_law_1, c_Tree___init__, b_Tree___init__, r_law_2, t_law_2, r_law_3, t_law_3, hn1, r1]
  rw [show rngD 0 n1 = (List.range n1).map fun i : Nat => D.int (0 + (i : Int)) from rfl, g1]
  simp [r_law_4, t_law_4, r_law_5, t_law_5, r_law_6, t_law_6, hn2, r2, st, l0]
  rw [show rngD 0 n2 = (List.range n2).map fun i : Nat => D.int (0 + (i : Int)) from rfl, h1]
  simp [r_law_7, t_law_7, o3, kstrs_tab]
  rw [hs]
  simp [ht]
end Lk37

set_option Elab.async false
set_option linter.all false
set_option maxRecDepth 100000
set_option maxHeartbeats 4000000
/-! The text does what the data-level programs say (printed by gen.py). -/
namespace Lk37
open PySem PySem.Spec L2 Dl
abbrev PP : Program := PySem.Challenge.pw_kilnyard_k37_saved_trees_and_settings
def topS (i : Nat) : Stmt := PySem.Challenge.pw_kilnyard_k37_saved_trees_and_settings.main.body.getD i (.Pass ⟨0, 0, 0, 0⟩)
def inClass (st : Stmt) (j : Nat) : Stmt := match st with
  | .ClassDef (body := b) .. => b.getD j (.Pass ⟨0, 0, 0, 0⟩)
  | s => s
theorem cn_Tree : cnm 57 = "Tree" := by decide +kernel
theorem cn_InvalidRecipe : cnm 11 = "InvalidRecipe" := by decide +kernel
theorem cn_TreeFull : cnm 10 = "TreeFull" := by decide +kernel
theorem cn_InvalidPath : cnm 7 = "InvalidPath" := by decide +kernel
theorem cn_InvalidContent : cnm 8 = "InvalidContent" := by decide +kernel
abbrev s_InvalidRecipe___init__ : Stmt := inClass (topS 6) 0
abbrev s_TreeFull___init__ : Stmt := inClass (topS 5) 0
abbrev s_InvalidPath___init__ : Stmt := inClass (topS 3) 0
abbrev s_InvalidContent___init__ : Stmt := inClass (topS 4) 0
abbrev s_Tree___init__ : Stmt := inClass (topS 34) 0
abbrev s_Tree_paths : Stmt := inClass (topS 34) 11
abbrev s_Tree_kind : Stmt := inClass (topS 34) 6
abbrev s_format_string : Stmt := topS 19
abbrev s_file_line : Stmt := topS 38
abbrev s_link_line : Stmt := topS 39
abbrev s_Tree_writer : Stmt := inClass (topS 34) 8
abbrev s_Tree_read : Stmt := inClass (topS 34) 7
abbrev s_Tree_target : Stmt := inClass (topS 34) 9
abbrev s_save_tree : Stmt := topS 41
abbrev s_lines_of : Stmt := topS 31
abbrev s_is_skipped : Stmt := topS 26
abbrev s_scan_string : Stmt := topS 27
abbrev s_word_end : Stmt := topS 28
abbrev s_scan_line : Stmt := topS 29
abbrev s_parts_of : Stmt := topS 43
abbrev s_is_name : Stmt := topS 16
abbrev s_is_path : Stmt := topS 17
abbrev s_is_text_code : Stmt := topS 9
abbrev s_is_text : Stmt := topS 10
abbrev s_is_content : Stmt := topS 11
abbrev s_read_file_line : Stmt := topS 44
abbrev s_read_link_line : Stmt := topS 45
abbrev s_load_tree : Stmt := topS 46
abbrev s_is_identifier : Stmt := topS 25
abbrev s_setting_line : Stmt := topS 40
abbrev s_load_settings : Stmt := topS 47
abbrev s__law_cell : Stmt := topS 49
abbrev s__law_text : Stmt := topS 51
abbrev s__law_draws : Stmt := topS 50
abbrev s__law_content : Stmt := topS 53
abbrev s_Tree_is_personal : Stmt := inClass (topS 34) 3
abbrev s_Tree_check_room : Stmt := inClass (topS 34) 4
abbrev s_Tree_write : Stmt := inClass (topS 34) 1
abbrev s_Tree_link : Stmt := inClass (topS 34) 2
abbrev s_save_settings : Stmt := topS 42
abbrev s__law_string : Stmt := topS 52
abbrev s_law : Stmt := topS 54
structure Tx (w : World) (K : PySem.W.Frag) (mg : Str → Option Value) : Prop where
  b_abs : mg "abs" = none
  b_all : mg "all" = none
  b_dict : mg "dict" = none
  b_int : mg "int" = none
  b_isinstance : mg "isinstance" = none
  b_len : mg "len" = none
  b_ord : mg "ord" = none
  b_range : mg "range" = none
  b_sorted : mg "sorted" = none
  b_str : mg "str" = none
  c_CONTENT_LIMIT : ∃ t, mg "CONTENT_LIMIT" = some (.int 400 t)
  c_ENTRY_LIMIT : ∃ t, mg "ENTRY_LIMIT" = some (.int 60 t)
  c_IDENTIFIER_LIMIT : ∃ t, mg "IDENTIFIER_LIMIT" = some (.int 12 t)
  c_LETTERS : ∃ z t, mg "LETTERS" = some (.str z t) ∧ z.cps.toList = [97, 98, 99, 100, 101, 102, 103, 104, 105, 106, 107, 108, 109, 110, 111, 112, 113, 114, 115, 116, 117, 118, 119, 120, 121, 122]
  c_NAME_CHARACTERS : ∃ z t, mg "NAME_CHARACTERS" = some (.str z t) ∧ z.cps.toList = [97, 98, 99, 100, 101, 102, 103, 104, 105, 106, 107, 108, 109, 110, 111, 112, 113, 114, 115, 116, 117, 118, 119, 120, 121, 122, 48, 49, 50, 51, 52, 53, 54, 55, 56, 57, 95, 46]
  c_NAME_LIMIT : ∃ t, mg "NAME_LIMIT" = some (.int 12 t)
  c_PATH_LIMIT : ∃ t, mg "PATH_LIMIT" = some (.int 4 t)
  c_SIGNS : ∃ z t, mg "SIGNS" = some (.str z t) ∧ z.cps.toList = [40, 41, 44, 43]
  kd_ESCAPES : TabK PP w K mg "ESCAPES" kd_ESCAPES
  kt_WRITERS : TupK K mg "WRITERS" [.str [112, 101, 114, 115, 111, 110], .str [98, 117, 105, 108, 100]]
  d_Tree___init__ : ∃ C f fd, mg "Tree" = some (.ref C) ∧ Mk K C f ∧ Fun K "__init__" "Tree.__init__" s_Tree___init__ f fd ∧ L2.Binds K fd ["self"] []
  d_Tree_paths : ∃ C f fd, mg "Tree" = some (.ref C) ∧ Cls K C ∧ Meth K C "paths" f ∧ Fun K "paths" "Tree.paths" s_Tree_paths f fd ∧ L2.Binds K fd ["self"] []
  d_Tree_kind : ∃ C f fd, mg "Tree" = some (.ref C) ∧ Cls K C ∧ Meth K C "kind" f ∧ Fun K "kind" "Tree.kind" s_Tree_kind f fd ∧ L2.Binds K fd ["self", "path"] []
  d_format_string : ∃ f fd, Fun K "format_string" "format_string" s_format_string f fd ∧ mg "format_string" = some (.ref f) ∧ L2.Binds K fd ["text"] []
  d_file_line : ∃ f fd, Fun K "file_line" "file_line" s_file_line f fd ∧ mg "file_line" = some (.ref f) ∧ L2.Binds K fd ["path", "by", "text"] []
  d_link_line : ∃ f fd, Fun K "link_line" "link_line" s_link_line f fd ∧ mg "link_line" = some (.ref f) ∧ L2.Binds K fd ["path", "target"] []
  d_Tree_writer : ∃ C f fd, mg "Tree" = some (.ref C) ∧ Cls K C ∧ Meth K C "writer" f ∧ Fun K "writer" "Tree.writer" s_Tree_writer f fd ∧ L2.Binds K fd ["self", "path"] []
  d_Tree_read : ∃ C f fd, mg "Tree" = some (.ref C) ∧ Cls K C ∧ Meth K C "read" f ∧ Fun K "read" "Tree.read" s_Tree_read f fd ∧ L2.Binds K fd ["self", "path"] []
  d_Tree_target : ∃ C f fd, mg "Tree" = some (.ref C) ∧ Cls K C ∧ Meth K C "target" f ∧ Fun K "target" "Tree.target" s_Tree_target f fd ∧ L2.Binds K fd ["self", "path"] []
  d_save_tree : ∃ f fd, Fun K "save_tree" "save_tree" s_save_tree f fd ∧ mg "save_tree" = some (.ref f) ∧ L2.Binds K fd ["tree"] []
  d_lines_of : ∃ f fd, Fun K "lines_of" "lines_of" s_lines_of f fd ∧ mg "lines_of" = some (.ref f) ∧ L2.Binds K fd ["text"] []
  d_is_skipped : ∃ f fd, Fun K "is_skipped" "is_skipped" s_is_skipped f fd ∧ mg "is_skipped" = some (.ref f) ∧ L2.Binds K fd ["line"] []
  d_scan_string : ∃ f fd, Fun K "scan_string" "scan_string" s_scan_string f fd ∧ mg "scan_string" = some (.ref f) ∧ L2.Binds K fd ["path", "number", "line", "at"] []
  d_word_end : ∃ f fd, Fun K "word_end" "word_end" s_word_end f fd ∧ mg "word_end" = some (.ref f) ∧ L2.Binds K fd ["line", "at"] []
  d_scan_line : ∃ f fd, Fun K "scan_line" "scan_line" s_scan_line f fd ∧ mg "scan_line" = some (.ref f) ∧ L2.Binds K fd ["path", "number", "line"] []
  d_parts_of : ∃ f fd, Fun K "parts_of" "parts_of" s_parts_of f fd ∧ mg "parts_of" = some (.ref f) ∧ L2.Binds K fd ["number", "line"] []
  d_is_name : ∃ f fd, Fun K "is_name" "is_name" s_is_name f fd ∧ mg "is_name" = some (.ref f) ∧ L2.Binds K fd ["value", "characters"] []
  d_is_path : ∃ f fd, Fun K "is_path" "is_path" s_is_path f fd ∧ mg "is_path" = some (.ref f) ∧ L2.Binds K fd ["value"] []
  d_is_text_code : ∃ f fd, Fun K "is_text_code" "is_text_code" s_is_text_code f fd ∧ mg "is_text_code" = some (.ref f) ∧ L2.Binds K fd ["code"] []
  d_is_text : ∃ f fd, Fun K "is_text" "is_text" s_is_text f fd ∧ mg "is_text" = some (.ref f) ∧ L2.Binds K fd ["value"] []
  d_is_content : ∃ f fd, Fun K "is_content" "is_content" s_is_content f fd ∧ mg "is_content" = some (.ref f) ∧ L2.Binds K fd ["value"] []
  d_read_file_line : ∃ f fd, Fun K "read_file_line" "read_file_line" s_read_file_line f fd ∧ mg "read_file_line" = some (.ref f) ∧ L2.Binds K fd ["line", "kinds", "texts"] []
  d_read_link_line : ∃ f fd, Fun K "read_link_line" "read_link_line" s_read_link_line f fd ∧ mg "read_link_line" = some (.ref f) ∧ L2.Binds K fd ["line", "kinds", "texts"] []
  d_load_tree : ∃ f fd, Fun K "load_tree" "load_tree" s_load_tree f fd ∧ mg "load_tree" = some (.ref f) ∧ L2.Binds K fd ["text"] []
  d_is_identifier : ∃ f fd, Fun K "is_identifier" "is_identifier" s_is_identifier f fd ∧ mg "is_identifier" = some (.ref f) ∧ L2.Binds K fd ["value"] []
  d_setting_line : ∃ f fd, Fun K "setting_line" "setting_line" s_setting_line f fd ∧ mg "setting_line" = some (.ref f) ∧ L2.Binds K fd ["name", "text"] []
  d_load_settings : ∃ f fd, Fun K "load_settings" "load_settings" s_load_settings f fd ∧ mg "load_settings" = some (.ref f) ∧ L2.Binds K fd ["text"] []
  d__law_cell : ∃ f fd, Fun K "_law_cell" "_law_cell" s__law_cell f fd ∧ mg "_law_cell" = some (.ref f) ∧ L2.Binds K fd ["_law_script", "_law_k"] []
  d__law_text : ∃ f fd, Fun K "_law_text" "_law_text" s__law_text f fd ∧ mg "_law_text" = some (.ref f) ∧ L2.Binds K fd ["_law_numbers"] []
  d__law_draws : ∃ f fd, Fun K "_law_draws" "_law_draws" s__law_draws f fd ∧ mg "_law_draws" = some (.ref f) ∧ L2.Binds K fd ["_law_cell_here", "_law_many", "_law_limit"] []
  d__law_content : ∃ f fd, Fun K "_law_content" "_law_content" s__law_content f fd ∧ mg "_law_content" = some (.ref f) ∧ L2.Binds K fd ["_law_cell_here"] []
  d_Tree_is_personal : ∃ C f fd, mg "Tree" = some (.ref C) ∧ Cls K C ∧ Meth K C "is_personal" f ∧ Fun K "is_personal" "Tree.is_personal" s_Tree_is_personal f fd ∧ L2.Binds K fd ["self", "path"] []
  d_Tree_check_room : ∃ C f fd, mg "Tree" = some (.ref C) ∧ Cls K C ∧ Meth K C "check_room" f ∧ Fun K "check_room" "Tree.check_room" s_Tree_check_room f fd ∧ L2.Binds K fd ["self", "path"] []
  d_Tree_write : ∃ C f fd, mg "Tree" = some (.ref C) ∧ Cls K C ∧ Meth K C "write" f ∧ Fun K "write" "Tree.write" s_Tree_write f fd ∧ L2.Binds K fd ["self", "path", "text", "by"] []
  d_Tree_link : ∃ C f fd, mg "Tree" = some (.ref C) ∧ Cls K C ∧ Meth K C "link" f ∧ Fun K "link" "Tree.link" s_Tree_link f fd ∧ L2.Binds K fd ["self", "path", "target"] []
  d_save_settings : ∃ f fd, Fun K "save_settings" "save_settings" s_save_settings f fd ∧ mg "save_settings" = some (.ref f) ∧ L2.Binds K fd ["settings"] []
  d__law_string : ∃ f fd, Fun K "_law_string" "_law_string" s__law_string f fd ∧ mg "_law_string" = some (.ref f) ∧ L2.Binds K fd ["_law_text_here"] []
  d_law : ∃ f fd, Fun K "law" "law" s_law f fd ∧ mg "law" = some (.ref f) ∧ L2.Binds K fd ["_law_script"] []
  x_InvalidRecipe : ∃ C fI fd, mg "InvalidRecipe" = some (.ref C) ∧ ClsX K C C ∧ PySem.W.findIn K (.ref C) "__init__" = some (some (.ref fI)) ∧ PySem.W.typeIn K (.ref fI) = some (.type "function") ∧ FunX PP K mg "InvalidRecipe.__init__" s_InvalidRecipe___init__ fI fd C ∧ L2.Binds K fd ["self", "path", "line", "column", "reason"] [] ∧ ∀ p ∈ ([("path", 1), ("line", 2), ("column", 3), ("reason", 4)] : List (Str × Nat)), PySem.W.findIn K (.ref C) p.1 = some none
  x_TreeFull : ∃ C fI fd, mg "TreeFull" = some (.ref C) ∧ ClsX K C C ∧ PySem.W.findIn K (.ref C) "__init__" = some (some (.ref fI)) ∧ PySem.W.typeIn K (.ref fI) = some (.type "function") ∧ FunX PP K mg "TreeFull.__init__" s_TreeFull___init__ fI fd C ∧ L2.Binds K fd ["self", "path"] [] ∧ ∀ p ∈ ([("path", 1)] : List (Str × Nat)), PySem.W.findIn K (.ref C) p.1 = some none
  x_InvalidPath : ∃ C fI fd, mg "InvalidPath" = some (.ref C) ∧ ClsX K C C ∧ PySem.W.findIn K (.ref C) "__init__" = some (some (.ref fI)) ∧ PySem.W.typeIn K (.ref fI) = some (.type "function") ∧ FunX PP K mg "InvalidPath.__init__" s_InvalidPath___init__ fI fd C ∧ L2.Binds K fd ["self", "path"] [] ∧ ∀ p ∈ ([("path", 1)] : List (Str × Nat)), PySem.W.findIn K (.ref C) p.1 = some none
  x_InvalidContent : ∃ C fI fd, mg "InvalidContent" = some (.ref C) ∧ ClsX K C C ∧ PySem.W.findIn K (.ref C) "__init__" = some (some (.ref fI)) ∧ PySem.W.typeIn K (.ref fI) = some (.type "function") ∧ FunX PP K mg "InvalidContent.__init__" s_InvalidContent___init__ fI fd C ∧ L2.Binds K fd ["self", "path"] [] ∧ ∀ p ∈ ([("path", 1)] : List (Str × Nat)), PySem.W.findIn K (.ref C) p.1 = some none
  f_0 : ∀ c i, ([(57, 0)] : List (Nat × Nat)).lookup c = some i → (clay c)[i]? = some "entries" ∧ FldF K mg (cnm c) "entries"
  k_1 : CatF K mg "InvalidRecipe" [(11, true)]
  ic_2 : InsN K mg 57 "Tree"
section
variable {w : World} {K : PySem.W.Frag} {mg : Str → Option Value} {base : Heap}
theorem exc_InvalidRecipe (T : Tx w K mg) : ExcD PP w K mg base 11 "InvalidRecipe" 5 [("path", 1), ("line", 2), ("column", 3), ("reason", 4)] := by
  obtain ⟨C, fI, fd, hm, hc, hi, ht, hf, hb, hn⟩ := T.x_InvalidRecipe
  refine ⟨⟨C, fI, C, fd, ["self", "path", "line", "column", "reason"], hm, hc, hi, ht, init_ok (ps := ["self", "path", "line", "column", "reason"]) (k := 0) hf (NdefX.nscope_by (by decide +kernel)) rfl rfl rfl rfl rfl rfl (by decide) (by decide) (by decide) (fun _ _ _ _ _ _ _ => (.cons (ps_ost (pv 0) (pv 1)) (.cons (ps_ost (pv 0) (pv 2)) (.cons (ps_ost (pv 0) (pv 3)) (.cons (ps_ost (pv 0) (pv 4)) .nil))))) (fun _ => rfl) (fun _ => rfl), hb, hn⟩, by decide, by decide, cn_InvalidRecipe, by decide +kernel⟩
theorem exc_TreeFull (T : Tx w K mg) : ExcD PP w K mg base 10 "TreeFull" 2 [("path", 1)] := by
  obtain ⟨C, fI, fd, hm, hc, hi, ht, hf, hb, hn⟩ := T.x_TreeFull
  refine ⟨⟨C, fI, C, fd, ["self", "path"], hm, hc, hi, ht, init_ok (ps := ["self", "path"]) (k := 0) hf (NdefX.nscope_by (by decide +kernel)) rfl rfl rfl rfl rfl rfl (by decide) (by decide) (by decide) (fun _ _ _ _ _ _ _ => (.cons (ps_ost (pv 0) (pv 1)) .nil)) (fun _ => rfl) (fun _ => rfl), hb, hn⟩, by decide, by decide, cn_TreeFull, by decide +kernel⟩
theorem exc_InvalidPath (T : Tx w K mg) : ExcD PP w K mg base 7 "InvalidPath" 2 [("path", 1)] := by
  obtain ⟨C, fI, fd, hm, hc, hi, ht, hf, hb, hn⟩ := T.x_InvalidPath
  refine ⟨⟨C, fI, C, fd, ["self", "path"], hm, hc, hi, ht, init_ok (ps := ["self", "path"]) (k := 0) hf (NdefX.nscope_by (by decide +kernel)) rfl rfl rfl rfl rfl rfl (by decide) (by decide) (by decide) (fun _ _ _ _ _ _ _ => (.cons (ps_ost (pv 0) (pv 1)) .nil)) (fun _ => rfl) (fun _ => rfl), hb, hn⟩, by decide, by decide, cn_InvalidPath, by decide +kernel⟩
theorem exc_InvalidContent (T : Tx w K mg) : ExcD PP w K mg base 8 "InvalidContent" 2 [("path", 1)] := by
  obtain ⟨C, fI, fd, hm, hc, hi, ht, hf, hb, hn⟩ := T.x_InvalidContent
  refine ⟨⟨C, fI, C, fd, ["self", "path"], hm, hc, hi, ht, init_ok (ps := ["self", "path"]) (k := 0) hf (NdefX.nscope_by (by decide +kernel)) rfl rfl rfl rfl rfl rfl (by decide) (by decide) (by decide) (fun _ _ _ _ _ _ _ => (.cons (ps_ost (pv 0) (pv 1)) .nil)) (fun _ => rfl) (fun _ => rfl), hb, hn⟩, by decide, by decide, cn_InvalidContent, by decide +kernel⟩
theorem sc_Tree___init__ : FnScope ["self"] ["self"] (defScope s_Tree___init__) := ⟨rfl, rfl, rfl, by decide +kernel, rfl, by decide +kernel, by decide +kernel⟩
theorem new_Tree (T : Tx w K mg) : NewF PP w K mg base 57 1 "Tree" m_Tree___init__ 1 := by
  obtain ⟨C, f, fd, hm, hc, F, hb⟩ := T.d_Tree___init__
  refine ⟨⟨C, f, fd, _, hm, hc, fn_d (N := ["self"]) (m := b_Tree___init__) (k := 0) F sc_Tree___init__ (fun cdv A outer s H E hr => ?_), hb⟩, cn_Tree, by decide +kernel⟩
  have hu := hr.units
  exact DSs.eq (ss_one (s_fld T.f_0 (d_var 0) (d_cel b_dnew))) (by rfl)
theorem sc_Tree_paths : FnScope ["self"] ["self"] (defScope s_Tree_paths) := ⟨rfl, rfl, rfl, by decide +kernel, rfl, by decide +kernel, by decide +kernel⟩
theorem meth_Tree_paths (T : Tx w K mg) : MethF PP w K mg base "Tree" "paths" m_Tree_paths 1 := by
  obtain ⟨C, f, fd, hm, hc, hme, F, hb⟩ := T.d_Tree_paths
  refine ⟨C, f, fd, _, hm, hc, hme, fn_d (N := ["self"]) (m := b_Tree_paths) (k := 0) F sc_Tree_paths (fun cdv A outer s H E hr => ?_), hb⟩
  have hu := hr.units
  exact DSs.eq (ss_one (s_retD (d_fz (b_callB (cr_srtK rfl) opn_sortedK rfl T.b_sorted (by decide +kernel) (a_cons (d_fld T.f_0 (d_var 0)) a_nil))))) (by rfl)
theorem mt_Tree_paths (T : Tx w K mg) : ∀ c f, ([(57, m_Tree_paths)] : List (Nat × FunM)).lookup c = some f → ("paths" : Str) ∉ clay c ∧ MethF PP w K mg base (cnm c) "paths" f 1 := tb_cons ⟨by decide +kernel, by rw [cn_Tree]; exact meth_Tree_paths T⟩ tb_nil
theorem sc_Tree_kind : FnScope ["self", "path", "entry"] ["self", "path"] (defScope s_Tree_kind) := ⟨rfl, rfl, rfl, by decide +kernel, rfl, by decide +kernel, by decide +kernel⟩
theorem meth_Tree_kind (T : Tx w K mg) : MethF PP w K mg base "Tree" "kind" m_Tree_kind 1 := by
  obtain ⟨C, f, fd, hm, hc, hme, F, hb⟩ := T.d_Tree_kind
  refine ⟨C, f, fd, _, hm, hc, hme, fn_d (N := ["self", "path", "entry"]) (m := b_Tree_kind) (k := 0) F sc_Tree_kind (fun cdv A outer s H E hr => ?_), hb⟩
  have hu := hr.units
  exact DSs.eq (ss_cons (s_set (i := 2) sc_Tree_kind.nd (d_get1 hu (d_fld T.f_0 (d_var 0)) (d_var 1)))
    (ss_cons (s_if (d_isNT (d_var 2)) (ss_one (s_retD (d_str rfl))) ss_nil)
    (ss_one (s_retD (d_ix (d_var 2) d_int))))) (by rfl)
theorem mt_Tree_kind (T : Tx w K mg) : ∀ c f, ([(57, m_Tree_kind)] : List (Nat × FunM)).lookup c = some f → ("kind" : Str) ∉ clay c ∧ MethF PP w K mg base (cnm c) "kind" f 1 := tb_cons ⟨by decide +kernel, by rw [cn_Tree]; exact meth_Tree_kind T⟩ tb_nil
theorem sc_format_string : FnScope ["text", "escaped"] ["text"] (defScope s_format_string) := ⟨rfl, rfl, rfl, by decide +kernel, rfl, by decide +kernel, by decide +kernel⟩
theorem fn_format_string (T : Tx w K mg) : Fn PP w K mg base "format_string" m_format_string 1 := by
  obtain ⟨f, fd, F, hm, hb⟩ := T.d_format_string
  refine ⟨f, fd, _, fn_dT (N := ["text", "escaped"]) (m := b_format_string) (k := 0) F sc_format_string (by decide +kernel) (by decide) (fun cdv A outer s H E hr => ?_), hm, F.kp, hb⟩
  have hu := hr.units
  exact DSsT.eq (sst_cons (st_set (i := 1) sc_format_string.nd (d_replT (ly := [10]) (lz := [92, 110]) (d_replT (ly := [34]) (lz := [92, 34]) (d_replC (ly := [92]) (lz := [92, 92]) (d_var 0)))))
    (DSsT.of (ss_one (s_retD (d_op op_addA op2_add (d_op op_addA op2_add (d_str rfl) (d_var 1)) (d_str rfl)))))) (by rfl)
theorem sc_file_line : FnScope ["path", "by", "text"] ["path", "by", "text"] (defScope s_file_line) := ⟨rfl, rfl, rfl, by decide +kernel, rfl, by decide +kernel, by decide +kernel⟩
theorem fn_file_line (T : Tx w K mg) : Fn PP w K mg base "file_line" m_file_line 2 := by
  obtain ⟨f, fd, F, hm, hb⟩ := T.d_file_line
  refine ⟨f, fd, _, fn_d (N := ["path", "by", "text"]) (m := b_file_line) (k := 1) F sc_file_line (fun cdv A outer s H E hr => ?_), hm, F.kp, hb⟩
  have hu := hr.units
  exact DSs.eq (ss_one (s_retD (d_m1 PySem.F.slot_str_join PySem.F.type_str_join mt_join opm_join (d_str rfl) (d_fz (b_lst (a_cons (d_str rfl) (a_cons (d_var 0) (a_cons (d_var 1) (a_cons (d_fz (d_call (fn_format_string T) (hr.mono (by decide)) rfl (takes_of rfl rfl rfl rfl) (a_cons (d_var 2) a_nil))) a_nil))))))))) (by rfl)
theorem sc_link_line : FnScope ["path", "target"] ["path", "target"] (defScope s_link_line) := ⟨rfl, rfl, rfl, by decide +kernel, rfl, by decide +kernel, by decide +kernel⟩
theorem fn_link_line (T : Tx w K mg) : Fn PP w K mg base "link_line" m_link_line 1 := by
  obtain ⟨f, fd, F, hm, hb⟩ := T.d_link_line
  refine ⟨f, fd, _, fn_d (N := ["path", "target"]) (m := b_link_line) (k := 0) F sc_link_line (fun cdv A outer s H E hr => ?_), hm, F.kp, hb⟩
  have hu := hr.units
  exact DSs.eq (ss_one (s_retD (d_m1 PySem.F.slot_str_join PySem.F.type_str_join mt_join opm_join (d_str rfl) (d_fz (b_lst (a_cons (d_str rfl) (a_cons (d_var 0) (a_cons (d_var 1) a_nil)))))))) (by rfl)
theorem sc_Tree_writer : FnScope ["self", "path", "entry"] ["self", "path"] (defScope s_Tree_writer) := ⟨rfl, rfl, rfl, by decide +kernel, rfl, by decide +kernel, by decide +kernel⟩
theorem meth_Tree_writer (T : Tx w K mg) : MethF PP w K mg base "Tree" "writer" m_Tree_writer 1 := by
  obtain ⟨C, f, fd, hm, hc, hme, F, hb⟩ := T.d_Tree_writer
  refine ⟨C, f, fd, _, hm, hc, hme, fn_d (N := ["self", "path", "entry"]) (m := b_Tree_writer) (k := 0) F sc_Tree_writer (fun cdv A outer s H E hr => ?_), hb⟩
  have hu := hr.units
  exact DSs.eq (ss_cons (s_set (i := 2) sc_Tree_writer.nd (d_get1 hu (d_fld T.f_0 (d_var 0)) (d_var 1)))
    (ss_cons (s_if (DW.dt (w_or (d_isNT (d_var 2)) (w_or1 (d_cmpT (op_neG hu) op2_ne (d_ix (d_var 2) d_int) (d_str rfl) (nomark _))))) (ss_one (s_retD d_non)) ss_nil)
    (ss_one (s_retD (d_ix (d_var 2) d_int))))) (by rfl)
theorem mt_Tree_writer (T : Tx w K mg) : ∀ c f, ([(57, m_Tree_writer)] : List (Nat × FunM)).lookup c = some f → ("writer" : Str) ∉ clay c ∧ MethF PP w K mg base (cnm c) "writer" f 1 := tb_cons ⟨by decide +kernel, by rw [cn_Tree]; exact meth_Tree_writer T⟩ tb_nil
theorem sc_Tree_read : FnScope ["self", "path", "entry"] ["self", "path"] (defScope s_Tree_read) := ⟨rfl, rfl, rfl, by decide +kernel, rfl, by decide +kernel, by decide +kernel⟩
theorem meth_Tree_read (T : Tx w K mg) : MethF PP w K mg base "Tree" "read" m_Tree_read 1 := by
  obtain ⟨C, f, fd, hm, hc, hme, F, hb⟩ := T.d_Tree_read
  refine ⟨C, f, fd, _, hm, hc, hme, fn_d (N := ["self", "path", "entry"]) (m := b_Tree_read) (k := 0) F sc_Tree_read (fun cdv A outer s H E hr => ?_), hb⟩
  have hu := hr.units
  exact DSs.eq (ss_cons (s_set (i := 2) sc_Tree_read.nd (d_get1 hu (d_fld T.f_0 (d_var 0)) (d_var 1)))
    (ss_cons (s_if (DW.dt (w_or (d_isNT (d_var 2)) (w_or1 (d_cmpT (op_neG hu) op2_ne (d_ix (d_var 2) d_int) (d_str rfl) (nomark _))))) (ss_one (s_retD d_non)) ss_nil)
    (ss_one (s_retD (d_ix (d_var 2) d_int))))) (by rfl)
theorem mt_Tree_read (T : Tx w K mg) : ∀ c f, ([(57, m_Tree_read)] : List (Nat × FunM)).lookup c = some f → ("read" : Str) ∉ clay c ∧ MethF PP w K mg base (cnm c) "read" f 1 := tb_cons ⟨by decide +kernel, by rw [cn_Tree]; exact meth_Tree_read T⟩ tb_nil
theorem sc_Tree_target : FnScope ["self", "path", "entry"] ["self", "path"] (defScope s_Tree_target) := ⟨rfl, rfl, rfl, by decide +kernel, rfl, by decide +kernel, by decide +kernel⟩
theorem meth_Tree_target (T : Tx w K mg) : MethF PP w K mg base "Tree" "target" m_Tree_target 1 := by
  obtain ⟨C, f, fd, hm, hc, hme, F, hb⟩ := T.d_Tree_target
  refine ⟨C, f, fd, _, hm, hc, hme, fn_d (N := ["self", "path", "entry"]) (m := b_Tree_target) (k := 0) F sc_Tree_target (fun cdv A outer s H E hr => ?_), hb⟩
  have hu := hr.units
  exact DSs.eq (ss_cons (s_set (i := 2) sc_Tree_target.nd (d_get1 hu (d_fld T.f_0 (d_var 0)) (d_var 1)))
    (ss_cons (s_if (DW.dt (w_or (d_isNT (d_var 2)) (w_or1 (d_cmpT (op_neG hu) op2_ne (d_ix (d_var 2) d_int) (d_str rfl) (nomark _))))) (ss_one (s_retD d_non)) ss_nil)
    (ss_one (s_retD (d_ix (d_var 2) d_int))))) (by rfl)
theorem mt_Tree_target (T : Tx w K mg) : ∀ c f, ([(57, m_Tree_target)] : List (Nat × FunM)).lookup c = some f → ("target" : Str) ∉ clay c ∧ MethF PP w K mg base (cnm c) "target" f 1 := tb_cons ⟨by decide +kernel, by rw [cn_Tree]; exact meth_Tree_target T⟩ tb_nil
theorem sc_save_tree : FnScope ["tree", "lines", "path"] ["tree"] (defScope s_save_tree) := ⟨rfl, rfl, rfl, by decide +kernel, rfl, by decide +kernel, by decide +kernel⟩
theorem fn_save_tree (T : Tx w K mg) : Fn PP w K mg base "save_tree" m_save_tree 3 := by
  obtain ⟨f, fd, F, hm, hb⟩ := T.d_save_tree
  refine ⟨f, fd, _, fn_d (N := ["tree", "lines", "path"]) (m := b_save_tree) (k := 2) F sc_save_tree (fun cdv A outer s H E hr => ?_), hm, F.kp, hb⟩
  have hu := hr.units
  exact DSs.eq (ss_cons (s_setB (i := 1) sc_save_tree.nd (b_lst a_nil))
    (ss_cons (s_for (passes_of rfl) rfl (i_list (d_fz (d_meth0 (mt_Tree_paths T) (hr.mono (by decide)) (takes_of rfl rfl rfl rfl) (d_var 0)))) (g_name (i := 2) sc_save_tree.nd) (ss_one (s_if (d_cmpT (op_eqG hu) op2_eq (d_fz (d_meth (mt_Tree_kind T) (hr.mono (by decide)) (takes_of rfl rfl rfl rfl) (d_var 0) (a_cons (d_var 2) a_nil))) (d_str rfl) (nomark _)) (ss_one (s_expr (d_hm1 PySem.F.slot_list_append PySem.F.type_list_append mt_append ow_append (h_var 1) (d_fz (d_call (fn_file_line T) (hr.mono (by decide)) rfl (takes_of rfl rfl rfl rfl) (a_cons (d_var 2) (a_cons (d_fz (d_meth (mt_Tree_writer T) (hr.mono (by decide)) (takes_of rfl rfl rfl rfl) (d_var 0) (a_cons (d_var 2) a_nil))) (a_cons (d_fz (d_meth (mt_Tree_read T) (hr.mono (by decide)) (takes_of rfl rfl rfl rfl) (d_var 0) (a_cons (d_var 2) a_nil))) a_nil)))))))) (ss_one (s_expr (d_hm1 PySem.F.slot_list_append PySem.F.type_list_append mt_append ow_append (h_var 1) (d_fz (d_call (fn_link_line T) (hr.mono (by decide)) rfl (takes_of rfl rfl rfl rfl) (a_cons (d_var 2) (a_cons (d_fz (d_meth (mt_Tree_target T) (hr.mono (by decide)) (takes_of rfl rfl rfl rfl) (d_var 0) (a_cons (d_var 2) a_nil))) a_nil))))))))))
    (ss_one (s_retD (d_m1 PySem.F.slot_str_join PySem.F.type_str_join mt_join opm_join (d_str rfl) (d_varF 1)))))) (by rfl)
theorem sc_lines_of : FnScope ["text"] ["text"] (defScope s_lines_of) := ⟨rfl, rfl, rfl, by decide +kernel, rfl, by decide +kernel, by decide +kernel⟩
theorem fn_lines_of (T : Tx w K mg) : Fn PP w K mg base "lines_of" m_lines_of 1 := by
  obtain ⟨f, fd, F, hm, hb⟩ := T.d_lines_of
  refine ⟨f, fd, _, fn_d (N := ["text"]) (m := b_lines_of) (k := 0) F sc_lines_of (fun cdv A outer s H E hr => ?_), hm, F.kp, hb⟩
  have hu := hr.units
  exact DSs.eq (ss_cons (s_if (d_cmpT (op_eqG hu) op2_eq (d_var 0) (d_str rfl) (nomark _)) (ss_one (s_retD (d_fz (b_lst a_nil)))) ss_nil)
    (ss_one (s_retD (d_fz (b_m1 PySem.F.slot_str_split PySem.F.type_str_split mt_split opm_split (d_var 0) (d_str rfl)))))) (by rfl)
theorem sc_is_skipped : FnScope ["line", "rest"] ["line"] (defScope s_is_skipped) := ⟨rfl, rfl, rfl, by decide +kernel, rfl, by decide +kernel, by decide +kernel⟩
theorem fn_is_skipped (T : Tx w K mg) : Fn PP w K mg base "is_skipped" m_is_skipped 1 := by
  obtain ⟨f, fd, F, hm, hb⟩ := T.d_is_skipped
  refine ⟨f, fd, _, fn_d (N := ["line", "rest"]) (m := b_is_skipped) (k := 0) F sc_is_skipped (fun cdv A outer s H E hr => ?_), hm, F.kp, hb⟩
  have hu := hr.units
  exact DSs.eq (ss_cons (s_set (i := 1) sc_is_skipped.nd (d_m1 PySem.F.slot_str_lstrip PySem.F.type_str_lstrip mt_lstripChars opm_lstrip (d_var 0) (d_str rfl)))
    (ss_one (s_retD (d_or (d_cmp (op_eqG hu) op2_eq (d_var 1) (d_str rfl) (nomark _)) (d_one (d_m1 PySem.F.slot_str_startswith PySem.F.type_str_startswith mt_startswith opm_starts (d_var 1) (d_str rfl))))))) (by rfl)
theorem sc_scan_string : FnScope ["path", "number", "line", "at", "pieces", "place", "char"] ["path", "number", "line", "at"] (defScope s_scan_string) := ⟨rfl, rfl, rfl, by decide +kernel, rfl, by decide +kernel, by decide +kernel⟩
theorem fn_scan_string (T : Tx w K mg) : Fn PP w K mg base "scan_string" m_scan_string 3 := by
  obtain ⟨f, fd, F, hm, hb⟩ := T.d_scan_string
  refine ⟨f, fd, _, fn_d (N := ["path", "number", "line", "at", "pieces", "place", "char"]) (m := b_scan_string) (k := 2) F sc_scan_string (fun cdv A outer s H E hr => ?_), hm, F.kp, hb⟩
  have hu := hr.units
  exact DSs.eq (ss_cons (s_setB (i := 4) sc_scan_string.nd (b_lst a_nil))
    (ss_cons (s_set (i := 5) sc_scan_string.nd (d_op op_addA op2_add (d_var 3) d_int))
    (ss_cons (s_while (passes_of rfl) (d_cmpT op_lt op2_lt (d_var 5) (d_callB call_len opn_len rfl T.b_len (by decide +kernel) (a_cons (d_var 2) a_nil)) (nomark _)) (ss_cons (s_set (i := 6) sc_scan_string.nd (d_ix (d_var 2) (d_var 5)))
    (ss_cons (s_if (d_cmpT (op_eqG hu) op2_eq (d_var 6) (d_str rfl) (nomark _)) (ss_one (s_retD (d_tup (a_cons (d_m1 PySem.F.slot_str_join PySem.F.type_str_join mt_join opm_join (d_str rfl) (d_varF 4)) (a_cons (d_op op_addA op2_add (d_var 5) d_int) a_nil))))) ss_nil)
    (ss_one (s_if (d_cmpT (op_neG hu) op2_ne (d_var 6) (d_str rfl) (nomark _)) (ss_cons (s_expr (d_hm1 PySem.F.slot_list_append PySem.F.type_list_append mt_append ow_append (h_var 4) (d_var 6)))
    (ss_one (s_aug (i := 5) sc_scan_string.nd d_int ip_addA op2_add))) (ss_one (s_if (d_cmpT (op_eqG hu) op2_eq (d_op op_addA op2_add (d_var 5) d_int) (d_callB call_len opn_len rfl T.b_len (by decide +kernel) (a_cons (d_var 2) a_nil)) (nomark _)) (ss_one s_break) (ss_one (s_if (d_kinT T.kd_ESCAPES rfl (d_ix (d_var 2) (d_op op_addA op2_add (d_var 5) d_int))) (ss_cons (s_expr (d_hm1 PySem.F.slot_list_append PySem.F.type_list_append mt_append ow_append (h_var 4) (d_kget T.kd_ESCAPES rfl (d_ix (d_var 2) (d_op op_addA op2_add (d_var 5) d_int)))))
    (ss_one (s_aug (i := 5) sc_scan_string.nd d_int ip_addA op2_add))) (ss_one (s_raise (k := 0) (exc_InvalidRecipe T) rfl rfl (takes_of rfl rfl rfl rfl) (hr.mono (by decide)) rfl (a_cons (d_var 0) (a_cons (d_var 1) (a_cons (d_op op_addA op2_add (d_var 5) d_int) (a_cons (d_str (l := [105, 110, 118, 97, 108, 105, 100, 32, 101, 115, 99, 97, 112, 101]) (by decide +kernel)) a_nil)))))))))))))))
    (ss_one (s_raise (k := 0) (exc_InvalidRecipe T) rfl rfl (takes_of rfl rfl rfl rfl) (hr.mono (by decide)) rfl (a_cons (d_var 0) (a_cons (d_var 1) (a_cons (d_op op_addA op2_add (d_var 3) d_int) (a_cons (d_str (l := [117, 110, 116, 101, 114, 109, 105, 110, 97, 116, 101, 100, 32, 115, 116, 114, 105, 110, 103]) (by decide +kernel)) a_nil))))))))) (by rfl)
theorem sc_word_end : FnScope ["line", "at", "end"] ["line", "at"] (defScope s_word_end) := ⟨rfl, rfl, rfl, by decide +kernel, rfl, by decide +kernel, by decide +kernel⟩
theorem fn_word_end (T : Tx w K mg) : Fn PP w K mg base "word_end" m_word_end 1 := by
  obtain ⟨f, fd, F, hm, hb⟩ := T.d_word_end
  refine ⟨f, fd, _, fn_d (N := ["line", "at", "end"]) (m := b_word_end) (k := 0) F sc_word_end (fun cdv A outer s H E hr => ?_), hm, F.kp, hb⟩
  have hu := hr.units
  exact DSs.eq (ss_cons (s_set (i := 2) sc_word_end.nd (d_var 1))
    (ss_cons (s_while (passes_of rfl) (DW.dt (w_and (d_cmpT op_lt op2_lt (d_var 2) (d_callB call_len opn_len rfl T.b_len (by decide +kernel) (a_cons (d_var 0) a_nil)) (nomark _)) (w_and1 (d_cmpT (op_niA hu) op2_ni (d_ix (d_var 0) (d_var 2)) (d_op op_addA op2_add (d_str rfl) (d_gs rfl T.c_SIGNS)) (by with_unfolding_all rfl))))) (ss_one (s_aug (i := 2) sc_word_end.nd d_int ip_addA op2_add)))
    (ss_one (s_retD (d_var 2))))) (by rfl)
theorem sc_scan_line : FnScope ["path", "number", "line", "tokens", "at", "char", "text", "end"] ["path", "number", "line"] (defScope s_scan_line) := ⟨rfl, rfl, rfl, by decide +kernel, rfl, by decide +kernel, by decide +kernel⟩
theorem fn_scan_line (T : Tx w K mg) : Fn PP w K mg base "scan_line" m_scan_line 4 := by
  obtain ⟨f, fd, F, hm, hb⟩ := T.d_scan_line
  refine ⟨f, fd, _, fn_d (N := ["path", "number", "line", "tokens", "at", "char", "text", "end"]) (m := b_scan_line) (k := 3) F sc_scan_line (fun cdv A outer s H E hr => ?_), hm, F.kp, hb⟩
  have hu := hr.units
  exact DSs.eq (ss_cons (s_setB (i := 3) sc_scan_line.nd (b_lst a_nil))
    (ss_cons (s_set (i := 4) sc_scan_line.nd d_int)
    (ss_cons (s_if (dt_tru (d_fz (d_call (fn_is_skipped T) (hr.mono (by decide)) rfl (takes_of rfl rfl rfl rfl) (a_cons (d_var 2) a_nil)))) (ss_one (s_retD (d_varF 3))) ss_nil)
    (ss_cons (s_while (passes_of rfl) (d_cmpT op_lt op2_lt (d_var 4) (d_callB call_len opn_len rfl T.b_len (by decide +kernel) (a_cons (d_var 2) a_nil)) (nomark _)) (ss_cons (s_set (i := 5) sc_scan_line.nd (d_ix (d_var 2) (d_var 4)))
    (ss_one (s_if (d_cmpT (op_eqG hu) op2_eq (d_var 5) (d_str rfl) (nomark _)) (ss_one (s_aug (i := 4) sc_scan_line.nd d_int ip_addA op2_add)) (ss_one (s_if (d_cmpT (op_inA hu) op2_in (d_var 5) (d_gs rfl T.c_SIGNS) (by with_unfolding_all rfl)) (ss_cons (s_expr (d_hm1 PySem.F.slot_list_append PySem.F.type_list_append mt_append ow_append (h_var 3) (d_tup (a_cons (d_str rfl) (a_cons (d_var 5) (a_cons (d_op op_addA op2_add (d_var 4) d_int) a_nil))))))
    (ss_one (s_aug (i := 4) sc_scan_line.nd d_int ip_addA op2_add))) (ss_one (s_if (d_cmpT (op_eqG hu) op2_eq (d_var 5) (d_str rfl) (nomark _)) (ss_cons (s_setT (d_fz (d_call (fn_scan_string T) (hr.mono (by decide)) rfl (takes_of rfl rfl rfl rfl) (a_cons (d_var 0) (a_cons (d_var 1) (a_cons (d_var 2) (a_cons (d_var 4) a_nil)))))) (g_pair (i := 6) (j := 7) rfl (by decide) sc_scan_line.nd))
    (ss_cons (s_expr (d_hm1 PySem.F.slot_list_append PySem.F.type_list_append mt_append ow_append (h_var 3) (d_tup (a_cons (d_str rfl) (a_cons (d_var 6) (a_cons (d_op op_addA op2_add (d_var 4) d_int) a_nil))))))
    (ss_one (s_set (i := 4) sc_scan_line.nd (d_var 7))))) (ss_cons (s_set (i := 7) sc_scan_line.nd (d_fz (d_call (fn_word_end T) (hr.mono (by decide)) rfl (takes_of rfl rfl rfl rfl) (a_cons (d_var 2) (a_cons (d_var 4) a_nil)))))
    (ss_cons (s_expr (d_hm1 PySem.F.slot_list_append PySem.F.type_list_append mt_append ow_append (h_var 3) (d_tup (a_cons (d_str rfl) (a_cons (d_slS (d_var 2) (o_some (d_var 4)) (o_some (d_var 7))) (a_cons (d_op op_addA op2_add (d_var 4) d_int) a_nil))))))
    (ss_one (s_set (i := 4) sc_scan_line.nd (d_var 7)))))))))))))
    (ss_one (s_retD (d_varF 3))))))) (by rfl)
theorem sc_parts_of : FnScope ["number", "line", "tokens", "token"] ["number", "line"] (defScope s_parts_of) := ⟨rfl, rfl, rfl, by decide +kernel, rfl, by decide +kernel, by decide +kernel⟩
theorem fn_parts_of (T : Tx w K mg) : Fn PP w K mg base "parts_of" m_parts_of 5 := by
  obtain ⟨f, fd, F, hm, hb⟩ := T.d_parts_of
  refine ⟨f, fd, _, fn_d (N := ["number", "line", "tokens", "token"]) (m := b_parts_of) (k := 4) F sc_parts_of (fun cdv A outer s H E hr => ?_), hm, F.kp, hb⟩
  have hu := hr.units
  exact DSs.eq (ss_cons (s_try rfl rfl rfl (takes_of rfl rfl rfl rfl) (fun _ _ _ tk0 pn0 => (ss_one (s_set (i := 2) sc_parts_of.nd (d_fz (d_call (fn_scan_line T) (hr.mono (by decide)) rfl tk0 (a_cons (d_str rfl) (a_cons (d_var 0) (a_cons (d_var 1) a_nil)))))))) (clz_only rfl T.k_1 (fun _ _ _ hf => (ss_one s_dead)) .nil))
    (ss_one (s_retD (d_tup (a_cons (d_fz (b_lc (own := [("token", 3)]) rfl sc_parts_of.nd (i_list (d_var 2)) (blkOk_by (own := [("token", 3)]) (N := ["number", "line", "tokens", "token"]) (sc := defScope s_parts_of) (by decide +kernel)) (fun _ _ _ _ _ => (g_name (i := 3) sc_parts_of.nd)) (fun _ _ _ _ _ => ts_nil) (fun _ _ _ _ _ => (d_ix (d_var 3) d_int)))) (a_cons (d_fz (b_lc (own := [("token", 3)]) rfl sc_parts_of.nd (i_list (d_var 2)) (blkOk_by (own := [("token", 3)]) (N := ["number", "line", "tokens", "token"]) (sc := defScope s_parts_of) (by decide +kernel)) (fun _ _ _ _ _ => (g_name (i := 3) sc_parts_of.nd)) (fun _ _ _ _ _ => ts_nil) (fun _ _ _ _ _ => (d_ix (d_var 3) d_int)))) a_nil)))))) (by rfl)
theorem sc_is_name : FnScope ["value", "characters", "char"] ["value", "characters"] (defScope s_is_name) := ⟨rfl, rfl, rfl, by decide +kernel, rfl, by decide +kernel, by decide +kernel⟩
theorem fn_is_name (T : Tx w K mg) : Fn PP w K mg base "is_name" m_is_name 1 := by
  obtain ⟨f, fd, F, hm, hb⟩ := T.d_is_name
  refine ⟨f, fd, _, fn_d (N := ["value", "characters", "char"]) (m := b_is_name) (k := 0) F sc_is_name (fun cdv A outer s H E hr => ?_), hm, F.kp, hb⟩
  have hu := hr.units
  exact DSs.eq (ss_cons (s_if (DW.dt (w_or (d_cmpT op_lt op2_lt (d_callB call_len opn_len rfl T.b_len (by decide +kernel) (a_cons (d_var 0) a_nil)) d_int (nomark _)) (w_or (d_cmpT op_gt op2_gt (d_callB call_len opn_len rfl T.b_len (by decide +kernel) (a_cons (d_var 0) a_nil)) (d_gi rfl T.c_NAME_LIMIT) (nomark _)) (w_or1 (d_cmpT (op_eqG hu) op2_eq (d_ix (d_var 0) d_int) (d_str rfl) (nomark _)))))) (ss_one (s_retD d_bl)) ss_nil)
    (ss_one (s_retD (d_callB (cr_all rfl) opn_all rfl T.b_all (by decide +kernel) (a_cons (d_fz (b_lc (own := [("char", 2)]) rfl sc_is_name.nd (i_str (d_var 0)) (blkOk_by (own := [("char", 2)]) (N := ["value", "characters", "char"]) (sc := defScope s_is_name) (by decide +kernel)) (fun _ _ _ _ _ => (g_name (i := 2) sc_is_name.nd)) (fun _ _ _ _ _ => ts_nil) (fun _ _ _ _ _ => (d_cmp (op_inA hu) op2_in (d_var 2) (d_var 1) (by with_unfolding_all rfl))))) a_nil))))) (by rfl)
theorem sc_is_path : FnScope ["value", "names", "name"] ["value"] (defScope s_is_path) := ⟨rfl, rfl, rfl, by decide +kernel, rfl, by decide +kernel, by decide +kernel⟩
theorem fn_is_path (T : Tx w K mg) : Fn PP w K mg base "is_path" m_is_path 2 := by
  obtain ⟨f, fd, F, hm, hb⟩ := T.d_is_path
  refine ⟨f, fd, _, fn_d (N := ["value", "names", "name"]) (m := b_is_path) (k := 1) F sc_is_path (fun cdv A outer s H E hr => ?_), hm, F.kp, hb⟩
  have hu := hr.units
  exact DSs.eq (ss_cons (s_set (i := 1) sc_is_path.nd (d_fz (b_m1 PySem.F.slot_str_split PySem.F.type_str_split mt_split opm_split (d_var 0) (d_str rfl))))
    (ss_one (s_retD (d_and (d_cmp op_le op2_le (d_callB call_len opn_len rfl T.b_len (by decide +kernel) (a_cons (d_var 1) a_nil)) (d_gi rfl T.c_PATH_LIMIT) (nomark _)) (d_one (d_callB (cr_all rfl) opn_all rfl T.b_all (by decide +kernel) (a_cons (d_fz (b_lc (own := [("name", 2)]) rfl sc_is_path.nd (i_list (d_var 1)) (blkOk_by (own := [("name", 2)]) (N := ["value", "names", "name"]) (sc := defScope s_is_path) (by decide +kernel)) (fun _ _ _ _ _ => (g_name (i := 2) sc_is_path.nd)) (fun _ _ _ _ _ => ts_nil) (fun _ _ _ _ _ => (d_fz (d_call (fn_is_name T) (hr.mono (by decide)) rfl takes0 (a_cons (d_var 2) (a_cons (d_gs rfl T.c_NAME_CHARACTERS) a_nil))))))) a_nil))))))) (by rfl)
theorem sc_is_text_code : FnScope ["code"] ["code"] (defScope s_is_text_code) := ⟨rfl, rfl, rfl, by decide +kernel, rfl, by decide +kernel, by decide +kernel⟩
theorem fn_is_text_code (T : Tx w K mg) : Fn PP w K mg base "is_text_code" m_is_text_code 1 := by
  obtain ⟨f, fd, F, hm, hb⟩ := T.d_is_text_code
  refine ⟨f, fd, _, fn_d (N := ["code"]) (m := b_is_text_code) (k := 0) F sc_is_text_code (fun cdv A outer s H E hr => ?_), hm, F.kp, hb⟩
  have hu := hr.units
  exact DSs.eq (ss_one (s_retD (d_or (d_cmp (op_eqG hu) op2_eq (d_var 0) d_int (nomark _)) (d_one (d_and (d_chain op_le op_le op2_le op2_le d_int (d_var 0) d_int) (d_one (d_cmp (op_neG hu) op2_ne (d_var 0) d_int (nomark _)))))))) (by rfl)
theorem sc_is_text : FnScope ["value", "char"] ["value"] (defScope s_is_text) := ⟨rfl, rfl, rfl, by decide +kernel, rfl, by decide +kernel, by decide +kernel⟩
theorem fn_is_text (T : Tx w K mg) : Fn PP w K mg base "is_text" m_is_text 2 := by
  obtain ⟨f, fd, F, hm, hb⟩ := T.d_is_text
  refine ⟨f, fd, _, fn_d (N := ["value", "char"]) (m := b_is_text) (k := 1) F sc_is_text (fun cdv A outer s H E hr => ?_), hm, F.kp, hb⟩
  have hu := hr.units
  exact DSs.eq (ss_one (s_retD (d_callB (cr_all rfl) opn_all rfl T.b_all (by decide +kernel) (a_cons (d_fz (b_lc (own := [("char", 1)]) rfl sc_is_text.nd (i_str (d_var 0)) (blkOk_by (own := [("char", 1)]) (N := ["value", "char"]) (sc := defScope s_is_text) (by decide +kernel)) (fun _ _ _ _ _ => (g_name (i := 1) sc_is_text.nd)) (fun _ _ _ _ _ => ts_nil) (fun _ _ _ _ _ => (d_fz (d_call (fn_is_text_code T) (hr.mono (by decide)) rfl takes0 (a_cons (d_callB call_ord opn_ord rfl T.b_ord (by decide +kernel) (a_cons (d_var 1) a_nil)) a_nil)))))) a_nil)))) (by rfl)
theorem sc_is_content : FnScope ["value"] ["value"] (defScope s_is_content) := ⟨rfl, rfl, rfl, by decide +kernel, rfl, by decide +kernel, by decide +kernel⟩
theorem fn_is_content (T : Tx w K mg) : Fn PP w K mg base "is_content" m_is_content 3 := by
  obtain ⟨f, fd, F, hm, hb⟩ := T.d_is_content
  refine ⟨f, fd, _, fn_d (N := ["value"]) (m := b_is_content) (k := 2) F sc_is_content (fun cdv A outer s H E hr => ?_), hm, F.kp, hb⟩
  have hu := hr.units
  exact DSs.eq (ss_one (s_retD (d_and (d_cmp op_le op2_le (d_callB call_len opn_len rfl T.b_len (by decide +kernel) (a_cons (d_var 0) a_nil)) (d_gi rfl T.c_CONTENT_LIMIT) (nomark _)) (d_one (d_fz (d_call (fn_is_text T) (hr.mono (by decide)) rfl (takes_of rfl rfl rfl rfl) (a_cons (d_var 0) a_nil))))))) (by rfl)
theorem sc_read_file_line : FnScope ["line", "kinds", "texts"] ["line", "kinds", "texts"] (defScope s_read_file_line) := ⟨rfl, rfl, rfl, by decide +kernel, rfl, by decide +kernel, by decide +kernel⟩
theorem fn_read_file_line (T : Tx w K mg) : Fn PP w K mg base "read_file_line" m_read_file_line 4 := by
  obtain ⟨f, fd, F, hm, hb⟩ := T.d_read_file_line
  refine ⟨f, fd, _, fn_d (N := ["line", "kinds", "texts"]) (m := b_read_file_line) (k := 3) F sc_read_file_line (fun cdv A outer s H E hr => ?_), hm, F.kp, hb⟩
  have hu := hr.units
  exact DSs.eq (ss_cons (s_if (DW.dt (w_or (d_cmpT (op_neG hu) op2_ne (d_var 1) (d_fz (b_lst (a_cons (d_str rfl) (a_cons (d_str rfl) (a_cons (d_str rfl) (a_cons (d_str rfl) a_nil)))))) (nomark _)) (w_or1 (d_cmpT (op_neG hu) op2_ne (d_ix (d_var 2) d_int) (d_str rfl) (nomark _))))) (ss_one (s_retD d_non)) ss_nil)
    (ss_cons (s_if (DW.dt (w_or (t_not (dt_tru (d_fz (d_call (fn_is_path T) (hr.mono (by decide)) rfl (takes_of rfl rfl rfl rfl) (a_cons (d_ix (d_var 2) d_int) a_nil))))) (w_or (d_cmpT (op_niA hu) op2_ni (d_ix (d_var 2) d_int) (d_gT rfl T.kt_WRITERS) (by with_unfolding_all rfl)) (w_or1 (t_not (dt_tru (d_fz (d_call (fn_is_content T) (hr.mono (by decide)) rfl (takes_of rfl rfl rfl rfl) (a_cons (d_ix (d_var 2) d_int) a_nil))))))))) (ss_one (s_retD d_non)) ss_nil)
    (ss_cons (s_if (d_cmpT (op_neG hu) op2_ne (d_fz (d_call (fn_file_line T) (hr.mono (by decide)) rfl (takes_of rfl rfl rfl rfl) (a_cons (d_ix (d_var 2) d_int) (a_cons (d_ix (d_var 2) d_int) (a_cons (d_ix (d_var 2) d_int) a_nil))))) (d_var 0) (nomark _)) (ss_one (s_retD d_non)) ss_nil)
    (ss_one (s_retD (d_tup (a_cons (d_ix (d_var 2) d_int) (a_cons (d_tup (a_cons (d_str rfl) (a_cons (d_ix (d_var 2) d_int) (a_cons (d_ix (d_var 2) d_int) a_nil)))) a_nil)))))))) (by rfl)
theorem sc_read_link_line : FnScope ["line", "kinds", "texts"] ["line", "kinds", "texts"] (defScope s_read_link_line) := ⟨rfl, rfl, rfl, by decide +kernel, rfl, by decide +kernel, by decide +kernel⟩
theorem fn_read_link_line (T : Tx w K mg) : Fn PP w K mg base "read_link_line" m_read_link_line 3 := by
  obtain ⟨f, fd, F, hm, hb⟩ := T.d_read_link_line
  refine ⟨f, fd, _, fn_d (N := ["line", "kinds", "texts"]) (m := b_read_link_line) (k := 2) F sc_read_link_line (fun cdv A outer s H E hr => ?_), hm, F.kp, hb⟩
  have hu := hr.units
  exact DSs.eq (ss_cons (s_if (DW.dt (w_or (d_cmpT (op_neG hu) op2_ne (d_var 1) (d_fz (b_lst (a_cons (d_str rfl) (a_cons (d_str rfl) (a_cons (d_str rfl) a_nil))))) (nomark _)) (w_or1 (d_cmpT (op_neG hu) op2_ne (d_ix (d_var 2) d_int) (d_str rfl) (nomark _))))) (ss_one (s_retD d_non)) ss_nil)
    (ss_cons (s_if (DW.dt (w_or (t_not (dt_tru (d_fz (d_call (fn_is_path T) (hr.mono (by decide)) rfl (takes_of rfl rfl rfl rfl) (a_cons (d_ix (d_var 2) d_int) a_nil))))) (w_or (t_not (dt_tru (d_fz (d_call (fn_is_path T) (hr.mono (by decide)) rfl (takes_of rfl rfl rfl rfl) (a_cons (d_ix (d_var 2) d_int) a_nil))))) (w_or1 (d_cmpT (op_neG hu) op2_ne (d_fz (d_call (fn_link_line T) (hr.mono (by decide)) rfl (takes_of rfl rfl rfl rfl) (a_cons (d_ix (d_var 2) d_int) (a_cons (d_ix (d_var 2) d_int) a_nil)))) (d_var 0) (nomark _)))))) (ss_one (s_retD d_non)) ss_nil)
    (ss_one (s_retD (d_tup (a_cons (d_ix (d_var 2) d_int) (a_cons (d_tup (a_cons (d_str rfl) (a_cons (d_ix (d_var 2) d_int) a_nil))) a_nil))))))) (by rfl)
theorem sc_load_tree : FnScope ["text", "tree", "entries", "personal", "last", "lines", "at", "kinds", "texts", "found"] ["text"] (defScope s_load_tree) := ⟨rfl, rfl, rfl, by decide +kernel, rfl, by decide +kernel, by decide +kernel⟩
theorem fn_load_tree (T : Tx w K mg) : Fn PP w K mg base "load_tree" m_load_tree 6 := by
  obtain ⟨f, fd, F, hm, hb⟩ := T.d_load_tree
  refine ⟨f, fd, _, fn_d (N := ["text", "tree", "entries", "personal", "last", "lines", "at", "kinds", "texts", "found"]) (m := b_load_tree) (k := 5) F sc_load_tree (fun cdv A outer s H E hr => ?_), hm, F.kp, hb⟩
  have hu := hr.units
  exact DSs.eq (ss_cons (s_set (i := 1) sc_load_tree.nd (d_new0 (new_Tree T) (hr.mono (by decide)) rfl (takes_of rfl rfl rfl rfl)))
    (ss_cons (s_set (i := 2) sc_load_tree.nd (d_cel b_dnew))
    (ss_cons (s_set (i := 3) sc_load_tree.nd d_int)
    (ss_cons (s_set (i := 4) sc_load_tree.nd (d_str rfl))
    (ss_cons (s_set (i := 5) sc_load_tree.nd (d_fz (d_call (fn_lines_of T) (hr.mono (by decide)) rfl (takes_of rfl rfl rfl rfl) (a_cons (d_var 0) a_nil))))
    (ss_cons (s_for (passes_of rfl) rfl (i_range1 rfl T.b_range (d_callB call_len opn_len rfl T.b_len (by decide +kernel) (a_cons (d_var 5) a_nil))) (g_name (i := 6) sc_load_tree.nd) (ss_cons (s_setT (d_fz (d_call (fn_parts_of T) (hr.mono (by decide)) rfl (takes_of rfl rfl rfl rfl) (a_cons (d_op op_addA op2_add (d_var 6) d_int) (a_cons (d_ix (d_var 5) (d_var 6)) a_nil)))) (g_pair (i := 7) (j := 8) rfl (by decide) sc_load_tree.nd))
    (ss_cons (s_set (i := 9) sc_load_tree.nd (d_orT (d_fz (d_call (fn_read_file_line T) (hr.mono (by decide)) rfl (takes_of rfl rfl rfl rfl) (a_cons (d_ix (d_var 5) (d_var 6)) (a_cons (d_var 7) (a_cons (d_var 8) a_nil))))) (d_one (d_fz (d_call (fn_read_link_line T) (hr.mono (by decide)) rfl (takes_of rfl rfl rfl rfl) (a_cons (d_ix (d_var 5) (d_var 6)) (a_cons (d_var 7) (a_cons (d_var 8) a_nil))))))))
    (ss_cons (s_if (DW.dt (w_or (d_isNT (d_var 9)) (w_or1 (d_cmpT op_leS op2_leS (d_ix (d_var 9) d_int) (d_var 4) (nomark _))))) (ss_one s_dead) ss_nil)
    (ss_cons (s_if (DW.dt (w_or (d_cmpT (op_neG hu) op2_ne (d_ix (d_ix (d_var 9) d_int) (d_neg d_int)) (d_str rfl) (nomark _)) (w_or1 (d_cmpT (op_eqG hu) op2_eq (d_ix (d_ix (d_var 9) d_int) d_int) (d_str rfl) (nomark _))))) (ss_one (s_aug (i := 3) sc_load_tree.nd d_int ip_addA op2_add)) ss_nil)
    (ss_cons (s_if (d_cmpT op_gt op2_gt (d_var 3) (d_gi rfl T.c_ENTRY_LIMIT) (nomark _)) (ss_one s_dead) ss_nil)
    (ss_cons (s_set (i := 4) sc_load_tree.nd (d_ix (d_var 9) d_int))
    (ss_one (s_dput hu (d_var 2) (d_var 4) (d_ix (d_var 9) d_int))))))))))
    (ss_cons (s_fld T.f_0 (d_var 1) (d_var 2))
    (ss_one (s_retD (d_var 1)))))))))) (by rfl)
theorem sc_is_identifier : FnScope ["value", "char"] ["value"] (defScope s_is_identifier) := ⟨rfl, rfl, rfl, by decide +kernel, rfl, by decide +kernel, by decide +kernel⟩
theorem fn_is_identifier (T : Tx w K mg) : Fn PP w K mg base "is_identifier" m_is_identifier 1 := by
  obtain ⟨f, fd, F, hm, hb⟩ := T.d_is_identifier
  refine ⟨f, fd, _, fn_d (N := ["value", "char"]) (m := b_is_identifier) (k := 0) F sc_is_identifier (fun cdv A outer s H E hr => ?_), hm, F.kp, hb⟩
  have hu := hr.units
  exact DSs.eq (ss_cons (s_if (DW.dt (w_or (d_cmpT op_lt op2_lt (d_callB call_len opn_len rfl T.b_len (by decide +kernel) (a_cons (d_var 0) a_nil)) d_int (nomark _)) (w_or (d_cmpT op_gt op2_gt (d_callB call_len opn_len rfl T.b_len (by decide +kernel) (a_cons (d_var 0) a_nil)) (d_gi rfl T.c_IDENTIFIER_LIMIT) (nomark _)) (w_or1 (d_cmpT (op_niA hu) op2_ni (d_ix (d_var 0) d_int) (d_gs rfl T.c_LETTERS) (by with_unfolding_all rfl)))))) (ss_one (s_retD d_bl)) ss_nil)
    (ss_one (s_retD (d_callB (cr_all rfl) opn_all rfl T.b_all (by decide +kernel) (a_cons (d_fz (b_lc (own := [("char", 1)]) rfl sc_is_identifier.nd (i_str (d_var 0)) (blkOk_by (own := [("char", 1)]) (N := ["value", "char"]) (sc := defScope s_is_identifier) (by decide +kernel)) (fun _ _ _ _ _ => (g_name (i := 1) sc_is_identifier.nd)) (fun _ _ _ _ _ => ts_nil) (fun _ _ _ _ _ => (d_cmp (op_inA hu) op2_in (d_var 1) (d_op op_addA op2_add (d_gs rfl T.c_LETTERS) (d_str (l := [48, 49, 50, 51, 52, 53, 54, 55, 56, 57, 95]) (by decide +kernel))) (by with_unfolding_all rfl))))) a_nil))))) (by rfl)
theorem sc_setting_line : FnScope ["name", "text"] ["name", "text"] (defScope s_setting_line) := ⟨rfl, rfl, rfl, by decide +kernel, rfl, by decide +kernel, by decide +kernel⟩
theorem fn_setting_line (T : Tx w K mg) : Fn PP w K mg base "setting_line" m_setting_line 2 := by
  obtain ⟨f, fd, F, hm, hb⟩ := T.d_setting_line
  refine ⟨f, fd, _, fn_d (N := ["name", "text"]) (m := b_setting_line) (k := 1) F sc_setting_line (fun cdv A outer s H E hr => ?_), hm, F.kp, hb⟩
  have hu := hr.units
  exact DSs.eq (ss_one (s_retD (d_m1 PySem.F.slot_str_join PySem.F.type_str_join mt_join opm_join (d_str rfl) (d_fz (b_lst (a_cons (d_str rfl) (a_cons (d_var 0) (a_cons (d_fz (d_call (fn_format_string T) (hr.mono (by decide)) rfl (takes_of rfl rfl rfl rfl) (a_cons (d_var 1) a_nil))) a_nil)))))))) (by rfl)
theorem sc_load_settings : FnScope ["text", "settings", "last", "lines", "at", "kinds", "texts"] ["text"] (defScope s_load_settings) := ⟨rfl, rfl, rfl, by decide +kernel, rfl, by decide +kernel, by decide +kernel⟩
theorem fn_load_settings (T : Tx w K mg) : Fn PP w K mg base "load_settings" m_load_settings 6 := by
  obtain ⟨f, fd, F, hm, hb⟩ := T.d_load_settings
  refine ⟨f, fd, _, fn_d (N := ["text", "settings", "last", "lines", "at", "kinds", "texts"]) (m := b_load_settings) (k := 5) F sc_load_settings (fun cdv A outer s H E hr => ?_), hm, F.kp, hb⟩
  have hu := hr.units
  exact DSs.eq (ss_cons (s_set (i := 1) sc_load_settings.nd (d_cel b_dnew))
    (ss_cons (s_set (i := 2) sc_load_settings.nd (d_str rfl))
    (ss_cons (s_set (i := 3) sc_load_settings.nd (d_fz (d_call (fn_lines_of T) (hr.mono (by decide)) rfl (takes_of rfl rfl rfl rfl) (a_cons (d_var 0) a_nil))))
    (ss_cons (s_for (passes_of rfl) rfl (i_range1 rfl T.b_range (d_callB call_len opn_len rfl T.b_len (by decide +kernel) (a_cons (d_var 3) a_nil))) (g_name (i := 4) sc_load_settings.nd) (ss_cons (s_setT (d_fz (d_call (fn_parts_of T) (hr.mono (by decide)) rfl (takes_of rfl rfl rfl rfl) (a_cons (d_op op_addA op2_add (d_var 4) d_int) (a_cons (d_ix (d_var 3) (d_var 4)) a_nil)))) (g_pair (i := 5) (j := 6) rfl (by decide) sc_load_settings.nd))
    (ss_cons (s_if (DW.dt (w_or (d_cmpT (op_neG hu) op2_ne (d_var 5) (d_fz (b_lst (a_cons (d_str rfl) (a_cons (d_str rfl) (a_cons (d_str rfl) a_nil))))) (nomark _)) (w_or (d_cmpT (op_neG hu) op2_ne (d_ix (d_var 6) d_int) (d_str rfl) (nomark _)) (w_or1 (t_not (dt_tru (d_fz (d_call (fn_is_identifier T) (hr.mono (by decide)) rfl (takes_of rfl rfl rfl rfl) (a_cons (d_ix (d_var 6) d_int) a_nil))))))))) (ss_one s_dead) ss_nil)
    (ss_cons (s_if (DW.dt (w_or (t_not (dt_tru (d_fz (d_call (fn_is_content T) (hr.mono (by decide)) rfl (takes_of rfl rfl rfl rfl) (a_cons (d_ix (d_var 6) d_int) a_nil))))) (w_or (d_cmpT (op_neG hu) op2_ne (d_fz (d_call (fn_setting_line T) (hr.mono (by decide)) rfl (takes_of rfl rfl rfl rfl) (a_cons (d_ix (d_var 6) d_int) (a_cons (d_ix (d_var 6) d_int) a_nil)))) (d_ix (d_var 3) (d_var 4)) (nomark _)) (w_or1 (d_cmpT op_leS op2_leS (d_ix (d_var 6) d_int) (d_var 2) (nomark _)))))) (ss_one s_dead) ss_nil)
    (ss_cons (s_set (i := 2) sc_load_settings.nd (d_ix (d_var 6) d_int))
    (ss_one (s_dput hu (d_var 1) (d_var 2) (d_ix (d_var 6) d_int))))))))
    (ss_one (s_retD (d_var 1))))))) (by rfl)
theorem sc__law_cell : FnScope ["_law_script", "_law_k"] ["_law_script", "_law_k"] (defScope s__law_cell) := ⟨rfl, rfl, rfl, by decide +kernel, rfl, by decide +kernel, by decide +kernel⟩
theorem fn__law_cell (T : Tx w K mg) : Fn PP w K mg base "_law_cell" m__law_cell 1 := by
  obtain ⟨f, fd, F, hm, hb⟩ := T.d__law_cell
  refine ⟨f, fd, _, fn_d (N := ["_law_script", "_law_k"]) (m := b__law_cell) (k := 0) F sc__law_cell (fun cdv A outer s H E hr => ?_), hm, F.kp, hb⟩
  have hu := hr.units
  exact DSs.eq (ss_cons (s_if (d_cmpT op_lt op2_lt (d_var 1) (d_callB call_len opn_len rfl T.b_len (by decide +kernel) (a_cons (d_var 0) a_nil)) (nomark _)) (ss_one (s_retD (d_callTy call_int1 opn_int rfl T.b_int (by decide +kernel) (a_cons (d_ix (d_var 0) (d_var 1)) a_nil)))) ss_nil)
    (ss_one (s_retD d_int))) (by rfl)
theorem sc__law_text : FnScope ["_law_numbers", "_law_chars", "_law_number"] ["_law_numbers"] (defScope s__law_text) := ⟨rfl, rfl, rfl, by decide +kernel, rfl, by decide +kernel, by decide +kernel⟩
theorem fn__law_text (T : Tx w K mg) : Fn PP w K mg base "_law_text" m__law_text 1 := by
  obtain ⟨f, fd, F, hm, hb⟩ := T.d__law_text
  refine ⟨f, fd, _, fn_d (N := ["_law_numbers", "_law_chars", "_law_number"]) (m := b__law_text) (k := 0) F sc__law_text (fun cdv A outer s H E hr => ?_), hm, F.kp, hb⟩
  have hu := hr.units
  exact DSs.eq (ss_cons (s_set (i := 1) sc__law_text.nd (d_str (l := [10, 32, 33, 34, 35, 36, 38, 39, 40, 41, 42, 43, 44, 45, 46, 47, 48, 49, 50, 51, 52, 53, 54, 55, 56, 57, 58, 59, 60, 61, 62, 63, 64, 65, 66, 67, 68, 69, 70, 71, 72, 73, 74, 75, 76, 77, 78, 79, 80, 81, 82, 83, 84, 85, 86, 87, 88, 89, 90, 91, 92, 93, 94, 95, 96]) (by decide +kernel)))
    (ss_cons (s_set (i := 1) sc__law_text.nd (d_op op_addA op2_add (d_var 1) (d_str (l := [97, 98, 99, 100, 101, 102, 103, 104, 105, 106, 107, 108, 109, 110, 111, 112, 113, 114, 115, 116, 117, 118, 119, 120, 121, 122, 123, 124, 125, 126]) (by decide +kernel))))
    (ss_one (s_retD (d_m1 PySem.F.slot_str_join PySem.F.type_str_join mt_join opm_join (d_str rfl) (d_fz (b_lc (own := [("_law_number", 2)]) rfl sc__law_text.nd (i_list (d_var 0)) (blkOk_by (own := [("_law_number", 2)]) (N := ["_law_numbers", "_law_chars", "_law_number"]) (sc := defScope s__law_text) (by decide +kernel)) (fun _ _ _ _ _ => (g_name (i := 2) sc__law_text.nd)) (fun _ _ _ _ _ => ts_nil) (fun _ _ _ _ _ => (d_ix (d_var 1) (d_op op_mod op2_mod (d_callTy call_int1 opn_int rfl T.b_int (by decide +kernel) (a_cons (d_var 2) a_nil)) d_int)))))))))) (by rfl)
theorem sc__law_draws : FnScope ["_law_cell_here", "_law_many", "_law_limit", "_law_draws_here", "_law_rest", "_law_k", "_law_mixed"] ["_law_cell_here", "_law_many", "_law_limit"] (defScope s__law_draws) := ⟨rfl, rfl, rfl, by decide +kernel, rfl, by decide +kernel, by decide +kernel⟩
theorem fn__law_draws (T : Tx w K mg) : Fn PP w K mg base "_law_draws" m__law_draws 1 := by
  obtain ⟨f, fd, F, hm, hb⟩ := T.d__law_draws
  refine ⟨f, fd, _, fn_d (N := ["_law_cell_here", "_law_many", "_law_limit", "_law_draws_here", "_law_rest", "_law_k", "_law_mixed"]) (m := b__law_draws) (k := 0) F sc__law_draws (fun cdv A outer s H E hr => ?_), hm, F.kp, hb⟩
  have hu := hr.units
  exact DSs.eq (ss_cons (s_setB (i := 3) sc__law_draws.nd (b_lst a_nil))
    (ss_cons (s_set (i := 4) sc__law_draws.nd (d_callB call_abs opn_abs rfl T.b_abs (by decide +kernel) (a_cons (d_var 0) a_nil)))
    (ss_cons (s_for (passes_of rfl) rfl (i_range1 rfl T.b_range (d_var 1)) (g_name (i := 5) sc__law_draws.nd) (ss_one (s_if (DW.dt (w_and (d_cmpT op_ge op2_ge (d_callB call_abs opn_abs rfl T.b_abs (by decide +kernel) (a_cons (d_var 0) a_nil)) (d_op op_pow op2_pow d_int d_int) (nomark _)) (w_and1 (d_cmpT op_gt op2_gt (d_var 4) d_int (nomark _))))) (ss_cons (s_expr (d_hm1 PySem.F.slot_list_append PySem.F.type_list_append mt_append ow_append (h_var 3) (d_op op_mod op2_mod (d_callTy call_int1 opn_int rfl T.b_int (by decide +kernel) (a_cons (d_var 4) a_nil)) (d_var 2))))
    (ss_one (s_set (i := 4) sc__law_draws.nd (d_op op_fdiv op2_div (d_var 4) (d_var 2))))) (ss_cons (s_set (i := 6) sc__law_draws.nd (d_op op_mod op2_mod (d_callTy call_int1 opn_int rfl T.b_int (by decide +kernel) (a_cons (d_op op_addA op2_add (d_op op_addA op2_add (d_op op_mul op2_mul (d_callB call_abs opn_abs rfl T.b_abs (by decide +kernel) (a_cons (d_var 0) a_nil)) d_int) (d_op op_mul op2_mul (d_var 5) d_int)) d_int) a_nil)) d_int))
    (ss_cons (s_set (i := 6) sc__law_draws.nd (d_op op_mod op2_mod (d_callTy call_int1 opn_int rfl T.b_int (by decide +kernel) (a_cons (d_op op_addA op2_add (d_op op_addA op2_add (d_op op_mul op2_mul (d_var 6) d_int) (d_op op_fdiv op2_div (d_var 6) d_int)) (d_op op_mul op2_mul (d_var 5) d_int)) a_nil)) d_int))
    (ss_one (s_expr (d_hm1 PySem.F.slot_list_append PySem.F.type_list_append mt_append ow_append (h_var 3) (d_op op_mod op2_mod (d_op op_fdiv op2_div (d_var 6) d_int) (d_var 2))))))))))
    (ss_one (s_retD (d_varF 3)))))) (by rfl)
theorem sc__law_content : FnScope ["_law_cell_here"] ["_law_cell_here"] (defScope s__law_content) := ⟨rfl, rfl, rfl, by decide +kernel, rfl, by decide +kernel, by decide +kernel⟩
theorem fn__law_content (T : Tx w K mg) : Fn PP w K mg base "_law_content" m__law_content 2 := by
  obtain ⟨f, fd, F, hm, hb⟩ := T.d__law_content
  refine ⟨f, fd, _, fn_d (N := ["_law_cell_here"]) (m := b__law_content) (k := 1) F sc__law_content (fun cdv A outer s H E hr => ?_), hm, F.kp, hb⟩
  have hu := hr.units
  exact DSs.eq (ss_cons (s_if (d_cmpT (op_eqG hu) op2_eq (d_op op_mod op2_mod (d_var 0) d_int) d_int (nomark _)) (ss_one (s_retD (d_fz (d_call (fn__law_text T) (hr.mono (by decide)) rfl (takes_of rfl rfl rfl rfl) (a_cons (d_fz (d_call (fn__law_draws T) (hr.mono (by decide)) rfl (takes_of rfl rfl rfl rfl) (a_cons (d_var 0) (a_cons d_int (a_cons d_int a_nil))))) a_nil))))) ss_nil)
    (ss_one (s_retD (d_fz (d_call (fn__law_text T) (hr.mono (by decide)) rfl (takes_of rfl rfl rfl rfl) (a_cons (d_fz (d_call (fn__law_draws T) (hr.mono (by decide)) rfl (takes_of rfl rfl rfl rfl) (a_cons (d_var 0) (a_cons (d_op op_mod op2_mod (d_var 0) d_int) (a_cons d_int a_nil))))) a_nil)))))) (by rfl)
theorem sc_Tree_is_personal : FnScope ["self", "path"] ["self", "path"] (defScope s_Tree_is_personal) := ⟨rfl, rfl, rfl, by decide +kernel, rfl, by decide +kernel, by decide +kernel⟩
theorem meth_Tree_is_personal (T : Tx w K mg) : MethF PP w K mg base "Tree" "is_personal" m_Tree_is_personal 2 := by
  obtain ⟨C, f, fd, hm, hc, hme, F, hb⟩ := T.d_Tree_is_personal
  refine ⟨C, f, fd, _, hm, hc, hme, fn_d (N := ["self", "path"]) (m := b_Tree_is_personal) (k := 1) F sc_Tree_is_personal (fun cdv A outer s H E hr => ?_), hb⟩
  have hu := hr.units
  exact DSs.eq (ss_one (s_retD (d_or (d_cmp (op_eqG hu) op2_eq (d_fz (d_meth (mt_Tree_kind T) (hr.mono (by decide)) (takes_of rfl rfl rfl rfl) (d_var 0) (a_cons (d_var 1) a_nil))) (d_str rfl) (nomark _)) (d_one (d_cmp (op_eqG hu) op2_eq (d_fz (d_meth (mt_Tree_writer T) (hr.mono (by decide)) (takes_of rfl rfl rfl rfl) (d_var 0) (a_cons (d_var 1) a_nil))) (d_str rfl) (nomark _)))))) (by rfl)
theorem mt_Tree_is_personal (T : Tx w K mg) : ∀ c f, ([(57, m_Tree_is_personal)] : List (Nat × FunM)).lookup c = some f → ("is_personal" : Str) ∉ clay c ∧ MethF PP w K mg base (cnm c) "is_personal" f 2 := tb_cons ⟨by decide +kernel, by rw [cn_Tree]; exact meth_Tree_is_personal T⟩ tb_nil
theorem sc_Tree_check_room : FnScope ["self", "path", "other"] ["self", "path"] (defScope s_Tree_check_room) := ⟨rfl, rfl, rfl, by decide +kernel, rfl, by decide +kernel, by decide +kernel⟩
theorem meth_Tree_check_room (T : Tx w K mg) : MethF PP w K mg base "Tree" "check_room" m_Tree_check_room 3 := by
  obtain ⟨C, f, fd, hm, hc, hme, F, hb⟩ := T.d_Tree_check_room
  refine ⟨C, f, fd, _, hm, hc, hme, fn_d (N := ["self", "path", "other"]) (m := b_Tree_check_room) (k := 2) F sc_Tree_check_room (fun cdv A outer s H E hr => ?_), hb⟩
  have hu := hr.units
  exact DSs.eq (ss_one (s_if (DW.dt (w_and (t_not (dt_tru (d_fz (d_meth (mt_Tree_is_personal T) (hr.mono (by decide)) (takes_of rfl rfl rfl rfl) (d_var 0) (a_cons (d_var 1) a_nil))))) (w_and1 (d_cmpT op_ge op2_ge (d_callB call_len opn_len rfl T.b_len (by decide +kernel) (a_cons (d_fz (b_lock (sel := (selO (mFld [(57, 0)] (mV 0)))) (b_lc (own := [("other", 2)]) rfl sc_Tree_check_room.nd (i_keys (d_fld T.f_0 (d_var 0))) (blkOk_by (own := [("other", 2)]) (N := ["self", "path", "other"]) (sc := defScope s_Tree_check_room) (by decide +kernel)) (fun _ _ _ _ _ => (g_name (i := 2) sc_Tree_check_room.nd)) (fun _ _ _ _ _ => (ts_one (dt_tru (d_fz (d_meth (mt_Tree_is_personal T) (hr.mono (by decide)) takes0 (d_var 0) (a_cons (d_var 2) a_nil)))))) (fun _ _ _ _ _ => d_int)))) a_nil)) (d_gi rfl T.c_ENTRY_LIMIT) (nomark _))))) (ss_one (s_raise (k := 0) (exc_TreeFull T) rfl rfl (takes_of rfl rfl rfl rfl) (hr.mono (by decide)) rfl (a_cons (d_var 1) a_nil))) ss_nil)) (by rfl)
theorem mt_Tree_check_room (T : Tx w K mg) : ∀ c f, ([(57, m_Tree_check_room)] : List (Nat × FunM)).lookup c = some f → ("check_room" : Str) ∉ clay c ∧ MethF PP w K mg base (cnm c) "check_room" f 3 := tb_cons ⟨by decide +kernel, by rw [cn_Tree]; exact meth_Tree_check_room T⟩ tb_nil
theorem sc_Tree_write : FnScope ["self", "path", "text", "by"] ["self", "path", "text", "by"] (defScope s_Tree_write) := ⟨rfl, rfl, rfl, by decide +kernel, rfl, by decide +kernel, by decide +kernel⟩
theorem meth_Tree_write (T : Tx w K mg) : MethF PP w K mg base "Tree" "write" m_Tree_write 4 := by
  obtain ⟨C, f, fd, hm, hc, hme, F, hb⟩ := T.d_Tree_write
  refine ⟨C, f, fd, _, hm, hc, hme, fn_d (N := ["self", "path", "text", "by"]) (m := b_Tree_write) (k := 3) F sc_Tree_write (fun cdv A outer s H E hr => ?_), hb⟩
  have hu := hr.units
  exact DSs.eq (ss_cons (s_if (t_not (dt_tru (d_fz (d_call (fn_is_path T) (hr.mono (by decide)) rfl (takes_of rfl rfl rfl rfl) (a_cons (d_var 1) a_nil))))) (ss_one (s_raise (k := 0) (exc_InvalidPath T) rfl rfl (takes_of rfl rfl rfl rfl) (hr.mono (by decide)) rfl (a_cons (d_var 1) a_nil))) ss_nil)
    (ss_cons (s_if (t_not (dt_tru (d_fz (d_call (fn_is_content T) (hr.mono (by decide)) rfl (takes_of rfl rfl rfl rfl) (a_cons (d_var 2) a_nil))))) (ss_one (s_raise (k := 0) (exc_InvalidContent T) rfl rfl (takes_of rfl rfl rfl rfl) (hr.mono (by decide)) rfl (a_cons (d_var 1) a_nil))) ss_nil)
    (ss_cons (s_if (d_cmpT (op_eqG hu) op2_eq (d_var 3) (d_str rfl) (nomark _)) (ss_one (s_expr (d_fz (d_meth (mt_Tree_check_room T) (hr.mono (by decide)) (takes_of rfl rfl rfl rfl) (d_var 0) (a_cons (d_var 1) a_nil))))) ss_nil)
    (ss_one (s_dput hu (d_fld T.f_0 (d_var 0)) (d_var 1) (d_tup (a_cons (d_str rfl) (a_cons (d_var 2) (a_cons (d_var 3) a_nil))))))))) (by rfl)
theorem mt_Tree_write (T : Tx w K mg) : ∀ c f, ([(57, m_Tree_write)] : List (Nat × FunM)).lookup c = some f → ("write" : Str) ∉ clay c ∧ MethF PP w K mg base (cnm c) "write" f 4 := tb_cons ⟨by decide +kernel, by rw [cn_Tree]; exact meth_Tree_write T⟩ tb_nil
theorem sc_Tree_link : FnScope ["self", "path", "target"] ["self", "path", "target"] (defScope s_Tree_link) := ⟨rfl, rfl, rfl, by decide +kernel, rfl, by decide +kernel, by decide +kernel⟩
theorem meth_Tree_link (T : Tx w K mg) : MethF PP w K mg base "Tree" "link" m_Tree_link 4 := by
  obtain ⟨C, f, fd, hm, hc, hme, F, hb⟩ := T.d_Tree_link
  refine ⟨C, f, fd, _, hm, hc, hme, fn_d (N := ["self", "path", "target"]) (m := b_Tree_link) (k := 3) F sc_Tree_link (fun cdv A outer s H E hr => ?_), hb⟩
  have hu := hr.units
  exact DSs.eq (ss_cons (s_if (t_not (dt_tru (d_fz (d_call (fn_is_path T) (hr.mono (by decide)) rfl (takes_of rfl rfl rfl rfl) (a_cons (d_var 1) a_nil))))) (ss_one (s_raise (k := 0) (exc_InvalidPath T) rfl rfl (takes_of rfl rfl rfl rfl) (hr.mono (by decide)) rfl (a_cons (d_var 1) a_nil))) ss_nil)
    (ss_cons (s_if (t_not (dt_tru (d_fz (d_call (fn_is_path T) (hr.mono (by decide)) rfl (takes_of rfl rfl rfl rfl) (a_cons (d_var 2) a_nil))))) (ss_one (s_raise (k := 0) (exc_InvalidPath T) rfl rfl (takes_of rfl rfl rfl rfl) (hr.mono (by decide)) rfl (a_cons (d_var 2) a_nil))) ss_nil)
    (ss_cons (s_expr (d_fz (d_meth (mt_Tree_check_room T) (hr.mono (by decide)) (takes_of rfl rfl rfl rfl) (d_var 0) (a_cons (d_var 1) a_nil))))
    (ss_one (s_dput hu (d_fld T.f_0 (d_var 0)) (d_var 1) (d_tup (a_cons (d_str rfl) (a_cons (d_var 2) a_nil)))))))) (by rfl)
theorem mt_Tree_link (T : Tx w K mg) : ∀ c f, ([(57, m_Tree_link)] : List (Nat × FunM)).lookup c = some f → ("link" : Str) ∉ clay c ∧ MethF PP w K mg base (cnm c) "link" f 4 := tb_cons ⟨by decide +kernel, by rw [cn_Tree]; exact meth_Tree_link T⟩ tb_nil
theorem sc_save_settings : FnScope ["settings", "name"] ["settings"] (defScope s_save_settings) := ⟨rfl, rfl, rfl, by decide +kernel, rfl, by decide +kernel, by decide +kernel⟩
theorem fn_save_settings (T : Tx w K mg) : Fn PP w K mg base "save_settings" m_save_settings 3 := by
  obtain ⟨f, fd, F, hm, hb⟩ := T.d_save_settings
  refine ⟨f, fd, _, fn_d (N := ["settings", "name"]) (m := b_save_settings) (k := 2) F sc_save_settings (fun cdv A outer s H E hr => ?_), hm, F.kp, hb⟩
  have hu := hr.units
  exact DSs.eq (ss_one (s_retD (d_m1 PySem.F.slot_str_join PySem.F.type_str_join mt_join opm_join (d_str rfl) (d_fz (b_lc (own := [("name", 1)]) rfl sc_save_settings.nd (i_list (d_fz (b_callB (cr_srtK rfl) opn_sortedK rfl T.b_sorted (by decide +kernel) (a_cons (d_var 0) a_nil)))) (blkOk_by (own := [("name", 1)]) (N := ["settings", "name"]) (sc := defScope s_save_settings) (by decide +kernel)) (fun _ _ _ _ _ => (g_name (i := 1) sc_save_settings.nd)) (fun _ _ _ _ _ => ts_nil) (fun _ _ _ _ _ => (d_fz (d_call (fn_setting_line T) (hr.mono (by decide)) rfl takes0 (a_cons (d_var 1) (a_cons (d_dget hu (d_var 0) (d_var 1)) a_nil)))))))))) (by rfl)
theorem sc__law_string : FnScope ["_law_text_here"] ["_law_text_here"] (defScope s__law_string) := ⟨rfl, rfl, rfl, by decide +kernel, rfl, by decide +kernel, by decide +kernel⟩
theorem fn__law_string (T : Tx w K mg) : Fn PP w K mg base "_law_string" m__law_string 1 := by
  obtain ⟨f, fd, F, hm, hb⟩ := T.d__law_string
  refine ⟨f, fd, _, fn_dT (N := ["_law_text_here"]) (m := b__law_string) (k := 0) F sc__law_string (by decide +kernel) (by decide) (fun cdv A outer s H E hr => ?_), hm, F.kp, hb⟩
  have hu := hr.units
  exact DSsT.eq (sst_one (st_retD (d_opT op_addA op2_add (d_opT op_addA op2_add (DET.of (d_str rfl)) (d_replT (ly := [10]) (lz := [92, 110]) (d_replT (ly := [34]) (lz := [92, 34]) (d_replC (ly := [92]) (lz := [92, 92]) (d_var 0))))) (DET.of (d_str rfl))))) (by rfl)
theorem sc_law : FnScope ["_law_script", "_law_first", "_law_tree", "_law_known", "_law_k", "_law_cell_here", "_law_path", "_law_target", "_law_by", "_law_text_here", "_law_settings", "_law_lines", "_law_name", "_law_due", "_law_saved", "_law_back", "_law_found"] ["_law_script"] (defScope s_law) := ⟨rfl, rfl, rfl, by decide +kernel, rfl, by decide +kernel, by decide +kernel⟩
end
theorem tx_mk {w : World} {K : PySem.W.Frag} {h : Heap} {mg : Str → Option Value} {C_Tree C_InvalidRecipe A_ESCAPES A_WRITERS f_0 f_1 f_2 f_3 f_4 f_5 f_6 f_7 f_8 f_9 f_10 f_11 f_12 f_13 f_14 f_15 f_16 f_17 f_18 f_19 f_20 f_21 f_22 f_23 f_24 f_25 f_26 f_27 f_28 f_29 f_30 f_31 f_32 f_33 f_34 f_35 f_36 f_37 f_InvalidRecipe cda_InvalidRecipe cc_InvalidRecipe N_InvalidRecipe C_TreeFull f_TreeFull cda_TreeFull cc_TreeFull N_TreeFull C_InvalidPath f_InvalidPath cda_InvalidPath cc_InvalidPath N_InvalidPath C_InvalidContent f_InvalidContent cda_InvalidContent cc_InvalidContent N_InvalidContent : Addr} {t_CONTENT_LIMIT t_ENTRY_LIMIT t_IDENTIFIER_LIMIT t_LETTERS t_NAME_CHARACTERS t_NAME_LIMIT t_PATH_LIMIT t_SIGNS ktt_WRITERS_0 ktt_WRITERS_1 tf_InvalidRecipe tf_TreeFull tf_InvalidPath tf_InvalidContent : Tok} {ktd_WRITERS od_0 an_0 od_1 an_1 od_2 an_2 od_3 an_3 od_4 an_4 od_5 an_5 od_6 an_6 od_7 an_7 od_8 an_8 od_9 an_9 od_10 an_10 od_11 an_11 od_12 an_12 od_13 an_13 od_14 an_14 od_15 an_15 od_16 an_16 od_17 an_17 od_18 an_18 od_19 an_19 od_20 an_20 od_21 an_21 od_22 an_22 od_23 an_23 od_24 an_24 od_25 an_25 od_26 an_26 od_27 an_27 od_28 an_28 od_29 an_29 od_30 an_30 od_31 an_31 od_32 an_32 od_33 an_33 od_34 an_34 od_35 an_35 od_36 an_36 od_37 an_37 dd_InvalidRecipe odx_InvalidRecipe anx_InvalidRecipe cdd_InvalidRecipe cld_InvalidRecipe dd_TreeFull odx_TreeFull anx_TreeFull cdd_TreeFull cld_TreeFull dd_InvalidPath odx_InvalidPath anx_InvalidPath cdd_InvalidPath cld_InvalidPath dd_InvalidContent odx_InvalidContent anx_InvalidContent cdd_InvalidContent cld_InvalidContent : Option Addr} {ktn_WRITERS : Nat} {kts_WRITERS sl_0 sl_1 sl_2 sl_3 sl_4 sl_5 sl_6 sl_7 sl_8 sl_9 sl_10 sl_11 sl_12 sl_13 sl_14 sl_15 sl_16 sl_17 sl_18 sl_19 sl_20 sl_21 sl_22 sl_23 sl_24 sl_25 sl_26 sl_27 sl_28 sl_29 sl_30 sl_31 sl_32 sl_33 sl_34 sl_35 sl_36 sl_37 slx_InvalidRecipe ccs_InvalidRecipe csl_InvalidRecipe slx_TreeFull ccs_TreeFull csl_TreeFull slx_InvalidPath ccs_InvalidPath csl_InvalidPath slx_InvalidContent ccs_InvalidContent csl_InvalidContent : Array (Option Value)} {oc_0 kV_0 dc_0 pm_0 cd_0 ct_0 oc_1 kV_1 dc_1 pm_1 cd_1 ct_1 oc_2 kV_2 dc_2 pm_2 cd_2 ct_2 oc_3 kV_3 dc_3 pm_3 cd_3 ct_3 oc_4 kV_4 dc_4 pm_4 cd_4 ct_4 oc_5 kV_5 dc_5 pm_5 cd_5 ct_5 oc_6 kV_6 dc_6 pm_6 cd_6 ct_6 oc_7 kV_7 dc_7 pm_7 cd_7 ct_7 oc_8 kV_8 dc_8 pm_8 cd_8 ct_8 oc_9 kV_9 dc_9 pm_9 cd_9 ct_9 oc_10 kV_10 dc_10 pm_10 cd_10 ct_10 oc_11 kV_11 dc_11 pm_11 cd_11 ct_11 oc_12 kV_12 dc_12 pm_12 cd_12 ct_12 oc_13 kV_13 dc_13 pm_13 cd_13 ct_13 oc_14 kV_14 dc_14 pm_14 cd_14 ct_14 oc_15 kV_15 dc_15 pm_15 cd_15 ct_15 oc_16 kV_16 dc_16 pm_16 cd_16 ct_16 oc_17 kV_17 dc_17 pm_17 cd_17 ct_17 oc_18 kV_18 dc_18 pm_18 cd_18 ct_18 oc_19 kV_19 dc_19 pm_19 cd_19 ct_19 oc_20 kV_20 dc_20 pm_20 cd_20 ct_20 oc_21 kV_21 dc_21 pm_21 cd_21 ct_21 oc_22 kV_22 dc_22 pm_22 cd_22 ct_22 oc_23 kV_23 dc_23 pm_23 cd_23 ct_23 oc_24 kV_24 dc_24 pm_24 cd_24 ct_24 oc_25 kV_25 dc_25 pm_25 cd_25 ct_25 oc_26 kV_26 dc_26 pm_26 cd_26 ct_26 oc_27 kV_27 dc_27 pm_27 cd_27 ct_27 oc_28 kV_28 dc_28 pm_28 cd_28 ct_28 oc_29 kV_29 dc_29 pm_29 cd_29 ct_29 oc_30 kV_30 dc_30 pm_30 cd_30 ct_30 oc_31 kV_31 dc_31 pm_31 cd_31 ct_31 oc_32 kV_32 dc_32 pm_32 cd_32 ct_32 oc_33 kV_33 dc_33 pm_33 cd_33 ct_33 oc_34 kV_34 dc_34 pm_34 cd_34 ct_34 oc_35 kV_35 dc_35 pm_35 cd_35 ct_35 oc_36 kV_36 dc_36 pm_36 cd_36 ct_36 oc_37 kV_37 dc_37 pm_37 cd_37 ct_37 ocx_InvalidRecipe kVx_InvalidRecipe dcx_InvalidRecipe pmx_InvalidRecipe ctx_InvalidRecipe ccl_InvalidRecipe cl_InvalidRecipe ocx_TreeFull kVx_TreeFull dcx_TreeFull pmx_TreeFull ctx_TreeFull ccl_TreeFull cl_TreeFull ocx_InvalidPath kVx_InvalidPath dcx_InvalidPath pmx_InvalidPath ctx_InvalidPath ccl_InvalidPath cl_InvalidPath ocx_InvalidContent kVx_InvalidContent dcx_InvalidContent pmx_InvalidContent ctx_InvalidContent ccl_InvalidContent cl_InvalidContent : Value} {nm_InvalidRecipe q_InvalidRecipe file_InvalidRecipe nm_TreeFull q_TreeFull file_TreeFull nm_InvalidPath q_InvalidPath file_InvalidPath nm_InvalidContent q_InvalidContent file_InvalidContent : Str} {bs_InvalidRecipe bm_InvalidRecipe sub_InvalidRecipe bs_TreeFull bm_TreeFull sub_TreeFull bs_InvalidPath bm_InvalidPath sub_InvalidPath bs_InvalidContent bm_InvalidContent sub_InvalidContent : List Value} {sn_InvalidRecipe sn_TreeFull sn_InvalidPath sn_InvalidContent : List Str} {ab_InvalidRecipe ab_TreeFull ab_InvalidPath ab_InvalidContent : Bool} {col_InvalidRecipe col_TreeFull col_InvalidPath col_InvalidContent : Option Bool} {m0_InvalidRecipe m1_InvalidRecipe m2_InvalidRecipe m3_InvalidRecipe m5_InvalidRecipe m0_TreeFull m1_TreeFull m2_TreeFull m3_TreeFull m5_TreeFull m0_InvalidPath m1_InvalidPath m2_InvalidPath m3_InvalidPath m5_InvalidPath m0_InvalidContent m1_InvalidContent m2_InvalidContent m3_InvalidContent m5_InvalidContent : Option Value} {vs_InvalidRecipe vs_TreeFull vs_InvalidPath vs_InvalidContent : Array Value} {cdx_InvalidRecipe cdx_TreeFull cdx_InvalidPath cdx_InvalidContent : ClassData}
    (X : K.In h) (G : h.Ns mainGlobals mg)
    (g_Tree : PySem.W.nsIn K mainGlobals "Tree" = some (some (.ref C_Tree)))
    (pg_Tree : PySem.W.plainGet K C_Tree Str.empty = true)
    (hd_Tree : PySem.W.hasDictIn K C_Tree = true)
    (po_Tree : PySem.W.plainOver K C_Tree = true)
    (sa_Tree : PySem.W.findIn K (.ref C_Tree) "__setattr__" = some (some (.builtin "object.__setattr__")))
    (nf_Tree_entries : PySem.W.findIn K (.ref C_Tree) "entries" = some none)
    (g_InvalidRecipe : PySem.W.nsIn K mainGlobals "InvalidRecipe" = some (some (.ref C_InvalidRecipe)))
    (sb_InvalidRecipe : PySem.W.subIn K (.ref C_InvalidRecipe) (.type "BaseException") = some true)
    (hd_InvalidRecipe : PySem.W.hasDictIn K C_InvalidRecipe = true)
    (ty_InvalidRecipe : PySem.W.typeIn K (.ref C_InvalidRecipe) = some (.type "type"))
    (su_InvalidRecipe_InvalidRecipe : PySem.W.subIn K (.ref C_InvalidRecipe) (.ref C_InvalidRecipe) = some true)
    (ca_Tree : PySem.W.findIn K (.ref C_Tree) "__class__" = some (some (.builtin "object.__class__")))
    (sp_class : PySem.W.specialIn K (.builtin "object.__class__") "__get__" = some (some (.builtin "getset_descriptor.__get__")))
    (ta_class : PySem.W.takesIn K (.builtin "object.__class__") = some true)
    (mo_Tree : PySem.W.mroIn K C_Tree (.type "object") = some true)
    (me_Tree : PySem.W.kitOne K (.ref C_Tree) (.ref C_Tree) = some true)
    (z_abs : PySem.W.nsIn K mainGlobals "abs" = some none)
    (z_all : PySem.W.nsIn K mainGlobals "all" = some none)
    (z_dict : PySem.W.nsIn K mainGlobals "dict" = some none)
    (z_int : PySem.W.nsIn K mainGlobals "int" = some none)
    (z_isinstance : PySem.W.nsIn K mainGlobals "isinstance" = some none)
    (z_len : PySem.W.nsIn K mainGlobals "len" = some none)
    (z_ord : PySem.W.nsIn K mainGlobals "ord" = some none)
    (z_range : PySem.W.nsIn K mainGlobals "range" = some none)
    (z_sorted : PySem.W.nsIn K mainGlobals "sorted" = some none)
    (z_str : PySem.W.nsIn K mainGlobals "str" = some none)
    (v_CONTENT_LIMIT : PySem.W.nsIn K mainGlobals "CONTENT_LIMIT" = some (some (.int 400 t_CONTENT_LIMIT)))
    (v_ENTRY_LIMIT : PySem.W.nsIn K mainGlobals "ENTRY_LIMIT" = some (some (.int 60 t_ENTRY_LIMIT)))
    (v_IDENTIFIER_LIMIT : PySem.W.nsIn K mainGlobals "IDENTIFIER_LIMIT" = some (some (.int 12 t_IDENTIFIER_LIMIT)))
    (v_LETTERS : PySem.W.nsIn K mainGlobals "LETTERS" = some (some (.str (Str.ofString "abcdefghijklmnopqrstuvwxyz") t_LETTERS)))
    (v_NAME_CHARACTERS : PySem.W.nsIn K mainGlobals "NAME_CHARACTERS" = some (some (.str (Str.ofString "abcdefghijklmnopqrstuvwxyz0123456789_.") t_NAME_CHARACTERS)))
    (v_NAME_LIMIT : PySem.W.nsIn K mainGlobals "NAME_LIMIT" = some (some (.int 12 t_NAME_LIMIT)))
    (v_PATH_LIMIT : PySem.W.nsIn K mainGlobals "PATH_LIMIT" = some (some (.int 4 t_PATH_LIMIT)))
    (v_SIGNS : PySem.W.nsIn K mainGlobals "SIGNS" = some (some (.str (Str.ofString "(),+") t_SIGNS)))
    (v_ESCAPES : PySem.W.nsIn K mainGlobals "ESCAPES" = some (some (.ref A_ESCAPES)))
    (kt_ESCAPES : PyProof.Rows.KTD.tabLook PyProof.Rows.KTD.flatLooks (fun b => K.lookup b) A_ESCAPES [(sT [110], PyData.str (sT [10])), (sT [34], PyData.str (sT [34])), (sT [92], PyData.str (sT [92]))] = true)
    (kh_ESCAPES : PyProof.Rows.KTD.hashesOf (fun b => K.lookup b) A_ESCAPES = ([(sT [110], PyData.str (sT [10])), (sT [34], PyData.str (sT [34])), (sT [92], PyData.str (sT [92]))] : List (Str × PySem.PyData)).map fun p => (PySem.strKind PP w).hash p.1)
    (v_WRITERS : PySem.W.nsIn K mainGlobals "WRITERS" = some (some (.ref A_WRITERS)))
    (kl_WRITERS : K.lookup A_WRITERS = some ⟨.type "tuple", ktd_WRITERS, .seq #[Value.str (Str.ofString "person") ktt_WRITERS_0, Value.str (Str.ofString "build") ktt_WRITERS_1] ktn_WRITERS, kts_WRITERS⟩)
    (a_0 : PySem.W.findIn K (.ref C_Tree) "__init__" = some (some (.ref f_0)))
    (i_0 : PySem.W.isFn K (.ref f_0) = true)
    (mk_Tree : PySem.W.makesIn K C_Tree = true)
    (kp_Tree : PySem.W.keepIn K (.ref C_Tree) = true)
    (l_0 : K.lookup f_0 = some ⟨oc_0, od_0, .func (PySem.W.fnOf "__init__" "Tree.__init__" (defArgs s_Tree___init__) (defBody s_Tree___init__) (defScope s_Tree___init__) .none kV_0 dc_0 pm_0 an_0 cd_0 ct_0), sl_0⟩)
    (c_0 : PySem.W.codeIn K cd_0 "Tree.__init__" = true)
    (k_0 : PySem.W.keepIn K (.ref f_0) = true)
    (a_1 : PySem.W.findIn K (.ref C_Tree) "paths" = some (some (.ref f_1)))
    (i_1 : PySem.W.isFn K (.ref f_1) = true)
    (l_1 : K.lookup f_1 = some ⟨oc_1, od_1, .func (PySem.W.fnOf "paths" "Tree.paths" (defArgs s_Tree_paths) (defBody s_Tree_paths) (defScope s_Tree_paths) .none kV_1 dc_1 pm_1 an_1 cd_1 ct_1), sl_1⟩)
    (c_1 : PySem.W.codeIn K cd_1 "Tree.paths" = true)
    (k_1 : PySem.W.keepIn K (.ref f_1) = true)
    (a_2 : PySem.W.findIn K (.ref C_Tree) "kind" = some (some (.ref f_2)))
    (i_2 : PySem.W.isFn K (.ref f_2) = true)
    (l_2 : K.lookup f_2 = some ⟨oc_2, od_2, .func (PySem.W.fnOf "kind" "Tree.kind" (defArgs s_Tree_kind) (defBody s_Tree_kind) (defScope s_Tree_kind) .none kV_2 dc_2 pm_2 an_2 cd_2 ct_2), sl_2⟩)
    (c_2 : PySem.W.codeIn K cd_2 "Tree.kind" = true)
    (k_2 : PySem.W.keepIn K (.ref f_2) = true)
    (a_3 : PySem.W.nsIn K mainGlobals "format_string" = some (some (.ref f_3)))
    (l_3 : K.lookup f_3 = some ⟨oc_3, od_3, .func (PySem.W.fnOf "format_string" "format_string" (defArgs s_format_string) (defBody s_format_string) (defScope s_format_string) .none kV_3 dc_3 pm_3 an_3 cd_3 ct_3), sl_3⟩)
    (c_3 : PySem.W.codeIn K cd_3 "format_string" = true)
    (k_3 : PySem.W.keepIn K (.ref f_3) = true)
    (a_4 : PySem.W.nsIn K mainGlobals "file_line" = some (some (.ref f_4)))
    (l_4 : K.lookup f_4 = some ⟨oc_4, od_4, .func (PySem.W.fnOf "file_line" "file_line" (defArgs s_file_line) (defBody s_file_line) (defScope s_file_line) .none kV_4 dc_4 pm_4 an_4 cd_4 ct_4), sl_4⟩)
    (c_4 : PySem.W.codeIn K cd_4 "file_line" = true)
    (k_4 : PySem.W.keepIn K (.ref f_4) = true)
    (a_5 : PySem.W.nsIn K mainGlobals "link_line" = some (some (.ref f_5)))
    (l_5 : K.lookup f_5 = some ⟨oc_5, od_5, .func (PySem.W.fnOf "link_line" "link_line" (defArgs s_link_line) (defBody s_link_line) (defScope s_link_line) .none kV_5 dc_5 pm_5 an_5 cd_5 ct_5), sl_5⟩)
    (c_5 : PySem.W.codeIn K cd_5 "link_line" = true)
    (k_5 : PySem.W.keepIn K (.ref f_5) = true)
    (a_6 : PySem.W.findIn K (.ref C_Tree) "writer" = some (some (.ref f_6)))
    (i_6 : PySem.W.isFn K (.ref f_6) = true)
    (l_6 : K.lookup f_6 = some ⟨oc_6, od_6, .func (PySem.W.fnOf "writer" "Tree.writer" (defArgs s_Tree_writer) (defBody s_Tree_writer) (defScope s_Tree_writer) .none kV_6 dc_6 pm_6 an_6 cd_6 ct_6), sl_6⟩)
    (c_6 : PySem.W.codeIn K cd_6 "Tree.writer" = true)
    (k_6 : PySem.W.keepIn K (.ref f_6) = true)
    (a_7 : PySem.W.findIn K (.ref C_Tree) "read" = some (some (.ref f_7)))
    (i_7 : PySem.W.isFn K (.ref f_7) = true)
    (l_7 : K.lookup f_7 = some ⟨oc_7, od_7, .func (PySem.W.fnOf "read" "Tree.read" (defArgs s_Tree_read) (defBody s_Tree_read) (defScope s_Tree_read) .none kV_7 dc_7 pm_7 an_7 cd_7 ct_7), sl_7⟩)
    (c_7 : PySem.W.codeIn K cd_7 "Tree.read" = true)
    (k_7 : PySem.W.keepIn K (.ref f_7) = true)
    (a_8 : PySem.W.findIn K (.ref C_Tree) "target" = some (some (.ref f_8)))
    (i_8 : PySem.W.isFn K (.ref f_8) = true)
    (l_8 : K.lookup f_8 = some ⟨oc_8, od_8, .func (PySem.W.fnOf "target" "Tree.target" (defArgs s_Tree_target) (defBody s_Tree_target) (defScope s_Tree_target) .none kV_8 dc_8 pm_8 an_8 cd_8 ct_8), sl_8⟩)
    (c_8 : PySem.W.codeIn K cd_8 "Tree.target" = true)
    (k_8 : PySem.W.keepIn K (.ref f_8) = true)
    (a_9 : PySem.W.nsIn K mainGlobals "save_tree" = some (some (.ref f_9)))
    (l_9 : K.lookup f_9 = some ⟨oc_9, od_9, .func (PySem.W.fnOf "save_tree" "save_tree" (defArgs s_save_tree) (defBody s_save_tree) (defScope s_save_tree) .none kV_9 dc_9 pm_9 an_9 cd_9 ct_9), sl_9⟩)
    (c_9 : PySem.W.codeIn K cd_9 "save_tree" = true)
    (k_9 : PySem.W.keepIn K (.ref f_9) = true)
    (a_10 : PySem.W.nsIn K mainGlobals "lines_of" = some (some (.ref f_10)))
    (l_10 : K.lookup f_10 = some ⟨oc_10, od_10, .func (PySem.W.fnOf "lines_of" "lines_of" (defArgs s_lines_of) (defBody s_lines_of) (defScope s_lines_of) .none kV_10 dc_10 pm_10 an_10 cd_10 ct_10), sl_10⟩)
    (c_10 : PySem.W.codeIn K cd_10 "lines_of" = true)
    (k_10 : PySem.W.keepIn K (.ref f_10) = true)
    (a_11 : PySem.W.nsIn K mainGlobals "is_skipped" = some (some (.ref f_11)))
    (l_11 : K.lookup f_11 = some ⟨oc_11, od_11, .func (PySem.W.fnOf "is_skipped" "is_skipped" (defArgs s_is_skipped) (defBody s_is_skipped) (defScope s_is_skipped) .none kV_11 dc_11 pm_11 an_11 cd_11 ct_11), sl_11⟩)
    (c_11 : PySem.W.codeIn K cd_11 "is_skipped" = true)
    (k_11 : PySem.W.keepIn K (.ref f_11) = true)
    (a_12 : PySem.W.nsIn K mainGlobals "scan_string" = some (some (.ref f_12)))
    (l_12 : K.lookup f_12 = some ⟨oc_12, od_12, .func (PySem.W.fnOf "scan_string" "scan_string" (defArgs s_scan_string) (defBody s_scan_string) (defScope s_scan_string) .none kV_12 dc_12 pm_12 an_12 cd_12 ct_12), sl_12⟩)
    (c_12 : PySem.W.codeIn K cd_12 "scan_string" = true)
    (k_12 : PySem.W.keepIn K (.ref f_12) = true)
    (a_13 : PySem.W.nsIn K mainGlobals "word_end" = some (some (.ref f_13)))
    (l_13 : K.lookup f_13 = some ⟨oc_13, od_13, .func (PySem.W.fnOf "word_end" "word_end" (defArgs s_word_end) (defBody s_word_end) (defScope s_word_end) .none kV_13 dc_13 pm_13 an_13 cd_13 ct_13), sl_13⟩)
    (c_13 : PySem.W.codeIn K cd_13 "word_end" = true)
    (k_13 : PySem.W.keepIn K (.ref f_13) = true)
    (a_14 : PySem.W.nsIn K mainGlobals "scan_line" = some (some (.ref f_14)))
    (l_14 : K.lookup f_14 = some ⟨oc_14, od_14, .func (PySem.W.fnOf "scan_line" "scan_line" (defArgs s_scan_line) (defBody s_scan_line) (defScope s_scan_line) .none kV_14 dc_14 pm_14 an_14 cd_14 ct_14), sl_14⟩)
    (c_14 : PySem.W.codeIn K cd_14 "scan_line" = true)
    (k_14 : PySem.W.keepIn K (.ref f_14) = true)
    (a_15 : PySem.W.nsIn K mainGlobals "parts_of" = some (some (.ref f_15)))
    (l_15 : K.lookup f_15 = some ⟨oc_15, od_15, .func (PySem.W.fnOf "parts_of" "parts_of" (defArgs s_parts_of) (defBody s_parts_of) (defScope s_parts_of) .none kV_15 dc_15 pm_15 an_15 cd_15 ct_15), sl_15⟩)
    (c_15 : PySem.W.codeIn K cd_15 "parts_of" = true)
    (k_15 : PySem.W.keepIn K (.ref f_15) = true)
    (a_16 : PySem.W.nsIn K mainGlobals "is_name" = some (some (.ref f_16)))
    (l_16 : K.lookup f_16 = some ⟨oc_16, od_16, .func (PySem.W.fnOf "is_name" "is_name" (defArgs s_is_name) (defBody s_is_name) (defScope s_is_name) .none kV_16 dc_16 pm_16 an_16 cd_16 ct_16), sl_16⟩)
    (c_16 : PySem.W.codeIn K cd_16 "is_name" = true)
    (k_16 : PySem.W.keepIn K (.ref f_16) = true)
    (a_17 : PySem.W.nsIn K mainGlobals "is_path" = some (some (.ref f_17)))
    (l_17 : K.lookup f_17 = some ⟨oc_17, od_17, .func (PySem.W.fnOf "is_path" "is_path" (defArgs s_is_path) (defBody s_is_path) (defScope s_is_path) .none kV_17 dc_17 pm_17 an_17 cd_17 ct_17), sl_17⟩)
    (c_17 : PySem.W.codeIn K cd_17 "is_path" = true)
    (k_17 : PySem.W.keepIn K (.ref f_17) = true)
    (a_18 : PySem.W.nsIn K mainGlobals "is_text_code" = some (some (.ref f_18)))
    (l_18 : K.lookup f_18 = some ⟨oc_18, od_18, .func (PySem.W.fnOf "is_text_code" "is_text_code" (defArgs s_is_text_code) (defBody s_is_text_code) (defScope s_is_text_code) .none kV_18 dc_18 pm_18 an_18 cd_18 ct_18), sl_18⟩)
    (c_18 : PySem.W.codeIn K cd_18 "is_text_code" = true)
    (k_18 : PySem.W.keepIn K (.ref f_18) = true)
    (a_19 : PySem.W.nsIn K mainGlobals "is_text" = some (some (.ref f_19)))
    (l_19 : K.lookup f_19 = some ⟨oc_19, od_19, .func (PySem.W.fnOf "is_text" "is_text" (defArgs s_is_text) (defBody s_is_text) (defScope s_is_text) .none kV_19 dc_19 pm_19 an_19 cd_19 ct_19), sl_19⟩)
    (c_19 : PySem.W.codeIn K cd_19 "is_text" = true)
    (k_19 : PySem.W.keepIn K (.ref f_19) = true)
    (a_20 : PySem.W.nsIn K mainGlobals "is_content" = some (some (.ref f_20)))
    (l_20 : K.lookup f_20 = some ⟨oc_20, od_20, .func (PySem.W.fnOf "is_content" "is_content" (defArgs s_is_content) (defBody s_is_content) (defScope s_is_content) .none kV_20 dc_20 pm_20 an_20 cd_20 ct_20), sl_20⟩)
    (c_20 : PySem.W.codeIn K cd_20 "is_content" = true)
    (k_20 : PySem.W.keepIn K (.ref f_20) = true)
    (a_21 : PySem.W.nsIn K mainGlobals "read_file_line" = some (some (.ref f_21)))
    (l_21 : K.lookup f_21 = some ⟨oc_21, od_21, .func (PySem.W.fnOf "read_file_line" "read_file_line" (defArgs s_read_file_line) (defBody s_read_file_line) (defScope s_read_file_line) .none kV_21 dc_21 pm_21 an_21 cd_21 ct_21), sl_21⟩)
    (c_21 : PySem.W.codeIn K cd_21 "read_file_line" = true)
    (k_21 : PySem.W.keepIn K (.ref f_21) = true)
    (a_22 : PySem.W.nsIn K mainGlobals "read_link_line" = some (some (.ref f_22)))
    (l_22 : K.lookup f_22 = some ⟨oc_22, od_22, .func (PySem.W.fnOf "read_link_line" "read_link_line" (defArgs s_read_link_line) (defBody s_read_link_line) (defScope s_read_link_line) .none kV_22 dc_22 pm_22 an_22 cd_22 ct_22), sl_22⟩)
    (c_22 : PySem.W.codeIn K cd_22 "read_link_line" = true)
    (k_22 : PySem.W.keepIn K (.ref f_22) = true)
    (a_23 : PySem.W.nsIn K mainGlobals "load_tree" = some (some (.ref f_23)))
    (l_23 : K.lookup f_23 = some ⟨oc_23, od_23, .func (PySem.W.fnOf "load_tree" "load_tree" (defArgs s_load_tree) (defBody s_load_tree) (defScope s_load_tree) .none kV_23 dc_23 pm_23 an_23 cd_23 ct_23), sl_23⟩)
    (c_23 : PySem.W.codeIn K cd_23 "load_tree" = true)
    (k_23 : PySem.W.keepIn K (.ref f_23) = true)
    (a_24 : PySem.W.nsIn K mainGlobals "is_identifier" = some (some (.ref f_24)))
    (l_24 : K.lookup f_24 = some ⟨oc_24, od_24, .func (PySem.W.fnOf "is_identifier" "is_identifier" (defArgs s_is_identifier) (defBody s_is_identifier) (defScope s_is_identifier) .none kV_24 dc_24 pm_24 an_24 cd_24 ct_24), sl_24⟩)
    (c_24 : PySem.W.codeIn K cd_24 "is_identifier" = true)
    (k_24 : PySem.W.keepIn K (.ref f_24) = true)
    (a_25 : PySem.W.nsIn K mainGlobals "setting_line" = some (some (.ref f_25)))
    (l_25 : K.lookup f_25 = some ⟨oc_25, od_25, .func (PySem.W.fnOf "setting_line" "setting_line" (defArgs s_setting_line) (defBody s_setting_line) (defScope s_setting_line) .none kV_25 dc_25 pm_25 an_25 cd_25 ct_25), sl_25⟩)
    (c_25 : PySem.W.codeIn K cd_25 "setting_line" = true)
    (k_25 : PySem.W.keepIn K (.ref f_25) = true)
    (a_26 : PySem.W.nsIn K mainGlobals "load_settings" = some (some (.ref f_26)))
    (l_26 : K.lookup f_26 = some ⟨oc_26, od_26, .func (PySem.W.fnOf "load_settings" "load_settings" (defArgs s_load_settings) (defBody s_load_settings) (defScope s_load_settings) .none kV_26 dc_26 pm_26 an_26 cd_26 ct_26), sl_26⟩)
    (c_26 : PySem.W.codeIn K cd_26 "load_settings" = true)
    (k_26 : PySem.W.keepIn K (.ref f_26) = true)
    (a_27 : PySem.W.nsIn K mainGlobals "_law_cell" = some (some (.ref f_27)))
    (l_27 : K.lookup f_27 = some ⟨oc_27, od_27, .func (PySem.W.fnOf "_law_cell" "_law_cell" (defArgs s__law_cell) (defBody s__law_cell) (defScope s__law_cell) .none kV_27 dc_27 pm_27 an_27 cd_27 ct_27), sl_27⟩)
    (c_27 : PySem.W.codeIn K cd_27 "_law_cell" = true)
    (k_27 : PySem.W.keepIn K (.ref f_27) = true)
    (a_28 : PySem.W.nsIn K mainGlobals "_law_text" = some (some (.ref f_28)))
    (l_28 : K.lookup f_28 = some ⟨oc_28, od_28, .func (PySem.W.fnOf "_law_text" "_law_text" (defArgs s__law_text) (defBody s__law_text) (defScope s__law_text) .none kV_28 dc_28 pm_28 an_28 cd_28 ct_28), sl_28⟩)
    (c_28 : PySem.W.codeIn K cd_28 "_law_text" = true)
    (k_28 : PySem.W.keepIn K (.ref f_28) = true)
    (a_29 : PySem.W.nsIn K mainGlobals "_law_draws" = some (some (.ref f_29)))
    (l_29 : K.lookup f_29 = some ⟨oc_29, od_29, .func (PySem.W.fnOf "_law_draws" "_law_draws" (defArgs s__law_draws) (defBody s__law_draws) (defScope s__law_draws) .none kV_29 dc_29 pm_29 an_29 cd_29 ct_29), sl_29⟩)
    (c_29 : PySem.W.codeIn K cd_29 "_law_draws" = true)
    (k_29 : PySem.W.keepIn K (.ref f_29) = true)
    (a_30 : PySem.W.nsIn K mainGlobals "_law_content" = some (some (.ref f_30)))
    (l_30 : K.lookup f_30 = some ⟨oc_30, od_30, .func (PySem.W.fnOf "_law_content" "_law_content" (defArgs s__law_content) (defBody s__law_content) (defScope s__law_content) .none kV_30 dc_30 pm_30 an_30 cd_30 ct_30), sl_30⟩)
    (c_30 : PySem.W.codeIn K cd_30 "_law_content" = true)
    (k_30 : PySem.W.keepIn K (.ref f_30) = true)
    (a_31 : PySem.W.findIn K (.ref C_Tree) "is_personal" = some (some (.ref f_31)))
    (i_31 : PySem.W.isFn K (.ref f_31) = true)
    (l_31 : K.lookup f_31 = some ⟨oc_31, od_31, .func (PySem.W.fnOf "is_personal" "Tree.is_personal" (defArgs s_Tree_is_personal) (defBody s_Tree_is_personal) (defScope s_Tree_is_personal) .none kV_31 dc_31 pm_31 an_31 cd_31 ct_31), sl_31⟩)
    (c_31 : PySem.W.codeIn K cd_31 "Tree.is_personal" = true)
    (k_31 : PySem.W.keepIn K (.ref f_31) = true)
    (a_32 : PySem.W.findIn K (.ref C_Tree) "check_room" = some (some (.ref f_32)))
    (i_32 : PySem.W.isFn K (.ref f_32) = true)
    (l_32 : K.lookup f_32 = some ⟨oc_32, od_32, .func (PySem.W.fnOf "check_room" "Tree.check_room" (defArgs s_Tree_check_room) (defBody s_Tree_check_room) (defScope s_Tree_check_room) .none kV_32 dc_32 pm_32 an_32 cd_32 ct_32), sl_32⟩)
    (c_32 : PySem.W.codeIn K cd_32 "Tree.check_room" = true)
    (k_32 : PySem.W.keepIn K (.ref f_32) = true)
    (a_33 : PySem.W.findIn K (.ref C_Tree) "write" = some (some (.ref f_33)))
    (i_33 : PySem.W.isFn K (.ref f_33) = true)
    (l_33 : K.lookup f_33 = some ⟨oc_33, od_33, .func (PySem.W.fnOf "write" "Tree.write" (defArgs s_Tree_write) (defBody s_Tree_write) (defScope s_Tree_write) .none kV_33 dc_33 pm_33 an_33 cd_33 ct_33), sl_33⟩)
    (c_33 : PySem.W.codeIn K cd_33 "Tree.write" = true)
    (k_33 : PySem.W.keepIn K (.ref f_33) = true)
    (a_34 : PySem.W.findIn K (.ref C_Tree) "link" = some (some (.ref f_34)))
    (i_34 : PySem.W.isFn K (.ref f_34) = true)
    (l_34 : K.lookup f_34 = some ⟨oc_34, od_34, .func (PySem.W.fnOf "link" "Tree.link" (defArgs s_Tree_link) (defBody s_Tree_link) (defScope s_Tree_link) .none kV_34 dc_34 pm_34 an_34 cd_34 ct_34), sl_34⟩)
    (c_34 : PySem.W.codeIn K cd_34 "Tree.link" = true)
    (k_34 : PySem.W.keepIn K (.ref f_34) = true)
    (a_35 : PySem.W.nsIn K mainGlobals "save_settings" = some (some (.ref f_35)))
    (l_35 : K.lookup f_35 = some ⟨oc_35, od_35, .func (PySem.W.fnOf "save_settings" "save_settings" (defArgs s_save_settings) (defBody s_save_settings) (defScope s_save_settings) .none kV_35 dc_35 pm_35 an_35 cd_35 ct_35), sl_35⟩)
    (c_35 : PySem.W.codeIn K cd_35 "save_settings" = true)
    (k_35 : PySem.W.keepIn K (.ref f_35) = true)
    (a_36 : PySem.W.nsIn K mainGlobals "_law_string" = some (some (.ref f_36)))
    (l_36 : K.lookup f_36 = some ⟨oc_36, od_36, .func (PySem.W.fnOf "_law_string" "_law_string" (defArgs s__law_string) (defBody s__law_string) (defScope s__law_string) .none kV_36 dc_36 pm_36 an_36 cd_36 ct_36), sl_36⟩)
    (c_36 : PySem.W.codeIn K cd_36 "_law_string" = true)
    (k_36 : PySem.W.keepIn K (.ref f_36) = true)
    (a_37 : PySem.W.nsIn K mainGlobals "law" = some (some (.ref f_37)))
    (l_37 : K.lookup f_37 = some ⟨oc_37, od_37, .func (PySem.W.fnOf "law" "law" (defArgs s_law) (defBody s_law) (defScope s_law) .none kV_37 dc_37 pm_37 an_37 cd_37 ct_37), sl_37⟩)
    (c_37 : PySem.W.codeIn K cd_37 "law" = true)
    (k_37 : PySem.W.keepIn K (.ref f_37) = true)
    (x_InvalidRecipe : K.lookup C_InvalidRecipe = some (excClassObj nm_InvalidRecipe q_InvalidRecipe C_InvalidRecipe N_InvalidRecipe bs_InvalidRecipe bm_InvalidRecipe true sn_InvalidRecipe sub_InvalidRecipe ab_InvalidRecipe col_InvalidRecipe dd_InvalidRecipe m0_InvalidRecipe m1_InvalidRecipe m2_InvalidRecipe m3_InvalidRecipe m5_InvalidRecipe "ValueError.__new__"))
    (r_InvalidRecipe : PySem.HandSPX.refsVE bm_InvalidRecipe = true)
    (sa_InvalidRecipe : PySem.W.findIn K (.ref C_InvalidRecipe) "__setattr__" = some (some (.builtin "object.__setattr__")))
    (kp_InvalidRecipe : PySem.W.keepIn K (.ref C_InvalidRecipe) = true)
    (u_InvalidRecipe : PySem.W.mroIn K C_InvalidRecipe (.ref C_InvalidRecipe) = some true)
    (i_InvalidRecipe : PySem.W.ks_superIn K C_InvalidRecipe C_InvalidRecipe "__init__" = some (some (.builtin "ValueError.__init__")))
    (v_InvalidRecipe : PySem.W.subIn K (.ref C_InvalidRecipe) (.type "ValueError") = some true)
    (ff_InvalidRecipe : PySem.W.findIn K (.ref C_InvalidRecipe) "__init__" = some (some (.ref f_InvalidRecipe)))
    (y_InvalidRecipe : PySem.W.typeIn K (.ref f_InvalidRecipe) = some (.type "function"))
    (l_InvalidRecipe : K.lookup f_InvalidRecipe = some ⟨ocx_InvalidRecipe, odx_InvalidRecipe, .func (PySem.W.fnX "__init__" "InvalidRecipe.__init__" (defArgs s_InvalidRecipe___init__) (defBody s_InvalidRecipe___init__) (defScope s_InvalidRecipe___init__) [("__class__", cc_InvalidRecipe)] .none kVx_InvalidRecipe dcx_InvalidRecipe pmx_InvalidRecipe anx_InvalidRecipe (.ref cda_InvalidRecipe) ctx_InvalidRecipe), slx_InvalidRecipe⟩)
    (c_InvalidRecipe : PySem.W.codeIn K (.ref cda_InvalidRecipe) "InvalidRecipe.__init__" = true)
    (d_InvalidRecipe : K.lookup cda_InvalidRecipe = some ⟨ccl_InvalidRecipe, cdd_InvalidRecipe, .fields vs_InvalidRecipe, ccs_InvalidRecipe⟩)
    (w_InvalidRecipe : vs_InvalidRecipe[2]? = some (.str file_InvalidRecipe tf_InvalidRecipe))
    (p_InvalidRecipe : ((PP.main.file : Str) == file_InvalidRecipe) = true)
    (o_InvalidRecipe : K.lookup cc_InvalidRecipe = some ⟨cl_InvalidRecipe, cld_InvalidRecipe, .cell (some (.ref C_InvalidRecipe)), csl_InvalidRecipe⟩)
    (qq_InvalidRecipe : PySem.W.clsIn K C_InvalidRecipe = some cdx_InvalidRecipe)
    (z_super : PySem.W.nsIn K mainGlobals "super" = some none)
    (g_any : PySem.W.nsIn K PySem.cStatics "thirdparty.any" = some none)
    (nf_InvalidRecipe_path : PySem.W.findIn K (.ref C_InvalidRecipe) "path" = some none)
    (nf_InvalidRecipe_line : PySem.W.findIn K (.ref C_InvalidRecipe) "line" = some none)
    (nf_InvalidRecipe_column : PySem.W.findIn K (.ref C_InvalidRecipe) "column" = some none)
    (nf_InvalidRecipe_reason : PySem.W.findIn K (.ref C_InvalidRecipe) "reason" = some none)
    (g_TreeFull : PySem.W.nsIn K mainGlobals "TreeFull" = some (some (.ref C_TreeFull)))
    (x_TreeFull : K.lookup C_TreeFull = some (excClassObj nm_TreeFull q_TreeFull C_TreeFull N_TreeFull bs_TreeFull bm_TreeFull true sn_TreeFull sub_TreeFull ab_TreeFull col_TreeFull dd_TreeFull m0_TreeFull m1_TreeFull m2_TreeFull m3_TreeFull m5_TreeFull "ValueError.__new__"))
    (r_TreeFull : PySem.HandSPX.refsVE bm_TreeFull = true)
    (sa_TreeFull : PySem.W.findIn K (.ref C_TreeFull) "__setattr__" = some (some (.builtin "object.__setattr__")))
    (sb_TreeFull : PySem.W.subIn K (.ref C_TreeFull) (.type "BaseException") = some true)
    (ty_TreeFull : PySem.W.typeIn K (.ref C_TreeFull) = some (.type "type"))
    (kp_TreeFull : PySem.W.keepIn K (.ref C_TreeFull) = true)
    (u_TreeFull : PySem.W.mroIn K C_TreeFull (.ref C_TreeFull) = some true)
    (i_TreeFull : PySem.W.ks_superIn K C_TreeFull C_TreeFull "__init__" = some (some (.builtin "ValueError.__init__")))
    (v_TreeFull : PySem.W.subIn K (.ref C_TreeFull) (.type "ValueError") = some true)
    (ff_TreeFull : PySem.W.findIn K (.ref C_TreeFull) "__init__" = some (some (.ref f_TreeFull)))
    (y_TreeFull : PySem.W.typeIn K (.ref f_TreeFull) = some (.type "function"))
    (l_TreeFull : K.lookup f_TreeFull = some ⟨ocx_TreeFull, odx_TreeFull, .func (PySem.W.fnX "__init__" "TreeFull.__init__" (defArgs s_TreeFull___init__) (defBody s_TreeFull___init__) (defScope s_TreeFull___init__) [("__class__", cc_TreeFull)] .none kVx_TreeFull dcx_TreeFull pmx_TreeFull anx_TreeFull (.ref cda_TreeFull) ctx_TreeFull), slx_TreeFull⟩)
    (c_TreeFull : PySem.W.codeIn K (.ref cda_TreeFull) "TreeFull.__init__" = true)
    (d_TreeFull : K.lookup cda_TreeFull = some ⟨ccl_TreeFull, cdd_TreeFull, .fields vs_TreeFull, ccs_TreeFull⟩)
    (w_TreeFull : vs_TreeFull[2]? = some (.str file_TreeFull tf_TreeFull))
    (p_TreeFull : ((PP.main.file : Str) == file_TreeFull) = true)
    (o_TreeFull : K.lookup cc_TreeFull = some ⟨cl_TreeFull, cld_TreeFull, .cell (some (.ref C_TreeFull)), csl_TreeFull⟩)
    (qq_TreeFull : PySem.W.clsIn K C_TreeFull = some cdx_TreeFull)
    (nf_TreeFull_path : PySem.W.findIn K (.ref C_TreeFull) "path" = some none)
    (g_InvalidPath : PySem.W.nsIn K mainGlobals "InvalidPath" = some (some (.ref C_InvalidPath)))
    (x_InvalidPath : K.lookup C_InvalidPath = some (excClassObj nm_InvalidPath q_InvalidPath C_InvalidPath N_InvalidPath bs_InvalidPath bm_InvalidPath true sn_InvalidPath sub_InvalidPath ab_InvalidPath col_InvalidPath dd_InvalidPath m0_InvalidPath m1_InvalidPath m2_InvalidPath m3_InvalidPath m5_InvalidPath "ValueError.__new__"))
    (r_InvalidPath : PySem.HandSPX.refsVE bm_InvalidPath = true)
    (sa_InvalidPath : PySem.W.findIn K (.ref C_InvalidPath) "__setattr__" = some (some (.builtin "object.__setattr__")))
    (sb_InvalidPath : PySem.W.subIn K (.ref C_InvalidPath) (.type "BaseException") = some true)
    (ty_InvalidPath : PySem.W.typeIn K (.ref C_InvalidPath) = some (.type "type"))
    (kp_InvalidPath : PySem.W.keepIn K (.ref C_InvalidPath) = true)
    (u_InvalidPath : PySem.W.mroIn K C_InvalidPath (.ref C_InvalidPath) = some true)
    (i_InvalidPath : PySem.W.ks_superIn K C_InvalidPath C_InvalidPath "__init__" = some (some (.builtin "ValueError.__init__")))
    (v_InvalidPath : PySem.W.subIn K (.ref C_InvalidPath) (.type "ValueError") = some true)
    (ff_InvalidPath : PySem.W.findIn K (.ref C_InvalidPath) "__init__" = some (some (.ref f_InvalidPath)))
    (y_InvalidPath : PySem.W.typeIn K (.ref f_InvalidPath) = some (.type "function"))
    (l_InvalidPath : K.lookup f_InvalidPath = some ⟨ocx_InvalidPath, odx_InvalidPath, .func (PySem.W.fnX "__init__" "InvalidPath.__init__" (defArgs s_InvalidPath___init__) (defBody s_InvalidPath___init__) (defScope s_InvalidPath___init__) [("__class__", cc_InvalidPath)] .none kVx_InvalidPath dcx_InvalidPath pmx_InvalidPath anx_InvalidPath (.ref cda_InvalidPath) ctx_InvalidPath), slx_InvalidPath⟩)
    (c_InvalidPath : PySem.W.codeIn K (.ref cda_InvalidPath) "InvalidPath.__init__" = true)
    (d_InvalidPath : K.lookup cda_InvalidPath = some ⟨ccl_InvalidPath, cdd_InvalidPath, .fields vs_InvalidPath, ccs_InvalidPath⟩)
    (w_InvalidPath : vs_InvalidPath[2]? = some (.str file_InvalidPath tf_InvalidPath))
    (p_InvalidPath : ((PP.main.file : Str) == file_InvalidPath) = true)
    (o_InvalidPath : K.lookup cc_InvalidPath = some ⟨cl_InvalidPath, cld_InvalidPath, .cell (some (.ref C_InvalidPath)), csl_InvalidPath⟩)
    (qq_InvalidPath : PySem.W.clsIn K C_InvalidPath = some cdx_InvalidPath)
    (nf_InvalidPath_path : PySem.W.findIn K (.ref C_InvalidPath) "path" = some none)
    (g_InvalidContent : PySem.W.nsIn K mainGlobals "InvalidContent" = some (some (.ref C_InvalidContent)))
    (x_InvalidContent : K.lookup C_InvalidContent = some (excClassObj nm_InvalidContent q_InvalidContent C_InvalidContent N_InvalidContent bs_InvalidContent bm_InvalidContent true sn_InvalidContent sub_InvalidContent ab_InvalidContent col_InvalidContent dd_InvalidContent m0_InvalidContent m1_InvalidContent m2_InvalidContent m3_InvalidContent m5_InvalidContent "ValueError.__new__"))
    (r_InvalidContent : PySem.HandSPX.refsVE bm_InvalidContent = true)
    (sa_InvalidContent : PySem.W.findIn K (.ref C_InvalidContent) "__setattr__" = some (some (.builtin "object.__setattr__")))
    (sb_InvalidContent : PySem.W.subIn K (.ref C_InvalidContent) (.type "BaseException") = some true)
    (ty_InvalidContent : PySem.W.typeIn K (.ref C_InvalidContent) = some (.type "type"))
    (kp_InvalidContent : PySem.W.keepIn K (.ref C_InvalidContent) = true)
    (u_InvalidContent : PySem.W.mroIn K C_InvalidContent (.ref C_InvalidContent) = some true)
    (i_InvalidContent : PySem.W.ks_superIn K C_InvalidContent C_InvalidContent "__init__" = some (some (.builtin "ValueError.__init__")))
    (v_InvalidContent : PySem.W.subIn K (.ref C_InvalidContent) (.type "ValueError") = some true)
    (ff_InvalidContent : PySem.W.findIn K (.ref C_InvalidContent) "__init__" = some (some (.ref f_InvalidContent)))
    (y_InvalidContent : PySem.W.typeIn K (.ref f_InvalidContent) = some (.type "function"))
    (l_InvalidContent : K.lookup f_InvalidContent = some ⟨ocx_InvalidContent, odx_InvalidContent, .func (PySem.W.fnX "__init__" "InvalidContent.__init__" (defArgs s_InvalidContent___init__) (defBody s_InvalidContent___init__) (defScope s_InvalidContent___init__) [("__class__", cc_InvalidContent)] .none kVx_InvalidContent dcx_InvalidContent pmx_InvalidContent anx_InvalidContent (.ref cda_InvalidContent) ctx_InvalidContent), slx_InvalidContent⟩)
    (c_InvalidContent : PySem.W.codeIn K (.ref cda_InvalidContent) "InvalidContent.__init__" = true)
    (d_InvalidContent : K.lookup cda_InvalidContent = some ⟨ccl_InvalidContent, cdd_InvalidContent, .fields vs_InvalidContent, ccs_InvalidContent⟩)
    (w_InvalidContent : vs_InvalidContent[2]? = some (.str file_InvalidContent tf_InvalidContent))
    (p_InvalidContent : ((PP.main.file : Str) == file_InvalidContent) = true)
    (o_InvalidContent : K.lookup cc_InvalidContent = some ⟨cl_InvalidContent, cld_InvalidContent, .cell (some (.ref C_InvalidContent)), csl_InvalidContent⟩)
    (qq_InvalidContent : PySem.W.clsIn K C_InvalidContent = some cdx_InvalidContent)
    (nf_InvalidContent_path : PySem.W.findIn K (.ref C_InvalidContent) "path" = some none) : Tx w K mg :=
  ⟨PySem.W.mg_none_of X G z_abs,
    PySem.W.mg_none_of X G z_all,
    PySem.W.mg_none_of X G z_dict,
    PySem.W.mg_none_of X G z_int,
    PySem.W.mg_none_of X G z_isinstance,
    PySem.W.mg_none_of X G z_len,
    PySem.W.mg_none_of X G z_ord,
    PySem.W.mg_none_of X G z_range,
    PySem.W.mg_none_of X G z_sorted,
    PySem.W.mg_none_of X G z_str,
    ⟨_, PySem.W.mg_of X G v_CONTENT_LIMIT⟩,
    ⟨_, PySem.W.mg_of X G v_ENTRY_LIMIT⟩,
    ⟨_, PySem.W.mg_of X G v_IDENTIFIER_LIMIT⟩,
    ⟨_, _, PySem.W.mg_of X G v_LETTERS, by decide +kernel⟩,
    ⟨_, _, PySem.W.mg_of X G v_NAME_CHARACTERS, by decide +kernel⟩,
    ⟨_, PySem.W.mg_of X G v_NAME_LIMIT⟩,
    ⟨_, PySem.W.mg_of X G v_PATH_LIMIT⟩,
    ⟨_, _, PySem.W.mg_of X G v_SIGNS, by decide +kernel⟩,
    ⟨⟨A_ESCAPES, [(sT [110], PyData.str (sT [10])), (sT [34], PyData.str (sT [34])), (sT [92], PyData.str (sT [92]))], PySem.W.mg_of X G v_ESCAPES, fun h Y => PySem.W.kt_tab_in PP w Y kt_ESCAPES (by decide +kernel) kh_ESCAPES, rfl, rfl⟩⟩,
    ⟨⟨A_WRITERS, _, #[Value.str (Str.ofString "person") ktt_WRITERS_0, Value.str (Str.ofString "build") ktt_WRITERS_1], ktn_WRITERS, [V.str (Str.ofString "person"), V.str (Str.ofString "build")], PySem.W.mg_of X G v_WRITERS, kl_WRITERS, rfl, rfl, (by show 2 ≤ sizeLine; decide), (.cons ⟨_, rfl⟩ (.cons ⟨_, rfl⟩ .nil)), fun F rho => (.cons (.of_str _ (by decide +kernel)) (.cons (.of_str _ (by decide +kernel)) .nil))⟩⟩,
    ⟨C_Tree, f_0, _, PySem.W.mg_of X G g_Tree, ⟨mk_Tree, a_0, i_0, kp_Tree⟩, (fun_mk (st := s_Tree___init__) l_0 c_0 k_0), (fun_mk (st := s_Tree___init__) l_0 c_0 k_0).binds (ps := ["self"]) fun _ _ _ _ _ _ us hl => match us, hl with | [_], _ => rfl⟩,
    ⟨C_Tree, f_1, _, PySem.W.mg_of X G g_Tree, ⟨pg_Tree, hd_Tree, po_Tree, sa_Tree⟩, ⟨a_1, i_1, k_1⟩, (fun_mk (st := s_Tree_paths) l_1 c_1 k_1), (fun_mk (st := s_Tree_paths) l_1 c_1 k_1).binds (ps := ["self"]) fun _ _ _ _ _ _ us hl => match us, hl with | [_], _ => rfl⟩,
    ⟨C_Tree, f_2, _, PySem.W.mg_of X G g_Tree, ⟨pg_Tree, hd_Tree, po_Tree, sa_Tree⟩, ⟨a_2, i_2, k_2⟩, (fun_mk (st := s_Tree_kind) l_2 c_2 k_2), (fun_mk (st := s_Tree_kind) l_2 c_2 k_2).binds (ps := ["self", "path"]) fun _ _ _ _ _ _ us hl => match us, hl with | [_, _], _ => rfl⟩,
    ⟨f_3, _, (fun_mk (st := s_format_string) l_3 c_3 k_3), PySem.W.mg_of X G a_3, (fun_mk (st := s_format_string) l_3 c_3 k_3).binds (ps := ["text"]) fun _ _ _ _ _ _ us hl => match us, hl with | [_], _ => rfl⟩,
    ⟨f_4, _, (fun_mk (st := s_file_line) l_4 c_4 k_4), PySem.W.mg_of X G a_4, (fun_mk (st := s_file_line) l_4 c_4 k_4).binds (ps := ["path", "by", "text"]) fun _ _ _ _ _ _ us hl => match us, hl with | [_, _, _], _ => rfl⟩,
    ⟨f_5, _, (fun_mk (st := s_link_line) l_5 c_5 k_5), PySem.W.mg_of X G a_5, (fun_mk (st := s_link_line) l_5 c_5 k_5).binds (ps := ["path", "target"]) fun _ _ _ _ _ _ us hl => match us, hl with | [_, _], _ => rfl⟩,
    ⟨C_Tree, f_6, _, PySem.W.mg_of X G g_Tree, ⟨pg_Tree, hd_Tree, po_Tree, sa_Tree⟩, ⟨a_6, i_6, k_6⟩, (fun_mk (st := s_Tree_writer) l_6 c_6 k_6), (fun_mk (st := s_Tree_writer) l_6 c_6 k_6).binds (ps := ["self", "path"]) fun _ _ _ _ _ _ us hl => match us, hl with | [_, _], _ => rfl⟩,
    ⟨C_Tree, f_7, _, PySem.W.mg_of X G g_Tree, ⟨pg_Tree, hd_Tree, po_Tree, sa_Tree⟩, ⟨a_7, i_7, k_7⟩, (fun_mk (st := s_Tree_read) l_7 c_7 k_7), (fun_mk (st := s_Tree_read) l_7 c_7 k_7).binds (ps := ["self", "path"]) fun _ _ _ _ _ _ us hl => match us, hl with | [_, _], _ => rfl⟩,
    ⟨C_Tree, f_8, _, PySem.W.mg_of X G g_Tree, ⟨pg_Tree, hd_Tree, po_Tree, sa_Tree⟩, ⟨a_8, i_8, k_8⟩, (fun_mk (st := s_Tree_target) l_8 c_8 k_8), (fun_mk (st := s_Tree_target) l_8 c_8 k_8).binds (ps := ["self", "path"]) fun _ _ _ _ _ _ us hl => match us, hl with | [_, _], _ => rfl⟩,
    ⟨f_9, _, (fun_mk (st := s_save_tree) l_9 c_9 k_9), PySem.W.mg_of X G a_9, (fun_mk (st := s_save_tree) l_9 c_9 k_9).binds (ps := ["tree"]) fun _ _ _ _ _ _ us hl => match us, hl with | [_], _ => rfl⟩,
    ⟨f_10, _, (fun_mk (st := s_lines_of) l_10 c_10 k_10), PySem.W.mg_of X G a_10, (fun_mk (st := s_lines_of) l_10 c_10 k_10).binds (ps := ["text"]) fun _ _ _ _ _ _ us hl => match us, hl with | [_], _ => rfl⟩,
    ⟨f_11, _, (fun_mk (st := s_is_skipped) l_11 c_11 k_11), PySem.W.mg_of X G a_11, (fun_mk (st := s_is_skipped) l_11 c_11 k_11).binds (ps := ["line"]) fun _ _ _ _ _ _ us hl => match us, hl with | [_], _ => rfl⟩,
    ⟨f_12, _, (fun_mk (st := s_scan_string) l_12 c_12 k_12), PySem.W.mg_of X G a_12, (fun_mk (st := s_scan_string) l_12 c_12 k_12).binds (ps := ["path", "number", "line", "at"]) fun _ _ _ _ _ _ us hl => match us, hl with | [_, _, _, _], _ => rfl⟩,
    ⟨f_13, _, (fun_mk (st := s_word_end) l_13 c_13 k_13), PySem.W.mg_of X G a_13, (fun_mk (st := s_word_end) l_13 c_13 k_13).binds (ps := ["line", "at"]) fun _ _ _ _ _ _ us hl => match us, hl with | [_, _], _ => rfl⟩,
    ⟨f_14, _, (fun_mk (st := s_scan_line) l_14 c_14 k_14), PySem.W.mg_of X G a_14, (fun_mk (st := s_scan_line) l_14 c_14 k_14).binds (ps := ["path", "number", "line"]) fun _ _ _ _ _ _ us hl => match us, hl with | [_, _, _], _ => rfl⟩,
    ⟨f_15, _, (fun_mk (st := s_parts_of) l_15 c_15 k_15), PySem.W.mg_of X G a_15, (fun_mk (st := s_parts_of) l_15 c_15 k_15).binds (ps := ["number", "line"]) fun _ _ _ _ _ _ us hl => match us, hl with | [_, _], _ => rfl⟩,
    ⟨f_16, _, (fun_mk (st := s_is_name) l_16 c_16 k_16), PySem.W.mg_of X G a_16, (fun_mk (st := s_is_name) l_16 c_16 k_16).binds (ps := ["value", "characters"]) fun _ _ _ _ _ _ us hl => match us, hl with | [_, _], _ => rfl⟩,
    ⟨f_17, _, (fun_mk (st := s_is_path) l_17 c_17 k_17), PySem.W.mg_of X G a_17, (fun_mk (st := s_is_path) l_17 c_17 k_17).binds (ps := ["value"]) fun _ _ _ _ _ _ us hl => match us, hl with | [_], _ => rfl⟩,
    ⟨f_18, _, (fun_mk (st := s_is_text_code) l_18 c_18 k_18), PySem.W.mg_of X G a_18, (fun_mk (st := s_is_text_code) l_18 c_18 k_18).binds (ps := ["code"]) fun _ _ _ _ _ _ us hl => match us, hl with | [_], _ => rfl⟩,
    ⟨f_19, _, (fun_mk (st := s_is_text) l_19 c_19 k_19), PySem.W.mg_of X G a_19, (fun_mk (st := s_is_text) l_19 c_19 k_19).binds (ps := ["value"]) fun _ _ _ _ _ _ us hl => match us, hl with | [_], _ => rfl⟩,
    ⟨f_20, _, (fun_mk (st := s_is_content) l_20 c_20 k_20), PySem.W.mg_of X G a_20, (fun_mk (st := s_is_content) l_20 c_20 k_20).binds (ps := ["value"]) fun _ _ _ _ _ _ us hl => match us, hl with | [_], _ => rfl⟩,
    ⟨f_21, _, (fun_mk (st := s_read_file_line) l_21 c_21 k_21), PySem.W.mg_of X G a_21, (fun_mk (st := s_read_file_line) l_21 c_21 k_21).binds (ps := ["line", "kinds", "texts"]) fun _ _ _ _ _ _ us hl => match us, hl with | [_, _, _], _ => rfl⟩,
    ⟨f_22, _, (fun_mk (st := s_read_link_line) l_22 c_22 k_22), PySem.W.mg_of X G a_22, (fun_mk (st := s_read_link_line) l_22 c_22 k_22).binds (ps := ["line", "kinds", "texts"]) fun _ _ _ _ _ _ us hl => match us, hl with | [_, _, _], _ => rfl⟩,
    ⟨f_23, _, (fun_mk (st := s_load_tree) l_23 c_23 k_23), PySem.W.mg_of X G a_23, (fun_mk (st := s_load_tree) l_23 c_23 k_23).binds (ps := ["text"]) fun _ _ _ _ _ _ us hl => match us, hl with | [_], _ => rfl⟩,
    ⟨f_24, _, (fun_mk (st := s_is_identifier) l_24 c_24 k_24), PySem.W.mg_of X G a_24, (fun_mk (st := s_is_identifier) l_24 c_24 k_24).binds (ps := ["value"]) fun _ _ _ _ _ _ us hl => match us, hl with | [_], _ => rfl⟩,
    ⟨f_25, _, (fun_mk (st := s_setting_line) l_25 c_25 k_25), PySem.W.mg_of X G a_25, (fun_mk (st := s_setting_line) l_25 c_25 k_25).binds (ps := ["name", "text"]) fun _ _ _ _ _ _ us hl => match us, hl with | [_, _], _ => rfl⟩,
    ⟨f_26, _, (fun_mk (st := s_load_settings) l_26 c_26 k_26), PySem.W.mg_of X G a_26, (fun_mk (st := s_load_settings) l_26 c_26 k_26).binds (ps := ["text"]) fun _ _ _ _ _ _ us hl => match us, hl with | [_], _ => rfl⟩,
    ⟨f_27, _, (fun_mk (st := s__law_cell) l_27 c_27 k_27), PySem.W.mg_of X G a_27, (fun_mk (st := s__law_cell) l_27 c_27 k_27).binds (ps := ["_law_script", "_law_k"]) fun _ _ _ _ _ _ us hl => match us, hl with | [_, _], _ => rfl⟩,
    ⟨f_28, _, (fun_mk (st := s__law_text) l_28 c_28 k_28), PySem.W.mg_of X G a_28, (fun_mk (st := s__law_text) l_28 c_28 k_28).binds (ps := ["_law_numbers"]) fun _ _ _ _ _ _ us hl => match us, hl with | [_], _ => rfl⟩,
    ⟨f_29, _, (fun_mk (st := s__law_draws) l_29 c_29 k_29), PySem.W.mg_of X G a_29, (fun_mk (st := s__law_draws) l_29 c_29 k_29).binds (ps := ["_law_cell_here", "_law_many", "_law_limit"]) fun _ _ _ _ _ _ us hl => match us, hl with | [_, _, _], _ => rfl⟩,
    ⟨f_30, _, (fun_mk (st := s__law_content) l_30 c_30 k_30), PySem.W.mg_of X G a_30, (fun_mk (st := s__law_content) l_30 c_30 k_30).binds (ps := ["_law_cell_here"]) fun _ _ _ _ _ _ us hl => match us, hl with | [_], _ => rfl⟩,
    ⟨C_Tree, f_31, _, PySem.W.mg_of X G g_Tree, ⟨pg_Tree, hd_Tree, po_Tree, sa_Tree⟩, ⟨a_31, i_31, k_31⟩, (fun_mk (st := s_Tree_is_personal) l_31 c_31 k_31), (fun_mk (st := s_Tree_is_personal) l_31 c_31 k_31).binds (ps := ["self", "path"]) fun _ _ _ _ _ _ us hl => match us, hl with | [_, _], _ => rfl⟩,
    ⟨C_Tree, f_32, _, PySem.W.mg_of X G g_Tree, ⟨pg_Tree, hd_Tree, po_Tree, sa_Tree⟩, ⟨a_32, i_32, k_32⟩, (fun_mk (st := s_Tree_check_room) l_32 c_32 k_32), (fun_mk (st := s_Tree_check_room) l_32 c_32 k_32).binds (ps := ["self", "path"]) fun _ _ _ _ _ _ us hl => match us, hl with | [_, _], _ => rfl⟩,
    ⟨C_Tree, f_33, _, PySem.W.mg_of X G g_Tree, ⟨pg_Tree, hd_Tree, po_Tree, sa_Tree⟩, ⟨a_33, i_33, k_33⟩, (fun_mk (st := s_Tree_write) l_33 c_33 k_33), (fun_mk (st := s_Tree_write) l_33 c_33 k_33).binds (ps := ["self", "path", "text", "by"]) fun _ _ _ _ _ _ us hl => match us, hl with | [_, _, _, _], _ => rfl⟩,
    ⟨C_Tree, f_34, _, PySem.W.mg_of X G g_Tree, ⟨pg_Tree, hd_Tree, po_Tree, sa_Tree⟩, ⟨a_34, i_34, k_34⟩, (fun_mk (st := s_Tree_link) l_34 c_34 k_34), (fun_mk (st := s_Tree_link) l_34 c_34 k_34).binds (ps := ["self", "path", "target"]) fun _ _ _ _ _ _ us hl => match us, hl with | [_, _, _], _ => rfl⟩,
    ⟨f_35, _, (fun_mk (st := s_save_settings) l_35 c_35 k_35), PySem.W.mg_of X G a_35, (fun_mk (st := s_save_settings) l_35 c_35 k_35).binds (ps := ["settings"]) fun _ _ _ _ _ _ us hl => match us, hl with | [_], _ => rfl⟩,
    ⟨f_36, _, (fun_mk (st := s__law_string) l_36 c_36 k_36), PySem.W.mg_of X G a_36, (fun_mk (st := s__law_string) l_36 c_36 k_36).binds (ps := ["_law_text_here"]) fun _ _ _ _ _ _ us hl => match us, hl with | [_], _ => rfl⟩,
    ⟨f_37, _, (fun_mk (st := s_law) l_37 c_37 k_37), PySem.W.mg_of X G a_37, (fun_mk (st := s_law) l_37 c_37 k_37).binds (ps := ["_law_script"]) fun _ _ _ _ _ _ us hl => match us, hl with | [_], _ => rfl⟩,
    ⟨C_InvalidRecipe, f_InvalidRecipe, _, PySem.W.mg_of X G g_InvalidRecipe, { cls := ⟨_, _, _, _, _, _, _, _, _, _, _, _, _, _, _, x_InvalidRecipe, r_InvalidRecipe⟩, sa := sa_InvalidRecipe, exC := sb_InvalidRecipe, tyC := ty_InvalidRecipe, kC := kp_InvalidRecipe, sub := u_InvalidRecipe, ini := i_InvalidRecipe, ve := v_InvalidRecipe }, ff_InvalidRecipe, y_InvalidRecipe, ⟨⟨_, _, _, _, _, _, _, _, _, _, rfl, l_InvalidRecipe, c_InvalidRecipe, ⟨_, _, _, _, _, _, d_InvalidRecipe, w_InvalidRecipe, p_InvalidRecipe⟩, ⟨_, _, _, o_InvalidRecipe⟩⟩, ⟨_, qq_InvalidRecipe⟩, z_super, PySem.W.mg_none_of X G z_super, by first | rfl | decide +kernel, g_any⟩, Binds.all fun us hl => match us, hl with | [_, _, _, _, _], _ => rfl, by intro p hp; simp only [List.mem_cons, List.not_mem_nil, or_false] at hp; rcases hp with rfl | rfl | rfl | rfl <;> first | exact nf_InvalidRecipe_path | exact nf_InvalidRecipe_line | exact nf_InvalidRecipe_column | exact nf_InvalidRecipe_reason⟩,
    ⟨C_TreeFull, f_TreeFull, _, PySem.W.mg_of X G g_TreeFull, { cls := ⟨_, _, _, _, _, _, _, _, _, _, _, _, _, _, _, x_TreeFull, r_TreeFull⟩, sa := sa_TreeFull, exC := sb_TreeFull, tyC := ty_TreeFull, kC := kp_TreeFull, sub := u_TreeFull, ini := i_TreeFull, ve := v_TreeFull }, ff_TreeFull, y_TreeFull, ⟨⟨_, _, _, _, _, _, _, _, _, _, rfl, l_TreeFull, c_TreeFull, ⟨_, _, _, _, _, _, d_TreeFull, w_TreeFull, p_TreeFull⟩, ⟨_, _, _, o_TreeFull⟩⟩, ⟨_, qq_TreeFull⟩, z_super, PySem.W.mg_none_of X G z_super, by first | rfl | decide +kernel, g_any⟩, Binds.all fun us hl => match us, hl with | [_, _], _ => rfl, by intro p hp; simp only [List.mem_cons, List.not_mem_nil, or_false] at hp; rcases hp with rfl; exact nf_TreeFull_path⟩,
    ⟨C_InvalidPath, f_InvalidPath, _, PySem.W.mg_of X G g_InvalidPath, { cls := ⟨_, _, _, _, _, _, _, _, _, _, _, _, _, _, _, x_InvalidPath, r_InvalidPath⟩, sa := sa_InvalidPath, exC := sb_InvalidPath, tyC := ty_InvalidPath, kC := kp_InvalidPath, sub := u_InvalidPath, ini := i_InvalidPath, ve := v_InvalidPath }, ff_InvalidPath, y_InvalidPath, ⟨⟨_, _, _, _, _, _, _, _, _, _, rfl, l_InvalidPath, c_InvalidPath, ⟨_, _, _, _, _, _, d_InvalidPath, w_InvalidPath, p_InvalidPath⟩, ⟨_, _, _, o_InvalidPath⟩⟩, ⟨_, qq_InvalidPath⟩, z_super, PySem.W.mg_none_of X G z_super, by first | rfl | decide +kernel, g_any⟩, Binds.all fun us hl => match us, hl with | [_, _], _ => rfl, by intro p hp; simp only [List.mem_cons, List.not_mem_nil, or_false] at hp; rcases hp with rfl; exact nf_InvalidPath_path⟩,
    ⟨C_InvalidContent, f_InvalidContent, _, PySem.W.mg_of X G g_InvalidContent, { cls := ⟨_, _, _, _, _, _, _, _, _, _, _, _, _, _, _, x_InvalidContent, r_InvalidContent⟩, sa := sa_InvalidContent, exC := sb_InvalidContent, tyC := ty_InvalidContent, kC := kp_InvalidContent, sub := u_InvalidContent, ini := i_InvalidContent, ve := v_InvalidContent }, ff_InvalidContent, y_InvalidContent, ⟨⟨_, _, _, _, _, _, _, _, _, _, rfl, l_InvalidContent, c_InvalidContent, ⟨_, _, _, _, _, _, d_InvalidContent, w_InvalidContent, p_InvalidContent⟩, ⟨_, _, _, o_InvalidContent⟩⟩, ⟨_, qq_InvalidContent⟩, z_super, PySem.W.mg_none_of X G z_super, by first | rfl | decide +kernel, g_any⟩, Binds.all fun us hl => match us, hl with | [_, _], _ => rfl, by intro p hp; simp only [List.mem_cons, List.not_mem_nil, or_false] at hp; rcases hp with rfl; exact nf_InvalidContent_path⟩,
    (tb_cons ⟨by decide +kernel, _, (mgc cn_Tree (PySem.W.mg_of X G g_Tree)), ⟨pg_Tree, hd_Tree, po_Tree, sa_Tree⟩, nf_Tree_entries⟩ tb_nil),
    ⟨_, PySem.W.mg_of X G g_InvalidRecipe, (tb_cons ⟨_, (mgc cn_InvalidRecipe (PySem.W.mg_of X G g_InvalidRecipe)), PySem.W.exm_ref sb_InvalidRecipe hd_InvalidRecipe ty_InvalidRecipe su_InvalidRecipe_InvalidRecipe⟩ tb_nil)⟩,
    ⟨⟨_, PySem.W.mg_of X G g_Tree, ⟨⟨pg_Tree, hd_Tree, po_Tree, sa_Tree⟩, ca_Tree, sp_class, ta_class, mo_Tree, me_Tree⟩⟩, cn_Tree⟩⟩
theorem law_ok {w : World} {K : PySem.W.Frag} {h : Heap} {mg : Str → Option Value} {fa : Addr} (X : K.In h) (G : h.Ns mainGlobals mg) (hfa : mg "law" = some (.ref fa)) (T : Tx w K mg) :
    ∃ fd : FuncData, (∀ (s : Shared) (v : Value), BindsTo s fd ⟨[v], []⟩ [("_law_script", v)]) ∧ ∀ base : Heap, K.In base → base.Ns mainGlobals mg → FnOk PP w K mg base (L2.CX PP w) 7 fa fd ["_law_script"] (Dl.spLaw K) := by
  obtain ⟨f, fd, F, hm, hb⟩ := T.d_law
  cases hfa.symm.trans hm
  obtain ⟨oc, od, kV, doc, pm, an, cdv, ct, osl, rfl, lk, hcd⟩ := id F.ex
  refine ⟨PySem.W.fnOf "law" "law" (defArgs s_law) (defBody s_law) (defScope s_law) .none kV doc pm an cdv ct, fun s v => .of_eq rfl, fun base _ _ => law_imp lawT (f := m_law) ?_⟩
  refine fn_d (N := ["_law_script", "_law_first", "_law_tree", "_law_known", "_law_k", "_law_cell_here", "_law_path", "_law_target", "_law_by", "_law_text_here", "_law_settings", "_law_lines", "_law_name", "_law_due", "_law_saved", "_law_back", "_law_found"]) (m := b_law) (k := 6) F sc_law (fun cdv A outer s H E hr => ?_)
  have hu := hr.units
  exact DSs.eq (ss_cons (s_set (i := 1) sc_law.nd (d_callB call_abs opn_abs rfl T.b_abs (by decide +kernel) (a_cons (d_fz (d_call (fn__law_cell T) (hr.mono (by decide)) rfl (takes_of rfl rfl rfl rfl) (a_cons (d_var 0) (a_cons d_int a_nil)))) a_nil)))
    (ss_cons (s_set (i := 2) sc_law.nd (d_new0 (new_Tree T) (hr.mono (by decide)) rfl (takes_of rfl rfl rfl rfl)))
    (ss_cons (s_set (i := 3) sc_law.nd (d_cel b_dnew))
    (ss_cons (s_for (passes_of rfl) rfl (i_range1 rfl T.b_range (d_op op_mod op2_mod (d_var 1) d_int)) (g_name (i := 4) sc_law.nd) (ss_cons (s_set (i := 5) sc_law.nd (d_callB call_abs opn_abs rfl T.b_abs (by decide +kernel) (a_cons (d_fz (d_call (fn__law_cell T) (hr.mono (by decide)) rfl (takes_of rfl rfl rfl rfl) (a_cons (d_var 0) (a_cons (d_op op_addA op2_add d_int (d_var 4)) a_nil)))) a_nil)))
    (ss_cons (s_set (i := 6) sc_law.nd (d_op op_addA op2_add (d_ix (d_fz (b_lst (a_cons (d_str rfl) (a_cons (d_str rfl) (a_cons (d_str rfl) (a_cons (d_str rfl) a_nil)))))) (d_op op_mod op2_mod (d_var 5) d_int)) (d_ix (d_fz (b_lst (a_cons (d_str rfl) (a_cons (d_str rfl) (a_cons (d_str rfl) (a_cons (d_str rfl) (a_cons (d_str rfl) a_nil))))))) (d_op op_mod op2_mod (d_op op_fdiv op2_div (d_var 5) d_int) d_int))))
    (ss_one (s_if (d_cmpT (op_eqG hu) op2_eq (d_op op_mod op2_mod (d_op op_fdiv op2_div (d_var 5) d_int) d_int) d_int (nomark _)) (ss_cons (s_set (i := 7) sc_law.nd (d_ix (d_fz (b_lst (a_cons (d_str rfl) (a_cons (d_str rfl) (a_cons (d_str rfl) a_nil))))) (d_op op_mod op2_mod (d_op op_fdiv op2_div (d_var 5) d_int) d_int)))
    (ss_cons (s_expr (d_fz (d_meth (mt_Tree_link T) (hr.mono (by decide)) (takes_of rfl rfl rfl rfl) (d_var 2) (a_cons (d_var 6) (a_cons (d_var 7) a_nil)))))
    (ss_one (s_dput hu (d_var 3) (d_var 6) (d_op op_addA op2_add (d_op op_addA op2_add (d_op op_addA op2_add (d_str rfl) (d_var 6)) (d_str rfl)) (d_var 7)))))) (ss_cons (s_set (i := 8) sc_law.nd (d_ix (d_fz (b_lst (a_cons (d_str rfl) (a_cons (d_str rfl) a_nil)))) (d_op op_sub op2_sub (d_op op_mod op2_mod (d_op op_fdiv op2_div (d_var 5) d_int) d_int) d_int)))
    (ss_cons (s_set (i := 9) sc_law.nd (d_fz (d_call (fn__law_content T) (hr.mono (by decide)) rfl (takes_of rfl rfl rfl rfl) (a_cons (d_op op_fdiv op2_div (d_var 5) d_int) a_nil))))
    (ss_cons (s_expr (d_fz (d_meth (mt_Tree_write T) (hr.mono (by decide)) (takes_of rfl rfl rfl rfl) (d_var 2) (a_cons (d_var 6) (a_cons (d_var 9) (a_cons (d_var 8) a_nil))))))
    (ss_one (s_dput hu (d_var 3) (d_var 6) (d_op op_addA op2_add (d_op op_addA op2_add (d_op op_addA op2_add (d_op op_addA op2_add (d_op op_addA op2_add (d_str rfl) (d_var 6)) (d_str rfl)) (d_var 8)) (d_str rfl)) (d_fz (d_call (fn__law_string T) (hr.mono (by decide)) rfl (takes_of rfl rfl rfl rfl) (a_cons (d_var 9) a_nil))))))))))))))
    (ss_cons (s_set (i := 10) sc_law.nd (d_cel b_dnew))
    (ss_cons (s_setB (i := 11) sc_law.nd (b_lst a_nil))
    (ss_cons (s_for (passes_of rfl) rfl (i_range1 rfl T.b_range (d_op op_mod op2_mod (d_op op_fdiv op2_div (d_var 1) d_int) d_int)) (g_name (i := 4) sc_law.nd) (ss_cons (s_set (i := 5) sc_law.nd (d_callB call_abs opn_abs rfl T.b_abs (by decide +kernel) (a_cons (d_fz (d_call (fn__law_cell T) (hr.mono (by decide)) rfl (takes_of rfl rfl rfl rfl) (a_cons (d_var 0) (a_cons (d_op op_addA op2_add d_int (d_var 4)) a_nil)))) a_nil)))
    (ss_one (s_dput hu (d_var 10) (d_op op_addA op2_add (d_str rfl) (d_callTy (.or call_str_int SkE.call_str_str) opn_str rfl T.b_str (by decide +kernel) (a_cons (d_op op_mod op2_mod (d_var 5) d_int) a_nil))) (d_fz (d_call (fn__law_content T) (hr.mono (by decide)) rfl (takes_of rfl rfl rfl rfl) (a_cons (d_op op_fdiv op2_div (d_var 5) d_int) a_nil)))))))
    (ss_cons (s_for (passes_of rfl) rfl (i_list (d_fz (b_callB (cr_srtK rfl) opn_sortedK rfl T.b_sorted (by decide +kernel) (a_cons (d_var 10) a_nil)))) (g_name (i := 12) sc_law.nd) (ss_one (s_expr (d_hm1 PySem.F.slot_list_append PySem.F.type_list_append mt_append ow_append (h_var 11) (d_op op_addA op2_add (d_op op_addA op2_add (d_op op_addA op2_add (d_str rfl) (d_var 12)) (d_str rfl)) (d_fz (d_call (fn__law_string T) (hr.mono (by decide)) rfl (takes_of rfl rfl rfl rfl) (a_cons (d_dget hu (d_var 10) (d_var 12)) a_nil))))))))
    (ss_cons (s_set (i := 13) sc_law.nd (d_m1 PySem.F.slot_str_join PySem.F.type_str_join mt_join opm_join (d_str rfl) (d_fz (b_lc (own := [("_law_path", 6)]) rfl sc_law.nd (i_list (d_fz (b_callB (cr_srtK rfl) opn_sortedK rfl T.b_sorted (by decide +kernel) (a_cons (d_var 3) a_nil)))) (blkOk_by (own := [("_law_path", 6)]) (N := ["_law_script", "_law_first", "_law_tree", "_law_known", "_law_k", "_law_cell_here", "_law_path", "_law_target", "_law_by", "_law_text_here", "_law_settings", "_law_lines", "_law_name", "_law_due", "_law_saved", "_law_back", "_law_found"]) (sc := defScope s_law) (by decide +kernel)) (fun _ _ _ _ _ => (g_name (i := 6) sc_law.nd)) (fun _ _ _ _ _ => ts_nil) (fun _ _ _ _ _ => (d_dget hu (d_var 3) (d_var 6)))))))
    (ss_cons (s_set (i := 14) sc_law.nd (d_fz (d_call (fn_save_tree T) (hr.mono (by decide)) rfl (takes_of rfl rfl rfl rfl) (a_cons (d_var 2) a_nil))))
    (ss_cons (s_if (DW.dt (w_or (t_not (dt_tru (d_is .str (d_var 14) rfl T.b_isinstance rfl T.b_str PyProof.Rows.boot_str))) (w_or (d_cmpT (op_neG hu) op2_ne (d_var 14) (d_var 13) (nomark _)) (w_or1 (d_cmpT (op_neG hu) op2_ne (d_fz (d_call (fn_save_settings T) (hr.mono (by decide)) rfl (takes_of rfl rfl rfl rfl) (a_cons (d_cel (b_callTy call_dictD opn_dict rfl T.b_dict (by decide +kernel) (a_cons (d_var 10) a_nil))) a_nil))) (d_m1 PySem.F.slot_str_join PySem.F.type_str_join mt_join opm_join (d_str rfl) (d_varF 11)) (nomark _)))))) (ss_one (s_retD d_bl)) ss_nil)
    (ss_cons (s_set (i := 15) sc_law.nd (d_fz (d_call (fn_load_tree T) (hr.mono (by decide)) rfl (takes_of rfl rfl rfl rfl) (a_cons (d_var 14) a_nil))))
    (ss_cons (s_if (DW.dt (w_or (t_not (dt_tru (d_isC T.ic_2 (congrArg Ev.mg (ev_none hr.hd)) (d_var 15) rfl T.b_isinstance rfl))) (w_or (d_neAT hu (h_dat (d_fld T.f_0 (d_var 15))) (h_dat (d_fld T.f_0 (d_var 2))) (by with_unfolding_all rfl)) (w_or1 (d_cmpT (op_neG hu) op2_ne (d_fz (d_call (fn_save_tree T) (hr.mono (by decide)) rfl (takes_of rfl rfl rfl rfl) (a_cons (d_var 15) a_nil))) (d_var 13) (nomark _)))))) (ss_one (s_retD d_bl)) ss_nil)
    (ss_cons (s_if (d_cmpT op_lt op2_lt (d_dlen rfl T.b_len (d_var 3)) d_int (nomark _)) (ss_one (s_expr (d_fz (d_meth (mt_Tree_write T) (hr.mono (by decide)) (takes_of rfl rfl rfl rfl) (d_var 15) (a_cons (d_str rfl) (a_cons (d_str rfl) (a_cons (d_str rfl) a_nil))))))) ss_nil)
    (ss_cons (s_set (i := 16) sc_law.nd (d_fz (d_call (fn_load_settings T) (hr.mono (by decide)) rfl (takes_of rfl rfl rfl rfl) (a_cons (d_m1 PySem.F.slot_str_join PySem.F.type_str_join mt_join opm_join (d_str rfl) (d_varF 11)) a_nil))))
    (ss_cons (s_if (DW.dt (w_or (t_not (dt_tru (d_isDc (d_var 16) rfl T.b_isinstance rfl T.b_dict PyProof.Rows.boot_dict))) (w_or1 (d_neAT hu (h_dat (d_var 16)) (h_dat (d_var 10)) (by with_unfolding_all rfl))))) (ss_one (s_retD d_bl)) ss_nil)
    (ss_one (s_retD (d_and (d_cmp (op_eqG hu) op2_eq (d_fz (d_call (fn_save_tree T) (hr.mono (by decide)) rfl (takes_of rfl rfl rfl rfl) (a_cons (d_var 2) a_nil))) (d_var 13) (nomark _)) (d_and (d_eqH hu (h_dat (d_fz (d_call (fn_load_settings T) (hr.mono (by decide)) rfl (takes_of rfl rfl rfl rfl) (a_cons (d_str rfl) a_nil)))) (h_dat (d_cel b_dnew)) (by with_unfolding_all rfl)) (d_one (d_eqH hu (h_dat (d_fld T.f_0 (d_fz (d_call (fn_load_tree T) (hr.mono (by decide)) rfl (takes_of rfl rfl rfl rfl) (a_cons (d_str rfl) a_nil))))) (h_dat (d_cel b_dnew)) (by with_unfolding_all rfl))))))))))))))))))))))) (by rfl)
end Lk37
open PySem PySem.W PyProof.Rows
set_option maxRecDepth 100000 in
set_option maxHeartbeats 0 in
theorem PySem.Challenge.cw_kilnyard_k37_saved_trees_and_settings_holds : PySem.Challenge.rw_kilnyard_k37_saved_trees_and_settings.Holds := by
  w_on; o_law; k_head; (case hw => w_witness2)
  k_fill
  refine Dl.walk (l := PySem.Challenge.rw_kilnyard_k37_saved_trees_and_settings) (k := 7) (x := "_law_script") rfl rfl ⟨rfl, by decide, by decide⟩ (fun w h Y => PySem.W.kIn_of Y) ?F
  case F =>
    intro w mg fa h KX G hmg
    refine Lk37.law_ok KX G hmg ?T
    case T =>
      refine' Lk37.tx_mk KX G ?g_Tree ?pg_Tree ?hd_Tree ?po_Tree ?sa_Tree ?nf_Tree_entries ?g_InvalidRecipe ?sb_InvalidRecipe ?hd_InvalidRecipe ?ty_InvalidRecipe ?su_InvalidRecipe_InvalidRecipe ?ca_Tree ?sp_class ?ta_class ?mo_Tree ?me_Tree ?z_abs ?z_all ?z_dict ?z_int ?z_isinstance ?z_len ?z_ord ?z_range ?z_sorted ?z_str ?v_CONTENT_LIMIT ?v_ENTRY_LIMIT ?v_IDENTIFIER_LIMIT ?v_LETTERS ?v_NAME_CHARACTERS ?v_NAME_LIMIT ?v_PATH_LIMIT ?v_SIGNS ?v_ESCAPES ?kt_ESCAPES ?kh_ESCAPES ?v_WRITERS ?kl_WRITERS ?a_0 ?i_0 ?mk_Tree ?kp_Tree ?l_0 ?c_0 ?k_0 ?a_1 ?i_1 ?l_1 ?c_1 ?k_1 ?a_2 ?i_2 ?l_2 ?c_2 ?k_2 ?a_3 ?l_3 ?c_3 ?k_3 ?a_4 ?l_4 ?c_4 ?k_4 ?a_5 ?l_5 ?c_5 ?k_5 ?a_6 ?i_6 ?l_6 ?c_6 ?k_6 ?a_7 ?i_7 ?l_7 ?c_7 ?k_7 ?a_8 ?i_8 ?l_8 ?c_8 ?k_8 ?a_9 ?l_9 ?c_9 ?k_9 ?a_10 ?l_10 ?c_10 ?k_10 ?a_11 ?l_11 ?c_11 ?k_11 ?a_12 ?l_12 ?c_12 ?k_12 ?a_13 ?l_13 ?c_13 ?k_13 ?a_14 ?l_14 ?c_14 ?k_14 ?a_15 ?l_15 ?c_15 ?k_15 ?a_16 ?l_16 ?c_16 ?k_16 ?a_17 ?l_17 ?c_17 ?k_17 ?a_18 ?l_18 ?c_18 ?k_18 ?a_19 ?l_19 ?c_19 ?k_19 ?a_20 ?l_20 ?c_20 ?k_20 ?a_21 ?l_21 ?c_21 ?k_21 ?a_22 ?l_22 ?c_22 ?k_22 ?a_23 ?l_23 ?c_23 ?k_23 ?a_24 ?l_24 ?c_24 ?k_24 ?a_25 ?l_25 ?c_25 ?k_25 ?a_26 ?l_26 ?c_26 ?k_26 ?a_27 ?l_27 ?c_27 ?k_27 ?a_28 ?l_28 ?c_28 ?k_28 ?a_29 ?l_29 ?c_29 ?k_29 ?a_30 ?l_30 ?c_30 ?k_30 ?a_31 ?i_31 ?l_31 ?c_31 ?k_31 ?a_32 ?i_32 ?l_32 ?c_32 ?k_32 ?a_33 ?i_33 ?l_33 ?c_33 ?k_33 ?a_34 ?i_34 ?l_34 ?c_34 ?k_34 ?a_35 ?l_35 ?c_35 ?k_35 ?a_36 ?l_36 ?c_36 ?k_36 ?a_37 ?l_37 ?c_37 ?k_37 ?x_InvalidRecipe ?r_InvalidRecipe ?sa_InvalidRecipe ?kp_InvalidRecipe ?u_InvalidRecipe ?i_InvalidRecipe ?v_InvalidRecipe ?ff_InvalidRecipe ?y_InvalidRecipe ?l_InvalidRecipe ?c_InvalidRecipe ?d_InvalidRecipe ?w_InvalidRecipe ?p_InvalidRecipe ?o_InvalidRecipe ?qq_InvalidRecipe ?z_super ?g_any ?nf_InvalidRecipe_path ?nf_InvalidRecipe_line ?nf_InvalidRecipe_column ?nf_InvalidRecipe_reason ?g_TreeFull ?x_TreeFull ?r_TreeFull ?sa_TreeFull ?sb_TreeFull ?ty_TreeFull ?kp_TreeFull ?u_TreeFull ?i_TreeFull ?v_TreeFull ?ff_TreeFull ?y_TreeFull ?l_TreeFull ?c_TreeFull ?d_TreeFull ?w_TreeFull ?p_TreeFull ?o_TreeFull ?qq_TreeFull ?nf_TreeFull_path ?g_InvalidPath ?x_InvalidPath ?r_InvalidPath ?sa_InvalidPath ?sb_InvalidPath ?ty_InvalidPath ?kp_InvalidPath ?u_InvalidPath ?i_InvalidPath ?v_InvalidPath ?ff_InvalidPath ?y_InvalidPath ?l_InvalidPath ?c_InvalidPath ?d_InvalidPath ?w_InvalidPath ?p_InvalidPath ?o_InvalidPath ?qq_InvalidPath ?nf_InvalidPath_path ?g_InvalidContent ?x_InvalidContent ?r_InvalidContent ?sa_InvalidContent ?sb_InvalidContent ?ty_InvalidContent ?kp_InvalidContent ?u_InvalidContent ?i_InvalidContent ?v_InvalidContent ?ff_InvalidContent ?y_InvalidContent ?l_InvalidContent ?c_InvalidContent ?d_InvalidContent ?w_InvalidContent ?p_InvalidContent ?o_InvalidContent ?qq_InvalidContent ?nf_InvalidContent_path
      (case g_Tree => k_is)
      (case pg_Tree => k_is)
      (case hd_Tree => k_is)
      (case po_Tree => k_is)
      (case sa_Tree => k_is)
      (case nf_Tree_entries => k_is)
      (case g_InvalidRecipe => k_is)
      (case sb_InvalidRecipe => k_is)
      (case hd_InvalidRecipe => k_is)
      (case ty_InvalidRecipe => k_is)
      (case su_InvalidRecipe_InvalidRecipe => first | k_is | rfl)
      (case ca_Tree => k_is)
      (case sp_class => first | k_is | rfl | decide +kernel)
      (case ta_class => first | k_is | rfl | decide +kernel)
      (case mo_Tree => first | k_is | rfl | decide +kernel)
      (case me_Tree => first | k_is | kit_is | rfl)
      (case z_abs => k_is)
      (case z_all => k_is)
      (case z_dict => k_is)
      (case z_int => k_is)
      (case z_isinstance => k_is)
      (case z_len => k_is)
      (case z_ord => k_is)
      (case z_range => k_is)
      (case z_sorted => k_is)
      (case z_str => k_is)
      (case v_CONTENT_LIMIT => k_is)
      (case v_ENTRY_LIMIT => k_is)
      (case v_IDENTIFIER_LIMIT => k_is)
      (case v_LETTERS => k_is)
      (case v_NAME_CHARACTERS => k_is)
      (case v_NAME_LIMIT => k_is)
      (case v_PATH_LIMIT => k_is)
      (case v_SIGNS => k_is)
      (case v_ESCAPES => k_is)
      (case kt_ESCAPES => kernel_rfl)
      (case kh_ESCAPES => kernel_rfl)
      (case v_WRITERS => k_is)
      (case kl_WRITERS => k_is)
      (case a_0 => k_is)
      (case i_0 => k_is)
      (case mk_Tree => k_is)
      (case kp_Tree => k_is)
      (case l_0 => k_is)
      (case c_0 => k_is)
      (case k_0 => k_is)
      (case a_1 => k_is)
      (case i_1 => k_is)
      (case l_1 => k_is)
      (case c_1 => k_is)
      (case k_1 => k_is)
      (case a_2 => k_is)
      (case i_2 => k_is)
      (case l_2 => k_is)
      (case c_2 => k_is)
      (case k_2 => k_is)
      (case a_3 => k_is)
      (case l_3 => k_is)
      (case c_3 => k_is)
      (case k_3 => k_is)
      (case a_4 => k_is)
      (case l_4 => k_is)
      (case c_4 => k_is)
      (case k_4 => k_is)
      (case a_5 => k_is)
      (case l_5 => k_is)
      (case c_5 => k_is)
      (case k_5 => k_is)
      (case a_6 => k_is)
      (case i_6 => k_is)
      (case l_6 => k_is)
      (case c_6 => k_is)
      (case k_6 => k_is)
      (case a_7 => k_is)
      (case i_7 => k_is)
      (case l_7 => k_is)
      (case c_7 => k_is)
      (case k_7 => k_is)
      (case a_8 => k_is)
      (case i_8 => k_is)
      (case l_8 => k_is)
      (case c_8 => k_is)
      (case k_8 => k_is)
      (case a_9 => k_is)
      (case l_9 => k_is)
      (case c_9 => k_is)
      (case k_9 => k_is)
      (case a_10 => k_is)
      (case l_10 => k_is)
      (case c_10 => k_is)
      (case k_10 => k_is)
      (case a_11 => k_is)
      (case l_11 => k_is)
      (case c_11 => k_is)
      (case k_11 => k_is)
      (case a_12 => k_is)
      (case l_12 => k_is)
      (case c_12 => k_is)
      (case k_12 => k_is)
      (case a_13 => k_is)
      (case l_13 => k_is)
      (case c_13 => k_is)
      (case k_13 => k_is)
      (case a_14 => k_is)
      (case l_14 => k_is)
      (case c_14 => k_is)
      (case k_14 => k_is)
      (case a_15 => k_is)
      (case l_15 => k_is)
      (case c_15 => k_is)
      (case k_15 => k_is)
      (case a_16 => k_is)
      (case l_16 => k_is)
      (case c_16 => k_is)
      (case k_16 => k_is)
      (case a_17 => k_is)
      (case l_17 => k_is)
      (case c_17 => k_is)
      (case k_17 => k_is)
      (case a_18 => k_is)
      (case l_18 => k_is)
      (case c_18 => k_is)
      (case k_18 => k_is)
      (case a_19 => k_is)
      (case l_19 => k_is)
      (case c_19 => k_is)
      (case k_19 => k_is)
      (case a_20 => k_is)
      (case l_20 => k_is)
      (case c_20 => k_is)
      (case k_20 => k_is)
      (case a_21 => k_is)
      (case l_21 => k_is)
      (case c_21 => k_is)
      (case k_21 => k_is)
      (case a_22 => k_is)
      (case l_22 => k_is)
      (case c_22 => k_is)
      (case k_22 => k_is)
      (case a_23 => k_is)
      (case l_23 => k_is)
      (case c_23 => k_is)
      (case k_23 => k_is)
      (case a_24 => k_is)
      (case l_24 => k_is)
      (case c_24 => k_is)
      (case k_24 => k_is)
      (case a_25 => k_is)
      (case l_25 => k_is)
      (case c_25 => k_is)
      (case k_25 => k_is)
      (case a_26 => k_is)
      (case l_26 => k_is)
      (case c_26 => k_is)
      (case k_26 => k_is)
      (case a_27 => k_is)
      (case l_27 => k_is)
      (case c_27 => k_is)
      (case k_27 => k_is)
      (case a_28 => k_is)
      (case l_28 => k_is)
      (case c_28 => k_is)
      (case k_28 => k_is)
      (case a_29 => k_is)
      (case l_29 => k_is)
      (case c_29 => k_is)
      (case k_29 => k_is)
      (case a_30 => k_is)
      (case l_30 => k_is)
      (case c_30 => k_is)
      (case k_30 => k_is)
      (case a_31 => k_is)
      (case i_31 => k_is)
      (case l_31 => k_is)
      (case c_31 => k_is)
      (case k_31 => k_is)
      (case a_32 => k_is)
      (case i_32 => k_is)
      (case l_32 => k_is)
      (case c_32 => k_is)
      (case k_32 => k_is)
      (case a_33 => k_is)
      (case i_33 => k_is)
      (case l_33 => k_is)
      (case c_33 => k_is)
      (case k_33 => k_is)
      (case a_34 => k_is)
      (case i_34 => k_is)
      (case l_34 => k_is)
      (case c_34 => k_is)
      (case k_34 => k_is)
      (case a_35 => k_is)
      (case l_35 => k_is)
      (case c_35 => k_is)
      (case k_35 => k_is)
      (case a_36 => k_is)
      (case l_36 => k_is)
      (case c_36 => k_is)
      (case k_36 => k_is)
      (case a_37 => k_is)
      (case l_37 => k_is)
      (case c_37 => k_is)
      (case k_37 => k_is)
      (case x_InvalidRecipe => k_is)
      (case r_InvalidRecipe => first | rfl | decide +kernel)
      (case sa_InvalidRecipe => k_is)
      (case kp_InvalidRecipe => k_is)
      (case u_InvalidRecipe => k_is)
      (case i_InvalidRecipe => ks_is)
      (case v_InvalidRecipe => k_is)
      (case ff_InvalidRecipe => k_is)
      (case y_InvalidRecipe => k_is)
      (case l_InvalidRecipe => k_is)
      (case c_InvalidRecipe => k_is)
      (case d_InvalidRecipe => k_is)
      (case w_InvalidRecipe => rfl)
      (case p_InvalidRecipe => first | rfl | decide +kernel)
      (case o_InvalidRecipe => k_is)
      (case qq_InvalidRecipe => k_is)
      (case z_super => k_is)
      (case g_any => k_is)
      (case nf_InvalidRecipe_path => k_is)
      (case nf_InvalidRecipe_line => k_is)
      (case nf_InvalidRecipe_column => k_is)
      (case nf_InvalidRecipe_reason => k_is)
      (case g_TreeFull => k_is)
      (case x_TreeFull => k_is)
      (case r_TreeFull => first | rfl | decide +kernel)
      (case sa_TreeFull => k_is)
      (case sb_TreeFull => k_is)
      (case ty_TreeFull => k_is)
      (case kp_TreeFull => k_is)
      (case u_TreeFull => k_is)
      (case i_TreeFull => ks_is)
      (case v_TreeFull => k_is)
      (case ff_TreeFull => k_is)
      (case y_TreeFull => k_is)
      (case l_TreeFull => k_is)
      (case c_TreeFull => k_is)
      (case d_TreeFull => k_is)
      (case w_TreeFull => rfl)
      (case p_TreeFull => first | rfl | decide +kernel)
      (case o_TreeFull => k_is)
      (case qq_TreeFull => k_is)
      (case nf_TreeFull_path => k_is)
      (case g_InvalidPath => k_is)
      (case x_InvalidPath => k_is)
      (case r_InvalidPath => first | rfl | decide +kernel)
      (case sa_InvalidPath => k_is)
      (case sb_InvalidPath => k_is)
      (case ty_InvalidPath => k_is)
      (case kp_InvalidPath => k_is)
      (case u_InvalidPath => k_is)
      (case i_InvalidPath => ks_is)
      (case v_InvalidPath => k_is)
      (case ff_InvalidPath => k_is)
      (case y_InvalidPath => k_is)
      (case l_InvalidPath => k_is)
      (case c_InvalidPath => k_is)
      (case d_InvalidPath => k_is)
      (case w_InvalidPath => rfl)
      (case p_InvalidPath => first | rfl | decide +kernel)
      (case o_InvalidPath => k_is)
      (case qq_InvalidPath => k_is)
      (case nf_InvalidPath_path => k_is)
      (case g_InvalidContent => k_is)
      (case x_InvalidContent => k_is)
      (case r_InvalidContent => first | rfl | decide +kernel)
      (case sa_InvalidContent => k_is)
      (case sb_InvalidContent => k_is)
      (case ty_InvalidContent => k_is)
      (case kp_InvalidContent => k_is)
      (case u_InvalidContent => k_is)
      (case i_InvalidContent => ks_is)
      (case v_InvalidContent => k_is)
      (case ff_InvalidContent => k_is)
      (case y_InvalidContent => k_is)
      (case l_InvalidContent => k_is)
      (case c_InvalidContent => k_is)
      (case d_InvalidContent => k_is)
      (case w_InvalidContent => rfl)
      (case p_InvalidContent => first | rfl | decide +kernel)
      (case o_InvalidContent => k_is)
      (case qq_InvalidContent => k_is)
      (case nf_InvalidContent_path => k_is)

