import PyProof.Rows.All
import Wide.All
import OpenK.AllK
import Wide.FinOn
import HandS.ForMost
import HandS.ForExc
import HandS.CallSlots
import HandS.AnyAll
import KE.KNestM
import HandS.IsInst
import HandS.EndBits
import HandS.EndTab
import HandS.StrMore
import HandS.TupAny
import KE.KExcSuper
import HandS.ExcInit
import HandS.Nested
import KE.RegKSuper
import HandS.TryOnly
import HandS.ExcField
import HandS.ExcIs
import KE.KExcIs
import HandS.WordsDict
import HandS.More
import HandS.Conv
import HandS.DictComp
import HandS.SortInts
import HandS.SortKw
import HandS.DeepEq
import HandS.RaiseMore
import KE.DatumOrd
import HandS.Defaults
import HandS.ReplaceLit
import HandS.ReplaceDef
import HandS.ReplaceList
import KE.KTops
import HandS.Flow
import HandS.Codes
import PyProof.InstNe
import PySem.Challenge.RW_kilnyard_k40_written_records
set_option Elab.async false
set_option linter.all false
set_option maxRecDepth 100000
/-! The data level: the program's classes by number, the fields of each by place (printed by classes.py). -/
namespace Dl
open PySem
def ctab : List (Str × List Str) := [
  (("BodyReader" : Str), (["path", "lines", "at", "output_count", "statement_count"] : List Str)),
  (("Task" : Str), (["job", "state", "waits", "live"] : List Str)),
  (("Build" : Str), (["_view", "_store", "_hall", "_keep_going", "_outcome", "_tasks", "_attempts", "_contents", "_failures", "_rings", "_ledger"] : List Str)),
  (("Worker" : Str), (["speed", "state", "attempt", "since", "until"] : List Str)),
  (("Crew" : Str), (["_build", "_workers", "_patience", "_tries", "_lost", "_clock"] : List Str)),
  (("BuildError" : Str), ([] : List Str)),
  (("InvalidKey" : Str), (["key"] : List Str)),
  (("InvalidPath" : Str), (["path"] : List Str)),
  (("InvalidContent" : Str), (["path"] : List Str)),
  (("NoEntry" : Str), (["path"] : List Str)),
  (("TreeFull" : Str), (["path"] : List Str)),
  (("InvalidRecipe" : Str), (["path", "line", "column", "reason"] : List Str)),
  (("Held" : Str), (["job"] : List Str)),
  (("BadToken" : Str), (["column", "reason"] : List Str)),
  (("HasRing" : Str), (["names"] : List Str)),
  (("Host" : Str), (["tree", "settings", "journal", "store", "build", "shares", "up"] : List Str)),
  (("House" : Str), (["_hosts", "_hall"] : List Str)),
  (("Journal" : Str), (["_text"] : List Str)),
  (("Outcome" : Str), (["outcome", "contents", "failures", "rings", "jobs"] : List Str)),
  (("PlainView" : Str), (["tree", "book", "settings", "contents"] : List Str)),
  (("PlainBuild" : Str), (["book", "contents", "view", "jobs", "states", "waits", "failures", "rings", "runs", "missing"] : List Str)),
  (("Rule" : Str), (["outputs", "inputs", "sealed", "body"] : List Str)),
  (("Book" : Str), (["settings", "rules", "files"] : List Str)),
  (("BookReader" : Str), (["tree", "book"] : List Str)),
  (("Record" : Str), (["outputs", "rule_key", "needs", "results"] : List Str)),
  (("InvalidRecord" : Str), (["line"] : List Str)),
  (("MissingContent" : Str), (["key"] : List Str)),
  (("NoSuchRecord" : Str), (["index"] : List Str)),
  (("DamagedRecord" : Str), (["index"] : List Str)),
  (("InvalidLength" : Str), (["length"] : List Str)),
  (("InvalidGoals" : Str), (["count_of_goals"] : List Str)),
  (("BuildOver" : Str), ([] : List Str)),
  (("NotReady" : Str), (["name"] : List Str)),
  (("NotRunning" : Str), (["name"] : List Str)),
  (("NoSuchAttempt" : Str), (["attempt"] : List Str)),
  (("InvalidCrew" : Str), ([] : List Str)),
  (("NoSuchWorker" : Str), (["worker"] : List Str)),
  (("WorkerGone" : Str), (["worker"] : List Str)),
  (("WorkerThere" : Str), (["worker"] : List Str)),
  (("WorkerIdle" : Str), (["worker"] : List Str)),
  (("InvalidDelay" : Str), (["moments"] : List Str)),
  (("InvalidHouse" : Str), (["count_of_hosts"] : List Str)),
  (("NoSuchHost" : Str), (["host"] : List Str)),
  (("HostDown" : Str), (["host"] : List Str)),
  (("HostUp" : Str), (["host"] : List Str)),
  (("HostBusy" : Str), (["host"] : List Str)),
  (("NoBuild" : Str), (["host"] : List Str)),
  (("InvalidCount" : Str), (["amount"] : List Str)),
  (("InvalidSetting" : Str), (["name"] : List Str)),
  (("ToolFailure" : Str), (["reason"] : List Str)),
  (("Run" : Str), (["outcome", "outputs", "needs", "steps", "failure", "held"] : List Str)),
  (("Runner" : Str), (["rule", "job", "view", "variables", "texts", "needs", "answers", "steps"] : List Str)),
  (("InvalidSave" : Str), (["line"] : List Str)),
  (("StoreReader" : Str), (["texts", "records", "last_key", "last_index", "count_read"] : List Str)),
  (("Line" : Str), (["path", "number", "tokens", "end_column"] : List Str)),
  (("Store" : Str), (["journal", "_texts", "_rows"] : List Str)),
  (("Job" : Str), (["rule", "stem", "outputs", "inputs"] : List Str)),
  (("Tree" : Str), (["entries"] : List Str)),
  (("View" : Str), (["tree", "book", "settings", "_done"] : List Str))]
def cnm (c : Nat) : Str := (ctab.getD c ("", [])).1
def clay (c : Nat) : List Str := (ctab.getD c ("", [])).2
theorem clay_nd : ∀ c, (clay c).Nodup ∧ (clay c).length ≤ 20 := fun c => by
  by_cases h : c < 59
  · have : ∀ i : Fin 59, (clay i.1).Nodup ∧ (clay i.1).length ≤ 20 := by decide +kernel
    exact this ⟨c, h⟩
  · have e : clay c = [] := by
      unfold clay
      rw [List.getD_eq_getElem?_getD, List.getElem?_eq_none (by show 59 ≤ c; omega)]
      rfl
    rw [e]
    exact ⟨List.nodup_nil, Nat.zero_le _⟩
end Dl

set_option Elab.async false
set_option linter.all false
set_option maxRecDepth 100000
set_option maxHeartbeats 1000000
/-! The data level: plain data, its monad, how it stands for the layer's abstract heap. -/
namespace Dl
open PySem PySem.Spec PyProof.Rows L2
noncomputable section

/-! ### data -/
/-- a key: an int or a text's codes -/
abbrev Ky := Sum Int (List Nat)
def sT (l : List Nat) : Str := ⟨l.toArray⟩
def kT : Ky → Key
  | .inl i => .inl i
  | .inr l => .inr (sT l)
inductive D where
  | non | bl (b : Bool) | int (i : Int) | str (s : List Nat)
  | tup (xs : List D) | lst (xs : List D) | dct (kvs : List (Ky × D))
  | obj (k : Nat)
/-- what a mutable list or dict holds -/
inductive C where
  | lst (xs : List D) | dct (kvs : List (Ky × D))
/-- an exception: its class by number, its fields by place -/
structure Xc where
  cls : Nat
  fs : List D
/-- what a name holds; exn: the exception that is being handled -/
inductive B where
  | dat (d : D) | cel (c : C) | exn (x : Xc)
abbrev En := List (Option B)
/-- what the store holds: an object, or a list or dict that several hold; lck: a dict while it is walked -/
inductive Sc where
  | ob (c : Nat) (fs : List (Option D)) | cel (c : C)
  | lck (kvs : List (Ky × D)) | dead
abbrev So := List Sc
inductive Re (A : Type) where
  | ok (a : A) (en : En) (so : So)
  | exc (x : Xc) (en : En) (so : So)
  | no
abbrev M (A : Type) : Type := En → So → Re A
def C.toD : C → D
  | .lst xs => .lst xs
  | .dct kvs => .dct kvs
def B.toD : B → D
  | .dat d => d
  | .cel c => c.toD
  | .exn _ => .non
section
variable {A A' : Type}
def pu (a : A) : M A := fun en so => .ok a en so
def bd (m : M A) (k : A → M A') : M A' := fun en so => match m en so with
  | .ok a en so => k a en so
  | .exc x en so => .exc x en so
  | .no => .no
def no : M A := fun _ _ => .no
/-- m where c holds -/
def gd (c : Prop) [Decidable c] (m : M A) : M A := fun en so => @ite _ c (Classical.propDecidable c) (m en so) .no
end

/-- a module's names; the exception that is being handled -/
structure Ev where
  mg : Str → Option Value
  hx : Option (Addr × Value × Option Addr)
def hxOf : Bool → Option Value → List (Addr × Obj) → Option (Addr × Value × Option Addr)
  | false, some (.ref a), p :: _ => some (a, p.2.cls, p.2.dict)
  | _, _, _ => none
abbrev _root_.L2.Cx.ev (X : L2.Cx) : Ev := ⟨X.mg, hxOf X.calm X.A.handled X.pn⟩
/-- where no exception is handled -/
theorem ev_none {X : Cx} (h : X.A.handled = none) : X.ev = ⟨X.mg, none⟩ := by
  show Ev.mk X.mg (hxOf X.calm X.A.handled X.pn) = _
  rw [h]
  cases X.calm <;> rfl
theorem ev_calm {X : Cx} (h : X.calm = true) : X.ev = ⟨X.mg, none⟩ := by
  show Ev.mk X.mg (hxOf X.calm X.A.handled X.pn) = _
  rw [h]
  rfl

/-! ### how data stands in a heap -/
mutual
inductive Rep (K : PySem.W.Frag) (F : Hp) (rho : List (Addr × Addr)) : V → D → Prop
  | non : Rep K F rho .non .non
  | bl (b : Bool) : Rep K F rho (.bl b) (.bl b)
  | int (i : Int) : Rep K F rho (.int i) (.int i)
  | str (s : List Nat) : Rep K F rho (.str (sT s)) (.str s)
  | tup {a : Addr} {vs : List V} {ds : List D} : SqT K F a vs → Reps K F rho vs ds → Rep K F rho (.ref a) (.tup ds)
  | lst {a : Addr} {vs : List V} {ds : List D} : SqL K F a vs → Reps K F rho vs ds → Rep K F rho (.ref a) (.lst ds)
  | dct {a : Addr} {kvs : List (Key × V)} {kds : List (Ky × D)} : Rd F a (.dK kvs) → RepK K F rho kvs kds → Rep K F rho (.ref a) (.dct kds)
  | obj {k : Nat} {a dx : Addr} : rho[k]? = some (a, dx) → Rep K F rho (.ref a) (.obj k)
inductive Reps (K : PySem.W.Frag) (F : Hp) (rho : List (Addr × Addr)) : List V → List D → Prop
  | nil : Reps K F rho [] []
  | cons {v : V} {d : D} {vs : List V} {ds : List D} : Rep K F rho v d → Reps K F rho vs ds → Reps K F rho (v :: vs) (d :: ds)
inductive RepK (K : PySem.W.Frag) (F : Hp) (rho : List (Addr × Addr)) : List (Key × V) → List (Ky × D) → Prop
  | nil : RepK K F rho [] []
  | cons {k : Ky} {v : V} {d : D} {vs : List (Key × V)} {ds : List (Ky × D)} : Rep K F rho v d → RepK K F rho vs ds → RepK K F rho ((kT k, v) :: vs) ((k, d) :: ds)
end
theorem same_rd {F F' : Hp} (e : Same F F') {a : Addr} {u : HO} (h : Rd F a u) : Rd F' a u := by
  rcases h with h | ⟨o, h⟩
  · exact .inl (e _ _ h)
  · exact .inr ⟨o, e _ _ h⟩
theorem same_seqT {K : PySem.W.Frag} {F F' : Hp} (e : Same F F') {a : Addr} {xs : List V} (h : SqT K F a xs) : SqT K F' a xs := by
  rcases h with h | h
  · exact .inl (same_rd e h)
  · exact .inr h
def Pre {A : Type} (l l' : List A) : Prop := ∀ (k : Nat) (x : A), l[k]? = some x → l'[k]? = some x
section
variable {K : PySem.W.Frag} {F F' : Hp} {rho rho' : List (Addr × Addr)} (e : Same F F') (p : Pre rho rho')
include e p
mutual
theorem Rep.mono : ∀ {v : V} {d : D}, Rep K F rho v d → Rep K F' rho' v d
  | _, _, .non => .non
  | _, _, .bl b => .bl b
  | _, _, .int i => .int i
  | _, _, .str s => .str s
  | _, _, .tup h r => .tup (same_seqT e h) (Reps.mono r)
  | _, _, .lst h r => .lst (Same.seq e h) (Reps.mono r)
  | _, _, .dct h r => .dct (same_rd e h) (RepK.mono r)
  | _, _, .obj h => .obj (p _ _ h)
theorem Reps.mono : ∀ {vs : List V} {ds : List D}, Reps K F rho vs ds → Reps K F' rho' vs ds
  | _, _, .nil => .nil
  | _, _, .cons h r => .cons (Rep.mono h) (Reps.mono r)
theorem RepK.mono : ∀ {vs : List (Key × V)} {ds : List (Ky × D)}, RepK K F rho vs ds → RepK K F' rho' vs ds
  | _, _, .nil => .nil
  | _, _, .cons h r => .cons (Rep.mono h) (RepK.mono r)
end
end

/-! ### the ghost: what is frozen, who owns an address, where the objects stand, what is to stay -/
inductive Tag where
  | frz | slot (i : Nat) | ob (k : Nat) | dc (k : Nat) | rest | tmp | un | lk
  deriving DecidableEq
structure Gh where
  F : Hp
  own : Addr → Tag
  rho : List (Addr × Addr)
  R : Hp
  /-- what is locked, and for which place of the store -/
  L : Addr → Option (HO × Nat)
/-- what is to stay: things stand as they are, tables of code objects may have grown -/
structure RLe (R R' : Hp) : Prop where
  st : ∀ a o, R a = some o → (∀ ps, o ≠ .tbl ps) → R' a = some o
  tb : ∀ a ps, R a = some (.tbl ps) → TriplesOk ps.toList → ∃ ps', R' a = some (.tbl ps') ∧ TriplesOk ps'.toList
theorem RLe.refl (R : Hp) : RLe R R := ⟨fun _ _ h _ => h, fun _ ps h t => ⟨ps, h, t⟩⟩
theorem RLe.trans {R1 R2 R3 : Hp} (a : RLe R1 R2) (b : RLe R2 R3) : RLe R1 R3 := ⟨fun x o h n => b.st x o (a.st x o h n) n, fun x ps h t => by
  obtain ⟨ps', h', t'⟩ := a.tb x ps h t
  exact b.tb x ps' h' t'⟩
theorem RLe.of {R R' : Hp} (e : R' = R) : RLe R R' := e ▸ RLe.refl _
structure Gh.le (G G' : Gh) : Prop where
  F : Same G.F G'.F
  rho : Pre G.rho G'.rho
  R : RLe G.R G'.R
  L : G'.L = G.L
theorem Gh.le.refl (G : Gh) : G.le G := ⟨Same.refl _, fun _ _ h => h, RLe.refl _, rfl⟩
theorem Gh.le.trans {G1 G2 G3 : Gh} (a : G1.le G2) (b : G2.le G3) : G1.le G3 := ⟨a.F.trans b.F, fun k x h => b.rho k x (a.rho k x h), a.R.trans b.R, b.L.trans a.L⟩
/-! ### the tables of the code objects of the defs that make generators -/
def genNames : List Str := ["is_number", "body_at", "can_move", "ring_groups", "check_run", "makes_input", "check_failure"]
def tabA (K : PySem.W.Frag) (c : Addr) : Addr := match (K.lookup c).map Obj.data with
  | some (Data.fields vs) => (match vs.getD 11 .none with
    | .ref P => P
    | _ => 0)
  | _ => 0
def codeA (K : PySem.W.Frag) (x : Str) : Option Addr := match PySem.W.nsIn K mainGlobals x with
  | some (some (.ref f)) => (match (K.lookup f).map Obj.data with
    | some (Data.func fd) => (match fd.code with
      | .ref c => some c
      | _ => none)
    | _ => none)
  | _ => none
def tabsK (K : PySem.W.Frag) : List (Addr × Addr) := genNames.filterMap fun x => (codeA K x).map fun c => (c, tabA K c)
/-- the tables are among what is to stay -/
def TabsR (K : PySem.W.Frag) (R : Hp) : Prop := ∀ p ∈ tabsK K, ∃ ps, R p.2 = some (.tbl ps) ∧ TriplesOk ps.toList
theorem TabsR.le {K : PySem.W.Frag} {R R' : Hp} (h : TabsR K R) (l : RLe R R') : TabsR K R' := fun p hp => by
  obtain ⟨ps, h1, h2⟩ := h p hp
  exact l.tb _ ps h1 h2
section
variable (K : PySem.W.Frag) (mg : Ev)
/-- a cell's content at a -/
def CR (G : Gh) (H : Hp) (a : Addr) : C → Prop
  | .lst ds => ∃ vs, H a = some (.lst vs) ∧ Reps K G.F G.rho vs ds
  | .dct kds => ∃ kvs, H a = some (.dK kvs) ∧ RepK K G.F G.rho kvs kds
def RB (G : Gh) (H : Hp) (t : Tag) (v : V) : B → Prop
  | .dat d => Rep K G.F G.rho v d
  | .cel c => ∃ a, v = .ref a ∧ G.own a = t ∧ CR K G H a c
  | .exn _ => False
/-- the fields of an exception of the class c -/
def XFs (G : Gh) (c : Nat) (vs : List (Str × V)) (fs : List D) : Prop := ∀ (i : Nat) (f : Str), (clay c)[i]? = some f → ∃ v d, vs.lookup f = some v ∧ fs[i]? = some d ∧ Rep K G.F G.rho v d
/-- what the i-th name holds -/
def RS (G : Gh) (H : Hp) (i : Nat) (v : V) : B → Prop
  | .dat d => Rep K G.F G.rho v d
  | .cel c => ∃ a, v = .ref a ∧ G.own a = .slot i ∧ CR K G H a c
  | .exn x => ∃ a Ca d, v = .ref a ∧ mg.hx = some (a, .ref Ca, d) ∧ mg.mg (cnm x.cls) = some (.ref Ca) ∧ ((d = none ∧ clay x.cls = []) ∨ ∃ dd vs, d = some dd ∧ G.own dd = .slot i ∧ H dd = some (.xd vs) ∧ XFs K G x.cls vs x.fs)
/-- the fields of an object of the class c -/
structure OF (G : Gh) (c : Nat) (vs : List (Str × V)) (fs : List (Option D)) : Prop where
  len : fs.length = (clay c).length
  at_ : ∀ (i : Nat) (f : Str), (clay c)[i]? = some f → (∀ d, fs[i]? = some (some d) → ∃ v, vs.lookup f = some v ∧ Rep K G.F G.rho v d) ∧ (fs[i]? = some none → vs.lookup f = none)
  out : ∀ f, f ∉ clay c → vs.lookup f = none
  few : vs.length ≤ fs.countP Option.isSome
def ObR (G : Gh) (H : Hp) (k : Nat) (a dx : Addr) : Sc → Prop
  | .ob c fs => G.own a = .ob k ∧ G.own dx = .dc k ∧ (∃ Cl vs, mg.mg (cnm c) = some (.ref Cl) ∧ H a = some (.ins Cl dx vs) ∧ OF K G c vs fs) ∧ H dx = some (.own a)
  | .cel c => G.own a = .ob k ∧ CR K G H a c
  | .lck kds => ∃ o kvs, G.L a = some (.frz o (.dK kvs), k) ∧ RepK K G.F G.rho kvs kds
  | .dead => True
/-- all but the frame -/
structure SimO (G : Gh) (so : So) (H : Hp) : Prop where
  fr : ∀ a o, G.F a = some o → H a = some o ∧ G.own a = .frz
  re : ∀ a o, G.R a = some o → H a = some o ∧ G.own a = .rest
  len : so.length = G.rho.length
  ob : ∀ k o a dx, so[k]? = some o → G.rho[k]? = some (a, dx) → ObR K mg G H k a dx o
  lk : ∀ a o, G.L a = some o → H a = some o.1 ∧ G.own a = .lk
  tb : TabsR K G.R
structure Sim (G : Gh) (en : En) (so : So) (σ : L2.St) (H : Hp) : Prop extends SimO K mg G so H where
  ln : en.length = σ.length
  sl : ∀ (i : Nat) (b : B), en[i]? = some (some b) → ∃ v, σ[i]? = some (some v) ∧ RS K mg G H i v b
/-- an exception -/
def XR (G : Gh) (H : Hp) (x : Xc) (Cl : Value) (d : Option Addr) : Prop :=
  ∃ Ca, Cl = .ref Ca ∧ mg.mg (cnm x.cls) = some (.ref Ca) ∧ ((d = none ∧ clay x.cls = []) ∨ ∃ da vs, d = some da ∧ H da = some (.xd vs) ∧ G.own da = .un ∧ XFs K G x.cls vs x.fs)
/-- the reading of a step of the data level: Rl: how its result stands -/
def Post {A A' : Type} (G : Gh) (W : WX) (Rl : Gh → Hp → A' → A → Prop) (σ : L2.St) (r : Re A) (Q : A' → Hp → Prop) : Prop := match r with
  | .ok a en so => ∀ v H' G', G.le G' → Sim K mg G' en so σ H' → Rl G' H' v a → Q v H'
  | .exc x en so => ∀ Cl d H' G', G.le G' → Sim K mg G' en so σ H' → XR K mg G' H' x Cl d → W Cl d σ H'
  | .no => False
def tM {A A' : Type} (W : WX) (Rl : Gh → Hp → A' → A → Prop) (m : M A) : L2.St → Hp → (A' → Hp → Prop) → Prop := fun σ H Q => ∃ G en so, Sim K mg G en so σ H ∧ Post K mg G W Rl σ (m en so) Q
abbrev rlD : Gh → Hp → V → D → Prop := fun G _ v d => Rep K G.F G.rho v d
abbrev rlDs : Gh → Hp → List V → List D → Prop := fun G _ v d => Reps K G.F G.rho v d
abbrev rlB : Gh → Hp → V → B → Prop := fun G H v b => RB K G H .tmp v b
abbrev rlT : Gh → Hp → Bool → Bool → Prop := fun _ _ b c => b = c
/-- how a block or statement ends -/
inductive Fl where
  | nx | rt (b : B) | bk | ct
def SPost (G : Gh) (W : WX) (r : Re Fl) (E : Ends) : Prop := match r with
  | .ok .nx en so => ∀ σ' H' G', G.le G' → Sim K mg G' en so σ' H' → E.nx σ' H'
  | .ok .bk en so => ∀ σ' H' G', G.le G' → Sim K mg G' en so σ' H' → E.bk σ' H'
  | .ok .ct en so => ∀ σ' H' G', G.le G' → Sim K mg G' en so σ' H' → E.ct σ' H'
  | .ok (.rt b) en so => ∀ v σ' H' G', G.le G' → Sim K mg G' en so σ' H' → RB K G' H' .tmp v b → E.rt v H'
  | .exc x en so => ∀ Cl d σ' H' G', G.le G' → Sim K mg G' en so σ' H' → XR K mg G' H' x Cl d → W Cl d σ' H'
  | .no => False
def tS (W : WX) (m : M Fl) : TS := fun E σ H => ∃ G en so, Sim K mg G en so σ H ∧ SPost K mg G W (m en so) E
end
section
variable {K : PySem.W.Frag} {mg : Ev} {A1 A2 A' A'' : Type}
theorem Post.mono {G G1 : Gh} {W : WX} {Rl : Gh → Hp → A' → A1 → Prop} {σ : L2.St} {r : Re A1} {Q : A' → Hp → Prop} (l : G.le G1) (h : Post K mg G W Rl σ r Q) : Post K mg G1 W Rl σ r Q := by
  cases r with
  | ok a en so => exact fun v H' G' l' => h v H' G' (l.trans l')
  | exc x en so => exact fun Cl d H' G' l' => h Cl d H' G' (l.trans l')
  | no => exact h
theorem SPost.mono {G G1 : Gh} {W : WX} {r : Re Fl} {E : Ends} (l : G.le G1) (h : SPost K mg G W r E) : SPost K mg G1 W r E := by
  cases r with
  | ok a en so => cases a with
    | nx => exact fun σ' H' G' l' => h σ' H' G' (l.trans l')
    | bk => exact fun σ' H' G' l' => h σ' H' G' (l.trans l')
    | ct => exact fun σ' H' G' l' => h σ' H' G' (l.trans l')
    | rt b => exact fun v σ' H' G' l' => h v σ' H' G' (l.trans l')
  | exc x en so => exact fun Cl d σ' H' G' l' => h Cl d σ' H' G' (l.trans l')
  | no => exact h
theorem Post.imp {G : Gh} {W : WX} {Rl : Gh → Hp → A' → A1 → Prop} {σ : L2.St} {r : Re A1} {Q Q' : A' → Hp → Prop} (h : Post K mg G W Rl σ r Q) (f : ∀ v H, Q v H → Q' v H) : Post K mg G W Rl σ r Q' := by
  cases r with
  | ok a en so => exact fun v H' G' l s r => f v H' (h v H' G' l s r)
  | exc x en so => exact h
  | no => exact h
/-- one step, then what follows -/
theorem Post.bind {G : Gh} {W : WX} {R1 : Gh → Hp → A' → A1 → Prop} {R2 : Gh → Hp → A'' → A2 → Prop} {m : M A1} {k : A1 → M A2} {en : En} {so : So} {σ : L2.St} {Q : A'' → Hp → Prop} (p : Post K mg G W R2 σ (bd m k en so) Q) :
    Post K mg G W R1 σ (m en so) fun v H1 => ∃ G1 en1 so1 a, G.le G1 ∧ R1 G1 H1 v a ∧ Sim K mg G1 en1 so1 σ H1 ∧ Post K mg G1 W R2 σ (k a en1 so1) Q := by
  unfold bd at p
  unfold Post
  cases e : m en so with
  | ok a en1 so1 =>
    rw [e] at p
    exact fun v H' G' l s' r => ⟨G', en1, so1, a, l, r, s', p.mono l⟩
  | exc x en1 so1 =>
    rw [e] at p
    exact p
  | no =>
    rw [e] at p
    exact p
/-- .. where the follower is a statement's -/
theorem SPost.bind {G : Gh} {W : WX} {R1 : Gh → Hp → A' → A1 → Prop} {m : M A1} {k : A1 → M Fl} {en : En} {so : So} {σ : L2.St} {E : Ends} (p : SPost K mg G W (bd m k en so) E) :
    Post K mg G W R1 σ (m en so) fun v H1 => ∃ G1 en1 so1 a, G.le G1 ∧ R1 G1 H1 v a ∧ Sim K mg G1 en1 so1 σ H1 ∧ SPost K mg G1 W (k a en1 so1) E := by
  unfold bd at p
  unfold Post
  cases e : m en so with
  | ok a en1 so1 =>
    rw [e] at p
    exact fun v H' G' l s' r => ⟨G', en1, so1, a, l, r, s', p.mono l⟩
  | exc x en1 so1 =>
    rw [e] at p
    exact fun Cl d H' G' l s' x' => p Cl d σ H' G' l s' x'
  | no =>
    rw [e] at p
    exact p
theorem Post.ok {G : Gh} {W : WX} {Rl : Gh → Hp → A' → A1 → Prop} {σ : L2.St} {en : En} {so : So} {H : Hp} {Q : A' → Hp → Prop} {a : A1} {v : A'} (h : Post K mg G W Rl σ (.ok a en so) Q) (s : Sim K mg G en so σ H) (r : Rl G H v a) : Q v H := h v H G (.refl G) s r
theorem Post.ok' {G G' : Gh} {W : WX} {Rl : Gh → Hp → A' → A1 → Prop} {σ : L2.St} {en : En} {so : So} {H' : Hp} {Q : A' → Hp → Prop} {a : A1} {v : A'} (h : Post K mg G W Rl σ (.ok a en so) Q) (l : G.le G') (s : Sim K mg G' en so σ H') (r : Rl G' H' v a) : Q v H' := h v H' G' l s r
theorem Post.gd {G : Gh} {W : WX} {Rl : Gh → Hp → A' → A1 → Prop} {σ : L2.St} {c : Prop} [Decidable c] {m : M A1} {en : En} {so : So} {Q : A' → Hp → Prop} (h : Post K mg G W Rl σ (gd c m en so) Q) : c ∧ Post K mg G W Rl σ (m en so) Q := by
  unfold Dl.gd at h
  by_cases hc : c
  · rw [if_pos hc] at h; exact ⟨hc, h⟩
  · rw [if_neg hc] at h; exact False.elim h
theorem Rep.up {G G' : Gh} {v : V} {d : D} (r : Rep K G.F G.rho v d) (l : G.le G') : Rep K G'.F G'.rho v d := r.mono l.F l.rho
theorem Reps.up {G G' : Gh} {v : List V} {d : List D} (r : Reps K G.F G.rho v d) (l : G.le G') : Reps K G'.F G'.rho v d := r.mono l.F l.rho
end

/-! ### the judgements -/
structure DE (X : Cx) (W : WX) (e : Expr) (m : M D) : Prop where
  pe : PE X e (tM X.K X.ev W (rlD X.K) m)
structure DB (X : Cx) (W : WX) (e : Expr) (m : M B) : Prop where
  pe : PE X e (tM X.K X.ev W (rlB X.K) m)
structure DT (X : Cx) (W : WX) (e : Expr) (m : M Bool) : Prop where
  pt : PT X e (tM X.K X.ev W rlT m)
structure DW (X : Cx) (W : WX) (e : Expr) (m : M Bool) : Prop where
  pw : PW X e (tM X.K X.ev W rlT m)
structure DA (X : Cx) (W : WX) (es : List Expr) (m : M (List D)) : Prop where
  pa : PA X es (tM X.K X.ev W (rlDs X.K) m)
structure DS (X : Cx) (W : WX) (st : Stmt) (m : M Fl) : Prop where
  ps : PS X st (tS X.K X.ev W m)
structure DSs (X : Cx) (W : WX) (st : List Stmt) (m : M Fl) : Prop where
  ps : PSs X st (tS X.K X.ev W m)
section
variable {X : Cx}
theorem PE_imp {e : Expr} {t t' : TE} (h : PE X e t) (f : ∀ σ H Q, t' σ H Q → t σ H Q) : PE X e t' := ⟨fun pins s σ H Q I q => h.run pins s σ H Q I (f σ H Q q)⟩
theorem PT_imp {e : Expr} {t t' : TT} (h : PT X e t) (f : ∀ σ H Q, t' σ H Q → t σ H Q) : PT X e t' := ⟨fun pins s σ H Q I q => h.run pins s σ H Q I (f σ H Q q)⟩
theorem PW_imp {e : Expr} {t t' : TT} (h : PW X e t) (f : ∀ σ H Q, t' σ H Q → t σ H Q) : PW X e t' := ⟨fun wh pins s σ H Q I q => h.run wh pins s σ H Q I (f σ H Q q)⟩
theorem PA_imp {es : List Expr} {t t' : TA} (h : PA X es t) (f : ∀ σ H Q, t' σ H Q → t σ H Q) : PA X es t' := ⟨fun pos pins s σ H Q I q => h.run pos pins s σ H Q I (f σ H Q q)⟩
theorem PS_imp {st : Stmt} {t t' : TS} (h : PS X st t) (f : ∀ E σ H, t' E σ H → t E σ H) : PS X st t' := ⟨fun pins s σ H E I q => h.run pins s σ H E I (f E σ H q)⟩
theorem PSs_imp {st : List Stmt} {t t' : TS} (h : PSs X st t) (f : ∀ E σ H, t' E σ H → t E σ H) : PSs X st t' := ⟨fun pins s σ H E I q => h.run pins s σ H E I (f E σ H q)⟩
end
end
end Dl

set_option Elab.async false
set_option linter.all false
set_option maxRecDepth 100000
set_option maxHeartbeats 1000000
/-! The data level: how the ghost changes; names, constants, operators, tests. -/
namespace Dl
open PySem PySem.Spec PyProof.Rows L2
noncomputable section
section
variable {K : PySem.W.Frag} {mg : Ev} {G G' : Gh} {H H' : Hp} {en : En} {so : So} {σ : L2.St}
theorem CR.keep {a : Addr} {c : C} (F : Same G.F G'.F) (rho : Pre G.rho G'.rho) (h : CR K G H a c) (k : ∀ o, H a = some o → H' a = some o) : CR K G' H' a c := by
  cases c with
  | lst ds => obtain ⟨vs, e, r⟩ := h; exact ⟨vs, k _ e, r.mono F rho⟩
  | dct kds => obtain ⟨vs, e, r⟩ := h; exact ⟨vs, k _ e, r.mono F rho⟩
theorem CR.at {a : Addr} {c : C} (h : CR K G H a c) : ∃ o, H a = some o := by
  cases c with
  | lst ds => obtain ⟨vs, e, r⟩ := h; exact ⟨_, e⟩
  | dct kds => obtain ⟨vs, e, r⟩ := h; exact ⟨_, e⟩
theorem RB.keep {t : Tag} {v : V} {b : B} (F : Same G.F G'.F) (rho : Pre G.rho G'.rho) (h : RB K G H t v b) (k : ∀ a o, H a = some o → G.own a = t → H' a = some o ∧ G'.own a = t) : RB K G' H' t v b := by
  cases b with
  | dat d => exact Rep.mono F rho h
  | cel c =>
    obtain ⟨a, e, o, r⟩ := h
    obtain ⟨u, hu⟩ := r.at
    exact ⟨a, e, (k a u hu o).2, r.keep F rho fun x hx => (k a x hx o).1⟩
  | exn _ => exact h
theorem XFs.mono {c : Nat} {vs : List (Str × V)} {fs : List D} (F : Same G.F G'.F) (rho : Pre G.rho G'.rho) (h : XFs K G c vs fs) : XFs K G' c vs fs := fun i f e => by
  obtain ⟨v, d, h1, h2, h3⟩ := h i f e
  exact ⟨v, d, h1, h2, h3.mono F rho⟩
theorem RS.keep {i : Nat} {v : V} {b : B} (F : Same G.F G'.F) (rho : Pre G.rho G'.rho) (h : RS K mg G H i v b) (k : ∀ a o, H a = some o → G.own a = .slot i → H' a = some o ∧ G'.own a = .slot i) : RS K mg G' H' i v b := by
  cases b with
  | dat d => exact Rep.mono F rho h
  | cel c =>
    obtain ⟨a, e, o, r⟩ := h
    obtain ⟨u, hu⟩ := r.at
    exact ⟨a, e, (k a u hu o).2, r.keep F rho fun x hx => (k a x hx o).1⟩
  | exn x =>
    obtain ⟨a, Ca, d, e1, e2, e3, h⟩ := h
    refine ⟨a, Ca, d, e1, e2, e3, h.elim .inl fun ⟨dd, vs, h1, h2, h3, h4⟩ => .inr ⟨dd, vs, h1, (k dd _ h3 h2).2, (k dd _ h3 h2).1, h4.mono F rho⟩⟩
/-- .. where tables of code objects may have grown -/
theorem RS.keepN {i : Nat} {v : V} {b : B} (F : Same G.F G'.F) (rho : Pre G.rho G'.rho) (h : RS K mg G H i v b) (k : ∀ a o, (∀ ps, o ≠ .tbl ps) → H a = some o → G.own a = .slot i → H' a = some o ∧ G'.own a = .slot i) : RS K mg G' H' i v b := by
  cases b with
  | dat d => exact Rep.mono F rho h
  | cel c =>
    obtain ⟨a, e, o, r⟩ := h
    cases c with
    | lst ds =>
      obtain ⟨vs, e1, r1⟩ := r
      obtain ⟨k1, k2⟩ := k a _ (fun ps z => by cases z) e1 o
      exact ⟨a, e, k2, vs, k1, r1.mono F rho⟩
    | dct kds =>
      obtain ⟨vs, e1, r1⟩ := r
      obtain ⟨k1, k2⟩ := k a _ (fun ps z => by cases z) e1 o
      exact ⟨a, e, k2, vs, k1, r1.mono F rho⟩
  | exn x =>
    obtain ⟨a, Ca, d, e1, e2, e3, h⟩ := h
    refine ⟨a, Ca, d, e1, e2, e3, h.elim .inl fun ⟨dd, vs, h1, h2, h3, h4⟩ => ?_⟩
    obtain ⟨k1, k2⟩ := k dd _ (fun ps z => by cases z) h3 h2
    exact .inr ⟨dd, vs, h1, k2, k1, h4.mono F rho⟩
theorem OF.mono {c : Nat} {vs : List (Str × V)} {fs : List (Option D)} (F : Same G.F G'.F) (rho : Pre G.rho G'.rho) (h : OF K G c vs fs) : OF K G' c vs fs :=
  ⟨h.len, fun i f e => ⟨fun d hd => by
    obtain ⟨v, h1, h2⟩ := (h.at_ i f e).1 d hd
    exact ⟨v, h1, h2.mono F rho⟩, (h.at_ i f e).2⟩, h.out, h.few⟩
theorem ObR.keep {k : Nat} {a dx : Addr} {o : Sc} (h : ObR K mg G H k a dx o) (F : Same G.F G'.F) (rho : Pre G.rho G'.rho) (kp : ∀ b u, H b = some u → (G.own b = .ob k ∨ G.own b = .dc k) → H' b = some u ∧ G'.own b = G.own b) (eL : ∀ u, G.L a = some (u, k) → G'.L a = some (u, k) := by intro _ h; exact h) : ObR K mg G' H' k a dx o := by
  cases o with
  | ob cls fs =>
    obtain ⟨oa, od, ⟨Cl, vs, c1, c2, c3⟩, d⟩ := h
    obtain ⟨k1, k2⟩ := kp a _ c2 (.inl oa)
    obtain ⟨k3, k4⟩ := kp dx _ d (.inr od)
    exact ⟨k2.trans oa, k4.trans od, ⟨Cl, vs, c1, k1, c3.mono F rho⟩, k3⟩
  | cel c =>
    obtain ⟨oa, cr⟩ := h
    obtain ⟨u, hu⟩ := cr.at
    exact ⟨(kp a u hu (.inl oa)).2.trans oa, cr.keep F rho fun o e => (kp a o e (.inl oa)).1⟩
  | lck kds =>
    obtain ⟨o, kvs, h1, h2⟩ := h
    exact ⟨o, kvs, eL _ h1, h2.mono F rho⟩
  | dead => trivial
/-- what no change touches -/
theorem SimO.keep (s : SimO K mg G so H) (F : Same G.F G'.F) (er : G'.rho = G.rho) (eR : G'.R = G.R)
    (kp : ∀ a o, H a = some o → G.own a ≠ .tmp → (∀ i, G.own a ≠ .slot i) → H' a = some o ∧ G'.own a = G.own a)
    (nF : ∀ a o, G'.F a = some o → G.F a = some o ∨ (H' a = some o ∧ G'.own a = .frz)) (eL : G'.L = G.L := by rfl) : SimO K mg G' so H' := by
  have pr : Pre G.rho G'.rho := fun k x h => by rw [er]; exact h
  refine ⟨fun a o e => ?_, fun a o e => ?_, by rw [er]; exact s.len, fun k o a dx e1 e2 => ?_, fun a o e => ?_, by rw [eR]; exact s.tb⟩
  · rcases nF a o e with e | e
    · obtain ⟨h1, h2⟩ := s.fr a o e
      obtain ⟨k1, k2⟩ := kp a o h1 (by rw [h2]; intro z; cases z) (by intro i; rw [h2]; intro z; cases z)
      exact ⟨k1, k2.trans h2⟩
    · exact e
  · rw [eR] at e
    obtain ⟨h1, h2⟩ := s.re a o e
    obtain ⟨k1, k2⟩ := kp a o h1 (by rw [h2]; intro z; cases z) (by intro i; rw [h2]; intro z; cases z)
    exact ⟨k1, k2.trans h2⟩
  · rw [er] at e2
    refine (s.ob k o a dx e1 e2).keep F pr (fun b u h1 h2 => kp b u h1 ?_ ?_) (fun u h => by rw [eL]; exact h)
    · rcases h2 with h2 | h2 <;> (rw [h2]; intro z; cases z)
    · intro i; rcases h2 with h2 | h2 <;> (rw [h2]; intro z; cases z)
  · rw [eL] at e
    obtain ⟨h1, h2⟩ := s.lk a o e
    obtain ⟨k1, k2⟩ := kp a _ h1 (by rw [h2]; intro z; cases z) (by intro i; rw [h2]; intro z; cases z)
    exact ⟨k1, k2.trans h2⟩
theorem Sim.keep (s : Sim K mg G en so σ H) (F : Same G.F G'.F) (er : G'.rho = G.rho) (eR : G'.R = G.R)
    (kp : ∀ a o, H a = some o → G.own a ≠ .tmp → H' a = some o ∧ G'.own a = G.own a)
    (nF : ∀ a o, G'.F a = some o → G.F a = some o ∨ (H' a = some o ∧ G'.own a = .frz)) (eL : G'.L = G.L := by rfl) : Sim K mg G' en so σ H' := by
  refine ⟨s.toSimO.keep F er eR (fun a o e h1 _ => kp a o e h1) nF eL, s.ln, fun i b e => ?_⟩
  obtain ⟨v, e1, r⟩ := s.sl i b e
  refine ⟨v, e1, r.keep F (fun k x h => by rw [er]; exact h) fun a o h1 h2 => ?_⟩
  obtain ⟨k1, k2⟩ := kp a o h1 (by rw [h2]; intro z; cases z)
  exact ⟨k1, k2.trans h2⟩
def _root_.Dl.Gh.tag (G : Gh) (p : Addr) (t : Tag) : Gh := { G with own := fun b => if b = p then t else G.own b }
def _root_.Dl.Gh.frzn (G : Gh) (p : Addr) (o : HO) : Gh := { G with F := upd G.F p o, own := fun b => if b = p then .frz else G.own b }
theorem tag_le (p : Addr) (t : Tag) : G.le (G.tag p t) := ⟨Same.refl _, fun _ _ h => h, RLe.refl _, rfl⟩
theorem tag_own {p : Addr} {t : Tag} : (G.tag p t).own p = t := by show (if p = p then t else G.own p) = t; rw [if_pos rfl]
theorem tag_ne {p b : Addr} {t : Tag} (h : b ≠ p) : (G.tag p t).own b = G.own b := by show (if b = p then t else G.own b) = _; rw [if_neg h]
/-- a new thing, frozen at once -/
theorem Sim.newF {p : Addr} {o : HO} (s : Sim K mg G en so σ H) (hp : H p = none) : Sim K mg (G.frzn p o) en so σ (upd H p o) ∧ G.le (G.frzn p o) := by
  have nF : G.F p = none := by
    cases e : G.F p with
    | none => rfl
    | some u => rw [(s.fr p u e).1] at hp; cases hp
  have sF : Same G.F (upd G.F p o) := fun b u e => by rw [upd_ne (ne_of_none e nF)]; exact e
  refine ⟨s.keep sF rfl rfl (fun a u e _ => ?_) (fun a u e => ?_), sF, fun _ _ h => h, RLe.refl _, rfl⟩
  · have np := ne_of_none e hp
    exact ⟨by rw [upd_ne np]; exact e, if_neg np⟩
  · by_cases hb : a = p
    · subst hb
      have e' : upd G.F a o a = some u := e
      rw [upd_same] at e'
      cases e'
      exact .inr ⟨upd_same, if_pos rfl⟩
    · have e' : upd G.F p o a = some u := e
      rw [upd_ne hb] at e'
      exact .inl e'
/-- a new thing, somebody's -/
theorem Sim.newT {p : Addr} {o : HO} {t : Tag} (s : Sim K mg G en so σ H) (hp : H p = none) : Sim K mg (G.tag p t) en so σ (upd H p o) := by
  refine s.keep (Same.refl _) rfl rfl (fun a u e _ => ?_) (fun a u e => .inl e)
  have np := ne_of_none e hp
  exact ⟨by rw [upd_ne np]; exact e, if_neg np⟩
/-- what a result holds alone is frozen -/
theorem Sim.freeze {a : Addr} {o : HO} (s : Sim K mg G en so σ H) (w : G.own a = .tmp) (h : H a = some o) : Sim K mg (G.frzn a o) en so σ H ∧ G.le (G.frzn a o) := by
  have nF : G.F a = none := by
    cases e : G.F a with
    | none => rfl
    | some u =>
      have := (s.fr a u e).2
      rw [w] at this; cases this
  have sF : Same G.F (upd G.F a o) := fun b u e => by rw [upd_ne (ne_of_none e nF)]; exact e
  refine ⟨s.keep sF rfl rfl (fun b u e q => ?_) (fun b u e => ?_), sF, fun _ _ h => h, RLe.refl _, rfl⟩
  · have nb : b ≠ a := fun z => q (by rw [z]; exact w)
    exact ⟨e, if_neg nb⟩
  · by_cases hb : b = a
    · subst hb
      have e' : upd G.F b o b = some u := e
      rw [upd_same] at e'
      cases e'
      exact .inr ⟨h, if_pos rfl⟩
    · have e' : upd G.F a o b = some u := e
      rw [upd_ne hb] at e'
      exact .inl e'
theorem Rep.lstF {K : PySem.W.Frag} {F : Hp} {rho : List (Addr × Addr)} {a : Addr} {vs : List V} {ds : List D} (h : F a = some (.lst vs)) (r : Reps K F rho vs ds) : Rep K F rho (.ref a) (.lst ds) := .lst (SqL.of h) r
/-- a cell's content, frozen, is data -/
theorem Sim.toD {v : V} {b : B} (s : Sim K mg G en so σ H) (r : RB K G H .tmp v b) : ∃ G', G.le G' ∧ Sim K mg G' en so σ H ∧ Rep K G'.F G'.rho v b.toD := by
  cases b with
  | dat d => exact ⟨G, .refl G, s, r⟩
  | exn _ => exact r.elim
  | cel c =>
    obtain ⟨a, rfl, w, cr⟩ := r
    cases c with
    | lst ds =>
      obtain ⟨vs, e, r⟩ := cr
      obtain ⟨s', l⟩ := s.freeze w e
      exact ⟨_, l, s', .lst (SqL.of (show (upd G.F a (.lst vs)) a = _ from upd_same)) (r.mono l.F l.rho)⟩
    | dct kds =>
      obtain ⟨vs, e, r⟩ := cr
      obtain ⟨s', l⟩ := s.freeze w e
      exact ⟨_, l, s', .dct (.inl (show (upd G.F a (.dK vs)) a = _ from upd_same)) (r.mono l.F l.rho)⟩
end

/-! ### names, constants -/
def mV (i : Nat) : M D := fun en so => match en[i]? with
  | some (some (.dat d)) => .ok d en so
  | _ => .no
section
variable {X : Cx} {W : WX}
theorem d_var (i : Nat) {x : Str} {pos : Pos} (hN : X.N[i]? = some x := by rfl) (hv : Vis X.env.scope x := by first | exact Or.inl rfl | exact Or.inr (Or.inl rfl) | exact Or.inr (Or.inr rfl)) (hd : (x == ("__debug__" : Str)) = false := by decide)
    (hcd : (x == ("__classdict__" : Str)) = false := by decide) : DE X W (.Name x pos) (mV i) := by
  refine ⟨PE_imp (pe_var hN hv hd hcd) fun σ H Q h => ?_⟩
  obtain ⟨G, en, so, s, p⟩ := h
  unfold mV at p
  split at p
  · rename_i d e
    obtain ⟨v, e1, r⟩ := s.sl i _ e
    exact ⟨v, e1, p.ok s r⟩
  · exact p.elim
theorem d_c {e : Expr} {v : V} {d : D} (h : PE X e (tC v)) (r : ∀ F rho, Rep X.K F rho v d) : DE X W e (pu d) :=
  ⟨PE_imp h fun σ H Q ⟨G, en, so, s, p⟩ => Post.ok (v := v) p s (r _ _)⟩
theorem d_int {i j pos} : DE X W (.Constant (.int i) j pos) (pu (.int i)) := d_c pe_int fun _ _ => .int i
theorem d_bl {b j pos} : DE X W (.Constant (.bool b) j pos) (pu (.bl b)) := d_c pe_bl fun _ _ => .bl b
theorem d_non {j pos} : DE X W (.Constant .none j pos) (pu .non) := d_c pe_non fun _ _ => .non
theorem sT_tl (x : Str) : sT x.cps.toList = x := TL.mk_tl x
theorem tl_sT (l : List Nat) : (sT l).cps.toList = l := TL.tl_mk l
theorem Rep.of_str {K : PySem.W.Frag} {F : Hp} {rho : List (Addr × Addr)} (x : Str) {l : List Nat} (e : x.cps.toList = l) : Rep K F rho (.str x) (.str l) := by
  subst e
  have := Rep.str (K := K) (F := F) (rho := rho) x.cps.toList
  rwa [sT_tl] at this
theorem d_str {x j pos} {l : List Nat} (e : x.cps.toList = l := by rfl) : DE X W (.Constant (.str x) j pos) (pu (.str l)) := d_c pe_str fun _ _ => .of_str x e
/-- a constant of the module -/
theorem d_gi {x : Str} {i : Int} {pos : Pos} (hg : Gl X x) (hm : ∃ t, X.mg x = some (.int i t)) (hd : (x == ("__debug__" : Str)) = false := by decide) : DE X W (.Name x pos) (pu (.int i)) := by
  obtain ⟨t, hm⟩ := hm
  exact d_c (pe_glob hg hm (v := .int i) ⟨t, rfl⟩ hd) fun _ _ => .int i
theorem d_gs {x : Str} {l : List Nat} {pos : Pos} (hg : Gl X x) (hm : ∃ z t, X.mg x = some (.str z t) ∧ z.cps.toList = l) (hd : (x == ("__debug__" : Str)) = false := by decide) : DE X W (.Name x pos) (pu (.str l)) := by
  obtain ⟨z, t, hm, e⟩ := hm
  exact d_c (pe_glob hg hm (v := .str z) ⟨t, rfl⟩ hd) fun _ _ => .of_str z e
end

/-! ### operators by values -/
/-- r's demands are met where f gives data -/
def Op2 (K : PySem.W.Frag) (mg : Ev) (r : R2) (f : D → D → M D) : Prop :=
  ∀ (x y : V) (d e : D) (G : Gh) (en : En) (so : So) (σ : L2.St) (H : Hp) (W : WX) (Q : VK), Rep K G.F G.rho x d → Rep K G.F G.rho y e → Sim K mg G en so σ H → Post K mg G W (rlD K) σ (f d e en so) Q → r x y H Q
def m2 (f : D → D → M D) (a b : M D) : M D := bd a fun d => bd b fun e => f d e
section
variable {X : Cx} {W : WX} {a b c : Expr} {ma mb mc : M D} {pos : Pos}
/-- two expressions in a row -/
theorem two {f : D → D → M D} {r : R2} (h : Op2 X.K X.ev r f) {σ : L2.St} {H : Hp} {Q : VK} (q : tM X.K X.ev W (rlD X.K) (m2 f ma mb) σ H Q) :
    tOp r (tM X.K X.ev W (rlD X.K) ma) (tM X.K X.ev W (rlD X.K) mb) σ H Q := by
  obtain ⟨G, en, so, s, p⟩ := q
  exact ⟨G, en, so, s, (Post.bind (R1 := rlD X.K) p).imp fun v H1 ⟨G1, en1, so1, d, _, r1, s1, p1⟩ => ⟨G1, en1, so1, s1, (Post.bind (R1 := rlD X.K) p1).imp fun y H2 ⟨G2, en2, so2, e, l2, r2, s2, p2⟩ => h v y d e G2 en2 so2 σ H2 W Q (r1.up l2) r2 s2 p2⟩⟩
theorem d_op {op : Operator} {r : R2} {f : D → D → M D} (ho : OpR X (binaryOp op) r) (h : Op2 X.K X.ev r f) (ha : DE X W a ma) (hb : DE X W b mb) : DE X W (.BinOp a op b pos) (m2 f ma mb) :=
  ⟨PE_imp (pe_op ho ha.pe hb.pe) fun _ _ _ q => two h q⟩
theorem d_cmp {op : CmpOp} {r : R2} {f : D → D → M D} (ho : OpR X (compareOp op) r) (h : Op2 X.K X.ev r f) (ha : DE X W a ma) (hb : DE X W b mb) (hm : behindInMarks op b = false) : DE X W (.Compare a [op] [b] pos) (m2 f ma mb) :=
  ⟨PE_imp (pe_cmpR ho ha.pe hb.pe hm) fun _ _ _ q => two h q⟩
end
end
end Dl

set_option Elab.async false
set_option linter.all false
set_option maxRecDepth 100000
set_option maxHeartbeats 1000000
/-! The data level: operators, tests, calls of built-ins. -/
namespace Dl
open PySem PySem.Spec PyProof.Rows L2
noncomputable section

/-! ### whole numbers, texts -/
def addD : D → D → M D
  | .int a, .int b => pu (.int (a + b))
  | .str a, .str b => gd (a.length + b.length ≤ 16777216) (pu (.str (a ++ b)))
  | _, _ => no
def subD : D → D → M D
  | .int a, .int b => pu (.int (a - b))
  | _, _ => no
def mulD : D → D → M D
  | .int a, .int b => gd ((-(2 ^ 64) < a ∧ a < 2 ^ 64) ∨ (-(2 ^ 64) < b ∧ b < 2 ^ 64)) (pu (.int (a * b)))
  | _, _ => no
def divD : D → D → M D
  | .int a, .int b => gd (0 < b ∧ b < 1073741824) (pu (.int (a / b)))
  | _, _ => no
def modD : D → D → M D
  | .int a, .int b => gd (0 < b) (pu (.int (a % b)))
  | _, _ => no
def ltD : D → D → M D
  | .int a, .int b => pu (.bl (decide (a < b)))
  | _, _ => no
def leD : D → D → M D
  | .int a, .int b => pu (.bl (decide (a ≤ b)))
  | _, _ => no
def gtD : D → D → M D
  | .int a, .int b => pu (.bl (decide (b < a)))
  | _, _ => no
def geD : D → D → M D
  | .int a, .int b => pu (.bl (decide (b ≤ a)))
  | _, _ => no
theorem sT_app (a b : List Nat) : sT a ++ sT b = sT (a ++ b) := TL.ext_tl (by rw [TL.tl_append]; show _ = TL.tl (sT (a ++ b)); simp [TL.tl, sT])
theorem sT_len (a : List Nat) : (sT a).length = a.length := by show (sT a).cps.size = _; simp [sT]
theorem sT_inj {a b : List Nat} (h : sT a = sT b) : a = b := by
  have := congrArg (fun x : Str => x.cps.toList) h
  simpa [sT] using this
theorem sT_eq (a b : List Nat) : (sT a = sT b) ↔ a = b := ⟨sT_inj, fun h => by rw [h]⟩
section
variable {K : PySem.W.Frag} {mg : Ev}
theorem op2_add : Op2 K mg (fun x y H Q => rI0 (fun i j => .int (i + j)) x y H Q ∨ ∃ i j, x = .str i ∧ y = .str j ∧ i.length + j.length ≤ sizeLine ∧ Q (.str (i ++ j)) H) addD := by
  intro x y d e G en so σ H W Q rx ry s p
  cases d <;> cases e <;> try exact False.elim p
  · cases rx; cases ry
    exact .inl ⟨_, _, rfl, rfl, p.ok s (.int _)⟩
  · cases rx; cases ry
    rename_i a b
    obtain ⟨h, p⟩ := Post.gd (c := a.length + b.length ≤ 16777216) p
    refine .inr ⟨_, _, rfl, rfl, ?_, p.ok s (sT_app a b ▸ .str _)⟩
    rw [sT_len, sT_len, sizeLine_eq]; exact h
theorem op2_sub : Op2 K mg (rI0 fun i j => .int (i - j)) subD := by
  intro x y d e G en so σ H W Q rx ry s p
  cases d <;> cases e <;> try exact False.elim p
  cases rx; cases ry
  exact ⟨_, _, rfl, rfl, p.ok s (.int _)⟩
theorem op2_mul : Op2 K mg (rI CMul fun i j => .int (i * j)) mulD := by
  intro x y d e G en so σ H W Q rx ry s p
  cases d <;> cases e <;> try exact False.elim p
  cases rx; cases ry
  rename_i a b
  obtain ⟨h, p⟩ := Post.gd (c := (-(2 ^ 64) < a ∧ a < 2 ^ 64) ∨ (-(2 ^ 64) < b ∧ b < 2 ^ 64)) p
  exact ⟨_, _, rfl, rfl, h, p.ok s (.int _)⟩
theorem op2_div : Op2 K mg (rI CDiv fun i j => .int (i / j)) divD := by
  intro x y d e G en so σ H W Q rx ry s p
  cases d <;> cases e <;> try exact False.elim p
  cases rx; cases ry
  rename_i a b
  obtain ⟨h, p⟩ := Post.gd (c := 0 < b ∧ b < 1073741824) p
  exact ⟨_, _, rfl, rfl, h, p.ok s (.int _)⟩
theorem op2_mod : Op2 K mg (rI (fun _ j => 0 < j) fun i j => .int (i % j)) modD := by
  intro x y d e G en so σ H W Q rx ry s p
  cases d <;> cases e <;> try exact False.elim p
  cases rx; cases ry
  rename_i a b
  obtain ⟨h, p⟩ := Post.gd (c := 0 < b) p
  exact ⟨_, _, rfl, rfl, h, p.ok s (.int _)⟩
theorem op2_lt : Op2 K mg (rI0 fun i j => .bl (decide (i < j))) ltD := by
  intro x y d e G en so σ H W Q rx ry s p
  cases d <;> cases e <;> try exact False.elim p
  cases rx; cases ry
  exact ⟨_, _, rfl, rfl, p.ok s (.bl _)⟩
theorem op2_le : Op2 K mg (rI0 fun i j => .bl (decide (i ≤ j))) leD := by
  intro x y d e G en so σ H W Q rx ry s p
  cases d <;> cases e <;> try exact False.elim p
  cases rx; cases ry
  exact ⟨_, _, rfl, rfl, p.ok s (.bl _)⟩
theorem op2_gt : Op2 K mg (rI0 fun i j => .bl (decide (j < i))) gtD := by
  intro x y d e G en so σ H W Q rx ry s p
  cases d <;> cases e <;> try exact False.elim p
  cases rx; cases ry
  exact ⟨_, _, rfl, rfl, p.ok s (.bl _)⟩
theorem op2_ge : Op2 K mg (rI0 fun i j => .bl (decide (j ≤ i))) geD := by
  intro x y d e G en so σ H W Q rx ry s p
  cases d <;> cases e <;> try exact False.elim p
  cases rx; cases ry
  exact ⟨_, _, rfl, rfl, p.ok s (.bl _)⟩
end

/-! ### tests and truth -/
def mT (m : M D) : M Bool := bd m fun d => match d with
  | .bl b => pu b
  | _ => no
def truD : D → M Bool
  | .non => pu false
  | .bl b => pu b
  | .int i => pu (i != 0)
  | .str s => gd (s.length ≤ 16777216) (pu (s.length != 0))
  | .lst xs => pu (!xs.isEmpty)
  | .tup xs => pu (!xs.isEmpty)
  | _ => no
def mTru (m : M D) : M Bool := bd m truD
def mAnd (a b : M D) : M D := bd a fun d => match d with
  | .bl true => b
  | .bl false => pu (.bl false)
  | _ => no
def mOr (a b : M D) : M D := bd a fun d => match d with
  | .bl true => pu (.bl true)
  | .bl false => b
  | _ => no
def mNot (a : M D) : M D := bd a fun d => match d with
  | .bl b => pu (.bl (!b))
  | _ => no
def tAndM (a b : M Bool) : M Bool := bd a fun c => if c then b else pu false
def tOrM (a b : M Bool) : M Bool := bd a fun c => if c then pu true else b
def tNotM (a : M Bool) : M Bool := bd a fun c => pu (!c)
/-- x op y op' z -/
def mCh (f g : D → D → M D) (a b c : M D) : M D := bd a fun x => bd b fun y => bd (f x y) fun d => match d with
  | .bl true => bd c fun z => g y z
  | .bl false => pu (.bl false)
  | _ => no
section
variable {K : PySem.W.Frag} {F : Hp} {rho : List (Addr × Addr)}
theorem Reps.len : ∀ {vs : List V} {ds : List D}, Reps K F rho vs ds → vs.length = ds.length
  | _, _, .nil => rfl
  | _, _, .cons _ r => by rw [List.length_cons, List.length_cons, Reps.len r]
theorem Reps.isEmpty {vs : List V} {ds : List D} (r : Reps K F rho vs ds) : vs.isEmpty = ds.isEmpty := by cases r <;> rfl
end
section
variable {X : Cx} {W : WX} {a b c e : Expr} {ma mb mc m : M D} {pos : Pos} {rest : List Expr}
theorem SimO.rep {K : PySem.W.Frag} {mg : Ev} {G : Gh} {so : So} {H : Hp} (s : SimO K mg G so H) : Same G.F H := fun a o e => (s.fr a o e).1
/-- a value that is True or False, as a test -/
theorem mT_tr {σ : L2.St} {H : Hp} {Q : Bool → Hp → Prop} (q : tM X.K X.ev W rlT (mT m) σ H Q) : tM X.K X.ev W (rlD X.K) m σ H fun x H1 => ∃ k, x = .bl k ∧ Q k H1 := by
  obtain ⟨G, en, so, s, p⟩ := q
  refine ⟨G, en, so, s, (Post.bind (R1 := rlD X.K) p).imp fun v H1 ⟨G1, en1, so1, d, l, r1, s1, p1⟩ => ?_⟩
  cases d <;> try exact False.elim p1
  cases r1
  exact ⟨_, rfl, p1.ok s1 rfl⟩
theorem d_cmpT {op : CmpOp} {r : R2} {f : D → D → M D} (ho : OpR X (compareOp op) r) (h : Op2 X.K X.ev r f) (ha : DE X W a ma) (hb : DE X W b mb) (hm : behindInMarks op b = false) : DT X W (.Compare a [op] [b] pos) (mT (m2 f ma mb)) := by
  refine ⟨PT_imp (pt_cmpR ho ha.pe hb.pe hm) fun σ H Q q => ?_⟩
  have q1 := mT_tr q
  exact two h q1
theorem ch_tr {r r' : R2} {f g : D → D → M D} (h : Op2 X.K X.ev r f) (h' : Op2 X.K X.ev r' g) {σ : L2.St} {H : Hp} {Q : VK} (q : tM X.K X.ev W (rlD X.K) (mCh f g ma mb mc) σ H Q) :
    tChain r r' (tM X.K X.ev W (rlD X.K) ma) (tM X.K X.ev W (rlD X.K) mb) (tM X.K X.ev W (rlD X.K) mc) σ H Q := by
  obtain ⟨G, en, so, s, p⟩ := q
  refine ⟨G, en, so, s, (Post.bind (R1 := rlD X.K) p).imp fun v H1 ⟨G1, en1, so1, d, _, r1, s1, p1⟩ => ⟨G1, en1, so1, s1, (Post.bind (R1 := rlD X.K) p1).imp fun y H2 ⟨G2, en2, so2, e, l2, r2, s2, p2⟩ => ?_⟩⟩
  refine h v y d e G2 en2 so2 σ H2 W _ (r1.up l2) r2 s2 ((Post.bind (R1 := rlD X.K) p2).imp fun z H3 ⟨G3, en3, so3, k, l3, r3, s3, p3⟩ => ?_)
  cases k <;> try exact False.elim p3
  rename_i k
  cases r3
  refine ⟨k, rfl, ?_⟩
  cases k with
  | false => exact iteF (p3.ok s3 (.bl false))
  | true =>
    refine iteT ⟨G3, en3, so3, s3, (Post.bind (R1 := rlD X.K) p3).imp fun w' H4 ⟨G4, en4, so4, k4, l4, r4, s4, p4⟩ => ?_⟩
    exact h' y w' e k4 G4 en4 so4 σ H4 W Q (r2.up (l3.trans l4)) r4 s4 p4
theorem d_chain {op op' : CmpOp} {r r' : R2} {f g : D → D → M D} (ho : OpR X (compareOp op) r) (ho' : OpR X (compareOp op') r') (h : Op2 X.K X.ev r f) (h' : Op2 X.K X.ev r' g) (ha : DE X W a ma) (hb : DE X W b mb) (hc : DE X W c mc)
    (hm : lastMarks [op, op'] [b, c] = false := by with_unfolding_all rfl) : DE X W (.Compare a [op, op'] [b, c] pos) (mCh f g ma mb mc) :=
  ⟨PE_imp (pe_chain ho ho' ha.pe hb.pe hc.pe hm) fun _ _ _ q => ch_tr h h' q⟩
theorem d_chainT {op op' : CmpOp} {r r' : R2} {f g : D → D → M D} (ho : OpR X (compareOp op) r) (ho' : OpR X (compareOp op') r') (h : Op2 X.K X.ev r f) (h' : Op2 X.K X.ev r' g) (ha : DE X W a ma) (hb : DE X W b mb) (hc : DE X W c mc)
    (hm : lastMarks [op, op'] [b, c] = false := by with_unfolding_all rfl) : DT X W (.Compare a [op, op'] [b, c] pos) (mT (mCh f g ma mb mc)) :=
  ⟨PT_imp (pt_chain ho ho' ha.pe hb.pe hc.pe hm) fun _ _ _ q => ch_tr h h' (mT_tr q)⟩
/-- any other expression as a test, by its truth -/
theorem dt_tru (ha : DE X W a ma) (he : ∀ whole, isTrue a X.env whole = (do let v ← whole; standAt a.pos; holding [v] (truthy v)) := by intro _; rfl) : DT X W a (mTru ma) := by
  refine ⟨PT_imp (pt_truth ha.pe he) fun σ H Q q => ?_⟩
  obtain ⟨G, en, so, s, p⟩ := q
  refine ⟨G, en, so, s, (Post.bind (R1 := rlD X.K) p).imp fun v H1 ⟨G1, en1, so1, d, l, r1, s1, p1⟩ => ?_⟩
  cases d <;> try exact False.elim p1
  · cases r1; exact ⟨_, rfl, p1.ok s1 rfl⟩
  · cases r1; exact ⟨_, rfl, p1.ok s1 rfl⟩
  · cases r1; exact ⟨_, rfl, p1.ok s1 rfl⟩
  · cases r1
    have tr : ∀ (z : List Nat), Post X.K X.ev G1 W rlT σ (truD (.str z) en1 so1) Q → ∃ k, TruV X.K (.str (sT z)) H1 k ∧ Q k H1 := fun z p2 => by
      obtain ⟨h, p3⟩ := Post.gd (c := z.length ≤ 16777216) p2
      refine ⟨z.length != 0, ⟨by rw [sT_len, sizeLine_eq]; exact h, ?_⟩, p3.ok s1 rfl⟩
      rw [sT_len]
      cases z <;> simp
      omega
    exact tr _ p1
  · cases r1 with
    | tup h r => exact ⟨_, .inr (.inl ⟨_, same_seqT s1.toSimO.rep h, rfl⟩), p1.ok s1 (by rw [r.isEmpty])⟩
  · cases r1 with
    | lst h r => exact ⟨_, .inl ⟨_, s1.toSimO.rep.seq h, rfl⟩, p1.ok s1 (by rw [r.isEmpty])⟩
theorem d_one {op} (h : DE X W a ma) : DE X W (.BoolOp op [a] pos) ma := ⟨pe_one h.pe⟩
theorem d_and (ha : DE X W a ma) (hb : DE X W (.BoolOp .And (b :: rest) pos) mb) : DE X W (.BoolOp .And (a :: b :: rest) pos) (mAnd ma mb) := by
  refine ⟨PE_imp (pe_and ha.pe hb.pe) fun σ H Q q => ?_⟩
  obtain ⟨G, en, so, s, p⟩ := q
  refine ⟨G, en, so, s, (Post.bind (R1 := rlD X.K) p).imp fun v H1 ⟨G1, en1, so1, d, l, r1, s1, p1⟩ => ?_⟩
  cases d <;> try exact False.elim p1
  rename_i k
  cases r1
  refine ⟨k, rfl, ?_⟩
  cases k with
  | true => exact iteT ⟨G1, en1, so1, s1, p1⟩
  | false => exact iteF (p1.ok s1 (.bl false))
theorem d_or (ha : DE X W a ma) (hb : DE X W (.BoolOp .Or (b :: rest) pos) mb) : DE X W (.BoolOp .Or (a :: b :: rest) pos) (mOr ma mb) := by
  refine ⟨PE_imp (pe_or ha.pe hb.pe) fun σ H Q q => ?_⟩
  obtain ⟨G, en, so, s, p⟩ := q
  refine ⟨G, en, so, s, (Post.bind (R1 := rlD X.K) p).imp fun v H1 ⟨G1, en1, so1, d, l, r1, s1, p1⟩ => ?_⟩
  cases d <;> try exact False.elim p1
  rename_i k
  cases r1
  refine ⟨k, rfl, ?_⟩
  cases k with
  | true => exact iteT (p1.ok s1 (.bl true))
  | false => exact iteF ⟨G1, en1, so1, s1, p1⟩
theorem d_not (ha : DE X W a ma) : DE X W (.UnaryOp .Not a pos) (mNot ma) := by
  refine ⟨PE_imp (pe_not ha.pe) fun σ H Q q => ?_⟩
  obtain ⟨G, en, so, s, p⟩ := q
  refine ⟨G, en, so, s, (Post.bind (R1 := rlD X.K) p).imp fun v H1 ⟨G1, en1, so1, d, l, r1, s1, p1⟩ => ?_⟩
  cases d <;> try exact False.elim p1
  rename_i k
  cases r1
  exact ⟨k, rfl, p1.ok s1 (.bl _)⟩
variable {ta tb : M Bool}
theorem DW.dt (h : DW X W e tb) : DT X W e tb := ⟨h.pw.pt⟩
theorem w_and1 (h : DT X W a ta) : DW X W (.BoolOp .And [a] pos) ta := ⟨pw_and1 h.pt⟩
theorem w_or1 (h : DT X W a ta) : DW X W (.BoolOp .Or [a] pos) ta := ⟨pw_or1 h.pt⟩
theorem w_and (ha : DT X W a ta) (hb : DW X W (.BoolOp .And (b :: rest) pos) tb) : DW X W (.BoolOp .And (a :: b :: rest) pos) (tAndM ta tb) := by
  refine ⟨PW_imp (pw_and ha.pt hb.pw) fun σ H Q q => ?_⟩
  obtain ⟨G, en, so, s, p⟩ := q
  refine ⟨G, en, so, s, (Post.bind (R1 := rlT) p).imp fun v H1 ⟨G1, en1, so1, k, l, r1, s1, p1⟩ => ?_⟩
  cases r1
  cases v with
  | true => exact iteT ⟨G1, en1, so1, s1, p1⟩
  | false => exact iteF (p1.ok s1 rfl)
theorem w_or (ha : DT X W a ta) (hb : DW X W (.BoolOp .Or (b :: rest) pos) tb) : DW X W (.BoolOp .Or (a :: b :: rest) pos) (tOrM ta tb) := by
  refine ⟨PW_imp (pw_or ha.pt hb.pw) fun σ H Q q => ?_⟩
  obtain ⟨G, en, so, s, p⟩ := q
  refine ⟨G, en, so, s, (Post.bind (R1 := rlT) p).imp fun v H1 ⟨G1, en1, so1, k, l, r1, s1, p1⟩ => ?_⟩
  cases r1
  cases v with
  | true => exact iteT (p1.ok s1 rfl)
  | false => exact iteF ⟨G1, en1, so1, s1, p1⟩
theorem t_not (ha : DT X W a ta) : DT X W (.UnaryOp .Not a pos) (tNotM ta) := by
  refine ⟨PT_imp (pt_not ha.pt) fun σ H Q q => ?_⟩
  obtain ⟨G, en, so, s, p⟩ := q
  refine ⟨G, en, so, s, (Post.bind (R1 := rlT) p).imp fun v H1 ⟨G1, en1, so1, k, l, r1, s1, p1⟩ => ?_⟩
  cases r1
  exact p1.ok s1 rfl
end

/-! ### argument lists, calls of built-ins, methods of built-in types -/
def aN : M (List D) := pu []
def aC (m : M D) (r : M (List D)) : M (List D) := bd m fun d => bd r fun ds => pu (d :: ds)
def OpN (K : PySem.W.Frag) (mg : Ev) (r : List V → Hp → VK → Prop) (f : List D → M D) : Prop :=
  ∀ (xs : List V) (ds : List D) (G : Gh) (en : En) (so : So) (σ : L2.St) (H : Hp) (W : WX) (Q : VK), Reps K G.F G.rho xs ds → Sim K mg G en so σ H → Post K mg G W (rlD K) σ (f ds en so) Q → r xs H Q
/-- .. where a new thing comes out -/
def OpNB (K : PySem.W.Frag) (mg : Ev) (r : List V → Hp → VK → Prop) (f : List D → M B) : Prop :=
  ∀ (xs : List V) (ds : List D) (G : Gh) (en : En) (so : So) (σ : L2.St) (H : Hp) (W : WX) (Q : VK), Reps K G.F G.rho xs ds → Sim K mg G en so σ H → Post K mg G W (rlB K) σ (f ds en so) Q → r xs H Q
section
variable {X : Cx} {W : WX} {a b c e o : Expr} {ma mb mc m : M D} {ms : M (List D)} {pos p : Pos} {es : List Expr} {x : Str} {id : String} {r : List V → Hp → VK → Prop}
theorem a_nil : DA X W [] aN := ⟨PA_imp pa_nil fun σ H Q ⟨G, en, so, s, p⟩ => Post.ok (v := []) p s .nil⟩
theorem a_cons (ha : DE X W e m) (hr : DA X W es ms) (hs : starEach (e :: es) X.env = (false, eval e X.env) :: starEach es X.env := by rfl) : DA X W (e :: es) (aC m ms) := by
  refine ⟨PA_imp (pa_cons ha.pe hr.pa hs) fun σ H Q q => ?_⟩
  obtain ⟨G, en, so, s, p⟩ := q
  refine ⟨G, en, so, s, (Post.bind (R1 := rlD X.K) p).imp fun v H1 ⟨G1, en1, so1, d, _, r1, s1, p1⟩ => ⟨G1, en1, so1, s1, (Post.bind (R1 := rlDs X.K) p1).imp fun y H2 ⟨G2, en2, so2, e, l2, r2, s2, p2⟩ => ?_⟩⟩
  exact p2.ok s2 (.cons (r1.up l2) r2)
theorem d_callB {f : List D → M D} (hc : CallR X (.builtin id) r) (h : OpN X.K X.ev r f) (hg : Gl X x) (hm : X.mg x = none) (hv : bootBuiltins x = some (.builtin id)) (ha : DA X W (e :: es) ms) (hn : x ≠ "__name__" := by decide) (hdb : (x == ("__debug__" : Str)) = false := by decide)
    (he : starEach (e :: es) X.env = (false, eval e X.env) :: starEach es X.env := by rfl) (hpl : (backTo pos (starEach es X.env)).any (·.1) = false := by rfl) : DE X W (.Call (.Name x p) (e :: es) [] pos) (bd ms f) := by
  refine ⟨PE_imp (pe_callB hc hg hm hv ha.pa hn hdb he hpl) fun σ H Q q => ?_⟩
  obtain ⟨G, en, so, s, p⟩ := q
  exact ⟨G, en, so, s, (Post.bind (R1 := rlDs X.K) p).imp fun v H1 ⟨G1, en1, so1, d, _, r1, s1, p1⟩ => h v d G1 en1 so1 σ H1 W Q r1 s1 p1⟩
theorem d_callTy {f : List D → M D} {T : String} (hc : CallR X (.type T) r) (h : OpN X.K X.ev r f) (hg : Gl X x) (hm : X.mg x = none) (hv : bootBuiltins x = some (.type T)) (ha : DA X W (e :: es) ms) (hn : x ≠ "__name__" := by decide) (hdb : (x == ("__debug__" : Str)) = false := by decide)
    (he : starEach (e :: es) X.env = (false, eval e X.env) :: starEach es X.env := by rfl) (hpl : (backTo pos (starEach es X.env)).any (·.1) = false := by rfl) : DE X W (.Call (.Name x p) (e :: es) [] pos) (bd ms f) := by
  refine ⟨PE_imp (pe_callTy hc hg hm hv ha.pa hn hdb he hpl) fun σ H Q q => ?_⟩
  obtain ⟨G, en, so, s, p⟩ := q
  exact ⟨G, en, so, s, (Post.bind (R1 := rlDs X.K) p).imp fun v H1 ⟨G1, en1, so1, d, _, r1, s1, p1⟩ => h v d G1 en1 so1 σ H1 W Q r1 s1 p1⟩
theorem b_callTy {f : List D → M B} {T : String} (hc : CallR X (.type T) r) (h : OpNB X.K X.ev r f) (hg : Gl X x) (hm : X.mg x = none) (hv : bootBuiltins x = some (.type T)) (ha : DA X W (e :: es) ms) (hn : x ≠ "__name__" := by decide) (hdb : (x == ("__debug__" : Str)) = false := by decide)
    (he : starEach (e :: es) X.env = (false, eval e X.env) :: starEach es X.env := by rfl) (hpl : (backTo pos (starEach es X.env)).any (·.1) = false := by rfl) : DB X W (.Call (.Name x p) (e :: es) [] pos) (bd ms f) := by
  refine ⟨PE_imp (pe_callTy hc hg hm hv ha.pa hn hdb he hpl) fun σ H Q q => ?_⟩
  obtain ⟨G, en, so, s, p⟩ := q
  exact ⟨G, en, so, s, (Post.bind (R1 := rlDs X.K) p).imp fun v H1 ⟨G1, en1, so1, d, _, r1, s1, p1⟩ => h v d G1 en1 so1 σ H1 W Q r1 s1 p1⟩
/-- a new thing as data -/
def mFz (m : M B) : M D := bd m fun b => pu b.toD
theorem d_fz {m : M B} (h : DB X W e m) : DE X W e (mFz m) := by
  refine ⟨PE_imp h.pe fun σ H Q q => ?_⟩
  obtain ⟨G, en, so, s, p⟩ := q
  refine ⟨G, en, so, s, (Post.bind (R1 := rlB X.K) p).imp fun v H1 ⟨G1, en1, so1, b, _, r1, s1, p1⟩ => ?_⟩
  obtain ⟨G2, l2, s2, r2⟩ := s1.toD r1
  exact p1.ok' l2 s2 r2
theorem b_dat {m : M D} (h : DE X W e m) : DB X W e (bd m fun d => pu (.dat d)) := by
  refine ⟨PE_imp h.pe fun σ H Q q => ?_⟩
  obtain ⟨G, en, so, s, p⟩ := q
  exact ⟨G, en, so, s, (Post.bind (R1 := rlD X.K) p).imp fun v H1 ⟨G1, en1, so1, d, _, r1, s1, p1⟩ => p1.ok (v := v) s1 r1⟩
end
end
end Dl

set_option Elab.async false
set_option linter.all false
set_option maxRecDepth 100000
set_option maxHeartbeats 1000000
/-! The data level: equality of data, membership. -/
namespace Dl
open PySem PySem.Spec PyProof.Rows L2
noncomputable section
mutual
def eqD : D → D → Bool
  | .non, .non => true
  | .bl a, .bl b => a == b
  | .bl a, .int j => (if a then 1 else 0) == j
  | .int i, .bl b => i == (if b then 1 else 0)
  | .int i, .int j => i == j
  | .str x, .str y => x == y
  | .lst xs, .lst ys => eqDs xs ys
  | .tup xs, .tup ys => eqDs xs ys
  | _, _ => false
def eqDs : List D → List D → Bool
  | [], [] => true
  | x :: xs, y :: ys => eqD x y && eqDs xs ys
  | _, _ => false
end
/-- nothing but texts, numbers, truth values, None, lists and tuples of such, n deep -/
def okq : Nat → D → Bool
  | _, .non => true
  | _, .bl _ => true
  | _, .int _ => true
  | _, .str _ => true
  | n + 1, .lst xs => xs.all (okq n)
  | n + 1, .tup xs => xs.all (okq n)
  | _, _ => false
def eqM (d e : D) : M D := gd (okq 24 d = true ∧ okq 24 e = true) (pu (.bl (eqD d e)))
def neM (d e : D) : M D := gd (okq 24 d = true ∧ okq 24 e = true) (pu (.bl (!eqD d e)))
theorem relV_inj {x y : V} {u : Value} (h : L2.RelV x u) (k : L2.RelV y u) : x = y := by
  cases x <;> cases y <;> simp only [L2.RelV] at h k <;> (first | rfl | (subst h; first | (cases k; done) | (cases k; rfl) | (obtain ⟨t, k⟩ := k; cases k; done)) | (obtain ⟨t, h⟩ := h; subst h; first | (cases k; done) | (obtain ⟨t', k⟩ := k; cases k; first | rfl | done)))
theorem vals_inj : ∀ {xs ys : List V} {us : List Value}, Vals xs us → Vals ys us → xs = ys
  | _, _, _, .nil, .nil => rfl
  | _, _, _, .cons h r, .cons h' r' => by rw [relV_inj h h', vals_inj r r']
section
variable {X : Cx} {pins : List (Addr × Obj)} {σ : L2.St} {H F : Hp} {s : Shared} {rho : List (Addr × Addr)}
theorem sqL_inj (I : Inv X pins σ H s) {a : Addr} {xs ys : List V} (h : SqL X.K H a xs) (k : SqL X.K H a ys) : xs = ys := by
  obtain ⟨its, r, ⟨o, n, e, _, _, dt⟩, _⟩ := I.list h
  obtain ⟨its', r', ⟨o', n', e', _, _, dt'⟩, _⟩ := I.list k
  rw [e] at e'; cases e'
  rw [dt] at dt'; cases dt'
  exact vals_inj r r'
theorem sqT_inj (I : Inv X pins σ H s) {a : Addr} {xs ys : List V} (h : SqT X.K H a xs) (k : SqT X.K H a ys) : xs = ys := by
  obtain ⟨its, r, ⟨o, e, _, n, dt⟩, _⟩ := I.tuple h
  obtain ⟨its', r', ⟨o', e', _, n', dt'⟩, _⟩ := I.tuple k
  rw [e] at e'; cases e'
  rw [dt] at dt'; cases dt'
  exact vals_inj r r'
theorem isL (I : Inv X pins σ H s) {a : Addr} {xs : List V} (h : SqL X.K H a xs) : ∃ its : List Value, Vals xs its ∧ s.heap.IsList a its.toArray := by
  obtain ⟨its, r, p, _⟩ := I.list h
  exact ⟨its, r, p.isList⟩
theorem isT (I : Inv X pins σ H s) {a : Addr} {xs : List V} (h : SqT X.K H a xs) : ∃ its : List Value, Vals xs its ∧ s.heap.IsTuple a its.toArray := by
  obtain ⟨its, r, ⟨o, e, c, n, dt⟩, _⟩ := I.tuple h
  exact ⟨its, r, o, e, c, n, dt⟩
theorem no_LT (I : Inv X pins σ H s) {a : Addr} {xs ys : List V} (h : SqL X.K H a xs) (k : SqT X.K H a ys) : False := by
  obtain ⟨_, _, h1⟩ := isL I h
  obtain ⟨_, _, h2⟩ := isT I k
  exact SeqAt.ne_of_list_tuple h1 h2 rfl
mutual
theorem eq_self (I : Inv X pins σ H s) (sf : Same F H) : ∀ (n : Nat) (d e : D) (v : V), okq n d = true → okq n e = true → Rep X.K F rho v d → Rep X.K F rho v e → eqD d e = true
  | n, .non, .non, _, _, _, _, _ => rfl
  | n, .bl a, .bl b, _, _, _, h, k => by cases h; cases k; simp [eqD]
  | n, .int a, .int b, _, _, _, h, k => by cases h; cases k; simp [eqD]
  | n, .str a, .str b, v, _, _, h, k => by
    cases h
    generalize hv : V.str (sT a) = v at k
    cases k
    simp [eqD, sT_inj (V.str.inj hv)]
  | n + 1, .lst ds, .lst es, _, o1, o2, h, k => by
    cases h with
    | lst h r =>
      cases k with
      | lst h' r' =>
        have e1 := sqL_inj I (sf.seq h) (sf.seq h')
        subst e1
        exact eqs_self I sf n _ _ _ o1 o2 r r'
  | n + 1, .tup ds, .tup es, _, o1, o2, h, k => by
    cases h with
    | tup h r =>
      cases k with
      | tup h' r' =>
        have e1 := sqT_inj I (same_seqT sf h) (same_seqT sf h')
        subst e1
        exact eqs_self I sf n _ _ _ o1 o2 r r'
  | n, .lst ds, .tup es, _, o1, o2, h, k => by
    cases h with
    | lst h r =>
      cases k with
      | tup h' r' => exact (no_LT I (sf.seq h) (same_seqT sf h')).elim
  | n, .tup ds, .lst es, _, o1, o2, h, k => by
    cases h with
    | tup h r =>
      cases k with
      | lst h' r' => exact (no_LT I (sf.seq h') (same_seqT sf h)).elim
  | 0, .lst _, _, _, o1, _, _, _ => nomatch o1
  | 0, .tup _, _, _, o1, _, _, _ => nomatch o1
  | n, .dct _, _, _, o1, _, _, _ => by cases n <;> cases o1
  | n, .obj _, _, _, o1, _, _, _ => by cases n <;> cases o1
  | n, _, .dct _, _, _, o2, _, _ => by cases n <;> cases o2
  | n, _, .obj _, _, _, o2, _, _ => by cases n <;> cases o2
  | _, .non, .bl _, _, _, _, h, k => by cases h; cases k
  | _, .non, .int _, _, _, _, h, k => by cases h; cases k
  | _, .non, .str _, _, _, _, h, k => by cases h; cases k
  | _, .non, .lst _, _, _, _, h, k => by cases h; cases k
  | _, .non, .tup _, _, _, _, h, k => by cases h; cases k
  | _, .bl _, .non, _, _, _, h, k => by cases h; cases k
  | _, .bl _, .int _, _, _, _, h, k => by cases h; cases k
  | _, .bl _, .str _, _, _, _, h, k => by cases h; cases k
  | _, .bl _, .lst _, _, _, _, h, k => by cases h; cases k
  | _, .bl _, .tup _, _, _, _, h, k => by cases h; cases k
  | _, .int _, .non, _, _, _, h, k => by cases h; cases k
  | _, .int _, .bl _, _, _, _, h, k => by cases h; cases k
  | _, .int _, .str _, _, _, _, h, k => by cases h; cases k
  | _, .int _, .lst _, _, _, _, h, k => by cases h; cases k
  | _, .int _, .tup _, _, _, _, h, k => by cases h; cases k
  | _, .str _, .non, _, _, _, h, k => by cases h; cases k
  | _, .str _, .bl _, _, _, _, h, k => by cases h; cases k
  | _, .str _, .int _, _, _, _, h, k => by cases h; cases k
  | _, .str _, .lst _, _, _, _, h, k => by cases h; cases k
  | _, .str _, .tup _, _, _, _, h, k => by cases h; cases k
  | _, .lst _, .non, _, _, _, h, k => by cases h; cases k
  | _, .lst _, .bl _, _, _, _, h, k => by cases h; cases k
  | _, .lst _, .int _, _, _, _, h, k => by cases h; cases k
  | _, .lst _, .str _, _, _, _, h, k => by cases h; cases k
  | _, .tup _, .non, _, _, _, h, k => by cases h; cases k
  | _, .tup _, .bl _, _, _, _, h, k => by cases h; cases k
  | _, .tup _, .int _, _, _, _, h, k => by cases h; cases k
  | _, .tup _, .str _, _, _, _, h, k => by cases h; cases k
theorem eqs_self (I : Inv X pins σ H s) (sf : Same F H) : ∀ (n : Nat) (ds es : List D) (vs : List V), ds.all (okq n) = true → es.all (okq n) = true → Reps X.K F rho vs ds → Reps X.K F rho vs es → eqDs ds es = true
  | n, [], [], _, _, _, _, _ => rfl
  | n, [], _ :: _, _, _, _, h, k => by cases h; cases k
  | n, _ :: _, [], _, _, _, h, k => by cases h; cases k
  | n, d :: ds, e :: es, _, o1, o2, h, k => by
    rw [List.all_cons, Bool.and_eq_true] at o1 o2
    cases h with
    | cons h r =>
      cases k with
      | cons h' r' =>
        show (_ && _) = true
        rw [eq_self I sf n _ _ _ o1.1 o2.1 h h', eqs_self I sf n _ _ _ o1.2 o2.2 r r']
        rfl
end
theorem range_all (f : Nat → Bool) (n : Nat) : (List.range (n + 1)).all f = (f 0 && (List.range n).all fun j => f (j + 1)) := by
  rw [List.range_succ_eq_map, List.all_cons, List.all_map]
  rfl
def pairEq (ds es : List D) (j : Nat) : Bool := match ds[j]?, es[j]? with
  | some d, some e => eqD d e
  | _, _ => false
theorem pairs_all : ∀ (ds es : List D), ((List.range (min ds.length es.length)).all (pairEq ds es) && ds.length == es.length) = eqDs ds es
  | [], [] => rfl
  | [], _ :: _ => by simp [eqDs]
  | _ :: _, [] => by simp [eqDs]
  | d :: ds, e :: es => by
    rw [List.length_cons, List.length_cons, Nat.add_min_add_right, range_all]
    have ih := pairs_all ds es
    have e1 : (fun j => pairEq (d :: ds) (e :: es) (j + 1)) = pairEq ds es := by
      funext j
      simp [pairEq]
    have e2 : (ds.length + 1 == es.length + 1) = (ds.length == es.length) := by
      rw [Bool.eq_iff_iff]; simp
    rw [e1, e2, Bool.and_assoc, ih]
    rfl
end
theorem vals_at {F : Hp} {K : PySem.W.Frag} {rho : List (Addr × Addr)} : ∀ {vs : List V} {ds : List D} {us : List Value}, Reps K F rho vs ds → Vals vs us → ∀ (j : Nat) (h : j < us.length), ∃ x d, ds[j]? = some d ∧ Rep K F rho x d ∧ L2.RelV x us[j]
  | _, _, _, .nil, .nil, j, h => absurd h (Nat.not_lt_zero _)
  | _, _, _, .cons h1 r, .cons v1 v, 0, h => ⟨_, _, rfl, h1, v1⟩
  | _, _, _, .cons h1 r, .cons v1 v, j + 1, h => by
    obtain ⟨x, d, e2, e3, e4⟩ := vals_at r v j (by simpa using h)
    exact ⟨x, d, by simpa using e2, e3, by simpa using e4⟩
theorem eqD_lens {ds es : List D} (h : ds.length ≠ es.length) : eqDs ds es = false := by
  rw [← pairs_all]
  have : (ds.length == es.length) = false := by simpa using h
  rw [this, Bool.and_false]
section
variable {X : Cx} {pins : List (Addr × Obj)} {σ : L2.St} {H F : Hp} {s : Shared} {rho : List (Addr × Addr)}
theorem units1 {A : Around} : A.in1.units = A.units + 1 := rfl
theorem all_get {f : D → Bool} {ds : List D} (h : ds.all f = true) {j : Nat} {d : D} (e : ds[j]? = some d) : f d = true := List.all_eq_true.mp h d (List.mem_of_getElem? e)
theorem sT_beq (a b : List Nat) : (sT a == sT b) = (a == b) := by rw [Bool.eq_iff_iff]; simp [sT_eq]
/-- texts, numbers, truth values, None -/
theorem eqAt_S {A : Around} : ∀ (d e : D) {x y : V} {u v : Value}, okq 0 d = true → okq 0 e = true → Rep X.K F rho x d → Rep X.K F rho y e → L2.RelV x u → L2.RelV y v → SeqAt.EqAt A s u v (eqD d e) := by
  intro d e x y u v o1 o2 h k r1 r2
  exact match d, e, h, k, r1, r2 with
  | .non, .non, h, k, r1, r2 => by
    cases h; cases r1
    cases k; cases r2
    exact SeqAt.EqAt.same _
  | .non, .bl b, h, k, r1, r2 => by
    cases h; cases r1
    cases k; cases r2
    exact SeqAt.EqAt.none_bool _
  | .non, .int b, h, k, r1, r2 => by
    cases h; cases r1
    cases k; obtain ⟨t2, rfl⟩ := r2
    exact SeqAt.EqAt.none_int _ _
  | .non, .str b, h, k, r1, r2 => by
    cases h; cases r1
    cases k; obtain ⟨t2, rfl⟩ := r2
    exact SeqAt.EqAt.none_str _ _
  | .bl a, .non, h, k, r1, r2 => by
    cases h; cases r1
    cases k; cases r2
    exact SeqAt.EqAt.bool_none _
  | .bl a, .bl b, h, k, r1, r2 => by
    cases h; cases r1
    cases k; cases r2
    exact SeqAt.EqAt.bool_bool _ _
  | .bl a, .int b, h, k, r1, r2 => by
    cases h; cases r1
    cases k; obtain ⟨t2, rfl⟩ := r2
    exact SeqAt.EqAt.bool_int _ _ _
  | .bl a, .str b, h, k, r1, r2 => by
    cases h; cases r1
    cases k; obtain ⟨t2, rfl⟩ := r2
    exact SeqAt.EqAt.bool_str _ _ _
  | .int a, .non, h, k, r1, r2 => by
    cases h; obtain ⟨t, rfl⟩ := r1
    cases k; cases r2
    exact SeqAt.EqAt.int_none _ _
  | .int a, .bl b, h, k, r1, r2 => by
    cases h; obtain ⟨t, rfl⟩ := r1
    cases k; cases r2
    exact SeqAt.EqAt.int_bool _ _ _
  | .int a, .int b, h, k, r1, r2 => by
    cases h; obtain ⟨t, rfl⟩ := r1
    cases k; obtain ⟨t2, rfl⟩ := r2
    exact SeqAt.EqAt.int_int _ _ _ _
  | .int a, .str b, h, k, r1, r2 => by
    cases h; obtain ⟨t, rfl⟩ := r1
    cases k; obtain ⟨t2, rfl⟩ := r2
    exact SeqAt.EqAt.int_str _ _ _ _
  | .str a, .non, h, k, r1, r2 => by
    cases h; obtain ⟨t, rfl⟩ := r1
    cases k; cases r2
    exact SeqAt.EqAt.str_none _ _
  | .str a, .bl b, h, k, r1, r2 => by
    cases h; obtain ⟨t, rfl⟩ := r1
    cases k; cases r2
    exact SeqAt.EqAt.str_bool _ _ _
  | .str a, .int b, h, k, r1, r2 => by
    cases h; obtain ⟨t, rfl⟩ := r1
    cases k; obtain ⟨t2, rfl⟩ := r2
    exact SeqAt.EqAt.str_int _ _ _ _
  | .str a, .str b, h, k, r1, r2 => by
    cases h; obtain ⟨t, rfl⟩ := r1
    cases k; obtain ⟨t2, rfl⟩ := r2
    have q := SeqAt.EqAt.str_str (A := A) (s := s) (sT a) t (sT b) t2
    rw [sT_beq] at q
    exact q
  | .lst _, _, _, _, _, _ => nomatch o1
  | .tup _, _, _, _, _, _ => nomatch o1
  | .dct _, _, _, _, _, _ => nomatch o1
  | .obj _, _, _, _, _, _ => nomatch o1
  | _, .lst _, _, _, _, _ => nomatch o2
  | _, .tup _, _, _, _, _ => nomatch o2
  | _, .dct _, _, _, _, _ => nomatch o2
  | _, .obj _, _, _, _, _ => nomatch o2
theorem okq_cases {n : Nat} {d : D} (h : okq n d = true) : okq 0 d = true ∨ ∃ m, n = m + 1 ∧ ∃ ds, (d = .lst ds ∨ d = .tup ds) ∧ ds.all (okq m) = true := by
  cases d with
  | lst ds =>
    cases n with
    | zero => cases h
    | succ m => exact .inr ⟨m, rfl, ds, .inl rfl, h⟩
  | tup ds =>
    cases n with
    | zero => cases h
    | succ m => exact .inr ⟨m, rfl, ds, .inr rfl, h⟩
  | dct _ => cases n <;> cases h
  | obj _ => cases n <;> cases h
  | _ => exact .inl rfl
/-- equal as the model's eqBool says -/
theorem eqAt_D (I : Inv X pins σ H s) (sf : Same F H) : ∀ (n : Nat) (A : Around), A.units + n < cLine → ∀ (d e : D) (x y : V) (u v : Value), okq n d = true → okq n e = true → Rep X.K F rho x d → Rep X.K F rho y e → L2.RelV x u → L2.RelV y v → SeqAt.EqAt A s u v (eqD d e)
  | 0, A, hu, d, e, x, y, u, v, o1, o2, h, k, r1, r2 => eqAt_S d e o1 o2 h k r1 r2
  | n + 1, A, hu, d, e, x, y, u, v, o1, o2, h, k, r1, r2 => by
   have hu : A.units < cLine := by omega
   have hun : A.in1.units + n < cLine := by rw [units1]; omega
   exact match d, e, h, k, r1, r2 with
  | .non, .non, h, k, r1, r2 => by
    cases h; cases r1
    cases k; cases r2
    exact SeqAt.EqAt.same _
  | .non, .bl b, h, k, r1, r2 => by
    cases h; cases r1
    cases k; cases r2
    exact SeqAt.EqAt.none_bool _
  | .non, .int b, h, k, r1, r2 => by
    cases h; cases r1
    cases k; obtain ⟨t2, rfl⟩ := r2
    exact SeqAt.EqAt.none_int _ _
  | .non, .str b, h, k, r1, r2 => by
    cases h; cases r1
    cases k; obtain ⟨t2, rfl⟩ := r2
    exact SeqAt.EqAt.none_str _ _
  | .bl a, .non, h, k, r1, r2 => by
    cases h; cases r1
    cases k; cases r2
    exact SeqAt.EqAt.bool_none _
  | .bl a, .bl b, h, k, r1, r2 => by
    cases h; cases r1
    cases k; cases r2
    exact SeqAt.EqAt.bool_bool _ _
  | .bl a, .int b, h, k, r1, r2 => by
    cases h; cases r1
    cases k; obtain ⟨t2, rfl⟩ := r2
    exact SeqAt.EqAt.bool_int _ _ _
  | .bl a, .str b, h, k, r1, r2 => by
    cases h; cases r1
    cases k; obtain ⟨t2, rfl⟩ := r2
    exact SeqAt.EqAt.bool_str _ _ _
  | .int a, .non, h, k, r1, r2 => by
    cases h; obtain ⟨t, rfl⟩ := r1
    cases k; cases r2
    exact SeqAt.EqAt.int_none _ _
  | .int a, .bl b, h, k, r1, r2 => by
    cases h; obtain ⟨t, rfl⟩ := r1
    cases k; cases r2
    exact SeqAt.EqAt.int_bool _ _ _
  | .int a, .int b, h, k, r1, r2 => by
    cases h; obtain ⟨t, rfl⟩ := r1
    cases k; obtain ⟨t2, rfl⟩ := r2
    exact SeqAt.EqAt.int_int _ _ _ _
  | .int a, .str b, h, k, r1, r2 => by
    cases h; obtain ⟨t, rfl⟩ := r1
    cases k; obtain ⟨t2, rfl⟩ := r2
    exact SeqAt.EqAt.int_str _ _ _ _
  | .str a, .non, h, k, r1, r2 => by
    cases h; obtain ⟨t, rfl⟩ := r1
    cases k; cases r2
    exact SeqAt.EqAt.str_none _ _
  | .str a, .bl b, h, k, r1, r2 => by
    cases h; obtain ⟨t, rfl⟩ := r1
    cases k; cases r2
    exact SeqAt.EqAt.str_bool _ _ _
  | .str a, .int b, h, k, r1, r2 => by
    cases h; obtain ⟨t, rfl⟩ := r1
    cases k; obtain ⟨t2, rfl⟩ := r2
    exact SeqAt.EqAt.str_int _ _ _ _
  | .str a, .str b, h, k, r1, r2 => by
    cases h; obtain ⟨t, rfl⟩ := r1
    cases k; obtain ⟨t2, rfl⟩ := r2
    have q := SeqAt.EqAt.str_str (A := A) (s := s) (sT a) t (sT b) t2
    rw [sT_beq] at q
    exact q
  | .lst ds, .non, h, k, r1, r2 => by
    cases h with
    | lst q r =>
      cases k; cases r2
      cases r1
      obtain ⟨its, rv, hl⟩ := isL I (sf.seq q)
      exact SeqAt.EqAt.list_none hl hu
  | .non, .lst es, h, k, r1, r2 => by
    cases k with
    | lst q r =>
      cases h; cases r1
      cases r2
      obtain ⟨its, rv, hl⟩ := isL I (sf.seq q)
      exact SeqAt.EqAt.none_list hl hu
  | .lst ds, .bl b, h, k, r1, r2 => by
    cases h with
    | lst q r =>
      cases k; cases r2
      cases r1
      obtain ⟨its, rv, hl⟩ := isL I (sf.seq q)
      exact SeqAt.EqAt.list_bool _ hl hu
  | .bl b, .lst es, h, k, r1, r2 => by
    cases k with
    | lst q r =>
      cases h; cases r1
      cases r2
      obtain ⟨its, rv, hl⟩ := isL I (sf.seq q)
      exact SeqAt.EqAt.bool_list _ hl hu
  | .lst ds, .int b, h, k, r1, r2 => by
    cases h with
    | lst q r =>
      cases k; obtain ⟨t2, rfl⟩ := r2
      cases r1
      obtain ⟨its, rv, hl⟩ := isL I (sf.seq q)
      exact SeqAt.EqAt.list_int _ _ hl hu
  | .int b, .lst es, h, k, r1, r2 => by
    cases k with
    | lst q r =>
      cases h; obtain ⟨t, rfl⟩ := r1
      cases r2
      obtain ⟨its, rv, hl⟩ := isL I (sf.seq q)
      exact SeqAt.EqAt.int_list _ _ hl hu
  | .lst ds, .str b, h, k, r1, r2 => by
    cases h with
    | lst q r =>
      cases k; obtain ⟨t2, rfl⟩ := r2
      cases r1
      obtain ⟨its, rv, hl⟩ := isL I (sf.seq q)
      exact SeqAt.EqAt.list_str _ _ hl hu
  | .str b, .lst es, h, k, r1, r2 => by
    cases k with
    | lst q r =>
      cases h; obtain ⟨t, rfl⟩ := r1
      cases r2
      obtain ⟨its, rv, hl⟩ := isL I (sf.seq q)
      exact SeqAt.EqAt.str_list _ _ hl hu
  | .tup ds, .non, h, k, r1, r2 => by
    cases h with
    | tup q r =>
      cases k; cases r2
      cases r1
      obtain ⟨its, rv, hl⟩ := isT I (same_seqT sf q)
      exact SeqAt.EqAt.tuple_none hl hu
  | .non, .tup es, h, k, r1, r2 => by
    cases k with
    | tup q r =>
      cases h; cases r1
      cases r2
      obtain ⟨its, rv, hl⟩ := isT I (same_seqT sf q)
      exact SeqAt.EqAt.none_tuple hl hu
  | .tup ds, .bl b, h, k, r1, r2 => by
    cases h with
    | tup q r =>
      cases k; cases r2
      cases r1
      obtain ⟨its, rv, hl⟩ := isT I (same_seqT sf q)
      exact SeqAt.EqAt.tuple_bool _ hl hu
  | .bl b, .tup es, h, k, r1, r2 => by
    cases k with
    | tup q r =>
      cases h; cases r1
      cases r2
      obtain ⟨its, rv, hl⟩ := isT I (same_seqT sf q)
      exact SeqAt.EqAt.bool_tuple _ hl hu
  | .tup ds, .int b, h, k, r1, r2 => by
    cases h with
    | tup q r =>
      cases k; obtain ⟨t2, rfl⟩ := r2
      cases r1
      obtain ⟨its, rv, hl⟩ := isT I (same_seqT sf q)
      exact SeqAt.EqAt.tuple_int _ _ hl hu
  | .int b, .tup es, h, k, r1, r2 => by
    cases k with
    | tup q r =>
      cases h; obtain ⟨t, rfl⟩ := r1
      cases r2
      obtain ⟨its, rv, hl⟩ := isT I (same_seqT sf q)
      exact SeqAt.EqAt.int_tuple _ _ hl hu
  | .tup ds, .str b, h, k, r1, r2 => by
    cases h with
    | tup q r =>
      cases k; obtain ⟨t2, rfl⟩ := r2
      cases r1
      obtain ⟨its, rv, hl⟩ := isT I (same_seqT sf q)
      exact SeqAt.EqAt.tuple_str _ _ hl hu
  | .str b, .tup es, h, k, r1, r2 => by
    cases k with
    | tup q r =>
      cases h; obtain ⟨t, rfl⟩ := r1
      cases r2
      obtain ⟨its, rv, hl⟩ := isT I (same_seqT sf q)
      exact SeqAt.EqAt.str_tuple _ _ hl hu
  | .lst ds, .tup es, h, k, r1, r2 => by
    cases h with
    | lst q r =>
      cases k with
      | tup q' r' =>
        cases r1
        cases r2
        obtain ⟨its, rv, hl⟩ := isL I (sf.seq q)
        obtain ⟨its', rv', hl'⟩ := isT I (same_seqT sf q')
        exact SeqAt.EqAt.list_tuple hl hl' hu
  | .tup ds, .lst es, h, k, r1, r2 => by
    cases h with
    | tup q r =>
      cases k with
      | lst q' r' =>
        cases r1
        cases r2
        obtain ⟨its, rv, hl⟩ := isT I (same_seqT sf q)
        obtain ⟨its', rv', hl'⟩ := isL I (sf.seq q')
        exact SeqAt.EqAt.tuple_list hl hl' hu
  | .lst ds, .lst es, h, k, r1, r2 => by
    cases h with
    | @lst a vs _ q r =>
      cases k with
      | @lst b ws _ q' r' =>
        cases r1
        cases r2
        obtain ⟨its, rv, hl⟩ := isL I (sf.seq q)
        obtain ⟨its', rv', hl'⟩ := isL I (sf.seq q')
        have hd : (List.range (min its.toArray.size its'.toArray.size)).all (pairEq ds es) = (List.range (min ds.length es.length)).all (pairEq ds es) := by rw [List.size_toArray, List.size_toArray, ← rv.length, ← rv'.length, r.len, r'.len]
        have he : ∀ j (h1 : j < its.toArray.size) (h2 : j < its'.toArray.size), SeqAt.EqAt A.in1 s its.toArray[j] its'.toArray[j] (pairEq ds es j) := fun j h1 h2 => by
          obtain ⟨x1, d1, e1, p1, q1⟩ := vals_at r rv j (by simpa using h1)
          obtain ⟨x2, d2, e2, p2, q2⟩ := vals_at r' rv' j (by simpa using h2)
          unfold pairEq
          rw [e1, e2]
          exact eqAt_D I sf n A.in1 hun d1 d2 x1 x2 _ _ (all_get o1 e1) (all_get o2 e2) p1 p2 (by simpa using q1) (by simpa using q2)
        have q0 : SeqAt.RcAt A s (.ref a) (.ref b) (eqDs ds es) := by
          by_cases hz : ds.length = es.length
          · have hz2 : its.toArray.size = its'.toArray.size := by rw [List.size_toArray, List.size_toArray, ← rv.length, ← rv'.length, r.len, r'.len, hz]
            have q0 := SeqAt.RcAt.lists hl hl' hz2 hu he
            have hm : its.toArray.size = min its.toArray.size its'.toArray.size := by omega
            rw [hm, hd] at q0
            have q1 := pairs_all ds es
            have hz3 : (ds.length == es.length) = true := by simpa using hz
            rw [hz3, Bool.and_true] at q1
            rw [q1] at q0
            exact q0
          · rw [eqD_lens hz]
            exact SeqAt.RcAt.lists_lengths hl hl' (by rw [List.size_toArray, List.size_toArray, ← rv.length, ← rv'.length, r.len, r'.len]; simpa using hz) hu
        by_cases hab : a = b
        · subst hab
          have e1 := sqL_inj I (sf.seq q) (sf.seq q')
          subst e1
          show SeqAt.EqAt A s _ _ (eqDs ds es)
          rw [eqs_self I sf n _ _ _ o1 o2 r r']
          exact SeqAt.EqAt.same _
        · exact SeqAt.EqAt.of_refs hab q0
  | .tup ds, .tup es, h, k, r1, r2 => by
    cases h with
    | @tup a vs _ q r =>
      cases k with
      | @tup b ws _ q' r' =>
        cases r1
        cases r2
        obtain ⟨its, rv, hl⟩ := isT I (same_seqT sf q)
        obtain ⟨its', rv', hl'⟩ := isT I (same_seqT sf q')
        have hd : (List.range (min its.toArray.size its'.toArray.size)).all (pairEq ds es) = (List.range (min ds.length es.length)).all (pairEq ds es) := by rw [List.size_toArray, List.size_toArray, ← rv.length, ← rv'.length, r.len, r'.len]
        have he : ∀ j (h1 : j < its.toArray.size) (h2 : j < its'.toArray.size), SeqAt.EqAt A.in1 s its.toArray[j] its'.toArray[j] (pairEq ds es j) := fun j h1 h2 => by
          obtain ⟨x1, d1, e1, p1, q1⟩ := vals_at r rv j (by simpa using h1)
          obtain ⟨x2, d2, e2, p2, q2⟩ := vals_at r' rv' j (by simpa using h2)
          unfold pairEq
          rw [e1, e2]
          exact eqAt_D I sf n A.in1 hun d1 d2 x1 x2 _ _ (all_get o1 e1) (all_get o2 e2) p1 p2 (by simpa using q1) (by simpa using q2)
        have q0 := SeqAt.RcAt.tuples hl hl' hu he
        rw [hd] at q0
        have hz : (its.toArray.size == its'.toArray.size) = (ds.length == es.length) := by rw [List.size_toArray, List.size_toArray, ← rv.length, ← rv'.length, r.len, r'.len]
        rw [hz, pairs_all] at q0
        by_cases hab : a = b
        · subst hab
          have e1 := sqT_inj I (same_seqT sf q) (same_seqT sf q')
          subst e1
          show SeqAt.EqAt A s _ _ (eqDs ds es)
          rw [eqs_self I sf n _ _ _ o1 o2 r r']
          exact SeqAt.EqAt.same _
        · exact SeqAt.EqAt.of_refs hab q0
  | .dct _, _, _, _, _, _ => nomatch o1
  | .obj _, _, _, _, _, _ => nomatch o1
  | _, .dct _, _, _, _, _ => nomatch o2
  | _, .obj _, _, _, _, _ => nomatch o2
end
section
variable {X : Cx} {pins : List (Addr × Obj)} {σ : L2.St} {H F : Hp} {s : Shared} {rho : List (Addr × Addr)}
theorem rc_D (I : Inv X pins σ H s) (sf : Same F H) (n : Nat) (A : Around) (hn : A.units + (n + 1) < cLine) (d e : D) (x y : V) (u v : Value) (o1 : okq (n + 1) d = true) (o2 : okq (n + 1) e = true) (h : Rep X.K F rho x d) (k : Rep X.K F rho y e) (r1 : L2.RelV x u) (r2 : L2.RelV y v) : SeqAt.RcAt A s u v (eqD d e) := by
   have hu : A.units < cLine := by omega
   have hun : A.in1.units + n < cLine := by rw [units1]; omega
   exact match d, e, h, k, r1, r2 with
  | .non, .non, h, k, r1, r2 => by
    cases h; cases r1
    cases k; cases r2
    exact SeqAt.RcAt.none_none
  | .non, .bl b, h, k, r1, r2 => by
    cases h; cases r1
    cases k; cases r2
    exact SeqAt.RcAt.none_bool _
  | .non, .int b, h, k, r1, r2 => by
    cases h; cases r1
    cases k; obtain ⟨t2, rfl⟩ := r2
    exact SeqAt.RcAt.none_int _ _
  | .non, .str b, h, k, r1, r2 => by
    cases h; cases r1
    cases k; obtain ⟨t2, rfl⟩ := r2
    exact SeqAt.RcAt.none_str _ _
  | .bl a, .non, h, k, r1, r2 => by
    cases h; cases r1
    cases k; cases r2
    exact SeqAt.RcAt.bool_none _
  | .bl a, .bl b, h, k, r1, r2 => by
    cases h; cases r1
    cases k; cases r2
    exact SeqAt.RcAt.bool_bool _ _
  | .bl a, .int b, h, k, r1, r2 => by
    cases h; cases r1
    cases k; obtain ⟨t2, rfl⟩ := r2
    exact SeqAt.RcAt.bool_int _ _ _
  | .bl a, .str b, h, k, r1, r2 => by
    cases h; cases r1
    cases k; obtain ⟨t2, rfl⟩ := r2
    exact SeqAt.RcAt.bool_str _ _ _
  | .int a, .non, h, k, r1, r2 => by
    cases h; obtain ⟨t, rfl⟩ := r1
    cases k; cases r2
    exact SeqAt.RcAt.int_none _ _
  | .int a, .bl b, h, k, r1, r2 => by
    cases h; obtain ⟨t, rfl⟩ := r1
    cases k; cases r2
    exact SeqAt.RcAt.int_bool _ _ _
  | .int a, .int b, h, k, r1, r2 => by
    cases h; obtain ⟨t, rfl⟩ := r1
    cases k; obtain ⟨t2, rfl⟩ := r2
    exact SeqAt.RcAt.int_int _ _ _ _
  | .int a, .str b, h, k, r1, r2 => by
    cases h; obtain ⟨t, rfl⟩ := r1
    cases k; obtain ⟨t2, rfl⟩ := r2
    exact SeqAt.RcAt.int_str _ _ _ _
  | .str a, .non, h, k, r1, r2 => by
    cases h; obtain ⟨t, rfl⟩ := r1
    cases k; cases r2
    exact SeqAt.RcAt.str_none _ _
  | .str a, .bl b, h, k, r1, r2 => by
    cases h; obtain ⟨t, rfl⟩ := r1
    cases k; cases r2
    exact SeqAt.RcAt.str_bool _ _ _
  | .str a, .int b, h, k, r1, r2 => by
    cases h; obtain ⟨t, rfl⟩ := r1
    cases k; obtain ⟨t2, rfl⟩ := r2
    exact SeqAt.RcAt.str_int _ _ _ _
  | .str a, .str b, h, k, r1, r2 => by
    cases h; obtain ⟨t, rfl⟩ := r1
    cases k; obtain ⟨t2, rfl⟩ := r2
    have q := SeqAt.RcAt.str_str (A := A) (s := s) (sT a) t (sT b) t2
    rw [sT_beq] at q
    exact q
  | .lst ds, .non, h, k, r1, r2 => by
    cases h with
    | lst q r =>
      cases k; cases r2
      cases r1
      obtain ⟨its, rv, hl⟩ := isL I (sf.seq q)
      exact SeqAt.RcAt.list_none hl hu
  | .non, .lst es, h, k, r1, r2 => by
    cases k with
    | lst q r =>
      cases h; cases r1
      cases r2
      obtain ⟨its, rv, hl⟩ := isL I (sf.seq q)
      exact SeqAt.RcAt.none_list hl hu
  | .lst ds, .bl b, h, k, r1, r2 => by
    cases h with
    | lst q r =>
      cases k; cases r2
      cases r1
      obtain ⟨its, rv, hl⟩ := isL I (sf.seq q)
      exact SeqAt.RcAt.list_bool _ hl hu
  | .bl b, .lst es, h, k, r1, r2 => by
    cases k with
    | lst q r =>
      cases h; cases r1
      cases r2
      obtain ⟨its, rv, hl⟩ := isL I (sf.seq q)
      exact SeqAt.RcAt.bool_list _ hl hu
  | .lst ds, .int b, h, k, r1, r2 => by
    cases h with
    | lst q r =>
      cases k; obtain ⟨t2, rfl⟩ := r2
      cases r1
      obtain ⟨its, rv, hl⟩ := isL I (sf.seq q)
      exact SeqAt.RcAt.list_int _ _ hl hu
  | .int b, .lst es, h, k, r1, r2 => by
    cases k with
    | lst q r =>
      cases h; obtain ⟨t, rfl⟩ := r1
      cases r2
      obtain ⟨its, rv, hl⟩ := isL I (sf.seq q)
      exact SeqAt.RcAt.int_list _ _ hl hu
  | .lst ds, .str b, h, k, r1, r2 => by
    cases h with
    | lst q r =>
      cases k; obtain ⟨t2, rfl⟩ := r2
      cases r1
      obtain ⟨its, rv, hl⟩ := isL I (sf.seq q)
      exact SeqAt.RcAt.list_str _ _ hl hu
  | .str b, .lst es, h, k, r1, r2 => by
    cases k with
    | lst q r =>
      cases h; obtain ⟨t, rfl⟩ := r1
      cases r2
      obtain ⟨its, rv, hl⟩ := isL I (sf.seq q)
      exact SeqAt.RcAt.str_list _ _ hl hu
  | .tup ds, .non, h, k, r1, r2 => by
    cases h with
    | tup q r =>
      cases k; cases r2
      cases r1
      obtain ⟨its, rv, hl⟩ := isT I (same_seqT sf q)
      exact SeqAt.RcAt.tuple_none hl hu
  | .non, .tup es, h, k, r1, r2 => by
    cases k with
    | tup q r =>
      cases h; cases r1
      cases r2
      obtain ⟨its, rv, hl⟩ := isT I (same_seqT sf q)
      exact SeqAt.RcAt.none_tuple hl hu
  | .tup ds, .bl b, h, k, r1, r2 => by
    cases h with
    | tup q r =>
      cases k; cases r2
      cases r1
      obtain ⟨its, rv, hl⟩ := isT I (same_seqT sf q)
      exact SeqAt.RcAt.tuple_bool _ hl hu
  | .bl b, .tup es, h, k, r1, r2 => by
    cases k with
    | tup q r =>
      cases h; cases r1
      cases r2
      obtain ⟨its, rv, hl⟩ := isT I (same_seqT sf q)
      exact SeqAt.RcAt.bool_tuple _ hl hu
  | .tup ds, .int b, h, k, r1, r2 => by
    cases h with
    | tup q r =>
      cases k; obtain ⟨t2, rfl⟩ := r2
      cases r1
      obtain ⟨its, rv, hl⟩ := isT I (same_seqT sf q)
      exact SeqAt.RcAt.tuple_int _ _ hl hu
  | .int b, .tup es, h, k, r1, r2 => by
    cases k with
    | tup q r =>
      cases h; obtain ⟨t, rfl⟩ := r1
      cases r2
      obtain ⟨its, rv, hl⟩ := isT I (same_seqT sf q)
      exact SeqAt.RcAt.int_tuple _ _ hl hu
  | .tup ds, .str b, h, k, r1, r2 => by
    cases h with
    | tup q r =>
      cases k; obtain ⟨t2, rfl⟩ := r2
      cases r1
      obtain ⟨its, rv, hl⟩ := isT I (same_seqT sf q)
      exact SeqAt.RcAt.tuple_str _ _ hl hu
  | .str b, .tup es, h, k, r1, r2 => by
    cases k with
    | tup q r =>
      cases h; obtain ⟨t, rfl⟩ := r1
      cases r2
      obtain ⟨its, rv, hl⟩ := isT I (same_seqT sf q)
      exact SeqAt.RcAt.str_tuple _ _ hl hu
  | .lst ds, .tup es, h, k, r1, r2 => by
    cases h with
    | lst q r =>
      cases k with
      | tup q' r' =>
        cases r1
        cases r2
        obtain ⟨its, rv, hl⟩ := isL I (sf.seq q)
        obtain ⟨its', rv', hl'⟩ := isT I (same_seqT sf q')
        exact SeqAt.RcAt.list_tuple hl hl' hu
  | .tup ds, .lst es, h, k, r1, r2 => by
    cases h with
    | tup q r =>
      cases k with
      | lst q' r' =>
        cases r1
        cases r2
        obtain ⟨its, rv, hl⟩ := isT I (same_seqT sf q)
        obtain ⟨its', rv', hl'⟩ := isL I (sf.seq q')
        exact SeqAt.RcAt.tuple_list hl hl' hu
  | .lst ds, .lst es, h, k, r1, r2 => by
    cases h with
    | @lst a vs _ q r =>
      cases k with
      | @lst b ws _ q' r' =>
        cases r1
        cases r2
        obtain ⟨its, rv, hl⟩ := isL I (sf.seq q)
        obtain ⟨its', rv', hl'⟩ := isL I (sf.seq q')
        have hd : (List.range (min its.toArray.size its'.toArray.size)).all (pairEq ds es) = (List.range (min ds.length es.length)).all (pairEq ds es) := by rw [List.size_toArray, List.size_toArray, ← rv.length, ← rv'.length, r.len, r'.len]
        have he : ∀ j (h1 : j < its.toArray.size) (h2 : j < its'.toArray.size), SeqAt.EqAt A.in1 s its.toArray[j] its'.toArray[j] (pairEq ds es j) := fun j h1 h2 => by
          obtain ⟨x1, d1, e1, p1, q1⟩ := vals_at r rv j (by simpa using h1)
          obtain ⟨x2, d2, e2, p2, q2⟩ := vals_at r' rv' j (by simpa using h2)
          unfold pairEq
          rw [e1, e2]
          exact eqAt_D I sf n A.in1 hun d1 d2 x1 x2 _ _ (all_get o1 e1) (all_get o2 e2) p1 p2 (by simpa using q1) (by simpa using q2)
        have q0 : SeqAt.RcAt A s (.ref a) (.ref b) (eqDs ds es) := by
          by_cases hz : ds.length = es.length
          · have hz2 : its.toArray.size = its'.toArray.size := by rw [List.size_toArray, List.size_toArray, ← rv.length, ← rv'.length, r.len, r'.len, hz]
            have q0 := SeqAt.RcAt.lists hl hl' hz2 hu he
            have hm : its.toArray.size = min its.toArray.size its'.toArray.size := by omega
            rw [hm, hd] at q0
            have q1 := pairs_all ds es
            have hz3 : (ds.length == es.length) = true := by simpa using hz
            rw [hz3, Bool.and_true] at q1
            rw [q1] at q0
            exact q0
          · rw [eqD_lens hz]
            exact SeqAt.RcAt.lists_lengths hl hl' (by rw [List.size_toArray, List.size_toArray, ← rv.length, ← rv'.length, r.len, r'.len]; simpa using hz) hu
        exact q0
  | .tup ds, .tup es, h, k, r1, r2 => by
    cases h with
    | @tup a vs _ q r =>
      cases k with
      | @tup b ws _ q' r' =>
        cases r1
        cases r2
        obtain ⟨its, rv, hl⟩ := isT I (same_seqT sf q)
        obtain ⟨its', rv', hl'⟩ := isT I (same_seqT sf q')
        have hd : (List.range (min its.toArray.size its'.toArray.size)).all (pairEq ds es) = (List.range (min ds.length es.length)).all (pairEq ds es) := by rw [List.size_toArray, List.size_toArray, ← rv.length, ← rv'.length, r.len, r'.len]
        have he : ∀ j (h1 : j < its.toArray.size) (h2 : j < its'.toArray.size), SeqAt.EqAt A.in1 s its.toArray[j] its'.toArray[j] (pairEq ds es j) := fun j h1 h2 => by
          obtain ⟨x1, d1, e1, p1, q1⟩ := vals_at r rv j (by simpa using h1)
          obtain ⟨x2, d2, e2, p2, q2⟩ := vals_at r' rv' j (by simpa using h2)
          unfold pairEq
          rw [e1, e2]
          exact eqAt_D I sf n A.in1 hun d1 d2 x1 x2 _ _ (all_get o1 e1) (all_get o2 e2) p1 p2 (by simpa using q1) (by simpa using q2)
        have q0 := SeqAt.RcAt.tuples hl hl' hu he
        rw [hd] at q0
        have hz : (its.toArray.size == its'.toArray.size) = (ds.length == es.length) := by rw [List.size_toArray, List.size_toArray, ← rv.length, ← rv'.length, r.len, r'.len]
        rw [hz, pairs_all] at q0
        exact q0
  | .dct _, _, _, _, _, _ => nomatch o1
  | .obj _, _, _, _, _, _ => nomatch o1
  | _, .dct _, _, _, _, _ => nomatch o2
  | _, .obj _, _, _, _, _ => nomatch o2
end
section
variable {X : Cx} {pins : List (Addr × Obj)} {σ : L2.St} {H F : Hp} {s : Shared} {rho : List (Addr × Addr)}
theorem rcNe_D (I : Inv X pins σ H s) (sf : Same F H) (n : Nat) (A : Around) (hn : A.units + (n + 1) < cLine) (d e : D) (x y : V) (u v : Value) (o1 : okq (n + 1) d = true) (o2 : okq (n + 1) e = true) (h : Rep X.K F rho x d) (k : Rep X.K F rho y e) (r1 : L2.RelV x u) (r2 : L2.RelV y v) : SeqAt.RcNeAt A s u v (!eqD d e) := by
   have hu : A.units < cLine := by omega
   have hun : A.in1.units + n < cLine := by rw [units1]; omega
   exact match d, e, h, k, r1, r2 with
  | .non, .non, h, k, r1, r2 => by
    cases h; cases r1
    cases k; cases r2
    exact SeqAt.RcNeAt.none_none
  | .non, .bl b, h, k, r1, r2 => by
    cases h; cases r1
    cases k; cases r2
    exact SeqAt.RcNeAt.none_bool _
  | .non, .int b, h, k, r1, r2 => by
    cases h; cases r1
    cases k; obtain ⟨t2, rfl⟩ := r2
    exact SeqAt.RcNeAt.none_int _ _
  | .non, .str b, h, k, r1, r2 => by
    cases h; cases r1
    cases k; obtain ⟨t2, rfl⟩ := r2
    exact SeqAt.RcNeAt.none_str _ _
  | .bl a, .non, h, k, r1, r2 => by
    cases h; cases r1
    cases k; cases r2
    exact SeqAt.RcNeAt.bool_none _
  | .bl a, .bl b, h, k, r1, r2 => by
    cases h; cases r1
    cases k; cases r2
    exact SeqAt.RcNeAt.bool_bool _ _
  | .bl a, .int b, h, k, r1, r2 => by
    cases h; cases r1
    cases k; obtain ⟨t2, rfl⟩ := r2
    exact SeqAt.RcNeAt.bool_int _ _ _
  | .bl a, .str b, h, k, r1, r2 => by
    cases h; cases r1
    cases k; obtain ⟨t2, rfl⟩ := r2
    exact SeqAt.RcNeAt.bool_str _ _ _
  | .int a, .non, h, k, r1, r2 => by
    cases h; obtain ⟨t, rfl⟩ := r1
    cases k; cases r2
    exact SeqAt.RcNeAt.int_none _ _
  | .int a, .bl b, h, k, r1, r2 => by
    cases h; obtain ⟨t, rfl⟩ := r1
    cases k; cases r2
    exact SeqAt.RcNeAt.int_bool _ _ _
  | .int a, .int b, h, k, r1, r2 => by
    cases h; obtain ⟨t, rfl⟩ := r1
    cases k; obtain ⟨t2, rfl⟩ := r2
    exact SeqAt.RcNeAt.int_int _ _ _ _
  | .int a, .str b, h, k, r1, r2 => by
    cases h; obtain ⟨t, rfl⟩ := r1
    cases k; obtain ⟨t2, rfl⟩ := r2
    exact SeqAt.RcNeAt.int_str _ _ _ _
  | .str a, .non, h, k, r1, r2 => by
    cases h; obtain ⟨t, rfl⟩ := r1
    cases k; cases r2
    exact SeqAt.RcNeAt.str_none _ _
  | .str a, .bl b, h, k, r1, r2 => by
    cases h; obtain ⟨t, rfl⟩ := r1
    cases k; cases r2
    exact SeqAt.RcNeAt.str_bool _ _ _
  | .str a, .int b, h, k, r1, r2 => by
    cases h; obtain ⟨t, rfl⟩ := r1
    cases k; obtain ⟨t2, rfl⟩ := r2
    exact SeqAt.RcNeAt.str_int _ _ _ _
  | .str a, .str b, h, k, r1, r2 => by
    cases h; obtain ⟨t, rfl⟩ := r1
    cases k; obtain ⟨t2, rfl⟩ := r2
    have q := SeqAt.RcNeAt.str_str (A := A) (s := s) (sT a) t (sT b) t2
    rw [sT_beq] at q
    exact q
  | .lst ds, .non, h, k, r1, r2 => by
    cases h with
    | lst q r =>
      cases k; cases r2
      cases r1
      obtain ⟨its, rv, hl⟩ := isL I (sf.seq q)
      exact SeqAt.RcNeAt.list_none hl hu
  | .non, .lst es, h, k, r1, r2 => by
    cases k with
    | lst q r =>
      cases h; cases r1
      cases r2
      obtain ⟨its, rv, hl⟩ := isL I (sf.seq q)
      exact SeqAt.RcNeAt.none_list hl hu
  | .lst ds, .bl b, h, k, r1, r2 => by
    cases h with
    | lst q r =>
      cases k; cases r2
      cases r1
      obtain ⟨its, rv, hl⟩ := isL I (sf.seq q)
      exact SeqAt.RcNeAt.list_bool _ hl hu
  | .bl b, .lst es, h, k, r1, r2 => by
    cases k with
    | lst q r =>
      cases h; cases r1
      cases r2
      obtain ⟨its, rv, hl⟩ := isL I (sf.seq q)
      exact SeqAt.RcNeAt.bool_list _ hl hu
  | .lst ds, .int b, h, k, r1, r2 => by
    cases h with
    | lst q r =>
      cases k; obtain ⟨t2, rfl⟩ := r2
      cases r1
      obtain ⟨its, rv, hl⟩ := isL I (sf.seq q)
      exact SeqAt.RcNeAt.list_int _ _ hl hu
  | .int b, .lst es, h, k, r1, r2 => by
    cases k with
    | lst q r =>
      cases h; obtain ⟨t, rfl⟩ := r1
      cases r2
      obtain ⟨its, rv, hl⟩ := isL I (sf.seq q)
      exact SeqAt.RcNeAt.int_list _ _ hl hu
  | .lst ds, .str b, h, k, r1, r2 => by
    cases h with
    | lst q r =>
      cases k; obtain ⟨t2, rfl⟩ := r2
      cases r1
      obtain ⟨its, rv, hl⟩ := isL I (sf.seq q)
      exact SeqAt.RcNeAt.list_str _ _ hl hu
  | .str b, .lst es, h, k, r1, r2 => by
    cases k with
    | lst q r =>
      cases h; obtain ⟨t, rfl⟩ := r1
      cases r2
      obtain ⟨its, rv, hl⟩ := isL I (sf.seq q)
      exact SeqAt.RcNeAt.str_list _ _ hl hu
  | .tup ds, .non, h, k, r1, r2 => by
    cases h with
    | tup q r =>
      cases k; cases r2
      cases r1
      obtain ⟨its, rv, hl⟩ := isT I (same_seqT sf q)
      exact SeqAt.RcNeAt.tuple_none hl hu
  | .non, .tup es, h, k, r1, r2 => by
    cases k with
    | tup q r =>
      cases h; cases r1
      cases r2
      obtain ⟨its, rv, hl⟩ := isT I (same_seqT sf q)
      exact SeqAt.RcNeAt.none_tuple hl hu
  | .tup ds, .bl b, h, k, r1, r2 => by
    cases h with
    | tup q r =>
      cases k; cases r2
      cases r1
      obtain ⟨its, rv, hl⟩ := isT I (same_seqT sf q)
      exact SeqAt.RcNeAt.tuple_bool _ hl hu
  | .bl b, .tup es, h, k, r1, r2 => by
    cases k with
    | tup q r =>
      cases h; cases r1
      cases r2
      obtain ⟨its, rv, hl⟩ := isT I (same_seqT sf q)
      exact SeqAt.RcNeAt.bool_tuple _ hl hu
  | .tup ds, .int b, h, k, r1, r2 => by
    cases h with
    | tup q r =>
      cases k; obtain ⟨t2, rfl⟩ := r2
      cases r1
      obtain ⟨its, rv, hl⟩ := isT I (same_seqT sf q)
      exact SeqAt.RcNeAt.tuple_int _ _ hl hu
  | .int b, .tup es, h, k, r1, r2 => by
    cases k with
    | tup q r =>
      cases h; obtain ⟨t, rfl⟩ := r1
      cases r2
      obtain ⟨its, rv, hl⟩ := isT I (same_seqT sf q)
      exact SeqAt.RcNeAt.int_tuple _ _ hl hu
  | .tup ds, .str b, h, k, r1, r2 => by
    cases h with
    | tup q r =>
      cases k; obtain ⟨t2, rfl⟩ := r2
      cases r1
      obtain ⟨its, rv, hl⟩ := isT I (same_seqT sf q)
      exact SeqAt.RcNeAt.tuple_str _ _ hl hu
  | .str b, .tup es, h, k, r1, r2 => by
    cases k with
    | tup q r =>
      cases h; obtain ⟨t, rfl⟩ := r1
      cases r2
      obtain ⟨its, rv, hl⟩ := isT I (same_seqT sf q)
      exact SeqAt.RcNeAt.str_tuple _ _ hl hu
  | .lst ds, .tup es, h, k, r1, r2 => by
    cases h with
    | lst q r =>
      cases k with
      | tup q' r' =>
        cases r1
        cases r2
        obtain ⟨its, rv, hl⟩ := isL I (sf.seq q)
        obtain ⟨its', rv', hl'⟩ := isT I (same_seqT sf q')
        exact SeqAt.RcNeAt.list_tuple hl hl' hu
  | .tup ds, .lst es, h, k, r1, r2 => by
    cases h with
    | tup q r =>
      cases k with
      | lst q' r' =>
        cases r1
        cases r2
        obtain ⟨its, rv, hl⟩ := isT I (same_seqT sf q)
        obtain ⟨its', rv', hl'⟩ := isL I (sf.seq q')
        exact SeqAt.RcNeAt.tuple_list hl hl' hu
  | .lst ds, .lst es, h, k, r1, r2 => by
    cases h with
    | @lst a vs _ q r =>
      cases k with
      | @lst b ws _ q' r' =>
        cases r1
        cases r2
        obtain ⟨its, rv, hl⟩ := isL I (sf.seq q)
        obtain ⟨its', rv', hl'⟩ := isL I (sf.seq q')
        have hd : (List.range (min its.toArray.size its'.toArray.size)).all (pairEq ds es) = (List.range (min ds.length es.length)).all (pairEq ds es) := by rw [List.size_toArray, List.size_toArray, ← rv.length, ← rv'.length, r.len, r'.len]
        have he : ∀ j (h1 : j < its.toArray.size) (h2 : j < its'.toArray.size), SeqAt.EqAt A.in1 s its.toArray[j] its'.toArray[j] (pairEq ds es j) := fun j h1 h2 => by
          obtain ⟨x1, d1, e1, p1, q1⟩ := vals_at r rv j (by simpa using h1)
          obtain ⟨x2, d2, e2, p2, q2⟩ := vals_at r' rv' j (by simpa using h2)
          unfold pairEq
          rw [e1, e2]
          exact eqAt_D I sf n A.in1 hun d1 d2 x1 x2 _ _ (all_get o1 e1) (all_get o2 e2) p1 p2 (by simpa using q1) (by simpa using q2)
        have q0 : SeqAt.RcNeAt A s (.ref a) (.ref b) (!eqDs ds es) := by
          by_cases hz : ds.length = es.length
          · have hz2 : its.toArray.size = its'.toArray.size := by rw [List.size_toArray, List.size_toArray, ← rv.length, ← rv'.length, r.len, r'.len, hz]
            have q0 := SeqAt.RcNeAt.lists hl hl' hz2 hu he
            have hm : its.toArray.size = min its.toArray.size its'.toArray.size := by omega
            rw [hm, hd] at q0
            have q1 := pairs_all ds es
            have hz3 : (ds.length == es.length) = true := by simpa using hz
            rw [hz3, Bool.and_true] at q1
            rw [q1] at q0
            exact q0
          · rw [eqD_lens hz]
            exact SeqAt.RcNeAt.lists_lengths hl hl' (by rw [List.size_toArray, List.size_toArray, ← rv.length, ← rv'.length, r.len, r'.len]; simpa using hz) hu
        exact q0
  | .tup ds, .tup es, h, k, r1, r2 => by
    cases h with
    | @tup a vs _ q r =>
      cases k with
      | @tup b ws _ q' r' =>
        cases r1
        cases r2
        obtain ⟨its, rv, hl⟩ := isT I (same_seqT sf q)
        obtain ⟨its', rv', hl'⟩ := isT I (same_seqT sf q')
        have hd : (List.range (min its.toArray.size its'.toArray.size)).all (pairEq ds es) = (List.range (min ds.length es.length)).all (pairEq ds es) := by rw [List.size_toArray, List.size_toArray, ← rv.length, ← rv'.length, r.len, r'.len]
        have he : ∀ j (h1 : j < its.toArray.size) (h2 : j < its'.toArray.size), SeqAt.EqAt A.in1 s its.toArray[j] its'.toArray[j] (pairEq ds es j) := fun j h1 h2 => by
          obtain ⟨x1, d1, e1, p1, q1⟩ := vals_at r rv j (by simpa using h1)
          obtain ⟨x2, d2, e2, p2, q2⟩ := vals_at r' rv' j (by simpa using h2)
          unfold pairEq
          rw [e1, e2]
          exact eqAt_D I sf n A.in1 hun d1 d2 x1 x2 _ _ (all_get o1 e1) (all_get o2 e2) p1 p2 (by simpa using q1) (by simpa using q2)
        have q0 := SeqAt.RcNeAt.tuples hl hl' hu he
        rw [hd] at q0
        have hz : (its.toArray.size == its'.toArray.size) = (ds.length == es.length) := by rw [List.size_toArray, List.size_toArray, ← rv.length, ← rv'.length, r.len, r'.len]
        rw [hz, pairs_all] at q0
        exact q0
  | .dct _, _, _, _, _, _ => nomatch o1
  | .obj _, _, _, _, _, _ => nomatch o1
  | _, .dct _, _, _, _, _ => nomatch o2
  | _, .obj _, _, _, _, _ => nomatch o2
end
end
end Dl

set_option Elab.async false
set_option linter.all false
set_option maxRecDepth 100000
set_option maxHeartbeats 1000000
/-! The data level: == != in, built-in functions, subscripts, displays. -/
namespace Dl
open PySem PySem.Spec PyProof.Rows L2
noncomputable section

/-! ### ==, != -/
def rEqG (K : PySem.W.Frag) (neg : Bool) : R2 := fun x y H Q => ∃ F rho d e, Same F H ∧ Rep K F rho x d ∧ Rep K F rho y e ∧ okq 24 d = true ∧ okq 24 e = true ∧ Q (.bl (if neg then !eqD d e else eqD d e)) H
section
variable {X : Cx} {W : WX} {a b : Expr} {ma mb : M D} {pos : Pos}
theorem op_eqG (hu : X.A.units + 64 < cLine) : OpR X (compareOp .Eq) (rEqG X.K false) := by
  intro pins s σ H x y v u Q I rx ry ⟨F, rho, d, e, sf, h, k, o1, o2, q⟩
  exact rc_D I sf 23 X.A (by omega) d e x y v u o1 o2 h k rx ry X.prog X.w _ _ ⟨.bl _, H, I, rfl, q⟩
theorem op_neG (hu : X.A.units + 64 < cLine) : OpR X (compareOp .NotEq) (rEqG X.K true) := by
  intro pins s σ H x y v u Q I rx ry ⟨F, rho, d, e, sf, h, k, o1, o2, q⟩
  exact rcNe_D I sf 23 X.A (by omega) d e x y v u o1 o2 h k rx ry X.prog X.w _ _ ⟨.bl _, H, I, rfl, q⟩
theorem op2_eq {K : PySem.W.Frag} {mg : Ev} : Op2 K mg (rEqG K false) eqM := by
  intro x y d e G en so σ H W Q rx ry s p
  obtain ⟨⟨h1, h2⟩, p⟩ := Post.gd p
  exact ⟨_, _, d, e, s.toSimO.rep, rx, ry, h1, h2, p.ok s (.bl _)⟩
theorem op2_ne {K : PySem.W.Frag} {mg : Ev} : Op2 K mg (rEqG K true) neM := by
  intro x y d e G en so σ H W Q rx ry s p
  obtain ⟨⟨h1, h2⟩, p⟩ := Post.gd p
  exact ⟨_, _, d, e, s.toSimO.rep, rx, ry, h1, h2, p.ok s (.bl _)⟩
end

/-! ### in, not in -/
def inD (d : D) : D → M D
  | .str z => match d with
    | .str [c] => pu (.bl (decide (c ∈ z)))
    | _ => no
  | .lst xs => gd (okq 23 d = true ∧ xs.all (okq 23) = true) (pu (.bl (xs.any fun z => eqD z d)))
  | .tup xs => gd (okq 23 d = true ∧ xs.all (okq 23) = true) (pu (.bl (xs.any fun z => eqD z d)))
  | _ => no
def niD (d : D) : D → M D
  | .str z => match d with
    | .str [c] => pu (.bl (!decide (c ∈ z)))
    | _ => no
  | .lst xs => gd (okq 23 d = true ∧ xs.all (okq 23) = true) (pu (.bl (!xs.any fun z => eqD z d)))
  | .tup xs => gd (okq 23 d = true ∧ xs.all (okq 23) = true) (pu (.bl (!xs.any fun z => eqD z d)))
  | _ => no
def rInG (K : PySem.W.Frag) (neg : Bool) : R2 := fun x y H Q => ∃ F rho d a vs ds, Same F H ∧ Rep K F rho x d ∧ y = .ref a ∧ (SqL K F a vs ∨ SqT K F a vs) ∧ Reps K F rho vs ds ∧ okq 23 d = true ∧ ds.all (okq 23) = true ∧ Q (.bl (if neg then !ds.any (fun z => eqD z d) else ds.any fun z => eqD z d)) H
section
variable {X : Cx} {pins : List (Addr × Obj)} {σ : L2.St} {H F : Hp} {s : Shared} {rho : List (Addr × Addr)}
/-- the test of an item, by values -/
def itemEq (K : PySem.W.Frag) (F : Hp) (rho : List (Addr × Addr)) (its : List Value) (ds : List D) (d : D) (y : Value) : Bool :=
  @decide (∃ (j : Nat) (x : V) (z : D), its[j]? = some y ∧ ds[j]? = some z ∧ Rep K F rho x z ∧ L2.RelV x y ∧ eqD z d = true) (Classical.propDecidable _)
theorem itemEq_any {K : PySem.W.Frag} {vs : List V} {ds : List D} {its : List Value} {d : D} (r : Reps K F rho vs ds) (v : Vals vs its) : its.any (itemEq K F rho its ds d) = ds.any fun z => eqD z d := by
  rw [Bool.eq_iff_iff, List.any_eq_true, List.any_eq_true]
  constructor
  · rintro ⟨y, _, h⟩
    obtain ⟨j, x, z, e1, e2, _, _, h⟩ := @of_decide_eq_true _ (Classical.propDecidable _) h
    exact ⟨z, List.mem_of_getElem? e2, h⟩
  · rintro ⟨z, hz, h⟩
    obtain ⟨j, hj, e⟩ := List.getElem_of_mem hz
    have hl : j < its.length := by rw [← v.length, r.len]; exact hj
    obtain ⟨x, z', e2, e3, e4⟩ := vals_at r v j hl
    rw [List.getElem?_eq_getElem hj] at e2
    cases e2
    refine ⟨its[j], List.getElem_mem hl, ?_⟩
    exact @decide_eq_true _ (Classical.propDecidable _) ⟨j, x, ds[j], List.getElem?_eq_getElem hl, List.getElem?_eq_getElem hj, e3, e4, by rw [e]; exact h⟩
theorem itemEq_at (I : Inv X pins σ H s) (sf : Same F H) {A : Around} (hu : A.units + 64 < cLine) {vs : List V} {ds : List D} {its : List Value} {d : D} {x : V} {u : Value} (r : Reps X.K F rho vs ds) (v : Vals vs its) (hd : Rep X.K F rho x d) (rx : L2.RelV x u) (o1 : okq 23 d = true) (o2 : ds.all (okq 23) = true) :
    ∀ y, y ∈ its.toArray → SeqAt.EqAt A.in1 s y u (itemEq X.K F rho its ds d y) := by
  intro y hy
  have hn : A.in1.units + 23 < cLine := by rw [units1]; omega
  cases hb : itemEq X.K F rho its ds d y with
  | true =>
    obtain ⟨j, x', z, e1, e2, e3, e4, e5⟩ := @of_decide_eq_true _ (Classical.propDecidable _) hb
    have q := eqAt_D I sf 23 A.in1 hn z d x' x y u (all_get o2 e2) o1 e3 hd e4 rx
    rw [e5] at q
    exact q
  | false =>
    have hy' : y ∈ its := by simpa using hy
    obtain ⟨j, hj, e⟩ := List.getElem_of_mem hy'
    obtain ⟨x', z, e2, e3, e4⟩ := vals_at r v j hj
    have q := eqAt_D I sf 23 A.in1 hn z d x' x its[j] u (all_get o2 e2) o1 e3 hd e4 rx
    have hf : eqD z d = false := by
      cases hz : eqD z d with
      | false => rfl
      | true =>
        have : itemEq X.K F rho its ds d y = true := @decide_eq_true _ (Classical.propDecidable _) ⟨j, x', z, by rw [List.getElem?_eq_getElem hj, e], e2, e3, e ▸ e4, hz⟩
        rw [hb] at this
        cases this
    rw [hf, e] at q
    exact q
end
section
variable {X : Cx}
theorem op_inG (hu : X.A.units + 64 < cLine) : OpR X (compareOp .In) (rInG X.K false) := by
  intro pins s σ H x y v u Q I rx ry ⟨F, rho, d, a, vs, ds, sf, h, e, hs, r, o1, o2, q⟩
  subst e
  cases ry
  rcases hs with hs | hs
  · obtain ⟨its, rv, hl⟩ := isL I (sf.seq hs)
    refine SeqAt.in_listAt _ hl (itemEq_at I sf hu r rv h rx o1 o2) ?_
    refine ⟨.bl _, H, I, rfl, ?_⟩
    have e := itemEq_any (d := d) r rv
    rw [List.any_toArray, e]
    exact q
  · obtain ⟨its, rv, hl⟩ := isT I (same_seqT sf hs)
    refine SeqAt.in_tupleAt _ hl (itemEq_at I sf hu r rv h rx o1 o2) ?_
    refine ⟨.bl _, H, I, rfl, ?_⟩
    have e := itemEq_any (d := d) r rv
    rw [List.any_toArray, e]
    exact q
theorem op_niG (hu : X.A.units + 64 < cLine) : OpR X (compareOp .NotIn) (rInG X.K true) := by
  intro pins s σ H x y v u Q I rx ry ⟨F, rho, d, a, vs, ds, sf, h, e, hs, r, o1, o2, q⟩
  subst e
  cases ry
  rcases hs with hs | hs
  · obtain ⟨its, rv, hl⟩ := isL I (sf.seq hs)
    refine SeqAt.notIn_listAt _ hl (itemEq_at I sf hu r rv h rx o1 o2) ?_
    refine ⟨.bl _, H, I, rfl, ?_⟩
    have e := itemEq_any (d := d) r rv
    rw [List.any_toArray, e]
    exact q
  · obtain ⟨its, rv, hl⟩ := isT I (same_seqT sf hs)
    refine SeqAt.notIn_tupleAt _ hl (itemEq_at I sf hu r rv h rx o1 o2) ?_
    refine ⟨.bl _, H, I, rfl, ?_⟩
    have e := itemEq_any (d := d) r rv
    rw [List.any_toArray, e]
    exact q
abbrev rInS : R2 := fun x y H Q => ∃ (c : Nat) (z : Str), x = .str ⟨#[c]⟩ ∧ y = .str z ∧ Q (.bl (decide (c ∈ z.cps.toList))) H
abbrev rNiS : R2 := fun x y H Q => ∃ (c : Nat) (z : Str), x = .str ⟨#[c]⟩ ∧ y = .str z ∧ Q (.bl (!decide (c ∈ z.cps.toList))) H
theorem op_inA (hu : X.A.units + 64 < cLine) : OpR X (compareOp .In) (fun x y H Q => rInS x y H Q ∨ rInG X.K false x y H Q) := OpR.or op_in_sign (op_inG hu)
theorem op_niA (hu : X.A.units + 64 < cLine) : OpR X (compareOp .NotIn) (fun x y H Q => rNiS x y H Q ∨ rInG X.K true x y H Q) := OpR.or op_notIn_sign (op_niG hu)
theorem op2_in {K : PySem.W.Frag} {mg : Ev} : Op2 K mg (fun x y H Q => rInS x y H Q ∨ rInG K false x y H Q) inD := by
  intro x y d e G en so σ H W Q rx ry s p
  cases ry with
  | str z =>
    cases d with
    | str c =>
      match c, rx, p with
      | [], _, p => exact False.elim p
      | [c], rx, p =>
        cases rx
        refine .inl ⟨c, sT z, rfl, rfl, ?_⟩
        rw [tl_sT]
        exact p.ok s (.bl _)
      | _ :: _ :: _, _, p => exact False.elim p
    | _ => exact False.elim p
  | lst h r =>
    obtain ⟨⟨h1, h2⟩, p⟩ := Post.gd p
    exact .inr ⟨_, _, d, _, _, _, s.toSimO.rep, rx, rfl, .inl h, r, h1, h2, p.ok s (.bl _)⟩
  | tup h r =>
    obtain ⟨⟨h1, h2⟩, p⟩ := Post.gd p
    exact .inr ⟨_, _, d, _, _, _, s.toSimO.rep, rx, rfl, .inr h, r, h1, h2, p.ok s (.bl _)⟩
  | _ => exact False.elim p
theorem op2_ni {K : PySem.W.Frag} {mg : Ev} : Op2 K mg (fun x y H Q => rNiS x y H Q ∨ rInG K true x y H Q) niD := by
  intro x y d e G en so σ H W Q rx ry s p
  cases ry with
  | str z =>
    cases d with
    | str c =>
      match c, rx, p with
      | [], _, p => exact False.elim p
      | [c], rx, p =>
        cases rx
        refine .inl ⟨c, sT z, rfl, rfl, ?_⟩
        rw [tl_sT]
        exact p.ok s (.bl _)
      | _ :: _ :: _, _, p => exact False.elim p
    | _ => exact False.elim p
  | lst h r =>
    obtain ⟨⟨h1, h2⟩, p⟩ := Post.gd p
    exact .inr ⟨_, _, d, _, _, _, s.toSimO.rep, rx, rfl, .inl h, r, h1, h2, p.ok s (.bl _)⟩
  | tup h r =>
    obtain ⟨⟨h1, h2⟩, p⟩ := Post.gd p
    exact .inr ⟨_, _, d, _, _, _, s.toSimO.rep, rx, rfl, .inr h, r, h1, h2, p.ok s (.bl _)⟩
  | _ => exact False.elim p
end

/-! ### built-in functions -/
def lenD : List D → M D
  | [.str s] => gd (s.length ≤ 16777216) (pu (.int s.length))
  | [.lst xs] => pu (.int xs.length)
  | [.tup xs] => pu (.int xs.length)
  | _ => no
def absD : List D → M D
  | [.int i] => pu (.int (if i < 0 then -i else i))
  | _ => no
def intD : List D → M D
  | [.int i] => pu (.int i)
  | [.bl b] => pu (.int (if b then 1 else 0))
  | _ => no
def ordD : List D → M D
  | [.str [c]] => pu (.int c)
  | _ => no
/-- a list of truth values -/
def blsOf : List D → Option (List Bool)
  | [] => some []
  | .bl b :: r => (blsOf r).map (b :: ·)
  | _ => none
def allD : List D → M D
  | [.lst xs] => match blsOf xs with
    | some bs => pu (.bl (bs.all id))
    | none => no
  | _ => no
def anyD : List D → M D
  | [.lst xs] => match blsOf xs with
    | some bs => pu (.bl (bs.any id))
    | none => no
  | _ => no
section
variable {K : PySem.W.Frag} {mg : Ev}
theorem reps1 {F : Hp} {rho : List (Addr × Addr)} {xs : List V} {d : D} (r : Reps K F rho xs [d]) : ∃ x, xs = [x] ∧ Rep K F rho x d := by
  cases r with
  | cons h r => cases r; exact ⟨_, rfl, h⟩
theorem opn_len : OpN K mg (fun xs H Q => ∃ x n, xs = [x] ∧ LenV K x H n ∧ Q (.int n) H) lenD := by
  intro xs ds G en so σ H W Q r s p
  match ds, r, p with
  | [d], r, p =>
    obtain ⟨x, rfl, h⟩ := reps1 r
    cases h with
    | str z =>
      obtain ⟨h1, p⟩ := Post.gd (c := z.length ≤ 16777216) p
      exact ⟨_, z.length, rfl, ⟨by rw [sT_len, sizeLine_eq]; exact h1, (sT_len z).symm⟩, p.ok s (.int _)⟩
    | lst h r2 => exact ⟨_, _, rfl, .inl ⟨_, s.toSimO.rep.seq h, rfl⟩, by rw [r2.len]; exact p.ok s (.int _)⟩
    | tup h r2 => exact ⟨_, _, rfl, .inr ⟨_, same_seqT s.toSimO.rep h, rfl⟩, by rw [r2.len]; exact p.ok s (.int _)⟩
    | _ => exact False.elim p
  | [], _, p => exact False.elim p
  | d :: _ :: _, _, p => cases d <;> exact False.elim p
theorem opn_abs : OpN K mg (fun xs H Q => ∃ i, xs = [.int i] ∧ Q (.int (if i < 0 then -i else i)) H) absD := by
  intro xs ds G en so σ H W Q r s p
  match ds, r, p with
  | [d], r, p =>
    obtain ⟨x, rfl, h⟩ := reps1 r
    cases h with
    | int i => exact ⟨i, rfl, p.ok s (.int _)⟩
    | _ => exact False.elim p
  | [], _, p => exact False.elim p
  | d :: _ :: _, _, p => cases d <;> exact False.elim p
theorem opn_int : OpN K mg (fun xs H Q => (∃ i, xs = [.int i] ∧ Q (.int i) H) ∨ ∃ k, xs = [.bl k] ∧ Q (.int (if k then 1 else 0)) H) intD := by
  intro xs ds G en so σ H W Q r s p
  match ds, r, p with
  | [d], r, p =>
    obtain ⟨x, rfl, h⟩ := reps1 r
    cases h with
    | int i => exact .inl ⟨i, rfl, p.ok s (.int _)⟩
    | bl i => exact .inr ⟨i, rfl, p.ok s (.int _)⟩
    | _ => exact False.elim p
  | [], _, p => exact False.elim p
  | d :: _ :: _, _, p => cases d <;> exact False.elim p
theorem opn_ord : OpN K mg (fun xs H Q => ∃ x, xs = [.str x] ∧ x.length = 1 ∧ Q (.int (x.cps.getD 0 0 : Nat)) H) ordD := by
  intro xs ds G en so σ H W Q r s p
  match ds, r, p with
  | [.str [c]], r, p =>
    obtain ⟨x, rfl, h⟩ := reps1 r
    cases h
    exact ⟨_, rfl, rfl, p.ok s (.int _)⟩
  | [.str []], _, p => exact False.elim p
  | [.str (_ :: _ :: _)], _, p => exact False.elim p
  | [.non], _, p => exact False.elim p
  | [.bl _], _, p => exact False.elim p
  | [.int _], _, p => exact False.elim p
  | [.lst _], _, p => exact False.elim p
  | [.tup _], _, p => exact False.elim p
  | [.dct _], _, p => exact False.elim p
  | [.obj _], _, p => exact False.elim p
  | [], _, p => exact False.elim p
  | .str [] :: _ :: _, _, p => exact False.elim p
  | .str [_] :: _ :: _, _, p => exact False.elim p
  | .str (_ :: _ :: _) :: _ :: _, _, p => exact False.elim p
  | .non :: _ :: _, _, p => exact False.elim p
  | .bl _ :: _ :: _, _, p => exact False.elim p
  | .int _ :: _ :: _, _, p => exact False.elim p
  | .lst _ :: _ :: _, _, p => exact False.elim p
  | .tup _ :: _ :: _, _, p => exact False.elim p
  | .dct _ :: _ :: _, _, p => exact False.elim p
  | .obj _ :: _ :: _, _, p => exact False.elim p
theorem bls_of {F : Hp} {rho : List (Addr × Addr)} : ∀ {vs : List V} {ds : List D} {bs : List Bool}, Reps K F rho vs ds → blsOf ds = some bs → vs = bs.map V.bl
  | _, [], bs, .nil, e => by cases e; rfl
  | _, .bl b :: r, bs, .cons h k, e => by
    cases h
    have e' : (blsOf r).map (b :: ·) = some bs := e
    cases q : blsOf r with
    | none => rw [q] at e'; cases e'
    | some bs' =>
      rw [q] at e'
      cases e'
      rw [bls_of k q]
      rfl
  | _, .non :: _, _, _, e => nomatch e
  | _, .int _ :: _, _, _, e => nomatch e
  | _, .str _ :: _, _, _, e => nomatch e
  | _, .lst _ :: _, _, _, e => nomatch e
  | _, .tup _ :: _, _, _, e => nomatch e
  | _, .dct _ :: _, _, _, e => nomatch e
  | _, .obj _ :: _, _, _, e => nomatch e
theorem opn_all : OpN K mg (rAll K) allD := by
  intro xs ds G en so σ H W Q r s p
  match ds, r, p with
  | [.lst zs], r, p =>
    obtain ⟨x, rfl, h⟩ := reps1 r
    cases h with
    | lst h r2 =>
      have p' : Post K mg G W (rlD K) σ ((match blsOf zs with | some bs => (pu (D.bl (bs.all id)) : M D) | none => no) en so) Q := p
      cases e : blsOf zs with
      | none => rw [e] at p'; exact False.elim p'
      | some bs =>
        rw [e] at p'
        refine ⟨_, bs, rfl, ?_, p'.ok s (.bl _)⟩
        rw [← bls_of r2 e]
        exact s.toSimO.rep.seq h
  | [], _, p => exact False.elim p
  | [.non], _, p => exact False.elim p
  | [.bl _], _, p => exact False.elim p
  | [.int _], _, p => exact False.elim p
  | [.str _], _, p => exact False.elim p
  | [.tup _], _, p => exact False.elim p
  | [.dct _], _, p => exact False.elim p
  | [.obj _], _, p => exact False.elim p
  | d :: _ :: _, _, p => cases d <;> exact False.elim p
theorem opn_any : OpN K mg (rAny K) anyD := by
  intro xs ds G en so σ H W Q r s p
  match ds, r, p with
  | [.lst zs], r, p =>
    obtain ⟨x, rfl, h⟩ := reps1 r
    cases h with
    | lst h r2 =>
      have p' : Post K mg G W (rlD K) σ ((match blsOf zs with | some bs => (pu (D.bl (bs.any id)) : M D) | none => no) en so) Q := p
      cases e : blsOf zs with
      | none => rw [e] at p'; exact False.elim p'
      | some bs =>
        rw [e] at p'
        refine ⟨_, bs, rfl, ?_, p'.ok s (.bl _)⟩
        rw [← bls_of r2 e]
        exact s.toSimO.rep.seq h
  | [], _, p => exact False.elim p
  | [.non], _, p => exact False.elim p
  | [.bl _], _, p => exact False.elim p
  | [.int _], _, p => exact False.elim p
  | [.str _], _, p => exact False.elim p
  | [.tup _], _, p => exact False.elim p
  | [.dct _], _, p => exact False.elim p
  | [.obj _], _, p => exact False.elim p
  | d :: _ :: _, _, p => cases d <;> exact False.elim p
end
end
end Dl

set_option Elab.async false
set_option linter.all false
set_option maxRecDepth 100000
set_option maxHeartbeats 1000000
/-! The data level: isinstance, subscripts, slices, displays, what is walked, comprehensions. -/
namespace Dl
open PySem PySem.Spec PyProof.Rows L2
noncomputable section

/-! ### isinstance against built-in classes -/
inductive TyN where
  | bool | int | str | list | tuple | dict
def TyN.nm : TyN → String
  | .bool => "bool"
  | .int => "int"
  | .str => "str"
  | .list => "list"
  | .tuple => "tuple"
  | .dict => "dict"
def isD : TyN → D → Bool
  | .bool, .bl _ => true
  | .int, .bl _ => true
  | .int, .int _ => true
  | .str, .str _ => true
  | .list, .lst _ => true
  | .tuple, .tup _ => true
  | .dict, .dct _ => true
  | _, _ => false
def mIs (T : TyN) (m : M D) : M D := bd m fun d => match d with
  | .obj _ => no
  | d => pu (.bl (isD T d))
def tyS : D → String
  | .non => "NoneType"
  | .bl _ => "bool"
  | .int _ => "int"
  | .str _ => "str"
  | .lst _ => "list"
  | .tup _ => "tuple"
  | .dct _ => "dict"
  | .obj _ => ""
theorem kit_all (T : TyN) (n : String) (h : n = "NoneType" ∨ n = "bool" ∨ n = "int" ∨ n = "str" ∨ n = "list" ∨ n = "tuple" ∨ n = "dict") : kitB n T.nm = some (n == T.nm || (n == "bool" && T.nm == "int")) := by
  rcases h with h | h | h | h | h | h | h <;> subst h <;> cases T <;> decide +kernel
theorem isD_eq (T : TyN) (d : D) (h : ∀ k, d ≠ .obj k) : (tyS d == T.nm || (tyS d == "bool" && T.nm == "int")) = isD T d := by
  cases d <;> cases T <;> first | rfl | decide | exact absurd rfl (h _)
section
variable {X : Cx} {W : WX} {a b c e : Expr} {ma mb mc m : M D} {ms : M (List D)} {pos p px : Pos} {x : Str}
theorem tyx_of {K : PySem.W.Frag} {F H : Hp} {rho : List (Addr × Addr)} {v : V} {d : D} (sf : Same F H) (r : Rep K F rho v d) (h : ∀ k, d ≠ .obj k) : TyX K H v (.type (tyS d)) := by
  cases r with
  | non => exact .base .non
  | bl b => exact .base (.bl b)
  | int b => exact .base (.int b)
  | str b => exact .base (.str _)
  | lst q r =>
    rcases sf.seq q with (q | ⟨o, q⟩) | ⟨o, its, n, q, c, _⟩
    · exact .base (.lst q)
    · exact .base (.frz q)
    · exact .kList q c
  | tup q r =>
    rcases same_seqT sf q with (q | ⟨o, q⟩) | ⟨o, its, n, q, c, _⟩
    · exact .base (.tup q)
    · exact .fTuple q
    · exact .kTuple q c
  | dct q r =>
    rcases same_rd sf q with q | ⟨o, q⟩
    · exact .base (.dK q)
    · exact .fDict q
  | obj q => exact absurd rfl (h _)
theorem tyS_known (d : D) (h : ∀ k, d ≠ .obj k) : tyS d = "NoneType" ∨ tyS d = "bool" ∨ tyS d = "int" ∨ tyS d = "str" ∨ tyS d = "list" ∨ tyS d = "tuple" ∨ tyS d = "dict" := by
  cases d <;> simp [tyS]
  exact absurd rfl (h _)
/-- isinstance(e, T) -/
theorem d_is (T : TyN) (ha : DE X W e m) (hg : Gl X "isinstance") (hm : X.mg "isinstance" = none) (hgT : Gl X x) (hmT : X.mg x = none) (hvT : bootBuiltins x = some (.type T.nm))
    (he : starEach [e, .Name x px] X.env = (false, eval e X.env) :: starEach [.Name x px] X.env := by rfl) (hpl : (backTo pos (starEach [.Name x px] X.env)).any (·.1) = false := by rfl) (hn : x ≠ "__name__" := by decide) (hd : (x == ("__debug__" : Str)) = false := by decide) : DE X W (.Call (.Name "isinstance" p) [e, .Name x px] [] pos) (mIs T m) := by
  refine ⟨PE_imp (pe_callB call_isi hg hm boot_isinstance (pa_cons ha.pe (pa_cons (pe_bltn hgT hmT hvT (v := .ty T.nm) rfl hn hd) pa_nil) he) (he := he) (hpl := hpl)) fun σ H Q q => ?_⟩
  obtain ⟨G, en, so, s, p⟩ := q
  refine ⟨G, en, so, s, (Post.bind (R1 := rlD X.K) p).imp fun v H1 ⟨G1, en1, so1, d, l, r1, s1, p1⟩ => ?_⟩
  have nob : ∀ k, d ≠ .obj k := fun k z => by subst z; exact False.elim p1
  have p2 : Q (.bl (isD T d)) H1 := by
    cases d <;> first | exact p1.ok s1 (.bl _) | exact absurd rfl (nob _)
  refine ⟨v, .ty T.nm, .type (tyS d), .type T.nm, isD T d, rfl, .ty _, tyx_of s1.toSimO.rep r1 nob, ?_, p2⟩
  rw [← isD_eq T d nob]
  exact kit_ty (kit_all T _ (tyS_known d nob))
end

/-! ### items -/
def ixD : D → D → M D
  | .lst xs, .int i => match atI xs i with
    | some d => pu d
    | none => no
  | .tup xs, .int i => match atI xs i with
    | some d => pu d
    | none => no
  | .str s, .int i => gd (s.length ≤ 16777216) (match atI s i with
    | some c => pu (.str [c])
    | none => no)
  | _, _ => no
theorem reps_at {K : PySem.W.Frag} {F : Hp} {rho : List (Addr × Addr)} : ∀ {vs : List V} {ds : List D} {j : Nat} {d : D}, Reps K F rho vs ds → ds[j]? = some d → ∃ v, vs[j]? = some v ∧ Rep K F rho v d
  | _, _, _, _, .nil, e => nomatch e
  | _, _, 0, _, .cons h _, e => by cases e; exact ⟨_, rfl, h⟩
  | _, _, j + 1, _, .cons _ r, e => by
    obtain ⟨v, h1, h2⟩ := reps_at (j := j) r (by simpa using e)
    exact ⟨v, by simpa using h1, h2⟩
theorem reps_atI {K : PySem.W.Frag} {F : Hp} {rho : List (Addr × Addr)} {vs : List V} {ds : List D} {i : Int} {d : D} (r : Reps K F rho vs ds) (e : atI ds i = some d) : ∃ v, atI vs i = some v ∧ Rep K F rho v d := by
  unfold atI at e ⊢
  rw [r.len]
  cases q : ixN ds.length i with
  | none => rw [q] at e; cases e
  | some j =>
    rw [q] at e
    exact reps_at r e
section
variable {K : PySem.W.Frag} {mg : Ev} {X : Cx} {W : WX} {a b c e : Expr} {ma mb mc m : M D} {ms : M (List D)} {pos p px : Pos} {x : Str}
theorem op2_ix : Op2 K mg (rIx K) ixD := by
  intro x y d e G en so σ H W Q rx ry s p
  cases rx with
  | lst h r =>
    cases ry with
    | int i =>
      rename_i ds
      have p' : Post K mg G W (rlD K) σ ((match atI ds i with | some d => (pu d : M D) | none => no) en so) Q := p
      cases q : atI ds i with
      | none => rw [q] at p'; exact False.elim p'
      | some d =>
        rw [q] at p'
        obtain ⟨v, h1, h2⟩ := reps_atI r q
        exact .inl ⟨_, _, i, v, rfl, rfl, s.toSimO.rep.seq h, h1, p'.ok s h2⟩
    | _ => exact False.elim p
  | tup h r =>
    cases ry with
    | int i =>
      rename_i ds
      have p' : Post K mg G W (rlD K) σ ((match atI ds i with | some d => (pu d : M D) | none => no) en so) Q := p
      cases q : atI ds i with
      | none => rw [q] at p'; exact False.elim p'
      | some d =>
        rw [q] at p'
        obtain ⟨v, h1, h2⟩ := reps_atI r q
        exact .inr (.inl ⟨_, _, i, v, rfl, rfl, same_seqT s.toSimO.rep h, h1, p'.ok s h2⟩)
    | _ => exact False.elim p
  | str z =>
    cases ry with
    | int i =>
      obtain ⟨h1, p'⟩ := Post.gd (c := z.length ≤ 16777216) (m := (match atI z i with | some c => (pu (.str [c]) : M D) | none => no)) p
      cases q : atI z i with
      | none => rw [q] at p'; exact False.elim p'
      | some c =>
        rw [q] at p'
        refine .inr (.inr ⟨_, i, c, rfl, rfl, by rw [sT_len, sizeLine_eq]; exact h1, by rw [tl_sT]; exact q, p'.ok s (.str [c])⟩)
    | _ => exact False.elim p
  | _ => cases ry <;> exact False.elim p
theorem d_ix (ha : DE X W a ma) (hb : DE X W b mb) (hs : PlainIx b := by intro _ _; rfl) : DE X W (.Subscript a b pos) (m2 ixD ma mb) :=
  ⟨PE_imp (pe_ix ix_seq ha.pe hb.pe hs) fun _ _ _ q => two op2_ix q⟩
end

/-! ### slices -/
structure DO (X : Cx) (W : WX) (e : Option Expr) (m : M (Option Int)) : Prop where
  po : PO X e (tM X.K X.ev W (fun _ _ a b => a = b) m)
def oN : M (Option Int) := pu none
def oS (m : M D) : M (Option Int) := bd m fun d => match d with
  | .int i => pu (some i)
  | _ => no
def cutL {A : Type} (l : List A) (lo hi : Option Int) : List A := (l.drop (HT.sIx l.length 0 lo)).take (HT.sIx l.length l.length hi - HT.sIx l.length 0 lo)
def slS : D → Option Int → Option Int → M D
  | .str s, lo, hi => gd (s.length ≤ 16777216) (pu (.str (cutL s lo hi)))
  | _, _, _ => no
def slL : D → Option Int → Option Int → M B
  | .lst xs, lo, hi => pu (.cel (.lst (cutL xs lo hi)))
  | _, _, _ => no
def mSl {A : Type} (f : D → Option Int → Option Int → M A) (m : M D) (lo hi : M (Option Int)) : M A := bd m fun d => bd lo fun l => bd hi fun h => f d l h
section
variable {K : PySem.W.Frag} {mg : Ev} {X : Cx} {W : WX} {a b c e : Expr} {ma mb mc m : M D} {ml mh : M (Option Int)} {lo hi : Option Expr} {pos p p2 : Pos} {x : Str}
theorem PO_imp {e : Option Expr} {t t' : TO} (h : PO X e t) (f : ∀ σ H Q, t' σ H Q → t σ H Q) : PO X e t' := ⟨fun pins s σ H Q I q => h.run pins s σ H Q I (f σ H Q q)⟩
theorem o_none : DO X W none oN := ⟨PO_imp po_none fun σ H Q ⟨G, en, so, s, p⟩ => Post.ok p s rfl⟩
theorem o_some (h : DE X W e m) : DO X W (some e) (oS m) := by
  refine ⟨PO_imp (po_some h.pe) fun σ H Q ⟨G, en, so, s, p⟩ => ?_⟩
  refine ⟨G, en, so, s, (Post.bind (R1 := rlD X.K) p).imp fun v H1 ⟨G1, en1, so1, d, l, r1, s1, p1⟩ => ?_⟩
  cases r1 with
  | int i => exact ⟨i, rfl, p1.ok s1 rfl⟩
  | _ => exact False.elim p1
theorem cutS_cutL (s : List Nat) (lo hi : Option Int) : cutS (sT s) lo hi = sT (cutL s lo hi) := by
  unfold cutS cutL
  rw [sT_len, tl_sT]
  rfl
theorem reps_drop {F : Hp} {rho : List (Addr × Addr)} : ∀ {vs : List V} {ds : List D} (n : Nat), Reps K F rho vs ds → Reps K F rho (vs.drop n) (ds.drop n)
  | _, _, 0, r => r
  | _, _, _ + 1, .nil => .nil
  | _, _, n + 1, .cons _ r => reps_drop n r
theorem reps_take {F : Hp} {rho : List (Addr × Addr)} : ∀ {vs : List V} {ds : List D} (n : Nat), Reps K F rho vs ds → Reps K F rho (vs.take n) (ds.take n)
  | _, _, 0, _ => .nil
  | _, _, _ + 1, .nil => .nil
  | _, _, n + 1, .cons h r => .cons h (reps_take n r)
theorem reps_cut {F : Hp} {rho : List (Addr × Addr)} {vs : List V} {ds : List D} (r : Reps K F rho vs ds) (lo hi : Option Int) : Reps K F rho (cutV vs lo hi) (cutL ds lo hi) := by
  unfold cutV cutL
  rw [r.len]
  exact reps_take _ (reps_drop _ r)
theorem d_slS (ha : DE X W a ma) (hl : DO X W lo ml) (hh : DO X W hi mh) : DE X W (.Subscript a (.Slice lo hi none p2) pos) (mSl slS ma ml mh) := by
  refine ⟨PE_imp (pe_slice sl_str ha.pe hl.po hh.po) fun σ H Q ⟨G, en, so, s, p⟩ => ?_⟩
  refine ⟨G, en, so, s, (Post.bind (R1 := rlD X.K) p).imp fun v H1 ⟨G1, en1, so1, d, _, r1, s1, p1⟩ => ⟨G1, en1, so1, s1, (Post.bind (R1 := fun _ _ a b => a = b) p1).imp fun y H2 ⟨G2, en2, so2, l, l2, r2, s2, p2⟩ => ⟨G2, en2, so2, s2, (Post.bind (R1 := fun _ _ a b => a = b) p2).imp fun z H3 ⟨G3, en3, so3, h, l3, r3, s3, p3⟩ => ?_⟩⟩⟩
  subst r2
  subst r3
  cases r1 with
  | str t =>
    obtain ⟨h1, p3⟩ := Post.gd (c := t.length ≤ 16777216) p3
    refine ⟨_, rfl, by rw [sT_len, sizeLine_eq]; exact h1, ?_⟩
    rw [cutS_cutL]
    exact p3.ok s3 (.str _)
  | _ => exact False.elim p3
theorem b_slL (ha : DE X W a ma) (hl : DO X W lo ml) (hh : DO X W hi mh) : DB X W (.Subscript a (.Slice lo hi none p2) pos) (mSl slL ma ml mh) := by
  refine ⟨PE_imp (pe_slice sl_list ha.pe hl.po hh.po) fun σ H Q ⟨G, en, so, s, p⟩ => ?_⟩
  refine ⟨G, en, so, s, (Post.bind (R1 := rlD X.K) p).imp fun v H1 ⟨G1, en1, so1, d, _, r1, s1, p1⟩ => ⟨G1, en1, so1, s1, (Post.bind (R1 := fun _ _ a b => a = b) p1).imp fun y H2 ⟨G2, en2, so2, l, l2, r2, s2, p2⟩ => ⟨G2, en2, so2, s2, (Post.bind (R1 := fun _ _ a b => a = b) p2).imp fun z H3 ⟨G3, en3, so3, h, l3, r3, s3, p3⟩ => ?_⟩⟩⟩
  subst r2
  subst r3
  have ru := r1.up (l2.trans l3)
  cases ru with
  | lst q r =>
    refine ⟨_, _, rfl, s3.toSimO.rep.seq q, fun p hp => ?_⟩
    exact p3.ok' (tag_le p .tmp) (s3.newT (t := .tmp) hp) ⟨p, rfl, tag_own, _, upd_same, reps_cut r _ _⟩
  | _ => exact False.elim p3
end

/-! ### displays -/
section
variable {X : Cx} {W : WX} {a b c e : Expr} {ma mb mc m : M D} {ms : M (List D)} {es : List Expr} {pos p p2 : Pos} {x1}
def mTup (ms : M (List D)) : M D := bd ms fun ds => gd (ds.length ≤ 16777216) (pu (.tup ds))
def mLst (ms : M (List D)) : M B := bd ms fun ds => gd (ds.length ≤ 16777216) (pu (.cel (.lst ds)))
theorem d_tup (h : DA X W es ms) : DE X W (.Tuple es x1 pos) (mTup ms) := by
  refine ⟨PE_imp (pe_tup h.pa) fun σ H Q ⟨G, en, so, s, p⟩ => ?_⟩
  refine ⟨G, en, so, s, (Post.bind (R1 := rlDs X.K) p).imp fun v H1 ⟨G1, en1, so1, ds, l, r1, s1, p1⟩ => ?_⟩
  obtain ⟨h1, p1⟩ := Post.gd p1
  refine ⟨by rw [r1.len, sizeLine_eq]; exact h1, fun q hq => ?_⟩
  obtain ⟨s2, l2⟩ := s1.newF (o := .tup v) hq
  exact p1.ok' l2 s2 (.tup (.inl (.inl (show upd G1.F q _ q = _ from upd_same))) (r1.up l2))
theorem b_lst (h : DA X W es ms) : DB X W (.List es pos) (mLst ms) := by
  refine ⟨PE_imp (pe_lst h.pa) fun σ H Q ⟨G, en, so, s, p⟩ => ?_⟩
  refine ⟨G, en, so, s, (Post.bind (R1 := rlDs X.K) p).imp fun v H1 ⟨G1, en1, so1, ds, l, r1, s1, p1⟩ => ?_⟩
  obtain ⟨h1, p1⟩ := Post.gd p1
  refine ⟨by rw [r1.len, sizeLine_eq]; exact h1, fun q hq => ?_⟩
  exact p1.ok' (tag_le q .tmp) (s1.newT (t := .tmp) hq) ⟨q, rfl, tag_own, _, upd_same, r1⟩
end
end
end Dl

set_option Elab.async false
set_option linter.all false
set_option maxRecDepth 100000
set_option maxHeartbeats 1000000
/-! The data level: what is walked, comprehensions, statements, loops. -/
namespace Dl
open PySem PySem.Spec PyProof.Rows L2
noncomputable section

/-! ### what is walked -/
/-- J yields the data ds, one after the other, wherever what is frozen stands -/
def Walk (K : PySem.W.Frag) (F : Hp) (L : Addr → Option (HO × Nat)) (rho : List (Addr × Addr)) (J : It) (ds : List D) : Prop := ∀ (i : Nat) (H : Hp), Same F H → (∀ a o, L a = some o → H a = some o.1) →
  (∀ d, ds[i]? = some d → J.go i H ∧ ∀ x H', J.yld i H x H' → (H' = H ∧ Rep K F rho x d) ∨ ∃ T vs es, x = .ref T ∧ H T = none ∧ H' = upd H T (.tup vs) ∧ d = .tup es ∧ Reps K F rho vs es) ∧ (ds.length ≤ i → J.stop i H)
structure DI (X : Cx) (W : WX) (tg iter : Expr) (m : M (List D)) : Prop where
  pi : PI X tg iter (tM X.K X.ev W (fun G _ J ds => Walk X.K G.F G.L G.rho J ds) m)
theorem PI_imp {X : Cx} {tg e : Expr} {t t' : TI} (h : PI X tg e t) (f : ∀ σ H Q, t' σ H Q → t σ H Q) : PI X tg e t' := ⟨fun pins s σ H R I q => h.run pins s σ H R I (f σ H R q)⟩
def itL (m : M D) : M (List D) := bd m fun d => match d with
  | .lst xs => pu xs
  | _ => no
def itT (m : M D) : M (List D) := bd m fun d => match d with
  | .tup xs => pu xs
  | _ => no
def itS (m : M D) : M (List D) := bd m fun d => match d with
  | .str s => pu (s.map fun c => .str [c])
  | _ => no
/-- lo, lo + 1, .. -/
def rngD (lo : Int) (n : Nat) : List D := (List.range n).map fun (i : Nat) => .int (lo + i)
def rg1 : D → M (List D)
  | .int j => gd (-(2 ^ 62) ≤ j ∧ j < 2 ^ 62) (pu (rngD 0 j.toNat))
  | _ => no
def rg2 : D → D → M (List D)
  | .int i, .int j => gd (-(2 ^ 62) ≤ i ∧ i < 2 ^ 62 ∧ -(2 ^ 62) ≤ j ∧ j < 2 ^ 62) (pu (rngD i (j - i).toNat))
  | _, _ => no
def itR1 (m : M D) : M (List D) := bd m rg1
def itR2 (a b : M D) : M (List D) := bd a fun i => bd b fun j => rg2 i j
theorem rngD_at (lo : Int) (n i : Nat) (d : D) (h : (rngD lo n)[i]? = some d) : i < n ∧ d = .int (lo + i) := by
  unfold rngD at h
  rw [List.getElem?_map] at h
  by_cases hi : i < n
  · rw [List.getElem?_range hi] at h
    exact ⟨hi, (Option.some.inj h).symm⟩
  · rw [List.getElem?_eq_none (by simpa using hi)] at h
    cases h
theorem rngD_len (lo : Int) (n : Nat) : (rngD lo n).length = n := by simp [rngD]
section
variable {X : Cx} {W : WX} {tg e : Expr} {m : M D} {ms : M (List D)} {p pos : Pos}
theorem i_list (h : DE X W e m) : DI X W tg e (itL m) := by
  refine ⟨PI_imp (pi_list h.pe) fun σ H Q ⟨G, en, so, s, p⟩ => ?_⟩
  refine ⟨G, en, so, s, (Post.bind (R1 := rlD X.K) p).imp fun v H1 ⟨G1, en1, so1, d, l, r1, s1, p1⟩ => ?_⟩
  cases r1 with
  | @lst a vs ds q r =>
    refine ⟨a, rfl, ⟨_, s1.toSimO.rep.seq q⟩, p1.ok (v := Itl X.K a) s1 fun i H' sf _ => ⟨fun d e => ?_, fun hl => ⟨_, sf.seq q, by rw [r.len]; exact hl⟩⟩⟩
    obtain ⟨v, e1, r1⟩ := reps_at r e
    exact ⟨⟨_, v, sf.seq q, e1⟩, fun x H'' ⟨h1, h2⟩ => .inl ⟨h1, by
      have := h2 _ (sf.seq q)
      rw [e1] at this
      cases this
      exact r1⟩⟩
  | _ => exact False.elim p1
theorem i_tup (h : DE X W e m) : DI X W tg e (itT m) := by
  refine ⟨PI_imp (pi_tup h.pe) fun σ H Q ⟨G, en, so, s, p⟩ => ?_⟩
  refine ⟨G, en, so, s, (Post.bind (R1 := rlD X.K) p).imp fun v H1 ⟨G1, en1, so1, d, l, r1, s1, p1⟩ => ?_⟩
  cases r1 with
  | @tup a vs ds q r =>
    refine ⟨a, rfl, ⟨_, same_seqT s1.toSimO.rep q⟩, p1.ok (v := Itt X.K a) s1 fun i H' sf _ => ⟨fun d e => ?_, fun hl => ⟨_, same_seqT sf q, by rw [r.len]; exact hl⟩⟩⟩
    obtain ⟨v, e1, r1⟩ := reps_at r e
    exact ⟨⟨_, v, same_seqT sf q, e1⟩, fun x H'' ⟨h1, h2⟩ => .inl ⟨h1, by
      have := h2 _ (same_seqT sf q)
      rw [e1] at this
      cases this
      exact r1⟩⟩
  | _ => exact False.elim p1
theorem i_str (h : DE X W e m) : DI X W tg e (itS m) := by
  refine ⟨PI_imp (pi_str h.pe) fun σ H Q ⟨G, en, so, s, p⟩ => ?_⟩
  refine ⟨G, en, so, s, (Post.bind (R1 := rlD X.K) p).imp fun v H1 ⟨G1, en1, so1, d, l, r1, s1, p1⟩ => ?_⟩
  cases r1 with
  | str z =>
    have hs : (sT z).cps.size = z.length := sT_len z
    refine ⟨sT z, rfl, p1.ok (v := Its (sT z)) s1 fun i H' sf _ => ⟨fun d e => ?_, fun hl => by show (sT z).cps.size ≤ i; rw [hs]; simpa using hl⟩⟩
    rw [List.getElem?_map] at e
    cases q : z[i]? with
    | none => rw [q] at e; cases e
    | some c =>
      rw [q] at e
      cases e
      refine ⟨by show i < (sT z).cps.size; rw [hs]; exact (List.getElem?_eq_some_iff.mp q).1, fun x H'' ⟨h1, c', h2, h3⟩ => .inl ⟨h1, ?_⟩⟩
      have e2 : (sT z).cps[i]? = z[i]? := by simp [sT]
      rw [e2, q] at h2
      cases h2
      subst h3
      exact .str [c]
  | _ => exact False.elim p1
theorem walk_rng {K : PySem.W.Frag} {F : Hp} {L : Addr → Option (HO × Nat)} {rho : List (Addr × Addr)} (lo : Int) (n : Nat) : Walk K F L rho (Itr lo n) (rngD lo n) := fun i H' sf _ =>
  ⟨fun d e => by
    obtain ⟨h1, h2⟩ := rngD_at lo n i d e
    exact ⟨h1, fun x H'' ⟨h3, h4⟩ => .inl ⟨h3, by subst h4; subst h2; exact .int _⟩⟩, fun hl => by show n ≤ i; rw [rngD_len] at hl; exact hl⟩
theorem i_range1 (hg : Gl X "range") (hm : X.mg "range" = none) (ha : DE X W e m) (hs : starEach [e] X.env = [(false, eval e X.env)] := by rfl) : DI X W tg (.Call (.Name "range" p) [e] [] pos) (itR1 m) := by
  refine ⟨PI_imp (pi_range1 hg hm (pa_cons ha.pe pa_nil hs) hs) fun σ H Q ⟨G, en, so, s, p⟩ => ?_⟩
  refine ⟨G, en, so, s, (Post.bind (R1 := rlD X.K) p).imp fun v H1 ⟨G1, en1, so1, d, l, r1, s1, p1⟩ => ?_⟩
  cases r1 with
  | int j =>
    obtain ⟨⟨h1, h2⟩, p1⟩ := Post.gd (c := -(2 ^ 62) ≤ j ∧ j < 2 ^ 62) p1
    exact ⟨j, rfl, h1, h2, p1.ok s1 (walk_rng 0 j.toNat)⟩
  | _ => exact False.elim p1
theorem i_range2 {e2 : Expr} {m2 : M D} (hg : Gl X "range") (hm : X.mg "range" = none) (ha : DE X W e m) (hb : DE X W e2 m2) (hs : starEach [e, e2] X.env = [(false, eval e X.env), (false, eval e2 X.env)] := by rfl) (hs2 : starEach [e2] X.env = [(false, eval e2 X.env)] := by rfl) :
    DI X W tg (.Call (.Name "range" p) [e, e2] [] pos) (itR2 m m2) := by
  refine ⟨PI_imp (pi_range2 hg hm (pa_cons ha.pe (pa_cons hb.pe pa_nil hs2) (by rw [hs, hs2])) hs hs2) fun σ H Q ⟨G, en, so, s, p⟩ => ?_⟩
  refine ⟨G, en, so, s, (Post.bind (R1 := rlD X.K) p).imp fun v H1 ⟨G1, en1, so1, d, l, r1, s1, p1⟩ => ⟨G1, en1, so1, s1, (Post.bind (R1 := rlD X.K) p1).imp fun y H2 ⟨G2, en2, so2, d2, l2, r2, s2, p2⟩ => ?_⟩⟩
  cases r1 with
  | int i =>
    cases r2 with
    | int j =>
      obtain ⟨hh, p2⟩ := Post.gd (c := -(2 ^ 62) ≤ i ∧ i < 2 ^ 62 ∧ -(2 ^ 62) ≤ j ∧ j < 2 ^ 62) p2
      exact ⟨i, j, rfl, hh, p2.ok s2 (walk_rng i (j - i).toNat)⟩
    | _ => exact False.elim p2
  | _ => exact False.elim p2
end

/-! ### targets -/
/-- where a walked item goes -/
abbrev Tg := D → En → Option En
def tgR (K : PySem.W.Frag) (mg : Ev) (tg : Tg) (vs : List Nat) : TG := fun v σ H Q => ∃ G en so d en', Rep K G.F G.rho v d ∧ Sim K mg G en so σ H ∧ tg d en = some en' ∧ ∀ σ', Sim K mg G en' so σ' H → L2.wipe σ' vs = L2.wipe σ vs → Q σ' H
structure DG (X : Cx) (tgE : Expr) (tg : Tg) (vs : List Nat) : Prop where
  pg : PG X tgE (tgR X.K X.ev tg vs)
def tgN (i : Nat) : Tg := fun d en => some (en.set i (some (.dat d)))
def tgP (i j : Nat) : Tg := fun d en => match d with
  | .tup [x, y] => some ((en.set i (some (.dat x))).set j (some (.dat y)))
  | _ => none
section
variable {K : PySem.W.Frag} {mg : Ev} {G : Gh} {en : En} {so : So} {σ : L2.St} {H : Hp}
theorem Sim.setD {v : V} {d : D} (s : Sim K mg G en so σ H) (r : Rep K G.F G.rho v d) (i : Nat) : Sim K mg G (en.set i (some (.dat d))) so (σ.set i (some v)) H := by
  refine ⟨s.toSimO, by rw [List.length_set, List.length_set, s.ln], fun j b e => ?_⟩
  by_cases hj : i = j
  · subst hj
    by_cases hl : i < en.length
    · rw [List.getElem?_set_self hl] at e
      cases e
      exact ⟨v, by rw [List.getElem?_set_self (by rw [← s.ln]; exact hl)], r⟩
    · rw [List.getElem?_eq_none (by rw [List.length_set]; omega)] at e
      cases e
  · rw [List.getElem?_set_ne hj] at e
    obtain ⟨v', e', r'⟩ := s.sl j b e
    exact ⟨v', by rw [List.getElem?_set_ne hj]; exact e', r'⟩
/-- a name is forgotten -/
theorem Sim.setN (s : Sim K mg G en so σ H) (i : Nat) {o : Option V} : Sim K mg G (en.set i none) so (σ.set i o) H := by
  refine ⟨s.toSimO, by rw [List.length_set, List.length_set, s.ln], fun j b e => ?_⟩
  by_cases hj : i = j
  · subst hj
    by_cases hl : i < en.length
    · rw [List.getElem?_set_self hl] at e
      cases e
    · rw [List.getElem?_eq_none (by rw [List.length_set]; omega)] at e
      cases e
  · rw [List.getElem?_set_ne hj] at e
    obtain ⟨v', e', r'⟩ := s.sl j b e
    exact ⟨v', by rw [List.getElem?_set_ne hj]; exact e', r'⟩
end
section
variable {X : Cx} {pos : Pos} {k : Nat}
theorem PG_imp {e : Expr} {t t' : TG} (h : PG X e t) (f : ∀ v σ H Q, t' v σ H Q → t v σ H Q) : PG X e t' := ⟨fun pins s σ H v u Q I r q => h.run pins s σ H v u Q I r (f v σ H Q q)⟩
theorem rep_pair {K : PySem.W.Frag} {F : Hp} {rho : List (Addr × Addr)} {v : V} {d1 d2 : D} (r : Rep K F rho v (.tup [d1, d2])) : ∃ a v1 v2, v = .ref a ∧ SqT K F a [v1, v2] ∧ Rep K F rho v1 d1 ∧ Rep K F rho v2 d2 := by
  cases r with
  | tup h r2 =>
    cases r2 with
    | cons r1 r2 =>
      cases r2 with
      | cons r2 r3 =>
        cases r3
        exact ⟨_, _, _, rfl, h, r1, r2⟩
theorem g_name {i : Nat} {x : Str} (hN : X.N.Nodup) (hi : X.N[i]? = some x := by rfl) (hx : Loc X.env.scope x := by first | exact Or.inl rfl | exact Or.inr rfl) (hf : X.fn x = true ∨ X.env.scope.names.lookup x = some .local := by first | exact .inl rfl | exact .inr rfl | assumption) : DG X (.Name x pos) (tgN i) [i] := by
  refine ⟨⟨fun pins s σ H v u Q I r h => ?_⟩⟩
  obtain ⟨G, en, so, d, en', rd, sm, e, q⟩ := h
  cases e
  exact (pg_name hN hi hx hf).run pins s σ H v u Q I r (q _ (sm.setD rd i) (by show ((σ.set i _).set i none) = σ.set i none; rw [List.set_set]))
theorem g_pair {i j : Nat} {x y : Str} {px py : Pos} (hc : X.calm = true) (hij : i ≠ j) (hN : X.N.Nodup) (hi : X.N[i]? = some x := by rfl) (hx : Loc X.env.scope x := by first | exact Or.inl rfl | exact Or.inr rfl) (hj : X.N[j]? = some y := by rfl) (hy : Loc X.env.scope y := by first | exact Or.inl rfl | exact Or.inr rfl)
    (hf : X.fn x = true ∨ X.env.scope.names.lookup x = some .local := by first | exact .inl rfl | exact .inr rfl | assumption) (hf2 : X.fn y = true ∨ X.env.scope.names.lookup y = some .local := by first | exact .inl rfl | exact .inr rfl | assumption) : DG X (.Tuple [.Name x px, .Name y py] k pos) (tgP i j) [i, j] := by
  refine ⟨PG_imp (pg_tup (n := 2) hc (pgs_cons (pg_name hN hi hx hf) (pgs_cons (pg_name hN hj hy hf2) pgs_nil))) fun v σ H Q h => ?_⟩
  obtain ⟨G, en, so, d, en', rd, sm, e, q⟩ := h
  obtain ⟨d1, d2, rfl⟩ : ∃ d1 d2, d = .tup [d1, d2] := by
    unfold tgP at e
    split at e
    · exact ⟨_, _, rfl⟩
    · cases e
  cases e
  obtain ⟨a, v1, v2, rfl, h, r1, r2⟩ := rep_pair rd
  refine ⟨a, [v1, v2], rfl, same_seqT sm.toSimO.rep h, rfl, v1, [v2], rfl, v2, [], rfl, rfl, ?_⟩
  exact q _ ((sm.setD r1 i).setD r2 j) (by show ((((σ.set i _).set j _).set j none).set i none) = ((σ.set j none).set i none); rw [List.set_set, List.set_comm _ _ hij.symm, List.set_set, List.set_comm _ _ hij])
end

/-! ### list comprehensions -/
abbrev W0 : WX := fun _ _ _ _ => False
structure DTs (X : Cx) (W : WX) (ifs : List Expr) (m : M Bool) : Prop where
  pts : PTs X ifs (tM X.K X.ev W rlT m)
theorem PTs_imp {X : Cx} {ifs : List Expr} {t t' : TT} (h : PTs X ifs t) (f : ∀ σ H Q, t' σ H Q → t σ H Q) : PTs X ifs t' := ⟨fun pins s σ H Q I q => h.run pins s σ H Q I (f σ H Q q)⟩
theorem ts_nil {X : Cx} {W : WX} : DTs X W [] (pu true) := ⟨PTs_imp pts_nil fun σ H Q ⟨G, en, so, s, p⟩ => Post.ok p s rfl⟩
theorem ts_one {X : Cx} {W : WX} {c : Expr} {m : M Bool} (h : DT X W c m) : DTs X W [c] m := ⟨pts_one h.pt⟩
def keepD (en : En) (i : Nat) : Option B := match en[i]? with
  | some (some (.dat d)) => some (.dat d)
  | _ => none
def wipeE (en : En) : List Nat → En
  | [] => en
  | v :: vs => (wipeE en vs).set v none
def lcGo (vs : List Nat) (tg : Tg) (tt : M Bool) (el : M D) : List D → List D → M (List D)
  | [], acc => pu acc
  | d :: ds, acc => fun en so => match tg d en with
    | none => .no
    | some en0 => match tt en0 so with
      | .ok false en1 so1 => lcGo vs tg tt el ds acc (wipeE en1 vs) so1
      | .ok true en1 so1 => match el en1 so1 with
        | .ok x en2 so2 => if acc.length < 16777216 then lcGo vs tg tt el ds (acc ++ [x]) (wipeE en2 vs) so2 else .no
        | _ => .no
      | _ => .no
def backE (en0 en : En) : List Nat → En
  | [] => en
  | v :: vs => (backE en0 en vs).set v (keepD en0 v)
def mLc (vs : List Nat) (tg : Tg) (src : M (List D)) (tt : M Bool) (el : M D) : M B := bd src fun ds en so => match lcGo vs tg tt el ds [] (wipeE en vs) so with
  | .ok xs en' so' => .ok (.cel (.lst xs)) (backE en en' vs) so'
  | _ => .no
section
variable {K : PySem.W.Frag} {mg : Ev} {G : Gh} {en : En} {so : So} {σ : L2.St} {H : Hp}
theorem Sim.wipe (s : Sim K mg G en so σ H) : ∀ vs : List Nat, Sim K mg G (wipeE en vs) so (L2.wipe σ vs) H
  | [] => s
  | v :: vs => (s.wipe vs).setN v
theorem wipe_get (σ : L2.St) : ∀ (vs : List Nat) (k : Nat), (L2.wipe σ vs)[k]? = if k ∈ vs then σ[k]?.map (fun _ => none) else σ[k]?
  | [], k => by simp [L2.wipe]
  | v :: vs, k => by
    unfold L2.wipe
    by_cases h : v = k
    · subst h
      rw [if_pos List.mem_cons_self]
      by_cases hl : v < σ.length
      · rw [List.getElem?_set_self (by rw [wipe_length]; exact hl), List.getElem?_eq_getElem hl]; rfl
      · rw [List.getElem?_eq_none (by rw [List.length_set, wipe_length]; omega), List.getElem?_eq_none (by omega)]; rfl
    · rw [List.getElem?_set_ne h, wipe_get σ vs k]
      simp [List.mem_cons, Ne.symm h]
theorem wipe_wipe (σ : L2.St) (vs : List Nat) : L2.wipe (L2.wipe σ vs) vs = L2.wipe σ vs := by
  apply List.ext_getElem?
  intro k
  rw [wipe_get, wipe_get]
  by_cases h : k ∈ vs
  · rw [if_pos h, if_pos h]; cases σ[k]? <;> rfl
  · rw [if_neg h, if_neg h]
theorem backE_len (en0 en : En) : ∀ vs : List Nat, (backE en0 en vs).length = en.length
  | [] => rfl
  | v :: vs => by unfold backE; rw [List.length_set, backE_len en0 en vs]
theorem backE_get (en0 en : En) : ∀ (vs : List Nat) (k : Nat), (backE en0 en vs)[k]? = if k ∈ vs then en[k]?.map (fun _ => keepD en0 k) else en[k]?
  | [], k => by simp [backE]
  | v :: vs, k => by
    unfold backE
    by_cases h : v = k
    · subst h
      rw [if_pos List.mem_cons_self]
      by_cases hl : v < en.length
      · rw [List.getElem?_set_self (by rw [backE_len]; exact hl), List.getElem?_eq_getElem hl]; rfl
      · rw [List.getElem?_eq_none (by rw [List.length_set, backE_len]; omega), List.getElem?_eq_none (by omega)]; rfl
    · rw [List.getElem?_set_ne h, backE_get en0 en vs k]
      simp [List.mem_cons, Ne.symm h]
theorem Sim.back {G1 : Gh} {en1 : En} {so1 : So} {H1 : Hp} (vs : List Nat) (s : Sim K mg G en so (L2.wipe σ vs) H) (s1 : Sim K mg G1 en1 so1 σ H1) (F : Same G1.F G.F) (rho : Pre G1.rho G.rho) : Sim K mg G (backE en1 en vs) so σ H := by
  refine ⟨s.toSimO, by rw [backE_len, s.ln, wipe_length], fun k b e => ?_⟩
  rw [backE_get] at e
  by_cases h : k ∈ vs
  · rw [if_pos h] at e
    have e' : keepD en1 k = some b := by
      cases q : en[k]? with
      | none => rw [q] at e; cases e
      | some x => rw [q] at e; exact Option.some.inj e
    unfold keepD at e'
    split at e'
    · rename_i d ed
      cases e'
      obtain ⟨v, e1, r⟩ := s1.sl k _ ed
      exact ⟨v, e1, Rep.mono F rho r⟩
    · cases e'
  · rw [if_neg h] at e
    obtain ⟨v, e1, r⟩ := s.sl k b e
    rw [wipe_get, if_neg h] at e1
    exact ⟨v, e1, r⟩
/-- something new that is to stay as it is -/
def _root_.Dl.Gh.keepR (G : Gh) (p : Addr) (o : HO) : Gh := { G with R := upd G.R p o, own := fun b => if b = p then .rest else G.own b }
theorem Sim.newR {p : Addr} {o : HO} (s : Sim K mg G en so σ H) (hp : H p = none) : Sim K mg (G.keepR p o) en so σ (upd H p o) := by
  have t := s.newT (o := o) (t := .rest) hp
  have eF : Same (G.tag p .rest).F (G.keepR p o).F := Same.refl G.F
  have er : Pre (G.tag p .rest).rho (G.keepR p o).rho := fun _ _ h => h
  refine ⟨⟨t.fr, fun a u e => ?_, t.len, fun k ob a dx e1 e2 => ?_, t.lk, fun q hq => ?_⟩, t.ln, fun i b e => ?_⟩
  · by_cases hb : a = p
    · subst hb
      have e' : upd G.R a o a = some u := e
      rw [upd_same] at e'
      cases e'
      exact ⟨upd_same, if_pos rfl⟩
    · have e' : upd G.R p o a = some u := e
      rw [upd_ne hb] at e'
      exact t.re a u e'
  · exact (t.ob k ob a dx e1 e2).keep eF er fun b u h1 _ => ⟨h1, rfl⟩
  · obtain ⟨ps, h1, h2⟩ := s.tb q hq
    have hb : q.2 ≠ p := fun z => by rw [z] at h1; rw [(s.re p _ h1).1] at hp; cases hp
    exact ⟨ps, by show upd G.R p o q.2 = _; rw [upd_ne hb]; exact h1, h2⟩
  · obtain ⟨v, e1, r⟩ := t.sl i b e
    exact ⟨v, e1, r.keep eF er fun a u h1 h2 => ⟨h1, h2⟩⟩
def _root_.Dl.Gh.setR (G : Gh) (R : Hp) : Gh := { G with R := R }
def _root_.Dl.Gh.outR (G : Gh) (R : Hp) (p : Addr) : Gh := { G with R := R, own := fun b => if b = p then .tmp else G.own b }

/-- a table of a code object is not the thing that is made -/
theorem tabs_off {p : Addr} {o : HO} {R R0 : Hp} (h : TabsR K R) (hR : R = upd R0 p o) (ho : ∀ ps, o ≠ .tbl ps) : ∀ q ∈ tabsK K, q.2 ≠ p ∧ ∃ ps, R0 q.2 = some (.tbl ps) ∧ TriplesOk ps.toList := fun q hq => by
  obtain ⟨ps, h1, h2⟩ := h q hq
  have hb : q.2 ≠ p := fun z => by
    rw [hR, z, upd_same] at h1
    exact ho ps (Option.some.inj h1)
  rw [hR, upd_ne hb] at h1
  exact ⟨hb, ps, h1, h2⟩
theorem _root_.Dl.RLe.cut {R1 R0 R4 : Hp} {p : Addr} {o : HO} (h0 : R1 p = none) (a : RLe R1 R0) (b : RLe (upd R0 p o) R4) (ho : ∀ ps, o ≠ .tbl ps) : ∃ R5, R4 = upd R5 p o ∧ RLe R1 R5 ∧ R5 p = none := by
  have hp : R4 p = some o := b.st p o upd_same ho
  refine ⟨fun x => if x = p then none else R4 x, ?_, ⟨fun x u h n => ?_, fun x ps h t => ?_⟩, if_pos rfl⟩
  · funext x
    by_cases hx : x = p
    · subst hx; rw [upd_same, hp]
    · rw [upd_ne hx]; exact (if_neg hx).symm
  · have hx : x ≠ p := fun z => by rw [z, h0] at h; cases h
    rw [if_neg hx]
    exact b.st x u (by rw [upd_ne hx]; exact a.st x u h n) n
  · have hx : x ≠ p := fun z => by rw [z, h0] at h; cases h
    rw [if_neg hx]
    obtain ⟨ps', h', t'⟩ := a.tb x ps h t
    exact b.tb x ps' (by rw [upd_ne hx]; exact h') t'
theorem Sim.setR {p : Addr} {o o' : HO} {R0 : Hp} (s : Sim K mg G en so σ H) (hR : G.R = upd R0 p o) (ho : ∀ ps, o ≠ .tbl ps := by intro _ h; cases h) : Sim K mg (G.setR (upd R0 p o')) en so σ (upd H p o') := by
  have eF : Same G.F (G.setR (upd R0 p o')).F := Same.refl G.F
  have er : Pre G.rho (G.setR (upd R0 p o')).rho := fun _ _ h => h
  have w : G.own p = .rest := (s.re p o (by rw [hR]; exact upd_same)).2
  have kp : ∀ a u, H a = some u → G.own a ≠ .rest → (upd H p o') a = some u := fun a u e q => by
    have : a ≠ p := fun z => q (by rw [z]; exact w)
    rw [upd_ne this]; exact e
  refine ⟨⟨fun a u e => ?_, fun a u e => ?_, s.len, fun k ob a dx e1 e2 => ?_, fun a u e => ?_, fun q hq => ?_⟩, s.ln, fun i b e => ?_⟩
  · obtain ⟨h1, h2⟩ := s.fr a u e
    exact ⟨kp a u h1 (by rw [h2]; intro z; cases z), h2⟩
  · have e' : upd R0 p o' a = some u := e
    by_cases hb : a = p
    · subst hb
      rw [upd_same] at e'
      cases e'
      exact ⟨upd_same, w⟩
    · rw [upd_ne hb] at e'
      obtain ⟨h1, h2⟩ := s.re a u (by rw [hR, upd_ne hb]; exact e')
      exact ⟨by rw [upd_ne hb]; exact h1, h2⟩
  · exact (s.ob k ob a dx e1 e2).keep eF er fun b u h1 h2 => ⟨kp b u h1 (by rcases h2 with h2 | h2 <;> (rw [h2]; intro z; cases z)), rfl⟩
  · obtain ⟨h1, h2⟩ := s.lk a u e
    exact ⟨kp a _ h1 (by rw [h2]; intro z; cases z), h2⟩
  · obtain ⟨hb, ps, h1, h2⟩ := tabs_off s.tb hR ho q hq
    exact ⟨ps, by show upd R0 p o' q.2 = _; rw [upd_ne hb]; exact h1, h2⟩
  · obtain ⟨v, e1, r⟩ := s.sl i b e
    exact ⟨v, e1, r.keep eF er fun a u h1 h2 => ⟨kp a u h1 (by rw [h2]; intro z; cases z), h2⟩⟩
/-- what was kept becomes a result -/
theorem Sim.takeR {p : Addr} {o : HO} {R0 : Hp} (s : Sim K mg G en so σ H) (hR : G.R = upd R0 p o) (h0 : R0 p = none) (ho : ∀ ps, o ≠ .tbl ps := by intro _ h; cases h) : Sim K mg (G.outR R0 p) en so σ H := by
  have eF : Same G.F (G.outR R0 p).F := Same.refl G.F
  have er : Pre G.rho (G.outR R0 p).rho := fun _ _ h => h
  have w : G.own p = .rest := (s.re p o (by rw [hR]; exact upd_same)).2
  have kp : ∀ a t, G.own a = t → t ≠ .rest → (G.outR R0 p).own a = t := fun a t e q => by
    have : a ≠ p := fun z => q (by rw [← e, z]; exact w)
    exact (if_neg this).trans e
  refine ⟨⟨fun a u e => ?_, fun a u e => ?_, s.len, fun k ob a dx e1 e2 => ?_, fun a u e => ?_, fun q hq => ?_⟩, s.ln, fun i b e => ?_⟩
  · obtain ⟨h1, h2⟩ := s.fr a u e
    exact ⟨h1, kp a _ h2 (by intro z; cases z)⟩
  · have e' : R0 a = some u := e
    have hb : a ≠ p := fun z => by rw [z, h0] at e'; cases e'
    obtain ⟨h1, h2⟩ := s.re a u (by rw [hR, upd_ne hb]; exact e')
    exact ⟨h1, (if_neg hb).trans h2⟩
  · exact (s.ob k ob a dx e1 e2).keep eF er fun b u h1 h2 => ⟨h1, kp b _ rfl (by rcases h2 with h2 | h2 <;> (rw [h2]; intro z; cases z))⟩
  · obtain ⟨h1, h2⟩ := s.lk a u e
    exact ⟨h1, kp a _ h2 (by intro z; cases z)⟩
  · exact (tabs_off s.tb hR ho q hq).2
  · obtain ⟨v, e1, r⟩ := s.sl i b e
    exact ⟨v, e1, r.keep eF er fun a u h1 h2 => ⟨h1, kp a _ h2 (by intro z; cases z)⟩⟩
theorem reps_app {F : Hp} {rho : List (Addr × Addr)} : ∀ {vs ws : List V} {ds es : List D}, Reps K F rho vs ds → Reps K F rho ws es → Reps K F rho (vs ++ ws) (ds ++ es)
  | _, _, _, _, .nil, r => r
  | _, _, _, _, .cons h q, r => .cons h (reps_app q r)
end
section
variable {X : Cx} {W : WX} {tg iter elt : Expr} {ifs : List Expr} {scope : Scope} {pos : Pos} {own : List (Str × Nat)} {tgM : Tg} {src : M (List D)} {tt : M Bool} {el : M D}
/-- the words a comprehension's block asks -/
theorem lc_tr {σ : L2.St} {K : PySem.W.Frag} {mg : Ev} {vs : List Nat} {Qd : Hp → Prop} {G1 : Gh} {en1 : En} {so1 : So} {H1 : Hp} {J : It} {ds xs : List D} {enF : En} {soF : So} {Dl : Addr}
    (s1 : Sim K mg G1 en1 so1 σ H1) (wk : Walk K G1.F G1.L G1.rho J ds) (hD : H1 Dl = none) (res : lcGo vs tgM tt el ds [] (wipeE en1 vs) so1 = .ok xs enF soF)
    (fin : ∀ G' H', G1.le G' → Sim K mg G' (backE en1 enF vs) soF σ H' → RB K G' H' .tmp (.ref Dl) (.cel (.lst xs)) → Qd H') :
    ∃ Wn : Nat → Nat → Hp → Prop, (∃ m, Wn 0 m (upd H1 Dl (.lst []))) ∧ ∀ i m H, Wn i m H →
      (J.stop i H ∧ Qd H) ∨ (J.go i H ∧ ∃ Nx : Hp → Prop, (∀ H', Nx H' → ∃ m', m' < m ∧ Wn (i + 1) m' H') ∧ ∀ x H', J.yld i H x H' →
        tgR K mg tgM vs x (L2.wipe σ vs) H' fun σ2 H2 => L2.wipe σ2 vs = L2.wipe σ vs ∧ tM K mg W0 rlT tt σ2 H2 fun b H3 =>
          if b = true then tM K mg W0 (rlD K) el σ2 H3 fun y H4 => ∃ acc, H4 Dl = some (.lst acc) ∧ acc.length < sizeLine ∧ Nx (upd H4 Dl (.lst (acc ++ [y]))) else Nx H3) := by
  have R00 : G1.R Dl = none := by
    cases q : G1.R Dl with
    | none => rfl
    | some u => rw [(s1.re Dl u q).1] at hD; cases hD
  refine ⟨fun i m H => m = ds.length - i ∧ i ≤ ds.length ∧ ∃ G en so acc va, Same G1.F G.F ∧ Pre G1.rho G.rho ∧ (∃ R0, G.R = upd R0 Dl (.lst va) ∧ RLe G1.R R0 ∧ R0 Dl = none) ∧ G.L = G1.L ∧ Reps K G.F G.rho va acc ∧ Sim K mg G en so (L2.wipe σ vs) H ∧ lcGo vs tgM tt el (ds.drop i) acc en so = .ok xs enF soF, ⟨_, rfl, Nat.zero_le _, G1.keepR Dl (.lst []), wipeE en1 vs, so1, [], [], Same.refl _, fun _ _ h => h, ⟨G1.R, rfl, RLe.refl _, R00⟩, rfl, .nil, (s1.wipe vs).newR hD, res⟩, ?_⟩
  rintro i m H ⟨rfl, hi, G, en, so, acc, va, sF, sr, hR, hL, ra, s, run⟩
  have sfH : Same G1.F H := sF.trans s.toSimO.rep
  have sfL : ∀ a o, G1.L a = some o → H a = some o.1 := fun a o e => (s.lk a o (by rw [hL]; exact e)).1
  obtain ⟨R0, hR, lR, nR⟩ := hR
  have nT : ∀ ps, HO.lst va ≠ .tbl ps := fun ps z => by cases z
  by_cases hlt : i < ds.length
  · have ed : ds[i]? = some ds[i] := List.getElem?_eq_getElem hlt
    obtain ⟨go, yl⟩ := (wk i H sfH sfL).1 _ ed
    refine .inr ⟨go, _, fun H' h => ⟨ds.length - (i + 1), by omega, h⟩, fun x H' y => ?_⟩
    have dr : ds.drop i = ds[i] :: ds.drop (i + 1) := by rw [List.drop_eq_getElem_cons hlt]
    rw [dr] at run
    -- the item
    have item : ∃ G2, G.le G2 ∧ Sim K mg G2 en so (L2.wipe σ vs) H' ∧ Rep K G2.F G2.rho x ds[i] := by
      rcases yl x H' y with ⟨rfl, r⟩ | ⟨T, ws, es, rfl, hT, rfl, e, r⟩
      · exact ⟨G, .refl G, s, Rep.mono sF sr r⟩
      · obtain ⟨s2, l2⟩ := s.newF (o := .tup ws) hT
        refine ⟨_, l2, s2, ?_⟩
        rw [e]
        exact .tup (.inl (.inl (show upd G.F T _ T = _ from upd_same))) (r.mono (sF.trans l2.F) fun k x h => l2.rho k x (sr k x h))
    obtain ⟨G2, l2, s2, r2⟩ := item
    unfold lcGo at run
    cases et : tgM ds[i] en with
    | none => rw [et] at run; cases run
    | some en0 =>
      rw [et] at run
      refine ⟨G2, en, so, ds[i], en0, r2, s2, et, fun σ' sg wp => ⟨by rw [wp, wipe_wipe], G2, en0, so, sg, ?_⟩⟩
      have stay : ∀ {en' : En} {so' : So} {H'' : Hp} {G3 : Gh}, Sim K mg G3 en' so' σ' H'' → Sim K mg G3 (en') so' σ' H'' := fun h => h
      dsimp only at run
      cases e1 : tt en0 so with
      | no => rw [e1] at run; cases run
      | exc x1 en2 so2 => rw [e1] at run; cases run
      | ok b en2 so2 =>
        rw [e1] at run
        intro b' H3 G3 l3 s3 hb
        subst hb
        cases b' with
        | false =>
          refine iteF ⟨rfl, hlt, G3, _, so2, acc, va, sF.trans (l2.trans l3).F, fun k x h => (l2.trans l3).rho k x (sr k x h), RLe.cut R00 lR (hR ▸ (l2.trans l3).R) nT, (l2.trans l3).L.trans hL, ra.mono (l2.trans l3).F (l2.trans l3).rho, ?_, run⟩
          have := s3.wipe vs
          rw [wp, wipe_wipe] at this
          exact this
        | true =>
          refine iteT ⟨G3, en2, so2, s3, ?_⟩
          dsimp only at run
          cases e2 : el en2 so2 with
          | no => rw [e2] at run; cases run
          | exc x1 en4 so4 => rw [e2] at run; cases run
          | ok z en4 so4 =>
            rw [e2] at run
            dsimp only at run
            by_cases ha : acc.length < 16777216
            · rw [if_pos ha] at run
              intro y' H4 G4 l4 s4 ry
              have l := (l2.trans l3).trans l4
              obtain ⟨R4, hR4, lR4, nR4⟩ := RLe.cut R00 lR (hR ▸ l.R : RLe (upd R0 Dl (.lst va)) G4.R) nT
              have hD4 : H4 Dl = some (.lst va) := (s4.re Dl (.lst va) (by rw [hR4]; exact upd_same)).1
              refine ⟨va, hD4, by rw [ra.len, sizeLine_eq]; exact ha, rfl, hlt, G4.setR (upd R4 Dl (.lst (va ++ [y']))), _, so4, acc ++ [z], va ++ [y'], sF.trans l.F, fun k x h => l.rho k x (sr k x h), ⟨R4, rfl, lR4, nR4⟩, l.L.trans hL, reps_app (ra.mono l.F l.rho) (.cons ry .nil), ?_, run⟩
              have := (s4.setR (o' := .lst (va ++ [y'])) hR4).wipe vs
              rw [wp, wipe_wipe] at this
              exact this
            · rw [if_neg ha] at run; cases run
  · have e : i = ds.length := by omega
    subst e
    rw [List.drop_length] at run
    cases run
    refine .inl ⟨(wk _ H sfH sfL).2 (Nat.le_refl _), ?_⟩
    have s2 := s.takeR hR nR
    refine fin (G.outR R0 Dl) H ⟨sF, sr, lR, hL⟩ (s2.back vs s1 sF sr) ⟨Dl, rfl, if_pos rfl, va, ?_, ra⟩
    exact (s.re Dl (.lst va) (by rw [hR]; exact upd_same)).1
theorem lc_read {σ : L2.St} {H : Hp} {Q : VK} {K : PySem.W.Frag} {mg : Ev} {vs : List Nat} (q : tM K mg W (rlB K) (mLc vs tgM src tt el) σ H Q) :
    tLc (tM K mg W (fun G _ J ds => Walk K G.F G.L G.rho J ds) src) (tgR K mg tgM vs) (tM K mg W0 rlT tt) (tM K mg W0 (rlD K) el) vs σ H Q := by
  obtain ⟨G, en, so, s, p⟩ := q
  refine ⟨G, en, so, s, (Post.bind (R1 := fun G _ J ds => Walk K G.F G.L G.rho J ds) p).imp fun J H1 ⟨G1, en1, so1, ds, l, wk, s1, p1⟩ Dx hD => ?_⟩
  generalize hr : lcGo vs tgM tt el ds [] (wipeE en1 vs) so1 = r at p1
  match r, hr, p1 with
  | .ok xs enF soF, hr, p1 => exact lc_tr s1 wk hD hr fun G' H' l' s' rb => p1.ok' l' s' rb
  | .exc _ _ _, _, p1 => exact False.elim p1
  | .no, _, p1 => exact False.elim p1
theorem ev_blk {s : Shared} {H : Hp} {scope : Scope} {cenv : Env} {fp : List Addr} (hc : X.calm = true) : (X.blk s H scope cenv fp).ev = X.ev := (ev_calm (X := X.blk s H scope cenv fp) hc).trans (ev_calm hc).symm
theorem DG.blk {s : Shared} {H : Hp} {scope : Scope} {cenv : Env} {fp : List Addr} {vs : List Nat} (hc : X.calm = true) (h : DG (X.blk s H scope cenv fp) tg tgM vs) : PG (X.blk s H scope cenv fp) tg (tgR X.K X.ev tgM vs) := by
  have := h.pg
  rw [ev_blk hc] at this
  exact this
theorem DTs.blk {s : Shared} {H : Hp} {scope : Scope} {cenv : Env} {fp : List Addr} (hc : X.calm = true) (h : DTs (X.blk s H scope cenv fp) W0 ifs tt) : PTs (X.blk s H scope cenv fp) ifs (tM X.K X.ev W0 rlT tt) := by
  have := h.pts
  rw [ev_blk hc] at this
  exact this
theorem DE.blk {s : Shared} {H : Hp} {scope : Scope} {cenv : Env} {fp : List Addr} (hc : X.calm = true) (h : DE (X.blk s H scope cenv fp) W0 elt el) : PE (X.blk s H scope cenv fp) elt (tM X.K X.ev W0 (rlD X.K) el) := by
  have := h.pe
  rw [ev_blk hc] at this
  exact this
/-- [elt for tg in iter if ..] -/
theorem b_lc (hc : X.calm = true) (hN : X.N.Nodup) (hi : DI X W tg iter src) (ok : BlkOk X.N X.env.scope scope own)
    (hg : ∀ (s : Shared) (H : Hp) (C : Addr) (cl : List (Str × Addr)) (fp : List Addr), DG (X.blk s H scope (compEnvC scope cl C X.env) fp) tg tgM (own.map (·.2)))
    (ht : ∀ (s : Shared) (H : Hp) (C : Addr) (cl : List (Str × Addr)) (fp : List Addr), DTs (X.blk s H scope (compEnvC scope cl C X.env) fp) W0 ifs tt)
    (he : ∀ (s : Shared) (H : Hp) (C : Addr) (cl : List (Str × Addr)) (fp : List Addr), DE (X.blk s H scope (compEnvC scope cl C X.env) fp) W0 elt el) (hs : ∀ x, foldedSetIterable iter X.env x = pure x := by intro _; rfl) :
    DB X W (.ListComp elt [⟨tg, iter, ifs, 0⟩] scope pos) (mLc (own.map (·.2)) tgM src tt el) :=
  ⟨PE_imp (pe_lc (g := tgR X.K X.ev tgM (own.map (·.2))) (tt := tM X.K X.ev W0 rlT tt) (te := tM X.K X.ev W0 (rlD X.K) el) hc hN hi.pi ok (fun s H C cl fp => (hg s H C cl fp).blk hc) (fun s H C cl fp => (ht s H C cl fp).blk hc) (fun s H C cl fp => (he s H C cl fp).blk hc) hs) fun _ _ _ q => lc_read q⟩
end
end
end Dl

set_option Elab.async false
set_option linter.all false
set_option maxRecDepth 100000
set_option maxHeartbeats 1000000
/-! The data level: statements, loops. -/
namespace Dl
open PySem PySem.Spec PyProof.Rows L2
noncomputable section

/-! ### statements -/
def sPass : M Fl := pu .nx
def sBreak : M Fl := pu .bk
def sCont : M Fl := pu .ct
def sSeq (a b : M Fl) : M Fl := bd a fun f => match f with
  | .nx => b
  | f => pu f
def sIf (t : M Bool) (a b : M Fl) : M Fl := bd t fun c => if c then a else b
def sRet (m : M B) : M Fl := bd m fun b => pu (.rt b)
def sRetD (m : M D) : M Fl := bd m fun d => pu (.rt (.dat d))
def sRetN : M Fl := pu (.rt (.dat .non))
def sExpr (m : M D) : M Fl := bd m fun _ => pu .nx
/-- name := data -/
def sSet (i : Nat) (m : M D) : M Fl := bd m fun d en so => .ok .nx (en.set i (some (.dat d))) so
/-- name := a new thing, its own -/
def sSetB (i : Nat) (m : M B) : M Fl := bd m fun b en so => .ok .nx (en.set i (some b)) so
/-- targets := data -/
def sSetT (tg : Tg) (m : M D) : M Fl := bd m fun d en so => match tg d en with
  | some en' => .ok .nx en' so
  | none => .no
/-- name op= data -/
def sAug (i : Nat) (f : D → D → M D) (m : M D) : M Fl := fun en so => match en[i]? with
  | some (some (.dat x)) => bd m (fun y => bd (f x y) fun z en so => .ok .nx (en.set i (some (.dat z))) so) en so
  | _ => .no
def forGo (tg : Tg) (body : M Fl) : List D → M Fl
  | [] => pu .nx
  | d :: ds => fun en so => match tg d en with
    | none => .no
    | some en1 => match body en1 so with
      | .ok .nx en2 so2 => forGo tg body ds en2 so2
      | .ok .ct en2 so2 => forGo tg body ds en2 so2
      | .ok .bk en2 so2 => .ok .nx en2 so2
      | r => r
def sFor (tg : Tg) (src : M (List D)) (body : M Fl) : M Fl := bd src fun ds => forGo tg body ds
def whGo (t : M Bool) (body : M Fl) : Nat → M Fl
  | 0 => no
  | n + 1 => fun en so => match t en so with
    | .ok false en1 so1 => .ok .nx en1 so1
    | .ok true en1 so1 => match body en1 so1 with
      | .ok .nx en2 so2 => whGo t body n en2 so2
      | .ok .ct en2 so2 => whGo t body n en2 so2
      | .ok .bk en2 so2 => .ok .nx en2 so2
      | r => r
    | .exc x en so => .exc x en so
    | .no => .no
/-- while, with so many turns at most as n says -/
def sWhile (n : En → So → Nat) (t : M Bool) (body : M Fl) : M Fl := fun en so => whGo t body (n en so) en so
section
variable {K : PySem.W.Frag} {mg : Ev} {G : Gh} {en : En} {so : So} {σ : L2.St} {H : Hp}
def _root_.Dl.Gh.retag (G : Gh) (p : Addr) (t : Tag) : Gh := { G with own := fun b => if b = p then t else G.own b }
/-- a result goes to a name -/
theorem Sim.setB {v : V} {b : B} (s : Sim K mg G en so σ H) (r : RB K G H .tmp v b) (i : Nat) : ∃ G', G.le G' ∧ Sim K mg G' (en.set i (some b)) so (σ.set i (some v)) H := by
  cases b with
  | dat d => exact ⟨G, .refl G, s.setD r i⟩
  | exn _ => exact r.elim
  | cel c =>
    obtain ⟨a, rfl, w, cr⟩ := r
    have eF : Same G.F (G.tag a (.slot i)).F := Same.refl G.F
    have er : Pre G.rho (G.tag a (.slot i)).rho := fun _ _ h => h
    have kp : ∀ b t, G.own b = t → t ≠ .tmp → (G.tag a (.slot i)).own b = t := fun b t e q => by
      have : b ≠ a := fun z => q (by rw [← e, z]; exact w)
      exact (if_neg this).trans e
    refine ⟨G.tag a (.slot i), tag_le _ _, ⟨⟨fun b u e => ?_, fun b u e => ?_, s.len, fun k ob b dx e1 e2 => ?_, fun b u e => ?_, s.tb⟩, by rw [List.length_set, List.length_set, s.ln], fun j b e => ?_⟩⟩
    · obtain ⟨h1, h2⟩ := s.fr b u e
      exact ⟨h1, kp b _ h2 (by intro z; cases z)⟩
    · obtain ⟨h1, h2⟩ := s.re b u e
      exact ⟨h1, kp b _ h2 (by intro z; cases z)⟩
    · exact (s.ob k ob b dx e1 e2).keep eF er fun b u h1 h2 => ⟨h1, kp b _ rfl (by rcases h2 with h2 | h2 <;> (rw [h2]; intro z; cases z))⟩
    · obtain ⟨h1, h2⟩ := s.lk b u e
      exact ⟨h1, kp b _ h2 (by intro z; cases z)⟩
    · by_cases hj : i = j
      · subst hj
        by_cases hl : i < en.length
        · rw [List.getElem?_set_self hl] at e
          cases e
          exact ⟨.ref a, by rw [List.getElem?_set_self (by rw [← s.ln]; exact hl)], a, rfl, tag_own, cr.keep eF er fun _ h => h⟩
        · rw [List.getElem?_eq_none (by rw [List.length_set]; omega)] at e
          cases e
      · rw [List.getElem?_set_ne hj] at e
        obtain ⟨v', e', r'⟩ := s.sl j b e
        exact ⟨v', by rw [List.getElem?_set_ne hj]; exact e', r'.keep eF er fun b u h1 h2 => ⟨h1, kp b _ h2 (by intro z; cases z)⟩⟩
end
section
variable {X : Cx} {W : WX} {a b c e : Expr} {ma mb mc m : M D} {mB : M B} {t : M Bool} {st : Stmt} {rest sts sts' : List Stmt} {u w : M Fl} {pos pos' p : Pos}
theorem ss_nil : DSs X W [] sPass := ⟨PSs_imp pss_nil fun E σ H ⟨G, en, so, s, p⟩ => p σ H G (.refl G) s⟩
theorem sseq_tr {E : Ends} {σ : L2.St} {H : Hp} (q : tS X.K X.ev W (sSeq u w) E σ H) : tSeq (tS X.K X.ev W u) (tS X.K X.ev W w) E σ H := by
  obtain ⟨G, en, so, s, p⟩ := q
  refine ⟨G, en, so, s, ?_⟩
  have p : SPost X.K X.ev G W (bd u (fun f => match f with | .nx => w | f => pu f) en so) E := p
  unfold bd at p
  unfold SPost
  cases h : u en so with
  | no => rw [h] at p; exact p
  | exc x en1 so1 => rw [h] at p; exact p
  | ok f en1 so1 =>
    rw [h] at p
    cases f with
    | nx => exact fun σ' H' G' l s' => ⟨G', en1, so1, s', p.mono l⟩
    | rt b => exact p
    | bk => exact p
    | ct => exact p
theorem ss_cons (h : DS X W st u) (k : DSs X W rest w) : DSs X W (st :: rest) (sSeq u w) := ⟨PSs_imp (pss_cons h.ps k.ps) fun _ _ _ q => sseq_tr q⟩
theorem ss_one (h : DS X W st u) : DSs X W [st] u := ⟨pss_one h.ps⟩
theorem s_pass : DS X W (.Pass pos) sPass := ⟨PS_imp ps_pass fun E σ H ⟨G, en, so, s, p⟩ => p σ H G (.refl G) s⟩
theorem s_break : DS X W (.Break pos) sBreak := ⟨PS_imp ps_break fun E σ H ⟨G, en, so, s, p⟩ => p σ H G (.refl G) s⟩
theorem s_cont : DS X W (.Continue pos) sCont := ⟨PS_imp ps_continue fun E σ H ⟨G, en, so, s, p⟩ => p σ H G (.refl G) s⟩
theorem s_retN : DS X W (.Return none pos) sRetN := ⟨PS_imp ps_retN fun E σ H ⟨G, en, so, s, p⟩ => p .non σ H G (.refl G) s .non⟩
theorem s_ret (h : DB X W e mB) : DS X W (.Return (some e) pos) (sRet mB) := by
  refine ⟨PS_imp (ps_ret h.pe) fun E σ H ⟨G, en, so, s, p⟩ => ?_⟩
  exact ⟨G, en, so, s, (SPost.bind (R1 := rlB X.K) p).imp fun v H1 ⟨G1, en1, so1, b, l, r1, s1, p1⟩ => p1 v σ H1 G1 (.refl _) s1 r1⟩
theorem s_retD (h : DE X W e m) : DS X W (.Return (some e) pos) (sRetD m) := by
  refine ⟨PS_imp (ps_ret h.pe) fun E σ H ⟨G, en, so, s, p⟩ => ?_⟩
  exact ⟨G, en, so, s, (SPost.bind (R1 := rlD X.K) p).imp fun v H1 ⟨G1, en1, so1, b, l, r1, s1, p1⟩ => p1 v σ H1 G1 (.refl _) s1 r1⟩
theorem s_if (hc : DT X W c t) (ha : DSs X W sts u) (hb : DSs X W sts' w) : DS X W (.If c sts sts' pos) (sIf t u w) := by
  refine ⟨PS_imp (ps_if hc.pt ha.ps hb.ps) fun E σ H ⟨G, en, so, s, p⟩ => ?_⟩
  refine ⟨G, en, so, s, (SPost.bind (R1 := rlT) p).imp fun v H1 ⟨G1, en1, so1, b, l, r1, s1, p1⟩ => ?_⟩
  cases r1
  cases v with
  | true => exact iteT ⟨G1, en1, so1, s1, p1⟩
  | false => exact iteF ⟨G1, en1, so1, s1, p1⟩
theorem s_expr (h : DE X W e m) (hs : swapsWith e none pos.line X.env = pure false := by rfl) : DS X W (.Expr e pos) (sExpr m) := by
  refine ⟨PS_imp (ps_expr h.pe hs) fun E σ H ⟨G, en, so, s, p⟩ => ?_⟩
  exact ⟨G, en, so, s, (SPost.bind (R1 := rlD X.K) p).imp fun v H1 ⟨G1, en1, so1, b, l, r1, s1, p1⟩ => p1 σ H1 G1 (.refl _) s1⟩
theorem s_set {i : Nat} {x : Str} (hN : X.N.Nodup) (h : DE X W e m) (hi : X.N[i]? = some x := by rfl) (hx : L2.Loc X.env.scope x := by first | exact Or.inl rfl | exact Or.inr rfl) (hs : swapsWith e (some (.Name x pos')) pos.line X.env = pure false := by rfl)
    (hf : X.fn x = true ∨ X.env.scope.names.lookup x = some .local := by first | exact .inl rfl | exact .inr rfl | assumption) : DS X W (.Assign [.Name x pos'] e pos) (sSet i m) := by
  refine ⟨PS_imp (ps_set hN hi hx h.pe hs hf) fun E σ H ⟨G, en, so, s, p⟩ => ?_⟩
  exact ⟨G, en, so, s, (SPost.bind (R1 := rlD X.K) p).imp fun v H1 ⟨G1, en1, so1, d, l, r1, s1, p1⟩ => p1 _ H1 G1 (.refl _) (s1.setD r1 i)⟩
theorem s_setB {i : Nat} {x : Str} (hN : X.N.Nodup) (h : DB X W e mB) (hi : X.N[i]? = some x := by rfl) (hx : L2.Loc X.env.scope x := by first | exact Or.inl rfl | exact Or.inr rfl) (hs : swapsWith e (some (.Name x pos')) pos.line X.env = pure false := by rfl)
    (hf : X.fn x = true ∨ X.env.scope.names.lookup x = some .local := by first | exact .inl rfl | exact .inr rfl | assumption) : DS X W (.Assign [.Name x pos'] e pos) (sSetB i mB) := by
  refine ⟨PS_imp (ps_set hN hi hx h.pe hs hf) fun E σ H ⟨G, en, so, s, p⟩ => ?_⟩
  refine ⟨G, en, so, s, (SPost.bind (R1 := rlB X.K) p).imp fun v H1 ⟨G1, en1, so1, d, l, r1, s1, p1⟩ => ?_⟩
  obtain ⟨G2, l2, s2⟩ := s1.setB r1 i
  exact p1 _ H1 G2 l2 s2
theorem s_aug {op : Operator} {i : Nat} {x : Str} {r : TIp} {f : D → D → M D} (hN : X.N.Nodup) (h : DE X W e m) (ho : PIp X op r) (hf2 : Op2 X.K X.ev r f) (hi : X.N[i]? = some x := by rfl) (hx : L2.Loc X.env.scope x := by first | exact Or.inl rfl | exact Or.inr rfl)
    (hf : X.fn x = true ∨ X.env.scope.names.lookup x = some .local := by first | exact .inl rfl | exact .inr rfl | assumption) : DS X W (.AugAssign (.Name x pos') op e pos) (sAug i f m) := by
  refine ⟨PS_imp (ps_aug hN hi hx h.pe ho hf) fun E σ H ⟨G, en, so, s, p⟩ => ?_⟩
  unfold sAug at p
  split at p
  · rename_i d hd
    obtain ⟨v, e1, rv⟩ := s.sl i _ hd
    refine ⟨v, e1, G, en, so, s, (SPost.bind (R1 := rlD X.K) p).imp fun y H1 ⟨G1, en1, so1, d1, l, r1, s1, p1⟩ => ?_⟩
    have p2 := SPost.bind (R1 := rlD X.K) (σ := σ) p1
    exact hf2 v y d d1 G1 en1 so1 σ H1 W _ (Rep.up rv l) r1 s1 (p2.imp fun z H2 ⟨G2, en2, so2, d2, l2, r2, s2, p3⟩ => p3 _ H2 G2 (.refl _) (s2.setD r2 i))
  · exact False.elim p
/-- targets = e -/
theorem s_setT {tg : Expr} {tgM : Tg} {vs : List Nat} (h : DE X W e m) (hg : DG X tg tgM vs) (hs : swapsWithSole [tg] e pos.line X.env = pure false := by rfl) (hw : swappedStores [tg] e X.env = pure none := by rfl)
    (h1 : (assignEach [tg] X.env).map (·.2) = [assign tg X.env] := by rfl) : DS X W (.Assign [tg] e pos) (sSetT tgM m) := by
  refine ⟨PS_imp (ps_asg h.pe hg.pg hs hw h1) fun E σ H ⟨G, en, so, s, p⟩ => ?_⟩
  refine ⟨G, en, so, s, (SPost.bind (R1 := rlD X.K) p).imp fun v H1 ⟨G1, en1, so1, d, l, r1, s1, p1⟩ => ?_⟩
  cases ht : tgM d en1 with
  | none => rw [ht] at p1; exact False.elim p1
  | some en' =>
    rw [ht] at p1
    exact ⟨G1, en1, so1, d, en', r1, s1, ht, fun σ' s' _ => p1 σ' H1 G1 (.refl _) s'⟩
theorem s_for {tg iter : Expr} {tgM : Tg} {vs : List Nat} {src : M (List D)} (hp : PassesOwn (model X.prog X.w) X.A X.env X.xe) (hc : X.calm = true) (hi : DI X W tg iter src) (hg : DG X tg tgM vs) (hb : DSs X W sts u) (hs : ∀ x, foldedSetIterable iter X.env x = pure x := by intro _; rfl) :
    DS X W (.For tg iter sts [] pos) (sFor tgM src u) := by
  refine ⟨PS_imp (ps_for hp hc hi.pi hg.pg hb.ps hs) fun E σ H ⟨G, en, so, s, p⟩ => ?_⟩
  refine ⟨G, en, so, s, (SPost.bind (R1 := fun G _ J ds => Walk X.K G.F G.L G.rho J ds) p).imp fun J H1 ⟨G1, en1, so1, ds, l, wk, s1, p1⟩ => ?_⟩
  refine ⟨fun i m σ H => m = ds.length - i ∧ i ≤ ds.length ∧ ∃ G en so, G1.le G ∧ Sim X.K X.ev G en so σ H ∧ SPost X.K X.ev G W (forGo tgM u (ds.drop i) en so) E, ⟨_, rfl, Nat.zero_le _, G1, en1, so1, .refl _, s1, p1⟩, ?_⟩
  rintro i m σ H ⟨rfl, hi, G, en, so, l, s, p⟩
  have sfH : Same G1.F H := l.F.trans s.toSimO.rep
  have sfL : ∀ a o, G1.L a = some o → H a = some o.1 := fun a o e => (s.lk a o (by rw [l.L]; exact e)).1
  by_cases hlt : i < ds.length
  · have ed : ds[i]? = some ds[i] := List.getElem?_eq_getElem hlt
    obtain ⟨go, yl⟩ := (wk i H sfH sfL).1 _ ed
    refine .inr ⟨go, _, fun σ' H' h => ⟨ds.length - (i + 1), by omega, h⟩, fun x H' y => ?_⟩
    have dr : ds.drop i = ds[i] :: ds.drop (i + 1) := by rw [List.drop_eq_getElem_cons hlt]
    rw [dr] at p
    have item : ∃ G2, G.le G2 ∧ Sim X.K X.ev G2 en so σ H' ∧ Rep X.K G2.F G2.rho x ds[i] := by
      rcases yl x H' y with ⟨rfl, r⟩ | ⟨T, ws, es, rfl, hT, rfl, e, r⟩
      · exact ⟨G, .refl G, s, r.up l⟩
      · obtain ⟨s2, l2⟩ := s.newF (o := .tup ws) hT
        refine ⟨_, l2, s2, ?_⟩
        rw [e]
        exact .tup (.inl (.inl (show upd G.F T _ T = _ from upd_same))) (r.up (l.trans l2))
    obtain ⟨G2, l2, s2, r2⟩ := item
    unfold forGo at p
    cases et : tgM ds[i] en with
    | none => rw [et] at p; exact False.elim p
    | some en0 =>
      rw [et] at p
      refine ⟨G2, en, so, ds[i], en0, r2, s2, et, fun σ' sg wp => ⟨G2, en0, so, sg, ?_⟩⟩
      dsimp only at p
      cases e1 : u en0 so with
      | no => rw [e1] at p; exact False.elim p
      | exc x1 en2 so2 =>
        rw [e1] at p
        exact fun Cl d σ' H' G' l' s' x' => p Cl d σ' H' G' (l2.trans l') s' x'
      | ok f en2 so2 =>
        rw [e1] at p
        cases f with
        | nx => exact fun σ3 H3 G3 l3 s3 => ⟨rfl, hlt, G3, en2, so2, (l.trans l2).trans l3, s3, p.mono (l2.trans l3)⟩
        | ct => exact fun σ3 H3 G3 l3 s3 => ⟨rfl, hlt, G3, en2, so2, (l.trans l2).trans l3, s3, p.mono (l2.trans l3)⟩
        | bk => exact fun σ3 H3 G3 l3 s3 => p σ3 H3 G3 (l2.trans l3) s3
        | rt b => exact fun v σ3 H3 G3 l3 s3 r3 => p v σ3 H3 G3 (l2.trans l3) s3 r3
  · have e : i = ds.length := by omega
    subst e
    rw [List.drop_length] at p
    exact .inl ⟨(wk _ H sfH sfL).2 (Nat.le_refl _), p σ H G (.refl _) s⟩
theorem s_while {n : En → So → Nat} (hp : PassesOwn (model X.prog X.w) X.A X.env X.xe) (hc : DT X W c t) (hb : DSs X W sts u) : DS X W (.While c sts [] pos) (sWhile n t u) := by
  refine ⟨PS_imp (ps_while hp hc.pt hb.ps) fun E σ H ⟨G, en, so, s, p⟩ => ?_⟩
  refine ⟨fun m σ H => ∃ G en so, Sim X.K X.ev G en so σ H ∧ SPost X.K X.ev G W (whGo t u m en so) E, ⟨n en so, G, en, so, s, p⟩, ?_⟩
  rintro m σ H ⟨G, en, so, s, p⟩
  cases m with
  | zero => exact False.elim p
  | succ m =>
    refine ⟨G, en, so, s, ?_⟩
    unfold whGo at p
    cases e1 : t en so with
    | no => rw [e1] at p; exact False.elim p
    | exc x1 en2 so2 => rw [e1] at p; exact fun Cl d H' G' l' s' x' => p Cl d σ H' G' l' s' x'
    | ok k en2 so2 =>
      rw [e1] at p
      intro k' H1 G1 l1 s1 hk
      subst hk
      cases k' with
      | false => exact iteF (p σ H1 G1 l1 s1)
      | true =>
        refine iteT ⟨_, fun σ' H' h => ⟨m, Nat.lt_succ_self m, h⟩, G1, en2, so2, s1, ?_⟩
        dsimp only at p
        cases e2 : u en2 so2 with
        | no => rw [e2] at p; exact False.elim p
        | exc x1 en2 so2 => rw [e2] at p; exact fun Cl d σ' H' G' l' s' x' => p Cl d σ' H' G' (l1.trans l') s' x'
        | ok f en3 so3 =>
          rw [e2] at p
          cases f with
          | nx => exact fun σ3 H3 G3 l3 s3 => ⟨G3, en3, so3, s3, p.mono (l1.trans l3)⟩
          | ct => exact fun σ3 H3 G3 l3 s3 => ⟨G3, en3, so3, s3, p.mono (l1.trans l3)⟩
          | bk => exact fun σ3 H3 G3 l3 s3 => p σ3 H3 G3 (l1.trans l3) s3
          | rt b => exact fun v σ3 H3 G3 l3 s3 r3 => p v σ3 H3 G3 (l1.trans l3) s3 r3
end
end
end Dl

set_option Elab.async false
set_option linter.all false
set_option maxRecDepth 100000
set_option maxHeartbeats 1000000
/-! The data level: name = [..], functions, the law's end. -/
namespace Dl
open PySem PySem.Spec PyProof.Rows L2
noncomputable section
section
variable {X : Cx} {W : WX} {tg iter elt e : Expr} {ifs es : List Expr} {scope : Scope} {pos spos py p : Pos} {own : List (Str × Nat)} {tgM : Tg} {src : M (List D)} {tt : M Bool} {el : M D} {ms : M (List D)}
/-- name = [elt for tg in iter if ..], the new list its own -/
theorem s_setLcB {i : Nat} {y : Str} (hc : X.calm = true) (hN : X.N.Nodup) (hi : DI X W tg iter src) (ok : BlkOk X.N X.env.scope scope own)
    (hg : ∀ (s : Shared) (H : Hp) (C : Addr) (cl : List (Str × Addr)) (fp : List Addr), DG (X.blk s H scope (compEnvC scope cl C X.env) fp) tg tgM (own.map (·.2)))
    (ht : ∀ (s : Shared) (H : Hp) (C : Addr) (cl : List (Str × Addr)) (fp : List Addr), DTs (X.blk s H scope (compEnvC scope cl C X.env) fp) W0 ifs tt)
    (he : ∀ (s : Shared) (H : Hp) (C : Addr) (cl : List (Str × Addr)) (fp : List Addr), DE (X.blk s H scope (compEnvC scope cl C X.env) fp) W0 elt el)
    (hsw : swapsWith (.ListComp elt [⟨tg, iter, ifs, 0⟩] scope pos) (some (.Name y py)) spos.line X.env = pure true) (hy : X.N[i]? = some y := by rfl) (hyl : X.env.scope.names.lookup y = some .local := by rfl) (hs : ∀ x, foldedSetIterable iter X.env x = pure x := by intro _; rfl) :
    DS X W (.Assign [.Name y py] (.ListComp elt [⟨tg, iter, ifs, 0⟩] scope pos) spos) (sSetB i (mLc (own.map (·.2)) tgM src tt el)) := by
  refine ⟨PS_imp (ps_setLc (g := tgR X.K X.ev tgM (own.map (·.2))) (tt := tM X.K X.ev W0 rlT tt) (te := tM X.K X.ev W0 (rlD X.K) el) hc hN hy hyl hsw hi.pi ok (fun s H C cl fp => (hg s H C cl fp).blk hc) (fun s H C cl fp => (ht s H C cl fp).blk hc) (fun s H C cl fp => (he s H C cl fp).blk hc) hs) fun E σ H ⟨G, en, so, s, p⟩ => ?_⟩
  refine lc_read (W := W) (mg := X.ev) ⟨G, en, so, s, (SPost.bind (R1 := rlB X.K) p).imp fun v H1 ⟨G1, en1, so1, d, l, r1, s1, p1⟩ => ?_⟩
  obtain ⟨G2, l2, s2⟩ := s1.setB r1 i
  exact p1 _ H1 G2 l2 s2
/-- .. as data -/
theorem s_setLcD {i : Nat} {y : Str} (hc : X.calm = true) (hN : X.N.Nodup) (hi : DI X W tg iter src) (ok : BlkOk X.N X.env.scope scope own)
    (hg : ∀ (s : Shared) (H : Hp) (C : Addr) (cl : List (Str × Addr)) (fp : List Addr), DG (X.blk s H scope (compEnvC scope cl C X.env) fp) tg tgM (own.map (·.2)))
    (ht : ∀ (s : Shared) (H : Hp) (C : Addr) (cl : List (Str × Addr)) (fp : List Addr), DTs (X.blk s H scope (compEnvC scope cl C X.env) fp) W0 ifs tt)
    (he : ∀ (s : Shared) (H : Hp) (C : Addr) (cl : List (Str × Addr)) (fp : List Addr), DE (X.blk s H scope (compEnvC scope cl C X.env) fp) W0 elt el)
    (hsw : swapsWith (.ListComp elt [⟨tg, iter, ifs, 0⟩] scope pos) (some (.Name y py)) spos.line X.env = pure true) (hy : X.N[i]? = some y := by rfl) (hyl : X.env.scope.names.lookup y = some .local := by rfl) (hs : ∀ x, foldedSetIterable iter X.env x = pure x := by intro _; rfl) :
    DS X W (.Assign [.Name y py] (.ListComp elt [⟨tg, iter, ifs, 0⟩] scope pos) spos) (sSet i (mFz (mLc (own.map (·.2)) tgM src tt el))) := by
  refine ⟨PS_imp (ps_setLc (g := tgR X.K X.ev tgM (own.map (·.2))) (tt := tM X.K X.ev W0 rlT tt) (te := tM X.K X.ev W0 (rlD X.K) el) hc hN hy hyl hsw hi.pi ok (fun s H C cl fp => (hg s H C cl fp).blk hc) (fun s H C cl fp => (ht s H C cl fp).blk hc) (fun s H C cl fp => (he s H C cl fp).blk hc) hs) fun E σ H ⟨G, en, so, s, p⟩ => ?_⟩
  have p0 := (SPost.bind (R1 := rlD X.K) (σ := σ) p)
  refine lc_read (W := W) (mg := X.ev) ⟨G, en, so, s, (Post.bind (R1 := rlB X.K) p0).imp fun v H1 ⟨G1, en1, so1, b, l, r1, s1, p1⟩ => ?_⟩
  obtain ⟨G2, l2, s2, r2⟩ := s1.toD r1
  obtain ⟨G3, en3, so3, d, l3, r3, s3, p3⟩ := p1.ok' l2 s2 r2
  exact p3 _ H1 G3 (.refl _) (s3.setD r3 i)

/-! ### functions -/
inductive Rf where
  | ok (b : B) (so : So) | exc (x : Xc) (so : So) | no
abbrev FunM := List D → So → Rf
def mkF (np n : Nat) (m : M Fl) : FunM := fun ds so => if ds.length = np then
    match m (ds.map (fun d => some (.dat d)) ++ List.replicate (n - ds.length) none) so with
    | .ok .nx _ so' => .ok (.dat .non) so'
    | .ok (.rt b) _ so' => .ok b so'
    | .exc x _ so' => .exc x so'
    | _ => .no
  else .no
def FPost (K : PySem.W.Frag) (mg : Ev) (G : Gh) (r : Rf) (Q : VK) (E : XK) : Prop := match r with
  | .ok b so' => ∀ v H' G', G.le G' → SimO K mg G' so' H' → RB K G' H' .tmp v b → Q v H'
  | .exc x so' => ∀ Cl d H' G', G.le G' → SimO K mg G' so' H' → XR K mg G' H' x Cl d → E Cl d H'
  | .no => False
def spD (K : PySem.W.Frag) (mg : Str → Option Value) (f : FunM) : Sp := fun vs H Q E => ∃ G ds so, Reps K G.F G.rho vs ds ∧ SimO K ⟨mg, none⟩ G so H ∧ FPost K ⟨mg, none⟩ G (f ds so) Q E
theorem args_sl {K : PySem.W.Frag} {mg : Ev} {G : Gh} {H : Hp} (n : Nat) : ∀ {vs : List V} {ds : List D} (i : Nat) (b : B), Reps K G.F G.rho vs ds → (ds.map (fun d => some (B.dat d)) ++ List.replicate n none)[i]? = some (some b) → ∃ v, (vs.map some ++ List.replicate n none)[i]? = some (some v) ∧ RS K mg G H i v b
  | _, _, i, b, .nil, e => by
    simp only [List.map_nil, List.nil_append] at e
    rw [List.getElem?_replicate] at e
    split at e <;> cases e
  | _, _, 0, b, .cons h r, e => by
    have e' : some (some (B.dat _)) = some (some b) := e
    cases e'
    exact ⟨_, rfl, h⟩
  | _, _, i + 1, b, .cons h r, e => by
    obtain ⟨v, e1, r1⟩ := args_sl (mg := mg) (H := H) n i b r e
    refine ⟨v, e1, ?_⟩
    have hb : ∃ d, b = .dat d := by
      have e' : (List.map (fun d => some (B.dat d)) _ ++ List.replicate n none)[i]? = some (some b) := e
      rw [List.getElem?_append] at e'
      split at e'
      · rw [List.getElem?_map] at e'
        cases q : (_ : List D)[i]? with
        | none => rw [q] at e'; cases e'
        | some d => rw [q] at e'; cases e'; exact ⟨d, rfl⟩
      · rw [List.getElem?_replicate] at e'
        split at e' <;> cases e'
    obtain ⟨d, rfl⟩ := hb
    exact r1
variable {P : Program} {w : World} {K : PySem.W.Frag} {mg : Str → Option Value} {base : Heap}
theorem ev_ps {X : Cx} {sts : List Stmt} {W : WX} {m : M Fl} (h : X.A.handled = none) (q : PSs X sts (tS X.K X.ev W m)) : PSs X sts (tS X.K ⟨X.mg, none⟩ W m) := by
  rw [ev_none h] at q
  exact q
/-- THE RULE for a def: its body -/
theorem fn_d {x qual : Str} {st : Stmt} {f : Addr} {fd : FuncData} {N ps : List Str} {k : Nat} {m : M Fl} (F : Fun K x qual st f fd) (S : FnScope N ps (defScope st))
    (hb : ∀ (cdv : Value) (A : Around) (outer : List Env) (s : Shared) (H : Hp) (E : XK), Room k (A.deeper (envOfC qual (defScope st) s.heap.objs.size f cdv)) →
      DSs (cxOf (L2.CX P w) P w K mg base N qual (defScope st) f cdv A outer s H E) (fun Cl d _ H => E Cl d H) (defBody st) m) : FnOk P w K mg base (L2.CX P w) (k + 1) f fd ps (spD K mg (mkF ps.length N.length m)) := by
  refine F.okX S (fun vs H Q E ⟨G, ds, so, r, s, p⟩ => ?_) fun cdv A outer s H vs Q E hr ⟨G, ds, so, r, sm, p⟩ => ⟨_, ev_ps hr.hd (hb cdv A outer s H E hr).ps, G, ds.map (fun d => some (.dat d)) ++ List.replicate (N.length - ds.length) none, so, ?_, ?_⟩
  · unfold mkF at p
    by_cases h : ds.length = ps.length
    · rw [r.len]; exact h
    · rw [if_neg h] at p; exact False.elim p
  · have e : L2.start N vs = vs.map some ++ List.replicate (N.length - ds.length) none := by rw [← r.len]; rfl
    rw [e]
    exact ⟨sm, by simp [r.len], fun i b e => args_sl _ i b r e⟩
  · unfold mkF at p
    by_cases h : ds.length = ps.length
    · rw [if_pos h] at p
      revert p
      generalize m (ds.map (fun d => some (.dat d)) ++ List.replicate (N.length - ds.length) none) so = r
      intro p
      cases r with
      | no => exact False.elim p
      | exc x en so => exact fun Cl d σ' H' G' l s' x' => p Cl d H' G' l s'.toSimO x'
      | ok fl en so =>
        cases fl with
        | nx => exact fun σ' H' G' l s' => p .non H' G' l s'.toSimO .non
        | rt b => exact fun v σ' H' G' l s' rb => p v H' G' l s'.toSimO rb
        | bk => exact False.elim p
        | ct => exact False.elim p
    · rw [if_neg h] at p; exact False.elim p
/-- a def that stands in the module, by its name -/
structure Fn (P : Program) (w : World) (K : PySem.W.Frag) (mg : Str → Option Value) (base : Heap) (x : Str) (f : FunM) (k : Nat) : Prop where
  ex : ∃ a fd ps, FnOk P w K mg base (L2.CX P w) k a fd ps (spD K mg f) ∧ mg x = some (.ref a) ∧ PySem.W.keepIn K (.ref a) = true ∧ Binds K fd ps []
def mCall (f : FunM) (ms : M (List D)) : M B := bd ms fun ds en so => match f ds so with
  | .ok b so' => .ok b en so'
  | .exc x so' => .exc x en so'
  | .no => .no
/-- what an own cell of the caller holds -/
def ownC (G : Gh) (H : Hp) (b : Addr) : Option HO := match G.own b with
  | .slot _ => (match H b with
    | some (.tbl _) => none
    | o => o)
  | _ => none
theorem ownC_at {G : Gh} {H : Hp} {b : Addr} {o : HO} (h : ownC G H b = some o) : H b = some o ∧ ∀ ps, o ≠ .tbl ps := by
  unfold ownC at h
  split at h
  · split at h
    · cases h
    · rename_i q
      exact ⟨h, fun ps z => q ps (by rw [h, z])⟩
  · cases h
theorem ownC_of {G : Gh} {H : Hp} {b : Addr} {i : Nat} {o : HO} (h : G.own b = .slot i) (e : H b = some o) (n : ∀ ps, o ≠ .tbl ps) : ownC G H b = some o := by
  unfold ownC
  rw [h]
  dsimp only
  split
  · rename_i ps q
    rw [e] at q
    exact absurd (Option.some.inj q) (n ps)
  · exact e
theorem ownC_slot {G : Gh} {H : Hp} {b : Addr} {o : HO} (h : ownC G H b = some o) : ∃ i, G.own b = .slot i := by
  unfold ownC at h
  split at h
  · exact ⟨_, by assumption⟩
  · cases h
/-- the caller's own cells, for the time of a call -/
def _root_.Dl.Gh.lend (G : Gh) (H : Hp) : Gh where
  F := G.F
  rho := G.rho
  own := fun b => match G.own b with
    | .slot _ => .rest
    | t => t
  R := fun b => match G.own b with
    | .slot _ => ownC G H b
    | _ => G.R b
  L := G.L
def _root_.Dl.Gh.home (G G' : Gh) (H : Hp) : Gh where
  F := G'.F
  rho := G'.rho
  R := fun b => match G.R b with
    | none => none
    | some _ => G'.R b
  L := G'.L
  own := fun b => match G.own b, ownC G H b with
    | .slot i, some _ => .slot i
    | _, _ => G'.own b
theorem lend_own {G : Gh} {H : Hp} {b : Addr} {t : Tag} (h : G.own b = t) (ht : ∀ i, t ≠ .slot i) : (G.lend H).own b = t := by
  show (match G.own b with | .slot _ => Tag.rest | t => t) = t
  rw [h]
  cases t <;> first | rfl | exact absurd rfl (ht _)
theorem lend_R {G : Gh} {H : Hp} {b : Addr} (h : G.own b = .rest) : (G.lend H).R b = G.R b := by
  show (match G.own b with | .slot _ => ownC G H b | _ => G.R b) = _
  rw [h]
theorem lend_slot {G : Gh} {H : Hp} {b : Addr} {i : Nat} (h : G.own b = .slot i) : (G.lend H).R b = ownC G H b := by
  show (match G.own b with | .slot _ => ownC G H b | _ => G.R b) = _
  rw [h]
theorem Sim.lend {mg : Ev} {G : Gh} {en : En} {so : So} {σ : L2.St} {H : Hp} (s : Sim K mg G en so σ H) : SimO K mg (G.lend H) so H := by
  have eF : Same G.F (G.lend H).F := Same.refl G.F
  have er : Pre G.rho (G.lend H).rho := fun _ _ h => h
  refine ⟨fun a o e => ?_, fun a o e => ?_, s.len, fun k o a dx e1 e2 => ?_, fun a o e => ?_, fun q hq => ?_⟩
  · obtain ⟨h1, h2⟩ := s.fr a o e
    exact ⟨h1, lend_own h2 (fun i z => by cases z)⟩
  · have e' : (match G.own a with | .slot _ => ownC G H a | _ => G.R a) = some o := e
    cases h : G.own a with
    | slot i =>
      rw [h] at e'
      exact ⟨(ownC_at e').1, by show (match G.own a with | .slot _ => Tag.rest | t => t) = .rest; rw [h]⟩
    | _ =>
      rw [h] at e'
      obtain ⟨h1, h2⟩ := s.re a o e'
      exact ⟨h1, lend_own h2 (fun i z => by cases z)⟩
  · exact (s.ob k o a dx e1 e2).keep eF er fun b u h1 h2 => ⟨h1, lend_own rfl (fun i z => by rcases h2 with h2 | h2 <;> (rw [h2] at z; cases z))⟩
  · obtain ⟨h1, h2⟩ := s.lk a o e
    exact ⟨h1, lend_own h2 (fun i z => by cases z)⟩
  · obtain ⟨ps, h1, h2⟩ := s.tb q hq
    exact ⟨ps, by rw [lend_R (s.re _ _ h1).2]; exact h1, h2⟩
theorem home_own {G G' : Gh} {H : Hp} {b : Addr} {t : Tag} (h : G'.own b = t) (hn : ∀ i o, G.own b = .slot i → ownC G H b = some o → False) : (G.home G' H).own b = t := by
  show (match G.own b, ownC G H b with | .slot i, some _ => Tag.slot i | _, _ => G'.own b) = t
  cases h1 : G.own b with
  | slot i =>
    cases h2 : ownC G H b with
    | some o => exact (hn i o h1 h2).elim
    | none => exact h
  | _ => exact h
/-- the caller's cells stand -/
theorem cell_back {mg : Ev} {G G' : Gh} {so' : So} {H H' : Hp} {b : Addr} {i : Nat} {o : HO} (l : (G.lend H).le G') (s' : SimO K mg G' so' H') (h1 : G.own b = .slot i) (h2 : ownC G H b = some o) : H' b = some o ∧ G'.own b = .rest :=
  s'.re b o (l.R.st b o (by rw [lend_slot h1]; exact h2) (ownC_at h2).2)
theorem Sim.home {mg : Ev} {G G' : Gh} {en : En} {so so' : So} {σ : L2.St} {H H' : Hp} (s : Sim K mg G en so σ H) (l : (G.lend H).le G') (s' : SimO K mg G' so' H') : Sim K mg (G.home G' H) en so' σ H' ∧ G.le (G.home G' H) := by
  have eF : Same G'.F (G.home G' H).F := Same.refl G'.F
  have er : Pre G'.rho (G.home G' H).rho := fun _ _ h => h
  have hn : ∀ {b : Addr} {t : Tag}, G'.own b = t → t ≠ .rest → ∀ i o, G.own b = .slot i → ownC G H b = some o → False := fun {b t} h q i o h1 h2 => q (h.symm.trans (cell_back l s' h1 h2).2)
  have hR : ∀ {a : Addr} {u : HO}, G.R a = some u → (G.home G' H).R a = G'.R a := fun {a u} h => by
    show (match G.R a with | none => none | some _ => G'.R a) = _
    rw [h]
  have lR : ∀ {a : Addr} {u : HO}, G.R a = some u → (G.lend H).R a = some u := fun {a u} h => by rw [lend_R (s.re a u h).2]; exact h
  refine ⟨⟨⟨fun a o e => ?_, fun a o e => ?_, s'.len, fun k o a dx e1 e2 => ?_, fun a o e => ?_, fun q hq => ?_⟩, s.ln, fun i b e => ?_⟩, l.F, l.rho, ⟨fun a o h n => ?_, fun a ps h t => ?_⟩, l.L⟩
  · obtain ⟨h1, h2⟩ := s'.fr a o e
    exact ⟨h1, home_own h2 (hn h2 (by intro z; cases z))⟩
  · cases h0 : G.R a with
    | none =>
      have e' : (match G.R a with | none => none | some _ => G'.R a) = some o := e
      rw [h0] at e'
      cases e'
    | some u =>
      rw [hR h0] at e
      obtain ⟨h3, h4⟩ := s'.re a o e
      exact ⟨h3, home_own h4 (fun i o h5 _ => by rw [(s.re a u h0).2] at h5; cases h5)⟩
  · exact (s'.ob k o a dx e1 e2).keep eF er fun b u h1 h2 => ⟨h1, home_own rfl (hn rfl (by rcases h2 with h2 | h2 <;> (rw [h2]; intro z; cases z)))⟩
  · obtain ⟨h1, h2⟩ := s'.lk a o e
    exact ⟨h1, home_own h2 (hn h2 (by intro z; cases z))⟩
  · obtain ⟨ps, h1, _⟩ := s.tb q hq
    rw [hR h1]
    exact s'.tb q hq
  · obtain ⟨v, e1, r⟩ := s.sl i b e
    refine ⟨v, e1, r.keepN (show Same G.F (G.home G' H).F from l.F) (show Pre G.rho (G.home G' H).rho from l.rho) fun a o nt h1 h2 => ⟨(cell_back l s' h2 (ownC_of h2 h1 nt)).1, ?_⟩⟩
    show (match G.own a, ownC G H a with | .slot i, some _ => Tag.slot i | _, _ => G'.own a) = .slot i
    rw [ownC_of h2 h1 nt, h2]
  · rw [hR h]
    exact l.R.st a o (lR h) n
  · rw [hR h]
    exact l.R.tb a ps (lR h) t
/-- f(e, ..) -/
theorem d_call {x : Str} {f : FunM} {k : Nat} (F : Fn X.prog X.w X.K X.mg X.base x f k) (hr : Room k X.A) (hg : Gl X x) (tk : Takes X W) (ha : DA X W (e :: es) ms)
    (hdb : (x == ("__debug__" : Str)) = false := by decide) (he : starEach (e :: es) X.env = (false, eval e X.env) :: starEach es X.env := by rfl) (hpl : (backTo pos (starEach es X.env)).any (·.1) = false := by rfl) :
    DB X W (.Call (.Name x p) (e :: es) [] pos) (mCall f ms) := by
  obtain ⟨a, fd, ps, ok, hm, hk, hb⟩ := F.ex
  have hpa : PA X (e :: es) (tM X.K ⟨X.mg, none⟩ W (rlDs X.K) ms) := by
    have := ha.pa
    rw [ev_none hr.hd] at this
    exact this
  have key : PE X (.Call (.Name x p) (e :: es) [] pos) (tM X.K ⟨X.mg, none⟩ W (rlB X.K) (mCall f ms)) := ?_
  · exact ⟨by rw [ev_none hr.hd]; exact key⟩
  refine PE_imp (pe_callS ok hr hg hm hk hb (fun σ => passAt tk σ) hpa hdb he hpl) fun σ H Q ⟨G, en, so, s, p⟩ => ?_
  refine ⟨G, en, so, s, (Post.bind (R1 := rlDs X.K) p).imp fun vs H1 ⟨G1, en1, so1, ds, l, r1, s1, p1⟩ => ?_⟩
  refine ⟨G1.lend H1, ds, so1, r1, s1.lend, ?_⟩
  revert p1
  cases f ds so1 with
  | no => exact fun p1 => False.elim p1
  | ok b so2 =>
    intro p1 v H' G' l' s' rb
    obtain ⟨s2, l2⟩ := s1.home l' s'
    refine p1 v H' _ l2 s2 (rb.keep (show Same G'.F (G1.home G' H1).F from Same.refl _) (show Pre G'.rho (G1.home G' H1).rho from fun _ _ h => h) fun b o h1 h2 => ⟨h1, home_own h2 fun i o h3 h4 => ?_⟩)
    have := (cell_back l' s' h3 h4).2
    rw [h2] at this
    cases this
  | exc x so2 =>
    intro p1 Cl d H' G' l' s' xr
    obtain ⟨s2, l2⟩ := s1.home l' s'
    refine p1 Cl d H' _ l2 s2 ?_
    obtain ⟨Ca, e1, e2, h⟩ := xr
    refine ⟨Ca, e1, e2, h.elim .inl fun ⟨da, fs, e3, e4, e5, e6⟩ => .inr ⟨da, fs, e3, e4, home_own e5 fun i o h3 h4 => ?_, e6⟩⟩
    have := (cell_back l' s' h3 h4).2
    rw [e5] at this
    cases this
end
end
end Dl

set_option Elab.async false
set_option linter.all false
set_option maxRecDepth 100000
set_option maxHeartbeats 1000000
/-! The data level: methods of texts, is None, the law's end. -/
namespace Dl
open PySem PySem.Spec PyProof.Rows L2
noncomputable section
section
variable {X : Cx}
theorem op_addA : OpR X (binaryOp .Add) (fun x y H Q => rI0 (fun i j => .int (i + j)) x y H Q ∨ ∃ i j, x = .str i ∧ y = .str j ∧ i.length + j.length ≤ sizeLine ∧ Q (.str (i ++ j)) H) := OpR.or op_add op_add_str
theorem ip_addA : PIp X .Add (fun x y H Q => rI0 (fun i j => .int (i + j)) x y H Q ∨ ∃ i j, x = .str i ∧ y = .str j ∧ i.length + j.length ≤ sizeLine ∧ Q (.str (i ++ j)) H) := (OpR.or iop_add iop_add_str : OpR X (inplaceOp .Add) _)
theorem ip_subA : PIp X .Sub (rI0 fun i j => .int (i - j)) := (iop_sub : OpR X (inplaceOp .Sub) _)
end
/-! ### is None -/
def isN (d : D) : Bool := match d with
  | .non => true
  | _ => false
def mIsN (m : M D) : M D := bd m fun d => pu (.bl (isN d))
def mNotN (m : M D) : M D := bd m fun d => pu (.bl (!isN d))
section
variable {X : Cx} {W : WX} {a b c e o : Expr} {ma mb mc m mo : M D} {ms : M (List D)} {pos p px pos' apos : Pos} {j : Nat} {x name : Str} {id : String} {r : V → List V → Hp → VK → Prop}
theorem isN_of {K : PySem.W.Frag} {F : Hp} {rho : List (Addr × Addr)} {v : V} {d : D} (r : Rep K F rho v d) : decide (v = .non) = isN d := by cases r <;> rfl
theorem isN_tr {σ : L2.St} {H : Hp} {Q : VK} (q : tM X.K X.ev W (rlD X.K) (mIsN ma) σ H Q) : tIsN (tM X.K X.ev W (rlD X.K) ma) σ H Q := by
  obtain ⟨G, en, so, s, p⟩ := q
  refine ⟨G, en, so, s, (Post.bind (R1 := rlD X.K) p).imp fun v H1 ⟨G1, en1, so1, d, l, r1, s1, p1⟩ => ?_⟩
  rw [isN_of r1]
  exact p1.ok s1 (.bl _)
theorem notN_tr {σ : L2.St} {H : Hp} {Q : VK} (q : tM X.K X.ev W (rlD X.K) (mNotN ma) σ H Q) : tNotN (tM X.K X.ev W (rlD X.K) ma) σ H Q := by
  obtain ⟨G, en, so, s, p⟩ := q
  refine ⟨G, en, so, s, (Post.bind (R1 := rlD X.K) p).imp fun v H1 ⟨G1, en1, so1, d, l, r1, s1, p1⟩ => ?_⟩
  rw [isN_of r1]
  exact p1.ok s1 (.bl _)
theorem d_isN (ha : DE X W a ma) : DE X W (.Compare a [.Is] [.Constant .none j pos'] pos) (mIsN ma) := ⟨PE_imp (pe_cmp (pc_isN ha.pe)) fun _ _ _ q => isN_tr q⟩
theorem d_notN (ha : DE X W a ma) : DE X W (.Compare a [.IsNot] [.Constant .none j pos'] pos) (mNotN ma) := ⟨PE_imp (pe_cmp (pc_notN ha.pe)) fun _ _ _ q => notN_tr q⟩
theorem d_isNT (ha : DE X W a ma) : DT X W (.Compare a [.Is] [.Constant .none j pos'] pos) (mT (mIsN ma)) := ⟨PT_imp (pt_cmp (pc_isN ha.pe)) fun _ _ _ q => isN_tr (mT_tr q)⟩
theorem d_notNT (ha : DE X W a ma) : DT X W (.Compare a [.IsNot] [.Constant .none j pos'] pos) (mT (mNotN ma)) := ⟨PT_imp (pt_cmp (pc_notN ha.pe)) fun _ _ _ q => notN_tr (mT_tr q)⟩

/-! ### methods of texts -/
def OpM1 (K : PySem.W.Frag) (mg : Ev) (r : V → List V → Hp → VK → Prop) (f : List Nat → D → M D) : Prop :=
  ∀ (z : List Nat) (y : V) (d : D) (G : Gh) (en : En) (so : So) (σ : L2.St) (H : Hp) (W : WX) (Q : VK), Rep K G.F G.rho y d → Sim K mg G en so σ H → Post K mg G W (rlD K) σ (f z d en so) Q → r (.str (sT z)) [y] H Q
def OpM1B (K : PySem.W.Frag) (mg : Ev) (r : V → List V → Hp → VK → Prop) (f : List Nat → D → M B) : Prop :=
  ∀ (z : List Nat) (y : V) (d : D) (G : Gh) (en : En) (so : So) (σ : L2.St) (H : Hp) (W : WX) (Q : VK), Rep K G.F G.rho y d → Sim K mg G en so σ H → Post K mg G W (rlB K) σ (f z d en so) Q → r (.str (sT z)) [y] H Q
def OpM0 (K : PySem.W.Frag) (mg : Ev) (r : V → List V → Hp → VK → Prop) (f : List Nat → M D) : Prop :=
  ∀ (z : List Nat) (G : Gh) (en : En) (so : So) (σ : L2.St) (H : Hp) (W : WX) (Q : VK), Sim K mg G en so σ H → Post K mg G W (rlD K) σ (f z en so) Q → r (.str (sT z)) [] H Q
def mM1 {A : Type} (f : List Nat → D → M A) (o e : M D) : M A := bd o fun d => match d with
  | .str z => bd e fun y => f z y
  | _ => no
def mM0 {A : Type} (f : List Nat → M A) (o : M D) : M A := bd o fun d => match d with
  | .str z => f z
  | _ => no
theorem d_m1 {f : List Nat → D → M D} (slot : Slot "str" name id) (ty : typeOf (.builtin id) = pure (.type "method_descriptor")) (rule : MtR X id r) (h : OpM1 X.K X.ev r f) (ho : DE X W o mo) (he : DE X W e m)
    (hs : starEach [e] X.env = [(false, eval e X.env)] := by rfl) (hbase : attributeBase o name X.env (eval o X.env) = eval o X.env := by rfl) (hline : (apos.endLine == pos.line) = true := by rfl) : DE X W (.Call (.Attribute o name apos) [e] [] pos) (mM1 f mo m) := by
  refine ⟨PE_imp (pe_m1 slot ty rule ho.pe he.pe hs hbase hline) fun σ H Q ⟨G, en, so, s, p⟩ => ?_⟩
  refine ⟨G, en, so, s, (Post.bind (R1 := rlD X.K) p).imp fun v H1 ⟨G1, en1, so1, d, l, r1, s1, p1⟩ => ?_⟩
  cases r1 with
  | str z => exact ⟨⟨_, rfl⟩, G1, en1, so1, s1, (Post.bind (R1 := rlD X.K) p1).imp fun y H2 ⟨G2, en2, so2, d2, l2, r2, s2, p2⟩ => h z y d2 G2 en2 so2 σ H2 W Q r2 s2 p2⟩
  | _ => exact False.elim p1
theorem b_m1 {f : List Nat → D → M B} (slot : Slot "str" name id) (ty : typeOf (.builtin id) = pure (.type "method_descriptor")) (rule : MtR X id r) (h : OpM1B X.K X.ev r f) (ho : DE X W o mo) (he : DE X W e m)
    (hs : starEach [e] X.env = [(false, eval e X.env)] := by rfl) (hbase : attributeBase o name X.env (eval o X.env) = eval o X.env := by rfl) (hline : (apos.endLine == pos.line) = true := by rfl) : DB X W (.Call (.Attribute o name apos) [e] [] pos) (mM1 f mo m) := by
  refine ⟨PE_imp (pe_m1 slot ty rule ho.pe he.pe hs hbase hline) fun σ H Q ⟨G, en, so, s, p⟩ => ?_⟩
  refine ⟨G, en, so, s, (Post.bind (R1 := rlD X.K) p).imp fun v H1 ⟨G1, en1, so1, d, l, r1, s1, p1⟩ => ?_⟩
  cases r1 with
  | str z => exact ⟨⟨_, rfl⟩, G1, en1, so1, s1, (Post.bind (R1 := rlD X.K) p1).imp fun y H2 ⟨G2, en2, so2, d2, l2, r2, s2, p2⟩ => h z y d2 G2 en2 so2 σ H2 W Q r2 s2 p2⟩
  | _ => exact False.elim p1
theorem d_m0 {f : List Nat → M D} (slot : Slot "str" name id) (ty : typeOf (.builtin id) = pure (.type "method_descriptor")) (rule : MtR X id r) (h : OpM0 X.K X.ev r f) (ho : DE X W o mo)
    (hbase : attributeBase o name X.env (eval o X.env) = eval o X.env := by rfl) (hline : (apos.endLine == pos.line) = true := by rfl) : DE X W (.Call (.Attribute o name apos) [] [] pos) (mM0 f mo) := by
  refine ⟨PE_imp (pe_m0 slot ty rule ho.pe hbase hline) fun σ H Q ⟨G, en, so, s, p⟩ => ?_⟩
  refine ⟨G, en, so, s, (Post.bind (R1 := rlD X.K) p).imp fun v H1 ⟨G1, en1, so1, d, l, r1, s1, p1⟩ => ?_⟩
  cases r1 with
  | str z => exact ⟨⟨_, rfl⟩, h z G1 en1 so1 σ H1 W Q s1 p1⟩
  | _ => exact False.elim p1
end
/-- a list of texts -/
def strsOf : List D → Option (List (List Nat))
  | [] => some []
  | .str s :: r => (strsOf r).map (s :: ·)
  | _ => none
def szL (l : List (List Nat)) : Nat := (l.map List.length).sum
def joinD (z : List Nat) : D → M D
  | .lst xs => match strsOf xs with
    | some ys => gd (szL ys + ys.length * z.length ≤ 16777216) (pu (.str (TL.joinL z ys)))
    | none => no
  | .tup xs => match strsOf xs with
    | some ys => gd (szL ys + ys.length * z.length ≤ 16777216) (pu (.str (TL.joinL z ys)))
    | none => no
  | _ => no
def splitD (z : List Nat) : D → M B
  | .str s => gd (s ≠ [] ∧ z.length + 2 ≤ 16777216 ∧ s.all (· < 256) = true) (pu (.cel (.lst ((TL.spl s 0 [] z).map .str))))
  | _ => no
def startsD (z : List Nat) : D → M D
  | .str s => pu (.bl (Txt.startswith (sT z) (sT s)))
  | _ => no
def endsD (z : List Nat) : D → M D
  | .str s => pu (.bl (Txt.endswith (sT z) (sT s)))
  | _ => no
def findD (z : List Nat) : D → M D
  | .str s => pu (.int (Txt.find (sT z) (sT s)))
  | _ => no
def countD (z : List Nat) : D → M D
  | .str s => pu (.int (Txt.count (sT z) (sT s)))
  | _ => no
section
variable {K : PySem.W.Frag} {mg : Ev}
theorem strs_of {F : Hp} {rho : List (Addr × Addr)} : ∀ {vs : List V} {ds : List D} {ys : List (List Nat)}, Reps K F rho vs ds → strsOf ds = some ys → vs = (ys.map sT).map V.str
  | _, [], ys, .nil, e => by cases e; rfl
  | _, .str b :: r, ys, .cons h k, e => by
    cases h
    have e' : (strsOf r).map (b :: ·) = some ys := e
    cases q : strsOf r with
    | none => rw [q] at e'; cases e'
    | some bs' =>
      rw [q] at e'
      cases e'
      rw [strs_of k q]
      rfl
  | _, .non :: _, _, _, e => nomatch e
  | _, .int _ :: _, _, _, e => nomatch e
  | _, .bl _ :: _, _, _, e => nomatch e
  | _, .lst _ :: _, _, _, e => nomatch e
  | _, .tup _ :: _, _, _, e => nomatch e
  | _, .dct _ :: _, _, _, e => nomatch e
  | _, .obj _ :: _, _, _, e => nomatch e
theorem reps_strs {F : Hp} {rho : List (Addr × Addr)} : ∀ (ys : List (List Nat)), Reps K F rho ((ys.map sT).map V.str) (ys.map .str)
  | [] => .nil
  | y :: ys => .cons (.str y) (reps_strs ys)
theorem szL_map (ys : List (List Nat)) : ((ys.map sT).map (·.length)).sum = szL ys := by
  unfold szL
  rw [List.map_map]
  congr 1
theorem join_sT (z : List Nat) (ys : List (List Nat)) : Txt.join (sT z) (ys.map sT) = sT (TL.joinL z ys) := by
  apply TL.ext_tl
  rw [TL.join_eq, TL.tl_join, show TL.tl (sT (TL.joinL z ys)) = TL.joinL z ys from tl_sT _, show TL.tl (sT z) = z from tl_sT z, List.map_map]
  congr 1
  have : (TL.tl ∘ sT) = id := by funext l; exact tl_sT l
  rw [this, List.map_id]
theorem opm_join : OpM1 K mg (fun x xs H Q => ∃ a p, ∃ ys : List Str, x = .str a ∧ xs = [.ref p] ∧ (SqL K H p (ys.map V.str) ∨ SqT K H p (ys.map V.str)) ∧ (ys.map (·.length)).sum + ys.length * a.length ≤ 16777216 ∧ Q (.str (Txt.join a ys)) H) joinD := by
  intro z y d G en so σ H W Q ry s p
  cases ry with
  | lst h r =>
    rename_i ds
    have p' : Post K mg G W (rlD K) σ ((match strsOf ds with | some ys => gd (szL ys + ys.length * z.length ≤ 16777216) (pu (D.str (TL.joinL z ys))) | none => no) en so) Q := p
    cases e : strsOf ds with
    | none => rw [e] at p'; exact False.elim p'
    | some ys =>
      rw [e] at p'
      obtain ⟨h1, p'⟩ := Post.gd p'
      have ev := strs_of r e
      refine ⟨sT z, _, ys.map sT, rfl, rfl, .inl (by rw [← ev]; exact s.toSimO.rep.seq h), by rw [szL_map, List.length_map, sT_len]; exact h1, ?_⟩
      rw [join_sT]
      exact p'.ok s (.str _)
  | tup h r =>
    rename_i ds
    have p' : Post K mg G W (rlD K) σ ((match strsOf ds with | some ys => gd (szL ys + ys.length * z.length ≤ 16777216) (pu (D.str (TL.joinL z ys))) | none => no) en so) Q := p
    cases e : strsOf ds with
    | none => rw [e] at p'; exact False.elim p'
    | some ys =>
      rw [e] at p'
      obtain ⟨h1, p'⟩ := Post.gd p'
      have ev := strs_of r e
      refine ⟨sT z, _, ys.map sT, rfl, rfl, .inr (by rw [← ev]; exact same_seqT s.toSimO.rep h), by rw [szL_map, List.length_map, sT_len]; exact h1, ?_⟩
      rw [join_sT]
      exact p'.ok s (.str _)
  | _ => exact False.elim p
theorem split_sT (z s : List Nat) (h0 : s ≠ []) (h : s.all (· < 256) = true) : Txt.split (sT z) (sT s) = (TL.spl s 0 [] z).map sT := by
  apply TL.map_tl_inj
  have hk : TL.tl (sT s) ≠ [] := by rw [show TL.tl (sT s) = s from tl_sT s]; exact h0
  have hc : (sT s).cps.all (· < 256) = true := by
    show (s.toArray).all (· < 256) = true
    rw [List.all_toArray]; exact h
  rw [TL.split_spl _ _ hk (TL.kind_ok hc), show TL.tl (sT s) = s from tl_sT s, show TL.tl (sT z) = z from tl_sT z, List.map_map]
  have : (TL.tl ∘ sT) = id := by funext l; exact tl_sT l
  rw [this, List.map_id]
theorem opm_split : OpM1B K mg (fun x xs H Q => ∃ a b, x = .str a ∧ xs = [.str b] ∧ (b.length == 0) = false ∧ a.length + 2 ≤ sizeLine ∧ rNewStrs (Txt.split a b) H Q) splitD := by
  intro z y d G en so σ H W Q ry s p
  cases ry with
  | str t =>
    obtain ⟨⟨h1, h2, h3⟩, p⟩ := Post.gd (c := t ≠ [] ∧ z.length + 2 ≤ 16777216 ∧ t.all (· < 256) = true) p
    refine ⟨_, _, rfl, rfl, ?_, by rw [sT_len, sizeLine_eq]; exact h2, fun q hq => ?_⟩
    · rw [sT_len]
      cases t with
      | nil => exact absurd rfl h1
      | cons _ _ => rfl
    · rw [split_sT z t h1 h3]
      exact p.ok' (tag_le q .tmp) (s.newT (t := .tmp) hq) ⟨q, rfl, tag_own, _, upd_same, reps_strs _⟩
  | _ => exact False.elim p
theorem opm_starts : OpM1 K mg (fun x xs H Q => ∃ a b, x = .str a ∧ xs = [.str b] ∧ Q (.bl (Txt.startswith a b)) H) startsD := by
  intro z y d G en so σ H W Q ry s p
  cases ry with
  | str t => exact ⟨_, _, rfl, rfl, p.ok s (.bl _)⟩
  | _ => exact False.elim p
theorem opm_ends : OpM1 K mg (fun x xs H Q => ∃ a b, x = .str a ∧ xs = [.str b] ∧ Q (.bl (Txt.endswith a b)) H) endsD := by
  intro z y d G en so σ H W Q ry s p
  cases ry with
  | str t => exact ⟨_, _, rfl, rfl, p.ok s (.bl _)⟩
  | _ => exact False.elim p
theorem opm_find : OpM1 K mg (fun x xs H Q => ∃ a b, x = .str a ∧ xs = [.str b] ∧ Q (.int (Txt.find a b)) H) findD := by
  intro z y d G en so σ H W Q ry s p
  cases ry with
  | str t => exact ⟨_, _, rfl, rfl, p.ok s (.int _)⟩
  | _ => exact False.elim p
theorem opm_count : OpM1 K mg (fun x xs H Q => ∃ a b, x = .str a ∧ xs = [.str b] ∧ Q (.int (Txt.count a b)) H) countD := by
  intro z y d G en so σ H W Q ry s p
  cases ry with
  | str t => exact ⟨_, _, rfl, rfl, p.ok s (.int _)⟩
  | _ => exact False.elim p
end

/-! ### the law's end -/
def spLaw (K : PySem.W.Frag) : Sp := fun vs H Q _ => ∃ (a : Addr) (ns : List Int), vs = [.ref a] ∧ SqL K H a (ns.map V.int) ∧ ns.length ≤ 63 ∧ (∀ z ∈ ns, Builtin.Int.intBits z ≤ 1048576) ∧ (∀ p ∈ tabsK K, H p.2 = some (.tbl #[])) ∧ ∀ H', Q (.bl true) H'
theorem reps_ints {K : PySem.W.Frag} {F : Hp} {rho : List (Addr × Addr)} : ∀ (ns : List Int), Reps K F rho (ns.map V.int) (ns.map .int)
  | [] => .nil
  | n :: ns => .cons (.int n) (reps_ints ns)
/-- what is to be shown of the law: on every script it answers True -/
def LawT (f : FunM) : Prop := ∀ ns : List Int, ns.length ≤ 63 → (∀ z ∈ ns, Builtin.Int.intBits z ≤ 1048576) → ∃ so, f [.lst (ns.map .int)] [] = .ok (.dat (.bl true)) so
open Classical in
theorem law_imp {P : Program} {w : World} {K : PySem.W.Frag} {mg : Str → Option Value} {base : Heap} {CX : CXT} {k : Nat} {fa : Addr} {fd : FuncData} {ps : List Str} {f : FunM} (hf : LawT f) (F : FnOk P w K mg base CX k fa fd ps (spD K mg f)) : FnOk P w K mg base CX k fa fd ps (spLaw K) := by
  refine F.imp fun vs H Q E ⟨a, ns, e, hS, hl, hb, hT, q⟩ => ?_
  subst e
  obtain ⟨so, e⟩ := hf ns hl hb
  have tb : ∀ {b : Addr}, (∃ p ∈ tabsK K, p.2 = b) → H b = some (.tbl #[]) := fun ⟨p, hp, e⟩ => by rw [← e]; exact hT p hp
  have hS' : SqL K (fun b => if ∃ p ∈ tabsK K, p.2 = b then none else H b) a (ns.map V.int) := by
    have off : ∀ {u : HO}, H a = some u → (∀ ps, u ≠ .tbl ps) → (if ∃ p ∈ tabsK K, p.2 = a then none else H a) = some u := fun {u} h n => by
      rw [if_neg fun z => n #[] (Option.some.inj (h.symm.trans (tb z)))]
      exact h
    rcases hS with (h | ⟨o, h⟩) | h
    · exact .inl (.inl (off h fun ps z => by cases z))
    · exact .inl (.inr ⟨o, off h fun ps z => by cases z⟩)
    · exact .inr h
  refine ⟨⟨fun b => if ∃ p ∈ tabsK K, p.2 = b then none else H b, fun b => if ∃ p ∈ tabsK K, p.2 = b then .rest else .frz, [], fun b => if ∃ p ∈ tabsK K, p.2 = b then some (.tbl #[]) else none, fun _ => none⟩, [.lst (ns.map .int)], [], .cons (.lst hS' (reps_ints ns)) .nil, ⟨fun a o e => ?_, fun a o e => ?_, rfl, (fun k o a dx e => nomatch e), (fun a o e => nomatch e), fun p hp => ⟨#[], if_pos ⟨p, hp, rfl⟩, trivial⟩⟩, ?_⟩
  · by_cases h : ∃ p ∈ tabsK K, p.2 = a
    · have e' : (if ∃ p ∈ tabsK K, p.2 = a then none else H a) = some o := e
      rw [if_pos h] at e'
      cases e'
    · have e' : (if ∃ p ∈ tabsK K, p.2 = a then none else H a) = some o := e
      rw [if_neg h] at e'
      exact ⟨e', if_neg h⟩
  · by_cases h : ∃ p ∈ tabsK K, p.2 = a
    · have e' : (if ∃ p ∈ tabsK K, p.2 = a then some (HO.tbl #[]) else none) = some o := e
      rw [if_pos h] at e'
      cases e'
      exact ⟨tb h, if_pos h⟩
    · have e' : (if ∃ p ∈ tabsK K, p.2 = a then some (HO.tbl #[]) else none) = some o := e
      rw [if_neg h] at e'
      cases e'
  rw [e]
  intro v H' G' l s r
  cases (show Rep K G'.F G'.rho v (.bl true) from r)
  exact q H'
/-- the tables are there, empty, and not in K -/
def tabOk (K : PySem.W.Frag) (q : Program) : Bool := genNames.all fun x => match codeA K x with
  | none => true
  | some c => (recsOf q).any (fun d => d.name == x) && PySem.W.codeHdIn K c (tabA K c) && (K.lookup (tabA K c)).isNone
theorem tabs_start {q : Program} {loose : List Str} {mean : ExcName → Option Value} {mg mb : Str → Option Value} {h : Heap} {K : PySem.W.Frag} (T : Top q loose mean mg mb h) (X : K.In h) (ok : tabOk K q = true) :
    ∀ p ∈ tabsK K, h.get? p.2 = some { cls := .none, data := .fields #[] } ∧ K.lookup p.2 = none ∧ PySem.W.CodeHd h p.1 p.2 := by
  intro p hp
  obtain ⟨x, hx, e⟩ := List.mem_filterMap.mp hp
  have o := List.all_eq_true.mp ok x hx
  cases hc : codeA K x with
  | none => rw [hc] at e; cases e
  | some c =>
    rw [hc] at e o
    cases e
    have o : ((recsOf q).any (fun d => d.name == x) && PySem.W.codeHdIn K c (tabA K c) && (K.lookup (tabA K c)).isNone) = true := o
    rw [Bool.and_eq_true, Bool.and_eq_true] at o
    obtain ⟨⟨o1, o2⟩, o3⟩ := o
    have C := PySem.W.codeHd_of_K X o2
    refine ⟨?_, Option.isNone_iff_eq_none.mp o3, C⟩
    obtain ⟨d, hd, ed⟩ := List.any_eq_true.mp o1
    have ed : d.name = x := beq_iff_eq.mp ed
    obtain ⟨a, ob, fd, c', P, h1, h2, h3, h4, h5, h6⟩ := T.tab d hd
    unfold codeA at hc
    cases hn : PySem.W.nsIn K mainGlobals x with
    | none => rw [hn] at hc; cases hc
    | some v =>
      rw [hn] at hc
      cases v with
      | none => cases hc
      | some v =>
        cases v with
        | ref f =>
          have hm := PySem.W.mg_of X T.g hn
          rw [ed, hm] at h1
          cases h1
          dsimp only at hc
          cases hl : K.lookup a with
          | none => rw [hl] at hc; cases hc
          | some of =>
            have e2 := X a of hl
            rw [h2] at e2
            cases e2
            rw [hl] at hc
            simp only [Option.map_some] at hc
            rw [h3] at hc
            simp only [h4] at hc
            cases hc
            have C2 := PySem.W.CodeHd.of h5 h6
            obtain ⟨o1, v1, _, _, _, _, _, _, _, g1, _, g2, g3, _⟩ := C
            obtain ⟨o4, v4, _, _, _, _, _, _, _, k1, _, k2, k3, _⟩ := C2
            rw [g1] at k1
            cases k1
            rw [g2] at k2
            cases k2
            rw [g3] at k3
            cases k3
            exact h6.2
        | _ => cases hc
theorem walk {l : PySem.W.OpenLaw} {q : Program} {loose : List Str} {XP : (Str → Option Value) → Heap → Prop} {YP : World → Heap → Prop} {d : DefRec} {K : Params → PySem.W.Frag} {k : Nat} {x : Str} (hn : l.most = some 63) (hdf : d.params.defaults = []) (hr : Room k callerA)
    (hY : ∀ (w : World) (h : Heap), YP w h → (K w.params).In h) (hT : ∀ w : World, tabOk (K w.params) q = true)
    (F : ∀ (w : World) (mg : Str → Option Value) (fa : Addr) (h : Heap), (K w.params).In h → h.Ns mainGlobals mg → mg d.name = some (.ref fa) →
      ∃ fd : FuncData, (∀ (s : Shared) (u : Value), BindsTo s fd ⟨[u], []⟩ [(x, u)]) ∧ ∀ base : Heap, (K w.params).In base → base.Ns mainGlobals mg → (∀ p ∈ tabsK (K w.params), GxR.TabB base mg p.1 p.2) → FnOk l.prog w (K w.params) mg base (L2.CX l.prog w) k fa fd [x] (spLaw (K w.params))) :
    PySem.W.WalkO q loose XP YP l.row.toRowW d [] (fun f vs => PySem.call f vs) := by
  refine Att.attach_callB hn hdf fun w s₀ s₁ mg mb fa o pm cd doc a vs ns G Y ho hd hcd hmg hobj hints hlen hbits hg => ?_
  have KX := hY w _ Y
  obtain ⟨fd, hb, hF⟩ := F w mg fa _ KX G.T.g hmg
  have tt := tabs_start G.T KX (hT w)
  exact LamX.law_callTs (k := k) (cs := tabsK (K w.params)) (sp := spLaw (K w.params)) KX G.T.g G.T.b G.T.builtins G.T.nolimit hg (fun p hp => (tt p hp).1) (fun p hp => (tt p hp).2.1) (fun p hp => (tt p hp).2.2) G.T.bmain hobj hints (Nat.le_trans hlen (by decide)) hr
    (fun base hK hns hTB => hF base hK hns fun p hp => ⟨(hTB p hp).code, (hTB p hp).bm, (hTB p hp).gP⟩) hb (fun H hH hS => ⟨a, ns, rfl, hS, hlen, hbits, hH, fun _ => rfl⟩) fun H e s' ⟨_, _, _, _, _, _, _, _, _, _, _, _, z⟩ => z
end
end Dl

set_option Elab.async false
set_option linter.all false
set_option maxRecDepth 100000
set_option maxHeartbeats 1000000
/-! The data level: lists and dicts that change: held by a name alone, or in the store. -/
namespace Dl
open PySem PySem.Spec PyProof.Rows L2
noncomputable section

/-! ### handles: where a list or dict that is read or written comes from -/
inductive Hd where
  | dat (d : D) | slot (i : Nat)
def rlH (K : PySem.W.Frag) (σ : L2.St) : Gh → Hp → V → Hd → Prop := fun G _ v h => match h with
  | .dat d => Rep K G.F G.rho v d
  | .slot i => σ[i]? = some (some v)
structure DH (X : Cx) (W : WX) (e : Expr) (m : M Hd) : Prop where
  pe : PE X e (fun σ H Q => tM X.K X.ev W (rlH X.K σ) m σ H Q)
def hV (i : Nat) : M Hd := fun en so => match en[i]? with
  | some (some _) => .ok (.slot i) en so
  | _ => .no
def hD (m : M D) : M Hd := bd m fun d => pu (.dat d)
/-- what data holds -/
def rdD : D → M C
  | .lst xs => pu (.lst xs)
  | .dct kv => pu (.dct kv)
  | .obj k => fun en so => match so[k]? with
    | some (.cel c) => .ok c en so
    | _ => .no
  | _ => no
def rdH : Hd → M C
  | .dat d => rdD d
  | .slot i => fun en so => match en[i]? with
    | some (some (.cel c)) => .ok c en so
    | some (some (.dat d)) => rdD d en so
    | _ => .no
def CAt (K : PySem.W.Frag) (G : Gh) (H : Hp) (v : V) : C → Prop
  | .lst ds => ∃ a vs, v = .ref a ∧ SqL K H a vs ∧ Reps K G.F G.rho vs ds
  | .dct kds => ∃ a kvs, v = .ref a ∧ Rd H a (.dK kvs) ∧ RepK K G.F G.rho kvs kds
/-- how an object tells a cell's content -/
def CRo (K : PySem.W.Frag) (G : Gh) (u : HO) : C → Prop
  | .lst ds => ∃ vs, u = .lst vs ∧ Reps K G.F G.rho vs ds
  | .dct kds => ∃ kvs, u = .dK kvs ∧ RepK K G.F G.rho kvs kds
section
variable {K : PySem.W.Frag} {mg : Ev} {G : Gh} {en : En} {so : So} {σ : L2.St} {H : Hp} {W : WX} {A1 A' : Type}
theorem CR.ro {a : Addr} {c : C} (h : CR K G H a c) : ∃ u, H a = some u ∧ CRo K G u c := by
  cases c with
  | lst ds => obtain ⟨vs, e, r⟩ := h; exact ⟨_, e, vs, rfl, r⟩
  | dct ds => obtain ⟨vs, e, r⟩ := h; exact ⟨_, e, vs, rfl, r⟩
theorem CRo.cr {a : Addr} {u : HO} {c : C} (e : H a = some u) (h : CRo K G u c) : CR K G H a c := by
  cases c with
  | lst ds => obtain ⟨vs, rfl, r⟩ := h; exact ⟨_, e, r⟩
  | dct ds => obtain ⟨vs, rfl, r⟩ := h; exact ⟨_, e, r⟩
theorem CR.cat {a : Addr} {c : C} (h : CR K G H a c) : CAt K G H (.ref a) c := by
  cases c with
  | lst ds => obtain ⟨vs, e, r⟩ := h; exact ⟨a, vs, rfl, SqL.of e, r⟩
  | dct ds => obtain ⟨vs, e, r⟩ := h; exact ⟨a, vs, rfl, .inl e, r⟩
theorem rlH.up {G' : Gh} {v : V} {h : Hd} (r : rlH K σ G H v h) (l : G.le G') {H' : Hp} : rlH K σ G' H' v h := by
  cases h with
  | dat d => exact Rep.up r l
  | slot i => exact r
theorem rdD_at {v : V} {d : D} {c : C} {en' : En} {so' : So} (s : Sim K mg G en so σ H) (r : Rep K G.F G.rho v d) (e : rdD d en so = .ok c en' so') : en' = en ∧ so' = so ∧ CAt K G H v c := by
  cases r with
  | lst h r => cases e; exact ⟨rfl, rfl, _, _, rfl, s.toSimO.rep.seq h, r⟩
  | dct h r => cases e; exact ⟨rfl, rfl, _, _, rfl, same_rd s.toSimO.rep h, r⟩
  | @obj k a dx h =>
    have e : (match so[k]? with | some (.cel c) => .ok c en so | _ => .no : Re C) = .ok c en' so' := e
    cases h1 : so[k]? with
    | none => rw [h1] at e; cases e
    | some o =>
      rw [h1] at e
      cases o with
      | cel c1 =>
        cases e
        exact ⟨rfl, rfl, (s.ob k _ a dx h1 h).2.cat⟩
      | _ => cases e
  | _ => cases e
theorem rdH_at {v : V} {h : Hd} {c : C} {en' : En} {so' : So} (s : Sim K mg G en so σ H) (r : rlH K σ G H v h) (e : rdH h en so = .ok c en' so') : en' = en ∧ so' = so ∧ CAt K G H v c := by
  cases h with
  | dat d => exact rdD_at s r e
  | slot i =>
    have r : σ[i]? = some (some v) := r
    have e : (match en[i]? with | some (some (.cel c)) => .ok c en so | some (some (.dat d)) => rdD d en so | _ => .no : Re C) = .ok c en' so' := e
    cases h1 : en[i]? with
    | none => rw [h1] at e; cases e
    | some o =>
      cases o with
      | none => rw [h1] at e; cases e
      | some b =>
        obtain ⟨v', e1, rb⟩ := s.sl i b h1
        rw [r] at e1
        cases e1
        rw [h1] at e
        cases b with
        | cel c1 =>
          cases e
          obtain ⟨a, rfl, w, cr⟩ := rb
          exact ⟨rfl, rfl, cr.cat⟩
        | dat d => exact rdD_at s rb e
        | exn _ => cases e
theorem rdH_post {v : V} {h : Hd} {Rl : Gh → Hp → A' → A1 → Prop} {k : C → M A1} {Q : A' → Hp → Prop} (s : Sim K mg G en so σ H) (r : rlH K σ G H v h) (p : Post K mg G W Rl σ (bd (rdH h) k en so) Q) : ∃ c, rdH h en so = .ok c en so ∧ CAt K G H v c ∧ Post K mg G W Rl σ (k c en so) Q := by
  unfold bd at p
  cases e : rdH h en so with
  | no => rw [e] at p; exact p.elim
  | exc x en' so' =>
    exfalso
    have key : ∀ d : D, rdD d en so ≠ .exc x en' so' := fun d z => by
      cases d with
      | obj k =>
        have z : (match so[k]? with | some (.cel c) => .ok c en so | _ => .no : Re C) = .exc x en' so' := z
        split at z <;> cases z
      | _ => cases z
    cases h with
    | dat d => exact key d e
    | slot i =>
      have e : (match en[i]? with | some (some (.cel c)) => .ok c en so | some (some (.dat d)) => rdD d en so | _ => .no : Re C) = .exc x en' so' := e
      split at e
      · cases e
      · exact key _ e
      · cases e
  | ok c en' so' =>
    obtain ⟨rfl, rfl, q⟩ := rdH_at s r e
    rw [e] at p
    exact ⟨c, rfl, q, p⟩

/-! ### a cell is written -/
/-- a thing of one owner is written: the others' stand -/
theorem SimO.wr {a : Addr} {u : HO} {t : Tag} (s : SimO K mg G so H) (w : G.own a = t) (ht : t ≠ .frz ∧ t ≠ .rest ∧ t ≠ .lk) (k0 : Nat → Prop) (ho : ∀ k, ¬ k0 k → t ≠ .ob k ∧ t ≠ .dc k) {so' : So} (hl : so'.length = so.length)
    (hk : ∀ k o b dx, so'[k]? = some o → G.rho[k]? = some (b, dx) → (¬ k0 k ∧ so[k]? = some o) ∨ ObR K mg G (upd H a u) k b dx o) : SimO K mg G so' (upd H a u) := by
  refine ⟨fun b o e => ?_, fun b o e => ?_, hl.trans s.len, fun k o b dx e1 e2 => ?_, fun b o e => ?_, s.tb⟩
  · obtain ⟨h1, h2⟩ := s.fr b o e
    have : b ≠ a := fun z => ht.1 (by rw [← w, ← z]; exact h2)
    exact ⟨by rw [upd_ne this]; exact h1, h2⟩
  · obtain ⟨h1, h2⟩ := s.re b o e
    have : b ≠ a := fun z => ht.2.1 (by rw [← w, ← z]; exact h2)
    exact ⟨by rw [upd_ne this]; exact h1, h2⟩
  · rcases hk k o b dx e1 e2 with ⟨hn, e3⟩ | h
    · refine (s.ob k o b dx e3 e2).keep (Same.refl _) (fun _ _ h => h) fun c v h1 h2 => ?_
      have : c ≠ a := fun z => by
        rw [z, w] at h2
        exact h2.elim (ho k hn).1 (ho k hn).2
      exact ⟨by rw [upd_ne this]; exact h1, rfl⟩
    · exact h
  · obtain ⟨h1, h2⟩ := s.lk b o e
    have : b ≠ a := fun z => ht.2.2 (by rw [← w, ← z]; exact h2)
    exact ⟨by rw [upd_ne this]; exact h1, h2⟩
theorem CRo.crU {a : Addr} {u : HO} {c : C} (h : CRo K G u c) : CR K G (upd H a u) a c := h.cr upd_same
theorem Sim.wrS {i : Nat} {a : Addr} {u : HO} {c : C} (s : Sim K mg G en so σ H) (e : σ[i]? = some (some (.ref a))) (w : G.own a = .slot i) (r : CRo K G u c) : Sim K mg G (en.set i (some (.cel c))) so σ (upd H a u) := by
  refine ⟨s.toSimO.wr w ⟨(by intro z; cases z), (by intro z; cases z), (by intro z; cases z)⟩ (fun _ => False) (fun k _ => ⟨(by intro z; cases z), (by intro z; cases z)⟩) rfl fun k o b dx e1 e2 => .inl ⟨id, e1⟩, by rw [List.length_set]; exact s.ln, fun j b ej => ?_⟩
  by_cases hj : i = j
  · subst hj
    by_cases hl : i < en.length
    · rw [List.getElem?_set_self hl] at ej
      cases ej
      exact ⟨_, e, a, rfl, w, r.crU⟩
    · rw [List.getElem?_eq_none (by rw [List.length_set]; omega)] at ej
      cases ej
  · rw [List.getElem?_set_ne hj] at ej
    obtain ⟨v, e1, rb⟩ := s.sl j b ej
    refine ⟨v, e1, rb.keep (Same.refl _) (fun _ _ h => h) fun b' o h1 h2 => ⟨?_, h2⟩⟩
    have : b' ≠ a := fun z => by rw [z, w] at h2; cases h2; exact hj rfl
    rw [upd_ne this]; exact h1
theorem Sim.wrO {k : Nat} {a dx : Addr} {u : HO} {c c0 : C} (s : Sim K mg G en so σ H) (e : so[k]? = some (.cel c0)) (er : G.rho[k]? = some (a, dx)) (w : G.own a = .ob k) (r : CRo K G u c) : Sim K mg G en (so.set k (.cel c)) σ (upd H a u) := by
  refine ⟨s.toSimO.wr w ⟨(by intro z; cases z), (by intro z; cases z), (by intro z; cases z)⟩ (fun j => j = k) (fun j hj => ⟨(by intro z; cases z; exact hj rfl), (by intro z; cases z)⟩) (List.length_set ..) fun j o b dy e1 e2 => ?_, s.ln, fun j b ej => ?_⟩
  · by_cases hj : k = j
    · subst hj
      rw [List.getElem?_set_self (by have := List.getElem?_eq_some_iff.mp e; exact this.1)] at e1
      cases e1
      rw [er] at e2
      cases e2
      exact .inr ⟨w, r.crU⟩
    · rw [List.getElem?_set_ne hj] at e1
      exact .inl ⟨fun z => hj z.symm, e1⟩
  · obtain ⟨v, e1, rb⟩ := s.sl j b ej
    refine ⟨v, e1, rb.keep (Same.refl _) (fun _ _ h => h) fun b' o h1 h2 => ⟨?_, h2⟩⟩
    have : b' ≠ a := fun z => by rw [z, w] at h2; cases h2
    rw [upd_ne this]; exact h1
def wrtO {A : Type} (k : Nat) (f : C → Option (A × C)) : M A := fun en so => match so[k]? with
  | some (.cel c) => (match f c with
    | some (a, c') => .ok a en (so.set k (.cel c'))
    | none => .no)
  | _ => .no
def wrtD {A : Type} (d : D) (f : C → Option (A × C)) : M A := match d with
  | .obj k => wrtO k f
  | _ => no
/-- what stands at a handle is written: f -/
def wrtH {A : Type} (h : Hd) (f : C → Option (A × C)) : M A := match h with
  | .dat d => wrtD d f
  | .slot i => fun en so => match en[i]? with
    | some (some (.cel c)) => (match f c with
      | some (a, c') => .ok a (en.set i (some (.cel c'))) so
      | none => .no)
    | some (some (.dat d)) => wrtD d f en so
    | _ => .no
theorem wrtD_at {v : V} {d : D} {f : C → Option (A1 × C)} {Rl : Gh → Hp → A' → A1 → Prop} {Q : A' → Hp → Prop} (s : Sim K mg G en so σ H) (r : Rep K G.F G.rho v d) (p : Post K mg G W Rl σ (wrtD d f en so) Q) :
    ∃ a u c x c', v = .ref a ∧ H a = some u ∧ CRo K G u c ∧ f c = some (x, c') ∧ ∀ u', CRo K G u' c' → ∃ en' so', Sim K mg G en' so' σ (upd H a u') ∧ Post K mg G W Rl σ (.ok x en' so') Q := by
  cases r with
  | @obj k a dx h =>
    have p : Post K mg G W Rl σ (wrtO k f en so) Q := p
    unfold wrtO at p
    cases h1 : so[k]? with
    | none => rw [h1] at p; exact p.elim
    | some o =>
      rw [h1] at p
      cases o with
      | cel c =>
        dsimp only at p
        cases h2 : f c with
        | none => rw [h2] at p; exact p.elim
        | some xc =>
          obtain ⟨x, c'⟩ := xc
          rw [h2] at p
          obtain ⟨w, cr⟩ := s.ob k _ a dx h1 h
          obtain ⟨u, hu, ro⟩ := CR.ro cr
          exact ⟨a, u, c, x, c', rfl, hu, ro, h2, fun u' ru => ⟨en, _, s.wrO h1 h w ru, p⟩⟩
      | _ => exact p.elim
  | _ => exact p.elim
theorem wrtH_at {v : V} {h : Hd} {f : C → Option (A1 × C)} {Rl : Gh → Hp → A' → A1 → Prop} {Q : A' → Hp → Prop} (s : Sim K mg G en so σ H) (r : rlH K σ G H v h) (p : Post K mg G W Rl σ (wrtH h f en so) Q) :
    ∃ a u c x c', v = .ref a ∧ H a = some u ∧ CRo K G u c ∧ f c = some (x, c') ∧ ∀ u', CRo K G u' c' → ∃ en' so', Sim K mg G en' so' σ (upd H a u') ∧ Post K mg G W Rl σ (.ok x en' so') Q := by
  cases h with
  | dat d => exact wrtD_at s r p
  | slot i =>
    have r : σ[i]? = some (some v) := r
    unfold wrtH at p
    dsimp only at p
    cases h1 : en[i]? with
    | none => rw [h1] at p; exact p.elim
    | some o =>
      cases o with
      | none => rw [h1] at p; exact p.elim
      | some b =>
        obtain ⟨v', e1, rb⟩ := s.sl i b h1
        rw [r] at e1
        cases e1
        rw [h1] at p
        cases b with
        | cel c =>
          dsimp only at p
          cases h2 : f c with
          | none => rw [h2] at p; exact p.elim
          | some xc =>
            obtain ⟨x, c'⟩ := xc
            rw [h2] at p
            obtain ⟨a, rfl, w, cr⟩ := rb
            obtain ⟨u, hu, ro⟩ := CR.ro cr
            exact ⟨a, u, c, x, c', rfl, hu, ro, h2, fun u' ru => ⟨_, so, s.wrS r w ru, p⟩⟩
        | dat d => exact wrtD_at s rb p
        | exn _ => exact p.elim
end
section
variable {X : Cx} {W : WX} {a b e e1 : Expr} {mh : M Hd} {m m1 : M D} {pos apos : Pos}
theorem h_dat (h : DE X W e m) : DH X W e (hD m) := by
  refine ⟨PE_imp h.pe fun σ H Q ⟨G, en, so, s, p⟩ => ⟨G, en, so, s, (Post.bind (R1 := rlD X.K) p).imp fun v H1 ⟨G1, en1, so1, d, l, r1, s1, p1⟩ => p1.ok s1 r1⟩⟩
theorem h_var (i : Nat) {x : Str} {pos : Pos} (hN : X.N[i]? = some x := by rfl) (hv : Vis X.env.scope x := by first | exact Or.inl rfl | exact Or.inr (Or.inl rfl) | exact Or.inr (Or.inr rfl)) (hd : (x == ("__debug__" : Str)) = false := by decide)
    (hcd : (x == ("__classdict__" : Str)) = false := by decide) : DH X W (.Name x pos) (hV i) := by
  refine ⟨PE_imp (pe_var hN hv hd hcd) fun σ H Q ⟨G, en, so, s, p⟩ => ?_⟩
  unfold hV at p
  split at p
  · rename_i b e
    obtain ⟨v, e1, r⟩ := s.sl i _ e
    exact ⟨v, e1, p.ok s e1⟩
  · exact p.elim

/-! ### methods of lists that change them -/
def isLst : C → Bool
  | .lst _ => true
  | _ => false
/-- o.name(): f on what stands there -/
def mHM0 (f : C → Option (D × C)) (mh : M Hd) : M D := bd mh fun h => bd (rdH h) fun c => gd (isLst c = true) (wrtH h f)
def mHM1 (f : C → D → Option (D × C)) (mh : M Hd) (m : M D) : M D := bd mh fun h => bd (rdH h) fun c => gd (isLst c = true) (bd m fun d => wrtH h fun c => f c d)
def OpW0 (K : PySem.W.Frag) (r : V → List V → Hp → VK → Prop) (f : C → Option (D × C)) : Prop := ∀ (G : Gh) (H : Hp) (a : Addr) (u : HO) (c c' : C) (x : D) (Q : VK), H a = some u → CRo K G u c → f c = some (x, c') → (∀ v u', CRo K G u' c' → Rep K G.F G.rho v x → Q v (upd H a u')) → r (.ref a) [] H Q
def OpW1 (K : PySem.W.Frag) (r : V → List V → Hp → VK → Prop) (f : C → D → Option (D × C)) : Prop := ∀ (G : Gh) (H : Hp) (a : Addr) (u : HO) (c c' : C) (x d : D) (y : V) (Q : VK), H a = some u → CRo K G u c → Rep K G.F G.rho y d → f c d = some (x, c') → (∀ v u', CRo K G u' c' → Rep K G.F G.rho v x → Q v (upd H a u')) → r (.ref a) [y] H Q
theorem ty_lst {G : Gh} {H : Hp} {v : V} {c : C} (h : CAt X.K G H v c) (hl : isLst c = true) : tyV X.K "list" v H := by
  cases c with
  | lst ds => obtain ⟨a, vs, rfl, sq, _⟩ := h; exact .inl ⟨rfl, vs, sq⟩
  | dct _ => cases hl
theorem d_hm0 {f : C → Option (D × C)} {id : String} {name : Str} {r : V → List V → Hp → VK → Prop} (slot : Slot "list" name id) (hty : typeOf (.builtin id) = pure (.type "method_descriptor")) (hm : MtR X id r) (h : OpW0 X.K r f) (ho : DH X W e mh)
    (hbase : attributeBase e name X.env (eval e X.env) = eval e X.env := by rfl) (hline : (apos.endLine == pos.line) = true := by rfl) : DE X W (.Call (.Attribute e name apos) [] [] pos) (mHM0 f mh) := by
  refine ⟨PE_imp (pe_bm0 F.plainAttrs_list slot hty hm ho.pe hbase hline) fun σ H Q ⟨G, en, so, s, p⟩ => ⟨G, en, so, s, (Post.bind (R1 := rlH X.K σ) p).imp fun v H1 ⟨G1, en1, so1, hd, l, r1, s1, p1⟩ => ?_⟩⟩
  obtain ⟨c, _, ca, p2⟩ := rdH_post s1 r1 p1
  obtain ⟨hl, p3⟩ := Post.gd p2
  refine ⟨ty_lst ca hl, ?_⟩
  obtain ⟨a, u, c0, x, c', rfl, hu, ro, hf, w⟩ := wrtH_at s1 r1 p3
  exact h G1 H1 a u c0 c' x Q hu ro hf fun v u' ru rv => by
    obtain ⟨en', so', s4, p4⟩ := w u' ru
    exact p4.ok s4 rv
theorem d_hm1 {f : C → D → Option (D × C)} {id : String} {name : Str} {r : V → List V → Hp → VK → Prop} (slot : Slot "list" name id) (hty : typeOf (.builtin id) = pure (.type "method_descriptor")) (hm : MtR X id r) (h : OpW1 X.K r f) (ho : DH X W e mh) (ha : DE X W e1 m1)
    (hbase : attributeBase e name X.env (eval e X.env) = eval e X.env := by rfl)
    (hfew : ((backTo pos (starEach (e1 :: []) X.env)).all (fun x => !x.1) && (backToKw pos (keywordEach [] X.env)).all (fun x => x.1.isSome) && decide ((e1 :: []).length + ([] : List Keyword).length + (if ([] : List Keyword).isEmpty then 0 else 1) < 30)) = true := by rfl)
    (hline : (apos.endLine == pos.line) = true := by rfl) (hs : starEach (e1 :: []) X.env = (false, eval e1 X.env) :: starEach [] X.env := by rfl) (hplain : (backTo pos (starEach [] X.env)).any (·.1) = false := by rfl) :
    DE X W (.Call (.Attribute e name apos) [e1] [] pos) (mHM1 f mh m1) := by
  refine ⟨PE_imp (pe_bm F.plainAttrs_list slot hty hm ho.pe (pa_cons ha.pe pa_nil hs) hbase hfew hline hs hplain) fun σ H Q ⟨G, en, so, s, p⟩ => ⟨G, en, so, s, (Post.bind (R1 := rlH X.K σ) p).imp fun v H1 ⟨G1, en1, so1, hd, l, r1, s1, p1⟩ => ?_⟩⟩
  obtain ⟨c, _, ca, p2⟩ := rdH_post s1 r1 p1
  obtain ⟨hl, p3⟩ := Post.gd p2
  refine ⟨ty_lst ca hl, G1, en1, so1, s1, (Post.bind (R1 := rlD X.K) p3).imp fun y H2 ⟨G2, en2, so2, d, l2, r2, s2, p4⟩ => ?_⟩
  obtain ⟨a, u, c0, x, c', rfl, hu, ro, hf, w⟩ := wrtH_at s2 (r1.up l2) p4
  exact h G2 H2 a u c0 c' x d y Q hu ro r2 hf fun v u' ru rv => by
    obtain ⟨en', so', s4, p4⟩ := w u' ru
    exact p4.ok s4 rv
end

/-! ### what the methods do -/
def apF : C → D → Option (D × C)
  | .lst xs, d => if xs.length < 16777216 then some (.non, .lst (xs ++ [d])) else none
  | _, _ => none
def popF : C → Option (D × C)
  | .lst xs => match xs[xs.length - 1]? with
    | some d => some (d, .lst xs.dropLast)
    | none => none
  | _ => none
def popAtF : C → D → Option (D × C)
  | .lst xs, .int i => if xs.length ≤ 16777216 then (match ixN xs.length i with
    | some k => (match xs[k]? with
      | some d => some (d, .lst (xs.eraseIdx k))
      | none => none)
    | none => none) else none
  | _, _ => none
def revF : C → Option (D × C)
  | .lst xs => some (.non, .lst xs.reverse)
  | _ => none
def clrF : C → Option (D × C)
  | .lst _ => some (.non, .lst [])
  | _ => none
section
variable {K : PySem.W.Frag} {F : Hp} {rho : List (Addr × Addr)}
theorem reps_app' : ∀ {vs ws : List V} {ds es : List D}, Reps K F rho vs ds → Reps K F rho ws es → Reps K F rho (vs ++ ws) (ds ++ es)
  | _, _, _, _, .nil, r => r
  | _, _, _, _, .cons h q, r => .cons h (reps_app' q r)
theorem reps_rev : ∀ {vs : List V} {ds : List D}, Reps K F rho vs ds → Reps K F rho vs.reverse ds.reverse
  | _, _, .nil => .nil
  | _, _, .cons h q => by
    rw [List.reverse_cons, List.reverse_cons]
    exact reps_app' (reps_rev q) (.cons h .nil)
theorem reps_dropLast : ∀ {vs : List V} {ds : List D}, Reps K F rho vs ds → Reps K F rho vs.dropLast ds.dropLast
  | _, _, .nil => .nil
  | _, _, .cons h .nil => .nil
  | _, _, .cons h (.cons h2 q) => .cons h (reps_dropLast (.cons h2 q))
theorem reps_erase : ∀ {vs : List V} {ds : List D} (i : Nat), Reps K F rho vs ds → Reps K F rho (vs.eraseIdx i) (ds.eraseIdx i)
  | _, _, _, .nil => .nil
  | _, _, 0, .cons _ q => q
  | _, _, i + 1, .cons h q => .cons h (reps_erase i q)
theorem reps_set : ∀ {vs : List V} {ds : List D} (i : Nat) {v : V} {d : D}, Reps K F rho vs ds → Rep K F rho v d → Reps K F rho (vs.set i v) (ds.set i d)
  | _, _, _, _, _, .nil, _ => .nil
  | _, _, 0, _, _, .cons _ q, r => .cons r q
  | _, _, i + 1, _, _, .cons h q, r => .cons h (reps_set i q r)
theorem ow_append : OpW1 K rAppend apF := by
  intro G H a u c c' x d y Q hu ro ry hf q
  cases c with
  | lst ds =>
    obtain ⟨vs, rfl, r⟩ := ro
    have hf : (if ds.length < 16777216 then some (D.non, C.lst (ds ++ [d])) else none) = some (x, c') := hf
    split at hf
    · rename_i hl
      cases hf
      exact ⟨a, vs, y, rfl, rfl, hu, by rw [r.len, sizeLine_eq]; exact hl, q _ _ ⟨_, rfl, reps_app' r (.cons ry .nil)⟩ .non⟩
    · cases hf
  | dct _ => cases hf
theorem ow_pop : OpW0 K rPop popF := by
  intro G H a u c c' x Q hu ro hf q
  cases c with
  | lst ds =>
    obtain ⟨vs, rfl, r⟩ := ro
    have hf : (match ds[ds.length - 1]? with | some d => some (d, C.lst ds.dropLast) | none => none) = some (x, c') := hf
    cases e : ds[ds.length - 1]? with
    | none => rw [e] at hf; cases hf
    | some d =>
      rw [e] at hf
      cases hf
      obtain ⟨v, e1, r1⟩ := reps_at r e
      exact ⟨a, vs, v, rfl, rfl, hu, by rw [r.len]; exact e1, q _ _ ⟨_, rfl, reps_dropLast r⟩ r1⟩
  | dct _ => cases hf
theorem ow_popAt : OpW1 K rPopAt popAtF := by
  intro G H a u c c' x d y Q hu ro ry hf q
  cases c with
  | lst ds =>
    cases ry with
    | int i =>
      obtain ⟨vs, rfl, r⟩ := ro
      have hf : (if ds.length ≤ 16777216 then (match ixN ds.length i with | some k => (match ds[k]? with | some d => some (d, C.lst (ds.eraseIdx k)) | none => none) | none => none) else none) = some (x, c') := hf
      split at hf
      · rename_i hl
        cases e : ixN ds.length i with
        | none => rw [e] at hf; cases hf
        | some k =>
          rw [e] at hf
          dsimp only at hf
          cases e2 : ds[k]? with
          | none => rw [e2] at hf; cases hf
          | some d =>
            rw [e2] at hf
            cases hf
            obtain ⟨v, e1, r1⟩ := reps_at r e2
            obtain ⟨h1, h2, h3, h4⟩ := ixN_seq e
            exact ⟨a, vs, i, k, v, rfl, rfl, hu, by omega, by omega, by rw [r.len]; exact h1, e1, q _ _ ⟨_, rfl, reps_erase k r⟩ r1⟩
      · cases hf
    | _ => cases hf
  | dct _ => cases hf
theorem ow_reverse : OpW0 K rReverse revF := by
  intro G H a u c c' x Q hu ro hf q
  cases c with
  | lst ds =>
    obtain ⟨vs, rfl, r⟩ := ro
    cases hf
    exact ⟨a, vs, rfl, rfl, hu, q _ _ ⟨_, rfl, reps_rev r⟩ .non⟩
  | dct _ => cases hf
theorem ow_clear : OpW0 K rClear clrF := by
  intro G H a u c c' x Q hu ro hf q
  cases c with
  | lst ds =>
    obtain ⟨vs, rfl, r⟩ := ro
    cases hf
    exact ⟨a, vs, rfl, rfl, hu, q _ _ ⟨_, rfl, .nil⟩ .non⟩
  | dct _ => cases hf
end

/-! ### stores by place -/
def stF : C → D → D → Option (Unit × C)
  | .lst xs, .int i, d => match ixN xs.length i with
    | some j => some ((), .lst (xs.set j d))
    | none => none
  | _, _, _ => none
/-- x[i] = v of a list -/
def sStL (mh : M Hd) (mi mv : M D) : M Fl := bd mv fun v => bd mh fun h => bd mi fun i => bd (wrtH h fun c => stF c i v) fun _ => pu .nx
/-- what a list or dict has at a place -/
def ixC : C → D → M D
  | .lst xs, .int i => match atI xs i with
    | some d => pu d
    | none => no
  | _, _ => no
def mIxH (mh : M Hd) (mi : M D) : M D := bd mh fun h => bd mi fun i => bd (rdH h) fun c => ixC c i
def lenC : C → M D
  | .lst xs => pu (.int xs.length)
  | _ => no
def mLenH (mh : M Hd) : M D := bd mh fun h => bd (rdH h) lenC
def truC : C → M Bool
  | .lst xs => pu (!xs.isEmpty)
  | _ => no
def mTruH (mh : M Hd) : M Bool := bd mh fun h => bd (rdH h) truC
/-- x in h -/
def inC (d : D) (neg : Bool) : C → M D
  | .lst xs => gd (okq 23 d = true ∧ xs.all (okq 23) = true) (pu (.bl (if neg then !xs.any (fun z => eqD z d) else xs.any fun z => eqD z d)))
  | _ => no
def mInH (neg : Bool) (m : M D) (mh : M Hd) : M D := bd m fun d => bd mh fun h => bd (rdH h) (inC d neg)
/-- a name whose list or dict changes no more from here on -/
def mVF (i : Nat) : M D := fun en so => match en[i]? with
  | some (some (.dat d)) => .ok d en so
  | some (some (.cel c)) => .ok c.toD (en.set i (some (.dat c.toD))) so
  | _ => .no
section
variable {X : Cx} {W : WX} {a b e e1 : Expr} {mh : M Hd} {m m1 mi mv : M D} {pos pos' apos p p2 : Pos} {x : Str}
theorem s_stL (hv : DE X W e mv) (ho : DH X W a mh) (hi : DE X W b mi) (hs : swapsWithSole [.Subscript a b p] e pos.line X.env = pure false := by rfl) (hw : swappedStores [.Subscript a b p] e X.env = pure none := by rfl) (h1 : (assignEach [.Subscript a b p] X.env).map (·.2) = [assign (.Subscript a b p) X.env] := by rfl)
    (ha : ∀ v, assign (.Subscript a b p) X.env v = (do
      let ov ← holding [v] (eval a X.env)
      let iv ← holding [v, ov] (eval b X.env)
      standAt p
      holding [v, ov, iv] (setItem ov iv v)
      release [v, ov, iv] []) := by intro _; rfl) : DS X W (.Assign [.Subscript a b p] e pos) (sStL mh mi mv) := by
  refine ⟨PS_imp (ps_asg hv.pe (pg_sub ho.pe hi.pe set_list ha) hs hw h1) fun E σ H ⟨G, en, so, s, p⟩ => ?_⟩
  refine ⟨G, en, so, s, (SPost.bind (R1 := rlD X.K) p).imp fun v H1 ⟨G1, en1, so1, dv, l1, r1, s1, p1⟩ => ?_⟩
  refine ⟨G1, en1, so1, s1, (SPost.bind (R1 := rlH X.K σ) p1).imp fun o H2 ⟨G2, en2, so2, hd, l2, r2, s2, p2⟩ => ?_⟩
  refine ⟨G2, en2, so2, s2, (SPost.bind (R1 := rlD X.K) p2).imp fun i H3 ⟨G3, en3, so3, di, l3, r3, s3, p3⟩ => ?_⟩
  have p4 := SPost.bind (R1 := fun _ _ (_ : Unit) _ => True) (σ := σ) p3
  obtain ⟨a0, u, c0, z, c', rfl, hu, ro, hf, w⟩ := wrtH_at s3 (r2.up l3) p4
  cases c0 with
  | dct _ => cases hf
  | lst ds =>
    cases r3 with
    | int k =>
      obtain ⟨vs, rfl, r⟩ := ro
      have hf : (match ixN ds.length k with | some j => some ((), C.lst (ds.set j dv)) | none => none) = some (z, c') := hf
      cases e2 : ixN ds.length k with
      | none => rw [e2] at hf; cases hf
      | some j =>
        rw [e2] at hf
        cases hf
        refine ⟨a0, vs, k, j, rfl, rfl, hu, by rw [r.len]; exact e2, ?_⟩
        obtain ⟨en', so', s5, p5⟩ := w (.lst (vs.set j v)) ⟨_, rfl, reps_set j r (Rep.up r1 (l2.trans l3))⟩
        obtain ⟨G6, en6, so6, _, l6, _, s6, p6⟩ := p5.ok (v := ()) s5 True.intro
        exact p6 σ _ G6 (.refl _) s6
    | _ => cases hf
theorem d_ixH (ho : DH X W a mh) (hi : DE X W b mi) (hs : PlainIx b := by intro _ _; rfl) : DE X W (.Subscript a b pos) (mIxH mh mi) := by
  refine ⟨PE_imp (pe_ix ix_seq ho.pe hi.pe hs) fun σ H Q ⟨G, en, so, s, p⟩ => ?_⟩
  refine ⟨G, en, so, s, (Post.bind (R1 := rlH X.K σ) p).imp fun v H1 ⟨G1, en1, so1, hd, l, r1, s1, p1⟩ => ⟨G1, en1, so1, s1, (Post.bind (R1 := rlD X.K) p1).imp fun y H2 ⟨G2, en2, so2, d, l2, r2, s2, p2⟩ => ?_⟩⟩
  obtain ⟨c, _, ca, p3⟩ := rdH_post s2 (r1.up l2) p2
  cases c with
  | dct _ => cases r2 <;> exact False.elim p3
  | lst ds =>
    cases r2 with
    | int i =>
      obtain ⟨a0, vs, rfl, sq, r⟩ := ca
      have p3 : Post X.K X.ev G2 W (rlD X.K) σ ((match atI ds i with | some d => (pu d : M D) | none => no) en2 so2) Q := p3
      cases q : atI ds i with
      | none => rw [q] at p3; exact False.elim p3
      | some d =>
        rw [q] at p3
        obtain ⟨v, h1, h2⟩ := reps_atI r q
        exact .inl ⟨_, _, i, v, rfl, rfl, sq, h1, p3.ok s2 h2⟩
    | _ => exact False.elim p3
theorem d_lenH (hg : Gl X "len") (hm : X.mg "len" = none) (ho : DH X W a mh) (he : starEach (a :: []) X.env = (false, eval a X.env) :: starEach [] X.env := by rfl) (hpl : (backTo pos (starEach [] X.env)).any (·.1) = false := by rfl) : DE X W (.Call (.Name "len" p) [a] [] pos) (mLenH mh) := by
  refine ⟨PE_imp (pe_callB call_len hg hm (by decide +kernel) (pa_cons ho.pe pa_nil he) (by decide) (by decide) he hpl) fun σ H Q ⟨G, en, so, s, p⟩ => ?_⟩
  refine ⟨G, en, so, s, (Post.bind (R1 := rlH X.K σ) p).imp fun v H1 ⟨G1, en1, so1, hd, l, r1, s1, p1⟩ => ?_⟩
  obtain ⟨c, _, ca, p3⟩ := rdH_post s1 r1 p1
  cases c with
  | dct _ => exact False.elim p3
  | lst ds =>
    obtain ⟨a0, vs, rfl, sq, r⟩ := ca
    exact ⟨_, _, rfl, .inl ⟨_, sq, rfl⟩, by rw [r.len]; exact p3.ok s1 (.int _)⟩
theorem dt_truH (ho : DH X W a mh) (he : ∀ whole, isTrue a X.env whole = (do let v ← whole; standAt a.pos; holding [v] (truthy v)) := by intro _; rfl) : DT X W a (mTruH mh) := by
  refine ⟨PT_imp (pt_truth ho.pe he) fun σ H Q ⟨G, en, so, s, p⟩ => ?_⟩
  refine ⟨G, en, so, s, (Post.bind (R1 := rlH X.K σ) p).imp fun v H1 ⟨G1, en1, so1, hd, l, r1, s1, p1⟩ => ?_⟩
  obtain ⟨c, _, ca, p3⟩ := rdH_post s1 r1 p1
  cases c with
  | dct _ => exact False.elim p3
  | lst ds =>
    obtain ⟨a0, vs, rfl, sq, r⟩ := ca
    exact ⟨_, .inl ⟨_, sq, rfl⟩, p3.ok s1 (by rw [r.isEmpty])⟩
theorem inH_tr {neg : Bool} {σ : L2.St} {H : Hp} {Q : VK} (q : tM X.K X.ev W (rlD X.K) (mInH neg m mh) σ H Q) : tOp (rInG X.K neg) (tM X.K X.ev W (rlD X.K) m) (fun σ H Q => tM X.K X.ev W (rlH X.K σ) mh σ H Q) σ H Q := by
  obtain ⟨G, en, so, s, p⟩ := q
  refine ⟨G, en, so, s, (Post.bind (R1 := rlD X.K) p).imp fun v H1 ⟨G1, en1, so1, d, l, r1, s1, p1⟩ => ⟨G1, en1, so1, s1, (Post.bind (R1 := rlH X.K σ) p1).imp fun y H2 ⟨G2, en2, so2, hd, l2, r2, s2, p2⟩ => ?_⟩⟩
  obtain ⟨c, _, ca, p3⟩ := rdH_post s2 r2 p2
  cases c with
  | dct _ => exact False.elim p3
  | lst ds =>
    obtain ⟨a0, vs, rfl, sq, r⟩ := ca
    obtain ⟨⟨h1, h2⟩, p4⟩ := Post.gd p3
    exact ⟨H2, G2.rho, d, _, _, _, Same.refl _, (Rep.up r1 l2).mono s2.toSimO.rep (fun _ _ h => h), rfl, .inl sq, r.mono s2.toSimO.rep (fun _ _ h => h), h1, h2, p4.ok s2 (.bl _)⟩
theorem d_inH (hu : X.A.units + 64 < cLine) (ha : DE X W e m) (ho : DH X W a mh) (hm : behindInMarks .In a = false := by with_unfolding_all rfl) : DE X W (.Compare e [.In] [a] pos) (mInH false m mh) :=
  ⟨PE_imp (pe_cmpR (op_inA hu) ha.pe ho.pe hm) fun _ _ _ q => by
    obtain ⟨G, en, so, s, p⟩ := inH_tr q
    exact ⟨G, en, so, s, p.imp fun v H1 ⟨G1, en1, so1, s1, p1⟩ => ⟨G1, en1, so1, s1, p1.imp fun y H2 h => .inr h⟩⟩⟩
theorem d_niH (hu : X.A.units + 64 < cLine) (ha : DE X W e m) (ho : DH X W a mh) (hm : behindInMarks .NotIn a = false := by with_unfolding_all rfl) : DE X W (.Compare e [.NotIn] [a] pos) (mInH true m mh) :=
  ⟨PE_imp (pe_cmpR (op_niA hu) ha.pe ho.pe hm) fun _ _ _ q => by
    obtain ⟨G, en, so, s, p⟩ := inH_tr q
    exact ⟨G, en, so, s, p.imp fun v H1 ⟨G1, en1, so1, s1, p1⟩ => ⟨G1, en1, so1, s1, p1.imp fun y H2 h => .inr h⟩⟩⟩
theorem d_inHT (hu : X.A.units + 64 < cLine) (ha : DE X W e m) (ho : DH X W a mh) (hm : behindInMarks .In a = false := by with_unfolding_all rfl) : DT X W (.Compare e [.In] [a] pos) (mT (mInH false m mh)) :=
  ⟨PT_imp (pt_cmpR (op_inA hu) ha.pe ho.pe hm) fun _ _ _ q => by
    obtain ⟨G, en, so, s, p⟩ := inH_tr (mT_tr q)
    exact ⟨G, en, so, s, p.imp fun v H1 ⟨G1, en1, so1, s1, p1⟩ => ⟨G1, en1, so1, s1, p1.imp fun y H2 h => .inr h⟩⟩⟩
theorem d_niHT (hu : X.A.units + 64 < cLine) (ha : DE X W e m) (ho : DH X W a mh) (hm : behindInMarks .NotIn a = false := by with_unfolding_all rfl) : DT X W (.Compare e [.NotIn] [a] pos) (mT (mInH true m mh)) :=
  ⟨PT_imp (pt_cmpR (op_niA hu) ha.pe ho.pe hm) fun _ _ _ q => by
    obtain ⟨G, en, so, s, p⟩ := inH_tr (mT_tr q)
    exact ⟨G, en, so, s, p.imp fun v H1 ⟨G1, en1, so1, s1, p1⟩ => ⟨G1, en1, so1, s1, p1.imp fun y H2 h => .inr h⟩⟩⟩
end
section
variable {K : PySem.W.Frag} {mg : Ev} {G : Gh} {en : En} {so : So} {σ : L2.St} {H : Hp}
/-- what a name holds alone is frozen -/
theorem Sim.freezeS {i : Nat} {c : C} {v : V} (s : Sim K mg G en so σ H) (e : en[i]? = some (some (.cel c))) (ev : σ[i]? = some (some v)) : ∃ G', G.le G' ∧ Sim K mg G' (en.set i (some (.dat c.toD))) so σ H ∧ Rep K G'.F G'.rho v c.toD := by
  obtain ⟨v', e1, rb⟩ := s.sl i _ e
  rw [ev] at e1
  cases e1
  obtain ⟨a, rfl, w, cr⟩ := rb
  obtain ⟨u, hu, ro⟩ := CR.ro cr
  have nF : G.F a = none := by
    cases e : G.F a with
    | none => rfl
    | some u =>
      have := (s.fr a u e).2
      rw [w] at this; cases this
  have sF : Same G.F (upd G.F a u) := fun b z e => by rw [upd_ne (ne_of_none e nF)]; exact e
  have l : G.le (G.frzn a u) := ⟨sF, fun _ _ h => h, RLe.refl _, rfl⟩
  have kp : ∀ b t, G.own b = t → t ≠ .slot i → (G.frzn a u).own b = t := fun b t e q => by
    have : b ≠ a := fun z => q (by rw [← e, z]; exact w)
    exact (if_neg this).trans e
  have rep : Rep K (G.frzn a u).F (G.frzn a u).rho (.ref a) c.toD := by
    cases c with
    | lst ds =>
      obtain ⟨vs, rfl, r⟩ := ro
      exact .lst (SqL.of (show (upd G.F a (.lst vs)) a = _ from upd_same)) (r.mono l.F l.rho)
    | dct ds =>
      obtain ⟨vs, rfl, r⟩ := ro
      exact .dct (.inl (show (upd G.F a (.dK vs)) a = _ from upd_same)) (r.mono l.F l.rho)
  refine ⟨G.frzn a u, l, ⟨⟨fun b z e => ?_, fun b z e => ?_, s.len, fun k o b dx e1 e2 => ?_, fun b z e => ?_, s.tb⟩, by rw [List.length_set]; exact s.ln, fun j b ej => ?_⟩, rep⟩
  · by_cases hb : b = a
    · subst hb
      have e' : upd G.F b u b = some z := e
      rw [upd_same] at e'
      cases e'
      exact ⟨hu, if_pos rfl⟩
    · have e' : upd G.F a u b = some z := e
      rw [upd_ne hb] at e'
      obtain ⟨h1, h2⟩ := s.fr b z e'
      exact ⟨h1, (if_neg hb).trans h2⟩
  · obtain ⟨h1, h2⟩ := s.re b z e
    exact ⟨h1, kp b _ h2 (by intro z; cases z)⟩
  · exact (s.ob k o b dx e1 e2).keep sF (fun _ _ h => h) fun b' z h1 h2 => ⟨h1, kp b' _ rfl (by rcases h2 with h2 | h2 <;> (rw [h2]; intro z; cases z))⟩
  · obtain ⟨h1, h2⟩ := s.lk b z e
    exact ⟨h1, kp b _ h2 (by intro z; cases z)⟩
  · by_cases hj : i = j
    · subst hj
      by_cases hl : i < en.length
      · rw [List.getElem?_set_self hl] at ej
        cases ej
        exact ⟨_, ev, rep⟩
      · rw [List.getElem?_eq_none (by rw [List.length_set]; omega)] at ej
        cases ej
    · rw [List.getElem?_set_ne hj] at ej
      obtain ⟨v, e1, rb⟩ := s.sl j b ej
      exact ⟨v, e1, rb.keep sF (fun _ _ h => h) fun b' z h1 h2 => ⟨h1, kp b' _ h2 (by intro z; cases z; exact hj rfl)⟩⟩
end
section
variable {X : Cx} {W : WX}
theorem d_varF (i : Nat) {x : Str} {pos : Pos} (hN : X.N[i]? = some x := by rfl) (hv : Vis X.env.scope x := by first | exact Or.inl rfl | exact Or.inr (Or.inl rfl) | exact Or.inr (Or.inr rfl)) (hd : (x == ("__debug__" : Str)) = false := by decide)
    (hcd : (x == ("__classdict__" : Str)) = false := by decide) : DE X W (.Name x pos) (mVF i) := by
  refine ⟨PE_imp (pe_var hN hv hd hcd) fun σ H Q ⟨G, en, so, s, p⟩ => ?_⟩
  unfold mVF at p
  split at p
  · rename_i d e
    obtain ⟨v, e1, r⟩ := s.sl i _ e
    exact ⟨v, e1, p.ok s r⟩
  · rename_i c e
    obtain ⟨v, e1, r⟩ := s.sl i _ e
    obtain ⟨G', l, s', r'⟩ := s.freezeS e e1
    exact ⟨v, e1, p.ok' l s' r'⟩
  · exact p.elim
end
end
end Dl

set_option Elab.async false
set_option linter.all false
set_option maxRecDepth 100000
set_option maxHeartbeats 1000000
/-! The data level: powers, more text methods, lists and tuples joined, copies. -/
namespace Dl
open PySem PySem.Spec PyProof.Rows L2
noncomputable section

/-! ### powers, rfind, minus -/
def powD : D → D → M D
  | .int a, .int b => gd (0 ≤ b ∧ b ≤ 1000000 ∧ a.natAbs < 18446744073709551616) (pu (.int (a ^ b.toNat)))
  | _, _ => no
def rfindD (z : List Nat) : D → M D
  | .str t => pu (.int (Txt.rfind (sT z) (sT t)))
  | _ => no
section
variable {K : PySem.W.Frag} {mg : Ev}
theorem op2_pow : Op2 K mg (rI CPow fun i j => .int (i ^ j.toNat)) powD := by
  intro x y d e G en so σ H W Q rx ry s p
  cases d <;> cases e <;> try exact False.elim p
  cases rx; cases ry
  rename_i a b
  obtain ⟨⟨h1, h2, h3⟩, p⟩ := Post.gd (c := 0 ≤ b ∧ b ≤ 1000000 ∧ a.natAbs < 18446744073709551616) p
  exact ⟨_, _, rfl, rfl, ⟨h1, h2, by omega⟩, p.ok s (.int _)⟩
theorem opm_rfind : OpM1 K mg (fun x xs H Q => ∃ a b, x = .str a ∧ xs = [.str b] ∧ Q (.int (Txt.rfind a b)) H) rfindD := by
  intro z y d G en so σ H W Q ry s p
  cases ry with
  | str t => exact ⟨_, _, rfl, rfl, p.ok s (.int _)⟩
  | _ => exact False.elim p
end

/-! ### list + list -/
theorem lst_add (l : Addr) (items : Array Value) (n : Nat) (b : Addr) (items2 : Array Value) (n2 : Nat) (dd dd2 : Option Addr) (sl sl2 : Array (Option Value)) (hc0 : items.size + items2.size ≤ sizeLine) :
    Meets (Builtin.«list.__add__» ⟨[.ref l, .ref b], []⟩) (fun _ R s => s.heap.get? l = some { cls := .type "list", dict := dd, data := .seq items n, slots := sl } ∧ s.heap.get? b = some { cls := .type "list", dict := dd2, data := .seq items2 n2, slots := sl2 } ∧ R (.ok (.ret (Value.ref s.heap.objs.size))) { s with heap := s.heap.push { cls := Value.type "list", data := Data.seq (items ++ items2) }, toks := s.toks }) :=
  .of_wp fun prog w A R s h => by
    obtain ⟨hp, g, d, tk, os⟩ := s
    obtain ⟨hl, hb, h⟩ := h
    have f1 := AutoSeq1.idx_int
    have f2 := AutoSeq1.sub_tuple_tuple
    have f3 := AutoSeq1.sub_list_list
    have f4 := AutoSeq1.sub_tuple_list
    have f5 := AutoSeq1.sub_list_tuple
    wp_walk using AutoSeq1.wpAny_loadPart' hl, AutoSeq1.wpAny_loadPart' hb
    exact ⟨_, rfl, h⟩
def rCatL (K : PySem.W.Frag) : R2 := fun x y H Q => ∃ a b xs ys, x = .ref a ∧ y = .ref b ∧ SqL K H a xs ∧ SqL K H b ys ∧ xs.length + ys.length ≤ sizeLine ∧ ∀ p, H p = none → Q (.ref p) (upd H p (.lst (xs ++ ys)))
theorem op_catL {X : Cx} : OpR X (binaryOp .Add) (rCatL X.K) := by
  intro pins s σ H x y v u Q I rx ry h
  obtain ⟨a, b, xs, ys, rfl, rfl, ha, hb, hz, q⟩ := h
  cases rx
  cases ry
  obtain ⟨its, r1, ⟨⟨cls, dd, data, sl⟩, n, ho, hc, hdn, hd⟩, _⟩ := I.list ha
  obtain ⟨its2, r2, ⟨⟨cls2, dd2, data2, sl2⟩, n2, ho2, hc2, hdn2, hd2⟩, _⟩ := I.list hb
  simp only at hc hd hc2 hd2
  subst hc hd hc2 hd2
  refine concat_meets ⟨_, ho, rfl⟩ ⟨_, ho2, rfl⟩ noFill_list_add seq_list_add F.slot_list_add F.entry_list_add (F.args_list_add_2 _ _) (lst_add a its.toArray n b its2.toArray n2 dd dd2 sl sl2 (by rw [List.size_toArray, List.size_toArray, ← r1.length, ← r2.length]; exact hz)) ⟨ho, ho2, ?_⟩
  have ea : its.toArray ++ its2.toArray = (its ++ its2).toArray := by simp
  rw [ea]
  exact ⟨.ref _, _, I.lnew (t' := s.toks) (r1.append r2) (by rw [List.length_append]; omega), rfl, q _ I.fresh⟩
def catL : D → D → M B
  | .lst xs, .lst ys => gd (xs.length + ys.length ≤ 16777216) (pu (.cel (.lst (xs ++ ys))))
  | _, _ => no
def mCatL (ma mb : M D) : M B := bd ma fun d => bd mb fun e => catL d e
def catT : D → D → M D
  | .tup xs, .tup ys => gd (xs.length + ys.length ≤ 16777216) (pu (.tup (xs ++ ys)))
  | _, _ => no
/-- list(x) -/
def listD : List D → M B
  | [.lst xs] => pu (.cel (.lst xs))
  | [.tup xs] => pu (.cel (.lst xs))
  | _ => no
def tupleD : List D → M D
  | [.lst xs] => pu (.tup xs)
  | [.tup xs] => pu (.tup xs)
  | _ => no
section
variable {K : PySem.W.Frag} {mg : Ev} {X : Cx} {W : WX} {a b e : Expr} {ma mb : M D} {pos : Pos}
theorem b_cat (ha : DE X W a ma) (hb : DE X W b mb) : DB X W (.BinOp a .Add b pos) (mCatL ma mb) := by
  refine ⟨PE_imp (pe_op op_catL ha.pe hb.pe) fun σ H Q ⟨G, en, so, s, p⟩ => ?_⟩
  refine ⟨G, en, so, s, (Post.bind (R1 := rlD X.K) p).imp fun v H1 ⟨G1, en1, so1, d, l, r1, s1, p1⟩ => ⟨G1, en1, so1, s1, (Post.bind (R1 := rlD X.K) p1).imp fun y H2 ⟨G2, en2, so2, e, l2, r2, s2, p2⟩ => ?_⟩⟩
  have r1' := Rep.up r1 l2
  cases r1' with
  | lst h1 q1 =>
    cases r2 with
    | lst h2 q2 =>
      obtain ⟨hl, p3⟩ := Post.gd p2
      refine ⟨_, _, _, _, rfl, rfl, s2.toSimO.rep.seq h1, s2.toSimO.rep.seq h2, by rw [q1.len, q2.len, sizeLine_eq]; exact hl, fun q hq => ?_⟩
      exact p3.ok' (tag_le q .tmp) (s2.newT (t := .tmp) hq) ⟨q, rfl, tag_own, _, upd_same, reps_app' q1 q2⟩
    | _ => exact False.elim p2
  | _ => cases r2 <;> exact False.elim p2
theorem op2_catT : Op2 K mg (rCatA K) catT := by
  intro x y d e G en so σ H W Q rx ry s p
  cases rx with
  | tup h1 q1 =>
    cases ry with
    | tup h2 q2 =>
      obtain ⟨hl, p3⟩ := Post.gd p
      refine ⟨_, _, _, _, rfl, rfl, same_seqT s.toSimO.rep h1, same_seqT s.toSimO.rep h2, by rw [q1.len, q2.len, sizeLine_eq]; exact hl, fun e => ?_, fun _ e => ?_, fun _ _ q hq => ?_⟩
      · subst e
        cases q1
        exact p3.ok s (.tup h2 q2)
      · subst e
        cases q2
        rw [List.append_nil] at p3
        exact p3.ok s (.tup h1 q1)
      · obtain ⟨s2, l2⟩ := s.newF (o := .tup _) hq
        exact p3.ok' l2 s2 (.tup (.inl (.inl (show upd G.F q _ q = _ from upd_same))) ((reps_app' q1 q2).mono l2.F l2.rho))
    | _ => exact False.elim p
  | _ => cases ry <;> exact False.elim p
theorem opn_list : OpNB K mg (fun xs H Q => ∃ p ys, xs = [.ref p] ∧ (SqL K H p ys ∨ SqT K H p ys) ∧ ∀ l, H l = none → Q (.ref l) (upd H l (.lst ys))) listD := by
  intro xs ds G en so σ H W Q r s p
  match ds, r, p with
  | [d], r, p =>
    obtain ⟨x, rfl, h⟩ := reps1 r
    cases h with
    | lst h q => exact ⟨_, _, rfl, .inl (s.toSimO.rep.seq h), fun q' hq => p.ok' (tag_le q' .tmp) (s.newT (t := .tmp) hq) ⟨q', rfl, tag_own, _, upd_same, q⟩⟩
    | tup h q => exact ⟨_, _, rfl, .inr (same_seqT s.toSimO.rep h), fun q' hq => p.ok' (tag_le q' .tmp) (s.newT (t := .tmp) hq) ⟨q', rfl, tag_own, _, upd_same, q⟩⟩
    | _ => exact False.elim p
  | [], _, p => exact False.elim p
  | d :: _ :: _, _, p => cases d <;> exact False.elim p
theorem opn_tuple : OpN K mg (fun xs H Q => ∃ p ys, xs = [.ref p] ∧ ((SqL K H p ys ∧ ∀ l, H l = none → Q (.ref l) (upd H l (.tup ys))) ∨ (SqT K H p ys ∧ Q (.ref p) H))) tupleD := by
  intro xs ds G en so σ H W Q r s p
  match ds, r, p with
  | [d], r, p =>
    obtain ⟨x, rfl, h⟩ := reps1 r
    cases h with
    | lst h q =>
      refine ⟨_, _, rfl, .inl ⟨s.toSimO.rep.seq h, fun q' hq => ?_⟩⟩
      obtain ⟨s2, l2⟩ := s.newF (o := .tup _) hq
      exact p.ok' l2 s2 (.tup (.inl (.inl (show upd G.F q' _ q' = _ from upd_same))) (q.mono l2.F l2.rho))
    | tup h q => exact ⟨_, _, rfl, .inr ⟨same_seqT s.toSimO.rep h, p.ok s (.tup h q)⟩⟩
    | _ => exact False.elim p
  | [], _, p => exact False.elim p
  | d :: _ :: _, _, p => cases d <;> exact False.elim p
end
end
end Dl

set_option Elab.async false
set_option linter.all false
set_option maxRecDepth 100000
set_option maxHeartbeats 1000000
/-! The data level: own exception classes whose __init__ begins with super().__init__(text). -/
namespace Dl
open PySem PySem.Spec PyProof.Rows L2
noncomputable section

/-- what the written part says of an __init__ that asks super: f the def, cc the cell of its class, Dd that class -/
structure FunX (P : Program) (K : PySem.W.Frag) (mg : Str → Option Value) (qual : Str) (st : Stmt) (f : Addr) (fd : FuncData) (Dd : Addr) : Prop where
  ex : ∃ (oc : Value) (od : Option Addr) (kV doc pm : Value) (an : Option Addr) (cda : Addr) (ct : Value) (osl : Array (Option Value)) (cc : Addr),
    fd = PySem.W.fnX "__init__" qual (defArgs st) (defBody st) (defScope st) [("__class__", cc)] .none kV doc pm an (.ref cda) ct ∧ K.lookup f = some ⟨oc, od, .func fd, osl⟩ ∧ PySem.W.codeIn K (.ref cda) qual = true ∧
    (∃ ccl cdd vs ccs file tf, K.lookup cda = some ⟨ccl, cdd, .fields vs, ccs⟩ ∧ vs[2]? = some (.str file tf) ∧ ((P.main.file : Str) == file) = true) ∧
    (∃ cl cld csl, K.lookup cc = some ⟨cl, cld, .cell (some (.ref Dd)), csl⟩)
  cls : ∃ cd, PySem.W.clsIn K Dd = some cd
  sup : PySem.W.nsIn K mainGlobals "super" = some none
  gsup : mg "super" = none
  top : (P.main.scope.names.lookup ("super" : Str)).isSome = false
  oq : PySem.W.nsIn K PySem.cStatics "thirdparty.any" = some none
/-- .. and of a class that it makes -/
structure ClsX (K : PySem.W.Frag) (C Dd : Addr) : Prop extends OexC K C where
  sub : PySem.W.mroIn K C (.ref Dd) = some true
  ini : PySem.W.ks_superIn K C Dd "__init__" = some (some (.builtin "ValueError.__init__"))
  ve : PySem.W.subIn K (.ref C) (.type "ValueError") = some true
section
variable {P : Program} {w : World} {K : PySem.W.Frag} {mg : Str → Option Value} {base : Heap} {CX : CXT}
/-- super().__init__(e): the first statement -/
theorem first_super {f Dd C a L : Addr} {qual : Str} {st : Stmt} {cda cc : Addr} {N : List Str} {A : Around} {outer : List Env} {s0 s : Shared} {H0 H : Hp} {E : XK} {σ : L2.St} {fd : FuncData} {m : Str → Option Value}
    {z1 : Str} {j1 : Nat} {pc : Pos} {p0 p1 p2 p3 p4 : Pos} {body : List Stmt} {rest : List Stmt} {R : Flow → Shared → Prop} {oc : Value} {od : Option Addr} {osl : Array (Option Value)} {ar : Arg}
    (X : Cx) (hX : X = NdefX.ncx CX P w K mg base N ⟨"__init__", qual, defArgs st, defBody st, defScope st, [("__class__", cc)], cda⟩ f A outer s0 H0 E)
    (hf : K.lookup f = some ⟨oc, od, .func fd, osl⟩) (hp : (fd.params.posonlyargs ++ fd.params.args).head? = some ar)
    (hcode : ∃ ccl cdd vs ccs file tf, K.lookup cda = some ⟨ccl, cdd, .fields vs, ccs⟩ ∧ vs[2]? = some (.str file tf) ∧ ((P.main.file : Str) == file) = true)
    (hcell : ∃ cl cld csl, K.lookup cc = some ⟨cl, cld, .cell (some (.ref Dd)), csl⟩) (hD : ∃ cd, PySem.W.clsIn K Dd = some cd) (gsup : mg "super" = none) (top : (P.main.scope.names.lookup ("super" : Str)).isSome = false)
    (oq : PySem.W.nsIn K PySem.cStatics "thirdparty.any" = some none)
    (hks : (defScope st).names.lookup ("super" : Str) = some .globalImplicit) (hkc : (defScope st).names.lookup ("__class__" : Str) = some .free) (hka : (defScope st).names.lookup ar.arg = some .local) (hk : (defScope st).kind = .function)
    (T : ClsX K C Dd) (I : Inv X [] σ H s) (ha : H a = some (exo a C none)) (hns : s.heap.Ns X.env.locals m) (hm : m ar.arg = some (.ref a))
    (hev : eval (.Call (.Attribute (.Call (.Name "super" p0) [] [] p1) "__init__" p2) [.Constant (.str z1) j1 pc] [] p3) X.env = (do
      let ov ← attributeBase (.Call (.Name "super" p0) [] [] p1) "__init__" X.env (eval (.Call (.Name "super" p0) [] [] p1) X.env)
      standAt p2.atName
      let (f, first) ← holding [ov] (getMethod ov "__init__" (pure false))
      callWith p3 f first (backTo p3 (starEach [.Constant (.str z1) j1 pc] X.env)) []))
    (hi : interactive X.env = false) (hs : swapsWith (.Call (.Attribute (.Call (.Name "super" p0) [] [] p1) "__init__" p2) [.Constant (.str z1) j1 pc] [] p3) none p4.line X.env = pure false)
    (h : ∀ s', Inv X [] σ H s' → R .next s') :
    PySem.wpAt (model P w) X.A (.func body X.env) (exec (.Expr (.Call (.Attribute (.Call (.Name "super" p0) [] [] p1) "__init__" p2) [.Constant (.str z1) j1 pc] [] p3) p4) X.env) R X.xe s := by
  obtain ⟨ccl, cdd, vs, ccs, file, tf, hc1, hc2, hc3⟩ := hcode
  obtain ⟨cl, cld, csl, hcc⟩ := hcell
  obtain ⟨cdD, hD⟩ := hD
  subst hX
  have X0 : K.In s.heap := I.kIn
  obtain ⟨oD, hD1, hD2⟩ : ∃ oD, s.heap.get? Dd = some oD ∧ oD.data = .cls cdD := by
    unfold PySem.W.clsIn at hD
    split at hD
    · rename_i c d cd' sl ho
      cases hD
      exact ⟨_, X0 _ _ ho, rfl⟩
    · cases hD
  obtain ⟨t1, hx⟩ := exo_at I.hok ha
  refine ks_wpAt_Expr_any (ks_wpAt_MethodCall (pl := pure false) (ks_wpAt_super_base (env := NdefX.envF ⟨"__init__", qual, defArgs st, defBody st, defScope st, [("__class__", cc)], cda⟩ f s0.heap.objs.size) hks hkc (by decide) rfl (X0 _ _ hf) rfl hp rfl (X0 _ _ hc1) rfl hc2 hc3 top ?_) hev) hi hs
  obtain ⟨mb, hb1, hb2⟩ := I.mod.blt
  refine PySem.W.ks_loadName_global hk hks (PySem.Calls.loadGlobal_builtin (by rw [show (NdefX.envF ⟨"__init__", qual, defArgs st, defBody st, defScope st, [("__class__", cc)], cda⟩ f s0.heap.objs.size).globals = mainGlobals from rfl]; exact I.mod.glob.keeps I.bk) gsup (hb1.keeps I.bk) ((hb2 "super" (by decide)).trans (by first | kernel_rfl | decide +kernel)) ⟨rfl, ?_⟩)
  refine wpAny_loadName_free hk hkc rfl ⟨_, X0 _ _ hcc, rfl⟩ ?_
  refine wpAny_loadName_local hk hka hns hm ?_
  refine ks_wpAny_isType_cls hD1 hD2 ⟨rfl, ?_⟩
  refine ks_wpAny_call_super hD1 hD2 hx rfl (fun c e => by cases e) (PySem.W.looks_mroIn X0 T.sub) (fun h1 e1' k1 => ?_)
  -- the method
  have I1 := I.kept (t' := s.toks) k1
  have X1 : K.In h1 := I1.kIn
  have hx1 := k1 _ _ hx
  have J : PySem.W.InstAt h1 a { cls := .ref C, dict := none, data := .fields #[.ref t1, .none, .none, .none, .bool false, .none] } C none := ⟨hx1, rfl, rfl, trivial⟩
  cases hc : PySem.W.clsIn K C with
  | none =>
    have z := T.ini
    unfold PySem.W.ks_superIn at z
    rw [hc] at z
    cases z
  | some cd =>
    have z := T.ini
    unfold PySem.W.ks_superIn at z
    rw [hc] at z
    refine PySem.W.kxs_getMethod PySem.W.kxs_ValueError e1' (PySem.W.looks_opaque X1 oq) (l₀ := cd.mro) (fun A Q E s k q => wpAny_bind ((PySem.W.looks_clsIn X1 hc) A _ E s k (wpAny_pure q))) rfl X1 z (J.type.andThen (PySem.W.looks_subIn X1 T.ve)) (PySem.W.ks_ne X1 J hc) (by decide) ?_
    have k2 : ∀ b u, h1.get? b = some u → (h1.push (PySem.W.kxs_mw "ValueError.__init__" a)).get? b = some u := fun b u q => Heap.get?_push_of_some _ q
    have I2 := I1.kept (t' := s.toks + 1) k2
    have hu : (h1.push (PySem.W.kxs_mw "ValueError.__init__" a)).get? h1.objs.size = some (PySem.W.kxs_mw "ValueError.__init__" a) := Heap.get?_push_size _ rfl
    have he : starEach [.Constant (.str z1) j1 pc] (NdefX.envF ⟨"__init__", qual, defArgs st, defBody st, defScope st, [("__class__", cc)], cda⟩ f s0.heap.objs.size) = [(false, eval (.Constant (.str z1) j1 pc) (NdefX.envF ⟨"__init__", qual, defArgs st, defBody st, defScope st, [("__class__", cc)], cda⟩ f s0.heap.objs.size))] := rfl
    refine PySem.W.kxs_callWith (i := "ValueError.__init__") (x := a) rfl ?_
    refine PySem.Calls.evalArgs_plain (PySem.Calls.spliced_cons (PySem.Calls.Constant_str (k := j1) (pos := pc) ?_))
    refine PySem.Calls.spliced_nil ⟨hu, ?_⟩
    have I3 := I2.tok (s.toks + 1 + 1)
    obtain ⟨nm, q, NN, bs, bm, sn, sub, ab, col, dd, g0, g1, g2, g3, g5, hC, hbm⟩ := T.cls
    have hx2 := k2 _ _ hx1
    refine wpAny_call (codeAny_of_tree ?_)
    show wpAny _ _ (callAny (.ref h1.objs.size) ⟨[.str z1 (s.toks + 1)], []⟩) _ _ _
    simp only [callAny]
    refine wpAny_bind (wpAny_load hu ?_)
    simp only [PySem.W.kxs_mw, show (Value.type "method-wrapper" == Value.type "method" || Value.type "method-wrapper" == Value.type "builtin_function_or_method" || Value.type "method-wrapper" == Value.type "method-wrapper") = true by decide, if_true]
    refine PySem.W.KFB.if_so (by decide) ?_
    refine wpAny_bind (PySem.W.check_bound_init F.excBase_ValueError.toExcCallFacts (I3.kIn _ _ hC) hx2 rfl ?_)
    refine wpAny_bind (wpAny_pure (wpAny_pure ?_))
    refine ⟨PySem.plainId_quiet F.excBase_ValueError.init.plain _, codeAny_builtin F.excBase_ValueError.initEntry ?_⟩
    refine PySem.W.exc_init_tree (cls := .ref C) (t0 := t1) (dv := none) (c2 := .none) (c3 := .none) (b4 := .bool false) hx2 (by rw [sizeLine_eq]; show 1 ≤ 16777216; decide) fun h' kk hx' _ => ?_
    have J := I3.write (t' := s.toks + 1 + 1) (x := a) (e := a) (o := exo a C none) (by rw [ha]; exact True.intro) (.inl rfl) kk ⟨_, hx'⟩ (exo_ok hx')
    have eu : upd H a (exo a C none) = H := by
      funext b
      by_cases hb : b = a
      · rw [hb, upd_same, ha]
      · rw [upd_ne hb]
    rw [eu] at J
    exact h _ J
end

/-! ### the stores behind it -/
/-- self.f = the i-th name, one after another -/
inductive Stores (X : Cx) : List Stmt → List (Str × Nat) → Prop
  | nil : Stores X [] []
  | cons {st : Stmt} {sts : List Stmt} {f : Str} {i : Nat} {fl : List (Str × Nat)} : PS X st (tOst X.K f (tVar 0) (tVar i)) → Stores X sts fl → Stores X (st :: sts) ((f, i) :: fl)
def valAt (σ : L2.St) (i : Nat) : V := match σ[i]? with
  | some (some v) => v
  | _ => .non
def putAll (σ : L2.St) : List (Str × Nat) → List (Str × V) → List (Str × V)
  | [], fs => fs
  | (f, i) :: fl, fs => putAll σ fl ((f, valAt σ i) :: fs)
theorem valAt_some {σ : L2.St} {i : Nat} {v : V} (h : σ[i]? = some (some v)) : valAt σ i = v := by unfold valAt; rw [h]
theorem Stores.old {X : Cx} {sts : List Stmt} {fl : List (Str × Nat)} (h : Stores X sts fl) : ∃ t, PSs X sts t ∧ ∀ (D : Ends) (σ : L2.St) (H : Hp) (a C dx : Addr) (fs : List (Str × V)), σ[0]? = some (some (.ref a)) → (∀ p ∈ fl, ∃ v, σ[p.2]? = some (some v)) → OexC X.K C →
    (∀ p ∈ fl, PySem.W.findIn X.K (.ref C) p.1 = some none) → H a = some (exo a C (some dx)) → H dx = some (exd dx fs) → dx ≠ a → fs.length + fl.length ≤ 900 → D.nx σ (upd H dx (exd dx (putAll σ fl fs))) → t D σ H := by
  induction h with
  | nil =>
    refine ⟨_, pss_nil, fun D σ H a C dx fs h0 hv T hn ea ed ne hl q => ?_⟩
    have e : upd H dx (exd dx fs) = H := by
      funext b
      by_cases hb : b = dx
      · rw [hb, upd_same, ed]
      · rw [upd_ne hb]
    have q : D.nx σ (upd H dx (exd dx fs)) := q
    rw [e] at q
    exact q
  | @cons st sts f i fl hst _ ih =>
    obtain ⟨t, ht, run⟩ := ih
    refine ⟨_, pss_cons hst ht, fun D σ H a C dx fs h0 hv T hn ea ed ne hl q => ?_⟩
    obtain ⟨v, ev⟩ := hv (f, i) List.mem_cons_self
    have hl' : fs.length + (fl.length + 1) ≤ 900 := hl
    refine ⟨v, ev, .ref a, h0, a, C, rfl, T, hn (f, i) List.mem_cons_self, .inr ⟨dx, fs, ea, ed, by omega, ?_⟩⟩
    refine run D σ _ a C dx ((f, v) :: fs) h0 (fun p hp => hv p (List.mem_cons_of_mem _ hp)) T (fun p hp => hn p (List.mem_cons_of_mem _ hp)) (by rw [upd_ne (Ne.symm ne)]; exact ea) upd_same ne (by rw [List.length_cons]; omega) ?_
    have e : upd (upd H dx (exd dx ((f, v) :: fs))) dx (exd dx (putAll σ fl ((f, v) :: fs))) = upd H dx (exd dx (putAll σ fl ((f, v) :: fs))) := by
      funext b
      by_cases hb : b = dx
      · rw [hb, upd_same, upd_same]
      · rw [upd_ne hb, upd_ne hb, upd_ne hb]
    rw [e]
    have q : D.nx σ (upd H dx (exd dx (putAll σ fl ((f, valAt σ i) :: fs)))) := q
    rw [valAt_some ev] at q
    exact q
theorem Stores.new {X : Cx} {sts : List Stmt} {fl : List (Str × Nat)} (h : Stores X sts fl) (h1 : fl ≠ []) : ∃ t, PSs X sts t ∧ ∀ (D : Ends) (σ : L2.St) (H : Hp) (a C : Addr), σ[0]? = some (some (.ref a)) → (∀ p ∈ fl, ∃ v, σ[p.2]? = some (some v)) → OexC X.K C →
    (∀ p ∈ fl, PySem.W.findIn X.K (.ref C) p.1 = some none) → H a = some (exo a C none) → fl.length ≤ 900 → (∀ dx, H dx = none → dx ≠ a → D.nx σ (upd (upd H dx (exd dx (putAll σ fl []))) a (exo a C (some dx)))) → t D σ H := by
  cases h with
  | nil => exact absurd rfl h1
  | @cons st sts f i fl hst hr =>
    obtain ⟨t, ht, run⟩ := hr.old
    refine ⟨_, pss_cons hst ht, fun D σ H a C h0 hv T hn ea hl q => ?_⟩
    obtain ⟨v, ev⟩ := hv (f, i) List.mem_cons_self
    have hl' : fl.length + 1 ≤ 900 := hl
    refine ⟨v, ev, .ref a, h0, a, C, rfl, T, hn (f, i) List.mem_cons_self, .inl ⟨ea, fun dx hd ne => ?_⟩⟩
    refine run D σ _ a C dx [(f, v)] h0 (fun p hp => hv p (List.mem_cons_of_mem _ hp)) T (fun p hp => hn p (List.mem_cons_of_mem _ hp)) upd_same (by rw [upd_ne ne, upd_same]) ne (by rw [List.length_singleton]; omega) ?_
    have e : upd (upd (upd H dx (exd dx [(f, v)])) a (exo a C (some dx))) dx (exd dx (putAll σ fl [(f, v)])) = upd (upd H dx (exd dx (putAll σ fl [(f, v)]))) a (exo a C (some dx)) := by
      funext b
      by_cases hb : b = dx
      · rw [hb, upd_same, upd_ne ne, upd_same]
      · rw [upd_ne hb]
        by_cases hb2 : b = a
        · rw [hb2, upd_same, upd_same]
        · rw [upd_ne hb2, upd_ne hb, upd_ne hb2, upd_ne hb]
    rw [e]
    have q := q dx hd ne
    have q : D.nx σ (upd (upd H dx (exd dx (putAll σ fl [(f, valAt σ i)]))) a (exo a C (some dx))) := q
    rw [valAt_some ev] at q
    exact q
/-- what such an __init__ promises: np parameters, the fields fl -/
def spI (K : PySem.W.Frag) (Dd : Addr) (np : Nat) (fl : List (Str × Nat)) : Sp := fun vs H Q _ => ∃ a C ws, vs = .ref a :: ws ∧ vs.length = np ∧ ClsX K C Dd ∧ (∀ p ∈ fl, PySem.W.findIn K (.ref C) p.1 = some none) ∧ H a = some (exo a C none) ∧
  ∀ dx, H dx = none → dx ≠ a → Q .non (upd (upd H dx (exd dx (putAll (vs.map some) fl []))) a (exo a C (some dx)))
theorem putAll_app (σ τ : L2.St) : ∀ (fl : List (Str × Nat)) (fs : List (Str × V)), (∀ p ∈ fl, p.2 < σ.length) → putAll (σ ++ τ) fl fs = putAll σ fl fs
  | [], _, _ => rfl
  | (f, i) :: fl, fs, h => by
    have e : valAt (σ ++ τ) i = valAt σ i := by
      unfold valAt
      rw [List.getElem?_append_left (h (f, i) List.mem_cons_self)]
    unfold putAll
    rw [e, putAll_app σ τ fl _ fun p hp => h p (List.mem_cons_of_mem _ hp)]
section
variable {P : Program} {w : World} {K : PySem.W.Frag} {mg : Str → Option Value} {base : Heap}
theorem init_ok {qual : Str} {st : Stmt} {f Dd : Addr} {fd : FuncData} {ps : List Str} {k : Nat} {fl : List (Str × Nat)} {z1 : Str} {j1 : Nat} {pc p0 p1 p2 p3 p4 : Pos} {rest : List Stmt} {ar : Arg} (F : FunX P K mg qual st f fd Dd)
    (S : NdefX.NScope (ps ++ [("__class__" : Str)]) ps [("__class__" : Str)] (defScope st))
    (hbd : defBody st = .Expr (.Call (.Attribute (.Call (.Name "super" p0) [] [] p1) "__init__" p2) [.Constant (.str z1) j1 pc] [] p3) p4 :: rest) (hp : ((defArgs st).posonlyargs ++ (defArgs st).args).head? = some ar) (hp0 : ps[0]? = some ar.arg)
    (hks : (defScope st).names.lookup ("super" : Str) = some .globalImplicit) (hkc : (defScope st).names.lookup ("__class__" : Str) = some .free) (hka : (defScope st).names.lookup ar.arg = some .local)
    (hfl : fl ≠ []) (hfl9 : fl.length ≤ 900) (hflp : ∀ p ∈ fl, p.2 < ps.length)
    (hst : ∀ (cc cda : Addr) (A : Around) (outer : List Env) (s : Shared) (H : Hp) (E : XK), Stores (NdefX.ncx (L2.CX P w) P w K mg base (ps ++ [("__class__" : Str)]) ⟨"__init__", qual, defArgs st, defBody st, defScope st, [("__class__", cc)], cda⟩ f A outer s H E) rest fl)
    (hev : ∀ (env : Env), eval (.Call (.Attribute (.Call (.Name "super" p0) [] [] p1) "__init__" p2) [.Constant (.str z1) j1 pc] [] p3) env = (do
      let ov ← attributeBase (.Call (.Name "super" p0) [] [] p1) "__init__" env (eval (.Call (.Name "super" p0) [] [] p1) env)
      standAt p2.atName
      let (f, first) ← holding [ov] (getMethod ov "__init__" (pure false))
      callWith p3 f first (backTo p3 (starEach [.Constant (.str z1) j1 pc] env)) []))
    (hs : ∀ env : Env, swapsWith (.Call (.Attribute (.Call (.Name "super" p0) [] [] p1) "__init__" p2) [.Constant (.str z1) j1 pc] [] p3) none p4.line env = pure false) : FnOk P w K mg base (L2.CX P w) (k + 1) f fd ps (spI K Dd ps.length fl) := by
  obtain ⟨oc, od, kV, doc, pm, an, cda, ct, osl, cc, rfl, lk, hcd, hcode, hcell⟩ := F.ex
  refine ⟨fun vs H Q E ⟨a, C, ws, e, l, _⟩ => l, fun A outer s H args us vs Q E hr e0 hb r hsp => ?_⟩
  obtain ⟨a, C, ws, ev, hl, T, hno, ea, q⟩ := hsp
  have kin : K.In s.heap := e0.mod.kin.keeps fun b o e => (e0.bs b o e).1
  have lim : s.heap.NoLimit := e0.mod.nolimit.keeps fun b o e => (e0.bs b o e).1
  refine ks_codeAny_call_defAt (fd := PySem.W.fnX "__init__" qual (defArgs st) (defBody st) (defScope st) [("__class__", cc)] .none kV doc pm an (.ref cda) ct) (body := defBody st) (binds := ps.zip us) hr.depth (kin _ _ lk) rfl lim (PySem.W.codeRec_of kin hcd) rfl hb S.nocell (fun ⟨n, _⟩ hy => S.par n (List.of_mem_zip hy).1) (fun h₁ hns kp => ?_) S.co S.gen S.kind
  obtain ⟨cl, cld, csl, hcc⟩ := id hcell
  have hul : us.length = ps.length := by rw [← r.length]; exact hl
  have Cl : NdefX.CellsAt [("__class__", cc)] ["__class__"] [none] s.heap H := by
    refine ⟨rfl, fun y c e => ?_, fun x y c e1 e2 => ?_, fun i y e => ?_⟩
    · have : y = "__class__" ∧ c = cc := by
        rw [List.lookup_cons] at e
        split at e
        · rename_i h
          exact ⟨by simpa using h, (Option.some.inj e).symm⟩
        · cases e
      obtain ⟨rfl, rfl⟩ := this
      exact ⟨(e0.bs _ _ (e0.mod.kin _ _ hcc)).2, some (.ref Dd), _, kin _ _ hcc, rfl⟩
    · have key : ∀ {z : Str}, List.lookup z [(("__class__" : Str), cc)] = some c → z = "__class__" := fun {z} e => by
        rw [List.lookup_cons] at e
        split at e
        · rename_i h
          simpa using h
        · cases e
      exact (key e1).trans (key e2).symm
    · cases i with
      | zero =>
        cases e
        exact ⟨cc, by simp [List.lookup], fun v e => by cases e⟩
      | succ i => cases e
  have I : Inv (NdefX.ncx (L2.CX P w) P w K mg base (ps ++ [("__class__" : Str)]) ⟨"__init__", qual, defArgs st, defBody st, defScope st, [("__class__", cc)], cda⟩ f A outer s H E) [] (NdefX.startF (ps ++ [("__class__" : Str)]) vs [none]) H { s with heap := h₁, toks := s.toks + (ps.zip us).length } :=
    NdefX.inv_startN S hr.hd e0 hl r Cl hns kp
  have hu0 : us[0]? = some (.ref a) := by
    subst ev
    cases r with
    | cons r0 _ => cases r0; rfl
  have hndP : ps.Nodup := by
    have q := S.nd
    exact (List.nodup_append.mp q).1
  have hσ0 : (NdefX.startF (ps ++ [("__class__" : Str)]) vs [none])[0]? = some (some (.ref a)) := by
    subst ev
    rfl
  obtain ⟨t, ht, run⟩ := (hst cc cda A outer s H E).new hfl
  have eσ : NdefX.startF (ps ++ [("__class__" : Str)]) vs [none] = vs.map some ++ [none] := by
    unfold NdefX.startF
    rw [List.length_append, hl]
    simp
  have hq : t { nx := fun _ H' => Q .non H', rt := Q } (NdefX.startF (ps ++ [("__class__" : Str)]) vs [none]) H := by
    refine run _ _ _ a C hσ0 (fun p hp => ?_) T.toOexC hno ea hfl9 fun dx hd ne => ?_
    · have hp2 : p.2 < vs.length := by rw [hl]; exact hflp p hp
      refine ⟨vs[p.2], ?_⟩
      rw [eσ, List.getElem?_append_left (by rw [List.length_map]; exact hp2), List.getElem?_map, List.getElem?_eq_getElem hp2]
      rfl
    · have := q dx hd ne
      rw [eσ, putAll_app _ _ _ _ fun p hp => by rw [List.length_map, hl]; exact hflp p hp]
      exact this
  show PySem.wpAt _ _ (.func (defBody st) (NdefX.envF ⟨"__init__", qual, defArgs st, defBody st, defScope st, [("__class__", cc)], cda⟩ f s.heap.objs.size)) _ _ _ _
  rw [show ∀ env : Env, execs (defBody st) env = execs (.Expr (.Call (.Attribute (.Call (.Name "super" p0) [] [] p1) "__init__" p2) [.Constant (.str z1) j1 pc] [] p3) p4 :: rest) env from fun env => by rw [hbd]]
  refine ks_wpAt_execs_cons ?_
  refine first_super (L := f) (rest := rest) (m := fun x => (ps.zip us).reverse.lookup x) (X := NdefX.ncx (L2.CX P w) P w K mg base (ps ++ [("__class__" : Str)]) ⟨"__init__", qual, defArgs st, defBody st, defScope st, [("__class__", cc)], cda⟩ f A outer s H E) rfl lk hp hcode hcell F.cls F.gsup F.top F.oq hks hkc hka S.kind T I ea hns ?_ (hev _) (by unfold interactive; first | rfl | simp [show (NdefX.ncx (L2.CX P w) P w K mg base (ps ++ [("__class__" : Str)]) ⟨"__init__", qual, defArgs st, defBody st, defScope st, [("__class__", cc)], cda⟩ f A outer s H E).env.scope.kind = .function from S.kind]) (hs _) fun s1 I1 => ?_
  · exact NdefX.zip_look hndP hp0 hu0
  · refine wpAt_of_wpAny (wpAny_mono (ht.run [] s1 _ H _ I1 hq) (fun fl s' hs => ?_) fun e s' hs => hs)
    have fin : ∀ {σ' : L2.St} {H' : Hp} {v : V} {u : Value}, Inv (NdefX.ncx (L2.CX P w) P w K mg base (ps ++ [("__class__" : Str)]) ⟨"__init__", qual, defArgs st, defBody st, defScope st, [("__class__", cc)], cda⟩ f A outer s H E) [] σ' H' s' → L2.RelV v u → Q v H' → CE outer P w H s Q u s' :=
      fun {σ' H' v u} J rv q => ⟨v, H', J.os, J.bare, J.base, J.hok, rv, q⟩
    cases fl with
    | ret u =>
      obtain ⟨v, σ', H', J, rv, q⟩ := hs
      exact fin J rv q
    | next =>
      obtain ⟨σ', H', J, q⟩ := hs
      exact fin (v := V.non) (u := Value.none) J rfl q
    | brk =>
      obtain ⟨_, _, _, q⟩ := hs
      exact False.elim q
    | cont =>
      obtain ⟨_, _, _, q⟩ := hs
      exact False.elim q
end
end
end Dl

set_option Elab.async false
set_option linter.all false
set_option maxRecDepth 100000
set_option maxHeartbeats 1000000
/-! The data level: raise, try. -/
namespace Dl
open PySem PySem.Spec PyProof.Rows L2
noncomputable section

/-! ### raise C(e, ..) -/
/-- raise of the class c, np parameters of its __init__ with self, each field from the parameter of that place -/
def sRaise (c np : Nat) (ix : List Nat) (ms : M (List D)) : M Fl := bd ms fun ds en so => if ds.length + 1 = np then .exc ⟨c, ix.map fun i => (D.non :: ds).getD i .non⟩ en so else .no
/-- the class x of the module: np parameters of its __init__, the fields fl -/
structure ExcD (P : Program) (w : World) (K : PySem.W.Frag) (mg : Str → Option Value) (base : Heap) (c : Nat) (x : Str) (np : Nat) (fl : List (Str × Nat)) : Prop where
  ex : ∃ (C fI Dd : Addr) (fd : FuncData) (ps : List Str), mg x = some (.ref C) ∧ ClsX K C Dd ∧ PySem.W.findIn K (.ref C) "__init__" = some (some (.ref fI)) ∧ PySem.W.typeIn K (.ref fI) = some (.type "function") ∧
    FnOk P w K mg base (L2.CX P w) 1 fI fd ps (spI K Dd np fl) ∧ Binds K fd ps [] ∧ ∀ p ∈ fl, PySem.W.findIn K (.ref C) p.1 = some none
  ok : ∀ p ∈ fl, 0 < p.2 ∧ p.2 < np
  few : np ≤ 1000
  nm : cnm c = x
  lay : clay c = fl.map (·.1)
theorem lk_putAll (σ : List (Option V)) : ∀ (fl : List (Str × Nat)) (acc : List (Str × V)) (f : Str), (fl.map (·.1)).Nodup → (putAll σ fl acc).lookup f = (match fl.lookup f with | some j => some (valAt σ j) | none => acc.lookup f)
  | [], acc, f, _ => rfl
  | (g, i) :: fl, acc, f, nd => by
    rw [List.map_cons, List.nodup_cons] at nd
    have ih := lk_putAll σ fl ((g, valAt σ i) :: acc) f nd.2
    have e : putAll σ ((g, i) :: fl) acc = putAll σ fl ((g, valAt σ i) :: acc) := rfl
    rw [e, ih]
    by_cases h : f = g
    · subst h
      have hn : fl.lookup f = none := by
        rw [List.lookup_eq_none_iff]
        intro p hp
        simp only [beq_eq_false_iff_ne, bne_iff_ne, ne_eq, beq_iff_eq]
        intro z
        exact nd.1 (List.mem_map.mpr ⟨p, hp, by simp [z]⟩)
      rw [hn]
      simp [List.lookup_cons]
    · have hb : (f == g) = false := by simp [h]
      rw [List.lookup_cons, List.lookup_cons, hb]
theorem lk_at : ∀ (fl : List (Str × Nat)) (i : Nat) (f : Str) (j : Nat), (fl.map (·.1)).Nodup → fl[i]? = some (f, j) → fl.lookup f = some j
  | [], i, f, j, _, e => by cases e
  | (g, k) :: fl, 0, f, j, nd, e => by cases e; simp [List.lookup_cons]
  | (g, k) :: fl, i + 1, f, j, nd, e => by
    rw [List.map_cons, List.nodup_cons] at nd
    have e' : fl[i]? = some (f, j) := by simpa using e
    have hb : (f == g) = false := by
      simp only [beq_eq_false_iff_ne, ne_eq]
      intro z
      exact nd.1 (List.mem_map.mpr ⟨(f, j), List.mem_of_getElem? e', z⟩)
    rw [List.lookup_cons, hb]
    exact lk_at fl i f j nd.2 e'
theorem put_rep {K : PySem.W.Frag} {G : Gh} {a : Addr} {c : Nat} {vs : List V} {ds : List D} (r : Reps K G.F G.rho vs ds) (fl : List (Str × Nat)) (hl : clay c = fl.map (·.1)) (hp : ∀ p ∈ fl, 0 < p.2 ∧ p.2 < ds.length + 1) :
    XFs K G c (putAll ((V.ref a :: vs).map some) fl []) ((fl.map (·.2)).map fun i => (D.non :: ds).getD i .non) := fun i f e => by
  have nd : (fl.map (·.1)).Nodup := hl ▸ (clay_nd c).1
  rw [hl, List.getElem?_map] at e
  cases q : fl[i]? with
  | none => rw [q] at e; cases e
  | some pj =>
    rw [q] at e
    obtain ⟨f', j⟩ := pj
    have : f' = f := Option.some.inj e
    subst this
    obtain ⟨h0, h1⟩ := hp _ (List.mem_of_getElem? q)
    have h0 : 0 < j := h0
    have h1 : j < ds.length + 1 := h1
    cases j with
    | zero => exact absurd h0 (Nat.lt_irrefl _)
    | succ j =>
      have hi : j < ds.length := by omega
      have ed : ds[j]? = some ds[j] := List.getElem?_eq_getElem hi
      obtain ⟨v, ev, rv⟩ := reps_at r ed
      refine ⟨v, ds[j], ?_, ?_, rv⟩
      · rw [lk_putAll _ fl [] f' nd, lk_at fl i f' (j + 1) nd q]
        show some (valAt ((V.ref a :: vs).map some) (j + 1)) = some v
        unfold valAt
        rw [List.map_cons, List.getElem?_cons_succ, List.getElem?_map, ev]
        rfl
      · rw [List.getElem?_map, List.getElem?_map, q]
        show some ((D.non :: ds).getD (j + 1) .non) = _
        rw [List.getD_eq_getElem?_getD, List.getElem?_cons_succ, ed]
        rfl
section
variable {X : Cx} {W : WX} {e : Expr} {es : List Expr} {ms : M (List D)} {x : Str} {c np : Nat} {fl : List (Str × Nat)} {ix : List Nat} {p pos pos2 : Pos} {k : Nat}
theorem s_raise (E : ExcD X.prog X.w X.K X.mg X.base c x np fl) (hix : fl.map (·.2) = ix) (hc : X.calm = true) (tk : Takes X W) (hr : Room (k + 2) X.A) (hg : Gl X x) (ha : DA X W (e :: es) ms)
    (hdb : (x == ("__debug__" : Str)) = false := by decide) (he : starEach (e :: es) X.env = (false, eval e X.env) :: starEach es X.env := by rfl) (hpl : (backTo pos (starEach es X.env)).any (·.1) = false := by rfl) : DS X W (.Raise (some (.Call (.Name x p) (e :: es) [] pos)) none pos2) (sRaise c np ix ms) := by
  subst hix
  obtain ⟨C, fI, Dd, fd, ps, hm, T, iC, tI, F, hb, hno⟩ := E.ex
  refine ⟨PS_imp (ps_raise hc tk (pmk_oex (k := k + 1) (ds := []) (dvs := []) T.toOexC iC tI (F.mono (by omega)) hr hb .nil (fun _ _ _ _ _ _ _ ⟨_, _, _, _, _, _, _, _, _, _, _, _, z⟩ => z.elim) hg hm ha.pa hdb he hpl)) fun D σ H ⟨G, en, so, s, p⟩ => ?_⟩
  refine ⟨G, en, so, s, (SPost.bind (R1 := rlDs X.K) p).imp fun vs H1 ⟨G1, en1, so1, ds, l, r1, s1, p1⟩ => ?_⟩
  by_cases hl : ds.length + 1 = np
  case neg => rw [if_neg hl] at p1; exact False.elim p1
  rw [if_pos hl] at p1
  refine ⟨?_, fun a ha0 => ⟨a, C, vs ++ [], rfl, ?_, T, hno, upd_same, fun dx hdx ne => ⟨rfl, dx, _, upd_same, by rw [upd_ne ne, upd_same], by rw [upd_ne ne] at hdx; exact hdx, ?_⟩⟩⟩
  · rw [r1.len]; have := E.few; omega
  · rw [List.append_nil, List.length_cons, r1.len]; exact hl
  · have hn : H1 dx = none := by rw [upd_ne ne] at hdx; exact hdx
    have eh : upd (del (upd (upd (upd H1 a (exo a C none)) dx (exd dx (putAll ((V.ref a :: (vs ++ [])).map some) fl []))) a (exo a C (some dx))) a) dx (.xd (putAll ((V.ref a :: (vs ++ [])).map some) fl [])) = upd H1 dx (.xd (putAll ((V.ref a :: (vs ++ [])).map some) fl [])) := by
      funext b
      by_cases hb : b = dx
      · rw [hb, upd_same, upd_same]
      · rw [upd_ne hb, upd_ne hb]
        by_cases hb2 : b = a
        · rw [hb2, del_same, ha0]
        · rw [del_ne hb2, upd_ne hb2, upd_ne hb, upd_ne hb2]
    rw [eh, List.append_nil]
    have s2 := s1.newT (o := .xd (putAll ((V.ref a :: vs).map some) fl [])) (t := .un) hn
    refine p1 (.ref C) (some dx) σ _ _ (tag_le dx .un) s2 ⟨C, rfl, by rw [E.nm]; exact hm, .inr ⟨dx, _, rfl, upd_same, tag_own, ?_⟩⟩
    exact put_rep (G := G1.tag dx .un) r1 fl E.lay (fun p q => by rw [hl]; exact E.ok p q)
end
end
end Dl

set_option Elab.async false
set_option linter.all false
set_option maxRecDepth 100000
set_option maxHeartbeats 4000000
/-! The data level: try .. except .. as e: several clauses, each with or without a name; e.f and isinstance(e, C) in a suite. -/
namespace L2
open PySem PySem.Spec PyProof.Rows
/-- a clause: its class, its name's place, its suite -/
structure Clz where
  c : Value
  i : Option Nat
  ts : Addr → Value → Option Addr → TS
/-- the name goes behind the suite -/
def Ends.off (D : Ends) (i : Nat) : Ends := { nx := fun σ' H' => D.nx (σ'.set i none) H', rt := D.rt, bk := fun σ' H' => D.bk (σ'.set i none) H', ct := fun σ' H' => D.ct (σ'.set i none) H' }
def Clz.run (q : Clz) (a : Addr) (cls : Value) (d : Option Addr) (D : Ends) (σ : St) (H : Hp) : Prop := match q.i with
  | some i => q.ts a cls d (D.off i) (σ.set i (some (.ref a))) H
  | none => q.ts a cls d D σ H
/-- the way that an exception of the body goes: through the clauses, to the first that is its own -/
def wGen (K : PySem.W.Frag) (Wout : WX) (D : Ends) : List Clz → WX
  | [] => Wout
  | q :: r => fun cls d σ H => ∃ b, PySem.W.exmOne K cls q.c = some b ∧ (b = true → ∀ a, H a = none → q.run a cls d D σ H) ∧ (b = false → wGen K Wout D r cls d σ H)
inductive ClzOk (X : Cx) : List ExceptHandler → List Clz → Prop
  | nil : ClzOk X [] []
  | only {x : Str} {c : Value} {ts : Addr → Value → Option Addr → TS} {b₀ : Stmt} {suite : List Stmt} {np pos' : Pos} {hds : List ExceptHandler} {l : List Clz} (hc : Names X x c)
      (hsu : ∀ (a : Addr) (oe : Obj) (cls : Value) (d : Option Addr) (pn : List (Addr × Obj)), Zc cls d oe → (∃ vs, oe.data = .fields vs) → PSs (X.suite a ((a, oe) :: pn)) (b₀ :: suite) (ts a cls d)) (r : ClzOk X hds l) :
      ClzOk X (.ExceptHandler (some (.Name x np)) none (b₀ :: suite) pos' :: hds) (⟨c, none, ts⟩ :: l)
  | as {x n : Str} {i : Nat} {c : Value} {ts : Addr → Value → Option Addr → TS} {b₀ : Stmt} {suite : List Stmt} {np pos' : Pos} {hds : List ExceptHandler} {l : List Clz} (hN : X.N.Nodup) (hi : X.N[i]? = some n) (hln : X.env.kindOf n = some .local) (hc : Names X x c)
      (hsu : ∀ (a : Addr) (oe : Obj) (cls : Value) (d : Option Addr) (pn : List (Addr × Obj)), Zc cls d oe → (∃ vs, oe.data = .fields vs) → PSs (X.suite a ((a, oe) :: pn)) (b₀ :: suite) (ts a cls d)) (r : ClzOk X hds l) :
      ClzOk X (.ExceptHandler (some (.Name x np)) (some n) (b₀ :: suite) pos' :: hds) (⟨c, some i, ts⟩ :: l)
section
variable {X : Cx} {body : List Stmt} {h₀ : ExceptHandler} {l : List Clz} {pos : Pos} {tb : WX → TS} {Wout : WX}
/-- one clause: the library's two rules under one head -/
theorem ps_try_1 (hs : X.stack = X.env :: X.outer) (hf : X.env.frame = some X.env.locals) (tk : Takes X Wout)
    (hb : ∀ (W : WX) (pn : List (Addr × Obj)) (xe : Value → Shared → Prop), Takes (X.tr pn xe) W → PassesOwn (model X.prog X.w) X.A X.env xe → PSs (X.tr pn xe) body (tb W)) :
    ClzOk X [h₀] l → PS X (.Try body [h₀] [] [] pos) (fun D σ H => tb (wGen X.K Wout D l) D σ H)
  | .only hc hsu .nil => Dl.PS_imp (ps_try_only hs hf hc tk hb hsu) fun _ _ _ z => z
  | .as hN hi hln hc hsu .nil => Dl.PS_imp (ps_try_as hs hf hN hi hln hc tk hb hsu) fun _ _ _ z => z
end
end L2
namespace Dl
open PySem PySem.Spec PyProof.Rows L2
noncomputable section

/-! ### try -/
/-- no name holds an exception -/
def noExn : En → Bool
  | [] => true
  | some (.exn _) :: _ => false
  | _ :: r => noExn r
def offE (i : Option Nat) (en : En) : En := match i with
  | some i => en.set i none
  | none => en
def onE (i : Option Nat) (x : Xc) (en : En) : En := match i with
  | some i => en.set i (some (.exn x))
  | none => en
/-- what ends a suite: the name goes -/
def offX (i : Option Nat) : Re Fl → Re Fl
  | .ok fl en so => if noExn (offE i en) then .ok fl (offE i en) so else .no
  | _ => .no
/-- a clause: its name's place, for the classes that may come whether they are its, its suite -/
structure ClD where
  i : Option Nat
  tbl : List (Nat × Bool)
  su : M Fl
def hdGo : List ClD → Xc → M Fl
  | [], x => fun en so => .exc x en so
  | q :: r, x => fun en so => match q.tbl.lookup x.cls with
    | some true => offX q.i (q.su (onE q.i x en) so)
    | some false => hdGo r x en so
    | none => .no
def sTry (body : M Fl) (cls : List ClD) : M Fl := fun en so => match body en so with
  | .exc x en1 so1 => hdGo cls x en1 so1
  | r => r
/-- the clause's class, for the classes that may come -/
def MatchD (K : PySem.W.Frag) (mg : Str → Option Value) (c : Value) (tbl : List (Nat × Bool)) : Prop := ∀ y b, tbl.lookup y = some b → ∃ C, mg (cnm y) = some (.ref C) ∧ PySem.W.exmOne K (.ref C) c = some b
inductive ClzD (X : Cx) : List ExceptHandler → List ClD → Prop
  | nil : ClzD X [] []
  | only {x : Str} {c : Value} {tbl : List (Nat × Bool)} {m : M Fl} {b₀ : Stmt} {suite : List Stmt} {np pos' : Pos} {hds : List ExceptHandler} {l : List ClD} (hc : Names X x c) (hm : MatchD X.K X.mg c tbl)
      (hsu : ∀ (a : Addr) (oe : Obj) (pn : List (Addr × Obj)), (∃ vs, oe.data = .fields vs) → DSs (X.suite a ((a, oe) :: pn)) W0 (b₀ :: suite) m) (r : ClzD X hds l) :
      ClzD X (.ExceptHandler (some (.Name x np)) none (b₀ :: suite) pos' :: hds) (⟨none, tbl, m⟩ :: l)
  | as {x n : Str} {i : Nat} {c : Value} {tbl : List (Nat × Bool)} {m : M Fl} {b₀ : Stmt} {suite : List Stmt} {np pos' : Pos} {hds : List ExceptHandler} {l : List ClD} (hN : X.N.Nodup) (hi : X.N[i]? = some n) (hln : X.env.kindOf n = some .local) (hc : Names X x c) (hm : MatchD X.K X.mg c tbl)
      (hsu : ∀ (a : Addr) (oe : Obj) (pn : List (Addr × Obj)), (∃ vs, oe.data = .fields vs) → DSs (X.suite a ((a, oe) :: pn)) W0 (b₀ :: suite) m) (r : ClzD X hds l) :
      ClzD X (.ExceptHandler (some (.Name x np)) (some n) (b₀ :: suite) pos' :: hds) (⟨some i, tbl, m⟩ :: l)
section
variable {K : PySem.W.Frag} {mg : Str → Option Value} {h h' : Option (Addr × Value × Option Addr)} {G : Gh} {en : En} {so : So} {σ : L2.St} {H : Hp}
theorem SimO.ev (s : SimO K ⟨mg, h⟩ G so H) : SimO K ⟨mg, h'⟩ G so H := ⟨s.fr, s.re, s.len, fun k o a dx e1 e2 => by
  have := s.ob k o a dx e1 e2
  cases o <;> exact this, s.lk, s.tb⟩
theorem noExn_at : ∀ {en : En} {i : Nat} {x : Xc}, noExn en = true → en[i]? = some (some (.exn x)) → False
  | [], i, x, _, e => by cases e
  | some (.exn _) :: _, i, x, h, _ => by cases h
  | some (.dat _) :: r, 0, x, _, e => by cases e
  | some (.cel _) :: r, 0, x, _, e => by cases e
  | none :: r, 0, x, _, e => by cases e
  | some (.dat _) :: r, i + 1, x, h, e => noExn_at (en := r) (i := i) h (by simpa using e)
  | some (.cel _) :: r, i + 1, x, h, e => noExn_at (en := r) (i := i) h (by simpa using e)
  | none :: r, i + 1, x, h, e => noExn_at (en := r) (i := i) h (by simpa using e)
/-- where no name holds an exception, what is handled does not matter -/
theorem Sim.ev (s : Sim K ⟨mg, h⟩ G en so σ H) (hn : noExn en = true) : Sim K ⟨mg, h'⟩ G en so σ H := ⟨s.toSimO.ev, s.ln, fun i b e => by
  obtain ⟨v, e1, r⟩ := s.sl i b e
  refine ⟨v, e1, ?_⟩
  cases b with
  | dat d => exact r
  | cel c => exact r
  | exn x => exact (noExn_at hn e).elim⟩
theorem Sim.noExn (s : Sim K ⟨mg, none⟩ G en so σ H) : noExn en = true := by
  have key : ∀ (l : En), (∀ (i : Nat) (x : Xc), l[i]? ≠ some (some (B.exn x))) → Dl.noExn l = true := by
    intro l
    induction l with
    | nil => intro _; rfl
    | cons o r ih =>
      intro hh
      have hr := ih fun i x e => hh (i + 1) x (by simpa using e)
      rcases o with _ | _ | _ | x
      · exact hr
      · exact hr
      · exact hr
      · exact (hh 0 x rfl).elim
  refine key en fun i x e => ?_
  obtain ⟨v, _, a, Ca, d, _, hx, _⟩ := s.sl i _ e
  cases hx
theorem Sim.offN (s : Sim K ⟨mg, h⟩ G en so σ H) (i : Option Nat) : Sim K ⟨mg, h⟩ G (offE i en) so (match i with | some i => σ.set i none | none => σ) H := by
  cases i with
  | none => exact s
  | some i => exact s.setN i
/-- the exception goes to its name -/
theorem Sim.exnIn {x : Xc} {Cl : Value} {d : Option Addr} {a : Addr} {i : Nat} (s : Sim K ⟨mg, none⟩ G en so σ H) (xr : XR K ⟨mg, none⟩ G H x Cl d) : ∃ G', G.le G' ∧ Sim K ⟨mg, some (a, Cl, d)⟩ G' (en.set i (some (.exn x))) so (σ.set i (some (.ref a))) H := by
  have s' : Sim K ⟨mg, some (a, Cl, d)⟩ G en so σ H := s.ev s.noExn
  obtain ⟨Ca, rfl, hm, hd⟩ := xr
  rcases hd with ⟨rfl, hc⟩ | ⟨da, vs, rfl, hda, ho, xf⟩
  · refine ⟨G, .refl G, ⟨s'.toSimO, by rw [List.length_set, List.length_set]; exact s'.ln, fun j b e => ?_⟩⟩
    by_cases hj : i = j
    · subst hj
      by_cases hl : i < en.length
      · rw [List.getElem?_set_self hl] at e
        cases e
        exact ⟨.ref a, by rw [List.getElem?_set_self (by rw [← s'.ln]; exact hl)], a, Ca, none, rfl, rfl, hm, .inl ⟨rfl, hc⟩⟩
      · rw [List.getElem?_eq_none (by rw [List.length_set]; omega)] at e
        cases e
    · rw [List.getElem?_set_ne hj] at e
      obtain ⟨v', e', r'⟩ := s'.sl j b e
      exact ⟨v', by rw [List.getElem?_set_ne hj]; exact e', r'⟩
  · have eF : Same G.F (G.tag da (.slot i)).F := Same.refl G.F
    have er : Pre G.rho (G.tag da (.slot i)).rho := fun _ _ h => h
    have kp : ∀ b t, G.own b = t → t ≠ .un → (G.tag da (.slot i)).own b = t := fun b t e q => by
      have : b ≠ da := fun z => q (by rw [← e, z]; exact ho)
      exact (if_neg this).trans e
    refine ⟨G.tag da (.slot i), tag_le _ _, ⟨⟨fun b u e => ?_, fun b u e => ?_, s'.len, fun k ob b dx e1 e2 => ?_, fun b u e => ?_, s'.tb⟩, by rw [List.length_set, List.length_set]; exact s'.ln, fun j b e => ?_⟩⟩
    · obtain ⟨h1, h2⟩ := s'.fr b u e
      exact ⟨h1, kp b _ h2 (by intro z; cases z)⟩
    · obtain ⟨h1, h2⟩ := s'.re b u e
      exact ⟨h1, kp b _ h2 (by intro z; cases z)⟩
    · exact (s'.ob k ob b dx e1 e2).keep eF er fun b u h1 h2 => ⟨h1, kp b _ rfl (by rcases h2 with h2 | h2 <;> (rw [h2]; intro z; cases z))⟩
    · obtain ⟨h1, h2⟩ := s'.lk b u e
      exact ⟨h1, kp b _ h2 (by intro z; cases z)⟩
    · by_cases hj : i = j
      · subst hj
        by_cases hl : i < en.length
        · rw [List.getElem?_set_self hl] at e
          cases e
          exact ⟨.ref a, by rw [List.getElem?_set_self (by rw [← s'.ln]; exact hl)], a, Ca, some da, rfl, rfl, hm, .inr ⟨da, vs, rfl, tag_own, hda, xf.mono eF er⟩⟩
        · rw [List.getElem?_eq_none (by rw [List.length_set]; omega)] at e
          cases e
      · rw [List.getElem?_set_ne hj] at e
        obtain ⟨v', e', r'⟩ := s'.sl j b e
        exact ⟨v', by rw [List.getElem?_set_ne hj]; exact e', r'.keep eF er fun b u h1 h2 => ⟨h1, kp b _ h2 (by intro z; cases z)⟩⟩
/-- the suite's end read by what is wanted behind it -/
theorem offX_post {W : WX} {E : Ends} {G2 : Gh} {r : Re Fl} {i : Option Nat} (l : G.le G2) (p : SPost K ⟨mg, none⟩ G W (offX i r) E) :
    SPost K ⟨mg, h⟩ G2 W0 r (match i with | some i => E.off i | none => E) := by
  cases r with
  | no => exact p.elim
  | exc x en so => exact p.elim
  | ok fl en so =>
    have p : SPost K ⟨mg, none⟩ G W (if noExn (offE i en) then .ok fl (offE i en) so else .no) E := p
    by_cases hn : noExn (offE i en) = true
    case neg => rw [if_neg hn] at p; exact p.elim
    rw [if_pos hn] at p
    cases fl with
    | nx =>
      intro σ' H' G' l' s'
      have q := p _ H' G' (l.trans l') ((s'.offN i).ev hn)
      cases i <;> exact q
    | bk =>
      intro σ' H' G' l' s'
      have q := p _ H' G' (l.trans l') ((s'.offN i).ev hn)
      cases i <;> exact q
    | ct =>
      intro σ' H' G' l' s'
      have q := p _ H' G' (l.trans l') ((s'.offN i).ev hn)
      cases i <;> exact q
    | rt b =>
      intro v σ' H' G' l' s' rb
      have q := p v _ H' G' (l.trans l') ((s'.offN i).ev hn) rb
      cases i <;> exact q
end
section
variable {X : Cx} {W : WX} {body : List Stmt} {h₀ : ExceptHandler} {hds : List ExceptHandler} {cs : List ClD} {pos : Pos} {mb : M Fl}
theorem clz_ok (h : ClzD X hds cs) : ∃ l, ClzOk X hds l ∧ ∀ (E : Ends) (x : Xc) (en : En) (so : So) (G : Gh), SPost X.K ⟨X.mg, none⟩ G W (hdGo cs x en so) E →
    ∀ Cl d σ' H' G', G.le G' → Sim X.K ⟨X.mg, none⟩ G' en so σ' H' → XR X.K ⟨X.mg, none⟩ G' H' x Cl d → wGen X.K W E l Cl d σ' H' := by
  induction h with
  | nil => exact ⟨[], .nil, fun E x en so G p Cl d σ' H' G' l s xr => p Cl d σ' H' G' l s xr⟩
  | @only x c tbl m b₀ suite np pos' hds l hc hm hsu r ih =>
    obtain ⟨l2, ok, ih⟩ := ih
    refine ⟨⟨c, none, fun a cls d => tS X.K ⟨X.mg, some (a, cls, d)⟩ W0 m⟩ :: l2, .only hc (fun a oe cls d pn hz hf => ?_) ok, fun E x en so G p Cl d σ' H' G' l s xr => ?_⟩
    · obtain ⟨rfl, rfl⟩ := hz
      exact (hsu a oe pn hf).ps
    · have p : SPost X.K ⟨X.mg, none⟩ G W (match tbl.lookup x.cls with | some true => offX none (m en so) | some false => hdGo _ x en so | none => .no) E := p
      cases e : tbl.lookup x.cls with
      | none => rw [e] at p; exact p.elim
      | some b =>
        obtain ⟨C, e1, e2⟩ := hm _ _ e
        obtain ⟨Ca, rfl, e3, hd⟩ := id xr
        have : C = Ca := by cases e1.symm.trans e3; rfl
        subst this
        rw [e] at p
        refine ⟨b, e2, fun hb a _ => ?_, fun hb => ?_⟩
        · subst hb
          exact ⟨G', en, so, s.ev s.noExn, offX_post (i := none) l p⟩
        · subst hb
          exact ih E x en so G p _ d σ' H' G' l s xr
  | @as x n i c tbl m b₀ suite np pos' hds l hN hi hln hc hm hsu r ih =>
    obtain ⟨l2, ok, ih⟩ := ih
    refine ⟨⟨c, some i, fun a cls d => tS X.K ⟨X.mg, some (a, cls, d)⟩ W0 m⟩ :: l2, .as hN hi hln hc (fun a oe cls d pn hz hf => ?_) ok, fun E x en so G p Cl d σ' H' G' l s xr => ?_⟩
    · obtain ⟨rfl, rfl⟩ := hz
      exact (hsu a oe pn hf).ps
    · have p : SPost X.K ⟨X.mg, none⟩ G W (match tbl.lookup x.cls with | some true => offX (some i) (m (en.set i (some (.exn x))) so) | some false => hdGo _ x en so | none => .no) E := p
      cases e : tbl.lookup x.cls with
      | none => rw [e] at p; exact p.elim
      | some b =>
        obtain ⟨C, e1, e2⟩ := hm _ _ e
        obtain ⟨Ca, rfl, e3, hd⟩ := id xr
        have : C = Ca := by cases e1.symm.trans e3; rfl
        subst this
        rw [e] at p
        refine ⟨b, e2, fun hb a _ => ?_, fun hb => ?_⟩
        · subst hb
          obtain ⟨G2, l2, s2⟩ := s.exnIn (a := a) (i := i) xr
          exact ⟨G2, _, so, s2, offX_post (i := some i) (l.trans l2) p⟩
        · subst hb
          exact ih E x en so G p _ d σ' H' G' l s xr
/-- a try statement whose rule in the library is known -/
theorem try_of {l : List Clz} (hc : X.calm = true) (ps : PS X (.Try body (h₀ :: hds) [] [] pos) (fun D σ H => tS X.K ⟨X.mg, none⟩ (wGen X.K W D l) mb D σ H))
    (key : ∀ (E : Ends) (x : Xc) (en : En) (so : So) (G : Gh), SPost X.K ⟨X.mg, none⟩ G W (hdGo cs x en so) E →
    ∀ Cl d σ' H' G', G.le G' → Sim X.K ⟨X.mg, none⟩ G' en so σ' H' → XR X.K ⟨X.mg, none⟩ G' H' x Cl d → wGen X.K W E l Cl d σ' H') : DS X W (.Try body (h₀ :: hds) [] [] pos) (sTry mb cs) := by
  refine ⟨?_⟩
  rw [ev_calm hc]
  refine PS_imp ps fun E σ H ⟨G, en, so, s, p⟩ => ⟨G, en, so, s, ?_⟩
  unfold sTry at p
  cases e : mb en so with
  | no => rw [e] at p; exact p
  | ok fl en1 so1 => rw [e] at p; cases fl <;> exact p
  | exc x en1 so1 =>
    rw [e] at p
    exact fun Cl d σ' H' G' l' s' xr => key E x en1 so1 G p Cl d σ' H' G' l' s' xr
theorem body_of (hc : X.calm = true) (hb : ∀ (W : WX) (pn : List (Addr × Obj)) (xe : Value → Shared → Prop), Takes (X.tr pn xe) W → PassesOwn (model X.prog X.w) X.A X.env xe → DSs (X.tr pn xe) W body mb) :
    ∀ (W : WX) (pn : List (Addr × Obj)) (xe : Value → Shared → Prop), Takes (X.tr pn xe) W → PassesOwn (model X.prog X.w) X.A X.env xe → PSs (X.tr pn xe) body (tS X.K ⟨X.mg, none⟩ W mb) := fun W' pn xe tk' ps' => by
  have := (hb W' pn xe tk' ps').ps
  rw [ev_calm (X := X.tr pn xe) hc] at this
  exact this
theorem s_try (hs : X.stack = X.env :: X.outer) (hf : X.env.frame = some X.env.locals) (hc : X.calm = true) (tk : Takes X W)
    (hb : ∀ (W : WX) (pn : List (Addr × Obj)) (xe : Value → Shared → Prop), Takes (X.tr pn xe) W → PassesOwn (model X.prog X.w) X.A X.env xe → DSs (X.tr pn xe) W body mb)
    (hh : ClzD X [h₀] cs) : DS X W (.Try body [h₀] [] [] pos) (sTry mb cs) := by
  obtain ⟨l, ok, key⟩ := clz_ok (W := W) hh
  exact try_of hc (ps_try_1 (pos := pos) (tb := fun W' => tS X.K ⟨X.mg, none⟩ W' mb) hs hf tk (body_of hc hb) ok) key
end

/-! ### e.f, isinstance(e, C) -/
/-- e.f of the exception that the i-th name holds: by its class the field's place -/
def mXf (i : Nat) (cs : List (Nat × Nat)) : M D := fun en so => match en[i]? with
  | some (some (.exn x)) => (match cs.lookup x.cls with
    | some j => (match x.fs[j]? with
      | some d => .ok d en so
      | none => .no)
    | none => .no)
  | _ => .no
/-- isinstance(e, C) .. : by its class the answer -/
def mIsX (i : Nat) (tbl : List (Nat × Bool)) : M D := fun en so => match en[i]? with
  | some (some (.exn x)) => (match tbl.lookup x.cls with
    | some b => .ok (.bl b) en so
    | none => .no)
  | _ => .no
def rIsD (K : PySem.W.Frag) (D a : Addr) (d : Option Addr) : List V → Hp → VK → Prop := fun xs H Q => ∃ (c : V) (cv : Value) (b : Bool), xs = [.ref a, c] ∧ (∀ u, RelV c u → u = cv) ∧ PySem.W.kitOne K (.ref D) cv = some b ∧ (d = none ∨ ∃ dd fs, d = some dd ∧ H dd = some (.xd fs)) ∧ Q (.bl b) H
theorem call_isD {X : Cx} {a D : Addr} {oe : Obj} {d : Option Addr} {pn : List (Addr × Obj)} (C : ExcC X.K D) (hz : Zc (.ref D) d oe) (hf : ∃ vs, oe.data = .fields vs) : CallR (X.suite a ((a, oe) :: pn)) (.builtin "isinstance") (rIsD X.K D a d) := by
  intro pins s σ H xs us Q I r h
  obtain ⟨c, cv, b, rfl, hcv, e, hd, q⟩ := h
  cases r with
  | cons rx rr =>
    cases rr with
    | cons rt rr =>
      cases rr
      cases rx
      have ec := hcv _ rt
      subst ec
      obtain ⟨hget, _⟩ := I.pin (a, oe) (List.mem_append.mpr (.inl List.mem_cons_self))
      obtain ⟨vs, hv⟩ := hf
      have hcl : (PySem.W.clsIn X.K D).isSome = true := by
        obtain ⟨cd, hc, _⟩ := PySem.W.any_some C.hd
        rw [hc]; rfl
      have J : ∃ od, PySem.W.InstAt s.heap a oe D od := by
        rcases hd with rfl | ⟨dd, fs, rfl, hx⟩
        · refine ⟨none, ?_⟩
          obtain ⟨oc, od, oda, osl⟩ := oe
          obtain ⟨h1, h2⟩ := hz
          dsimp only at h1 h2 hv
          subst h1 h2 hv
          exact ⟨hget, rfl, rfl, trivial⟩
        · have hx' : ObjOk X.prog X.w H s.heap dd (.xd fs) := I.hok dd _ hx
          obtain ⟨mA, hns, hr⟩ := hx'
          obtain ⟨od, ho, hl⟩ := lookIn_ns hns
          exact ⟨some od, hget, hz.1, by unfold PySem.W.notCls; rw [hv] <;> rfl, by rw [hz.2]; exact ho⟩
      obtain ⟨od, J⟩ := J
      exact PySem.W.kia_one (PySem.W.kitx_exc hcl C.hg C.hk C.hs C.ha C.hn C.ht C.hm) I.kIn J e (fun z => nomatch z) fun tk => ⟨.bl b, H, I.kept (t' := tk) fun _ _ z => z, rfl, q⟩
section
variable {X : Cx} {W : WX} {a : Addr} {oe : Obj} {pn : List (Addr × Obj)}
theorem Sim.exnAt {K : PySem.W.Frag} {mg : Str → Option Value} {Cl : Value} {d : Option Addr} {G : Gh} {en : En} {so : So} {σ : L2.St} {H : Hp} {i : Nat} {x : Xc} (s : Sim K ⟨mg, some (a, Cl, d)⟩ G en so σ H) (e : en[i]? = some (some (.exn x))) :
    ∃ Ca, σ[i]? = some (some (.ref a)) ∧ Cl = .ref Ca ∧ mg (cnm x.cls) = some (.ref Ca) ∧ ((d = none ∧ clay x.cls = []) ∨ ∃ dd vs, d = some dd ∧ H dd = some (.xd vs) ∧ XFs K G x.cls vs x.fs) := by
  obtain ⟨v, e1, a', Ca, d', rfl, hx, hm, h⟩ := s.sl i _ e
  cases hx
  exact ⟨Ca, e1, rfl, hm, h.elim .inl fun ⟨dd, vs, h1, _, h2, h3⟩ => .inr ⟨dd, vs, h1, h2, h3⟩⟩
/-- e.f in a suite -/
theorem d_xf (i : Nat) {cs : List (Nat × Nat)} {x f : Str} {pos p : Pos} (hf : ∃ vs, oe.data = .fields vs)
    (hT : ∀ c j, cs.lookup c = some j → (clay c)[j]? = some f ∧ ∃ C, X.mg (cnm c) = some (.ref C) ∧ XfC X.K C ∧ PySem.W.findIn X.K (.ref C) f = some none)
    (hN : X.N[i]? = some x := by rfl) (hv : Vis X.env.scope x := by first | exact Or.inl rfl | exact Or.inr (Or.inl rfl) | exact Or.inr (Or.inr rfl)) (hd : (x == ("__debug__" : Str)) = false := by decide)
    (hcd : (x == ("__classdict__" : Str)) = false := by decide) (hb : attributeBase (.Name x p) f X.env (eval (.Name x p) X.env) = eval (.Name x p) X.env := by rfl) : DE (X.suite a ((a, oe) :: pn)) W (.Attribute (.Name x p) f pos) (mXf i cs) := by
  refine ⟨⟨fun pins s σ H Q I q => ?_⟩⟩
  obtain ⟨G, en, so, sm, p⟩ := q
  have sm : Sim X.K ⟨X.mg, some (a, oe.cls, oe.dict)⟩ G en so σ H := sm
  unfold mXf at p
  split at p
  case h_2 => exact p.elim
  rename_i xc ex
  split at p
  case h_2 => exact p.elim
  rename_i j ej
  split at p
  case h_2 => exact p.elim
  rename_i d ed
  obtain ⟨hl, C, hm, hX, hno⟩ := hT _ _ ej
  obtain ⟨Ca, e1, hcl, hm2, hd2⟩ := sm.exnAt ex
  cases hm.symm.trans hm2
  refine (pe_xf (X := X) (pn := pn) (d := oe.dict) (cls := oe.cls) hX hno ⟨rfl, rfl⟩ hf (pe_var (X := X.suite a ((a, oe) :: pn)) (i := i) hN hv hd hcd) hb).run pins s σ H Q I ?_
  rcases hd2 with ⟨_, hc⟩ | ⟨dd, vs, h1, h2, h3⟩
  · rw [hc] at hl; cases hl
  · obtain ⟨v, d', g1, g2, g3⟩ := h3 j f hl
    rw [ed] at g2
    cases g2
    exact ⟨_, e1, rfl, hcl, dd, vs, v, h1, h2, g1, p.ok sm g3⟩
/-- isinstance(e, C) in a suite -/
theorem d_isX (i : Nat) {tbl : List (Nat × Bool)} {x : Str} {pos p p2 : Pos} {eC : Expr} {v : V} {cv : Value} (hf : ∃ vs, oe.data = .fields vs)
    (hT : ∀ c b, tbl.lookup c = some b → ∃ C, X.mg (cnm c) = some (.ref C) ∧ ExcC X.K C ∧ PySem.W.kitOne X.K (.ref C) cv = some b)
    (hC : PE (X.suite a ((a, oe) :: pn)) eC (tC v)) (hcv : ∀ u, RelV v u → u = cv) (hg : Gl X "isinstance") (hm : X.mg "isinstance" = none)
    (hN : X.N[i]? = some x := by rfl) (hv : Vis X.env.scope x := by first | exact Or.inl rfl | exact Or.inr (Or.inl rfl) | exact Or.inr (Or.inr rfl)) (hd : (x == ("__debug__" : Str)) = false := by decide)
    (hcd : (x == ("__classdict__" : Str)) = false := by decide) (he : starEach [.Name x p, eC] X.env = (false, eval (.Name x p) X.env) :: starEach [eC] X.env := by rfl) (he2 : starEach [eC] X.env = (false, eval eC X.env) :: starEach [] X.env := by rfl) (hpl : (backTo pos (starEach [eC] X.env)).any (·.1) = false := by rfl) :
    DE (X.suite a ((a, oe) :: pn)) W (.Call (.Name "isinstance" p2) [.Name x p, eC] [] pos) (mIsX i tbl) := by
  refine ⟨⟨fun pins s σ H Q I q => ?_⟩⟩
  obtain ⟨G, en, so, sm, p⟩ := q
  have sm : Sim X.K ⟨X.mg, some (a, oe.cls, oe.dict)⟩ G en so σ H := sm
  unfold mIsX at p
  split at p
  case h_2 => exact p.elim
  rename_i xc ex
  split at p
  case h_2 => exact p.elim
  rename_i b eb
  obtain ⟨C, hm1, hX, hk⟩ := hT _ _ eb
  obtain ⟨Ca, e1, hcl, hm2, hd2⟩ := sm.exnAt ex
  cases hm1.symm.trans hm2
  refine (pe_callB (X := X.suite a ((a, oe) :: pn)) (call_isD (X := X) (pn := pn) (d := oe.dict) hX ⟨hcl, rfl⟩ hf) hg hm boot_isinstance (pa_cons (pe_var (X := X.suite a ((a, oe) :: pn)) (i := i) hN hv hd hcd) (pa_cons hC pa_nil he2) he) (he := he) (hpl := hpl)).run pins s σ H Q I ?_
  refine ⟨_, e1, v, cv, b, rfl, hcv, hk, hd2.elim (fun h => .inl h.1) (fun ⟨dd, vs, h1, h2, _⟩ => .inr ⟨dd, vs, h1, h2⟩), p.ok sm (.bl b)⟩
end
end
end Dl

set_option Elab.async false
set_option linter.all false
set_option maxRecDepth 100000
set_option maxHeartbeats 4000000
/-! The data level: try with several clauses, each with or without a name. -/
namespace L2
open PySem PySem.Spec PyProof.Rows
section
variable {X : Cx} {bd : List Stmt} {q₀ : ExceptHandler} {qs : List ExceptHandler} {l : List Clz} {pz : Pos} {tb : WX → TS} {Wo : WX}
/-- what is done with an exception that leaves the body -/
def Caught (X : Cx) (qs : List ExceptHandler) (pins : List (Addr × Obj)) (D : Ends) (e : Value) (s₁ : Shared) : Prop :=
  wpAny (model X.prog X.w) X.A (noteFrame e X.env) (fun _ s₂ => wpAny (model X.prog X.w) X.A (setFlight e none)
    (fun _ s₃ => wpAny (model X.prog X.w) X.A (handleBy e X.env qs) (SP X pins D) X.xe s₃) X.xe s₂) X.xe s₁
/-- the class that a clause names is looked up where the exception is at hand -/
theorem clz_name {x : Str} {c : Value} {np : Pos} {a : Addr} {oe : Obj} {pins : List (Addr × Obj)} {σ : St} {H : Hp} {s : Shared} (S : Inv (X.suite a ((a, oe) :: (X.pn ++ pins))) [] σ H s) (nm : Names X x c) {Q : Value → Shared → Prop} {E : Value → Shared → Prop} (q : Q c s) :
    wpAny (model X.prog X.w) (X.A.mark (some (.ref a))) (eval (.Name x np) X.env) Q E s := by
  rcases nm with ⟨n1, n2, n3 | ⟨n3, n4, n5⟩⟩
  · exact ld_glob (X := X.suite a ((a, oe) :: (X.pn ++ pins))) S n1 n3 q n2
  · exact ld_blt (X := X.suite a ((a, oe) :: (X.pn ++ pins))) S n1 n3 n4 q n5 n2
theorem ps_try_gen (st : X.stack = X.env :: X.outer) (fr : X.env.frame = some X.env.locals) (tk : Takes X Wo)
    (hb : ∀ (W : WX) (pn : List (Addr × Obj)) (xe : Value → Shared → Prop), Takes (X.tr pn xe) W → PassesOwn (model X.prog X.w) X.A X.env xe → PSs (X.tr pn xe) bd (tb W))
    (cl : ClzOk X (q₀ :: qs) l) : PS X (.Try bd (q₀ :: qs) [] [] pz) (fun D σ H => tb (wGen X.K Wo D l) D σ H) := by
  constructor
  intro pins s σ H D I p
  have ok := I.ok
  have frs2 : X.A.frames = some (X.env :: X.outer) := (ok.frames).trans (congrArg some st)
  have caught : Takes (X.tr (X.pn ++ pins) (Caught X (q₀ :: qs) pins D)) (wGen X.K Wo D l) := by
    intro u s' z
    rcases z with ⟨a, B, sI, pn2, σ', H', C, dd, rfl, J', nb, up, sky, na, os, ag, w⟩
    have J : Inv X pins σ' H' sI := Inv.ofTry J' ok
    have sk : Sky B (X.env :: X.outer) a (Zc C dd) X.env.locals s'.heap := st ▸ sky
    show Caught X (q₀ :: qs) pins D (.ref a) s'
    unfold Caught
    refine Sky.land Zc.steady frs2 fr sk fun g fl u3 => ?_
    have Jg : Inv X pins σ' H' { s' with heap := g } := Inv.landed J nb fl.1 ((up.trans u3)) os ag
    rcases fl.there with ⟨oe, vs, g1, g2, g3⟩
    have out : a ∉ frs (X.env :: X.outer) := fun hm => by
      rcases fl.2.2.1.mem hm with ⟨_, o2, e2, nf⟩
      cases g1.symm.trans e2
      exact nf _ g3
    have o1 : a ≠ X.env.locals := fun z => out (List.mem_filterMap.mpr ⟨X.env, .head _, z ▸ fr⟩)
    have o2 : a ∉ X.fs := fun hm => by
      rcases List.mem_filterMap.mp hm with ⟨e, h1, h2⟩
      exact out (List.mem_filterMap.mpr ⟨e, .tail _ h1, h2⟩)
    have S := Inv.suite Jg g1 g3 na o1 o2
    have LT : PySem.W.Looks (model X.prog X.w) g (typeOf (.ref a)) C := fun _ _ _ _ k z => wpAny_typeOf_ref (k _ _ g1) (g2.1 ▸ z)
    have turn : ∀ {hs' : List ExceptHandler} {l' : List Clz}, ClzOk X hs' l' → wGen X.K Wo D l' C dd σ' H' →
        wpAny (model X.prog X.w) X.A (handleBy (.ref a) X.env hs') (SP X pins D) X.xe { s' with heap := g } := by
      intro hs' l' k
      induction k with
      | nil =>
        intro w
        have on : wpAny (model X.prog X.w) X.A (setFlight (.ref a) X.env.frame) (fun _ s4 => wpAny (model X.prog X.w) X.A (throw (.ref a) : Sem Flow) (SP X pins D) X.xe s4) X.xe { s' with heap := g } := by
          rw [fr]
          exact HandSPX.setFlight_upZ fl fun g5 hg5 u5 => wpAny_throw (tk _ _ ⟨a, B, sI, pins, σ', H', C, dd, rfl, J, nb, (.trans (up.trans u3) u5), .inr (.inr (st.symm ▸ hg5)), na, os, ag, w⟩)
        rcases id fl with ⟨_, _, _, oe', vs', T, oT, ts', k1, k2, k3, k4, _⟩
        apply wpAny_handleBy_nil
        unfold PySem.passOn
        apply wpAny_bind
        apply wpAny_field k1 k3 k4
        have nn : ¬ ((Value.ref T == Value.none) = true) := by simp
        rw [if_neg nn]
        first
          | exact wpAny_bind (wpAny_pure (wpAny_bind on))
          | exact wpAny_bind on
      | @only x c ts b₀ su np p2 hs2 l2 nm hsu r ih =>
        rintro ⟨b, e1, yes, no⟩
        apply wpAny_handleBy_cons (hnb := ?q)
        case q => exact fun z => nomatch z
        apply codeAny_handlers_test
        apply clz_name S nm
        apply (PySem.W.exm_one (M := model X.prog X.w) (Jg.kIn) LT e1).here
        cases b with
        | false => exact ih (no rfl)
        | true =>
          apply codeAny_handlers_suite
          refine HandSPX.lands_againZ fl fun g5 fl5 u5 => ?_
          have J5 : Inv X pins σ' H' { s' with heap := g5 } := J.landed nb fl5.1 (.trans (up.trans u3) u5) os ag
          rcases fl5.there with ⟨oe5, vs5, k1, k2, k3⟩
          refine wpAny_mono ((hsu a oe5 C dd (X.pn ++ pins) k2 ⟨_, k3⟩).run [] _ _ H' _ (Inv.suite J5 k1 k3 na o1 o2) (yes rfl a na)) (fun f s6 z => ?_) fun _ _ z => z.elim
          cases f with
          | next => rcases z with ⟨σ6, H6, S6, z⟩; exact ⟨_, _, S6.unsuite ok, z⟩
          | brk => rcases z with ⟨σ6, H6, S6, z⟩; exact ⟨_, _, S6.unsuite ok, z⟩
          | cont => rcases z with ⟨σ6, H6, S6, z⟩; exact ⟨_, _, S6.unsuite ok, z⟩
          | ret u => rcases z with ⟨v6, σ6, H6, S6, r6, z⟩; exact ⟨_, _, _, S6.unsuite ok, r6, z⟩
      | @as x n i c ts b₀ su np p2 hs2 l2 hN hi hln nm hsu r ih =>
        rintro ⟨b, e1, yes, no⟩
        apply wpAny_handleBy_cons (hnb := ?q)
        case q => exact fun z => nomatch z
        apply codeAny_handlers_test
        apply clz_name S nm
        apply (PySem.W.exm_one (M := model X.prog X.w) (Jg.kIn) LT e1).here
        cases b with
        | false => exact ih (no rfl)
        | true =>
          apply codeAny_handlers_suite_as
          refine HandSPX.lands_againZ fl fun g5 fl5 u5 => ?_
          have J5 : Inv X pins σ' H' { s' with heap := g5 } := J.landed nb fl5.1 (.trans (up.trans u3) u5) os ag
          rcases fl5.there with ⟨oe5, vs5, k1, k2, k3⟩
          refine store_ok (X := X.suite a ((a, oe5) :: (X.pn ++ pins))) (v := .ref a) (Inv.suite J5 k1 k3 na o1 o2) hN hi (.inl hln) rfl (fun s5 S5 => ?_) (.inr hln)
          refine wpAny_mono ((hsu a oe5 C dd (X.pn ++ pins) k2 ⟨_, k3⟩).run [] s5 _ H' _ S5 (yes rfl a na)) (fun f s6 z => ?_) fun _ _ z => z.elim
          have bye : ∀ {σ6 : St} {H6 : Hp} {Q : Shared → Prop}, Inv (X.suite a ((a, oe5) :: (X.pn ++ pins))) [] σ6 H6 s6 → (∀ s7, Inv X pins (σ6.set i none) H6 s7 → Q s7) →
              wpAny (model X.prog X.w) X.A (bindName X.env n .none >>= fun _ => unbindBehindTheSuite X.env n p2) (fun _ s7 => Q s7) X.xe s6 := fun S6 h7 => gone_ok (Inv.unsuite S6 ok) hN hi hln h7
          cases f with
          | next => rcases z with ⟨σ6, H6, S6, z⟩; exact bye S6 fun s7 J7 => ⟨_, _, J7, z⟩
          | brk => rcases z with ⟨σ6, H6, S6, z⟩; exact bye S6 fun s7 J7 => ⟨_, _, J7, z⟩
          | cont => rcases z with ⟨σ6, H6, S6, z⟩; exact bye S6 fun s7 J7 => ⟨_, _, J7, z⟩
          | ret u => rcases z with ⟨v6, σ6, H6, S6, r6, z⟩; exact bye S6 fun s7 J7 => ⟨_, _, _, J7, r6, z⟩
    exact turn cl w
  have run := (hb (wGen X.K Wo D l) (X.pn ++ pins) (Caught X (q₀ :: qs) pins D) caught PassesOwn.looking).run [] s σ H D (I.toTry _) p
  refine wpAny_Try_except (wpAny_mono run (fun f s1 z => ?_) fun _ _ z => z)
  · cases f with
    | next => rcases z with ⟨σ2, H2, J2, z⟩; exact wpAny_execs_nil ⟨σ2, H2, J2.ofTry ok, z⟩
    | brk => rcases z with ⟨σ2, H2, J2, z⟩; exact ⟨σ2, H2, J2.ofTry ok, z⟩
    | cont => rcases z with ⟨σ2, H2, J2, z⟩; exact ⟨σ2, H2, J2.ofTry ok, z⟩
    | ret u => rcases z with ⟨v2, σ2, H2, J2, r2, z⟩; exact ⟨v2, σ2, H2, J2.ofTry ok, r2, z⟩
end
end L2
namespace Dl
open PySem PySem.Spec PyProof.Rows L2
noncomputable section
section
variable {X : Cx} {W : WX} {body : List Stmt} {h₀ : ExceptHandler} {hds : List ExceptHandler} {cs : List ClD} {pos : Pos} {mb : M Fl}
theorem s_tries (hs : X.stack = X.env :: X.outer) (hf : X.env.frame = some X.env.locals) (hc : X.calm = true) (tk : Takes X W)
    (hb : ∀ (W : WX) (pn : List (Addr × Obj)) (xe : Value → Shared → Prop), Takes (X.tr pn xe) W → PassesOwn (model X.prog X.w) X.A X.env xe → DSs (X.tr pn xe) W body mb)
    (hh : ClzD X (h₀ :: hds) cs) : DS X W (.Try body (h₀ :: hds) [] [] pos) (sTry mb cs) := by
  obtain ⟨l, ok, key⟩ := clz_ok (W := W) hh
  exact try_of hc (ps_try_gen (pz := pos) (tb := fun W' => tS X.K ⟨X.mg, none⟩ W' mb) hs hf tk (body_of hc hb) ok) key
end
end
end Dl

set_option Elab.async false
set_option linter.all false
set_option maxRecDepth 100000
set_option maxHeartbeats 2000000
/-! The data level: objects: fields, new objects, methods; lists and dicts that go into the store; calls without arguments. -/
namespace Dl
open PySem PySem.Spec PyProof.Rows L2
noncomputable section

/-! ### the ghost grows -/
section
variable {K : PySem.W.Frag} {mg : Ev} {G : Gh} {en : En} {so : So} {σ : L2.St} {H : Hp}
/-- a result's owner is named -/
theorem Sim.retag {a : Addr} {t : Tag} (s : Sim K mg G en so σ H) (w : G.own a = .tmp) : Sim K mg (G.tag a t) en so σ H := by
  refine s.keep (Same.refl _) rfl rfl (fun b o e h => ⟨e, ?_⟩) fun b o e => .inl e
  have : b ≠ a := fun z => h (by rw [z]; exact w)
  exact if_neg this
def _root_.Dl.Gh.push (G : Gh) (p : Addr × Addr) : Gh := { G with rho := G.rho ++ [p] }
theorem pre_push {A : Type} (l : List A) (x : A) : Pre l (l ++ [x]) := fun k y h => by
  rw [List.getElem?_append_left (List.getElem?_eq_some_iff.mp h).1]
  exact h
theorem push_le (G : Gh) (p : Addr × Addr) : G.le (G.push p) := ⟨Same.refl _, pre_push _ _, RLe.refl _, rfl⟩
/-- the store grows -/
theorem Sim.push {a dx : Addr} {o : Sc} (s : Sim K mg G en so σ H) (h : ObR K mg G H so.length a dx o) : Sim K mg (G.push (a, dx)) en (so ++ [o]) σ H ∧ (G.push (a, dx)).rho[so.length]? = some (a, dx) := by
  have pr : Pre G.rho (G.push (a, dx)).rho := pre_push _ _
  have eF : Same G.F (G.push (a, dx)).F := Same.refl G.F
  have hl : (G.push (a, dx)).rho[so.length]? = some (a, dx) := by
    show (G.rho ++ [(a, dx)])[so.length]? = _
    rw [s.len, List.getElem?_concat_length]
  refine ⟨⟨⟨s.fr, s.re, by show (so ++ [o]).length = (G.rho ++ [(a, dx)]).length; rw [List.length_append, List.length_append, s.len]; rfl, fun k q b dy e1 e2 => ?_, s.lk, s.tb⟩, s.ln, fun i b e => ?_⟩, hl⟩
  · by_cases hk : k < so.length
    · rw [List.getElem?_append_left hk] at e1
      have e2' : (G.rho ++ [(a, dx)])[k]? = some (b, dy) := e2
      rw [List.getElem?_append_left (by rw [← s.len]; exact hk)] at e2'
      exact (s.ob k q b dy e1 e2').keep eF pr fun c u h1 _ => ⟨h1, rfl⟩
    · have hk2 : k = so.length := by
        have := (List.getElem?_eq_some_iff.mp e1).1
        rw [List.length_append, List.length_singleton] at this
        omega
      subst hk2
      rw [hl] at e2
      rw [List.getElem?_concat_length] at e1
      cases e1
      cases e2
      exact h.keep eF pr fun c u h1 _ => ⟨h1, rfl⟩
  · obtain ⟨v, e1, r⟩ := s.sl i b e
    exact ⟨v, e1, r.keep eF pr fun c u h1 h2 => ⟨h1, h2⟩⟩
/-! ### fields -/
theorem lay_ix {c i j : Nat} {f : Str} (h1 : (clay c)[i]? = some f) (h2 : (clay c)[j]? = some f) : i = j := L2.nodup_ix (clay_nd c).1 h1 h2
theorem putF_hit {f : Str} {v : V} : ∀ {fs : List (Str × V)} {u : V}, fs.lookup f = some u → (putF f v fs).length = fs.length
  | [], u, h => by cases h
  | (g, x) :: r, u, h => by
    rw [show putF f v ((g, x) :: r) = (if g = f then (g, v) :: r else (g, x) :: putF f v r) from rfl]
    by_cases hk : g = f
    · rw [if_pos hk]; rfl
    · rw [if_neg hk, List.length_cons, List.length_cons]
      have hb : (f == g) = false := by simp only [beq_eq_false_iff_ne, ne_eq]; exact fun z => hk z.symm
      rw [List.lookup_cons, hb] at h
      rw [putF_hit h]
theorem cnt_set {A : Type} {p : A → Bool} : ∀ {l : List A} {i : Nat} {x y : A}, l[i]? = some x → p y = true → (l.set i y).countP p = l.countP p + (if p x = true then 0 else 1)
  | [], i, x, y, h, _ => by cases h
  | z :: l, 0, x, y, h, hy => by
    cases h
    rw [List.set_cons_zero, List.countP_cons, List.countP_cons, hy]
    by_cases hx : p z = true
    · simp [hx]
    · simp [hx]
  | z :: l, i + 1, x, y, h, hy => by
    have h' : l[i]? = some x := by simpa using h
    rw [List.set_cons_succ, List.countP_cons, List.countP_cons, cnt_set h' hy]
    omega
theorem OF.set {c i : Nat} {f : Str} {vs : List (Str × V)} {fs : List (Option D)} {v : V} {d : D} (h : OF K G c vs fs) (hf : (clay c)[i]? = some f) (r : Rep K G.F G.rho v d) : OF K G c (putF f v vs) (fs.set i (some d)) := by
  have hi : i < fs.length := by rw [h.len]; exact (List.getElem?_eq_some_iff.mp hf).1
  refine ⟨by rw [List.length_set]; exact h.len, fun j g e => ?_, fun g hg => ?_, ?_⟩
  · rw [lookup_putF]
    by_cases hj : i = j
    · subst hj
      have : g = f := by rw [hf] at e; cases e; rfl
      subst this
      rw [List.getElem?_set_self hi, if_pos rfl]
      exact ⟨fun d' hd => by cases hd; exact ⟨v, rfl, r⟩, fun z => by cases z⟩
    · have hg : ¬ g = f := fun z => hj (lay_ix hf (z ▸ e))
      rw [List.getElem?_set_ne hj, if_neg hg]
      exact h.at_ j g e
  · rw [lookup_putF, if_neg fun (z : g = f) => hg (z ▸ List.mem_of_getElem? hf)]
    exact h.out g hg
  · have e0 : fs[i]? = some fs[i] := List.getElem?_eq_getElem hi
    rw [cnt_set e0 rfl]
    cases q : fs[i] with
    | none =>
      have := length_putF f v vs
      have := h.few
      simp only [Option.isSome_none, Bool.false_eq_true, if_false]
      omega
    | some d0 =>
      obtain ⟨u, hu, _⟩ := (h.at_ i f hf).1 d0 (by rw [e0, q])
      rw [putF_hit hu]
      exact h.few
theorem OF.len1000 {c : Nat} {vs : List (Str × V)} {fs : List (Option D)} (h : OF K G c vs fs) : vs.length < 1000 := by
  have h1 := h.few
  have h2 : fs.countP Option.isSome ≤ fs.length := List.countP_le_length
  have h3 := (clay_nd c).2
  rw [h.len] at h2
  omega
theorem OF.new (c : Nat) : OF K G c [] (List.replicate (clay c).length none) := by
  refine ⟨List.length_replicate, fun i f e => ⟨fun d hd => ?_, fun _ => rfl⟩, fun _ _ => rfl, Nat.zero_le _⟩
  rw [List.getElem?_replicate] at hd
  split at hd <;> cases hd
theorem Sim.wrF {k c i : Nat} {f : Str} {a dx Cl : Addr} {vs : List (Str × V)} {fs : List (Option D)} {v : V} {d : D} (s : Sim K mg G en so σ H) (e : so[k]? = some (.ob c fs)) (er : G.rho[k]? = some (a, dx)) (ha : H a = some (.ins Cl dx vs)) (hf : (clay c)[i]? = some f) (r : Rep K G.F G.rho v d) :
    Sim K mg G en (so.set k (.ob c (fs.set i (some d)))) σ (upd H a (.ins Cl dx (putF f v vs))) := by
  obtain ⟨oa, od, ⟨Cl', vs', hm, h1, of⟩, h2⟩ := s.ob k _ a dx e er
  rw [ha] at h1
  cases h1
  have hne : dx ≠ a := fun z => by rw [z, ha] at h2; cases h2
  refine ⟨s.toSimO.wr oa ⟨(by intro z; cases z), (by intro z; cases z), (by intro z; cases z)⟩ (fun j => j = k) (fun j hj => ⟨(by intro z; cases z; exact hj rfl), (by intro z; cases z)⟩) (List.length_set ..) fun j o b dy e1 e2 => ?_, s.ln, fun j b ej => ?_⟩
  · by_cases hj : k = j
    · subst hj
      rw [List.getElem?_set_self (List.getElem?_eq_some_iff.mp e).1] at e1
      cases e1
      rw [er] at e2
      cases e2
      exact .inr ⟨oa, od, ⟨Cl, _, hm, upd_same, of.set hf r⟩, by rw [upd_ne hne]; exact h2⟩
    · rw [List.getElem?_set_ne hj] at e1
      exact .inl ⟨fun z => hj z.symm, e1⟩
  · obtain ⟨v', e1, rb⟩ := s.sl j b ej
    refine ⟨v', e1, rb.keep (Same.refl _) (fun _ _ h => h) fun b' o h1 h2 => ⟨?_, h2⟩⟩
    have : b' ≠ a := fun z => by rw [z, oa] at h2; cases h2
    rw [upd_ne this]; exact h1
end
/-- the class x has no attribute f of its own -/
def FldF (K : PySem.W.Frag) (mg : Str → Option Value) (x f : Str) : Prop := ∃ C, mg x = some (.ref C) ∧ Cls K C ∧ NoAttr K C f
def fldO (cs : List (Nat × Nat)) : D → M D
  | .obj k => fun en so => match so[k]? with
    | some (.ob c fs) => (match cs.lookup c with
      | some i => (match fs[i]? with
        | some (some d) => .ok d en so
        | _ => .no)
      | none => .no)
    | _ => .no
  | _ => no
/-- e.f: cs: for each class that may come the field's place -/
def mFld (cs : List (Nat × Nat)) (m : M D) : M D := bd m (fldO cs)
def stO (cs : List (Nat × Nat)) (v : D) : D → M Fl
  | .obj k => fun en so => match so[k]? with
    | some (.ob c fs) => (match cs.lookup c with
      | some i => .ok .nx en (so.set k (.ob c (fs.set i (some v))))
      | none => .no)
    | _ => .no
  | _ => no
/-- o.f = v -/
def sFld (cs : List (Nat × Nat)) (mo mv : M D) : M Fl := bd mv fun v => bd mo fun o => stO cs v o
/-- o.f op= v -/
def sFldA (cs : List (Nat × Nat)) (f : D → D → M D) (mo mv : M D) : M Fl := bd mo fun o => bd (fldO cs o) fun x => bd mv fun y => bd (f x y) fun z => stO cs z o
/-- what is known of the classes that have the field -/
def FldT (X : Cx) (f : Str) (cs : List (Nat × Nat)) : Prop := ∀ c i, cs.lookup c = some i → (clay c)[i]? = some f ∧ FldF X.K X.mg (cnm c) f
section
variable {X : Cx} {W : WX} {a b c e o value : Expr} {m mo mv : M D} {f : Str} {pos pos' p : Pos} {cs : List (Nat × Nat)}
theorem fldO_at {A1 A' : Type} {σ : L2.St} {H : Hp} {G : Gh} {en : En} {so : So} {v : V} {d : D} {Rl : Gh → Hp → A' → A1 → Prop} {kk : D → M A1} {Q : A' → Hp → Prop} (hT : FldT X f cs) (s : Sim X.K X.ev G en so σ H) (r : Rep X.K G.F G.rho v d) (p : Post X.K X.ev G W Rl σ (bd (fldO cs d) kk en so) Q) :
    ∃ a C dx fs y z, v = .ref a ∧ H a = some (.ins C dx fs) ∧ Cls X.K C ∧ NoAttr X.K C f ∧ fs.lookup f = some y ∧ Rep X.K G.F G.rho y z ∧ Post X.K X.ev G W Rl σ (kk z en so) Q := by
  cases r with
  | @obj k a dx hr =>
    unfold bd at p
    have e : fldO cs (.obj k) en so = (match so[k]? with
      | some (.ob c fs) => (match cs.lookup c with
        | some i => (match fs[i]? with
          | some (some d) => .ok d en so
          | _ => .no)
        | none => .no)
      | _ => .no : Re D) := rfl
    rw [e] at p
    cases h1 : so[k]? with
    | none => rw [h1] at p; exact p.elim
    | some ob =>
      rw [h1] at p
      cases ob with
      | ob c fs =>
        dsimp only at p
        cases h2 : cs.lookup c with
        | none => rw [h2] at p; exact p.elim
        | some i =>
          rw [h2] at p
          dsimp only at p
          cases h3 : fs[i]? with
          | none => rw [h3] at p; exact p.elim
          | some od =>
            rw [h3] at p
            cases od with
            | none => exact p.elim
            | some z =>
              obtain ⟨hl, C, hm, hc, hn⟩ := hT _ _ h2
              obtain ⟨_, _, ⟨Cl, vs, hm2, h5, of⟩, _⟩ := s.ob k _ a dx h1 hr
              cases hm.symm.trans hm2
              obtain ⟨y, hy, ry⟩ := (of.at_ i f hl).1 z h3
              exact ⟨a, C, dx, vs, y, z, rfl, h5, hc, hn, hy, ry, p⟩
      | _ => exact p.elim
  | _ => exact p.elim
theorem d_fld (hT : FldT X f cs) (h : DE X W e m) (hb : attributeBase e f X.env (eval e X.env) = eval e X.env := by rfl) : DE X W (.Attribute e f pos) (mFld cs m) := by
  refine ⟨PE_imp (pe_fld h.pe hb) fun σ H Q ⟨G, en, so, s, p⟩ => ?_⟩
  refine ⟨G, en, so, s, (Post.bind (R1 := rlD X.K) p).imp fun v H1 ⟨G1, en1, so1, d, l, r1, s1, p1⟩ => ?_⟩
  have p2 : Post X.K X.ev G1 W (rlD X.K) σ (bd (fldO cs d) pu en1 so1) Q := by
    unfold bd
    revert p1
    cases fldO cs d en1 so1 <;> exact id
  obtain ⟨a, C, dx, fs, y, z, h1, h2, h3, h4, h5, h6, h7⟩ := fldO_at hT s1 r1 p2
  exact ⟨a, C, dx, fs, y, h1, h2, h3, h4, h5, h7.ok s1 h6⟩
theorem stO_at {σ : L2.St} {H : Hp} {G : Gh} {en : En} {so : So} {v y : V} {d z : D} {E : Ends} (hT : FldT X f cs) (s : Sim X.K X.ev G en so σ H) (r : Rep X.K G.F G.rho v d) (ry : Rep X.K G.F G.rho y z) (p : SPost X.K X.ev G W (stO cs z d en so) E) :
    ∃ a C dx fs, v = .ref a ∧ H a = some (.ins C dx fs) ∧ Cls X.K C ∧ NoAttr X.K C f ∧ fs.length < 1000 ∧ E.nx σ (upd H a (.ins C dx (putF f y fs))) := by
  cases r with
  | @obj k a dx hr =>
    have e : stO cs z (.obj k) en so = (match so[k]? with
      | some (.ob c fs) => (match cs.lookup c with
        | some i => .ok .nx en (so.set k (.ob c (fs.set i (some z))))
        | none => .no)
      | _ => .no : Re Fl) := rfl
    rw [e] at p
    cases h1 : so[k]? with
    | none => rw [h1] at p; exact p.elim
    | some ob =>
      rw [h1] at p
      cases ob with
      | ob c fs =>
        dsimp only at p
        cases h2 : cs.lookup c with
        | none => rw [h2] at p; exact p.elim
        | some i =>
          rw [h2] at p
          obtain ⟨hl, C, hm, hc, hn⟩ := hT _ _ h2
          obtain ⟨_, _, ⟨Cl, vs, hm2, h5, of⟩, _⟩ := s.ob k _ a dx h1 hr
          cases hm.symm.trans hm2
          exact ⟨a, C, dx, vs, rfl, h5, hc, hn, of.len1000, p _ _ G (.refl _) (s.wrF h1 hr h5 hl ry)⟩
      | _ => exact p.elim
  | _ => exact p.elim
theorem s_fld (hT : FldT X f cs) (ho : DE X W o mo) (hv : DE X W value mv) (hs : swapsWith value (some (.Attribute o f pos')) pos.line X.env = pure false := by rfl) : DS X W (.Assign [.Attribute o f pos'] value pos) (sFld cs mo mv) := by
  refine ⟨PS_imp (ps_fld ho.pe hv.pe hs) fun E σ H ⟨G, en, so, s, p⟩ => ?_⟩
  refine ⟨G, en, so, s, (SPost.bind (R1 := rlD X.K) p).imp fun y H1 ⟨G1, en1, so1, z, l1, r1, s1, p1⟩ => ?_⟩
  refine ⟨G1, en1, so1, s1, (SPost.bind (R1 := rlD X.K) p1).imp fun v H2 ⟨G2, en2, so2, d, l2, r2, s2, p2⟩ => ?_⟩
  exact stO_at hT s2 r2 (Rep.up r1 l2) p2
end

/-! ### a list or dict goes into the store -/
def celR : B → M D
  | .cel c => fun en so => .ok (.obj so.length) en (so ++ [.cel c])
  | _ => no
def mCel (m : M B) : M D := bd m celR
section
variable {X : Cx} {W : WX} {e : Expr} {m : M B}
theorem d_cel (h : DB X W e m) : DE X W e (mCel m) := by
  refine ⟨PE_imp h.pe fun σ H Q ⟨G, en, so, s, p⟩ => ⟨G, en, so, s, (Post.bind (R1 := rlB X.K) p).imp fun v H1 ⟨G1, en1, so1, b, l, r1, s1, p1⟩ => ?_⟩⟩
  cases b with
  | dat d => exact p1.elim
  | exn x => exact p1.elim
  | cel c =>
    obtain ⟨a, rfl, w, cr⟩ := r1
    have s2 := s1.retag (t := .ob so1.length) w
    obtain ⟨s3, hl⟩ := s2.push (a := a) (dx := a) (o := .cel c) ⟨tag_own, cr.keep (Same.refl _) (fun _ _ h => h) fun o h => h⟩
    exact p1.ok' ((tag_le _ _).trans (push_le _ _)) s3 (.obj hl)
end
end
end Dl

set_option Elab.async false
set_option linter.all false
set_option maxRecDepth 100000
set_option maxHeartbeats 2000000
/-! The data level: new objects, methods, calls without arguments, stores to fields by an operator. -/
namespace L2
open PySem PySem.Spec PyProof.Rows
section
variable {X : Cx} {CX : CXT} {k : Nat} {f C : Addr} {fd : FuncData} {ps : List Str} {sp : Sp} {E : St → XK} {x m : Str} {p pos apos : Pos} {e o : Expr} {es : List Expr} {ta : TE} {t : TA}
/-- what is called, by a name of the module, with arguments or without -/
def tGo (R : List V → Hp → St → VK → Prop) (t : TA) : TE := fun σ H Q => t σ H fun vs H1 => R vs H1 σ Q
def GoOk (X : Cx) (g : Addr) (R : List V → Hp → St → VK → Prop) : Prop := ∀ (pins : List (Addr × Obj)) (σ : St) (H : Hp) (s : Shared) (us : List Value) (vs : List V) (Q : VK), Inv X pins σ H s → Vals vs us → R vs H σ Q →
  wpAny (model X.prog X.w) X.A (call (.ref g) us) (EP X pins σ Q) X.xe s
section
variable {R : List V → Hp → St → VK → Prop} {g : Addr}
theorem pe_go (go : GoOk X g R) (hg : Gl X x) (hm : X.mg x = some (.ref g)) (hk : PySem.W.keepIn X.K (.ref g) = true) (ha : PA X (e :: es) t) (hdb : (x == ("__debug__" : Str)) = false)
    (he : starEach (e :: es) X.env = (false, eval e X.env) :: starEach es X.env) (hpl : (backTo pos (starEach es X.env)).any (·.1) = false) : PE X (.Call (.Name x p) (e :: es) [] pos) (tGo R t) :=
  ⟨fun pins s σ H Q I h => wpAny_Call_Name_kw (ld_glob I hg hm (PySem.W.callWith_K (h₀ := X.base) I.ok.mod.kin hk (thn (ha.run pos pins s σ H _ I h) fun us s1 w =>
    w.elim fun vs w => w.elim fun H1 w => ⟨w.1.kIn, go pins σ H1 s1 us vs Q w.1 w.2.1 w.2.2⟩) he hpl) hdb)⟩
theorem pe_go0 (go : GoOk X g R) (hg : Gl X x) (hm : X.mg x = some (.ref g)) (hk : PySem.W.keepIn X.K (.ref g) = true) (hdb : (x == ("__debug__" : Str)) = false) : PE X (.Call (.Name x p) [] [] pos) (tGo R tNil) :=
  ⟨fun pins s σ H Q I h => wpAny_Call_Name_kw (ld_glob I hg hm (PySem.W.callWith_K0 I.kIn hk (go pins σ H s [] [] Q I .nil h)) hdb)⟩
end
/-- a new object: what its __init__ is asked for -/
def rMk (C : Addr) (sp : Sp) (E : St → XK) : List V → Hp → St → VK → Prop := fun vs H σ Q => ∀ x dx, H x = none → H dx = none → dx ≠ x → sp (.ref x :: vs) (upd (upd H dx (.own x)) x (.ins C dx [])) (fun v H2 => v = .non ∧ Q (.ref x) H2) (E σ)
theorem go_make (M : Mk X.K C f) (F : FnOk X.prog X.w X.K X.mg X.base CX k f fd ps sp) (hr : Room (k + 1) X.A) (hb : Binds X.K fd ps []) (hx : ∀ σ, PassesAt CX X σ (E σ)) : GoOk X C (rMk C sp E) := fun pins σ H s us vs Q I r h => by
  generalize hn : s.heap.objs.size = n at *
  have fr : ∀ i, n ≤ i → H i = none := fun i hi => I.hok.fresh (hn ▸ hi)
  have asked := h (n + 1) n (fr _ (Nat.le_succ _)) (fr _ (Nat.le_refl _)) (Nat.ne_of_lt (Nat.lt_succ_self _))
  have J := Inv.made (C := C) I
  subst hn
  have rv : Vals (V.ref (s.heap.objs.size + 1) :: vs) (Value.ref (s.heap.objs.size + 1) :: us) := .cons rfl r
  have bound := hb _ (Value.ref (s.heap.objs.size + 1) :: us) J.kIn (by rw [List.append_nil, ← F.len _ _ _ _ asked]; exact rv.length.symm)
  rw [List.append_nil] at bound
  have ran := F.run _ X.stack _ _ ⟨Value.ref (s.heap.objs.size + 1) :: us, []⟩ (Value.ref (s.heap.objs.size + 1) :: us) _ _ (E σ) (hr.make C us []) (J.env0.make C us []) bound rv asked
  refine wpAny_call (make_map (f := f) I.kIn M.makes M.init (beq_iff_eq.mp M.fn) (codeAny_mono ran fun out s' post => ?_))
  match out, post with
  | .error e, post => exact hx σ pins _ _ e s' J post
  | .ok (.ret u), post =>
    obtain ⟨v, H', I3, ru, ev, q⟩ := J.after post
    cases ev
    exact ⟨ru, ⟨V.ref (s.heap.objs.size + 1), H', I3, rfl, q⟩⟩
  | .ok .next, post => exact post.elim
  | .ok .brk, post => exact post.elim
  | .ok .cont, post => exact post.elim
theorem go_def (F : FnOk X.prog X.w X.K X.mg X.base CX k f fd ps sp) (hr : Room k X.A) (hb : Binds X.K fd ps []) (hx : ∀ σ, PassesAt CX X σ (E σ)) : GoOk X f (fun vs H σ Q => sp vs H Q (E σ)) := fun _ σ _ _ _ _ _ I r h => run_fnS F hr hb (hx σ) I r h
/-- o.m(e, ..): the class and its def as the object says -/
def tMethX (X : Cx) (CX : CXT) (k : Nat) (m : Str) (E : St → XK) (ta : TE) (t : TA) : TE := fun σ H Q => ta σ H fun x H1 => ∃ (a C dx : Addr) (fs : List (Str × V)) (f : Addr) (fd : FuncData) (ps : List Str) (sp : Sp), x = .ref a ∧ H1 a = some (.ins C dx fs) ∧ Cls X.K C ∧ Meth X.K C m f ∧
  FnOk X.prog X.w X.K X.mg X.base CX k f fd ps sp ∧ Binds X.K fd ps [] ∧ fs.lookup m = none ∧ t σ H1 fun vs H2 => sp (x :: vs) H2 Q (E σ)
/-- how a method call is evaluated -/
def MethEv (X : Cx) (o : Expr) (m : Str) (apos : Pos) (as : List Expr) (pos : Pos) (pl : Sem Bool) : Prop := eval (.Call (.Attribute o m apos) as [] pos) X.env = (do
  let ov ← eval o X.env
  standAt apos.atName
  let (f, first) ← holding [ov] (getMethod ov m pl)
  callWith pos f first (backTo pos (starEach as X.env)) (backToKw pos (keywordEach [] X.env)))
theorem pe_methX {pl : Sem Bool} {as : List Expr} (he : PE X o ta) (hr : Room k X.A) (hx : ∀ σ, PassesAt CX X σ (E σ)) (ht : MethEv X o m apos as pos pl)
    (ha : (as = [] ∧ t = tNil) ∨ ∃ e es, as = e :: es ∧ PA X (e :: es) t ∧ starEach (e :: es) X.env = (false, eval e X.env) :: starEach es X.env ∧ (backTo pos (starEach es X.env)).any (·.1) = false) :
    PE X (.Call (.Attribute o m apos) as [] pos) (tMethX X CX k m E ta t) :=
  ⟨fun pins s σ H Q I h => PySem.W.methodCall_KW (pl := pl) (thn (he.run pins s σ H _ I h) fun u s1 w => by
    obtain ⟨x, H1, I1, rx, a, C, dx, fs, f, fd, ps, sp, ex, ea, c, hm, F, hb, l, q⟩ := w
    cases ex
    have eu : u = Value.ref a := rx
    rw [eu]
    refine getmeth_ok I1 ea c hm l ?_
    rcases ha with ⟨e1, e2⟩ | ⟨e, es, e1, pa, hst, hpl⟩
    · rw [e1]
      rw [e2] at q
      exact PySem.W.callWith_K0 (first := [.ref a]) I1.kIn hm.kp (run_fnS (us := [.ref a]) (vs := [.ref a]) F hr hb (hx σ) I1 (.cons rfl .nil) q)
    · rw [e1]
      exact PySem.W.callWith_K (first := [.ref a]) (h₀ := X.base) I.ok.mod.kin hm.kp (thn (pa.run pos pins s1 σ H1 _ I1 q) fun us s2 w => w.elim fun vs w => w.elim fun H2 w => ⟨w.1.kIn, run_fnS (us := .ref a :: us) (vs := .ref a :: vs) F hr hb (hx σ) w.1 (.cons rfl w.2.1) w.2.2⟩) hst hpl) ht⟩
end
end L2
namespace Dl
open PySem PySem.Spec PyProof.Rows L2
noncomputable section
/-- behind a call -/
theorem fpost_of {K : PySem.W.Frag} {mg : Str → Option Value} {G : Gh} {en : En} {so : So} {σ : L2.St} {H : Hp} {r : Rf} {Q : VK} {E : XK} (s : Sim K ⟨mg, none⟩ G en so σ H)
    (ok : ∀ b so' v H' G', r = .ok b so' → G.le G' → Sim K ⟨mg, none⟩ G' en so' σ H' → RB K G' H' .tmp v b → Q v H')
    (ex : ∀ x so' Cl d H' G', r = .exc x so' → G.le G' → Sim K ⟨mg, none⟩ G' en so' σ H' → XR K ⟨mg, none⟩ G' H' x Cl d → E Cl d H') (no : r ≠ .no) : FPost K ⟨mg, none⟩ (G.lend H) r Q E := by
  cases r with
  | no => exact (no rfl).elim
  | ok b so2 =>
    intro v H' G' l' s' rb
    obtain ⟨s2, l2⟩ := s.home l' s'
    refine ok b so2 v H' _ rfl l2 s2 (rb.keep (show Same G'.F (G.home G' H).F from Same.refl _) (show Pre G'.rho (G.home G' H).rho from fun _ _ h => h) fun b o h1 h2 => ⟨h1, home_own h2 fun i o h3 h4 => ?_⟩)
    have := (cell_back l' s' h3 h4).2
    rw [h2] at this
    cases this
  | exc x so2 =>
    intro Cl d H' G' l' s' xr
    obtain ⟨s2, l2⟩ := s.home l' s'
    refine ex x so2 Cl d H' _ rfl l2 s2 ?_
    obtain ⟨Ca, e1, e2, h⟩ := xr
    refine ⟨Ca, e1, e2, h.elim .inl fun ⟨da, fs, e3, e4, e5, e6⟩ => .inr ⟨da, fs, e3, e4, home_own e5 fun i o h3 h4 => ?_, e6⟩⟩
    have := (cell_back l' s' h3 h4).2
    rw [e5] at this
    cases this
/-- a call's answer, in the caller's hands -/
def backR (r : Rf) : M B := fun en _ => match r with
  | .ok b so' => .ok b en so'
  | .exc x so' => .exc x en so'
  | .no => .no
theorem fpost_back {K : PySem.W.Frag} {mg : Str → Option Value} {G : Gh} {en : En} {so : So} {σ : L2.St} {H : Hp} {r : Rf} {Q : VK} {W : WX} (s : Sim K ⟨mg, none⟩ G en so σ H) (p : Post K ⟨mg, none⟩ G W (rlB K) σ (backR r en so) Q) : FPost K ⟨mg, none⟩ (G.lend H) r Q (WE W σ) := by
  refine fpost_of s (fun b so' v H' G' e l s' rb => ?_) (fun x so' Cl d H' G' e l s' xr => ?_) fun e => ?_
  · subst e; exact p v H' G' l s' rb
  · subst e; exact p Cl d H' G' l s' xr
  · subst e; exact p

/-! ### new objects -/
/-- the class x of the module, its __init__ as f; n fields -/
structure NewF (P : Program) (w : World) (K : PySem.W.Frag) (mg : Str → Option Value) (base : Heap) (c n : Nat) (x : Str) (f : FunM) (k : Nat) : Prop where
  ex : ∃ C fI fd ps, mg x = some (.ref C) ∧ Mk K C fI ∧ FnOk P w K mg base (L2.CX P w) k fI fd ps (spD K mg f) ∧ Binds K fd ps []
  nm : cnm c = x
  n : (clay c).length = n
def newR (k : Nat) (r : Rf) : M D := fun en _ => match r with
  | .ok (.dat .non) so' => .ok (.obj k) en so'
  | .exc x so' => .exc x en so'
  | _ => .no
def mNew (c n : Nat) (f : FunM) (ms : M (List D)) : M D := bd ms fun ds en so => newR so.length (f (.obj so.length :: ds) (so ++ [.ob c (List.replicate n none)])) en so
section
variable {X : Cx} {W : WX} {e o : Expr} {es : List Expr} {ms : M (List D)} {mo : M D} {x m : Str} {f : FunM} {c n k : Nat} {p pos apos : Pos}
theorem new_tr {σ : L2.St} {H1 : Hp} {Q : VK} {mg : Str → Option Value} {K : PySem.W.Frag} {G1 : Gh} {en1 : En} {so1 : So} {vs : List V} {ds : List D} {C a dx : Addr} (hm : mg (cnm c) = some (.ref C)) (hn : (clay c).length = n) (s1 : Sim K ⟨mg, none⟩ G1 en1 so1 σ H1) (r1 : Reps K G1.F G1.rho vs ds)
    (p1 : Post K ⟨mg, none⟩ G1 W (rlD K) σ (newR so1.length (f (.obj so1.length :: ds) (so1 ++ [.ob c (List.replicate n none)])) en1 so1) Q) (hx : H1 a = none) (hdx : H1 dx = none) (ne : dx ≠ a) :
    spD K mg f (.ref a :: vs) (upd (upd H1 dx (.own a)) a (.ins C dx [])) (fun v H2 => v = .non ∧ Q (.ref a) H2) (WE W σ) := by
  subst hn
  have s2 := s1.newT (o := .own a) (t := .dc so1.length) hdx
  have s3 := s2.newT (p := a) (o := .ins C dx []) (t := .ob so1.length) (by rw [upd_ne ne.symm]; exact hx)
  obtain ⟨s4, hl⟩ := s3.push (a := a) (dx := dx) (o := .ob c (List.replicate (clay c).length none)) ⟨tag_own, by rw [tag_ne ne, tag_own], ⟨C, [], hm, upd_same, OF.new c⟩, by rw [upd_ne ne, upd_same]⟩
  have le : G1.le (((G1.tag dx (.dc so1.length)).tag a (.ob so1.length)).push (a, dx)) := ((tag_le _ _).trans (tag_le _ _)).trans (push_le _ _)
  have r1' := r1.up le
  refine ⟨Gh.lend (((G1.tag dx (.dc so1.length)).tag a (.ob so1.length)).push (a, dx)) (upd (upd H1 dx (.own a)) a (.ins C dx [])), .obj so1.length :: ds, _, .cons (.obj hl) r1', s4.lend, ?_⟩
  refine fpost_of s4 (fun b so' v H' G' e l s' rb => ?_) (fun x so' Cl d H' G' e l s' xr => ?_) fun e => ?_
  · rw [e] at p1
    cases b with
    | dat d =>
      cases d with
      | non =>
        cases (show Rep K G'.F G'.rho v .non from rb)
        exact ⟨rfl, p1 (.ref a) H' G' (le.trans l) s' (.obj (l.rho _ _ hl))⟩
      | _ => exact p1.elim
    | _ => exact p1.elim
  · rw [e] at p1
    exact p1 Cl d H' G' (le.trans l) s' xr
  · rw [e] at p1
    exact p1
theorem d_new (N : NewF X.prog X.w X.K X.mg X.base c n x f k) (hr : Room (k + 1) X.A) (hg : Gl X x) (tk : Takes X W) (ha : DA X W (e :: es) ms)
    (hdb : (x == ("__debug__" : Str)) = false := by decide) (he : starEach (e :: es) X.env = (false, eval e X.env) :: starEach es X.env := by rfl) (hpl : (backTo pos (starEach es X.env)).any (·.1) = false := by rfl) :
    DE X W (.Call (.Name x p) (e :: es) [] pos) (mNew c n f ms) := by
  obtain ⟨C, fI, fd, ps, hm, M, F, hb⟩ := N.ex
  have hpa : PA X (e :: es) (tM X.K ⟨X.mg, none⟩ W (rlDs X.K) ms) := by
    have := ha.pa
    rw [ev_none hr.hd] at this
    exact this
  refine ⟨?_⟩
  rw [ev_none hr.hd]
  refine PE_imp (pe_go (go_make (E := WE W) M F hr hb fun σ => passAt tk σ) hg hm M.kp hpa hdb he hpl) fun σ H Q ⟨G, en, so, s, p⟩ => ?_
  refine ⟨G, en, so, s, (Post.bind (R1 := rlDs X.K) p).imp fun vs H1 ⟨G1, en1, so1, ds, l, r1, s1, p1⟩ a dx hx hdx ne => ?_⟩
  exact new_tr (by rw [N.nm]; exact hm) N.n s1 r1 p1 hx hdx ne
theorem d_new0 (N : NewF X.prog X.w X.K X.mg X.base c n x f k) (hr : Room (k + 1) X.A) (hg : Gl X x) (tk : Takes X W) (hdb : (x == ("__debug__" : Str)) = false := by decide) : DE X W (.Call (.Name x p) [] [] pos) (mNew c n f aN) := by
  obtain ⟨C, fI, fd, ps, hm, M, F, hb⟩ := N.ex
  refine ⟨?_⟩
  rw [ev_none hr.hd]
  refine PE_imp (pe_go0 (go_make (E := WE W) M F hr hb fun σ => passAt tk σ) hg hm M.kp hdb) fun σ H Q ⟨G, en, so, s, p⟩ => ?_
  exact fun a dx hx hdx ne => new_tr (by rw [N.nm]; exact hm) N.n s (ds := []) .nil p hx hdx ne

/-! ### methods -/
/-- the method m of the class x is f -/
def MethF (P : Program) (w : World) (K : PySem.W.Frag) (mg : Str → Option Value) (base : Heap) (x m : Str) (f : FunM) (k : Nat) : Prop :=
  ∃ C g fd ps, mg x = some (.ref C) ∧ Cls K C ∧ Meth K C m g ∧ FnOk P w K mg base (L2.CX P w) k g fd ps (spD K mg f) ∧ Binds K fd ps []
def MethT (X : Cx) (m : Str) (k : Nat) (tbl : List (Nat × FunM)) : Prop := ∀ c f, tbl.lookup c = some f → m ∉ clay c ∧ MethF X.prog X.w X.K X.mg X.base (cnm c) m f k
def methO (tbl : List (Nat × FunM)) (ms : M (List D)) : D → M B
  | .obj k => fun en so => match so[k]? with
    | some (.ob c _) => (match tbl.lookup c with
      | some f => bd ms (fun ds en so => backR (f (.obj k :: ds) so) en so) en so
      | none => .no)
    | _ => .no
  | _ => no
def mMeth (tbl : List (Nat × FunM)) (mo : M D) (ms : M (List D)) : M B := bd mo (methO tbl ms)
theorem methO_at {tbl : List (Nat × FunM)} {σ : L2.St} {H : Hp} {Q : VK} {G : Gh} {en : En} {so : So} {v : V} {d : D} (hT : MethT X m k tbl) (s : Sim X.K ⟨X.mg, none⟩ G en so σ H) (r : Rep X.K G.F G.rho v d) (p : Post X.K ⟨X.mg, none⟩ G W (rlB X.K) σ (methO tbl ms d en so) Q) :
    ∃ (a C dx : Addr) (fs : List (Str × V)) (g : Addr) (fd : FuncData) (ps : List Str) (f : FunM) (j : Nat), v = .ref a ∧ H a = some (.ins C dx fs) ∧ Cls X.K C ∧ Meth X.K C m g ∧ FnOk X.prog X.w X.K X.mg X.base (L2.CX X.prog X.w) k g fd ps (spD X.K X.mg f) ∧ Binds X.K fd ps [] ∧ fs.lookup m = none ∧
      d = .obj j ∧ G.rho[j]? = some (a, dx) ∧ Post X.K ⟨X.mg, none⟩ G W (rlB X.K) σ (bd ms (fun ds en so => backR (f (.obj j :: ds) so) en so) en so) Q := by
  cases r with
  | @obj j a dx hr =>
    have e : methO tbl ms (.obj j) en so = (match so[j]? with
      | some (.ob c _) => (match tbl.lookup c with
        | some f => bd ms (fun ds en so => backR (f (.obj j :: ds) so) en so) en so
        | none => .no)
      | _ => .no : Re B) := rfl
    rw [e] at p
    cases h1 : so[j]? with
    | none => rw [h1] at p; exact p.elim
    | some ob =>
      rw [h1] at p
      cases ob with
      | ob c fs =>
        dsimp only at p
        cases h2 : tbl.lookup c with
        | none => rw [h2] at p; exact p.elim
        | some f =>
          rw [h2] at p
          obtain ⟨hnm, C, g, fd, ps, hm, hc, hme, F, hb⟩ := hT _ _ h2
          obtain ⟨_, _, ⟨Cl, vs, hm2, h5, of⟩, _⟩ := s.ob j _ a dx h1 hr
          cases hm.symm.trans hm2
          exact ⟨a, C, dx, vs, g, fd, ps, f, j, rfl, h5, hc, hme, F, hb, of.out _ hnm, rfl, hr, p⟩
      | _ => exact p.elim
  | _ => exact p.elim
theorem d_meth {tbl : List (Nat × FunM)} {pl : Sem Bool} (hT : MethT X m k tbl) (hr : Room k X.A) (tk : Takes X W) (ho : DE X W o mo) (ha : DA X W (e :: es) ms)
    (hst : starEach (e :: es) X.env = (false, eval e X.env) :: starEach es X.env := by rfl) (hpl : (backTo pos (starEach es X.env)).any (·.1) = false := by rfl) (ht : MethEv X o m apos (e :: es) pos pl := by rfl) : DB X W (.Call (.Attribute o m apos) (e :: es) [] pos) (mMeth tbl mo ms) := by
  have hpa : PA X (e :: es) (tM X.K ⟨X.mg, none⟩ W (rlDs X.K) ms) := by
    have := ha.pa
    rw [ev_none hr.hd] at this
    exact this
  have hpo : PE X o (tM X.K ⟨X.mg, none⟩ W (rlD X.K) mo) := by
    have := ho.pe
    rw [ev_none hr.hd] at this
    exact this
  refine ⟨?_⟩
  rw [ev_none hr.hd]
  refine PE_imp (pe_methX (pl := pl) (E := WE W) hpo hr (fun σ => passAt tk σ) ht (.inr ⟨e, es, rfl, hpa, hst, hpl⟩)) fun σ H Q ⟨G, en, so, s, p⟩ => ?_
  refine ⟨G, en, so, s, (Post.bind (R1 := rlD X.K) p).imp fun v H1 ⟨G1, en1, so1, d, l, r1, s1, p1⟩ => ?_⟩
  obtain ⟨a, C, dx, fs, g, fd, ps, f, j, rfl, h2, h3, h4, F, hb, h5, rfl, h6, p2⟩ := methO_at hT s1 r1 p1
  refine ⟨a, C, dx, fs, g, fd, ps, _, rfl, h2, h3, h4, F, hb, h5, G1, en1, so1, s1, (Post.bind (R1 := rlDs X.K) p2).imp fun vs H2 ⟨G2, en2, so2, ds, l2, r2, s2, p3⟩ => ?_⟩
  exact ⟨G2.lend H2, .obj j :: ds, so2, .cons (.obj (l2.rho _ _ h6)) r2, s2.lend, fpost_back s2 p3⟩
theorem d_meth0 {tbl : List (Nat × FunM)} {pl : Sem Bool} (hT : MethT X m k tbl) (hr : Room k X.A) (tk : Takes X W) (ho : DE X W o mo) (ht : MethEv X o m apos [] pos pl := by rfl) : DB X W (.Call (.Attribute o m apos) [] [] pos) (mMeth tbl mo aN) := by
  have hpo : PE X o (tM X.K ⟨X.mg, none⟩ W (rlD X.K) mo) := by
    have := ho.pe
    rw [ev_none hr.hd] at this
    exact this
  refine ⟨?_⟩
  rw [ev_none hr.hd]
  refine PE_imp (pe_methX (pl := pl) (E := WE W) hpo hr (fun σ => passAt tk σ) ht (.inl ⟨rfl, rfl⟩)) fun σ H Q ⟨G, en, so, s, p⟩ => ?_
  refine ⟨G, en, so, s, (Post.bind (R1 := rlD X.K) p).imp fun v H1 ⟨G1, en1, so1, d, l, r1, s1, p1⟩ => ?_⟩
  obtain ⟨a, C, dx, fs, g, fd, ps, f, j, rfl, h2, h3, h4, F, hb, h5, rfl, h6, p2⟩ := methO_at hT s1 r1 p1
  exact ⟨a, C, dx, fs, g, fd, ps, _, rfl, h2, h3, h4, F, hb, h5, G1.lend H1, [.obj j], so1, .cons (.obj h6) .nil, s1.lend, fpost_back s1 p2⟩
/-- f() -/
theorem d_call0 (F : Fn X.prog X.w X.K X.mg X.base x f k) (hr : Room k X.A) (hg : Gl X x) (tk : Takes X W) (hdb : (x == ("__debug__" : Str)) = false := by decide) : DB X W (.Call (.Name x p) [] [] pos) (mCall f aN) := by
  obtain ⟨a, fd, ps, ok, hm, hk, hb⟩ := F.ex
  refine ⟨?_⟩
  rw [ev_none hr.hd]
  refine PE_imp (pe_go0 (go_def (E := WE W) ok hr hb fun σ => passAt tk σ) hg hm hk hdb) fun σ H Q ⟨G, en, so, s, p⟩ => ?_
  exact ⟨G.lend H, [], so, .nil, s.lend, fpost_back s p⟩
end
end
end Dl

set_option Elab.async false
set_option linter.all false
set_option maxRecDepth 100000
set_option maxHeartbeats 2000000
/-! The data level: dicts, held in the store. -/
namespace Dl
open PySem PySem.Spec PyProof.Rows L2
noncomputable section

/-! ### tables -/
instance : DecidableEq Ky := inferInstanceAs (DecidableEq (Sum Int (List Nat)))
def kyOf : D → Option Ky
  | .int i => some (.inl i)
  | .str s => some (.inr s)
  | _ => none
def kyD : Ky → D
  | .inl i => .int i
  | .inr s => .str s
def valD (kvs : List (Ky × D)) (k : Ky) : Option D := (kvs.find? fun p => decide (p.1 = k)).map (·.2)
def putT (kvs : List (Ky × D)) (k : Ky) (v : D) : List (Ky × D) := if (kvs.any fun p => decide (p.1 = k)) = true then kvs.map (fun p => if p.1 = k then (p.1, v) else p) else kvs ++ [(k, v)]
def dropT (kvs : List (Ky × D)) (k : Ky) : List (Ky × D) := kvs.filter fun p => decide (p.1 ≠ k)
def mergeT (kvs more : List (Ky × D)) : List (Ky × D) := more.foldl (fun acc p => putT acc p.1 p.2) kvs
theorem kT_inj {a b : Ky} (h : kT a = kT b) : a = b := by
  cases a with
  | inl i => cases b with
    | inl j => exact congrArg Sum.inl (Sum.inl.inj h)
    | inr j => cases h
  | inr i => cases b with
    | inl j => cases h
    | inr j => exact congrArg Sum.inr (sT_inj (Sum.inr.inj h))
theorem kT_dec (a b : Ky) : decide (kT a = kT b) = decide (a = b) := by
  by_cases h : a = b
  · simp [h]
  · have : ¬ kT a = kT b := fun z => h (kT_inj z)
    simp [h, this]
section
variable {K : PySem.W.Frag} {F : Hp} {rho : List (Addr × Addr)}
theorem rep_ky {v : V} {d : D} {k : Ky} (r : Rep K F rho v d) (h : kyOf d = some k) : v = kV (kT k) := by
  cases r <;> cases h <;> rfl
theorem ky_rep (k : Ky) : Rep K F rho (kV (kT k)) (kyD k) := by
  cases k with
  | inl i => exact .int i
  | inr s => exact .str s
theorem repK_len : ∀ {vs : List (Key × V)} {ds : List (Ky × D)}, RepK K F rho vs ds → vs.length = ds.length
  | _, _, .nil => rfl
  | _, _, .cons _ r => by rw [List.length_cons, List.length_cons, repK_len r]
theorem repK_keys : ∀ {vs : List (Key × V)} {ds : List (Ky × D)}, RepK K F rho vs ds → vs.map (·.1) = ds.map fun p => kT p.1
  | _, _, .nil => rfl
  | _, _, .cons _ r => by rw [List.map_cons, List.map_cons, repK_keys r]
/-- what stands at a key -/
inductive RO (K : PySem.W.Frag) (F : Hp) (rho : List (Addr × Addr)) : Option V → Option D → Prop
  | none : RO K F rho none none
  | some {v : V} {d : D} : Rep K F rho v d → RO K F rho (some v) (some d)
theorem valV_cons (p : Key × V) (r : List (Key × V)) (k : Key) : valV (p :: r) k = if p.1 = k then some p.2 else valV r k := by
  by_cases h : p.1 = k
  · rw [if_pos h, valV_pos h]
  · rw [if_neg h, valV_neg h]
theorem valD_cons (p : Ky × D) (r : List (Ky × D)) (k : Ky) : valD (p :: r) k = if p.1 = k then some p.2 else valD r k := by
  unfold valD
  by_cases h : p.1 = k
  · simp [List.find?_cons, h]
  · simp [List.find?_cons, h]
theorem repK_val (k : Ky) : ∀ {vs : List (Key × V)} {ds : List (Ky × D)}, RepK K F rho vs ds → RO K F rho (valV vs (kT k)) (valD ds k)
  | _, _, .nil => .none
  | _, _, .cons (k := j) h r => by
    rw [valV_cons, valD_cons]
    by_cases hj : j = k
    · subst hj
      rw [if_pos rfl, if_pos rfl]
      exact .some h
    · rw [if_neg (fun z => hj (kT_inj z)), if_neg hj]
      exact repK_val k r
theorem repK_any (k : Ky) : ∀ {vs : List (Key × V)} {ds : List (Ky × D)}, RepK K F rho vs ds → (vs.any fun p => decide (p.1 = kT k)) = ds.any fun p => decide (p.1 = k)
  | _, _, .nil => rfl
  | _, _, .cons h r => by rw [List.any_cons, List.any_cons, repK_any k r, kT_dec]
theorem repK_map {k : Ky} {v : V} {d : D} (hv : Rep K F rho v d) : ∀ {vs : List (Key × V)} {ds : List (Ky × D)}, RepK K F rho vs ds → RepK K F rho (vs.map fun p => if p.1 = kT k then (p.1, v) else p) (ds.map fun p => if p.1 = k then (p.1, d) else p)
  | _, _, .nil => .nil
  | _, _, .cons (k := j) h r => by
    rw [List.map_cons, List.map_cons]
    by_cases hj : j = k
    · subst hj
      rw [if_pos rfl, if_pos rfl]
      exact .cons hv (repK_map hv r)
    · rw [if_neg (fun z => hj (kT_inj z)), if_neg hj]
      exact .cons h (repK_map hv r)
theorem repK_app : ∀ {vs ws : List (Key × V)} {ds es : List (Ky × D)}, RepK K F rho vs ds → RepK K F rho ws es → RepK K F rho (vs ++ ws) (ds ++ es)
  | _, _, _, _, .nil, r => r
  | _, _, _, _, .cons h q, r => .cons h (repK_app q r)
theorem repK_put {k : Ky} {v : V} {d : D} {vs : List (Key × V)} {ds : List (Ky × D)} (r : RepK K F rho vs ds) (hv : Rep K F rho v d) : RepK K F rho (putK vs (kT k) v) (putT ds k d) := by
  unfold putK putT
  rw [repK_any k r]
  split
  · exact repK_map hv r
  · exact repK_app r (.cons hv .nil)
theorem repK_drop (k : Ky) : ∀ {vs : List (Key × V)} {ds : List (Ky × D)}, RepK K F rho vs ds → RepK K F rho (dropK vs (kT k)) (dropT ds k)
  | _, _, .nil => .nil
  | _, _, .cons (k := j) (v := v) (d := d) (vs := vs) (ds := ds) h r => by
    have ih := repK_drop k r
    unfold dropK dropT at *
    by_cases hj : j = k
    · subst hj
      rw [List.filter_cons_of_neg (by simp), List.filter_cons_of_neg (by simp)]
      exact ih
    · rw [List.filter_cons_of_pos (by simpa using fun z => hj (kT_inj z)), List.filter_cons_of_pos (by simpa using hj)]
      exact .cons h ih
theorem repK_merge : ∀ {ws vs : List (Key × V)} {es ds : List (Ky × D)}, RepK K F rho ws es → RepK K F rho vs ds → RepK K F rho (mergeK vs ws) (mergeT ds es)
  | _, _, _, _, .nil, r => r
  | _, _, _, _, .cons (k := j) h q, r => by
    have := repK_merge q (repK_put (k := j) r h)
    exact this
end

/-! ### what a dict holds -/
def dctO : D → M (List (Ky × D))
  | .dct kv => pu kv
  | .obj k => fun en so => match so[k]? with
    | some (.cel (.dct kv)) => .ok kv en so
    | some (.lck kv) => .ok kv en so
    | _ => .no
  | _ => no
def DcAt (K : PySem.W.Frag) (G : Gh) (H : Hp) (v : V) (kds : List (Ky × D)) : Prop := ∃ a kvs, v = .ref a ∧ Rd H a (.dK kvs) ∧ RepK K G.F G.rho kvs kds
section
variable {K : PySem.W.Frag} {mg : Ev} {G : Gh} {en : En} {so : So} {σ : L2.St} {H : Hp} {W : WX} {A1 A' : Type}
theorem dctO_at {v : V} {d : D} {Rl : Gh → Hp → A' → A1 → Prop} {kk : List (Ky × D) → M A1} {Q : A' → Hp → Prop} (s : Sim K mg G en so σ H) (r : Rep K G.F G.rho v d) (p : Post K mg G W Rl σ (bd (dctO d) kk en so) Q) : ∃ kds, DcAt K G H v kds ∧ Post K mg G W Rl σ (kk kds en so) Q := by
  cases r with
  | dct h r => exact ⟨_, ⟨_, _, rfl, same_rd s.toSimO.rep h, r⟩, p⟩
  | @obj k a dx h =>
    unfold bd at p
    have e : dctO (.obj k) en so = (match so[k]? with
      | some (.cel (.dct kv)) => .ok kv en so
      | some (.lck kv) => .ok kv en so
      | _ => .no : Re (List (Ky × D))) := rfl
    rw [e] at p
    cases h1 : so[k]? with
    | none => rw [h1] at p; exact p.elim
    | some o =>
      rw [h1] at p
      cases o with
      | cel c =>
        cases c with
        | lst _ => exact p.elim
        | dct kv =>
          obtain ⟨_, kvs, e1, r⟩ := s.ob k _ a dx h1 h
          exact ⟨kv, ⟨a, kvs, rfl, .inl e1, r⟩, p⟩
      | lck kv =>
        obtain ⟨o, kvs, e1, r⟩ := s.ob k _ a dx h1 h
        exact ⟨kv, ⟨a, kvs, rfl, .inr ⟨o, (s.lk _ _ e1).1⟩, r⟩, p⟩
      | _ => exact p.elim
  | _ => exact p.elim
theorem DcAt.up {G' : Gh} {v : V} {kds : List (Ky × D)} (h : DcAt K G H v kds) (l : G.le G') : DcAt K G' H v kds := by
  obtain ⟨a, kvs, e1, e2, r⟩ := h
  exact ⟨a, kvs, e1, e2, r.mono l.F l.rho⟩
theorem DcAt.get {v y : V} {kds : List (Ky × D)} {dy : D} {k : Ky} (h : DcAt K G H v kds) (r : Rep K G.F G.rho y dy) (e : kyOf dy = some k) : ∃ a o, v = .ref a ∧ DGet H a y o ∧ RO K G.F G.rho o (valD kds k) := by
  obtain ⟨a, kvs, rfl, e2, rk⟩ := h
  exact ⟨a, _, rfl, .inl ⟨kvs, kT k, e2, rep_ky r e, rfl⟩, repK_val k rk⟩
theorem DcAt.isD {v : V} {kds : List (Ky × D)} (h : DcAt K G H v kds) : ∃ a, v = .ref a ∧ IsD H a := by
  obtain ⟨a, kvs, rfl, e2, rk⟩ := h
  exact ⟨a, rfl, .inl ⟨kvs, e2⟩⟩
end
def opM {A A' : Type} (o : Option A) (k : A → M A') : M A' := match o with
  | some a => k a
  | none => no
/-- d[k] -/
def getD (d y : D) : M D := bd (dctO d) fun kv => opM (kyOf y) fun k => opM (valD kv k) pu
def dinD (neg : Bool) (y d : D) : M D := bd (dctO d) fun kv => opM (kyOf y) fun k => pu (.bl (if neg then !(valD kv k).isSome else (valD kv k).isSome))
def get1D (d y : D) : M D := bd (dctO d) fun kv => opM (kyOf y) fun k => pu ((valD kv k).getD .non)
def get2D (d y z : D) : M D := bd (dctO d) fun kv => opM (kyOf y) fun k => pu ((valD kv k).getD z)
def mDGet (md mk : M D) : M D := bd md fun d => bd mk fun y => getD d y
def mDIn (neg : Bool) (mk md : M D) : M D := bd mk fun y => bd md fun d => dinD neg y d
/-- d.get(k): the dict is looked at ahead of the key, too -/
def mGet1 (md mk : M D) : M D := bd md fun d => bd (dctO d) fun _ => bd mk fun y => get1D d y
def mGet2 (md mk mz : M D) : M D := bd md fun d => bd (dctO d) fun _ => bd mk fun y => bd mz fun z => get2D d y z
def dlenD : List D → M D
  | [d] => bd (dctO d) fun kv => pu (.int kv.length)
  | _ => no
def dpF (k : Ky) (v : D) : C → Option (Unit × C)
  | .dct kv => if kv.length < 16777216 then some ((), .dct (putT kv k v)) else none
  | _ => none
def ddF (k : Ky) : C → Option (Unit × C)
  | .dct kv => if (valD kv k).isSome = true then some ((), .dct (dropT kv k)) else none
  | _ => none
/-- d[k] = v -/
def sDPutM (md mk mv : M D) : M Fl := bd mv fun v => bd md fun d => bd mk fun y => opM (kyOf y) fun k => bd (wrtD d (dpF k v)) fun _ => pu .nx
/-- del d[k] -/
def sDDelM (md mk : M D) : M Fl := bd md fun d => bd mk fun y => opM (kyOf y) fun k => bd (wrtD d (ddF k)) fun _ => pu .nx
section
variable {X : Cx} {W : WX} {a b c e o i f value : Expr} {ma mb m md mk mv mz : M D} {ms : M (List D)} {pos pos' p apos cpos tpos : Pos}
theorem opM_at {A1 A2 A' : Type} {K : PySem.W.Frag} {mg : Ev} {G : Gh} {en : En} {so : So} {σ : L2.St} {oo : Option A1} {k : A1 → M A2} {Rl : Gh → Hp → A' → A2 → Prop} {Q : A' → Hp → Prop} (p : Post K mg G W Rl σ (opM oo k en so) Q) : ∃ x, oo = some x ∧ Post K mg G W Rl σ (k x en so) Q := by
  cases oo with
  | none => exact p.elim
  | some x => exact ⟨x, rfl, p⟩
theorem d_dget (hu : X.A.units + 64 < cLine) (ho : DE X W o md) (hi : DE X W i mk) (hs : NoSl i := by intro _ _; rfl) : DE X W (.Subscript o i pos) (mDGet md mk) := by
  refine ⟨PE_imp (pe_dget (by omega) ho.pe hi.pe hs) fun σ H Q ⟨G, en, so, s, p⟩ => ?_⟩
  refine ⟨G, en, so, s, (Post.bind (R1 := rlD X.K) p).imp fun v H1 ⟨G1, en1, so1, d, l, r1, s1, p1⟩ => ⟨G1, en1, so1, s1, (Post.bind (R1 := rlD X.K) p1).imp fun y H2 ⟨G2, en2, so2, dy, l2, r2, s2, p2⟩ => ?_⟩⟩
  obtain ⟨kds, ca, p3⟩ := dctO_at s2 (Rep.up r1 l2) p2
  obtain ⟨k, ek, p4⟩ := opM_at p3
  obtain ⟨x, ex, p5⟩ := opM_at p4
  obtain ⟨a0, oo, rfl, g, ro⟩ := ca.get r2 ek
  rw [ex] at ro
  cases ro with
  | some rr => exact ⟨a0, _, rfl, g, p5.ok s2 rr⟩
theorem din_tr {neg : Bool} {σ : L2.St} {H : Hp} {Q : VK} (q : tM X.K X.ev W (rlD X.K) (mDIn neg mk md) σ H Q) : (if neg then tDNotIn (tM X.K X.ev W (rlD X.K) mk) (tM X.K X.ev W (rlD X.K) md) else tDIn (tM X.K X.ev W (rlD X.K) mk) (tM X.K X.ev W (rlD X.K) md)) σ H Q := by
  obtain ⟨G, en, so, s, p⟩ := q
  cases neg with
  | false =>
    refine ⟨G, en, so, s, (Post.bind (R1 := rlD X.K) p).imp fun y H1 ⟨G1, en1, so1, dy, l, r1, s1, p1⟩ => ⟨G1, en1, so1, s1, (Post.bind (R1 := rlD X.K) p1).imp fun v H2 ⟨G2, en2, so2, d, l2, r2, s2, p2⟩ => ?_⟩⟩
    obtain ⟨kds, ca, p3⟩ := dctO_at s2 r2 p2
    obtain ⟨k, ek, p4⟩ := opM_at p3
    obtain ⟨a0, oo, rfl, g, ro⟩ := ca.get (Rep.up r1 l2) ek
    refine ⟨a0, oo, rfl, g, ?_⟩
    have e : oo.isSome = (valD kds k).isSome := by
      generalize valD kds k = w at ro
      cases ro <;> rfl
    rw [e]
    exact p4.ok s2 (.bl _)
  | true =>
    refine ⟨G, en, so, s, (Post.bind (R1 := rlD X.K) p).imp fun y H1 ⟨G1, en1, so1, dy, l, r1, s1, p1⟩ => ⟨G1, en1, so1, s1, (Post.bind (R1 := rlD X.K) p1).imp fun v H2 ⟨G2, en2, so2, d, l2, r2, s2, p2⟩ => ?_⟩⟩
    obtain ⟨kds, ca, p3⟩ := dctO_at s2 r2 p2
    obtain ⟨k, ek, p4⟩ := opM_at p3
    obtain ⟨a0, oo, rfl, g, ro⟩ := ca.get (Rep.up r1 l2) ek
    refine ⟨a0, oo, rfl, g, ?_⟩
    have e : oo.isSome = (valD kds k).isSome := by
      generalize valD kds k = w at ro
      cases ro <;> rfl
    rw [e]
    exact p4.ok s2 (.bl _)
theorem d_din (hu : X.A.units + 64 < cLine) (hi : DE X W i mk) (ho : DE X W o md) (hm : behindInMarks .In o = false := by with_unfolding_all rfl) : DE X W (.Compare i [.In] [o] pos) (mDIn false mk md) := ⟨PE_imp (pe_cmp (pc_din (by omega) hi.pe ho.pe) hm) fun _ _ _ q => din_tr q⟩
theorem d_dni (hu : X.A.units + 64 < cLine) (hi : DE X W i mk) (ho : DE X W o md) (hm : behindInMarks .NotIn o = false := by with_unfolding_all rfl) : DE X W (.Compare i [.NotIn] [o] pos) (mDIn true mk md) := ⟨PE_imp (pe_cmp (pc_dnotin (by omega) hi.pe ho.pe) hm) fun _ _ _ q => din_tr q⟩
theorem d_dinT (hu : X.A.units + 64 < cLine) (hi : DE X W i mk) (ho : DE X W o md) (hm : behindInMarks .In o = false := by with_unfolding_all rfl) : DT X W (.Compare i [.In] [o] pos) (mT (mDIn false mk md)) := ⟨PT_imp (pt_cmp (pc_din (by omega) hi.pe ho.pe) hm) fun _ _ _ q => din_tr (mT_tr q)⟩
theorem d_dniT (hu : X.A.units + 64 < cLine) (hi : DE X W i mk) (ho : DE X W o md) (hm : behindInMarks .NotIn o = false := by with_unfolding_all rfl) : DT X W (.Compare i [.NotIn] [o] pos) (mT (mDIn true mk md)) := ⟨PT_imp (pt_cmp (pc_dnotin (by omega) hi.pe ho.pe) hm) fun _ _ _ q => din_tr (mT_tr q)⟩
theorem d_get1 (hu : X.A.units + 64 < cLine) (ho : DE X W o md) (he : DE X W e mk) (m : M1 X o "get" apos e cpos := by exact ⟨rfl, rfl, rfl, rfl⟩) : DE X W (.Call (.Attribute o "get" apos) [e] [] cpos) (mGet1 md mk) := by
  refine ⟨PE_imp (pe_dget1 (by omega) ho.pe he.pe m) fun σ H Q ⟨G, en, so, s, p⟩ => ?_⟩
  refine ⟨G, en, so, s, (Post.bind (R1 := rlD X.K) p).imp fun v H1 ⟨G1, en1, so1, d, l, r1, s1, p1⟩ => ?_⟩
  obtain ⟨kds0, ca0, p2⟩ := dctO_at s1 r1 p1
  obtain ⟨a0, rfl, isd⟩ := ca0.isD
  refine ⟨a0, rfl, isd, G1, en1, so1, s1, (Post.bind (R1 := rlD X.K) p2).imp fun y H2 ⟨G2, en2, so2, dy, l2, r2, s2, p3⟩ => ?_⟩
  obtain ⟨kds, ca, p4⟩ := dctO_at s2 (Rep.up r1 l2) p3
  obtain ⟨k, ek, p5⟩ := opM_at p4
  obtain ⟨a1, oo, e1, g, ro⟩ := ca.get r2 ek
  cases e1
  refine ⟨oo, g, p5.ok s2 ?_⟩
  show Rep _ _ _ (oo.getD .non) ((valD kds k).getD .non)
  generalize valD kds k = w at ro
  cases ro with
  | none => exact .non
  | some rr => exact rr
theorem d_get2 (hu : X.A.units + 64 < cLine) (ho : DE X W o md) (he : DE X W e mk) (hf : DE X W f mz) (m : M2 X o "get" apos e f cpos := by exact ⟨rfl, rfl, rfl, rfl⟩) : DE X W (.Call (.Attribute o "get" apos) [e, f] [] cpos) (mGet2 md mk mz) := by
  refine ⟨PE_imp (pe_dget2 (by omega) ho.pe he.pe hf.pe m) fun σ H Q ⟨G, en, so, s, p⟩ => ?_⟩
  refine ⟨G, en, so, s, (Post.bind (R1 := rlD X.K) p).imp fun v H1 ⟨G1, en1, so1, d, l, r1, s1, p1⟩ => ?_⟩
  obtain ⟨kds0, ca0, p2⟩ := dctO_at s1 r1 p1
  obtain ⟨a0, rfl, isd⟩ := ca0.isD
  refine ⟨a0, rfl, isd, G1, en1, so1, s1, (Post.bind (R1 := rlD X.K) p2).imp fun y H2 ⟨G2, en2, so2, dy, l2, r2, s2, p3⟩ => ⟨G2, en2, so2, s2, (Post.bind (R1 := rlD X.K) p3).imp fun z H3 ⟨G3, en3, so3, dz, l3, r3, s3, p4⟩ => ?_⟩⟩
  obtain ⟨kds, ca, p5⟩ := dctO_at s3 (Rep.up r1 (l2.trans l3)) p4
  obtain ⟨k, ek, p6⟩ := opM_at p5
  obtain ⟨a1, oo, e1, g, ro⟩ := ca.get (Rep.up r2 l3) ek
  cases e1
  refine ⟨oo, g, p6.ok s3 ?_⟩
  show Rep _ _ _ (oo.getD z) ((valD kds k).getD dz)
  generalize valD kds k = w at ro
  cases ro with
  | none => exact r3
  | some rr => exact rr
theorem call_lenDR : CallR X (.builtin "len") (fun xs H Q => ∃ a kvs, xs = [V.ref a] ∧ Rd H a (.dK kvs) ∧ Q (.int kvs.length) H) := by
  intro pins s σ H xs us Q I r q
  obtain ⟨a, kvs, rfl, hd, q⟩ := q
  cases r with
  | cons rx rr =>
    cases rr
    cases rx
    exact d_len I hd fun t s' I' => ⟨.int kvs.length, H, I', ⟨t, rfl⟩, q⟩
theorem d_dlen (hg : Gl X "len") (hm : X.mg "len" = none) (ha : DE X W e m) (he : starEach (e :: []) X.env = (false, eval e X.env) :: starEach [] X.env := by rfl) (hpl : (backTo pos (starEach [] X.env)).any (·.1) = false := by rfl) : DE X W (.Call (.Name "len" p) [e] [] pos) (bd (aC m aN) dlenD) := by
  refine ⟨PE_imp (pe_callB call_lenDR hg hm (by decide +kernel) (pa_cons ha.pe pa_nil he) (by decide) (by decide) he hpl) fun σ H Q ⟨G, en, so, s, p⟩ => ?_⟩
  have p' : Post X.K X.ev G W (rlD X.K) σ (bd m (fun d => dlenD [d]) en so) Q := by
    have e : bd (aC m aN) dlenD en so = bd m (fun d => dlenD [d]) en so := by
      unfold aC bd
      cases m en so <;> rfl
    rw [← e]; exact p
  refine ⟨G, en, so, s, (Post.bind (R1 := rlD X.K) p').imp fun v H1 ⟨G1, en1, so1, d, l, r1, s1, p1⟩ => ?_⟩
  obtain ⟨kds, ca, p2⟩ := dctO_at s1 r1 p1
  obtain ⟨a0, kvs, rfl, hd, rk⟩ := ca
  exact ⟨a0, kvs, rfl, hd, by rw [repK_len rk]; exact p2.ok s1 (.int _)⟩
theorem s_dput (hu : X.A.units + 64 < cLine) (ho : DE X W o md) (hi : DE X W i mk) (hv : DE X W value mv) (hs : swapsWith value (some (.Subscript o i pos')) pos.line X.env = pure false := by rfl) : DS X W (.Assign [.Subscript o i pos'] value pos) (sDPutM md mk mv) := by
  refine ⟨PS_imp (ps_dput (by omega) ho.pe hi.pe hv.pe hs) fun E σ H ⟨G, en, so, s, p⟩ => ?_⟩
  refine ⟨G, en, so, s, (SPost.bind (R1 := rlD X.K) p).imp fun v H1 ⟨G1, en1, so1, dv, l1, r1, s1, p1⟩ => ?_⟩
  refine ⟨G1, en1, so1, s1, (SPost.bind (R1 := rlD X.K) p1).imp fun x H2 ⟨G2, en2, so2, dd, l2, r2, s2, p2⟩ => ?_⟩
  refine ⟨G2, en2, so2, s2, (SPost.bind (R1 := rlD X.K) p2).imp fun y H3 ⟨G3, en3, so3, dy, l3, r3, s3, p3⟩ => ?_⟩
  cases ek : kyOf dy with
  | none => rw [ek] at p3; exact p3.elim
  | some k =>
    rw [ek] at p3
    have p4 := SPost.bind (R1 := fun _ _ (_ : Unit) _ => True) (σ := σ) p3
    obtain ⟨a0, u, c0, z, c', rfl, hu', ro, hf, w⟩ := wrtD_at s3 (Rep.up r2 l3) p4
    cases c0 with
    | lst _ => cases hf
    | dct kv =>
      have hf : (if kv.length < 16777216 then some ((), C.dct (putT kv k dv)) else none) = some (z, c') := hf
      split at hf
      · rename_i hl
        cases hf
        obtain ⟨kvs, rfl, rk⟩ := ro
        refine ⟨a0, _, rfl, .inl ⟨kvs, kT k, hu', rep_ky r3 ek, by rw [repK_len rk, sizeLine_eq]; exact hl, rfl⟩, ?_⟩
        obtain ⟨en', so', s5, p5⟩ := w (.dK (putK kvs (kT k) v)) ⟨_, rfl, repK_put rk (Rep.up r1 (l2.trans l3))⟩
        obtain ⟨G6, en6, so6, _, l6, _, s6, p6⟩ := p5.ok (v := ()) s5 True.intro
        exact p6 σ _ G6 (.refl _) s6
      · cases hf
theorem s_ddel (ho : DE X W o md) (hi : DE X W i mk) : DS X W (.Delete [.Subscript o i tpos] pos) (sDDelM md mk) := by
  refine ⟨PS_imp (ps_ddel ho.pe hi.pe) fun E σ H ⟨G, en, so, s, p⟩ => ?_⟩
  refine ⟨G, en, so, s, (SPost.bind (R1 := rlD X.K) p).imp fun x H2 ⟨G2, en2, so2, dd, l2, r2, s2, p2⟩ => ?_⟩
  refine ⟨G2, en2, so2, s2, (SPost.bind (R1 := rlD X.K) p2).imp fun y H3 ⟨G3, en3, so3, dy, l3, r3, s3, p3⟩ => ?_⟩
  cases ek : kyOf dy with
  | none => rw [ek] at p3; exact p3.elim
  | some k =>
    rw [ek] at p3
    have p4 := SPost.bind (R1 := fun _ _ (_ : Unit) _ => True) (σ := σ) p3
    obtain ⟨a0, u, c0, z, c', rfl, hu', ro, hf, w⟩ := wrtD_at s3 (Rep.up r2 l3) p4
    cases c0 with
    | lst _ => cases hf
    | dct kv =>
      have hf : (if (valD kv k).isSome = true then some ((), C.dct (dropT kv k)) else none) = some (z, c') := hf
      split at hf
      · rename_i hl
        cases hf
        obtain ⟨kvs, rfl, rk⟩ := ro
        have e : (valV kvs (kT k)).isSome = true := by
          have ro := repK_val k rk
          revert hl
          generalize valD kv k = w0 at ro
          generalize valV kvs (kT k) = w1 at ro
          cases ro with
          | none => intro z; cases z
          | some _ => intro _; rfl
        refine ⟨a0, kvs, kT k, rfl, hu', rep_ky r3 ek, e, ?_⟩
        obtain ⟨en', so', s5, p5⟩ := w (.dK (dropK kvs (kT k))) ⟨_, rfl, repK_drop k rk⟩
        obtain ⟨G6, en6, so6, _, l6, _, s6, p6⟩ := p5.ok (v := ()) s5 True.intro
        exact p6 σ _ G6 (.refl _) s6
      · cases hf

/-! ### new dicts -/
def mDNew : M B := pu (.cel (.dct []))
theorem b_dnew : DB X W (.Dict [] [] pos) mDNew := by
  refine ⟨PE_imp pe_dnewK fun σ H Q ⟨G, en, so, s, p⟩ q hq => ?_⟩
  exact Post.ok' p (tag_le q .tmp) (s.newT (t := .tmp) hq) ⟨q, rfl, tag_own, _, upd_same, .nil⟩
/-- dict(d) -/
def dictD : List D → M B
  | [d] => bd (dctO d) fun kv => pu (.cel (.dct kv))
  | _ => no
theorem opn_dict {K : PySem.W.Frag} {mg : Ev} : OpNB K mg (fun xs H Q => ∃ (a : Addr) (kvs : List (Key × V)), xs = [.ref a] ∧ Rd H a (.dK kvs) ∧ ∀ p, H p = none → Q (.ref p) (upd H p (.dK kvs))) dictD := by
  intro xs ds G en so σ H W Q r s p
  match ds, r, p with
  | [d], r, p =>
    obtain ⟨x, rfl, h⟩ := reps1 r
    obtain ⟨kds, ca, p2⟩ := dctO_at s h p
    obtain ⟨a0, kvs, rfl, hd, rk⟩ := ca
    exact ⟨a0, kvs, rfl, hd, fun q hq => p2.ok' (tag_le q .tmp) (s.newT (t := .tmp) hq) ⟨q, rfl, tag_own, _, upd_same, rk⟩⟩
  | [], _, p => exact False.elim p
  | d :: _ :: _, _, p => exact False.elim p
/-- dict(pairs) -/
def prsOf : List D → Option (List (Ky × D))
  | [] => some []
  | .tup [k, v] :: r => (kyOf k).bind fun k => (prsOf r).map ((k, v) :: ·)
  | _ => none
def dictP : List D → M B
  | [.lst xs] => opM (prsOf xs) fun kv => gd (xs.length ≤ 16777216) (pu (.cel (.dct (mergeT [] kv))))
  | _ => no
theorem prs_of {K : PySem.W.Frag} {F H : Hp} {rho : List (Addr × Addr)} (sf : Same F H) : ∀ {vs : List V} {ds : List D} {kv : List (Ky × D)}, Reps K F rho vs ds → prsOf ds = some kv → ∃ (ps : List Addr) (kvs : List (Key × V)), vs = ps.map V.ref ∧ Paired (fun p kv => SqT K H p [kV kv.1, kv.2]) ps kvs ∧ RepK K F rho kvs kv
  | _, [], kv, .nil, e => by cases e; exact ⟨[], [], rfl, .nil, .nil⟩
  | _, .tup [k, v] :: r, kv, .cons h q, e => by
    have e' : ((kyOf k).bind fun k => (prsOf r).map ((k, v) :: ·)) = some kv := e
    cases ek : kyOf k with
    | none => rw [ek] at e'; cases e'
    | some k' =>
      rw [ek] at e'
      cases ep : prsOf r with
      | none => rw [ep] at e'; cases e'
      | some kv' =>
        rw [ep] at e'
        cases e'
        obtain ⟨ps, kvs, h1, h2, h3⟩ := prs_of sf q ep
        obtain ⟨a, v1, v2, rfl, sq, r1, r2⟩ := rep_pair h
        have := rep_ky r1 ek
        subst this
        exact ⟨a :: ps, (kT k', v2) :: kvs, by rw [h1]; rfl, .cons (same_seqT sf sq) h2, .cons r2 h3⟩
  | _, .non :: _, _, _, e => nomatch e
  | _, .bl _ :: _, _, _, e => nomatch e
  | _, .int _ :: _, _, _, e => nomatch e
  | _, .str _ :: _, _, _, e => nomatch e
  | _, .lst _ :: _, _, _, e => nomatch e
  | _, .dct _ :: _, _, _, e => nomatch e
  | _, .obj _ :: _, _, _, e => nomatch e
  | _, .tup [] :: _, _, _, e => nomatch e
  | _, .tup [_] :: _, _, _, e => nomatch e
  | _, .tup (_ :: _ :: _ :: _) :: _, _, _, e => nomatch e
theorem opn_dictP {K : PySem.W.Frag} {mg : Ev} : OpNB K mg (fun xs H Q => ∃ (a : Addr) (ps : List Addr) (kvs : List (Key × V)), xs = [.ref a] ∧ SqL K H a (ps.map V.ref) ∧ Paired (fun p kv => SqT K H p [kV kv.1, kv.2]) ps kvs ∧ ∀ p, H p = none → Q (.ref p) (upd H p (.dK (mergeK [] kvs)))) dictP := by
  intro xs ds G en so σ H W Q r s p
  match ds, r, p with
  | [.lst zs], r, p =>
    obtain ⟨x, rfl, h⟩ := reps1 r
    cases h with
    | lst h r2 =>
      obtain ⟨kv, ek, p2⟩ := opM_at p
      obtain ⟨hl, p3⟩ := Post.gd p2
      obtain ⟨ps, kvs, rfl, h2, h3⟩ := prs_of s.toSimO.rep r2 ek
      exact ⟨_, ps, kvs, rfl, s.toSimO.rep.seq h, h2, fun q hq => p3.ok' (tag_le q .tmp) (s.newT (t := .tmp) hq) ⟨q, rfl, tag_own, _, upd_same, repK_merge h3 .nil⟩⟩
  | [], _, p => exact False.elim p
  | [.non], _, p => exact False.elim p
  | [.bl _], _, p => exact False.elim p
  | [.int _], _, p => exact False.elim p
  | [.str _], _, p => exact False.elim p
  | [.tup _], _, p => exact False.elim p
  | [.dct _], _, p => exact False.elim p
  | [.obj _], _, p => exact False.elim p
  | d :: _ :: _, _, p => cases d <;> exact False.elim p
end
end
end Dl

set_option Elab.async false
set_option linter.all false
set_option maxRecDepth 100000
set_option maxHeartbeats 2000000
/-! The data level: dicts that are walked, dict comprehensions. -/
namespace Dl
open PySem PySem.Spec PyProof.Rows L2
noncomputable section

/-! ### locks -/
def _root_.Dl.Gh.lock (G : Gh) (a : Addr) (u : HO) (k : Nat) : Gh := { G with L := fun b => if b = a then some (u, k) else G.L b, own := fun b => if b = a then .lk else G.own b }
def _root_.Dl.Gh.unlk (G0 G : Gh) (a : Addr) (k : Nat) : Gh := { G with L := G0.L, own := fun b => if b = a then .ob k else G.own b }
section
variable {K : PySem.W.Frag} {mg : Ev} {G G' : Gh} {en en' : En} {so so' : So} {σ σ' : L2.St} {H H' : Hp}
theorem Sim.lock {k : Nat} {kv : List (Ky × D)} {a dx : Addr} (s : Sim K mg G en so σ H) (e : so[k]? = some (.cel (.dct kv))) (er : G.rho[k]? = some (a, dx)) : ∃ kvs, H a = some (.dK kvs) ∧ RepK K G.F G.rho kvs kv ∧
    ∀ od, Sim K mg (G.lock a (.frz od (.dK kvs)) k) en (so.set k (.lck kv)) σ (upd H a (.frz od (.dK kvs))) := by
  obtain ⟨oa, kvs, ha, rk⟩ := s.ob k _ a dx e er
  refine ⟨kvs, ha, rk, fun od => ?_⟩
  have ne : ∀ b t, G.own b = t → t ≠ .ob k → b ≠ a := fun b t h1 h2 z => h2 (by rw [← h1, z]; exact oa)
  have ow : ∀ b t, G.own b = t → t ≠ .ob k → (G.lock a (.frz od (.dK kvs)) k).own b = t := fun b t h1 h2 => (if_neg (ne b t h1 h2)).trans h1
  have hk : k < so.length := (List.getElem?_eq_some_iff.mp e).1
  refine ⟨⟨fun b u h => ?_, fun b u h => ?_, by rw [List.length_set]; exact s.len, fun j o b dy e1 e2 => ?_, fun b u h => ?_, s.tb⟩, s.ln, fun i b h => ?_⟩
  · obtain ⟨h1, h2⟩ := s.fr b u h
    exact ⟨by rw [upd_ne (ne b _ h2 (by intro z; cases z))]; exact h1, ow b _ h2 (by intro z; cases z)⟩
  · obtain ⟨h1, h2⟩ := s.re b u h
    exact ⟨by rw [upd_ne (ne b _ h2 (by intro z; cases z))]; exact h1, ow b _ h2 (by intro z; cases z)⟩
  · by_cases hj : k = j
    · subst hj
      rw [List.getElem?_set_self hk] at e1
      cases e1
      have e2' : G.rho[k]? = some (b, dy) := e2
      rw [er] at e2'
      cases e2'
      exact ⟨od, kvs, if_pos rfl, rk⟩
    · rw [List.getElem?_set_ne hj] at e1
      have h0 := s.ob j o b dy e1 e2
      refine h0.keep (Same.refl _) (fun _ _ h => h) (fun c u h1 h2 => ?_) fun u h => ?_
      · have hc : c ≠ a := ne c _ rfl (by rcases h2 with h2 | h2 <;> (rw [h2]; intro z; cases z); exact hj rfl)
        exact ⟨by rw [upd_ne hc]; exact h1, if_neg hc⟩
      · have hb : b ≠ a := ne b _ (s.lk _ _ h).2 (by intro z; cases z)
        exact (if_neg hb).trans h
  · by_cases hb : b = a
    · subst hb
      have h' : (if b = b then some (HO.frz od (.dK kvs), k) else G.L b) = some u := h
      rw [if_pos rfl] at h'
      cases h'
      exact ⟨upd_same, if_pos rfl⟩
    · have h' : (if b = a then some (HO.frz od (.dK kvs), k) else G.L b) = some u := h
      rw [if_neg hb] at h'
      obtain ⟨h1, h2⟩ := s.lk b u h'
      exact ⟨by rw [upd_ne hb]; exact h1, (if_neg hb).trans h2⟩
  · obtain ⟨v, e1, r⟩ := s.sl i b h
    refine ⟨v, e1, r.keep (show Same G.F (G.lock a (.frz od (.dK kvs)) k).F from Same.refl _) (show Pre G.rho (G.lock a (.frz od (.dK kvs)) k).rho from fun _ _ h => h) fun c u h1 h2 => ?_⟩
    have hc : c ≠ a := ne c _ h2 (by intro z; cases z)
    exact ⟨by rw [upd_ne hc]; exact h1, (if_neg hc).trans h2⟩
theorem Sim.unlock {k : Nat} {kv : List (Ky × D)} {kvs : List (Key × V)} {a dx : Addr} {od : Obj} (s0 : Sim K mg G en so σ H) (e0 : so[k]? = some (.cel (.dct kv))) (er : G.rho[k]? = some (a, dx)) (rk : RepK K G.F G.rho kvs kv)
    (l : (G.lock a (.frz od (.dK kvs)) k).le G') (s : Sim K mg G' en' so' σ' H') : H' a = some (.frz od (.dK kvs)) ∧ G.le (G.unlk G' a k) ∧ Sim K mg (G.unlk G' a k) en' (so'.set k (.cel (.dct kv))) σ' (upd H' a (.dK kvs)) := by
  have hL : G'.L a = some (.frz od (.dK kvs), k) := by rw [l.L]; exact if_pos rfl
  obtain ⟨hH, how⟩ := s.lk a _ hL
  have ne : ∀ b t, G'.own b = t → t ≠ .lk → b ≠ a := fun b t h1 h2 z => h2 (by rw [← h1, z]; exact how)
  have ow : ∀ b t, G'.own b = t → t ≠ .lk → (G.unlk G' a k).own b = t := fun b t h1 h2 => (if_neg (ne b t h1 h2)).trans h1
  have er' : G'.rho[k]? = some (a, dx) := l.rho _ _ er
  have hk : k < so'.length := by rw [s.len]; exact (List.getElem?_eq_some_iff.mp er').1
  have oa : G.own a = .ob k := (s0.ob k _ a dx e0 er).1
  refine ⟨hH, ⟨l.F, l.rho, l.R, rfl⟩, ⟨⟨fun b u h => ?_, fun b u h => ?_, by rw [List.length_set]; exact s.len, fun j o b dy e1 e2 => ?_, fun b u h => ?_, s.tb⟩, s.ln, fun i b h => ?_⟩⟩
  · obtain ⟨h1, h2⟩ := s.fr b u h
    exact ⟨by rw [upd_ne (ne b _ h2 (by intro z; cases z))]; exact h1, ow b _ h2 (by intro z; cases z)⟩
  · obtain ⟨h1, h2⟩ := s.re b u h
    exact ⟨by rw [upd_ne (ne b _ h2 (by intro z; cases z))]; exact h1, ow b _ h2 (by intro z; cases z)⟩
  · by_cases hj : k = j
    · subst hj
      rw [List.getElem?_set_self hk] at e1
      cases e1
      have e2' : G'.rho[k]? = some (b, dy) := e2
      rw [er'] at e2'
      cases e2'
      exact ⟨if_pos rfl, kvs, upd_same, rk.mono l.F l.rho⟩
    · rw [List.getElem?_set_ne hj] at e1
      have h0 := s.ob j o b dy e1 e2
      refine h0.keep (Same.refl _) (fun _ _ h => h) (fun c u h1 h2 => ?_) fun u h => ?_
      · have hc : c ≠ a := ne c _ rfl (by rcases h2 with h2 | h2 <;> (rw [h2]; intro z; cases z))
        exact ⟨by rw [upd_ne hc]; exact h1, if_neg hc⟩
      · have hb : b ≠ a := fun z => by
          rw [z, hL] at h
          cases h
          exact hj rfl
        have h2 : G'.L b = some (u, j) := h
        rw [l.L] at h2
        have h3 : (if b = a then some (HO.frz od (.dK kvs), k) else G.L b) = some (u, j) := h2
        rw [if_neg hb] at h3
        exact h3
  · have hb : b ≠ a := fun z => by
      have h1 := (s0.lk b u h).2
      rw [z, oa] at h1
      cases h1
    have h2 : G'.L b = some u := by
      rw [l.L]
      exact (if_neg hb).trans h
    obtain ⟨h3, h4⟩ := s.lk b u h2
    exact ⟨by rw [upd_ne hb]; exact h3, (if_neg hb).trans h4⟩
  · obtain ⟨v, e1, r⟩ := s.sl i b h
    refine ⟨v, e1, r.keep (show Same G'.F (G.unlk G' a k).F from Same.refl _) (show Pre G'.rho (G.unlk G' a k).rho from fun _ _ h => h) fun c u h1 h2 => ?_⟩
    have hc : c ≠ a := ne c _ h2 (by intro z; cases z)
    exact ⟨by rw [upd_ne hc]; exact h1, (if_neg hc).trans h2⟩
end
/-- which dict is walked -/
def selO (md : M D) : En → So → Option Nat := fun en so => match md en so with
  | .ok (.obj k) _ _ => some k
  | _ => none
def unlR {A : Type} (k : Nat) (kv : List (Ky × D)) : Re A → Re A
  | .ok a en so => .ok a en (so.set k (.cel (.dct kv)))
  | _ => .no
def lockM {A : Type} (sel : En → So → Option Nat) (m : M A) : M A := fun en so => match sel en so with
  | some k => (match so[k]? with
    | some (.cel (.dct kv)) => unlR k kv (m en (so.set k (.lck kv)))
    | _ => .no)
  | none => .no
section
variable {X : Cx} {W : WX} {st : Stmt} {m : M Fl} {mB : M B} {mD : M D} {e : Expr} {sel : En → So → Option Nat}
/-- a statement that walks a dict -/
theorem s_lock (h : DS X W0 st m) : DS X W st (lockM sel m) := by
  refine ⟨PS_imp (ps_lock h.ps) fun E σ H ⟨G, en, so, s, p⟩ => ?_⟩
  unfold lockM at p
  cases h1 : sel en so with
  | none => rw [h1] at p; exact p.elim
  | some k =>
    rw [h1] at p
    dsimp only at p
    cases h2 : so[k]? with
    | none => rw [h2] at p; exact p.elim
    | some o =>
      rw [h2] at p
      cases o with
      | cel c =>
        cases c with
        | lst _ => exact p.elim
        | dct kv =>
          dsimp only at p
          have hk : k < G.rho.length := by rw [← s.len]; exact (List.getElem?_eq_some_iff.mp h2).1
          obtain ⟨a, dx, er⟩ : ∃ a dx, G.rho[k]? = some (a, dx) := ⟨_, _, List.getElem?_eq_getElem hk⟩
          obtain ⟨kvs, ha, rk, lk⟩ := s.lock h2 er
          refine ⟨a, .dK kvs, ha, True.intro, fun od => ⟨_, en, _, lk od, ?_⟩⟩
          have key : ∀ {en' : En} {so' : So} {σ' : L2.St} {H' : Hp} {G' : Gh}, (G.lock a (.frz od (.dK kvs)) k).le G' → Sim X.K X.ev G' en' so' σ' H' → H' a = some (.frz od (.dK kvs)) ∧ G.le (G.unlk G' a k) ∧ Sim X.K X.ev (G.unlk G' a k) en' (so'.set k (.cel (.dct kv))) σ' (upd H' a (.dK kvs)) :=
            fun l' s' => s.unlock h2 er rk l' s'
          revert p
          cases m en (so.set k (.lck kv)) with
          | no => exact fun p => p
          | exc x en' so' => exact fun p => p.elim
          | ok fl en' so' =>
            intro p
            cases fl with
            | nx =>
              intro σ' H' G' l' s'
              obtain ⟨g1, g2, g3⟩ := key l' s'
              exact ⟨g1, p _ _ _ g2 g3⟩
            | bk =>
              intro σ' H' G' l' s'
              obtain ⟨g1, g2, g3⟩ := key l' s'
              exact ⟨g1, p _ _ _ g2 g3⟩
            | ct =>
              intro σ' H' G' l' s'
              obtain ⟨g1, g2, g3⟩ := key l' s'
              exact ⟨g1, p _ _ _ g2 g3⟩
            | rt b =>
              intro v σ' H' G' l' s' rb
              obtain ⟨g1, g2, g3⟩ := key l' s'
              have hL : G'.L a = some (.frz od (.dK kvs), k) := by rw [l'.L]; exact if_pos rfl
              have how := (s'.lk a _ hL).2
              refine ⟨g1, p v _ _ _ g2 g3 (rb.keep (show Same G'.F (G.unlk G' a k).F from Same.refl _) (show Pre G'.rho (G.unlk G' a k).rho from fun _ _ h => h) fun c u h1 h2 => ?_)⟩
              have hc : c ≠ a := fun z => by rw [z, how] at h2; cases h2
              exact ⟨by rw [upd_ne hc]; exact h1, (if_neg hc).trans h2⟩
      | _ => exact p.elim
theorem lockE_tr {σ : L2.St} {H : Hp} {Q : VK} {A1 : Type} {mm : M A1} {Rl : Gh → Hp → V → A1 → Prop} (hR : ∀ (G : Gh) (H : Hp) (a : Addr) (k : Nat) (G0 : Gh) (kvs : List (Key × V)) (v : V) (x : A1), G.own a = .lk → Rl G H v x → Rl (G0.unlk G a k) (upd H a (.dK kvs)) v x)
    (q : tM X.K X.ev W Rl (lockM sel mm) σ H Q) : tLockE (tM X.K X.ev W0 Rl mm) σ H Q := by
  obtain ⟨G, en, so, s, p⟩ := q
  unfold lockM at p
  cases h1 : sel en so with
  | none => rw [h1] at p; exact p.elim
  | some k =>
    rw [h1] at p
    dsimp only at p
    cases h2 : so[k]? with
    | none => rw [h2] at p; exact p.elim
    | some o =>
      rw [h2] at p
      cases o with
      | cel c =>
        cases c with
        | lst _ => exact p.elim
        | dct kv =>
          dsimp only at p
          have hk : k < G.rho.length := by rw [← s.len]; exact (List.getElem?_eq_some_iff.mp h2).1
          obtain ⟨a, dx, er⟩ : ∃ a dx, G.rho[k]? = some (a, dx) := ⟨_, _, List.getElem?_eq_getElem hk⟩
          obtain ⟨kvs, ha, rk, lk⟩ := s.lock h2 er
          refine ⟨a, .dK kvs, ha, True.intro, fun od => ⟨_, en, _, lk od, ?_⟩⟩
          revert p
          cases mm en (so.set k (.lck kv)) with
          | no => exact fun p => p
          | exc x en' so' => exact fun p => p.elim
          | ok b en' so' =>
            intro p v H' G' l' s' rb
            obtain ⟨g1, g2, g3⟩ := s.unlock h2 er rk l' s'
            have hL : G'.L a = some (.frz od (.dK kvs), k) := by rw [l'.L]; exact if_pos rfl
            exact ⟨g1, p v _ _ g2 g3 (hR G' H' a k G kvs v b (s'.lk a _ hL).2 rb)⟩
      | _ => exact p.elim
theorem b_lock (h : DB X W0 e mB) : DB X W e (lockM sel mB) := by
  refine ⟨PE_imp (pe_lock h.pe) fun σ H Q q => lockE_tr (fun G H a k G0 kvs v x how rb => ?_) q⟩
  refine RB.keep (G := G) (G' := G0.unlk G a k) (show Same G.F (G0.unlk G a k).F from Same.refl _) (show Pre G.rho (G0.unlk G a k).rho from fun _ _ h => h) rb fun c u h1 h2 => ?_
  have hc : c ≠ a := fun z => by rw [z, how] at h2; cases h2
  exact ⟨by rw [upd_ne hc]; exact h1, (if_neg hc).trans h2⟩
end

/-! ### for k in d -/
def keysD (kv : List (Ky × D)) : List D := kv.map fun p => kyD p.1
def keyO : D → M (List D)
  | .obj k => fun en so => match so[k]? with
    | some (.lck kv) => .ok (keysD kv) en so
    | _ => .no
  | _ => no
def itK (m : M D) : M (List D) := bd m keyO
section
variable {X : Cx} {W : WX} {tg e : Expr} {m : M D}
theorem repK_at {K : PySem.W.Frag} {F : Hp} {rho : List (Addr × Addr)} : ∀ {vs : List (Key × V)} {ds : List (Ky × D)} {j : Nat} {p : Ky × D}, RepK K F rho vs ds → ds[j]? = some p → ∃ v, vs[j]? = some (kT p.1, v) ∧ Rep K F rho v p.2
  | _, _, _, _, .nil, e => nomatch e
  | _, _, 0, _, .cons h _, e => by cases e; exact ⟨_, rfl, h⟩
  | _, _, j + 1, _, .cons _ r, e => by
    obtain ⟨v, h1, h2⟩ := repK_at (j := j) r (by simpa using e)
    exact ⟨v, by simpa using h1, h2⟩
theorem i_keys (h : DE X W e m) : DI X W tg e (itK m) := by
  refine ⟨PI_imp (pi_keys h.pe) fun σ H Q ⟨G, en, so, s, p⟩ => ?_⟩
  refine ⟨G, en, so, s, (Post.bind (R1 := rlD X.K) p).imp fun v H1 ⟨G1, en1, so1, d, l, r1, s1, p1⟩ => ?_⟩
  cases r1 with
  | @obj k a dx hr =>
    have e1 : keyO (.obj k) en1 so1 = (match so1[k]? with
      | some (.lck kv) => .ok (keysD kv) en1 so1
      | _ => .no : Re (List D)) := rfl
    rw [e1] at p1
    cases h1 : so1[k]? with
    | none => rw [h1] at p1; exact p1.elim
    | some o =>
      rw [h1] at p1
      cases o with
      | lck kv =>
        obtain ⟨od, kvs, hL, rk⟩ := s1.ob k _ a dx h1 hr
        refine ⟨a, od, rfl, .inl ⟨kvs, (s1.lk _ _ hL).1, p1.ok (v := Itk a od kvs) s1 fun i H' sf sl => ⟨fun d ed => ?_, fun hl => ⟨sl _ _ hL, ?_⟩⟩⟩⟩
        · unfold keysD at ed
          rw [List.getElem?_map] at ed
          cases q : kv[i]? with
          | none => rw [q] at ed; cases ed
          | some pr =>
            rw [q] at ed
            cases ed
            obtain ⟨v, e2, _⟩ := repK_at rk q
            refine ⟨⟨sl _ _ hL, (List.getElem?_eq_some_iff.mp e2).1⟩, fun x H'' ⟨g1, k', v', g2, g3⟩ => .inl ⟨g1, ?_⟩⟩
            rw [e2] at g2
            cases g2
            rw [g3]
            exact ky_rep pr.1
        · unfold keysD at hl
          rw [List.length_map] at hl
          rw [repK_len rk]
          exact hl
      | _ => exact p1.elim
  | _ => exact p1.elim
end

/-! ### {k: v for ..} -/
def dcGo (vs : List Nat) (tg : Tg) (tt : M Bool) (ek ev : M D) : List D → List (Ky × D) → M (List (Ky × D))
  | [], acc => pu acc
  | d :: ds, acc => fun en so => match tg d en with
    | none => .no
    | some en0 => match tt en0 so with
      | .ok false en1 so1 => dcGo vs tg tt ek ev ds acc (wipeE en1 vs) so1
      | .ok true en1 so1 => match ek en1 so1 with
        | .ok y en2 so2 => (match ev en2 so2 with
          | .ok z en3 so3 => (match kyOf y with
            | some k => if acc.length < 16777216 then dcGo vs tg tt ek ev ds (putT acc k z) (wipeE en3 vs) so3 else .no
            | none => .no)
          | _ => .no)
        | _ => .no
      | _ => .no
def mDc (vs : List Nat) (tg : Tg) (src : M (List D)) (tt : M Bool) (ek ev : M D) : M B := bd src fun ds en so => match dcGo vs tg tt ek ev ds [] (wipeE en vs) so with
  | .ok xs en' so' => .ok (.cel (.dct xs)) (backE en en' vs) so'
  | _ => .no
section
variable {X : Cx} {W : WX} {tg iter kx vx : Expr} {ifs : List Expr} {scope : Scope} {pos : Pos} {own : List (Str × Nat)} {tgM : Tg} {src : M (List D)} {tt : M Bool} {ek ev : M D}
theorem dc_tr {σ : L2.St} {K : PySem.W.Frag} {mg : Ev} {vs : List Nat} {Qd : Hp → Prop} {G1 : Gh} {en1 : En} {so1 : So} {H1 : Hp} {J : It} {ds : List D} {xs : List (Ky × D)} {enF : En} {soF : So} {Dl : Addr}
    (s1 : Sim K mg G1 en1 so1 σ H1) (wk : Walk K G1.F G1.L G1.rho J ds) (hD : H1 Dl = none) (res : dcGo vs tgM tt ek ev ds [] (wipeE en1 vs) so1 = .ok xs enF soF)
    (fin : ∀ G' H', G1.le G' → Sim K mg G' (backE en1 enF vs) soF σ H' → RB K G' H' .tmp (.ref Dl) (.cel (.dct xs)) → Qd H') :
    ∃ Wn : Nat → Nat → Hp → Prop, (∃ m, Wn 0 m (upd H1 Dl (.dK []))) ∧ ∀ i m H, Wn i m H →
      (J.stop i H ∧ Qd H) ∨ (J.go i H ∧ ∃ Nx : Hp → Prop, (∀ H', Nx H' → ∃ m', m' < m ∧ Wn (i + 1) m' H') ∧ ∀ x H', J.yld i H x H' →
        tgR K mg tgM vs x (L2.wipe σ vs) H' fun σ2 H2 => L2.wipe σ2 vs = L2.wipe σ vs ∧ tM K mg W0 rlT tt σ2 H2 fun b H3 =>
          if b = true then tM K mg W0 (rlD K) ek σ2 H3 fun y H4 => tM K mg W0 (rlD K) ev σ2 H4 fun z H5 => ∃ kvs k, y = kV k ∧ H5 Dl = some (.dK kvs) ∧ kvs.length < sizeLine ∧ Nx (upd H5 Dl (.dK (putK kvs k z))) else Nx H3) := by
  have R00 : G1.R Dl = none := by
    cases q : G1.R Dl with
    | none => rfl
    | some u => rw [(s1.re Dl u q).1] at hD; cases hD
  refine ⟨fun i m H => m = ds.length - i ∧ i ≤ ds.length ∧ ∃ G en so acc va, Same G1.F G.F ∧ Pre G1.rho G.rho ∧ (∃ R0, G.R = upd R0 Dl (.dK va) ∧ RLe G1.R R0 ∧ R0 Dl = none) ∧ G.L = G1.L ∧ RepK K G.F G.rho va acc ∧ Sim K mg G en so (L2.wipe σ vs) H ∧ dcGo vs tgM tt ek ev (ds.drop i) acc en so = .ok xs enF soF, ⟨_, rfl, Nat.zero_le _, G1.keepR Dl (.dK []), wipeE en1 vs, so1, [], [], Same.refl _, fun _ _ h => h, ⟨G1.R, rfl, RLe.refl _, R00⟩, rfl, .nil, (s1.wipe vs).newR hD, res⟩, ?_⟩
  rintro i m H ⟨rfl, hi, G, en, so, acc, va, sF, sr, hR, hL, ra, s, run⟩
  have sfH : Same G1.F H := sF.trans s.toSimO.rep
  have sfL : ∀ a o, G1.L a = some o → H a = some o.1 := fun a o e => (s.lk a o (by rw [hL]; exact e)).1
  obtain ⟨R0, hR, lR, nR⟩ := hR
  have nT : ∀ ps, HO.dK va ≠ .tbl ps := fun ps z => by cases z
  by_cases hlt : i < ds.length
  · have ed : ds[i]? = some ds[i] := List.getElem?_eq_getElem hlt
    obtain ⟨go, yl⟩ := (wk i H sfH sfL).1 _ ed
    refine .inr ⟨go, _, fun H' h => ⟨ds.length - (i + 1), by omega, h⟩, fun x H' y => ?_⟩
    have dr : ds.drop i = ds[i] :: ds.drop (i + 1) := by rw [List.drop_eq_getElem_cons hlt]
    rw [dr] at run
    have item : ∃ G2, G.le G2 ∧ Sim K mg G2 en so (L2.wipe σ vs) H' ∧ Rep K G2.F G2.rho x ds[i] := by
      rcases yl x H' y with ⟨rfl, r⟩ | ⟨T, ws, es, rfl, hT, rfl, e, r⟩
      · exact ⟨G, .refl G, s, Rep.mono sF sr r⟩
      · obtain ⟨s2, l2⟩ := s.newF (o := .tup ws) hT
        refine ⟨_, l2, s2, ?_⟩
        rw [e]
        exact .tup (.inl (.inl (show upd G.F T _ T = _ from upd_same))) (r.mono (sF.trans l2.F) fun k x h => l2.rho k x (sr k x h))
    obtain ⟨G2, l2, s2, r2⟩ := item
    unfold dcGo at run
    cases et : tgM ds[i] en with
    | none => rw [et] at run; cases run
    | some en0 =>
      rw [et] at run
      refine ⟨G2, en, so, ds[i], en0, r2, s2, et, fun σ' sg wp => ⟨by rw [wp, wipe_wipe], G2, en0, so, sg, ?_⟩⟩
      dsimp only at run
      cases e1 : tt en0 so with
      | no => rw [e1] at run; cases run
      | exc x1 en2 so2 => rw [e1] at run; cases run
      | ok b en2 so2 =>
        rw [e1] at run
        intro b' H3 G3 l3 s3 hb
        subst hb
        cases b' with
        | false =>
          refine iteF ⟨rfl, hlt, G3, _, so2, acc, va, sF.trans (l2.trans l3).F, fun k x h => (l2.trans l3).rho k x (sr k x h), RLe.cut R00 lR (hR ▸ (l2.trans l3).R) nT, (l2.trans l3).L.trans hL, ra.mono (l2.trans l3).F (l2.trans l3).rho, ?_, run⟩
          have := s3.wipe vs
          rw [wp, wipe_wipe] at this
          exact this
        | true =>
          refine iteT ⟨G3, en2, so2, s3, ?_⟩
          dsimp only at run
          cases e2 : ek en2 so2 with
          | no => rw [e2] at run; cases run
          | exc x1 en4 so4 => rw [e2] at run; cases run
          | ok y4 en4 so4 =>
            rw [e2] at run
            intro y' H4 G4 l4 s4 ry
            refine ⟨G4, en4, so4, s4, ?_⟩
            dsimp only at run
            cases e3 : ev en4 so4 with
            | no => rw [e3] at run; cases run
            | exc x1 en5 so5 => rw [e3] at run; cases run
            | ok z5 en5 so5 =>
              rw [e3] at run
              dsimp only at run
              intro z' H5 G5 l5 s5 rz
              cases e4 : kyOf y4 with
              | none => rw [e4] at run; cases run
              | some k =>
                rw [e4] at run
                dsimp only at run
                by_cases ha : acc.length < 16777216
                · rw [if_pos ha] at run
                  have l := ((l2.trans l3).trans l4).trans l5
                  obtain ⟨R5, hR5, lR5, nR5⟩ := RLe.cut R00 lR (hR ▸ l.R : RLe (upd R0 Dl (.dK va)) G5.R) nT
                  have hD5 : H5 Dl = some (.dK va) := (s5.re Dl (.dK va) (by rw [hR5]; exact upd_same)).1
                  refine ⟨va, kT k, rep_ky ry e4, hD5, by rw [repK_len ra, sizeLine_eq]; exact ha, rfl, hlt, G5.setR (upd R5 Dl (.dK (putK va (kT k) z'))), _, so5, putT acc k z5, putK va (kT k) z', sF.trans l.F, fun k x h => l.rho k x (sr k x h), ⟨R5, rfl, lR5, nR5⟩, l.L.trans hL, repK_put (ra.mono l.F l.rho) rz, ?_, run⟩
                  have := (s5.setR (o' := .dK (putK va (kT k) z')) hR5).wipe vs
                  rw [wp, wipe_wipe] at this
                  exact this
                · rw [if_neg ha] at run; cases run
  · have e : i = ds.length := by omega
    subst e
    rw [List.drop_length] at run
    cases run
    refine .inl ⟨(wk _ H sfH sfL).2 (Nat.le_refl _), ?_⟩
    have s2 := s.takeR hR nR
    refine fin (G.outR R0 Dl) H ⟨sF, sr, lR, hL⟩ (s2.back vs s1 sF sr) ⟨Dl, rfl, if_pos rfl, va, ?_, ra⟩
    exact (s.re Dl (.dK va) (by rw [hR]; exact upd_same)).1
theorem dc_read {σ : L2.St} {H : Hp} {Q : VK} {K : PySem.W.Frag} {mg : Ev} {vs : List Nat} (q : tM K mg W (rlB K) (mDc vs tgM src tt ek ev) σ H Q) :
    tDc (tM K mg W (fun G _ J ds => Walk K G.F G.L G.rho J ds) src) (tgR K mg tgM vs) (tM K mg W0 rlT tt) (tM K mg W0 (rlD K) ek) (tM K mg W0 (rlD K) ev) vs σ H Q := by
  obtain ⟨G, en, so, s, p⟩ := q
  refine ⟨G, en, so, s, (Post.bind (R1 := fun G _ J ds => Walk K G.F G.L G.rho J ds) p).imp fun J H1 ⟨G1, en1, so1, ds, l, wk, s1, p1⟩ Dx hD => ?_⟩
  generalize hr : dcGo vs tgM tt ek ev ds [] (wipeE en1 vs) so1 = r at p1
  match r, hr, p1 with
  | .ok xs enF soF, hr, p1 => exact dc_tr s1 wk hD hr fun G' H' l' s' rb => p1.ok' l' s' rb
  | .exc _ _ _, _, p1 => exact False.elim p1
  | .no, _, p1 => exact False.elim p1
/-- {k: v for tg in iter if ..} -/
theorem b_dc (hc : X.calm = true) (hN : X.N.Nodup) (hi : DI X W tg iter src) (ok : BlkOk X.N X.env.scope scope own)
    (hg : ∀ (s : Shared) (H : Hp) (C : Addr) (cl : List (Str × Addr)) (fp : List Addr), DG (X.blk s H scope (compEnvC scope cl C X.env) fp) tg tgM (own.map (·.2)))
    (ht : ∀ (s : Shared) (H : Hp) (C : Addr) (cl : List (Str × Addr)) (fp : List Addr), DTs (X.blk s H scope (compEnvC scope cl C X.env) fp) W0 ifs tt)
    (hk : ∀ (s : Shared) (H : Hp) (C : Addr) (cl : List (Str × Addr)) (fp : List Addr), DE (X.blk s H scope (compEnvC scope cl C X.env) fp) W0 kx ek)
    (he : ∀ (s : Shared) (H : Hp) (C : Addr) (cl : List (Str × Addr)) (fp : List Addr), DE (X.blk s H scope (compEnvC scope cl C X.env) fp) W0 vx ev) (hs : ∀ x, foldedSetIterable iter X.env x = pure x := by intro _; rfl) :
    DB X W (.DictComp kx vx [⟨tg, iter, ifs, 0⟩] scope pos) (mDc (own.map (·.2)) tgM src tt ek ev) :=
  ⟨PE_imp (pe_dc (g := tgR X.K X.ev tgM (own.map (·.2))) (tt := tM X.K X.ev W0 rlT tt) (tk := tM X.K X.ev W0 (rlD X.K) ek) (tv := tM X.K X.ev W0 (rlD X.K) ev) hc hN hi.pi ok (fun s H C cl fp => (hg s H C cl fp).blk hc) (fun s H C cl fp => (ht s H C cl fp).blk hc) (fun s H C cl fp => (hk s H C cl fp).blk hc) (fun s H C cl fp => (he s H C cl fp).blk hc) hs) fun _ _ _ q => dc_read q⟩
end
end
end Dl

set_option Elab.async false
set_option linter.all false
set_option maxRecDepth 100000
set_option maxHeartbeats 2000000
/-! The data level: a comprehension over a list of one's own, which stays one's own. -/
namespace Dl
open PySem PySem.Spec PyProof.Rows L2
noncomputable section
def _root_.Dl.Gh.lkS (G : Gh) (a : Addr) (vs : List V) : Gh := { G with L := fun b => if b = a then some (.lst vs, 0) else G.L b, own := fun b => if b = a then .lk else G.own b }
def _root_.Dl.Gh.unS (G0 G : Gh) (a : Addr) (i : Nat) : Gh := { G with L := G0.L, own := fun b => if b = a then .slot i else G.own b }
section
variable {K : PySem.W.Frag} {mg : Ev} {G G' : Gh} {en en' : En} {so so' : So} {σ : L2.St} {H H' : Hp}
theorem Sim.lockS {i : Nat} {vs : List V} {a : Addr} (s : Sim K mg G en so σ H) (oa : G.own a = .slot i) (ha : H a = some (.lst vs)) : Sim K mg (G.lkS a vs) (en.set i none) so σ H := by
  have ne : ∀ b t, G.own b = t → t ≠ .slot i → b ≠ a := fun b t h1 h2 z => h2 (by rw [← h1, z]; exact oa)
  have ow : ∀ b t, G.own b = t → t ≠ .slot i → (G.lkS a vs).own b = t := fun b t h1 h2 => (if_neg (ne b t h1 h2)).trans h1
  refine ⟨⟨fun b u h => ?_, fun b u h => ?_, s.len, fun j o b dy e1 e2 => ?_, fun b u h => ?_, s.tb⟩, by rw [List.length_set]; exact s.ln, fun j b h => ?_⟩
  · obtain ⟨h1, h2⟩ := s.fr b u h
    exact ⟨h1, ow b _ h2 (by intro z; cases z)⟩
  · obtain ⟨h1, h2⟩ := s.re b u h
    exact ⟨h1, ow b _ h2 (by intro z; cases z)⟩
  · refine (s.ob j o b dy e1 e2).keep (Same.refl _) (fun _ _ h => h) (fun c u h1 h2 => ?_) fun u h => ?_
    · have hc : c ≠ a := ne c _ rfl (by rcases h2 with h2 | h2 <;> (rw [h2]; intro z; cases z))
      exact ⟨h1, if_neg hc⟩
    · have hb : b ≠ a := ne b _ (s.lk _ _ h).2 (by intro z; cases z)
      exact (if_neg hb).trans h
  · have h' : (if b = a then some (HO.lst vs, 0) else G.L b) = some u := h
    by_cases hb : b = a
    · rw [if_pos hb] at h'
      cases h'
      subst hb
      exact ⟨ha, if_pos rfl⟩
    · rw [if_neg hb] at h'
      obtain ⟨h1, h2⟩ := s.lk b u h'
      exact ⟨h1, (if_neg hb).trans h2⟩
  · by_cases hj : i = j
    · subst hj
      by_cases hl : i < en.length
      · rw [List.getElem?_set_self hl] at h; cases h
      · rw [List.getElem?_eq_none (by rw [List.length_set]; omega)] at h; cases h
    · rw [List.getElem?_set_ne hj] at h
      obtain ⟨v, e1, r⟩ := s.sl j b h
      refine ⟨v, e1, r.keep (show Same G.F (G.lkS a vs).F from Same.refl _) (show Pre G.rho (G.lkS a vs).rho from fun _ _ h => h) fun c u h1 h2 => ?_⟩
      have hc : c ≠ a := ne c _ h2 (by intro z; cases z; exact hj rfl)
      exact ⟨h1, (if_neg hc).trans h2⟩
theorem Sim.unlockS {i : Nat} {xs : List D} {vs : List V} {a : Addr} (s0 : Sim K mg G en so σ H) (oa : G.own a = .slot i) (sa : σ[i]? = some (some (.ref a))) (rk : Reps K G.F G.rho vs xs)
    (l : (G.lkS a vs).le G') (s : Sim K mg G' en' so' σ H') : G.le (G.unS G' a i) ∧ Sim K mg (G.unS G' a i) (en'.set i (some (.cel (.lst xs)))) so' σ H' := by
  have hL : G'.L a = some (.lst vs, 0) := by rw [l.L]; exact if_pos rfl
  obtain ⟨hH, how⟩ := s.lk a _ hL
  have ne : ∀ b t, G'.own b = t → t ≠ .lk → b ≠ a := fun b t h1 h2 z => h2 (by rw [← h1, z]; exact how)
  have ow : ∀ b t, G'.own b = t → t ≠ .lk → (G.unS G' a i).own b = t := fun b t h1 h2 => (if_neg (ne b t h1 h2)).trans h1
  refine ⟨⟨l.F, l.rho, l.R, rfl⟩, ⟨⟨fun b u h => ?_, fun b u h => ?_, s.len, fun j o b dy e1 e2 => ?_, fun b u h => ?_, s.tb⟩, by rw [List.length_set]; exact s.ln, fun j b h => ?_⟩⟩
  · obtain ⟨h1, h2⟩ := s.fr b u h
    exact ⟨h1, ow b _ h2 (by intro z; cases z)⟩
  · obtain ⟨h1, h2⟩ := s.re b u h
    exact ⟨h1, ow b _ h2 (by intro z; cases z)⟩
  · have hd : o = .dead ∨ b ≠ a := by
      cases o with
      | dead => exact .inl rfl
      | ob c fs =>
        have h1 : G'.own b = .ob j := (s.ob j _ b dy e1 e2).1
        exact .inr fun z => by rw [z, how] at h1; cases h1
      | cel c =>
        have h1 : G'.own b = .ob j := (s.ob j _ b dy e1 e2).1
        exact .inr fun z => by rw [z, how] at h1; cases h1
      | lck kv =>
        obtain ⟨o', kvs, e3, _⟩ := s.ob j _ b dy e1 e2
        exact .inr fun z => by rw [z, hL] at e3; cases e3
    rcases hd with rfl | hb
    · exact True.intro
    · refine (s.ob j o b dy e1 e2).keep (Same.refl _) (fun _ _ h => h) (fun c u h1 h2 => ?_) fun u h => ?_
      · have hc : c ≠ a := ne c _ rfl (by rcases h2 with h2 | h2 <;> (rw [h2]; intro z; cases z))
        exact ⟨h1, if_neg hc⟩
      · have h2 : G'.L b = some (u, j) := h
        rw [l.L] at h2
        have h3 : (if b = a then some (HO.lst vs, 0) else G.L b) = some (u, j) := h2
        rw [if_neg hb] at h3
        exact h3
  · have hb : b ≠ a := fun z => by
      have h1 := (s0.lk b u h).2
      rw [z, oa] at h1
      cases h1
    have h2 : G'.L b = some u := by
      rw [l.L]
      exact (if_neg hb).trans h
    obtain ⟨h3, h4⟩ := s.lk b u h2
    exact ⟨h3, (if_neg hb).trans h4⟩
  · by_cases hj : i = j
    · subst hj
      by_cases hl : i < en'.length
      · rw [List.getElem?_set_self hl] at h
        cases h
        exact ⟨_, sa, a, rfl, if_pos rfl, vs, hH, rk.mono l.F l.rho⟩
      · rw [List.getElem?_eq_none (by rw [List.length_set]; omega)] at h; cases h
    · rw [List.getElem?_set_ne hj] at h
      obtain ⟨v, e1, r⟩ := s.sl j b h
      refine ⟨v, e1, r.keep (show Same G'.F (G.unS G' a i).F from Same.refl _) (show Pre G'.rho (G.unS G' a i).rho from fun _ _ h => h) fun c u h1 h2 => ?_⟩
      have hc : c ≠ a := ne c _ h2 (by intro z; cases z)
      exact ⟨h1, (if_neg hc).trans h2⟩
end
/-- [elt for tg in the i-th name's own list if tt] -/
def mLcV (i : Nat) (vs : List Nat) (tg : Tg) (tt : M Bool) (el : M D) : M B := fun en so => match en[i]? with
  | some (some (.cel (.lst xs))) => (match lcGo vs tg tt el xs [] (wipeE (en.set i none) vs) so with
    | .ok ys en' so' => .ok (.cel (.lst ys)) ((backE (en.set i none) en' vs).set i (some (.cel (.lst xs)))) so'
    | _ => .no)
  | _ => .no
section
variable {X : Cx} {W : WX} {tg elt : Expr} {ifs : List Expr} {scope : Scope} {pos np : Pos} {own : List (Str × Nat)} {tgM : Tg} {tt : M Bool} {el : M D}
theorem b_lcV (i : Nat) {x : Str} (hc : X.calm = true) (hN : X.N.Nodup) (ok : BlkOk X.N X.env.scope scope own)
    (hg : ∀ (s : Shared) (H : Hp) (C : Addr) (cl : List (Str × Addr)) (fp : List Addr), DG (X.blk s H scope (compEnvC scope cl C X.env) fp) tg tgM (own.map (·.2)))
    (ht : ∀ (s : Shared) (H : Hp) (C : Addr) (cl : List (Str × Addr)) (fp : List Addr), DTs (X.blk s H scope (compEnvC scope cl C X.env) fp) W0 ifs tt)
    (he : ∀ (s : Shared) (H : Hp) (C : Addr) (cl : List (Str × Addr)) (fp : List Addr), DE (X.blk s H scope (compEnvC scope cl C X.env) fp) W0 elt el)
    (hx : X.N[i]? = some x := by rfl) (hv : Vis X.env.scope x := by first | exact Or.inl rfl | exact Or.inr (Or.inl rfl) | exact Or.inr (Or.inr rfl)) (hd : (x == ("__debug__" : Str)) = false := by decide)
    (hcd : (x == ("__classdict__" : Str)) = false := by decide) (hs : ∀ y, foldedSetIterable (.Name x np) X.env y = pure y := by intro _; rfl) :
    DB X W (.ListComp elt [⟨tg, .Name x np, ifs, 0⟩] scope pos) (mLcV i (own.map (·.2)) tgM tt el) := by
  refine ⟨PE_imp (pe_lc (g := tgR X.K X.ev tgM (own.map (·.2))) (tt := tM X.K X.ev W0 rlT tt) (te := tM X.K X.ev W0 (rlD X.K) el) hc hN (pi_list (pe_var (i := i) hx hv hd hcd)) ok (fun s H C cl fp => (hg s H C cl fp).blk hc) (fun s H C cl fp => (ht s H C cl fp).blk hc) (fun s H C cl fp => (he s H C cl fp).blk hc) hs) fun σ H Q ⟨G, en, so, s, p⟩ => ?_⟩
  unfold mLcV at p
  cases e : en[i]? with
  | none => rw [e] at p; exact p.elim
  | some o =>
    rcases o with _ | d | ⟨xs | kv⟩ | xc
    · rw [e] at p; exact p.elim
    · rw [e] at p; exact p.elim
    · rw [e] at p
      dsimp only at p
      obtain ⟨v, e1, a, rfl, oa, vs, ha, rk⟩ := s.sl i _ e
      refine ⟨_, e1, a, rfl, ⟨vs, SqL.of ha⟩, fun Dx hD => ?_⟩
      have s1 := s.lockS oa ha
      have wk : Walk X.K (G.lkS a vs).F (G.lkS a vs).L (G.lkS a vs).rho (Itl X.K a) xs := fun j H' sf sl => by
        have hs' : SqL X.K H' a vs := SqL.of (sl a _ (if_pos rfl))
        refine ⟨fun d e => ?_, fun hl => ⟨_, hs', by rw [rk.len]; exact hl⟩⟩
        obtain ⟨v, e1, r1⟩ := reps_at rk e
        refine ⟨⟨_, v, hs', e1⟩, fun x H'' ⟨h1, h2⟩ => .inl ⟨h1, ?_⟩⟩
        have h3 := h2 _ hs'
        rw [e1] at h3
        cases h3
        exact r1
      generalize hr : lcGo (own.map (·.2)) tgM tt el xs [] (wipeE (en.set i none) (own.map (·.2))) so = r at p
      match r, hr, p with
      | .ok ys enF soF, hr, p =>
        refine lc_tr s1 wk hD hr fun G' H' l' s' rb => ?_
        obtain ⟨l2, s2⟩ := s.unlockS oa e1 rk l' s'
        have hL : G'.L a = some (.lst vs, 0) := by rw [l'.L]; exact if_pos rfl
        have how := (s'.lk a _ hL).2
        refine p.ok' l2 s2 (rb.keep (show Same G'.F (G.unS G' a i).F from Same.refl _) (show Pre G'.rho (G.unS G' a i).rho from fun _ _ h => h) fun c u h1 h2 => ?_)
        have hc : c ≠ a := fun z => by rw [z, how] at h2; cases h2
        exact ⟨h1, (if_neg hc).trans h2⟩
      | .exc _ _ _, _, p => exact False.elim p
      | .no, _, p => exact False.elim p
    · rw [e] at p; exact p.elim
    · rw [e] at p; exact p.elim
end
end
end Dl

set_option Elab.async false
set_option linter.all false
set_option maxRecDepth 100000
set_option maxHeartbeats 1000000
/-! The data level: name = {.. for ..} on one line. -/
namespace L2
open PySem PySem.Spec PyProof.Rows
section
variable {X : Cx} {kx vx tg iter : Expr} {ifs : List Expr} {scope : Scope} {own : List (Str × Nat)} {pos spos py : Pos} {wi : TI} {g : TG} {tt : TT} {tk tv : TE} {i : Nat} {y : Str}
theorem ps_setDc (hc : X.calm = true) (hN : X.N.Nodup) (hy : X.N[i]? = some y) (loc : X.env.scope.names.lookup y = some .local)
    (sw : swapsWith (.DictComp kx vx [⟨tg, iter, ifs, 0⟩] scope pos) (some (.Name y py)) spos.line X.env = pure true) (hi : PI X tg iter wi) (ok : BlkOk X.N X.env.scope scope own)
    (hg : ∀ (s : Shared) (H : Hp) (C : Addr) (cl : List (Str × Addr)) (fp : List Addr), PG (X.blk s H scope (compEnvC scope cl C X.env) fp) tg g)
    (ht : ∀ (s : Shared) (H : Hp) (C : Addr) (cl : List (Str × Addr)) (fp : List Addr), PTs (X.blk s H scope (compEnvC scope cl C X.env) fp) ifs tt)
    (hk : ∀ (s : Shared) (H : Hp) (C : Addr) (cl : List (Str × Addr)) (fp : List Addr), PE (X.blk s H scope (compEnvC scope cl C X.env) fp) kx tk)
    (he : ∀ (s : Shared) (H : Hp) (C : Addr) (cl : List (Str × Addr)) (fp : List Addr), PE (X.blk s H scope (compEnvC scope cl C X.env) fp) vx tv) (hs : ∀ x, foldedSetIterable iter X.env x = pure x) :
    PS X (.Assign [.Name y py] (.DictComp kx vx [⟨tg, iter, ifs, 0⟩] scope pos) spos) (tAsg (tDc wi g tt tk tv (own.map (·.2))) (gName i)) := by
  constructor
  intro pins s σ H D I h
  have h : tDc wi g tt tk tv (own.map (·.2)) σ H (fun x H1 => gName i x σ H1 D.nx) := h
  rw [exec_Assign_Name_used _ _ _ _ sw]
  apply wpAny_bind
  apply wpAny_standAt
  apply wpAny_bind
  show wpAny _ X.A (comprehension (.DictComp kx vx [⟨tg, iter, ifs, 0⟩] scope pos) scope X.env (firstIterPos [⟨tg, iter, ifs, 0⟩] pos) newDict false (eval iter X.env) (some (assign (.Name y py) X.env)) >>= _) _ _ s
  apply wpAny_bind
  refine thn (dc_core (Qf := fun _ s' => SP X pins D .next s') hc hN I hi ok hg ht hk he hs h fun L C s' m J I2 q hn f => ?_) fun _ s' hq => wpAny_pure (wpAny_pure hq)
  show wpAny _ _ (assign (.Name y py) X.env (.ref L)) _ _ _
  apply wpAny_assign_Name
  refine store_ok2 (v := V.ref L) I2 hN hy (.inl loc) rfl (fun s2 I3 ⟨a, sb, ha⟩ => ?_) (.inr loc)
  rcases f with ⟨f0, f1, f2, f3, f4, f5⟩
  have ne : C ≠ a := ha.elim (fun z => z ▸ f1) fun z e => f4 y a z e.symm
  refine ⟨m, hn.sameBut sb ne, fun h3 sb3 => ⟨_, J, I3.turned (t' := s2.toks) (fun b o hb e => (sb3.2 b hb).trans e) f0 f1 f3 f4 f5, q⟩⟩
theorem swD_true {gs : List Comprehension} {l : Nat} {env : Env} (hk : env.scope.kind = .function) (hy : env.scope.names.lookup y = some .local) (hl : (py.line == pos.line) = true)
    (ha : (scope.names.any fun (n, k) => n == y && (k == .local || k == .cell)) = false) : swapsWith (.DictComp kx vx gs scope pos) (some (.Name y py)) l env = pure true := by
  have k1 : env.kindOf y = some .local := hy
  have k2 : env.blockKind = .function := by unfold Env.blockKind; rw [hk]; rfl
  unfold swapsWith
  simp only [k1, k2, ha, Expr.pos, hl]
  rfl
end
end L2
namespace Dl
open PySem PySem.Spec PyProof.Rows L2
noncomputable section
section
variable {X : Cx} {W : WX} {kx vx tg iter : Expr} {ifs : List Expr} {scope : Scope} {own : List (Str × Nat)} {pos spos py : Pos} {tgM : Tg} {src : M (List D)} {tt : M Bool} {ek ev : M D}
/-- name = {k: v for tg in iter if ..}: a dict in the store -/
theorem s_setDc {i : Nat} {y : Str} (hc : X.calm = true) (hN : X.N.Nodup) (hi : DI X W tg iter src) (ok : BlkOk X.N X.env.scope scope own)
    (hg : ∀ (s : Shared) (H : Hp) (C : Addr) (cl : List (Str × Addr)) (fp : List Addr), DG (X.blk s H scope (compEnvC scope cl C X.env) fp) tg tgM (own.map (·.2)))
    (ht : ∀ (s : Shared) (H : Hp) (C : Addr) (cl : List (Str × Addr)) (fp : List Addr), DTs (X.blk s H scope (compEnvC scope cl C X.env) fp) W0 ifs tt)
    (hk : ∀ (s : Shared) (H : Hp) (C : Addr) (cl : List (Str × Addr)) (fp : List Addr), DE (X.blk s H scope (compEnvC scope cl C X.env) fp) W0 kx ek)
    (he : ∀ (s : Shared) (H : Hp) (C : Addr) (cl : List (Str × Addr)) (fp : List Addr), DE (X.blk s H scope (compEnvC scope cl C X.env) fp) W0 vx ev)
    (hsw : swapsWith (.DictComp kx vx [⟨tg, iter, ifs, 0⟩] scope pos) (some (.Name y py)) spos.line X.env = pure true) (hy : X.N[i]? = some y := by rfl) (hyl : X.env.scope.names.lookup y = some .local := by rfl) (hs : ∀ x, foldedSetIterable iter X.env x = pure x := by intro _; rfl) :
    DS X W (.Assign [.Name y py] (.DictComp kx vx [⟨tg, iter, ifs, 0⟩] scope pos) spos) (sSet i (mCel (mDc (own.map (·.2)) tgM src tt ek ev))) := by
  refine ⟨PS_imp (ps_setDc (g := tgR X.K X.ev tgM (own.map (·.2))) (tt := tM X.K X.ev W0 rlT tt) (tk := tM X.K X.ev W0 (rlD X.K) ek) (tv := tM X.K X.ev W0 (rlD X.K) ev) hc hN hy hyl hsw hi.pi ok (fun s H C cl fp => (hg s H C cl fp).blk hc) (fun s H C cl fp => (ht s H C cl fp).blk hc) (fun s H C cl fp => (hk s H C cl fp).blk hc) (fun s H C cl fp => (he s H C cl fp).blk hc) hs) fun E σ H ⟨G, en, so, s, p⟩ => ?_⟩
  have p0 := (SPost.bind (R1 := rlD X.K) (σ := σ) p)
  refine dc_read (W := W) (mg := X.ev) ⟨G, en, so, s, (Post.bind (R1 := rlB X.K) p0).imp fun v H1 ⟨G1, en1, so1, b, l, r1, s1, p1⟩ => ?_⟩
  cases b with
  | dat d => exact p1.elim
  | exn x => exact p1.elim
  | cel c =>
    obtain ⟨a, rfl, w, cr⟩ := r1
    have s2 := s1.retag (t := .ob so1.length) w
    obtain ⟨s3, hl⟩ := s2.push (a := a) (dx := a) (o := .cel c) ⟨tag_own, cr.keep (Same.refl _) (fun _ _ h => h) fun o h => h⟩
    obtain ⟨G4, en4, so4, d, l4, r4, s4, p4⟩ := p1.ok' ((tag_le _ _).trans (push_le _ _)) s3 (.obj hl)
    exact p4 _ H1 G4 (.refl _) (s4.setD r4 i)
end
end
end Dl

set_option Elab.async false
set_option linter.all false
set_option maxRecDepth 100000
set_option maxHeartbeats 4000000
/-! sorted of texts, of a dict's keys, any number of them. -/
namespace Dl
open PySem PySem.Spec PyProof.Rows L2
section
variable {prog : Program} {A : Around} {w : World} {s : Shared}
def ltv (v u : Value) : Bool := ltCps (strOf v).cps.toList (strOf u).cps.toList
theorem ltv_eq (v u : Value) : ltv v u = decide ((strOf v).cps.toList < (strOf u).cps.toList) := ltCps_eq _ _
theorem swo_ltv : SrtO.Swo ltv := by
  constructor
  · intro x y h
    rw [ltv_eq] at h ⊢
    exact decide_eq_false fun z => List.lt_irrefl _ (List.lt_trans (of_decide_eq_true h) z)
  · intro x y z h1 h2
    rw [ltv_eq] at h1 h2 ⊢
    exact decide_eq_false (List.not_lt.mpr (List.le_trans (List.not_lt.mp (of_decide_eq_false h1)) (List.not_lt.mp (of_decide_eq_false h2))))
theorem strs_cmp {vs : List Value} {ss : List Str} (hS : StrsAre vs ss) : SrtO.Cmp prog w A s oneType' (fun p => p.1 ∈ vs) (SrtO.lt2 ltv) := by
  rintro ⟨v, v2⟩ ⟨u, u2⟩ hv hu
  rcases hS.all v hv with ⟨x, t, rfl⟩
  rcases hS.all u hu with ⟨y, t2, rfl⟩
  have e : ltv (.str x t) (.str y t2) = decide (x.cps.toList < y.cps.toList) := ltv_eq _ _
  show wpAny (model prog w) A (oneLt' true (.str x t) (.str y t2)) (fun r s' => s' = s ∧ r = ltv (.str x t) (.str y t2)) _ s
  exact oneLt_str ⟨rfl, e.symm⟩
theorem strs_sortable {a : Addr} {vs : List Value} {ss : List Str} (hS : StrsAre vs ss) (h2 : 2 ≤ vs.length) : SrtO.SortableO prog w A s a vs ltv := by
  rintro h' -
  refine ⟨oneType', fun Q E q => ?_, strs_cmp hS⟩
  rcases vs with _ | ⟨v1, _ | ⟨v2, r⟩⟩
  · exact absurd h2 (by decide)
  · exact absurd h2 (by simp)
  · rw [keyKind_strs hS]; exact wpAny_pure q
theorem strs_out {vs out : List Value} {ss : List Str} (hS : StrsAre vs ss) (hs : SrtO.Srtd ltv out) (hb : SrtO.Stb ltv out vs) : StrsAre out (out.map strOf) ∧ (out.map strOf).Perm ss ∧ sortedS (out.map strOf) = true := by
  refine ⟨strsAre_map out fun v hv => hS.all v (hb.perm.mem_iff.mp hv), ?_, sortedS_of_pairwise _ (List.pairwise_map.mpr hs)⟩
  have p := hb.perm.map strOf
  rw [hS.strs] at p
  exact p
end
section
variable {X : Cx}
def rSrtL (K : PySem.W.Frag) : List V → Hp → VK → Prop := fun vs H Q => ∃ (a : Addr) (xs : List Str), vs = [V.ref a] ∧ SqL K H a (xs.map V.str) ∧
  ∀ (zs : List Str) (b : Addr), zs.Perm xs → sortedS zs = true → H b = none → Q (.ref b) (upd H b (.lst (zs.map V.str)))
def rSrtK : List V → Hp → VK → Prop := fun xs H Q => ∃ (a : Addr) (kvs : List (Key × V)) (ks : List Str), xs = [.ref a] ∧ Rd H a (.dK kvs) ∧ kvs.map (·.1) = ks.map Sum.inr ∧
  ∀ ys p, ys.Perm ks → sortedS ys = true → H p = none → Q (.ref p) (upd H p (.lst (ys.map V.str)))
theorem cr_srtL : CallR X (.builtin "sorted") (rSrtL X.K) := by
  rintro pins s σ H vs us Q I r ⟨a, xs, rfl, hs, q⟩
  rcases I.list hs with ⟨its, rv, hl, hz⟩
  rw [Vals.ref1 r]
  have hS := rv.strs
  refine SrtO.sorted_ord swo_ltv hl.isList (by rw [← rv.length]; exact hz) (fun h2 _ _ _ _ => strs_sortable hS h2) fun out h1 h2 => ?_
  rcases strs_out hS h1 h2 with ⟨k1, k2, k3⟩
  obtain ⟨ep, he⟩ := PyProof.Rows.sortedAll_at s.heap its out.toArray
  have hn : ((out.map strOf).map V.str).length ≤ sizeLine := by
    rw [List.length_map] at hz ⊢
    rw [k2.length_eq]; exact hz
  have I2 := I.laid (t' := s.toks) (fun _ _ => PyProof.Rows.sortedAll_old (vs := its) (out := out.toArray)) (Nat.le_succ _) (o := .lst ((out.map strOf).map V.str)) ⟨hn, out, ep, vals_of_strs k1, he⟩
  exact ⟨.ref _, upd H (s.heap.objs.size + 1) (.lst ((out.map strOf).map V.str)), I2, rfl, q _ _ k2 k3 (I.hok.fresh (Nat.le_succ _))⟩
theorem cr_srtK (calm : X.calm = true) : CallR X (.builtin "sorted") rSrtK := by
  rintro pins s σ H xs us Q I r ⟨a, kvs, ks, rfl, hd, hks, q⟩
  rw [Vals.ref1 r]
  rcases dk_rd I.hok hd with ⟨z, lo, vs, rel, dd⟩
  rcases dd.dictAt with ⟨ep, hat⟩
  have ek : vs.map (·.1) = ks.map Sum.inr := rel.keys.symm.trans hks
  have el : vs.length = ks.length := by simpa using congrArg List.length ek
  have e0 : kvs.length = vs.length := rel.length
  have h16 : vs.length ≤ sizeLine := e0 ▸ z
  apply Calls.call_function_entry kind_sorted plain_sorted entry_sorted (args_sorted1 _)
  unfold Builtin.«sorted»
  refine wpAny_bind (m := checkCount "sorted" 1 1 _) (wpAny_pure (wpAny_bind ?_))
  refine PySem.W.kdu_collect (A := X.A.in1) (PySem.W.kdl_dict (knd := mixKind X.prog X.w) (kvs := vs) (ep := ep) lo) (I.ok.hd calm) hat h16 fun g tk acc hk ⟨ha1, ha2⟩ => ?_
  have al : acc.toList.length = ks.length := by rw [Array.length_toList, ha1, el]
  have hS : StrsAre acc.toList ks := strs_at al fun j v e => by
    rw [Array.getElem?_toList] at e
    rcases ha2 j v e with ⟨k, x, e1, e2⟩
    have e3 : (ks.map (Sum.inr : Str → Key))[j]? = some k := by rw [← ek, List.getElem?_map, e1]; rfl
    rw [List.getElem?_map] at e3
    rcases Option.map_eq_some_iff.mp e3 with ⟨y, e4, rfl⟩
    rcases Value.isStrOf_shape (x := y) (v := v) e2 with ⟨t, ev⟩
    exact ⟨y, t, e4, ev⟩
  have I1 : Inv X pins σ H { s with heap := g, toks := tk } := I.kept hk
  have hz : acc.toList.length ≤ sizeLine := by rw [al, ← el]; exact h16
  apply wpAny_bind
  refine wpAny_newList ?_ hz
  have hoL : (g.push (seqObj "list" acc.toList.toArray 0)).get? g.objs.size = some (seqObj "list" acc.toList.toArray 0) := Heap.get?_push_size _ rfl
  show wpAny _ _ _ _ _ { s with heap := g.push (seqObj "list" acc.toList.toArray 0), toks := tk }
  apply wpAny_bind
  apply wpAny_holding
  refine (wpAny_call_entry slot_list_sort ⟨_, hoL, rfl⟩ entry_list_sort (SrtO.list_sort_ord swo_ltv (s := { s with heap := g.push (seqObj "list" acc.toList.toArray 0), toks := tk }) hoL hz (fun h2 => strs_sortable hS h2) fun out h1 h2 => ⟨_, rfl, ?_⟩) (args_list_sort _))
  rcases strs_out hS h1 h2 with ⟨k1, k2, k3⟩
  obtain ⟨e', he⟩ := PyProof.Rows.sortedHeap_at (vs := acc.toList) (out := out.toArray) hoL
  have hn : ((out.map strOf).map V.str).length ≤ sizeLine := by rw [List.length_map, k2.length_eq, ← al]; exact hz
  have I2 := I1.laid (t' := tk) (a := g.objs.size) (o := .lst ((out.map strOf).map V.str)) (fun b u e => by
    have hb : b < g.objs.size := Heap.lt_size e
    rw [PyProof.Rows.sortedHeap_old (vs := acc.toList) (out := out.toArray) (Nat.ne_of_lt hb) (by rw [size_push']; exact Nat.le_succ_of_le hb)]
    exact Heap.get?_push_of_some _ e) (Nat.le_refl _) ⟨hn, out, e', vals_of_strs k1, he⟩
  exact wpAny_pure ⟨_, rfl, .ref g.objs.size, _, I2, rfl, q _ _ k2 k3 (I1.hok.fresh (Nat.le_refl _))⟩
end
end Dl
namespace Dl
open PySem PySem.Spec PyProof.Rows L2
section
variable {X : Cx}
/-- sorted(d, reverse=True): the keys, in some order -/
def rSrtKR : List V → List V → Hp → VK → Prop := fun xs zs H Q => ∃ (a : Addr) (kvs : List (Key × V)) (ks : List Str), xs = [.ref a] ∧ zs = [.bl true] ∧ Rd H a (.dK kvs) ∧ kvs.map (·.1) = ks.map Sum.inr ∧
  ∀ (ys : List Str) (b : Addr), ys.Perm ks → sortedS ys.reverse = true → H b = none → Q (.ref b) (upd H b (.lst (ys.map V.str)))
theorem cr_srtKR (calm : X.calm = true) : CallRK X (.builtin "sorted") [Str.ofString "reverse"] rSrtKR := by
  rintro pins s σ H xs zs us ws Q I r rz ⟨a, kvs, ks, rfl, rfl, hd, hks, q⟩
  rw [Vals.ref1 r]
  obtain ⟨w1, rfl, ew⟩ := vals1 rz
  obtain rfl : w1 = Value.bool true := ew
  rcases dk_rd I.hok hd with ⟨z, lo, vs, rel, dd⟩
  rcases dd.dictAt with ⟨ep, hat⟩
  have ek : vs.map (·.1) = ks.map Sum.inr := rel.keys.symm.trans hks
  have el : vs.length = ks.length := by simpa using congrArg List.length ek
  have e0 : kvs.length = vs.length := rel.length
  have h16 : vs.length ≤ sizeLine := e0 ▸ z
  apply call_function_entry_kw kind_sorted plain_sorted entry_sorted (args_sorted_rev _ _)
  unfold Builtin.«sorted»
  refine wpAny_bind (m := checkCount "sorted" 1 1 _) (wpAny_pure (wpAny_bind ?_))
  refine PySem.W.kdu_collect (A := X.A.in1) (PySem.W.kdl_dict (knd := mixKind X.prog X.w) (kvs := vs) (ep := ep) lo) (I.ok.hd calm) hat h16 fun g tk acc hk ⟨ha1, ha2⟩ => ?_
  have al : acc.toList.length = ks.length := by rw [Array.length_toList, ha1, el]
  have hS : StrsAre acc.toList ks := strs_at al fun j v e => by
    rw [Array.getElem?_toList] at e
    rcases ha2 j v e with ⟨k, x, e1, e2⟩
    have e3 : (ks.map (Sum.inr : Str → Key))[j]? = some k := by rw [← ek, List.getElem?_map, e1]; rfl
    rw [List.getElem?_map] at e3
    rcases Option.map_eq_some_iff.mp e3 with ⟨y, e4, rfl⟩
    rcases Value.isStrOf_shape (x := y) (v := v) e2 with ⟨t, ev⟩
    exact ⟨y, t, e4, ev⟩
  have I1 : Inv X pins σ H { s with heap := g, toks := tk } := I.kept hk
  have hz : acc.toList.length ≤ sizeLine := by rw [al, ← el]; exact h16
  apply wpAny_bind
  refine wpAny_newList ?_ hz
  have hoL : (g.push (seqObj "list" acc.toList.toArray 0)).get? g.objs.size = some (seqObj "list" acc.toList.toArray 0) := Heap.get?_push_size _ rfl
  show wpAny _ _ _ _ _ { s with heap := g.push (seqObj "list" acc.toList.toArray 0), toks := tk }
  apply wpAny_bind
  apply wpAny_holding
  refine (wpAny_call_entry_kw slot_list_sort ⟨_, hoL, rfl⟩ entry_list_sort (SrtR.list_sort_ordR (b := true) swo_ltv (s := { s with heap := g.push (seqObj "list" acc.toList.toArray 0), toks := tk }) hoL hz (fun h2 => strs_sortable hS h2) fun out h1 h2 => ⟨_, rfl, ?_⟩) (args_list_sort_rev _ _))
  have hS' : StrsAre acc.toList.reverse ks.reverse := by
    have h := strsAre_map acc.toList.reverse fun v hv => hS.all v (List.mem_reverse.mp hv)
    rw [List.map_reverse, hS.strs] at h
    exact h
  rcases strs_out hS' h1 h2 with ⟨k1, k2, k3⟩
  obtain ⟨e', he⟩ := PyProof.Rows.sortedHeap_at (vs := acc.toList) (out := out.toArray.reverse) hoL
  have he := he.trans (show some (seqObj "list" out.toArray.reverse e') = some (seqObj "list" out.toArray.reverse.toList.toArray e') by rw [Array.toArray_toList])
  have k4 : StrsAre out.toArray.reverse.toList (out.map strOf).reverse := by
    rw [Array.toList_reverse]
    have h := strsAre_map out.reverse fun v hv => k1.all v (List.mem_reverse.mp hv)
    rw [List.map_reverse] at h
    exact h
  have k5 : (out.map strOf).reverse.Perm ks := ((List.reverse_perm _).trans k2).trans (List.reverse_perm _)
  have hn : (((out.map strOf).reverse).map V.str).length ≤ sizeLine := by rw [List.length_map, k5.length_eq, ← al]; exact hz
  have I2 := I1.laid (t' := tk) (a := g.objs.size) (o := .lst (((out.map strOf).reverse).map V.str)) (fun b u e => by
    have hb : b < g.objs.size := Heap.lt_size e
    rw [PyProof.Rows.sortedHeap_old (vs := acc.toList) (out := out.toArray.reverse) (Nat.ne_of_lt hb) (by rw [size_push']; exact Nat.le_succ_of_le hb)]
    exact Heap.get?_push_of_some _ e) (Nat.le_refl _) ⟨hn, out.toArray.reverse.toList, e', vals_of_strs k4, he⟩
  exact wpAny_pure ⟨_, rfl, .ref g.objs.size, _, I2, rfl, q _ _ k5 (by rw [List.reverse_reverse]; exact k3) (I1.hok.fresh (Nat.le_refl _))⟩
end
end Dl

set_option Elab.async false
set_option linter.all false
set_option maxRecDepth 100000
set_option maxHeartbeats 2000000
/-! The data level: sorted, more of texts, a list handed on. -/
namespace Dl
open PySem PySem.Spec PyProof.Rows L2
noncomputable section

/-! ### texts in order -/
def leC (a b : List Nat) : Bool := !ltCps b a
def srtS (l : List (List Nat)) : List (List Nat) := l.mergeSort leC
theorem leC_nil (b : List Nat) : leC [] b = true := by cases b <;> rfl
theorem leC_cons (a b : Nat) (r t : List Nat) : leC (a :: r) (b :: t) = (decide (a < b) || (a == b && leC r t)) := by
  unfold leC
  simp only [ltCps]
  by_cases h1 : a < b
  · have h2 : ¬ b < a := by omega
    have h3 : (b == a) = false := by simp; omega
    simp [h1, h2, h3]
  · by_cases h2 : b < a
    · have h3 : (a == b) = false := by simp; omega
      simp [h1, h2, h3]
    · have h3 : a = b := by omega
      subst h3
      simp
theorem leC_total : ∀ a b : List Nat, (leC a b || leC b a) = true
  | [], b => by rw [leC_nil]; rfl
  | a :: r, [] => by rw [leC_nil]; simp
  | a :: r, b :: t => by
    rw [leC_cons, leC_cons]
    by_cases h1 : a < b
    · simp [h1]
    · by_cases h2 : b < a
      · simp [h2]
      · have h3 : a = b := by omega
        subst h3
        have := leC_total r t
        simpa using this
theorem leC_anti : ∀ a b : List Nat, leC a b = true → leC b a = true → a = b
  | [], [], _, _ => rfl
  | [], _ :: _, _, h => by cases h
  | _ :: _, [], h, _ => by cases h
  | a :: r, b :: t, h1, h2 => by
    rw [leC_cons] at h1 h2
    simp only [Bool.or_eq_true, decide_eq_true_eq, Bool.and_eq_true, beq_iff_eq] at h1 h2
    rcases h1 with h1 | ⟨h1, h3⟩
    · rcases h2 with h2 | ⟨h2, _⟩ <;> omega
    · rcases h2 with h2 | ⟨h2, h4⟩
      · omega
      · rw [h1, leC_anti r t h3 h4]
theorem leC_trans : ∀ a b c : List Nat, leC a b = true → leC b c = true → leC a c = true
  | [], _, c, _, _ => leC_nil c
  | _ :: _, [], _, h, _ => by cases h
  | _ :: _, _ :: _, [], _, h => by cases h
  | a :: r, b :: t, c :: u, h1, h2 => by
    rw [leC_cons] at h1 h2 ⊢
    simp only [Bool.or_eq_true, decide_eq_true_eq, Bool.and_eq_true, beq_iff_eq] at h1 h2 ⊢
    rcases h1 with h1 | ⟨h1, h3⟩
    · rcases h2 with h2 | ⟨h2, _⟩
      · exact .inl (by omega)
      · exact .inl (by omega)
    · rcases h2 with h2 | ⟨h2, h4⟩
      · exact .inl (by omega)
      · exact .inr ⟨h1.trans h2, leC_trans r t u h3 h4⟩
theorem srtS_perm (l : List (List Nat)) : (srtS l).Perm l := List.mergeSort_perm l leC
theorem srtS_pw (l : List (List Nat)) : (srtS l).Pairwise fun a b => leC a b = true := List.pairwise_mergeSort leC_trans leC_total l
theorem srtS_len (l : List (List Nat)) : (srtS l).length = l.length := (srtS_perm l).length_eq
/-- what is sorted and has the same texts is it -/
theorem srtS_uniq {l m : List (List Nat)} (hp : m.Perm l) (hs : m.Pairwise fun a b => leC a b = true) : m = srtS l :=
  List.Perm.eq_of_pairwise (le := fun a b => leC a b = true) (fun a b _ _ h1 h2 => leC_anti a b h1 h2) hs (srtS_pw l) (hp.trans (srtS_perm l).symm)
theorem rising_pw : ∀ (ys : List Str) (p : Str), risingS p ys = true → (p :: ys).Pairwise fun a b => leC a.cps.toList b.cps.toList = true
  | [], p, _ => List.pairwise_singleton _ _
  | x :: r, p, h => by
    have h' : (!ltCps x.cps.toList p.cps.toList && risingS x r) = true := h
    rw [Bool.and_eq_true] at h'
    have ih := rising_pw r x h'.2
    rw [List.pairwise_cons] at ih ⊢
    refine ⟨fun y hy => ?_, List.pairwise_cons.mpr ih⟩
    rcases List.mem_cons.mp hy with rfl | hy
    · exact h'.1
    · exact leC_trans _ _ _ h'.1 (ih.1 y hy)
theorem sortedS_uniq {ys : List Str} {l : List (List Nat)} (hp : ys.Perm (l.map sT)) (hs : sortedS ys = true) : ys = (srtS l).map sT := by
  have pw : ys.Pairwise fun a b => leC a.cps.toList b.cps.toList = true := by
    cases ys with
    | nil => exact List.Pairwise.nil
    | cons x r => exact rising_pw r x hs
  have e : ys.map (fun x => x.cps.toList) = srtS l := by
    refine srtS_uniq ?_ (List.pairwise_map.mpr pw)
    have := hp.map (fun x => x.cps.toList)
    rw [List.map_map] at this
    have e2 : ((fun x : Str => x.cps.toList) ∘ sT) = id := by funext z; exact tl_sT z
    rw [e2, List.map_id] at this
    exact this
  rw [← e, List.map_map]
  have e3 : (sT ∘ fun x : Str => x.cps.toList) = id := by funext z; exact sT_tl z
  rw [e3, List.map_id]
def sortedD : List D → M B
  | [.lst xs] => opM (strsOf xs) fun ys => pu (.cel (.lst ((srtS ys).map .str)))
  | _ => no
/-- the keys of a dict, all texts -/
def kstrs : List (Ky × D) → Option (List (List Nat))
  | [] => some []
  | (.inr s, _) :: r => (kstrs r).map (s :: ·)
  | _ => none
def sortedK : List D → M B
  | [d] => bd (dctO d) fun kv => opM (kstrs kv) fun ys => pu (.cel (.lst ((srtS ys).map .str)))
  | _ => no
def listK : List D → M B
  | [d] => bd (dctO d) fun kv => pu (.cel (.lst (keysD kv)))
  | _ => no
section
variable {K : PySem.W.Frag} {mg : Ev}
theorem opn_sorted : OpNB K mg (rSrtL K) sortedD := by
  intro xs ds G en so σ H W Q r s p
  match ds, r, p with
  | [.lst zs], r, p =>
    obtain ⟨x, rfl, h⟩ := reps1 r
    cases h with
    | lst h r2 =>
      obtain ⟨ys, ey, p3⟩ := opM_at p
      refine ⟨_, ys.map sT, rfl, ?_, fun zs q hp hs hq => ?_⟩
      · rw [← strs_of r2 ey]
        exact s.toSimO.rep.seq h
      · rw [sortedS_uniq hp hs]
        exact p3.ok' (tag_le q .tmp) (s.newT (t := .tmp) hq) ⟨q, rfl, tag_own, _, upd_same, reps_strs _⟩
  | [], _, p => exact False.elim p
  | [.non], _, p => exact False.elim p
  | [.bl _], _, p => exact False.elim p
  | [.int _], _, p => exact False.elim p
  | [.str _], _, p => exact False.elim p
  | [.tup _], _, p => exact False.elim p
  | [.dct _], _, p => exact False.elim p
  | [.obj _], _, p => exact False.elim p
  | d :: _ :: _, _, p => cases d <;> exact False.elim p
theorem kstrs_keys {F : Hp} {rho : List (Addr × Addr)} : ∀ {kv : List (Ky × D)} {ys : List (List Nat)} {kvs : List (Key × V)}, RepK K F rho kvs kv → kstrs kv = some ys → kvs.map (·.1) = (ys.map sT).map Sum.inr
  | [], ys, _, .nil, e => by cases e; rfl
  | (.inr s, d) :: r, ys, _, .cons h q, e => by
    have e' : (kstrs r).map (s :: ·) = some ys := e
    cases e2 : kstrs r with
    | none => rw [e2] at e'; cases e'
    | some zs =>
      rw [e2] at e'
      cases e'
      rw [List.map_cons, kstrs_keys q e2]
      rfl
  | (.inl i, d) :: r, ys, _, _, e => nomatch e
theorem opn_sortedK : OpNB K mg rSrtK sortedK := by
  intro xs ds G en so σ H W Q r s p
  match ds, r, p with
  | [d], r, p =>
    obtain ⟨x, rfl, h⟩ := reps1 r
    obtain ⟨kds, ca, p2⟩ := dctO_at s h p
    obtain ⟨ys, ey, p4⟩ := opM_at p2
    obtain ⟨a0, kvs, rfl, hd, rk⟩ := ca
    refine ⟨a0, kvs, ys.map sT, rfl, hd, kstrs_keys rk ey, fun zs q hp hs hq => ?_⟩
    rw [sortedS_uniq hp hs]
    exact p4.ok' (tag_le q .tmp) (s.newT (t := .tmp) hq) ⟨q, rfl, tag_own, _, upd_same, reps_strs _⟩
  | [], _, p => exact False.elim p
  | d :: _ :: _, _, p => exact False.elim p
theorem reps_keys {F : Hp} {rho : List (Addr × Addr)} : ∀ {kvs : List (Key × V)} {kv : List (Ky × D)}, RepK K F rho kvs kv → Reps K F rho (kvs.map fun p => kV p.1) (keysD kv)
  | _, _, .nil => .nil
  | _, _, .cons (k := j) h q => .cons (ky_rep j) (reps_keys q)
theorem opn_listK : OpNB K mg (fun xs H Q => ∃ (a : Addr) (kvs : List (Key × V)), xs = [.ref a] ∧ Rd H a (.dK kvs) ∧ ∀ p, H p = none → Q (.ref p) (upd H p (.lst (kvs.map fun kv => kV kv.1)))) listK := by
  intro xs ds G en so σ H W Q r s p
  match ds, r, p with
  | [d], r, p =>
    obtain ⟨x, rfl, h⟩ := reps1 r
    obtain ⟨kds, ca, p2⟩ := dctO_at s h p
    obtain ⟨a0, kvs, rfl, hd, rk⟩ := ca
    exact ⟨a0, kvs, rfl, hd, fun q hq => p2.ok' (tag_le q .tmp) (s.newT (t := .tmp) hq) ⟨q, rfl, tag_own, _, upd_same, reps_keys rk⟩⟩
  | [], _, p => exact False.elim p
  | d :: _ :: _, _, p => exact False.elim p
end

/-! ### texts -/
def tsD (i : Int) : List Nat := (toString i : Str).cps.toList
theorem str_int (i : Int) : (toString i : Str) = sT (tsD i) := (sT_tl _).symm
def strI : List D → M D
  | [.int i] => gd (i.natAbs.log2 < 1920) (pu (.str (tsD i)))
  | [.str s] => pu (.str s)
  | _ => no
def smulD : D → D → M D
  | .str z, .int n => gd (n ≤ 16777216 ∧ -16777216 ≤ n ∧ z.length * n.toNat ≤ 16777216) (pu (.str (List.replicate n.toNat z).flatten))
  | _, _ => no
/-- y in x of texts -/
def subD' (x y : List Nat) : Bool := !(Builtin.Str.occurrences (sT x) (sT y) 0 x.length 1).isEmpty
def inS : D → D → M D
  | .str y, .str x => pu (.bl (subD' x y))
  | _, _ => no
def niS : D → D → M D
  | .str y, .str x => pu (.bl (!subD' x y))
  | _, _ => no
def lstripD (z : List Nat) : D → M D
  | .str t => gd (z.length ≤ 16777216) (pu (.str (Txt.lstripChars (sT z) (sT t)).cps.toList))
  | _ => no
def rstripD (z : List Nat) : D → M D
  | .str t => gd (z.length ≤ 16777216) (pu (.str (Txt.rstripChars (sT z) (sT t)).cps.toList))
  | _ => no
def upperD (z : List Nat) : M D := gd (z.length ≤ 5592405) (pu (.str (Txt.upper (sT z)).cps.toList))
theorem rep_str (F : Hp) (K : PySem.W.Frag) (rho : List (Addr × Addr)) (x : Str) : Rep K F rho (.str x) (.str x.cps.toList) := .of_str x rfl
section
variable {K : PySem.W.Frag} {mg : Ev}
theorem opn_str : OpN K mg (fun xs H Q => (∃ i, xs = [.int i] ∧ i.natAbs.log2 < 1920 ∧ Q (.str (toString i)) H) ∨ ∃ a, xs = [.str a] ∧ Q (.str a) H) strI := by
  intro xs ds G en so σ H W Q r s p
  match ds, r, p with
  | [d], r, p =>
    obtain ⟨x, rfl, h⟩ := reps1 r
    cases h with
    | int i =>
      obtain ⟨h1, p2⟩ := Post.gd (c := i.natAbs.log2 < 1920) p
      refine .inl ⟨i, rfl, h1, ?_⟩
      rw [str_int]
      exact p2.ok s (.str _)
    | str z => exact .inr ⟨_, rfl, p.ok s (.str _)⟩
    | _ => exact False.elim p
  | [], _, p => exact False.elim p
  | d :: _ :: _, _, p => cases d <;> exact False.elim p
theorem rep_toList (k : Nat) (z : List Nat) : ∀ acc : Array Nat, ((List.replicate k z.toArray).foldl (· ++ ·) acc).toList = acc.toList ++ (List.replicate k z).flatten := by
  induction k with
  | zero => intro acc; simp
  | succ k ih =>
    intro acc
    rw [List.replicate_succ, List.replicate_succ, List.foldl_cons, ih, List.flatten_cons]
    simp
def rSMul : R2 := fun x y H Q => ∃ (z : Str) (n : Int), x = .str z ∧ y = .int n ∧ n ≤ 16777216 ∧ -16777216 ≤ n ∧ z.length * n.toNat ≤ 16777216 ∧ Q (.str (sT (List.replicate n.toNat z.cps.toList).flatten)) H
theorem op_smul {X : Cx} : OpR X (binaryOp .Mult) rSMul := by
  intro pins s σ H x y v u Q I rx ry h
  obtain ⟨z, n, rfl, rfl, h1, h2, h3, q⟩ := h
  obtain ⟨t, rfl⟩ := (show ∃ t, v = Value.str z t from rx)
  obtain ⟨t', rfl⟩ := (show ∃ t', u = Value.int n t' from ry)
  have hz : z = sT z.cps.toList := (sT_tl z).symm
  refine PySem.P.mul_str ?_ (fun h4 h5 => ?_) (fun h4 h5 => ?_) ?_
  · rw [decide_eq_false (by omega), decide_eq_false (by omega)]; rfl
  · have h6 : (z.length : Int) * n ≤ 2 ^ 63 - 1 := by
      have e : ((z.length * n.toNat : Nat) : Int) = (z.length : Int) * n := by
        rw [Int.natCast_mul, Int.toNat_of_nonneg (by omega)]
      omega
    have := Int.le_ediv_of_mul_le (by omega) h6
    omega
  · unfold Builtin.Str.tooLong sizeLine
    exact decide_eq_false (by omega)
  · by_cases hn : n < 1
    · rw [if_pos hn]
      refine ⟨by decide, .str Str.empty, H, I.tok _, ⟨_, rfl⟩, ?_⟩
      have : n.toNat = 0 := by omega
      rw [this] at q
      exact q
    · rw [if_neg hn]
      have e1 : sT (List.replicate n.toNat z.cps.toList).flatten = ⟨(List.replicate n.toNat z.cps).foldl (· ++ ·) #[]⟩ := by
        apply TL.ext_tl
        show (sT _).cps.toList = ((List.replicate n.toNat z.cps).foldl (· ++ ·) #[]).toList
        rw [tl_sT]
        have := rep_toList n.toNat z.cps.toList #[]
        rw [Array.toArray_toList] at this
        rw [this]
        rfl
      by_cases hb : (n == 1 || z.length == 0) = true
      · rw [if_pos hb]
        refine ⟨.str z, H, I, ⟨_, rfl⟩, ?_⟩
        have e2 : sT (List.replicate n.toNat z.cps.toList).flatten = z := by
          rw [Bool.or_eq_true] at hb
          rcases hb with hb | hb
          · have : n = 1 := beq_iff_eq.mp hb
            subst this
            show sT (List.replicate 1 z.cps.toList).flatten = z
            simp [sT_tl]
          · have hz0 : z.cps.toList = [] := by
              have : z.cps.size = 0 := beq_iff_eq.mp hb
              simpa using this
            rw [hz0]
            have : (List.replicate n.toNat ([] : List Nat)).flatten = [] := by simp
            rw [this, ← hz0, sT_tl]
        rw [e2] at q
        exact q
      · rw [if_neg hb]
        refine ⟨?_, .str _, H, I.tok _, ⟨_, rfl⟩, by rw [← e1]; exact q⟩
        rw [← e1, sT_len, sizeLine_eq]
        have : (List.replicate n.toNat z.cps.toList).flatten.length = n.toNat * z.cps.toList.length := by simp [List.length_flatten]
        have e3 : z.cps.toList.length = z.length := by show _ = z.cps.size; simp
        rw [this, Nat.mul_comm, e3]
        exact h3
theorem op2_smul : Op2 K mg rSMul smulD := by
  intro x y d e G en so σ H W Q rx ry s p
  cases rx with
  | str z =>
    cases ry with
    | int n =>
      obtain ⟨⟨h1, h2, h3⟩, p⟩ := Post.gd (c := n ≤ 16777216 ∧ -16777216 ≤ n ∧ z.length * n.toNat ≤ 16777216) p
      refine ⟨sT z, n, rfl, rfl, h1, h2, by rw [sT_len]; exact h3, ?_⟩
      rw [tl_sT]
      exact p.ok s (.str _)
    | _ => exact False.elim p
  | _ => cases ry <;> exact False.elim p
theorem op2_inS : Op2 K mg (fun x y H Q => ∃ i j, x = .str i ∧ y = .str j ∧ Q (.bl (!(Builtin.Str.occurrences j i 0 j.length 1).isEmpty)) H) inS := by
  intro x y d e G en so σ H W Q rx ry s p
  cases rx with
  | str z =>
    cases ry with
    | str t =>
      refine ⟨_, _, rfl, rfl, ?_⟩
      rw [sT_len]
      exact p.ok s (.bl _)
    | _ => exact False.elim p
  | _ => cases ry <;> exact False.elim p
theorem op2_niS : Op2 K mg (fun x y H Q => ∃ i j, x = .str i ∧ y = .str j ∧ Q (.bl (!(!(Builtin.Str.occurrences j i 0 j.length 1).isEmpty))) H) niS := by
  intro x y d e G en so σ H W Q rx ry s p
  cases rx with
  | str z =>
    cases ry with
    | str t =>
      refine ⟨_, _, rfl, rfl, ?_⟩
      rw [sT_len]
      exact p.ok s (.bl _)
    | _ => exact False.elim p
  | _ => cases ry <;> exact False.elim p
theorem opm_lstrip : OpM1 K mg (fun x xs H Q => ∃ a b, x = .str a ∧ xs = [.str b] ∧ a.length ≤ sizeLine ∧ Q (.str (Txt.lstripChars a b)) H) lstripD := by
  intro z y d G en so σ H W Q ry s p
  cases ry with
  | str t =>
    obtain ⟨h1, p⟩ := Post.gd (c := z.length ≤ 16777216) p
    exact ⟨_, _, rfl, rfl, by rw [sT_len, sizeLine_eq]; exact h1, p.ok s (rep_str _ _ _ _)⟩
  | _ => exact False.elim p
theorem opm_rstrip : OpM1 K mg (fun x xs H Q => ∃ a b, x = .str a ∧ xs = [.str b] ∧ a.length ≤ sizeLine ∧ Q (.str (Txt.rstripChars a b)) H) rstripD := by
  intro z y d G en so σ H W Q ry s p
  cases ry with
  | str t =>
    obtain ⟨h1, p⟩ := Post.gd (c := z.length ≤ 16777216) p
    exact ⟨_, _, rfl, rfl, by rw [sT_len, sizeLine_eq]; exact h1, p.ok s (rep_str _ _ _ _)⟩
  | _ => exact False.elim p
theorem opm_upper : OpM0 K mg (fun x xs H Q => ∃ a, x = .str a ∧ xs = [] ∧ a.length ≤ 5592405 ∧ Q (.str (Txt.upper a)) H) upperD := by
  intro z G en so σ H W Q s p
  obtain ⟨h1, p⟩ := Post.gd (c := z.length ≤ 5592405) p
  exact ⟨_, rfl, rfl, by rw [sT_len]; exact h1, p.ok s (rep_str _ _ _ _)⟩
end

/-! ### a list of one's own is handed on; extend -/
/-- a name's own list, which nobody reads by that name any more -/
def mMv (i : Nat) : M B := fun en so => match en[i]? with
  | some (some (.cel c)) => .ok (.cel c) (en.set i none) so
  | some (some (.dat d)) => .ok (.dat d) en so
  | _ => .no
section
variable {K : PySem.W.Frag} {mg : Ev} {G : Gh} {en : En} {so : So} {σ : L2.St} {H : Hp}
theorem Sim.moveS {i : Nat} {c : C} {v : V} (s : Sim K mg G en so σ H) (e : en[i]? = some (some (.cel c))) (ev : σ[i]? = some (some v)) : ∃ G', G.le G' ∧ Sim K mg G' (en.set i none) so σ H ∧ RB K G' H .tmp v (.cel c) := by
  obtain ⟨v', e1, a, rfl, w, cr⟩ := s.sl i _ e
  rw [ev] at e1
  cases e1
  have eF : Same G.F (G.tag a .tmp).F := Same.refl G.F
  have er : Pre G.rho (G.tag a .tmp).rho := fun _ _ h => h
  have kp : ∀ b t, G.own b = t → t ≠ .slot i → (G.tag a .tmp).own b = t := fun b t e q => by
    have : b ≠ a := fun z => q (by rw [← e, z]; exact w)
    exact (if_neg this).trans e
  refine ⟨G.tag a .tmp, tag_le _ _, ⟨⟨fun b u e => ?_, fun b u e => ?_, s.len, fun k ob b dx e1 e2 => ?_, fun b u e => ?_, s.tb⟩, by rw [List.length_set]; exact s.ln, fun j b ej => ?_⟩, a, rfl, tag_own, cr.keep eF er fun _ h => h⟩
  · obtain ⟨h1, h2⟩ := s.fr b u e
    exact ⟨h1, kp b _ h2 (by intro z; cases z)⟩
  · obtain ⟨h1, h2⟩ := s.re b u e
    exact ⟨h1, kp b _ h2 (by intro z; cases z)⟩
  · exact (s.ob k ob b dx e1 e2).keep eF er fun b u h1 h2 => ⟨h1, kp b _ rfl (by rcases h2 with h2 | h2 <;> (rw [h2]; intro z; cases z))⟩
  · obtain ⟨h1, h2⟩ := s.lk b u e
    exact ⟨h1, kp b _ h2 (by intro z; cases z)⟩
  · by_cases hj : i = j
    · subst hj
      by_cases hl : i < en.length
      · rw [List.getElem?_set_self hl] at ej
        cases ej
      · rw [List.getElem?_eq_none (by rw [List.length_set]; omega)] at ej
        cases ej
    · rw [List.getElem?_set_ne hj] at ej
      obtain ⟨v', e', r'⟩ := s.sl j b ej
      exact ⟨v', e', r'.keep eF er fun b u h1 h2 => ⟨h1, kp b _ h2 (by intro z; cases z; exact hj rfl)⟩⟩
end
section
variable {X : Cx} {W : WX}
theorem b_mv (i : Nat) {x : Str} {pos : Pos} (hN : X.N[i]? = some x := by rfl) (hv : Vis X.env.scope x := by first | exact Or.inl rfl | exact Or.inr (Or.inl rfl) | exact Or.inr (Or.inr rfl)) (hd : (x == ("__debug__" : Str)) = false := by decide)
    (hcd : (x == ("__classdict__" : Str)) = false := by decide) : DB X W (.Name x pos) (mMv i) := by
  refine ⟨PE_imp (pe_var hN hv hd hcd) fun σ H Q ⟨G, en, so, s, p⟩ => ?_⟩
  unfold mMv at p
  split at p
  · rename_i c e
    obtain ⟨v, e1, r⟩ := s.sl i _ e
    obtain ⟨G', l, s', r'⟩ := s.moveS e e1
    exact ⟨v, e1, p.ok' l s' r'⟩
  · rename_i d e
    obtain ⟨v, e1, r⟩ := s.sl i _ e
    exact ⟨v, e1, p.ok s r⟩
  · exact p.elim
end
end
end Dl

set_option Elab.async false
set_option linter.all false
set_option maxRecDepth 100000
set_option maxHeartbeats 1000000
/-! The data level: == of lists, tuples and dicts as they stand just now, one inside of the other. -/
namespace PySem.SeqAt
open AutoSeq1 (wpAny_loadPart')
open MeetsSeq MeetsSeq2 MeetsSeq3 SeqRoads2
section
variable {P : Program} {w : World}
theorem tupP_in (l b : Addr) (xs ys : Array Value) (n n2 : Nat) (dl db : Option Addr) (sl sb : Array (Option Value)) (e : Nat → Bool) :
    MeetsIn P w (Builtin.«tuple.__eq__» ⟨[.ref l, .ref b], []⟩)
      (fun A R s => (s.heap.get? l = some { cls := .type "tuple", dict := dl, data := .seq xs n, slots := sl } ∧ s.heap.get? b = some { cls := .type "tuple", dict := db, data := .seq ys n2, slots := sb }) ∧
        (∀ j (h1 : j < xs.size) (h2 : j < ys.size), EqP P w A.in1 s xs[j] ys[j] (e j)) ∧ R (.ok (.ret (.bool ((List.range (min xs.size ys.size)).all e && xs.size == ys.size)))) s) := by
  rintro A R ⟨hp, g, d, tk, os⟩ ⟨⟨hl, hb⟩, he, h⟩
  have f2 := AutoSeq1.sub_tuple_tuple
  have hZ : (xs.toList.zip ys.toList).length = min xs.size ys.size := by simp
  wp_walk using wpAny_loadPart' hl, wpAny_loadPart' hb, wpAny_forIn_list _ (fun rest q s' => q.1 = none ∧ s' = ⟨hp, g, d, tk, os⟩ ∧ ∃ i, rest = (xs.toList.zip ys.toList).drop i ∧
    R (.ok (.ret (.bool (((List.range (min xs.size ys.size)).drop i).all e && xs.size == ys.size)))) ⟨hp, g, d, tk, os⟩) _
  case turn =>
    rintro ⟨y, x⟩ rest q s' ⟨hq, rfl, i, hz, hR⟩
    have lt : i < (xs.toList.zip ys.toList).length := by
      apply Classical.byContradiction
      intro z
      rw [List.drop_of_length_le (Nat.not_lt.mp z)] at hz
      cases hz
    have m0 : i < min xs.size ys.size := by rw [← hZ]; exact lt
    have m1 : i < xs.size := Nat.lt_of_lt_of_le m0 (Nat.min_le_left _ _)
    have m2 : i < ys.size := Nat.lt_of_lt_of_le m0 (Nat.min_le_right _ _)
    rw [List.drop_eq_getElem_cons lt] at hz
    obtain ⟨e1, e2⟩ := List.cons.inj hz
    obtain ⟨rfl, rfl⟩ : y = xs[i] ∧ x = ys[i] := by
      have a1 := congrArg Prod.fst e1
      have a2 := congrArg Prod.snd e1
      exact ⟨by simpa using a1, by simpa using a2⟩
    have dr : (List.range (min xs.size ys.size)).drop i = i :: (List.range (min xs.size ys.size)).drop (i + 1) := by simp [List.drop_eq_getElem_cons, m0]
    rw [dr, List.all_cons] at hR
    refine wpAny_bind (he i m1 m2 _ _ ?_)
    cases q0 : e i with
    | true =>
      rw [q0] at hR
      wp_walk
      exact ⟨rfl, rfl, i + 1, e2, by simpa using hR⟩
    | false =>
      rw [q0] at hR
      wp_walk
      simpa using hR
  case fin =>
    rintro ⟨q1, q2⟩ s' ⟨hq, rfl, i, hz, hR⟩
    cases (show q1 = none from hq)
    have ge : min xs.size ys.size ≤ i := by
      apply Classical.byContradiction
      intro z
      rw [List.drop_eq_getElem_cons (show i < (xs.toList.zip ys.toList).length by rw [hZ]; omega)] at hz
      cases hz
    rw [List.drop_of_length_le (by simpa using ge)] at hR
    wp_walk
    simpa [Builtin.Tuple.tupleCompareSizes] using hR
  case h => exact ⟨rfl, rfl, 0, rfl, by simpa using h⟩
theorem rcP_tups {A : Around} {s : Shared} {l b : Addr} {xs ys : Array Value} {e : Nat → Bool} (hl : s.heap.IsTuple l xs) (hb : s.heap.IsTuple b ys) (hu : A.units < cLine)
    (he : ∀ j (h1 : j < xs.size) (h2 : j < ys.size), EqP P w A.in1 s xs[j] ys[j] (e j)) (E Q : Value → Shared → Prop) (h : Q (.bool ((List.range (min xs.size ys.size)).all e && xs.size == ys.size)) s) : wpAny (model P w) A (richCompare .Eq (.ref l) (.ref b)) Q E s := by
  rcases id hl with ⟨⟨c1, d1, a1, s1⟩, o1, k1, n1, m1⟩
  rcases id hb with ⟨⟨c2, d2, a2, s2⟩, o2, k2, n2, m2⟩
  dsimp only at k1 m1 k2 m2
  subst k1 m1 k2 m2
  have t1 : s.TypeIs (.ref l) "tuple" := ⟨_, o1, rfl⟩
  have t2 : s.TypeIs (.ref b) "tuple" := ⟨_, o2, rfl⟩
  refine wpAny_richCompare_same_room (op := .Eq) t1 t2 F.slot_tuple_eq ?_ hu
  refine call_meetsIn F.slot_tuple_eq t1 F.entry_tuple_eq (F.args_tuple_eq_2 _ _) (tupP_in l b xs ys n1 n2 d1 d2 s1 s2 e) ?_
  exact ⟨⟨o1, o2⟩, he, (fun x => nomatch x), h⟩
end
end PySem.SeqAt

namespace Dl
open PySem PySem.Spec PyProof.Rows L2
noncomputable section
def zipE (f : D → D → Option Bool) : List D → List D → Option Bool
  | x :: xs, y :: ys => match f x y, zipE f xs ys with
    | some p, some q => some (p && q)
    | _, _ => none
  | _, _ => some true
def hitE (f : D → D → Option Bool) (b : List (Ky × D)) : List (Ky × D) → Option Bool
  | [] => some true
  | (k, v) :: r => match valD b k with
    | none => some false
    | some y => match f v y, hitE f b r with
      | some p, some q => some (p && q)
      | _, _ => none
/-- d == e, of nesting below n, where that is plain -/
def eqE : Nat → D → D → Option Bool
  | 0, _, _ => none
  | n + 1, d, e => match d, e with
    | .dct a, .dct b => if a.length = b.length then hitE (eqE n) b a else some false
    | .lst a, .lst b => if a.length = b.length then zipE (eqE n) a b else some false
    | .tup a, .tup b => (zipE (eqE n) a b).map fun p => p && a.length == b.length
    | d, e => if okq 20 d = true ∧ okq 20 e = true then some (eqD d e) else none
section
variable {X : Cx} {pins : List (Addr × Obj)} {σ : L2.St} {H : Hp} {s : Shared} {rho : List (Addr × Addr)}
theorem zip_at {f : D → D → Option Bool} : ∀ {ds es : List D} {b : Bool}, zipE f ds es = some b → ∃ g : Nat → Bool, (∀ j d e, ds[j]? = some d → es[j]? = some e → f d e = some (g j)) ∧ (List.range (min ds.length es.length)).all g = b
  | [], es, b, h => ⟨fun _ => true, (fun j d e h1 _ => by simp at h1), by cases es <;> (cases h; simp)⟩
  | d :: ds, [], b, h => ⟨fun _ => true, (fun j d e _ h1 => by simp at h1), by cases h; simp⟩
  | d :: ds, e :: es, b, h => by
    have h : (match f d e, zipE f ds es with | some p, some q => some (p && q) | _, _ => none) = some b := h
    cases h1 : f d e with
    | none => rw [h1] at h; cases h
    | some p =>
      cases h2 : zipE f ds es with
      | none => rw [h1, h2] at h; cases h
      | some q =>
        rw [h1, h2] at h
        cases h
        obtain ⟨g, g1, g2⟩ := zip_at h2
        refine ⟨fun j => match j with | 0 => p | j + 1 => g j, fun j d' e' k1 k2 => ?_, ?_⟩
        · cases j with
          | zero => cases k1; cases k2; exact h1
          | succ j => exact g1 j d' e' (by simpa using k1) (by simpa using k2)
        · rw [List.length_cons, List.length_cons, Nat.succ_min_succ, range_all]
          show (p && _) = _
          rw [← g2]
theorem eqE_flat {n : Nat} {d e : D} {b : Bool} (h : eqE (n + 1) d e = some b) : (∃ x y, d = .dct x ∧ e = .dct y ∧ (if x.length = y.length then hitE (eqE n) y x else some false) = some b) ∨ (∃ x y, d = .lst x ∧ e = .lst y ∧ (if x.length = y.length then zipE (eqE n) x y else some false) = some b) ∨
    (∃ x y, d = .tup x ∧ e = .tup y ∧ ((zipE (eqE n) x y).map fun p => p && x.length == y.length) = some b) ∨ (okq 20 d = true ∧ okq 20 e = true ∧ eqD d e = b) := by
  unfold eqE at h
  split at h
  · exact .inl ⟨_, _, rfl, rfl, h⟩
  · exact .inr (.inl ⟨_, _, rfl, rfl, h⟩)
  · exact .inr (.inr (.inl ⟨_, _, rfl, rfl, h⟩))
  · split at h
    · rename_i q
      cases h
      exact .inr (.inr (.inr ⟨q.1, q.2, rfl⟩))
    · cases h
theorem repK_inv {K : PySem.W.Frag} {F : Hp} {kv : List (Key × V)} {k : Ky} {d : D} {ds : List (Ky × D)} (h : RepK K F rho kv ((k, d) :: ds)) : ∃ v vs, kv = (kT k, v) :: vs ∧ Rep K F rho v d ∧ RepK K F rho vs ds := by
  cases h with
  | cons r q => exact ⟨_, _, rfl, r, q⟩
theorem valD_nodup : ∀ {y : List (Ky × D)}, (y.map fun p => kT p.1).Nodup → ∀ p ∈ y, valD y p.1 = some p.2
  | q :: y, nd, p, hp => by
    rw [List.map_cons, List.nodup_cons] at nd
    rw [valD_cons]
    rcases List.mem_cons.mp hp with e | hp
    · subst e; rw [if_pos rfl]
    · have ne : ¬ q.1 = p.1 := fun z => nd.1 (by rw [z]; exact List.mem_map.mpr ⟨p, hp, rfl⟩)
      rw [if_neg ne]
      exact valD_nodup nd.2 p hp
theorem dct_inj (I : Inv X pins σ H s) {a : Addr} {xs ys : List (Key × V)} (h : Rd H a (.dK xs)) (k : Rd H a (.dK ys)) : xs = ys := by
  rcases h with h | ⟨o, h⟩ <;> rcases k with k | ⟨o', k⟩ <;> rw [h] at k <;> cases k <;> rfl
/-- one value, read twice -/
theorem selfE (I : Inv X pins σ H s) : ∀ (n : Nat) (d e : D) (v : V) (b : Bool), eqE n d e = some b → Rep X.K H rho v d → Rep X.K H rho v e → b = true
  | 0, _, _, _, _, h, _, _ => nomatch h
  | n + 1, d, e, v, b, h, r1, r2 => by
    have zips : ∀ (vs : List V) (xs ys : List D) (b : Bool), zipE (eqE n) xs ys = some b → Reps X.K H rho vs xs → Reps X.K H rho vs ys → b = true := by
      intro vs
      induction vs with
      | nil => intro xs ys b h r1 r2; cases r1; cases r2; cases h; rfl
      | cons v vs ih =>
        intro xs ys b h r1 r2
        cases r1 with
        | @cons _ d _ xs p1 q1 =>
          cases r2 with
          | @cons _ e _ ys p2 q2 =>
            have h : (match eqE n d e, zipE (eqE n) xs ys with | some p, some q => some (p && q) | _, _ => none) = some b := h
            cases h1 : eqE n d e with
            | none => rw [h1] at h; cases h
            | some p =>
              cases h2 : zipE (eqE n) xs ys with
              | none => rw [h1, h2] at h; cases h
              | some q =>
                rw [h1, h2] at h
                cases h
                rw [selfE I n d e v p h1 p1 p2, ih xs ys q h2 q1 q2]; rfl
    rcases eqE_flat h with ⟨x, y, rfl, rfl, g⟩ | ⟨x, y, rfl, rfl, g⟩ | ⟨x, y, rfl, rfl, g⟩ | ⟨o1, o2, g⟩
    · cases r1 with
      | @dct a kvs _ h1 k1 =>
        cases r2 with
        | @dct _ lvs _ h2 k2 =>
          obtain rfl := dct_inj I h1 h2
          rw [if_pos (by rw [← repK_len k1, repK_len k2])] at g
          obtain ⟨z, lo, vs, rel, dd⟩ := dk_rd I.hok h1
          have nd : (y.map fun p => kT p.1).Nodup := by
            rw [← repK_keys k2, rel.keys]
            obtain ⟨_, _, _, _, _, _, _, _, nd⟩ := dd
            exact nd
          have key : ∀ (x' y' : List (Ky × D)) (kvs' : List (Key × V)) (b : Bool), (∀ p ∈ y', valD y p.1 = some p.2) → hitE (eqE n) y x' = some b → RepK X.K H rho kvs' x' → RepK X.K H rho kvs' y' → b = true := by
            intro x'
            induction x' with
            | nil => intro _ _ _ _ h _ _; cases h; rfl
            | cons p x' ih =>
              intro y' kvs' b hy h q1 q2
              obtain ⟨k, d⟩ := p
              obtain ⟨v, vs, rfl, w1, w2⟩ := repK_inv q1
              match y', q2, hy with
              | (k2, d2) :: ys, q2, hy =>
                obtain ⟨v', vs', e, w3, w4⟩ := repK_inv q2
                obtain ⟨e1, rfl⟩ := List.cons.inj e
                obtain ⟨e2, rfl⟩ := Prod.mk.inj e1
                have ek : k = k2 := kT_inj e2
                subst ek
                have hv := hy (k, d2) List.mem_cons_self
                have h : (match valD y k with | none => some false | some y0 => match eqE n d y0, hitE (eqE n) y x' with | some p, some q => some (p && q) | _, _ => none) = some b := h
                rw [hv] at h
                have h : (match eqE n d d2, hitE (eqE n) y x' with | some p, some q => some (p && q) | _, _ => none) = some b := h
                cases h1 : eqE n d d2 with
                | none => rw [h1] at h; cases h
                | some p =>
                  cases h2 : hitE (eqE n) y x' with
                  | none => rw [h1, h2] at h; cases h
                  | some q =>
                    rw [h1, h2] at h
                    cases h
                    rw [selfE I n d d2 v p h1 w1 w3, ih ys vs q (fun p hp => hy p (List.mem_cons_of_mem _ hp)) h2 w2 w4]; rfl
              | [], q2, hy => exact absurd (repK_len q2) (by simp)
          exact key x y _ b (valD_nodup nd) g k1 k2
    · cases r1 with
      | @lst a vs _ h1 k1 =>
        cases r2 with
        | @lst _ ws _ h2 k2 =>
          obtain rfl := sqL_inj I h1 h2
          rw [if_pos (by rw [← k1.len, k2.len])] at g
          exact zips _ _ _ _ g k1 k2
    · cases r1 with
      | @tup a vs _ h1 k1 =>
        cases r2 with
        | @tup _ ws _ h2 k2 =>
          obtain rfl := sqT_inj I h1 h2
          obtain ⟨p, g1, g2⟩ := Option.map_eq_some_iff.mp g
          have el : x.length = y.length := by rw [← k1.len, k2.len]
          rw [zips _ _ _ _ g1 k1 k2, el] at g2
          rw [← g2]; simp
    · rw [← g]
      exact eq_self I (Same.refl _) 20 d e v o1 o2 r1 r2
theorem hits_E {P : Program} {w : World} {A : Around} {n : Nat} {yD : List (Ky × D)} {lvs : List (Key × V)} {vb : List (Key × Value)} {K : PySem.W.Frag} {F : Hp}
    (ih : ∀ (d e : D) (x y : V) (u v : Value) (b : Bool), eqE n d e = some b → Rep K F rho x d → Rep K F rho y e → L2.RelV x u → L2.RelV y v → SeqAt.EqP P w A s u v b) (q2 : RepK K F rho lvs yD) (r2 : KV lvs vb) :
    ∀ (x : List (Ky × D)) (kvs : List (Key × V)) (va : List (Key × Value)) (r : Bool), RepK K F rho kvs x → KV kvs va → hitE (eqE n) yD x = some r → PySem.W.KeqHitsP P w A s vb va r
  | [], kvs, va, r, q1, r1, h => by
    cases q1
    unfold KV at r1
    cases r1
    cases h
    exact .nil
  | (k, d) :: x, kvs, va, r, q1, r1, h => by
    obtain ⟨v, vs, rfl, w1, w2⟩ := repK_inv q1
    unfold KV at r1
    cases r1 with
    | @cons _ q _ qs a t =>
      obtain ⟨key, val⟩ := q
      obtain ⟨a1, a2⟩ := a
      have a1 : kT k = key := a1
      subst a1
      have ro := repK_val k q2
      have rv := r2.val (kT k)
      have h : (match valD yD k with | none => some false | some y0 => match eqE n d y0, hitE (eqE n) yD x with | some p, some q => some (p && q) | _, _ => none) = some r := h
      generalize valD yD k = o1 at h ro
      generalize valV lvs (kT k) = o2 at ro rv
      cases ro with
      | none =>
        cases h
        refine .miss ?_
        cases e : valueAt vb (kT k) with
        | none => rfl
        | some y => rw [e] at rv; exact False.elim rv
      | @some y0 d0 rp =>
        have h : (match eqE n d d0, hitE (eqE n) yD x with | some p, some q => some (p && q) | _, _ => none) = some r := h
        cases h1 : eqE n d d0 with
        | none => rw [h1] at h; cases h
        | some p =>
          cases h2 : hitE (eqE n) yD x with
          | none => rw [h1, h2] at h; cases h
          | some q =>
            rw [h1, h2] at h
            cases h
            obtain ⟨y, hy, ry⟩ := rv.some_of
            exact .hit hy (ih d d0 v y0 _ _ p h1 w1 rp a2 ry) (hits_E ih q2 r2 x vs qs q w2 t h2)
theorem rc_step (I : Inv X pins σ H s) {n : Nat} {A : Around} (hA : A.units + n + 22 < cLine)
    (ih : ∀ (d e : D) (x y : V) (u v : Value) (b : Bool), eqE n d e = some b → Rep X.K H rho x d → Rep X.K H rho y e → L2.RelV x u → L2.RelV y v → SeqAt.EqP X.prog X.w A.in1 s u v b) (d e : D) (x y : V) (u v : Value) (b : Bool) (h : eqE (n + 1) d e = some b) (r1 : Rep X.K H rho x d) (r2 : Rep X.K H rho y e) (rx : L2.RelV x u) (ry : L2.RelV y v) :
    ∀ (E Q : Value → Shared → Prop), Q (.bool b) s → wpAny (model X.prog X.w) A (richCompare .Eq u v) Q E s := by
  intro E Q q
  have hu : A.units < cLine := by omega
  rcases eqE_flat h with ⟨xs, ys, rfl, rfl, g⟩ | ⟨xs, ys, rfl, rfl, g⟩ | ⟨xs, ys, rfl, rfl, g⟩ | ⟨o1, o2, g⟩
  · cases r1 with
    | @dct a kvs _ h1 k1 =>
      cases r2 with
      | @dct a' lvs _ h2 k2 =>
        cases rx
        cases ry
        obtain ⟨_, la, va, ra, da⟩ := dk_rd I.hok h1
        obtain ⟨_, lb, vb, rb, db⟩ := dk_rd I.hok h2
        have e1 : va.length = xs.length := by rw [← ra.length, repK_len k1]
        have e2 : vb.length = ys.length := by rw [← rb.length, repK_len k2]
        refine PySem.W.rcP_dicts (knd := mixKind X.prog X.w) (r := b) la lb da db hu (fun el => ?_) E Q ?_
        · rw [if_pos (by rw [← e1, ← e2]; exact el)] at g
          exact hits_E ih k2 rb xs kvs va b k1 ra g
        · by_cases el : xs.length = ys.length
          · rw [show (va.length == vb.length && b) = b by rw [e1, e2, el]; simp]
            exact q
          · rw [if_neg el] at g
            cases g
            rw [Bool.and_false]
            exact q
  · cases r1 with
    | @lst a vs _ h1 k1 =>
      cases r2 with
      | @lst a' ws _ h2 k2 =>
        cases rx
        cases ry
        obtain ⟨its, rv, hl⟩ := isL I h1
        obtain ⟨its', rv', hl'⟩ := isL I h2
        have e1 : its.length = xs.length := by rw [← rv.length, k1.len]
        have e2 : its'.length = ys.length := by rw [← rv'.length, k2.len]
        by_cases el : xs.length = ys.length
        · rw [if_pos el] at g
          obtain ⟨f, f1, f2⟩ := zip_at g
          refine SeqAt.rcP_lists (e := f) hl hl' (by rw [List.size_toArray, List.size_toArray, e1, e2]; exact el) hu (fun j h1 h2 => ?_) E Q ?_
          · obtain ⟨x1, d1, a1, p1, q1⟩ := vals_at k1 rv j (by simpa using h1)
            obtain ⟨x2, d2, a2, p2, q2⟩ := vals_at k2 rv' j (by simpa using h2)
            exact ih d1 d2 x1 x2 _ _ _ (f1 j d1 d2 a1 a2) p1 p2 (by simpa using q1) (by simpa using q2)
          · rw [List.size_toArray, e1]
            rw [← el, Nat.min_self] at f2
            rw [f2]
            exact q
        · rw [if_neg el] at g
          cases g
          exact SeqAt.RcAt.lists_lengths hl hl' (by rw [List.size_toArray, List.size_toArray, e1, e2]; simpa using el) hu X.prog X.w E Q q
  · cases r1 with
    | @tup a vs _ h1 k1 =>
      cases r2 with
      | @tup a' ws _ h2 k2 =>
        cases rx
        cases ry
        obtain ⟨its, rv, hl⟩ := isT I h1
        obtain ⟨its', rv', hl'⟩ := isT I h2
        have e1 : its.length = xs.length := by rw [← rv.length, k1.len]
        have e2 : its'.length = ys.length := by rw [← rv'.length, k2.len]
        obtain ⟨p, g1, g2⟩ := Option.map_eq_some_iff.mp g
        obtain ⟨f, f1, f2⟩ := zip_at g1
        refine SeqAt.rcP_tups (e := f) hl hl' hu (fun j h1 h2 => ?_) E Q ?_
        · obtain ⟨x1, d1, a1, p1, q1⟩ := vals_at k1 rv j (by simpa using h1)
          obtain ⟨x2, d2, a2, p2, q2⟩ := vals_at k2 rv' j (by simpa using h2)
          exact ih d1 d2 x1 x2 _ _ _ (f1 j d1 d2 a1 a2) p1 p2 (by simpa using q1) (by simpa using q2)
        · rw [List.size_toArray, List.size_toArray, e1, e2, f2, g2]
          exact q
  · rw [← g] at q
    have up : ∀ {n : Nat} {d : D}, okq n d = true → okq (n + 1) d = true := by
      intro n
      induction n with
      | zero => intro d h; cases d <;> first | rfl | cases h
      | succ n ih2 =>
        intro d h
        cases d with
        | lst xs => exact List.all_eq_true.mpr fun y hy => ih2 (List.all_eq_true.mp h y hy)
        | tup xs => exact List.all_eq_true.mpr fun y hy => ih2 (List.all_eq_true.mp h y hy)
        | non => rfl
        | bl _ => rfl
        | int _ => rfl
        | str _ => rfl
        | dct _ => cases h
        | obj _ => cases h
    exact rc_D I (Same.refl _) 20 A (by omega) d e x y u v (up o1) (up o2) r1 r2 rx ry X.prog X.w E Q q
theorem eqP_E (I : Inv X pins σ H s) : ∀ (n : Nat) (A : Around), A.units + n + 21 < cLine → ∀ (d e : D) (x y : V) (u v : Value) (b : Bool), eqE n d e = some b → Rep X.K H rho x d → Rep X.K H rho y e → L2.RelV x u → L2.RelV y v → SeqAt.EqP X.prog X.w A s u v b
  | 0, _, _, _, _, _, _, _, _, _, h, _, _, _, _ => nomatch h
  | n + 1, A, hA, d, e, x, y, u, v, b, h, r1, r2, rx, ry => by
    have step := rc_step I (A := A) (n := n) (by omega) (eqP_E I n A.in1 (by rw [units1]; omega)) d e x y u v b h r1 r2 rx ry
    have refs : ∀ {a a' : Addr}, x = .ref a → y = .ref a' → SeqAt.EqP X.prog X.w A s u v b := by
      rintro a a' rfl rfl
      cases rx
      cases ry
      by_cases ne : a = a'
      · subst ne
        rw [selfE I (n + 1) d e _ b h r1 r2]
        exact (SeqAt.EqAt.same _).eqP
      · exact SeqAt.eqP_refs ne step
    rcases eqE_flat h with ⟨xs, ys, rfl, rfl, g⟩ | ⟨xs, ys, rfl, rfl, g⟩ | ⟨xs, ys, rfl, rfl, g⟩ | ⟨o1, o2, g⟩
    · cases r1; cases r2; exact refs rfl rfl
    · cases r1; cases r2; exact refs rfl rfl
    · cases r1; cases r2; exact refs rfl rfl
    · rw [← g]
      exact (eqAt_D I (Same.refl _) 20 A (by omega) d e x y u v o1 o2 r1 r2 rx ry).eqP
end

/-! ### how things stand just now -/
def vwD (so : So) : Nat → D → D
  | 0, d => d
  | n + 1, d => match d with
    | .obj k => (match so[k]? with
      | some (.cel (.lst xs)) => .lst (xs.map (vwD so n))
      | some (.cel (.dct kv)) => .dct (kv.map fun p => (p.1, vwD so n p.2))
      | some (.lck kv) => .dct (kv.map fun p => (p.1, vwD so n p.2))
      | _ => .obj k)
    | .lst xs => .lst (xs.map (vwD so n))
    | .tup xs => .tup (xs.map (vwD so n))
    | .dct kv => .dct (kv.map fun p => (p.1, vwD so n p.2))
    | d => d
def vwH : Hd → M D
  | .dat d => fun en so => .ok (vwD so 6 d) en so
  | .slot i => fun en so => match en[i]? with
    | some (some (.cel c)) => .ok (vwD so 6 c.toD) en so
    | some (some (.dat d)) => .ok (vwD so 6 d) en so
    | _ => .no
/-- d == e -/
def eqV (d e : D) : Option Bool := if okq 24 d = true ∧ okq 24 e = true then some (eqD d e) else eqE 8 d e
def mEqH (ma mb : M Hd) : M D := bd ma fun h1 => bd mb fun h2 => bd (vwH h1) fun d => bd (vwH h2) fun e => opM (eqV d e) fun b => pu (.bl b)
def mNeH (ma mb : M Hd) : M D := bd ma fun h1 => bd mb fun h2 => bd (vwH h1) fun d => bd (vwH h2) fun e => gd (okq 24 d = true ∧ okq 24 e = true) (pu (.bl (!eqD d e)))
section
variable {K : PySem.W.Frag} {mg : Ev} {G : Gh} {en : En} {so : So} {σ : L2.St} {H : Hp}
theorem reps_vw {F : Hp} {rho : List (Addr × Addr)} {f : D → D} (h : ∀ v d, Rep K F rho v d → Rep K H rho v (f d)) : ∀ {vs : List V} {ds : List D}, Reps K F rho vs ds → Reps K H rho vs (ds.map f)
  | _, _, .nil => .nil
  | _, _, .cons r q => .cons (h _ _ r) (reps_vw h q)
theorem repK_vw {F : Hp} {rho : List (Addr × Addr)} {f : D → D} (h : ∀ v d, Rep K F rho v d → Rep K H rho v (f d)) : ∀ {vs : List (Key × V)} {ds : List (Ky × D)}, RepK K F rho vs ds → RepK K H rho vs (ds.map fun p => (p.1, f p.2))
  | _, _, .nil => .nil
  | _, _, .cons r q => .cons (h _ _ r) (repK_vw h q)
theorem rep_vw (s : SimO K mg G so H) : ∀ (n : Nat) (v : V) (d : D), Rep K G.F G.rho v d → Rep K H G.rho v (vwD so n d)
  | 0, v, d, r => r.mono s.rep fun _ _ h => h
  | n + 1, v, d, r => by
    have ih := rep_vw s n
    cases r with
    | non => exact .non
    | bl b => exact .bl b
    | int i => exact .int i
    | str z => exact .str z
    | tup h q => exact .tup (same_seqT s.rep h) (reps_vw ih q)
    | lst h q => exact .lst (Same.seq s.rep h) (reps_vw ih q)
    | dct h q => exact .dct (same_rd s.rep h) (repK_vw ih q)
    | @obj k a dx h =>
      show Rep K H G.rho (.ref a) (match so[k]? with
        | some (.cel (.lst xs)) => .lst (xs.map (vwD so n))
        | some (.cel (.dct kv)) => .dct (kv.map fun p => (p.1, vwD so n p.2))
        | some (.lck kv) => .dct (kv.map fun p => (p.1, vwD so n p.2))
        | _ => .obj k)
      cases e : so[k]? with
      | none => exact .obj h
      | some o =>
        have ob := s.ob k o a dx e h
        rcases o with ⟨c, fs⟩ | ⟨xs | kv⟩ | kv | _
        · exact .obj h
        · obtain ⟨_, vs, e1, q⟩ := ob
          exact .lst (SqL.of e1) (reps_vw ih q)
        · obtain ⟨_, vs, e1, q⟩ := ob
          exact .dct (.inl e1) (repK_vw ih q)
        · obtain ⟨o', kvs, e1, q⟩ := ob
          exact .dct (.inr ⟨_, (s.lk _ _ e1).1⟩) (repK_vw ih q)
        · exact .obj h
theorem rep_toD {v : V} {c : C} {a : Addr} (h : CR K G H a c) (s : SimO K mg G so H) (n : Nat) : Rep K H G.rho (.ref a) (vwD so (n + 1) c.toD) := by
  cases c with
  | lst xs =>
    obtain ⟨vs, e1, q⟩ := h
    exact .lst (SqL.of e1) (reps_vw (rep_vw s n) q)
  | dct kv =>
    obtain ⟨vs, e1, q⟩ := h
    exact .dct (.inl e1) (repK_vw (rep_vw s n) q)
theorem vwH_at {v : V} {h : Hd} (s : Sim K mg G en so σ H) (r : rlH K σ G H v h) {W : WX} {A' A1 : Type} {Rl : Gh → Hp → A' → A1 → Prop} {k : D → M A1} {Q : A' → Hp → Prop} (p : Post K mg G W Rl σ (bd (vwH h) k en so) Q) :
    ∃ d, Rep K H G.rho v d ∧ Post K mg G W Rl σ (k d en so) Q := by
  cases h with
  | dat d => exact ⟨_, rep_vw s.toSimO 6 v d r, p⟩
  | slot i =>
    have r : σ[i]? = some (some v) := r
    unfold bd vwH at p
    dsimp only at p
    cases h1 : en[i]? with
    | none => rw [h1] at p; exact p.elim
    | some o =>
      cases o with
      | none => rw [h1] at p; exact p.elim
      | some b =>
        obtain ⟨v', e1, rb⟩ := s.sl i b h1
        rw [r] at e1
        cases e1
        rw [h1] at p
        cases b with
        | cel c =>
          obtain ⟨a, rfl, w, cr⟩ := rb
          exact ⟨_, rep_toD (v := .ref a) cr s.toSimO 5, p⟩
        | dat d => exact ⟨_, rep_vw s.toSimO 6 v d rb, p⟩
        | exn _ => exact p.elim
end
def rEqE (K : PySem.W.Frag) : R2 := fun x y H Q => ∃ rho d e b, Rep K H rho x d ∧ Rep K H rho y e ∧ eqE 8 d e = some b ∧ Q (.bl b) H
section
variable {X : Cx} {W : WX} {a b : Expr} {ma mb : M Hd} {pos : Pos}
theorem op_eqE (hu : X.A.units + 64 < cLine) : OpR X (compareOp .Eq) (rEqE X.K) := by
  rintro pins s σ H x y v u Q I rx ry ⟨rho, d, e, b, h, k, g, q⟩
  exact rc_step I (A := X.A) (n := 7) (by omega) (eqP_E I 7 X.A.in1 (by rw [units1]; omega)) d e x y v u b g h k rx ry _ _ ⟨.bl b, H, I, rfl, q⟩
theorem op_eqA (hu : X.A.units + 64 < cLine) : OpR X (compareOp .Eq) (fun x y H Q => rEqG X.K false x y H Q ∨ rEqE X.K x y H Q) := by
  rintro pins s σ H x y v u Q I rx ry (h | h)
  · exact op_eqG hu pins s σ H x y v u Q I rx ry h
  · exact op_eqE hu pins s σ H x y v u Q I rx ry h
theorem eqH_tr {σ : L2.St} {H : Hp} {Q : VK} (q : tM X.K X.ev W (rlD X.K) (mEqH ma mb) σ H Q) : tOp (fun x y H Q => rEqG X.K false x y H Q ∨ rEqE X.K x y H Q) (fun σ H Q => tM X.K X.ev W (rlH X.K σ) ma σ H Q) (fun σ H Q => tM X.K X.ev W (rlH X.K σ) mb σ H Q) σ H Q := by
  obtain ⟨G, en, so, s, p⟩ := q
  refine ⟨G, en, so, s, (Post.bind (R1 := rlH X.K σ) p).imp fun v H1 ⟨G1, en1, so1, h1, l, r1, s1, p1⟩ => ⟨G1, en1, so1, s1, (Post.bind (R1 := rlH X.K σ) p1).imp fun y H2 ⟨G2, en2, so2, h2, l2, r2, s2, p2⟩ => ?_⟩⟩
  obtain ⟨d, rd, p3⟩ := vwH_at s2 (r1.up l2 (H' := H2)) p2
  obtain ⟨e, re, p4⟩ := vwH_at s2 r2 p3
  obtain ⟨b, eb, p5⟩ := opM_at p4
  unfold eqV at eb
  split at eb
  · rename_i o
    cases eb
    exact .inl ⟨H2, G2.rho, d, e, Same.refl _, rd, re, o.1, o.2, p5.ok s2 (.bl _)⟩
  · exact .inr ⟨G2.rho, d, e, b, rd, re, eb, p5.ok s2 (.bl _)⟩
theorem neH_tr {σ : L2.St} {H : Hp} {Q : VK} (q : tM X.K X.ev W (rlD X.K) (mNeH ma mb) σ H Q) : tOp (rEqG X.K true) (fun σ H Q => tM X.K X.ev W (rlH X.K σ) ma σ H Q) (fun σ H Q => tM X.K X.ev W (rlH X.K σ) mb σ H Q) σ H Q := by
  obtain ⟨G, en, so, s, p⟩ := q
  refine ⟨G, en, so, s, (Post.bind (R1 := rlH X.K σ) p).imp fun v H1 ⟨G1, en1, so1, h1, l, r1, s1, p1⟩ => ⟨G1, en1, so1, s1, (Post.bind (R1 := rlH X.K σ) p1).imp fun y H2 ⟨G2, en2, so2, h2, l2, r2, s2, p2⟩ => ?_⟩⟩
  obtain ⟨d, rd, p3⟩ := vwH_at s2 (r1.up l2 (H' := H2)) p2
  obtain ⟨e, re, p4⟩ := vwH_at s2 r2 p3
  obtain ⟨o, p5⟩ := Post.gd p4
  exact ⟨H2, G2.rho, d, e, Same.refl _, rd, re, o.1, o.2, p5.ok s2 (.bl _)⟩
theorem d_eqH (hu : X.A.units + 64 < cLine) (ha : DH X W a ma) (hb : DH X W b mb) (hm : behindInMarks .Eq b = false := by with_unfolding_all rfl) : DE X W (.Compare a [.Eq] [b] pos) (mEqH ma mb) :=
  ⟨PE_imp (pe_cmpR (op_eqA hu) ha.pe hb.pe hm) fun _ _ _ q => eqH_tr q⟩
theorem d_neH (hu : X.A.units + 64 < cLine) (ha : DH X W a ma) (hb : DH X W b mb) (hm : behindInMarks .NotEq b = false := by with_unfolding_all rfl) : DE X W (.Compare a [.NotEq] [b] pos) (mNeH ma mb) :=
  ⟨PE_imp (pe_cmpR (op_neG hu) ha.pe hb.pe hm) fun _ _ _ q => neH_tr q⟩
theorem d_eqHT (hu : X.A.units + 64 < cLine) (ha : DH X W a ma) (hb : DH X W b mb) (hm : behindInMarks .Eq b = false := by with_unfolding_all rfl) : DT X W (.Compare a [.Eq] [b] pos) (mT (mEqH ma mb)) :=
  ⟨PT_imp (pt_cmpR (op_eqA hu) ha.pe hb.pe hm) fun _ _ _ q => eqH_tr (mT_tr q)⟩
theorem d_neHT (hu : X.A.units + 64 < cLine) (ha : DH X W a ma) (hb : DH X W b mb) (hm : behindInMarks .NotEq b = false := by with_unfolding_all rfl) : DT X W (.Compare a [.NotEq] [b] pos) (mT (mNeH ma mb)) :=
  ⟨PT_imp (pt_cmpR (op_neG hu) ha.pe hb.pe hm) fun _ _ _ q => neH_tr (mT_tr q)⟩
end
end
end Dl

set_option Elab.async false
set_option linter.all false
set_option maxRecDepth 100000
set_option maxHeartbeats 1000000
/-! Mathematics over the data level: what the programs answer, piece by piece. -/
namespace Dl
open PySem L2
noncomputable section
section
variable {A A' : Type} {en : En} {so : So}
/-- what follows a run -/
def bdR {A A' : Type} (r : Re A) (k : A → M A') : Re A' := match r with
  | .ok a en so => k a en so
  | .exc x en so => .exc x en so
  | .no => .no
@[simp] theorem bdR_ok (a : A) (k : A → M A') : bdR (.ok a en so) k = k a en so := rfl
@[simp] theorem bdR_exc (x : Xc) (k : A → M A') : bdR (.exc x en so) k = .exc x en so := rfl
@[simp] theorem bdR_no (k : A → M A') : bdR .no k = .no := rfl
@[simp] theorem pu_ (a : A) : pu a en so = .ok a en so := rfl
@[simp] theorem bd_ (m : M A) (k : A → M A') : bd m k en so = bdR (m en so) k := rfl
@[simp] theorem gd_t {c : Prop} [Decidable c] (h : c) (m : M A) : gd c m en so = m en so := if_pos h
theorem gd_f {c : Prop} [Decidable c] (h : ¬ c) (m : M A) : gd c m en so = .no := if_neg h
@[simp] theorem no_ : (no : M A) en so = .no := rfl
@[simp] theorem mV_ (i : Nat) : mV i en so = (match en[i]? with
  | some (some (.dat d)) => .ok d en so
  | _ => .no) := rfl
@[simp] theorem m2_ (f : D → D → M D) (a b : M D) : m2 f a b en so = bdR (a en so) fun d => bd b fun e => f d e := rfl
@[simp] theorem aN_ : aN en so = .ok [] en so := rfl
@[simp] theorem aC_ (m : M D) (r : M (List D)) : aC m r en so = bdR (m en so) fun d => bd r fun ds => pu (d :: ds) := rfl
@[simp] theorem addI (a b : Int) : addD (.int a) (.int b) = pu (.int (a + b)) := rfl
@[simp] theorem addS (a b : List Nat) : addD (.str a) (.str b) = gd (a.length + b.length ≤ 16777216) (pu (.str (a ++ b))) := rfl
@[simp] theorem subI (a b : Int) : subD (.int a) (.int b) = pu (.int (a - b)) := rfl
@[simp] theorem mulI (a b : Int) : mulD (.int a) (.int b) = gd ((-(2 ^ 64) < a ∧ a < 2 ^ 64) ∨ (-(2 ^ 64) < b ∧ b < 2 ^ 64)) (pu (.int (a * b))) := rfl
@[simp] theorem divI (a b : Int) : divD (.int a) (.int b) = gd (0 < b ∧ b < 1073741824) (pu (.int (a / b))) := rfl
@[simp] theorem modI (a b : Int) : modD (.int a) (.int b) = gd (0 < b) (pu (.int (a % b))) := rfl
@[simp] theorem ltI (a b : Int) : ltD (.int a) (.int b) = pu (.bl (decide (a < b))) := rfl
@[simp] theorem leI (a b : Int) : leD (.int a) (.int b) = pu (.bl (decide (a ≤ b))) := rfl
@[simp] theorem gtI (a b : Int) : gtD (.int a) (.int b) = pu (.bl (decide (b < a))) := rfl
@[simp] theorem geI (a b : Int) : geD (.int a) (.int b) = pu (.bl (decide (b ≤ a))) := rfl
def kTr : D → M Bool := fun d => match d with
  | .bl b => pu b
  | _ => no
@[simp] theorem kTr_ (b : Bool) : kTr (.bl b) = pu b := rfl
@[simp] theorem mT_ (m : M D) : mT m en so = bdR (m en so) kTr := rfl
@[simp] theorem mTru_ (m : M D) : mTru m en so = bdR (m en so) truD := rfl
@[simp] theorem tru_non : truD .non = pu false := rfl
@[simp] theorem tru_bl (b : Bool) : truD (.bl b) = pu b := rfl
@[simp] theorem tru_int (i : Int) : truD (.int i) = pu (i != 0) := rfl
@[simp] theorem tru_str (s : List Nat) : truD (.str s) = gd (s.length ≤ 16777216) (pu (s.length != 0)) := rfl
@[simp] theorem tru_lst (s : List D) : truD (.lst s) = pu (!s.isEmpty) := rfl
def kAnd (b : M D) : D → M D := fun d => match d with
  | .bl true => b
  | .bl false => pu (.bl false)
  | _ => no
@[simp] theorem kAnd_ (b : M D) (x : Bool) : kAnd b (.bl x) en so = if x = true then b en so else .ok (.bl false) en so := by cases x <;> rfl
def kOr (b : M D) : D → M D := fun d => match d with
  | .bl true => pu (.bl true)
  | .bl false => b
  | _ => no
@[simp] theorem kOr_ (b : M D) (x : Bool) : kOr b (.bl x) en so = if x = true then .ok (.bl true) en so else b en so := by cases x <;> rfl
@[simp] theorem ite_and (c : Prop) [Decidable c] (y : Bool) : (if c then (.ok (.bl y) en so : Re D) else .ok (.bl false) en so) = .ok (.bl (decide c && y)) en so := by
  by_cases h : c <;> simp [h]
@[simp] theorem ite_or (c : Prop) [Decidable c] (y : Bool) : (if c then (.ok (.bl true) en so : Re D) else .ok (.bl y) en so) = .ok (.bl (decide c || y)) en so := by
  by_cases h : c <;> simp [h]
def kNot : D → M D := fun d => match d with
  | .bl b => pu (.bl (!b))
  | _ => no
@[simp] theorem kNot_ (b : Bool) : kNot (.bl b) = pu (.bl (!b)) := rfl
@[simp] theorem mAnd_ (a b : M D) : mAnd a b en so = bdR (a en so) (kAnd b) := rfl
@[simp] theorem mOr_ (a b : M D) : mOr a b en so = bdR (a en so) (kOr b) := rfl
@[simp] theorem mNot_ (a : M D) : mNot a en so = bdR (a en so) kNot := rfl
def kIt {A : Type} (a b : M A) : Bool → M A := fun c => if c then a else b
@[simp] theorem kIt_ (a b : M A) (c : Bool) : kIt a b c en so = if c = true then a en so else b en so := by cases c <;> rfl
@[simp] theorem tAndM_ (a b : M Bool) : tAndM a b en so = bdR (a en so) (kIt b (pu false)) := rfl
@[simp] theorem tOrM_ (a b : M Bool) : tOrM a b en so = bdR (a en so) (kIt (pu true) b) := rfl
@[simp] theorem tNotM_ (a : M Bool) : tNotM a en so = bdR (a en so) fun c => pu (!c) := rfl
@[simp] theorem ite_andB (c : Prop) [Decidable c] (y : Bool) : (if c then (.ok y en so : Re Bool) else .ok false en so) = .ok (decide c && y) en so := by
  by_cases h : c <;> simp [h]
@[simp] theorem ite_orB (c : Prop) [Decidable c] (y : Bool) : (if c then (.ok true en so : Re Bool) else .ok y en so) = .ok (decide c || y) en so := by
  by_cases h : c <;> simp [h]
def kCh (g : D → D → M D) (y : D) (c : M D) : D → M D := fun d => match d with
  | .bl true => bd c fun z => g y z
  | .bl false => pu (.bl false)
  | _ => no
@[simp] theorem kCh_ (g : D → D → M D) (y : D) (c : M D) (x : Bool) : kCh g y c (.bl x) en so = if x = true then bdR (c en so) fun z => g y z else .ok (.bl false) en so := by cases x <;> rfl
@[simp] theorem mCh_ (f g : D → D → M D) (a b c : M D) : mCh f g a b c en so = bdR (a en so) fun x => bd b fun y => bd (f x y) (kCh g y c) := rfl
@[simp] theorem mFz_ (m : M B) : mFz m en so = bdR (m en so) fun b => pu b.toD := rfl
@[simp] theorem toD_dat (d : D) : (B.dat d).toD = d := rfl
@[simp] theorem toD_lst (ds : List D) : (B.cel (.lst ds)).toD = .lst ds := rfl
@[simp] theorem toD_dct (ds : List (Ky × D)) : (B.cel (.dct ds)).toD = .dct ds := rfl
@[simp] theorem eqM_ (d e : D) : eqM d e = gd (okq 24 d = true ∧ okq 24 e = true) (pu (.bl (eqD d e))) := rfl
@[simp] theorem neM_ (d e : D) : neM d e = gd (okq 24 d = true ∧ okq 24 e = true) (pu (.bl (!eqD d e))) := rfl
@[simp] theorem okq_non (n : Nat) : okq n .non = true := by cases n <;> rfl
@[simp] theorem okq_bl (n : Nat) (b : Bool) : okq n (.bl b) = true := by cases n <;> rfl
@[simp] theorem okq_int (n : Nat) (b : Int) : okq n (.int b) = true := by cases n <;> rfl
@[simp] theorem okq_str (n : Nat) (b : List Nat) : okq n (.str b) = true := by cases n <;> rfl
@[simp] theorem okq_lst (n : Nat) (xs : List D) : okq (n + 1) (.lst xs) = xs.all (okq n) := rfl
@[simp] theorem okq_tup (n : Nat) (xs : List D) : okq (n + 1) (.tup xs) = xs.all (okq n) := rfl
@[simp] theorem okq_lst24 (xs : List D) : okq 24 (.lst xs) = xs.all (okq 23) := rfl
@[simp] theorem okq_tup24 (xs : List D) : okq 24 (.tup xs) = xs.all (okq 23) := rfl
@[simp] theorem eqD_nn : eqD .non .non = true := by simp [eqD]
@[simp] theorem eqD_bb (a b : Bool) : eqD (.bl a) (.bl b) = (a == b) := by simp [eqD]
@[simp] theorem eqD_ii (a b : Int) : eqD (.int a) (.int b) = decide (a = b) := by simp only [eqD]; rw [Bool.eq_iff_iff]; simp
@[simp] theorem eqD_ss (a b : List Nat) : eqD (.str a) (.str b) = decide (a = b) := by simp only [eqD]; rw [Bool.eq_iff_iff]; simp
@[simp] theorem eqD_ll (a b : List D) : eqD (.lst a) (.lst b) = eqDs a b := by simp [eqD]
@[simp] theorem eqD_tt (a b : List D) : eqD (.tup a) (.tup b) = eqDs a b := by simp [eqD]
@[simp] theorem eqDs_nil : eqDs [] [] = true := by simp [eqDs]
@[simp] theorem eqDs_cons (a b : D) (xs ys : List D) : eqDs (a :: xs) (b :: ys) = (eqD a b && eqDs xs ys) := by simp [eqDs]
@[simp] theorem lenS (s : List Nat) : lenD [.str s] = gd (s.length ≤ 16777216) (pu (.int s.length)) := rfl
@[simp] theorem lenL (s : List D) : lenD [.lst s] = pu (.int s.length) := rfl
@[simp] theorem lenT (s : List D) : lenD [.tup s] = pu (.int s.length) := rfl
@[simp] theorem absI (i : Int) : absD [.int i] = pu (.int (if i < 0 then -i else i)) := rfl
@[simp] theorem intI (i : Int) : intD [.int i] = pu (.int i) := rfl
@[simp] theorem intB (b : Bool) : intD [.bl b] = pu (.int (if b then 1 else 0)) := rfl
@[simp] theorem ordC (c : Nat) : ordD [.str [c]] = pu (.int c) := rfl
@[simp] theorem blsOf_map (l : List Bool) : blsOf (l.map D.bl) = some l := by
  induction l with
  | nil => rfl
  | cons b l ih => show (blsOf (l.map D.bl)).map (b :: ·) = _; rw [ih]; rfl
theorem blsOf_map' {A : Type} (f : A → Bool) (l : List A) : blsOf (l.map fun x => D.bl (f x)) = some (l.map f) := by
  have : (l.map fun x => D.bl (f x)) = (l.map f).map D.bl := by rw [List.map_map]; rfl
  rw [this, blsOf_map]
theorem strsOf_map' {A : Type} (f : A → List Nat) (l : List A) : strsOf (l.map fun x => D.str (f x)) = some (l.map f) := by
  induction l with
  | nil => rfl
  | cons b l ih => show (strsOf (l.map fun x => D.str (f x))).map (f b :: ·) = _; rw [ih]; rfl
theorem all_lst {l : List Bool} : allD [.lst (l.map D.bl)] en so = .ok (.bl (l.all id)) en so := by
  show (match blsOf (l.map D.bl) with | some bs => (pu (D.bl (bs.all id)) : M D) | none => no) en so = _
  rw [blsOf_map]; rfl
theorem all_map {A : Type} (f : A → Bool) (l : List A) : allD [.lst (l.map fun x => D.bl (f x))] en so = .ok (.bl (l.all f)) en so := by
  have : (l.map fun x => D.bl (f x)) = (l.map f).map D.bl := by rw [List.map_map]; rfl
  rw [this, all_lst, List.all_map]; rfl
@[simp] theorem sPass_ : sPass en so = .ok .nx en so := rfl
@[simp] theorem sBreak_ : sBreak en so = .ok .bk en so := rfl
@[simp] theorem sCont_ : sCont en so = .ok .ct en so := rfl
def kSeq (b : M Fl) : Fl → M Fl := fun f => match f with
  | .nx => b
  | f => pu f
@[simp] theorem kSeq_nx (b : M Fl) : kSeq b .nx = b := rfl
@[simp] theorem kSeq_rt (b : M Fl) (v : B) : kSeq b (.rt v) = pu (.rt v) := rfl
@[simp] theorem kSeq_bk (b : M Fl) : kSeq b .bk = pu .bk := rfl
@[simp] theorem kSeq_ct (b : M Fl) : kSeq b .ct = pu .ct := rfl
@[simp] theorem sSeq_ (a b : M Fl) : sSeq a b en so = bdR (a en so) (kSeq b) := by
  unfold sSeq bd bdR kSeq
  cases a en so with
  | ok f en so => cases f <;> rfl
  | _ => rfl
@[simp] theorem sIf_ (t : M Bool) (a b : M Fl) : sIf t a b en so = bdR (t en so) (kIt a b) := rfl
@[simp] theorem sRet_ (m : M B) : sRet m en so = bdR (m en so) fun b => pu (.rt b) := rfl
@[simp] theorem sRetD_ (m : M D) : sRetD m en so = bdR (m en so) fun d => pu (.rt (.dat d)) := rfl
@[simp] theorem sRetN_ : sRetN en so = .ok (.rt (.dat .non)) en so := rfl
@[simp] theorem sExpr_ (m : M D) : sExpr m en so = bdR (m en so) fun _ => pu .nx := rfl
def kSet (i : Nat) (b : B) : M Fl := fun en so => .ok .nx (en.set i (some b)) so
@[simp] theorem kSet_ (i : Nat) (b : B) : kSet i b en so = .ok .nx (en.set i (some b)) so := rfl
@[simp] theorem sSet_ (i : Nat) (m : M D) : sSet i m en so = bdR (m en so) fun d => kSet i (.dat d) := rfl
@[simp] theorem sSetB_ (i : Nat) (m : M B) : sSetB i m en so = bdR (m en so) fun b => kSet i b := rfl
def kTg (tg : Tg) (d : D) : M Fl := fun en so => match tg d en with
  | some en' => .ok .nx en' so
  | none => .no
theorem kTg_ {tg : Tg} {d : D} {en' : En} (h : tg d en = some en') : kTg tg d en so = .ok .nx en' so := by unfold kTg; rw [h]
@[simp] theorem kTg_N (i : Nat) (d : D) : kTg (tgN i) d en so = .ok .nx (en.set i (some (.dat d))) so := rfl
@[simp] theorem kTg_P (i j : Nat) (x y : D) : kTg (tgP i j) (.tup [x, y]) en so = .ok .nx ((en.set i (some (.dat x))).set j (some (.dat y))) so := rfl
@[simp] theorem sSetT_ (tg : Tg) (m : M D) : sSetT tg m en so = bdR (m en so) fun d => kTg tg d := rfl
@[simp] theorem sAug_ (i : Nat) (f : D → D → M D) (m : M D) : sAug i f m en so = (match en[i]? with
  | some (some (.dat x)) => bdR (m en so) fun y => bd (f x y) fun z => kSet i (.dat z)
  | _ => .no) := rfl
@[simp] theorem tgN_ (i : Nat) (d : D) : tgN i d en = some (en.set i (some (.dat d))) := rfl
@[simp] theorem tgP_ (i j : Nat) (x y : D) : tgP i j (.tup [x, y]) en = some ((en.set i (some (.dat x))).set j (some (.dat y))) := rfl
def kL : D → M (List D) := fun d => match d with
  | .lst xs => pu xs
  | _ => no
@[simp] theorem kL_ (xs : List D) : kL (.lst xs) = pu xs := rfl
def kTu : D → M (List D) := fun d => match d with
  | .tup xs => pu xs
  | _ => no
@[simp] theorem kTu_ (xs : List D) : kTu (.tup xs) = pu xs := rfl
def kS : D → M (List D) := fun d => match d with
  | .str s => pu (s.map fun c => .str [c])
  | _ => no
@[simp] theorem kS_ (s : List Nat) : kS (.str s) = pu (s.map fun c => .str [c]) := rfl
@[simp] theorem itL_ (m : M D) : itL m en so = bdR (m en so) kL := rfl
@[simp] theorem itT_ (m : M D) : itT m en so = bdR (m en so) kTu := rfl
@[simp] theorem itS_ (m : M D) : itS m en so = bdR (m en so) kS := rfl
@[simp] theorem itR1_ (m : M D) : itR1 m en so = bdR (m en so) rg1 := rfl
theorem rg1_ (j : Int) : rg1 (.int j) = gd (-(2 ^ 62) ≤ j ∧ j < 2 ^ 62) (pu (rngD 0 j.toNat)) := rfl
@[simp] theorem itR2_ (a b : M D) : itR2 a b en so = bdR (a en so) fun i => bd b fun j => rg2 i j := rfl
@[simp] theorem rg2_ (i j : Int) : rg2 (.int i) (.int j) = gd (-(2 ^ 62) ≤ i ∧ i < 2 ^ 62 ∧ -(2 ^ 62) ≤ j ∧ j < 2 ^ 62) (pu (rngD i (j - i).toNat)) := rfl
@[simp] theorem sFor_ (tg : Tg) (src : M (List D)) (body : M Fl) : sFor tg src body en so = bdR (src en so) fun ds => forGo tg body ds := rfl
@[simp] theorem mLst_ (ms : M (List D)) : mLst ms en so = bdR (ms en so) fun ds => gd (ds.length ≤ 16777216) (pu (.cel (.lst ds))) := rfl
@[simp] theorem mTup_ (ms : M (List D)) : mTup ms en so = bdR (ms en so) fun ds => gd (ds.length ≤ 16777216) (pu (.tup ds)) := rfl
@[simp] theorem oN_ : oN en so = .ok none en so := rfl
def kO : D → M (Option Int) := fun d => match d with
  | .int i => pu (some i)
  | _ => no
@[simp] theorem kO_ (i : Int) : kO (.int i) = pu (some i) := rfl
@[simp] theorem oS_ (m : M D) : oS m en so = bdR (m en so) kO := rfl
@[simp] theorem mSl_ (f : D → Option Int → Option Int → M A) (m : M D) (lo hi : M (Option Int)) : mSl f m lo hi en so = bdR (m en so) fun d => bd lo fun l => bd hi fun h => f d l h := rfl
@[simp] theorem slS_ (s : List Nat) (lo hi : Option Int) : slS (.str s) lo hi = gd (s.length ≤ 16777216) (pu (.str (cutL s lo hi))) := rfl
@[simp] theorem slL_ (s : List D) (lo hi : Option Int) : slL (.lst s) lo hi = pu (.cel (.lst (cutL s lo hi))) := rfl
/-- the caller goes on after a call -/
def kCall (f : FunM) (ds : List D) : M B := fun en so => match f ds so with
  | .ok b so' => .ok b en so'
  | .exc x so' => .exc x en so'
  | .no => .no
@[simp] theorem mCall_ (f : FunM) (ms : M (List D)) : mCall f ms en so = bdR (ms en so) (kCall f) := rfl
/-- .. of a call whose answer is known -/
def rfR (r : Rf) (en : En) : Re B := match r with
  | .ok b so' => .ok b en so'
  | .exc x so' => .exc x en so'
  | .no => .no
@[simp] theorem kCall_ (f : FunM) (ds : List D) : kCall f ds en so = rfR (f ds so) en := rfl
@[simp] theorem rfR_ok (b : B) : rfR (.ok b so) en = .ok b en so := rfl
@[simp] theorem rfR_exc (x : Xc) : rfR (.exc x so) en = .exc x en so := rfl
def kIs (T : TyN) : D → M D := fun d => match d with
  | .obj _ => no
  | d => pu (.bl (isD T d))
@[simp] theorem mIs_ (T : TyN) (m : M D) : mIs T m en so = bdR (m en so) (kIs T) := rfl
@[simp] theorem kIs_non (T : TyN) : kIs T .non = pu (.bl (isD T .non)) := rfl
@[simp] theorem kIs_bl (T : TyN) (b : Bool) : kIs T (.bl b) = pu (.bl (isD T (.bl b))) := rfl
@[simp] theorem kIs_int (T : TyN) (b : Int) : kIs T (.int b) = pu (.bl (isD T (.int b))) := rfl
@[simp] theorem kIs_str (T : TyN) (b : List Nat) : kIs T (.str b) = pu (.bl (isD T (.str b))) := rfl
@[simp] theorem kIs_lst (T : TyN) (b : List D) : kIs T (.lst b) = pu (.bl (isD T (.lst b))) := rfl
@[simp] theorem kIs_tup (T : TyN) (b : List D) : kIs T (.tup b) = pu (.bl (isD T (.tup b))) := rfl
@[simp] theorem kIs_dct (T : TyN) (b : List (Ky × D)) : kIs T (.dct b) = pu (.bl (isD T (.dct b))) := rfl
@[simp] theorem mIsN_ (m : M D) : mIsN m en so = bdR (m en so) fun d => pu (.bl (isN d)) := rfl
@[simp] theorem mNotN_ (m : M D) : mNotN m en so = bdR (m en so) fun d => pu (.bl (!isN d)) := rfl
def opR {A A' : Type} (o : Option A) (k : A → M A') : M A' := match o with
  | some a => k a
  | none => no
@[simp] theorem opR_some (a : A) (k : A → M A') : opR (some a) k = k a := rfl
@[simp] theorem ix_lst (xs : List D) (i : Int) : ixD (.lst xs) (.int i) = opR (atI xs i) pu := by show (match atI xs i with | some d => pu d | none => no) = _; cases atI xs i <;> rfl
@[simp] theorem ix_tup (xs : List D) (i : Int) : ixD (.tup xs) (.int i) = opR (atI xs i) pu := by show (match atI xs i with | some d => pu d | none => no) = _; cases atI xs i <;> rfl
@[simp] theorem ix_str (s : List Nat) (i : Int) : ixD (.str s) (.int i) = gd (s.length ≤ 16777216) (opR (atI s i) fun c => pu (.str [c])) := by show gd _ (match atI s i with | some c => pu (D.str [c]) | none => no) = _; cases atI s i <;> rfl
def kM {A : Type} (f : List Nat → M A) : D → M A := fun d => match d with
  | .str z => f z
  | _ => no
@[simp] theorem kM_ (f : List Nat → M A) (z : List Nat) : kM f (.str z) = f z := rfl
@[simp] theorem mM1_ (f : List Nat → D → M A) (o e : M D) : mM1 f o e en so = bdR (o en so) (kM fun z => bd e fun y => f z y) := rfl
@[simp] theorem mM0_ (f : List Nat → M A) (o : M D) : mM0 f o en so = bdR (o en so) (kM f) := rfl
/-- a comprehension whose element makes g d of each d -/
@[simp] theorem isD_bb (b : Bool) : isD .bool (.bl b) = true := rfl
@[simp] theorem isD_ib (b : Bool) : isD .int (.bl b) = true := rfl
@[simp] theorem isD_bi (b : Int) : isD .bool (.int b) = false := rfl
@[simp] theorem isD_ii (b : Int) : isD .int (.int b) = true := rfl
@[simp] theorem isD_ss (b : List Nat) : isD .str (.str b) = true := rfl
@[simp] theorem isD_ll (b : List D) : isD .list (.lst b) = true := rfl
@[simp] theorem isD_tt (b : List D) : isD .tuple (.tup b) = true := rfl
@[simp] theorem isD_dd (b : List (Ky × D)) : isD .dict (.dct b) = true := rfl
theorem lcGo_map {vs : List Nat} {tg : Tg} {el : M D} (g : D → D) : ∀ (ds acc : List D), (∀ d ∈ ds, ∃ en0, tg d en = some en0 ∧ el en0 so = .ok (g d) en0 so ∧ wipeE en0 vs = en) → acc.length + ds.length ≤ 16777216 → lcGo vs tg (pu true) el ds acc en so = .ok (acc ++ ds.map g) en so
  | [], acc, _, _ => by simp [lcGo]
  | d :: ds, acc, h, hl => by
    obtain ⟨en0, h1, h2, h3⟩ := h d List.mem_cons_self
    have hl' : acc.length + (ds.length + 1) ≤ 16777216 := hl
    have ih := lcGo_map g ds (acc ++ [g d]) (fun d' hd => h d' (List.mem_cons_of_mem _ hd)) (by rw [List.length_append, List.length_singleton]; omega)
    unfold lcGo
    simp only [h1, pu_, h2, h3]
    rw [if_pos (by omega), ih]
    simp
/-- .. and keeps those of which f holds -/
theorem lcGo_filter {vs : List Nat} {tg : Tg} {tt : M Bool} {el : M D} (f : D → Bool) (g : D → D) : ∀ (ds acc : List D), (∀ d ∈ ds, ∃ en0, tg d en = some en0 ∧ tt en0 so = .ok (f d) en0 so ∧ (f d = true → el en0 so = .ok (g d) en0 so) ∧ wipeE en0 vs = en) → acc.length + ds.length ≤ 16777216 →
    lcGo vs tg tt el ds acc en so = .ok (acc ++ (ds.filter f).map g) en so
  | [], acc, _, _ => by simp [lcGo]
  | d :: ds, acc, h, hl => by
    obtain ⟨en0, h1, h2, h3, h4⟩ := h d List.mem_cons_self
    have hl' : acc.length + (ds.length + 1) ≤ 16777216 := hl
    unfold lcGo
    simp only [h1, h2]
    cases hf : f d with
    | false =>
      have ih := lcGo_filter f g ds acc (fun d' hd => h d' (List.mem_cons_of_mem _ hd)) (by omega)
      simp only [h4]
      rw [ih]
      simp [List.filter_cons, hf]
    | true =>
      have ih := lcGo_filter f g ds (acc ++ [g d]) (fun d' hd => h d' (List.mem_cons_of_mem _ hd)) (by rw [List.length_append, List.length_singleton]; omega)
      simp only [h3 hf, h4]
      rw [if_pos (by omega), ih]
      simp [List.filter_cons, hf]
theorem lcGo_mp {A : Type} {vs : List Nat} {tg : Tg} {el : M D} (f g : A → D) (l : List A) (h : ∀ a ∈ l, ∃ en0, tg (f a) en = some en0 ∧ el en0 so = .ok (g a) en0 so ∧ wipeE en0 vs = en) (hl : l.length ≤ 16777216) : lcGo vs tg (pu true) el (l.map f) [] en so = .ok (l.map g) en so := by
  have key : ∀ (l : List A) (acc : List D), (∀ a ∈ l, ∃ en0, tg (f a) en = some en0 ∧ el en0 so = .ok (g a) en0 so ∧ wipeE en0 vs = en) → acc.length + l.length ≤ 16777216 → lcGo vs tg (pu true) el (l.map f) acc en so = .ok (acc ++ l.map g) en so := by
    intro l
    induction l with
    | nil => intro acc _ _; simp [lcGo]
    | cons a l ih =>
      intro acc h hl
      obtain ⟨en0, h1, h2, h3⟩ := h a List.mem_cons_self
      have hl' : acc.length + (l.length + 1) ≤ 16777216 := hl
      have ih := ih (acc ++ [g a]) (fun d' hd => h d' (List.mem_cons_of_mem _ hd)) (by rw [List.length_append, List.length_singleton]; omega)
      rw [List.map_cons]
      unfold lcGo
      simp only [h1, pu_, h2, h3]
      rw [if_pos (by omega), ih]
      simp
  exact key l [] h (by simpa using hl)
theorem lcGo_flt {A : Type} {vs : List Nat} {tg : Tg} {tt : M Bool} {el : M D} (f : A → D) (p : A → Bool) (g : A → D) (l : List A) (h : ∀ a ∈ l, ∃ en0, tg (f a) en = some en0 ∧ tt en0 so = .ok (p a) en0 so ∧ (p a = true → el en0 so = .ok (g a) en0 so) ∧ wipeE en0 vs = en) (hl : l.length ≤ 16777216) : lcGo vs tg tt el (l.map f) [] en so = .ok ((l.filter p).map g) en so := by
  have key : ∀ (l : List A) (acc : List D), (∀ a ∈ l, ∃ en0, tg (f a) en = some en0 ∧ tt en0 so = .ok (p a) en0 so ∧ (p a = true → el en0 so = .ok (g a) en0 so) ∧ wipeE en0 vs = en) → acc.length + l.length ≤ 16777216 → lcGo vs tg tt el (l.map f) acc en so = .ok (acc ++ (l.filter p).map g) en so := by
    intro l
    induction l with
    | nil => intro acc _ _; simp [lcGo]
    | cons a l ih =>
      intro acc h hl
      obtain ⟨en0, h1, h2, h3, h4⟩ := h a List.mem_cons_self
      have hl' : acc.length + (l.length + 1) ≤ 16777216 := hl
      rw [List.map_cons]
      unfold lcGo
      simp only [h1, h2]
      cases hp : p a with
      | false =>
        simp only [h4]
        rw [ih acc (fun d' hd => h d' (List.mem_cons_of_mem _ hd)) (by omega)]
        simp [List.filter_cons, hp]
      | true =>
        simp only [h3 hp, h4]
        rw [if_pos (by omega), ih (acc ++ [g a]) (fun d' hd => h d' (List.mem_cons_of_mem _ hd)) (by rw [List.length_append, List.length_singleton]; omega)]
        simp [List.filter_cons, hp]
  exact key l [] h (by simpa using hl)
def lcR (vs : List Nat) (en : En) (r : Re (List D)) : Re B := match r with
  | .ok xs en' so' => .ok (.cel (.lst xs)) (backE en en' vs) so'
  | _ => .no
@[simp] theorem lcR_ (vs : List Nat) (en en' : En) (xs : List D) : lcR vs en (.ok xs en' so) = .ok (.cel (.lst xs)) (backE en en' vs) so := rfl
def kLc (vs : List Nat) (tg : Tg) (tt : M Bool) (el : M D) (ds : List D) : M B := fun en so => lcR vs en (lcGo vs tg tt el ds [] (wipeE en vs) so)
@[simp] theorem kLc_ (vs : List Nat) (tg : Tg) (tt : M Bool) (el : M D) (ds : List D) : kLc vs tg tt el ds en so = lcR vs en (lcGo vs tg tt el ds [] (wipeE en vs) so) := rfl
@[simp] theorem mLc_ (vs : List Nat) (tg : Tg) (src : M (List D)) (tt : M Bool) (el : M D) : mLc vs tg src tt el en so = bdR (src en so) (kLc vs tg tt el) := by
  unfold mLc bd bdR kLc lcR
  cases src en so <;> rfl
@[simp] theorem wipeE_nil : wipeE en [] = en := rfl
@[simp] theorem wipeE_cons (v : Nat) (vs : List Nat) : wipeE en (v :: vs) = (wipeE en vs).set v none := rfl
@[simp] theorem backE_nil (en0 : En) : backE en0 en [] = en := rfl
@[simp] theorem backE_cons (en0 : En) (v : Nat) (vs : List Nat) : backE en0 en (v :: vs) = (backE en0 en vs).set v (keepD en0 v) := rfl
theorem joinL_nil (ys : List (List Nat)) : TL.joinL [] ys = ys.flatten := by
  induction ys with
  | nil => rfl
  | cons y ys ih =>
    cases ys with
    | nil => simp [TL.joinL]
    | cons z zs =>
      unfold TL.joinL
      rw [ih]
      simp
theorem singles_flat (l : List Nat) : (l.map fun c => [c]).flatten = l := by
  induction l with
  | nil => rfl
  | cons c l ih => simp [ih]
theorem singles_sz (l : List Nat) : szL (l.map fun c => [c]) = l.length := by
  unfold szL
  induction l with
  | nil => rfl
  | cons c l ih => simp only [List.map_cons, List.sum_cons, List.length_cons, List.length_nil, ih]; omega
/-- "".join of signs -/
theorem join_signs (l : List Nat) (h : l.length ≤ 16777216) : joinD [] (.lst (l.map fun c => .str [c])) en so = .ok (.str l) en so := by
  show (match strsOf (l.map fun c => D.str [c]) with | some ys => gd (szL ys + ys.length * ([] : List Nat).length ≤ 16777216) (pu (D.str (TL.joinL [] ys))) | none => no) en so = _
  rw [strsOf_map' (fun c => [c])]
  show gd _ _ _ _ = _
  rw [gd_t (by rw [singles_sz, List.length_nil, Nat.mul_zero]; omega), joinL_nil, singles_flat]
  rfl
end
theorem atI_get' {A : Type} [Inhabited A] (l : List A) (i : Int) (h0 : 0 ≤ i) (h1 : i < l.length) : atI l i = some (l.getD i.toNat default) := by
  obtain ⟨n, rfl⟩ := Int.eq_ofNat_of_zero_le h0
  have hn : n < l.length := by exact_mod_cast h1
  have := atI_nat (xs := l) (j := n) (v := l[n]) (List.getElem?_eq_getElem hn)
  rw [this]
  simp [hn]
theorem atI_map {A A' : Type} (f : A → A') (l : List A) (i : Int) : atI (l.map f) i = (atI l i).map f := by
  unfold atI
  rw [List.length_map]
  cases ixN l.length i with
  | none => rfl
  | some j => simp
@[simp] theorem atI_0 {A : Type} (a : A) (l : List A) : atI (a :: l) 0 = some a := by
  have := atI_nat (xs := a :: l) (j := 0) (v := a) rfl
  exact this
@[simp] theorem atI_1 {A : Type} (a b : A) (l : List A) : atI (a :: b :: l) 1 = some b := by
  have := atI_nat (xs := a :: b :: l) (j := 1) (v := b) rfl
  exact this
@[simp] theorem atI_2 {A : Type} (a b c : A) (l : List A) : atI (a :: b :: c :: l) 2 = some c := by
  have := atI_nat (xs := a :: b :: c :: l) (j := 2) (v := c) rfl
  exact this
@[simp] theorem atI_3 {A : Type} (a b c d : A) (l : List A) : atI (a :: b :: c :: d :: l) 3 = some d := by
  have := atI_nat (xs := a :: b :: c :: d :: l) (j := 3) (v := d) rfl
  exact this
theorem cutL_map {A A' : Type} (f : A → A') (l : List A) (lo hi : Option Int) : cutL (l.map f) lo hi = (cutL l lo hi).map f := by
  unfold cutL
  rw [List.length_map, ← List.map_drop, ← List.map_take]
theorem cutL_len {A : Type} (l : List A) (lo hi : Option Int) : (cutL l lo hi).length ≤ l.length := by
  unfold cutL
  rw [List.length_take, List.length_drop]
  omega
theorem cutL_all {A : Type} (p : A → Bool) (l : List A) (lo hi : Option Int) (h : l.all p = true) : (cutL l lo hi).all p = true := by
  rw [List.all_eq_true] at *
  intro x hx
  exact h x (List.mem_of_mem_drop (List.mem_of_mem_take hx))
@[simp] theorem keepD_ (en : En) (i : Nat) : keepD en i = (match en[i]? with
  | some (some (.dat d)) => some (.dat d)
  | _ => none) := rfl
/-! ### loops -/
theorem forGo_nil {tg : Tg} {body : M Fl} {en : En} {so : So} : forGo tg body [] en so = .ok .nx en so := rfl
theorem forGo_cons {tg : Tg} {body : M Fl} {d : D} {ds : List D} {en en1 : En} {so : So} (h : tg d en = some en1) : forGo tg body (d :: ds) en so = (match body en1 so with
    | .ok .nx en2 so2 => forGo tg body ds en2 so2
    | .ok .ct en2 so2 => forGo tg body ds en2 so2
    | .ok .bk en2 so2 => .ok .nx en2 so2
    | r => r) := by
  conv => lhs; unfold forGo
  rw [h]
  try rfl
/-- a walk that goes to its end, under an invariant -/
theorem forGo_inv {A : Type} {tg : Tg} {body : M Fl} (f : A → D) (I : List A → En → So → Prop) : ∀ (l done : List A) (en : En) (so : So), I done en so →
    (∀ (done : List A) (a : A) (en : En) (so : So), a ∈ l → I done en so → ∃ en1, tg (f a) en = some en1 ∧ ∃ en2 so2, (body en1 so = .ok .nx en2 so2 ∨ body en1 so = .ok .ct en2 so2) ∧ I (done ++ [a]) en2 so2) →
    ∃ en' so', forGo tg body (l.map f) en so = .ok .nx en' so' ∧ I (done ++ l) en' so'
  | [], done, en, so, h0, _ => ⟨en, so, rfl, by rw [List.append_nil]; exact h0⟩
  | a :: l, done, en, so, h0, st => by
    obtain ⟨en1, h1, en2, so2, h2, h3⟩ := st done a en so List.mem_cons_self h0
    obtain ⟨en', so', h4, h5⟩ := forGo_inv f I l (done ++ [a]) en2 so2 h3 fun d b e s hb => st d b e s (List.mem_cons_of_mem _ hb)
    refine ⟨en', so', ?_, by rw [List.append_assoc] at h5; exact h5⟩
    rw [List.map_cons, forGo_cons h1]
    rcases h2 with h2 | h2 <;> rw [h2] <;> exact h4
/-- .. that is told what lies behind and ahead -/
theorem forGo_at {A : Type} {tg : Tg} {body : M Fl} (f : A → D) (I : List A → En → So → Prop) (l0 : List A) : ∀ (l done : List A) (en : En) (so : So), done ++ l = l0 → I done en so →
    (∀ (done : List A) (a : A) (rest : List A) (en : En) (so : So), done ++ a :: rest = l0 → I done en so → ∃ en1, tg (f a) en = some en1 ∧ ∃ en2 so2, (body en1 so = .ok .nx en2 so2 ∨ body en1 so = .ok .ct en2 so2) ∧ I (done ++ [a]) en2 so2) →
    ∃ en' so', forGo tg body (l.map f) en so = .ok .nx en' so' ∧ I l0 en' so'
  | [], done, en, so, e, h0, _ => ⟨en, so, rfl, by rw [List.append_nil] at e; rw [← e]; exact h0⟩
  | a :: l, done, en, so, e, h0, st => by
    obtain ⟨en1, h1, en2, so2, h2, h3⟩ := st done a l en so e h0
    obtain ⟨en', so', h4, h5⟩ := forGo_at f I l0 l (done ++ [a]) en2 so2 (by rw [List.append_assoc]; exact e) h3 st
    refine ⟨en', so', ?_, h5⟩
    rw [List.map_cons, forGo_cons h1]
    rcases h2 with h2 | h2 <;> rw [h2] <;> exact h4
/-- a walk that ends at the first thing that isn't right -/
theorem forGo_all {A : Type} {tg : Tg} {body : M Fl} (f : A → D) (p : A → Bool) (r : B) (I : En → So → Prop) : ∀ (l : List A) (en : En) (so : So), I en so →
    (∀ (a : A) (en : En) (so : So), a ∈ l → I en so → ∃ en1, tg (f a) en = some en1 ∧ ∃ en2 so2, body en1 so = (if p a = true then .ok .nx en2 so2 else .ok (.rt r) en2 so2) ∧ I en2 so2) →
    ∃ en' so', forGo tg body (l.map f) en so = (if l.all p = true then .ok .nx en' so' else .ok (.rt r) en' so') ∧ I en' so'
  | [], en, so, h0, _ => ⟨en, so, rfl, h0⟩
  | a :: l, en, so, h0, st => by
    obtain ⟨en1, h1, en2, so2, h2, h3⟩ := st a en so List.mem_cons_self h0
    cases hp : p a with
    | true =>
      rw [hp, if_pos rfl] at h2
      obtain ⟨en', so', h4, h5⟩ := forGo_all f p r I l en2 so2 h3 fun b e s hb => st b e s (List.mem_cons_of_mem _ hb)
      refine ⟨en', so', ?_, h5⟩
      rw [List.map_cons, forGo_cons h1, h2, List.all_cons, hp, Bool.true_and]
      exact h4
    | false =>
      rw [hp, if_neg Bool.false_ne_true] at h2
      refine ⟨en2, so2, ?_, h3⟩
      rw [List.map_cons, forGo_cons h1, h2, List.all_cons, hp, Bool.false_and, if_neg Bool.false_ne_true]
/-! ### texts -/
@[simp] theorem in_str (c : Nat) (z : List Nat) : inD (.str [c]) (.str z) = pu (.bl (decide (c ∈ z))) := rfl
@[simp] theorem ni_str (c : Nat) (z : List Nat) : niD (.str [c]) (.str z) = pu (.bl (!decide (c ∈ z))) := rfl
@[simp] theorem count_1 (z : List Nat) (c : Nat) : countD z (.str [c]) = pu (.int (z.count c)) := by
  show pu (D.int (Txt.count (sT z) (sT [c]))) = _
  have e : Txt.count (sT z) (sT [c]) = (z.count c : Nat) := by
    have := PyProof.Rows.count_cnt (sT z) c
    rw [show (sT z).cps.toList = z from tl_sT z] at this
    rw [show sT [c] = ⟨#[c]⟩ from rfl, this]
    clear this
    induction z with
    | nil => rfl
    | cons x z ih =>
      rw [PyProof.Rows.cnt_cons, ih, List.count_cons]
      by_cases h : x = c
      · subst h; simp; omega
      · simp [h]
  rw [e]
/-- the pieces between the signs c -/
def pieces (c : Nat) : List Nat → List Nat → List (List Nat)
  | acc, [] => [acc]
  | acc, x :: r => if x = c then acc :: pieces c [] r else pieces c (acc ++ [x]) r
theorem spl_pieces (c : Nat) : ∀ (z acc : List Nat), TL.spl [c] 0 acc z = pieces c acc z
  | [], acc => TL.spl_nil _ _ _
  | x :: r, acc => by
    unfold pieces
    by_cases h : x = c
    · rw [if_pos h, TL.spl_hit (by subst h; simp [TL.pre])]
      exact congrArg _ (spl_pieces c r [])
    · rw [if_neg h, TL.spl_miss (by simp [TL.pre, h, Ne.symm h])]
      exact spl_pieces c r _
@[simp] theorem split_1 (z : List Nat) (c : Nat) : splitD z (.str [c]) = gd (z.length + 2 ≤ 16777216 ∧ c < 256) (pu (.cel (.lst ((pieces c [] z).map .str)))) := by
  show gd ([c] ≠ [] ∧ z.length + 2 ≤ 16777216 ∧ [c].all (· < 256) = true) (pu (B.cel (.lst ((TL.spl [c] 0 [] z).map .str)))) = _
  rw [spl_pieces]
  unfold gd
  funext en so
  by_cases h : z.length + 2 ≤ 16777216 ∧ c < 256
  · rw [if_pos h, if_pos ⟨by simp, h.1, by simpa using h.2⟩]
  · rw [if_neg h, if_neg fun q => h ⟨q.2.1, by simpa using q.2.2⟩]
theorem pieces_mem (c x : Nat) (hx : x ≠ c) : ∀ (z acc : List Nat), (x ∈ acc ∨ x ∈ z) → ∃ p ∈ pieces c acc z, x ∈ p
  | [], acc, h => ⟨acc, List.mem_cons_self, h.elim id (by simp)⟩
  | y :: r, acc, h => by
    unfold pieces
    by_cases hy : y = c
    · rw [if_pos hy]
      rcases h with h | h
      · exact ⟨acc, List.mem_cons_self, h⟩
      · have h' : x ∈ r := by
          rcases List.mem_cons.mp h with h | h
          · exact absurd (h.trans hy) hx
          · exact h
        obtain ⟨p, h1, h2⟩ := pieces_mem c x hx r [] (.inr h')
        exact ⟨p, List.mem_cons_of_mem _ h1, h2⟩
    · rw [if_neg hy]
      refine pieces_mem c x hx r (acc ++ [y]) ?_
      rcases h with h | h
      · exact .inl (List.mem_append_left _ h)
      · rcases List.mem_cons.mp h with h | h
        · exact .inl (by rw [h]; simp)
        · exact .inr h
theorem pieces_len (c : Nat) : ∀ (z acc : List Nat), ∀ p ∈ pieces c acc z, p.length ≤ acc.length + z.length
  | [], acc, p, h => by
    have : p = acc := by simpa [pieces] using h
    rw [this]; simp
  | y :: r, acc, p, h => by
    unfold pieces at h
    split at h
    · rcases List.mem_cons.mp h with h | h
      · rw [h]; omega
      · have := pieces_len c r [] p h
        simp at this ⊢; omega
    · have := pieces_len c r (acc ++ [y]) p h
      simp at this ⊢; omega
theorem pieces_count (c : Nat) : ∀ (z acc : List Nat), (pieces c acc z).length ≤ z.length + 1
  | [], acc => by simp [pieces]
  | y :: r, acc => by
    unfold pieces
    split
    · have := pieces_count c r []
      simp; omega
    · have := pieces_count c r (acc ++ [y])
      simp; omega
theorem at_1 (z : List Nat) (c i : Nat) : StrLaws.At (sT z) (sT [c]) (sT z).length i ↔ z[i]? = some c := by
  have := StrLaws.subAt_one (sT z) c i
  rw [show (sT z).cps.toList = z from tl_sT z] at this
  exact this
theorem find_none {z : List Nat} {c : Nat} (h : c ∉ z) : findD z (.str [c]) = pu (.int (-1)) := by
  show pu (D.int (Txt.find (sT z) (sT [c]))) = _
  rcases PyProof.Rows.find_whole (sT z) (sT [c]) with ⟨e, _⟩ | ⟨i, _, ha, _⟩
  · rw [e]
  · exact absurd (List.mem_of_getElem? ((at_1 z c i).mp ha)) h
theorem find_app {A B : List Nat} {c : Nat} (h : c ∉ A) : findD (A ++ c :: B) (.str [c]) = pu (.int A.length) := by
  show pu (D.int (Txt.find (sT (A ++ c :: B)) (sT [c]))) = _
  have hA : (A ++ c :: B)[A.length]? = some c := by simp
  rcases PyProof.Rows.find_whole (sT (A ++ c :: B)) (sT [c]) with ⟨_, hn⟩ | ⟨i, e, ha, hn⟩
  · exact absurd ((at_1 _ c A.length).mpr hA) (hn _)
  · have h1 := (at_1 _ c i).mp ha
    have : i = A.length := by
      rcases Nat.lt_trichotomy i A.length with hl | hl | hl
      · rw [List.getElem?_append_left hl] at h1
        exact absurd (List.mem_of_getElem? h1) h
      · exact hl
      · exact absurd ((at_1 _ c A.length).mpr hA) (hn _ hl)
    rw [e, this]
theorem rfind_none {z : List Nat} {c : Nat} (h : c ∉ z) : rfindD z (.str [c]) = pu (.int (-1)) := by
  show pu (D.int (Txt.rfind (sT z) (sT [c]))) = _
  rcases PyProof.Rows.rfind_whole (sT z) (sT [c]) with ⟨e, _⟩ | ⟨i, _, ha, _⟩
  · rw [e]
  · exact absurd (List.mem_of_getElem? ((at_1 z c i).mp ha)) h
theorem rfind_app {A B : List Nat} {c : Nat} (h : c ∉ B) : rfindD (A ++ c :: B) (.str [c]) = pu (.int A.length) := by
  show pu (D.int (Txt.rfind (sT (A ++ c :: B)) (sT [c]))) = _
  have hA : (A ++ c :: B)[A.length]? = some c := by simp
  rcases PyProof.Rows.rfind_whole (sT (A ++ c :: B)) (sT [c]) with ⟨_, hn⟩ | ⟨i, e, ha, hn⟩
  · exact absurd ((at_1 _ c A.length).mpr hA) (hn _)
  · have h1 := (at_1 _ c i).mp ha
    have : i = A.length := by
      rcases Nat.lt_trichotomy i A.length with hl | hl | hl
      · exact absurd ((at_1 _ c A.length).mpr hA) (hn _ hl)
      · exact hl
      · rw [List.getElem?_append_right (by omega)] at h1
        obtain ⟨j, hj⟩ : ∃ j, i - A.length = j + 1 := ⟨i - A.length - 1, by omega⟩
        rw [hj, List.getElem?_cons_succ] at h1
        exact absurd (List.mem_of_getElem? h1) h
    rw [e, this]
theorem first_of {z : List Nat} {c : Nat} (h : c ∈ z) : ∃ A B, z = A ++ c :: B ∧ c ∉ A := by
  induction z with
  | nil => cases h
  | cons x z ih =>
    by_cases hx : x = c
    · exact ⟨[], z, by rw [hx]; rfl, by simp⟩
    · obtain ⟨A, B, e, hn⟩ := ih (by rcases List.mem_cons.mp h with h | h; exact absurd h.symm hx; exact h)
      exact ⟨x :: A, B, by rw [e]; rfl, fun q => by rcases List.mem_cons.mp q with q | q; exact hx q.symm; exact hn q⟩
theorem last_of {z : List Nat} {c : Nat} (h : c ∈ z) : ∃ A B, z = A ++ c :: B ∧ c ∉ B := by
  obtain ⟨A, B, e, hn⟩ := first_of (List.mem_reverse.mpr h)
  refine ⟨B.reverse, A.reverse, ?_, fun q => hn (List.mem_reverse.mp q)⟩
  have := congrArg List.reverse e
  simpa using this
/-- s[:k], s[k:] of natural places within -/
theorem cut_take {A : Type} (l : List A) (k : Nat) : cutL l none (some (k : Int)) = l.take k := by
  unfold cutL
  rw [HT.sIx_nat, HT.sIx_none, Nat.sub_zero, List.drop_zero]
  by_cases h : k ≤ l.length
  · rw [Nat.min_eq_left h]
  · rw [Nat.min_eq_right (by omega), List.take_length, List.take_of_length_le (by omega)]
theorem cut_drop {A : Type} (l : List A) (k : Nat) : cutL l (some (k : Int)) none = l.drop k := by
  unfold cutL
  rw [HT.sIx_nat, HT.sIx_none]
  by_cases h : k ≤ l.length
  · rw [Nat.min_eq_left h, List.take_of_length_le (by rw [List.length_drop]; omega)]
  · rw [Nat.min_eq_right (by omega), List.drop_length, List.drop_of_length_le (by omega)]
    simp
theorem cut_mid {A : Type} (l : List A) (a b : Nat) : cutL l (some (a : Int)) (some (b : Int)) = (l.take b).drop a := by
  unfold cutL
  rw [HT.sIx_nat, HT.sIx_nat, List.drop_take]
  by_cases ha : a ≤ l.length
  · rw [Nat.min_eq_left ha]
    by_cases hb : b ≤ l.length
    · rw [Nat.min_eq_left hb]
    · rw [Nat.min_eq_right (show l.length ≤ b by omega), List.take_of_length_le (by rw [List.length_drop]; omega), List.take_of_length_le (by rw [List.length_drop]; omega)]
  · rw [Nat.min_eq_right (show l.length ≤ a by omega), List.drop_length, List.drop_of_length_le (show l.length ≤ a by omega)]
    simp
/-! ### lists that change -/
section
variable {en : En} {so : So}
@[simp] theorem hV_ (i : Nat) : hV i en so = (match en[i]? with
  | some (some _) => .ok (.slot i) en so
  | _ => .no) := rfl
@[simp] theorem hD_ (m : M D) : hD m en so = bdR (m en so) fun d => pu (.dat d) := rfl
@[simp] theorem rdD_lst (xs : List D) : rdD (.lst xs) = pu (.lst xs) := rfl
@[simp] theorem rdD_dct (xs : List (Ky × D)) : rdD (.dct xs) = pu (.dct xs) := rfl
@[simp] theorem rdH_dat (d : D) : rdH (.dat d) = rdD d := rfl
@[simp] theorem rdH_slot (i : Nat) : rdH (.slot i) en so = (match en[i]? with
  | some (some (.cel c)) => .ok c en so
  | some (some (.dat d)) => rdD d en so
  | _ => .no) := rfl
/-- the end of a write -/
def wrR {A : Type} (o : Option (A × C)) (k : A → C → Re A) : Re A := match o with
  | some (a, c) => k a c
  | none => .no
@[simp] theorem wrR_some {A : Type} (a : A) (c : C) (k : A → C → Re A) : wrR (some (a, c)) k = k a c := rfl
@[simp] theorem wrtH_slot {A : Type} (i : Nat) (f : C → Option (A × C)) : wrtH (.slot i) f en so = (match en[i]? with
  | some (some (.cel c)) => wrR (f c) fun a c' => .ok a (en.set i (some (.cel c'))) so
  | some (some (.dat d)) => wrtD d f en so
  | _ => .no) := by
  unfold wrtH
  dsimp only
  generalize en[i]? = o
  rcases o with _ | _ | _ | c | _
  · rfl
  · rfl
  · rfl
  rotate_left
  · rfl
  · show (match f c with | some (a, c') => _ | none => _) = wrR (f c) _
    rcases f c with _ | ⟨a, c'⟩ <;> rfl
@[simp] theorem isLst_lst (xs : List D) : isLst (.lst xs) = true := rfl
@[simp] theorem mHM0_ (f : C → Option (D × C)) (mh : M Hd) : mHM0 f mh en so = bdR (mh en so) fun h => bd (rdH h) fun c => gd (isLst c = true) (wrtH h f) := rfl
@[simp] theorem mHM1_ (f : C → D → Option (D × C)) (mh : M Hd) (m : M D) : mHM1 f mh m en so = bdR (mh en so) fun h => bd (rdH h) fun c => gd (isLst c = true) (bd m fun d => wrtH h fun c => f c d) := rfl
@[simp] theorem apF_ {xs : List D} (h : xs.length < 16777216) (d : D) : apF (.lst xs) d = some (.non, .lst (xs ++ [d])) := if_pos h
@[simp] theorem revF_ (xs : List D) : revF (.lst xs) = some (.non, .lst xs.reverse) := rfl
@[simp] theorem clrF_ (xs : List D) : clrF (.lst xs) = some (.non, .lst []) := rfl
@[simp] theorem sStL_ (mh : M Hd) (mi mv : M D) : sStL mh mi mv en so = bdR (mv en so) fun v => bd mh fun h => bd mi fun i => bd (wrtH h fun c => stF c i v) fun _ => pu .nx := rfl
@[simp] theorem mIxH_ (mh : M Hd) (mi : M D) : mIxH mh mi en so = bdR (mh en so) fun h => bd mi fun i => bd (rdH h) fun c => ixC c i := rfl
@[simp] theorem ixC_ (xs : List D) (i : Int) : ixC (.lst xs) (.int i) = opR (atI xs i) pu := by show (match atI xs i with | some d => pu d | none => no) = _; cases atI xs i <;> rfl
@[simp] theorem mLenH_ (mh : M Hd) : mLenH mh en so = bdR (mh en so) fun h => bd (rdH h) lenC := rfl
@[simp] theorem lenC_ (xs : List D) : lenC (.lst xs) = pu (.int xs.length) := rfl
@[simp] theorem mTruH_ (mh : M Hd) : mTruH mh en so = bdR (mh en so) fun h => bd (rdH h) truC := rfl
@[simp] theorem truC_ (xs : List D) : truC (.lst xs) = pu (!xs.isEmpty) := rfl
@[simp] theorem mInH_ (neg : Bool) (m : M D) (mh : M Hd) : mInH neg m mh en so = bdR (m en so) fun d => bd mh fun h => bd (rdH h) (inC d neg) := rfl
@[simp] theorem inC_ (d : D) (neg : Bool) (xs : List D) : inC d neg (.lst xs) = gd (okq 23 d = true ∧ xs.all (okq 23) = true) (pu (.bl (if neg then !xs.any (fun z => eqD z d) else xs.any fun z => eqD z d))) := rfl
@[simp] theorem mVF_ (i : Nat) : mVF i en so = (match en[i]? with
  | some (some (.dat d)) => .ok d en so
  | some (some (.cel c)) => .ok c.toD (en.set i (some (.dat c.toD))) so
  | _ => .no) := rfl
@[simp] theorem ctoD_lst (xs : List D) : (C.lst xs).toD = .lst xs := rfl
@[simp] theorem ctoD_dct (xs : List (Ky × D)) : (C.dct xs).toD = .dct xs := rfl
@[simp] theorem powI (a b : Int) : powD (.int a) (.int b) = gd (0 ≤ b ∧ b ≤ 1000000 ∧ a.natAbs < 18446744073709551616) (pu (.int (a ^ b.toNat))) := rfl
@[simp] theorem mCatL_ (ma mb : M D) : mCatL ma mb en so = bdR (ma en so) fun d => bd mb fun e => catL d e := rfl
@[simp] theorem catL_ (xs ys : List D) : catL (.lst xs) (.lst ys) = gd (xs.length + ys.length ≤ 16777216) (pu (.cel (.lst (xs ++ ys)))) := rfl
@[simp] theorem catT_ (xs ys : List D) : catT (.tup xs) (.tup ys) = gd (xs.length + ys.length ≤ 16777216) (pu (.tup (xs ++ ys))) := rfl
@[simp] theorem listD_l (xs : List D) : listD [.lst xs] = pu (.cel (.lst xs)) := rfl
@[simp] theorem listD_t (xs : List D) : listD [.tup xs] = pu (.cel (.lst xs)) := rfl
@[simp] theorem tupleD_l (xs : List D) : tupleD [.lst xs] = pu (.tup xs) := rfl
@[simp] theorem tupleD_t (xs : List D) : tupleD [.tup xs] = pu (.tup xs) := rfl
end
@[simp] theorem rg1_nat {k : Nat} (h : k ≤ 16777216) : rg1 (.int (k : Int)) = pu (rngD 0 k) := by
  rw [rg1_]
  funext en so
  rw [gd_t (by omega), Int.toNat_natCast]
theorem rg1_int {j : Int} (h0 : 0 ≤ j) (h : j ≤ 16777216) : rg1 (.int j) = pu (rngD 0 j.toNat) := by
  rw [rg1_]
  funext en so
  rw [gd_t (by omega)]
theorem strsOf_str (L : List (List Nat)) : strsOf (L.map D.str) = some L := by
  have := strsOf_map' (fun x : List Nat => x) L
  rw [List.map_id'] at this
  exact this
@[simp] theorem join_map (z : List Nat) (L : List (List Nat)) : joinD z (.lst (L.map D.str)) = gd (szL L + L.length * z.length ≤ 16777216) (pu (.str (TL.joinL z L))) := by
  show (match strsOf (L.map D.str) with | some ys => gd (szL ys + ys.length * z.length ≤ 16777216) (pu (D.str (TL.joinL z ys))) | none => no) = _
  rw [strsOf_str]
theorem szL_le (L : List (List Nat)) (k : Nat) (h : ∀ p ∈ L, p.length ≤ k) : szL L ≤ k * L.length := by
  unfold szL
  induction L with
  | nil => simp
  | cons p L ih =>
    have h1 := h p List.mem_cons_self
    have h2 := ih fun q hq => h q (List.mem_cons_of_mem _ hq)
    rw [List.map_cons, List.sum_cons, List.length_cons, Nat.mul_succ]
    omega
/-- a call's answer from its body's -/
def endF : Re Fl → Rf
  | .ok .nx _ so' => .ok (.dat .non) so'
  | .ok (.rt b) _ so' => .ok b so'
  | .exc x _ so' => .exc x so'
  | _ => .no
theorem mkF_ {np n : Nat} {m : M Fl} {ds : List D} {so : So} (h : ds.length = np) : mkF np n m ds so = endF (m (ds.map (fun d => some (.dat d)) ++ List.replicate (n - ds.length) none) so) := by
  unfold mkF
  rw [if_pos h]
  unfold endF
  rfl
@[simp] theorem endF_rt (b : B) (en : En) (so : So) : endF (.ok (.rt b) en so) = .ok b so := rfl
@[simp] theorem endF_nx (en : En) (so : So) : endF (.ok .nx en so) = .ok (.dat .non) so := rfl
@[simp] theorem endF_exc (x : Xc) (en : En) (so : So) : endF (.exc x en so) = .exc x so := rfl
theorem DSs.eq {X : L2.Cx} {W : L2.WX} {sts : List Stmt} {m m' : M Fl} (h : DSs X W sts m) (e : m = m') : DSs X W sts m' := e ▸ h
end
end Dl

set_option Elab.async false
set_option linter.all false
set_option maxRecDepth 100000
set_option maxHeartbeats 1000000
/-! The data level: evaluation lemmas of try, objects, dicts. -/
namespace Dl
open PySem
noncomputable section
section
variable {A A' : Type} {en : En} {so : So}

/-! ### try -/
def tryR (cls : List ClD) (r : Re Fl) : Re Fl := match r with
  | .exc x en1 so1 => hdGo cls x en1 so1
  | r => r
@[simp] theorem sTry_ (body : M Fl) (cls : List ClD) : sTry body cls en so = tryR cls (body en so) := rfl
@[simp] theorem tryR_ok (cls : List ClD) (fl : Fl) : tryR cls (.ok fl en so) = .ok fl en so := rfl
@[simp] theorem tryR_exc (cls : List ClD) (x : Xc) : tryR cls (.exc x en so) = hdGo cls x en so := rfl
@[simp] theorem tryR_no (cls : List ClD) : tryR cls .no = .no := rfl
@[simp] theorem hdGo_nil (x : Xc) : hdGo [] x en so = .exc x en so := rfl
def hdR (o : Option Bool) (a b : Re Fl) : Re Fl := match o with
  | some true => a
  | some false => b
  | none => .no
@[simp] theorem hdR_t (a b : Re Fl) : hdR (some true) a b = a := rfl
@[simp] theorem hdR_f (a b : Re Fl) : hdR (some false) a b = b := rfl
@[simp] theorem hdGo_cons (i : Option Nat) (tbl : List (Nat × Bool)) (su : M Fl) (r : List ClD) (x : Xc) : hdGo (⟨i, tbl, su⟩ :: r) x en so = hdR (tbl.lookup x.cls) (offX i (su (onE i x en) so)) (hdGo r x en so) := by
  show (match tbl.lookup x.cls with | some true => _ | some false => _ | none => _) = _
  rcases tbl.lookup x.cls with _ | _ | _ <;> rfl
@[simp] theorem onE_some (i : Nat) (x : Xc) : onE (some i) x en = en.set i (some (.exn x)) := rfl
@[simp] theorem onE_none (x : Xc) : onE none x en = en := rfl
@[simp] theorem offE_some (i : Nat) : offE (some i) en = en.set i none := rfl
@[simp] theorem offE_none : offE none en = en := rfl
@[simp] theorem offX_ok (i : Option Nat) (fl : Fl) : offX i (.ok fl en so) = if noExn (offE i en) then .ok fl (offE i en) so else .no := rfl
@[simp] theorem noExn_nil : noExn [] = true := rfl
@[simp] theorem noExn_none (r : En) : noExn (none :: r) = noExn r := rfl
@[simp] theorem noExn_dat (d : D) (r : En) : noExn (some (.dat d) :: r) = noExn r := rfl
@[simp] theorem noExn_cel (c : C) (r : En) : noExn (some (.cel c) :: r) = noExn r := rfl
@[simp] theorem mXf_ (i : Nat) (cs : List (Nat × Nat)) : mXf i cs en so = (match en[i]? with
  | some (some (.exn x)) => (match cs.lookup x.cls with
    | some j => (match x.fs[j]? with
      | some d => .ok d en so
      | none => .no)
    | none => .no)
  | _ => .no) := rfl
@[simp] theorem mIsX_ (i : Nat) (tbl : List (Nat × Bool)) : mIsX i tbl en so = (match en[i]? with
  | some (some (.exn x)) => (match tbl.lookup x.cls with
    | some b => .ok (.bl b) en so
    | none => .no)
  | _ => .no) := rfl
def raR (c np : Nat) (ix : List Nat) (ds : List D) : M Fl := fun en so => if ds.length + 1 = np then .exc ⟨c, ix.map fun i => (D.non :: ds).getD i .non⟩ en so else .no
@[simp] theorem sRaise_ (c np : Nat) (ix : List Nat) (ms : M (List D)) : sRaise c np ix ms en so = bdR (ms en so) (raR c np ix) := rfl
@[simp] theorem raR_ (c np : Nat) (ix : List Nat) (ds : List D) : raR c np ix ds en so = if ds.length + 1 = np then .exc ⟨c, ix.map fun i => (D.non :: ds).getD i .non⟩ en so else .no := rfl

/-! ### objects -/
@[simp] theorem mFld_ (cs : List (Nat × Nat)) (m : M D) : mFld cs m en so = bdR (m en so) (fldO cs) := rfl
@[simp] theorem fldO_ (cs : List (Nat × Nat)) (k : Nat) : fldO cs (.obj k) en so = (match so[k]? with
  | some (.ob c fs) => (match cs.lookup c with
    | some i => (match fs[i]? with
      | some (some d) => .ok d en so
      | _ => .no)
    | none => .no)
  | _ => .no) := rfl
@[simp] theorem sFld_ (cs : List (Nat × Nat)) (mo mv : M D) : sFld cs mo mv en so = bdR (mv en so) fun v => bd mo fun o => stO cs v o := rfl
@[simp] theorem stO_ (cs : List (Nat × Nat)) (v : D) (k : Nat) : stO cs v (.obj k) en so = (match so[k]? with
  | some (.ob c fs) => (match cs.lookup c with
    | some i => .ok .nx en (so.set k (.ob c (fs.set i (some v))))
    | none => .no)
  | _ => .no) := rfl
@[simp] theorem mCel_ (m : M B) : mCel m en so = bdR (m en so) celR := rfl
@[simp] theorem celR_ (c : C) : celR (.cel c) en so = .ok (.obj so.length) en (so ++ [.cel c]) := rfl
def kNew (c n : Nat) (f : FunM) (ds : List D) : M D := fun en so => newR so.length (f (.obj so.length :: ds) (so ++ [.ob c (List.replicate n none)])) en so
@[simp] theorem mNew_ (c n : Nat) (f : FunM) (ms : M (List D)) : mNew c n f ms en so = bdR (ms en so) (kNew c n f) := rfl
@[simp] theorem kNew_ (c n : Nat) (f : FunM) (ds : List D) : kNew c n f ds en so = newR so.length (f (.obj so.length :: ds) (so ++ [.ob c (List.replicate n none)])) en so := rfl
@[simp] theorem newR_ok (k : Nat) (so' : So) : newR k (.ok (.dat .non) so') en so = .ok (.obj k) en so' := rfl
@[simp] theorem newR_exc (k : Nat) (x : Xc) (so' : So) : newR k (.exc x so') en so = .exc x en so' := rfl
@[simp] theorem backR_ok (b : B) (so' : So) : backR (.ok b so') en so = .ok b en so' := rfl
@[simp] theorem backR_exc (x : Xc) (so' : So) : backR (.exc x so') en so = .exc x en so' := rfl
def kMeth (f : FunM) (k : Nat) (ds : List D) : M B := fun en so => backR (f (.obj k :: ds) so) en so
@[simp] theorem kMeth_ (f : FunM) (k : Nat) (ds : List D) : kMeth f k ds en so = backR (f (.obj k :: ds) so) en so := rfl
@[simp] theorem mMeth_ (tbl : List (Nat × FunM)) (mo : M D) (ms : M (List D)) : mMeth tbl mo ms en so = bdR (mo en so) (methO tbl ms) := rfl
@[simp] theorem methO_ (tbl : List (Nat × FunM)) (ms : M (List D)) (k : Nat) : methO tbl ms (.obj k) en so = (match so[k]? with
  | some (.ob c _) => (match tbl.lookup c with
    | some f => bdR (ms en so) (kMeth f k)
    | none => .no)
  | _ => .no) := rfl

/-! ### dicts -/
@[simp] theorem opM_some (a : A) (k : A → M A') : opM (some a) k = k a := rfl
@[simp] theorem opM_none (k : A → M A') : opM none k = no := rfl
@[simp] theorem dctO_ (k : Nat) : dctO (.obj k) en so = (match so[k]? with
  | some (.cel (.dct kv)) => .ok kv en so
  | some (.lck kv) => .ok kv en so
  | _ => .no) := rfl
@[simp] theorem kyOf_int (i : Int) : kyOf (.int i) = some (.inl i) := rfl
@[simp] theorem kyOf_str (s : List Nat) : kyOf (.str s) = some (.inr s) := rfl
@[simp] theorem kyD_int (i : Int) : kyD (.inl i) = .int i := rfl
@[simp] theorem kyD_str (s : List Nat) : kyD (.inr s) = .str s := rfl
@[simp] theorem getD_ (d y : D) : getD d y en so = bdR (dctO d en so) fun kv => opM (kyOf y) fun k => opM (valD kv k) pu := rfl
@[simp] theorem dinD_ (neg : Bool) (y d : D) : dinD neg y d en so = bdR (dctO d en so) fun kv => opM (kyOf y) fun k => pu (.bl (if neg then !(valD kv k).isSome else (valD kv k).isSome)) := rfl
@[simp] theorem get1D_ (d y : D) : get1D d y en so = bdR (dctO d en so) fun kv => opM (kyOf y) fun k => pu ((valD kv k).getD .non) := rfl
@[simp] theorem get2D_ (d y z : D) : get2D d y z en so = bdR (dctO d en so) fun kv => opM (kyOf y) fun k => pu ((valD kv k).getD z) := rfl
@[simp] theorem mDGet_ (md mk : M D) : mDGet md mk en so = bdR (md en so) fun d => bd mk fun y => getD d y := rfl
@[simp] theorem mDIn_ (neg : Bool) (mk md : M D) : mDIn neg mk md en so = bdR (mk en so) fun y => bd md fun d => dinD neg y d := rfl
@[simp] theorem mGet1_ (md mk : M D) : mGet1 md mk en so = bdR (md en so) fun d => bd (dctO d) fun _ => bd mk fun y => get1D d y := rfl
@[simp] theorem mGet2_ (md mk mz : M D) : mGet2 md mk mz en so = bdR (md en so) fun d => bd (dctO d) fun _ => bd mk fun y => bd mz fun z => get2D d y z := rfl
@[simp] theorem dlenD_ (d : D) : dlenD [d] en so = bdR (dctO d en so) fun kv => pu (.int kv.length) := rfl
theorem dpF_ {kv : List (Ky × D)} (h : kv.length < 16777216) (k : Ky) (v : D) : dpF k v (.dct kv) = some ((), .dct (putT kv k v)) := if_pos h
theorem ddF_ {kv : List (Ky × D)} {k : Ky} (h : (valD kv k).isSome = true) : ddF k (.dct kv) = some ((), .dct (dropT kv k)) := if_pos h
@[simp] theorem sDPutM_ (md mk mv : M D) : sDPutM md mk mv en so = bdR (mv en so) fun v => bd md fun d => bd mk fun y => opM (kyOf y) fun k => bd (wrtD d (dpF k v)) fun _ => pu .nx := rfl
@[simp] theorem sDDelM_ (md mk : M D) : sDDelM md mk en so = bdR (md en so) fun d => bd mk fun y => opM (kyOf y) fun k => bd (wrtD d (ddF k)) fun _ => pu .nx := rfl
def wrR2 (o : Option (A × C)) (k : A → C → Re A) : Re A := match o with
  | some (a, c) => k a c
  | none => .no
@[simp] theorem wrR2_some (a : A) (c : C) (k : A → C → Re A) : wrR2 (some (a, c)) k = k a c := rfl
@[simp] theorem wrtD_obj (k : Nat) (f : C → Option (A × C)) : wrtD (.obj k) f en so = (match so[k]? with
  | some (.cel c) => wrR2 (f c) fun a c' => .ok a en (so.set k (.cel c'))
  | _ => .no) := by
  show wrtO k f en so = _
  unfold wrtO
  cases so[k]? with
  | none => rfl
  | some o =>
    cases o with
    | cel c =>
      show (match f c with | some (a, c') => _ | none => _) = wrR2 (f c) _
      cases f c with
      | none => rfl
      | some x => rfl
    | _ => rfl
@[simp] theorem mDNew_ : mDNew en so = .ok (.cel (.dct [])) en so := rfl
@[simp] theorem dictD_ (d : D) : dictD [d] en so = bdR (dctO d en so) fun kv => pu (.cel (.dct kv)) := rfl
@[simp] theorem dictP_ (xs : List D) : dictP [.lst xs] = opM (prsOf xs) fun kv => gd (xs.length ≤ 16777216) (pu (.cel (.dct (mergeT [] kv)))) := rfl
theorem prsOf_map (l : List (Ky × D)) : prsOf (l.map fun p => .tup [kyD p.1, p.2]) = some l := by
  induction l with
  | nil => rfl
  | cons p l ih =>
    obtain ⟨k, v⟩ := p
    rw [List.map_cons]
    show ((kyOf (kyD k)).bind fun k => (prsOf _).map ((k, v) :: ·)) = _
    rw [ih]
    cases k <;> rfl
def lockR (o : Option Nat) (m : M A) : M A := fun en so => match o with
  | some k => (match so[k]? with
    | some (.cel (.dct kv)) => unlR k kv (m en (so.set k (.lck kv)))
    | _ => .no)
  | none => .no
@[simp] theorem lockM_ (sel : En → So → Option Nat) (m : M A) : lockM sel m en so = lockR (sel en so) m en so := rfl
@[simp] theorem lockR_some (k : Nat) (m : M A) : lockR (some k) m en so = (match so[k]? with
    | some (.cel (.dct kv)) => unlR k kv (m en (so.set k (.lck kv)))
    | _ => .no) := rfl
def selR (r : Re D) : Option Nat := match r with
  | .ok (.obj k) _ _ => some k
  | _ => none
@[simp] theorem selO_ (md : M D) : selO md en so = selR (md en so) := rfl
@[simp] theorem selR_ (k : Nat) : selR (.ok (.obj k) en so) = some k := rfl
@[simp] theorem unlR_ (k : Nat) (kv : List (Ky × D)) (a : A) : unlR k kv (.ok a en so) = .ok a en (so.set k (.cel (.dct kv))) := rfl
@[simp] theorem itK_ (m : M D) : itK m en so = bdR (m en so) keyO := rfl
@[simp] theorem keyO_ (k : Nat) : keyO (.obj k) en so = (match so[k]? with
  | some (.lck kv) => .ok (keysD kv) en so
  | _ => .no) := rfl
def dcR (vs : List Nat) (en : En) (r : Re (List (Ky × D))) : Re B := match r with
  | .ok xs en' so' => .ok (.cel (.dct xs)) (backE en en' vs) so'
  | _ => .no
@[simp] theorem dcR_ (vs : List Nat) (en en' : En) (xs : List (Ky × D)) : dcR vs en (.ok xs en' so) = .ok (.cel (.dct xs)) (backE en en' vs) so := rfl
def kDc (vs : List Nat) (tg : Tg) (tt : M Bool) (ek ev : M D) (ds : List D) : M B := fun en so => dcR vs en (dcGo vs tg tt ek ev ds [] (wipeE en vs) so)
@[simp] theorem kDc_ (vs : List Nat) (tg : Tg) (tt : M Bool) (ek ev : M D) (ds : List D) : kDc vs tg tt ek ev ds en so = dcR vs en (dcGo vs tg tt ek ev ds [] (wipeE en vs) so) := rfl
@[simp] theorem mDc_ (vs : List Nat) (tg : Tg) (src : M (List D)) (tt : M Bool) (ek ev : M D) : mDc vs tg src tt ek ev en so = bdR (src en so) (kDc vs tg tt ek ev) := by
  show bdR (src en so) _ = _
  congr 1
theorem dcGo_mp {vs : List Nat} {tg : Tg} {ek ev : M D} (f : A → D) (kf : A → Ky) (g : A → D) : ∀ (l : List A) (acc : List (Ky × D)), (∀ a ∈ l, ∃ en0, tg (f a) en = some en0 ∧ ek en0 so = .ok (kyD (kf a)) en0 so ∧ ev en0 so = .ok (g a) en0 so ∧ wipeE en0 vs = en) → acc.length + l.length ≤ 16777216 →
    dcGo vs tg (pu true) ek ev (l.map f) acc en so = .ok (mergeT acc (l.map fun a => (kf a, g a))) en so
  | [], acc, _, _ => rfl
  | a :: l, acc, h, hl => by
    obtain ⟨en0, h1, h2, h3, h4⟩ := h a List.mem_cons_self
    rw [List.length_cons] at hl
    have hp : (putT acc (kf a) (g a)).length ≤ acc.length + 1 := by
      unfold putT
      split
      · rw [List.length_map]; omega
      · rw [List.length_append]; simp
    have ih := dcGo_mp f kf g l (putT acc (kf a) (g a)) (fun b hb => h b (List.mem_cons_of_mem _ hb)) (by omega)
    rw [List.map_cons]
    unfold dcGo
    rw [h1]
    dsimp only [pu_]
    rw [h2]
    dsimp only
    rw [h3]
    dsimp only
    have hk : kyOf (kyD (kf a)) = some (kf a) := by cases kf a <;> rfl
    rw [hk]
    dsimp only
    rw [if_pos (by omega), h4, ih]
    rfl
@[simp] theorem sortedD_ (xs : List D) : sortedD [.lst xs] = opM (strsOf xs) fun ys => pu (.cel (.lst ((srtS ys).map .str))) := rfl
@[simp] theorem sortedK_ (d : D) : sortedK [d] en so = bdR (dctO d en so) fun kv => opM (kstrs kv) fun ys => pu (.cel (.lst ((srtS ys).map .str))) := rfl
@[simp] theorem listK_ (d : D) : listK [d] en so = bdR (dctO d en so) fun kv => pu (.cel (.lst (keysD kv))) := rfl
@[simp] theorem strI_int (i : Int) : strI [.int i] = gd (i.natAbs.log2 < 1920) (pu (.str (tsD i))) := rfl
@[simp] theorem strI_str (s : List Nat) : strI [.str s] = pu (.str s) := rfl
@[simp] theorem smulD_ (z : List Nat) (n : Int) : smulD (.str z) (.int n) = gd (n ≤ 16777216 ∧ -16777216 ≤ n ∧ z.length * n.toNat ≤ 16777216) (pu (.str (List.replicate n.toNat z).flatten)) := rfl
@[simp] theorem inS_ (y x : List Nat) : inS (.str y) (.str x) = pu (.bl (subD' x y)) := rfl
@[simp] theorem niS_ (y x : List Nat) : niS (.str y) (.str x) = pu (.bl (!subD' x y)) := rfl
@[simp] theorem lstripD_ (z t : List Nat) : lstripD z (.str t) = gd (z.length ≤ 16777216) (pu (.str (Txt.lstripChars (sT z) (sT t)).cps.toList)) := rfl
@[simp] theorem rstripD_ (z t : List Nat) : rstripD z (.str t) = gd (z.length ≤ 16777216) (pu (.str (Txt.rstripChars (sT z) (sT t)).cps.toList)) := rfl
@[simp] theorem mMv_ (i : Nat) : mMv i en so = (match en[i]? with
  | some (some (.cel c)) => .ok (.cel c) (en.set i none) so
  | some (some (.dat d)) => .ok (.dat d) en so
  | _ => .no) := rfl
@[simp] theorem tru_tup (s : List D) : truD (.tup s) = pu (!s.isEmpty) := rfl
@[simp] theorem isN_non : isN .non = true := rfl
@[simp] theorem isN_bl (b : Bool) : isN (.bl b) = false := rfl
@[simp] theorem isN_int (b : Int) : isN (.int b) = false := rfl
@[simp] theorem isN_str (b : List Nat) : isN (.str b) = false := rfl
@[simp] theorem isN_lst (b : List D) : isN (.lst b) = false := rfl
@[simp] theorem isN_tup (b : List D) : isN (.tup b) = false := rfl
@[simp] theorem isN_obj (b : Nat) : isN (.obj b) = false := rfl

/-! ### tables -/
@[simp] theorem valD_nil (k : Ky) : valD [] k = none := rfl
theorem valD_put (kv : List (Ky × D)) (k j : Ky) (v : D) : valD (putT kv k v) j = if j = k then some v else valD kv j := by
  induction kv with
  | nil =>
    show valD [(k, v)] j = _
    rw [valD_cons]
    by_cases h : j = k
    · rw [if_pos h.symm, if_pos h]
    · rw [if_neg fun z => h z.symm, if_neg h]
  | cons p r ih =>
    have e : putT (p :: r) k v = if p.1 = k then (p.1, v) :: r.map (fun q => if q.1 = k then (q.1, v) else q) else p :: putT r k v := by
      unfold putT
      rw [List.any_cons]
      by_cases h : p.1 = k
      · simp [h]
      · simp only [h, decide_false, Bool.false_or, if_false, List.map_cons, List.cons_append]
        split <;> rfl
    rw [e]
    by_cases h : p.1 = k
    · rw [if_pos h, valD_cons, valD_cons]
      by_cases hj : j = k
      · rw [if_pos (h.trans hj.symm), if_pos hj]
      · rw [if_neg (fun z => hj (z.symm.trans h)), if_neg hj, if_neg (fun z => hj (z.symm.trans h))]
        clear e ih
        induction r with
        | nil => rfl
        | cons q r ih2 =>
          rw [List.map_cons, valD_cons, valD_cons, ih2]
          by_cases hq : q.1 = k
          · rw [if_pos hq]
            have : ¬ q.1 = j := fun z => hj (z.symm.trans hq)
            rw [if_neg this, if_neg this]
          · rw [if_neg hq]
    · rw [if_neg h, valD_cons, valD_cons, ih]
      by_cases hp : p.1 = j
      · rw [if_pos hp, if_pos hp]
        rw [if_neg fun z => h (hp.trans z)]
      · rw [if_neg hp, if_neg hp]
theorem valD_drop (kv : List (Ky × D)) (k j : Ky) : valD (dropT kv k) j = if j = k then none else valD kv j := by
  induction kv with
  | nil => simp [dropT]
  | cons p r ih =>
    unfold dropT at *
    by_cases h : p.1 = k
    · rw [List.filter_cons_of_neg (by simp [h]), ih, valD_cons]
      by_cases hj : j = k
      · rw [if_pos hj, if_pos hj]
      · rw [if_neg hj, if_neg hj, if_neg fun z => hj (z.symm.trans h)]
    · rw [List.filter_cons_of_pos (by simp [h]), valD_cons, valD_cons, ih]
      by_cases hj : j = k
      · rw [if_pos hj, if_pos hj, if_neg (fun z => h (z.trans hj))]
      · rw [if_neg hj, if_neg hj]
theorem putT_new {kv : List (Ky × D)} {k : Ky} (v : D) (h : valD kv k = none) : putT kv k v = kv ++ [(k, v)] := by
  unfold putT
  have : ¬ (kv.any fun p => decide (p.1 = k)) = true := fun z => by
    obtain ⟨p, hp, e⟩ := List.any_eq_true.mp z
    have e : p.1 = k := of_decide_eq_true e
    unfold valD at h
    rw [Option.map_eq_none_iff, List.find?_eq_none] at h
    exact h p hp (by simp [e])
  rw [if_neg this]
theorem putT_len (kv : List (Ky × D)) (k : Ky) (v : D) : (putT kv k v).length ≤ kv.length + 1 := by
  unfold putT
  split
  · rw [List.length_map]; omega
  · rw [List.length_append]; simp
theorem valD_mem {kv : List (Ky × D)} {k : Ky} {v : D} (h : valD kv k = some v) : (k, v) ∈ kv := by
  unfold valD at h
  obtain ⟨p, hp, e⟩ := Option.map_eq_some_iff.mp h
  have h1 := List.mem_of_find?_eq_some hp
  have h2 := List.find?_some hp
  have : p.1 = k := of_decide_eq_true h2
  obtain ⟨a, b⟩ := p
  cases this
  cases e
  exact h1
end
end
end Dl

set_option Elab.async false
set_option linter.all false
set_option maxRecDepth 100000
set_option maxHeartbeats 1000000
/-! The data level: tables of facts about classes, and the rules that read them. -/
namespace Dl
open PySem PySem.Spec PyProof.Rows L2
noncomputable section
section
variable {X : Cx} {W : WX} {e : Expr} {es : List Expr} {ms : M (List D)} {x : Str} {p pos : Pos} {r : List V → Hp → VK → Prop}
/-- a call of a function of the language whose answer is new -/
theorem b_callB {f : List D → M B} {id : String} (hc : CallR X (.builtin id) r) (h : OpNB X.K X.ev r f) (hg : Gl X x) (hm : X.mg x = none) (hv : bootBuiltins x = some (.builtin id)) (ha : DA X W (e :: es) ms) (hn : x ≠ "__name__" := by decide) (hdb : (x == ("__debug__" : Str)) = false := by decide)
    (he : starEach (e :: es) X.env = (false, eval e X.env) :: starEach es X.env := by rfl) (hpl : (backTo pos (starEach es X.env)).any (·.1) = false := by rfl) : DB X W (.Call (.Name x p) (e :: es) [] pos) (bd ms f) := by
  refine ⟨PE_imp (pe_callB hc hg hm hv ha.pa hn hdb he hpl) fun σ H Q ⟨G, en, so, s, q⟩ => ⟨G, en, so, s, (Post.bind (R1 := rlDs X.K) q).imp ?_⟩⟩
  intro vs H1 ⟨G1, en1, so1, ds, _, r1, s1, p1⟩
  exact h vs ds G1 en1 so1 σ H1 W Q r1 s1 p1
end
/-! ### tables -/
theorem mgc {mg : Str → Option Value} {c : Nat} {x : Str} {v : Value} (h : cnm c = x) (e : mg x = some v) : mg (cnm c) = some v := h ▸ e
theorem tb_nil {A : Type} {R : Nat → A → Prop} : ∀ c y, ([] : List (Nat × A)).lookup c = some y → R c y := fun _ _ e => by cases e
theorem tb_cons {A : Type} {R : Nat → A → Prop} {c0 : Nat} {y0 : A} {l : List (Nat × A)} (h : R c0 y0) (r : ∀ c y, l.lookup c = some y → R c y) : ∀ c y, ((c0, y0) :: l).lookup c = some y → R c y := fun c y e => by
  rw [List.lookup_cons] at e
  by_cases q : c = c0
  · subst q
    rw [beq_self_eq_true] at e
    cases e
    exact h
  · rw [show (c == c0) = false by simp [q]] at e
    exact r c y e
/-- the clause's class x, for the classes that may come -/
def CatF (K : PySem.W.Frag) (mg : Str → Option Value) (x : Str) (tbl : List (Nat × Bool)) : Prop := ∃ D, mg x = some (.ref D) ∧ MatchD K mg (.ref D) tbl
/-- e.f, for the classes that may come -/
def XfT (K : PySem.W.Frag) (mg : Str → Option Value) (f : Str) (cs : List (Nat × Nat)) : Prop := ∀ c j, cs.lookup c = some j → (clay c)[j]? = some f ∧ ∃ C, mg (cnm c) = some (.ref C) ∧ XfC K C ∧ PySem.W.findIn K (.ref C) f = some none
/-- isinstance(e, D), for the classes that may come -/
def IsT (K : PySem.W.Frag) (mg : Str → Option Value) (cv : Value) (tbl : List (Nat × Bool)) : Prop := ∀ c b, tbl.lookup c = some b → ∃ C, mg (cnm c) = some (.ref C) ∧ ExcC K C ∧ PySem.W.kitOne K (.ref C) cv = some b
section
variable {X : Cx} {x n : Str} {i : Nat} {tbl : List (Nat × Bool)} {m : M Fl} {b₀ : Stmt} {suite : List Stmt} {np pos' : Pos} {hds : List ExceptHandler} {l : List ClD}
theorem clz_only (hg : Gl X x) (hT : CatF X.K X.mg x tbl) (hsu : ∀ (a : Addr) (oe : Obj) (pn : List (Addr × Obj)), (∃ vs, oe.data = .fields vs) → DSs (X.suite a ((a, oe) :: pn)) W0 (b₀ :: suite) m) (r : ClzD X hds l)
    (hd : (x == ("__debug__" : Str)) = false := by decide) : ClzD X (.ExceptHandler (some (.Name x np)) none (b₀ :: suite) pos' :: hds) (⟨none, tbl, m⟩ :: l) := by
  obtain ⟨D, hm, ht⟩ := hT
  exact .only (c := .ref D) ⟨hg, hd, .inl hm⟩ ht hsu r
theorem clz_as (hN : X.N.Nodup) (hi : X.N[i]? = some n) (hln : X.env.kindOf n = some .local) (hg : Gl X x) (hT : CatF X.K X.mg x tbl) (hsu : ∀ (a : Addr) (oe : Obj) (pn : List (Addr × Obj)), (∃ vs, oe.data = .fields vs) → DSs (X.suite a ((a, oe) :: pn)) W0 (b₀ :: suite) m) (r : ClzD X hds l)
    (hd : (x == ("__debug__" : Str)) = false := by decide) : ClzD X (.ExceptHandler (some (.Name x np)) (some n) (b₀ :: suite) pos' :: hds) (⟨some i, tbl, m⟩ :: l) := by
  obtain ⟨D, hm, ht⟩ := hT
  exact .as (c := .ref D) hN hi hln ⟨hg, hd, .inl hm⟩ ht hsu r
end
section
variable {X : Cx} {W : WX} {a : Addr} {oe : Obj} {pn : List (Addr × Obj)} {tbl : List (Nat × Bool)} {x y : Str} {pos p p2 p3 : Pos}
/-- isinstance(e, D), D of the module -/
theorem d_isXo (i : Nat) (hf : ∃ vs, oe.data = .fields vs) (hT : ∃ D, X.mg y = some (.ref D) ∧ IsT X.K X.mg (.ref D) tbl) (hg : Gl X "isinstance") (hm : X.mg "isinstance" = none) (hgy : Gl X y)
    (hN : X.N[i]? = some x := by rfl) (hv : Vis X.env.scope x := by first | exact Or.inl rfl | exact Or.inr (Or.inl rfl) | exact Or.inr (Or.inr rfl)) (hd : (x == ("__debug__" : Str)) = false := by decide)
    (hcd : (x == ("__classdict__" : Str)) = false := by decide) (hdy : (y == ("__debug__" : Str)) = false := by decide) (he : starEach [.Name x p, .Name y p3] X.env = (false, eval (.Name x p) X.env) :: starEach [.Name y p3] X.env := by rfl)
    (he2 : starEach [.Name y p3] X.env = (false, eval (.Name y p3) X.env) :: starEach [] X.env := by rfl) (hpl : (backTo pos (starEach [.Name y p3] X.env)).any (·.1) = false := by rfl) :
    DE (X.suite a ((a, oe) :: pn)) W (.Call (.Name "isinstance" p2) [.Name x p, .Name y p3] [] pos) (mIsX i tbl) := by
  obtain ⟨D, hmD, hT⟩ := hT
  exact d_isX (v := .ref D) (cv := .ref D) i hf hT (pe_glob (X := X.suite a ((a, oe) :: pn)) (v := .ref D) hgy hmD rfl hdy) (fun u r => r) hg hm hN hv hd hcd he he2 hpl
/-- isinstance(e, T), T a class of the language -/
theorem d_isXb (i : Nat) {T : String} (hf : ∃ vs, oe.data = .fields vs) (hT : IsT X.K X.mg (.type T) tbl) (hg : Gl X "isinstance") (hm : X.mg "isinstance" = none) (hgy : Gl X y) (hmy : X.mg y = none) (hby : bootBuiltins y = some (.type T)) (hny : y ≠ "__name__" := by decide)
    (hN : X.N[i]? = some x := by rfl) (hv : Vis X.env.scope x := by first | exact Or.inl rfl | exact Or.inr (Or.inl rfl) | exact Or.inr (Or.inr rfl)) (hd : (x == ("__debug__" : Str)) = false := by decide)
    (hcd : (x == ("__classdict__" : Str)) = false := by decide) (hdy : (y == ("__debug__" : Str)) = false := by decide) (he : starEach [.Name x p, .Name y p3] X.env = (false, eval (.Name x p) X.env) :: starEach [.Name y p3] X.env := by rfl)
    (he2 : starEach [.Name y p3] X.env = (false, eval (.Name y p3) X.env) :: starEach [] X.env := by rfl) (hpl : (backTo pos (starEach [.Name y p3] X.env)).any (·.1) = false := by rfl) :
    DE (X.suite a ((a, oe) :: pn)) W (.Call (.Name "isinstance" p2) [.Name x p, .Name y p3] [] pos) (mIsX i tbl) :=
  d_isX (v := .ty T) (cv := .type T) i hf hT (pe_bltn (X := X.suite a ((a, oe) :: pn)) (v := .ty T) hgy hmy hby rfl hny hdy) (fun u r => r) hg hm hN hv hd hcd he he2 hpl
end
end
end Dl

set_option Elab.async false
set_option linter.all false
set_option maxRecDepth 100000
set_option maxHeartbeats 1000000
/-! The data level: dicts with texts as keys, as plain tables. -/
namespace Dl
open PySem PySem.Spec PyProof.Rows L2
noncomputable section
variable {A : Type}
abbrev Tb (A : Type) := List (List Nat × A)
def tab (f : A → D) (M : Tb A) : List (Ky × D) := M.map fun p => (Sum.inr p.1, f p.2)
def keys (M : Tb A) : List (List Nat) := M.map (·.1)
def look : Tb A → List Nat → Option A
  | [], _ => none
  | (k, a) :: M, p => if k = p then some a else look M p
def put : Tb A → List Nat → A → Tb A
  | [], p, a => [(p, a)]
  | (k, b) :: M, p, a => if k = p then (k, a) :: M.map (fun x => if x.1 = p then (x.1, a) else x) else (k, b) :: put M p a
def drop (M : Tb A) (p : List Nat) : Tb A := M.filter fun x => decide (x.1 ≠ p)
def merge (M N : Tb A) : Tb A := N.foldl (fun acc p => put acc p.1 p.2) M
theorem inr_eq {a b : List Nat} : ((Sum.inr a : Ky) = Sum.inr b) = (a = b) := propext ⟨fun h => Sum.inr.inj h, fun h => by rw [h]⟩
theorem valD_tab (f : A → D) : ∀ (M : Tb A) (p : List Nat), valD (tab f M) (.inr p) = (look M p).map f
  | [], p => rfl
  | (k, a) :: M, p => by
    show valD ((Sum.inr k, f a) :: tab f M) (.inr p) = _
    rw [valD_cons]
    unfold look
    by_cases h : k = p
    · rw [if_pos (by rw [h]), if_pos h]; rfl
    · rw [if_neg (by rw [inr_eq]; exact h), if_neg h]; exact valD_tab f M p
theorem map_put (f : A → D) (p : List Nat) (a : A) : ∀ M : Tb A, ((tab f M).map fun x => if x.1 = Sum.inr p then (x.1, f a) else x) = tab f (M.map fun x => if x.1 = p then (x.1, a) else x)
  | [] => rfl
  | (k, b) :: M => by
    show (if (Sum.inr k : Ky) = Sum.inr p then (Sum.inr k, f a) else (Sum.inr k, f b)) :: ((tab f M).map fun x => if x.1 = Sum.inr p then (x.1, f a) else x) = _
    rw [map_put f p a M]
    by_cases h : k = p
    · subst h
      show _ = tab f ((if k = k then (k, a) else (k, b)) :: _)
      rw [if_pos rfl, if_pos rfl]; rfl
    · show _ = tab f ((if k = p then (k, a) else (k, b)) :: _)
      rw [if_neg (by rw [inr_eq]; exact h), if_neg h]; rfl
theorem putT_tab (f : A → D) (p : List Nat) (a : A) : ∀ M : Tb A, putT (tab f M) (.inr p) (f a) = tab f (put M p a)
  | [] => rfl
  | (k, b) :: M => by
    have ih := putT_tab f p a M
    unfold putT at ih
    show (if (((Sum.inr k : Ky), f b) :: tab f M).any (fun x => decide (x.1 = Sum.inr p)) = true then _ else _) = tab f (if k = p then _ else _)
    by_cases h : k = p
    · subst h
      rw [if_pos rfl, if_pos (by rw [List.any_cons]; simp)]
      have := map_put f k a ((k, b) :: M)
      refine this.trans ?_
      show tab f ((if k = k then (k, a) else (k, b)) :: _) = _
      rw [if_pos rfl]
    · rw [if_neg h]
      have hk : decide ((Sum.inr k : Ky) = Sum.inr p) = false := by rw [decide_eq_false_iff_not, inr_eq]; exact h
      have e : (((Sum.inr k : Ky), f b) :: tab f M).any (fun x => decide (x.1 = Sum.inr p)) = (tab f M).any (fun x => decide (x.1 = Sum.inr p)) := by rw [List.any_cons, hk, Bool.false_or]
      rw [e]
      show _ = (Sum.inr k, f b) :: tab f (put M p a)
      rw [← ih]
      by_cases q : (tab f M).any (fun x => decide (x.1 = Sum.inr p)) = true
      · rw [if_pos q, if_pos q]
        show (if (Sum.inr k : Ky) = Sum.inr p then (Sum.inr k, f a) else (Sum.inr k, f b)) :: _ = _
        rw [if_neg (by rw [inr_eq]; exact h)]
        rfl
      · rw [if_neg q, if_neg q]; rfl
theorem dropT_tab (f : A → D) (p : List Nat) : ∀ M : Tb A, dropT (tab f M) (.inr p) = tab f (drop M p)
  | [] => rfl
  | (k, b) :: M => by
    have ih := dropT_tab f p M
    unfold dropT drop at *
    show ((Sum.inr k, f b) :: tab f M).filter _ = _
    by_cases h : k = p
    · rw [List.filter_cons_of_neg (by simp [h]), ih, List.filter_cons_of_neg (by simp [h])]
    · rw [List.filter_cons_of_pos (by simp [h]), ih, List.filter_cons_of_pos (by simp [h])]; rfl
theorem mergeT_tab (f : A → D) : ∀ (N M : Tb A), mergeT (tab f M) (tab f N) = tab f (merge M N)
  | [], M => rfl
  | (k, a) :: N, M => by
    show mergeT (putT (tab f M) (.inr k) (f a)) (tab f N) = tab f (merge (put M k a) N)
    rw [putT_tab, mergeT_tab f N]
theorem kstrs_tab (f : A → D) : ∀ M : Tb A, kstrs (tab f M) = some (keys M)
  | [] => rfl
  | (k, a) :: M => by
    have ih := kstrs_tab f M
    show kstrs ((Sum.inr k, f a) :: tab f M) = some (k :: keys M)
    simp only [kstrs, ih]
    first
      | rfl
      | simp [kstrs, ih]
theorem keysD_tab (f : A → D) (M : Tb A) : keysD (tab f M) = (keys M).map .str := by
  unfold keysD tab keys
  rw [List.map_map, List.map_map]
  rfl
theorem prsOf_tab (f : A → D) (M : Tb A) : prsOf (M.map fun p => .tup [.str p.1, f p.2]) = some (tab f M) := by
  have := prsOf_map (tab f M)
  unfold tab at *
  rw [List.map_map] at this
  exact this
theorem tab_len (f : A → D) (M : Tb A) : (tab f M).length = M.length := List.length_map _
theorem keys_len (M : Tb A) : (keys M).length = M.length := List.length_map _
theorem look_mapput (p q : List Nat) (a : A) : ∀ M : Tb A, look (M.map fun x => if x.1 = p then (x.1, a) else x) q = if q = p then (look M q).map (fun _ => a) else look M q
  | [] => by simp [look]
  | (k, b) :: M => by
    have ih := look_mapput p q a M
    show look ((if k = p then (k, a) else (k, b)) :: _) q = if q = p then (if k = q then some b else look M q).map (fun _ => a) else (if k = q then some b else look M q)
    by_cases h1 : k = p
    · rw [if_pos h1]
      show (if k = q then some a else _) = _
      by_cases h2 : k = q
      · have h3 : q = p := h2.symm.trans h1
        rw [if_pos h2, if_pos h3, if_pos h2]; rfl
      · have h3 : ¬ q = p := fun z => h2 (h1.trans z.symm)
        rw [if_neg h2, if_neg h3, if_neg h2, ih, if_neg h3]
    · rw [if_neg h1]
      show (if k = q then some b else _) = _
      by_cases h2 : k = q
      · have h3 : ¬ q = p := fun z => h1 (h2.trans z)
        rw [if_pos h2, if_neg h3, if_pos h2]
      · rw [if_neg h2, if_neg h2, ih]
theorem look_put (p q : List Nat) (a : A) : ∀ M : Tb A, look (put M p a) q = if q = p then some a else look M q
  | [] => by
    show (if p = q then some a else none) = _
    by_cases h : q = p
    · rw [if_pos h.symm, if_pos h]
    · rw [if_neg fun z => h z.symm, if_neg h]; rfl
  | (k, b) :: M => by
    have ih := look_put p q a M
    show look (if k = p then _ else _) q = if q = p then some a else (if k = q then some b else look M q)
    by_cases h1 : k = p
    · rw [if_pos h1]
      show (if k = q then some a else look (M.map _) q) = _
      by_cases h2 : k = q
      · rw [if_pos h2, if_pos (h2.symm.trans h1)]
      · have h3 : ¬ q = p := fun z => h2 (h1.trans z.symm)
        rw [if_neg h2, if_neg h3, if_neg h2, look_mapput, if_neg h3]
    · rw [if_neg h1]
      show (if k = q then some b else look (put M p a) q) = _
      by_cases h2 : k = q
      · have h3 : ¬ q = p := fun z => h1 (h2.trans z)
        rw [if_pos h2, if_neg h3, if_pos h2]
      · rw [if_neg h2, if_neg h2, ih]
theorem look_drop (p q : List Nat) : ∀ M : Tb A, look (drop M p) q = if q = p then none else look M q
  | [] => by simp [drop, look]
  | (k, b) :: M => by
    have ih := look_drop p q M
    unfold drop at ih ⊢
    by_cases h : k = p
    · rw [List.filter_cons_of_neg (by simp [h]), ih]
      by_cases h2 : q = p
      · rw [if_pos h2, if_pos h2]
      · rw [if_neg h2, if_neg h2]
        show _ = if k = q then some b else look M q
        rw [if_neg fun z => h2 (z.symm.trans h)]
    · rw [List.filter_cons_of_pos (by simp [h])]
      show (if k = q then some b else look (M.filter _) q) = if q = p then none else (if k = q then some b else look M q)
      by_cases h2 : k = q
      · rw [if_pos h2, if_neg (fun z => h (h2.trans z)), if_pos h2]
      · rw [if_neg h2, if_neg h2, ih]
theorem put_len (p : List Nat) (a : A) : ∀ M : Tb A, (put M p a).length ≤ M.length + 1
  | [] => Nat.le_refl _
  | (k, b) :: M => by
    have ih := put_len p a M
    show (if k = p then _ else _ : Tb A).length ≤ _
    by_cases h : k = p
    · rw [if_pos h, List.length_cons, List.length_map, List.length_cons]; omega
    · rw [if_neg h, List.length_cons, List.length_cons]; omega
theorem drop_len (p : List Nat) (M : Tb A) : (drop M p).length ≤ M.length := List.length_filter_le _ _
theorem merge_len : ∀ (N M : Tb A), (merge M N).length ≤ M.length + N.length
  | [], M => Nat.le_refl _
  | (k, a) :: N, M => by
    have h1 := merge_len N (put M k a)
    have h2 := put_len k a M
    show (merge (put M k a) N).length ≤ _
    rw [List.length_cons]; omega
theorem look_mem : ∀ {M : Tb A} {p : List Nat} {a : A}, look M p = some a → (p, a) ∈ M
  | (k, b) :: M, p, a, h => by
    have h : (if k = p then some b else look M p) = some a := h
    by_cases q : k = p
    · rw [if_pos q] at h; cases h; rw [q]; exact List.mem_cons_self
    · rw [if_neg q] at h; exact List.mem_cons_of_mem _ (look_mem h)
theorem look_key : ∀ {M : Tb A} {p : List Nat}, (look M p).isSome = true ↔ p ∈ keys M
  | [], p => by simp [look, keys]
  | (k, b) :: M, p => by
    have ih := look_key (M := M) (p := p)
    show (if k = p then some b else look M p).isSome = true ↔ p ∈ k :: keys M
    by_cases q : k = p
    · rw [if_pos q]; simp [q]
    · rw [if_neg q, ih, List.mem_cons]
      exact ⟨.inr, fun h => h.elim (fun z => absurd z.symm q) id⟩
/-- a table made anew, each value by its key -/
theorem look_merge (g : List Nat → A) (q : List Nat) : ∀ (ks : List (List Nat)) (M : Tb A), look (merge M (ks.map fun k => (k, g k))) q = if q ∈ ks then some (g q) else look M q
  | [], M => by simp [merge]
  | k :: ks, M => by
    have ih := look_merge g q ks (put M k (g k))
    show look (merge (put M k (g k)) _) q = _
    rw [ih, look_put]
    by_cases h : q ∈ ks
    · rw [if_pos h, if_pos (List.mem_cons_of_mem _ h)]
    · rw [if_neg h]
      by_cases h2 : q = k
      · rw [if_pos h2, if_pos (by rw [h2]; exact List.mem_cons_self), h2]
      · rw [if_neg h2, if_neg (fun z => (List.mem_cons.mp z).elim h2 h)]
theorem mem_srt {l : List (List Nat)} {p : List Nat} : p ∈ srtS l ↔ p ∈ l := (srtS_perm l).mem_iff
end
end Dl

set_option Elab.async false
set_option linter.all false
set_option maxRecDepth 100000
set_option maxHeartbeats 1000000
/-! Trees of files and links as plain tables; names, paths, contents. -/
namespace Dl
open PySem PySem.Spec PyProof.Rows L2
noncomputable section
/-! ### paths and contents -/
def cs0 : List Nat := [97, 98, 99, 100, 101, 102, 103, 104, 105, 106, 107, 108, 109, 110, 111, 112, 113, 114, 115, 116, 117, 118, 119, 120, 121, 122, 48, 49, 50, 51, 52, 53, 54, 55, 56, 57, 95, 46]
/-- a name of the signs cs -/
def okN (cs v : List Nat) : Bool := match v with
  | [] => false
  | c :: r => !(decide ((12 : Int) < (r.length : Int) + 1) || decide (c = 46)) && (c :: r).all fun x => decide (x ∈ cs)
def okp (z : List Nat) : Bool := decide (((pieces 47 [] z).length : Int) ≤ 4) && (pieces 47 [] z).all (okN cs0)
def okc (c : Nat) : Bool := decide ((c : Int) = 10) || decide ((32 : Int) ≤ c) && decide ((c : Int) ≤ 126) && !decide ((c : Int) = 37)
def okt (t : List Nat) : Bool := t.all okc
def oku (t : List Nat) : Bool := decide ((t.length : Int) ≤ 400) && okt t
/-! ### entries -/
inductive Ent where
  | file (x b : List Nat)
  | link (q : List Nat)
def Ent.D : Ent → Dl.D
  | .file x b => .tup [.str [102, 105, 108, 101], .str x, .str b]
  | .link q => .tup [.str [108, 105, 110, 107], .str q]
def entD : Option Ent → Dl.D
  | some a => a.D
  | none => .non
def kindE : Option Ent → List Nat
  | none => [110, 111, 110, 101]
  | some (.file _ _) => [102, 105, 108, 101]
  | some (.link _) => [108, 105, 110, 107]
def readE : Option Ent → Dl.D
  | some (.file x _) => .str x
  | _ => .non
def writE : Option Ent → Dl.D
  | some (.file _ b) => .str b
  | _ => .non
def targE : Option Ent → Option (List Nat)
  | some (.link q) => some q
  | _ => none
def optD : Option (List Nat) → Dl.D
  | some q => .str q
  | none => .non
def PERS : List Nat := [112, 101, 114, 115, 111, 110]
def persE : Option Ent → Bool
  | some (.file _ b) => decide (b = PERS)
  | some (.link _) => true
  | none => false
def cnt (M : Tb Ent) : Nat := ((keys M).filter fun k => persE (look M k)).length
theorem cnt_le (M : Tb Ent) : cnt M ≤ M.length := by
  have := List.length_filter_le (fun k => persE (look M k)) (keys M)
  rw [keys_len] at this
  exact this
/-- there is no room at p -/
def full (M : Tb Ent) (p : List Nat) : Bool := !persE (look M p) && decide (60 ≤ cnt M)
/-- the object t is a tree with the entries M in the cell e -/
structure Tr (so : So) (t e : Nat) (M : Tb Ent) : Prop where
  ob : so[t]? = some (.ob 57 [some (.obj e)])
  ce : so[e]? = some (.cel (.dct (tab Ent.D M)))
/-- .. that may be walked just now -/
structure TrR (so : So) (t e : Nat) (M : Tb Ent) : Prop where
  ob : so[t]? = some (.ob 57 [some (.obj e)])
  ce : so[e]? = some (.cel (.dct (tab Ent.D M))) ∨ so[e]? = some (.lck (tab Ent.D M))
theorem Tr.r {so : So} {t e : Nat} {M : Tb Ent} (h : Tr so t e M) : TrR so t e M := ⟨h.ob, .inl h.ce⟩
theorem Tr.ne {so : So} {t e : Nat} {M : Tb Ent} (h : Tr so t e M) : e ≠ t := fun z => by
  have a := h.ob
  have b := h.ce
  rw [z, a] at b
  cases b
theorem Tr.lt {so : So} {t e : Nat} {M : Tb Ent} (h : Tr so t e M) : e < so.length := by
  have b := h.ce
  exact (List.getElem?_eq_some_iff.mp b).1
theorem Tr.set {so : So} {t e : Nat} {M : Tb Ent} (h : Tr so t e M) (N : Tb Ent) : Tr (so.set e (.cel (.dct (tab Ent.D N)))) t e N :=
  ⟨by rw [List.getElem?_set_ne h.ne]; exact h.ob, by rw [List.getElem?_set_self h.lt]⟩
theorem Tr.lck {so : So} {t e : Nat} {M : Tb Ent} (h : Tr so t e M) : TrR (so.set e (.lck (tab Ent.D M))) t e M :=
  ⟨by rw [List.getElem?_set_ne h.ne]; exact h.ob, .inr (by rw [List.getElem?_set_self h.lt])⟩
theorem Tr.same {so : So} {t e : Nat} {M : Tb Ent} (h : Tr so t e M) : so.set e (.cel (.dct (tab Ent.D M))) = so := by
  have b := h.ce
  obtain ⟨h1, h2⟩ := List.getElem?_eq_some_iff.mp b
  rw [← h2, List.set_getElem_self]
theorem put_mem {A : Type} {x : List Nat × A} {p : List Nat} {a : A} : ∀ {M : Tb A}, x ∈ put M p a → x = (p, a) ∨ x ∈ M
  | [], h => .inl (by simpa [put] using h)
  | (k, b) :: M, h => by
    have h : x ∈ (if k = p then _ else _ : Tb A) := h
    by_cases q : k = p
    · rw [if_pos q] at h
      rcases List.mem_cons.mp h with h | h
      · exact .inl (by rw [h, q])
      · obtain ⟨y, h1, h2⟩ := List.mem_map.mp h
        by_cases w : y.1 = p
        · rw [if_pos w] at h2; exact .inl (by rw [← h2, w])
        · rw [if_neg w] at h2; exact .inr (List.mem_cons_of_mem _ (h2 ▸ h1))
    · rw [if_neg q] at h
      rcases List.mem_cons.mp h with h | h
      · exact .inr (by rw [h]; exact List.mem_cons_self)
      · exact (put_mem h).imp id (List.mem_cons_of_mem _)
/-! ### tables whose keys are all different -/
section
variable {A : Type}
theorem keys_cons (k : List Nat) (a : A) (M : Tb A) : keys ((k, a) :: M) = k :: keys M := rfl
theorem look_cons (k p : List Nat) (a : A) (M : Tb A) : look ((k, a) :: M) p = if k = p then some a else look M p := rfl
theorem look_none {M : Tb A} {p : List Nat} : look M p = none ↔ p ∉ keys M := by
  have := look_key (M := M) (p := p)
  cases h : look M p with
  | none => rw [h] at this; exact ⟨fun _ z => (nomatch this.mpr z), fun _ => rfl⟩
  | some a => rw [h] at this; exact ⟨fun z => (nomatch z), fun z => absurd (this.mp rfl) z⟩
theorem keys_put (p : List Nat) (a : A) : ∀ M : Tb A, keys (put M p a) = if p ∈ keys M then keys M else keys M ++ [p]
  | [] => by simp [put, keys]
  | (k, b) :: M => by
    have ih := keys_put p a M
    show keys (if k = p then _ else _ : Tb A) = _
    by_cases h : k = p
    · rw [if_pos h, if_pos (by rw [keys_cons, h]; exact List.mem_cons_self), keys_cons, keys_cons]
      congr 1
      unfold keys
      rw [List.map_map]
      apply List.map_congr_left
      intro y _
      show (if y.1 = p then (y.1, a) else y).1 = y.1
      split <;> rfl
    · rw [if_neg h, keys_cons, keys_cons, ih]
      by_cases q : p ∈ keys M
      · rw [if_pos q, if_pos (List.mem_cons_of_mem _ q)]
      · rw [if_neg q, if_neg (fun z => (List.mem_cons.mp z).elim (fun w => h w.symm) q)]; rfl
theorem put_nodup {M : Tb A} (h : (keys M).Nodup) (p : List Nat) (a : A) : (keys (put M p a)).Nodup := by
  rw [keys_put]
  split
  · exact h
  · rename_i q
    rw [List.nodup_append]
    exact ⟨h, by simp, fun x hx y hy e => q (by rw [List.mem_singleton] at hy; rw [← hy, ← e]; exact hx)⟩
theorem drop_nodup {M : Tb A} (h : (keys M).Nodup) (p : List Nat) : (keys (drop M p)).Nodup :=
  List.Nodup.sublist (List.Sublist.map _ List.filter_sublist) h
theorem look_of_mem : ∀ {M : Tb A}, (keys M).Nodup → ∀ {y : List Nat × A}, y ∈ M → look M y.1 = some y.2
  | (k, b) :: M, h, y, hy => by
    rw [keys_cons, List.nodup_cons] at h
    rw [look_cons]
    rcases List.mem_cons.mp hy with e | hy
    · subst e; rw [if_pos rfl]
    · have : y.1 ∈ keys M := List.mem_map.mpr ⟨y, hy, rfl⟩
      rw [if_neg fun z : k = y.1 => h.1 (by rw [z]; exact this)]
      exact look_of_mem h.2 hy
theorem put_new (p : List Nat) (a : A) : ∀ {M : Tb A}, p ∉ keys M → put M p a = M ++ [(p, a)]
  | [], _ => rfl
  | (k, b) :: M, h => by
    rw [keys_cons, List.mem_cons, not_or] at h
    show (if k = p then _ else _ : Tb A) = _
    rw [if_neg fun z => h.1 z.symm, put_new p a h.2]; rfl
theorem merge_new : ∀ (N M : Tb A), (keys M ++ keys N).Nodup → merge M N = M ++ N
  | [], M, _ => by simp [merge]
  | (k, a) :: N, M, h => by
    rw [keys_cons] at h
    have hk : k ∉ keys M := fun z => by
      have := (List.nodup_append.mp h).2.2 k z k List.mem_cons_self
      exact this rfl
    show merge (put M k a) N = _
    have e : put M k a = M ++ [(k, a)] := put_new k a hk
    have e2 : keys (M ++ [(k, a)]) = keys M ++ [k] := List.map_append
    rw [e, merge_new N _ (by rw [e2, List.append_assoc]; exact h), List.append_assoc]; rfl
theorem merge_nil {N : Tb A} (h : (keys N).Nodup) : merge [] N = N := merge_new N [] h
/-- the pairs of a table but p's, by its keys -/
theorem keys_pairs {B : Type} {M : Tb A} (h : (keys M).Nodup) (f : List Nat → Bool) (g : List Nat → Option A → B) : ((keys M).filter f).map (fun k => g k (look M k)) = (M.filter fun y => f y.1).map fun y => g y.1 (some y.2) := by
  unfold keys
  rw [List.filter_map, List.map_map]
  apply List.map_congr_left
  intro y hy
  show g y.1 (look M y.1) = _
  rw [look_of_mem h (List.mem_filter.mp hy).1]
end
theorem set_same {so : So} {c : Nat} {o : Sc} (h : so[c]? = some o) : so.set c o = so := by
  obtain ⟨h1, h2⟩ := List.getElem?_eq_some_iff.mp h
  rw [← h2, List.set_getElem_self]
end
end Dl

set_option Elab.async false
set_option linter.all false
set_option maxRecDepth 100000
set_option maxHeartbeats 1000000
/-! Evaluation lemmas: == of what stands in the store; sorted lists. -/
namespace Dl
open PySem PySem.Spec PyProof.Rows L2
noncomputable section
section
variable {en : En} {so : So}
@[simp] theorem mEqH_ (ma mb : M Hd) : mEqH ma mb en so = bdR (ma en so) fun h1 => bd mb fun h2 => bd (vwH h1) fun d => bd (vwH h2) fun e => opM (eqV d e) fun b => pu (.bl b) := rfl
@[simp] theorem mNeH_ (ma mb : M Hd) : mNeH ma mb en so = bdR (ma en so) fun h1 => bd mb fun h2 => bd (vwH h1) fun d => bd (vwH h2) fun e => gd (okq 24 d = true ∧ okq 24 e = true) (pu (.bl (!eqD d e))) := rfl
@[simp] theorem vwH_dat (d : D) : vwH (.dat d) en so = .ok (vwD so 6 d) en so := rfl
@[simp] theorem vwH_slot (i : Nat) : vwH (.slot i) en so = (match en[i]? with
  | some (some (.cel c)) => .ok (vwD so 6 c.toD) en so
  | some (some (.dat d)) => .ok (vwD so 6 d) en so
  | _ => .no) := rfl
def lvR (i : Nat) (vs : List Nat) (en : En) (xs : List D) (r : Re (List D)) : Re B := match r with
  | .ok ys en' so' => .ok (.cel (.lst ys)) ((backE (en.set i none) en' vs).set i (some (.cel (.lst xs)))) so'
  | _ => .no
@[simp] theorem lvR_ (i : Nat) (vs : List Nat) (en' : En) (xs ys : List D) : lvR i vs en xs (.ok ys en' so) = .ok (.cel (.lst ys)) ((backE (en.set i none) en' vs).set i (some (.cel (.lst xs)))) so := rfl
@[simp] theorem mLcV_ (i : Nat) (vs : List Nat) (tg : Tg) (tt : M Bool) (el : M D) : mLcV i vs tg tt el en so = (match en[i]? with
  | some (some (.cel (.lst xs))) => lvR i vs en xs (lcGo vs tg tt el xs [] (wipeE (en.set i none) vs) so)
  | _ => .no) := rfl
@[simp] theorem vw_non (n : Nat) : vwD so n .non = .non := by cases n <;> rfl
@[simp] theorem vw_bl (n : Nat) (b : Bool) : vwD so n (.bl b) = .bl b := by cases n <;> rfl
@[simp] theorem vw_int (n : Nat) (b : Int) : vwD so n (.int b) = .int b := by cases n <;> rfl
@[simp] theorem vw_str (n : Nat) (b : List Nat) : vwD so n (.str b) = .str b := by cases n <;> rfl
theorem vw_tup (n : Nat) (xs : List D) : vwD so (n + 1) (.tup xs) = .tup (xs.map (vwD so n)) := rfl
theorem vw_lst (n : Nat) (xs : List D) : vwD so (n + 1) (.lst xs) = .lst (xs.map (vwD so n)) := rfl
theorem vw_same {f : D → D} : ∀ {xs : List D}, (∀ x ∈ xs, f x = x) → xs.map f = xs
  | [], _ => rfl
  | x :: xs, h => by rw [List.map_cons, h x List.mem_cons_self, vw_same fun y hy => h y (List.mem_cons_of_mem _ hy)]
@[simp] theorem vw_strs6 (l : List (List Nat)) : vwD so 6 (.lst (l.map .str)) = .lst (l.map .str) := by
  rw [vw_lst, vw_same]
  intro x hx
  obtain ⟨y, _, rfl⟩ := List.mem_map.mp hx
  exact vw_str _ _
theorem vw_ent (n : Nat) (a : Ent) : vwD so (n + 2) a.D = a.D := by
  cases a <;> simp [Ent.D, vw_tup]
theorem vw_tab {A : Type} {f : A → D} {M : Tb A} {k : Nat} (h : so[k]? = some (.cel (.dct (tab f M)))) (hf : ∀ a, vwD so 5 (f a) = f a) : vwD so 6 (.obj k) = .dct (tab f M) := by
  have e : vwD so 6 (.obj k) = (match so[k]? with
    | some (.cel (.lst xs)) => D.lst (xs.map (vwD so 5))
    | some (.cel (.dct kv)) => D.dct (kv.map fun p : Ky × D => (p.1, vwD so 5 p.2))
    | some (.lck kv) => D.dct (kv.map fun p : Ky × D => (p.1, vwD so 5 p.2))
    | _ => D.obj k) := rfl
  rw [e, h]
  show D.dct _ = D.dct _
  congr 1
  unfold tab
  rw [List.map_map]
  apply List.map_congr_left
  intro p _
  show (Sum.inr p.1, vwD so 5 (f p.2)) = _
  rw [hf]
theorem eqDs_strs : ∀ l : List (List Nat), eqDs (l.map D.str) (l.map D.str) = true
  | [] => by simp
  | a :: l => by simp [eqDs_strs l]
theorem okq_strs (n : Nat) : ∀ l : List (List Nat), (l.map D.str).all (okq n) = true
  | [] => by simp
  | a :: l => by simp
theorem hit_same {f : D → D → Option Bool} {kv : List (Ky × D)} : ∀ {x : List (Ky × D)}, (∀ p ∈ x, valD kv p.1 = some p.2 ∧ f p.2 p.2 = some true) → hitE f kv x = some true
  | [], _ => rfl
  | (k, v) :: x, h => by
    obtain ⟨h1, h2⟩ := h (k, v) List.mem_cons_self
    show (match valD kv k with | none => some false | some y => match f v y, hitE f kv x with | some p, some q => some (p && q) | _, _ => none) = _
    have h1 : valD kv k = some v := h1
    rw [h1]
    show (match f v v, hitE f kv x with | some p, some q => some (p && q) | _, _ => none) = _
    have h2 : f v v = some true := h2
    rw [h2, hit_same fun p hp => h p (List.mem_cons_of_mem _ hp)]
    rfl
theorem eqV_tab {A : Type} {f : A → D} {M : Tb A} (nd : (keys M).Nodup) (hf : ∀ a, eqE 7 (f a) (f a) = some true) : eqV (.dct (tab f M)) (.dct (tab f M)) = some true := by
  unfold eqV
  rw [if_neg (fun z => nomatch z.1)]
  show (if (tab f M).length = (tab f M).length then hitE (eqE 7) (tab f M) (tab f M) else some false) = _
  rw [if_pos rfl]
  refine hit_same fun p hp => ?_
  obtain ⟨y, hy, rfl⟩ := List.mem_map.mp hp
  refine ⟨?_, hf _⟩
  rw [valD_tab, look_of_mem nd hy]
  rfl
theorem eqE_ent (a : Ent) : eqE 7 a.D a.D = some true := by
  cases a <;> simp [Ent.D, eqE, zipE]
end
/-- two sorted lists without doubles, of the same texts -/
theorem sorted_ext {l m : List (List Nat)} (hl : l.Pairwise fun a b => leC a b = true) (hm : m.Pairwise fun a b => leC a b = true) (nl : l.Nodup) (nm : m.Nodup) (h : ∀ p, p ∈ l ↔ p ∈ m) : l = m :=
  List.Perm.eq_of_pairwise (le := fun a b => leC a b = true) (fun a b _ _ h1 h2 => leC_anti a b h1 h2) hl hm ((List.perm_ext_iff_of_nodup nl nm).mpr h)
theorem srt_nodup {l : List (List Nat)} (h : l.Nodup) : (srtS l).Nodup := (srtS_perm l).nodup_iff.mpr h
theorem merge_nodup {A : Type} : ∀ (N M : Tb A), (keys M).Nodup → (keys (merge M N)).Nodup
  | [], _, h => h
  | (k, a) :: N, M, h => merge_nodup N (put M k a) (put_nodup h k a)
/-- the table of all of l -/
def setT (l : List (List Nat)) : Tb Bool := merge [] (l.map fun k => (k, true))
theorem setT_nodup (l : List (List Nat)) : (keys (setT l)).Nodup := merge_nodup _ _ List.nodup_nil
theorem setT_mem {l : List (List Nat)} {p : List Nat} : p ∈ keys (setT l) ↔ p ∈ l := by
  rw [← look_key]
  unfold setT
  rw [look_merge (fun _ => true)]
  by_cases h : p ∈ l
  · simp [h]
  · simp [h, look]
theorem setT_prs (l : List (List Nat)) : prsOf (l.map fun k => D.tup [.str k, .bl true]) = some (tab D.bl (l.map fun k => (k, true))) := by
  have := prsOf_tab D.bl (l.map fun k => (k, true))
  rw [List.map_map] at this
  exact this
theorem setT_mrg (l : List (List Nat)) : mergeT [] (tab D.bl (l.map fun k => (k, true))) = tab D.bl (setT l) := mergeT_tab D.bl _ []
end
end Dl

set_option Elab.async false
set_option linter.all false
set_option maxRecDepth 100000
set_option maxHeartbeats 1000000
/-! The data level: sorted(d, reverse=True). -/
namespace Dl
open PySem PySem.Spec PyProof.Rows L2
noncomputable section
def sortedKR : List D → M B
  | [d] => bd (dctO d) fun kv => opM (kstrs kv) fun ys => pu (.cel (.lst ((srtS ys).reverse.map .str)))
  | _ => no
section
variable {X : Cx} {W : WX} {e : Expr} {ms : M (List D)} {pos p p1 kp : Pos} {j : Nat}
theorem b_srtKR (hg : Gl X "sorted") (hm : X.mg "sorted" = none) (hc : X.calm = true) (ha : DA X W [e] ms)
    (he : backTo pos (starEach [e] X.env) = (false, eval e X.env) :: backTo pos (starEach [] X.env) := by rfl) (hpl : (backTo pos (starEach [e] X.env)).any (·.1) = false := by rfl)
    (hall : (backToKw pos (keywordEach [⟨some "reverse", .Constant (.bool true) j p1, kp⟩] X.env)).all (·.1.isSome) = true := by rfl) (hnone : (backToKw pos (keywordEach [⟨some "reverse", .Constant (.bool true) j p1, kp⟩] X.env)).any (·.1.isNone) = false := by rfl)
    (hks : (backToKw pos (keywordEach [⟨some "reverse", .Constant (.bool true) j p1, kp⟩] X.env)).filterMap (·.1) = [Str.ofString "reverse"] := by rfl) :
    DB X W (.Call (.Name "sorted" p) [e] [⟨some "reverse", .Constant (.bool true) j p1, kp⟩] pos) (bd ms sortedKR) := by
  refine ⟨PE_imp (pe_callBK (ks := [Str.ofString "reverse"]) (cr_srtKR hc) hg hm (by decide +kernel) ha.pa (pk_cons pe_bl pk_nil) (by decide) (by decide) he hpl hall hnone hks) fun σ H Q ⟨G, en, so, s, q⟩ => ⟨G, en, so, s, (Post.bind (R1 := rlDs X.K) q).imp ?_⟩⟩
  intro vs H1 ⟨G1, en1, so1, ds, _, r1, s1, p1⟩
  show rSrtKR vs [.bl true] H1 Q
  match ds, r1, p1 with
  | [d], r1, p1 =>
    obtain ⟨x, rfl, h⟩ := reps1 r1
    obtain ⟨kds, ca, p2⟩ := dctO_at s1 h p1
    obtain ⟨ys, ey, p4⟩ := opM_at p2
    obtain ⟨a0, kvs, rfl, hd, rk⟩ := ca
    refine ⟨a0, kvs, ys.map sT, rfl, rfl, hd, kstrs_keys rk ey, fun zs q hp hs hq => ?_⟩
    have e1 : zs.reverse = (srtS ys).map sT := sortedS_uniq ((List.reverse_perm _).trans hp) hs
    have e2 : zs = (srtS ys).reverse.map sT := by rw [List.map_reverse, ← e1, List.reverse_reverse]
    rw [e2]
    exact p4.ok' (tag_le q .tmp) (s1.newT (t := .tmp) hq) ⟨q, rfl, tag_own, _, upd_same, reps_strs _⟩
  | [], _, p1 => exact False.elim p1
  | d :: _ :: _, _, p1 => exact False.elim p1
end
section
variable {en : En} {so : So}
@[simp] theorem sortedKR_ (d : D) : sortedKR [d] en so = bdR (dctO d en so) fun kv => opM (kstrs kv) fun ys => pu (.cel (.lst ((srtS ys).reverse.map .str))) := rfl
end
end
end Dl

set_option Elab.async false
set_option linter.all false
set_option maxRecDepth 100000
set_option maxHeartbeats 1000000
/-! The data level: min, max (two ints; a list of ints or texts; default=..), list.index. -/
namespace Dl
open PySem PySem.Spec PyProof.Rows L2
noncomputable section
/-- a list of ints -/
def intsOf : List D → Option (List Int)
  | [] => some []
  | .int b :: r => (intsOf r).map (b :: ·)
  | _ => none
def mxI (n : Int) (l : List Int) : Int := l.foldl (fun a y => if a < y then y else a) n
def mnI (n : Int) (l : List Int) : Int := l.foldl (fun a y => if y < a then y else a) n
def mnS (s : List Nat) (l : List (List Nat)) : List Nat := l.foldl (fun a y => if y < a then y else a) s
def hdI (f : Int → List Int → M D) (z : M D) : List Int → M D
  | [] => z
  | n :: r => f n r
def hdS (f : List Nat → List (List Nat) → M D) (z : M D) : List (List Nat) → M D
  | [] => z
  | n :: r => f n r
def max2D : List D → M D
  | [.int i, .int j] => pu (.int (if j > i then j else i))
  | _ => no
def min2D : List D → M D
  | [.int i, .int j] => pu (.int (if j < i then j else i))
  | _ => no
def maxLD : List D → M D
  | [.lst xs] => opM (intsOf xs) (hdI (fun n r => pu (.int (mxI n r))) no)
  | _ => no
def minSD : List D → M D
  | [.lst xs] => opM (strsOf xs) (hdS (fun n r => pu (.str (mnS n r))) no)
  | _ => no
/-- max(l, default=z) -/
def maxDf (z : D) : List D → M D
  | [.lst xs] => opM (intsOf xs) (hdI (fun n r => pu (.int (mxI n r))) (pu z))
  | _ => no
/-- min(l, default=z), texts -/
def minDf (z : D) : List D → M D
  | [.lst xs] => opM (strsOf xs) (hdS (fun n r => pu (.str (mnS n r))) (pu z))
  | _ => no
theorem ints_of {K : PySem.W.Frag} {F : Hp} {rho : List (Addr × Addr)} : ∀ {vs : List V} {ds : List D} {bs : List Int}, Reps K F rho vs ds → intsOf ds = some bs → vs = bs.map V.int
  | _, _, bs, .nil, e => by cases e; rfl
  | _, _, bs, .cons (d := d) (ds := ds) h r, e => by
    cases h with
    | int i =>
      have e' : (intsOf ds).map (i :: ·) = some bs := e
      obtain ⟨b2, e2, rfl⟩ := Option.map_eq_some_iff.mp e'
      rw [List.map_cons, ints_of r e2]
    | _ => cases e
theorem mxI_spec : ∀ (l : List Int) (n : Int), mxI n l ∈ n :: l ∧ ∀ y ∈ n :: l, y ≤ mxI n l
  | [], n => ⟨List.mem_cons_self, fun y h => by
      rcases List.mem_cons.mp h with rfl | h
      · exact Int.le_refl _
      · cases h⟩
  | a :: l, n => by
    show mxI (if n < a then a else n) l ∈ _ ∧ ∀ y ∈ _, y ≤ mxI (if n < a then a else n) l
    obtain ⟨h1, h2⟩ := mxI_spec l (if n < a then a else n)
    have h3 := h2 _ List.mem_cons_self
    refine ⟨?_, fun y hy => ?_⟩
    · rcases List.mem_cons.mp h1 with e | e
      · rw [e]; split
        · exact List.mem_cons_of_mem _ List.mem_cons_self
        · exact List.mem_cons_self
      · exact List.mem_cons_of_mem _ (List.mem_cons_of_mem _ e)
    · rcases List.mem_cons.mp hy with rfl | hy
      · refine Int.le_trans ?_ h3; split <;> omega
      · rcases List.mem_cons.mp hy with rfl | hy
        · refine Int.le_trans ?_ h3; split <;> omega
        · exact h2 y (List.mem_cons_of_mem _ hy)
theorem mxI_uniq {n m : Int} {l : List Int} (h1 : m ∈ n :: l) (h2 : ∀ y ∈ n :: l, y ≤ m) : m = mxI n l :=
  Int.le_antisymm ((mxI_spec l n).2 m h1) (h2 _ (mxI_spec l n).1)
theorem mxI_of (n : Int) (l : List Int) : PySem.W.maxOf n l = mxI n l := by
  unfold PySem.W.maxOf mxI
  congr 1
  funext a y
  show (if decide (a < y) = true then y else a) = _
  by_cases h : a < y <;> simp [h]
theorem mnS_of : ∀ (l : List Str) (n : Str), (PySem.W.minOf n l).cps.toList = mnS n.cps.toList (l.map fun x => x.cps.toList)
  | [], n => rfl
  | a :: l, n => by
    show (PySem.W.minOf (if decide (a.cps.toList < n.cps.toList) = true then a else n) l).cps.toList = mnS (if a.cps.toList < n.cps.toList then a.cps.toList else n.cps.toList) (l.map fun x => x.cps.toList)
    rw [mnS_of l]
    by_cases h : a.cps.toList < n.cps.toList <;> simp [h]
section
variable {K : PySem.W.Frag} {mg : Ev}
theorem opM_at2 {A1 A2 A' : Type} {K : PySem.W.Frag} {mg : Ev} {G : Gh} {en : En} {so : So} {σ : L2.St} {oo : Option A1} {k : A1 → M A2} {W : WX} {Rl : Gh → Hp → A' → A2 → Prop} {Q : A' → Hp → Prop} (p : Post K mg G W Rl σ (opM oo k en so) Q) : ∃ x, oo = some x ∧ Post K mg G W Rl σ (k x en so) Q := by
  cases oo with
  | none => exact p.elim
  | some x => exact ⟨x, rfl, p⟩
theorem reps2 {F : Hp} {rho : List (Addr × Addr)} {xs : List V} {d e : D} (r : Reps K F rho xs [d, e]) : ∃ x y, xs = [x, y] ∧ Rep K F rho x d ∧ Rep K F rho y e := by
  cases r with
  | cons h r =>
    obtain ⟨y, rfl, h2⟩ := reps1 r
    exact ⟨_, y, rfl, h, h2⟩
theorem two_ints {f : List D → M D} {g : Int → Int → Int} (hf : ∀ i j, f [.int i, .int j] = pu (.int (g i j))) (hn : ∀ ds, (∀ i j, ds ≠ [.int i, .int j]) → f ds = no) : OpN K mg (fun xs H Q => ∃ i j, xs = [.int i, .int j] ∧ Q (.int (g i j)) H) f := by
  intro xs ds G en so σ H W Q r s p
  by_cases h : ∃ i j, ds = [.int i, .int j]
  · obtain ⟨i, j, rfl⟩ := h
    obtain ⟨x, y, rfl, h1, h2⟩ := reps2 r
    cases h1; cases h2
    rw [hf] at p
    exact ⟨i, j, rfl, Post.ok (v := V.int (g i j)) p s (.int _)⟩
  · rw [hn ds fun i j e => h ⟨i, j, e⟩] at p
    exact p.elim
theorem opn_max2 : OpN K mg (fun xs H Q => ∃ i j, xs = [.int i, .int j] ∧ Q (.int (if j > i then j else i)) H) max2D := two_ints (g := fun i j => if j > i then j else i) (fun _ _ => rfl) fun ds h => by
  unfold max2D
  split
  · exact (h _ _ rfl).elim
  · rfl
theorem opn_min2 : OpN K mg (fun xs H Q => ∃ i j, xs = [.int i, .int j] ∧ Q (.int (if j < i then j else i)) H) min2D := two_ints (g := fun i j => if j < i then j else i) (fun _ _ => rfl) fun ds h => by
  unfold min2D
  split
  · exact (h _ _ rfl).elim
  · rfl
theorem opn_maxL : OpN K mg (rMax K) maxLD := by
  intro xs ds G en so σ H W Q r s p
  match ds, r, p with
  | [.lst ys], r, p =>
    obtain ⟨x, rfl, h⟩ := reps1 r
    cases h with
    | lst h r2 =>
      obtain ⟨ns, e, p⟩ := opM_at2 (oo := intsOf ys) p
      have ev := ints_of r2 e
      subst ev
      cases ns with
      | nil => exact p.elim
      | cons n l => exact ⟨_, n :: l, rfl, s.toSimO.rep.seq h, Nat.succ_pos _, fun m h1 h2 => by rw [mxI_uniq h1 h2]; exact Post.ok (v := V.int (mxI n l)) p s (.int _)⟩
  | [], _, p => exact p.elim
  | [.non], _, p => exact p.elim
  | [.bl _], _, p => exact p.elim
  | [.int _], _, p => exact p.elim
  | [.str _], _, p => exact p.elim
  | [.tup _], _, p => exact p.elim
  | [.dct _], _, p => exact p.elim
  | [.obj _], _, p => exact p.elim
  | d :: _ :: _, _, p => cases d <;> exact False.elim p
end
section
variable {X : Cx}
def rMinS (K : PySem.W.Frag) : List V → Hp → VK → Prop := fun vs H Q => ∃ (a : Addr) (x : Str) (ss : List Str), vs = [V.ref a] ∧ SqL K H a ((x :: ss).map V.str) ∧ Q (.str (PySem.W.minOf x ss)) H
theorem cr_minS (hc : X.calm = true) (hu : X.A.units + 64 < cLine) : CallR X (.builtin "min") (rMinS X.K) := by
  intro pins s σ H vs us Q I r h
  obtain ⟨a, x, ss, rfl, hs, q⟩ := h
  obtain ⟨its, rv, hl, _⟩ := I.list hs
  rw [Vals.ref1 r]
  refine PySem.W.min_list_datum (α := Str) (x := x) (xs := ss) (I.ok.hd hc) hl.isList (PySem.W.HoldAll.of_strs rv.strs) (by show X.A.units + 1 + 0 < cLine; omega) fun i v h' tk _ hv hk => ?_
  obtain ⟨t, rfl⟩ := PySem.W.str_of_holds hv
  exact ⟨.str _, H, I.kept hk, ⟨t, rfl⟩, q⟩
theorem opn_minS {K : PySem.W.Frag} {mg : Ev} : OpN K mg (rMinS K) minSD := by
  intro xs ds G en so σ H W Q r s p
  match ds, r, p with
  | [.lst ys], r, p =>
    obtain ⟨x, rfl, h⟩ := reps1 r
    cases h with
    | lst h r2 =>
      obtain ⟨ns, e, p⟩ := opM_at2 (oo := strsOf ys) p
      have ev := strs_of r2 e
      subst ev
      cases ns with
      | nil => exact p.elim
      | cons n l =>
        refine ⟨_, sT n, l.map sT, rfl, s.toSimO.rep.seq h, Post.ok p s (.of_str _ ?_)⟩
        rw [mnS_of, List.map_map]
        have : ((fun x : Str => x.cps.toList) ∘ sT) = id := by funext z; simp [sT]
        rw [this, List.map_id]
        simp [sT]
  | [], _, p => exact p.elim
  | [.non], _, p => exact p.elim
  | [.bl _], _, p => exact p.elim
  | [.int _], _, p => exact p.elim
  | [.str _], _, p => exact p.elim
  | [.tup _], _, p => exact p.elim
  | [.dct _], _, p => exact p.elim
  | [.obj _], _, p => exact p.elim
  | d :: _ :: _, _, p => cases d <;> exact False.elim p
/-! ### default=.. -/
def rMaxDf (K : PySem.W.Frag) : List V → List V → Hp → VK → Prop := fun vs zs H Q => ∃ (a : Addr) (ns : List Int) (z : V), vs = [V.ref a] ∧ zs = [z] ∧ SqL K H a (ns.map V.int) ∧ (ns = [] → Q z H) ∧ ∀ n l, ns = n :: l → Q (.int (mxI n l)) H
theorem cr_maxDf (hc : X.calm = true) (hu : X.A.units + 64 < cLine) : CallRK X (.builtin "max") [Str.ofString "default"] (rMaxDf X.K) := by
  rintro pins s σ H xs zs us ws Q I r rz ⟨a, ns, z, rfl, rfl, hs, q0, q1⟩
  obtain ⟨its, rv, hl, _⟩ := I.list hs
  rw [Vals.ref1 r]
  obtain ⟨w1, rfl, ew⟩ := vals1 rz
  refine PySem.W.max_list_datum_default (α := Int) (xs := ns) (I.ok.hd hc) hl.isList (PySem.W.HoldAll.of_ints rv.ints) (by show X.A.units + 1 + 0 < cLine; omega) (fun e h' tk hk => ⟨z, H, I.kept hk, ew, q0 e⟩) fun n l i v h' tk e _ hv hk => ?_
  obtain ⟨t, rfl⟩ := PySem.W.int_of_holds hv
  exact ⟨.int _, H, I.kept hk, ⟨t, rfl⟩, by rw [mxI_of]; exact q1 n l e⟩
def rMinDf (K : PySem.W.Frag) : List V → List V → Hp → VK → Prop := fun vs zs H Q => ∃ (a : Addr) (ns : List Str) (z : V), vs = [V.ref a] ∧ zs = [z] ∧ SqL K H a (ns.map V.str) ∧ (ns = [] → Q z H) ∧ ∀ n l, ns = n :: l → Q (.str (PySem.W.minOf n l)) H
theorem cr_minDf (hc : X.calm = true) (hu : X.A.units + 64 < cLine) : CallRK X (.builtin "min") [Str.ofString "default"] (rMinDf X.K) := by
  rintro pins s σ H xs zs us ws Q I r rz ⟨a, ns, z, rfl, rfl, hs, q0, q1⟩
  obtain ⟨its, rv, hl, _⟩ := I.list hs
  rw [Vals.ref1 r]
  obtain ⟨w1, rfl, ew⟩ := vals1 rz
  refine PySem.W.min_list_datum_default (α := Str) (xs := ns) (I.ok.hd hc) hl.isList (PySem.W.HoldAll.of_strs rv.strs) (by show X.A.units + 1 + 0 < cLine; omega) (fun e h' tk hk => ⟨z, H, I.kept hk, ew, q0 e⟩) fun n l i v h' tk e _ hv hk => ?_
  obtain ⟨t, rfl⟩ := PySem.W.str_of_holds hv
  exact ⟨.str _, H, I.kept hk, ⟨t, rfl⟩, q1 n l e⟩
section
variable {W : WX} {e : Expr} {ms : M (List D)} {pos p p1 kp : Pos} {j : Nat}
theorem d_maxDf {n : Int} (hg : Gl X "max") (hm : X.mg "max" = none) (hc : X.calm = true) (hu : X.A.units + 64 < cLine) (ha : DA X W [e] ms)
    (he : backTo pos (starEach [e] X.env) = (false, eval e X.env) :: backTo pos (starEach [] X.env) := by rfl) (hpl : (backTo pos (starEach [e] X.env)).any (·.1) = false := by rfl)
    (hall : (backToKw pos (keywordEach [⟨some "default", .Constant (.int n) j p1, kp⟩] X.env)).all (·.1.isSome) = true := by rfl) (hnone : (backToKw pos (keywordEach [⟨some "default", .Constant (.int n) j p1, kp⟩] X.env)).any (·.1.isNone) = false := by rfl)
    (hks : (backToKw pos (keywordEach [⟨some "default", .Constant (.int n) j p1, kp⟩] X.env)).filterMap (·.1) = [Str.ofString "default"] := by rfl) :
    DE X W (.Call (.Name "max" p) [e] [⟨some "default", .Constant (.int n) j p1, kp⟩] pos) (bd ms (maxDf (.int n))) := by
  refine ⟨PE_imp (pe_callBK (ks := [Str.ofString "default"]) (cr_maxDf hc hu) hg hm (by decide +kernel) ha.pa (pk_cons pe_int pk_nil) (by decide) (by decide) he hpl hall hnone hks) fun σ H Q ⟨G, en, so, s, q⟩ => ⟨G, en, so, s, (Post.bind (R1 := rlDs X.K) q).imp ?_⟩⟩
  intro vs H1 ⟨G1, en1, so1, ds, _, r1, s1, p1⟩
  show rMaxDf X.K vs [.int n] H1 Q
  match ds, r1, p1 with
  | [.lst ys], r1, p1 =>
    obtain ⟨x, rfl, h⟩ := reps1 r1
    cases h with
    | lst h r2 =>
      obtain ⟨ns, e, p2⟩ := opM_at2 (oo := intsOf ys) p1
      have ev := ints_of r2 e
      subst ev
      refine ⟨_, ns, .int n, rfl, rfl, s1.toSimO.rep.seq h, fun e0 => ?_, fun m l e0 => ?_⟩
      · subst e0; exact Post.ok (v := V.int n) p2 s1 (.int _)
      · subst e0; exact Post.ok (v := V.int (mxI m l)) p2 s1 (.int _)
  | [], _, p1 => exact p1.elim
  | [.non], _, p1 => exact p1.elim
  | [.bl _], _, p1 => exact p1.elim
  | [.int _], _, p1 => exact p1.elim
  | [.str _], _, p1 => exact p1.elim
  | [.tup _], _, p1 => exact p1.elim
  | [.dct _], _, p1 => exact p1.elim
  | [.obj _], _, p1 => exact p1.elim
  | d :: _ :: _, _, p1 => cases d <;> exact False.elim p1
theorem d_minDf (hg : Gl X "min") (hm : X.mg "min" = none) (hc : X.calm = true) (hu : X.A.units + 64 < cLine) (ha : DA X W [e] ms)
    (he : backTo pos (starEach [e] X.env) = (false, eval e X.env) :: backTo pos (starEach [] X.env) := by rfl) (hpl : (backTo pos (starEach [e] X.env)).any (·.1) = false := by rfl)
    (hall : (backToKw pos (keywordEach [⟨some "default", .Constant .none j p1, kp⟩] X.env)).all (·.1.isSome) = true := by rfl) (hnone : (backToKw pos (keywordEach [⟨some "default", .Constant .none j p1, kp⟩] X.env)).any (·.1.isNone) = false := by rfl)
    (hks : (backToKw pos (keywordEach [⟨some "default", .Constant .none j p1, kp⟩] X.env)).filterMap (·.1) = [Str.ofString "default"] := by rfl) :
    DE X W (.Call (.Name "min" p) [e] [⟨some "default", .Constant .none j p1, kp⟩] pos) (bd ms (minDf .non)) := by
  refine ⟨PE_imp (pe_callBK (ks := [Str.ofString "default"]) (cr_minDf hc hu) hg hm (by decide +kernel) ha.pa (pk_cons pe_non pk_nil) (by decide) (by decide) he hpl hall hnone hks) fun σ H Q ⟨G, en, so, s, q⟩ => ⟨G, en, so, s, (Post.bind (R1 := rlDs X.K) q).imp ?_⟩⟩
  intro vs H1 ⟨G1, en1, so1, ds, _, r1, s1, p1⟩
  show rMinDf X.K vs [.non] H1 Q
  match ds, r1, p1 with
  | [.lst ys], r1, p1 =>
    obtain ⟨x, rfl, h⟩ := reps1 r1
    cases h with
    | lst h r2 =>
      obtain ⟨ns, e, p2⟩ := opM_at2 (oo := strsOf ys) p1
      have ev := strs_of r2 e
      subst ev
      refine ⟨_, ns.map sT, .non, rfl, rfl, s1.toSimO.rep.seq h, fun e0 => ?_, fun m l e0 => ?_⟩
      · cases ns with
        | nil => exact Post.ok (v := V.non) p2 s1 .non
        | cons _ _ => cases e0
      · cases ns with
        | nil => cases e0
        | cons n0 l0 =>
          cases e0
          refine Post.ok p2 s1 (.of_str _ ?_)
          rw [mnS_of, List.map_map]
          have : ((fun x : Str => x.cps.toList) ∘ sT) = id := by funext z; simp [sT]
          rw [this, List.map_id]
          simp [sT]
  | [], _, p1 => exact p1.elim
  | [.non], _, p1 => exact p1.elim
  | [.bl _], _, p1 => exact p1.elim
  | [.int _], _, p1 => exact p1.elim
  | [.str _], _, p1 => exact p1.elim
  | [.tup _], _, p1 => exact p1.elim
  | [.dct _], _, p1 => exact p1.elim
  | [.obj _], _, p1 => exact p1.elim
  | d :: _ :: _, _, p1 => cases d <;> exact False.elim p1
end
/-! ### list.index, texts -/
def idxC : C → D → M D
  | .lst xs, .str z => opM (strsOf xs) fun l => gd (z ∈ l) (pu (.int (l.idxOf z)))
  | _, _ => no
def mLIx (mh : M Hd) (m : M D) : M D := bd mh fun h => bd (rdH h) fun c => gd (isLst c = true) (bd m fun d => bd (rdH h) fun c => idxC c d)
section
variable {W : WX} {e e1 : Expr} {mh : M Hd} {m1 : M D} {pos apos : Pos}
theorem idx_at : ∀ (l : List (List Nat)) (z : List Nat), z ∈ l → l[l.idxOf z]? = some z ∧ ∀ m x, m < l.idxOf z → l[m]? = some x → x ≠ z
  | [], _, h => by cases h
  | a :: l, z, h => by
    by_cases e : a = z
    · subst e
      rw [List.idxOf_cons_self]
      exact ⟨rfl, fun m x h _ => absurd h (Nat.not_lt_zero _)⟩
    · have e0 : (a :: l).idxOf z = l.idxOf z + 1 := by rw [List.idxOf_cons, show (a == z) = false by simpa using e]; rfl
      rw [e0]
      obtain ⟨h1, h2⟩ := idx_at l z ((List.mem_cons.mp h).resolve_left (Ne.symm e))
      refine ⟨h1, fun m x hm hx => ?_⟩
      cases m with
      | zero => cases hx; exact e
      | succ m => exact h2 m x (Nat.lt_of_succ_lt_succ hm) hx
theorem d_lidx (ho : DH X W e mh) (ha : DE X W e1 m1)
    (hbase : attributeBase e "index" X.env (eval e X.env) = eval e X.env := by rfl)
    (hfew : ((backTo pos (starEach (e1 :: []) X.env)).all (fun x => !x.1) && (backToKw pos (keywordEach [] X.env)).all (fun x => x.1.isSome) && decide ((e1 :: []).length + ([] : List Keyword).length + (if ([] : List Keyword).isEmpty then 0 else 1) < 30)) = true := by rfl)
    (hline : (apos.endLine == pos.line) = true := by rfl) (hs : starEach (e1 :: []) X.env = (false, eval e1 X.env) :: starEach [] X.env := by rfl) (hplain : (backTo pos (starEach [] X.env)).any (·.1) = false := by rfl) :
    DE X W (.Call (.Attribute e "index" apos) [e1] [] pos) (mLIx mh m1) := by
  refine ⟨PE_imp (pe_bm F.plainAttrs_list PySem.F.slot_list_index PySem.F.type_list_index mt_index ho.pe (pa_cons ha.pe pa_nil hs) hbase hfew hline hs hplain) fun σ H Q ⟨G, en, so, s, p⟩ => ⟨G, en, so, s, (Post.bind (R1 := rlH X.K σ) p).imp fun v H1 ⟨G1, en1, so1, hd, l, r1, s1, p1⟩ => ?_⟩⟩
  obtain ⟨c, _, ca, p2⟩ := rdH_post s1 r1 p1
  obtain ⟨hl, p3⟩ := Post.gd p2
  refine ⟨ty_lst ca hl, G1, en1, so1, s1, (Post.bind (R1 := rlD X.K) p3).imp fun y H2 ⟨G2, en2, so2, d, l2, r2, s2, p4⟩ => ?_⟩
  obtain ⟨c2, _, ca2, p5⟩ := rdH_post s2 (r1.up l2) p4
  cases c2 with
  | dct _ => exact False.elim p5
  | lst xs =>
    cases r2 with
    | str z =>
      obtain ⟨ys, ey, p6⟩ := opM_at2 (oo := strsOf xs) p5
      obtain ⟨hz, p7⟩ := Post.gd p6
      obtain ⟨a, vs, rfl, sq, rr⟩ := ca2
      have ev := strs_of rr ey
      subst ev
      obtain ⟨i1, i2⟩ := idx_at ys z hz
      refine ⟨a, _, .str (sT z), ys.idxOf z, .str (sT z), rfl, rfl, sq, rfl, ?_, ?_, ?_, fun m z' hm hz' => ?_, Post.ok (v := V.int _) p7 s2 (.int _)⟩
      · rw [List.all_eq_true]
        intro x hx
        obtain ⟨w, _, rfl⟩ := List.mem_map.mp hx
        rfl
      · rw [List.getElem?_map, List.getElem?_map, i1]; rfl
      · show (sT z == sT z) = true
        exact beq_self_eq_true _
      · rw [List.getElem?_map, List.getElem?_map] at hz'
        cases hq : ys[m]? with
        | none => rw [hq] at hz'; cases hz'
        | some w =>
          rw [hq] at hz'
          cases hz'
          show (sT w == sT z) = false
          rw [beq_eq_false_iff_ne]
          intro e
          have e' := congrArg (fun x : Str => x.cps.toList) e
          simp [sT] at e'
          exact i2 m w hm hq e'
    | _ => exact False.elim p5
end
end
section
variable {en : En} {so : So}
@[simp] theorem max2D_ (i j : Int) : max2D [.int i, .int j] = pu (.int (if j > i then j else i)) := rfl
@[simp] theorem min2D_ (i j : Int) : min2D [.int i, .int j] = pu (.int (if j < i then j else i)) := rfl
@[simp] theorem maxLD_ (xs : List D) : maxLD [.lst xs] = opM (intsOf xs) (hdI (fun n r => pu (.int (mxI n r))) no) := rfl
@[simp] theorem minSD_ (xs : List D) : minSD [.lst xs] = opM (strsOf xs) (hdS (fun n r => pu (.str (mnS n r))) no) := rfl
@[simp] theorem maxDf_ (z : D) (xs : List D) : maxDf z [.lst xs] = opM (intsOf xs) (hdI (fun n r => pu (.int (mxI n r))) (pu z)) := rfl
@[simp] theorem minDf_ (z : D) (xs : List D) : minDf z [.lst xs] = opM (strsOf xs) (hdS (fun n r => pu (.str (mnS n r))) (pu z)) := rfl
@[simp] theorem hdI_nil (f : Int → List Int → M D) (z : M D) : hdI f z [] = z := rfl
@[simp] theorem hdI_cons (f : Int → List Int → M D) (z : M D) (n : Int) (r : List Int) : hdI f z (n :: r) = f n r := rfl
@[simp] theorem hdS_nil (f : List Nat → List (List Nat) → M D) (z : M D) : hdS f z [] = z := rfl
@[simp] theorem hdS_cons (f : List Nat → List (List Nat) → M D) (z : M D) (n : List Nat) (r : List (List Nat)) : hdS f z (n :: r) = f n r := rfl
@[simp] theorem intsOf_map : ∀ l : List Int, intsOf (l.map D.int) = some l
  | [] => rfl
  | a :: l => by rw [List.map_cons]; show (intsOf (l.map D.int)).map (a :: ·) = _; rw [intsOf_map l]; rfl
@[simp] theorem mLIx_ (mh : M Hd) (m : M D) : mLIx mh m en so = bdR (mh en so) fun h => bd (rdH h) fun c => gd (isLst c = true) (bd m fun d => bd (rdH h) fun c => idxC c d) := rfl
@[simp] theorem idxC_ (xs : List D) (z : List Nat) : idxC (.lst xs) (.str z) = opM (strsOf xs) fun l => gd (z ∈ l) (pu (.int (l.idxOf z))) := rfl
end
end
end Dl

set_option Elab.async false
set_option linter.all false
set_option maxRecDepth 100000
set_option maxHeartbeats 1000000
/-! The data level: code that is not reached (its program is no). -/
namespace Dl
open PySem PySem.Spec PyProof.Rows L2
noncomputable section
def sDead : M Fl := no
def eDead : M D := no
def bDead : M B := no
def tDead : M Bool := no
section
variable {X : Cx} {W : WX} {e : Expr} {st : Stmt} {sts : List Stmt}
theorem s_dead : DS X W st sDead := ⟨⟨fun _ _ _ _ _ _ ⟨_, _, _, _, p⟩ => False.elim p⟩⟩
theorem ss_dead : DSs X W sts sDead := ⟨⟨fun _ _ _ _ _ _ ⟨_, _, _, _, p⟩ => False.elim p⟩⟩
theorem e_dead : DE X W e eDead := ⟨⟨fun _ _ _ _ _ _ ⟨_, _, _, _, p⟩ => False.elim p⟩⟩
theorem b_dead : DB X W e bDead := ⟨⟨fun _ _ _ _ _ _ ⟨_, _, _, _, p⟩ => False.elim p⟩⟩
theorem t_dead : DT X W e tDead := ⟨⟨fun _ _ _ _ _ _ ⟨_, _, _, _, p⟩ => False.elim p⟩⟩
end
section
variable {en : En} {so : So}
@[simp] theorem sDead_ : sDead en so = .no := rfl
@[simp] theorem eDead_ : eDead en so = .no := rfl
@[simp] theorem bDead_ : bDead en so = .no := rfl
@[simp] theorem tDead_ : tDead en so = .no := rfl
end
/-! ### the turns of a while -/
section
variable {t : M Bool} {body : M Fl} {n : Nat} {en en1 en2 : En} {so so1 so2 : So}
theorem whGo_f (ht : t en so = .ok false en1 so1) : whGo t body (n + 1) en so = .ok .nx en1 so1 := by
  unfold whGo; rw [ht]
theorem whGo_nx (ht : t en so = .ok true en1 so1) (hb : body en1 so1 = .ok .nx en2 so2) : whGo t body (n + 1) en so = whGo t body n en2 so2 := by
  rw [whGo]; dsimp only; rw [ht]; dsimp only; rw [hb]
theorem whGo_ct (ht : t en so = .ok true en1 so1) (hb : body en1 so1 = .ok .ct en2 so2) : whGo t body (n + 1) en so = whGo t body n en2 so2 := by
  rw [whGo]; dsimp only; rw [ht]; dsimp only; rw [hb]
theorem whGo_bk (ht : t en so = .ok true en1 so1) (hb : body en1 so1 = .ok .bk en2 so2) : whGo t body (n + 1) en so = .ok .nx en2 so2 := by
  rw [whGo]; dsimp only; rw [ht]; dsimp only; rw [hb]
theorem whGo_rt {b : B} (ht : t en so = .ok true en1 so1) (hb : body en1 so1 = .ok (.rt b) en2 so2) : whGo t body (n + 1) en so = .ok (.rt b) en2 so2 := by
  rw [whGo]; dsimp only; rw [ht]; dsimp only; rw [hb]
theorem whGo_exc {x : Xc} (ht : t en so = .ok true en1 so1) (hb : body en1 so1 = .exc x en2 so2) : whGo t body (n + 1) en so = .exc x en2 so2 := by
  rw [whGo]; dsimp only; rw [ht]; dsimp only; rw [hb]
end
section
variable {tg : Tg} {body : M Fl} {d : D} {ds : List D} {en en1 en2 : En} {so so2 : So}
theorem forGo_nx (ht : tg d en = some en1) (hb : body en1 so = .ok .nx en2 so2) : forGo tg body (d :: ds) en so = forGo tg body ds en2 so2 := by
  rw [forGo_cons ht, hb]
theorem forGo_ct (ht : tg d en = some en1) (hb : body en1 so = .ok .ct en2 so2) : forGo tg body (d :: ds) en so = forGo tg body ds en2 so2 := by
  rw [forGo_cons ht, hb]
theorem forGo_bk (ht : tg d en = some en1) (hb : body en1 so = .ok .bk en2 so2) : forGo tg body (d :: ds) en so = .ok .nx en2 so2 := by
  rw [forGo_cons ht, hb]
theorem forGo_rt {b : B} (ht : tg d en = some en1) (hb : body en1 so = .ok (.rt b) en2 so2) : forGo tg body (d :: ds) en so = .ok (.rt b) en2 so2 := by
  rw [forGo_cons ht, hb]
theorem forGo_exc {x : Xc} (ht : tg d en = some en1) (hb : body en1 so = .exc x en2 so2) : forGo tg body (d :: ds) en so = .exc x en2 so2 := by
  rw [forGo_cons ht, hb]
end
/-- a comprehension within a comprehension -/
theorem look_relab (f : Str → NameKind → Bool) : ∀ (l : List (Str × NameKind)) (x : Str), (l.lookup x = some .cell ∨ l.lookup x = some .free) →
    (l.map fun (n, k) => if f n k then (n, NameKind.cell) else (n, k)).lookup x = some .cell ∨ (l.map fun (n, k) => if f n k then (n, NameKind.cell) else (n, k)).lookup x = some .free
  | [], x, h => by simp at h
  | (n, k) :: r, x, h => by
    rw [List.map_cons]
    dsimp only
    cases hx : x == n with
    | true =>
      rw [List.lookup_cons, hx] at h
      by_cases c : f n k = true
      · rw [if_pos c, List.lookup_cons, hx]
        exact .inl rfl
      · rw [if_neg c, List.lookup_cons, hx]
        exact h
    | false =>
      rw [List.lookup_cons, hx] at h
      by_cases c : f n k = true
      · rw [if_pos c, List.lookup_cons, hx]
        exact look_relab f r x h
      · rw [if_neg c, List.lookup_cons, hx]
        exact look_relab f r x h
theorem blk_in {X : Cx} {s : Shared} {H : Hp} {so : Scope} {cl : List (Str × Addr)} {C : Addr} {e : Env} {fp : List Addr} {N : List Str} {scope : Scope} {own : List (Str × Nat)} (hN : (X.blk s H so (compEnvC so cl C e) fp).N = N) (h : blkC N so scope own = true) :
    BlkOk (X.blk s H so (compEnvC so cl C e) fp).N (X.blk s H so (compEnvC so cl C e) fp).env.scope scope own := by
  rw [hN]
  obtain ⟨h1, h2, h3, h4, h5⟩ := blkOk_by h
  refine ⟨h1, h2, h3, fun y hy hf => ?_, h5⟩
  exact look_relab (fun n k => k == NameKind.free && e.scope.kind == .function && e.kindOf n == some .cell) so.names y.1 (h4 y hy hf)
/-! ### dicts as they stand, at any depth -/
section
variable {so : So} {A : Type} {f : A → D} {M : Tb A}
theorem vw_tabn {n k : Nat} (h : so[k]? = some (.cel (.dct (tab f M)))) (hf : ∀ a, vwD so n (f a) = f a) : vwD so (n + 1) (.obj k) = .dct (tab f M) := by
  have e : vwD so (n + 1) (.obj k) = (match so[k]? with
    | some (.cel (.lst xs)) => D.lst (xs.map (vwD so n))
    | some (.cel (.dct kv)) => D.dct (kv.map fun p : Ky × D => (p.1, vwD so n p.2))
    | some (.lck kv) => D.dct (kv.map fun p : Ky × D => (p.1, vwD so n p.2))
    | _ => D.obj k) := rfl
  rw [e, h]
  show D.dct _ = D.dct _
  congr 1
  unfold tab
  rw [List.map_map]
  apply List.map_congr_left
  intro p _
  show (Sum.inr p.1, vwD so n (f p.2)) = _
  rw [hf]
theorem eqE_tabn {n : Nat} (nd : (keys M).Nodup) (hf : ∀ a, eqE n (f a) (f a) = some true) : eqE (n + 1) (.dct (tab f M)) (.dct (tab f M)) = some true := by
  show (if (tab f M).length = (tab f M).length then hitE (eqE n) (tab f M) (tab f M) else some false) = _
  rw [if_pos rfl]
  refine hit_same fun p hp => ?_
  obtain ⟨y, hy, rfl⟩ := List.mem_map.mp hp
  refine ⟨?_, hf _⟩
  rw [valD_tab, look_of_mem nd hy]
  rfl
theorem eqE_strn (n : Nat) (k : List Nat) : eqE (n + 1) (.str k) (.str k) = some true := by
  show (if okq 20 (.str k) = true ∧ okq 20 (.str k) = true then some (eqD (.str k) (.str k)) else none) = _
  simp
theorem eqE_intn (n : Nat) (k : Int) : eqE (n + 1) (.int k) (.int k) = some true := by
  show (if okq 20 (.int k) = true ∧ okq 20 (.int k) = true then some (eqD (.int k) (.int k)) else none) = _
  simp
end
end
end Dl

set_option Elab.async false
set_option linter.all false
set_option maxRecDepth 100000
set_option maxHeartbeats 1000000
/-! The data level: d.pop(k). -/
namespace Dl
open PySem PySem.Spec PyProof.Rows L2
noncomputable section
def dpoF (k : Ky) : C → Option (D × C)
  | .dct kv => (valD kv k).map fun v => (v, .dct (dropT kv k))
  | _ => none
def mDPop (md mk : M D) : M D := bd md fun d => bd (dctO d) fun _ => bd mk fun y => opM (kyOf y) fun k => wrtD d (dpoF k)
section
variable {X : Cx} {W : WX} {o e : Expr} {md mk : M D} {apos cpos : Pos}
theorem d_dpop (ho : DE X W o md) (he : DE X W e mk) (m : M1 X o "pop" apos e cpos := by exact ⟨rfl, rfl, rfl, rfl⟩) : DE X W (.Call (.Attribute o "pop" apos) [e] [] cpos) (mDPop md mk) := by
  refine ⟨PE_imp (pe_dpop1 ho.pe he.pe m) fun σ H Q ⟨G, en, so, s, p⟩ => ?_⟩
  refine ⟨G, en, so, s, (Post.bind (R1 := rlD X.K) p).imp fun v H1 ⟨G1, en1, so1, d, l1, r1, s1, p1⟩ => ?_⟩
  obtain ⟨kds, ca, p2⟩ := dctO_at s1 r1 p1
  obtain ⟨a, rfl, isd⟩ := ca.isD
  refine ⟨a, rfl, isd, G1, en1, so1, s1, (Post.bind (R1 := rlD X.K) p2).imp fun y H2 ⟨G2, en2, so2, dy, l2, r2, s2, p3⟩ => ?_⟩
  obtain ⟨k, ek, p4⟩ := opM_at p3
  obtain ⟨a0, u, c0, z, c', e0, hu', ro, hf, w⟩ := wrtD_at s2 (Rep.up r1 l2) p4
  cases e0
  cases c0 with
  | lst _ => cases hf
  | dct kv =>
    have hf : (valD kv k).map (fun v => (v, C.dct (dropT kv k))) = some (z, c') := hf
    obtain ⟨dv, ev, e2⟩ := Option.map_eq_some_iff.mp hf
    cases e2
    obtain ⟨kvs, rfl, rk⟩ := ro
    have rv := repK_val k rk
    rw [ev] at rv
    generalize hw : valV kvs (kT k) = w0 at rv
    cases rv with
    | some rr =>
      refine ⟨kvs, kT k, _, hu', rep_ky r2 ek, hw, ?_⟩
      obtain ⟨en', so', s5, p5⟩ := w (.dK (dropK kvs (kT k))) ⟨_, rfl, repK_drop k rk⟩
      exact p5.ok s5 rr
end
section
variable {en : En} {so : So}
@[simp] theorem mDPop_ (md mk : M D) : mDPop md mk en so = bdR (md en so) fun d => bd (dctO d) fun _ => bd mk fun y => opM (kyOf y) fun k => wrtD d (dpoF k) := rfl
theorem dpoF_ {kv : List (Ky × D)} {k : Ky} {v : D} (h : valD kv k = some v) : dpoF k (.dct kv) = some (v, .dct (dropT kv k)) := by
  show (valD kv k).map _ = _
  rw [h]; rfl
end
end
end Dl

set_option Elab.async false
set_option linter.all false
set_option maxRecDepth 100000
set_option maxHeartbeats 1000000
/-! The data level: parameters with defaults that are constants (positional; a class's __init__), -e, sorted of a dict's int keys. -/
namespace Dl
open PySem PySem.Spec PyProof.Rows L2
noncomputable section
/-- f with the last arguments fixed -/
def dfl (dd : List D) (f : FunM) : FunM := fun ds so => f (ds ++ dd) so
/-- constants stand for themselves -/
def CstV (dvs : List V) (dd : List D) : Prop := ∀ (K : PySem.W.Frag) (F : Hp) (rho : List (Addr × Addr)), Reps K F rho dvs dd
theorem cst_nil : CstV [] [] := fun _ _ _ => .nil
theorem cst_non {dvs : List V} {dd : List D} (h : CstV dvs dd) : CstV (.non :: dvs) (.non :: dd) := fun K F rho => .cons .non (h K F rho)
theorem cst_bl {dvs : List V} {dd : List D} (b : Bool) (h : CstV dvs dd) : CstV (.bl b :: dvs) (.bl b :: dd) := fun K F rho => .cons (.bl b) (h K F rho)
theorem cst_int {dvs : List V} {dd : List D} (b : Int) (h : CstV dvs dd) : CstV (.int b :: dvs) (.int b :: dd) := fun K F rho => .cons (.int b) (h K F rho)
theorem cst_str {dvs : List V} {dd : List D} (b : List Nat) (h : CstV dvs dd) : CstV (.str (sT b) :: dvs) (.str b :: dd) := fun K F rho => .cons (.str b) (h K F rho)
section
variable {X : Cx} {CX : CXT} {k : Nat} {f C : Addr} {fd : FuncData} {ps : List Str} {sp : Sp} {E : L2.St → XK} {dvs : List V} {dws : List Value}
theorem go_makeD (M : Mk X.K C f) (F : FnOk X.prog X.w X.K X.mg X.base CX k f fd ps sp) (hr : Room (k + 1) X.A) (hd : Vals dvs dws) (hb : Binds X.K fd ps dws) (hx : ∀ σ, PassesAt CX X σ (E σ)) : GoOk X C (fun vs H σ Q => rMk C sp E (vs ++ dvs) H σ Q) := fun pins σ H s us vs Q I r h => by
  generalize hn : s.heap.objs.size = n at *
  have fr : ∀ i, n ≤ i → H i = none := fun i hi => I.hok.fresh (hn ▸ hi)
  have asked := h (n + 1) n (fr _ (Nat.le_succ _)) (fr _ (Nat.le_refl _)) (Nat.ne_of_lt (Nat.lt_succ_self _))
  have J := Inv.made (C := C) I
  subst hn
  have rv : Vals (V.ref (s.heap.objs.size + 1) :: (vs ++ dvs)) (Value.ref (s.heap.objs.size + 1) :: (us ++ dws)) := .cons rfl (r.append hd)
  have bound := hb _ (Value.ref (s.heap.objs.size + 1) :: us) J.kIn (by rw [← F.len _ _ _ _ asked]; exact rv.length.symm)
  have ran := F.run _ X.stack _ _ ⟨Value.ref (s.heap.objs.size + 1) :: us, []⟩ (Value.ref (s.heap.objs.size + 1) :: (us ++ dws)) _ _ (E σ) (hr.make C us []) (J.env0.make C us []) bound rv asked
  refine wpAny_call (make_map (f := f) I.kIn M.makes M.init (beq_iff_eq.mp M.fn) (codeAny_mono ran fun out s' post => ?_))
  match out, post with
  | .error e, post => exact hx σ pins _ _ e s' J post
  | .ok (.ret u), post =>
    obtain ⟨v, H', I3, ru, ev, q⟩ := J.after post
    cases ev
    exact ⟨ru, ⟨V.ref (s.heap.objs.size + 1), H', I3, rfl, q⟩⟩
  | .ok .next, post => exact post.elim
  | .ok .brk, post => exact post.elim
  | .ok .cont, post => exact post.elim
end
/-- the class x of the module, called without its last arguments dd -/
structure NewFD (P : Program) (w : World) (K : PySem.W.Frag) (mg : Str → Option Value) (base : Heap) (c n : Nat) (x : Str) (f : FunM) (dd : List D) (k : Nat) : Prop where
  ex : ∃ C fI fd ps dvs dws, mg x = some (.ref C) ∧ Mk K C fI ∧ FnOk P w K mg base (L2.CX P w) k fI fd ps (spD K mg f) ∧ CstV dvs dd ∧ Vals dvs dws ∧ Binds K fd ps dws
  nm : cnm c = x
  n : (clay c).length = n
section
variable {X : Cx} {W : WX} {e o : Expr} {es : List Expr} {ms : M (List D)} {x : Str} {f : FunM} {dd : List D} {c n k : Nat} {p pos apos : Pos}
theorem new_trD {σ : L2.St} {H1 : Hp} {Q : VK} {mg : Str → Option Value} {K : PySem.W.Frag} {G1 : Gh} {en1 : En} {so1 : So} {vs dvs : List V} {ds : List D} {C a dx : Addr} (hc : CstV dvs dd) (hm : mg (cnm c) = some (.ref C)) (hn : (clay c).length = n) (s1 : Sim K ⟨mg, none⟩ G1 en1 so1 σ H1) (r1 : Reps K G1.F G1.rho vs ds)
    (p1 : Post K ⟨mg, none⟩ G1 W (rlD K) σ (newR so1.length (dfl dd f (.obj so1.length :: ds) (so1 ++ [.ob c (List.replicate n none)])) en1 so1) Q) (hx : H1 a = none) (hdx : H1 dx = none) (ne : dx ≠ a) :
    spD K mg f (.ref a :: (vs ++ dvs)) (upd (upd H1 dx (.own a)) a (.ins C dx [])) (fun v H2 => v = .non ∧ Q (.ref a) H2) (WE W σ) :=
  new_tr (f := f) hm hn s1 (reps_app' r1 (hc K G1.F G1.rho)) p1 hx hdx ne
theorem d_newD (N : NewFD X.prog X.w X.K X.mg X.base c n x f dd k) (hr : Room (k + 1) X.A) (hg : Gl X x) (tk : Takes X W) (ha : DA X W (e :: es) ms)
    (hdb : (x == ("__debug__" : Str)) = false := by decide) (he : starEach (e :: es) X.env = (false, eval e X.env) :: starEach es X.env := by rfl) (hpl : (backTo pos (starEach es X.env)).any (·.1) = false := by rfl) :
    DE X W (.Call (.Name x p) (e :: es) [] pos) (mNew c n (dfl dd f) ms) := by
  obtain ⟨C, fI, fd, ps, dvs, dws, hm, M, F, hc, hd, hb⟩ := N.ex
  have hpa : PA X (e :: es) (tM X.K ⟨X.mg, none⟩ W (rlDs X.K) ms) := by
    have := ha.pa
    rw [ev_none hr.hd] at this
    exact this
  refine ⟨?_⟩
  rw [ev_none hr.hd]
  refine PE_imp (pe_go (go_makeD (E := WE W) M F hr hd hb fun σ => passAt tk σ) hg hm M.kp hpa hdb he hpl) fun σ H Q ⟨G, en, so, s, p⟩ => ?_
  refine ⟨G, en, so, s, (Post.bind (R1 := rlDs X.K) p).imp fun vs H1 ⟨G1, en1, so1, ds, l, r1, s1, p1⟩ a dx hx hdx ne => ?_⟩
  exact new_trD hc (by rw [N.nm]; exact hm) N.n s1 r1 p1 hx hdx ne
theorem d_newD0 (N : NewFD X.prog X.w X.K X.mg X.base c n x f dd k) (hr : Room (k + 1) X.A) (hg : Gl X x) (tk : Takes X W) (hdb : (x == ("__debug__" : Str)) = false := by decide) : DE X W (.Call (.Name x p) [] [] pos) (mNew c n (dfl dd f) aN) := by
  obtain ⟨C, fI, fd, ps, dvs, dws, hm, M, F, hc, hd, hb⟩ := N.ex
  refine ⟨?_⟩
  rw [ev_none hr.hd]
  refine PE_imp (pe_go0 (go_makeD (E := WE W) M F hr hd hb fun σ => passAt tk σ) hg hm M.kp hdb) fun σ H Q ⟨G, en, so, s, p⟩ => ?_
  exact fun a dx hx hdx ne => new_trD (vs := []) (ds := []) hc (by rw [N.nm]; exact hm) N.n s .nil p hx hdx ne
end
/-- THE RULE for a def with defaults: its body -/
theorem fn_dD {P : Program} {w : World} {K : PySem.W.Frag} {mg : Str → Option Value} {base : Heap} {x qual : Str} {params : Arguments} {body : List Stmt} {scope : Scope} {dvs : List V} {kws : List (Str × V)} {f : Addr} {fd : FuncData} {N ps : List Str} {k : Nat} {m : M Fl} (F : FunD K x qual params body scope dvs kws f fd) (S : FnScope N ps scope)
    (hb : ∀ (cdv : Value) (A : Around) (outer : List Env) (s : Shared) (H : Hp) (E : XK), Room k (A.deeper (envOfC qual scope s.heap.objs.size f cdv)) →
      DSs (cxOf (L2.CX P w) P w K mg base N qual scope f cdv A outer s H E) (fun Cl d _ H => E Cl d H) body m) : FnOk P w K mg base (L2.CX P w) (k + 1) f fd ps (spD K mg (mkF ps.length N.length m)) := by
  refine F.ok S (fun vs H Q E ⟨G, ds, so, r, s, p⟩ => ?_) fun cdv A outer s H vs Q E hr ⟨G, ds, so, r, sm, p⟩ => ⟨_, ev_ps hr.hd (hb cdv A outer s H E hr).ps, G, ds.map (fun d => some (.dat d)) ++ List.replicate (N.length - ds.length) none, so, ?_, ?_⟩
  · unfold mkF at p
    by_cases h : ds.length = ps.length
    · rw [r.len]; exact h
    · rw [if_neg h] at p; exact False.elim p
  · have e : L2.start N vs = vs.map some ++ List.replicate (N.length - ds.length) none := by rw [← r.len]; rfl
    rw [e]
    exact ⟨sm, by simp [r.len], fun i b e => args_sl _ i b r e⟩
  · unfold mkF at p
    by_cases h : ds.length = ps.length
    · rw [if_pos h] at p
      revert p
      generalize m (ds.map (fun d => some (.dat d)) ++ List.replicate (N.length - ds.length) none) so = r
      intro p
      cases r with
      | no => exact False.elim p
      | exc x en so => exact fun Cl d σ' H' G' l s' x' => p Cl d H' G' l s'.toSimO x'
      | ok fl en so =>
        cases fl with
        | nx => exact fun σ' H' G' l s' => p .non H' G' l s'.toSimO .non
        | rt b => exact fun v σ' H' G' l s' rb => p v H' G' l s'.toSimO rb
        | bk => exact False.elim p
        | ct => exact False.elim p
    · rw [if_neg h] at p; exact False.elim p
theorem bind_full {K : PySem.W.Frag} {fd : FuncData} {ps : List Str} (h : ∃ ds, Vals ([] : List V) ds ∧ Binds K fd ps ds) : Binds K fd ps [] := by
  obtain ⟨ds, hv, hb⟩ := h
  cases hv
  exact hb
/-! ### -e -/
def mNeg (m : M D) : M D := bd m fun d => match d with
  | .int i => pu (.int (-i))
  | _ => no
def kNeg : D → M D := fun d => match d with
  | .int i => pu (.int (-i))
  | _ => no
section
variable {X : Cx} {W : WX} {e : Expr} {m : M D} {pos : Pos}
theorem d_neg (ha : DE X W e m) : DE X W (.UnaryOp .USub e pos) (mNeg m) := by
  refine ⟨PE_imp (pe_un un_neg ha.pe) fun σ H Q ⟨G, en, so, s, p⟩ => ?_⟩
  refine ⟨G, en, so, s, (Post.bind (R1 := rlD X.K) p).imp fun v H1 ⟨G1, en1, so1, d, l, r1, s1, p1⟩ => ?_⟩
  cases r1 with
  | int i => exact ⟨i, rfl, Post.ok (v := V.int (-i)) p1 s1 (.int _)⟩
  | _ => exact False.elim p1
end
/-! ### sorted of int keys -/
def kints : List (Ky × D) → Option (List Int)
  | [] => some []
  | (.inl i, _) :: r => (kints r).map (i :: ·)
  | _ => none
def srtI (l : List Int) : List Int := l.mergeSort fun a b => decide (a ≤ b)
def sortedKI : List D → M B
  | [d] => bd (dctO d) fun kv => opM (kints kv) fun ys => gd (ys.length < 64) (pu (.cel (.lst ((srtI ys).map .int))))
  | _ => no
theorem srtI_perm (l : List Int) : (srtI l).Perm l := List.mergeSort_perm l _
theorem srtI_uniq {l m : List Int} (hp : m.Perm l) (hs : m.Pairwise (· ≤ ·)) : m = srtI l := by
  have h1 : (srtI l).Pairwise fun a b => decide (a ≤ b) = true := List.pairwise_mergeSort (fun a b c h1 h2 => by simp at *; omega) (fun a b => by simp; omega) l
  have h2 : (srtI l).Pairwise (· ≤ ·) := h1.imp fun h => by simpa using h
  exact List.Perm.eq_of_pairwise (le := fun a b : Int => a ≤ b) (fun a b _ _ => Int.le_antisymm) hs h2 (hp.trans (srtI_perm l).symm)
theorem kints_keys {K : PySem.W.Frag} {F : Hp} {rho : List (Addr × Addr)} : ∀ {kv : List (Ky × D)} {ys : List Int} {kvs : List (Key × V)}, RepK K F rho kvs kv → kints kv = some ys → kvs.map (·.1) = ys.map Sum.inl
  | [], ys, _, .nil, e => by cases e; rfl
  | (.inl i, _) :: r, ys, _, .cons h q, e => by
    have e' : (kints r).map (i :: ·) = some ys := e
    obtain ⟨zs, e2, rfl⟩ := Option.map_eq_some_iff.mp e'
    rw [List.map_cons, List.map_cons, kints_keys q e2]
    rfl
  | (.inr _, _) :: r, ys, _, .cons h q, e => by cases e
theorem opn_sortedKI {K : PySem.W.Frag} {mg : Ev} : OpNB K mg (fun xs H Q => ∃ (a : Addr) (kvs : List (Key × V)) (ks : List Int), xs = [.ref a] ∧ Rd H a (.dK kvs) ∧ kvs.map (·.1) = ks.map Sum.inl ∧ ks.length < 64 ∧ ∀ (ys : List Int) (p : Addr), ys.Perm ks → ys.Pairwise (· ≤ ·) → H p = none → Q (.ref p) (upd H p (.lst (ys.map V.int)))) sortedKI := by
  intro xs ds G en so σ H W Q r s p
  match ds, r, p with
  | [d], r, p =>
    obtain ⟨x, rfl, h⟩ := reps1 r
    obtain ⟨kds, ca, p2⟩ := dctO_at s h p
    obtain ⟨ys, ey, p4⟩ := opM_at p2
    obtain ⟨h64, p5⟩ := Post.gd p4
    obtain ⟨a0, kvs, rfl, hd, rk⟩ := ca
    refine ⟨a0, kvs, ys, rfl, hd, kints_keys rk ey, h64, fun zs q hp hs hq => ?_⟩
    rw [srtI_uniq hp hs]
    exact p5.ok' (tag_le q .tmp) (s.newT (t := .tmp) hq) ⟨q, rfl, tag_own, _, upd_same, reps_ints _⟩
  | [], _, p => exact False.elim p
  | d :: _ :: _, _, p => exact False.elim p
section
variable {en : En} {so : So}
@[simp] theorem dfl_ (dd : List D) (f : FunM) (ds : List D) : dfl dd f ds so = f (ds ++ dd) so := rfl
@[simp] theorem mNeg_ (m : M D) : mNeg m en so = bdR (m en so) kNeg := rfl
@[simp] theorem kNeg_ (i : Int) : kNeg (.int i) = pu (.int (-i)) := rfl
@[simp] theorem sortedKI_ (d : D) : sortedKI [d] en so = bdR (dctO d en so) fun kv => opM (kints kv) fun ys => gd (ys.length < 64) (pu (.cel (.lst ((srtI ys).map .int)))) := rfl
end
end
end Dl

set_option Elab.async false
set_option linter.all false
set_option maxRecDepth 100000
set_option maxHeartbeats 1000000
/-! The data level: h[a:b], isinstance(h, list), list(h) of lists at handles. -/
namespace Dl
open PySem PySem.Spec PyProof.Rows L2
noncomputable section
def slC (c : C) (lo hi : Option Int) : M B := match c with
  | .lst xs => pu (.cel (.lst (cutL xs lo hi)))
  | _ => no
def mSlH (mh : M Hd) (ml mi : M (Option Int)) : M B := bd mh fun h => bd ml fun l => bd mi fun i => bd (rdH h) fun c => slC c l i
def lisC : C → M D
  | .lst _ => pu (.bl true)
  | _ => no
/-- isinstance(h, list) -/
def mIsH (mh : M Hd) : M D := bd mh fun h => bd (rdH h) lisC
def lstC : C → M B
  | .lst xs => pu (.cel (.lst xs))
  | _ => no
/-- list(h) -/
def mLstH (mh : M Hd) : M B := bd mh fun h => bd (rdH h) lstC
section
variable {X : Cx} {W : WX} {a e : Expr} {lo hi : Option Expr} {mh : M Hd} {ml mi : M (Option Int)} {pos p p2 px : Pos} {x : Str}
theorem b_slH (ho : DH X W a mh) (hl : DO X W lo ml) (hh : DO X W hi mi) : DB X W (.Subscript a (.Slice lo hi none p2) pos) (mSlH mh ml mi) := by
  refine ⟨PE_imp (pe_slice sl_list ho.pe hl.po hh.po) fun σ H Q ⟨G, en, so, s, p⟩ => ?_⟩
  refine ⟨G, en, so, s, (Post.bind (R1 := rlH X.K σ) p).imp fun v H1 ⟨G1, en1, so1, hd, _, r1, s1, p1⟩ => ⟨G1, en1, so1, s1, (Post.bind (R1 := fun _ _ a b => a = b) p1).imp fun y H2 ⟨G2, en2, so2, l, l2, r2, s2, p2⟩ => ⟨G2, en2, so2, s2, (Post.bind (R1 := fun _ _ a b => a = b) p2).imp fun z H3 ⟨G3, en3, so3, h, l3, r3, s3, p3⟩ => ?_⟩⟩⟩
  subst r2
  subst r3
  obtain ⟨c, _, ca, p4⟩ := rdH_post s3 (r1.up (l2.trans l3)) p3
  cases c with
  | dct _ => exact False.elim p4
  | lst ds =>
    obtain ⟨a0, vs, rfl, sq, r⟩ := ca
    refine ⟨_, _, rfl, sq, fun p hp => ?_⟩
    exact p4.ok' (tag_le p .tmp) (s3.newT (t := .tmp) hp) ⟨p, rfl, tag_own, _, upd_same, reps_cut r _ _⟩
theorem tyx_lst {K : PySem.W.Frag} {H : Hp} {a : Addr} {vs : List V} (q : SqL K H a vs) : TyX K H (.ref a) (.type "list") := by
  rcases q with (q | ⟨o, q⟩) | ⟨o, its, n, q, c, _⟩
  · exact .base (.lst q)
  · exact .base (.frz q)
  · exact .kList q c
theorem d_isH (ho : DH X W e mh) (hg : Gl X "isinstance") (hm : X.mg "isinstance" = none) (hgT : Gl X x) (hmT : X.mg x = none) (hvT : bootBuiltins x = some (.type "list"))
    (he : starEach [e, .Name x px] X.env = (false, eval e X.env) :: starEach [.Name x px] X.env := by rfl) (hpl : (backTo pos (starEach [.Name x px] X.env)).any (·.1) = false := by rfl) (hn : x ≠ "__name__" := by decide) (hd : (x == ("__debug__" : Str)) = false := by decide) : DE X W (.Call (.Name "isinstance" p) [e, .Name x px] [] pos) (mIsH mh) := by
  refine ⟨PE_imp (pe_callB call_isi hg hm boot_isinstance (pa_cons ho.pe (pa_cons (pe_bltn hgT hmT hvT (v := .ty "list") rfl hn hd) pa_nil) he) (he := he) (hpl := hpl)) fun σ H Q q => ?_⟩
  obtain ⟨G, en, so, s, p⟩ := q
  refine ⟨G, en, so, s, (Post.bind (R1 := rlH X.K σ) p).imp fun v H1 ⟨G1, en1, so1, d, l, r1, s1, p1⟩ => ?_⟩
  obtain ⟨c, _, ca, p2⟩ := rdH_post s1 r1 p1
  cases c with
  | dct _ => exact False.elim p2
  | lst ds =>
    obtain ⟨a0, vs, rfl, sq, r⟩ := ca
    refine ⟨.ref a0, .ty "list", .type "list", .type "list", true, rfl, .ty _, tyx_lst sq, ?_, Post.ok (v := V.bl true) p2 s1 (.bl _)⟩
    exact kit_ty (kit_all .list "list" (.inr (.inr (.inr (.inr (.inl rfl))))))
theorem b_listH (hg : Gl X "list") (hm : X.mg "list" = none) (ho : DH X W e mh)
    (he : starEach (e :: []) X.env = (false, eval e X.env) :: starEach [] X.env := by rfl) (hpl : (backTo pos (starEach [] X.env)).any (·.1) = false := by rfl) : DB X W (.Call (.Name "list" p) [e] [] pos) (mLstH mh) := by
  refine ⟨PE_imp (pe_callTy call_list_of hg hm (by decide +kernel) (pa_cons ho.pe pa_nil he) (by decide) (by decide) he hpl) fun σ H Q ⟨G, en, so, s, p⟩ => ?_⟩
  refine ⟨G, en, so, s, (Post.bind (R1 := rlH X.K σ) p).imp fun v H1 ⟨G1, en1, so1, hd, l, r1, s1, p1⟩ => ?_⟩
  obtain ⟨c, _, ca, p2⟩ := rdH_post s1 r1 p1
  cases c with
  | dct _ => exact False.elim p2
  | lst ds =>
    obtain ⟨a0, vs, rfl, sq, r⟩ := ca
    refine ⟨a0, vs, rfl, .inl sq, fun q hq => ?_⟩
    exact p2.ok' (tag_le q .tmp) (s1.newT (t := .tmp) hq) ⟨q, rfl, tag_own, _, upd_same, r⟩
end
section
variable {en : En} {so : So}
@[simp] theorem mSlH_ (mh : M Hd) (ml mi : M (Option Int)) : mSlH mh ml mi en so = bdR (mh en so) fun h => bd ml fun l => bd mi fun i => bd (rdH h) fun c => slC c l i := rfl
@[simp] theorem slC_ (xs : List D) (lo hi : Option Int) : slC (.lst xs) lo hi = pu (.cel (.lst (cutL xs lo hi))) := rfl
@[simp] theorem mIsH_ (mh : M Hd) : mIsH mh en so = bdR (mh en so) fun h => bd (rdH h) lisC := rfl
@[simp] theorem lisC_ (xs : List D) : lisC (.lst xs) = pu (.bl true) := rfl
@[simp] theorem mLstH_ (mh : M Hd) : mLstH mh en so = bdR (mh en so) fun h => bd (rdH h) lstC := rfl
@[simp] theorem lstC_ (xs : List D) : lstC (.lst xs) = pu (.cel (.lst xs)) := rfl
end
end
end Dl

set_option Elab.async false
set_option linter.all false
set_option maxRecDepth 100000
set_option maxHeartbeats 1000000
/-! The data level: x.replace(y, z) of written texts; the module's dicts with text keys. -/
namespace Dl
open PySem PySem.Spec PyProof.Rows PyProof.V L2
noncomputable section
/-! ### replace -/
def replD (y z : List Nat) : D → M D
  | .str x => gd (x.length + (x.length + 1) * z.length ≤ 16777216) (pu (.str (StrLaws.replL y z x)))
  | _ => no
def mRepl (y z : List Nat) (m : M D) : M D := bd m (replD y z)
/-- one token is out -/
structure DET (X : Cx) (W : WX) (e : Expr) (m : M D) : Prop where
  pe : PET X e (tM X.K X.ev W (rlD X.K) m)
structure DST (X : Cx) (W : WX) (st : Stmt) (m : M Fl) : Prop where
  ps : PST X st (tS X.K X.ev W m)
structure DSsT (X : Cx) (W : WX) (st : List Stmt) (m : M Fl) : Prop where
  ps : PSsT X st (tS X.K X.ev W m)
section
variable {X : Cx} {W : WX} {o e f : Expr} {m mo ma mb : M D} {y z : Str} {ly lz : List Nat} {j k : Nat} {c0 c1 apos pos p p' : Pos} {st : Stmt} {rest : List Stmt} {u w : M Fl}
theorem PET_imp {t t' : TE} (h : PET X e t) (g : ∀ σ H Q, t' σ H Q → t σ H Q) : PET X e t' := fun pins s σ H Q h0 I q => h pins s σ H Q h0 I (g σ H Q q)
theorem PST_imp {t t' : TS} (h : PST X st t) (g : ∀ E σ H, t' E σ H → t E σ H) : PST X st t' := fun pins s σ H D h0 I q => h pins s σ H D h0 I (g D σ H q)
theorem PSsT_imp {t t' : TS} (h : PSsT X rest t) (g : ∀ E σ H, t' E σ H → t E σ H) : PSsT X rest t' := fun pins s σ H D h0 I q => h pins s σ H D h0 I (g D σ H q)
theorem DET.of (h : DE X W e m) : DET X W e m := ⟨CwR.PET.of h.pe⟩
theorem DST.of (h : DS X W st u) : DST X W st u := ⟨PST.of h.ps⟩
theorem DSsT.of (h : DSs X W rest u) : DSsT X W rest u := ⟨PSsT.of h.ps⟩
theorem DSsT.eq {v : M Fl} (h : DSsT X W rest u) (e : u = v) : DSsT X W rest v := e ▸ h
theorem repl_tr (ey : y.cps.toList = ly) (ez : z.cps.toList = lz) (hy : 1 ≤ y.length) {σ : L2.St} {H : Hp} {Q : VK} (q : tM X.K X.ev W (rlD X.K) (mRepl ly lz mo) σ H Q) : CwR.tReplC (tM X.K X.ev W (rlD X.K) mo) y z σ H Q := by
  obtain ⟨G, en, so, s, p⟩ := q
  refine ⟨G, en, so, s, (Post.bind (R1 := rlD X.K) p).imp fun v H1 ⟨G1, en1, so1, d, l, r1, s1, p1⟩ => ?_⟩
  cases r1 with
  | str x =>
    obtain ⟨h1, p2⟩ := Post.gd (c := x.length + (x.length + 1) * lz.length ≤ 16777216) p1
    have hz : z.length = lz.length := by rw [← ez]; simp [Str.length]
    refine ⟨sT x, rfl, by rw [sT_len, hz]; exact h1, ?_⟩
    refine p2.ok s1 (.of_str _ ?_)
    rw [StrLaws.replace_list hy, ey, ez, tl_sT]
  | _ => exact False.elim p1
theorem d_replC (ho : DE X W o mo) (ey : y.cps.toList = ly := by rfl) (ez : z.cps.toList = lz := by rfl) (hy : 1 ≤ y.length := by decide) (hyz : (y == z) = false := by decide)
    (hst : starEach [.Constant (.str y) j c0, .Constant (.str z) k c1] X.env = [(false, eval (.Constant (.str y) j c0) X.env), (false, eval (.Constant (.str z) k c1) X.env)] := by rfl)
    (hbase : attributeBase o "replace" X.env (eval o X.env) = eval o X.env := by rfl) (hline : (apos.endLine == pos.line) = true := by rfl) :
    DET X W (.Call (.Attribute o "replace" apos) [.Constant (.str y) j c0, .Constant (.str z) k c1] [] pos) (mRepl ly lz mo) :=
  ⟨PET_imp (CwR.pet_replC ho.pe hyz hst hbase hline) fun _ _ _ q => repl_tr ey ez hy q⟩
theorem d_replT (ho : DET X W o mo) (ey : y.cps.toList = ly := by rfl) (ez : z.cps.toList = lz := by rfl) (hy : 1 ≤ y.length := by decide) (hyz : (y == z) = false := by decide)
    (hst : starEach [.Constant (.str y) j c0, .Constant (.str z) k c1] X.env = [(false, eval (.Constant (.str y) j c0) X.env), (false, eval (.Constant (.str z) k c1) X.env)] := by rfl)
    (hbase : attributeBase o "replace" X.env (eval o X.env) = eval o X.env := by rfl) (hline : (apos.endLine == pos.line) = true := by rfl) :
    DET X W (.Call (.Attribute o "replace" apos) [.Constant (.str y) j c0, .Constant (.str z) k c1] [] pos) (mRepl ly lz mo) :=
  ⟨PET_imp (CwR.pet_replT ho.pe hyz hst hbase hline) fun _ _ _ q => repl_tr ey ez hy q⟩
theorem d_opT {op : Operator} {r : R2} {g : D → D → M D} (ho : OpR X (binaryOp op) r) (h : Op2 X.K X.ev r g) (ha : DET X W e ma) (hb : DET X W f mb) : DET X W (.BinOp e op f pos) (m2 g ma mb) :=
  ⟨PET_imp (CwR.pet_op ho ha.pe hb.pe) fun _ _ _ q => two h q⟩
theorem st_retD (h : DET X W e m) : DST X W (.Return (some e) pos) (sRetD m) := by
  refine ⟨PST_imp (CwR.pst_ret h.pe) fun E σ H ⟨G, en, so, s, p⟩ => ?_⟩
  exact ⟨G, en, so, s, (SPost.bind (R1 := rlD X.K) p).imp fun v H1 ⟨G1, en1, so1, b, l, r1, s1, p1⟩ => p1 v σ H1 G1 (.refl _) s1 r1⟩
theorem st_set {i : Nat} {x : Str} {pos' : Pos} (hN : X.N.Nodup) (h : DET X W e m) (hi : X.N[i]? = some x := by rfl) (hx : L2.Loc X.env.scope x := by first | exact Or.inl rfl | exact Or.inr rfl) (hs : swapsWith e (some (.Name x pos')) pos.line X.env = pure false := by rfl)
    (hf : X.fn x = true ∨ X.env.scope.names.lookup x = some .local := by first | exact .inl rfl | exact .inr rfl | assumption) : DST X W (.Assign [.Name x pos'] e pos) (sSet i m) := by
  refine ⟨fun pins s σ H D h0 I ⟨G, en, so, sm, p⟩ => ?_⟩
  refine wpAny_Assign_Name (thn (h.pe pins s σ H _ h0 I ⟨G, en, so, sm, SPost.bind (R1 := rlD X.K) p⟩) fun v s1 ⟨y, H1, I1, r1, G1, en1, so1, d, l, r2, sm1, q1⟩ => ?_) hs
  exact store_ok I1 hN hi hx r1 (fun s2 I2 => ⟨_, H1, I2, q1 _ H1 G1 (.refl _) (sm1.setD r2 i)⟩) hf
theorem sst_cons (h : DST X W st u) (k : DSsT X W rest w) : DSsT X W (st :: rest) (sSeq u w) := ⟨PSsT_imp (psst_cons h.ps k.ps) fun _ _ _ q => sseq_tr q⟩
theorem sst_one (h : DST X W st u) : DSsT X W [st] u := ⟨CwR.psst_one h.ps⟩
/-- a written text is made first -/
theorem d_strL {op : Operator} {r : R2} {g : D → D → M D} (ho : OpR X (binaryOp op) r) (h : Op2 X.K X.ev r g) (ey : y.cps.toList = ly := by rfl) (hb : DET X W f mb) : DE X W (.BinOp (.Constant (.str y) j p) op f pos) (m2 g (pu (.str ly)) mb) := by
  refine ⟨PE_imp (t := tOp r (tC (.str y)) (tM X.K X.ev W (rlD X.K) mb)) ⟨fun pins s σ H Q I q => ?_⟩ fun σ H Q q => ?_⟩
  · refine wpAny_BinOp (Calls.Constant_str ?_)
    exact thn (hb.pe pins { s with toks := s.toks + 1 } σ H _ (by show 1 ≤ s.toks + 1; omega) (I.tok _) q) fun u s2 ⟨x, H2, I2, r2, q2⟩ => ho pins s2 σ H2 (.str y) x _ u Q I2 ⟨_, rfl⟩ r2 q2
  · obtain ⟨G, en, so, s, p⟩ := two (ma := pu (.str ly)) h q
    exact p.ok s (.of_str y ey)
end
/-- THE RULE for a def whose body begins with a token out -/
theorem fn_dT {P : Program} {w : World} {K : PySem.W.Frag} {mg : Str → Option Value} {base : Heap} {x qual : Str} {st : Stmt} {f : Addr} {fd : FuncData} {N ps : List Str} {k : Nat} {m : M Fl} (F : Fun K x qual st f fd) (S : FnScope N ps (defScope st))
    (hnc : ∀ y ∈ (defScope st).names, y.2 ≠ .cell) (hps : 1 ≤ ps.length)
    (hb : ∀ (cdv : Value) (A : Around) (outer : List Env) (s : Shared) (H : Hp) (E : XK), Room k (A.deeper (envOfC qual (defScope st) s.heap.objs.size f cdv)) →
      DSsT (cxOf (L2.CX P w) P w K mg base N qual (defScope st) f cdv A outer s H E) (fun Cl d _ H => E Cl d H) (defBody st) m) : FnOk P w K mg base (L2.CX P w) (k + 1) f fd ps (spD K mg (mkF ps.length N.length m)) := by
  obtain ⟨oc, od, kV, doc, pm, an, cdv, ct, osl, rfl, lk, hcd⟩ := id F.ex
  refine fn_ofT lk hcd S hnc hps (fun vs H Q E ⟨G, ds, so, r, s, p⟩ => ?_) fun A outer s H vs Q E hr ⟨G, ds, so, r, sm, p⟩ => ⟨_, (ev_none (X := cxOf (L2.CX P w) P w K mg base N qual (defScope st) f cdv A outer s H E) hr.hd) ▸ (hb cdv A outer s H E hr).ps, G, ds.map (fun d => some (.dat d)) ++ List.replicate (N.length - ds.length) none, so, ?_, ?_⟩
  · unfold mkF at p
    by_cases h : ds.length = ps.length
    · rw [r.len]; exact h
    · rw [if_neg h] at p; exact False.elim p
  · have e : L2.start N vs = vs.map some ++ List.replicate (N.length - ds.length) none := by rw [← r.len]; rfl
    rw [e]
    exact ⟨sm, by simp [r.len], fun i b e => args_sl _ i b r e⟩
  · unfold mkF at p
    by_cases h : ds.length = ps.length
    · rw [if_pos h] at p
      revert p
      generalize m (ds.map (fun d => some (.dat d)) ++ List.replicate (N.length - ds.length) none) so = r
      intro p
      cases r with
      | no => exact False.elim p
      | exc x en so => exact fun Cl d σ' H' G' l s' x' => p Cl d H' G' l s'.toSimO x'
      | ok fl en so =>
        cases fl with
        | nx => exact fun σ' H' G' l s' => p .non H' G' l s'.toSimO .non
        | rt b => exact fun v σ' H' G' l s' rb => p v H' G' l s'.toSimO rb
        | bk => exact False.elim p
        | ct => exact False.elim p
    · rw [if_neg h] at p; exact False.elim p

/-! ### the module's dicts with text keys -/
def kD : PyData → D
  | .int i => .int i
  | .str x => .str x.cps.toList
  | .bool b => .bl b
  | _ => .non
def kOk : PyData → Bool
  | .int _ => true
  | .str _ => true
  | .bool _ => true
  | .none => true
  | _ => false
def kLook (kds : List (List Nat × D)) (z : List Nat) : Option D := (kds.find? fun p => decide (p.1 = z)).map (·.2)
/-- the dict x of the module -/
structure TabK (P : Program) (w : World) (K : PySem.W.Frag) (mg : Str → Option Value) (x : Str) (kds : List (List Nat × D)) : Prop where
  ex : ∃ (a : Addr) (D : List (Str × PyData)), mg x = some (.ref a) ∧ (∀ h : Heap, K.In h → StrTab P w h a (D.map fun p => (PyData.str p.1, p.2))) ∧ kds = D.map (fun p => (p.1.cps.toList, kD p.2)) ∧ (D.all fun p => kOk p.2) = true
theorem kLook_eq (z : List Nat) : ∀ D : List (Str × PyData), (lookup (.str (sT z)) (D.map fun p => (PyData.str p.1, p.2))).map kD = kLook (D.map fun p => (p.1.cps.toList, kD p.2)) z
  | [] => rfl
  | (x, d) :: r => by
    have ih := kLook_eq z r
    have h2 : (x = sT z) ↔ (x.cps.toList = z) := ⟨fun e => by rw [e, tl_sT], fun e => by rw [← e, sT_tl]⟩
    unfold kLook at *
    by_cases h : x = sT z
    · subst h
      simp [lookup, same_str, tl_sT]
    · have h3 : ¬ x.cps.toList = z := fun e => h (h2.mpr e)
      simp only [List.map_cons, List.find?_cons, h3, decide_false]
      rw [← ih]
      have h4 : ¬ (sT z = x) := fun e => h e.symm
      simp [lookup, same_str, h, h4]
theorem kLook_mem (z : List Nat) {dv : PyData} : ∀ D : List (Str × PyData), (D.all fun p => kOk p.2) = true → lookup (.str (sT z)) (D.map fun p => (PyData.str p.1, p.2)) = some dv → kOk dv = true
  | [], _, h => by cases h
  | (x, d) :: r, ha, h => by
    rw [List.all_cons, Bool.and_eq_true] at ha
    by_cases hx : x = sT z
    · subst hx
      simp [lookup, same_str] at h
      rw [← h]
      exact ha.1
    · have h4 : ¬ (sT z = x) := fun e => hx e.symm
      refine kLook_mem z r ha.2 ?_
      simpa [lookup, same_str, hx, h4] using h
def kW : PyData → V
  | .int i => .int i
  | .str x => .str x
  | .bool b => .bl b
  | _ => .non
theorem flat_rel {v : Value} {dv : PyData} (hk : kOk dv = true) (f : Flat v dv) : RelV (kW dv) v := by
  cases dv with
  | int i => exact f.int_inv
  | str x => exact f.str_inv
  | bool b => exact f.bool_inv
  | none => exact f.none_inv
  | _ => cases hk
theorem kW_rep {K : PySem.W.Frag} {F : Hp} {rho : List (Addr × Addr)} {dv : PyData} (hk : kOk dv = true) : Rep K F rho (kW dv) (kD dv) := by
  cases dv with
  | int i => exact .int i
  | str x => exact .of_str x rfl
  | bool b => exact .bl b
  | none => exact .non
  | _ => cases hk
def kinD (neg : Bool) (kds : List (List Nat × D)) : D → M D
  | .str z => pu (.bl (if neg then !(kLook kds z).isSome else (kLook kds z).isSome))
  | _ => no
def mKIn (neg : Bool) (kds : List (List Nat × D)) (m : M D) : M D := bd m (kinD neg kds)
def kgetD (kds : List (List Nat × D)) : D → M D
  | .str z => opM (kLook kds z) pu
  | _ => no
def mKGet (kds : List (List Nat × D)) (m : M D) : M D := bd m (kgetD kds)
section
variable {X : Cx} {W : WX} {i : Expr} {m : M D} {x : Str} {kds : List (List Nat × D)} {pos p : Pos}
def tKIn (ty : TE) (f : Str → Bool) : TE := fun σ H Q => ty σ H fun y H1 => ∃ z, y = .str z ∧ Q (.bl (f z)) H1
theorem pc_kin {ty : TE} {a : Addr} {D : List (PyData × PyData)} (hma : X.mg x = some (.ref a)) (hT : ∀ h : Heap, X.K.In h → StrTab X.prog X.w h a D) (hg : Gl X x) (hi : PE X i ty) (hd : (x == ("__debug__" : Str)) = false) : PC X .In i (.Name x p) (tKIn ty fun z => (lookup (.str z) D).isSome) := by
  refine ⟨fun pins s σ H Q I h => thn (hi.run pins s σ H _ I h) fun iv s1 ⟨y, H1, I1, ry, z, ey, q⟩ => ld_glob I1 hg hma ?_ hd⟩
  subst ey
  obtain ⟨t, rfl⟩ := ry
  exact in_strTab (hT _ I1.kIn) ⟨.bl _, H1, I1.tok _, rfl, q⟩
theorem pc_kni {ty : TE} {a : Addr} {D : List (PyData × PyData)} (hma : X.mg x = some (.ref a)) (hT : ∀ h : Heap, X.K.In h → StrTab X.prog X.w h a D) (hg : Gl X x) (hi : PE X i ty) (hd : (x == ("__debug__" : Str)) = false) : PC X .NotIn i (.Name x p) (tKIn ty fun z => !(lookup (.str z) D).isSome) := by
  refine ⟨fun pins s σ H Q I h => thn (hi.run pins s σ H _ I h) fun iv s1 ⟨y, H1, I1, ry, z, ey, q⟩ => ld_glob I1 hg hma ?_ hd⟩
  subst ey
  obtain ⟨t, rfl⟩ := ry
  exact notin_strTab (hT _ I1.kIn) ⟨.bl _, H1, I1.tok _, rfl, q⟩
theorem kin_tr {D : List (Str × PyData)} {f : Str → Bool} {neg : Bool} (hf : ∀ z : List Nat, f (sT z) = if neg then !(kLook (D.map fun p => (p.1.cps.toList, kD p.2)) z).isSome else (kLook (D.map fun p => (p.1.cps.toList, kD p.2)) z).isSome) {σ : L2.St} {H : Hp} {Q : VK}
    (q : tM X.K X.ev W (rlD X.K) (mKIn neg (D.map fun p => (p.1.cps.toList, kD p.2)) m) σ H Q) : tKIn (tM X.K X.ev W (rlD X.K) m) f σ H Q := by
  obtain ⟨G, en, so, s, p⟩ := q
  refine ⟨G, en, so, s, (Post.bind (R1 := rlD X.K) p).imp fun v H1 ⟨G1, en1, so1, d, l, r1, s1, p1⟩ => ?_⟩
  cases r1 with
  | str z =>
    refine ⟨sT z, rfl, ?_⟩
    rw [hf z]
    exact Post.ok (v := V.bl _) p1 s1 (.bl _)
  | _ => exact False.elim p1
theorem kl_t (D : List (Str × PyData)) (z : List Nat) : (lookup (.str (sT z)) (D.map fun p => (PyData.str p.1, p.2))).isSome = (kLook (D.map fun p => (p.1.cps.toList, kD p.2)) z).isSome := by rw [← kLook_eq, Option.isSome_map]
theorem d_kin (T : TabK X.prog X.w X.K X.mg x kds) (hg : Gl X x) (hi : DE X W i m) (hd : (x == ("__debug__" : Str)) = false := by decide) (hm : behindInMarks .In (.Name x p) = false := by with_unfolding_all rfl) : DE X W (.Compare i [.In] [.Name x p] pos) (mKIn false kds m) := by
  obtain ⟨a, D, hma, hT, rfl, hk⟩ := T.ex
  exact ⟨PE_imp (pe_cmp (pc_kin hma hT hg hi.pe hd) hm) fun _ _ _ q => kin_tr (fun z => kl_t D z) q⟩
theorem d_kni (T : TabK X.prog X.w X.K X.mg x kds) (hg : Gl X x) (hi : DE X W i m) (hd : (x == ("__debug__" : Str)) = false := by decide) (hm : behindInMarks .NotIn (.Name x p) = false := by with_unfolding_all rfl) : DE X W (.Compare i [.NotIn] [.Name x p] pos) (mKIn true kds m) := by
  obtain ⟨a, D, hma, hT, rfl, hk⟩ := T.ex
  exact ⟨PE_imp (pe_cmp (pc_kni hma hT hg hi.pe hd) hm) fun _ _ _ q => kin_tr (fun z => congrArg (!·) (kl_t D z)) q⟩
theorem d_kinT (T : TabK X.prog X.w X.K X.mg x kds) (hg : Gl X x) (hi : DE X W i m) (hd : (x == ("__debug__" : Str)) = false := by decide) (hm : behindInMarks .In (.Name x p) = false := by with_unfolding_all rfl) : DT X W (.Compare i [.In] [.Name x p] pos) (mT (mKIn false kds m)) := by
  obtain ⟨a, D, hma, hT, rfl, hk⟩ := T.ex
  exact ⟨PT_imp (pt_cmp (pc_kin hma hT hg hi.pe hd) hm) fun _ _ _ q => kin_tr (fun z => kl_t D z) (mT_tr q)⟩
theorem d_kniT (T : TabK X.prog X.w X.K X.mg x kds) (hg : Gl X x) (hi : DE X W i m) (hd : (x == ("__debug__" : Str)) = false := by decide) (hm : behindInMarks .NotIn (.Name x p) = false := by with_unfolding_all rfl) : DT X W (.Compare i [.NotIn] [.Name x p] pos) (mT (mKIn true kds m)) := by
  obtain ⟨a, D, hma, hT, rfl, hk⟩ := T.ex
  exact ⟨PT_imp (pt_cmp (pc_kni hma hT hg hi.pe hd) hm) fun _ _ _ q => kin_tr (fun z => congrArg (!·) (kl_t D z)) (mT_tr q)⟩
theorem d_kget (T : TabK X.prog X.w X.K X.mg x kds) (hg : Gl X x) (hi : DE X W i m) (hd : (x == ("__debug__" : Str)) = false := by decide) (hs : NoSl i := by intro _ _; rfl) : DE X W (.Subscript (.Name x p) i pos) (mKGet kds m) := by
  obtain ⟨a, D, hma, hT, rfl, hk⟩ := T.ex
  refine ⟨PE_imp (t := fun σ H Q => tM X.K X.ev W (rlD X.K) m σ H fun y H1 => ∃ z dv, y = .str z ∧ lookup (.str z) (D.map fun p => (PyData.str p.1, p.2)) = some dv ∧ Q (kW dv) H1) ⟨fun pins s σ H Q I h => ?_⟩ fun σ H Q ⟨G, en, so, s, p⟩ => ?_⟩
  · refine subD_of PySem.F.slot_dict_getitem.lookup hs (ld_glob I hg hma (thn (hi.pe.run pins s σ H _ I h) fun iv s1 ⟨y, H1, I1, ry, z, dv, ey, hl, q⟩ => ?_) hd)
    subst ey
    obtain ⟨t, rfl⟩ := ry
    obtain ⟨lo, kvs, hd, hf⟩ := hT _ I1.kIn
    obtain ⟨v, hv, hfl⟩ := hf.of_lookup same_str hl
    have hkk : kOk dv = true := kLook_mem z.cps.toList D hk (by rw [sT_tl]; exact hl)
    refine ⟨hd.typeIs, wpAny_getItem_of (strKind_is _ _ z t) hd.mapOf hv ?_⟩
    exact ⟨kW dv, H1, I1.tok _, flat_rel hkk hfl, q⟩
  · refine ⟨G, en, so, s, (Post.bind (R1 := rlD X.K) p).imp fun v H1 ⟨G1, en1, so1, d, l, r1, s1, p1⟩ => ?_⟩
    cases r1 with
    | str z =>
      obtain ⟨dd, e, p2⟩ := opM_at p1
      rw [← kLook_eq] at e
      obtain ⟨dv, e1, rfl⟩ := Option.map_eq_some_iff.mp e
      exact ⟨sT z, dv, rfl, e1, p2.ok s1 (kW_rep (kLook_mem z D hk e1))⟩
    | _ => exact False.elim p1
end
end
end Dl

set_option Elab.async false
set_option linter.all false
set_option maxRecDepth 100000
set_option maxHeartbeats 1000000
/-! The data level: replace where the receiver gives out a token; tests and ifs where a token is out. -/
namespace Dl
open PySem PySem.Spec PyProof.Rows PyProof.V L2
noncomputable section
def PEK (X : Cx) (e : Expr) (t : TE) : Prop := ∀ (pins : List (Addr × Obj)) (s : Shared) (σ : L2.St) (H : Hp) (Q : VK), Inv X pins σ H s → t σ H Q → wpAny (model X.prog X.w) X.A (eval e X.env) (fun v s1 => 1 ≤ s1.toks ∧ EP X pins σ Q v s1) X.xe s
def PTT (X : Cx) (e : Expr) (t : TT) : Prop := ∀ (pins : List (Addr × Obj)) (s : Shared) (σ : L2.St) (H : Hp) (Q : Bool → Hp → Prop), 1 ≤ s.toks → Inv X pins σ H s → t σ H Q → wpAny (model X.prog X.w) X.A (PySem.isTrue e X.env (eval e X.env)) (TP X pins σ Q) X.xe s
def PWT (X : Cx) (e : Expr) (t : TT) : Prop := ∀ (whole : Sem Value) (pins : List (Addr × Obj)) (s : Shared) (σ : L2.St) (H : Hp) (Q : Bool → Hp → Prop), 1 ≤ s.toks → Inv X pins σ H s → t σ H Q → wpAny (model X.prog X.w) X.A (PySem.isTrue e X.env whole) (TP X pins σ Q) X.xe s
section
variable {X : Cx} {a b c o e : Expr} {ta tb to : TE} {tc td : TT} {pos apos c0 c1 p : Pos} {j k : Nat} {rest : List Expr} {y z : Str}
theorem kept {α : Type} {m : Sem α} {Q : α → Shared → Prop} {s : Shared} (h0 : 1 ≤ s.toks) (h : wpAny (model X.prog X.w) X.A m Q X.xe s) : wpAny (model X.prog X.w) X.A m (fun v s1 => 1 ≤ s1.toks ∧ Q v s1) X.xe s :=
  wpAny_mono (PySem.wpAny_toks_of h0 h) (fun _ _ q => q) fun _ _ z => z.2
theorem pek_int {i : Int} {n : Nat} : PEK X (.Constant (.int i) n pos) (tC (.int i)) := fun _ s _ H _ I h => wpAny_Constant_int ⟨by show 1 ≤ s.toks + 1; omega, .int i, H, I.tok _, ⟨_, rfl⟩, h⟩
theorem pek_str {x : Str} {n : Nat} : PEK X (.Constant (.str x) n pos) (tC (.str x)) := fun _ s _ H _ I h => Calls.Constant_str ⟨by show 1 ≤ s.toks + 1; omega, .str x, H, I.tok _, ⟨_, rfl⟩, h⟩
theorem pek_op {op : Operator} {r : R2} (ho : OpR X (binaryOp op) r) (ha : PE X a ta) (hb : PEK X b tb) : PEK X (.BinOp a op b pos) (tOp r ta tb) := fun pins s σ H Q I h =>
  wpAny_BinOp (thn (ha.run pins s σ H _ I h) fun v s1 ⟨x, H1, I1, r1, q1⟩ => thn (hb pins s1 σ H1 _ I1 q1) fun u s2 ⟨hk, y, H2, I2, r2, q2⟩ => kept hk (ho pins s2 σ H2 x y v u Q I2 r1 r2 q2))
theorem pek_ix {r : R2} (hr : IxR X r) (ha : PE X a ta) (hb : PEK X b tb) (hs : PlainIx b) : PEK X (.Subscript a b pos) (tOp r ta tb) := fun pins s σ H Q I h =>
  Subscript_ (thn (ha.run pins s σ H _ I h) fun v s1 ⟨x, H1, I1, r1, q1⟩ => thn (hb pins s1 σ H1 _ I1 q1) fun u s2 ⟨hk, y, H2, I2, r2, q2⟩ => kept hk (hr a b pins s2 σ H2 x y v u Q I2 r1 r2 q2 (hs _ _)))
theorem pe_replK (ho : PEK X o to) (hyz : (y == z) = false := by decide)
    (hst : starEach [.Constant (.str y) j c0, .Constant (.str z) k c1] X.env = [(false, eval (.Constant (.str y) j c0) X.env), (false, eval (.Constant (.str z) k c1) X.env)] := by rfl)
    (hbase : attributeBase o "replace" X.env (eval o X.env) = eval o X.env := by rfl) (hline : (apos.endLine == pos.line) = true := by rfl) :
    PE X (.Call (.Attribute o "replace" apos) [.Constant (.str y) j c0, .Constant (.str z) k c1] [] pos) (CwR.tReplC to y z) := by
  refine ⟨fun pins s σ H Q I h => ?_⟩
  refine PySem.Call_method2 hbase hst hline (thn (ho pins s σ H _ I h) fun v s1 q => ?_)
  obtain ⟨hk, v', H1, I1, r1, x, e1, hb, q⟩ := q
  subst e1
  obtain ⟨tx, e2⟩ := r1
  subst e2
  refine ⟨"str", _, PySem.F.plainAttrs_str, PySem.F.slot_str_replace, PySem.F.type_str_replace, typeIs_str _ _ _, (fun _ e => nomatch e), Calls.callWith_builtin rfl (Calls.evalArgs_plain (Calls.spliced_cons ?_))⟩
  refine Calls.Constant_str (Calls.spliced_cons (Calls.Constant_str (Calls.spliced_nil ?_)))
  exact PySem.SC.replace (by show s1.toks ≠ 0; omega) (by show s1.toks + 1 ≠ 0; omega) (by show s1.toks ≠ s1.toks + 1; omega) hyz hb fun t' k => ⟨.str (Txt.replace x y z), H1, I1.tok k, ⟨t', rfl⟩, q⟩
theorem pet_ix {r : R2} (hr : IxR X r) (ha : PET X a ta) (hb : PE X b tb) (hs : PlainIx b) : PET X (.Subscript a b pos) (tOp r ta tb) := fun pins s σ H Q h0 I h =>
  Subscript_ (thn (ha pins s σ H _ h0 I h) fun v s1 ⟨x, H1, I1, r1, q1⟩ => thn (hb.run pins s1 σ H1 _ I1 q1) fun u s2 ⟨y, H2, I2, r2, q2⟩ => hr a b pins s2 σ H2 x y v u Q I2 r1 r2 q2 (hs _ _))
theorem PTT.of (h : PT X e tc) : PTT X e tc := fun pins s σ H Q _ I q => h.run pins s σ H Q I q
theorem PWT.pt (h : PWT X e tc) : PTT X e tc := h _
theorem ptt_cmp {op : CmpOp} {r : R2} (ho : OpR X (compareOp op) r) (ha : PET X a ta) (hb : PET X b tb) (hm : behindInMarks op b = false) : PTT X (.Compare a [op] [b] pos) (tTest (tOp r ta tb)) := fun pins s σ H Q h0 I h => by
  refine wpAny_isTrue_Compare1 (thn (kept h0 (ha pins s σ H _ h0 I h)) fun v s1 ⟨hk, x, H1, I1, r1, q1⟩ => thn (hb pins s1 σ H1 _ hk I1 q1) fun u s2 ⟨y, H2, I2, r2, q2⟩ =>
    thn (ho pins s2 σ H2 x y v u _ I2 r1 r2 q2) fun c s3 ⟨z, H3, I3, r3, k, e, q3⟩ => ?_) hm
  subst e
  cases r3
  exact wpAny_truthy_bool ⟨H3, I3, q3⟩
theorem pwt_and1 (ha : PTT X a tc) : PWT X (.BoolOp .And [a] pos) tc := fun wh pins s σ H Q h0 I h => by
  refine isTrue_and (thn (ha pins s σ H Q h0 I h) fun c s1 e => ?_)
  cases c with
  | true => exact isTrue_and_nil e
  | false => exact e
theorem pwt_or1 (ha : PTT X a tc) : PWT X (.BoolOp .Or [a] pos) tc := fun wh pins s σ H Q h0 I h => by
  refine isTrue_or (thn (ha pins s σ H Q h0 I h) fun c s1 e => ?_)
  cases c with
  | false => exact isTrue_or_nil e
  | true => exact e
theorem pwt_and (ha : PTT X a tc) (hb : PWT X (.BoolOp .And (b :: rest) pos) td) : PWT X (.BoolOp .And (a :: b :: rest) pos) (tAnd tc td) := fun wh pins s σ H Q h0 I h => by
  refine isTrue_and (thn (kept h0 (ha pins s σ H _ h0 I h)) fun c s1 ⟨hk, H1, I1, q1⟩ => ?_)
  cases c with
  | true => exact hb wh pins s1 σ H1 Q hk I1 q1
  | false => exact ⟨H1, I1, q1⟩
theorem pwt_or (ha : PTT X a tc) (hb : PWT X (.BoolOp .Or (b :: rest) pos) td) : PWT X (.BoolOp .Or (a :: b :: rest) pos) (tOr tc td) := fun wh pins s σ H Q h0 I h => by
  refine isTrue_or (thn (kept h0 (ha pins s σ H _ h0 I h)) fun c s1 ⟨hk, H1, I1, q1⟩ => ?_)
  cases c with
  | true => exact ⟨H1, I1, q1⟩
  | false => exact hb wh pins s1 σ H1 Q hk I1 q1
theorem ptt_not (ha : PTT X a tc) : PTT X (.UnaryOp .Not a pos) (tNot tc) := fun pins s σ H Q h0 I h => isTrue_not (ha pins s σ H (fun c H1 => Q (!c) H1) h0 I h)
end
/-! ### judgements -/
structure DEK (X : Cx) (W : WX) (e : Expr) (m : M D) : Prop where
  pe : PEK X e (tM X.K X.ev W (rlD X.K) m)
structure DTT (X : Cx) (W : WX) (e : Expr) (m : M Bool) : Prop where
  pt : PTT X e (tM X.K X.ev W rlT m)
structure DWT (X : Cx) (W : WX) (e : Expr) (m : M Bool) : Prop where
  pw : PWT X e (tM X.K X.ev W rlT m)
section
variable {X : Cx} {W : WX} {a b o e f : Expr} {m mo ma mb : M D} {tA tB : M Bool} {y z : Str} {ly lz : List Nat} {j k : Nat} {c0 c1 apos pos p : Pos} {rest : List Expr} {st st' : List Stmt} {u w : M Fl}
theorem PEK_imp {t t' : TE} (h : PEK X e t) (g : ∀ σ H Q, t' σ H Q → t σ H Q) : PEK X e t' := fun pins s σ H Q I q => h pins s σ H Q I (g σ H Q q)
theorem PTT_imp {t t' : TT} (h : PTT X e t) (g : ∀ σ H Q, t' σ H Q → t σ H Q) : PTT X e t' := fun pins s σ H Q h0 I q => h pins s σ H Q h0 I (g σ H Q q)
theorem PWT_imp {t t' : TT} (h : PWT X e t) (g : ∀ σ H Q, t' σ H Q → t σ H Q) : PWT X e t' := fun wh pins s σ H Q h0 I q => h wh pins s σ H Q h0 I (g σ H Q q)
theorem k_int {i : Int} {n : Nat} : DEK X W (.Constant (.int i) n pos) (pu (.int i)) := ⟨PEK_imp pek_int fun σ H Q ⟨G, en, so, s, p⟩ => Post.ok (v := V.int i) p s (.int i)⟩
theorem k_str {x : Str} {n : Nat} {l : List Nat} (ex : x.cps.toList = l := by rfl) : DEK X W (.Constant (.str x) n pos) (pu (.str l)) := ⟨PEK_imp pek_str fun σ H Q ⟨G, en, so, s, p⟩ => Post.ok (v := V.str x) p s (.of_str x ex)⟩
theorem k_op {op : Operator} {r : R2} {g : D → D → M D} (ho : OpR X (binaryOp op) r) (h : Op2 X.K X.ev r g) (ha : DE X W a ma) (hb : DEK X W b mb) : DEK X W (.BinOp a op b pos) (m2 g ma mb) := ⟨PEK_imp (pek_op ho ha.pe hb.pe) fun _ _ _ q => two h q⟩
theorem k_ix (ha : DE X W a ma) (hb : DEK X W b mb) (hs : PlainIx b := by intro _ _; rfl) : DEK X W (.Subscript a b pos) (m2 ixD ma mb) := ⟨PEK_imp (pek_ix ix_seq ha.pe hb.pe hs) fun _ _ _ q => two op2_ix q⟩
theorem d_replK (ho : DEK X W o mo) (ey : y.cps.toList = ly := by rfl) (ez : z.cps.toList = lz := by rfl) (hy : 1 ≤ y.length := by decide) (hyz : (y == z) = false := by decide)
    (hst : starEach [.Constant (.str y) j c0, .Constant (.str z) k c1] X.env = [(false, eval (.Constant (.str y) j c0) X.env), (false, eval (.Constant (.str z) k c1) X.env)] := by rfl)
    (hbase : attributeBase o "replace" X.env (eval o X.env) = eval o X.env := by rfl) (hline : (apos.endLine == pos.line) = true := by rfl) :
    DE X W (.Call (.Attribute o "replace" apos) [.Constant (.str y) j c0, .Constant (.str z) k c1] [] pos) (mRepl ly lz mo) :=
  ⟨PE_imp (pe_replK ho.pe hyz hst hbase hline) fun _ _ _ q => repl_tr ey ez hy q⟩
theorem dt_ix (ha : DET X W a ma) (hb : DE X W b mb) (hs : PlainIx b := by intro _ _; rfl) : DET X W (.Subscript a b pos) (m2 ixD ma mb) := ⟨PET_imp (pet_ix ix_seq ha.pe hb.pe hs) fun _ _ _ q => two op2_ix q⟩
theorem DTT.of (h : DT X W e tA) : DTT X W e tA := ⟨PTT.of h.pt⟩
theorem DWT.dt (h : DWT X W e tA) : DTT X W e tA := ⟨h.pw.pt⟩
theorem tt_cmp {op : CmpOp} {r : R2} {f : D → D → M D} (ho : OpR X (compareOp op) r) (h : Op2 X.K X.ev r f) (ha : DET X W a ma) (hb : DET X W b mb) (hm : behindInMarks op b = false) : DTT X W (.Compare a [op] [b] pos) (mT (m2 f ma mb)) :=
  ⟨PTT_imp (ptt_cmp ho ha.pe hb.pe hm) fun _ _ _ q => two h (mT_tr q)⟩
theorem wt_and1 (h : DTT X W a tA) : DWT X W (.BoolOp .And [a] pos) tA := ⟨pwt_and1 h.pt⟩
theorem wt_or1 (h : DTT X W a tA) : DWT X W (.BoolOp .Or [a] pos) tA := ⟨pwt_or1 h.pt⟩
theorem wt_and (ha : DTT X W a tA) (hb : DWT X W (.BoolOp .And (b :: rest) pos) tB) : DWT X W (.BoolOp .And (a :: b :: rest) pos) (tAndM tA tB) := by
  refine ⟨PWT_imp (pwt_and ha.pt hb.pw) fun σ H Q q => ?_⟩
  obtain ⟨G, en, so, s, p⟩ := q
  refine ⟨G, en, so, s, (Post.bind (R1 := rlT) p).imp fun v H1 ⟨G1, en1, so1, k, l, r1, s1, p1⟩ => ?_⟩
  cases r1
  cases v with
  | true => exact iteT ⟨G1, en1, so1, s1, p1⟩
  | false => exact iteF (p1.ok s1 rfl)
theorem wt_or (ha : DTT X W a tA) (hb : DWT X W (.BoolOp .Or (b :: rest) pos) tB) : DWT X W (.BoolOp .Or (a :: b :: rest) pos) (tOrM tA tB) := by
  refine ⟨PWT_imp (pwt_or ha.pt hb.pw) fun σ H Q q => ?_⟩
  obtain ⟨G, en, so, s, p⟩ := q
  refine ⟨G, en, so, s, (Post.bind (R1 := rlT) p).imp fun v H1 ⟨G1, en1, so1, k, l, r1, s1, p1⟩ => ?_⟩
  cases r1
  cases v with
  | true => exact iteT (p1.ok s1 rfl)
  | false => exact iteF ⟨G1, en1, so1, s1, p1⟩
theorem st_if (hc : DTT X W e tA) (ha : DSsT X W st u) (hb : DSsT X W st' w) : DST X W (.If e st st' pos) (sIf tA u w) := by
  refine ⟨fun pins s σ H D h0 I q => ?_⟩
  obtain ⟨G, en, so, sm, p⟩ := q
  refine wpAny_If (thn (kept h0 (hc.pt pins s σ H _ h0 I ⟨G, en, so, sm, SPost.bind (R1 := rlT) p⟩)) fun d s1 ⟨hk, H1, I1, G1, en1, so1, bb, l, r1, s2, p1⟩ => ?_)
  cases r1
  cases d with
  | true => exact ha.ps pins s1 σ H1 D hk I1 ⟨G1, en1, so1, s2, p1⟩
  | false => exact hb.ps pins s1 σ H1 D hk I1 ⟨G1, en1, so1, s2, p1⟩
end
end
end Dl

set_option Elab.async false
set_option linter.all false
set_option maxRecDepth 100000
set_option maxHeartbeats 1000000
/-! The data level: three names at once; defs that call themselves (by fuel). -/
namespace Dl
open PySem PySem.Spec PyProof.Rows L2
noncomputable section
def tgT (i j l : Nat) : Tg := fun d en => match d with
  | .tup [x, y, z] => some (((en.set i (some (.dat x))).set j (some (.dat y))).set l (some (.dat z)))
  | _ => none
theorem rep_trip {K : PySem.W.Frag} {F : Hp} {rho : List (Addr × Addr)} {v : V} {d1 d2 d3 : D} (r : Rep K F rho v (.tup [d1, d2, d3])) : ∃ a v1 v2 v3, v = .ref a ∧ SqT K F a [v1, v2, v3] ∧ Rep K F rho v1 d1 ∧ Rep K F rho v2 d2 ∧ Rep K F rho v3 d3 := by
  cases r with
  | tup h r2 =>
    cases r2 with
    | cons r1 r2 =>
      cases r2 with
      | cons r2 r3 =>
        cases r3 with
        | cons r3 r4 =>
          cases r4
          exact ⟨_, _, _, _, rfl, h, r1, r2, r3⟩
theorem wipe3 {A : Type} (σ : List (Option A)) {i j l : Nat} (a b c : Option A) (hij : i ≠ j) (hil : i ≠ l) (hjl : j ≠ l) : ((((((σ.set i a).set j b).set l c).set l none).set j none).set i none) = (((σ.set l none).set j none).set i none) := by
  rw [List.set_set, List.set_comm _ _ hjl, List.set_set, List.set_comm (l := σ.set i a) _ _ hjl.symm]
  apply List.ext_getElem?
  intro n
  simp only [List.getElem?_set, List.length_set]
  by_cases h1 : i = n
  · subst h1; simp
  · by_cases h2 : j = n
    · subst h2; simp [h1, hjl.symm]
    · simp [h1, h2]
theorem g_trip {X : Cx} {pos : Pos} {k : Nat} {i j l : Nat} {x y z : Str} {px py pz : Pos} (hc : X.calm = true) (hij : i ≠ j) (hil : i ≠ l) (hjl : j ≠ l) (hN : X.N.Nodup) (hi : X.N[i]? = some x := by rfl) (hx : Loc X.env.scope x := by first | exact Or.inl rfl | exact Or.inr rfl) (hj : X.N[j]? = some y := by rfl) (hy : Loc X.env.scope y := by first | exact Or.inl rfl | exact Or.inr rfl) (hl : X.N[l]? = some z := by rfl) (hz : Loc X.env.scope z := by first | exact Or.inl rfl | exact Or.inr rfl)
    (hf : X.fn x = true ∨ X.env.scope.names.lookup x = some .local := by first | exact .inl rfl | exact .inr rfl | assumption) (hf2 : X.fn y = true ∨ X.env.scope.names.lookup y = some .local := by first | exact .inl rfl | exact .inr rfl | assumption) (hf3 : X.fn z = true ∨ X.env.scope.names.lookup z = some .local := by first | exact .inl rfl | exact .inr rfl | assumption) : DG X (.Tuple [.Name x px, .Name y py, .Name z pz] k pos) (tgT i j l) [i, j, l] := by
  refine ⟨PG_imp (pg_tup (n := 3) hc (pgs_cons (pg_name hN hi hx hf) (pgs_cons (pg_name hN hj hy hf2) (pgs_cons (pg_name hN hl hz hf3) pgs_nil)))) fun v σ H Q h => ?_⟩
  obtain ⟨G, en, so, d, en', rd, sm, e, q⟩ := h
  obtain ⟨d1, d2, d3, rfl⟩ : ∃ d1 d2 d3, d = .tup [d1, d2, d3] := by
    unfold tgT at e
    split at e
    · exact ⟨_, _, _, rfl⟩
    · cases e
  cases e
  obtain ⟨a, v1, v2, v3, rfl, h, r1, r2, r3⟩ := rep_trip rd
  refine ⟨a, [v1, v2, v3], rfl, same_seqT sm.toSimO.rep h, rfl, v1, [v2, v3], rfl, v2, [v3], rfl, v3, [], rfl, rfl, ?_⟩
  exact q _ (((sm.setD r1 i).setD r2 j).setD r3 l) (wipe3 σ (some v1) (some v2) (some v3) hij hil hjl)
@[simp] theorem kTg_T {en : En} {so : So} (i j l : Nat) (x y z : D) : kTg (tgT i j l) (.tup [x, y, z]) en so = .ok .nx (((en.set i (some (.dat x))).set j (some (.dat y))).set l (some (.dat z))) so := rfl
@[simp] theorem tgT_ {en : En} (i j l : Nat) (x y z : D) : tgT i j l (.tup [x, y, z]) en = some (((en.set i (some (.dat x))).set j (some (.dat y))).set l (some (.dat z))) := rfl
/-! ### no fuel -/
def noF : FunM := fun _ _ => .no
theorem fn_no {P : Program} {w : World} {K : PySem.W.Frag} {mg : Str → Option Value} {base : Heap} {f : Addr} {fd : FuncData} {ps : List Str} {k : Nat} : FnOk P w K mg base (L2.CX P w) k f fd ps (spD K mg noF) :=
  ⟨fun _ _ _ _ ⟨_, _, _, _, _, p⟩ => False.elim p, fun _ _ _ _ _ _ _ _ _ _ _ _ _ ⟨_, _, _, _, _, p⟩ => False.elim p⟩
end
end Dl

set_option Elab.async false
set_option linter.all false
set_option maxRecDepth 100000
set_option maxHeartbeats 1000000
/-! The data level: a or b by truth, the module's tuples, isinstance(o, own class). -/
namespace Dl
open PySem PySem.Spec PyProof.Rows L2
noncomputable section
/-- a or b, by the truth of a -/
def mOrT (a b : M D) : M D := bd a fun d => bd (truD d) fun k => if k = true then pu d else b
section
variable {X : Cx} {W : WX} {a b e : Expr} {ma mb m : M D} {rest : List Expr} {pos p apos : Pos}
theorem truD_at {K : PySem.W.Frag} {mg : Ev} {A1 : Type} {G1 : Gh} {en1 : En} {so1 : So} {σ : L2.St} {H1 : Hp} {v : V} {d : D} {kk : Bool → M A1} {A' : Type} {Rl : Gh → Hp → A' → A1 → Prop} {Q : A' → Hp → Prop} (s1 : Sim K mg G1 en1 so1 σ H1) (r1 : Rep K G1.F G1.rho v d) (p1 : Post K mg G1 W Rl σ (bd (truD d) kk en1 so1) Q) : ∃ k, TruV K v H1 k ∧ Post K mg G1 W Rl σ (kk k en1 so1) Q := by
  cases d <;> try exact False.elim p1
  · cases r1; exact ⟨_, rfl, p1⟩
  · cases r1; exact ⟨_, rfl, p1⟩
  · cases r1; exact ⟨_, rfl, p1⟩
  · cases r1
    rename_i z
    by_cases h : z.length ≤ 16777216
    · refine ⟨z.length != 0, ⟨by rw [sT_len, sizeLine_eq]; exact h, ?_⟩, ?_⟩
      · rw [sT_len]
        cases z <;> simp
        omega
      · have e : truD (.str z) en1 so1 = .ok (z.length != 0) en1 so1 := by
          show gd (z.length ≤ 16777216) (pu (z.length != 0)) en1 so1 = _
          unfold gd
          rw [if_pos h]; rfl
        unfold bd at p1
        rw [e] at p1
        exact p1
    · have e : truD (.str z) en1 so1 = .no := by
        show gd (z.length ≤ 16777216) (pu (z.length != 0)) en1 so1 = _
        unfold gd
        rw [if_neg h]
      unfold bd at p1
      rw [e] at p1
      exact False.elim p1
  · cases r1 with
    | tup h r => exact ⟨_, .inr (.inl ⟨_, same_seqT s1.toSimO.rep h, rfl⟩), by rw [r.isEmpty]; exact p1⟩
  · cases r1 with
    | lst h r => exact ⟨_, .inl ⟨_, s1.toSimO.rep.seq h, rfl⟩, by rw [r.isEmpty]; exact p1⟩
theorem d_orT (ha : DE X W a ma) (hb : DE X W (.BoolOp .Or (b :: rest) pos) mb) : DE X W (.BoolOp .Or (a :: b :: rest) pos) (mOrT ma mb) := by
  refine ⟨PE_imp (pe_orT ha.pe hb.pe) fun σ H Q q => ?_⟩
  obtain ⟨G, en, so, s, p⟩ := q
  refine ⟨G, en, so, s, (Post.bind (R1 := rlD X.K) p).imp fun v H1 ⟨G1, en1, so1, d, l, r1, s1, p1⟩ => ?_⟩
  obtain ⟨k, t, p2⟩ := truD_at s1 r1 p1
  refine ⟨k, t, ?_⟩
  cases k with
  | true => rw [if_pos rfl] at p2 ⊢; exact p2.ok s1 r1
  | false => rw [if_neg (by decide)] at p2 ⊢; exact ⟨G1, en1, so1, s1, p2⟩
/-- a tuple of the module -/
structure TupK (K : PySem.W.Frag) (mg : Str → Option Value) (x : Str) (ds : List D) : Prop where
  ex : ∃ (a : Addr) (o : Obj) (its : Array Value) (n : Nat) (vs : List V), mg x = some (.ref a) ∧ K.lookup a = some o ∧ o.cls = .type "tuple" ∧ o.data = .seq its n ∧ its.size ≤ sizeLine ∧ Vals vs its.toList ∧ ∀ F rho, Reps K F rho vs ds
theorem d_gT {x : Str} {ds : List D} (hg : Gl X x) (T : TupK X.K X.mg x ds) (hd : (x == ("__debug__" : Str)) = false := by decide) : DE X W (.Name x pos) (pu (.tup ds)) := by
  obtain ⟨a, o, its, n, vs, hm, h1, h2, h3, h4, h5, h6⟩ := T.ex
  exact d_c (pe_glob hg hm (v := .ref a) rfl hd) fun F rho => .tup (.inr ⟨o, its, n, h1, h2, h3, h4, h5⟩) (h6 F rho)
/-- isinstance(e, C), e an object of the own class C -/
def isCD (c : Nat) : D → M D
  | .obj k => fun en so => match so[k]? with
    | some (.ob c' _) => if c' = c then .ok (.bl true) en so else .no
    | _ => .no
  | _ => no
def mIsC (c : Nat) (m : M D) : M D := bd m (isCD c)
/-- what isinstance asks of the class of number c -/
structure InsN (K : PySem.W.Frag) (mg : Str → Option Value) (c : Nat) (x : Str) : Prop where
  ex : ∃ C, mg x = some (.ref C) ∧ C8.InsC K C
  nm : cnm c = x
theorem d_isC {c : Nat} {x : Str} {px : Pos} (T : InsN X.K X.mg c x) (hem : X.ev.mg = X.mg) (ha : DE X W e m) (hg : Gl X "isinstance") (hm : X.mg "isinstance" = none) (hgC : Gl X x)
    (he : starEach [e, .Name x px] X.env = (false, eval e X.env) :: starEach [.Name x px] X.env := by rfl) (hpl : (backTo pos (starEach [.Name x px] X.env)).any (·.1) = false := by rfl) (hd : (x == ("__debug__" : Str)) = false := by decide) : DE X W (.Call (.Name "isinstance" p) [e, .Name x px] [] pos) (mIsC c m) := by
  obtain ⟨C, hC, ic⟩ := T.ex
  refine ⟨PE_imp (pe_callB (C8.call_isC ic) hg hm boot_isinstance (pa_cons ha.pe (pa_cons (pe_glob hgC hC (v := .ref C) rfl hd) pa_nil) he) (he := he) (hpl := hpl)) fun σ H Q q => ?_⟩
  obtain ⟨G, en, so, s, p⟩ := q
  refine ⟨G, en, so, s, (Post.bind (R1 := rlD X.K) p).imp fun v H1 ⟨G1, en1, so1, d, l, r1, s1, p1⟩ => ?_⟩
  cases r1 with
  | @obj k a dx hr =>
    have e1 : isCD c (.obj k) en1 so1 = (match so1[k]? with
      | some (.ob c' _) => if c' = c then .ok (.bl true) en1 so1 else .no
      | _ => .no) := rfl
    rw [e1] at p1
    cases h1 : so1[k]? with
    | none => rw [h1] at p1; exact p1.elim
    | some o =>
      rw [h1] at p1
      cases o with
      | ob c' fs =>
        simp only [] at p1
        by_cases hc : c' = c
        · subst hc
          rw [if_pos rfl] at p1
          obtain ⟨_, _, ⟨Cl, vs, h2, h3, _⟩, _⟩ := s1.ob k _ a dx h1 hr
          rw [hem, T.nm, hC] at h2
          cases h2
          exact ⟨a, dx, vs, rfl, h3, Post.ok (v := V.bl true) p1 s1 (.bl true)⟩
        · rw [if_neg hc] at p1; exact p1.elim
      | cel _ => exact p1.elim
      | lck _ => exact p1.elim
      | dead => exact p1.elim
  | _ => exact False.elim p1
/-- isinstance(e, dict), e a dict in the store -/
def mIsDc (m : M D) : M D := bd m fun d => bd (dctO d) fun _ => pu (.bl true)
theorem d_isDc {x : Str} {px : Pos} (ha : DE X W e m) (hg : Gl X "isinstance") (hm : X.mg "isinstance" = none) (hgT : Gl X x) (hmT : X.mg x = none) (hvT : bootBuiltins x = some (.type "dict"))
    (he : starEach [e, .Name x px] X.env = (false, eval e X.env) :: starEach [.Name x px] X.env := by rfl) (hpl : (backTo pos (starEach [.Name x px] X.env)).any (·.1) = false := by rfl) (hn : x ≠ "__name__" := by decide) (hd : (x == ("__debug__" : Str)) = false := by decide) : DE X W (.Call (.Name "isinstance" p) [e, .Name x px] [] pos) (mIsDc m) := by
  refine ⟨PE_imp (pe_callB call_isi hg hm boot_isinstance (pa_cons ha.pe (pa_cons (pe_bltn hgT hmT hvT (v := .ty "dict") rfl hn hd) pa_nil) he) (he := he) (hpl := hpl)) fun σ H Q q => ?_⟩
  obtain ⟨G, en, so, s, p⟩ := q
  refine ⟨G, en, so, s, (Post.bind (R1 := rlD X.K) p).imp fun v H1 ⟨G1, en1, so1, d, l, r1, s1, p1⟩ => ?_⟩
  obtain ⟨kds, ca, p2⟩ := dctO_at s1 r1 p1
  obtain ⟨a, kvs, rfl, h1, _⟩ := ca
  have ty : TyX X.K H1 (.ref a) (.type "dict") := by
    rcases h1 with h1 | ⟨o, h1⟩
    · exact .base (.dK h1)
    · exact .fDict h1
  exact ⟨.ref a, .ty "dict", .type "dict", .type "dict", true, rfl, .ty _, ty, kit_ty (kit_all .dict "dict" (by decide)), Post.ok (v := V.bl true) p2 s1 (.bl _)⟩
end
section
variable {en : En} {so : So}
@[simp] theorem mOrT_ (a b : M D) : mOrT a b en so = bdR (a en so) fun d => bd (truD d) fun k => if k = true then pu d else b := rfl
@[simp] theorem mIsC_ (c : Nat) (m : M D) : mIsC c m en so = bdR (m en so) (isCD c) := rfl
@[simp] theorem mIsDc_ (m : M D) : mIsDc m en so = bdR (m en so) fun d => bd (dctO d) fun _ => pu (.bl true) := rfl
end
end
end Dl

set_option Elab.async false
set_option linter.all false
set_option maxRecDepth 100000
set_option maxHeartbeats 1000000
/-! The data level: != where dicts stand. -/
namespace Dl
open PySem PySem.Spec PyProof.Rows L2
noncomputable section
/-- a != b of two dicts -/
theorem dicts_ne {prog : Program} {w : World} {κ : Type} [DecidableEq κ] {knd : KeyKind prog w κ} {A : Around} {s : Shared} {a b : Addr} {ka kb : List (κ × Value)} {r : Bool} (ha : (a == sysModules) = false) (hb : (b == sysModules) = false)
    (da : s.heap.DictOf knd a ka) (db : s.heap.DictOf knd b kb) (hu : A.units < cLine) (hits : ka.length = kb.length → PySem.W.KeqHitsP prog w A.in1 s kb ka r) (E Q : Value → Shared → Prop) (q : Q (.bool (!(ka.length == kb.length && r))) s) : wpAny (model prog w) A (richCompare .NotEq (.ref a) (.ref b)) Q E s :=
  wpAny_richCompare_same_room (op := .NotEq) da.typeIs db.typeIs PySem.F.slot_dict_ne (wpAny_call_entry PySem.F.slot_dict_ne da.typeIs PySem.F.entry_dict_ne (by
    show wpAny _ _ (Builtin.Dict.dictSlotArgs "__ne__" ⟨[.ref a, .ref b], []⟩ >>= _) _ _ s
    unfold Builtin.Dict.dictSlotArgs
    refine wpAny_bind (wpAny_bind (wpAny_notOrdered_dict da.typeIs ?_)); show wpAny _ _ (pure (Value.ref a, Value.ref b)) _ _ s
    refine wpAny_pure (wpAny_bind (wpAny_isInstance (T := "dict") db.typeIs PySem.F.sub_dict_dict ?_)); simp only [Bool.not_true, Bool.false_eq_true, if_false]
    refine wpAny_bind (wpAny_pure (wpAny_bind (wpAny_pure (wpAny_bind (PySem.W.samePairsP ha hb da db hits ?_)))))
    exact wpAny_pure ⟨_, rfl, (fun x => nomatch x), by simpa using q⟩) (PySem.F.args_dict_ne_2 _ _)) hu
def rNeE (K : PySem.W.Frag) : R2 := fun x y H Q => ∃ rho a b r, Rep K H rho x (.dct a) ∧ Rep K H rho y (.dct b) ∧ eqE 8 (.dct a) (.dct b) = some r ∧ Q (.bl (!r)) H
/-- d != e as data, where that is plain -/
def neV (d e : D) : Option Bool := @ite _ (okq 24 d = true ∧ okq 24 e = true) (Classical.propDecidable _) (some (!eqD d e)) (match d, e with
  | .dct a, .dct b => (eqE 8 (.dct a) (.dct b)).map (!·)
  | _, _ => none)
def mNeA (ma mb : M Hd) : M D := bd ma fun h1 => bd mb fun h2 => bd (vwH h1) fun d => bd (vwH h2) fun e => opM (neV d e) fun b => pu (.bl b)
section
variable {X : Cx} {W : WX} {a b : Expr} {ma mb : M Hd} {pos : Pos}
theorem op_neE (hu : X.A.units + 64 < cLine) : OpR X (compareOp .NotEq) (rNeE X.K) := by
  rintro pins s σ H x y v u Q I rx ry ⟨rho, xs, ys, r, h, k, g, q⟩
  cases h with
  | @dct a kvs _ h1 k1 =>
    cases k with
    | @dct a' lvs _ h2 k2 =>
      cases rx
      cases ry
      obtain ⟨_, la, va, ra, da⟩ := dk_rd I.hok h1
      obtain ⟨_, lb, vb, rb, db⟩ := dk_rd I.hok h2
      have e1 : va.length = xs.length := by rw [← ra.length, repK_len k1]
      have e2 : vb.length = ys.length := by rw [← rb.length, repK_len k2]
      have g : (if xs.length = ys.length then hitE (eqE 7) ys xs else some false) = some r := g
      refine dicts_ne (knd := mixKind X.prog X.w) (r := r) la lb da db (by omega) (fun el => ?_) _ _ ?_
      · rw [if_pos (by rw [← e1, ← e2]; exact el)] at g
        exact hits_E (eqP_E I 7 X.A.in1 (by rw [units1]; omega)) k2 rb xs kvs va r k1 ra g
      · refine ⟨.bl (!r), H, I, ?_, q⟩
        by_cases el : xs.length = ys.length
        · rw [show (va.length == vb.length && r) = r by rw [e1, e2, el]; simp]; rfl
        · rw [if_neg el] at g
          cases g
          rw [Bool.and_false]; rfl
theorem op_neA (hu : X.A.units + 64 < cLine) : OpR X (compareOp .NotEq) (fun x y H Q => rEqG X.K true x y H Q ∨ rNeE X.K x y H Q) := by
  rintro pins s σ H x y v u Q I rx ry (h | h)
  · exact op_neG hu pins s σ H x y v u Q I rx ry h
  · exact op_neE hu pins s σ H x y v u Q I rx ry h
theorem neA_tr {σ : L2.St} {H : Hp} {Q : VK} (q : tM X.K X.ev W (rlD X.K) (mNeA ma mb) σ H Q) : tOp (fun x y H Q => rEqG X.K true x y H Q ∨ rNeE X.K x y H Q) (fun σ H Q => tM X.K X.ev W (rlH X.K σ) ma σ H Q) (fun σ H Q => tM X.K X.ev W (rlH X.K σ) mb σ H Q) σ H Q := by
  obtain ⟨G, en, so, s, p⟩ := q
  refine ⟨G, en, so, s, (Post.bind (R1 := rlH X.K σ) p).imp fun v H1 ⟨G1, en1, so1, h1, l, r1, s1, p1⟩ => ⟨G1, en1, so1, s1, (Post.bind (R1 := rlH X.K σ) p1).imp fun y H2 ⟨G2, en2, so2, h2, l2, r2, s2, p2⟩ => ?_⟩⟩
  obtain ⟨d, rd, p3⟩ := vwH_at s2 (r1.up l2 (H' := H2)) p2
  obtain ⟨e, re, p4⟩ := vwH_at s2 r2 p3
  obtain ⟨b, eb, p5⟩ := opM_at p4
  unfold neV at eb
  split at eb
  · rename_i o
    cases eb
    exact .inl ⟨H2, G2.rho, d, e, Same.refl _, rd, re, o.1, o.2, p5.ok s2 (.bl _)⟩
  · split at eb
    · rename_i x y _
      cases hz : eqE 8 (.dct x) (.dct y) with
      | none => rw [hz] at eb; cases eb
      | some z =>
        rw [hz] at eb
        cases eb
        exact .inr ⟨G2.rho, x, y, z, rd, re, hz, p5.ok s2 (.bl _)⟩
    · cases eb
theorem d_neA (hu : X.A.units + 64 < cLine) (ha : DH X W a ma) (hb : DH X W b mb) (hm : behindInMarks .NotEq b = false := by with_unfolding_all rfl) : DE X W (.Compare a [.NotEq] [b] pos) (mNeA ma mb) :=
  ⟨PE_imp (pe_cmpR (op_neA hu) ha.pe hb.pe hm) fun _ _ _ q => neA_tr q⟩
theorem d_neAT (hu : X.A.units + 64 < cLine) (ha : DH X W a ma) (hb : DH X W b mb) (hm : behindInMarks .NotEq b = false := by with_unfolding_all rfl) : DT X W (.Compare a [.NotEq] [b] pos) (mT (mNeA ma mb)) :=
  ⟨PT_imp (pt_cmpR (op_neA hu) ha.pe hb.pe hm) fun _ _ _ q => neA_tr (mT_tr q)⟩
end
section
variable {en : En} {so : So}
@[simp] theorem mNeA_ (ma mb : M Hd) : mNeA ma mb en so = bdR (ma en so) fun h1 => bd mb fun h2 => bd (vwH h1) fun d => bd (vwH h2) fun e => opM (neV d e) fun b => pu (.bl b) := rfl
theorem neV_ok {d e : D} (h1 : okq 24 d = true) (h2 : okq 24 e = true) : neV d e = some (!eqD d e) := by
  unfold neV
  rw [if_pos ⟨h1, h2⟩]
theorem okq_dct (n : Nat) (kv : List (Ky × D)) : okq n (.dct kv) = false := by cases n <;> rfl
theorem neV_dct {a b : List (Ky × D)} : neV (.dct a) (.dct b) = (eqE 8 (.dct a) (.dct b)).map (!·) := by
  unfold neV
  rw [if_neg (fun h => by rw [okq_dct] at h; exact absurd h.1 (by decide))]
/-- two tables of the same answers -/
theorem eqV_same {A : Type} {f : A → D} {M N : Tb A} (nd : (keys N).Nodup) (hl : M.length = N.length) (h : ∀ x ∈ M, look N x.1 = some x.2) (hf : ∀ a, eqE 7 (f a) (f a) = some true) : eqE 8 (.dct (tab f M)) (.dct (tab f N)) = some true := by
  show (if (tab f M).length = (tab f N).length then hitE (eqE 7) (tab f N) (tab f M) else some false) = some true
  rw [if_pos (by rw [tab_len, tab_len, hl])]
  have key : ∀ L : Tb A, (∀ x ∈ L, look N x.1 = some x.2) → hitE (eqE 7) (tab f N) (tab f L) = some true := by
    intro L
    induction L with
    | nil => intro _; rfl
    | cons x L ih =>
      intro h
      obtain ⟨k, a⟩ := x
      have e1 := h (k, a) List.mem_cons_self
      have e2 := ih fun y hy => h y (List.mem_cons_of_mem _ hy)
      show (match valD (tab f N) (Sum.inr k) with
        | none => some false
        | some y => match eqE 7 (f a) y, hitE (eqE 7) (tab f N) (tab f L) with
          | some p, some q => some (p && q)
          | _, _ => none) = _
      rw [valD_tab, e1, e2]
      show (match eqE 7 (f a) (f a), some true with | some p, some q => some (p && q) | _, _ => none) = _
      rw [hf]
      rfl
  exact key M h
end
/-! ### order of texts -/
def rS2 (f : Str → Str → V) : R2 := fun x y H Q => ∃ i j, x = .str i ∧ y = .str j ∧ Q (f i j) H
def leS : D → D → M D
  | .str a, .str b => pu (.bl (leC a b))
  | _, _ => no
def ltS : D → D → M D
  | .str a, .str b => pu (.bl (!leC b a))
  | _, _ => no
section
variable {X : Cx} {K : PySem.W.Frag} {mg : Ev}
theorem op_ltS : OpR X (compareOp .Lt) (rS2 fun i j => .bl (decide (i.cps.toList < j.cps.toList))) := fun pins s σ H x y v u Q I rx ry h => op_lt_str pins s σ H x y v u Q I rx ry h
theorem op_leS : OpR X (compareOp .LtE) (rS2 fun i j => .bl (!decide (j.cps.toList < i.cps.toList))) := by
  rintro pins s σ H x y v u Q I rx ry ⟨i, j, rfl, rfl, q⟩
  obtain ⟨t, rfl⟩ := rx
  obtain ⟨t', rfl⟩ := ry
  exact PySem.P.le_str ⟨.bl _, H, I, rfl, q⟩
theorem op2_leS : Op2 K mg (rS2 fun i j => .bl (!decide (j.cps.toList < i.cps.toList))) leS := by
  intro x y d e G en so σ H W Q rx ry s p
  cases d <;> cases e <;> try exact False.elim p
  rename_i a b
  cases rx; cases ry
  refine ⟨_, _, rfl, rfl, ?_⟩
  have h : (!decide ((sT b).cps.toList < (sT a).cps.toList)) = leC a b := by unfold leC; rw [ltCps_eq]; rfl
  show Q (.bl (!decide ((sT b).cps.toList < (sT a).cps.toList))) H
  rw [h]
  exact p.ok s (.bl _)
theorem op2_ltS : Op2 K mg (rS2 fun i j => .bl (decide (i.cps.toList < j.cps.toList))) ltS := by
  intro x y d e G en so σ H W Q rx ry s p
  cases d <;> cases e <;> try exact False.elim p
  rename_i a b
  cases rx; cases ry
  refine ⟨_, _, rfl, rfl, ?_⟩
  have h : decide ((sT a).cps.toList < (sT b).cps.toList) = !leC b a := by unfold leC; rw [ltCps_eq, Bool.not_not]; rfl
  show Q (.bl (decide ((sT a).cps.toList < (sT b).cps.toList))) H
  rw [h]
  exact p.ok s (.bl _)
@[simp] theorem leS_ (a b : List Nat) : leS (.str a) (.str b) = pu (.bl (leC a b)) := rfl
@[simp] theorem ltS_ (a b : List Nat) : ltS (.str a) (.str b) = pu (.bl (!leC b a)) := rfl
@[simp] theorem inT_ (d : D) (xs : List D) : inD d (.tup xs) = gd (okq 23 d = true ∧ xs.all (okq 23) = true) (pu (.bl (xs.any fun z => eqD z d))) := rfl
@[simp] theorem inL_ (d : D) (xs : List D) : inD d (.lst xs) = gd (okq 23 d = true ∧ xs.all (okq 23) = true) (pu (.bl (xs.any fun z => eqD z d))) := rfl
@[simp] theorem niT_ (d : D) (xs : List D) : niD d (.tup xs) = gd (okq 23 d = true ∧ xs.all (okq 23) = true) (pu (.bl (!xs.any fun z => eqD z d))) := rfl
@[simp] theorem niL_ (d : D) (xs : List D) : niD d (.lst xs) = gd (okq 23 d = true ∧ xs.all (okq 23) = true) (pu (.bl (!xs.any fun z => eqD z d))) := rfl
end
end
end Dl

set_option Elab.async false
set_option linter.all false
set_option maxRecDepth 100000
set_option maxHeartbeats 2000000
/-! The data level: all(test for c in text), the test over the module's names. -/
namespace Dl
open PySem PySem.Spec PyProof.Rows L2
noncomputable section
/-- the test of one sign, where the module's names are read -/
def EltN (X : Cx) (scope : Scope) (x : Str) (elt : Expr) (pb : Nat → Bool) : Prop :=
  ∀ (e : Env) (B : Around) (Z : Value → Shared → Prop) (c : Nat) (t : Tok) (z : Shared) (m : Str → Option Value), e.scope = scope → e.globals = mainGlobals → z.heap.Ns mainGlobals X.mg → z.heap.Ns e.locals m → m x = some (.str ⟨#[c]⟩ t) →
    wpAny (model X.prog X.w) B (eval elt e) (fun y z' => y = .bool (pb c) ∧ Keeps z z') Z z
theorem elt_inG {X : Cx} {scope : Scope} {x g : Str} {l : List Nat} {p1 p2 p3 : Pos} (hk : scope.kind = .function) (hl : scope.names.lookup x = some .local) (hg : scope.names.lookup g = some .globalImplicit) (hm : ∃ z t, X.mg g = some (.str z t) ∧ z.cps.toList = l)
    (d1 : (x == ("__debug__" : Str)) = false := by decide) (d2 : (g == ("__debug__" : Str)) = false := by decide) : EltN X scope x (.Compare (.Name x p1) [.In] [.Name g p2] p3) (fun c => decide (c ∈ l)) := by
  intro e B Z c t z m es eg hG hL hx
  obtain ⟨u, tu, hu, rfl⟩ := hm
  refine wpAny_Compare1 (wpAny_Name (wpAny_loadName_local (es ▸ hk) (show e.scope.names.lookup x = some .local by rw [es]; exact hl) hL hx ?_) d1)
  refine Calls.Name_function_global (es ▸ hk) (show e.scope.names.lookup g = some .globalImplicit by rw [es]; exact hg) (Calls.loadGlobal_global (eg ▸ hG) hu ?_) d2
  refine PyProof.Rows.in_str ⟨?_, GxR.keeps_refl _⟩
  rw [StrLaws.found_one]
/-- the code of a generator, its builtins -/
theorem code_gx {X : Cx} {s1 : Shared} {c P : Addr} {o : Obj} {gpos : Pos} {qn : Str} {scope : Scope} {ps : Array Value} {Φ : Value → Addr → Shared → Prop} (TB : GxR.TabB X.base X.mg c P) (hcode : X.env.code = .ref c) (hglob : X.env.globals = mainGlobals) (bk : ∀ b u, X.base.get? b = some u → s1.heap.get? b = some u)
    (hg : s1.heap.Ns mainGlobals X.mg) (tab1 : s1.heap.get? P = some { cls := .none, data := .fields ps }) (tk0 : TriplesOk ps.toList)
    (hΦ : ∀ (code : Value) (h3 : Heap) (tk : Nat) (qs : Array Value), Heap.ExtBut P (s1.heap.push o) h3 → (s1.heap.push o).objs.size ≤ h3.objs.size → h3.get? P = some { cls := .none, data := .fields qs } → (∃ more, qs = ps ++ more) → TriplesOk qs.toList → Φ code builtinsNs { s1 with heap := h3, toks := tk }) :
    wpAny (model X.prog X.w) X.A (genexprCode X.env gpos qn scope) (fun code s3 => wpAny (model X.prog X.w) X.A (builtinsFor X.env.globals X.env.builtins) (fun bi s4 => Φ code bi s4) X.xe s3) X.xe { s1 with heap := s1.heap.push o } := by
  have tab2 : (s1.heap.push o).get? P = some { cls := .none, data := .fields ps } := Heap.get?_push_of_some _ tab1
  have hd2 : PySem.W.CodeHd (s1.heap.push o) c P := TB.code.keeps fun b u e => Heap.get?_push_of_some _ (bk b u e)
  have go : ∀ (code : Value) (h3 : Heap) (tk : Nat) (qs : Array Value), Heap.ExtBut P (s1.heap.push o) h3 → (s1.heap.push o).objs.size ≤ h3.objs.size → h3.get? P = some { cls := .none, data := .fields qs } → (∃ more, qs = ps ++ more) → TriplesOk qs.toList → wpAny (model X.prog X.w) X.A (builtinsFor X.env.globals X.env.builtins) (fun bi s4 => Φ code bi s4) X.xe { s1 with heap := h3, toks := tk } := by
    intro code h3 tk qs hx hsz tab3 em tk3
    obtain ⟨bm, ob, e1, e2, e3, e4, e5, e6, e7, e8⟩ := TB.bm
    exact wpAny_builtinsFor (m := X.mg) (by rw [hglob]; exact (hg.push o).extBut hx TB.gP) e1 e2 (hx _ _ e4 (Heap.get?_push_of_some _ (bk _ _ e5))) e6 e7 e8 (hΦ code h3 tk qs hx hsz tab3 em tk3)
  cases hf : codeAmong gpos ps.toList with
  | some cv => exact wpAny_genexprCode_hit hcode (hd2.code tab2 tk0) hf (go cv (s1.heap.push o) s1.toks ps (Heap.ExtBut.refl _ _) (Nat.le_refl _) tab2 ⟨#[], by simp⟩ tk0)
  | none =>
    refine wpAny_genexprCodeX hcode (hd2.code tab2 tk0) (hd2.tab tab2) hf fun c' h' tk hx hge hlt hco' _ htab' _ => ?_
    obtain ⟨_, _, _, _, _, _, _, _, _, _, _, _, _, _, _, _, _, _, _, htr, _⟩ := hco'
    exact go _ h' tk _ hx (Nat.le_trans hge (Nat.le_of_lt hlt)) htab'.2 ⟨_, rfl⟩ htr
/-- the generator over the signs of a text is ready -/
theorem gen_txt {X : Cx} {pins : List (Addr × Obj)} {σ : L2.St} {H : Hp} {s : Shared} {c P : Addr} {elt iter : Expr} {x : Str} {px gpos : Pos} {scope : Scope} {pb : Nat → Bool} {te : TE} {k : Nat} {Qz : Value → Shared → Prop} {Rz : Str → Hp → Prop}
    (hr : Room k X.A) (TB : GxR.TabB X.base X.mg c P) (hcode : X.env.code = .ref c) (S : GxR.GenS X.env scope x) (hi : PE X iter te) (hel : EltN X scope x elt pb) (hfold : ∀ v, genFold iter X.env v = pure v) (I : Inv X pins σ H s)
    (h : te σ H fun v H1 => ∃ a : Str, v = .str a ∧ GxR.TabG H1 P ∧ Rz a H1) (hz : ∀ a H1 g s5, Rz a H1 → GxR.Ready X pins σ H1 P a pb g s5 → Qz (.ref g) s5) :
    wpAny (model X.prog X.w) X.A (eval (.GeneratorExp elt [⟨.Name x px, iter, [], 0⟩] scope gpos) X.env) Qz X.xe s := by
  refine wpAny_GeneratorExp_walksQ hr.hd S.co (closure_ok S.free) S.cell S.dot S.loc S.kind (by have := hr.dp; omega) (thn (hi.run pins s σ H _ I h) ?_) hfold
  rintro xv s1 ⟨v, H1, I1, r1, a, rfl, ⟨ps, hP, tk0⟩, q1⟩
  obtain ⟨t, rfl⟩ := _root_.id r1
  refine wpAny_pyIter_str fun o St W hst => ?_
  -- the table, before and behind the iterator's making
  have tab1 : s1.heap.get? P = some { cls := .none, data := .fields ps } := I1.hok P _ hP
  have ltP : P < s1.heap.objs.size := Heap.lt_size tab1
  have tab2 : (s1.heap.push o).get? P = some { cls := .none, data := .fields ps } := Heap.get?_push_of_some _ tab1
  have hd2 : PySem.W.CodeHd (s1.heap.push o) c P := TB.code.keeps fun b u e => Heap.get?_push_of_some _ (I1.bk b u e)
  have lim2 := I1.nolimit.push o
  have glob2 : (s1.heap.push o).Ns mainGlobals X.mg := (I1.mod.glob.keeps I1.bk).push o
  have stat : cStatics ≠ P ∧ cStatics < s1.heap.objs.size := by
    obtain ⟨_, hns, _⟩ := I1.nolimit
    refine ⟨fun e => ?_, hns.lt⟩
    obtain ⟨o', es, ep, ho, hd, _⟩ := hns
    rw [e, tab1] at ho
    cases ho
    cases hd
  refine ⟨lim2, code_gx TB hcode I1.ok.glob I1.bk (I1.mod.glob.keeps I1.bk) tab1 tk0 fun code h3 tk qs hx hsz tab3 hmore tk3 => ?_⟩
  · obtain ⟨more, em⟩ := hmore
    have sz2 : (s1.heap.push o).objs.size = s1.heap.objs.size + 1 := Heap.size_push ..
    have keep3 : ∀ b u, b ≠ P → s1.heap.get? b = some u → h3.get? b = some u := fun b u hb e => hx b u hb (Heap.get?_push_of_some _ e)
    have glob3 : h3.Ns mainGlobals X.mg := glob2.extBut hx TB.gP
    refine ⟨s1.heap.objs.size, [s1.heap.objs.size], [s1.heap.objs.size], a.cps.size, SignAt a, St, (fun _ => true), (fun i y => ∃ cc, a.cps[i]? = some cc ∧ y = .bool (pb cc)), rfl, W, ?_, ?_, lim2.extBut hx stat.1, ?_, fun href hh => ⟨?_, ?_⟩, fun g h5 tk5 gs hgb hag hsz5 hk5 W5 hat => ?_⟩
    · refine (W X.A hr.hd).frame _ _ _ hst fun b hb u e => hx b u (fun z => ?_) e
      rw [List.mem_singleton] at hb
      exact Nat.ne_of_lt ltP (z.symm.trans hb)
    · intro b hb; rw [List.mem_singleton] at hb; rw [hb]
      show s1.heap.objs.size < h3.objs.size; omega
    · intro z; rw [List.mem_singleton] at z
      exact Nat.ne_of_lt stat.2 z
    · intro B Z i v s2 m2 _ _ _ _ _
      simp only [List.forIn_nil]; exact wpAny_pure ⟨rfl, GxR.keeps_refl _⟩
    · intro B Z i v s2 m2 _ hPv _ hn hm hk
      obtain ⟨cc, u, hcc, rfl⟩ := hPv
      have g2 : s2.heap.Ns mainGlobals X.mg := by
        obtain ⟨og, eg, epg, hog, rg⟩ := glob3
        have hlt := Heap.lt_size hog
        refine ⟨og, eg, epg, hk _ (List.mem_range.mpr hlt) (fun z => ?_) og (hh _ _ hog), rg⟩
        rw [List.mem_singleton] at z
        obtain ⟨o1, _, _, ho1, _⟩ := I1.mod.glob.keeps I1.bk
        exact Nat.ne_of_lt (Heap.lt_size ho1) z
      exact wpAny_mono (hel _ B Z cc u s2 m2 rfl (by show X.env.globals = _; exact I1.ok.glob) g2 hn hm) (fun y s3 r => ⟨⟨cc, hcc, r.1⟩, r.2⟩) fun _ _ e => e
    · simp only [GxR.passing_true, List.length_range] at W5
      refine hz a H1 g _ q1 ⟨_, _, _, _, _, W5.in4_1, hat, fun j y sj Qj Ej ⟨i, hij, cc, hcc, hy⟩ hQj => ?_, fun s' hm => ?_⟩
      · subst hy
        obtain ⟨hj, ej⟩ := List.getElem?_eq_some_iff.mp hij
        rw [List.getElem_range] at ej; subst ej
        have hQ2 : Qj (GxR.trF pb a.cps.toList j) sj := hQj
        rw [GxR.trF_some (b := cc) (by rw [Array.getElem?_toList]; exact hcc)] at hQ2
        exact wpAny_truthy_bool hQ2
      · have off : ∀ b u, s1.heap.get? b = some u → b ∉ h3.objs.size :: [s1.heap.objs.size] := fun b u e hb => by
          have hl := Heap.lt_size e
          rw [List.mem_cons, List.mem_singleton] at hb
          have hb : b = h3.objs.size ∨ b = s1.heap.objs.size := hb
          rcases hb with hb | hb
          · rw [hb] at hl
            have hl2 : (h3.objs.size : Nat) < s1.heap.objs.size := hl
            omega
          · rw [hb] at hl
            exact Nat.lt_irrefl _ hl
        have J := GxR.inv_tab (more := more) (h' := s'.heap) (g' := s'.gens) (d' := s'.drawn) (t' := s'.toks) I1 hP (fun b u hb e => hm.heap b u (off b u e) (hk5 b u (keep3 b u hb e))) (by rw [← em]; exact hm.heap P _ (off P _ tab1) (hk5 P _ tab3)) (AllBare.movedS (I1.bare.push hgb) hm)
        rw [GxR.sh_eta s1 s' hm.os] at J
        exact ⟨upd H1 P (.tbl (ps ++ more)), ⟨⟨ps ++ more, upd_same, by rw [← em]; exact tk3⟩, fun b hb => upd_ne hb⟩, J⟩
/-- all(test for c in text) -/
theorem pe_allN {X : Cx} {c P : Addr} {elt iter : Expr} {x : Str} {px p pos gpos : Pos} {scope : Scope} {pb : Nat → Bool} {te : TE} {k : Nat} (hr : Room k X.A) (hg : Gl X "all") (hm : X.mg "all" = none) (TB : GxR.TabB X.base X.mg c P) (hcode : X.env.code = .ref c) (S : GxR.GenS X.env scope x) (hi : PE X iter te) (hel : EltN X scope x elt pb)
    (hfold : ∀ v, genFold iter X.env v = pure v) (he : starEach [.GeneratorExp elt [⟨.Name x px, iter, [], 0⟩] scope gpos] X.env = (false, eval (.GeneratorExp elt [⟨.Name x px, iter, [], 0⟩] scope gpos) X.env) :: starEach [] X.env := by rfl) :
    PE X (.Call (.Name "all" p) [.GeneratorExp elt [⟨.Name x px, iter, [], 0⟩] scope gpos] [] pos) (GxR.tAllS P pb te) := by
  refine ⟨fun pins s σ H Q I h => wpAny_Call_Name_kw (ld_blt I hg hm PyProof.Rows.boot_all (PyProof.Rows.callWith_builtin1 ?_ he (by rfl)))⟩
  rw [he]
  show wpAny _ _ (spliced ((false, eval (.GeneratorExp elt [⟨.Name x px, iter, [], 0⟩] scope gpos) X.env) :: backTo pos (starEach [] X.env))) _ _ s
  refine Calls.spliced_cons (gen_txt (Rz := fun a H1 => ∀ H2, GxR.Tabbed P H1 H2 → Q (.bl (a.cps.toList.all pb)) H2) hr TB hcode S hi hel hfold I h ?_)
  rintro a H1 g s5 hR ⟨fp, wr, G, F, St, W, hst, htr, hI⟩
  refine Calls.spliced_nil (call_all_walkS (W.self 0 _ _ _ hst ⟨g, fp, wr, G, _, F, St, _, rfl, W, hst, htr, fun s' hmv => ?_⟩))
  obtain ⟨H2, hT, J⟩ := hI s' hmv
  exact ⟨.bl _, H2, J, rfl, by rw [GxR.all_signs a pb]; exact hR H2 hT⟩
/-- a table has grown -/
theorem Sim.tabbed {K : PySem.W.Frag} {mg : Ev} {G : Gh} {en : En} {so : So} {σ : L2.St} {H H2 : Hp} {P : Addr} {ps : Array Value} (s : Sim K mg G en so σ H) (hR : G.R P = some (.tbl ps)) (hT : GxR.Tabbed P H H2) : ∃ G2, G.le G2 ∧ G2.F = G.F ∧ G2.rho = G.rho ∧ Sim K mg G2 en so σ H2 := by
  obtain ⟨⟨ps2, h2, t2⟩, hk⟩ := hT
  obtain ⟨hP, w⟩ := s.re P _ hR
  have off : ∀ {a : Addr} {t : Tag}, G.own a = t → t ≠ .rest → a ≠ P := fun {a t} e n z => n (by rw [← e, z]; exact w)
  have eF : Same G.F (G.setR (upd G.R P (.tbl ps2))).F := Same.refl G.F
  have er : Pre G.rho (G.setR (upd G.R P (.tbl ps2))).rho := fun _ _ h => h
  refine ⟨G.setR (upd G.R P (.tbl ps2)), ⟨eF, er, ⟨fun a o h n => ?_, fun a qs h t => ?_⟩, rfl⟩, rfl, rfl, ⟨⟨fun a o e => ?_, fun a o e => ?_, s.len, fun k o a dx e1 e2 => ?_, fun a o e => ?_, fun q hq => ?_⟩, s.ln, fun i b e => ?_⟩⟩
  · show upd G.R P (.tbl ps2) a = some o
    rw [upd_ne (fun z => n ps (by rw [z, hR] at h; exact (Option.some.inj h).symm))]
    exact h
  · by_cases hb : a = P
    · exact ⟨ps2, by rw [hb]; exact upd_same, t2⟩
    · exact ⟨qs, by show upd G.R P (.tbl ps2) a = _; rw [upd_ne hb]; exact h, t⟩
  · obtain ⟨h1, h3⟩ := s.fr a o e
    exact ⟨by rw [hk a (off h3 (by intro z; cases z))]; exact h1, h3⟩
  · have e : upd G.R P (.tbl ps2) a = some o := e
    by_cases hb : a = P
    · subst hb
      rw [upd_same] at e
      cases e
      exact ⟨h2, w⟩
    · rw [upd_ne hb] at e
      obtain ⟨h1, h3⟩ := s.re a o e
      exact ⟨by rw [hk a hb]; exact h1, h3⟩
  · exact (s.ob k o a dx e1 e2).keep eF er fun b u h1 h3 => ⟨by rw [hk b (off rfl (by rcases h3 with h3 | h3 <;> (rw [h3]; intro z; cases z)))]; exact h1, rfl⟩
  · obtain ⟨h1, h3⟩ := s.lk a o e
    exact ⟨by rw [hk a (off h3 (by intro z; cases z))]; exact h1, h3⟩
  · by_cases hb : q.2 = P
    · exact ⟨ps2, by show upd G.R P (.tbl ps2) q.2 = _; rw [hb]; exact upd_same, t2⟩
    · obtain ⟨qs, h1, h3⟩ := s.tb q hq
      exact ⟨qs, by show upd G.R P (.tbl ps2) q.2 = _; rw [upd_ne hb]; exact h1, h3⟩
  · obtain ⟨v, e1, r⟩ := s.sl i b e
    exact ⟨v, e1, r.keep eF er fun a u h1 h3 => ⟨by rw [hk a (off h3 (by intro z; cases z))]; exact h1, h3⟩⟩
def mAllT (pb : Nat → Bool) (m : M D) : M D := bd m fun d => match d with
  | .str z => pu (.bl (z.all pb))
  | _ => no
/-- all(test for c in e), e a text -/
theorem d_allN {X : Cx} {W : WX} {c P : Addr} {elt iter : Expr} {x : Str} {px p pos gpos : Pos} {scope : Scope} {pb : Nat → Bool} {m : M D} {k : Nat} (hr : Room k X.A) (hg : Gl X "all") (hm : X.mg "all" = none) (TB : GxR.TabB X.base X.mg c P) (hp : (c, P) ∈ tabsK X.K) (hcode : X.env.code = .ref c) (S : GxR.GenS X.env scope x) (hi : DE X W iter m) (hel : EltN X scope x elt pb)
    (hfold : ∀ v, genFold iter X.env v = pure v := by intro _; rfl) (he : starEach [.GeneratorExp elt [⟨.Name x px, iter, [], 0⟩] scope gpos] X.env = (false, eval (.GeneratorExp elt [⟨.Name x px, iter, [], 0⟩] scope gpos) X.env) :: starEach [] X.env := by rfl) :
    DE X W (.Call (.Name "all" p) [.GeneratorExp elt [⟨.Name x px, iter, [], 0⟩] scope gpos] [] pos) (mAllT pb m) := by
  refine ⟨PE_imp (pe_allN hr hg hm TB hcode S hi.pe hel hfold he) fun σ H Q ⟨G, en, so, s, q⟩ => ⟨G, en, so, s, (Post.bind (R1 := rlD X.K) q).imp fun v H1 ⟨G1, en1, so1, d, l, r1, s1, p1⟩ => ?_⟩⟩
  cases r1 with
  | str z =>
    obtain ⟨ps, h1, h2⟩ := s1.tb (c, P) hp
    refine ⟨sT z, rfl, ⟨ps, (s1.re P _ h1).1, h2⟩, fun H2 hT => ?_⟩
    obtain ⟨G2, l2, _, _, s2⟩ := s1.tabbed h1 hT
    rw [tl_sT]
    exact p1.ok' l2 s2 (.bl _)
  | _ => exact False.elim p1
theorem genS_of {env : Env} {scope : Scope} {x : Str} (h1 : scope.kind = .function) (h2 : scope.isCoroutine = false) (h3 : ∀ y ∈ scope.names, y.2 ≠ .cell) (h4 : scope.names.lookup (".0" : Str) = some NameKind.local) (h5 : scope.names.lookup x = some .local) (h6 : ∀ y ∈ scope.names, y.2 ≠ .free) : GxR.GenS env scope x :=
  ⟨h1, h2, h3, h4, h5, fun y hy h => absurd h (h6 y hy)⟩
/-- THE RULE for a def that makes generators: its code object and the table are known -/
theorem fn_dG {P : Program} {w : World} {K : PySem.W.Frag} {mg : Str → Option Value} {base : Heap} {x : Str} {qual : Str} {st : Stmt} {f : Addr} {fd : FuncData} {N ps : List Str} {k : Nat} {m : M Fl} (TB : ∀ p ∈ tabsK K, GxR.TabB base mg p.1 p.2) (hx : PySem.W.nsIn K mainGlobals x = some (some (.ref f))) (hgn : x ∈ genNames) (F : Fun K x qual st f fd) (S : FnScope N ps (defScope st))
    (hb : ∀ (c T : Addr) (A : Around) (outer : List Env) (s : Shared) (H : Hp) (E : XK), (c, T) ∈ tabsK K → GxR.TabB base mg c T → Room k (A.deeper (envOfC qual (defScope st) s.heap.objs.size f (.ref c))) →
      DSs (cxOf (L2.CX P w) P w K mg base N qual (defScope st) f (.ref c) A outer s H E) (fun Cl d _ H => E Cl d H) (defBody st) m) : FnOk P w K mg base (L2.CX P w) (k + 1) f fd ps (spD K mg (mkF ps.length N.length m)) := by
  obtain ⟨oc, od, kV, doc, pm, an, cdv, ct, osl, rfl, lk, hcd⟩ := F.ex
  obtain ⟨c, rfl⟩ : ∃ c, cdv = .ref c := by
    cases cdv with
    | ref c => exact ⟨c, rfl⟩
    | _ => cases hcd
  have hc : (c, tabA K c) ∈ tabsK K := by
    refine List.mem_filterMap.mpr ⟨x, hgn, ?_⟩
    have : codeA K x = some c := by
      unfold codeA
      rw [hx]
      simp only [lk, Option.map_some]
    rw [this]
    rfl
  refine fn_of lk hcd S (fun vs H Q E ⟨G, ds, so, r, s, p⟩ => ?_) fun A outer s H vs Q E hr ⟨G, ds, so, r, sm, p⟩ => ⟨_, ev_ps hr.hd (hb c _ A outer s H E hc (TB _ hc) hr).ps, G, ds.map (fun d => some (.dat d)) ++ List.replicate (N.length - ds.length) none, so, ?_, ?_⟩
  · unfold mkF at p
    by_cases h : ds.length = ps.length
    · rw [r.len]; exact h
    · rw [if_neg h] at p; exact False.elim p
  · have e : L2.start N vs = vs.map some ++ List.replicate (N.length - ds.length) none := by rw [← r.len]; rfl
    rw [e]
    exact ⟨sm, by simp [r.len], fun i b e => args_sl _ i b r e⟩
  · unfold mkF at p
    by_cases h : ds.length = ps.length
    · rw [if_pos h] at p
      revert p
      generalize m (ds.map (fun d => some (.dat d)) ++ List.replicate (N.length - ds.length) none) so = r
      intro p
      cases r with
      | no => exact False.elim p
      | exc x en so => exact fun Cl d σ' H' G' l s' x' => p Cl d H' G' l s'.toSimO x'
      | ok fl en so =>
        cases fl with
        | nx => exact fun σ' H' G' l s' => p .non H' G' l s'.toSimO .non
        | rt b => exact fun v σ' H' G' l s' rb => p v H' G' l s'.toSimO rb
        | bk => exact False.elim p
        | ct => exact False.elim p
    · rw [if_neg h] at p; exact False.elim p
section
variable {en : En} {so : So}
def kAllT (pb : Nat → Bool) : D → M D := fun d => match d with
  | .str z => pu (.bl (z.all pb))
  | _ => no
@[simp] theorem mAllT_ (pb : Nat → Bool) (m : M D) : mAllT pb m en so = bdR (m en so) (kAllT pb) := rfl
@[simp] theorem kAllT_ (pb : Nat → Bool) (z : List Nat) : kAllT pb (.str z) = pu (.bl (z.all pb)) := rfl
end
end
end Dl

set_option Elab.async false
set_option linter.all false
set_option maxRecDepth 100000
set_option maxHeartbeats 1000000
/-! The data level: == and != of objects of one class by its own __eq__. -/
namespace Dl
open PySem PySem.Spec PyProof.Rows L2
noncomputable section
/-- all keys of the namespace are texts -/
def nsOkL (K : PySem.W.Frag) (N : Addr) : Bool := match K.lookup N with
  | some ⟨_, _, .dict es _, _⟩ => es.toList.all fun e => match e.key with | .str _ _ => true | _ => false
  | _ => false
theorem nsOkL_in {K : PySem.W.Frag} {N : Addr} (h : nsOkL K N = true) : PySem.W.nsOkIn K N = true := by
  unfold nsOkL at h
  unfold PySem.W.nsOkIn
  split at h
  · rename_i q
    rw [q]
    dsimp only
    rw [← Array.all_toList]
    exact h
  · cases h
/-- what != asks of the class: __eq__ of its own, no __ne__ -/
structure EqC (K : PySem.W.Frag) (C : Addr) : Prop where
  ex : ∃ (nm q : Str) (N f : Addr) (bs : List Value) (hd : Bool) (sn : List Str) (sub : List Value) (ab : Bool) (col : Option Bool) (dd : Option Addr) (m0 m1 m2 m3 m5 : Option Value) (nid : String), K.lookup C = some (excClassObj nm q C N bs [.type "object"] hd sn sub ab col dd m0 m1 m2 m3 m5 nid) ∧
    nsOkL K N = true ∧ PySem.W.nsIn K N "__eq__" = some (some (.ref f)) ∧ PySem.W.nsIn K N "__ne__" = some none ∧ PySem.W.findIn K (.ref C) "__eq__" = some (some (.ref f))
theorem ns_some_of {K : PySem.W.Frag} {h : Heap} {N : Addr} {m : Str → Option Value} {n : Str} {v : Value} (X : K.In h) (G : h.Ns N m) (e : PySem.W.nsIn K N n = some (some v)) : m n = some v := by
  obtain ⟨o, es, ep, ho, hd, _, hf⟩ := G
  unfold PySem.W.nsIn at e
  split at e
  · rename_i q
    have z := X _ _ q
    rw [ho] at z
    cases z
    cases hd
    split at e
    · rename_i en he
      cases e
      rw [← hf]
      unfold nsFind findBy
      rw [← Array.find?_toList, he]
      rfl
    · split at e <;> cases e
  · cases e
def rEqO (K : PySem.W.Frag) (mg : Str → Option Value) (c : Nat) (f : FunM) (g : Bool → Bool) : R2 := fun x y H Q => ∃ a b C dx dy vs ws, x = .ref a ∧ y = .ref b ∧ mg (cnm c) = some (.ref C) ∧ H a = some (.ins C dx vs) ∧ H b = some (.ins C dy ws) ∧
  spD K mg f [.ref a, .ref b] H (fun v H' => ∃ r, v = .bl r ∧ Q (.bl (g r)) H') fun _ _ _ => False
section
variable {X : Cx} {W : WX} {c k : Nat} {f : FunM} {a b : Expr} {ma mb : M D} {pos : Pos}
/-- the call of the own def, in surroundings that are near -/
theorem run_eq {B : Around} {fa : Addr} {fd : FuncData} {ps : List Str} (F : FnOk X.prog X.w X.K X.mg X.base (L2.CX X.prog X.w) k fa fd ps (spD X.K X.mg f)) (hb : Binds X.K fd ps []) (hr : Room k B) (fr : B.frames = X.A.frames) {pins : List (Addr × Obj)} {σ : L2.St} {H : Hp} {s : Shared} {Q : VK} {u v : Value} {x y : V} (I : Inv X pins σ H s) (rx : L2.RelV x u) (ry : L2.RelV y v)
    (h : spD X.K X.mg f [x, y] H Q fun _ _ _ => False) {E : Value → Shared → Prop} : wpAny (model X.prog X.w) B (call (.ref fa) [u, v]) (EP X pins σ Q) E s := by
  have r2 : Vals [x, y] [u, v] := .cons rx (.cons ry .nil)
  have e := I.env0
  have hl := F.len _ _ _ _ h
  refine wpAny_call (codeAny_mono (F.run B X.stack s H ⟨[u, v], []⟩ [u, v] [x, y] Q _ hr ⟨fr.trans e.frames, e.mod, e.bs, e.bsz, e.funs, e.frf, e.hok, e.bare⟩ (by simpa using hb s [u, v] I.kIn (by simpa using hl)) r2 h) fun r s' hq => ?_)
  match r, hq with
  | .error _, ⟨_, _, _, _, _, _, _, _, _, _, _, _, z⟩ => exact z.elim
  | .ok (.ret w), hq => exact I.after hq
  | .ok .next, hq => exact hq.elim
  | .ok .brk, hq => exact hq.elim
  | .ok .cont, hq => exact hq.elim
theorem op_eqO (M : MethF X.prog X.w X.K X.mg X.base (cnm c) "__eq__" f k) (hr : Room k X.A) : OpR X (compareOp .Eq) (rEqO X.K X.mg c f fun r => r) := by
  rintro pins s σ H x y v u Q I rx ry ⟨a, b, C, dx, dy, vs, ws, rfl, rfl, hm, ha, hb, q⟩
  obtain ⟨C', fa, fd, ps, hm', hc, hme, F, hbi⟩ := M
  cases hm.symm.trans hm'
  cases rx
  cases ry
  obtain ⟨mA, J, _⟩ := ins_get I.hok ha
  obtain ⟨mB, J', _⟩ := ins_get I.hok hb
  obtain ⟨od, J, _⟩ := J.look
  obtain ⟨od', J', _⟩ := J'.look
  obtain ⟨m, hF⟩ := I.fr
  refine PySem.W.cmp_K (op := .Eq) (tb := .ref C) (by have := hr.un; omega) hF I.ok.mod.kin J J'.type (by simp [PySem.W.notFirst]) hme.at_ hme.fn ?_
  refine wpAny_mono (run_eq (x := .ref a) (y := .ref b) F hbi hr rfl I rfl rfl q) (fun w s' z => ?_) fun _ _ e => e
  obtain ⟨_, H', I', rw', r, rfl, q'⟩ := z
  cases rw'
  exact ⟨.bl r, H', I', rfl, q'⟩
theorem op_neO (M : MethF X.prog X.w X.K X.mg X.base (cnm c) "__eq__" f k) (EC : ∀ C, X.mg (cnm c) = some (.ref C) → EqC X.K C) (hr : Room (k + 1) X.A) : OpR X (compareOp .NotEq) (rEqO X.K X.mg c f fun r => !r) := by
  rintro pins s σ H x y v u Q I rx ry ⟨a, b, C, dx, dy, vs, ws, rfl, rfl, hm, ha, hb, q⟩
  obtain ⟨C', fa, fd, ps, hm', hc, hme, F, hbi⟩ := M
  cases hm.symm.trans hm'
  cases rx
  cases ry
  obtain ⟨nm, qn, N, f2, bs, hd, sn, sub, ab, col, dd, m0, m1, m2, m3, m5, nid, l1, l2, l3, l4, l5⟩ := (EC C hm).ex
  cases Option.some.inj (Option.some.inj (l5.symm.trans hme.at_))
  obtain ⟨mA, J, _⟩ := ins_get I.hok ha
  obtain ⟨mB, J', _⟩ := ins_get I.hok hb
  obtain ⟨od, J, _⟩ := J.look
  obtain ⟨od', J', _⟩ := J'.look
  obtain ⟨hx, hcx, _⟩ := J
  obtain ⟨hy, hcy, _⟩ := J'
  have X0 := I.kIn
  have G : s.heap.Ns N (s.heap.nsMap N) := .of_isNs (PySem.W.isNs_of_in X0 (nsOkL_in l2))
  obtain ⟨of, hof, hofc⟩ : ∃ of, X.K.lookup fa = some of ∧ of.cls = .type "function" := by
    have e := hme.fn
    unfold PySem.W.isFn PySem.W.typeIn at e
    cases h : X.K.lookup fa with
    | none => simp [h] at e
    | some of => exact ⟨of, rfl, by simpa [h] using e⟩
  obtain ⟨yB, hyB⟩ : ∃ yB, typeLookup (.type "object") ("__eq__" : Str) = pure yB := ⟨_, PySem.F.cmp_object.eq.lookup⟩
  refine compareOp_ne_ownEq PySem.F.cmp_object (C := C) (f := fa) ⟨_, of, nm, qn, N, bs, hd, sn, sub, ab, col, dd, m0, m1, m2, m3, m5, nid, s.heap.nsMap N, yB, hx, hcx, X0 _ _ l1, G, ns_some_of X0 G l3, X0 _ _ hof, hofc, PySem.F.mro_object, hyB, PySem.W.ns_none_of X0 G l4⟩ hy hcy (by have := hr.un; omega) ?_
  refine wpAny_mono (run_eq (x := .ref a) (y := .ref b) F hbi (B := X.A.in1) ⟨hr.hd, by have := hr.dp; show X.A.depth + 3 * k + 5 < _; omega, by have := hr.un; rw [units1]; omega⟩ rfl I rfl rfl q) (fun w s' z => ?_) fun _ _ e => e
  obtain ⟨_, H', I', rw', r, rfl, q'⟩ := z
  cases rw'
  exact ⟨r, rfl, .bl (!r), H', I', rfl, q'⟩
def eqOR (neg : Bool) (r : Rf) (en : En) : Re D := match r with
  | .ok (.dat (.bl r)) so' => Re.ok (.bl (if neg then !r else r)) en so'
  | _ => Re.no
def eqOG (c : Nat) (neg : Bool) (r : Rf) (en : En) : Option Sc → Option Sc → Re D
  | some (.ob c1 _), some (.ob c2 _) => if c1 = c ∧ c2 = c then eqOR neg r en else .no
  | _, _ => .no
def eqO (c : Nat) (f : FunM) (neg : Bool) : D → D → M D
  | .obj k, .obj j => fun en so => eqOG c neg (f [.obj k, .obj j] so) en so[k]? so[j]?
  | _, _ => no
theorem eqOG_at {K : PySem.W.Frag} {mg : Ev} {G : Gh} {W : WX} {Rl : Gh → Hp → V → D → Prop} {σ : L2.St} {Q : VK} {c : Nat} {neg : Bool} {r : Rf} {en : En} {o1 o2 : Option Sc} (p : Post K mg G W Rl σ (eqOG c neg r en o1 o2) Q) : (∃ fs, o1 = some (.ob c fs)) ∧ (∃ fs, o2 = some (.ob c fs)) ∧ Post K mg G W Rl σ (eqOR neg r en) Q := by
  match o1, o2, p with
  | some (.ob c1 f1), some (.ob c2 f2), p =>
    have p : Post K mg G W Rl σ (if c1 = c ∧ c2 = c then eqOR neg r en else .no) Q := p
    by_cases h : c1 = c ∧ c2 = c
    · rw [if_pos h] at p
      exact ⟨⟨f1, by rw [h.1]⟩, ⟨f2, by rw [h.2]⟩, p⟩
    · rw [if_neg h] at p
      exact p.elim
  | none, _, p => exact False.elim p
  | some (.cel _), _, p => exact False.elim p
  | some (.lck _), _, p => exact False.elim p
  | some .dead, _, p => exact False.elim p
  | some (.ob _ _), none, p => exact False.elim p
  | some (.ob _ _), some (.cel _), p => exact False.elim p
  | some (.ob _ _), some (.lck _), p => exact False.elim p
  | some (.ob _ _), some .dead, p => exact False.elim p
def mEqO (c : Nat) (f : FunM) (neg : Bool) (ma mb : M D) : M D := bd ma fun d => bd mb fun e => eqO c f neg d e
theorem eqO_tr (hh : X.A.handled = none) {neg : Bool} {σ : L2.St} {H : Hp} {Q : VK} (q : tM X.K X.ev W (rlD X.K) (mEqO c f neg ma mb) σ H Q) : tOp (rEqO X.K X.mg c f fun r => if neg then !r else r) (tM X.K X.ev W (rlD X.K) ma) (tM X.K X.ev W (rlD X.K) mb) σ H Q := by
  obtain ⟨G, en, so, s, p⟩ := q
  refine ⟨G, en, so, s, (Post.bind (R1 := rlD X.K) p).imp fun v H1 ⟨G1, en1, so1, d, l, r1, s1, p1⟩ => ⟨G1, en1, so1, s1, (Post.bind (R1 := rlD X.K) p1).imp fun y H2 ⟨G2, en2, so2, e, l2, r2, s2, p2⟩ => ?_⟩⟩
  have r1' : Rep X.K G2.F G2.rho v d := r1.up l2
  rw [ev_none hh] at s2 p2
  cases r1' with
  | @obj kk aa dxa e1 =>
    cases r2 with
    | @obj jj ab dxb e2 =>
      obtain ⟨⟨fs1, h1⟩, ⟨fs2, h2⟩, p3⟩ := eqOG_at (show Post X.K ⟨X.mg, none⟩ G2 W (rlD X.K) σ (eqOG c neg (f [.obj kk, .obj jj] so2) en2 so2[kk]? so2[jj]?) Q from p2)
      obtain ⟨_, _, ⟨Cl, vs, m1, m2, _⟩, _⟩ := s2.ob kk _ aa dxa h1 e1
      obtain ⟨_, _, ⟨Cl', ws, n1, n2, _⟩, _⟩ := s2.ob jj _ ab dxb h2 e2
      cases m1.symm.trans n1
      refine ⟨aa, ab, Cl, dxa, dxb, vs, ws, rfl, rfl, m1, m2, n2, G2.lend H2, [.obj kk, .obj jj], so2, .cons (.obj e1) (.cons (.obj e2) .nil), s2.lend, ?_⟩
      refine fpost_of s2 (fun b so' v' H' G' eq l' s' rb => ?_) (fun x so' Cl d H' G' eq l' s' xr => ?_) fun eq => ?_
      · rw [eq] at p3
        match b, rb, p3 with
        | .dat (.bl r), rb, p3 =>
          cases rb
          exact ⟨r, rfl, p3 _ H' G' l' s' (.bl _)⟩
        | .dat .non, _, p3 => exact p3.elim
        | .dat (.int _), _, p3 => exact p3.elim
        | .dat (.str _), _, p3 => exact p3.elim
        | .dat (.tup _), _, p3 => exact p3.elim
        | .dat (.lst _), _, p3 => exact p3.elim
        | .dat (.dct _), _, p3 => exact p3.elim
        | .dat (.obj _), _, p3 => exact p3.elim
        | .cel _, _, p3 => exact p3.elim
        | .exn _, _, p3 => exact p3.elim
      · rw [eq] at p3; exact p3.elim
      · rw [eq] at p3; exact p3.elim
    | _ => exact False.elim p2
  | _ => exact False.elim p2
theorem d_eqO (M : MethF X.prog X.w X.K X.mg X.base (cnm c) "__eq__" f k) (hr : Room k X.A) (ha : DE X W a ma) (hb : DE X W b mb) (hm : behindInMarks .Eq b = false := by with_unfolding_all rfl) : DE X W (.Compare a [.Eq] [b] pos) (mEqO c f false ma mb) :=
  ⟨PE_imp (pe_cmpR (op_eqO M hr) ha.pe hb.pe hm) fun _ _ _ q => eqO_tr hr.hd q⟩
theorem d_neO (M : MethF X.prog X.w X.K X.mg X.base (cnm c) "__eq__" f k) (EC : ∀ C, X.mg (cnm c) = some (.ref C) → EqC X.K C) (hr : Room (k + 1) X.A) (ha : DE X W a ma) (hb : DE X W b mb) (hm : behindInMarks .NotEq b = false := by with_unfolding_all rfl) : DE X W (.Compare a [.NotEq] [b] pos) (mEqO c f true ma mb) :=
  ⟨PE_imp (pe_cmpR (op_neO M EC hr) ha.pe hb.pe hm) fun _ _ _ q => eqO_tr hr.hd q⟩
theorem d_eqOT (M : MethF X.prog X.w X.K X.mg X.base (cnm c) "__eq__" f k) (hr : Room k X.A) (ha : DE X W a ma) (hb : DE X W b mb) (hm : behindInMarks .Eq b = false := by with_unfolding_all rfl) : DT X W (.Compare a [.Eq] [b] pos) (mT (mEqO c f false ma mb)) :=
  ⟨PT_imp (pt_cmpR (op_eqO M hr) ha.pe hb.pe hm) fun _ _ _ q => eqO_tr hr.hd (mT_tr q)⟩
theorem d_neOT (M : MethF X.prog X.w X.K X.mg X.base (cnm c) "__eq__" f k) (EC : ∀ C, X.mg (cnm c) = some (.ref C) → EqC X.K C) (hr : Room (k + 1) X.A) (ha : DE X W a ma) (hb : DE X W b mb) (hm : behindInMarks .NotEq b = false := by with_unfolding_all rfl) : DT X W (.Compare a [.NotEq] [b] pos) (mT (mEqO c f true ma mb)) :=
  ⟨PT_imp (pt_cmpR (op_neO M EC hr) ha.pe hb.pe hm) fun _ _ _ q => eqO_tr hr.hd (mT_tr q)⟩
end
section
variable {en : En} {so : So}
@[simp] theorem eqOR_ok (neg r : Bool) : eqOR neg (.ok (.dat (.bl r)) so) en = .ok (.bl (if neg then !r else r)) en so := rfl
@[simp] theorem mEqO_ (c : Nat) (f : FunM) (neg : Bool) (ma mb : M D) : mEqO c f neg ma mb en so = bdR (ma en so) fun d => bd mb fun e => eqO c f neg d e := rfl
theorem eqO_at {c k j : Nat} {f : FunM} {neg : Bool} {fs gs : List (Option D)} (h1 : so[k]? = some (.ob c fs)) (h2 : so[j]? = some (.ob c gs)) : eqO c f neg (.obj k) (.obj j) en so = eqOR neg (f [.obj k, .obj j] so) en := by
  show eqOG c neg (f [.obj k, .obj j] so) en so[k]? so[j]? = _
  rw [h1, h2]
  show (if c = c ∧ c = c then eqOR neg (f [.obj k, .obj j] so) en else .no) = _
  rw [if_pos ⟨rfl, rfl⟩]
end
end
end Dl

set_option Elab.async false
set_option linter.all false
set_option maxRecDepth 100000
set_option maxHeartbeats 1000000
/-! The data level: is True, slices of tuples, enumerate. -/
namespace Dl
open PySem PySem.Spec PyProof.Rows L2
noncomputable section
/-! ### is True, is False -/
def isB (b : Bool) : D → Bool
  | .bl c => c == b
  | _ => false
def mIsB (b : Bool) (m : M D) : M D := bd m fun d => pu (.bl (isB b d))
section
variable {X : Cx} {W : WX} {a b e : Expr} {ma mb m : M D} {ml mh : M (Option Int)} {lo hi : Option Expr} {pos p p2 pos' : Pos} {j : Nat}
theorem is_bool_gen {M : Model} {A : Around} {E Q : Value → Shared → Prop} {s : Shared} {v : Value} {b : Bool} (hb : ∀ id, v ≠ .builtin id) (h : Q (.bool (v == .bool b)) s) : wpAny M A (compareOp .Is v (.bool b)) Q E s := by
  cases v <;> first | exact wpAny_pure h | exact absurd rfl (hb _)
theorem isB_of {K : PySem.W.Frag} {F : Hp} {rho : List (Addr × Addr)} {v : V} {u : Value} {d : D} (b : Bool) (r : Rep K F rho v d) (ru : L2.RelV v u) : (∀ id, u ≠ .builtin id) ∧ (u == .bool b) = isB b d := by
  cases r with
  | bl c =>
    cases (show u = Value.bool c from ru)
    refine ⟨(fun id z => nomatch z), ?_⟩
    show (Value.bool c == Value.bool b) = (c == b)
    cases c <;> cases b <;> rfl
  | non => cases (show u = Value.none from ru); exact ⟨(fun id z => nomatch z), rfl⟩
  | int i => obtain ⟨t, rfl⟩ := ru; exact ⟨(fun id z => nomatch z), rfl⟩
  | str i => obtain ⟨t, rfl⟩ := ru; exact ⟨(fun id z => nomatch z), rfl⟩
  | tup _ _ => cases (show u = Value.ref _ from ru); exact ⟨(fun id z => nomatch z), rfl⟩
  | lst _ _ => cases (show u = Value.ref _ from ru); exact ⟨(fun id z => nomatch z), rfl⟩
  | dct _ _ => cases (show u = Value.ref _ from ru); exact ⟨(fun id z => nomatch z), rfl⟩
  | obj _ => cases (show u = Value.ref _ from ru); exact ⟨(fun id z => nomatch z), rfl⟩
def rIsBo (K : PySem.W.Frag) (b : Bool) : R2 := fun x y H Q => ∃ F rho d, Rep K F rho x d ∧ y = .bl b ∧ Q (.bl (isB b d)) H
theorem op_isBo {b : Bool} : OpR X (compareOp .Is) (rIsBo X.K b) := by
  rintro pins s σ H x y v u Q I rx ry ⟨F, rho, d, r, rfl, q⟩
  cases (show u = Value.bool b from ry)
  obtain ⟨h1, h2⟩ := isB_of b r rx
  exact is_bool_gen h1 ⟨.bl _, H, I, by rw [h2]; rfl, q⟩
theorem isB_tr {b : Bool} {σ : L2.St} {H : Hp} {Q : VK} (q : tM X.K X.ev W (rlD X.K) (mIsB b ma) σ H Q) : tOp (rIsBo X.K b) (tM X.K X.ev W (rlD X.K) ma) (tM X.K X.ev W (rlD X.K) (pu (.bl b))) σ H Q := by
  obtain ⟨G, en, so, s, p⟩ := q
  refine ⟨G, en, so, s, (Post.bind (R1 := rlD X.K) p).imp fun v H1 ⟨G1, en1, so1, d, l, r1, s1, p1⟩ => ⟨G1, en1, so1, s1, fun y H' G' l' s' ry => ?_⟩⟩
  cases ry
  exact ⟨G1.F, G1.rho, d, r1, rfl, p1.ok' l' s' (.bl _)⟩
theorem d_isB {b : Bool} (ha : DE X W a ma) (hm : behindInMarks .Is (.Constant (.bool b) j pos') = false := by rfl) : DE X W (.Compare a [.Is] [.Constant (.bool b) j pos'] pos) (mIsB b ma) :=
  ⟨PE_imp (pe_cmpR op_isBo ha.pe d_bl.pe hm) fun _ _ _ q => isB_tr q⟩
theorem d_isBT {b : Bool} (ha : DE X W a ma) (hm : behindInMarks .Is (.Constant (.bool b) j pos') = false := by rfl) : DT X W (.Compare a [.Is] [.Constant (.bool b) j pos'] pos) (mT (mIsB b ma)) :=
  ⟨PT_imp (pt_cmpR op_isBo ha.pe d_bl.pe hm) fun _ _ _ q => isB_tr (mT_tr q)⟩
/-! ### slices of tuples -/
def slT : D → Option Int → Option Int → M D
  | .tup xs, lo, hi => pu (.tup (cutL xs lo hi))
  | _, _, _ => no
theorem d_slT (ha : DE X W a ma) (hl : DO X W lo ml) (hh : DO X W hi mh) : DE X W (.Subscript a (.Slice lo hi none p2) pos) (mSl slT ma ml mh) := by
  refine ⟨PE_imp (pe_slice sl_tupA ha.pe hl.po hh.po) fun σ H Q ⟨G, en, so, s, p⟩ => ?_⟩
  refine ⟨G, en, so, s, (Post.bind (R1 := rlD X.K) p).imp fun v H1 ⟨G1, en1, so1, d, _, r1, s1, p1⟩ => ⟨G1, en1, so1, s1, (Post.bind (R1 := fun _ _ a b => a = b) p1).imp fun y H2 ⟨G2, en2, so2, l, l2, r2, s2, p2⟩ => ⟨G2, en2, so2, s2, (Post.bind (R1 := fun _ _ a b => a = b) p2).imp fun z H3 ⟨G3, en3, so3, h, l3, r3, s3, p3⟩ => ?_⟩⟩⟩
  subst r2
  subst r3
  have ru := r1.up (l2.trans l3)
  cases ru with
  | @tup q vs ds hq rr =>
    refine ⟨q, vs, rfl, same_seqT s3.toSimO.rep hq, fun hw => ?_, fun _ t ht => ?_⟩
    · have e : cutL ds y z = ds := by
        unfold cutL
        rw [← rr.len, hw.1, hw.2, List.drop_zero, Nat.sub_zero, rr.len, List.take_length]
      have p3 : Post X.K X.ev G3 W (rlD X.K) σ (pu (.tup (cutL ds y z)) en3 so3) Q := p3
      rw [e] at p3
      exact p3.ok s3 (.tup hq rr)
    · obtain ⟨s4, l4⟩ := s3.newF (o := .tup (cutV vs y z)) ht
      exact p3.ok' l4 s4 (.tup (.inl (.inl (show upd G3.F t _ t = _ from upd_same))) (reps_cut (rr.mono l4.F l4.rho) y z))
  | _ => exact False.elim p3
/-! ### enumerate -/
def enumD : Nat → List D → List D
  | _, [] => []
  | i, d :: r => .tup [.int (i : Int), d] :: enumD (i + 1) r
theorem enumD_at : ∀ (ds : List D) (k i : Nat), (enumD k ds)[i]? = (ds[i]?).map fun d => .tup [.int ((k + i : Nat) : Int), d]
  | [], _, _ => rfl
  | d :: r, k, 0 => rfl
  | d :: r, k, i + 1 => by
    show (enumD (k + 1) r)[i]? = _
    rw [enumD_at r (k + 1) i]
    show _ = (r[i]?).map _
    rw [show k + 1 + i = k + (i + 1) by omega]
theorem enumD_len : ∀ (ds : List D) (k : Nat), (enumD k ds).length = ds.length
  | [], _ => rfl
  | _ :: r, k => congrArg (· + 1) (enumD_len r (k + 1))
def itEn (m : M D) : M (List D) := bd m fun d => match d with
  | .lst xs => pu (enumD 0 xs)
  | _ => no
theorem i_enum {elts : List Expr} {kk : Nat} {tpos : Pos} (hg : Gl X "enumerate") (hm : X.mg "enumerate" = none) (h : DE X W e m) (hs : starEach [e] X.env = [(false, eval e X.env)] := by rfl) : DI X W (.Tuple elts kk tpos) (.Call (.Name "enumerate" p) [e] [] pos) (itEn m) := by
  refine ⟨PI_imp (pi_enum hg hm (pa_cons h.pe pa_nil hs) hs) fun σ H Q ⟨G, en, so, s, q⟩ => ?_⟩
  refine ⟨G, en, so, s, (Post.bind (R1 := rlD X.K) q).imp fun v H1 ⟨G1, en1, so1, d, l, r1, s1, p1⟩ => ?_⟩
  cases r1 with
  | @lst a vs ds q r =>
    refine ⟨a, vs, rfl, s1.toSimO.rep.seq q, p1.ok (v := Ite X.K a) s1 fun i H' sf _ => ⟨fun d e => ?_, fun hl => ⟨_, sf.seq q, by rw [enumD_len] at hl; rw [r.len]; exact hl⟩⟩⟩
    rw [enumD_at] at e
    cases hd : ds[i]? with
    | none => rw [hd] at e; cases e
    | some d0 =>
      rw [hd] at e
      cases e
      obtain ⟨v, e1, r1⟩ := reps_at r hd
      refine ⟨⟨_, v, sf.seq q, e1⟩, fun x H'' ⟨T, y, h1, h2, h3, h4⟩ => .inr ⟨T, _, _, h1, h2, h3, rfl, ?_⟩⟩
      have e2 := h4 _ (sf.seq q)
      rw [e1] at e2
      cases e2
      rw [Nat.zero_add]
      exact .cons (.int _) (.cons r1 .nil)
  | _ => exact False.elim p1
/-! ### range(i, j, -1) -/
def rngDn (i : Int) (n : Nat) : List D := (List.range n).map fun k : Nat => .int (i + (k : Int) * (-1))
def rg3 : D → D → D → M (List D)
  | .int i, .int j, .int c => gd (-(2 ^ 62) ≤ i ∧ i < 2 ^ 62 ∧ -(2 ^ 62) ≤ j ∧ j < 2 ^ 62 ∧ c = -1) (pu (rngDn i (i - j).toNat))
  | _, _, _ => no
def itR3 (a b c : M D) : M (List D) := bd a fun i => bd b fun j => bd c fun k => rg3 i j k
theorem i_range3 {e2 e3 : Expr} {m2 m3 : M D} {tg : Expr} (hg : Gl X "range") (hm : X.mg "range" = none) (ha : DE X W e m) (hb : DE X W e2 m2) (hc : DE X W e3 m3) (hs : starEach [e, e2, e3] X.env = (false, eval e X.env) :: starEach [e2, e3] X.env := by rfl) (hs2 : starEach [e2, e3] X.env = (false, eval e2 X.env) :: starEach [e3] X.env := by rfl) (hs3 : starEach [e3] X.env = [(false, eval e3 X.env)] := by rfl)
    (hpl : (backTo pos (starEach [e2, e3] X.env)).any (·.1) = false := by rfl) : DI X W tg (.Call (.Name "range" p) [e, e2, e3] [] pos) (itR3 m m2 m3) := by
  refine ⟨PI_imp (pi_range3 hg hm (pa_cons ha.pe (pa_cons hb.pe (pa_cons hc.pe pa_nil hs3) hs2) hs) hs hpl) fun σ H Q ⟨G, en, so, s, q⟩ => ?_⟩
  refine ⟨G, en, so, s, (Post.bind (R1 := rlD X.K) q).imp fun v H1 ⟨G1, en1, so1, d, l, r1, s1, p1⟩ => ⟨G1, en1, so1, s1, (Post.bind (R1 := rlD X.K) p1).imp fun y H2 ⟨G2, en2, so2, d2, l2, r2, s2, p2⟩ => ⟨G2, en2, so2, s2, (Post.bind (R1 := rlD X.K) p2).imp fun z H3 ⟨G3, en3, so3, d3, l3, r3, s3, p3⟩ => ?_⟩⟩⟩
  cases r1 with
  | int i =>
    cases r2 with
    | int j =>
      cases r3 with
      | int c =>
        obtain ⟨⟨h1, h2, h3, h4, rfl⟩, p4⟩ := Post.gd (c := -(2 ^ 62) ≤ i ∧ i < 2 ^ 62 ∧ -(2 ^ 62) ≤ j ∧ j < 2 ^ 62 ∧ c = -1) p3
        have wk : Walk X.K G3.F G3.L G3.rho (Itc i (-1) (i - j).toNat) (rngDn i (i - j).toNat) := fun k H' sf _ => ⟨fun d e => by
          have hk : k < (i - j).toNat := by
            have := (List.getElem?_eq_some_iff.mp e).1
            rwa [rngDn, List.length_map, List.length_range] at this
          rw [rngDn, List.getElem?_map, List.getElem?_range hk] at e
          cases e
          exact ⟨hk, fun x H'' ⟨h1, h2⟩ => .inl ⟨h1, by rw [h2]; exact .int _⟩⟩, fun hl => by rw [rngDn, List.length_map, List.length_range] at hl; exact hl⟩
        exact ⟨i, j, -1, (i - j).toNat, rfl, RgC.neg h1 h2 h3 h4, (show Post X.K X.ev G3 W (fun G _ J ds => Walk X.K G.F G.L G.rho J ds) σ (Re.ok (rngDn i (i - j).toNat) en3 so3) Q from p4).ok s3 wk⟩
      | _ => exact False.elim p3
    | _ => exact False.elim p3
  | _ => exact False.elim p3
/-! ### int of a text -/
def intX : List D → M D
  | [.int i] => pu (.int i)
  | [.bl b] => pu (.int (if b then 1 else 0))
  | [.str s] => (match PySem.intText? (sT s) with
    | some n => gd (s.length ≤ 640) (pu (.int n))
    | none => no)
  | _ => no
theorem opn_intX {K : PySem.W.Frag} {mg : Ev} : OpN K mg (fun xs H Q => ((∃ i, xs = [.int i] ∧ Q (.int i) H) ∨ ∃ k, xs = [.bl k] ∧ Q (.int (if k then 1 else 0)) H) ∨ ∃ a n, xs = [.str a] ∧ PySem.intText? a = some n ∧ a.length ≤ 640 ∧ Q (.int n) H) intX := by
  intro vs ds G en so σ H W Q r s p
  cases r with
  | nil => exact False.elim p
  | cons h t =>
    cases t with
    | cons h2 t2 => cases h <;> exact False.elim p
    | nil =>
      cases h with
      | int i => exact .inl (.inl ⟨i, rfl, p.ok s (.int _)⟩)
      | bl b => exact .inl (.inr ⟨b, rfl, p.ok s (.int _)⟩)
      | str z =>
        have p' : Post K mg G W (rlD K) σ ((match PySem.intText? (sT z) with | some n => gd (z.length ≤ 640) (pu (D.int n)) | none => no) en so) Q := p
        cases e : PySem.intText? (sT z) with
        | none => rw [e] at p'; exact False.elim p'
        | some n =>
          rw [e] at p'
          obtain ⟨h1, p'⟩ := Post.gd p'
          exact .inr ⟨_, n, rfl, e, by rw [sT_len]; exact h1, p'.ok s (.int _)⟩
      | _ => exact False.elim p
end
section
variable {en : En} {so : So}
@[simp] theorem mIsB_ (b : Bool) (m : M D) : mIsB b m en so = bdR (m en so) fun d => pu (.bl (isB b d)) := rfl
@[simp] theorem isB_bl (b c : Bool) : isB b (.bl c) = (c == b) := rfl
@[simp] theorem isB_non (b : Bool) : isB b .non = false := rfl
@[simp] theorem isB_int (b : Bool) (i : Int) : isB b (.int i) = false := rfl
@[simp] theorem isB_str (b : Bool) (i : List Nat) : isB b (.str i) = false := rfl
@[simp] theorem slT_ (xs : List D) (lo hi : Option Int) : slT (.tup xs) lo hi = pu (.tup (cutL xs lo hi)) := rfl
def kEn : D → M (List D) := fun d => match d with
  | .lst xs => pu (enumD 0 xs)
  | _ => no
@[simp] theorem itEn_ (m : M D) : itEn m en so = bdR (m en so) kEn := rfl
@[simp] theorem kEn_ (xs : List D) : kEn (.lst xs) = pu (enumD 0 xs) := rfl
@[simp] theorem itR3_ (a b c : M D) : itR3 a b c en so = bdR (a en so) fun i => bd b fun j => bd c fun k => rg3 i j k := rfl
@[simp] theorem rg3_ (i j c : Int) : rg3 (.int i) (.int j) (.int c) = gd (-(2 ^ 62) ≤ i ∧ i < 2 ^ 62 ∧ -(2 ^ 62) ≤ j ∧ j < 2 ^ 62 ∧ c = -1) (pu (rngDn i (i - j).toNat)) := rfl
@[simp] theorem intXI (i : Int) : intX [.int i] = pu (.int i) := rfl
@[simp] theorem intXB (b : Bool) : intX [.bl b] = pu (.int (if b then 1 else 0)) := rfl
end
/-! ### numbers as they are written -/
theorem tsD_num (n : Nat) : tsD (n : Int) = TL.numL n := TL.tl_num n
theorem intX_ts {n : Nat} (h : (TL.numL n).length ≤ 640) : intX [.str (tsD (n : Int))] = (pu (D.int (n : Int)) : M D) := by
  have e : PySem.intText? (sT (tsD (n : Int))) = some (n : Int) := by
    rw [← str_int]
    exact TL.int_num (by omega)
  show (match PySem.intText? (sT (tsD (n : Int))) with | some n' => gd ((tsD (n : Int)).length ≤ 640) (pu (D.int n') : M D) | none => no) = _
  rw [e]
  funext en so
  exact gd_t (by rw [tsD_num]; exact h) _
theorem numL_head : ∀ (k n : Nat), n ≤ k → 0 < n → ∃ c r, TL.numL n = c :: r ∧ c ≠ 48 := by
  intro k
  induction k with
  | zero => intro n h1 h2; omega
  | succ k ih =>
    intro n h1 h2
    by_cases h : n < 10
    · exact ⟨48 + n, [], TL.numL_lt h, by omega⟩
    · obtain ⟨c, r, e, hc⟩ := ih (n / 10) (by omega) (by omega)
      exact ⟨c, r ++ [48 + n % 10], by rw [TL.numL_step (by omega), e]; rfl, hc⟩
end
end Dl

/-! All common texts. -/

set_option Elab.async false
set_option linter.all false
set_option maxRecDepth 100000
set_option maxHeartbeats 1000000
/-! The data-level programs of this law's text (printed by gen.py). -/
namespace Lk40
open PySem Dl
noncomputable section
def l__law_numbers_0 : M Fl := (sSeq (sSet 4 (m2 modD (bd (aC (m2 addD (m2 addD (m2 mulD (mV 4) (pu (.int 48271))) (m2 mulD (mV 6) (pu (.int 69621)))) (pu (.int 7))) aN) intD) (pu (.int 2147483647))))
  (sIf (tAndM (mTru (mV 3)) (mT (m2 gtD (mV 2) (pu (.int 0))))) (sSeq (sExpr (mHM1 apF (hV 5) (m2 modD (bd (aC (mV 2) aN) intD) (pu (.int 1000)))))
  (sSet 2 (m2 divD (mV 2) (pu (.int 1000))))) (sExpr (mHM1 apF (hV 5) (m2 modD (bd (aC (m2 divD (mV 4) (pu (.int 13))) aN) intD) (pu (.int 1000)))))))
def t__law_numbers_0 : M Fl := (sSet 2 (bd (aC (bd (aC (mV 0) aN) intD) aN) absD))
def t__law_numbers_1 : M Fl := (sSet 3 (m2 geD (mV 2) (pu (.int 1000000000000000000))))
def t__law_numbers_2 : M Fl := (sSet 4 (m2 addD (m2 modD (bd (aC (mV 2) aN) intD) (pu (.int 2147483629))) (pu (.int 1))))
def t__law_numbers_3 : M Fl := (sSetB 5 (mLst aN))
def t__law_numbers_4 : M Fl := (sFor (tgN 6) (itR1 (mV 1)) l__law_numbers_0)
def t__law_numbers_5 : M Fl := (sRetD (mVF 5))
def r__law_numbers_4 : M Fl := sSeq t__law_numbers_4 t__law_numbers_5
def r__law_numbers_3 : M Fl := sSeq t__law_numbers_3 r__law_numbers_4
def r__law_numbers_2 : M Fl := sSeq t__law_numbers_2 r__law_numbers_3
def r__law_numbers_1 : M Fl := sSeq t__law_numbers_1 r__law_numbers_2
def r__law_numbers_0 : M Fl := sSeq t__law_numbers_0 r__law_numbers_1
/-- _law_numbers -/
def b__law_numbers : M Fl := r__law_numbers_0
def m__law_numbers : FunM := mkF 2 7 b__law_numbers
theorem c__law_numbers (x0 x1 : D) (so : So) : m__law_numbers [x0, x1] so = endF (b__law_numbers [some (.dat x0), some (.dat x1), none, none, none, none, none] so) := mkF_ (m := b__law_numbers) (ds := [x0, x1]) rfl

def t_Record___init___0 : M Fl := (sFld [(24, 0)] (mV 0) (mV 1))
def t_Record___init___1 : M Fl := (sFld [(24, 1)] (mV 0) (mV 2))
def t_Record___init___2 : M Fl := (sFld [(24, 2)] (mV 0) (mV 3))
def t_Record___init___3 : M Fl := (sFld [(24, 3)] (mV 0) (mV 4))
def r_Record___init___2 : M Fl := sSeq t_Record___init___2 t_Record___init___3
def r_Record___init___1 : M Fl := sSeq t_Record___init___1 r_Record___init___2
def r_Record___init___0 : M Fl := sSeq t_Record___init___0 r_Record___init___1
/-- Record.__init__ -/
def b_Record___init__ : M Fl := r_Record___init___0
def m_Record___init__ : FunM := mkF 5 5 b_Record___init__
theorem c_Record___init__ (x0 x1 x2 x3 x4 : D) (so : So) : m_Record___init__ [x0, x1, x2, x3, x4] so = endF (b_Record___init__ [some (.dat x0), some (.dat x1), some (.dat x2), some (.dat x3), some (.dat x4)] so) := mkF_ (m := b_Record___init__) (ds := [x0, x1, x2, x3, x4]) rfl

/-- _law_cell -/
def b__law_cell : M Fl := (sSeq (sIf (mT (m2 ltD (mV 1) (bd (aC (mV 0) aN) lenD))) (sRetD (m2 ixD (mV 0) (mV 1))) sPass)
  (sRetD (pu (.int 0))))
def m__law_cell : FunM := mkF 2 2 b__law_cell
theorem c__law_cell (x0 x1 : D) (so : So) : m__law_cell [x0, x1] so = endF (b__law_cell [some (.dat x0), some (.dat x1)] so) := mkF_ (m := b__law_cell) (ds := [x0, x1]) rfl

def l_content_key_0 : M Fl := (sSet 1 (m2 addD (m2 mulD (mV 1) (pu (.int 128))) (bd (aC (mV 2) aN) ordD)))
/-- content_key -/
def b_content_key : M Fl := (sSeq (sSet 1 (pu (.int 1)))
  (sSeq (sFor (tgN 2) (itS (mV 0)) l_content_key_0)
  (sRetD (mV 1))))
def m_content_key : FunM := mkF 1 3 b_content_key
theorem c_content_key (x0 : D) (so : So) : m_content_key [x0] so = endF (b_content_key [some (.dat x0), none, none] so) := mkF_ (m := b_content_key) (ds := [x0]) rfl

/-- _law_text -/
def b__law_text : M Fl := (sSeq (sSet 1 (mFz (mLst (aC (pu (.str [])) (aC (pu (.str [97])) (aC (pu (.str [10])) (aC (pu (.str [120, 32, 121])) (aC (pu (.str [126])) (aC (pu (.str [48])) (aC (pu (.str [114, 117, 108, 101, 115])) aN))))))))))
  (sRetD (m2 addD (m2 ixD (mV 1) (m2 modD (bd (aC (mV 0) aN) intD) (pu (.int 7)))) (bd (aC (m2 modD (m2 divD (bd (aC (mV 0) aN) intD) (pu (.int 7))) (pu (.int 50))) aN) strI))))
def m__law_text : FunM := mkF 1 2 b__law_text
theorem c__law_text (x0 : D) (so : So) : m__law_text [x0] so = endF (b__law_text [some (.dat x0), none] so) := mkF_ (m := b__law_text) (ds := [x0]) rfl

def e__law_path_0 : M D := (m2 addD (m2 addD (m2 ixD (mV 1) (m2 modD (bd (aC (m2 addD (mV 0) (m2 mulD (pu (.int 7)) (mV 3))) aN) intD) (pu (.int 26)))) (m2 ixD (mV 1) (m2 modD (bd (aC (m2 addD (m2 divD (mV 0) (pu (.int 3))) (mV 3)) aN) intD) (pu (.int 37))))) (bd (aC (m2 modD (bd (aC (mV 0) aN) intD) (pu (.int 97))) aN) strI))
/-- _law_path -/
def b__law_path : M Fl := (sSeq (sSet 1 (pu (.str [97, 98, 99, 100, 101, 102, 103, 104, 105, 106, 107, 108, 109, 110, 111, 112, 113, 114, 115, 116, 117, 118, 119, 120, 121, 122, 48, 49, 50, 51, 52, 53, 54, 55, 56, 57, 95])))
  (sSeq (sSet 2 (mFz (mLc [3] (tgN 3) (itR1 (m2 addD (pu (.int 1)) (m2 modD (bd (aC (mV 0) aN) intD) (pu (.int 4))))) (pu true) e__law_path_0)))
  (sRetD (mM1 joinD (pu (.str [47])) (mV 2)))))
def m__law_path : FunM := mkF 1 4 b__law_path
theorem c__law_path (x0 : D) (so : So) : m__law_path [x0] so = endF (b__law_path [some (.dat x0), none, none, none] so) := mkF_ (m := b__law_path) (ds := [x0]) rfl

def t__law_need_0 : M Fl := (sSet 3 (mFz (mCall m_content_key (aC (mFz (mCall m__law_text (aC (m2 addD (mV 1) (mV 2)) aN))) aN))))
def t__law_need_1 : M Fl := (sIf (mT (m2 eqM (m2 modD (bd (aC (mV 1) aN) intD) (pu (.int 5))) (pu (.int 0)))) (sSet 3 (pu .non)) sPass)
def t__law_need_2 : M Fl := (sIf (mT (m2 eqM (mV 0) (pu (.int 0)))) (sRetD (mTup (aC (pu (.str [102, 105, 108, 101])) (aC (m2 addD (mFz (mCall m__law_path (aC (mV 1) aN))) (bd (aC (mV 2) aN) strI)) (aC (mV 3) aN))))) sPass)
def t__law_need_3 : M Fl := (sIf (mT (m2 eqM (mV 0) (pu (.int 1)))) (sRetD (mTup (aC (pu (.str [104, 97, 115])) (aC (m2 addD (mFz (mCall m__law_path (aC (mV 1) aN))) (bd (aC (mV 2) aN) strI)) (aC (m2 eqM (m2 modD (mV 1) (pu (.int 2))) (pu (.int 0))) aN))))) sPass)
def t__law_need_4 : M Fl := (sIf (mT (m2 eqM (mV 0) (pu (.int 2)))) (sRetD (mTup (aC (pu (.str [108, 105, 115, 116, 105, 110, 103])) (aC (m2 ixD (mFz (mLst (aC (pu (.str [])) (aC (mFz (mCall m__law_path (aC (mV 1) aN))) aN)))) (m2 modD (bd (aC (mV 1) aN) intD) (pu (.int 2)))) (aC (m2 addD (pu (.str [97, 42])) (bd (aC (mV 2) aN) strI)) (aC (mFz (mCall m_content_key (aC (mFz (mCall m__law_text (aC (mV 1) aN))) aN))) aN)))))) sPass)
def t__law_need_5 : M Fl := (sIf (mT (m2 eqM (mV 0) (pu (.int 3)))) (sRetD (mTup (aC (pu (.str [115, 101, 116, 116, 105, 110, 103])) (aC (m2 addD (pu (.str [115])) (bd (aC (mV 2) aN) strI)) (aC (mV 3) aN))))) sPass)
def t__law_need_6 : M Fl := (sRetD (mTup (aC (pu (.str [108, 105, 110, 107])) (aC (m2 addD (mFz (mCall m__law_path (aC (mV 1) aN))) (bd (aC (mV 2) aN) strI)) (aC (mV 3) aN)))))
def r__law_need_5 : M Fl := sSeq t__law_need_5 t__law_need_6
def r__law_need_4 : M Fl := sSeq t__law_need_4 r__law_need_5
def r__law_need_3 : M Fl := sSeq t__law_need_3 r__law_need_4
def r__law_need_2 : M Fl := sSeq t__law_need_2 r__law_need_3
def r__law_need_1 : M Fl := sSeq t__law_need_1 r__law_need_2
def r__law_need_0 : M Fl := sSeq t__law_need_0 r__law_need_1
/-- _law_need -/
def b__law_need : M Fl := r__law_need_0
def m__law_need : FunM := mkF 3 4 b__law_need
theorem c__law_need (x0 x1 x2 : D) (so : So) : m__law_need [x0, x1, x2] so = endF (b__law_need [some (.dat x0), some (.dat x1), some (.dat x2), none] so) := mkF_ (m := b__law_need) (ds := [x0, x1, x2]) rfl

def e__law_record_0 : M D := (m2 addD (m2 addD (mFz (mCall m__law_path (aC (m2 ixD (mV 1) (m2 addD (pu (.int 1)) (mV 6))) aN))) (pu (.str [111]))) (bd (aC (mV 6) aN) strI))
def e__law_record_1 : M D := (mFz (mCall m__law_need (aC (m2 modD (bd (aC (m2 ixD (mV 1) (m2 addD (pu (.int 5)) (m2 mulD (pu (.int 2)) (mV 6)))) aN) intD) (pu (.int 5))) (aC (bd (aC (m2 ixD (mV 1) (m2 addD (pu (.int 6)) (m2 mulD (pu (.int 2)) (mV 6)))) aN) intD) (aC (mV 6) aN)))))
def e__law_record_2 : M D := (mFz (mCall m_content_key (aC (mFz (mCall m__law_text (aC (m2 ixD (mV 1) (m2 addD (pu (.int 30)) (mV 6))) aN))) aN)))
def t__law_record_0 : M Fl := (sSet 1 (mFz (mCall m__law_numbers (aC (mFz (mCall m__law_cell (aC (mV 0) (aC (pu (.int 0)) aN)))) (aC (pu (.int 40)) aN)))))
def t__law_record_1 : M Fl := (sSet 2 (m2 addD (pu (.int 1)) (m2 modD (bd (aC (m2 ixD (mV 1) (pu (.int 0))) aN) intD) (pu (.int 3)))))
def t__law_record_2 : M Fl := (sSet 3 (bd (aC (mFz (mLc [6] (tgN 6) (itR1 (mV 2)) (pu true) e__law_record_0)) aN) tupleD))
def t__law_record_3 : M Fl := (sSet 4 (bd (aC (mFz (mLc [6] (tgN 6) (itR1 (m2 modD (bd (aC (m2 ixD (mV 1) (pu (.int 4))) aN) intD) (pu (.int 13)))) (pu true) e__law_record_1)) aN) tupleD))
def t__law_record_4 : M Fl := (sSet 5 (bd (aC (mFz (mLc [6] (tgN 6) (itR1 (mV 2)) (pu true) e__law_record_2)) aN) tupleD))
def t__law_record_5 : M Fl := (sRetD (mNew 24 4 m_Record___init__ (aC (mV 3) (aC (mFz (mCall m_content_key (aC (m2 addD (mFz (mCall m__law_text (aC (m2 ixD (mV 1) (pu (.int 35))) aN))) (pu (.str [114, 117, 108, 101]))) aN))) (aC (mV 4) (aC (mV 5) aN))))))
def r__law_record_4 : M Fl := sSeq t__law_record_4 t__law_record_5
def r__law_record_3 : M Fl := sSeq t__law_record_3 r__law_record_4
def r__law_record_2 : M Fl := sSeq t__law_record_2 r__law_record_3
def r__law_record_1 : M Fl := sSeq t__law_record_1 r__law_record_2
def r__law_record_0 : M Fl := sSeq t__law_record_0 r__law_record_1
/-- _law_record -/
def b__law_record : M Fl := r__law_record_0
def m__law_record : FunM := mkF 1 7 b__law_record
theorem c__law_record (x0 : D) (so : So) : m__law_record [x0] so = endF (b__law_record [some (.dat x0), none, none, none, none, none, none] so) := mkF_ (m := b__law_record) (ds := [x0]) rfl

def t_format_seen_0 : M Fl := (sIf (mT (mIsN (mV 0))) (sRetD (pu (.str [45]))) sPass)
def t_format_seen_1 : M Fl := (sIf (mT (mIsB true (mV 0))) (sRetD (pu (.str [121, 101, 115]))) sPass)
def t_format_seen_2 : M Fl := (sIf (mT (mIsB false (mV 0))) (sRetD (pu (.str [110, 111]))) sPass)
def t_format_seen_3 : M Fl := (sRetD (bd (aC (mV 0) aN) strI))
def r_format_seen_2 : M Fl := sSeq t_format_seen_2 t_format_seen_3
def r_format_seen_1 : M Fl := sSeq t_format_seen_1 r_format_seen_2
def r_format_seen_0 : M Fl := sSeq t_format_seen_0 r_format_seen_1
/-- format_seen -/
def b_format_seen : M Fl := r_format_seen_0
def m_format_seen : FunM := mkF 1 1 b_format_seen
theorem c_format_seen (x0 : D) (so : So) : m_format_seen [x0] so = endF (b_format_seen [some (.dat x0)] so) := mkF_ (m := b_format_seen) (ds := [x0]) rfl

/-- format_need -/
def b_format_need : M Fl := (sRetD (mM1 joinD (pu (.str [58])) (mFz (mCatL (mFz (bd (aC (mSl slT (mV 0) oN (oS (mNeg (pu (.int 1))))) aN) listD)) (mFz (mLst (aC (mFz (mCall m_format_seen (aC (m2 ixD (mV 0) (mNeg (pu (.int 1)))) aN))) aN)))))))
def m_format_need : FunM := mkF 1 1 b_format_need
theorem c_format_need (x0 : D) (so : So) : m_format_need [x0] so = endF (b_format_need [some (.dat x0)] so) := mkF_ (m := b_format_need) (ds := [x0]) rfl

def e_format_record_0 : M D := (mFz (mCall m_format_need (aC (mV 3) aN)))
def e_format_record_1 : M D := (bd (aC (mV 4) aN) strI)
def t_format_record_0 : M Fl := (sSet 1 (mM1 joinD (pu (.str [59])) (mFz (mLc [3] (tgN 3) (itT (mFld [(24, 2)] (mV 0))) (pu true) e_format_record_0))))
def t_format_record_1 : M Fl := (sIf (mT (m2 eqM (mV 1) (pu (.str [])))) (sSet 1 (pu (.str [45]))) sPass)
def t_format_record_2 : M Fl := (sSet 2 (mM1 joinD (pu (.str [44])) (mFz (mLc [4] (tgN 4) (itT (mFld [(24, 3)] (mV 0))) (pu true) e_format_record_1))))
def t_format_record_3 : M Fl := (sRetD (mM1 joinD (pu (.str [32])) (mFz (mLst (aC (mM1 joinD (pu (.str [44])) (mFld [(24, 0)] (mV 0))) (aC (bd (aC (mFld [(24, 1)] (mV 0)) aN) strI) (aC (mV 1) (aC (mV 2) aN))))))))
def r_format_record_2 : M Fl := sSeq t_format_record_2 t_format_record_3
def r_format_record_1 : M Fl := sSeq t_format_record_1 r_format_record_2
def r_format_record_0 : M Fl := sSeq t_format_record_0 r_format_record_1
/-- format_record -/
def b_format_record : M Fl := r_format_record_0
def m_format_record : FunM := mkF 1 5 b_format_record
theorem c_format_record (x0 : D) (so : So) : m_format_record [x0] so = endF (b_format_record [some (.dat x0), none, none, none, none] so) := mkF_ (m := b_format_record) (ds := [x0]) rfl

def e_is_name_0 : M D := (m2 inD (mV 2) (mV 1))
/-- is_name -/
def b_is_name : M Fl := (sSeq (sIf (tOrM (mT (m2 ltD (bd (aC (mV 0) aN) lenD) (pu (.int 1)))) (tOrM (mT (m2 gtD (bd (aC (mV 0) aN) lenD) (pu (.int 12)))) (mT (m2 eqM (m2 ixD (mV 0) (pu (.int 0))) (pu (.str [46])))))) (sRetD (pu (.bl false))) sPass)
  (sRetD (bd (aC (mFz (mLc [2] (tgN 2) (itS (mV 0)) (pu true) e_is_name_0)) aN) allD)))
def m_is_name : FunM := mkF 2 3 b_is_name
theorem c_is_name (x0 x1 : D) (so : So) : m_is_name [x0, x1] so = endF (b_is_name [some (.dat x0), some (.dat x1), none] so) := mkF_ (m := b_is_name) (ds := [x0, x1]) rfl

def e_is_path_0 : M D := (mFz (mCall m_is_name (aC (mV 2) (aC (pu (.str [97, 98, 99, 100, 101, 102, 103, 104, 105, 106, 107, 108, 109, 110, 111, 112, 113, 114, 115, 116, 117, 118, 119, 120, 121, 122, 48, 49, 50, 51, 52, 53, 54, 55, 56, 57, 95, 46])) aN))))
/-- is_path -/
def b_is_path : M Fl := (sSeq (sSet 1 (mFz (mM1 splitD (mV 0) (pu (.str [47])))))
  (sRetD (mAnd (m2 leD (bd (aC (mV 1) aN) lenD) (pu (.int 4))) (bd (aC (mFz (mLc [2] (tgN 2) (itL (mV 1)) (pu true) e_is_path_0)) aN) allD))))
def m_is_path : FunM := mkF 1 3 b_is_path
theorem c_is_path (x0 : D) (so : So) : m_is_path [x0] so = endF (b_is_path [some (.dat x0), none, none] so) := mkF_ (m := b_is_path) (ds := [x0]) rfl

def l_parse_outputs_0 : M Fl := (sIf (tOrM (tNotM (mTru (mFz (mCall m_is_path (aC (mV 4) aN))))) (mT (m2 inD (mV 4) (mFz (mSl slL (mV 2) oN (oS (mV 3))))))) (sRaise 25 2 [1] (aC (mV 1) aN)) sPass)
def t_parse_outputs_0 : M Fl := (sSet 2 (mFz (mM1 splitD (mV 0) (pu (.str [44])))))
def t_parse_outputs_1 : M Fl := (sIf (mT (m2 gtD (bd (aC (mV 2) aN) lenD) (pu (.int 3)))) (sRaise 25 2 [1] (aC (mV 1) aN)) sPass)
def t_parse_outputs_2 : M Fl := (sFor (tgP 3 4) (itEn (mV 2)) l_parse_outputs_0)
def t_parse_outputs_3 : M Fl := (sRetD (bd (aC (mV 2) aN) tupleD))
def r_parse_outputs_2 : M Fl := sSeq t_parse_outputs_2 t_parse_outputs_3
def r_parse_outputs_1 : M Fl := sSeq t_parse_outputs_1 r_parse_outputs_2
def r_parse_outputs_0 : M Fl := sSeq t_parse_outputs_0 r_parse_outputs_1
/-- parse_outputs -/
def b_parse_outputs : M Fl := r_parse_outputs_0
def m_parse_outputs : FunM := mkF 2 5 b_parse_outputs
theorem c_parse_outputs (x0 x1 : D) (so : So) : m_parse_outputs [x0, x1] so = endF (b_parse_outputs [some (.dat x0), some (.dat x1), none, none, none] so) := mkF_ (m := b_parse_outputs) (ds := [x0, x1]) rfl

/-- is_number -/
def b_is_number : M Fl := (sSeq (sIf (tOrM (mT (m2 eqM (mV 0) (pu (.str [])))) (tOrM (mT (m2 gtD (bd (aC (mV 0) aN) lenD) (pu (.int 4000)))) (mT (m2 eqM (m2 ixD (mV 0) (pu (.int 0))) (pu (.str [48])))))) (sRetD (pu (.bl false))) sPass)
  (sRetD (mAllT (fun c => decide (c ∈ ([48, 49, 50, 51, 52, 53, 54, 55, 56, 57] : List Nat))) (mV 0))))
def m_is_number : FunM := mkF 1 2 b_is_number
theorem c_is_number (x0 : D) (so : So) : m_is_number [x0] so = endF (b_is_number [some (.dat x0), none] so) := mkF_ (m := b_is_number) (ds := [x0]) rfl

/-- parse_key -/
def b_parse_key : M Fl := (sSeq (sIf (tNotM (mTru (mFz (mCall m_is_number (aC (mV 0) aN))))) (sRaise 25 2 [1] (aC (mV 1) aN)) sPass)
  (sRetD (bd (aC (mV 0) aN) intX)))
def m_parse_key : FunM := mkF 2 2 b_parse_key
theorem c_parse_key (x0 x1 : D) (so : So) : m_parse_key [x0, x1] so = endF (b_parse_key [some (.dat x0), some (.dat x1)] so) := mkF_ (m := b_parse_key) (ds := [x0, x1]) rfl

/-- parse_seen -/
def b_parse_seen : M Fl := (sSeq (sIf (mT (m2 eqM (mV 1) (pu (.str [104, 97, 115])))) (sSeq (sIf (mT (m2 niD (mV 0) (mTup (aC (pu (.str [121, 101, 115])) (aC (pu (.str [110, 111])) aN))))) (sRaise 25 2 [1] (aC (mV 2) aN)) sPass)
  (sRetD (m2 eqM (mV 0) (pu (.str [121, 101, 115]))))) sPass)
  (sSeq (sIf (tAndM (mT (m2 eqM (mV 0) (pu (.str [45])))) (mT (m2 neM (mV 1) (pu (.str [108, 105, 115, 116, 105, 110, 103]))))) (sRetD (pu .non)) sPass)
  (sRetD (mFz (mCall m_parse_key (aC (mV 0) (aC (mV 2) aN)))))))
def m_parse_seen : FunM := mkF 3 3 b_parse_seen
theorem c_parse_seen (x0 x1 x2 : D) (so : So) : m_parse_seen [x0, x1, x2] so = endF (b_parse_seen [some (.dat x0), some (.dat x1), some (.dat x2)] so) := mkF_ (m := b_parse_seen) (ds := [x0, x1, x2]) rfl

def e_is_identifier_0 : M D := (m2 inD (mV 1) (m2 addD (pu (.str [97, 98, 99, 100, 101, 102, 103, 104, 105, 106, 107, 108, 109, 110, 111, 112, 113, 114, 115, 116, 117, 118, 119, 120, 121, 122])) (pu (.str [48, 49, 50, 51, 52, 53, 54, 55, 56, 57, 95]))))
/-- is_identifier -/
def b_is_identifier : M Fl := (sSeq (sIf (tOrM (mT (m2 ltD (bd (aC (mV 0) aN) lenD) (pu (.int 1)))) (tOrM (mT (m2 gtD (bd (aC (mV 0) aN) lenD) (pu (.int 12)))) (mT (m2 niD (m2 ixD (mV 0) (pu (.int 0))) (pu (.str [97, 98, 99, 100, 101, 102, 103, 104, 105, 106, 107, 108, 109, 110, 111, 112, 113, 114, 115, 116, 117, 118, 119, 120, 121, 122])))))) (sRetD (pu (.bl false))) sPass)
  (sRetD (bd (aC (mFz (mLc [1] (tgN 1) (itS (mV 0)) (pu true) e_is_identifier_0)) aN) allD)))
def m_is_identifier : FunM := mkF 1 2 b_is_identifier
theorem c_is_identifier (x0 : D) (so : So) : m_is_identifier [x0] so = endF (b_is_identifier [some (.dat x0), none] so) := mkF_ (m := b_is_identifier) (ds := [x0]) rfl

def e_is_pattern_0 : M D := (mFz (mCall m_is_name (aC (mV 2) (aC (m2 addD (pu (.str [97, 98, 99, 100, 101, 102, 103, 104, 105, 106, 107, 108, 109, 110, 111, 112, 113, 114, 115, 116, 117, 118, 119, 120, 121, 122, 48, 49, 50, 51, 52, 53, 54, 55, 56, 57, 95, 46])) (pu (.str [42]))) aN))))
/-- is_pattern -/
def b_is_pattern : M Fl := (sSeq (sSet 1 (mFz (mM1 splitD (mV 0) (pu (.str [47])))))
  (sSeq (sIf (tOrM (mT (m2 gtD (bd (aC (mV 1) aN) lenD) (pu (.int 4)))) (mT (m2 neM (mM1 countD (mV 0) (pu (.str [42]))) (pu (.int 1))))) (sRetD (pu (.bl false))) sPass)
  (sRetD (bd (aC (mFz (mLc [2] (tgN 2) (itL (mV 1)) (pu true) e_is_pattern_0)) aN) allD))))
def m_is_pattern : FunM := mkF 1 3 b_is_pattern
theorem c_is_pattern (x0 : D) (so : So) : m_is_pattern [x0] so = endF (b_is_pattern [some (.dat x0), none, none] so) := mkF_ (m := b_is_pattern) (ds := [x0]) rfl

def t_is_subject_0 : M Fl := (sIf (tAndM (mT (m2 eqM (bd (aC (mV 0) aN) lenD) (pu (.int 3)))) (mT (m2 eqM (m2 ixD (mV 0) (pu (.int 0))) (pu (.str [108, 105, 115, 116, 105, 110, 103]))))) (sSeq (sSet 1 (mOr (m2 eqM (m2 ixD (mV 0) (pu (.int 1))) (pu (.str []))) (mFz (mCall m_is_path (aC (m2 ixD (mV 0) (pu (.int 1))) aN)))))
  (sRetD (mAnd (mV 1) (mAnd (mFz (mCall m_is_pattern (aC (m2 ixD (mV 0) (pu (.int 2))) aN))) (m2 niD (pu (.str [47])) (m2 ixD (mV 0) (pu (.int 2)))))))) sPass)
def t_is_subject_1 : M Fl := (sIf (mT (m2 neM (bd (aC (mV 0) aN) lenD) (pu (.int 2)))) (sRetD (pu (.bl false))) sPass)
def t_is_subject_2 : M Fl := (sIf (mT (m2 eqM (m2 ixD (mV 0) (pu (.int 0))) (pu (.str [115, 101, 116, 116, 105, 110, 103])))) (sRetD (mFz (mCall m_is_identifier (aC (m2 ixD (mV 0) (pu (.int 1))) aN)))) sPass)
def t_is_subject_3 : M Fl := (sRetD (mAnd (m2 inD (m2 ixD (mV 0) (pu (.int 0))) (mTup (aC (pu (.str [102, 105, 108, 101])) (aC (pu (.str [104, 97, 115])) (aC (pu (.str [108, 105, 110, 107])) aN))))) (mFz (mCall m_is_path (aC (m2 ixD (mV 0) (pu (.int 1))) aN)))))
def r_is_subject_2 : M Fl := sSeq t_is_subject_2 t_is_subject_3
def r_is_subject_1 : M Fl := sSeq t_is_subject_1 r_is_subject_2
def r_is_subject_0 : M Fl := sSeq t_is_subject_0 r_is_subject_1
/-- is_subject -/
def b_is_subject : M Fl := r_is_subject_0
def m_is_subject : FunM := mkF 1 2 b_is_subject
theorem c_is_subject (x0 : D) (so : So) : m_is_subject [x0] so = endF (b_is_subject [some (.dat x0), none] so) := mkF_ (m := b_is_subject) (ds := [x0]) rfl

def t_parse_need_0 : M Fl := (sSet 2 (mFz (mM1 splitD (mV 0) (pu (.str [58])))))
def t_parse_need_1 : M Fl := (sIf (tNotM (mTru (mFz (mCall m_is_subject (aC (mFz (mSl slL (mV 2) oN (oS (mNeg (pu (.int 1)))))) aN))))) (sRaise 25 2 [1] (aC (mV 1) aN)) sPass)
def t_parse_need_2 : M Fl := (sSet 3 (mFz (mCall m_parse_seen (aC (m2 ixD (mV 2) (mNeg (pu (.int 1)))) (aC (m2 ixD (mV 2) (pu (.int 0))) (aC (mV 1) aN))))))
def t_parse_need_3 : M Fl := (sRetD (m2 catT (bd (aC (mFz (mSl slL (mV 2) oN (oS (mNeg (pu (.int 1)))))) aN) tupleD) (mTup (aC (mV 3) aN))))
def r_parse_need_2 : M Fl := sSeq t_parse_need_2 t_parse_need_3
def r_parse_need_1 : M Fl := sSeq t_parse_need_1 r_parse_need_2
def r_parse_need_0 : M Fl := sSeq t_parse_need_0 r_parse_need_1
/-- parse_need -/
def b_parse_need : M Fl := r_parse_need_0
def m_parse_need : FunM := mkF 2 4 b_parse_need
theorem c_parse_need (x0 x1 : D) (so : So) : m_parse_need [x0, x1] so = endF (b_parse_need [some (.dat x0), some (.dat x1), none, none] so) := mkF_ (m := b_parse_need) (ds := [x0, x1]) rfl

/-- question -/
def b_question : M Fl := (sRetD (mSl slT (mV 0) oN (oS (mNeg (pu (.int 1))))))
def m_question : FunM := mkF 1 1 b_question
theorem c_question (x0 : D) (so : So) : m_question [x0] so = endF (b_question [some (.dat x0)] so) := mkF_ (m := b_question) (ds := [x0]) rfl

def l_parse_needs_0 : M Fl := (sSeq (sSet 5 (mFz (mCall m_parse_need (aC (mV 4) (aC (mV 1) aN)))))
  (sSeq (sIf (tOrM (mT (mInH false (mFz (mCall m_question (aC (mV 5) aN))) (hV 3))) (mT (m2 eqM (mLenH (hV 2)) (pu (.int 60))))) (sRaise 25 2 [1] (aC (mV 1) aN)) sPass)
  (sSeq (sExpr (mHM1 apF (hV 3) (mFz (mCall m_question (aC (mV 5) aN)))))
  (sExpr (mHM1 apF (hV 2) (mV 5))))))
def t_parse_needs_0 : M Fl := (sIf (mT (m2 eqM (mV 0) (pu (.str [45])))) (sRetD (mTup aN)) sPass)
def t_parse_needs_1 : M Fl := (sSetB 2 (mLst aN))
def t_parse_needs_2 : M Fl := (sSetB 3 (mLst aN))
def t_parse_needs_3 : M Fl := (sFor (tgN 4) (itL (mFz (mM1 splitD (mV 0) (pu (.str [59]))))) l_parse_needs_0)
def t_parse_needs_4 : M Fl := (sRetD (bd (aC (mVF 2) aN) tupleD))
def r_parse_needs_3 : M Fl := sSeq t_parse_needs_3 t_parse_needs_4
def r_parse_needs_2 : M Fl := sSeq t_parse_needs_2 r_parse_needs_3
def r_parse_needs_1 : M Fl := sSeq t_parse_needs_1 r_parse_needs_2
def r_parse_needs_0 : M Fl := sSeq t_parse_needs_0 r_parse_needs_1
/-- parse_needs -/
def b_parse_needs : M Fl := r_parse_needs_0
def m_parse_needs : FunM := mkF 2 6 b_parse_needs
theorem c_parse_needs (x0 x1 : D) (so : So) : m_parse_needs [x0, x1] so = endF (b_parse_needs [some (.dat x0), some (.dat x1), none, none, none, none] so) := mkF_ (m := b_parse_needs) (ds := [x0, x1]) rfl

def e_parse_record_0 : M D := (mFz (mCall m_parse_key (aC (mV 6) (aC (mV 0) aN))))
def t_parse_record_0 : M Fl := (sSet 1 (mFz (mM1 splitD (mV 0) (pu (.str [32])))))
def t_parse_record_1 : M Fl := (sIf (mT (m2 neM (bd (aC (mV 1) aN) lenD) (pu (.int 4)))) (sRaise 25 2 [1] (aC (mV 0) aN)) sPass)
def t_parse_record_2 : M Fl := (sSet 2 (mFz (mCall m_parse_outputs (aC (m2 ixD (mV 1) (pu (.int 0))) (aC (mV 0) aN)))))
def t_parse_record_3 : M Fl := (sSet 3 (mFz (mCall m_parse_key (aC (m2 ixD (mV 1) (pu (.int 1))) (aC (mV 0) aN)))))
def t_parse_record_4 : M Fl := (sSet 4 (mFz (mCall m_parse_needs (aC (m2 ixD (mV 1) (pu (.int 2))) (aC (mV 0) aN)))))
def t_parse_record_5 : M Fl := (sSet 5 (bd (aC (mFz (mLc [6] (tgN 6) (itL (mFz (mM1 splitD (m2 ixD (mV 1) (pu (.int 3))) (pu (.str [44]))))) (pu true) e_parse_record_0)) aN) tupleD))
def t_parse_record_6 : M Fl := (sIf (mT (m2 neM (bd (aC (mV 5) aN) lenD) (bd (aC (mV 2) aN) lenD))) (sRaise 25 2 [1] (aC (mV 0) aN)) sPass)
def t_parse_record_7 : M Fl := (sRetD (mNew 24 4 m_Record___init__ (aC (mV 2) (aC (mV 3) (aC (mV 4) (aC (mV 5) aN))))))
def r_parse_record_6 : M Fl := sSeq t_parse_record_6 t_parse_record_7
def r_parse_record_5 : M Fl := sSeq t_parse_record_5 r_parse_record_6
def r_parse_record_4 : M Fl := sSeq t_parse_record_4 r_parse_record_5
def r_parse_record_3 : M Fl := sSeq t_parse_record_3 r_parse_record_4
def r_parse_record_2 : M Fl := sSeq t_parse_record_2 r_parse_record_3
def r_parse_record_1 : M Fl := sSeq t_parse_record_1 r_parse_record_2
def r_parse_record_0 : M Fl := sSeq t_parse_record_0 r_parse_record_1
/-- parse_record -/
def b_parse_record : M Fl := r_parse_record_0
def m_parse_record : FunM := mkF 1 7 b_parse_record
theorem c_parse_record (x0 : D) (so : So) : m_parse_record [x0] so = endF (b_parse_record [some (.dat x0), none, none, none, none, none, none] so) := mkF_ (m := b_parse_record) (ds := [x0]) rfl

/-- Record.__eq__ -/
def b_Record___eq__ : M Fl := (sSeq (sIf (tNotM (mTru (mIsC 24 (mV 1)))) sDead sPass)
  (sSeq (sSet 2 (mTup (aC (mFld [(24, 0)] (mV 0)) (aC (mFld [(24, 1)] (mV 0)) (aC (mFld [(24, 2)] (mV 0)) (aC (mFld [(24, 3)] (mV 0)) aN))))))
  (sRetD (m2 eqM (mV 2) (mTup (aC (mFld [(24, 0)] (mV 1)) (aC (mFld [(24, 1)] (mV 1)) (aC (mFld [(24, 2)] (mV 1)) (aC (mFld [(24, 3)] (mV 1)) aN)))))))))
def m_Record___eq__ : FunM := mkF 2 3 b_Record___eq__
theorem c_Record___eq__ (x0 x1 : D) (so : So) : m_Record___eq__ [x0, x1] so = endF (b_Record___eq__ [some (.dat x0), some (.dat x1), none] so) := mkF_ (m := b_Record___eq__) (ds := [x0, x1]) rfl

/-- _law_seen -/
def b__law_seen : M Fl := (sSeq (sIf (mT (mIsN (mV 0))) (sRetD (pu (.str [45]))) sPass)
  (sSeq (sIf (mTru (mIs .bool (mV 0))) (sRetD (m2 ixD (mFz (mLst (aC (pu (.str [110, 111])) (aC (pu (.str [121, 101, 115])) aN)))) (bd (aC (mV 0) aN) intX))) sPass)
  (sRetD (bd (aC (mV 0) aN) strI))))
def m__law_seen : FunM := mkF 1 1 b__law_seen
theorem c__law_seen (x0 : D) (so : So) : m__law_seen [x0] so = endF (b__law_seen [some (.dat x0)] so) := mkF_ (m := b__law_seen) (ds := [x0]) rfl

def e__law_line_0 : M D := (mM1 joinD (pu (.str [58])) (mFz (mCatL (mFz (bd (aC (mSl slT (mV 3) oN (oS (mNeg (pu (.int 1))))) aN) listD)) (mFz (mLst (aC (mFz (mCall m__law_seen (aC (m2 ixD (mV 3) (mNeg (pu (.int 1)))) aN))) aN))))))
def e__law_line_1 : M D := (bd (aC (mV 4) aN) strI)
def t__law_line_0 : M Fl := (sSet 1 (mM1 joinD (pu (.str [59])) (mFz (mLc [3] (tgN 3) (itT (mFld [(24, 2)] (mV 0))) (pu true) e__law_line_0))))
def t__law_line_1 : M Fl := (sIf (mT (m2 eqM (mV 1) (pu (.str [])))) (sSet 1 (pu (.str [45]))) sPass)
def t__law_line_2 : M Fl := (sSet 2 (mM1 joinD (pu (.str [44])) (mFz (mLc [4] (tgN 4) (itT (mFld [(24, 3)] (mV 0))) (pu true) e__law_line_1))))
def t__law_line_3 : M Fl := (sRetD (m2 addD (m2 addD (m2 addD (m2 addD (m2 addD (m2 addD (mM1 joinD (pu (.str [44])) (mFld [(24, 0)] (mV 0))) (pu (.str [32]))) (bd (aC (mFld [(24, 1)] (mV 0)) aN) strI)) (pu (.str [32]))) (mV 1)) (pu (.str [32]))) (mV 2)))
def r__law_line_2 : M Fl := sSeq t__law_line_2 t__law_line_3
def r__law_line_1 : M Fl := sSeq t__law_line_1 r__law_line_2
def r__law_line_0 : M Fl := sSeq t__law_line_0 r__law_line_1
/-- _law_line -/
def b__law_line : M Fl := r__law_line_0
def m__law_line : FunM := mkF 1 5 b__law_line
theorem c__law_line (x0 : D) (so : So) : m__law_line [x0] so = endF (b__law_line [some (.dat x0), none, none, none, none] so) := mkF_ (m := b__law_line) (ds := [x0]) rfl

def l_law_0 : M Fl := (sSeq (sIf (tOrM (tNotM (mTru (mIs .tuple (mV 4)))) (mT (m2 neM (mFz (mCall m_question (aC (mV 4) aN))) (mSl slT (mV 4) oN (oS (mNeg (pu (.int 1)))))))) (sRetD (pu (.bl false))) sPass)
  (sIf (tAndM (mT (m2 eqM (m2 ixD (mV 4) (pu (.int 0))) (pu (.str [104, 97, 115])))) (tNotM (mTru (mIs .bool (m2 ixD (mV 4) (pu (.int 2))))))) (sRetD (pu (.bl false))) sPass))
def t_law_0 : M Fl := (sSet 1 (mFz (mCall m__law_record (aC (mV 0) aN))))
def t_law_1 : M Fl := (sSet 2 (mFz (mCall m_format_record (aC (mV 1) aN))))
def t_law_2 : M Fl := (sIf (tOrM (tNotM (mTru (mIs .str (mV 2)))) (mT (m2 neM (mV 2) (mFz (mCall m__law_line (aC (mV 1) aN)))))) (sRetD (pu (.bl false))) sPass)
def t_law_3 : M Fl := (sSet 3 (mFz (mCall m_parse_record (aC (mV 2) aN))))
def t_law_4 : M Fl := (sIf (tOrM (mT (mEqO 24 m_Record___eq__ true (mV 3) (mV 1))) (tNotM (mT (mEqO 24 m_Record___eq__ false (mV 3) (mV 1))))) (sRetD (pu (.bl false))) sPass)
def t_law_5 : M Fl := (sIf (mT (m2 neM (mTup (aC (mFld [(24, 0)] (mV 3)) (aC (mFld [(24, 1)] (mV 3)) (aC (mFld [(24, 2)] (mV 3)) (aC (mFld [(24, 3)] (mV 3)) aN))))) (mTup (aC (mFld [(24, 0)] (mV 1)) (aC (mFld [(24, 1)] (mV 1)) (aC (mFld [(24, 2)] (mV 1)) (aC (mFld [(24, 3)] (mV 1)) aN))))))) (sRetD (pu (.bl false))) sPass)
def t_law_6 : M Fl := (sIf (tOrM (tNotM (mTru (mIs .tuple (mFld [(24, 0)] (mV 3))))) (tOrM (tNotM (mTru (mIs .tuple (mFld [(24, 2)] (mV 3))))) (tNotM (mTru (mIs .tuple (mFld [(24, 3)] (mV 3))))))) (sRetD (pu (.bl false))) sPass)
def t_law_7 : M Fl := (sFor (tgN 4) (itT (mFld [(24, 2)] (mV 3))) l_law_0)
def t_law_8 : M Fl := (sSet 5 (mNew 24 4 m_Record___init__ (aC (mFld [(24, 0)] (mV 1)) (aC (m2 addD (mFld [(24, 1)] (mV 1)) (pu (.int 1))) (aC (mFld [(24, 2)] (mV 1)) (aC (mFld [(24, 3)] (mV 1)) aN))))))
def t_law_9 : M Fl := (sSet 6 (mNew 24 4 m_Record___init__ (aC (mFld [(24, 0)] (mV 1)) (aC (mFld [(24, 1)] (mV 1)) (aC (m2 catT (mFld [(24, 2)] (mV 1)) (mTup (aC (mTup (aC (pu (.str [104, 97, 115])) (aC (pu (.str [122, 122])) (aC (pu (.bl true)) aN)))) aN))) (aC (mFld [(24, 3)] (mV 1)) aN))))))
def t_law_10 : M Fl := (sSet 7 (mNew 24 4 m_Record___init__ (aC (m2 catT (mSl slT (mFld [(24, 0)] (mV 1)) (oS (pu (.int 1))) oN) (mTup (aC (pu (.str [122, 122, 122])) aN))) (aC (mFld [(24, 1)] (mV 1)) (aC (mFld [(24, 2)] (mV 1)) (aC (mFld [(24, 3)] (mV 1)) aN))))))
def t_law_11 : M Fl := (sSet 8 (mNew 24 4 m_Record___init__ (aC (mFld [(24, 0)] (mV 1)) (aC (mFld [(24, 1)] (mV 1)) (aC (mFld [(24, 2)] (mV 1)) (aC (m2 catT (mSl slT (mFld [(24, 3)] (mV 1)) (oS (pu (.int 1))) oN) (mTup (aC (m2 addD (m2 ixD (mFld [(24, 3)] (mV 1)) (pu (.int 0))) (pu (.int 5))) aN))) aN))))))
def t_law_12 : M Fl := (sRetD (mAnd (mEqO 24 m_Record___eq__ true (mV 5) (mV 1)) (mAnd (mEqO 24 m_Record___eq__ true (mV 6) (mV 1)) (mAnd (mEqO 24 m_Record___eq__ true (mV 7) (mV 1)) (mEqO 24 m_Record___eq__ true (mV 8) (mV 1))))))
def r_law_11 : M Fl := sSeq t_law_11 t_law_12
def r_law_10 : M Fl := sSeq t_law_10 r_law_11
def r_law_9 : M Fl := sSeq t_law_9 r_law_10
def r_law_8 : M Fl := sSeq t_law_8 r_law_9
def r_law_7 : M Fl := sSeq t_law_7 r_law_8
def r_law_6 : M Fl := sSeq t_law_6 r_law_7
def r_law_5 : M Fl := sSeq t_law_5 r_law_6
def r_law_4 : M Fl := sSeq t_law_4 r_law_5
def r_law_3 : M Fl := sSeq t_law_3 r_law_4
def r_law_2 : M Fl := sSeq t_law_2 r_law_3
def r_law_1 : M Fl := sSeq t_law_1 r_law_2
def r_law_0 : M Fl := sSeq t_law_0 r_law_1
/-- law -/
def b_law : M Fl := r_law_0
def m_law : FunM := mkF 1 9 b_law
theorem c_law (x0 : D) (so : So) : m_law [x0] so = endF (b_law [some (.dat x0), none, none, none, none, none, none, none, none] so) := mkF_ (m := b_law) (ds := [x0]) rfl
end
end Lk40

set_option Elab.async false
set_option linter.all false
set_option maxRecDepth 100000
set_option maxHeartbeats 4000000
namespace Lk40
open PySem PySem.Spec PyProof.Rows Dl L2
/-! ### paths -/
theorem name_ok (v cs : List Nat) (so : So) (h : v.length ≤ 16777216) : m_is_name [.str v, .str cs] so = .ok (.dat (.bl (okN cs v))) so := by
  rw [c_is_name]
  cases v with
  | nil => simp [b_is_name, okN]
  | cons c r =>
    have h' : r.length ≤ 16777215 := by simpa using h
    have h1 : ¬ ((r.length : Int) + 1 < 1) := by omega
    have hl : lcGo [2] (tgN 2) (pu true) e_is_name_0 (D.str [c] :: List.map (fun c => D.str [c]) r) [] [some (.dat (.str (c :: r))), some (.dat (.str cs)), none] so = .ok ((c :: r).map fun x => .bl (decide (x ∈ cs))) [some (.dat (.str (c :: r))), some (.dat (.str cs)), none] so := by
      rw [show D.str [c] :: List.map (fun c => D.str [c]) r = (c :: r).map fun c => D.str [c] from rfl]
      exact lcGo_mp (fun c => .str [c]) (fun x => .bl (decide (x ∈ cs))) (c :: r) (fun x _ => ⟨_, rfl, by simp [e_is_name_0], rfl⟩) h
    by_cases h2 : (12 : Int) < (r.length : Int) + 1
    · simp [b_is_name, h', h1, h2, okN]
    · by_cases h3 : c = 46
      · simp [b_is_name, h', h1, h2, h3, okN]
      · simp [b_is_name, h', h1, h2, h3]
        rw [hl]
        have := all_map (en := [some (.dat (.str (c :: r))), some (.dat (.str cs)), none]) (so := so) (fun x => decide (x ∈ cs)) (c :: r)
        rw [List.map_cons] at this ⊢
        simp [this]
        simp [okN, h2, h3]
theorem path_ok (z : List Nat) (so : So) (h : z.length ≤ 1000) : m_is_path [.str z] so = .ok (.dat (.bl (okp z))) so := by
  have h' : z.length ≤ 16777214 := by omega
  have hp := pieces_count 47 z []
  rw [c_is_path]
  simp [b_is_path, h']
  rw [lcGo_mp .str (fun v => .bl (okN cs0 v)) _ ?_ (by omega)]
  · simp [all_map, okp]
  · exact fun v hv => ⟨_, rfl, by simp [e_is_path_0]; rw [show ([97, 98, 99, 100, 101, 102, 103, 104, 105, 106, 107, 108, 109, 110, 111, 112, 113, 114, 115, 116, 117, 118, 119, 120, 121, 122, 48, 49, 50, 51, 52, 53, 54, 55, 56, 57, 95, 46] : List Nat) = cs0 from rfl, name_ok _ _ _ (by have := pieces_len 47 z [] v hv; simp at this; omega)]; rfl, rfl⟩
/-! ### patterns -/
def cs1 : List Nat := cs0 ++ [42]
def okpat (z : List Nat) : Bool := !(decide ((4 : Int) < ((pieces 47 [] z).length : Int)) || !decide (z.count 42 = 1)) && (pieces 47 [] z).all (okN cs1)
theorem pattern_ok (z : List Nat) (so : So) (h : z.length ≤ 1000) : m_is_pattern [.str z] so = .ok (.dat (.bl (okpat z))) so := by
  have h' : z.length ≤ 16777214 := by omega
  have hp := pieces_count 47 z []
  rw [c_is_pattern]
  have hn : ∀ v ∈ pieces 47 [] z, ∀ so : So, m_is_name [.str v, .str cs1] so = .ok (.dat (.bl (okN cs1 v))) so := fun v hv so => name_ok _ _ _ (by have := pieces_len 47 z [] v hv; simp at this; omega)
  by_cases h4 : (4 : Int) < ((pieces 47 [] z).length : Int)
  · simp [b_is_pattern, h', h4, okpat]
  · by_cases h5 : z.count 42 = 1
    · simp [b_is_pattern, h', h4, h5]
      rw [lcGo_mp .str (fun v => .bl (okN cs1 v)) _ ?_ (by omega)]
      · simp [all_map, okpat, h4, h5]
      · exact fun v hv => ⟨_, rfl, by simp [e_is_pattern_0]; rw [show ([97, 98, 99, 100, 101, 102, 103, 104, 105, 106, 107, 108, 109, 110, 111, 112, 113, 114, 115, 116, 117, 118, 119, 120, 121, 122, 48, 49, 50, 51, 52, 53, 54, 55, 56, 57, 95, 46, 42] : List Nat) = cs1 from rfl, hn v hv]; rfl, rfl⟩
    · have h5' : ¬ ((z.count 42 : Nat) : Int) = 1 := by omega
      simp [b_is_pattern, h', h4, h5', h5, okpat]
/-! ### identifiers -/
def LET : List Nat := [97, 98, 99, 100, 101, 102, 103, 104, 105, 106, 107, 108, 109, 110, 111, 112, 113, 114, 115, 116, 117, 118, 119, 120, 121, 122]
def DIG : List Nat := [48, 49, 50, 51, 52, 53, 54, 55, 56, 57, 95]
def identF (t : List Nat) : Bool := decide (1 ≤ t.length) && decide (t.length ≤ 12) && (match t with
  | c :: _ => decide (c ∈ LET)
  | [] => false) && t.all fun c => decide (c ∈ LET ++ DIG)
theorem ident_ok {so : So} (t : List Nat) (ht : t.length ≤ 16777216) : m_is_identifier [.str t] so = .ok (.dat (.bl (identF t))) so := by
  rw [c_is_identifier]
  cases t with
  | nil => simp [b_is_identifier, identF]
  | cons c r =>
    have h' : r.length ≤ 16777215 := by simpa using ht
    have h1 : ¬ ((r.length : Int) + 1 < 1) := by omega
    have hLET : (D.str [97, 98, 99, 100, 101, 102, 103, 104, 105, 106, 107, 108, 109, 110, 111, 112, 113, 114, 115, 116, 117, 118, 119, 120, 121, 122]) = .str LET := rfl
    have hDIG : (D.str [48, 49, 50, 51, 52, 53, 54, 55, 56, 57, 95]) = .str DIG := rfl
    have hl : lcGo [1] (tgN 1) (pu true) e_is_identifier_0 (D.str [c] :: List.map (fun c => D.str [c]) r) [] [some (.dat (.str (c :: r))), none] so = .ok ((c :: r).map fun x => .bl (decide (x ∈ LET ++ DIG))) [some (.dat (.str (c :: r))), none] so := by
      rw [show D.str [c] :: List.map (fun c => D.str [c]) r = (c :: r).map fun c => D.str [c] from rfl]
      refine lcGo_mp (fun c => .str [c]) (fun x => .bl (decide (x ∈ LET ++ DIG))) (c :: r) (fun x _ => ⟨_, rfl, ?_, rfl⟩) ht
      have hs : LET.length + DIG.length ≤ 16777216 := by decide
      simp [e_is_identifier_0, hLET, hDIG, hs]
    by_cases h2 : (12 : Int) < (r.length : Int) + 1
    · have h2' : ¬ r.length + 1 ≤ 12 := by omega
      simp [b_is_identifier, h', h1, h2, identF, h2']
    · have h2' : r.length + 1 ≤ 12 := by omega
      by_cases h3 : c ∈ LET
      · simp only [b_is_identifier, hLET]
        simp [h', h1, h2, h3]
        rw [hl]
        have := all_map (en := [some (.dat (.str (c :: r))), none]) (so := so) (fun x => decide (x ∈ LET ++ DIG)) (c :: r)
        rw [List.map_cons] at this ⊢
        have h4 : r.length ≤ 11 := by omega
        simp [h3] at this
        simp [h3, this, identF, h4]
      · simp only [b_is_identifier, hLET]
        simp [h', h1, h2, h3, identF]
/-! ### joined and split -/
theorem pieces_app (c : Nat) (r : List Nat) : ∀ (l acc : List Nat), c ∉ l → pieces c acc (l ++ c :: r) = (acc ++ l) :: pieces c [] r
  | [], acc, _ => by simp [pieces]
  | x :: l, acc, h => by
    have hx : x ≠ c := fun e => h (by simp [e])
    show (if x = c then _ else pieces c (acc ++ [x]) (l ++ c :: r)) = _
    rw [if_neg hx, pieces_app c r l (acc ++ [x]) fun q => h (List.mem_cons_of_mem _ q)]
    simp
theorem pieces_one (c : Nat) : ∀ (l acc : List Nat), c ∉ l → pieces c acc l = [acc ++ l]
  | [], acc, _ => by simp [pieces]
  | x :: l, acc, h => by
    have hx : x ≠ c := fun e => h (by simp [e])
    show (if x = c then _ else pieces c (acc ++ [x]) l) = _
    rw [if_neg hx, pieces_one c l (acc ++ [x]) fun q => h (List.mem_cons_of_mem _ q)]
    simp
theorem pieces_join (c : Nat) : ∀ L : List (List Nat), L ≠ [] → (∀ l ∈ L, c ∉ l) → pieces c [] (TL.joinL [c] L) = L
  | [], h, _ => absurd rfl h
  | [l], _, h => by simp [TL.joinL, pieces_one c l [] (h l List.mem_cons_self)]
  | l :: m :: r, _, h => by
    have ih := pieces_join c (m :: r) (by simp) fun x hx => h x (List.mem_cons_of_mem _ hx)
    have e : TL.joinL [c] (l :: m :: r) = l ++ c :: TL.joinL [c] (m :: r) := by
      conv => lhs; unfold TL.joinL
      simp
    rw [e, pieces_app c _ l [] (h l List.mem_cons_self), ih]
    rfl
theorem joinL_len (c : Nat) : ∀ L : List (List Nat), (TL.joinL [c] L).length ≤ szL L + L.length
  | [] => by simp [TL.joinL, szL]
  | [l] => by simp [TL.joinL, szL]
  | l :: m :: r => by
    have ih := joinL_len c (m :: r)
    have e : TL.joinL [c] (l :: m :: r) = l ++ c :: TL.joinL [c] (m :: r) := by
      conv => lhs; unfold TL.joinL
      simp
    rw [e]
    simp [szL] at ih ⊢
    omega
theorem joinL_ne (c : Nat) : ∀ L : List (List Nat), L ≠ [] → (∀ l ∈ L, l ≠ []) → TL.joinL [c] L ≠ []
  | [], h, _ => absurd rfl h
  | [l], _, h => by simpa [TL.joinL] using h l List.mem_cons_self
  | l :: m :: r, _, h => by
    have e : TL.joinL [c] (l :: m :: r) = l ++ c :: TL.joinL [c] (m :: r) := by
      conv => lhs; unfold TL.joinL
      simp
    rw [e]
    simp
/-! ### cells and numbers -/
theorem cell_ok (ns : List Int) (i : Int) (so : So) (h0 : 0 ≤ i) : ∃ k : Int, m__law_cell [.lst (ns.map .int), .int i] so = .ok (.dat (.int k)) so := by
  rw [c__law_cell]
  by_cases h : i < (ns.length : Int)
  · have h2 : i < ((ns.map D.int).length : Int) := by rw [List.length_map]; exact h
    refine ⟨ns.getD i.toNat 0, ?_⟩
    have e : L2.atI (ns.map D.int) i = some (.int (ns.getD i.toNat 0)) := by
      rw [atI_map, atI_get' ns i h0 h]
      rfl
    simp [b__law_cell, h, e]
  · exact ⟨0, by simp [b__law_cell, h]⟩
/-- numbers from 0 to 999 -/
def Num (n : Nat) (l : List Int) : Prop := l.length = n ∧ ∀ x ∈ l, 0 ≤ x ∧ x < 1000
theorem Num.at {n : Nat} {l : List Int} (h : Num n l) {i : Nat} (hi : i < n) : ∃ v : Int, L2.atI (l.map D.int) (i : Int) = some (.int v) ∧ 0 ≤ v ∧ v < 1000 := by
  have hi' : i < l.length := by rw [h.1]; exact hi
  refine ⟨l[i], ?_, h.2 _ (List.getElem_mem hi')⟩
  rw [atI_map, atI_nat (xs := l) (j := i) (v := l[i]) (List.getElem?_eq_getElem hi')]
  rfl
theorem numbers_ok (c : Int) (n : Nat) (hn : n ≤ 1000) (so : So) : ∃ l, Num n l ∧ m__law_numbers [.int c, .int (n : Int)] so = .ok (.dat (.lst (l.map .int))) so := by
  obtain ⟨v, hv, hv0⟩ : ∃ v : Int, (if c < 0 then -c else c) = v ∧ 0 ≤ v := ⟨_, rfl, by split <;> omega⟩
  obtain ⟨lg, hlg⟩ : ∃ lg : Bool, decide ((1000000000000000000 : Int) ≤ v) = lg := ⟨_, rfl⟩
  obtain ⟨en', so', g1, x2, x4, x6, l, g2, g3, g4⟩ := forGo_at (tg := tgN 6) (body := l__law_numbers_0) (fun i : Nat => D.int (0 + (i : Int))) (fun done en so' => ∃ (x2 x4 : Int) (x6 : Option B) (l : List Int), en = [some (.dat (.int c)), some (.dat (.int (n : Int))), some (.dat (.int x2)), some (.dat (.bl lg)), some (.dat (.int x4)), some (.cel (.lst (l.map .int))), x6] ∧ so' = so ∧ Num done.length l) (List.range n) (List.range n) [] [some (.dat (.int c)), some (.dat (.int (n : Int))), some (.dat (.int v)), some (.dat (.bl lg)), some (.dat (.int (v % 2147483629 + 1))), some (.cel (.lst [])), none] so rfl ⟨v, _, none, [], rfl, rfl, rfl, fun x h => nomatch h⟩
    (fun done a rest en so1 hd ⟨x2, x4, x6, l, he, hs, hl⟩ => by
      subst he hs
      have hdl : done.length < n := by
        have := congrArg List.length hd
        rw [List.length_append, List.length_cons, List.length_range] at this
        omega
      have hll := hl.1
      have ap := fun d : D => apF_ (xs := l.map D.int) (by rw [List.length_map]; omega) d
      have add : ∀ z : Int, Num (done ++ [a]).length (l ++ [z % 1000]) := fun z => ⟨by rw [List.length_append, List.length_append, hll]; rfl, fun x hx => by
        rcases List.mem_append.mp hx with hx | hx
        · exact hl.2 x hx
        · rw [List.mem_singleton.mp hx]; omega⟩
      have gm : (-(2 ^ 64) < (48271 : Int) ∧ (48271 : Int) < 2 ^ 64) ∧ (-(2 ^ 64) < (69621 : Int) ∧ (69621 : Int) < 2 ^ 64) := by decide
      obtain ⟨w, hw⟩ : ∃ w : Int, (x4 * 48271 + (a : Int) * 69621 + 7) % 2147483647 = w := ⟨_, rfl⟩
      cases hb : (lg && decide (0 < x2)) with
      | true =>
        rw [Bool.and_eq_true] at hb
        obtain ⟨h1, h2⟩ := hb
        have h2 : 0 < x2 := by simpa using h2
        subst h1
        exact ⟨_, rfl, _, _, .inl (by simp [l__law_numbers_0, gm, hw, h2, ap]; rfl), x2 / 1000, w, some (.dat (.int (a : Int))), l ++ [x2 % 1000], by simp, rfl, add x2⟩
      | false =>
        rw [Bool.and_eq_false_iff] at hb
        have hb : lg = false ∨ ¬ 0 < x2 := hb.imp id fun h => by simpa using h
        rcases hb with h1 | h2
        · subst h1
          exact ⟨_, rfl, _, _, .inl (by simp [l__law_numbers_0, gm, hw, ap]; rfl), x2, w, some (.dat (.int (a : Int))), l ++ [w / 13 % 1000], by simp, rfl, add _⟩
        · exact ⟨_, rfl, _, _, .inl (by simp [l__law_numbers_0, gm, hw, h2, ap]; rfl), x2, w, some (.dat (.int (a : Int))), l ++ [w / 13 % 1000], by simp, rfl, add _⟩)
  subst g2 g3
  rw [List.length_range] at g4
  refine ⟨l, g4, ?_⟩
  have n2 : n ≤ 16777216 := by omega
  rw [c__law_numbers]
  simp [b__law_numbers, r__law_numbers_0, t__law_numbers_0, r__law_numbers_1, t__law_numbers_1, r__law_numbers_2, t__law_numbers_2, r__law_numbers_3, t__law_numbers_3, r__law_numbers_4, t__law_numbers_4, hv, hlg, n2]
  rw [show rngD 0 n = (List.range n).map fun i : Nat => D.int (0 + (i : Int)) from rfl, g1]
  simp [t__law_numbers_5]
/-! ### the last of a list -/
theorem cut_last {A : Type} (l : List A) (a : A) : cutL (l ++ [a]) none (some (-1)) = l := by
  unfold cutL
  rw [HT.sIx_none, Nat.sub_zero, List.drop_zero]
  have h : HT.sIx (l ++ [a]).length (l ++ [a]).length (some (-1)) = l.length := by
    unfold HT.sIx
    simp
    omega
  rw [h, List.take_left' rfl]
theorem at_last {A : Type} (l : List A) (a : A) : L2.atI (l ++ [a]) (-1) = some a := by
  have h : L2.ixN (l ++ [a]).length (-1) = some l.length := by
    unfold L2.ixN
    rw [if_neg (by decide), if_pos (by simp; omega)]
    congr 1
    simp
    omega
  unfold L2.atI
  rw [h]
  simp
/-! ### records -/
def FILE : List Nat := [102, 105, 108, 101]
def LINKW : List Nat := [108, 105, 110, 107]
def HAS : List Nat := [104, 97, 115]
def LISTG : List Nat := [108, 105, 115, 116, 105, 110, 103]
def SETTG : List Nat := [115, 101, 116, 116, 105, 110, 103]
inductive Sn where
  | no | yn (b : Bool) | key (k : Nat)
def Sn.D : Sn → Dl.D
  | .no => .non
  | .yn b => .bl b
  | .key k => .int (k : Int)
def Sn.tx : Sn → List Nat
  | .no => [45]
  | .yn b => if b = true then [121, 101, 115] else [110, 111]
  | .key k => tsD (k : Int)
structure Nd where
  ps : List (List Nat)
  sn : Sn
def Nd.D (n : Nd) : Dl.D := .tup (n.ps.map .str ++ [n.sn.D])
def Nd.tx (n : Nd) : List Nat := TL.joinL [58] (n.ps ++ [n.sn.tx])
structure Rc where
  outs : List (List Nat)
  key : Nat
  needs : List Nd
  res : List Nat
def Rc.F (r : Rc) : List (Option Dl.D) := [some (.tup (r.outs.map .str)), some (.int (r.key : Int)), some (.tup (r.needs.map Nd.D)), some (.tup (r.res.map fun k : Nat => .int (k : Int)))]
def Rc.ntx (r : Rc) : List Nat := if r.needs = [] then [45] else TL.joinL [59] (r.needs.map Nd.tx)
def Rc.tx (r : Rc) : List Nat := TL.joinL [32] [TL.joinL [44] r.outs, tsD (r.key : Int), r.ntx, TL.joinL [44] (r.res.map fun k : Nat => tsD (k : Int))]
/-! what is right -/
def KeyOk (k : Nat) : Prop := 0 < k ∧ k < 2 ^ 1900
theorem KeyOk.log {k : Nat} (h : KeyOk k) : k.log2 < 1920 := (Nat.log2_lt (by have := h.1; omega)).mpr (Nat.lt_of_lt_of_le h.2 (Nat.pow_le_pow_right (by decide) (by decide)))
theorem KeyOk.len {k : Nat} (h : KeyOk k) : (TL.numL k).length ≤ 600 := TL.numL_len (by decide) (Nat.lt_of_lt_of_le h.2 (by decide +kernel))
/-- without the signs that part things -/
abbrev Sf (l : List Nat) : Prop := 32 ∉ l ∧ 44 ∉ l ∧ 58 ∉ l ∧ 59 ∉ l
theorem tsD_sf (k : Nat) : Sf (tsD (k : Int)) := by
  rw [tsD_num]
  exact ⟨TL.numL_free (by decide), TL.numL_free (by decide), TL.numL_free (by decide), TL.numL_free (by decide)⟩
structure Pt (p : List Nat) : Prop where
  ok : okp p = true
  len : p.length ≤ 100
theorem okN_all {cs v : List Nat} (h : okN cs v = true) : ∀ c ∈ v, c ∈ cs := by
  intro c hc
  unfold okN at h
  cases v with
  | nil => cases hc
  | cons a r =>
    simp at h
    have h2 := h.2
    rcases List.mem_cons.mp hc with rfl | hc
    · exact h2.1
    · exact h2.2 c hc
theorem pcs_free {cs z : List Nat} {x : Nat} (hx : x ≠ 47) (hn : x ∉ cs) (h : (pieces 47 [] z).all (okN cs) = true) : x ∉ z := fun hm => by
  obtain ⟨p, h1, h2⟩ := pieces_mem 47 x hx z [] (.inr hm)
  exact hn (okN_all (List.all_eq_true.mp h p h1) x h2)
theorem okp_sf {p : List Nat} (h : okp p = true) : Sf p := by
  unfold okp at h
  rw [Bool.and_eq_true] at h
  exact ⟨pcs_free (by decide) (by decide) h.2, pcs_free (by decide) (by decide) h.2, pcs_free (by decide) (by decide) h.2, pcs_free (by decide) (by decide) h.2⟩
theorem okp_ne {p : List Nat} (h : okp p = true) : p ≠ [] := fun e => by subst e; revert h; decide
theorem okpat_sf {p : List Nat} (h : okpat p = true) : Sf p := by
  unfold okpat at h
  rw [Bool.and_eq_true] at h
  exact ⟨pcs_free (by decide) (by decide) h.2, pcs_free (by decide) (by decide) h.2, pcs_free (by decide) (by decide) h.2, pcs_free (by decide) (by decide) h.2⟩
theorem ident_sf {n : List Nat} (h : identF n = true) : Sf n := by
  unfold identF at h
  rw [Bool.and_eq_true] at h
  have h2 := List.all_eq_true.mp h.2
  have key : ∀ x : Nat, x ∉ LET ++ DIG → x ∉ n := fun x hx hm => hx (of_decide_eq_true (h2 x hm))
  exact ⟨key _ (by decide), key _ (by decide), key _ (by decide), key _ (by decide)⟩
theorem ident_len {n : List Nat} (h : identF n = true) : n.length ≤ 12 := by
  unfold identF at h
  simp only [Bool.and_eq_true, decide_eq_true_eq] at h
  exact h.1.1.2
inductive SnK : Sn → Prop
  | no : SnK .no
  | key {k : Nat} : KeyOk k → SnK (.key k)
inductive NdOk : Nd → Prop
  | path {k p : List Nat} {s : Sn} : (k = FILE ∨ k = LINKW) → Pt p → SnK s → NdOk ⟨[k, p], s⟩
  | has {p : List Nat} (b : Bool) : Pt p → NdOk ⟨[HAS, p], .yn b⟩
  | lst {d q : List Nat} {k : Nat} : (d = [] ∨ Pt d) → okpat q = true → 47 ∉ q → q.length ≤ 100 → KeyOk k → NdOk ⟨[LISTG, d, q], .key k⟩
  | set {n : List Nat} {s : Sn} : identF n = true → SnK s → NdOk ⟨[SETTG, n], s⟩
structure RcOk (r : Rc) : Prop where
  o1 : r.outs ≠ []
  o3 : r.outs.length ≤ 3
  op : ∀ p ∈ r.outs, Pt p
  od : r.outs.Nodup
  key : KeyOk r.key
  nl : r.needs.length ≤ 60
  nd : ∀ n ∈ r.needs, NdOk n
  nq : (r.needs.map Nd.ps).Nodup
  rl : r.res.length = r.outs.length
  rk : ∀ k ∈ r.res, KeyOk k
theorem sn_tx {s : Sn} (h : SnK s ∨ ∃ b, s = .yn b) : Sf s.tx ∧ s.tx.length ≤ 600 ∧ s.tx ≠ [] := by
  rcases h with h | ⟨b, rfl⟩
  · cases h with
    | no => exact ⟨by decide, by decide, by decide⟩
    | key hk =>
      refine ⟨tsD_sf _, ?_, ?_⟩
      · show (tsD _).length ≤ _; rw [tsD_num]; exact hk.len
      · show tsD _ ≠ _; rw [tsD_num]; exact TL.numL_ne _
  · cases b <;> exact ⟨by decide, by decide, by decide⟩
/-- what is known of the parts of a need -/
theorem nd_parts {n : Nd} (h : NdOk n) : (∀ p ∈ n.ps ++ [n.sn.tx], Sf p ∧ p.length ≤ 600) ∧ (n.ps.length = 2 ∨ n.ps.length = 3) ∧ (SnK n.sn ∨ ∃ b, n.sn = .yn b) := by
  have fin : ∀ {ps : List (List Nat)} {s : Sn}, (∀ p ∈ ps, Sf p ∧ p.length ≤ 600) → (SnK s ∨ ∃ b, s = .yn b) → ∀ p ∈ ps ++ [s.tx], Sf p ∧ p.length ≤ 600 := fun {ps s} h1 h2 p hp => by
    rcases List.mem_append.mp hp with hp | hp
    · exact h1 p hp
    · rw [List.mem_singleton.mp hp]; exact ⟨(sn_tx h2).1, (sn_tx h2).2.1⟩
  cases h with
  | path hk hp hs =>
    refine ⟨fin (fun p h => ?_) (.inl hs), .inl rfl, .inl hs⟩
    simp only [List.mem_cons, List.not_mem_nil, or_false] at h
    rcases h with rfl | rfl
    · rcases hk with rfl | rfl <;> exact ⟨by decide, by decide⟩
    · exact ⟨okp_sf hp.ok, by have := hp.len; omega⟩
  | has b hp =>
    refine ⟨fin (fun p h => ?_) (.inr ⟨b, rfl⟩), .inl rfl, .inr ⟨b, rfl⟩⟩
    simp only [List.mem_cons, List.not_mem_nil, or_false] at h
    rcases h with rfl | rfl
    · exact ⟨by decide, by decide⟩
    · exact ⟨okp_sf hp.ok, by have := hp.len; omega⟩
  | lst hd hq h47 hl hk =>
    refine ⟨fin (fun p h => ?_) (.inl (.key hk)), .inr rfl, .inl (.key hk)⟩
    simp only [List.mem_cons, List.not_mem_nil, or_false] at h
    rcases h with rfl | rfl | rfl
    · exact ⟨by decide, by decide⟩
    · rcases hd with rfl | hd
      · exact ⟨by decide, by decide⟩
      · exact ⟨okp_sf hd.ok, by have := hd.len; omega⟩
    · exact ⟨okpat_sf hq, by omega⟩
  | set hn hs =>
    refine ⟨fin (fun p h => ?_) (.inl hs), .inl rfl, .inl hs⟩
    simp only [List.mem_cons, List.not_mem_nil, or_false] at h
    rcases h with rfl | rfl
    · exact ⟨by decide, by decide⟩
    · exact ⟨ident_sf hn, by have := ident_len hn; omega⟩
theorem join_mem (c x : Nat) (hx : x ≠ c) : ∀ L : List (List Nat), (∀ l ∈ L, x ∉ l) → x ∉ TL.joinL [c] L
  | [], _ => by simp [TL.joinL]
  | [l], h => by simpa [TL.joinL] using h l List.mem_cons_self
  | l :: m :: r, h => by
    have ih := join_mem c x hx (m :: r) fun y hy => h y (List.mem_cons_of_mem _ hy)
    have e : TL.joinL [c] (l :: m :: r) = l ++ c :: TL.joinL [c] (m :: r) := by
      conv => lhs; unfold TL.joinL
      simp
    rw [e]
    simp [h l List.mem_cons_self, ih, hx]
theorem nd_tx {n : Nd} (h : NdOk n) : 32 ∉ n.tx ∧ 59 ∉ n.tx ∧ n.tx.length ≤ 3000 ∧ n.tx ≠ [] ∧ n.tx ≠ [45] := by
  obtain ⟨h1, h2, h3⟩ := nd_parts h
  refine ⟨join_mem 58 32 (by decide) _ fun l hl => (h1 l hl).1.1, join_mem 58 59 (by decide) _ fun l hl => (h1 l hl).1.2.2.2, ?_, ?_, ?_⟩
  · have a := joinL_len 58 (n.ps ++ [n.sn.tx])
    have b := szL_le (n.ps ++ [n.sn.tx]) 600 fun l hl => (h1 l hl).2
    have c : (n.ps ++ [n.sn.tx]).length ≤ 4 := by rw [List.length_append, List.length_singleton]; omega
    show (TL.joinL [58] _).length ≤ _
    omega
  · intro e
    have : 58 ∈ n.tx := by
      unfold Nd.tx
      obtain ⟨ps, s⟩ := n
      rcases ps with _ | ⟨a, _ | ⟨b, r⟩⟩ <;> simp at h2 <;> simp [TL.joinL]
    rw [e] at this; cases this
  · intro e
    have : 58 ∈ n.tx := by
      unfold Nd.tx
      obtain ⟨ps, s⟩ := n
      rcases ps with _ | ⟨a, _ | ⟨b, r⟩⟩ <;> simp at h2 <;> simp [TL.joinL]
    rw [e] at this; revert this; decide
/-! ### writing records -/
theorem fseen_ok (s : Sn) (so : So) (h : SnK s ∨ ∃ b, s = .yn b) : m_format_seen [s.D] so = .ok (.dat (.str s.tx)) so := by
  rw [c_format_seen]
  rcases h with h | ⟨b, rfl⟩
  · cases h with
    | no => simp [b_format_seen, r_format_seen_0, t_format_seen_0, Sn.D, Sn.tx]
    | key hk =>
      have := hk.log
      simp [b_format_seen, r_format_seen_0, t_format_seen_0, r_format_seen_1, t_format_seen_1, r_format_seen_2, t_format_seen_2, t_format_seen_3, Sn.D, Sn.tx, this]
  · cases b <;> simp [b_format_seen, r_format_seen_0, t_format_seen_0, r_format_seen_1, t_format_seen_1, r_format_seen_2, t_format_seen_2, Sn.D, Sn.tx]
theorem fneed_ok (n : Nd) (so : So) (h : NdOk n) : m_format_need [n.D] so = .ok (.dat (.str n.tx)) so := by
  obtain ⟨h1, h2, h3⟩ := nd_parts h
  have f := fun so => fseen_ok n.sn so h3
  have e1 : (n.ps.map D.str) ++ [D.str n.sn.tx] = (n.ps ++ [n.sn.tx]).map D.str := by simp
  have l1 : (n.ps ++ [n.sn.tx]).length ≤ 4 := by rw [List.length_append, List.length_singleton]; omega
  have hj := join_map [58] (n.ps ++ [n.sn.tx])
  have b := szL_le (n.ps ++ [n.sn.tx]) 600 fun l hl => (h1 l hl).2
  have g : szL (n.ps ++ [n.sn.tx]) + (n.ps ++ [n.sn.tx]).length * ([58] : List Nat).length ≤ 16777216 := by
    rw [List.length_singleton]; omega
  have l2 : n.ps.length ≤ 16777215 := by omega
  rw [c_format_need]
  simp [b_format_need, Nd.D, cut_last, at_last, f, l2]
  rw [e1, hj, gd_t g]
  rfl
/-- where a record stands -/
structure RcAt (so : So) (k : Nat) (r : Rc) : Prop where
  at_ : so[k]? = some (.ob 24 r.F)
theorem RcAt.app {so : So} {k : Nat} {r : Rc} (h : RcAt so k r) (l : So) : RcAt (so ++ l) k r := ⟨by
  rw [List.getElem?_append_left (List.getElem?_eq_some_iff.mp h.at_).1]; exact h.at_⟩
theorem join_szs {L : List (List Nat)} {k n : Nat} (h : ∀ l ∈ L, l.length ≤ k) (hl : L.length ≤ n) : szL L ≤ k * n := Nat.le_trans (szL_le L k h) (Nat.mul_le_mul_left _ hl)
theorem res_len {r : Rc} (h : RcOk r) : ∀ l ∈ r.res.map (fun k : Nat => tsD (k : Int)), l.length ≤ 600 := fun l hl => by
  obtain ⟨k, hk, rfl⟩ := List.mem_map.mp hl
  rw [tsD_num]
  exact (h.rk k hk).len
theorem needs_len {r : Rc} (h : RcOk r) : ∀ l ∈ r.needs.map Nd.tx, l.length ≤ 3000 := fun l hl => by
  obtain ⟨k, hk, rfl⟩ := List.mem_map.mp hl
  exact (nd_tx (h.nd k hk)).2.2.1
theorem join_len {c : Nat} {L : List (List Nat)} {k n : Nat} (h : ∀ l ∈ L, l.length ≤ k) (hl : L.length ≤ n) : (TL.joinL [c] L).length ≤ k * n + n := by
  have a := joinL_len c L
  have b := join_szs h hl
  omega
theorem ntx_len {r : Rc} (h : RcOk r) : r.ntx.length ≤ 190000 := by
  unfold Rc.ntx
  split
  · decide
  · have := join_len (c := 59) (needs_len h) (show (r.needs.map Nd.tx).length ≤ 60 by rw [List.length_map]; exact h.nl)
    omega
/-- the four words -/
def Rc.ws (r : Rc) : List (List Nat) := [TL.joinL [44] r.outs, tsD (r.key : Int), r.ntx, TL.joinL [44] (r.res.map fun k : Nat => tsD (k : Int))]
theorem ws_len {r : Rc} (h : RcOk r) : ∀ l ∈ r.ws, l.length ≤ 190000 := fun l hl => by
  simp only [Rc.ws, List.mem_cons, List.not_mem_nil, or_false] at hl
  rcases hl with rfl | rfl | rfl | rfl
  · have := join_len (c := 44) (fun l hl => (h.op l hl).len) h.o3; omega
  · rw [tsD_num]; have := h.key.len; omega
  · exact ntx_len h
  · have := join_len (c := 44) (res_len h) (show (r.res.map fun k : Nat => tsD (k : Int)).length ≤ 3 by rw [List.length_map, h.rl]; exact h.o3); omega
theorem tx_len {r : Rc} (h : RcOk r) : r.tx.length ≤ 800000 := by
  have := join_len (c := 32) (ws_len h) (show r.ws.length ≤ 4 from Nat.le_refl 4)
  show (TL.joinL [32] r.ws).length ≤ _
  omega
theorem frec_ok {so : So} {k : Nat} {r : Rc} (hr : RcAt so k r) (h : RcOk r) : m_format_record [.obj k] so = .ok (.dat (.str r.tx)) so := by
  have ho := hr.at_
  have hlc1 : lcGo [3] (tgN 3) (pu true) e_format_record_0 (r.needs.map Nd.D) [] [some (.dat (.obj k)), none, none, none, none] so = .ok (r.needs.map fun n => .str n.tx) [some (.dat (.obj k)), none, none, none, none] so := by
    refine lcGo_mp Nd.D (fun n => .str n.tx) r.needs (fun n hn => ⟨_, rfl, ?_, rfl⟩) (by have := h.nl; omega)
    simp [e_format_record_0, fneed_ok n so (h.nd n hn)]
  have hlc2 : ∀ x1, lcGo [4] (tgN 4) (pu true) e_format_record_1 (r.res.map fun k : Nat => .int (k : Int)) [] [some (.dat (.obj k)), x1, none, none, none] so = .ok (r.res.map fun k : Nat => .str (tsD (k : Int))) [some (.dat (.obj k)), x1, none, none, none] so := fun x1 => by
    refine lcGo_mp (fun k : Nat => D.int (k : Int)) (fun k : Nat => .str (tsD (k : Int))) r.res (fun z hz => ⟨_, rfl, ?_, rfl⟩) (by have := h.rl; have := h.o3; omega)
    simp [e_format_record_1, (h.rk z hz).log]
  have j1 := join_map [59] (r.needs.map Nd.tx)
  rw [List.map_map] at j1
  have j1 : joinD [59] (.lst (r.needs.map fun n => D.str n.tx)) = _ := j1
  have j2 := join_map [44] (r.res.map fun k : Nat => tsD (k : Int))
  rw [List.map_map] at j2
  have j2 : joinD [44] (.lst (r.res.map fun k : Nat => D.str (tsD (k : Int)))) = _ := j2
  have j3 : ∀ en so, joinD [44] (.tup (r.outs.map .str)) en so = .ok (.str (TL.joinL [44] r.outs)) en so := fun en so => by
    show (match strsOf (r.outs.map D.str) with | some ys => gd (szL ys + ys.length * ([44] : List Nat).length ≤ 16777216) (pu (D.str (TL.joinL [44] ys))) | none => no) en so = _
    rw [strsOf_str]
    refine gd_t ?_ _
    have := join_szs (fun l hl => (h.op l hl).len) h.o3
    have := h.o3
    rw [List.length_singleton]; omega
  have j4 := join_map [32] r.ws
  have g1 : szL (r.needs.map Nd.tx) + (r.needs.map Nd.tx).length * ([59] : List Nat).length ≤ 16777216 := by
    have := join_szs (needs_len h) (show (r.needs.map Nd.tx).length ≤ 60 by rw [List.length_map]; exact h.nl)
    have := h.nl
    rw [List.length_singleton, List.length_map]; omega
  have g2 : szL (r.res.map fun k : Nat => tsD (k : Int)) + (r.res.map fun k : Nat => tsD (k : Int)).length * ([44] : List Nat).length ≤ 16777216 := by
    have := join_szs (res_len h) (show (r.res.map fun k : Nat => tsD (k : Int)).length ≤ 3 by rw [List.length_map, h.rl]; exact h.o3)
    have := h.rl
    have := h.o3
    rw [List.length_singleton, List.length_map]; omega
  have g4 : szL r.ws + r.ws.length * ([32] : List Nat).length ≤ 16777216 := by
    have := join_szs (ws_len h) (show r.ws.length ≤ 4 from Nat.le_refl 4)
    have : r.ws.length = 4 := rfl
    rw [List.length_singleton]; omega
  have e0 : r.F = [some (.tup (r.outs.map .str)), some (.int (r.key : Int)), some (.tup (r.needs.map Nd.D)), some (.tup (r.res.map fun k : Nat => .int (k : Int)))] := rfl
  rw [e0] at ho
  have hlog := h.key.log
  have ne : TL.joinL [59] (r.needs.map Nd.tx) = [] ↔ r.needs = [] := by
    constructor
    · intro e
      by_cases hn : r.needs = []
      · exact hn
      · refine absurd e (joinL_ne 59 _ (by simpa using hn) fun l hl => ?_)
        obtain ⟨n, hn, rfl⟩ := List.mem_map.mp hl
        exact (nd_tx (h.nd n hn)).2.2.2.1
    · intro e; rw [e]; rfl
  have tail : ∀ nt : List Nat, nt = r.ntx → r_format_record_2 [some (.dat (.obj k)), some (.dat (.str nt)), none, none, none] so = .ok (.rt (.dat (.str r.tx))) [some (.dat (.obj k)), some (.dat (.str nt)), some (.dat (.str (TL.joinL [44] (r.res.map fun k : Nat => tsD (k : Int))))), none, none] so := fun nt hn => by
    subst hn
    simp [r_format_record_2, t_format_record_2, ho]
    rw [hlc2]
    simp [j2]
    rw [gd_t (by simpa using g2)]
    simp [t_format_record_3, ho, j3, hlog]
    rw [show ([D.str (TL.joinL [44] r.outs), .str (tsD (r.key : Int)), .str r.ntx, .str (TL.joinL [44] (r.res.map fun k : Nat => tsD (k : Int)))] : List D) = r.ws.map D.str from rfl, j4, gd_t g4]
    rfl
  rw [c_format_record]
  simp [b_format_record, r_format_record_0, t_format_record_0, ho]
  rw [hlc1]
  simp [j1]
  rw [gd_t (by simpa using g1)]
  by_cases hn : r.needs = []
  · have e := ne.mpr hn
    simp [r_format_record_1, t_format_record_1, e]
    rw [tail [45] (by unfold Rc.ntx; rw [if_pos hn])]
    simp
  · have e : ¬ TL.joinL [59] (r.needs.map Nd.tx) = [] := fun z => hn (ne.mp z)
    simp [r_format_record_1, t_format_record_1, e]
    rw [tail _ (by unfold Rc.ntx; rw [if_neg hn])]
    simp
/-! ### reading records -/
def D10 : List Nat := [48, 49, 50, 51, 52, 53, 54, 55, 56, 57]
def numF (w : List Nat) : Bool := !(decide (w = []) || decide (4000 < w.length) || decide (w.head? = some 48)) && w.all fun c => decide (c ∈ D10)
theorem number_ok (w : List Nat) (so : So) (h : w.length ≤ 16777216) : m_is_number [.str w] so = .ok (.dat (.bl (numF w))) so := by
  rw [c_is_number]
  cases w with
  | nil => simp [b_is_number, numF]
  | cons c r =>
    have h' : r.length ≤ 16777215 := by simpa using h
    have hd : (fun c => decide (c ∈ ([48, 49, 50, 51, 52, 53, 54, 55, 56, 57] : List Nat))) = fun c => decide (c ∈ D10) := rfl
    by_cases h2 : (4000 : Int) < (r.length : Int) + 1
    · have h3 : 4000 < r.length + 1 := by omega
      simp [b_is_number, h', h2, numF, h3]
    · have h3 : ¬ 4000 < r.length + 1 := by omega
      by_cases h4 : c = 48
      · simp [b_is_number, h', h2, numF, h3, h4]
      · simp [b_is_number, h', h2, numF, h3, h4, D10]
theorem numF_ts {k : Nat} (h : KeyOk k) : numF (tsD (k : Int)) = true := by
  rw [tsD_num]
  obtain ⟨c, r, e, hc⟩ := numL_head k k (Nat.le_refl _) h.1
  have hd := TL.numL_digits k
  have hl := h.len
  have ha : (TL.numL k).all (fun c => decide (c ∈ D10)) = true := by
    rw [List.all_eq_true]
    intro x hx
    have := hd x hx
    have : x = 48 ∨ x = 49 ∨ x = 50 ∨ x = 51 ∨ x = 52 ∨ x = 53 ∨ x = 54 ∨ x = 55 ∨ x = 56 ∨ x = 57 := by omega
    simpa [D10] using this
  unfold numF
  rw [ha, Bool.and_true]
  have h1 : ¬ TL.numL k = [] := TL.numL_ne k
  have h2 : ¬ 4000 < (TL.numL k).length := by omega
  have h3 : ¬ (TL.numL k).head? = some 48 := by rw [e]; simpa using hc
  simp [h1, h2, h3]
theorem pkey_ok {k : Nat} (ln : D) (so : So) (h : KeyOk k) : m_parse_key [.str (tsD (k : Int)), ln] so = .ok (.dat (.int (k : Int))) so := by
  have hl : (tsD (k : Int)).length ≤ 16777216 := by rw [tsD_num]; have := h.len; omega
  have n := number_ok (tsD (k : Int)) so hl
  rw [numF_ts h] at n
  have i := intX_ts (n := k) (by have := h.len; omega)
  rw [c_parse_key]
  simp [b_parse_key, n, i]
theorem pseen_ok {s : Sn} {kd : List Nat} (ln : D) (so : So) (h : (SnK s ∧ kd ≠ HAS ∧ (s = .no → kd ≠ LISTG)) ∨ (∃ b, s = .yn b) ∧ kd = HAS) : m_parse_seen [.str s.tx, .str kd, ln] so = .ok (.dat s.D) so := by
  rw [c_parse_seen]
  rcases h with ⟨hs, hk, hl⟩ | ⟨⟨b, rfl⟩, rfl⟩
  · have hk : ¬ kd = [104, 97, 115] := hk
    cases hs with
    | no =>
      have hl : ¬ kd = [108, 105, 115, 116, 105, 110, 103] := hl rfl
      simp [b_parse_seen, hk, Sn.tx, Sn.D, hl]
    | @key k hk2 =>
      have n : ¬ tsD (k : Int) = [45] := by
        rw [tsD_num]
        intro e
        have := TL.numL_digits k 45 (by rw [e]; exact List.mem_cons_self)
        omega
      have p := pkey_ok ln so hk2
      simp [b_parse_seen, hk, Sn.tx, Sn.D, n, p]
  · cases b <;> simp [b_parse_seen, Sn.tx, Sn.D, HAS]
theorem ident_ok' (n : List Nat) (so : So) (h : identF n = true) : m_is_identifier [.str n] so = .ok (.dat (.bl true)) so := by
  rw [ident_ok n (by have := ident_len h; omega), h]
theorem psub_ok {n : Nd} (so : So) (h : NdOk n) : m_is_subject [.lst (n.ps.map .str)] so = .ok (.dat (.bl true)) so := by
  rw [c_is_subject]
  cases h with
  | @path k p s hk hp hs =>
    have e := path_ok p so (by have := hp.len; omega)
    rw [hp.ok] at e
    rcases hk with rfl | rfl <;>
    simp [b_is_subject, r_is_subject_0, t_is_subject_0, r_is_subject_1, t_is_subject_1, r_is_subject_2, t_is_subject_2, t_is_subject_3, FILE, LINKW, e]
  | @has p b hp =>
    have e := path_ok p so (by have := hp.len; omega)
    rw [hp.ok] at e
    simp [b_is_subject, r_is_subject_0, t_is_subject_0, r_is_subject_1, t_is_subject_1, r_is_subject_2, t_is_subject_2, t_is_subject_3, HAS, e]
  | @lst d q k hd hq h47 hl hk =>
    have e2 := pattern_ok q so (by omega)
    rw [hq] at e2
    have h47' : (q.length ≤ 16777216) := by omega
    rcases hd with rfl | hd
    · simp [b_is_subject, r_is_subject_0, t_is_subject_0, LISTG, e2, h47]
    · have e := path_ok d so (by have := hd.len; omega)
      rw [hd.ok] at e
      have ne : ¬ d = [] := okp_ne hd.ok
      simp [b_is_subject, r_is_subject_0, t_is_subject_0, LISTG, e2, e, h47, ne]
  | @set n s hn hs =>
    have e := ident_ok' n so hn
    simp [b_is_subject, r_is_subject_0, t_is_subject_0, r_is_subject_1, t_is_subject_1, r_is_subject_2, t_is_subject_2, SETTG, e]
theorem pneed_ok {n : Nd} (ln : D) (so : So) (h : NdOk n) : m_parse_need [.str n.tx, ln] so = .ok (.dat n.D) so := by
  obtain ⟨h1, h2, h3⟩ := nd_parts h
  have hsub := fun so => psub_ok so h
  have hp : pieces 58 [] n.tx = n.ps ++ [n.sn.tx] := pieces_join 58 _ (by simp) fun l hl => (h1 l hl).1.2.2.1
  have hl := (nd_tx h).2.2.1
  have g : n.tx.length ≤ 16777214 := by omega
  have hk : ∃ k r, n.ps = k :: r ∧ ((SnK n.sn ∧ k ≠ HAS ∧ (n.sn = .no → k ≠ LISTG)) ∨ (∃ b, n.sn = .yn b) ∧ k = HAS) := by
    cases h with
    | @path k p s hk hp hs => exact ⟨k, _, rfl, .inl ⟨hs, by rcases hk with rfl | rfl <;> decide, fun _ => by rcases hk with rfl | rfl <;> decide⟩⟩
    | has b hp => exact ⟨_, _, rfl, .inr ⟨⟨b, rfl⟩, rfl⟩⟩
    | lst _ _ _ _ hk => exact ⟨_, _, rfl, .inl ⟨.key hk, by decide, fun e => by cases e⟩⟩
    | set _ hs => exact ⟨_, _, rfl, .inl ⟨hs, by decide, fun _ => by decide⟩⟩
  obtain ⟨k, r, er, hq⟩ := hk
  have ps := pseen_ok ln so hq
  have a0 : L2.atI ((n.ps.map D.str) ++ [D.str n.sn.tx]) 0 = some (.str k) := by rw [er]; simp
  have l4 : n.ps.length + 1 ≤ 16777216 := by omega
  rw [c_parse_need]
  simp [b_parse_need, r_parse_need_0, t_parse_need_0, hp, g, r_parse_need_1, t_parse_need_1, cut_last, hsub, r_parse_need_2, t_parse_need_2, at_last, a0, ps, t_parse_need_3, l4, Nd.D]
theorem quest_ok (n : Nd) (so : So) : m_question [n.D] so = .ok (.dat (.tup (n.ps.map .str))) so := by
  rw [c_question]
  simp [b_question, Nd.D, cut_last]
theorem eqDs_str : ∀ (a b : List (List Nat)), eqDs (a.map D.str) (b.map D.str) = decide (a = b)
  | [], [] => by simp
  | [], b :: r => by simp [eqDs]
  | a :: r, [] => by simp [eqDs]
  | a :: r, b :: t => by
    rw [List.map_cons, List.map_cons, eqDs_cons, eqD_ss, eqDs_str r t, ← Bool.decide_and]
    exact decide_eq_decide.mpr ⟨fun h => by rw [h.1, h.2], fun h => by injection h with h1 h2; exact ⟨h1, h2⟩⟩
theorem qs_any (q : List (List Nat)) (Q : List (List (List Nat))) : ((Q.map fun z => D.tup (z.map .str)).any fun z => eqD z (.tup (q.map .str))) = decide (q ∈ Q) := by
  induction Q with
  | nil => simp
  | cons z Q ih =>
    rw [List.map_cons, List.any_cons, ih, eqD_tt, eqDs_str, ← Bool.decide_or]
    refine decide_eq_decide.mpr ⟨fun h => ?_, fun h => ?_⟩
    · rcases h with rfl | h
      · exact List.mem_cons_self
      · exact List.mem_cons_of_mem _ h
    · rcases List.mem_cons.mp h with rfl | h
      · exact .inl rfl
      · exact .inr h
theorem okq_qs (n : Nat) (Q : List (List (List Nat))) : (Q.map fun z => D.tup (z.map .str)).all (okq (n + 1)) = true := by
  rw [List.all_map, List.all_eq_true]
  intro z _
  show okq (n + 1) (.tup (z.map .str)) = true
  rw [okq_tup]
  exact okq_strs n z
theorem pneeds_body {ns : List Nd} {n : Nd} (ln : D) (so : So) (h : NdOk n) (hq : n.ps ∉ ns.map Nd.ps) (hl : ns.length < 60) (x0 x4 x5 : Option B) (h4 : x4 = some (.dat (.str n.tx))) :
    l_parse_needs_0 [x0, some (.dat ln), some (.cel (.lst (ns.map Nd.D))), some (.cel (.lst (ns.map fun m => .tup (m.ps.map .str)))), x4, x5] so = .ok .nx [x0, some (.dat ln), some (.cel (.lst ((ns ++ [n]).map Nd.D))), some (.cel (.lst ((ns ++ [n]).map fun m => .tup (m.ps.map .str)))), x4, some (.dat n.D)] so := by
  subst h4
  have p := pneed_ok ln so h
  have q := quest_ok n so
  have e1 : (ns.map fun m => D.tup (m.ps.map .str)) = (ns.map Nd.ps).map fun z => D.tup (z.map .str) := by rw [List.map_map]; rfl
  have a1 := qs_any n.ps (ns.map Nd.ps)
  rw [← e1, decide_eq_false hq] at a1
  have o1 := okq_qs 22 (ns.map Nd.ps)
  rw [← e1] at o1
  have o2 := okq_strs 22 n.ps
  have h60 : ¬ ((ns.length : Nat) : Int) = 60 := by omega
  have ap1 := fun d : D => apF_ (xs := ns.map fun m => D.tup (m.ps.map .str)) (by rw [List.length_map]; omega) d
  have ap2 := fun d : D => apF_ (xs := ns.map Nd.D) (by rw [List.length_map]; omega) d
  have hq' : ¬ ∃ x, x ∈ ns ∧ eqDs (x.ps.map D.str) (n.ps.map D.str) = true := fun ⟨x, hx, e⟩ => by
    rw [eqDs_str] at e
    exact hq (List.mem_map.mpr ⟨x, hx, of_decide_eq_true e⟩)
  have o2' : okq 23 (.tup (n.ps.map .str)) = true := o2
  simp only [l_parse_needs_0]
  simp [p, q, h60, ap1, ap2]
  rw [if_neg hq']
  simp [q, h60, ap1, ap2]
theorem pneeds_ok {r : Rc} (ln : D) (so : So) (h : RcOk r) : m_parse_needs [.str r.ntx, ln] so = .ok (.dat (.tup (r.needs.map Nd.D))) so := by
  rw [c_parse_needs]
  unfold Rc.ntx
  by_cases hn : r.needs = []
  · rw [if_pos hn]
    simp [b_parse_needs, r_parse_needs_0, t_parse_needs_0, hn]
  · rw [if_neg hn]
    have ne : r.needs.map Nd.tx ≠ [] := by simpa using hn
    have hp : pieces 59 [] (TL.joinL [59] (r.needs.map Nd.tx)) = r.needs.map Nd.tx := pieces_join 59 _ ne fun l hl => by
      obtain ⟨n, hn, rfl⟩ := List.mem_map.mp hl
      exact (nd_tx (h.nd n hn)).2.1
    have n45 : ¬ TL.joinL [59] (r.needs.map Nd.tx) = [45] := fun e => by
      rw [e] at hp
      have hp : [[45]] = r.needs.map Nd.tx := by rw [← hp]; rfl
      have : [45] ∈ r.needs.map Nd.tx := by rw [← hp]; exact List.mem_cons_self
      obtain ⟨n, hn, e⟩ := List.mem_map.mp this
      exact (nd_tx (h.nd n hn)).2.2.2.2 e
    have hl := join_len (c := 59) (needs_len h) (show (r.needs.map Nd.tx).length ≤ 60 by rw [List.length_map]; exact h.nl)
    have g : (TL.joinL [59] (r.needs.map Nd.tx)).length ≤ 16777214 := by omega
    obtain ⟨en', so', g1, x4, x5, g2, g3⟩ := forGo_at (tg := tgN 4) (body := l_parse_needs_0) (fun n : Nd => D.str n.tx) (fun done en so' => ∃ x4 x5 : Option B, en = [some (.dat (.str (TL.joinL [59] (r.needs.map Nd.tx)))), some (.dat ln), some (.cel (.lst (done.map Nd.D))), some (.cel (.lst (done.map fun m => .tup (m.ps.map .str)))), x4, x5] ∧ so' = so) r.needs r.needs [] [some (.dat (.str (TL.joinL [59] (r.needs.map Nd.tx)))), some (.dat ln), some (.cel (.lst [])), some (.cel (.lst [])), none, none] so rfl ⟨none, none, rfl, rfl⟩
      (fun done n rest en so1 hd ⟨x4, x5, he, hs⟩ => by
        subst he hs
        have hm : n ∈ r.needs := by rw [← hd]; simp
        have hnd := h.nq
        rw [← hd, List.map_append, List.map_cons] at hnd
        have hnew : n.ps ∉ done.map Nd.ps := fun hz => (List.nodup_append.mp hnd).2.2 _ hz _ List.mem_cons_self rfl
        have hdl : done.length < 60 := by
          have := congrArg List.length hd
          have := h.nl
          rw [List.length_append, List.length_cons] at *
          omega
        exact ⟨_, rfl, _, _, .inl (pneeds_body ln so1 (h.nd n hm) hnew hdl _ _ x5 rfl), some (.dat (.str n.tx)), some (.dat n.D), rfl, rfl⟩)
    subst g2 g3
    have nl := h.nl
    have nl' : r.needs.length ≤ 16777216 := by omega
    rw [show (r.needs.map fun n => D.str n.tx) = (r.needs.map Nd.tx).map D.str by rw [List.map_map]; rfl] at g1
    simp [b_parse_needs, r_parse_needs_0, t_parse_needs_0, n45, r_parse_needs_1, t_parse_needs_1, r_parse_needs_2, t_parse_needs_2, r_parse_needs_3, t_parse_needs_3, hp, g] at g1 ⊢
    rw [g1]
    simp [t_parse_needs_4]
/-! ### whole records -/
theorem strs_any (p : List Nat) (L : List (List Nat)) : (L.map D.str).any (fun z => eqD z (.str p)) = decide (p ∈ L) := by
  induction L with
  | nil => simp
  | cons z L ih =>
    rw [List.map_cons, List.any_cons, ih, eqD_ss, ← Bool.decide_or]
    refine decide_eq_decide.mpr ⟨fun h => ?_, fun h => ?_⟩
    · rcases h with rfl | h
      · exact List.mem_cons_self
      · exact List.mem_cons_of_mem _ h
    · rcases List.mem_cons.mp h with rfl | h
      · exact .inl rfl
      · exact .inr h
theorem pouts_ok {r : Rc} (ln : D) (so : So) (h : RcOk r) : m_parse_outputs [.str (TL.joinL [44] r.outs), ln] so = .ok (.dat (.tup (r.outs.map .str))) so := by
  have hp : pieces 44 [] (TL.joinL [44] r.outs) = r.outs := pieces_join 44 _ h.o1 fun l hl => (okp_sf (h.op l hl).ok).2.1
  have hl := join_len (c := 44) (fun l hl => (h.op l hl).len) h.o3
  have g : (TL.joinL [44] r.outs).length ≤ 16777214 := by omega
  have h3 : ¬ (3 : Int) < (r.outs.length : Int) := by have := h.o3; omega
  obtain ⟨en', so', g1, x3, x4, g2, g3⟩ := forGo_at (tg := tgP 3 4) (body := l_parse_outputs_0) (fun x : Nat × List Nat => D.tup [.int (x.1 : Int), .str x.2]) (fun done en so' => ∃ x3 x4 : Option B, en = [some (.dat (.str (TL.joinL [44] r.outs))), some (.dat ln), some (.dat (.lst (r.outs.map .str))), x3, x4] ∧ so' = so) ((List.range r.outs.length).zip r.outs) ((List.range r.outs.length).zip r.outs) [] [some (.dat (.str (TL.joinL [44] r.outs))), some (.dat ln), some (.dat (.lst (r.outs.map .str))), none, none] so rfl ⟨none, none, rfl, rfl⟩
    (fun done x rest en so1 hd ⟨x3, x4, he, hs⟩ => by
      subst he hs
      have hx : ((List.range r.outs.length).zip r.outs)[done.length]? = some x := by rw [← hd]; simp
      rw [List.getElem?_zip_eq_some] at hx
      obtain ⟨hx1, hx2⟩ := hx
      have hlt : done.length < r.outs.length := (List.getElem?_eq_some_iff.mp hx2).1
      rw [List.getElem?_range hlt] at hx1
      have ei : x.1 = done.length := (Option.some.inj hx1).symm
      have hm : x.2 ∈ r.outs := List.mem_of_getElem? hx2
      have hpt := h.op x.2 hm
      have e := path_ok x.2 so1 (by have := hpt.len; omega)
      rw [hpt.ok] at e
      have hc : cutL (r.outs.map D.str) none (some (x.1 : Int)) = (r.outs.take x.1).map D.str := by rw [cut_take, List.map_take]
      have hn : x.2 ∉ r.outs.take x.1 := fun hz => by
        rw [ei] at hz
        have hs : r.outs.take done.length ++ x.2 :: r.outs.drop (done.length + 1) = r.outs := by
          have e2 := (List.getElem?_eq_some_iff.mp hx2).2
          rw [← e2, ← List.drop_eq_getElem_cons hlt, List.take_append_drop]
        have hnd := h.od
        rw [← hs] at hnd
        exact (List.nodup_append.mp hnd).2.2 _ hz _ List.mem_cons_self rfl
      have a := strs_any x.2 (r.outs.take x.1)
      rw [decide_eq_false hn] at a
      have o := okq_strs 23 (r.outs.take x.1)
      refine ⟨_, rfl, _, _, .inl ?_, some (.dat (.int (x.1 : Int))), some (.dat (.str x.2)), rfl, rfl⟩
      simp only [l_parse_outputs_0]
      simp [e, hc, -List.map_take]
      exact hn)
  subst g2 g3
  have en : enumD 0 (r.outs.map D.str) = ((List.range r.outs.length).zip r.outs).map fun x : Nat × List Nat => D.tup [.int (x.1 : Int), .str x.2] := by
    apply List.ext_getElem?
    intro i
    rw [enumD_at, List.getElem?_map, List.getElem?_map]
    by_cases hi : i < r.outs.length
    · have hz : ((List.range r.outs.length).zip r.outs)[i]? = some (i, r.outs[i]) := by
        rw [List.getElem?_zip_eq_some]
        exact ⟨List.getElem?_range hi, List.getElem?_eq_getElem hi⟩
      rw [hz, List.getElem?_eq_getElem hi]
      simp
    · rw [List.getElem?_eq_none (by omega), List.getElem?_eq_none (by simp; omega)]
      rfl
  rw [← en] at g1
  rw [c_parse_outputs]
  simp [b_parse_outputs, r_parse_outputs_0, t_parse_outputs_0, hp, g, r_parse_outputs_1, t_parse_outputs_1, h3, r_parse_outputs_2, t_parse_outputs_2]
  rw [g1]
  simp [t_parse_outputs_3]
theorem tx_pcs {r : Rc} (h : RcOk r) : pieces 32 [] r.tx = r.ws := pieces_join 32 _ (by simp) fun l hl => by
  simp only [List.mem_cons, List.not_mem_nil, or_false] at hl
  rcases hl with rfl | rfl | rfl | rfl
  · exact join_mem 44 32 (by decide) _ fun l hl => (okp_sf (h.op l hl).ok).1
  · exact (tsD_sf _).1
  · unfold Rc.ntx
    split
    · decide
    · refine join_mem 59 32 (by decide) _ fun l hl => ?_
      obtain ⟨n, hn, rfl⟩ := List.mem_map.mp hl
      exact (nd_tx (h.nd n hn)).1
  · refine join_mem 44 32 (by decide) _ fun l hl => ?_
    obtain ⟨k, hk, rfl⟩ := List.mem_map.mp hl
    exact (tsD_sf k).1
theorem prec_ok {r : Rc} (so : So) (h : RcOk r) : m_parse_record [.str r.tx] so = .ok (.dat (.obj so.length)) (so ++ [.ob 24 r.F]) := by
  have hp := tx_pcs h
  have g : r.tx.length ≤ 16777214 := by have := tx_len h; omega
  have o := pouts_ok (.str r.tx) so h
  have k := pkey_ok (.str r.tx) so h.key
  have n := pneeds_ok (.str r.tx) so h
  have rne : r.res.map (fun k : Nat => tsD (k : Int)) ≠ [] := fun e => by
    have := congrArg List.length e
    rw [List.length_map, h.rl] at this
    exact h.o1 (List.eq_nil_of_length_eq_zero this)
  have hr : pieces 44 [] (TL.joinL [44] (r.res.map fun k : Nat => tsD (k : Int))) = r.res.map fun k : Nat => tsD (k : Int) := pieces_join 44 _ rne fun l hl => by
    obtain ⟨k, hk, rfl⟩ := List.mem_map.mp hl
    exact (tsD_sf k).2.1
  have gr : (TL.joinL [44] (r.res.map fun k : Nat => tsD (k : Int))).length ≤ 16777214 := by
    have := join_len (c := 44) (res_len h) (show (r.res.map fun k : Nat => tsD (k : Int)).length ≤ 3 by rw [List.length_map, h.rl]; exact h.o3)
    omega
  have hws : r.ws.map D.str = [.str (TL.joinL [44] r.outs), .str (tsD (r.key : Int)), .str r.ntx, .str (TL.joinL [44] (r.res.map fun k : Nat => tsD (k : Int)))] := rfl
  have hlc : ∀ x1 x2 x3 x4, lcGo [6] (tgN 6) (pu true) e_parse_record_0 (r.res.map fun k : Nat => .str (tsD (k : Int))) [] [some (.dat (.str r.tx)), x1, x2, x3, x4, none, none] so = .ok (r.res.map fun k : Nat => .int (k : Int)) [some (.dat (.str r.tx)), x1, x2, x3, x4, none, none] so := fun x1 x2 x3 x4 => by
    refine lcGo_mp (fun k : Nat => D.str (tsD (k : Int))) (fun k : Nat => .int (k : Int)) r.res (fun z hz => ⟨_, rfl, ?_, rfl⟩) (by have := h.rl; have := h.o3; omega)
    simp [e_parse_record_0, pkey_ok (.str r.tx) so (h.rk z hz)]
  have e0 : (r.res.map fun k : Nat => tsD (k : Int)).map D.str = r.res.map fun k : Nat => .str (tsD (k : Int)) := by rw [List.map_map]; rfl
  have rl : (r.res.length : Int) = (r.outs.length : Int) := by rw [h.rl]
  rw [c_parse_record]
  simp only [b_parse_record, r_parse_record_0, t_parse_record_0]
  simp [hp, g, hws, r_parse_record_1, t_parse_record_1, r_parse_record_2, t_parse_record_2, o, r_parse_record_3, t_parse_record_3, k, r_parse_record_4, t_parse_record_4, n, r_parse_record_5, t_parse_record_5, hr, gr]
  rw [show (r.res.map (D.str ∘ fun k : Nat => tsD (k : Int))) = r.res.map fun k : Nat => .str (tsD (k : Int)) from rfl, hlc]
  simp [r_parse_record_6, t_parse_record_6, rl, t_parse_record_7, c_Record___init__, b_Record___init__, r_Record___init___0, t_Record___init___0, r_Record___init___1, t_Record___init___1, r_Record___init___2, t_Record___init___2, t_Record___init___3, List.set_append, List.getElem?_append_right, Rc.F]
/-! ### equal records -/
theorem eqD_refl : ∀ (n : Nat) (d : D), okq n d = true → eqD d d = true := by
  intro n
  induction n with
  | zero => intro d h; cases d <;> first | (simp [eqD]; done) | cases h
  | succ n ih =>
    have key : ∀ xs : List D, xs.all (okq n) = true → eqDs xs xs = true := by
      intro xs
      induction xs with
      | nil => intro _; simp
      | cons x xs ih2 =>
        intro h
        rw [List.all_cons, Bool.and_eq_true] at h
        rw [eqDs_cons, ih x h.1, ih2 h.2]
        rfl
    intro d h
    cases d with
    | lst xs => rw [eqD_ll]; exact key xs h
    | tup xs => rw [eqD_tt]; exact key xs h
    | dct _ => cases h
    | obj _ => cases h
    | _ => simp [eqD]
theorem eqDs_refl (n : Nat) (xs : List D) (h : xs.all (okq n) = true) : eqDs xs xs = true := by
  have := eqD_refl (n + 1) (.lst xs) h
  rwa [eqD_ll] at this
theorem okq_Sn (n : Nat) (s : Sn) : okq n s.D = true := by cases s <;> simp [Sn.D]
theorem okq_Nd (n : Nat) (m : Nd) : okq (n + 1) m.D = true := by
  show (m.ps.map D.str ++ [m.sn.D]).all (okq n) = true
  rw [List.all_append, okq_strs, List.all_cons, okq_Sn]
  rfl
theorem okq_needs (n : Nat) (l : List Nd) : (l.map Nd.D).all (okq (n + 1)) = true := by
  rw [List.all_map, List.all_eq_true]
  exact fun m _ => okq_Nd n m
theorem okq_ints (n : Nat) (l : List Nat) : (l.map fun k : Nat => D.int (k : Int)).all (okq n) = true := by
  rw [List.all_map, List.all_eq_true]
  intro k _
  simp
/-- the four fields as the own == sees them -/
def Rc.tup (r : Rc) : D := .tup [.tup (r.outs.map .str), .int (r.key : Int), .tup (r.needs.map Nd.D), .tup (r.res.map fun k : Nat => .int (k : Int))]
theorem okq_rc (r : Rc) (n : Nat) : okq (n + 4) r.tup = true := by
  unfold Rc.tup
  rw [okq_tup]
  simp [okq_tup, okq_strs, okq_ints, okq_needs, -List.all_map]
theorem receq_ok {so : So} {k j : Nat} {r q : Rc} (h1 : RcAt so k r) (h2 : RcAt so j q) : m_Record___eq__ [.obj k, .obj j] so = .ok (.dat (.bl (eqD r.tup q.tup))) so := by
  have o1 := h1.at_
  have o2 := h2.at_
  have k1 := okq_rc r 20
  have k2 := okq_rc q 20
  unfold Rc.F at o1 o2
  unfold Rc.tup at k1 k2 ⊢
  rw [c_Record___eq__]
  simp only [b_Record___eq__]
  simp [isCD, o1, o2, -okq_tup24, -okq_tup]
  rw [gd_t ⟨k1, k2⟩]
  rfl
theorem rec_self (r : Rc) : eqD r.tup r.tup = true := eqD_refl 24 _ (okq_rc r 20)
/-! ### keys of short texts -/
def keyN (t : List Nat) : Nat := t.foldl (fun k c => k * 128 + c) 1
theorem keyN_go (t : List Nat) : ∀ a : Nat, 0 < a → (∀ c ∈ t, c < 128) → 0 < t.foldl (fun k c => k * 128 + c) a ∧ t.foldl (fun k c => k * 128 + c) a < (a + 1) * 128 ^ t.length := by
  induction t with
  | nil => intro a ha _; simp; omega
  | cons c t ih =>
    intro a ha h
    have hc := h c List.mem_cons_self
    obtain ⟨h1, h2⟩ := ih (a * 128 + c) (by omega) fun d hd => h d (List.mem_cons_of_mem _ hd)
    refine ⟨h1, Nat.lt_of_lt_of_le h2 ?_⟩
    rw [List.length_cons, Nat.pow_succ]
    have : a * 128 + c + 1 ≤ (a + 1) * 128 := by omega
    calc (a * 128 + c + 1) * 128 ^ t.length ≤ (a + 1) * 128 * 128 ^ t.length := Nat.mul_le_mul_right _ this
      _ = (a + 1) * (128 ^ t.length * 128) := by rw [Nat.mul_assoc, Nat.mul_comm 128]
theorem keyN_ok {t : List Nat} (h : ∀ c ∈ t, c < 128) (hl : t.length ≤ 100) : KeyOk (keyN t) := by
  obtain ⟨h1, h2⟩ := keyN_go t 1 (by decide) h
  refine ⟨h1, Nat.lt_of_lt_of_le h2 ?_⟩
  refine Nat.le_trans (Nat.mul_le_mul_left 2 (Nat.pow_le_pow_right (by decide) hl)) ?_
  decide +kernel
theorem ckey_ok (t : List Nat) (so : So) : m_content_key [.str t] so = .ok (.dat (.int (keyN t : Int))) so := by
  have gm : (-(2 ^ 64) < (128 : Int) ∧ (128 : Int) < 2 ^ 64) := by decide
  have go : ∀ (l : List Nat) (k : Nat) (x2 : Option B), ∃ y2, forGo (tgN 2) l_content_key_0 (l.map fun c => D.str [c]) [some (.dat (.str t)), some (.dat (.int (k : Int))), x2] so = .ok .nx [some (.dat (.str t)), some (.dat (.int ((l.foldl (fun k c => k * 128 + c) k : Nat) : Int))), y2] so := by
    intro l
    induction l with
    | nil => exact fun k x2 => ⟨x2, rfl⟩
    | cons c l ih =>
      intro k x2
      obtain ⟨y2, h⟩ := ih (k * 128 + c) (some (.dat (.str [c])))
      refine ⟨y2, ?_⟩
      rw [List.map_cons, forGo_cons (en1 := [some (.dat (.str t)), some (.dat (.int (k : Int))), some (.dat (.str [c]))]) rfl]
      have e : l_content_key_0 [some (.dat (.str t)), some (.dat (.int (k : Int))), some (.dat (.str [c]))] so = .ok .nx [some (.dat (.str t)), some (.dat (.int ((k * 128 + c : Nat) : Int))), some (.dat (.str [c]))] so := by
        simp [l_content_key_0, gm]
      rw [e]
      exact h
  obtain ⟨y2, h⟩ := go t 1 none
  rw [c_content_key]
  have h : forGo (tgN 2) l_content_key_0 (t.map fun c => D.str [c]) [some (.dat (.str t)), some (.dat (.int 1)), none] so = _ := h
  simp [b_content_key, h]
  rfl
/-! ### the law's texts -/
theorem numL_mem {n c : Nat} (h : c ∈ TL.numL n) : 48 ≤ c ∧ c ≤ 57 := by
  have := TL.numL_digits n c h
  exact this
theorem log_small {n : Nat} (h : n < 1000000) : n.log2 < 1920 := by
  by_cases h0 : n = 0
  · rw [h0]; decide
  · exact (Nat.log2_lt h0).mpr (Nat.lt_of_lt_of_le h (by decide +kernel))
theorem getD_at {A : Type} (l : List A) (i : Nat) (d : A) (h : i < l.length) : l[i] = l.getD i d := by simp [h]
def txt (n : Nat) : List Nat := (([[], [97], [10], [120, 32, 121], [126], [48], [114, 117, 108, 101, 115]] : List (List Nat))).getD (n % 7) [] ++ TL.numL (n / 7 % 50)
theorem txt_facts (n : Nat) : (txt n).length ≤ 12 ∧ ∀ c ∈ txt n, c < 128 := by
  have h1 : ∀ i : Nat, i < 7 → ((([[], [97], [10], [120, 32, 121], [126], [48], [114, 117, 108, 101, 115]] : List (List Nat))).getD i []).length ≤ 10 ∧ ∀ c ∈ (([[], [97], [10], [120, 32, 121], [126], [48], [114, 117, 108, 101, 115]] : List (List Nat))).getD i [], c < 128 := by decide +kernel
  have h2 : ∀ i : Nat, i < 50 → (TL.numL i).length ≤ 2 := fun i hi => TL.numL_len (by decide) (by omega)
  obtain ⟨a, b⟩ := h1 (n % 7) (Nat.mod_lt _ (by decide))
  have c := h2 (n / 7 % 50) (Nat.mod_lt _ (by decide))
  refine ⟨?_, fun x hx => ?_⟩
  · unfold txt; rw [List.length_append]; omega
  · rcases List.mem_append.mp hx with hx | hx
    · exact b x hx
    · have := numL_mem hx; omega
theorem txt_ok (n : Nat) (so : So) : m__law_text [.int (n : Int)] so = .ok (.dat (.str (txt n))) so := by
  have hn : n % 7 < (([[], [97], [10], [120, 32, 121], [126], [48], [114, 117, 108, 101, 115]] : List (List Nat))).length := Nat.mod_lt _ (by decide)
  have e1 : (n : Int) % 7 = ((n % 7 : Nat) : Int) := by omega
  have e : L2.atI ((([[], [97], [10], [120, 32, 121], [126], [48], [114, 117, 108, 101, 115]] : List (List Nat))).map D.str) ((n : Int) % 7) = some (.str ((([[], [97], [10], [120, 32, 121], [126], [48], [114, 117, 108, 101, 115]] : List (List Nat))).getD (n % 7) [])) := by
    rw [e1, atI_map, atI_nat (List.getElem?_eq_getElem hn), getD_at _ _ [] hn]
    rfl
  simp only [List.map] at e
  have e2 : (n : Int) / 7 % 50 = ((n / 7 % 50 : Nat) : Int) := by omega
  have g1 : ((n : Int) / 7 % 50).natAbs.log2 < 1920 := by
    rw [e2]
    exact log_small (by omega)
  have e3 : tsD ((n : Int) / 7 % 50) = TL.numL (n / 7 % 50) := by rw [e2, tsD_num]
  have g2 := (txt_facts n).1
  unfold txt at g2
  rw [List.length_append] at g2
  have g3 : ((([[], [97], [10], [120, 32, 121], [126], [48], [114, 117, 108, 101, 115]] : List (List Nat))).getD (n % 7) []).length + (TL.numL (n / 7 % 50)).length ≤ 16777216 := by omega
  obtain ⟨P, hP⟩ : ∃ P, (([[], [97], [10], [120, 32, 121], [126], [48], [114, 117, 108, 101, 115]] : List (List Nat))).getD (n % 7) [] = P := ⟨_, rfl⟩
  rw [hP] at e g3
  unfold txt
  rw [hP, c__law_text]
  simp [b__law_text, e, e3, g1, g3]
/-! ### the law's paths -/
def LS : List Nat := [97, 98, 99, 100, 101, 102, 103, 104, 105, 106, 107, 108, 109, 110, 111, 112, 113, 114, 115, 116, 117, 118, 119, 120, 121, 122, 48, 49, 50, 51, 52, 53, 54, 55, 56, 57, 95]
def nam (n k : Nat) : List Nat := [LS.getD ((n + 7 * k) % 26) 0, LS.getD ((n / 3 + k) % 37) 0] ++ TL.numL (n % 97)
def pth (n : Nat) : List Nat := TL.joinL [47] ((List.range (1 + n % 4)).map (nam n))
theorem nam_len (n k : Nat) : (nam n k).length ≤ 4 := by
  have : (TL.numL (n % 97)).length ≤ 2 := TL.numL_len (by decide) (by have : n % 97 < 97 := Nat.mod_lt _ (by decide); omega)
  unfold nam
  rw [List.length_append]
  show 2 + _ ≤ 4
  omega
theorem LS_at {i : Nat} (h : i < 37) : L2.atI LS (i : Int) = some (LS.getD i 0) := by
  have h' : i < LS.length := h
  rw [atI_nat (List.getElem?_eq_getElem h'), getD_at _ _ 0 h']
theorem nams_sz (n : Nat) : szL ((List.range (1 + n % 4)).map (nam n)) ≤ 4 * 4 := by
  refine Nat.le_trans (szL_le _ 4 fun l hl => ?_) ?_
  · obtain ⟨k, _, rfl⟩ := List.mem_map.mp hl
    exact nam_len n k
  · rw [List.length_map, List.length_range]
    have : n % 4 < 4 := Nat.mod_lt _ (by decide)
    omega
theorem pth_ok (n : Nat) (so : So) : m__law_path [.int (n : Int)] so = .ok (.dat (.str (pth n))) so := by
  have hm : n % 4 < 4 := Nat.mod_lt _ (by decide)
  have hlc : ∀ x2, lcGo [3] (tgN 3) (pu true) e__law_path_0 ((List.range (1 + n % 4)).map fun i : Nat => D.int (0 + (i : Int))) [] [some (.dat (.int (n : Int))), some (.dat (.str LS)), x2, none] so = .ok ((List.range (1 + n % 4)).map fun k => .str (nam n k)) [some (.dat (.int (n : Int))), some (.dat (.str LS)), x2, none] so := fun x2 => by
    refine lcGo_mp (fun i : Nat => D.int (0 + (i : Int))) (fun k => .str (nam n k)) _ (fun k _ => ⟨_, rfl, ?_, rfl⟩) (by rw [List.length_range]; omega)
    have a1 : ((n : Int) + 7 * (k : Int)) % 26 = (((n + 7 * k) % 26 : Nat) : Int) := by omega
    have a2 : ((n : Int) / 3 + (k : Int)) % 37 = (((n / 3 + k) % 37 : Nat) : Int) := by omega
    have b1 : L2.atI LS (((n : Int) + 7 * (k : Int)) % 26) = some (LS.getD ((n + 7 * k) % 26) 0) := by rw [a1]; exact LS_at (by omega)
    have b2 : L2.atI LS (((n : Int) / 3 + (k : Int)) % 37) = some (LS.getD ((n / 3 + k) % 37) 0) := by rw [a2]; exact LS_at (by omega)
    have a3 : (n : Int) % 97 = ((n % 97 : Nat) : Int) := by omega
    have g1 : ((n : Int) % 97).natAbs.log2 < 1920 := by rw [a3]; exact log_small (by omega)
    have e3 : tsD ((n : Int) % 97) = TL.numL (n % 97) := by rw [a3, tsD_num]
    have g3 : (TL.numL (n % 97)).length ≤ 2 := TL.numL_len (by decide) (by omega)
    have g4 : 2 + (TL.numL (n % 97)).length ≤ 16777216 := by omega
    have gm : (-(2 ^ 64) < (7 : Int) ∧ (7 : Int) < 2 ^ 64) := by decide
    have gl : LS.length ≤ 16777216 := by decide
    unfold nam
    obtain ⟨A, hA⟩ : ∃ A, LS.getD ((n + 7 * k) % 26) 0 = A := ⟨_, rfl⟩
    obtain ⟨B, hB⟩ : ∃ B, LS.getD ((n / 3 + k) % 37) 0 = B := ⟨_, rfl⟩
    rw [hA] at b1 ⊢
    rw [hB] at b2 ⊢
    simp [e__law_path_0, gm, b1, b2, g1, e3, g4, gl]
  have e1 : (1 : Int) + (n : Int) % 4 = ((1 + n % 4 : Nat) : Int) := by omega
  have j := join_map [47] ((List.range (1 + n % 4)).map (nam n))
  rw [List.map_map] at j
  have j : joinD [47] (.lst ((List.range (1 + n % 4)).map fun k => D.str (nam n k))) = _ := j
  have g : szL ((List.range (1 + n % 4)).map (nam n)) + ((List.range (1 + n % 4)).map (nam n)).length * ([47] : List Nat).length ≤ 16777216 := by
    have := nams_sz n
    rw [List.length_map, List.length_range, List.length_singleton]
    omega
  rw [c__law_path]
  simp only [b__law_path]
  rw [show D.str [97, 98, 99, 100, 101, 102, 103, 104, 105, 106, 107, 108, 109, 110, 111, 112, 113, 114, 115, 116, 117, 118, 119, 120, 121, 122, 48, 49, 50, 51, 52, 53, 54, 55, 56, 57, 95] = .str LS from rfl]
  have rg : (rngD 0 (1 + n % 4)) = (List.range (1 + n % 4)).map fun i : Nat => D.int (0 + (i : Int)) := rfl
  have n2 : 1 + n % 4 ≤ 16777216 := by omega
  simp [e1, rg1_nat, n2, -Int.natCast_add, -List.range_succ]
  rw [rg, hlc]
  simp
  rw [j, gd_t g]
  rfl
/-! ### the law's paths are right and differ -/
theorem joinL_snoc (c : Nat) (l s : List Nat) : ∀ L : List (List Nat), TL.joinL [c] (L ++ [l]) ++ s = TL.joinL [c] (L ++ [l ++ s])
  | [] => by simp [TL.joinL]
  | [a] => by simp [TL.joinL]
  | a :: b :: r => by
    have ih := joinL_snoc c l s (b :: r)
    have e : ∀ l', TL.joinL [c] (a :: b :: r ++ [l']) = a ++ c :: TL.joinL [c] (b :: r ++ [l']) := fun l' => by
      show TL.joinL [c] (a :: b :: (r ++ [l'])) = _
      conv => lhs; unfold TL.joinL
      simp
    rw [e, e, ← ih]
    simp
theorem LS_cs {i : Nat} (h : i < 37) : LS.getD i 0 ∈ cs0 ∧ LS.getD i 0 ≠ 46 ∧ LS.getD i 0 ≠ 47 := by
  have : ∀ i : Nat, i < 37 → LS.getD i 0 ∈ cs0 ∧ LS.getD i 0 ≠ 46 ∧ LS.getD i 0 ≠ 47 := by decide +kernel
  exact this i h
theorem LS_inj {i j : Nat} (h : i < 37) (h2 : j < 37) (e : LS.getD i 0 = LS.getD j 0) : i = j := by
  have : ∀ i : Nat, i < 37 → ∀ j : Nat, j < 37 → LS.getD i 0 = LS.getD j 0 → i = j := by decide +kernel
  exact this i h j h2 e
theorem dig_cs {c : Nat} (h : 48 ≤ c ∧ c ≤ 57) : c ∈ cs0 := by
  have : ∀ c : Nat, c < 58 → 48 ≤ c → c ∈ cs0 := by decide +kernel
  exact this c (by omega) h.1
theorem okN_of {cs r : List Nat} {c : Nat} (h1 : c ≠ 46) (h2 : (c :: r).length ≤ 12) (h3 : ∀ x ∈ c :: r, x ∈ cs) : okN cs (c :: r) = true := by
  have h2' : ¬ (12 : Int) < (r.length : Int) + 1 := by rw [List.length_cons] at h2; omega
  show (!(decide ((12 : Int) < (r.length : Int) + 1) || decide (c = 46)) && (c :: r).all fun x => decide (x ∈ cs)) = true
  rw [decide_eq_false h2', decide_eq_false h1]
  exact List.all_eq_true.mpr fun x hx => decide_eq_true (h3 x hx)
theorem nam_ok {n k : Nat} {s : List Nat} (hs : ∀ c ∈ s, c ∈ cs0) (hl : s.length ≤ 8) : okN cs0 (nam n k ++ s) = true := by
  have h1 := LS_cs (i := (n + 7 * k) % 26) (by omega)
  have h2 := LS_cs (i := (n / 3 + k) % 37) (by omega)
  refine okN_of h1.2.1 ?_ ?_
  · have := nam_len n k
    have e : (nam n k ++ s).length ≤ 12 := by rw [List.length_append]; omega
    exact e
  · intro x hx
    rcases List.mem_cons.mp hx with rfl | hx
    · exact h1.1
    · rcases List.mem_cons.mp hx with rfl | hx
      · exact h2.1
      · rcases List.mem_append.mp (show x ∈ TL.numL (n % 97) ++ s from hx) with hx | hx
        · exact dig_cs (numL_mem hx)
        · exact hs x hx
def namsS (n : Nat) (s : List Nat) : List (List Nat) := (List.range (n % 4)).map (nam n) ++ [nam n (n % 4) ++ s]
theorem pth_app (n : Nat) (s : List Nat) : pth n ++ s = TL.joinL [47] (namsS n s) := by
  unfold pth namsS
  rw [Nat.add_comm 1, List.range_succ, List.map_append]
  exact joinL_snoc 47 _ s _
theorem namsS_ok {n : Nat} {s : List Nat} (hs : ∀ c ∈ s, c ∈ cs0) (hl : s.length ≤ 8) : ∀ l ∈ namsS n s, okN cs0 l = true := fun l h => by
  rcases List.mem_append.mp h with h | h
  · obtain ⟨k, _, rfl⟩ := List.mem_map.mp h
    have := nam_ok (n := n) (k := k) (s := []) (fun c hc => absurd hc List.not_mem_nil) (by decide)
    rwa [List.append_nil] at this
  · rw [List.mem_singleton.mp h]
    exact nam_ok hs hl
theorem cs0_47 : (47 : Nat) ∉ cs0 := by decide
theorem namsS_free {n : Nat} {s : List Nat} (hs : ∀ c ∈ s, c ∈ cs0) (hl : s.length ≤ 8) : ∀ l ∈ namsS n s, 47 ∉ l := fun l h hm => cs0_47 (okN_all (namsS_ok hs hl l h) 47 hm)
theorem pcs_pth {n : Nat} {s : List Nat} (hs : ∀ c ∈ s, c ∈ cs0) (hl : s.length ≤ 8) : pieces 47 [] (pth n ++ s) = namsS n s := by
  rw [pth_app]
  exact pieces_join 47 _ (by unfold namsS; simp) (namsS_free hs hl)
theorem namsS_len (n : Nat) (s : List Nat) : (namsS n s).length = n % 4 + 1 := by simp [namsS]
theorem okN_le {cs v : List Nat} (h : okN cs v = true) : v.length ≤ 12 := by
  cases v with
  | nil => decide
  | cons c r =>
    unfold okN at h
    rw [Bool.and_eq_true] at h
    have := h.1
    simp at this
    rw [List.length_cons]
    omega
theorem pth_pt {n : Nat} {s : List Nat} (hs : ∀ c ∈ s, c ∈ cs0) (hl : s.length ≤ 8) : Pt (pth n ++ s) := by
  have hm : n % 4 < 4 := Nat.mod_lt _ (by decide)
  refine ⟨?_, ?_⟩
  · unfold okp
    rw [pcs_pth hs hl, namsS_len, Bool.and_eq_true]
    exact ⟨decide_eq_true (by omega), List.all_eq_true.mpr (namsS_ok hs hl)⟩
  · rw [pth_app]
    have a := joinL_len 47 (namsS n s)
    have b := szL_le (namsS n s) 12 fun l h => okN_le (namsS_ok hs hl l h)
    rw [namsS_len] at a b
    omega
theorem num_cs (k : Nat) : ∀ c ∈ TL.numL k, c ∈ cs0 := fun _ h => dig_cs (numL_mem h)
theorem num2_len {k : Nat} (h : k < 100) : (TL.numL k).length ≤ 2 := TL.numL_len (by decide) h
theorem one_name : ∀ a : Nat, a < 1000 / 4 + 1 → ∀ b : Nat, b < 1000 / 4 + 1 → 4 * a % 26 = 4 * b % 26 → 4 * a / 3 % 37 = 4 * b / 3 % 37 → a = b := by decide +kernel
theorem pth_inj {n m k j : Nat} (hn : n < 1000) (hm : m < 1000) (hk : k < 100) (hj : j < 100) (e : pth n ++ TL.numL k = pth m ++ TL.numL j) : k = j := by
  have h1 := pcs_pth (n := n) (num_cs k) (by have := num2_len hk; omega)
  have h2 := pcs_pth (n := m) (num_cs j) (by have := num2_len hj; omega)
  rw [e, h2] at h1
  have hl := congrArg List.length h1
  rw [namsS_len, namsS_len] at hl
  have hp : m % 4 = n % 4 := by omega
  have hlast := congrArg List.getLast? h1
  unfold namsS at hlast
  rw [List.getLast?_concat, List.getLast?_concat] at hlast
  have hlast := Option.some.inj hlast
  rw [hp] at hlast
  unfold nam at hlast
  rw [List.append_assoc, List.append_assoc] at hlast
  have hl2 : TL.numL (m % 97) ++ TL.numL j = TL.numL (n % 97) ++ TL.numL k := by
    have := congrArg (List.drop 2) hlast
    exact this
  have key : m % 97 = n % 97 := by
    by_cases h0 : n % 4 = 0
    · rw [h0] at hlast
      have c1 := congrArg (fun l : List Nat => l.getD 0 0) hlast
      have c2 := congrArg (fun l : List Nat => l.getD 1 0) hlast
      have c1 : LS.getD ((m + 7 * 0) % 26) 0 = LS.getD ((n + 7 * 0) % 26) 0 := c1
      have c2 : LS.getD ((m / 3 + 0) % 37) 0 = LS.getD ((n / 3 + 0) % 37) 0 := c2
      have d1 := LS_inj (by omega) (by omega) c1
      have d2 := LS_inj (by omega) (by omega) c2
      have en : n = 4 * (n / 4) := by omega
      have em : m = 4 * (m / 4) := by omega
      have := one_name (m / 4) (by omega) (n / 4) (by omega) (by rw [← en, ← em]; exact d1) (by rw [← en, ← em]; exact d2)
      have : m = n := by rw [en, em, this]
      rw [this]
    · have hfirst := congrArg (fun l : List (List Nat) => l.getD 0 []) h1
      have f : ∀ (x : Nat) (s : List Nat), x % 4 ≠ 0 → (namsS x s).getD 0 [] = nam x 0 := fun x s h => by
        unfold namsS
        obtain ⟨q, hq⟩ : ∃ q, x % 4 = q + 1 := ⟨x % 4 - 1, by omega⟩
        rw [hq, List.range_succ_eq_map]
        rfl
      have hfirst : (namsS m (TL.numL j)).getD 0 [] = (namsS n (TL.numL k)).getD 0 [] := hfirst
      rw [f _ _ (by omega), f _ _ h0] at hfirst
      have := congrArg (List.drop 2) hfirst
      exact TL.numL_inj this
  rw [key] at hl2
  exact (TL.numL_inj (List.append_cancel_left hl2)).symm
/-! ### the law's needs -/
def snF (n k : Nat) : Sn := if n % 5 = 0 then .no else .key (keyN (txt (n + k)))
theorem txt_key (n : Nat) : KeyOk (keyN (txt n)) := keyN_ok (txt_facts n).2 (by have := (txt_facts n).1; omega)
theorem snF_ok (n k : Nat) : SnK (snF n k) := by
  unfold snF
  split
  · exact .no
  · exact .key (txt_key _)
def ndF (kind n k : Nat) : Nd :=
  if kind = 0 then ⟨[FILE, pth n ++ TL.numL k], snF n k⟩
  else if kind = 1 then ⟨[HAS, pth n ++ TL.numL k], .yn (decide (n % 2 = 0))⟩
  else if kind = 2 then ⟨[LISTG, if n % 2 = 0 then [] else pth n, [97, 42] ++ TL.numL k], .key (keyN (txt n))⟩
  else if kind = 3 then ⟨[SETTG, [115] ++ TL.numL k], snF n k⟩
  else ⟨[LINKW, pth n ++ TL.numL k], snF n k⟩
theorem pth_num {n k : Nat} (h : k < 100) : Pt (pth n ++ TL.numL k) := pth_pt (num_cs k) (by have := num2_len h; omega)
theorem pth_self (n : Nat) : Pt (pth n) := by
  have := pth_pt (n := n) (s := []) (fun c hc => absurd hc List.not_mem_nil) (by decide)
  rwa [List.append_nil] at this
theorem num100 : ∀ k : Nat, k < 100 → ((TL.numL k).count 42 = 0 ∧ 47 ∉ TL.numL k) := fun k _ => ⟨List.count_eq_zero.mpr fun h => by have := numL_mem h; omega, fun h => by have := numL_mem h; omega⟩
theorem ndF_ok {kind n k : Nat} (hk : k < 100) : NdOk (ndF kind n k) := by
  have hl := num2_len hk
  unfold ndF
  split
  · exact .path (.inl rfl) (pth_num hk) (snF_ok n k)
  split
  · exact .has _ (pth_num hk)
  split
  · refine .lst ?_ ?_ ?_ ?_ (txt_key n)
    · by_cases h : n % 2 = 0
      · rw [if_pos h]; exact .inl rfl
      · rw [if_neg h]; exact .inr (pth_self n)
    · have h47 : 47 ∉ [97, 42] ++ TL.numL k := fun h => by
        rcases List.mem_append.mp h with h | h
        · revert h; decide
        · exact (num100 k hk).2 h
      unfold okpat
      rw [pieces_one 47 _ _ h47]
      have hc : ([97, 42] ++ TL.numL k).count 42 = 1 := by rw [List.count_append, (num100 k hk).1]; rfl
      rw [hc]
      have : okN cs1 (97 :: (42 :: TL.numL k)) = true := okN_of (by decide) (by simp; omega) fun x hx => by
        rcases List.mem_cons.mp hx with rfl | hx
        · decide
        rcases List.mem_cons.mp hx with rfl | hx
        · decide
        exact List.mem_append_left _ (num_cs k x hx)
      simp [this]
    · intro h
      rcases List.mem_append.mp h with h | h
      · revert h; decide
      · exact (num100 k hk).2 h
    · simp; omega
  split
  · refine .set ?_ (snF_ok n k)
    have h2 : ∀ x ∈ TL.numL k, x ∈ LET ++ DIG := fun x hx => by
      have := numL_mem hx
      have h3 : ∀ c : Nat, c < 58 → 48 ≤ c → c ∈ LET ++ DIG := by decide +kernel
      exact h3 x (by omega) this.1
    show (decide (1 ≤ (115 :: TL.numL k).length) && decide ((115 :: TL.numL k).length ≤ 12) && decide (115 ∈ LET) && (115 :: TL.numL k).all fun c => decide (c ∈ LET ++ DIG)) = true
    rw [Bool.and_eq_true, Bool.and_eq_true, Bool.and_eq_true]
    refine ⟨⟨⟨decide_eq_true (by simp), decide_eq_true (by simp; omega)⟩, by decide⟩, List.all_eq_true.mpr fun x hx => decide_eq_true ?_⟩
    rcases List.mem_cons.mp hx with rfl | hx
    · decide
    · exact h2 x hx
  · exact .path (.inr rfl) (pth_num hk) (snF_ok n k)
theorem ndF_inj {a b n m k j : Nat} (hn : n < 1000) (hm : m < 1000) (hk : k < 100) (hj : j < 100) (e : (ndF a n k).ps = (ndF b m j).ps) : k = j := by
  have w : ∀ (x y : List Nat) (p q : List Nat), [x, p] = [y, q] → x = y ∧ p = q := fun x y p q h => by injection h with h1 h2; injection h2 with h2; exact ⟨h1, h2⟩
  have d : (pth n ++ TL.numL k = pth m ++ TL.numL j ∨ [115] ++ TL.numL k = [115] ++ TL.numL j ∨ [97, 42] ++ TL.numL k = [97, 42] ++ TL.numL j) := by
    unfold ndF at e
    repeat' split at e
    all_goals first
      | (obtain ⟨h1, h2⟩ := w _ _ _ _ e
         first | exact absurd h1 (by decide) | exact .inl h2 | exact .inr (.inl h2))
      | (injection e with e1 e2; injection e2 with e2 e3; injection e3 with e3; exact .inr (.inr e3))
      | (have := congrArg List.length e; simp at this)
  rcases d with h | h | h
  · exact pth_inj hn hm hk hj h
  · exact TL.numL_inj (List.append_cancel_left h)
  · exact TL.numL_inj (List.append_cancel_left h)
theorem need_ok {kind n k : Nat} (hn : n < 1000) (hk : k < 100) (so : So) (hkind : kind < 5) : m__law_need [.int (kind : Int), .int (n : Int), .int (k : Int)] so = .ok (.dat (ndF kind n k).D) so := by
  have t1 := txt_ok (n + k) so
  rw [show ((n + k : Nat) : Int) = (n : Int) + (k : Int) from rfl] at t1
  have t2 := txt_ok n so
  have c1 := ckey_ok (txt (n + k)) so
  have c2 := ckey_ok (txt n) so
  have p := pth_ok n so
  have sk : k.log2 < 1920 := log_small (by omega)
  have hs := tsD_num k
  have lp : (pth n).length + (TL.numL k).length ≤ 16777216 := by
    have := (pth_num (n := n) hk).len
    rw [List.length_append] at this
    omega
  have ll : 1 + (TL.numL k).length ≤ 16777216 ∧ 2 + (TL.numL k).length ≤ 16777216 := by have := num2_len hk; omega
  have hk5 : kind = 0 ∨ kind = 1 ∨ kind = 2 ∨ kind = 3 ∨ kind = 4 := by omega
  have m5 : ((n : Int) % 5 = 0) ↔ n % 5 = 0 := by omega
  have m2 : ((n : Int) % 2 = 0) ↔ n % 2 = 0 := by omega
  obtain ⟨x3, hx3⟩ : ∃ x3, (snF n k).D = x3 := ⟨_, rfl⟩
  have hx3' : x3 = if n % 5 = 0 then .non else .int (keyN (txt (n + k)) : Int) := by
    rw [← hx3]; unfold snF; split <;> rfl
  rw [c__law_need]
  have s01 : ∀ rest : M Fl, sSeq t__law_need_0 (sSeq t__law_need_1 rest) [some (.dat (.int (kind : Int))), some (.dat (.int (n : Int))), some (.dat (.int (k : Int))), none] so = rest [some (.dat (.int (kind : Int))), some (.dat (.int (n : Int))), some (.dat (.int (k : Int))), some (.dat x3)] so := fun rest => by
    subst hx3'
    by_cases h : n % 5 = 0
    · simp [t__law_need_0, t__law_need_1, t1, c1, m5, h]
    · simp [t__law_need_0, t__law_need_1, t1, c1, m5, h]
  rw [b__law_need, r__law_need_0, r__law_need_1, s01]
  rcases hk5 with rfl | rfl | rfl | rfl | rfl
  · simp [r__law_need_2, t__law_need_2, p, sk, hs, lp, ndF, Nd.D, hx3, FILE]
  · simp [r__law_need_2, t__law_need_2, r__law_need_3, t__law_need_3, p, sk, hs, lp, ndF, Nd.D, HAS, Sn.D, m2]
  · by_cases h : n % 2 = 0
    · have e : (n : Int) % 2 = 0 := m2.mpr h
      simp [r__law_need_2, t__law_need_2, r__law_need_3, t__law_need_3, r__law_need_4, t__law_need_4, p, sk, hs, ll, ndF, Nd.D, LISTG, Sn.D, h, e, t2, c2]
    · have e : (n : Int) % 2 = 1 := by omega
      simp [r__law_need_2, t__law_need_2, r__law_need_3, t__law_need_3, r__law_need_4, t__law_need_4, p, sk, hs, ll, ndF, Nd.D, LISTG, Sn.D, h, e, t2, c2]
  · simp [r__law_need_2, t__law_need_2, r__law_need_3, t__law_need_3, r__law_need_4, t__law_need_4, r__law_need_5, t__law_need_5, p, sk, hs, ll, ndF, Nd.D, hx3, SETTG]
  · simp [r__law_need_2, t__law_need_2, r__law_need_3, t__law_need_3, r__law_need_4, t__law_need_4, r__law_need_5, t__law_need_5, t__law_need_6, p, sk, hs, lp, ndF, Nd.D, hx3, LINKW]
/-! ### the law's records -/
def atN (l : List Int) (i : Nat) : Nat := (l.getD i 0).toNat
theorem Num.atN {n : Nat} {l : List Int} (h : Num n l) {i : Nat} (hi : i < n) : L2.atI (l.map D.int) (i : Int) = some (.int (atN l i : Int)) ∧ atN l i < 1000 := by
  have hi' : i < l.length := by rw [h.1]; exact hi
  have e : l.getD i 0 = l[i] := (getD_at l i 0 hi').symm
  have b := h.2 _ (List.getElem_mem hi')
  refine ⟨?_, ?_⟩
  · rw [atI_map, atI_nat (xs := l) (j := i) (v := l[i]) (List.getElem?_eq_getElem hi')]
    unfold Lk40.atN
    rw [e]
    show some (D.int l[i]) = some (D.int _)
    congr 2
    omega
  · unfold Lk40.atN
    rw [e]
    omega
theorem nodup_map {A B : Type} {f : A → B} : ∀ {l : List A}, l.Nodup → (∀ a ∈ l, ∀ b ∈ l, f a = f b → a = b) → (l.map f).Nodup
  | [], _, _ => List.nodup_nil
  | a :: l, h, hf => by
    have h := List.nodup_cons.mp h
    rw [List.map_cons]
    refine List.nodup_cons.mpr ⟨fun hm => ?_, nodup_map h.2 fun x hx y hy => hf x (List.mem_cons_of_mem _ hx) y (List.mem_cons_of_mem _ hy)⟩
    obtain ⟨b, hb, e⟩ := List.mem_map.mp hm
    have := hf b (List.mem_cons_of_mem _ hb) a List.mem_cons_self e
    subst this
    exact h.1 hb
def outF (l : List Int) (k : Nat) : List Nat := pth (atN l (1 + k)) ++ ([111] ++ TL.numL k)
def recF (l : List Int) : Rc where
  outs := (List.range (1 + atN l 0 % 3)).map (outF l)
  key := keyN (txt (atN l 35) ++ [114, 117, 108, 101])
  needs := (List.range (atN l 4 % 13)).map fun k => ndF (atN l (5 + 2 * k) % 5) (atN l (6 + 2 * k)) k
  res := (List.range (1 + atN l 0 % 3)).map fun k => keyN (txt (atN l (30 + k)))
theorem outF_pt (l : List Int) {k : Nat} (hk : k < 3) : Pt (outF l k) := pth_pt (fun c hc => by
    rcases List.mem_append.mp hc with hc | hc
    · rw [List.mem_singleton.mp hc]; decide
    · exact num_cs k c hc) (by
    rw [List.length_append, List.length_singleton]
    have := num2_len (k := k) (by omega)
    omega)
theorem recF_ok {l : List Int} (h : Num 40 l) : RcOk (recF l) where
  o1 := by
    intro e
    have := congrArg List.length e
    simp [recF] at this
  o3 := by simp [recF]; omega
  op := fun p hp => by
    obtain ⟨k, hk, rfl⟩ := List.mem_map.mp hp
    have := List.mem_range.mp hk
    exact outF_pt l (by omega)
  od := nodup_map List.nodup_range fun a ha b hb e => by
    have ha := List.mem_range.mp ha
    have hb := List.mem_range.mp hb
    have f : ∀ k : Nat, k < 3 → (outF l k).getLast? = some (48 + k) := fun k hk => by
      unfold outF
      rw [TL.numL_lt (by omega), ← List.append_assoc, List.getLast?_concat]
    have := congrArg List.getLast? e
    rw [f a (by omega), f b (by omega)] at this
    injection this with this
    omega
  key := keyN_ok (fun c hc => by
    rcases List.mem_append.mp hc with hc | hc
    · exact (txt_facts _).2 c hc
    · have : ∀ c ∈ ([114, 117, 108, 101] : List Nat), c < 128 := by decide
      exact this c hc) (by
    rw [List.length_append]
    have := (txt_facts (atN l 35)).1
    show _ + 4 ≤ 100
    omega)
  nl := by simp [recF]; omega
  nd := fun n hn => by
    obtain ⟨k, hk, rfl⟩ := List.mem_map.mp hn
    have := List.mem_range.mp hk
    exact ndF_ok (by omega)
  nq := by
    unfold recF
    show (((List.range (atN l 4 % 13)).map fun k => ndF (atN l (5 + 2 * k) % 5) (atN l (6 + 2 * k)) k).map Nd.ps).Nodup
    rw [List.map_map]
    refine nodup_map List.nodup_range fun a ha b hb e => ?_
    have ha := List.mem_range.mp ha
    have hb := List.mem_range.mp hb
    exact ndF_inj (h.atN (by omega)).2 (h.atN (by omega)).2 (by omega) (by omega) e
  rl := by simp [recF]
  rk := fun k hk => by
    obtain ⟨k, _, rfl⟩ := List.mem_map.mp hk
    exact txt_key _
theorem lawrec_ok (ns : List Int) (so : So) : ∃ l, Num 40 l ∧ m__law_record [.lst (ns.map .int)] so = .ok (.dat (.obj so.length)) (so ++ [.ob 24 (recF l).F]) := by
  obtain ⟨c, hc⟩ := cell_ok ns 0 so (by decide)
  obtain ⟨l, hl, hn⟩ := numbers_ok c 40 (by decide) so
  refine ⟨l, hl, ?_⟩
  have hn : m__law_numbers [.int c, .int 40] so = .ok (.dat (.lst (l.map .int))) so := hn
  have a0 : L2.atI (l.map D.int) 0 = some (.int (atN l 0 : Int)) := (hl.atN (i := 0) (by decide)).1
  have a4 : L2.atI (l.map D.int) 4 = some (.int (atN l 4 : Int)) := (hl.atN (i := 4) (by decide)).1
  have a35 : L2.atI (l.map D.int) 35 = some (.int (atN l 35 : Int)) := (hl.atN (i := 35) (by decide)).1
  have b0 : (1 : Int) + (atN l 0 : Int) % 3 = ((1 + atN l 0 % 3 : Nat) : Int) := by omega
  have b4 : (atN l 4 : Int) % 13 = ((atN l 4 % 13 : Nat) : Int) := by omega
  obtain ⟨N, hN⟩ : ∃ N, 1 + atN l 0 % 3 = N := ⟨_, rfl⟩
  obtain ⟨Q, hQ⟩ : ∃ Q, atN l 4 % 13 = Q := ⟨_, rfl⟩
  have N3 : N ≤ 3 := by omega
  have Q12 : Q ≤ 12 := by omega
  have gm : (-(2 ^ 64) < (2 : Int) ∧ (2 : Int) < 2 ^ 64) := by decide
  have hlc0 : ∀ x2 x3 x4 x5, lcGo [6] (tgN 6) (pu true) e__law_record_0 ((List.range N).map fun i : Nat => D.int (0 + (i : Int))) [] [some (.dat (.lst (ns.map .int))), some (.dat (.lst (l.map .int))), x2, x3, x4, x5, none] so = .ok ((List.range N).map fun k => .str (outF l k)) [some (.dat (.lst (ns.map .int))), some (.dat (.lst (l.map .int))), x2, x3, x4, x5, none] so := fun x2 x3 x4 x5 => by
    refine lcGo_mp (fun i : Nat => D.int (0 + (i : Int))) (fun k => .str (outF l k)) _ (fun k hk => ⟨_, rfl, ?_, rfl⟩) (by rw [List.length_range]; omega)
    have hk := List.mem_range.mp hk
    have a : L2.atI (l.map D.int) (1 + (k : Int)) = some (.int (atN l (1 + k) : Int)) := (hl.atN (i := 1 + k) (by omega)).1
    have p := pth_ok (atN l (1 + k)) so
    have sk : k.log2 < 1920 := log_small (by omega)
    have hs := tsD_num k
    have hlen := (outF_pt l (k := k) (by omega)).len
    unfold outF at hlen ⊢
    obtain ⟨P, hP⟩ : ∃ P, pth (atN l (1 + k)) = P := ⟨_, rfl⟩
    rw [hP] at p hlen ⊢
    rw [List.length_append, List.length_append, List.length_singleton] at hlen
    have g1 : P.length + 1 ≤ 16777216 := by omega
    have g2 : P.length + 1 + (TL.numL k).length ≤ 16777216 := by omega
    have g3 : P.length + (1 + (TL.numL k).length) ≤ 16777216 := by omega
    have g4 : P.length + ((TL.numL k).length + 1) ≤ 16777216 := by omega
    simp [e__law_record_0, a, p, sk, hs, g1, g2, g3, g4]
  have hlc1 : ∀ x2 x3 x4 x5, lcGo [6] (tgN 6) (pu true) e__law_record_1 ((List.range Q).map fun i : Nat => D.int (0 + (i : Int))) [] [some (.dat (.lst (ns.map .int))), some (.dat (.lst (l.map .int))), x2, x3, x4, x5, none] so = .ok ((List.range Q).map fun k => (ndF (atN l (5 + 2 * k) % 5) (atN l (6 + 2 * k)) k).D) [some (.dat (.lst (ns.map .int))), some (.dat (.lst (l.map .int))), x2, x3, x4, x5, none] so := fun x2 x3 x4 x5 => by
    refine lcGo_mp (fun i : Nat => D.int (0 + (i : Int))) (fun k => (ndF (atN l (5 + 2 * k) % 5) (atN l (6 + 2 * k)) k).D) _ (fun k hk => ⟨_, rfl, ?_, rfl⟩) (by rw [List.length_range]; omega)
    have hk := List.mem_range.mp hk
    have a : L2.atI (l.map D.int) (5 + 2 * (k : Int)) = some (.int (atN l (5 + 2 * k) : Int)) := (hl.atN (i := 5 + 2 * k) (by omega)).1
    have a' := hl.atN (i := 6 + 2 * k) (by omega)
    have a1 : L2.atI (l.map D.int) (6 + 2 * (k : Int)) = some (.int (atN l (6 + 2 * k) : Int)) := a'.1
    have e5 : (atN l (5 + 2 * k) : Int) % 5 = ((atN l (5 + 2 * k) % 5 : Nat) : Int) := by omega
    have p := need_ok (kind := atN l (5 + 2 * k) % 5) a'.2 (k := k) (by omega) so (by omega)
    rw [← e5] at p
    simp [e__law_record_1, a, a1, gm, p]
  have hlc2 : ∀ x2 x3 x4 x5, lcGo [6] (tgN 6) (pu true) e__law_record_2 ((List.range N).map fun i : Nat => D.int (0 + (i : Int))) [] [some (.dat (.lst (ns.map .int))), some (.dat (.lst (l.map .int))), x2, x3, x4, x5, none] so = .ok ((List.range N).map fun k => .int (keyN (txt (atN l (30 + k))) : Int)) [some (.dat (.lst (ns.map .int))), some (.dat (.lst (l.map .int))), x2, x3, x4, x5, none] so := fun x2 x3 x4 x5 => by
    refine lcGo_mp (fun i : Nat => D.int (0 + (i : Int))) (fun k => .int (keyN (txt (atN l (30 + k))) : Int)) _ (fun k hk => ⟨_, rfl, ?_, rfl⟩) (by rw [List.length_range]; omega)
    have hk := List.mem_range.mp hk
    have a : L2.atI (l.map D.int) (30 + (k : Int)) = some (.int (atN l (30 + k) : Int)) := (hl.atN (i := 30 + k) (by omega)).1
    have p := txt_ok (atN l (30 + k)) so
    have c := ckey_ok (txt (atN l (30 + k))) so
    simp [e__law_record_2, a, p, c]
  have rgN : rngD 0 N = (List.range N).map fun i : Nat => D.int (0 + (i : Int)) := rfl
  have rgQ : rngD 0 Q = (List.range Q).map fun i : Nat => D.int (0 + (i : Int)) := rfl
  have gN : N ≤ 16777216 := by omega
  have gQ : Q ≤ 16777216 := by omega
  have tx := txt_ok (atN l 35) so
  have ck := ckey_ok (txt (atN l 35) ++ [114, 117, 108, 101]) so
  have gt : (txt (atN l 35)).length + 4 ≤ 16777216 := by have := (txt_facts (atN l 35)).1; omega
  have eF : (recF l).F = [some (.tup ((List.range N).map fun k => .str (outF l k))), some (.int (keyN (txt (atN l 35) ++ [114, 117, 108, 101]) : Int)), some (.tup ((List.range Q).map fun k => (ndF (atN l (5 + 2 * k) % 5) (atN l (6 + 2 * k)) k).D)), some (.tup ((List.range N).map fun k => .int (keyN (txt (atN l (30 + k))) : Int)))] := by
    unfold Rc.F recF
    rw [hN, hQ]
    simp only [List.map_map]
    rfl
  rw [eF, c__law_record]
  rw [b__law_record, r__law_record_0, t__law_record_0]
  simp [hc, hn]
  rw [r__law_record_1, t__law_record_1]
  simp [a0, b0, hN, -Int.natCast_add]
  rw [r__law_record_2, t__law_record_2]
  simp [rg1_nat, gN]
  rw [rgN, hlc0]
  simp [gN]
  rw [r__law_record_3, t__law_record_3]
  simp [a4, b4, hQ, rg1_nat, gQ, -Int.natCast_emod]
  rw [rgQ, hlc1]
  simp [gQ]
  rw [r__law_record_4, t__law_record_4]
  simp [rg1_nat, gN]
  rw [rgN, hlc2]
  simp [gN]
  rw [t__law_record_5]
  simp [a35, tx, ck, gt, c_Record___init__, b_Record___init__, r_Record___init___0, t_Record___init___0, r_Record___init___1, t_Record___init___1, r_Record___init___2, t_Record___init___2, t_Record___init___3, List.set_append, List.getElem?_append_right]
/-! ### the law's own written form -/
theorem lseen_ok (s : Sn) (so : So) (h : SnK s ∨ ∃ b, s = .yn b) : m__law_seen [s.D] so = .ok (.dat (.str s.tx)) so := by
  rw [c__law_seen]
  rcases h with h | ⟨b, rfl⟩
  · cases h with
    | no => simp [b__law_seen, Sn.D, Sn.tx]
    | key hk =>
      have := hk.log
      simp [b__law_seen, Sn.D, Sn.tx, this]
  · cases b <;> simp [b__law_seen, Sn.D, Sn.tx]
theorem line_ok {so : So} {k : Nat} {r : Rc} (hr : RcAt so k r) (h : RcOk r) : m__law_line [.obj k] so = .ok (.dat (.str r.tx)) so := by
  have ho := hr.at_
  have hlc1 : lcGo [3] (tgN 3) (pu true) e__law_line_0 (r.needs.map Nd.D) [] [some (.dat (.obj k)), none, none, none, none] so = .ok (r.needs.map fun n => .str n.tx) [some (.dat (.obj k)), none, none, none, none] so := by
    refine lcGo_mp Nd.D (fun n => .str n.tx) r.needs (fun n hn => ⟨_, rfl, ?_, rfl⟩) (by have := h.nl; omega)
    obtain ⟨h1, h2, h3⟩ := nd_parts (h.nd n hn)
    have f := fun so => lseen_ok n.sn so h3
    have e1 : (n.ps.map D.str) ++ [D.str n.sn.tx] = (n.ps ++ [n.sn.tx]).map D.str := by simp
    have l1 : (n.ps ++ [n.sn.tx]).length ≤ 4 := by rw [List.length_append, List.length_singleton]; omega
    have hj := join_map [58] (n.ps ++ [n.sn.tx])
    have b := szL_le (n.ps ++ [n.sn.tx]) 600 fun l hl => (h1 l hl).2
    have g : szL (n.ps ++ [n.sn.tx]) + (n.ps ++ [n.sn.tx]).length * ([58] : List Nat).length ≤ 16777216 := by
      rw [List.length_singleton]; omega
    have l2 : n.ps.length ≤ 16777215 := by omega
    simp [e__law_line_0, Nd.D, cut_last, at_last, f, l2]
    rw [e1, hj, gd_t g]
    rfl
  have hlc2 : ∀ x1, lcGo [4] (tgN 4) (pu true) e__law_line_1 (r.res.map fun k : Nat => .int (k : Int)) [] [some (.dat (.obj k)), x1, none, none, none] so = .ok (r.res.map fun k : Nat => .str (tsD (k : Int))) [some (.dat (.obj k)), x1, none, none, none] so := fun x1 => by
    refine lcGo_mp (fun k : Nat => D.int (k : Int)) (fun k : Nat => .str (tsD (k : Int))) r.res (fun z hz => ⟨_, rfl, ?_, rfl⟩) (by have := h.rl; have := h.o3; omega)
    simp [e__law_line_1, (h.rk z hz).log]
  have j1 := join_map [59] (r.needs.map Nd.tx)
  rw [List.map_map] at j1
  have j1 : joinD [59] (.lst (r.needs.map fun n => D.str n.tx)) = _ := j1
  have j2 := join_map [44] (r.res.map fun k : Nat => tsD (k : Int))
  rw [List.map_map] at j2
  have j2 : joinD [44] (.lst (r.res.map fun k : Nat => D.str (tsD (k : Int)))) = _ := j2
  have j3 : ∀ en so, joinD [44] (.tup (r.outs.map .str)) en so = .ok (.str (TL.joinL [44] r.outs)) en so := fun en so => by
    show (match strsOf (r.outs.map D.str) with | some ys => gd (szL ys + ys.length * ([44] : List Nat).length ≤ 16777216) (pu (D.str (TL.joinL [44] ys))) | none => no) en so = _
    rw [strsOf_str]
    refine gd_t ?_ _
    have := join_szs (fun l hl => (h.op l hl).len) h.o3
    have := h.o3
    rw [List.length_singleton]; omega
  have g1 : szL (r.needs.map Nd.tx) + (r.needs.map Nd.tx).length * ([59] : List Nat).length ≤ 16777216 := by
    have := join_szs (needs_len h) (show (r.needs.map Nd.tx).length ≤ 60 by rw [List.length_map]; exact h.nl)
    have := h.nl
    rw [List.length_singleton, List.length_map]; omega
  have g2 : szL (r.res.map fun k : Nat => tsD (k : Int)) + (r.res.map fun k : Nat => tsD (k : Int)).length * ([44] : List Nat).length ≤ 16777216 := by
    have := join_szs (res_len h) (show (r.res.map fun k : Nat => tsD (k : Int)).length ≤ 3 by rw [List.length_map, h.rl]; exact h.o3)
    have := h.rl
    have := h.o3
    rw [List.length_singleton, List.length_map]; omega
  have e0 : r.F = [some (.tup (r.outs.map .str)), some (.int (r.key : Int)), some (.tup (r.needs.map Nd.D)), some (.tup (r.res.map fun k : Nat => .int (k : Int)))] := rfl
  rw [e0] at ho
  have hlog := h.key.log
  have ne : TL.joinL [59] (r.needs.map Nd.tx) = [] ↔ r.needs = [] := by
    constructor
    · intro e
      by_cases hn : r.needs = []
      · exact hn
      · refine absurd e (joinL_ne 59 _ (by simpa using hn) fun l hl => ?_)
        obtain ⟨n, hn, rfl⟩ := List.mem_map.mp hl
        exact (nd_tx (h.nd n hn)).2.2.2.1
    · intro e; rw [e]; rfl
  have tail : ∀ nt : List Nat, nt = r.ntx → r__law_line_2 [some (.dat (.obj k)), some (.dat (.str nt)), none, none, none] so = .ok (.rt (.dat (.str r.tx))) [some (.dat (.obj k)), some (.dat (.str nt)), some (.dat (.str (TL.joinL [44] (r.res.map fun k : Nat => tsD (k : Int))))), none, none] so := fun nt hn => by
    subst hn
    have w1 : (TL.joinL [44] r.outs).length ≤ 190000 := ws_len h _ (by simp [Rc.ws])
    have w2 : (tsD (r.key : Int)).length ≤ 190000 := ws_len h _ (by simp [Rc.ws])
    have w3 : r.ntx.length ≤ 190000 := ws_len h _ (by simp [Rc.ws])
    have w4 : (TL.joinL [44] (r.res.map fun k : Nat => tsD (k : Int))).length ≤ 190000 := ws_len h _ (by simp [Rc.ws])
    have et : r.tx = TL.joinL [44] r.outs ++ 32 :: (tsD (r.key : Int) ++ 32 :: (r.ntx ++ 32 :: TL.joinL [44] (r.res.map fun k : Nat => tsD (k : Int)))) := by
      unfold Rc.tx
      simp [TL.joinL]
    rw [et]
    obtain ⟨A, hA⟩ : ∃ A, TL.joinL [44] r.outs = A := ⟨_, rfl⟩
    obtain ⟨B, hB⟩ : ∃ B, tsD (r.key : Int) = B := ⟨_, rfl⟩
    obtain ⟨C, hC⟩ : ∃ C, r.ntx = C := ⟨_, rfl⟩
    obtain ⟨E, hE⟩ : ∃ E, TL.joinL [44] (r.res.map fun k : Nat => tsD (k : Int)) = E := ⟨_, rfl⟩
    rw [hA] at w1 j3
    rw [hB] at w2
    rw [hC] at w3
    rw [hE] at w4 j2
    rw [hA, hB, hC, hE]
    simp [r__law_line_2, t__law_line_2, ho]
    rw [hlc2]
    simp [j2]
    rw [gd_t (by simpa using g2)]
    simp (disch := first | (simp; done) | omega | (simp; omega)) [t__law_line_3, ho, j3, hlog, hB]
  rw [c__law_line]
  simp [b__law_line, r__law_line_0, t__law_line_0, ho]
  rw [hlc1]
  simp [j1]
  rw [gd_t (by simpa using g1)]
  by_cases hn : r.needs = []
  · have e := ne.mpr hn
    simp [r__law_line_1, t__law_line_1, e]
    rw [tail [45] (by unfold Rc.ntx; rw [if_pos hn])]
    simp
  · have e : ¬ TL.joinL [59] (r.needs.map Nd.tx) = [] := fun z => hn (ne.mp z)
    simp [r__law_line_1, t__law_line_1, e]
    rw [tail _ (by unfold Rc.ntx; rw [if_neg hn])]
    simp
/-! ### the law -/
theorem eqDs_ints : ∀ (a b : List Nat), eqDs (a.map fun k : Nat => D.int (k : Int)) (b.map fun k : Nat => D.int (k : Int)) = decide (a = b)
  | [], [] => by simp
  | [], b :: r => by simp [eqDs]
  | a :: r, [] => by simp [eqDs]
  | a :: r, b :: t => by
    rw [List.map_cons, List.map_cons, eqDs_cons, eqD_ii, eqDs_ints r t, ← Bool.decide_and]
    exact decide_eq_decide.mpr ⟨fun h => by rw [Int.ofNat_inj.mp h.1, h.2], fun h => by injection h with h1 h2; exact ⟨by rw [h1], h2⟩⟩
theorem tup_eq (r q : Rc) : eqD r.tup q.tup = (decide (r.outs = q.outs) && (decide ((r.key : Int) = (q.key : Int)) && (eqDs (r.needs.map Nd.D) (q.needs.map Nd.D) && (decide (r.res = q.res) && true)))) := by
  unfold Rc.tup
  rw [eqD_tt, eqDs_cons, eqDs_cons, eqDs_cons, eqDs_cons, eqDs_nil, eqD_tt, eqD_ii, eqD_tt, eqD_tt, eqDs_str, eqDs_ints]
def R5 (r : Rc) : Rc := { r with key := r.key + 1 }
def R6 (r : Rc) : Rc := { r with needs := r.needs ++ [⟨[HAS, [122, 122]], .yn true⟩] }
def R7 (r : Rc) : Rc := { r with outs := r.outs.drop 1 ++ [[122, 122, 122]] }
def R8 (r : Rc) : Rc := { r with res := r.res.drop 1 ++ [r.res.getD 0 0 + 5] }
theorem R5_ne (r : Rc) : eqD (R5 r).tup r.tup = false := by
  rw [tup_eq]
  have : ¬ (((R5 r).key : Nat) : Int) = (r.key : Int) := by show ¬ ((r.key + 1 : Nat) : Int) = _; omega
  rw [decide_eq_false this]
  simp
theorem R6_ne (r : Rc) : eqD (R6 r).tup r.tup = false := by
  rw [tup_eq]
  have : eqDs ((R6 r).needs.map Nd.D) (r.needs.map Nd.D) = false := eqD_lens (by
    rw [List.length_map, List.length_map]
    show (r.needs ++ [_]).length ≠ _
    rw [List.length_append, List.length_singleton]
    omega)
  rw [this]
  simp
theorem R7_ne {r : Rc} (h : [122, 122, 122] ∉ r.outs) : eqD (R7 r).tup r.tup = false := by
  rw [tup_eq]
  have : ¬ (R7 r).outs = r.outs := fun e => h (by
    rw [← e]
    show _ ∈ r.outs.drop 1 ++ [[122, 122, 122]]
    simp)
  rw [decide_eq_false this]
  simp
theorem R8_ne {r : Rc} (h : r.res ≠ []) : eqD (R8 r).tup r.tup = false := by
  rw [tup_eq]
  have : ¬ (R8 r).res = r.res := fun e => by
    obtain ⟨a, t, ht⟩ := List.exists_cons_of_ne_nil h
    have e : r.res.drop 1 ++ [r.res.getD 0 0 + 5] = r.res := e
    rw [ht] at e
    have := congrArg List.sum e
    simp at this
    omega
  rw [decide_eq_false this]
  simp
theorem need_body (r : Rc) (x0 x1 x2 x3 x4 x5 x6 x7 x8 : Option B) (so : So) {n : Nd} (h : NdOk n) (h4 : x4 = some (.dat n.D)) : l_law_0 [x0, x1, x2, x3, x4, x5, x6, x7, x8] so = .ok .nx [x0, x1, x2, x3, x4, x5, x6, x7, x8] so := by
  subst h4
  have q := quest_ok n so
  have o := okq_strs 23 n.ps
  have o' : okq 24 (.tup (n.ps.map D.str)) = true := o
  have e : eqD (.tup (n.ps.map .str)) (.tup (n.ps.map .str)) = true := eqD_refl 24 _ o'
  have hc : cutL (n.ps.map D.str ++ [n.sn.D]) none (some (-1)) = n.ps.map D.str := cut_last _ _
  have q' : m_question [.tup (n.ps.map D.str ++ [n.sn.D])] so = .ok (.dat (.tup (n.ps.map .str))) so := q
  rw [eqD_tt] at e
  cases h with
  | path hk hp hs =>
    rcases hk with rfl | rfl
    · simp [l_law_0, Nd.D, FILE] at q' hc o e ⊢
      simp [q', hc, o, e]
    · simp [l_law_0, Nd.D, LINKW] at q' hc o e ⊢
      simp [q', hc, o, e]
  | has b hp =>
    simp [l_law_0, Nd.D, HAS, Sn.D] at q' hc o e ⊢
    simp [q', hc, o, e]
  | lst hd hq h47 hl hk =>
    simp [l_law_0, Nd.D, LISTG] at q' hc o e ⊢
    simp [q', hc, o, e]
  | set hn hs =>
    simp [l_law_0, Nd.D, SETTG] at q' hc o e ⊢
    simp [q', hc, o, e]
def EndT (r : Re Fl) : Prop := ∃ en so, r = .ok (.rt (.dat (.bl true))) en so
theorem loop_ok (r : Rc) (h : RcOk r) (x0 x1 x2 x3 x4 : Option B) (so : So) : ∃ y4, forGo (tgN 4) l_law_0 (r.needs.map Nd.D) [x0, x1, x2, x3, x4, none, none, none, none] so = .ok .nx [x0, x1, x2, x3, y4, none, none, none, none] so := by
  obtain ⟨en', so', g1, y4, g2, g3⟩ := forGo_at (tg := tgN 4) (body := l_law_0) Nd.D (fun done en so' => ∃ y4 : Option B, en = [x0, x1, x2, x3, y4, none, none, none, none] ∧ so' = so) r.needs r.needs [] [x0, x1, x2, x3, x4, none, none, none, none] so rfl ⟨x4, rfl, rfl⟩
    (fun done n rest en so1 hd ⟨y4, he, hs⟩ => by
      subst he hs
      have hm : n ∈ r.needs := by rw [← hd]; simp
      exact ⟨_, rfl, _, _, .inl (need_body r x0 x1 x2 x3 _ none none none none so1 (h.nd n hm) rfl), some (.dat n.D), rfl, rfl⟩)
  subst g2 g3
  exact ⟨y4, g1⟩
theorem lawT : LawT m_law := by
  intro ns _ _
  obtain ⟨l, hl, hrec⟩ := lawrec_ok ns []
  have ok := recF_ok hl
  have hz : [122, 122, 122] ∉ (recF l).outs := fun hm => by
    obtain ⟨k, hk, e⟩ := List.mem_map.mp hm
    have hk := List.mem_range.mp hk
    have := congrArg List.getLast? e
    unfold outF at this
    rw [TL.numL_lt (by omega), ← List.append_assoc, List.getLast?_concat] at this
    have : some (48 + k) = some 122 := this
    injection this with this
    omega
  obtain ⟨r, hr⟩ : ∃ r, recF l = r := ⟨_, rfl⟩
  rw [hr] at hrec ok hz
  have hrec : m__law_record [.lst (ns.map .int)] [] = .ok (.dat (.obj 0)) [.ob 24 r.F] := hrec
  have at0 : RcAt [.ob 24 r.F] 0 r := ⟨rfl⟩
  have f := frec_ok at0 ok
  have ln := line_ok at0 ok
  have p := prec_ok [.ob 24 r.F] ok
  have p : m_parse_record [.str r.tx] [.ob 24 r.F] = .ok (.dat (.obj 1)) [.ob 24 r.F, .ob 24 r.F] := p
  have q := receq_ok (so := [.ob 24 r.F, .ob 24 r.F]) (k := 1) (j := 0) (r := r) (q := r) ⟨rfl⟩ ⟨rfl⟩
  rw [rec_self] at q
  obtain ⟨y4, hloop⟩ := loop_ok r ok (some (.dat (.lst (ns.map .int)))) (some (.dat (.obj 0))) (some (.dat (.str r.tx))) (some (.dat (.obj 1))) none [.ob 24 r.F, .ob 24 r.F]
  have hr0 : r.res ≠ [] := fun e => by
    have := ok.rl
    rw [e] at this
    exact ok.o1 (List.eq_nil_of_length_eq_zero this.symm)
  have so6 : ∃ S, S = [Sc.ob 24 r.F, .ob 24 r.F, .ob 24 (R5 r).F, .ob 24 (R6 r).F, .ob 24 (R7 r).F, .ob 24 (R8 r).F] := ⟨_, rfl⟩
  obtain ⟨S, hS⟩ := so6
  have q5 := receq_ok (so := S) (k := 2) (j := 0) (r := R5 r) (q := r) ⟨by rw [hS]; rfl⟩ ⟨by rw [hS]; rfl⟩
  have q6 := receq_ok (so := S) (k := 3) (j := 0) (r := R6 r) (q := r) ⟨by rw [hS]; rfl⟩ ⟨by rw [hS]; rfl⟩
  have q7 := receq_ok (so := S) (k := 4) (j := 0) (r := R7 r) (q := r) ⟨by rw [hS]; rfl⟩ ⟨by rw [hS]; rfl⟩
  have q8 := receq_ok (so := S) (k := 5) (j := 0) (r := R8 r) (q := r) ⟨by rw [hS]; rfl⟩ ⟨by rw [hS]; rfl⟩
  rw [R5_ne] at q5
  rw [R6_ne] at q6
  rw [R7_ne hz] at q7
  rw [R8_ne hr0] at q8
  have e0 : r.F = [some (.tup (r.outs.map .str)), some (.int (r.key : Int)), some (.tup (r.needs.map Nd.D)), some (.tup (r.res.map fun k : Nat => .int (k : Int)))] := rfl
  have F6 : (R6 r).F = [some (.tup (r.outs.map .str)), some (.int (r.key : Int)), some (.tup (r.needs.map Nd.D ++ [.tup [.str [104, 97, 115], .str [122, 122], .bl true]])), some (.tup (r.res.map fun k : Nat => .int (k : Int)))] := by
    unfold Rc.F R6
    rw [List.map_append]
    rfl
  have F7 : (R7 r).F = [some (.tup ((r.outs.map D.str).drop 1 ++ [.str [122, 122, 122]])), some (.int (r.key : Int)), some (.tup (r.needs.map Nd.D)), some (.tup (r.res.map fun k : Nat => .int (k : Int)))] := by
    unfold Rc.F R7
    rw [List.map_append, List.map_drop]
    rfl
  have F8 : (R8 r).F = [some (.tup (r.outs.map .str)), some (.int (r.key : Int)), some (.tup (r.needs.map Nd.D)), some (.tup ((r.res.map fun k : Nat => D.int (k : Int)).drop 1 ++ [.int ((r.res.getD 0 0 : Nat) + 5 : Int)]))] := by
    unfold Rc.F R8
    rw [List.map_append, List.map_drop]
    rfl
  have F5 : (R5 r).F = [some (.tup (r.outs.map .str)), some (.int ((r.key : Int) + 1)), some (.tup (r.needs.map Nd.D)), some (.tup (r.res.map fun k : Nat => .int (k : Int)))] := rfl
  have k1 := okq_rc r 20
  have ers := rec_self r
  unfold Rc.tup at k1 ers
  have cd : ∀ xs : List D, cutL xs (some 1) none = xs.drop 1 := fun xs => cut_drop xs 1
  have at8 : L2.atI (r.res.map fun k : Nat => D.int (k : Int)) 0 = some (.int (r.res.getD 0 0 : Nat)) := by
    obtain ⟨a, t, ht⟩ := List.exists_cons_of_ne_nil hr0
    rw [ht]
    exact atI_nat (j := 0) rfl
  rw [F5, F6, F7, F8] at hS
  refine ⟨S, ?_⟩
  rw [c_law, b_law, r_law_0, t_law_0]
  simp [hrec]
  rw [r_law_1, t_law_1]
  simp [f]
  rw [r_law_2, t_law_2]
  simp [ln]
  rw [r_law_3, t_law_3]
  simp [p]
  rw [r_law_4, t_law_4]
  simp [eqO_at, q]
  rw [r_law_5, t_law_5]
  simp [e0, k1, ers, -okq_tup24, -okq_tup]
  rw [r_law_6, t_law_6]
  simp [e0]
  rw [e0] at hloop
  have lo := ok.o3
  have lr := ok.rl
  have ln' := ok.nl
  have g1 : r.needs.length + 1 ≤ 16777216 := by omega
  have g2 : r.outs.length - 1 + 1 ≤ 16777216 := by omega
  have g3 : r.res.length - 1 + 1 ≤ 16777216 := by omega
  rw [r_law_7, t_law_7]
  simp [e0]
  rw [hloop]
  simp
  rw [r_law_8, t_law_8]
  simp [c_Record___init__, b_Record___init__, r_Record___init___0, t_Record___init___0, r_Record___init___1, t_Record___init___1, r_Record___init___2, t_Record___init___2, t_Record___init___3]
  rw [r_law_9, t_law_9]
  simp [c_Record___init__, b_Record___init__, r_Record___init___0, t_Record___init___0, r_Record___init___1, t_Record___init___1, r_Record___init___2, t_Record___init___2, t_Record___init___3, g1]
  rw [r_law_10, t_law_10]
  simp [c_Record___init__, b_Record___init__, r_Record___init___0, t_Record___init___0, r_Record___init___1, t_Record___init___1, r_Record___init___2, t_Record___init___2, t_Record___init___3, cd, g2]
  rw [r_law_11, t_law_11]
  simp [c_Record___init__, b_Record___init__, r_Record___init___0, t_Record___init___0, r_Record___init___1, t_Record___init___1, r_Record___init___2, t_Record___init___2, t_Record___init___3, cd, at8, g3]
  have hS' : [Sc.ob 24 [some (.tup (r.outs.map .str)), some (.int (r.key : Int)), some (.tup (r.needs.map Nd.D)), some (.tup (r.res.map fun k : Nat => .int (k : Int)))], Sc.ob 24 [some (.tup (r.outs.map .str)), some (.int (r.key : Int)), some (.tup (r.needs.map Nd.D)), some (.tup (r.res.map fun k : Nat => .int (k : Int)))], .ob 24 [some (.tup (r.outs.map .str)), some (.int ((r.key : Int) + 1)), some (.tup (r.needs.map Nd.D)), some (.tup (r.res.map fun k : Nat => .int (k : Int)))], .ob 24 [some (.tup (r.outs.map .str)), some (.int (r.key : Int)), some (.tup (r.needs.map Nd.D ++ [.tup [.str [104, 97, 115], .str [122, 122], .bl true]])), some (.tup (r.res.map fun k : Nat => .int (k : Int)))], .ob 24 [some (.tup ((r.outs.map D.str).drop 1 ++ [.str [122, 122, 122]])), some (.int (r.key : Int)), some (.tup (r.needs.map Nd.D)), some (.tup (r.res.map fun k : Nat => .int (k : Int)))], .ob 24 [some (.tup (r.outs.map .str)), some (.int (r.key : Int)), some (.tup (r.needs.map Nd.D)), some (.tup ((r.res.map fun k : Nat => D.int (k : Int)).drop 1 ++ [.int ((r.res.getD 0 0 : Nat) + 5 : Int)]))]] = S := by rw [hS, e0]
  simp only [List.drop_one, List.getD_eq_getElem?_getD] at hS'
  have i0 : ∃ fs, S[0]? = some (Sc.ob 24 fs) := ⟨_, by rw [← hS']; rfl⟩
  have i2 : ∃ fs, S[2]? = some (Sc.ob 24 fs) := ⟨_, by rw [← hS']; rfl⟩
  have i3 : ∃ fs, S[3]? = some (Sc.ob 24 fs) := ⟨_, by rw [← hS']; rfl⟩
  have i4 : ∃ fs, S[4]? = some (Sc.ob 24 fs) := ⟨_, by rw [← hS']; rfl⟩
  have i5 : ∃ fs, S[5]? = some (Sc.ob 24 fs) := ⟨_, by rw [← hS']; rfl⟩
  obtain ⟨f0, i0⟩ := i0
  obtain ⟨f2, i2⟩ := i2
  obtain ⟨f3, i3⟩ := i3
  obtain ⟨f4, i4⟩ := i4
  obtain ⟨f5, i5⟩ := i5
  rw [hS', t_law_12]
  simp [eqO_at i2 i0, eqO_at i3 i0, eqO_at i4 i0, eqO_at i5 i0, q5, q6, q7, q8]
end Lk40

set_option Elab.async false
set_option linter.all false
set_option maxRecDepth 100000
set_option maxHeartbeats 4000000
/-! The text does what the data-level programs say (printed by gen.py). -/
namespace Lk40
open PySem PySem.Spec L2 Dl
abbrev PP : Program := PySem.Challenge.pw_kilnyard_k40_written_records
def topS (i : Nat) : Stmt := PySem.Challenge.pw_kilnyard_k40_written_records.main.body.getD i (.Pass ⟨0, 0, 0, 0⟩)
def inClass (st : Stmt) (j : Nat) : Stmt := match st with
  | .ClassDef (body := b) .. => b.getD j (.Pass ⟨0, 0, 0, 0⟩)
  | s => s
theorem cn_Record : cnm 24 = "Record" := by decide +kernel
theorem cn_InvalidRecord : cnm 25 = "InvalidRecord" := by decide +kernel
abbrev s_InvalidRecord___init__ : Stmt := inClass (topS 10) 0
abbrev s__law_numbers : Stmt := topS 38
abbrev s_Record___init__ : Stmt := inClass (topS 20) 0
abbrev s__law_cell : Stmt := topS 37
abbrev s_content_key : Stmt := topS 35
abbrev s__law_text : Stmt := topS 40
abbrev s__law_path : Stmt := topS 39
abbrev s__law_need : Stmt := topS 41
abbrev s__law_record : Stmt := topS 44
abbrev s_format_seen : Stmt := topS 22
abbrev s_format_need : Stmt := topS 23
abbrev s_format_record : Stmt := topS 24
abbrev s_is_name : Stmt := topS 6
abbrev s_is_path : Stmt := topS 7
abbrev s_parse_outputs : Stmt := topS 31
abbrev s_is_number : Stmt := topS 25
abbrev s_parse_key : Stmt := topS 26
abbrev s_parse_seen : Stmt := topS 27
abbrev s_is_identifier : Stmt := topS 14
abbrev s_is_pattern : Stmt := topS 8
abbrev s_is_subject : Stmt := topS 28
abbrev s_parse_need : Stmt := topS 29
abbrev s_question : Stmt := topS 21
abbrev s_parse_needs : Stmt := topS 30
abbrev s_parse_record : Stmt := topS 32
abbrev s_Record___eq__ : Stmt := inClass (topS 20) 1
abbrev s__law_seen : Stmt := topS 42
abbrev s__law_line : Stmt := topS 43
abbrev s_law : Stmt := topS 45
structure Tx (w : World) (K : PySem.W.Frag) (mg : Str → Option Value) : Prop where
  b_abs : mg "abs" = none
  b_all : mg "all" = none
  b_bool : mg "bool" = none
  b_enumerate : mg "enumerate" = none
  b_int : mg "int" = none
  b_isinstance : mg "isinstance" = none
  b_len : mg "len" = none
  b_list : mg "list" = none
  b_ord : mg "ord" = none
  b_range : mg "range" = none
  b_str : mg "str" = none
  b_tuple : mg "tuple" = none
  c_BASE : ∃ t, mg "BASE" = some (.int 128 t)
  c_DIGITS : ∃ z t, mg "DIGITS" = some (.str z t) ∧ z.cps.toList = [48, 49, 50, 51, 52, 53, 54, 55, 56, 57]
  c_IDENTIFIER_LIMIT : ∃ t, mg "IDENTIFIER_LIMIT" = some (.int 12 t)
  c_LETTERS : ∃ z t, mg "LETTERS" = some (.str z t) ∧ z.cps.toList = [97, 98, 99, 100, 101, 102, 103, 104, 105, 106, 107, 108, 109, 110, 111, 112, 113, 114, 115, 116, 117, 118, 119, 120, 121, 122]
  c_MOST_DIGITS : ∃ t, mg "MOST_DIGITS" = some (.int 4000 t)
  c_MOST_NEEDS : ∃ t, mg "MOST_NEEDS" = some (.int 60 t)
  c_MOST_OUTPUTS : ∃ t, mg "MOST_OUTPUTS" = some (.int 3 t)
  c_NAME_CHARACTERS : ∃ z t, mg "NAME_CHARACTERS" = some (.str z t) ∧ z.cps.toList = [97, 98, 99, 100, 101, 102, 103, 104, 105, 106, 107, 108, 109, 110, 111, 112, 113, 114, 115, 116, 117, 118, 119, 120, 121, 122, 48, 49, 50, 51, 52, 53, 54, 55, 56, 57, 95, 46]
  c_NAME_LIMIT : ∃ t, mg "NAME_LIMIT" = some (.int 12 t)
  c_PATH_LIMIT : ∃ t, mg "PATH_LIMIT" = some (.int 4 t)
  d__law_numbers : ∃ f fd, Fun K "_law_numbers" "_law_numbers" s__law_numbers f fd ∧ mg "_law_numbers" = some (.ref f) ∧ L2.Binds K fd ["_law_cell_here", "_law_count"] []
  d_Record___init__ : ∃ C f fd, mg "Record" = some (.ref C) ∧ Mk K C f ∧ Fun K "__init__" "Record.__init__" s_Record___init__ f fd ∧ L2.Binds K fd ["self", "outputs", "rule_key", "needs", "results"] []
  d__law_cell : ∃ f fd, Fun K "_law_cell" "_law_cell" s__law_cell f fd ∧ mg "_law_cell" = some (.ref f) ∧ L2.Binds K fd ["_law_script", "_law_k"] []
  d_content_key : ∃ f fd, Fun K "content_key" "content_key" s_content_key f fd ∧ mg "content_key" = some (.ref f) ∧ L2.Binds K fd ["text"] []
  d__law_text : ∃ f fd, Fun K "_law_text" "_law_text" s__law_text f fd ∧ mg "_law_text" = some (.ref f) ∧ L2.Binds K fd ["_law_n"] []
  d__law_path : ∃ f fd, Fun K "_law_path" "_law_path" s__law_path f fd ∧ mg "_law_path" = some (.ref f) ∧ L2.Binds K fd ["_law_n"] []
  d__law_need : ∃ f fd, Fun K "_law_need" "_law_need" s__law_need f fd ∧ mg "_law_need" = some (.ref f) ∧ L2.Binds K fd ["_law_kind", "_law_n", "_law_k"] []
  d__law_record : ∃ f fd, Fun K "_law_record" "_law_record" s__law_record f fd ∧ mg "_law_record" = some (.ref f) ∧ L2.Binds K fd ["_law_script"] []
  d_format_seen : ∃ f fd, Fun K "format_seen" "format_seen" s_format_seen f fd ∧ mg "format_seen" = some (.ref f) ∧ L2.Binds K fd ["seen"] []
  d_format_need : ∃ f fd, Fun K "format_need" "format_need" s_format_need f fd ∧ mg "format_need" = some (.ref f) ∧ L2.Binds K fd ["need"] []
  d_format_record : ∃ f fd, Fun K "format_record" "format_record" s_format_record f fd ∧ mg "format_record" = some (.ref f) ∧ L2.Binds K fd ["record"] []
  d_is_name : ∃ f fd, Fun K "is_name" "is_name" s_is_name f fd ∧ mg "is_name" = some (.ref f) ∧ L2.Binds K fd ["value", "characters"] []
  d_is_path : ∃ f fd, Fun K "is_path" "is_path" s_is_path f fd ∧ mg "is_path" = some (.ref f) ∧ L2.Binds K fd ["value"] []
  d_parse_outputs : ∃ f fd, Fun K "parse_outputs" "parse_outputs" s_parse_outputs f fd ∧ mg "parse_outputs" = some (.ref f) ∧ L2.Binds K fd ["word", "line"] []
  d_is_number : ∃ f fd, Fun K "is_number" "is_number" s_is_number f fd ∧ mg "is_number" = some (.ref f) ∧ L2.Binds K fd ["word"] [] ∧ PySem.W.nsIn K mainGlobals "is_number" = some (some (.ref f))
  d_parse_key : ∃ f fd, Fun K "parse_key" "parse_key" s_parse_key f fd ∧ mg "parse_key" = some (.ref f) ∧ L2.Binds K fd ["word", "line"] []
  d_parse_seen : ∃ f fd, Fun K "parse_seen" "parse_seen" s_parse_seen f fd ∧ mg "parse_seen" = some (.ref f) ∧ L2.Binds K fd ["word", "kind", "line"] []
  d_is_identifier : ∃ f fd, Fun K "is_identifier" "is_identifier" s_is_identifier f fd ∧ mg "is_identifier" = some (.ref f) ∧ L2.Binds K fd ["value"] []
  d_is_pattern : ∃ f fd, Fun K "is_pattern" "is_pattern" s_is_pattern f fd ∧ mg "is_pattern" = some (.ref f) ∧ L2.Binds K fd ["value"] []
  d_is_subject : ∃ f fd, Fun K "is_subject" "is_subject" s_is_subject f fd ∧ mg "is_subject" = some (.ref f) ∧ L2.Binds K fd ["parts"] []
  d_parse_need : ∃ f fd, Fun K "parse_need" "parse_need" s_parse_need f fd ∧ mg "parse_need" = some (.ref f) ∧ L2.Binds K fd ["word", "line"] []
  d_question : ∃ f fd, Fun K "question" "question" s_question f fd ∧ mg "question" = some (.ref f) ∧ L2.Binds K fd ["need"] []
  d_parse_needs : ∃ f fd, Fun K "parse_needs" "parse_needs" s_parse_needs f fd ∧ mg "parse_needs" = some (.ref f) ∧ L2.Binds K fd ["word", "line"] []
  d_parse_record : ∃ f fd, Fun K "parse_record" "parse_record" s_parse_record f fd ∧ mg "parse_record" = some (.ref f) ∧ L2.Binds K fd ["line"] []
  d_Record___eq__ : ∃ C f fd, mg "Record" = some (.ref C) ∧ Cls K C ∧ Meth K C "__eq__" f ∧ Fun K "__eq__" "Record.__eq__" s_Record___eq__ f fd ∧ L2.Binds K fd ["self", "other"] []
  d__law_seen : ∃ f fd, Fun K "_law_seen" "_law_seen" s__law_seen f fd ∧ mg "_law_seen" = some (.ref f) ∧ L2.Binds K fd ["_law_seen_here"] []
  d__law_line : ∃ f fd, Fun K "_law_line" "_law_line" s__law_line f fd ∧ mg "_law_line" = some (.ref f) ∧ L2.Binds K fd ["_law_record_here"] []
  d_law : ∃ f fd, Fun K "law" "law" s_law f fd ∧ mg "law" = some (.ref f) ∧ L2.Binds K fd ["_law_script"] []
  x_InvalidRecord : ∃ C fI fd, mg "InvalidRecord" = some (.ref C) ∧ ClsX K C C ∧ PySem.W.findIn K (.ref C) "__init__" = some (some (.ref fI)) ∧ PySem.W.typeIn K (.ref fI) = some (.type "function") ∧ FunX PP K mg "InvalidRecord.__init__" s_InvalidRecord___init__ fI fd C ∧ L2.Binds K fd ["self", "line"] [] ∧ ∀ p ∈ ([("line", 1)] : List (Str × Nat)), PySem.W.findIn K (.ref C) p.1 = some none
  f_0 : ∀ c i, ([(24, 0)] : List (Nat × Nat)).lookup c = some i → (clay c)[i]? = some "outputs" ∧ FldF K mg (cnm c) "outputs"
  f_1 : ∀ c i, ([(24, 1)] : List (Nat × Nat)).lookup c = some i → (clay c)[i]? = some "rule_key" ∧ FldF K mg (cnm c) "rule_key"
  f_2 : ∀ c i, ([(24, 2)] : List (Nat × Nat)).lookup c = some i → (clay c)[i]? = some "needs" ∧ FldF K mg (cnm c) "needs"
  f_3 : ∀ c i, ([(24, 3)] : List (Nat × Nat)).lookup c = some i → (clay c)[i]? = some "results" ∧ FldF K mg (cnm c) "results"
  ic_4 : InsN K mg 24 "Record"
  ec_5 : ∀ C, mg (cnm 24) = some (.ref C) → EqC K C
structure TxB (w : World) (K : PySem.W.Frag) (mg : Str → Option Value) (base : Heap) : Prop extends Tx w K mg where
  TB : ∀ p ∈ tabsK K, GxR.TabB base mg p.1 p.2
section
variable {w : World} {K : PySem.W.Frag} {mg : Str → Option Value} {base : Heap}
theorem exc_InvalidRecord (T : TxB w K mg base) : ExcD PP w K mg base 25 "InvalidRecord" 2 [("line", 1)] := by
  obtain ⟨C, fI, fd, hm, hc, hi, ht, hf, hb, hn⟩ := T.x_InvalidRecord
  refine ⟨⟨C, fI, C, fd, ["self", "line"], hm, hc, hi, ht, init_ok (ps := ["self", "line"]) (k := 0) hf (NdefX.nscope_by (by decide +kernel)) rfl rfl rfl rfl rfl rfl (by decide) (by decide) (by decide) (fun _ _ _ _ _ _ _ => (.cons (ps_ost (pv 0) (pv 1)) .nil)) (fun _ => rfl) (fun _ => rfl), hb, hn⟩, by decide, by decide, cn_InvalidRecord, by decide +kernel⟩
theorem sc__law_numbers : FnScope ["_law_cell_here", "_law_count", "_law_rest", "_law_large", "_law_mixed", "_law_row", "_law_k"] ["_law_cell_here", "_law_count"] (defScope s__law_numbers) := ⟨rfl, rfl, rfl, by decide +kernel, rfl, by decide +kernel, by decide +kernel⟩
theorem fn__law_numbers (T : TxB w K mg base) : Fn PP w K mg base "_law_numbers" m__law_numbers 1 := by
  obtain ⟨f, fd, F, hm, hb⟩ := T.d__law_numbers
  refine ⟨f, fd, _, fn_d (N := ["_law_cell_here", "_law_count", "_law_rest", "_law_large", "_law_mixed", "_law_row", "_law_k"]) (m := b__law_numbers) (k := 0) F sc__law_numbers (fun cdv A outer s H E hr => ?_), hm, F.kp, hb⟩
  have hu := hr.units
  exact DSs.eq (ss_cons (s_set (i := 2) sc__law_numbers.nd (d_callB call_abs opn_abs rfl T.b_abs (by decide +kernel) (a_cons (d_callTy call_int1 opn_int rfl T.b_int (by decide +kernel) (a_cons (d_var 0) a_nil)) a_nil)))
    (ss_cons (s_set (i := 3) sc__law_numbers.nd (d_cmp op_ge op2_ge (d_var 2) d_int (nomark _)))
    (ss_cons (s_set (i := 4) sc__law_numbers.nd (d_op op_addA op2_add (d_op op_mod op2_mod (d_callTy call_int1 opn_int rfl T.b_int (by decide +kernel) (a_cons (d_var 2) a_nil)) d_int) d_int))
    (ss_cons (s_setB (i := 5) sc__law_numbers.nd (b_lst a_nil))
    (ss_cons (s_for (passes_of rfl) rfl (i_range1 rfl T.b_range (d_var 1)) (g_name (i := 6) sc__law_numbers.nd) (ss_cons (s_set (i := 4) sc__law_numbers.nd (d_op op_mod op2_mod (d_callTy call_int1 opn_int rfl T.b_int (by decide +kernel) (a_cons (d_op op_addA op2_add (d_op op_addA op2_add (d_op op_mul op2_mul (d_var 4) d_int) (d_op op_mul op2_mul (d_var 6) d_int)) d_int) a_nil)) d_int))
    (ss_one (s_if (DW.dt (w_and (dt_tru (d_var 3)) (w_and1 (d_cmpT op_gt op2_gt (d_var 2) d_int (nomark _))))) (ss_cons (s_expr (d_hm1 PySem.F.slot_list_append PySem.F.type_list_append mt_append ow_append (h_var 5) (d_op op_mod op2_mod (d_callTy call_int1 opn_int rfl T.b_int (by decide +kernel) (a_cons (d_var 2) a_nil)) d_int)))
    (ss_one (s_set (i := 2) sc__law_numbers.nd (d_op op_fdiv op2_div (d_var 2) d_int)))) (ss_one (s_expr (d_hm1 PySem.F.slot_list_append PySem.F.type_list_append mt_append ow_append (h_var 5) (d_op op_mod op2_mod (d_callTy call_int1 opn_int rfl T.b_int (by decide +kernel) (a_cons (d_op op_fdiv op2_div (d_var 4) d_int) a_nil)) d_int))))))))
    (ss_one (s_retD (d_varF 5)))))))) (by rfl)
theorem sc_Record___init__ : FnScope ["self", "outputs", "rule_key", "needs", "results"] ["self", "outputs", "rule_key", "needs", "results"] (defScope s_Record___init__) := ⟨rfl, rfl, rfl, by decide +kernel, rfl, by decide +kernel, by decide +kernel⟩
theorem new_Record (T : TxB w K mg base) : NewF PP w K mg base 24 4 "Record" m_Record___init__ 1 := by
  obtain ⟨C, f, fd, hm, hc, F, hb⟩ := T.d_Record___init__
  refine ⟨⟨C, f, fd, _, hm, hc, fn_d (N := ["self", "outputs", "rule_key", "needs", "results"]) (m := b_Record___init__) (k := 0) F sc_Record___init__ (fun cdv A outer s H E hr => ?_), hb⟩, cn_Record, by decide +kernel⟩
  have hu := hr.units
  exact DSs.eq (ss_cons (s_fld T.f_0 (d_var 0) (d_var 1))
    (ss_cons (s_fld T.f_1 (d_var 0) (d_var 2))
    (ss_cons (s_fld T.f_2 (d_var 0) (d_var 3))
    (ss_one (s_fld T.f_3 (d_var 0) (d_var 4)))))) (by rfl)
theorem sc__law_cell : FnScope ["_law_script", "_law_k"] ["_law_script", "_law_k"] (defScope s__law_cell) := ⟨rfl, rfl, rfl, by decide +kernel, rfl, by decide +kernel, by decide +kernel⟩
theorem fn__law_cell (T : TxB w K mg base) : Fn PP w K mg base "_law_cell" m__law_cell 1 := by
  obtain ⟨f, fd, F, hm, hb⟩ := T.d__law_cell
  refine ⟨f, fd, _, fn_d (N := ["_law_script", "_law_k"]) (m := b__law_cell) (k := 0) F sc__law_cell (fun cdv A outer s H E hr => ?_), hm, F.kp, hb⟩
  have hu := hr.units
  exact DSs.eq (ss_cons (s_if (d_cmpT op_lt op2_lt (d_var 1) (d_callB call_len opn_len rfl T.b_len (by decide +kernel) (a_cons (d_var 0) a_nil)) (nomark _)) (ss_one (s_retD (d_ix (d_var 0) (d_var 1)))) ss_nil)
    (ss_one (s_retD d_int))) (by rfl)
theorem sc_content_key : FnScope ["text", "key", "char"] ["text"] (defScope s_content_key) := ⟨rfl, rfl, rfl, by decide +kernel, rfl, by decide +kernel, by decide +kernel⟩
theorem fn_content_key (T : TxB w K mg base) : Fn PP w K mg base "content_key" m_content_key 1 := by
  obtain ⟨f, fd, F, hm, hb⟩ := T.d_content_key
  refine ⟨f, fd, _, fn_d (N := ["text", "key", "char"]) (m := b_content_key) (k := 0) F sc_content_key (fun cdv A outer s H E hr => ?_), hm, F.kp, hb⟩
  have hu := hr.units
  exact DSs.eq (ss_cons (s_set (i := 1) sc_content_key.nd d_int)
    (ss_cons (s_for (passes_of rfl) rfl (i_str (d_var 0)) (g_name (i := 2) sc_content_key.nd) (ss_one (s_set (i := 1) sc_content_key.nd (d_op op_addA op2_add (d_op op_mul op2_mul (d_var 1) (d_gi rfl T.c_BASE)) (d_callB call_ord opn_ord rfl T.b_ord (by decide +kernel) (a_cons (d_var 2) a_nil))))))
    (ss_one (s_retD (d_var 1))))) (by rfl)
theorem sc__law_text : FnScope ["_law_n", "_law_parts"] ["_law_n"] (defScope s__law_text) := ⟨rfl, rfl, rfl, by decide +kernel, rfl, by decide +kernel, by decide +kernel⟩
theorem fn__law_text (T : TxB w K mg base) : Fn PP w K mg base "_law_text" m__law_text 1 := by
  obtain ⟨f, fd, F, hm, hb⟩ := T.d__law_text
  refine ⟨f, fd, _, fn_d (N := ["_law_n", "_law_parts"]) (m := b__law_text) (k := 0) F sc__law_text (fun cdv A outer s H E hr => ?_), hm, F.kp, hb⟩
  have hu := hr.units
  exact DSs.eq (ss_cons (s_set (i := 1) sc__law_text.nd (d_fz (b_lst (a_cons (d_str rfl) (a_cons (d_str rfl) (a_cons (d_str rfl) (a_cons (d_str rfl) (a_cons (d_str rfl) (a_cons (d_str rfl) (a_cons (d_str rfl) a_nil))))))))))
    (ss_one (s_retD (d_op op_addA op2_add (d_ix (d_var 1) (d_op op_mod op2_mod (d_callTy call_int1 opn_int rfl T.b_int (by decide +kernel) (a_cons (d_var 0) a_nil)) d_int)) (d_callTy (.or call_str_int SkE.call_str_str) opn_str rfl T.b_str (by decide +kernel) (a_cons (d_op op_mod op2_mod (d_op op_fdiv op2_div (d_callTy call_int1 opn_int rfl T.b_int (by decide +kernel) (a_cons (d_var 0) a_nil)) d_int) d_int) a_nil)))))) (by rfl)
theorem sc__law_path : FnScope ["_law_n", "_law_letters", "_law_names", "_law_k"] ["_law_n"] (defScope s__law_path) := ⟨rfl, rfl, rfl, by decide +kernel, rfl, by decide +kernel, by decide +kernel⟩
theorem fn__law_path (T : TxB w K mg base) : Fn PP w K mg base "_law_path" m__law_path 1 := by
  obtain ⟨f, fd, F, hm, hb⟩ := T.d__law_path
  refine ⟨f, fd, _, fn_d (N := ["_law_n", "_law_letters", "_law_names", "_law_k"]) (m := b__law_path) (k := 0) F sc__law_path (fun cdv A outer s H E hr => ?_), hm, F.kp, hb⟩
  have hu := hr.units
  exact DSs.eq (ss_cons (s_set (i := 1) sc__law_path.nd (d_str (l := [97, 98, 99, 100, 101, 102, 103, 104, 105, 106, 107, 108, 109, 110, 111, 112, 113, 114, 115, 116, 117, 118, 119, 120, 121, 122, 48, 49, 50, 51, 52, 53, 54, 55, 56, 57, 95]) (by decide +kernel)))
    (ss_cons (s_setLcD (i := 2) (own := [("_law_k", 3)]) rfl sc__law_path.nd (i_range1 rfl T.b_range (d_op op_addA op2_add d_int (d_op op_mod op2_mod (d_callTy call_int1 opn_int rfl T.b_int (by decide +kernel) (a_cons (d_var 0) a_nil)) d_int))) (blkOk_by (own := [("_law_k", 3)]) (N := ["_law_n", "_law_letters", "_law_names", "_law_k"]) (sc := defScope s__law_path) (by decide +kernel)) (fun _ _ _ _ _ => (g_name (i := 3) sc__law_path.nd)) (fun _ _ _ _ _ => ts_nil) (fun _ _ _ _ _ => (d_op op_addA op2_add (d_op op_addA op2_add (d_ix (d_var 1) (d_op op_mod op2_mod (d_callTy call_int1 opn_int rfl T.b_int (by decide +kernel) (a_cons (d_op op_addA op2_add (d_var 0) (d_op op_mul op2_mul d_int (d_var 3))) a_nil)) d_int)) (d_ix (d_var 1) (d_op op_mod op2_mod (d_callTy call_int1 opn_int rfl T.b_int (by decide +kernel) (a_cons (d_op op_addA op2_add (d_op op_fdiv op2_div (d_var 0) d_int) (d_var 3)) a_nil)) d_int))) (d_callTy (.or call_str_int SkE.call_str_str) opn_str rfl T.b_str (by decide +kernel) (a_cons (d_op op_mod op2_mod (d_callTy call_int1 opn_int rfl T.b_int (by decide +kernel) (a_cons (d_var 0) a_nil)) d_int) a_nil)))) (sw_true rfl rfl rfl (by decide +kernel)))
    (ss_one (s_retD (d_m1 PySem.F.slot_str_join PySem.F.type_str_join mt_join opm_join (d_str rfl) (d_var 2)))))) (by rfl)
theorem sc__law_need : FnScope ["_law_kind", "_law_n", "_law_k", "_law_key"] ["_law_kind", "_law_n", "_law_k"] (defScope s__law_need) := ⟨rfl, rfl, rfl, by decide +kernel, rfl, by decide +kernel, by decide +kernel⟩
theorem fn__law_need (T : TxB w K mg base) : Fn PP w K mg base "_law_need" m__law_need 2 := by
  obtain ⟨f, fd, F, hm, hb⟩ := T.d__law_need
  refine ⟨f, fd, _, fn_d (N := ["_law_kind", "_law_n", "_law_k", "_law_key"]) (m := b__law_need) (k := 1) F sc__law_need (fun cdv A outer s H E hr => ?_), hm, F.kp, hb⟩
  have hu := hr.units
  exact DSs.eq (ss_cons (s_set (i := 3) sc__law_need.nd (d_fz (d_call (fn_content_key T) (hr.mono (by decide)) rfl (takes_of rfl rfl rfl rfl) (a_cons (d_fz (d_call (fn__law_text T) (hr.mono (by decide)) rfl (takes_of rfl rfl rfl rfl) (a_cons (d_op op_addA op2_add (d_var 1) (d_var 2)) a_nil))) a_nil))))
    (ss_cons (s_if (d_cmpT (op_eqG hu) op2_eq (d_op op_mod op2_mod (d_callTy call_int1 opn_int rfl T.b_int (by decide +kernel) (a_cons (d_var 1) a_nil)) d_int) d_int (nomark _)) (ss_one (s_set (i := 3) sc__law_need.nd d_non)) ss_nil)
    (ss_cons (s_if (d_cmpT (op_eqG hu) op2_eq (d_var 0) d_int (nomark _)) (ss_one (s_retD (d_tup (a_cons (d_str rfl) (a_cons (d_op op_addA op2_add (d_fz (d_call (fn__law_path T) (hr.mono (by decide)) rfl (takes_of rfl rfl rfl rfl) (a_cons (d_var 1) a_nil))) (d_callTy (.or call_str_int SkE.call_str_str) opn_str rfl T.b_str (by decide +kernel) (a_cons (d_var 2) a_nil))) (a_cons (d_var 3) a_nil)))))) ss_nil)
    (ss_cons (s_if (d_cmpT (op_eqG hu) op2_eq (d_var 0) d_int (nomark _)) (ss_one (s_retD (d_tup (a_cons (d_str rfl) (a_cons (d_op op_addA op2_add (d_fz (d_call (fn__law_path T) (hr.mono (by decide)) rfl (takes_of rfl rfl rfl rfl) (a_cons (d_var 1) a_nil))) (d_callTy (.or call_str_int SkE.call_str_str) opn_str rfl T.b_str (by decide +kernel) (a_cons (d_var 2) a_nil))) (a_cons (d_cmp (op_eqG hu) op2_eq (d_op op_mod op2_mod (d_var 1) d_int) d_int (nomark _)) a_nil)))))) ss_nil)
    (ss_cons (s_if (d_cmpT (op_eqG hu) op2_eq (d_var 0) d_int (nomark _)) (ss_one (s_retD (d_tup (a_cons (d_str rfl) (a_cons (d_ix (d_fz (b_lst (a_cons (d_str rfl) (a_cons (d_fz (d_call (fn__law_path T) (hr.mono (by decide)) rfl (takes_of rfl rfl rfl rfl) (a_cons (d_var 1) a_nil))) a_nil)))) (d_op op_mod op2_mod (d_callTy call_int1 opn_int rfl T.b_int (by decide +kernel) (a_cons (d_var 1) a_nil)) d_int)) (a_cons (d_op op_addA op2_add (d_str rfl) (d_callTy (.or call_str_int SkE.call_str_str) opn_str rfl T.b_str (by decide +kernel) (a_cons (d_var 2) a_nil))) (a_cons (d_fz (d_call (fn_content_key T) (hr.mono (by decide)) rfl (takes_of rfl rfl rfl rfl) (a_cons (d_fz (d_call (fn__law_text T) (hr.mono (by decide)) rfl (takes_of rfl rfl rfl rfl) (a_cons (d_var 1) a_nil))) a_nil))) a_nil))))))) ss_nil)
    (ss_cons (s_if (d_cmpT (op_eqG hu) op2_eq (d_var 0) d_int (nomark _)) (ss_one (s_retD (d_tup (a_cons (d_str rfl) (a_cons (d_op op_addA op2_add (d_str rfl) (d_callTy (.or call_str_int SkE.call_str_str) opn_str rfl T.b_str (by decide +kernel) (a_cons (d_var 2) a_nil))) (a_cons (d_var 3) a_nil)))))) ss_nil)
    (ss_one (s_retD (d_tup (a_cons (d_str rfl) (a_cons (d_op op_addA op2_add (d_fz (d_call (fn__law_path T) (hr.mono (by decide)) rfl (takes_of rfl rfl rfl rfl) (a_cons (d_var 1) a_nil))) (d_callTy (.or call_str_int SkE.call_str_str) opn_str rfl T.b_str (by decide +kernel) (a_cons (d_var 2) a_nil))) (a_cons (d_var 3) a_nil)))))))))))) (by rfl)
theorem sc__law_record : FnScope ["_law_script", "_law_numbers_here", "_law_count", "_law_outputs", "_law_needs", "_law_results", "_law_k"] ["_law_script"] (defScope s__law_record) := ⟨rfl, rfl, rfl, by decide +kernel, rfl, by decide +kernel, by decide +kernel⟩
theorem fn__law_record (T : TxB w K mg base) : Fn PP w K mg base "_law_record" m__law_record 3 := by
  obtain ⟨f, fd, F, hm, hb⟩ := T.d__law_record
  refine ⟨f, fd, _, fn_d (N := ["_law_script", "_law_numbers_here", "_law_count", "_law_outputs", "_law_needs", "_law_results", "_law_k"]) (m := b__law_record) (k := 2) F sc__law_record (fun cdv A outer s H E hr => ?_), hm, F.kp, hb⟩
  have hu := hr.units
  exact DSs.eq (ss_cons (s_set (i := 1) sc__law_record.nd (d_fz (d_call (fn__law_numbers T) (hr.mono (by decide)) rfl (takes_of rfl rfl rfl rfl) (a_cons (d_fz (d_call (fn__law_cell T) (hr.mono (by decide)) rfl (takes_of rfl rfl rfl rfl) (a_cons (d_var 0) (a_cons d_int a_nil)))) (a_cons d_int a_nil)))))
    (ss_cons (s_set (i := 2) sc__law_record.nd (d_op op_addA op2_add d_int (d_op op_mod op2_mod (d_callTy call_int1 opn_int rfl T.b_int (by decide +kernel) (a_cons (d_ix (d_var 1) d_int) a_nil)) d_int)))
    (ss_cons (s_set (i := 3) sc__law_record.nd (d_callTy call_tuple_of opn_tuple rfl T.b_tuple (by decide +kernel) (a_cons (d_fz (b_lc (own := [("_law_k", 6)]) rfl sc__law_record.nd (i_range1 rfl T.b_range (d_var 2)) (blkOk_by (own := [("_law_k", 6)]) (N := ["_law_script", "_law_numbers_here", "_law_count", "_law_outputs", "_law_needs", "_law_results", "_law_k"]) (sc := defScope s__law_record) (by decide +kernel)) (fun _ _ _ _ _ => (g_name (i := 6) sc__law_record.nd)) (fun _ _ _ _ _ => ts_nil) (fun _ _ _ _ _ => (d_op op_addA op2_add (d_op op_addA op2_add (d_fz (d_call (fn__law_path T) (hr.mono (by decide)) rfl takes0 (a_cons (d_ix (d_var 1) (d_op op_addA op2_add d_int (d_var 6))) a_nil))) (d_str rfl)) (d_callTy (.or call_str_int SkE.call_str_str) opn_str rfl T.b_str (by decide +kernel) (a_cons (d_var 6) a_nil)))))) a_nil)))
    (ss_cons (s_set (i := 4) sc__law_record.nd (d_callTy call_tuple_of opn_tuple rfl T.b_tuple (by decide +kernel) (a_cons (d_fz (b_lc (own := [("_law_k", 6)]) rfl sc__law_record.nd (i_range1 rfl T.b_range (d_op op_mod op2_mod (d_callTy call_int1 opn_int rfl T.b_int (by decide +kernel) (a_cons (d_ix (d_var 1) d_int) a_nil)) d_int)) (blkOk_by (own := [("_law_k", 6)]) (N := ["_law_script", "_law_numbers_here", "_law_count", "_law_outputs", "_law_needs", "_law_results", "_law_k"]) (sc := defScope s__law_record) (by decide +kernel)) (fun _ _ _ _ _ => (g_name (i := 6) sc__law_record.nd)) (fun _ _ _ _ _ => ts_nil) (fun _ _ _ _ _ => (d_fz (d_call (fn__law_need T) (hr.mono (by decide)) rfl takes0 (a_cons (d_op op_mod op2_mod (d_callTy call_int1 opn_int rfl T.b_int (by decide +kernel) (a_cons (d_ix (d_var 1) (d_op op_addA op2_add d_int (d_op op_mul op2_mul d_int (d_var 6)))) a_nil)) d_int) (a_cons (d_callTy call_int1 opn_int rfl T.b_int (by decide +kernel) (a_cons (d_ix (d_var 1) (d_op op_addA op2_add d_int (d_op op_mul op2_mul d_int (d_var 6)))) a_nil)) (a_cons (d_var 6) a_nil)))))))) a_nil)))
    (ss_cons (s_set (i := 5) sc__law_record.nd (d_callTy call_tuple_of opn_tuple rfl T.b_tuple (by decide +kernel) (a_cons (d_fz (b_lc (own := [("_law_k", 6)]) rfl sc__law_record.nd (i_range1 rfl T.b_range (d_var 2)) (blkOk_by (own := [("_law_k", 6)]) (N := ["_law_script", "_law_numbers_here", "_law_count", "_law_outputs", "_law_needs", "_law_results", "_law_k"]) (sc := defScope s__law_record) (by decide +kernel)) (fun _ _ _ _ _ => (g_name (i := 6) sc__law_record.nd)) (fun _ _ _ _ _ => ts_nil) (fun _ _ _ _ _ => (d_fz (d_call (fn_content_key T) (hr.mono (by decide)) rfl takes0 (a_cons (d_fz (d_call (fn__law_text T) (hr.mono (by decide)) rfl takes0 (a_cons (d_ix (d_var 1) (d_op op_addA op2_add d_int (d_var 6))) a_nil))) a_nil)))))) a_nil)))
    (ss_one (s_retD (d_new (new_Record T) (hr.mono (by decide)) rfl (takes_of rfl rfl rfl rfl) (a_cons (d_var 3) (a_cons (d_fz (d_call (fn_content_key T) (hr.mono (by decide)) rfl (takes_of rfl rfl rfl rfl) (a_cons (d_op op_addA op2_add (d_fz (d_call (fn__law_text T) (hr.mono (by decide)) rfl (takes_of rfl rfl rfl rfl) (a_cons (d_ix (d_var 1) d_int) a_nil))) (d_str rfl)) a_nil))) (a_cons (d_var 4) (a_cons (d_var 5) a_nil)))))))))))) (by rfl)
theorem sc_format_seen : FnScope ["seen"] ["seen"] (defScope s_format_seen) := ⟨rfl, rfl, rfl, by decide +kernel, rfl, by decide +kernel, by decide +kernel⟩
theorem fn_format_seen (T : TxB w K mg base) : Fn PP w K mg base "format_seen" m_format_seen 1 := by
  obtain ⟨f, fd, F, hm, hb⟩ := T.d_format_seen
  refine ⟨f, fd, _, fn_d (N := ["seen"]) (m := b_format_seen) (k := 0) F sc_format_seen (fun cdv A outer s H E hr => ?_), hm, F.kp, hb⟩
  have hu := hr.units
  exact DSs.eq (ss_cons (s_if (d_isNT (d_var 0)) (ss_one (s_retD (d_str rfl))) ss_nil)
    (ss_cons (s_if (d_isBT (d_var 0)) (ss_one (s_retD (d_str rfl))) ss_nil)
    (ss_cons (s_if (d_isBT (d_var 0)) (ss_one (s_retD (d_str rfl))) ss_nil)
    (ss_one (s_retD (d_callTy (.or call_str_int SkE.call_str_str) opn_str rfl T.b_str (by decide +kernel) (a_cons (d_var 0) a_nil))))))) (by rfl)
theorem sc_format_need : FnScope ["need"] ["need"] (defScope s_format_need) := ⟨rfl, rfl, rfl, by decide +kernel, rfl, by decide +kernel, by decide +kernel⟩
theorem fn_format_need (T : TxB w K mg base) : Fn PP w K mg base "format_need" m_format_need 2 := by
  obtain ⟨f, fd, F, hm, hb⟩ := T.d_format_need
  refine ⟨f, fd, _, fn_d (N := ["need"]) (m := b_format_need) (k := 1) F sc_format_need (fun cdv A outer s H E hr => ?_), hm, F.kp, hb⟩
  have hu := hr.units
  exact DSs.eq (ss_one (s_retD (d_m1 PySem.F.slot_str_join PySem.F.type_str_join mt_join opm_join (d_str rfl) (d_fz (b_cat (d_fz (b_callTy call_list_of opn_list rfl T.b_list (by decide +kernel) (a_cons (d_slT (d_var 0) o_none (o_some (d_neg d_int))) a_nil))) (d_fz (b_lst (a_cons (d_fz (d_call (fn_format_seen T) (hr.mono (by decide)) rfl (takes_of rfl rfl rfl rfl) (a_cons (d_ix (d_var 0) (d_neg d_int)) a_nil))) a_nil)))))))) (by rfl)
theorem sc_format_record : FnScope ["record", "needs", "results", "need", "key"] ["record"] (defScope s_format_record) := ⟨rfl, rfl, rfl, by decide +kernel, rfl, by decide +kernel, by decide +kernel⟩
theorem fn_format_record (T : TxB w K mg base) : Fn PP w K mg base "format_record" m_format_record 3 := by
  obtain ⟨f, fd, F, hm, hb⟩ := T.d_format_record
  refine ⟨f, fd, _, fn_d (N := ["record", "needs", "results", "need", "key"]) (m := b_format_record) (k := 2) F sc_format_record (fun cdv A outer s H E hr => ?_), hm, F.kp, hb⟩
  have hu := hr.units
  exact DSs.eq (ss_cons (s_set (i := 1) sc_format_record.nd (d_m1 PySem.F.slot_str_join PySem.F.type_str_join mt_join opm_join (d_str rfl) (d_fz (b_lc (own := [("need", 3)]) rfl sc_format_record.nd (i_tup (d_fld T.f_2 (d_var 0))) (blkOk_by (own := [("need", 3)]) (N := ["record", "needs", "results", "need", "key"]) (sc := defScope s_format_record) (by decide +kernel)) (fun _ _ _ _ _ => (g_name (i := 3) sc_format_record.nd)) (fun _ _ _ _ _ => ts_nil) (fun _ _ _ _ _ => (d_fz (d_call (fn_format_need T) (hr.mono (by decide)) rfl takes0 (a_cons (d_var 3) a_nil))))))))
    (ss_cons (s_if (d_cmpT (op_eqG hu) op2_eq (d_var 1) (d_str rfl) (nomark _)) (ss_one (s_set (i := 1) sc_format_record.nd (d_str rfl))) ss_nil)
    (ss_cons (s_set (i := 2) sc_format_record.nd (d_m1 PySem.F.slot_str_join PySem.F.type_str_join mt_join opm_join (d_str rfl) (d_fz (b_lc (own := [("key", 4)]) rfl sc_format_record.nd (i_tup (d_fld T.f_3 (d_var 0))) (blkOk_by (own := [("key", 4)]) (N := ["record", "needs", "results", "need", "key"]) (sc := defScope s_format_record) (by decide +kernel)) (fun _ _ _ _ _ => (g_name (i := 4) sc_format_record.nd)) (fun _ _ _ _ _ => ts_nil) (fun _ _ _ _ _ => (d_callTy (.or call_str_int SkE.call_str_str) opn_str rfl T.b_str (by decide +kernel) (a_cons (d_var 4) a_nil)))))))
    (ss_one (s_retD (d_m1 PySem.F.slot_str_join PySem.F.type_str_join mt_join opm_join (d_str rfl) (d_fz (b_lst (a_cons (d_m1 PySem.F.slot_str_join PySem.F.type_str_join mt_join opm_join (d_str rfl) (d_fld T.f_0 (d_var 0))) (a_cons (d_callTy (.or call_str_int SkE.call_str_str) opn_str rfl T.b_str (by decide +kernel) (a_cons (d_fld T.f_1 (d_var 0)) a_nil)) (a_cons (d_var 1) (a_cons (d_var 2) a_nil)))))))))))) (by rfl)
theorem sc_is_name : FnScope ["value", "characters", "char"] ["value", "characters"] (defScope s_is_name) := ⟨rfl, rfl, rfl, by decide +kernel, rfl, by decide +kernel, by decide +kernel⟩
theorem fn_is_name (T : TxB w K mg base) : Fn PP w K mg base "is_name" m_is_name 1 := by
  obtain ⟨f, fd, F, hm, hb⟩ := T.d_is_name
  refine ⟨f, fd, _, fn_d (N := ["value", "characters", "char"]) (m := b_is_name) (k := 0) F sc_is_name (fun cdv A outer s H E hr => ?_), hm, F.kp, hb⟩
  have hu := hr.units
  exact DSs.eq (ss_cons (s_if (DW.dt (w_or (d_cmpT op_lt op2_lt (d_callB call_len opn_len rfl T.b_len (by decide +kernel) (a_cons (d_var 0) a_nil)) d_int (nomark _)) (w_or (d_cmpT op_gt op2_gt (d_callB call_len opn_len rfl T.b_len (by decide +kernel) (a_cons (d_var 0) a_nil)) (d_gi rfl T.c_NAME_LIMIT) (nomark _)) (w_or1 (d_cmpT (op_eqG hu) op2_eq (d_ix (d_var 0) d_int) (d_str rfl) (nomark _)))))) (ss_one (s_retD d_bl)) ss_nil)
    (ss_one (s_retD (d_callB (cr_all rfl) opn_all rfl T.b_all (by decide +kernel) (a_cons (d_fz (b_lc (own := [("char", 2)]) rfl sc_is_name.nd (i_str (d_var 0)) (blkOk_by (own := [("char", 2)]) (N := ["value", "characters", "char"]) (sc := defScope s_is_name) (by decide +kernel)) (fun _ _ _ _ _ => (g_name (i := 2) sc_is_name.nd)) (fun _ _ _ _ _ => ts_nil) (fun _ _ _ _ _ => (d_cmp (op_inA hu) op2_in (d_var 2) (d_var 1) (by with_unfolding_all rfl))))) a_nil))))) (by rfl)
theorem sc_is_path : FnScope ["value", "names", "name"] ["value"] (defScope s_is_path) := ⟨rfl, rfl, rfl, by decide +kernel, rfl, by decide +kernel, by decide +kernel⟩
theorem fn_is_path (T : TxB w K mg base) : Fn PP w K mg base "is_path" m_is_path 2 := by
  obtain ⟨f, fd, F, hm, hb⟩ := T.d_is_path
  refine ⟨f, fd, _, fn_d (N := ["value", "names", "name"]) (m := b_is_path) (k := 1) F sc_is_path (fun cdv A outer s H E hr => ?_), hm, F.kp, hb⟩
  have hu := hr.units
  exact DSs.eq (ss_cons (s_set (i := 1) sc_is_path.nd (d_fz (b_m1 PySem.F.slot_str_split PySem.F.type_str_split mt_split opm_split (d_var 0) (d_str rfl))))
    (ss_one (s_retD (d_and (d_cmp op_le op2_le (d_callB call_len opn_len rfl T.b_len (by decide +kernel) (a_cons (d_var 1) a_nil)) (d_gi rfl T.c_PATH_LIMIT) (nomark _)) (d_one (d_callB (cr_all rfl) opn_all rfl T.b_all (by decide +kernel) (a_cons (d_fz (b_lc (own := [("name", 2)]) rfl sc_is_path.nd (i_list (d_var 1)) (blkOk_by (own := [("name", 2)]) (N := ["value", "names", "name"]) (sc := defScope s_is_path) (by decide +kernel)) (fun _ _ _ _ _ => (g_name (i := 2) sc_is_path.nd)) (fun _ _ _ _ _ => ts_nil) (fun _ _ _ _ _ => (d_fz (d_call (fn_is_name T) (hr.mono (by decide)) rfl takes0 (a_cons (d_var 2) (a_cons (d_gs rfl T.c_NAME_CHARACTERS) a_nil))))))) a_nil))))))) (by rfl)
theorem sc_parse_outputs : FnScope ["word", "line", "outputs", "index", "path"] ["word", "line"] (defScope s_parse_outputs) := ⟨rfl, rfl, rfl, by decide +kernel, rfl, by decide +kernel, by decide +kernel⟩
theorem fn_parse_outputs (T : TxB w K mg base) : Fn PP w K mg base "parse_outputs" m_parse_outputs 3 := by
  obtain ⟨f, fd, F, hm, hb⟩ := T.d_parse_outputs
  refine ⟨f, fd, _, fn_d (N := ["word", "line", "outputs", "index", "path"]) (m := b_parse_outputs) (k := 2) F sc_parse_outputs (fun cdv A outer s H E hr => ?_), hm, F.kp, hb⟩
  have hu := hr.units
  exact DSs.eq (ss_cons (s_set (i := 2) sc_parse_outputs.nd (d_fz (b_m1 PySem.F.slot_str_split PySem.F.type_str_split mt_split opm_split (d_var 0) (d_str rfl))))
    (ss_cons (s_if (d_cmpT op_gt op2_gt (d_callB call_len opn_len rfl T.b_len (by decide +kernel) (a_cons (d_var 2) a_nil)) (d_gi rfl T.c_MOST_OUTPUTS) (nomark _)) (ss_one (s_raise (k := 0) (exc_InvalidRecord T) rfl rfl (takes_of rfl rfl rfl rfl) (hr.mono (by decide)) rfl (a_cons (d_var 1) a_nil))) ss_nil)
    (ss_cons (s_for (passes_of rfl) rfl (i_enum rfl T.b_enumerate (d_var 2)) (g_pair (i := 3) (j := 4) rfl (by decide) sc_parse_outputs.nd) (ss_one (s_if (DW.dt (w_or (t_not (dt_tru (d_fz (d_call (fn_is_path T) (hr.mono (by decide)) rfl (takes_of rfl rfl rfl rfl) (a_cons (d_var 4) a_nil))))) (w_or1 (d_cmpT (op_inA hu) op2_in (d_var 4) (d_fz (b_slL (d_var 2) o_none (o_some (d_var 3)))) (by with_unfolding_all rfl))))) (ss_one (s_raise (k := 0) (exc_InvalidRecord T) rfl rfl (takes_of rfl rfl rfl rfl) (hr.mono (by decide)) rfl (a_cons (d_var 1) a_nil))) ss_nil)))
    (ss_one (s_retD (d_callTy call_tuple_of opn_tuple rfl T.b_tuple (by decide +kernel) (a_cons (d_var 2) a_nil))))))) (by rfl)
theorem sc_is_number : FnScope ["word", "char"] ["word"] (defScope s_is_number) := ⟨rfl, rfl, rfl, by decide +kernel, rfl, by decide +kernel, by decide +kernel⟩
theorem fn_is_number (T : TxB w K mg base) : Fn PP w K mg base "is_number" m_is_number 1 := by
  obtain ⟨f, fd, F, hm, hb, hnx⟩ := T.d_is_number
  refine ⟨f, fd, _, fn_dG (N := ["word", "char"]) (m := b_is_number) (k := 0) T.TB hnx (by decide) F sc_is_number (fun c0 T1 A outer s H E htm htb hr => ?_), hm, F.kp, hb⟩
  have hu := hr.units
  exact DSs.eq (ss_cons (s_if (DW.dt (w_or (d_cmpT (op_eqG hu) op2_eq (d_var 0) (d_str rfl) (nomark _)) (w_or (d_cmpT op_gt op2_gt (d_callB call_len opn_len rfl T.b_len (by decide +kernel) (a_cons (d_var 0) a_nil)) (d_gi rfl T.c_MOST_DIGITS) (nomark _)) (w_or1 (d_cmpT (op_eqG hu) op2_eq (d_ix (d_var 0) d_int) (d_str rfl) (nomark _)))))) (ss_one (s_retD d_bl)) ss_nil)
    (ss_one (s_retD (d_allN hr rfl T.b_all htb htm rfl (genS_of rfl rfl (by decide +kernel) rfl rfl (by decide +kernel)) (d_var 0) (elt_inG rfl rfl rfl T.c_DIGITS))))) (by rfl)
theorem sc_parse_key : FnScope ["word", "line"] ["word", "line"] (defScope s_parse_key) := ⟨rfl, rfl, rfl, by decide +kernel, rfl, by decide +kernel, by decide +kernel⟩
theorem fn_parse_key (T : TxB w K mg base) : Fn PP w K mg base "parse_key" m_parse_key 3 := by
  obtain ⟨f, fd, F, hm, hb⟩ := T.d_parse_key
  refine ⟨f, fd, _, fn_d (N := ["word", "line"]) (m := b_parse_key) (k := 2) F sc_parse_key (fun cdv A outer s H E hr => ?_), hm, F.kp, hb⟩
  have hu := hr.units
  exact DSs.eq (ss_cons (s_if (t_not (dt_tru (d_fz (d_call (fn_is_number T) (hr.mono (by decide)) rfl (takes_of rfl rfl rfl rfl) (a_cons (d_var 0) a_nil))))) (ss_one (s_raise (k := 0) (exc_InvalidRecord T) rfl rfl (takes_of rfl rfl rfl rfl) (hr.mono (by decide)) rfl (a_cons (d_var 1) a_nil))) ss_nil)
    (ss_one (s_retD (d_callTy (.or call_int1 call_int_str) opn_intX rfl T.b_int (by decide +kernel) (a_cons (d_var 0) a_nil))))) (by rfl)
theorem sc_parse_seen : FnScope ["word", "kind", "line"] ["word", "kind", "line"] (defScope s_parse_seen) := ⟨rfl, rfl, rfl, by decide +kernel, rfl, by decide +kernel, by decide +kernel⟩
theorem fn_parse_seen (T : TxB w K mg base) : Fn PP w K mg base "parse_seen" m_parse_seen 4 := by
  obtain ⟨f, fd, F, hm, hb⟩ := T.d_parse_seen
  refine ⟨f, fd, _, fn_d (N := ["word", "kind", "line"]) (m := b_parse_seen) (k := 3) F sc_parse_seen (fun cdv A outer s H E hr => ?_), hm, F.kp, hb⟩
  have hu := hr.units
  exact DSs.eq (ss_cons (s_if (d_cmpT (op_eqG hu) op2_eq (d_var 1) (d_str rfl) (nomark _)) (ss_cons (s_if (d_cmpT (op_niA hu) op2_ni (d_var 0) (d_tup (a_cons (d_str rfl) (a_cons (d_str rfl) a_nil))) (by with_unfolding_all rfl)) (ss_one (s_raise (k := 0) (exc_InvalidRecord T) rfl rfl (takes_of rfl rfl rfl rfl) (hr.mono (by decide)) rfl (a_cons (d_var 2) a_nil))) ss_nil)
    (ss_one (s_retD (d_cmp (op_eqG hu) op2_eq (d_var 0) (d_str rfl) (nomark _))))) ss_nil)
    (ss_cons (s_if (DW.dt (w_and (d_cmpT (op_eqG hu) op2_eq (d_var 0) (d_str rfl) (nomark _)) (w_and1 (d_cmpT (op_neG hu) op2_ne (d_var 1) (d_str rfl) (nomark _))))) (ss_one (s_retD d_non)) ss_nil)
    (ss_one (s_retD (d_fz (d_call (fn_parse_key T) (hr.mono (by decide)) rfl (takes_of rfl rfl rfl rfl) (a_cons (d_var 0) (a_cons (d_var 2) a_nil)))))))) (by rfl)
theorem sc_is_identifier : FnScope ["value", "char"] ["value"] (defScope s_is_identifier) := ⟨rfl, rfl, rfl, by decide +kernel, rfl, by decide +kernel, by decide +kernel⟩
theorem fn_is_identifier (T : TxB w K mg base) : Fn PP w K mg base "is_identifier" m_is_identifier 1 := by
  obtain ⟨f, fd, F, hm, hb⟩ := T.d_is_identifier
  refine ⟨f, fd, _, fn_d (N := ["value", "char"]) (m := b_is_identifier) (k := 0) F sc_is_identifier (fun cdv A outer s H E hr => ?_), hm, F.kp, hb⟩
  have hu := hr.units
  exact DSs.eq (ss_cons (s_if (DW.dt (w_or (d_cmpT op_lt op2_lt (d_callB call_len opn_len rfl T.b_len (by decide +kernel) (a_cons (d_var 0) a_nil)) d_int (nomark _)) (w_or (d_cmpT op_gt op2_gt (d_callB call_len opn_len rfl T.b_len (by decide +kernel) (a_cons (d_var 0) a_nil)) (d_gi rfl T.c_IDENTIFIER_LIMIT) (nomark _)) (w_or1 (d_cmpT (op_niA hu) op2_ni (d_ix (d_var 0) d_int) (d_gs rfl T.c_LETTERS) (by with_unfolding_all rfl)))))) (ss_one (s_retD d_bl)) ss_nil)
    (ss_one (s_retD (d_callB (cr_all rfl) opn_all rfl T.b_all (by decide +kernel) (a_cons (d_fz (b_lc (own := [("char", 1)]) rfl sc_is_identifier.nd (i_str (d_var 0)) (blkOk_by (own := [("char", 1)]) (N := ["value", "char"]) (sc := defScope s_is_identifier) (by decide +kernel)) (fun _ _ _ _ _ => (g_name (i := 1) sc_is_identifier.nd)) (fun _ _ _ _ _ => ts_nil) (fun _ _ _ _ _ => (d_cmp (op_inA hu) op2_in (d_var 1) (d_op op_addA op2_add (d_gs rfl T.c_LETTERS) (d_str (l := [48, 49, 50, 51, 52, 53, 54, 55, 56, 57, 95]) (by decide +kernel))) (by with_unfolding_all rfl))))) a_nil))))) (by rfl)
theorem sc_is_pattern : FnScope ["value", "names", "name"] ["value"] (defScope s_is_pattern) := ⟨rfl, rfl, rfl, by decide +kernel, rfl, by decide +kernel, by decide +kernel⟩
theorem fn_is_pattern (T : TxB w K mg base) : Fn PP w K mg base "is_pattern" m_is_pattern 2 := by
  obtain ⟨f, fd, F, hm, hb⟩ := T.d_is_pattern
  refine ⟨f, fd, _, fn_d (N := ["value", "names", "name"]) (m := b_is_pattern) (k := 1) F sc_is_pattern (fun cdv A outer s H E hr => ?_), hm, F.kp, hb⟩
  have hu := hr.units
  exact DSs.eq (ss_cons (s_set (i := 1) sc_is_pattern.nd (d_fz (b_m1 PySem.F.slot_str_split PySem.F.type_str_split mt_split opm_split (d_var 0) (d_str rfl))))
    (ss_cons (s_if (DW.dt (w_or (d_cmpT op_gt op2_gt (d_callB call_len opn_len rfl T.b_len (by decide +kernel) (a_cons (d_var 1) a_nil)) (d_gi rfl T.c_PATH_LIMIT) (nomark _)) (w_or1 (d_cmpT (op_neG hu) op2_ne (d_m1 PySem.F.slot_str_count PySem.F.type_str_count mt_count opm_count (d_var 0) (d_str rfl)) d_int (nomark _))))) (ss_one (s_retD d_bl)) ss_nil)
    (ss_one (s_retD (d_callB (cr_all rfl) opn_all rfl T.b_all (by decide +kernel) (a_cons (d_fz (b_lc (own := [("name", 2)]) rfl sc_is_pattern.nd (i_list (d_var 1)) (blkOk_by (own := [("name", 2)]) (N := ["value", "names", "name"]) (sc := defScope s_is_pattern) (by decide +kernel)) (fun _ _ _ _ _ => (g_name (i := 2) sc_is_pattern.nd)) (fun _ _ _ _ _ => ts_nil) (fun _ _ _ _ _ => (d_fz (d_call (fn_is_name T) (hr.mono (by decide)) rfl takes0 (a_cons (d_var 2) (a_cons (d_op op_addA op2_add (d_gs rfl T.c_NAME_CHARACTERS) (d_str rfl)) a_nil))))))) a_nil)))))) (by rfl)
theorem sc_is_subject : FnScope ["parts", "directory_is_valid"] ["parts"] (defScope s_is_subject) := ⟨rfl, rfl, rfl, by decide +kernel, rfl, by decide +kernel, by decide +kernel⟩
theorem fn_is_subject (T : TxB w K mg base) : Fn PP w K mg base "is_subject" m_is_subject 3 := by
  obtain ⟨f, fd, F, hm, hb⟩ := T.d_is_subject
  refine ⟨f, fd, _, fn_d (N := ["parts", "directory_is_valid"]) (m := b_is_subject) (k := 2) F sc_is_subject (fun cdv A outer s H E hr => ?_), hm, F.kp, hb⟩
  have hu := hr.units
  exact DSs.eq (ss_cons (s_if (DW.dt (w_and (d_cmpT (op_eqG hu) op2_eq (d_callB call_len opn_len rfl T.b_len (by decide +kernel) (a_cons (d_var 0) a_nil)) d_int (nomark _)) (w_and1 (d_cmpT (op_eqG hu) op2_eq (d_ix (d_var 0) d_int) (d_str rfl) (nomark _))))) (ss_cons (s_set (i := 1) sc_is_subject.nd (d_or (d_cmp (op_eqG hu) op2_eq (d_ix (d_var 0) d_int) (d_str rfl) (nomark _)) (d_one (d_fz (d_call (fn_is_path T) (hr.mono (by decide)) rfl (takes_of rfl rfl rfl rfl) (a_cons (d_ix (d_var 0) d_int) a_nil))))))
    (ss_one (s_retD (d_and (d_var 1) (d_and (d_fz (d_call (fn_is_pattern T) (hr.mono (by decide)) rfl (takes_of rfl rfl rfl rfl) (a_cons (d_ix (d_var 0) d_int) a_nil))) (d_one (d_cmp (op_niA hu) op2_ni (d_str rfl) (d_ix (d_var 0) d_int) (by with_unfolding_all rfl)))))))) ss_nil)
    (ss_cons (s_if (d_cmpT (op_neG hu) op2_ne (d_callB call_len opn_len rfl T.b_len (by decide +kernel) (a_cons (d_var 0) a_nil)) d_int (nomark _)) (ss_one (s_retD d_bl)) ss_nil)
    (ss_cons (s_if (d_cmpT (op_eqG hu) op2_eq (d_ix (d_var 0) d_int) (d_str rfl) (nomark _)) (ss_one (s_retD (d_fz (d_call (fn_is_identifier T) (hr.mono (by decide)) rfl (takes_of rfl rfl rfl rfl) (a_cons (d_ix (d_var 0) d_int) a_nil))))) ss_nil)
    (ss_one (s_retD (d_and (d_cmp (op_inA hu) op2_in (d_ix (d_var 0) d_int) (d_tup (a_cons (d_str rfl) (a_cons (d_str rfl) (a_cons (d_str rfl) a_nil)))) (by with_unfolding_all rfl)) (d_one (d_fz (d_call (fn_is_path T) (hr.mono (by decide)) rfl (takes_of rfl rfl rfl rfl) (a_cons (d_ix (d_var 0) d_int) a_nil)))))))))) (by rfl)
theorem sc_parse_need : FnScope ["word", "line", "parts", "seen"] ["word", "line"] (defScope s_parse_need) := ⟨rfl, rfl, rfl, by decide +kernel, rfl, by decide +kernel, by decide +kernel⟩
theorem fn_parse_need (T : TxB w K mg base) : Fn PP w K mg base "parse_need" m_parse_need 5 := by
  obtain ⟨f, fd, F, hm, hb⟩ := T.d_parse_need
  refine ⟨f, fd, _, fn_d (N := ["word", "line", "parts", "seen"]) (m := b_parse_need) (k := 4) F sc_parse_need (fun cdv A outer s H E hr => ?_), hm, F.kp, hb⟩
  have hu := hr.units
  exact DSs.eq (ss_cons (s_set (i := 2) sc_parse_need.nd (d_fz (b_m1 PySem.F.slot_str_split PySem.F.type_str_split mt_split opm_split (d_var 0) (d_str rfl))))
    (ss_cons (s_if (t_not (dt_tru (d_fz (d_call (fn_is_subject T) (hr.mono (by decide)) rfl (takes_of rfl rfl rfl rfl) (a_cons (d_fz (b_slL (d_var 2) o_none (o_some (d_neg d_int)))) a_nil))))) (ss_one (s_raise (k := 0) (exc_InvalidRecord T) rfl rfl (takes_of rfl rfl rfl rfl) (hr.mono (by decide)) rfl (a_cons (d_var 1) a_nil))) ss_nil)
    (ss_cons (s_set (i := 3) sc_parse_need.nd (d_fz (d_call (fn_parse_seen T) (hr.mono (by decide)) rfl (takes_of rfl rfl rfl rfl) (a_cons (d_ix (d_var 2) (d_neg d_int)) (a_cons (d_ix (d_var 2) d_int) (a_cons (d_var 1) a_nil))))))
    (ss_one (s_retD (d_op op_catA op2_catT (d_callTy call_tuple_of opn_tuple rfl T.b_tuple (by decide +kernel) (a_cons (d_fz (b_slL (d_var 2) o_none (o_some (d_neg d_int)))) a_nil)) (d_tup (a_cons (d_var 3) a_nil)))))))) (by rfl)
theorem sc_question : FnScope ["need"] ["need"] (defScope s_question) := ⟨rfl, rfl, rfl, by decide +kernel, rfl, by decide +kernel, by decide +kernel⟩
theorem fn_question (T : TxB w K mg base) : Fn PP w K mg base "question" m_question 1 := by
  obtain ⟨f, fd, F, hm, hb⟩ := T.d_question
  refine ⟨f, fd, _, fn_d (N := ["need"]) (m := b_question) (k := 0) F sc_question (fun cdv A outer s H E hr => ?_), hm, F.kp, hb⟩
  have hu := hr.units
  exact DSs.eq (ss_one (s_retD (d_slT (d_var 0) o_none (o_some (d_neg d_int))))) (by rfl)
theorem sc_parse_needs : FnScope ["word", "line", "needs", "questions", "part", "need"] ["word", "line"] (defScope s_parse_needs) := ⟨rfl, rfl, rfl, by decide +kernel, rfl, by decide +kernel, by decide +kernel⟩
theorem fn_parse_needs (T : TxB w K mg base) : Fn PP w K mg base "parse_needs" m_parse_needs 6 := by
  obtain ⟨f, fd, F, hm, hb⟩ := T.d_parse_needs
  refine ⟨f, fd, _, fn_d (N := ["word", "line", "needs", "questions", "part", "need"]) (m := b_parse_needs) (k := 5) F sc_parse_needs (fun cdv A outer s H E hr => ?_), hm, F.kp, hb⟩
  have hu := hr.units
  exact DSs.eq (ss_cons (s_if (d_cmpT (op_eqG hu) op2_eq (d_var 0) (d_str rfl) (nomark _)) (ss_one (s_retD (d_tup a_nil))) ss_nil)
    (ss_cons (s_setB (i := 2) sc_parse_needs.nd (b_lst a_nil))
    (ss_cons (s_setB (i := 3) sc_parse_needs.nd (b_lst a_nil))
    (ss_cons (s_for (passes_of rfl) rfl (i_list (d_fz (b_m1 PySem.F.slot_str_split PySem.F.type_str_split mt_split opm_split (d_var 0) (d_str rfl)))) (g_name (i := 4) sc_parse_needs.nd) (ss_cons (s_set (i := 5) sc_parse_needs.nd (d_fz (d_call (fn_parse_need T) (hr.mono (by decide)) rfl (takes_of rfl rfl rfl rfl) (a_cons (d_var 4) (a_cons (d_var 1) a_nil)))))
    (ss_cons (s_if (DW.dt (w_or (d_inHT hu (d_fz (d_call (fn_question T) (hr.mono (by decide)) rfl (takes_of rfl rfl rfl rfl) (a_cons (d_var 5) a_nil))) (h_var 3)) (w_or1 (d_cmpT (op_eqG hu) op2_eq (d_lenH rfl T.b_len (h_var 2)) (d_gi rfl T.c_MOST_NEEDS) (nomark _))))) (ss_one (s_raise (k := 0) (exc_InvalidRecord T) rfl rfl (takes_of rfl rfl rfl rfl) (hr.mono (by decide)) rfl (a_cons (d_var 1) a_nil))) ss_nil)
    (ss_cons (s_expr (d_hm1 PySem.F.slot_list_append PySem.F.type_list_append mt_append ow_append (h_var 3) (d_fz (d_call (fn_question T) (hr.mono (by decide)) rfl (takes_of rfl rfl rfl rfl) (a_cons (d_var 5) a_nil)))))
    (ss_one (s_expr (d_hm1 PySem.F.slot_list_append PySem.F.type_list_append mt_append ow_append (h_var 2) (d_var 5))))))))
    (ss_one (s_retD (d_callTy call_tuple_of opn_tuple rfl T.b_tuple (by decide +kernel) (a_cons (d_varF 2) a_nil)))))))) (by rfl)
theorem sc_parse_record : FnScope ["line", "words", "outputs", "rule_key", "needs", "results", "word"] ["line"] (defScope s_parse_record) := ⟨rfl, rfl, rfl, by decide +kernel, rfl, by decide +kernel, by decide +kernel⟩
theorem fn_parse_record (T : TxB w K mg base) : Fn PP w K mg base "parse_record" m_parse_record 7 := by
  obtain ⟨f, fd, F, hm, hb⟩ := T.d_parse_record
  refine ⟨f, fd, _, fn_d (N := ["line", "words", "outputs", "rule_key", "needs", "results", "word"]) (m := b_parse_record) (k := 6) F sc_parse_record (fun cdv A outer s H E hr => ?_), hm, F.kp, hb⟩
  have hu := hr.units
  exact DSs.eq (ss_cons (s_set (i := 1) sc_parse_record.nd (d_fz (b_m1 PySem.F.slot_str_split PySem.F.type_str_split mt_split opm_split (d_var 0) (d_str rfl))))
    (ss_cons (s_if (d_cmpT (op_neG hu) op2_ne (d_callB call_len opn_len rfl T.b_len (by decide +kernel) (a_cons (d_var 1) a_nil)) d_int (nomark _)) (ss_one (s_raise (k := 0) (exc_InvalidRecord T) rfl rfl (takes_of rfl rfl rfl rfl) (hr.mono (by decide)) rfl (a_cons (d_var 0) a_nil))) ss_nil)
    (ss_cons (s_set (i := 2) sc_parse_record.nd (d_fz (d_call (fn_parse_outputs T) (hr.mono (by decide)) rfl (takes_of rfl rfl rfl rfl) (a_cons (d_ix (d_var 1) d_int) (a_cons (d_var 0) a_nil)))))
    (ss_cons (s_set (i := 3) sc_parse_record.nd (d_fz (d_call (fn_parse_key T) (hr.mono (by decide)) rfl (takes_of rfl rfl rfl rfl) (a_cons (d_ix (d_var 1) d_int) (a_cons (d_var 0) a_nil)))))
    (ss_cons (s_set (i := 4) sc_parse_record.nd (d_fz (d_call (fn_parse_needs T) (hr.mono (by decide)) rfl (takes_of rfl rfl rfl rfl) (a_cons (d_ix (d_var 1) d_int) (a_cons (d_var 0) a_nil)))))
    (ss_cons (s_set (i := 5) sc_parse_record.nd (d_callTy call_tuple_of opn_tuple rfl T.b_tuple (by decide +kernel) (a_cons (d_fz (b_lc (own := [("word", 6)]) rfl sc_parse_record.nd (i_list (d_fz (b_m1 PySem.F.slot_str_split PySem.F.type_str_split mt_split opm_split (d_ix (d_var 1) d_int) (d_str rfl)))) (blkOk_by (own := [("word", 6)]) (N := ["line", "words", "outputs", "rule_key", "needs", "results", "word"]) (sc := defScope s_parse_record) (by decide +kernel)) (fun _ _ _ _ _ => (g_name (i := 6) sc_parse_record.nd)) (fun _ _ _ _ _ => ts_nil) (fun _ _ _ _ _ => (d_fz (d_call (fn_parse_key T) (hr.mono (by decide)) rfl takes0 (a_cons (d_var 6) (a_cons (d_var 0) a_nil))))))) a_nil)))
    (ss_cons (s_if (d_cmpT (op_neG hu) op2_ne (d_callB call_len opn_len rfl T.b_len (by decide +kernel) (a_cons (d_var 5) a_nil)) (d_callB call_len opn_len rfl T.b_len (by decide +kernel) (a_cons (d_var 2) a_nil)) (nomark _)) (ss_one (s_raise (k := 0) (exc_InvalidRecord T) rfl rfl (takes_of rfl rfl rfl rfl) (hr.mono (by decide)) rfl (a_cons (d_var 0) a_nil))) ss_nil)
    (ss_one (s_retD (d_new (new_Record T) (hr.mono (by decide)) rfl (takes_of rfl rfl rfl rfl) (a_cons (d_var 2) (a_cons (d_var 3) (a_cons (d_var 4) (a_cons (d_var 5) a_nil)))))))))))))) (by rfl)
theorem sc_Record___eq__ : FnScope ["self", "other", "mine"] ["self", "other"] (defScope s_Record___eq__) := ⟨rfl, rfl, rfl, by decide +kernel, rfl, by decide +kernel, by decide +kernel⟩
theorem meth_Record___eq__ (T : TxB w K mg base) : MethF PP w K mg base "Record" "__eq__" m_Record___eq__ 1 := by
  obtain ⟨C, f, fd, hm, hc, hme, F, hb⟩ := T.d_Record___eq__
  refine ⟨C, f, fd, _, hm, hc, hme, fn_d (N := ["self", "other", "mine"]) (m := b_Record___eq__) (k := 0) F sc_Record___eq__ (fun cdv A outer s H E hr => ?_), hb⟩
  have hu := hr.units
  exact DSs.eq (ss_cons (s_if (t_not (dt_tru (d_isC T.ic_4 (congrArg Ev.mg (ev_none hr.hd)) (d_var 1) rfl T.b_isinstance rfl))) (ss_one s_dead) ss_nil)
    (ss_cons (s_set (i := 2) sc_Record___eq__.nd (d_tup (a_cons (d_fld T.f_0 (d_var 0)) (a_cons (d_fld T.f_1 (d_var 0)) (a_cons (d_fld T.f_2 (d_var 0)) (a_cons (d_fld T.f_3 (d_var 0)) a_nil))))))
    (ss_one (s_retD (d_cmp (op_eqG hu) op2_eq (d_var 2) (d_tup (a_cons (d_fld T.f_0 (d_var 1)) (a_cons (d_fld T.f_1 (d_var 1)) (a_cons (d_fld T.f_2 (d_var 1)) (a_cons (d_fld T.f_3 (d_var 1)) a_nil))))) (nomark _)))))) (by rfl)
theorem mt_Record___eq__ (T : TxB w K mg base) : ∀ c f, ([(24, m_Record___eq__)] : List (Nat × FunM)).lookup c = some f → ("__eq__" : Str) ∉ clay c ∧ MethF PP w K mg base (cnm c) "__eq__" f 1 := tb_cons ⟨by decide +kernel, by rw [cn_Record]; exact meth_Record___eq__ T⟩ tb_nil
theorem eqm_Record (T : TxB w K mg base) : MethF PP w K mg base (cnm 24) "__eq__" m_Record___eq__ 1 := by rw [cn_Record]; exact meth_Record___eq__ T
theorem sc__law_seen : FnScope ["_law_seen_here"] ["_law_seen_here"] (defScope s__law_seen) := ⟨rfl, rfl, rfl, by decide +kernel, rfl, by decide +kernel, by decide +kernel⟩
theorem fn__law_seen (T : TxB w K mg base) : Fn PP w K mg base "_law_seen" m__law_seen 1 := by
  obtain ⟨f, fd, F, hm, hb⟩ := T.d__law_seen
  refine ⟨f, fd, _, fn_d (N := ["_law_seen_here"]) (m := b__law_seen) (k := 0) F sc__law_seen (fun cdv A outer s H E hr => ?_), hm, F.kp, hb⟩
  have hu := hr.units
  exact DSs.eq (ss_cons (s_if (d_isNT (d_var 0)) (ss_one (s_retD (d_str rfl))) ss_nil)
    (ss_cons (s_if (dt_tru (d_is .bool (d_var 0) rfl T.b_isinstance rfl T.b_bool PyProof.Rows.boot_bool)) (ss_one (s_retD (d_ix (d_fz (b_lst (a_cons (d_str rfl) (a_cons (d_str rfl) a_nil)))) (d_callTy (.or call_int1 call_int_str) opn_intX rfl T.b_int (by decide +kernel) (a_cons (d_var 0) a_nil))))) ss_nil)
    (ss_one (s_retD (d_callTy (.or call_str_int SkE.call_str_str) opn_str rfl T.b_str (by decide +kernel) (a_cons (d_var 0) a_nil)))))) (by rfl)
theorem sc__law_line : FnScope ["_law_record_here", "_law_needs", "_law_results", "_law_need_here", "_law_key"] ["_law_record_here"] (defScope s__law_line) := ⟨rfl, rfl, rfl, by decide +kernel, rfl, by decide +kernel, by decide +kernel⟩
theorem fn__law_line (T : TxB w K mg base) : Fn PP w K mg base "_law_line" m__law_line 2 := by
  obtain ⟨f, fd, F, hm, hb⟩ := T.d__law_line
  refine ⟨f, fd, _, fn_d (N := ["_law_record_here", "_law_needs", "_law_results", "_law_need_here", "_law_key"]) (m := b__law_line) (k := 1) F sc__law_line (fun cdv A outer s H E hr => ?_), hm, F.kp, hb⟩
  have hu := hr.units
  exact DSs.eq (ss_cons (s_set (i := 1) sc__law_line.nd (d_m1 PySem.F.slot_str_join PySem.F.type_str_join mt_join opm_join (d_str rfl) (d_fz (b_lc (own := [("_law_need_here", 3)]) rfl sc__law_line.nd (i_tup (d_fld T.f_2 (d_var 0))) (blkOk_by (own := [("_law_need_here", 3)]) (N := ["_law_record_here", "_law_needs", "_law_results", "_law_need_here", "_law_key"]) (sc := defScope s__law_line) (by decide +kernel)) (fun _ _ _ _ _ => (g_name (i := 3) sc__law_line.nd)) (fun _ _ _ _ _ => ts_nil) (fun _ _ _ _ _ => (d_m1 PySem.F.slot_str_join PySem.F.type_str_join mt_join opm_join (d_str rfl) (d_fz (b_cat (d_fz (b_callTy call_list_of opn_list rfl T.b_list (by decide +kernel) (a_cons (d_slT (d_var 3) o_none (o_some (d_neg d_int))) a_nil))) (d_fz (b_lst (a_cons (d_fz (d_call (fn__law_seen T) (hr.mono (by decide)) rfl takes0 (a_cons (d_ix (d_var 3) (d_neg d_int)) a_nil))) a_nil)))))))))))
    (ss_cons (s_if (d_cmpT (op_eqG hu) op2_eq (d_var 1) (d_str rfl) (nomark _)) (ss_one (s_set (i := 1) sc__law_line.nd (d_str rfl))) ss_nil)
    (ss_cons (s_set (i := 2) sc__law_line.nd (d_m1 PySem.F.slot_str_join PySem.F.type_str_join mt_join opm_join (d_str rfl) (d_fz (b_lc (own := [("_law_key", 4)]) rfl sc__law_line.nd (i_tup (d_fld T.f_3 (d_var 0))) (blkOk_by (own := [("_law_key", 4)]) (N := ["_law_record_here", "_law_needs", "_law_results", "_law_need_here", "_law_key"]) (sc := defScope s__law_line) (by decide +kernel)) (fun _ _ _ _ _ => (g_name (i := 4) sc__law_line.nd)) (fun _ _ _ _ _ => ts_nil) (fun _ _ _ _ _ => (d_callTy (.or call_str_int SkE.call_str_str) opn_str rfl T.b_str (by decide +kernel) (a_cons (d_var 4) a_nil)))))))
    (ss_one (s_retD (d_op op_addA op2_add (d_op op_addA op2_add (d_op op_addA op2_add (d_op op_addA op2_add (d_op op_addA op2_add (d_op op_addA op2_add (d_m1 PySem.F.slot_str_join PySem.F.type_str_join mt_join opm_join (d_str rfl) (d_fld T.f_0 (d_var 0))) (d_str rfl)) (d_callTy (.or call_str_int SkE.call_str_str) opn_str rfl T.b_str (by decide +kernel) (a_cons (d_fld T.f_1 (d_var 0)) a_nil))) (d_str rfl)) (d_var 1)) (d_str rfl)) (d_var 2))))))) (by rfl)
theorem sc_law : FnScope ["_law_script", "_law_record_here", "_law_line_here", "_law_back", "_law_need_here", "_law_other", "_law_third", "_law_fourth", "_law_fifth"] ["_law_script"] (defScope s_law) := ⟨rfl, rfl, rfl, by decide +kernel, rfl, by decide +kernel, by decide +kernel⟩
end
theorem tx_mk {w : World} {K : PySem.W.Frag} {h : Heap} {mg : Str → Option Value} {C_Record ef_Record eN_Record f_0 f_1 f_2 f_3 f_4 f_5 f_6 f_7 f_8 f_9 f_10 f_11 f_12 f_13 f_14 f_15 f_16 f_17 f_18 f_19 f_20 f_21 f_22 f_23 f_24 f_25 f_26 f_27 C_InvalidRecord f_InvalidRecord cda_InvalidRecord cc_InvalidRecord N_InvalidRecord : Addr} {enm_Record eq_Record nm_InvalidRecord q_InvalidRecord file_InvalidRecord : Str} {ebs_Record esub_Record bs_InvalidRecord bm_InvalidRecord sub_InvalidRecord : List Value} {esn_Record sn_InvalidRecord : List Str} {ehd_Record eab_Record ab_InvalidRecord : Bool} {ecol_Record col_InvalidRecord : Option Bool} {edd_Record od_0 an_0 od_1 an_1 od_2 an_2 od_3 an_3 od_4 an_4 od_5 an_5 od_6 an_6 od_7 an_7 od_8 an_8 od_9 an_9 od_10 an_10 od_11 an_11 od_12 an_12 od_13 an_13 od_14 an_14 od_15 an_15 od_16 an_16 od_17 an_17 od_18 an_18 od_19 an_19 od_20 an_20 od_21 an_21 od_22 an_22 od_23 an_23 od_24 an_24 od_25 an_25 od_26 an_26 od_27 an_27 dd_InvalidRecord odx_InvalidRecord anx_InvalidRecord cdd_InvalidRecord cld_InvalidRecord : Option Addr} {em0_Record em1_Record em2_Record em3_Record em5_Record m0_InvalidRecord m1_InvalidRecord m2_InvalidRecord m3_InvalidRecord m5_InvalidRecord : Option Value} {enid_Record : String} {t_BASE t_DIGITS t_IDENTIFIER_LIMIT t_LETTERS t_MOST_DIGITS t_MOST_NEEDS t_MOST_OUTPUTS t_NAME_CHARACTERS t_NAME_LIMIT t_PATH_LIMIT tf_InvalidRecord : Tok} {sl_0 sl_1 sl_2 sl_3 sl_4 sl_5 sl_6 sl_7 sl_8 sl_9 sl_10 sl_11 sl_12 sl_13 sl_14 sl_15 sl_16 sl_17 sl_18 sl_19 sl_20 sl_21 sl_22 sl_23 sl_24 sl_25 sl_26 sl_27 slx_InvalidRecord ccs_InvalidRecord csl_InvalidRecord : Array (Option Value)} {oc_0 kV_0 dc_0 pm_0 cd_0 ct_0 oc_1 kV_1 dc_1 pm_1 cd_1 ct_1 oc_2 kV_2 dc_2 pm_2 cd_2 ct_2 oc_3 kV_3 dc_3 pm_3 cd_3 ct_3 oc_4 kV_4 dc_4 pm_4 cd_4 ct_4 oc_5 kV_5 dc_5 pm_5 cd_5 ct_5 oc_6 kV_6 dc_6 pm_6 cd_6 ct_6 oc_7 kV_7 dc_7 pm_7 cd_7 ct_7 oc_8 kV_8 dc_8 pm_8 cd_8 ct_8 oc_9 kV_9 dc_9 pm_9 cd_9 ct_9 oc_10 kV_10 dc_10 pm_10 cd_10 ct_10 oc_11 kV_11 dc_11 pm_11 cd_11 ct_11 oc_12 kV_12 dc_12 pm_12 cd_12 ct_12 oc_13 kV_13 dc_13 pm_13 cd_13 ct_13 oc_14 kV_14 dc_14 pm_14 cd_14 ct_14 oc_15 kV_15 dc_15 pm_15 cd_15 ct_15 oc_16 kV_16 dc_16 pm_16 cd_16 ct_16 oc_17 kV_17 dc_17 pm_17 cd_17 ct_17 oc_18 kV_18 dc_18 pm_18 cd_18 ct_18 oc_19 kV_19 dc_19 pm_19 cd_19 ct_19 oc_20 kV_20 dc_20 pm_20 cd_20 ct_20 oc_21 kV_21 dc_21 pm_21 cd_21 ct_21 oc_22 kV_22 dc_22 pm_22 cd_22 ct_22 oc_23 kV_23 dc_23 pm_23 cd_23 ct_23 oc_24 kV_24 dc_24 pm_24 cd_24 ct_24 oc_25 kV_25 dc_25 pm_25 cd_25 ct_25 oc_26 kV_26 dc_26 pm_26 cd_26 ct_26 oc_27 kV_27 dc_27 pm_27 cd_27 ct_27 ocx_InvalidRecord kVx_InvalidRecord dcx_InvalidRecord pmx_InvalidRecord ctx_InvalidRecord ccl_InvalidRecord cl_InvalidRecord : Value} {vs_InvalidRecord : Array Value} {cdx_InvalidRecord : ClassData}
    (X : K.In h) (G : h.Ns mainGlobals mg)
    (g_Record : PySem.W.nsIn K mainGlobals "Record" = some (some (.ref C_Record)))
    (pg_Record : PySem.W.plainGet K C_Record Str.empty = true)
    (hd_Record : PySem.W.hasDictIn K C_Record = true)
    (po_Record : PySem.W.plainOver K C_Record = true)
    (sa_Record : PySem.W.findIn K (.ref C_Record) "__setattr__" = some (some (.builtin "object.__setattr__")))
    (nf_Record_outputs : PySem.W.findIn K (.ref C_Record) "outputs" = some none)
    (nf_Record_rule_key : PySem.W.findIn K (.ref C_Record) "rule_key" = some none)
    (nf_Record_needs : PySem.W.findIn K (.ref C_Record) "needs" = some none)
    (nf_Record_results : PySem.W.findIn K (.ref C_Record) "results" = some none)
    (ca_Record : PySem.W.findIn K (.ref C_Record) "__class__" = some (some (.builtin "object.__class__")))
    (sp_class : PySem.W.specialIn K (.builtin "object.__class__") "__get__" = some (some (.builtin "getset_descriptor.__get__")))
    (ta_class : PySem.W.takesIn K (.builtin "object.__class__") = some true)
    (mo_Record : PySem.W.mroIn K C_Record (.type "object") = some true)
    (me_Record : PySem.W.kitOne K (.ref C_Record) (.ref C_Record) = some true)
    (ex_Record : K.lookup C_Record = some (excClassObj enm_Record eq_Record C_Record eN_Record ebs_Record [.type "object"] ehd_Record esn_Record esub_Record eab_Record ecol_Record edd_Record em0_Record em1_Record em2_Record em3_Record em5_Record enid_Record))
    (eo_Record : nsOkL K eN_Record = true)
    (ee_Record : PySem.W.nsIn K eN_Record "__eq__" = some (some (.ref ef_Record)))
    (en_Record : PySem.W.nsIn K eN_Record "__ne__" = some none)
    (eg_Record : PySem.W.findIn K (.ref C_Record) "__eq__" = some (some (.ref ef_Record)))
    (z_abs : PySem.W.nsIn K mainGlobals "abs" = some none)
    (z_all : PySem.W.nsIn K mainGlobals "all" = some none)
    (z_bool : PySem.W.nsIn K mainGlobals "bool" = some none)
    (z_enumerate : PySem.W.nsIn K mainGlobals "enumerate" = some none)
    (z_int : PySem.W.nsIn K mainGlobals "int" = some none)
    (z_isinstance : PySem.W.nsIn K mainGlobals "isinstance" = some none)
    (z_len : PySem.W.nsIn K mainGlobals "len" = some none)
    (z_list : PySem.W.nsIn K mainGlobals "list" = some none)
    (z_ord : PySem.W.nsIn K mainGlobals "ord" = some none)
    (z_range : PySem.W.nsIn K mainGlobals "range" = some none)
    (z_str : PySem.W.nsIn K mainGlobals "str" = some none)
    (z_tuple : PySem.W.nsIn K mainGlobals "tuple" = some none)
    (v_BASE : PySem.W.nsIn K mainGlobals "BASE" = some (some (.int 128 t_BASE)))
    (v_DIGITS : PySem.W.nsIn K mainGlobals "DIGITS" = some (some (.str (Str.ofString "0123456789") t_DIGITS)))
    (v_IDENTIFIER_LIMIT : PySem.W.nsIn K mainGlobals "IDENTIFIER_LIMIT" = some (some (.int 12 t_IDENTIFIER_LIMIT)))
    (v_LETTERS : PySem.W.nsIn K mainGlobals "LETTERS" = some (some (.str (Str.ofString "abcdefghijklmnopqrstuvwxyz") t_LETTERS)))
    (v_MOST_DIGITS : PySem.W.nsIn K mainGlobals "MOST_DIGITS" = some (some (.int 4000 t_MOST_DIGITS)))
    (v_MOST_NEEDS : PySem.W.nsIn K mainGlobals "MOST_NEEDS" = some (some (.int 60 t_MOST_NEEDS)))
    (v_MOST_OUTPUTS : PySem.W.nsIn K mainGlobals "MOST_OUTPUTS" = some (some (.int 3 t_MOST_OUTPUTS)))
    (v_NAME_CHARACTERS : PySem.W.nsIn K mainGlobals "NAME_CHARACTERS" = some (some (.str (Str.ofString "abcdefghijklmnopqrstuvwxyz0123456789_.") t_NAME_CHARACTERS)))
    (v_NAME_LIMIT : PySem.W.nsIn K mainGlobals "NAME_LIMIT" = some (some (.int 12 t_NAME_LIMIT)))
    (v_PATH_LIMIT : PySem.W.nsIn K mainGlobals "PATH_LIMIT" = some (some (.int 4 t_PATH_LIMIT)))
    (a_0 : PySem.W.nsIn K mainGlobals "_law_numbers" = some (some (.ref f_0)))
    (l_0 : K.lookup f_0 = some ⟨oc_0, od_0, .func (PySem.W.fnOf "_law_numbers" "_law_numbers" (defArgs s__law_numbers) (defBody s__law_numbers) (defScope s__law_numbers) .none kV_0 dc_0 pm_0 an_0 cd_0 ct_0), sl_0⟩)
    (c_0 : PySem.W.codeIn K cd_0 "_law_numbers" = true)
    (k_0 : PySem.W.keepIn K (.ref f_0) = true)
    (a_1 : PySem.W.findIn K (.ref C_Record) "__init__" = some (some (.ref f_1)))
    (i_1 : PySem.W.isFn K (.ref f_1) = true)
    (mk_Record : PySem.W.makesIn K C_Record = true)
    (kp_Record : PySem.W.keepIn K (.ref C_Record) = true)
    (l_1 : K.lookup f_1 = some ⟨oc_1, od_1, .func (PySem.W.fnOf "__init__" "Record.__init__" (defArgs s_Record___init__) (defBody s_Record___init__) (defScope s_Record___init__) .none kV_1 dc_1 pm_1 an_1 cd_1 ct_1), sl_1⟩)
    (c_1 : PySem.W.codeIn K cd_1 "Record.__init__" = true)
    (k_1 : PySem.W.keepIn K (.ref f_1) = true)
    (a_2 : PySem.W.nsIn K mainGlobals "_law_cell" = some (some (.ref f_2)))
    (l_2 : K.lookup f_2 = some ⟨oc_2, od_2, .func (PySem.W.fnOf "_law_cell" "_law_cell" (defArgs s__law_cell) (defBody s__law_cell) (defScope s__law_cell) .none kV_2 dc_2 pm_2 an_2 cd_2 ct_2), sl_2⟩)
    (c_2 : PySem.W.codeIn K cd_2 "_law_cell" = true)
    (k_2 : PySem.W.keepIn K (.ref f_2) = true)
    (a_3 : PySem.W.nsIn K mainGlobals "content_key" = some (some (.ref f_3)))
    (l_3 : K.lookup f_3 = some ⟨oc_3, od_3, .func (PySem.W.fnOf "content_key" "content_key" (defArgs s_content_key) (defBody s_content_key) (defScope s_content_key) .none kV_3 dc_3 pm_3 an_3 cd_3 ct_3), sl_3⟩)
    (c_3 : PySem.W.codeIn K cd_3 "content_key" = true)
    (k_3 : PySem.W.keepIn K (.ref f_3) = true)
    (a_4 : PySem.W.nsIn K mainGlobals "_law_text" = some (some (.ref f_4)))
    (l_4 : K.lookup f_4 = some ⟨oc_4, od_4, .func (PySem.W.fnOf "_law_text" "_law_text" (defArgs s__law_text) (defBody s__law_text) (defScope s__law_text) .none kV_4 dc_4 pm_4 an_4 cd_4 ct_4), sl_4⟩)
    (c_4 : PySem.W.codeIn K cd_4 "_law_text" = true)
    (k_4 : PySem.W.keepIn K (.ref f_4) = true)
    (a_5 : PySem.W.nsIn K mainGlobals "_law_path" = some (some (.ref f_5)))
    (l_5 : K.lookup f_5 = some ⟨oc_5, od_5, .func (PySem.W.fnOf "_law_path" "_law_path" (defArgs s__law_path) (defBody s__law_path) (defScope s__law_path) .none kV_5 dc_5 pm_5 an_5 cd_5 ct_5), sl_5⟩)
    (c_5 : PySem.W.codeIn K cd_5 "_law_path" = true)
    (k_5 : PySem.W.keepIn K (.ref f_5) = true)
    (a_6 : PySem.W.nsIn K mainGlobals "_law_need" = some (some (.ref f_6)))
    (l_6 : K.lookup f_6 = some ⟨oc_6, od_6, .func (PySem.W.fnOf "_law_need" "_law_need" (defArgs s__law_need) (defBody s__law_need) (defScope s__law_need) .none kV_6 dc_6 pm_6 an_6 cd_6 ct_6), sl_6⟩)
    (c_6 : PySem.W.codeIn K cd_6 "_law_need" = true)
    (k_6 : PySem.W.keepIn K (.ref f_6) = true)
    (a_7 : PySem.W.nsIn K mainGlobals "_law_record" = some (some (.ref f_7)))
    (l_7 : K.lookup f_7 = some ⟨oc_7, od_7, .func (PySem.W.fnOf "_law_record" "_law_record" (defArgs s__law_record) (defBody s__law_record) (defScope s__law_record) .none kV_7 dc_7 pm_7 an_7 cd_7 ct_7), sl_7⟩)
    (c_7 : PySem.W.codeIn K cd_7 "_law_record" = true)
    (k_7 : PySem.W.keepIn K (.ref f_7) = true)
    (a_8 : PySem.W.nsIn K mainGlobals "format_seen" = some (some (.ref f_8)))
    (l_8 : K.lookup f_8 = some ⟨oc_8, od_8, .func (PySem.W.fnOf "format_seen" "format_seen" (defArgs s_format_seen) (defBody s_format_seen) (defScope s_format_seen) .none kV_8 dc_8 pm_8 an_8 cd_8 ct_8), sl_8⟩)
    (c_8 : PySem.W.codeIn K cd_8 "format_seen" = true)
    (k_8 : PySem.W.keepIn K (.ref f_8) = true)
    (a_9 : PySem.W.nsIn K mainGlobals "format_need" = some (some (.ref f_9)))
    (l_9 : K.lookup f_9 = some ⟨oc_9, od_9, .func (PySem.W.fnOf "format_need" "format_need" (defArgs s_format_need) (defBody s_format_need) (defScope s_format_need) .none kV_9 dc_9 pm_9 an_9 cd_9 ct_9), sl_9⟩)
    (c_9 : PySem.W.codeIn K cd_9 "format_need" = true)
    (k_9 : PySem.W.keepIn K (.ref f_9) = true)
    (a_10 : PySem.W.nsIn K mainGlobals "format_record" = some (some (.ref f_10)))
    (l_10 : K.lookup f_10 = some ⟨oc_10, od_10, .func (PySem.W.fnOf "format_record" "format_record" (defArgs s_format_record) (defBody s_format_record) (defScope s_format_record) .none kV_10 dc_10 pm_10 an_10 cd_10 ct_10), sl_10⟩)
    (c_10 : PySem.W.codeIn K cd_10 "format_record" = true)
    (k_10 : PySem.W.keepIn K (.ref f_10) = true)
    (a_11 : PySem.W.nsIn K mainGlobals "is_name" = some (some (.ref f_11)))
    (l_11 : K.lookup f_11 = some ⟨oc_11, od_11, .func (PySem.W.fnOf "is_name" "is_name" (defArgs s_is_name) (defBody s_is_name) (defScope s_is_name) .none kV_11 dc_11 pm_11 an_11 cd_11 ct_11), sl_11⟩)
    (c_11 : PySem.W.codeIn K cd_11 "is_name" = true)
    (k_11 : PySem.W.keepIn K (.ref f_11) = true)
    (a_12 : PySem.W.nsIn K mainGlobals "is_path" = some (some (.ref f_12)))
    (l_12 : K.lookup f_12 = some ⟨oc_12, od_12, .func (PySem.W.fnOf "is_path" "is_path" (defArgs s_is_path) (defBody s_is_path) (defScope s_is_path) .none kV_12 dc_12 pm_12 an_12 cd_12 ct_12), sl_12⟩)
    (c_12 : PySem.W.codeIn K cd_12 "is_path" = true)
    (k_12 : PySem.W.keepIn K (.ref f_12) = true)
    (a_13 : PySem.W.nsIn K mainGlobals "parse_outputs" = some (some (.ref f_13)))
    (l_13 : K.lookup f_13 = some ⟨oc_13, od_13, .func (PySem.W.fnOf "parse_outputs" "parse_outputs" (defArgs s_parse_outputs) (defBody s_parse_outputs) (defScope s_parse_outputs) .none kV_13 dc_13 pm_13 an_13 cd_13 ct_13), sl_13⟩)
    (c_13 : PySem.W.codeIn K cd_13 "parse_outputs" = true)
    (k_13 : PySem.W.keepIn K (.ref f_13) = true)
    (a_14 : PySem.W.nsIn K mainGlobals "is_number" = some (some (.ref f_14)))
    (l_14 : K.lookup f_14 = some ⟨oc_14, od_14, .func (PySem.W.fnOf "is_number" "is_number" (defArgs s_is_number) (defBody s_is_number) (defScope s_is_number) .none kV_14 dc_14 pm_14 an_14 cd_14 ct_14), sl_14⟩)
    (c_14 : PySem.W.codeIn K cd_14 "is_number" = true)
    (k_14 : PySem.W.keepIn K (.ref f_14) = true)
    (a_15 : PySem.W.nsIn K mainGlobals "parse_key" = some (some (.ref f_15)))
    (l_15 : K.lookup f_15 = some ⟨oc_15, od_15, .func (PySem.W.fnOf "parse_key" "parse_key" (defArgs s_parse_key) (defBody s_parse_key) (defScope s_parse_key) .none kV_15 dc_15 pm_15 an_15 cd_15 ct_15), sl_15⟩)
    (c_15 : PySem.W.codeIn K cd_15 "parse_key" = true)
    (k_15 : PySem.W.keepIn K (.ref f_15) = true)
    (a_16 : PySem.W.nsIn K mainGlobals "parse_seen" = some (some (.ref f_16)))
    (l_16 : K.lookup f_16 = some ⟨oc_16, od_16, .func (PySem.W.fnOf "parse_seen" "parse_seen" (defArgs s_parse_seen) (defBody s_parse_seen) (defScope s_parse_seen) .none kV_16 dc_16 pm_16 an_16 cd_16 ct_16), sl_16⟩)
    (c_16 : PySem.W.codeIn K cd_16 "parse_seen" = true)
    (k_16 : PySem.W.keepIn K (.ref f_16) = true)
    (a_17 : PySem.W.nsIn K mainGlobals "is_identifier" = some (some (.ref f_17)))
    (l_17 : K.lookup f_17 = some ⟨oc_17, od_17, .func (PySem.W.fnOf "is_identifier" "is_identifier" (defArgs s_is_identifier) (defBody s_is_identifier) (defScope s_is_identifier) .none kV_17 dc_17 pm_17 an_17 cd_17 ct_17), sl_17⟩)
    (c_17 : PySem.W.codeIn K cd_17 "is_identifier" = true)
    (k_17 : PySem.W.keepIn K (.ref f_17) = true)
    (a_18 : PySem.W.nsIn K mainGlobals "is_pattern" = some (some (.ref f_18)))
    (l_18 : K.lookup f_18 = some ⟨oc_18, od_18, .func (PySem.W.fnOf "is_pattern" "is_pattern" (defArgs s_is_pattern) (defBody s_is_pattern) (defScope s_is_pattern) .none kV_18 dc_18 pm_18 an_18 cd_18 ct_18), sl_18⟩)
    (c_18 : PySem.W.codeIn K cd_18 "is_pattern" = true)
    (k_18 : PySem.W.keepIn K (.ref f_18) = true)
    (a_19 : PySem.W.nsIn K mainGlobals "is_subject" = some (some (.ref f_19)))
    (l_19 : K.lookup f_19 = some ⟨oc_19, od_19, .func (PySem.W.fnOf "is_subject" "is_subject" (defArgs s_is_subject) (defBody s_is_subject) (defScope s_is_subject) .none kV_19 dc_19 pm_19 an_19 cd_19 ct_19), sl_19⟩)
    (c_19 : PySem.W.codeIn K cd_19 "is_subject" = true)
    (k_19 : PySem.W.keepIn K (.ref f_19) = true)
    (a_20 : PySem.W.nsIn K mainGlobals "parse_need" = some (some (.ref f_20)))
    (l_20 : K.lookup f_20 = some ⟨oc_20, od_20, .func (PySem.W.fnOf "parse_need" "parse_need" (defArgs s_parse_need) (defBody s_parse_need) (defScope s_parse_need) .none kV_20 dc_20 pm_20 an_20 cd_20 ct_20), sl_20⟩)
    (c_20 : PySem.W.codeIn K cd_20 "parse_need" = true)
    (k_20 : PySem.W.keepIn K (.ref f_20) = true)
    (a_21 : PySem.W.nsIn K mainGlobals "question" = some (some (.ref f_21)))
    (l_21 : K.lookup f_21 = some ⟨oc_21, od_21, .func (PySem.W.fnOf "question" "question" (defArgs s_question) (defBody s_question) (defScope s_question) .none kV_21 dc_21 pm_21 an_21 cd_21 ct_21), sl_21⟩)
    (c_21 : PySem.W.codeIn K cd_21 "question" = true)
    (k_21 : PySem.W.keepIn K (.ref f_21) = true)
    (a_22 : PySem.W.nsIn K mainGlobals "parse_needs" = some (some (.ref f_22)))
    (l_22 : K.lookup f_22 = some ⟨oc_22, od_22, .func (PySem.W.fnOf "parse_needs" "parse_needs" (defArgs s_parse_needs) (defBody s_parse_needs) (defScope s_parse_needs) .none kV_22 dc_22 pm_22 an_22 cd_22 ct_22), sl_22⟩)
    (c_22 : PySem.W.codeIn K cd_22 "parse_needs" = true)
    (k_22 : PySem.W.keepIn K (.ref f_22) = true)
    (a_23 : PySem.W.nsIn K mainGlobals "parse_record" = some (some (.ref f_23)))
    (l_23 : K.lookup f_23 = some ⟨oc_23, od_23, .func (PySem.W.fnOf "parse_record" "parse_record" (defArgs s_parse_record) (defBody s_parse_record) (defScope s_parse_record) .none kV_23 dc_23 pm_23 an_23 cd_23 ct_23), sl_23⟩)
    (c_23 : PySem.W.codeIn K cd_23 "parse_record" = true)
    (k_23 : PySem.W.keepIn K (.ref f_23) = true)
    (a_24 : PySem.W.findIn K (.ref C_Record) "__eq__" = some (some (.ref f_24)))
    (i_24 : PySem.W.isFn K (.ref f_24) = true)
    (l_24 : K.lookup f_24 = some ⟨oc_24, od_24, .func (PySem.W.fnOf "__eq__" "Record.__eq__" (defArgs s_Record___eq__) (defBody s_Record___eq__) (defScope s_Record___eq__) .none kV_24 dc_24 pm_24 an_24 cd_24 ct_24), sl_24⟩)
    (c_24 : PySem.W.codeIn K cd_24 "Record.__eq__" = true)
    (k_24 : PySem.W.keepIn K (.ref f_24) = true)
    (a_25 : PySem.W.nsIn K mainGlobals "_law_seen" = some (some (.ref f_25)))
    (l_25 : K.lookup f_25 = some ⟨oc_25, od_25, .func (PySem.W.fnOf "_law_seen" "_law_seen" (defArgs s__law_seen) (defBody s__law_seen) (defScope s__law_seen) .none kV_25 dc_25 pm_25 an_25 cd_25 ct_25), sl_25⟩)
    (c_25 : PySem.W.codeIn K cd_25 "_law_seen" = true)
    (k_25 : PySem.W.keepIn K (.ref f_25) = true)
    (a_26 : PySem.W.nsIn K mainGlobals "_law_line" = some (some (.ref f_26)))
    (l_26 : K.lookup f_26 = some ⟨oc_26, od_26, .func (PySem.W.fnOf "_law_line" "_law_line" (defArgs s__law_line) (defBody s__law_line) (defScope s__law_line) .none kV_26 dc_26 pm_26 an_26 cd_26 ct_26), sl_26⟩)
    (c_26 : PySem.W.codeIn K cd_26 "_law_line" = true)
    (k_26 : PySem.W.keepIn K (.ref f_26) = true)
    (a_27 : PySem.W.nsIn K mainGlobals "law" = some (some (.ref f_27)))
    (l_27 : K.lookup f_27 = some ⟨oc_27, od_27, .func (PySem.W.fnOf "law" "law" (defArgs s_law) (defBody s_law) (defScope s_law) .none kV_27 dc_27 pm_27 an_27 cd_27 ct_27), sl_27⟩)
    (c_27 : PySem.W.codeIn K cd_27 "law" = true)
    (k_27 : PySem.W.keepIn K (.ref f_27) = true)
    (g_InvalidRecord : PySem.W.nsIn K mainGlobals "InvalidRecord" = some (some (.ref C_InvalidRecord)))
    (x_InvalidRecord : K.lookup C_InvalidRecord = some (excClassObj nm_InvalidRecord q_InvalidRecord C_InvalidRecord N_InvalidRecord bs_InvalidRecord bm_InvalidRecord true sn_InvalidRecord sub_InvalidRecord ab_InvalidRecord col_InvalidRecord dd_InvalidRecord m0_InvalidRecord m1_InvalidRecord m2_InvalidRecord m3_InvalidRecord m5_InvalidRecord "ValueError.__new__"))
    (r_InvalidRecord : PySem.HandSPX.refsVE bm_InvalidRecord = true)
    (sa_InvalidRecord : PySem.W.findIn K (.ref C_InvalidRecord) "__setattr__" = some (some (.builtin "object.__setattr__")))
    (sb_InvalidRecord : PySem.W.subIn K (.ref C_InvalidRecord) (.type "BaseException") = some true)
    (ty_InvalidRecord : PySem.W.typeIn K (.ref C_InvalidRecord) = some (.type "type"))
    (kp_InvalidRecord : PySem.W.keepIn K (.ref C_InvalidRecord) = true)
    (u_InvalidRecord : PySem.W.mroIn K C_InvalidRecord (.ref C_InvalidRecord) = some true)
    (i_InvalidRecord : PySem.W.ks_superIn K C_InvalidRecord C_InvalidRecord "__init__" = some (some (.builtin "ValueError.__init__")))
    (v_InvalidRecord : PySem.W.subIn K (.ref C_InvalidRecord) (.type "ValueError") = some true)
    (ff_InvalidRecord : PySem.W.findIn K (.ref C_InvalidRecord) "__init__" = some (some (.ref f_InvalidRecord)))
    (y_InvalidRecord : PySem.W.typeIn K (.ref f_InvalidRecord) = some (.type "function"))
    (l_InvalidRecord : K.lookup f_InvalidRecord = some ⟨ocx_InvalidRecord, odx_InvalidRecord, .func (PySem.W.fnX "__init__" "InvalidRecord.__init__" (defArgs s_InvalidRecord___init__) (defBody s_InvalidRecord___init__) (defScope s_InvalidRecord___init__) [("__class__", cc_InvalidRecord)] .none kVx_InvalidRecord dcx_InvalidRecord pmx_InvalidRecord anx_InvalidRecord (.ref cda_InvalidRecord) ctx_InvalidRecord), slx_InvalidRecord⟩)
    (c_InvalidRecord : PySem.W.codeIn K (.ref cda_InvalidRecord) "InvalidRecord.__init__" = true)
    (d_InvalidRecord : K.lookup cda_InvalidRecord = some ⟨ccl_InvalidRecord, cdd_InvalidRecord, .fields vs_InvalidRecord, ccs_InvalidRecord⟩)
    (w_InvalidRecord : vs_InvalidRecord[2]? = some (.str file_InvalidRecord tf_InvalidRecord))
    (p_InvalidRecord : ((PP.main.file : Str) == file_InvalidRecord) = true)
    (o_InvalidRecord : K.lookup cc_InvalidRecord = some ⟨cl_InvalidRecord, cld_InvalidRecord, .cell (some (.ref C_InvalidRecord)), csl_InvalidRecord⟩)
    (qq_InvalidRecord : PySem.W.clsIn K C_InvalidRecord = some cdx_InvalidRecord)
    (z_super : PySem.W.nsIn K mainGlobals "super" = some none)
    (g_any : PySem.W.nsIn K PySem.cStatics "thirdparty.any" = some none)
    (nf_InvalidRecord_line : PySem.W.findIn K (.ref C_InvalidRecord) "line" = some none) : Tx w K mg :=
  ⟨PySem.W.mg_none_of X G z_abs,
    PySem.W.mg_none_of X G z_all,
    PySem.W.mg_none_of X G z_bool,
    PySem.W.mg_none_of X G z_enumerate,
    PySem.W.mg_none_of X G z_int,
    PySem.W.mg_none_of X G z_isinstance,
    PySem.W.mg_none_of X G z_len,
    PySem.W.mg_none_of X G z_list,
    PySem.W.mg_none_of X G z_ord,
    PySem.W.mg_none_of X G z_range,
    PySem.W.mg_none_of X G z_str,
    PySem.W.mg_none_of X G z_tuple,
    ⟨_, PySem.W.mg_of X G v_BASE⟩,
    ⟨_, _, PySem.W.mg_of X G v_DIGITS, by decide +kernel⟩,
    ⟨_, PySem.W.mg_of X G v_IDENTIFIER_LIMIT⟩,
    ⟨_, _, PySem.W.mg_of X G v_LETTERS, by decide +kernel⟩,
    ⟨_, PySem.W.mg_of X G v_MOST_DIGITS⟩,
    ⟨_, PySem.W.mg_of X G v_MOST_NEEDS⟩,
    ⟨_, PySem.W.mg_of X G v_MOST_OUTPUTS⟩,
    ⟨_, _, PySem.W.mg_of X G v_NAME_CHARACTERS, by decide +kernel⟩,
    ⟨_, PySem.W.mg_of X G v_NAME_LIMIT⟩,
    ⟨_, PySem.W.mg_of X G v_PATH_LIMIT⟩,
    ⟨f_0, _, (fun_mk (st := s__law_numbers) l_0 c_0 k_0), PySem.W.mg_of X G a_0, (fun_mk (st := s__law_numbers) l_0 c_0 k_0).binds (ps := ["_law_cell_here", "_law_count"]) fun _ _ _ _ _ _ us hl => match us, hl with | [_, _], _ => rfl⟩,
    ⟨C_Record, f_1, _, PySem.W.mg_of X G g_Record, ⟨mk_Record, a_1, i_1, kp_Record⟩, (fun_mk (st := s_Record___init__) l_1 c_1 k_1), (fun_mk (st := s_Record___init__) l_1 c_1 k_1).binds (ps := ["self", "outputs", "rule_key", "needs", "results"]) fun _ _ _ _ _ _ us hl => match us, hl with | [_, _, _, _, _], _ => rfl⟩,
    ⟨f_2, _, (fun_mk (st := s__law_cell) l_2 c_2 k_2), PySem.W.mg_of X G a_2, (fun_mk (st := s__law_cell) l_2 c_2 k_2).binds (ps := ["_law_script", "_law_k"]) fun _ _ _ _ _ _ us hl => match us, hl with | [_, _], _ => rfl⟩,
    ⟨f_3, _, (fun_mk (st := s_content_key) l_3 c_3 k_3), PySem.W.mg_of X G a_3, (fun_mk (st := s_content_key) l_3 c_3 k_3).binds (ps := ["text"]) fun _ _ _ _ _ _ us hl => match us, hl with | [_], _ => rfl⟩,
    ⟨f_4, _, (fun_mk (st := s__law_text) l_4 c_4 k_4), PySem.W.mg_of X G a_4, (fun_mk (st := s__law_text) l_4 c_4 k_4).binds (ps := ["_law_n"]) fun _ _ _ _ _ _ us hl => match us, hl with | [_], _ => rfl⟩,
    ⟨f_5, _, (fun_mk (st := s__law_path) l_5 c_5 k_5), PySem.W.mg_of X G a_5, (fun_mk (st := s__law_path) l_5 c_5 k_5).binds (ps := ["_law_n"]) fun _ _ _ _ _ _ us hl => match us, hl with | [_], _ => rfl⟩,
    ⟨f_6, _, (fun_mk (st := s__law_need) l_6 c_6 k_6), PySem.W.mg_of X G a_6, (fun_mk (st := s__law_need) l_6 c_6 k_6).binds (ps := ["_law_kind", "_law_n", "_law_k"]) fun _ _ _ _ _ _ us hl => match us, hl with | [_, _, _], _ => rfl⟩,
    ⟨f_7, _, (fun_mk (st := s__law_record) l_7 c_7 k_7), PySem.W.mg_of X G a_7, (fun_mk (st := s__law_record) l_7 c_7 k_7).binds (ps := ["_law_script"]) fun _ _ _ _ _ _ us hl => match us, hl with | [_], _ => rfl⟩,
    ⟨f_8, _, (fun_mk (st := s_format_seen) l_8 c_8 k_8), PySem.W.mg_of X G a_8, (fun_mk (st := s_format_seen) l_8 c_8 k_8).binds (ps := ["seen"]) fun _ _ _ _ _ _ us hl => match us, hl with | [_], _ => rfl⟩,
    ⟨f_9, _, (fun_mk (st := s_format_need) l_9 c_9 k_9), PySem.W.mg_of X G a_9, (fun_mk (st := s_format_need) l_9 c_9 k_9).binds (ps := ["need"]) fun _ _ _ _ _ _ us hl => match us, hl with | [_], _ => rfl⟩,
    ⟨f_10, _, (fun_mk (st := s_format_record) l_10 c_10 k_10), PySem.W.mg_of X G a_10, (fun_mk (st := s_format_record) l_10 c_10 k_10).binds (ps := ["record"]) fun _ _ _ _ _ _ us hl => match us, hl with | [_], _ => rfl⟩,
    ⟨f_11, _, (fun_mk (st := s_is_name) l_11 c_11 k_11), PySem.W.mg_of X G a_11, (fun_mk (st := s_is_name) l_11 c_11 k_11).binds (ps := ["value", "characters"]) fun _ _ _ _ _ _ us hl => match us, hl with | [_, _], _ => rfl⟩,
    ⟨f_12, _, (fun_mk (st := s_is_path) l_12 c_12 k_12), PySem.W.mg_of X G a_12, (fun_mk (st := s_is_path) l_12 c_12 k_12).binds (ps := ["value"]) fun _ _ _ _ _ _ us hl => match us, hl with | [_], _ => rfl⟩,
    ⟨f_13, _, (fun_mk (st := s_parse_outputs) l_13 c_13 k_13), PySem.W.mg_of X G a_13, (fun_mk (st := s_parse_outputs) l_13 c_13 k_13).binds (ps := ["word", "line"]) fun _ _ _ _ _ _ us hl => match us, hl with | [_, _], _ => rfl⟩,
    ⟨f_14, _, (fun_mk (st := s_is_number) l_14 c_14 k_14), PySem.W.mg_of X G a_14, (fun_mk (st := s_is_number) l_14 c_14 k_14).binds (ps := ["word"]) fun _ _ _ _ _ _ us hl => match us, hl with | [_], _ => rfl, a_14⟩,
    ⟨f_15, _, (fun_mk (st := s_parse_key) l_15 c_15 k_15), PySem.W.mg_of X G a_15, (fun_mk (st := s_parse_key) l_15 c_15 k_15).binds (ps := ["word", "line"]) fun _ _ _ _ _ _ us hl => match us, hl with | [_, _], _ => rfl⟩,
    ⟨f_16, _, (fun_mk (st := s_parse_seen) l_16 c_16 k_16), PySem.W.mg_of X G a_16, (fun_mk (st := s_parse_seen) l_16 c_16 k_16).binds (ps := ["word", "kind", "line"]) fun _ _ _ _ _ _ us hl => match us, hl with | [_, _, _], _ => rfl⟩,
    ⟨f_17, _, (fun_mk (st := s_is_identifier) l_17 c_17 k_17), PySem.W.mg_of X G a_17, (fun_mk (st := s_is_identifier) l_17 c_17 k_17).binds (ps := ["value"]) fun _ _ _ _ _ _ us hl => match us, hl with | [_], _ => rfl⟩,
    ⟨f_18, _, (fun_mk (st := s_is_pattern) l_18 c_18 k_18), PySem.W.mg_of X G a_18, (fun_mk (st := s_is_pattern) l_18 c_18 k_18).binds (ps := ["value"]) fun _ _ _ _ _ _ us hl => match us, hl with | [_], _ => rfl⟩,
    ⟨f_19, _, (fun_mk (st := s_is_subject) l_19 c_19 k_19), PySem.W.mg_of X G a_19, (fun_mk (st := s_is_subject) l_19 c_19 k_19).binds (ps := ["parts"]) fun _ _ _ _ _ _ us hl => match us, hl with | [_], _ => rfl⟩,
    ⟨f_20, _, (fun_mk (st := s_parse_need) l_20 c_20 k_20), PySem.W.mg_of X G a_20, (fun_mk (st := s_parse_need) l_20 c_20 k_20).binds (ps := ["word", "line"]) fun _ _ _ _ _ _ us hl => match us, hl with | [_, _], _ => rfl⟩,
    ⟨f_21, _, (fun_mk (st := s_question) l_21 c_21 k_21), PySem.W.mg_of X G a_21, (fun_mk (st := s_question) l_21 c_21 k_21).binds (ps := ["need"]) fun _ _ _ _ _ _ us hl => match us, hl with | [_], _ => rfl⟩,
    ⟨f_22, _, (fun_mk (st := s_parse_needs) l_22 c_22 k_22), PySem.W.mg_of X G a_22, (fun_mk (st := s_parse_needs) l_22 c_22 k_22).binds (ps := ["word", "line"]) fun _ _ _ _ _ _ us hl => match us, hl with | [_, _], _ => rfl⟩,
    ⟨f_23, _, (fun_mk (st := s_parse_record) l_23 c_23 k_23), PySem.W.mg_of X G a_23, (fun_mk (st := s_parse_record) l_23 c_23 k_23).binds (ps := ["line"]) fun _ _ _ _ _ _ us hl => match us, hl with | [_], _ => rfl⟩,
    ⟨C_Record, f_24, _, PySem.W.mg_of X G g_Record, ⟨pg_Record, hd_Record, po_Record, sa_Record⟩, ⟨a_24, i_24, k_24⟩, (fun_mk (st := s_Record___eq__) l_24 c_24 k_24), (fun_mk (st := s_Record___eq__) l_24 c_24 k_24).binds (ps := ["self", "other"]) fun _ _ _ _ _ _ us hl => match us, hl with | [_, _], _ => rfl⟩,
    ⟨f_25, _, (fun_mk (st := s__law_seen) l_25 c_25 k_25), PySem.W.mg_of X G a_25, (fun_mk (st := s__law_seen) l_25 c_25 k_25).binds (ps := ["_law_seen_here"]) fun _ _ _ _ _ _ us hl => match us, hl with | [_], _ => rfl⟩,
    ⟨f_26, _, (fun_mk (st := s__law_line) l_26 c_26 k_26), PySem.W.mg_of X G a_26, (fun_mk (st := s__law_line) l_26 c_26 k_26).binds (ps := ["_law_record_here"]) fun _ _ _ _ _ _ us hl => match us, hl with | [_], _ => rfl⟩,
    ⟨f_27, _, (fun_mk (st := s_law) l_27 c_27 k_27), PySem.W.mg_of X G a_27, (fun_mk (st := s_law) l_27 c_27 k_27).binds (ps := ["_law_script"]) fun _ _ _ _ _ _ us hl => match us, hl with | [_], _ => rfl⟩,
    ⟨C_InvalidRecord, f_InvalidRecord, _, PySem.W.mg_of X G g_InvalidRecord, { cls := ⟨_, _, _, _, _, _, _, _, _, _, _, _, _, _, _, x_InvalidRecord, r_InvalidRecord⟩, sa := sa_InvalidRecord, exC := sb_InvalidRecord, tyC := ty_InvalidRecord, kC := kp_InvalidRecord, sub := u_InvalidRecord, ini := i_InvalidRecord, ve := v_InvalidRecord }, ff_InvalidRecord, y_InvalidRecord, ⟨⟨_, _, _, _, _, _, _, _, _, _, rfl, l_InvalidRecord, c_InvalidRecord, ⟨_, _, _, _, _, _, d_InvalidRecord, w_InvalidRecord, p_InvalidRecord⟩, ⟨_, _, _, o_InvalidRecord⟩⟩, ⟨_, qq_InvalidRecord⟩, z_super, PySem.W.mg_none_of X G z_super, by first | rfl | decide +kernel, g_any⟩, Binds.all fun us hl => match us, hl with | [_, _], _ => rfl, by intro p hp; simp only [List.mem_cons, List.not_mem_nil, or_false] at hp; rcases hp with rfl; exact nf_InvalidRecord_line⟩,
    (tb_cons ⟨by decide +kernel, _, (mgc cn_Record (PySem.W.mg_of X G g_Record)), ⟨pg_Record, hd_Record, po_Record, sa_Record⟩, nf_Record_outputs⟩ tb_nil),
    (tb_cons ⟨by decide +kernel, _, (mgc cn_Record (PySem.W.mg_of X G g_Record)), ⟨pg_Record, hd_Record, po_Record, sa_Record⟩, nf_Record_rule_key⟩ tb_nil),
    (tb_cons ⟨by decide +kernel, _, (mgc cn_Record (PySem.W.mg_of X G g_Record)), ⟨pg_Record, hd_Record, po_Record, sa_Record⟩, nf_Record_needs⟩ tb_nil),
    (tb_cons ⟨by decide +kernel, _, (mgc cn_Record (PySem.W.mg_of X G g_Record)), ⟨pg_Record, hd_Record, po_Record, sa_Record⟩, nf_Record_results⟩ tb_nil),
    ⟨⟨_, PySem.W.mg_of X G g_Record, ⟨⟨pg_Record, hd_Record, po_Record, sa_Record⟩, ca_Record, sp_class, ta_class, mo_Record, me_Record⟩⟩, cn_Record⟩,
    (fun C h => by cases h.symm.trans (mgc cn_Record (PySem.W.mg_of X G g_Record)); exact ⟨_, _, _, _, _, _, _, _, _, _, _, _, _, _, _, _, _, ex_Record, eo_Record, ee_Record, en_Record, eg_Record⟩)⟩
theorem law_ok {w : World} {K : PySem.W.Frag} {h : Heap} {mg : Str → Option Value} {fa : Addr} (X : K.In h) (G : h.Ns mainGlobals mg) (hfa : mg "law" = some (.ref fa)) (T0 : Tx w K mg) :
    ∃ fd : FuncData, (∀ (s : Shared) (v : Value), BindsTo s fd ⟨[v], []⟩ [("_law_script", v)]) ∧ ∀ base : Heap, K.In base → base.Ns mainGlobals mg → (∀ p ∈ tabsK K, GxR.TabB base mg p.1 p.2) → FnOk PP w K mg base (L2.CX PP w) 8 fa fd ["_law_script"] (Dl.spLaw K) := by
  obtain ⟨f, fd, F, hm, hb⟩ := T0.d_law
  cases hfa.symm.trans hm
  obtain ⟨oc, od, kV, doc, pm, an, cdv, ct, osl, rfl, lk, hcd⟩ := id F.ex
  refine ⟨PySem.W.fnOf "law" "law" (defArgs s_law) (defBody s_law) (defScope s_law) .none kV doc pm an cdv ct, fun s v => .of_eq rfl, fun base _ _ TB => law_imp lawT (f := m_law) ?_⟩
  have T : TxB w K mg base := ⟨T0, TB⟩
  refine fn_d (N := ["_law_script", "_law_record_here", "_law_line_here", "_law_back", "_law_need_here", "_law_other", "_law_third", "_law_fourth", "_law_fifth"]) (m := b_law) (k := 7) F sc_law (fun cdv A outer s H E hr => ?_)
  have hu := hr.units
  exact DSs.eq (ss_cons (s_set (i := 1) sc_law.nd (d_fz (d_call (fn__law_record T) (hr.mono (by decide)) rfl (takes_of rfl rfl rfl rfl) (a_cons (d_var 0) a_nil))))
    (ss_cons (s_set (i := 2) sc_law.nd (d_fz (d_call (fn_format_record T) (hr.mono (by decide)) rfl (takes_of rfl rfl rfl rfl) (a_cons (d_var 1) a_nil))))
    (ss_cons (s_if (DW.dt (w_or (t_not (dt_tru (d_is .str (d_var 2) rfl T.b_isinstance rfl T.b_str PyProof.Rows.boot_str))) (w_or1 (d_cmpT (op_neG hu) op2_ne (d_var 2) (d_fz (d_call (fn__law_line T) (hr.mono (by decide)) rfl (takes_of rfl rfl rfl rfl) (a_cons (d_var 1) a_nil))) (nomark _))))) (ss_one (s_retD d_bl)) ss_nil)
    (ss_cons (s_set (i := 3) sc_law.nd (d_fz (d_call (fn_parse_record T) (hr.mono (by decide)) rfl (takes_of rfl rfl rfl rfl) (a_cons (d_var 2) a_nil))))
    (ss_cons (s_if (DW.dt (w_or (d_neOT (eqm_Record T) T.ec_5 (hr.mono (by decide)) (d_var 3) (d_var 1) (by with_unfolding_all rfl)) (w_or1 (t_not (d_eqOT (eqm_Record T) (hr.mono (by decide)) (d_var 3) (d_var 1) (by with_unfolding_all rfl)))))) (ss_one (s_retD d_bl)) ss_nil)
    (ss_cons (s_if (d_cmpT (op_neG hu) op2_ne (d_tup (a_cons (d_fld T.f_0 (d_var 3)) (a_cons (d_fld T.f_1 (d_var 3)) (a_cons (d_fld T.f_2 (d_var 3)) (a_cons (d_fld T.f_3 (d_var 3)) a_nil))))) (d_tup (a_cons (d_fld T.f_0 (d_var 1)) (a_cons (d_fld T.f_1 (d_var 1)) (a_cons (d_fld T.f_2 (d_var 1)) (a_cons (d_fld T.f_3 (d_var 1)) a_nil))))) (nomark _)) (ss_one (s_retD d_bl)) ss_nil)
    (ss_cons (s_if (DW.dt (w_or (t_not (dt_tru (d_is .tuple (d_fld T.f_0 (d_var 3)) rfl T.b_isinstance rfl T.b_tuple PyProof.Rows.boot_tuple))) (w_or (t_not (dt_tru (d_is .tuple (d_fld T.f_2 (d_var 3)) rfl T.b_isinstance rfl T.b_tuple PyProof.Rows.boot_tuple))) (w_or1 (t_not (dt_tru (d_is .tuple (d_fld T.f_3 (d_var 3)) rfl T.b_isinstance rfl T.b_tuple PyProof.Rows.boot_tuple))))))) (ss_one (s_retD d_bl)) ss_nil)
    (ss_cons (s_for (passes_of rfl) rfl (i_tup (d_fld T.f_2 (d_var 3))) (g_name (i := 4) sc_law.nd) (ss_cons (s_if (DW.dt (w_or (t_not (dt_tru (d_is .tuple (d_var 4) rfl T.b_isinstance rfl T.b_tuple PyProof.Rows.boot_tuple))) (w_or1 (d_cmpT (op_neG hu) op2_ne (d_fz (d_call (fn_question T) (hr.mono (by decide)) rfl (takes_of rfl rfl rfl rfl) (a_cons (d_var 4) a_nil))) (d_slT (d_var 4) o_none (o_some (d_neg d_int))) (nomark _))))) (ss_one (s_retD d_bl)) ss_nil)
    (ss_one (s_if (DW.dt (w_and (d_cmpT (op_eqG hu) op2_eq (d_ix (d_var 4) d_int) (d_str rfl) (nomark _)) (w_and1 (t_not (dt_tru (d_is .bool (d_ix (d_var 4) d_int) rfl T.b_isinstance rfl T.b_bool PyProof.Rows.boot_bool)))))) (ss_one (s_retD d_bl)) ss_nil))))
    (ss_cons (s_set (i := 5) sc_law.nd (d_new (new_Record T) (hr.mono (by decide)) rfl (takes_of rfl rfl rfl rfl) (a_cons (d_fld T.f_0 (d_var 1)) (a_cons (d_op op_addA op2_add (d_fld T.f_1 (d_var 1)) d_int) (a_cons (d_fld T.f_2 (d_var 1)) (a_cons (d_fld T.f_3 (d_var 1)) a_nil))))))
    (ss_cons (s_set (i := 6) sc_law.nd (d_new (new_Record T) (hr.mono (by decide)) rfl (takes_of rfl rfl rfl rfl) (a_cons (d_fld T.f_0 (d_var 1)) (a_cons (d_fld T.f_1 (d_var 1)) (a_cons (d_op op_catA op2_catT (d_fld T.f_2 (d_var 1)) (d_tup (a_cons (d_tup (a_cons (d_str rfl) (a_cons (d_str rfl) (a_cons d_bl a_nil)))) a_nil))) (a_cons (d_fld T.f_3 (d_var 1)) a_nil))))))
    (ss_cons (s_set (i := 7) sc_law.nd (d_new (new_Record T) (hr.mono (by decide)) rfl (takes_of rfl rfl rfl rfl) (a_cons (d_op op_catA op2_catT (d_slT (d_fld T.f_0 (d_var 1)) (o_some d_int) o_none) (d_tup (a_cons (d_str rfl) a_nil))) (a_cons (d_fld T.f_1 (d_var 1)) (a_cons (d_fld T.f_2 (d_var 1)) (a_cons (d_fld T.f_3 (d_var 1)) a_nil))))))
    (ss_cons (s_set (i := 8) sc_law.nd (d_new (new_Record T) (hr.mono (by decide)) rfl (takes_of rfl rfl rfl rfl) (a_cons (d_fld T.f_0 (d_var 1)) (a_cons (d_fld T.f_1 (d_var 1)) (a_cons (d_fld T.f_2 (d_var 1)) (a_cons (d_op op_catA op2_catT (d_slT (d_fld T.f_3 (d_var 1)) (o_some d_int) o_none) (d_tup (a_cons (d_op op_addA op2_add (d_ix (d_fld T.f_3 (d_var 1)) d_int) d_int) a_nil))) a_nil))))))
    (ss_one (s_retD (d_and (d_neO (eqm_Record T) T.ec_5 (hr.mono (by decide)) (d_var 5) (d_var 1) (by with_unfolding_all rfl)) (d_and (d_neO (eqm_Record T) T.ec_5 (hr.mono (by decide)) (d_var 6) (d_var 1) (by with_unfolding_all rfl)) (d_and (d_neO (eqm_Record T) T.ec_5 (hr.mono (by decide)) (d_var 7) (d_var 1) (by with_unfolding_all rfl)) (d_one (d_neO (eqm_Record T) T.ec_5 (hr.mono (by decide)) (d_var 8) (d_var 1) (by with_unfolding_all rfl)))))))))))))))))))) (by rfl)
end Lk40
open PySem PySem.W PyProof.Rows
set_option maxRecDepth 100000 in
set_option maxHeartbeats 0 in
theorem PySem.Challenge.cw_kilnyard_k40_written_records_holds : PySem.Challenge.rw_kilnyard_k40_written_records.Holds := by
  w_on; o_law; k_head; (case hw => w_witness2)
  k_fill
  refine Dl.walk (l := PySem.Challenge.rw_kilnyard_k40_written_records) (k := 8) (x := "_law_script") rfl rfl ⟨rfl, by decide, by decide⟩ (fun w h Y => PySem.W.kIn_of Y) (fun w => by rfl) ?F
  case F =>
    intro w mg fa h KX G hmg
    refine Lk40.law_ok KX G hmg ?T
    case T =>
      refine' Lk40.tx_mk KX G ?g_Record ?pg_Record ?hd_Record ?po_Record ?sa_Record ?nf_Record_outputs ?nf_Record_rule_key ?nf_Record_needs ?nf_Record_results ?ca_Record ?sp_class ?ta_class ?mo_Record ?me_Record ?ex_Record ?eo_Record ?ee_Record ?en_Record ?eg_Record ?z_abs ?z_all ?z_bool ?z_enumerate ?z_int ?z_isinstance ?z_len ?z_list ?z_ord ?z_range ?z_str ?z_tuple ?v_BASE ?v_DIGITS ?v_IDENTIFIER_LIMIT ?v_LETTERS ?v_MOST_DIGITS ?v_MOST_NEEDS ?v_MOST_OUTPUTS ?v_NAME_CHARACTERS ?v_NAME_LIMIT ?v_PATH_LIMIT ?a_0 ?l_0 ?c_0 ?k_0 ?a_1 ?i_1 ?mk_Record ?kp_Record ?l_1 ?c_1 ?k_1 ?a_2 ?l_2 ?c_2 ?k_2 ?a_3 ?l_3 ?c_3 ?k_3 ?a_4 ?l_4 ?c_4 ?k_4 ?a_5 ?l_5 ?c_5 ?k_5 ?a_6 ?l_6 ?c_6 ?k_6 ?a_7 ?l_7 ?c_7 ?k_7 ?a_8 ?l_8 ?c_8 ?k_8 ?a_9 ?l_9 ?c_9 ?k_9 ?a_10 ?l_10 ?c_10 ?k_10 ?a_11 ?l_11 ?c_11 ?k_11 ?a_12 ?l_12 ?c_12 ?k_12 ?a_13 ?l_13 ?c_13 ?k_13 ?a_14 ?l_14 ?c_14 ?k_14 ?a_15 ?l_15 ?c_15 ?k_15 ?a_16 ?l_16 ?c_16 ?k_16 ?a_17 ?l_17 ?c_17 ?k_17 ?a_18 ?l_18 ?c_18 ?k_18 ?a_19 ?l_19 ?c_19 ?k_19 ?a_20 ?l_20 ?c_20 ?k_20 ?a_21 ?l_21 ?c_21 ?k_21 ?a_22 ?l_22 ?c_22 ?k_22 ?a_23 ?l_23 ?c_23 ?k_23 ?a_24 ?i_24 ?l_24 ?c_24 ?k_24 ?a_25 ?l_25 ?c_25 ?k_25 ?a_26 ?l_26 ?c_26 ?k_26 ?a_27 ?l_27 ?c_27 ?k_27 ?g_InvalidRecord ?x_InvalidRecord ?r_InvalidRecord ?sa_InvalidRecord ?sb_InvalidRecord ?ty_InvalidRecord ?kp_InvalidRecord ?u_InvalidRecord ?i_InvalidRecord ?v_InvalidRecord ?ff_InvalidRecord ?y_InvalidRecord ?l_InvalidRecord ?c_InvalidRecord ?d_InvalidRecord ?w_InvalidRecord ?p_InvalidRecord ?o_InvalidRecord ?qq_InvalidRecord ?z_super ?g_any ?nf_InvalidRecord_line
      (case g_Record => k_is)
      (case pg_Record => k_is)
      (case hd_Record => k_is)
      (case po_Record => k_is)
      (case sa_Record => k_is)
      (case nf_Record_outputs => k_is)
      (case nf_Record_rule_key => k_is)
      (case nf_Record_needs => k_is)
      (case nf_Record_results => k_is)
      (case ca_Record => k_is)
      (case sp_class => first | k_is | rfl | decide +kernel)
      (case ta_class => first | k_is | rfl | decide +kernel)
      (case mo_Record => first | k_is | rfl | decide +kernel)
      (case me_Record => first | k_is | kit_is | rfl)
      (case ex_Record => k_is)
      (case eo_Record => first | rfl | decide +kernel)
      (case ee_Record => k_is)
      (case en_Record => k_is)
      (case eg_Record => k_is)
      (case z_abs => k_is)
      (case z_all => k_is)
      (case z_bool => k_is)
      (case z_enumerate => k_is)
      (case z_int => k_is)
      (case z_isinstance => k_is)
      (case z_len => k_is)
      (case z_list => k_is)
      (case z_ord => k_is)
      (case z_range => k_is)
      (case z_str => k_is)
      (case z_tuple => k_is)
      (case v_BASE => k_is)
      (case v_DIGITS => k_is)
      (case v_IDENTIFIER_LIMIT => k_is)
      (case v_LETTERS => k_is)
      (case v_MOST_DIGITS => k_is)
      (case v_MOST_NEEDS => k_is)
      (case v_MOST_OUTPUTS => k_is)
      (case v_NAME_CHARACTERS => k_is)
      (case v_NAME_LIMIT => k_is)
      (case v_PATH_LIMIT => k_is)
      (case a_0 => k_is)
      (case l_0 => k_is)
      (case c_0 => k_is)
      (case k_0 => k_is)
      (case a_1 => k_is)
      (case i_1 => k_is)
      (case mk_Record => k_is)
      (case kp_Record => k_is)
      (case l_1 => k_is)
      (case c_1 => k_is)
      (case k_1 => k_is)
      (case a_2 => k_is)
      (case l_2 => k_is)
      (case c_2 => k_is)
      (case k_2 => k_is)
      (case a_3 => k_is)
      (case l_3 => k_is)
      (case c_3 => k_is)
      (case k_3 => k_is)
      (case a_4 => k_is)
      (case l_4 => k_is)
      (case c_4 => k_is)
      (case k_4 => k_is)
      (case a_5 => k_is)
      (case l_5 => k_is)
      (case c_5 => k_is)
      (case k_5 => k_is)
      (case a_6 => k_is)
      (case l_6 => k_is)
      (case c_6 => k_is)
      (case k_6 => k_is)
      (case a_7 => k_is)
      (case l_7 => k_is)
      (case c_7 => k_is)
      (case k_7 => k_is)
      (case a_8 => k_is)
      (case l_8 => k_is)
      (case c_8 => k_is)
      (case k_8 => k_is)
      (case a_9 => k_is)
      (case l_9 => k_is)
      (case c_9 => k_is)
      (case k_9 => k_is)
      (case a_10 => k_is)
      (case l_10 => k_is)
      (case c_10 => k_is)
      (case k_10 => k_is)
      (case a_11 => k_is)
      (case l_11 => k_is)
      (case c_11 => k_is)
      (case k_11 => k_is)
      (case a_12 => k_is)
      (case l_12 => k_is)
      (case c_12 => k_is)
      (case k_12 => k_is)
      (case a_13 => k_is)
      (case l_13 => k_is)
      (case c_13 => k_is)
      (case k_13 => k_is)
      (case a_14 => k_is)
      (case l_14 => k_is)
      (case c_14 => k_is)
      (case k_14 => k_is)
      (case a_15 => k_is)
      (case l_15 => k_is)
      (case c_15 => k_is)
      (case k_15 => k_is)
      (case a_16 => k_is)
      (case l_16 => k_is)
      (case c_16 => k_is)
      (case k_16 => k_is)
      (case a_17 => k_is)
      (case l_17 => k_is)
      (case c_17 => k_is)
      (case k_17 => k_is)
      (case a_18 => k_is)
      (case l_18 => k_is)
      (case c_18 => k_is)
      (case k_18 => k_is)
      (case a_19 => k_is)
      (case l_19 => k_is)
      (case c_19 => k_is)
      (case k_19 => k_is)
      (case a_20 => k_is)
      (case l_20 => k_is)
      (case c_20 => k_is)
      (case k_20 => k_is)
      (case a_21 => k_is)
      (case l_21 => k_is)
      (case c_21 => k_is)
      (case k_21 => k_is)
      (case a_22 => k_is)
      (case l_22 => k_is)
      (case c_22 => k_is)
      (case k_22 => k_is)
      (case a_23 => k_is)
      (case l_23 => k_is)
      (case c_23 => k_is)
      (case k_23 => k_is)
      (case a_24 => k_is)
      (case i_24 => k_is)
      (case l_24 => k_is)
      (case c_24 => k_is)
      (case k_24 => k_is)
      (case a_25 => k_is)
      (case l_25 => k_is)
      (case c_25 => k_is)
      (case k_25 => k_is)
      (case a_26 => k_is)
      (case l_26 => k_is)
      (case c_26 => k_is)
      (case k_26 => k_is)
      (case a_27 => k_is)
      (case l_27 => k_is)
      (case c_27 => k_is)
      (case k_27 => k_is)
      (case g_InvalidRecord => k_is)
      (case x_InvalidRecord => k_is)
      (case r_InvalidRecord => first | rfl | decide +kernel)
      (case sa_InvalidRecord => k_is)
      (case sb_InvalidRecord => k_is)
      (case ty_InvalidRecord => k_is)
      (case kp_InvalidRecord => k_is)
      (case u_InvalidRecord => k_is)
      (case i_InvalidRecord => ks_is)
      (case v_InvalidRecord => k_is)
      (case ff_InvalidRecord => k_is)
      (case y_InvalidRecord => k_is)
      (case l_InvalidRecord => k_is)
      (case c_InvalidRecord => k_is)
      (case d_InvalidRecord => k_is)
      (case w_InvalidRecord => rfl)
      (case p_InvalidRecord => first | rfl | decide +kernel)
      (case o_InvalidRecord => k_is)
      (case qq_InvalidRecord => k_is)
      (case z_super => k_is)
      (case g_any => k_is)
      (case nf_InvalidRecord_line => k_is)

